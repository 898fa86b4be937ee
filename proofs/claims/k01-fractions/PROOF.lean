import PyProof.Rows.All
import Wide.All
import OpenK.AllK
import Wide.FinOn
import HandS.ForMost
import HandS.Wide
import HandS.Gcd
import HandS.Defaults
import HandS.IsInst
import HandS.Style
import HandS.Ends
import HandS.HeadEnd
import HandS.RaiseMore
import KE.KStateDown
import HandS.HeadHook2
import HandS.Head2
import HandS.Head3
import HandS.Dict
import PySem.Challenge.RW_everygust_k01_fractions
set_option Elab.async false
set_option linter.all false
set_option maxRecDepth 100000
set_option maxHeartbeats 0
section part_DLa
/-! The data layer: what a piece of a def does, told of plain data. -/
namespace DL
open L2 PyProof.Rows PySem.Spec PySem

/-! ### heaps -/
def Ex (H H' : Hp) : Prop := ∀ a o, H a = some o → H' a = some o
theorem Ex.refl (H : Hp) : Ex H H := fun _ _ h => h
theorem Ex.trans {H H1 H2 : Hp} (a : Ex H H1) (b : Ex H1 H2) : Ex H H2 := fun x o h => b x o (a x o h)
theorem Ex.new {H : Hp} {p : Addr} {o : HO} (h : H p = none) : Ex H (upd H p o) := fun a u e => by
  rw [upd_ne (ne_of_none e h)]
  exact e
/-- both sides get the same object at p -/
theorem Ex.both {G H : Hp} {p : Addr} {o : HO} (e : Ex G H) : Ex (upd G p o) (upd H p o) := fun a u h => by
  by_cases q : a = p
  · subst q
    rw [upd_same] at h ⊢
    exact h
  · rw [upd_ne q] at h ⊢
    exact e a u h
theorem Ex.put {G H : Hp} {p : Addr} {o : HO} (e : Ex G H) (h : H p = some o) : Ex (upd G p o) H := fun a u q => by
  by_cases z : a = p
  · subst z
    rw [upd_same] at q
    rw [h]
    exact q
  · rw [upd_ne z] at q
    exact e a u q
/-- an object that G does not know may change -/
theorem Ex.mut {G H : Hp} {p : Addr} {o : HO} (e : Ex G H) (h : G p = none) : Ex G (upd H p o) := fun a u q => by
  rw [upd_ne (ne_of_none q h)]
  exact e a u q
theorem Ex.none {G H : Hp} {p : Addr} (e : Ex G H) (h : H p = none) : G p = none := by
  cases q : G p with
  | none => rfl
  | some o =>
    rw [e p o q] at h
    cases h
/-- G' is G and objects that F does not have -/
def Ext (F G G' : Hp) : Prop := Ex G G' ∧ ∀ a o, G' a = some o → G a = none → F a = none
theorem Ext.refl (F G : Hp) : Ext F G G := ⟨Ex.refl G, fun a o h n => by rw [n] at h; cases h⟩
theorem Ext.trans {F G G1 G2 : Hp} (a : Ext F G G1) (b : Ext F G1 G2) : Ext F G G2 := ⟨a.1.trans b.1, fun x o h n => by
  cases e : G1 x with
  | none => exact b.2 x o h e
  | some u => exact a.2 x u e n⟩
theorem Ext.weak {F F' G G' : Hp} (e : Ex F F') (h : Ext F' G G') : Ext F G G' := ⟨h.1, fun a o q n => e.none (h.2 a o q n)⟩
theorem Ext.new {F G : Hp} {p : Addr} {o : HO} (hF : F p = none) (hG : G p = none) : Ext F G (upd G p o) := ⟨Ex.new hG, fun a u h n => by
  by_cases q : a = p
  · rw [q]
    exact hF
  · rw [upd_ne q] at h
    rw [n] at h
    cases h⟩
/-- what G' does not gain -/
theorem Ext.none {F G G' : Hp} (h : Ext F G G') {a : Addr} {o : HO} (hF : F a = some o) (hG : G a = none) : G' a = none := by
  cases e : G' a with
  | none => rfl
  | some u =>
    have z := h.2 a u e hG
    rw [hF] at z
    cases z

theorem sqL_ex {K : PySem.W.Frag} {H H' : Hp} {a : Addr} {xs : List V} (e : Ex H H') (h : SqL K H a xs) : SqL K H' a xs := by
  rcases h with (h | ⟨o, h⟩) | h
  · exact .inl (.inl (e _ _ h))
  · exact .inl (.inr ⟨o, e _ _ h⟩)
  · exact .inr h
theorem sqT_ex {K : PySem.W.Frag} {H H' : Hp} {a : Addr} {xs : List V} (e : Ex H H') (h : SqT K H a xs) : SqT K H' a xs := by
  rcases h with (h | ⟨o, h⟩) | h
  · exact .inl (.inl (e _ _ h))
  · exact .inl (.inr ⟨o, e _ _ h⟩)
  · exact .inr h

/-! ### data in a heap -/
mutual
inductive Da (K : PySem.W.Frag) (H : Hp) : V → PyData → Prop
  | non : Da K H .non .none
  | bl (b : Bool) : Da K H (.bl b) (.bool b)
  | int (i : Int) : Da K H (.int i) (.int i)
  | str (x : Str) : Da K H (.str x) (.str x)
  | lst {a : Addr} {xs : List V} {ds : List PyData} : H a = some (.lst xs) → DaAll K H xs ds → Da K H (.ref a) (.list ds)
  | tup {a : Addr} {xs : List V} {ds : List PyData} : SqT K H a xs → DaAll K H xs ds → Da K H (.ref a) (.tuple ds)
  | dct {a : Addr} {kvs : List (Key × V)} {ds : List (PyData × PyData)} : H a = some (.dK kvs) → DaKvs K H kvs ds → Da K H (.ref a) (.dict ds)
inductive DaAll (K : PySem.W.Frag) (H : Hp) : List V → List PyData → Prop
  | nil : DaAll K H [] []
  | cons {v : V} {vs : List V} {d : PyData} {ds : List PyData} : Da K H v d → DaAll K H vs ds → DaAll K H (v :: vs) (d :: ds)
inductive DaKvs (K : PySem.W.Frag) (H : Hp) : List (Key × V) → List (PyData × PyData) → Prop
  | nil : DaKvs K H [] []
  | int {i : Int} {v : V} {d : PyData} {kvs : List (Key × V)} {ds : List (PyData × PyData)} : Da K H v d → DaKvs K H kvs ds → DaKvs K H ((Sum.inl i, v) :: kvs) ((.int i, d) :: ds)
  | str {x : Str} {v : V} {d : PyData} {kvs : List (Key × V)} {ds : List (PyData × PyData)} : Da K H v d → DaKvs K H kvs ds → DaKvs K H ((Sum.inr x, v) :: kvs) ((.str x, d) :: ds)
end
mutual
theorem da_ex {K : PySem.W.Frag} {H H' : Hp} (e : Ex H H') : ∀ {v : V} {d : PyData}, Da K H v d → Da K H' v d
  | _, _, .non => .non
  | _, _, .bl b => .bl b
  | _, _, .int i => .int i
  | _, _, .str x => .str x
  | _, _, .lst h1 h2 => .lst (e _ _ h1) (daAll_ex e h2)
  | _, _, .tup h1 h2 => .tup (sqT_ex e h1) (daAll_ex e h2)
  | _, _, .dct h1 h2 => .dct (e _ _ h1) (daKvs_ex e h2)
theorem daAll_ex {K : PySem.W.Frag} {H H' : Hp} (e : Ex H H') : ∀ {vs : List V} {ds : List PyData}, DaAll K H vs ds → DaAll K H' vs ds
  | _, _, .nil => .nil
  | _, _, .cons h1 h2 => .cons (da_ex e h1) (daAll_ex e h2)
theorem daKvs_ex {K : PySem.W.Frag} {H H' : Hp} (e : Ex H H') : ∀ {vs : List (Key × V)} {ds : List (PyData × PyData)}, DaKvs K H vs ds → DaKvs K H' vs ds
  | _, _, .nil => .nil
  | _, _, .int h1 h2 => .int (da_ex e h1) (daKvs_ex e h2)
  | _, _, .str h1 h2 => .str (da_ex e h1) (daKvs_ex e h2)
end
section
variable {K : PySem.W.Frag} {H : Hp}
theorem daAll_len : ∀ {vs : List V} {ds : List PyData}, DaAll K H vs ds → vs.length = ds.length
  | _, _, .nil => rfl
  | _, _, .cons _ h => congrArg (· + 1) (daAll_len h)
theorem daAll_get : ∀ {vs : List V} {ds : List PyData} {i : Nat} {d : PyData}, DaAll K H vs ds → ds[i]? = some d → ∃ v, vs[i]? = some v ∧ Da K H v d
  | _, _, i, d, .nil, e => by simp at e
  | _, _, 0, d, .cons h _, e => by
    simp at e
    subst e
    exact ⟨_, rfl, h⟩
  | _, _, i + 1, d, .cons _ t, e => by
    obtain ⟨v, h1, h2⟩ := daAll_get (i := i) t (by simpa using e)
    exact ⟨v, by simpa using h1, h2⟩
theorem daAll_getV : ∀ {vs : List V} {ds : List PyData} {i : Nat} {v : V}, DaAll K H vs ds → vs[i]? = some v → ∃ d, ds[i]? = some d ∧ Da K H v d
  | _, _, i, d, .nil, e => by simp at e
  | _, _, 0, d, .cons h _, e => by
    simp at e
    subst e
    exact ⟨_, rfl, h⟩
  | _, _, i + 1, d, .cons _ t, e => by
    obtain ⟨v, h1, h2⟩ := daAll_getV (i := i) t (by simpa using e)
    exact ⟨v, by simpa using h1, h2⟩
theorem daAll_app : ∀ {vs ws : List V} {ds es : List PyData}, DaAll K H vs ds → DaAll K H ws es → DaAll K H (vs ++ ws) (ds ++ es)
  | _, _, _, _, .nil, h => h
  | _, _, _, _, .cons h t, h2 => .cons h (daAll_app t h2)
theorem daAll_take : ∀ {vs : List V} {ds : List PyData} (n : Nat), DaAll K H vs ds → DaAll K H (vs.take n) (ds.take n)
  | _, _, 0, _ => .nil
  | _, _, n + 1, .nil => .nil
  | _, _, n + 1, .cons h t => .cons h (daAll_take n t)
theorem daAll_drop : ∀ {vs : List V} {ds : List PyData} (n : Nat), DaAll K H vs ds → DaAll K H (vs.drop n) (ds.drop n)
  | _, _, 0, h => h
  | _, _, n + 1, .nil => .nil
  | _, _, n + 1, .cons h t => daAll_drop n t
theorem daAll_rev {vs : List V} {ds : List PyData} (h : DaAll K H vs ds) : DaAll K H vs.reverse ds.reverse := by
  induction vs generalizing ds with
  | nil => cases h; exact .nil
  | cons v vs ih =>
    cases h with
    | cons h1 h2 =>
      rw [List.reverse_cons, List.reverse_cons]
      exact daAll_app (ih h2) (.cons h1 .nil)
theorem daAll_erase : ∀ {vs : List V} {ds : List PyData} (n : Nat), DaAll K H vs ds → DaAll K H (vs.eraseIdx n) (ds.eraseIdx n)
  | _, _, _, .nil => .nil
  | _, _, 0, .cons _ t => t
  | _, _, n + 1, .cons h t => .cons h (daAll_erase n t)
theorem daAll_set : ∀ {vs : List V} {ds : List PyData} {v : V} {d : PyData} (n : Nat), Da K H v d → DaAll K H vs ds → DaAll K H (vs.set n v) (ds.set n d)
  | _, _, _, _, _, _, .nil => .nil
  | _, _, _, _, 0, q, .cons _ t => .cons q t
  | _, _, _, _, n + 1, q, .cons h t => .cons h (daAll_set n q t)
theorem daAll_ints : ∀ (ns : List Int), DaAll K H (ns.map V.int) (ns.map PyData.int)
  | [] => .nil
  | n :: ns => .cons (.int n) (daAll_ints ns)
theorem ints_daAll : ∀ {vs : List V} {ns : List Int}, DaAll K H vs (ns.map PyData.int) → vs = ns.map V.int
  | _, [], h => by cases h; rfl
  | _, n :: ns, h => by
    cases h with
    | cons h1 h2 =>
      cases h1
      rw [ints_daAll h2]
      rfl
theorem bls_daAll : ∀ {vs : List V} {ns : List Bool}, DaAll K H vs (ns.map PyData.bool) → vs = ns.map V.bl
  | _, [], h => by cases h; rfl
  | _, n :: ns, h => by
    cases h with
    | cons h1 h2 =>
      cases h1
      rw [bls_daAll h2]
      rfl
theorem daAll_one {vs : List V} {d : PyData} (h : DaAll K H vs [d]) : ∃ v, vs = [v] ∧ Da K H v d := by
  cases h with
  | cons h1 h2 => cases h2; exact ⟨_, rfl, h1⟩
theorem daAll_two {vs : List V} {d e : PyData} (h : DaAll K H vs [d, e]) : ∃ v w, vs = [v, w] ∧ Da K H v d ∧ Da K H w e := by
  cases h with
  | cons h1 h2 =>
    obtain ⟨w, rfl, h3⟩ := daAll_one h2
    exact ⟨_, _, rfl, h1, h3⟩
end

/-! ### what the slots hold -/
/-- the law's source of numbers -/
structure Src where
  cells : List Int
  left : Int
  mixed : Int
  turn : Int
  more : List (Key × V) := []
def srcK (l : Addr) (t : Src) : List (Key × V) := (Sum.inr "cells", V.ref l) :: (Sum.inr "left", V.int t.left) :: (Sum.inr "mixed", V.int t.mixed) :: (Sum.inr "turn", V.int t.turn) :: t.more
structure SrcAt (H : Hp) (s l : Addr) (t : Src) : Prop where
  d : H s = some (.dK (srcK l t))
  c : H l = some (.lst (t.cells.map V.int))
inductive Sl where
  | un
  | dat (d : PyData)
  | own (ds : List PyData)
  | src (s l : Addr) (t : Src)
  | scr (ns : List Int)
def Hold (K : PySem.W.Frag) (G H : Hp) (o : Option (Option V)) (as : List Addr) : Sl → Prop
  | .un => True
  | .dat d => ∃ v, o = some (some v) ∧ Da K G v d
  | .own ds => ∃ l xs, o = some (some (.ref l)) ∧ l ∈ as ∧ H l = some (.lst xs) ∧ DaAll K G xs ds
  | .src s l t => o = some (some (.ref s)) ∧ s ∈ as ∧ l ∈ as ∧ SrcAt H s l t
  | .scr ns => ∃ a, o = some (some (.ref a)) ∧ SqL K G a (ns.map V.int)
/-- F: what stays as it is; G: what data lean on; H: the heap -/
structure Sta (K : PySem.W.Frag) (F G H : Hp) (σ : L2.St) (ρ : List Sl) (ad : Nat → List Addr) : Prop where
  gh : Ex G H
  fh : Ex F H
  own : ∀ i a, a ∈ ad i → G a = none ∧ F a = none
  there : ∀ i a, a ∈ ad i → ∃ o, H a = some o
  dis : ∀ i j a, a ∈ ad i → a ∈ ad j → i = j
  len : σ.length = ρ.length
  hold : ∀ i r, ρ[i]? = some r → Hold K G H (σ[i]?) (ad i) r

section
variable {K : PySem.W.Frag} {F F' G G' H H' : Hp} {σ : L2.St} {ρ : List Sl} {ad : Nat → List Addr} {i : Nat} {o : Option (Option V)} {as : List Addr} {r : Sl} {d : PyData} {ds : List PyData} {v : V} {l : Addr} {xs : List V}
theorem Hold.grow (h : Hold K G H o as r) (eg : Ex G G') (eh : ∀ a, a ∈ as → ∀ u, H a = some u → H' a = some u) : Hold K G' H' o as r := by
  cases r with
  | un => trivial
  | dat d =>
    obtain ⟨v, h1, h2⟩ := h
    exact ⟨v, h1, da_ex eg h2⟩
  | own ds =>
    obtain ⟨l, xs, h1, h2, h3, h4⟩ := h
    exact ⟨l, xs, h1, h2, eh l h2 _ h3, daAll_ex eg h4⟩
  | src s l t =>
    obtain ⟨h1, h2, h3, h4⟩ := h
    exact ⟨h1, h2, h3, eh s h2 _ h4.d, eh l h3 _ h4.c⟩
  | scr ns =>
    obtain ⟨a, h1, h2⟩ := h
    exact ⟨a, h1, sqL_ex eg h2⟩
theorem Hold.more (h : Hold K G H o as r) {bs : List Addr} (hb : ∀ a ∈ as, a ∈ bs) : Hold K G H o bs r := by
  cases r with
  | un => trivial
  | dat d => exact h
  | own ds =>
    obtain ⟨l, xs, h1, h2, h3, h4⟩ := h
    exact ⟨l, xs, h1, hb _ h2, h3, h4⟩
  | src s l t =>
    obtain ⟨h1, h2, h3, h4⟩ := h
    exact ⟨h1, hb _ h2, hb _ h3, h4⟩
  | scr ns => exact h
/-- the heap grows -/
theorem Sta.grow (w : Sta K F G H σ ρ ad) (eh : Ex H H') (eg : Ext H G G') (gh : Ex G' H') : Sta K F G' H' σ ρ ad where
  gh := gh
  fh := w.fh.trans eh
  own := fun i a h => by
    obtain ⟨o, ho⟩ := w.there i a h
    exact ⟨eg.none ho (w.own i a h).1, (w.own i a h).2⟩
  there := fun i a h => by
    obtain ⟨o, ho⟩ := w.there i a h
    exact ⟨o, eh a o ho⟩
  dis := w.dis
  len := w.len
  hold := fun i r h => (w.hold i r h).grow eg.1 fun a _ u q => eh a u q
theorem Sta.dat (w : Sta K F G H σ ρ ad) (h : ρ[i]? = some (.dat d)) : ∃ v, σ[i]? = some (some v) ∧ Da K G v d := w.hold i _ h
/-- slot i is set to data -/
theorem Sta.set (w : Sta K F G H σ ρ ad) (h : Da K G v d) (hr : i < ρ.length) : Sta K F G H (σ.set i (some v)) (ρ.set i (.dat d)) (fun j => if j = i then [] else ad j) where
  gh := w.gh
  fh := w.fh
  own := fun j a q => by
    by_cases e : j = i
    · rw [if_pos e] at q; cases q
    · rw [if_neg e] at q; exact w.own j a q
  there := fun j a q => by
    by_cases e : j = i
    · rw [if_pos e] at q; cases q
    · rw [if_neg e] at q; exact w.there j a q
  dis := fun j k a q1 q2 => by
    by_cases e : j = i
    · rw [if_pos e] at q1; cases q1
    · rw [if_neg e] at q1
      by_cases e2 : k = i
      · rw [if_pos e2] at q2; cases q2
      · rw [if_neg e2] at q2; exact w.dis j k a q1 q2
  len := by rw [List.length_set, List.length_set]; exact w.len
  hold := fun j r q => by
    have hi : i < σ.length := by rw [w.len]; exact hr
    by_cases e : j = i
    · subst e
      rw [List.getElem?_set_self (by
        have := (List.getElem?_eq_some_iff.mp q).1
        rw [List.length_set] at this
        exact this)] at q
      cases q
      rw [List.getElem?_set_self hi]
      exact ⟨v, rfl, h⟩
    · rw [List.getElem?_set_ne (Ne.symm e)] at q ⊢
      rw [if_neg e]
      exact w.hold j r q
/-- slot i is set to a list of one's own -/
theorem Sta.setO (w : Sta K F G H σ ρ ad) (hl : H l = some (.lst xs)) (hd : DaAll K G xs ds) (hF : F l = none) (hG : G l = none) (ha : ∀ j, l ∉ ad j) (hr : i < ρ.length) :
    Sta K F G H (σ.set i (some (.ref l))) (ρ.set i (.own ds)) (fun j => if j = i then [l] else ad j) where
  gh := w.gh
  fh := w.fh
  own := fun j a q => by
    by_cases e : j = i
    · rw [if_pos e] at q
      rw [List.mem_singleton.mp q]
      exact ⟨hG, hF⟩
    · rw [if_neg e] at q; exact w.own j a q
  there := fun j a q => by
    by_cases e : j = i
    · rw [if_pos e] at q
      rw [List.mem_singleton.mp q]
      exact ⟨_, hl⟩
    · rw [if_neg e] at q; exact w.there j a q
  dis := fun j k a q1 q2 => by
    by_cases e : j = i
    · rw [if_pos e] at q1
      by_cases e2 : k = i
      · rw [e, e2]
      · rw [if_neg e2] at q2
        rw [List.mem_singleton.mp q1] at q2
        exact absurd q2 (ha k)
    · rw [if_neg e] at q1
      by_cases e2 : k = i
      · rw [if_pos e2] at q2
        rw [List.mem_singleton.mp q2] at q1
        exact absurd q1 (ha j)
      · rw [if_neg e2] at q2; exact w.dis j k a q1 q2
  len := by rw [List.length_set, List.length_set]; exact w.len
  hold := fun j r q => by
    have hi : i < σ.length := by rw [w.len]; exact hr
    by_cases e : j = i
    · subst e
      rw [List.getElem?_set_self (by
        have := (List.getElem?_eq_some_iff.mp q).1
        rw [List.length_set] at this
        exact this)] at q
      cases q
      rw [List.getElem?_set_self hi, if_pos rfl]
      exact ⟨l, xs, rfl, List.mem_singleton.mpr rfl, hl, hd⟩
    · rw [List.getElem?_set_ne (Ne.symm e)] at q ⊢
      rw [if_neg e]
      exact w.hold j r q
/-- a list of one's own becomes data -/
theorem Sta.freeze (w : Sta K F G H σ ρ ad) (h : ρ[i]? = some (.own ds)) : ∃ (l : Addr) (G' : Hp), σ[i]? = some (some (.ref l)) ∧ Ext F G G' ∧ Da K G' (.ref l) (.list ds) ∧
    Sta K F G' H σ (ρ.set i (.dat (.list ds))) (fun j => if j = i then [] else ad j) := by
  obtain ⟨l, xs, h1, h2, h3, h4⟩ := w.hold i _ h
  obtain ⟨hG, hF⟩ := w.own i l h2
  have ex : Ext F G (upd G l (.lst xs)) := Ext.new hF hG
  have dd : Da K (upd G l (.lst xs)) (.ref l) (.list ds) := .lst upd_same (daAll_ex ex.1 h4)
  refine ⟨l, upd G l (.lst xs), h1, ex, dd, ?_⟩
  refine ⟨w.gh.put h3, w.fh, fun j a q => ?_, fun j a q => ?_, fun j k a q1 q2 => ?_, by rw [List.length_set]; exact w.len, fun j r q => ?_⟩
  · by_cases e : j = i
    · rw [if_pos e] at q; cases q
    · rw [if_neg e] at q
      have ne : a ≠ l := fun z => e (w.dis j i a q (by rw [z]; exact h2))
      exact ⟨by rw [upd_ne ne]; exact (w.own j a q).1, (w.own j a q).2⟩
  · by_cases e : j = i
    · rw [if_pos e] at q; cases q
    · rw [if_neg e] at q; exact w.there j a q
  · by_cases e : j = i
    · rw [if_pos e] at q1; cases q1
    · rw [if_neg e] at q1
      by_cases e2 : k = i
      · rw [if_pos e2] at q2; cases q2
      · rw [if_neg e2] at q2; exact w.dis j k a q1 q2
  · by_cases e : j = i
    · subst e
      rw [List.getElem?_set_self (List.getElem?_eq_some_iff.mp h).1] at q
      cases q
      exact ⟨_, h1, dd⟩
    · rw [List.getElem?_set_ne (Ne.symm e)] at q
      rw [if_neg e]
      exact (w.hold j r q).grow ex.1 fun a _ u z => z
/-- the own list at i is changed in place -/
theorem Sta.mutO {ys : List V} {es : List PyData} (w : Sta K F G H σ ρ ad) (h : ρ[i]? = some (.own ds)) (hl : σ[i]? = some (some (.ref l))) (hd : DaAll K G ys es) :
    Sta K F G (upd H l (.lst ys)) σ (ρ.set i (.own es)) ad := by
  obtain ⟨l', xs, h1, h2, h3, h4⟩ := w.hold i _ h
  have el : l' = l := by
    rw [hl] at h1
    cases h1
    rfl
  subst el
  obtain ⟨hG, hF⟩ := w.own i l' h2
  refine ⟨w.gh.mut hG, w.fh.mut hF, w.own, fun j a q => ?_, w.dis, by rw [List.length_set]; exact w.len, fun j r q => ?_⟩
  · by_cases e : a = l'
    · rw [e, upd_same]; exact ⟨_, rfl⟩
    · rw [upd_ne e]; exact w.there j a q
  · by_cases e : j = i
    · subst e
      rw [List.getElem?_set_self (List.getElem?_eq_some_iff.mp h).1] at q
      cases q
      exact ⟨l', ys, h1, h2, upd_same, hd⟩
    · rw [List.getElem?_set_ne (Ne.symm e)] at q
      refine (w.hold j r q).grow (Ex.refl G) fun a ha u z => ?_
      rw [upd_ne fun y => e (w.dis j i a ha (by rw [y]; exact h2))]
      exact z
theorem Sta.frame (w : Sta K F' G H σ ρ ad) (e : Ex F F') : Sta K F G H σ ρ ad := ⟨w.gh, e.trans w.fh, fun i a q => ⟨(w.own i a q).1, e.none (w.own i a q).2⟩, w.there, w.dis, w.len, w.hold⟩
theorem Sta.framed {D : Addr} {o : HO} (w : Sta K F G H σ ρ ad) (h : H D = some o) (hD : ∀ j, D ∉ ad j) : Sta K (upd F D o) G H σ ρ ad := ⟨w.gh, w.fh.put h, fun i a q => ⟨(w.own i a q).1, by
  rw [upd_ne (fun z => hD i (by rw [← z]; exact q))]
  exact (w.own i a q).2⟩, w.there, w.dis, w.len, w.hold⟩
theorem Sta.mutX {D : Addr} {o : HO} (w : Sta K F G H σ ρ ad) (hG : G D = none) (hF : F D = none) (hD : ∀ j, D ∉ ad j) : Sta K F G (upd H D o) σ ρ ad := ⟨w.gh.mut hG, w.fh.mut hF, w.own, fun i a q => by
  obtain ⟨u, hu⟩ := w.there i a q
  exact ⟨u, by rw [upd_ne (fun z => hD i (by rw [← z]; exact q))]; exact hu⟩, w.dis, w.len, fun i r q => (w.hold i r q).grow (Ex.refl G) fun a ha u z => by
  rw [upd_ne (fun y => hD i (by rw [← y]; exact ha))]
  exact z⟩
/-- forget -/
def Le (ρ ρ' : List Sl) : Prop := ρ.length = ρ'.length ∧ ∀ (i : Nat) (r : Sl), ρ'[i]? = some r → r = Sl.un ∨ ρ[i]? = some r
theorem Le.refl (ρ : List Sl) : Le ρ ρ := ⟨rfl, fun _ _ h => .inr h⟩
theorem Sta.le {ρ' : List Sl} (w : Sta K F G H σ ρ ad) (h : Le ρ ρ') : Sta K F G H σ ρ' ad :=
  ⟨w.gh, w.fh, w.own, w.there, w.dis, w.len.trans h.1, fun i r q => by
    rcases h.2 i r q with e | e
    · subst e; trivial
    · exact w.hold i r e⟩
theorem le_nil : Le [] [] := ⟨rfl, fun i r h => by simp at h⟩
theorem le_cons {a : Sl} {ρ' : List Sl} (h : Le ρ ρ') : Le (a :: ρ) (a :: ρ') := ⟨by rw [List.length_cons, List.length_cons, h.1], fun i r q => by
  cases i with
  | zero => exact .inr q
  | succ i => exact h.2 i r (by simpa using q)⟩
theorem le_un {a : Sl} {ρ' : List Sl} (h : Le ρ ρ') : Le (a :: ρ) (Sl.un :: ρ') := ⟨by rw [List.length_cons, List.length_cons, h.1], fun i r q => by
  cases i with
  | zero =>
    simp at q
    exact .inl q.symm
  | succ i => exact h.2 i r (by simpa using q)⟩
end
end DL
end part_DLa
section part_DLb
namespace DL
open L2 PyProof.Rows PySem.Spec PySem
/-! ### judgements -/
def cE (K : PySem.W.Frag) (ρ : List Sl) (d : PyData) (ρ' : List Sl) : TE := fun σ H Q => ∃ F G ad, Sta K F G H σ ρ ad ∧ ∀ v H' G' ad', Ext F G G' → Sta K F G' H' σ ρ' ad' → Da K G' v d → Q v H'
def cO (K : PySem.W.Frag) (ρ : List Sl) (ds : List PyData) (ρ' : List Sl) : TE := fun σ H Q => ∃ F G ad, Sta K F G H σ ρ ad ∧
  ∀ l xs H' G' ad', Ext F G G' → Sta K F G' H' σ ρ' ad' → F l = none → G' l = none → (∀ j, l ∉ ad' j) → H' l = some (.lst xs) → DaAll K G' xs ds → Q (.ref l) H'
def cT (K : PySem.W.Frag) (ρ : List Sl) (b : Bool) (ρ' : List Sl) : TT := fun σ H Q => ∃ F G ad, Sta K F G H σ ρ ad ∧ ∀ H' G' ad', Ext F G G' → Sta K F G' H' σ ρ' ad' → Q b H'
def cA (K : PySem.W.Frag) (ρ : List Sl) (ds : List PyData) (ρ' : List Sl) : TA := fun σ H Q => ∃ F G ad, Sta K F G H σ ρ ad ∧ ∀ vs H' G' ad', Ext F G G' → Sta K F G' H' σ ρ' ad' → DaAll K G' vs ds → Q vs H'
def E (X : Cx) (e : Expr) (ρ : List Sl) (d : PyData) (ρ' : List Sl) : Prop := PE X e (cE X.K ρ d ρ')
def EO (X : Cx) (e : Expr) (ρ : List Sl) (ds : List PyData) (ρ' : List Sl) : Prop := PE X e (cO X.K ρ ds ρ')
def T (X : Cx) (e : Expr) (ρ : List Sl) (b : Bool) (ρ' : List Sl) : Prop := PT X e (cT X.K ρ b ρ')
def EA (X : Cx) (es : List Expr) (ρ : List Sl) (ds : List PyData) (ρ' : List Sl) : Prop := PA X es (cA X.K ρ ds ρ')
theorem pe_imp {X : Cx} {e : Expr} {t t' : TE} (h : PE X e t) (k : ∀ σ H Q, t' σ H Q → t σ H Q) : PE X e t' := ⟨fun pins s σ H Q I q => h.run pins s σ H Q I (k σ H Q q)⟩
theorem pt_imp {X : Cx} {e : Expr} {t t' : TT} (h : PT X e t) (k : ∀ σ H Q, t' σ H Q → t σ H Q) : PT X e t' := ⟨fun pins s σ H Q I q => h.run pins s σ H Q I (k σ H Q q)⟩
theorem pw_imp {X : Cx} {e : Expr} {t t' : TT} (h : PW X e t) (k : ∀ σ H Q, t' σ H Q → t σ H Q) : PW X e t' := ⟨fun wh pins s σ H Q I q => h.run wh pins s σ H Q I (k σ H Q q)⟩
theorem pa_imp {X : Cx} {e : List Expr} {t t' : TA} (h : PA X e t) (k : ∀ σ H Q, t' σ H Q → t σ H Q) : PA X e t' := ⟨fun pos pins s σ H Q I q => h.run pos pins s σ H Q I (k σ H Q q)⟩

section
variable {X : Cx} {e a b c : Expr} {ρ ρ0 ρ1 ρ2 ρ3 : List Sl} {d d1 d2 d3 : PyData} {ds es : List PyData} {x : Str} {pos : Pos}
/-- the same, its value told otherwise -/
theorem E.to (h : E X e ρ d ρ1) (q : d = d2) : E X e ρ d2 ρ1 := by subst q; exact h
theorem EO.to (h : EO X e ρ ds ρ1) (q : ds = es) : EO X e ρ es ρ1 := by subst q; exact h
theorem T.to {p q : Bool} (h : T X e ρ p ρ1) (z : p = q) : T X e ρ q ρ1 := by subst z; exact h
theorem EA.to (h : EA X [e] ρ ds ρ1) (q : ds = es) : EA X [e] ρ es ρ1 := by subst q; exact h

theorem e_var (i : Nat) (h : ρ[i]? = some (.dat d) := by rfl) (hN : X.N[i]? = some x := by rfl) (hv : Vis X.env.scope x := by first | exact Or.inl rfl | exact Or.inr (Or.inl rfl) | exact Or.inr (Or.inr rfl))
    (hd : (x == ("__debug__" : Str)) = false := by decide) (hcd : (x == ("__classdict__" : Str)) = false := by decide) : E X (.Name x pos) ρ d ρ :=
  pe_imp (pe_var hN hv hd hcd) fun σ H Q ⟨F, G, ad, w, k⟩ => by
    obtain ⟨v, h1, h2⟩ := w.dat h
    exact ⟨v, h1, k v H G ad (Ext.refl F G) w h2⟩
/-- a list of one's own, read as data: it is data from then on -/
theorem e_varO (i : Nat) (h : ρ[i]? = some (.own ds) := by rfl) (hN : X.N[i]? = some x := by rfl) (hv : Vis X.env.scope x := by first | exact Or.inl rfl | exact Or.inr (Or.inl rfl) | exact Or.inr (Or.inr rfl))
    (hd : (x == ("__debug__" : Str)) = false := by decide) (hcd : (x == ("__classdict__" : Str)) = false := by decide) : E X (.Name x pos) ρ (.list ds) (ρ.set i (.dat (.list ds))) :=
  pe_imp (pe_var hN hv hd hcd) fun σ H Q ⟨F, G, ad, w, k⟩ => by
    obtain ⟨l, G', h1, h2, h3, h4⟩ := w.freeze h
    exact ⟨_, h1, k _ H G' _ h2 h4 h3⟩
theorem e_int {i : Int} {j : Nat} : E X (.Constant (.int i) j pos) ρ (.int i) ρ := pe_imp pe_int fun σ H Q ⟨F, G, ad, w, k⟩ => k _ H G ad (Ext.refl F G) w (.int i)
theorem e_bl {i : Bool} {j : Nat} : E X (.Constant (.bool i) j pos) ρ (.bool i) ρ := pe_imp pe_bl fun σ H Q ⟨F, G, ad, w, k⟩ => k _ H G ad (Ext.refl F G) w (.bl i)
theorem e_non {j : Nat} : E X (.Constant .none j pos) ρ .none ρ := pe_imp pe_non fun σ H Q ⟨F, G, ad, w, k⟩ => k _ H G ad (Ext.refl F G) w .non
theorem e_str {z : Str} {j : Nat} : E X (.Constant (.str z) j pos) ρ (.str z) ρ := pe_imp pe_str fun σ H Q ⟨F, G, ad, w, k⟩ => k _ H G ad (Ext.refl F G) w (.str z)
/-- a new list, read as data -/
theorem e_O (h : EO X e ρ ds ρ1) : E X e ρ (.list ds) ρ1 := pe_imp h fun σ H Q ⟨F, G, ad, w, k⟩ => ⟨F, G, ad, w, fun l xs H' G' ad' e w' hF hG hj hl hd => by
  have ex : Ext F G' (upd G' l (.lst xs)) := Ext.new hF hG
  refine k (.ref l) H' (upd G' l (.lst xs)) ad' (e.trans ex) ⟨w'.gh.put hl, w'.fh, fun i a q => ?_, w'.there, w'.dis, w'.len, fun i r q => (w'.hold i r q).grow ex.1 fun _ _ _ z => z⟩ (.lst upd_same (daAll_ex ex.1 hd))
  have ne : a ≠ l := fun z => hj i (by rw [← z]; exact q)
  exact ⟨by rw [upd_ne ne]; exact (w'.own i a q).1, (w'.own i a q).2⟩⟩

/-! ### operators, by values -/
def cOp (K : PySem.W.Frag) (d1 d2 d : PyData) : R2 := fun x y H Q => ∃ G, Ex G H ∧ Da K G x d1 ∧ Da K G y d2 ∧ ∀ v H' G', Ex H H' → Ext H G G' → Ex G' H' → Da K G' v d → Q v H'
def cOpO (K : PySem.W.Frag) (d1 d2 : PyData) (ds : List PyData) : R2 := fun x y H Q => ∃ G, Ex G H ∧ Da K G x d1 ∧ Da K G y d2 ∧
  ∀ l xs, H l = none → DaAll K G xs ds → Q (.ref l) (upd H l (.lst xs))
def OpV (X : Cx) (f : Value → Value → Sem Value) (d1 d2 d : PyData) : Prop := OpR X f (cOp X.K d1 d2 d)
def OpO (X : Cx) (f : Value → Value → Sem Value) (d1 d2 : PyData) (ds : List PyData) : Prop := OpR X f (cOpO X.K d1 d2 ds)
theorem op_imp {f : Value → Value → Sem Value} {r r' : R2} (h : OpR X f r) (k : ∀ x y H Q, r' x y H Q → r x y H Q) : OpR X f r' := fun pins s σ H x y v u Q I rx ry q => h pins s σ H x y v u Q I rx ry (k x y H Q q)
/-- what a two-place reading asks, from the parts -/
theorem two {ta tb : TE} {K : PySem.W.Frag} (ha : ta = cE K ρ d1 ρ1) (hb : tb = cE K ρ1 d2 ρ2) {r : R2} {σ : L2.St} {H : Hp} {Q : VK} (hr : ∀ x y H2 Q, cOp K d1 d2 d x y H2 Q → r x y H2 Q) (h : cE K ρ d ρ2 σ H Q) : tOp r ta tb σ H Q := by
  subst ha hb
  obtain ⟨F, G, ad, w, k⟩ := h
  refine ⟨F, G, ad, w, fun x H1 G1 ad1 e1 w1 p1 => ⟨F, G1, ad1, w1, fun y H2 G2 ad2 e2 w2 p2 => hr x y H2 Q ⟨G2, w2.gh, da_ex e2.1 p1, p2, fun v H' G' eh eg gh p => ?_⟩⟩⟩
  exact k v H' G' ad2 ((e1.trans e2).trans (eg.weak w2.fh)) (w2.grow eh eg gh) p
theorem e_bin {op : Operator} (ha : E X a ρ d1 ρ1) (hb : E X b ρ1 d2 ρ2) (ho : OpV X (binaryOp op) d1 d2 d) : E X (.BinOp a op b pos) ρ d ρ2 :=
  pe_imp (pe_op ho ha hb) fun σ H Q h => two rfl rfl (fun _ _ _ _ z => z) h
theorem eo_bin {op : Operator} (ha : E X a ρ d1 ρ1) (hb : E X b ρ1 d2 ρ2) (ho : OpO X (binaryOp op) d1 d2 ds) : EO X (.BinOp a op b pos) ρ ds ρ2 :=
  pe_imp (pe_op ho ha hb) fun σ H Q ⟨F, G, ad, w, k⟩ => ⟨F, G, ad, w, fun x H1 G1 ad1 e1 w1 p1 => ⟨F, G1, ad1, w1, fun y H2 G2 ad2 e2 w2 p2 => ⟨G2, w2.gh, da_ex e2.1 p1, p2, fun l xs hl hd => by
    have hg : G2 l = none := w2.gh.none hl
    refine k l xs _ G2 ad2 (e1.trans e2) ⟨w2.gh.mut hg, w2.fh.mut (w2.fh.none hl), w2.own, fun i a q => ?_, w2.dis, w2.len, fun i r q => (w2.hold i r q).grow (Ex.refl _) fun a ha u z => ?_⟩ (w2.fh.none hl) hg (fun j q => ?_) upd_same hd
    · obtain ⟨o, ho⟩ := w2.there i a q
      exact ⟨o, by rw [upd_ne (ne_of_none ho hl)]; exact ho⟩
    · rw [upd_ne (ne_of_none z hl)]; exact z
    · obtain ⟨o, ho⟩ := w2.there j l q
      rw [hl] at ho; cases ho⟩⟩⟩
theorem e_cmp {op : CmpOp} (ha : E X a ρ d1 ρ1) (hb : E X b ρ1 d2 ρ2) (ho : OpV X (compareOp op) d1 d2 d) (hm : behindInMarks op b = false := by first | exact nomark _ | rfl) : E X (.Compare a [op] [b] pos) ρ d ρ2 :=
  pe_imp (pe_cmpR ho ha hb hm) fun σ H Q h => two rfl rfl (fun _ _ _ _ z => z) h
theorem t_cmp {op : CmpOp} {p : Bool} (ha : E X a ρ d1 ρ1) (hb : E X b ρ1 d2 ρ2) (ho : OpV X (compareOp op) d1 d2 (.bool p)) (hm : behindInMarks op b = false := by first | exact nomark _ | rfl) : T X (.Compare a [op] [b] pos) ρ p ρ2 :=
  pt_imp (pt_cmpR ho ha hb hm) fun σ H Q ⟨F, G, ad, w, k⟩ => two rfl rfl (fun _ _ _ _ z => z) (show cE X.K ρ (.bool p) ρ2 σ H _ from ⟨F, G, ad, w, fun v H' G' ad' e w' q => by
    cases q
    exact ⟨p, rfl, k H' G' ad' e w'⟩⟩)
/-- a value that is True or False, as a test -/
theorem t_val {p : Bool} (h : E X e ρ (.bool p) ρ1) (he : ∀ whole, isTrue e X.env whole = (do let v ← whole; standAt e.pos; holding [v] (truthy v)) := by intro _; rfl) : T X e ρ p ρ1 :=
  pt_imp (pt_val h he) fun σ H Q ⟨F, G, ad, w, k⟩ => ⟨F, G, ad, w, fun v H' G' ad' e w' q => by
    cases q
    exact ⟨p, rfl, k H' G' ad' e w'⟩⟩
/-- the truth of data -/
def truD : PyData → Bool
  | .none => false
  | .bool b => b
  | .int i => i != 0
  | .str x => (x.length : Int) != 0
  | .list xs => !xs.isEmpty
  | .tuple xs => !xs.isEmpty
  | .dict xs => !xs.isEmpty
theorem truV_of {K : PySem.W.Frag} {G H : Hp} {v : V} {d : PyData} (h : Da K G v d) (e : Ex G H) (hs : ∀ x, d = .str x → x.length ≤ sizeLine := by intro _ h; cases h) : TruV K v H (truD d) := by
  cases h with
  | non => rfl
  | bl b => rfl
  | int i => rfl
  | str x => exact ⟨hs x rfl, rfl⟩
  | lst h1 h2 =>
    have := daAll_len h2
    refine .inl ⟨_, SqL.of (e _ _ h1), ?_⟩
    show (!_) = (!_)
    congr 1
    cases h2 <;> rfl
  | tup h1 h2 =>
    refine .inr (.inl ⟨_, sqT_ex e h1, ?_⟩)
    show (!_) = (!_)
    congr 1
    cases h2 <;> rfl
  | dct h1 h2 =>
    refine .inr (.inr ⟨_, e _ _ h1, ?_⟩)
    show (!_) = (!_)
    congr 1
    cases h2 <;> rfl
theorem t_tru (h : E X e ρ d ρ1) (he : ∀ whole, isTrue e X.env whole = (do let v ← whole; standAt e.pos; holding [v] (truthy v)) := by intro _; rfl) (hs : ∀ x, d = .str x → x.length ≤ sizeLine := by intro _ h; cases h) : T X e ρ (truD d) ρ1 :=
  pt_imp (pt_truth h he) fun σ H Q ⟨F, G, ad, w, k⟩ => ⟨F, G, ad, w, fun v H' G' ad' e w' q => ⟨_, truV_of q w'.gh hs, k H' G' ad' e w'⟩⟩
end
end DL
end part_DLb
section part_DLfn
/-! Defs whose promise is asked only where no repr is under way (guards = some []): the layer's FnOk with that premise. -/
namespace DL
open L2 PyProof.Rows PySem.Spec PySem
structure FnG (P : Program) (w : World) (K : PySem.W.Frag) (mg : Str → Option Value) (base : Heap) (CX : CXT) (k : Nat) (f : Addr) (fd : FuncData) (ps : List Str) (sp : Sp) : Prop where
  lenG : ∀ vs H Q E, sp vs H Q E → vs.length = ps.length
  runG : ∀ (A : Around) (outer : List Env) (s : Shared) (H : Hp) (args : Args) (us : List Value) (vs : List V) (Q : VK) (E : XK), Room k A → A.guards = some [] → Env0 P w K mg base A outer s H → BindsTo s fd args (ps.zip us) → Vals vs us → sp vs H Q E → codeAny (model P w) A (.call (.ref f) args) (CR CX outer P w H s Q E) s
section
variable {P : Program} {w : World} {K : PySem.W.Frag} {mg : Str → Option Value} {base : Heap} {CX : CXT} {k : Nat} {f : Addr} {fd : FuncData} {ps N : List Str} {sp : Sp}
theorem FnG.mono {j : Nat} (F : FnG P w K mg base CX j f fd ps sp) (h : j ≤ k) : FnG P w K mg base CX k f fd ps sp := ⟨F.lenG, fun A outer s H args us vs Q E hr => F.runG A outer s H args us vs Q E (hr.mono h)⟩
theorem FnG.imp {sp2 : Sp} (F : FnG P w K mg base CX k f fd ps sp) (h : ∀ vs H Q E, sp2 vs H Q E → sp vs H Q E) : FnG P w K mg base CX k f fd ps sp2 := ⟨fun vs H Q E q => F.lenG vs H Q E (h _ _ _ _ q), fun A outer s H args us vs Q E r g e b v q => F.runG A outer s H args us vs Q E r g e b v (h _ _ _ _ q)⟩
/-- a body that keeps its promise -/
theorem fnG_of {x qual : Str} {params : Arguments} {body : List Stmt} {scope : Scope} {dvs : List V} {kws : List (Str × V)} (F : FunD K x qual params body scope dvs kws f fd) (S : FnScope N ps scope) (len : ∀ vs H Q E, sp vs H Q E → vs.length = ps.length)
    (hbody : ∀ (cdv : Value) (A : Around) (outer : List Env) (s : Shared) (H : Hp) (vs : List V) (Q : VK) (E : XK), Room k (A.deeper (envOfC qual scope s.heap.objs.size f cdv)) → A.guards = some [] → sp vs H Q E →
      ∃ t, PSs (cxOf CX P w K mg base N qual scope f cdv A outer s H E) body t ∧ t { nx := fun _ H' => Q .non H', rt := Q } (L2.start N vs) H) : FnG P w K mg base CX (k + 1) f fd ps sp := by
  obtain ⟨oc, od, dV, kV, doc, pm, an, cdv, ct, osl, rfl, lk, hcd, hdf, hkw⟩ := F.ex
  refine ⟨len, fun A outer s H args us vs Q E hr hgd e0 hb rv hsp => ?_⟩
  have KX : K.In s.heap := e0.mod.kin.keeps (fun b o e => (e0.bs b o e).1)
  have lim := e0.mod.nolimit.keeps (h' := s.heap) (fun b o e => (e0.bs b o e).1)
  refine codeAny_call_function (hr.depth) (KX _ _ lk) rfl S.co S.gen rfl (PySem.W.codeRec_of KX hcd) (hb _ _ _ _ (wpAny_newFunctionEnv_cells S.kind (fun ⟨n, v⟩ hy => ?_) fun env he s1 ic => ?_))
  · rcases S.par n (List.of_mem_zip hy).1 with q | q
    · left; exact q
    · right; exact ⟨q, PySem.W.cellsFrom_some _ _ _ (.inl q)⟩
  · subst he
    obtain ⟨t, ht, hq⟩ := hbody cdv A outer s H vs Q E (hr.deeper _) hgd hsp
    have I0 : Inv (cxOf CX P w K mg base N qual scope f cdv A outer s H E) [] (L2.start N vs) H s1 := inv_start S hr.hd e0 (len _ _ _ _ hsp) rv ic
    have out : ∀ {s' : Shared} {σ' : L2.St} {H' : Hp} {v : V} {u : Value}, Inv (cxOf CX P w K mg base N qual scope f cdv A outer s H E) [] σ' H' s' → RelV v u → Q v H' → CE outer P w H s Q u s' := fun {s' σ' H' v u} J r q => ⟨v, H', J.os, J.bare, J.base, J.hok, r, q⟩
    refine ⟨lim.keeps ic.toInCall.keep, codeAny_func (wpAny_mono (ht.run [] s1 (L2.start N vs) H _ I0 hq) (fun fl s' z => ?_) fun e s' z => z)⟩
    match fl, z with
    | .ret u, ⟨v, σ', H', J, r, q⟩ => exact out J r q
    | .next, ⟨σ', H', J, q⟩ => exact out (v := .non) (u := .none) J rfl q
    | .brk, ⟨_, _, _, q⟩ => exact q.elim
    | .cont, ⟨_, _, _, q⟩ => exact q.elim
end
section
variable {X : Cx} {CX : CXT} {k : Nat} {f : Addr} {fd : FuncData} {ps : List Str} {sp : Sp} {dvs : List V} {ds : List Value} {E : XK} {x : Str} {p pos : Pos} {e : Expr} {es : List Expr} {t : TA}
theorem runG {pins : List (Addr × Obj)} {σ : L2.St} {H : Hp} {s : Shared} {Q : VK} {us : List Value} {vs : List V} (F : FnG X.prog X.w X.K X.mg X.base CX k f fd ps sp) (hr : Room k X.A) (hgd : X.A.guards = some []) (hb : Binds X.K fd ps ds) (hd : Vals dvs ds) (hx : Passes CX X E)
    (I : Inv X pins σ H s) (r : Vals vs us) (h : sp (vs ++ dvs) H Q E) : wpAny (model X.prog X.w) X.A (call (.ref f) us) (EP X pins σ Q) X.xe s := by
  have r2 := r.append hd
  have hl : (us ++ ds).length = ps.length := r2.length.symm.trans (F.lenG _ _ _ _ h)
  refine wpAny_call (codeAny_mono (F.runG X.A X.stack s H ⟨us, []⟩ _ _ Q E hr hgd I.env0 (hb s us I.kIn hl) r2 h) fun res s' z => ?_)
  match res, z with
  | .error e, z => exact hx pins σ H s e s' I z
  | .ok (.ret u), z => exact I.after z
  | .ok .next, z => exact z.elim
  | .ok .brk, z => exact z.elim
  | .ok .cont, z => exact z.elim
/-- f(e, ..) -/
theorem pe_callG (F : FnG X.prog X.w X.K X.mg X.base CX k f fd ps sp) (hr : Room k X.A) (hgd : X.A.guards = some []) (hg : Gl X x) (hm : X.mg x = some (.ref f)) (hk : PySem.W.keepIn X.K (.ref f) = true) (hb : Binds X.K fd ps ds) (hd : Vals dvs ds) (hx : Passes CX X E)
    (ha : PA X (e :: es) t) (hdb : (x == ("__debug__" : Str)) = false := by decide) (he : starEach (e :: es) X.env = (false, eval e X.env) :: starEach es X.env := by rfl) (hpl : (backTo pos (starEach es X.env)).any (·.1) = false := by rfl) : PE X (.Call (.Name x p) (e :: es) [] pos) (tCall sp dvs E t) :=
  ⟨fun pins s σ H Q I h => wpAny_Call_Name_kw (ld_glob I hg hm (PySem.W.callWith_K (h₀ := X.base) I.ok.mod.kin hk (thn (ha.run pos pins s σ H _ I h) fun us s1 ⟨vs, H1, I1, r, q⟩ => ⟨I1.kIn, runG F hr hgd hb hd hx I1 r q⟩) he hpl) hdb)⟩
/-- f() -/
theorem pe_callG0 (F : FnG X.prog X.w X.K X.mg X.base CX k f fd ps sp) (hr : Room k X.A) (hgd : X.A.guards = some []) (hg : Gl X x) (hm : X.mg x = some (.ref f)) (hk : PySem.W.keepIn X.K (.ref f) = true) (hb : Binds X.K fd ps ds) (hd : Vals dvs ds) (hx : Passes CX X E)
    (hdb : (x == ("__debug__" : Str)) = false := by decide) : PE X (.Call (.Name x p) [] [] pos) (tCall sp dvs E tNil) :=
  ⟨fun pins s σ H Q I h => wpAny_Call_Name_kw (ld_glob I hg hm (PySem.W.callWith_K0 I.kIn hk (runG (us := []) F hr hgd hb hd hx I .nil h)) hdb)⟩
end
end DL
end part_DLfn
section part_DLc
namespace DL
open L2 PyProof.Rows PySem.Spec PySem
section
variable {X : Cx} {e a b c : Expr} {rest : List Expr} {ρ ρ0 ρ1 ρ2 ρ3 : List Sl} {d d1 d2 d3 : PyData} {ds es : List PyData} {x : Str} {pos : Pos} {p q : Bool}
/-! ### tests -/
theorem t_not (h : T X a ρ p ρ1) : T X (.UnaryOp .Not a pos) ρ (!p) ρ1 := pt_imp (pt_not h) fun σ H Q ⟨F, G, ad, w, k⟩ => ⟨F, G, ad, w, fun H' G' ad' e w' => k H' G' ad' e w'⟩
def TW (X : Cx) (e : Expr) (ρ : List Sl) (b : Bool) (ρ' : List Sl) : Prop := PW X e (cT X.K ρ b ρ')
theorem tw_and1 (h : T X a ρ p ρ1) : TW X (.BoolOp .And [a] pos) ρ p ρ1 := pw_and1 h
theorem tw_or1 (h : T X a ρ p ρ1) : TW X (.BoolOp .Or [a] pos) ρ p ρ1 := pw_or1 h
/-- any reading that holds -/
def anyT (X : Cx) (e : Expr) : TT := fun σ H Q => ∃ ρ b ρ', T X e ρ b ρ' ∧ cT X.K ρ b ρ' σ H Q
theorem anyT_ok : PT X e (anyT X e) := ⟨fun pins s σ H Q I ⟨ρ, b, ρ', h, k⟩ => h.run pins s σ H Q I k⟩
def anyW (X : Cx) (e : Expr) : TT := fun σ H Q => ∃ ρ b ρ', TW X e ρ b ρ' ∧ cT X.K ρ b ρ' σ H Q
theorem anyW_ok : PW X e (anyW X e) := ⟨fun wh pins s σ H Q I ⟨ρ, b, ρ', h, k⟩ => h.run wh pins s σ H Q I k⟩
def anyE (X : Cx) (e : Expr) : TE := fun σ H Q => ∃ ρ d ρ', E X e ρ d ρ' ∧ cE X.K ρ d ρ' σ H Q
theorem anyE_ok : PE X e (anyE X e) := ⟨fun pins s σ H Q I ⟨ρ, b, ρ', h, k⟩ => h.run pins s σ H Q I k⟩
theorem tw_and (ha : T X a ρ p ρ1) (hb : p = true → TW X (.BoolOp .And (b :: rest) pos) ρ1 q ρ2) (h0 : p = false → ρ2 = ρ1) : TW X (.BoolOp .And (a :: b :: rest) pos) ρ (p && q) ρ2 :=
  pw_imp (pw_and ha anyW_ok) fun σ H Q ⟨F, G, ad, w, k⟩ => ⟨F, G, ad, w, fun H1 G1 ad1 e1 w1 => by
    cases p with
    | true => exact ⟨ρ1, q, ρ2, hb rfl, F, G1, ad1, w1, fun H2 G2 ad2 e2 w2 => k H2 G2 ad2 (e1.trans e2) w2⟩
    | false =>
      have e := h0 rfl
      subst e
      exact k H1 G1 ad1 e1 w1⟩
theorem tw_or (ha : T X a ρ p ρ1) (hb : p = false → TW X (.BoolOp .Or (b :: rest) pos) ρ1 q ρ2) (h0 : p = true → ρ2 = ρ1) : TW X (.BoolOp .Or (a :: b :: rest) pos) ρ (p || q) ρ2 :=
  pw_imp (pw_or ha anyW_ok) fun σ H Q ⟨F, G, ad, w, k⟩ => ⟨F, G, ad, w, fun H1 G1 ad1 e1 w1 => by
    cases p with
    | false => exact ⟨ρ1, q, ρ2, hb rfl, F, G1, ad1, w1, fun H2 G2 ad2 e2 w2 => k H2 G2 ad2 (e1.trans e2) w2⟩
    | true =>
      have e := h0 rfl
      subst e
      exact k H1 G1 ad1 e1 w1⟩
theorem t_w (h : TW X e ρ p ρ1) : T X e ρ p ρ1 := PW.pt h
/-- .. as values -/
theorem e_one {op} (h : E X a ρ d ρ1) : E X (.BoolOp op [a] pos) ρ d ρ1 := pe_one h
theorem e_and (ha : E X a ρ (.bool p) ρ1) (hb : p = true → E X (.BoolOp .And (b :: rest) pos) ρ1 d ρ2) (h0 : p = false → d = .bool false ∧ ρ2 = ρ1) : E X (.BoolOp .And (a :: b :: rest) pos) ρ d ρ2 :=
  pe_imp (pe_and ha anyE_ok) fun σ H Q ⟨F, G, ad, w, k⟩ => ⟨F, G, ad, w, fun v H1 G1 ad1 e1 w1 pv => by
    cases pv
    refine ⟨p, rfl, ?_⟩
    cases p with
    | true => exact ⟨ρ1, d, ρ2, hb rfl, F, G1, ad1, w1, fun v H2 G2 ad2 e2 w2 p2 => k v H2 G2 ad2 (e1.trans e2) w2 p2⟩
    | false =>
      obtain ⟨e, f⟩ := h0 rfl
      subst e f
      exact k _ H1 G1 ad1 e1 w1 (.bl false)⟩
theorem e_or (ha : E X a ρ (.bool p) ρ1) (hb : p = false → E X (.BoolOp .Or (b :: rest) pos) ρ1 d ρ2) (h0 : p = true → d = .bool true ∧ ρ2 = ρ1) : E X (.BoolOp .Or (a :: b :: rest) pos) ρ d ρ2 :=
  pe_imp (pe_or ha anyE_ok) fun σ H Q ⟨F, G, ad, w, k⟩ => ⟨F, G, ad, w, fun v H1 G1 ad1 e1 w1 pv => by
    cases pv
    refine ⟨p, rfl, ?_⟩
    cases p with
    | false => exact ⟨ρ1, d, ρ2, hb rfl, F, G1, ad1, w1, fun v H2 G2 ad2 e2 w2 p2 => k v H2 G2 ad2 (e1.trans e2) w2 p2⟩
    | true =>
      obtain ⟨e, f⟩ := h0 rfl
      subst e f
      exact k _ H1 G1 ad1 e1 w1 (.bl true)⟩
theorem e_not (h : E X a ρ (.bool p) ρ1) : E X (.UnaryOp .Not a pos) ρ (.bool (!p)) ρ1 := pe_imp (pe_not h) fun σ H Q ⟨F, G, ad, w, k⟩ => ⟨F, G, ad, w, fun v H' G' ad' e w' pv => by
  cases pv
  exact ⟨p, rfl, k _ H' G' ad' e w' (.bl _)⟩⟩
theorem e_if (hc : T X c ρ p ρ1) (ha : p = true → E X a ρ1 d ρ2) (hb : p = false → E X b ρ1 d ρ2) : E X (.IfExp c a b pos) ρ d ρ2 :=
  pe_imp (pe_ifExp hc anyE_ok anyE_ok) fun σ H Q ⟨F, G, ad, w, k⟩ => ⟨F, G, ad, w, fun H1 G1 ad1 e1 w1 => by
    cases p with
    | true => exact ⟨ρ1, d, ρ2, ha rfl, F, G1, ad1, w1, fun v H2 G2 ad2 e2 w2 p2 => k v H2 G2 ad2 (e1.trans e2) w2 p2⟩
    | false => exact ⟨ρ1, d, ρ2, hb rfl, F, G1, ad1, w1, fun v H2 G2 ad2 e2 w2 p2 => k v H2 G2 ad2 (e1.trans e2) w2 p2⟩⟩
/-! ### arguments, displays -/
theorem ea_nil : EA X [] ρ [] ρ := pa_imp pa_nil fun σ H Q ⟨F, G, ad, w, k⟩ => k [] H G ad (Ext.refl F G) w .nil
theorem ea_cons (ha : E X e ρ d ρ1) (hr : EA X rest ρ1 ds ρ2) (hs : starEach (e :: rest) X.env = (false, eval e X.env) :: starEach rest X.env := by rfl) : EA X (e :: rest) ρ (d :: ds) ρ2 :=
  pa_imp (pa_cons ha hr hs) fun σ H Q ⟨F, G, ad, w, k⟩ => ⟨F, G, ad, w, fun v H1 G1 ad1 e1 w1 p1 => ⟨F, G1, ad1, w1, fun vs H2 G2 ad2 e2 w2 p2 => k (v :: vs) H2 G2 ad2 (e1.trans e2) w2 (.cons (da_ex e2.1 p1) p2)⟩⟩
theorem sizeLine_big : 1000000 ≤ sizeLine := by rw [sizeLine_eq]; decide
theorem e_tup {k : Nat} (h : EA X rest ρ ds ρ1) (hz : ds.length ≤ 1000000 := by exact Nat.le_of_ble_eq_true rfl) : E X (.Tuple rest k pos) ρ (.tuple ds) ρ1 :=
  pe_imp (pe_tup h) fun σ H Q ⟨F, G, ad, w, k⟩ => ⟨F, G, ad, w, fun vs H1 G1 ad1 e1 w1 p1 => ⟨by rw [daAll_len p1]; exact Nat.le_trans hz sizeLine_big, fun l hl => by
    have hg := w1.gh.none hl
    exact k (.ref l) _ (upd G1 l (.tup vs)) ad1 (e1.trans (Ext.new (w1.fh.none hl) hg)) (w1.grow (Ex.new hl) (Ext.new hl hg) w1.gh.both) (.tup (SqT.of upd_same) (daAll_ex (Ex.new hg) p1))⟩⟩
theorem eo_lst (h : EA X rest ρ ds ρ1) (hz : ds.length ≤ 1000000 := by exact Nat.le_of_ble_eq_true rfl) : EO X (.List rest pos) ρ ds ρ1 :=
  pe_imp (pe_lst h) fun σ H Q ⟨F, G, ad, w, k⟩ => ⟨F, G, ad, w, fun vs H1 G1 ad1 e1 w1 p1 => ⟨by rw [daAll_len p1]; exact Nat.le_trans hz sizeLine_big, fun l hl => by
    have hg := w1.gh.none hl
    refine k l vs _ G1 ad1 e1 (w1.grow (Ex.new hl) (Ext.refl _ _) (w1.gh.mut hg)) (w1.fh.none hl) hg (fun j q => ?_) upd_same p1
    obtain ⟨o, ho⟩ := w1.there j l q
    rw [hl] at ho; cases ho⟩⟩

/-! ### calls by values -/
def cC (K : PySem.W.Frag) (ds : List PyData) (d : PyData) : List V → Hp → VK → Prop := fun vs H Q => ∃ G, Ex G H ∧ DaAll K G vs ds ∧ ∀ v H' G', Ex H H' → Ext H G G' → Ex G' H' → Da K G' v d → Q v H'
def cCO (K : PySem.W.Frag) (ds : List PyData) (es : List PyData) : List V → Hp → VK → Prop := fun vs H Q => ∃ G, Ex G H ∧ DaAll K G vs ds ∧
  ∀ l xs H' G', Ex H H' → Ext H G G' → Ex G' H' → H l = none → G' l = none → H' l = some (.lst xs) → DaAll K G' xs es → Q (.ref l) H'
def CV (X : Cx) (f : Value) (ds : List PyData) (d : PyData) : Prop := CallR X f (cC X.K ds d)
def CO (X : Cx) (f : Value) (ds es : List PyData) : Prop := CallR X f (cCO X.K ds es)
theorem call_imp {f : Value} {r r' : List V → Hp → VK → Prop} (h : CallR X f r) (k : ∀ vs H Q, r' vs H Q → r vs H Q) : CallR X f r' := fun pins s σ H vs us Q I rx q => h pins s σ H vs us Q I rx (k vs H Q q)
theorem callD {K : PySem.W.Frag} {σ : L2.St} {H : Hp} {Q : VK} (h : cE K ρ d ρ1 σ H Q) : cA K ρ ds ρ1 σ H fun vs H1 => (∃ F G ad, Sta K F G H1 σ ρ1 ad) → cC K ds d vs H1 Q := by
  obtain ⟨F, G, ad, w, k⟩ := h
  exact ⟨F, G, ad, w, fun vs H1 G1 ad1 e1 w1 p1 _ => ⟨G1, w1.gh, p1, fun v H' G' eh eg gh p => k v H' G' ad1 (e1.trans (eg.weak w1.fh)) (w1.grow eh eg gh) p⟩⟩
theorem callD' {K : PySem.W.Frag} {σ : L2.St} {H : Hp} {Q : VK} (h : cE K ρ d ρ1 σ H Q) : cA K ρ ds ρ1 σ H fun vs H1 => cC K ds d vs H1 Q := by
  obtain ⟨F, G, ad, w, k⟩ := h
  exact ⟨F, G, ad, w, fun vs H1 G1 ad1 e1 w1 p1 => ⟨G1, w1.gh, p1, fun v H' G' eh eg gh p => k v H' G' ad1 (e1.trans (eg.weak w1.fh)) (w1.grow eh eg gh) p⟩⟩
theorem callO' {K : PySem.W.Frag} {σ : L2.St} {H : Hp} {Q : VK} (h : cO K ρ es ρ1 σ H Q) : cA K ρ ds ρ1 σ H fun vs H1 => cCO K ds es vs H1 Q := by
  obtain ⟨F, G, ad, w, k⟩ := h
  refine ⟨F, G, ad, w, fun vs H1 G1 ad1 e1 w1 p1 => ⟨G1, w1.gh, p1, fun l xs H' G' eh eg gh hl hg' hl' hd => ?_⟩⟩
  refine k l xs H' G' ad1 (e1.trans (eg.weak w1.fh)) (w1.grow eh eg gh) (w1.fh.none hl) hg' (fun j q => ?_) hl' hd
  obtain ⟨o, ho⟩ := w1.there j l q
  rw [hl] at ho; cases ho
theorem e_callB {id : String} {pn : Pos} (h : EA X (e :: rest) ρ ds ρ1) (hc : CV X (.builtin id) ds d) (hm : X.mg x = none) (hg : Gl X x := by rfl) (hv : bootBuiltins x = some (.builtin id) := by decide +kernel) (hn : x ≠ "__name__" := by decide) (hdb : (x == ("__debug__" : Str)) = false := by decide)
    (he : starEach (e :: rest) X.env = (false, eval e X.env) :: starEach rest X.env := by rfl) (hpl : (backTo pos (starEach rest X.env)).any (·.1) = false := by rfl) : E X (.Call (.Name x pn) (e :: rest) [] pos) ρ d ρ1 :=
  pe_imp (pe_callB hc hg hm hv h hn hdb he hpl) fun σ H Q h => callD' h
theorem e_callTy {id : String} {pn : Pos} (h : EA X (e :: rest) ρ ds ρ1) (hc : CV X (.type id) ds d) (hm : X.mg x = none) (hg : Gl X x := by rfl) (hv : bootBuiltins x = some (.type id) := by decide +kernel) (hn : x ≠ "__name__" := by decide) (hdb : (x == ("__debug__" : Str)) = false := by decide)
    (he : starEach (e :: rest) X.env = (false, eval e X.env) :: starEach rest X.env := by rfl) (hpl : (backTo pos (starEach rest X.env)).any (·.1) = false := by rfl) : E X (.Call (.Name x pn) (e :: rest) [] pos) ρ d ρ1 :=
  pe_imp (pe_callTy hc hg hm hv h hn hdb he hpl) fun σ H Q h => callD' h
theorem eo_callTy {id : String} {pn : Pos} (h : EA X (e :: rest) ρ ds ρ1) (hc : CO X (.type id) ds es) (hm : X.mg x = none) (hg : Gl X x := by rfl) (hv : bootBuiltins x = some (.type id) := by decide +kernel) (hn : x ≠ "__name__" := by decide) (hdb : (x == ("__debug__" : Str)) = false := by decide)
    (he : starEach (e :: rest) X.env = (false, eval e X.env) :: starEach rest X.env := by rfl) (hpl : (backTo pos (starEach rest X.env)).any (·.1) = false := by rfl) : EO X (.Call (.Name x pn) (e :: rest) [] pos) ρ es ρ1 :=
  pe_imp (pe_callTy hc hg hm hv h hn hdb he hpl) fun σ H Q h => callO' h
/-- a built-in that the module has imported by this name (gcd) -/
theorem e_callF {id : String} {pn : Pos} (h : EA X (e :: rest) ρ ds ρ1) (hc : CV X (.builtin id) ds d) (hm : X.mg x = some (.builtin id)) (hg : Gl X x := by rfl) (hdb : (x == ("__debug__" : Str)) = false := by decide)
    (he : starEach (e :: rest) X.env = (false, eval e X.env) :: starEach rest X.env := by rfl) (hpl : (backTo pos (starEach rest X.env)).any (·.1) = false := by rfl) : E X (.Call (.Name x pn) (e :: rest) [] pos) ρ d ρ1 :=
  pe_imp (pe_callBfun hc hg hm h hdb he hpl) fun σ H Q h => callD' h

/-! ### own defs -/
/-- the promise of a def that works on data alone -/
def spP (K : PySem.W.Frag) (R : List PyData → PyData → Prop) : Sp := fun vs H Q _ => ∃ ds d, R ds d ∧ cC K ds d vs H Q
/-- .. whose first argument is the source -/
def spS (K : PySem.W.Frag) (R : Src → List PyData → Src → PyData → Prop) : Sp := fun vs H Q _ => ∃ F G s l t vs' ds t' d, vs = .ref s :: vs' ∧ SrcAt H s l t ∧ (F s = none ∧ F l = none ∧ G s = none ∧ G l = none) ∧ Ex F H ∧ Ex G H ∧ DaAll K G vs' ds ∧ R t ds t' d ∧
  ∀ v H' G', Ext F G G' → Ex F H' → Ex G' H' → SrcAt H' s l t' → G' s = none → G' l = none → Da K G' v d → Q v H'
/-- the def that the module's name x stands for keeps sp -/
structure Known (P : Program) (w : World) (K : PySem.W.Frag) (mg : Str → Option Value) (base : Heap) (A : Around) (x : Str) (sp : Sp) : Prop where
  ex : ∃ (k : Nat) (f : Addr) (fd : FuncData) (ps : List Str), FnG P w K mg base L2.CX0 k f fd ps sp ∧ (Room k A ∧ A.guards = some []) ∧ mg x = some (.ref f) ∧ PySem.W.keepIn K (.ref f) = true ∧ Binds K fd ps []
abbrev Kn (X : Cx) (x : Str) (sp : Sp) : Prop := Known X.prog X.w X.K X.mg X.base X.A x sp
theorem e_call {R : List PyData → PyData → Prop} {pn : Pos} (f : Kn X x (spP X.K R)) (h : EA X (e :: rest) ρ ds ρ1) (hR : R ds d) (hg : Gl X x := by rfl) 
    (hdb : (x == ("__debug__" : Str)) = false := by decide) (he : starEach (e :: rest) X.env = (false, eval e X.env) :: starEach rest X.env := by rfl) (hpl : (backTo pos (starEach rest X.env)).any (·.1) = false := by rfl) : E X (.Call (.Name x pn) (e :: rest) [] pos) ρ d ρ1 := by
  obtain ⟨k, f, fd, ps, F, ⟨hr, hgd⟩, hm, hk, hb⟩ := f.ex
  refine pe_imp (pe_callG F hr hgd hg hm hk hb .nil pass0 h hdb he hpl) fun σ H Q h => ?_
  obtain ⟨F, G, ad, w, k⟩ := callD' (ds := ds) h
  exact ⟨F, G, ad, w, fun vs H1 G1 ad1 e1 w1 p1 => ⟨ds, d, hR, by rw [List.append_nil]; exact k vs H1 G1 ad1 e1 w1 p1⟩⟩
end
end DL
end part_DLc
section part_DLd
namespace DL
open L2 PyProof.Rows PySem.Spec PySem
section
variable {X : Cx} {e a b c : Expr} {rest : List Expr} {ρ ρ0 ρ1 ρ2 ρ3 : List Sl} {d d1 d2 d3 : PyData} {ds es : List PyData} {x : Str} {pos : Pos} {p q : Bool}
/-! ### the source handed on -/
def hide2 (s l : Addr) (H : Hp) : Hp := fun a => if a = s ∨ a = l then none else H a
theorem hide2_ne {s l a : Addr} {H : Hp} (h1 : a ≠ s) (h2 : a ≠ l) : hide2 s l H a = H a := by
  unfold hide2
  rw [if_neg (fun q => q.elim h1 h2)]
theorem hide2_s {s l : Addr} {H : Hp} : hide2 s l H s = none := by
  unfold hide2
  rw [if_pos (.inl rfl)]
theorem hide2_l {s l : Addr} {H : Hp} : hide2 s l H l = none := by
  unfold hide2
  rw [if_pos (.inr rfl)]
theorem hide2_ex {s l : Addr} {H : Hp} : Ex (hide2 s l H) H := fun a o h => by
  unfold hide2 at h
  split at h
  · cases h
  · exact h
theorem hide2_of {s l a : Addr} {H : Hp} {o : HO} (h : hide2 s l H a = some o) : a ≠ s ∧ a ≠ l := by
  refine ⟨fun e => ?_, fun e => ?_⟩
  · rw [e, hide2_s] at h; cases h
  · rw [e, hide2_l] at h; cases h
theorem Sta.src {K : PySem.W.Frag} {F G H H' G' : Hp} {σ : L2.St} {ad : Nat → List Addr} {i : Nat} {s l : Addr} {t t' : Src} (w : Sta K F G H σ ρ ad) (h : ρ[i]? = some (.src s l t)) (e1 : Ext (hide2 s l H) G G') (e2 : Ex (hide2 s l H) H') (e3 : Ex G' H') (hs : SrcAt H' s l t') (gs : G' s = none) (gl : G' l = none) :
    Ext F G G' ∧ Sta K F G' H' σ (ρ.set i (.src s l t')) ad := by
  obtain ⟨h1, h2, h3, h4⟩ := w.hold i _ h
  have fs := w.own i s h2
  have fl := w.own i l h3
  refine ⟨⟨e1.1, fun a o q n => ?_⟩, ⟨e3, fun a o q => ?_, fun j a q => ?_, fun j a q => ?_, w.dis, by rw [List.length_set]; exact w.len, fun j r q => ?_⟩⟩
  · by_cases z1 : a = s
    · rw [z1, gs] at q; cases q
    · by_cases z2 : a = l
      · rw [z2, gl] at q; cases q
      · have z := e1.2 a o q n
        rw [hide2_ne z1 z2] at z
        exact w.fh.none z
  · have z1 : a ≠ s := fun z => by rw [z, fs.2] at q; cases q
    have z2 : a ≠ l := fun z => by rw [z, fl.2] at q; cases q
    exact e2 a o (by rw [hide2_ne z1 z2]; exact w.fh a o q)
  · refine ⟨?_, (w.own j a q).2⟩
    by_cases z1 : a = s
    · rw [z1]; exact gs
    · by_cases z2 : a = l
      · rw [z2]; exact gl
      · obtain ⟨o, ho⟩ := w.there j a q
        exact e1.none (a := a) (o := o) (by rw [hide2_ne z1 z2]; exact ho) (w.own j a q).1
  · by_cases z1 : a = s
    · rw [z1]; exact ⟨_, hs.d⟩
    · by_cases z2 : a = l
      · rw [z2]; exact ⟨_, hs.c⟩
      · obtain ⟨o, ho⟩ := w.there j a q
        exact ⟨o, e2 a o (by rw [hide2_ne z1 z2]; exact ho)⟩
  · by_cases z : j = i
    · subst z
      rw [List.getElem?_set_self (List.getElem?_eq_some_iff.mp h).1] at q
      cases q
      exact ⟨h1, h2, h3, hs⟩
    · rw [List.getElem?_set_ne (Ne.symm z)] at q
      refine (w.hold j r q).grow e1.1 fun a ha u hu => e2 a u ?_
      rw [hide2_ne (fun y => z (w.dis j i a ha (by rw [y]; exact h2))) (fun y => z (w.dis j i a ha (by rw [y]; exact h3)))]
      exact hu
/-- f(source, ..) -/
theorem e_callS {R : Src → List PyData → Src → PyData → Prop} {pn p0 : Pos} {y : Str} {s l s0 l0 : Addr} {t0 t t' : Src} (i : Nat) (f : Kn X x (spS X.K R)) (h : EA X rest ρ ds ρ1) (hR : R t ds t' d) (h0 : ρ[i]? = some (.src s0 l0 t0) := by rfl) (h1 : ρ1[i]? = some (.src s l t) := by rfl) (hg : Gl X x := by rfl)
    (hN : X.N[i]? = some y := by rfl) (hv : Vis X.env.scope y := by first | exact Or.inl rfl | exact Or.inr (Or.inl rfl) | exact Or.inr (Or.inr rfl)) (hd : (y == ("__debug__" : Str)) = false := by decide) (hcd : (y == ("__classdict__" : Str)) = false := by decide)
    (hdb : (x == ("__debug__" : Str)) = false := by decide) (he : starEach (.Name y p0 :: rest) X.env = (false, eval (.Name y p0) X.env) :: starEach rest X.env := by rfl) (hpl : (backTo pos (starEach rest X.env)).any (·.1) = false := by rfl) :
    E X (.Call (.Name x pn) (.Name y p0 :: rest) [] pos) ρ d (ρ1.set i (.src s l t')) := by
  obtain ⟨k, f, fd, ps, F, ⟨hr, hgd⟩, hm, hk, hb⟩ := f.ex
  refine pe_imp (pe_callG F hr hgd hg hm hk hb .nil pass0 (pa_cons (pe_var hN hv hd hcd) h he) hdb he hpl) fun σ H Q ⟨F, G, ad, w, k⟩ => ?_
  obtain ⟨h2, _⟩ := w.hold i _ h0
  refine ⟨_, h2, F, G, ad, w, fun vs H1 G1 ad1 e1 w1 p1 => ?_⟩
  obtain ⟨g1, g2, g3, g4⟩ := w1.hold i _ h1
  have es : s0 = s := by
    rw [h2] at g1
    cases g1
    rfl
  subst es
  refine ⟨hide2 s0 l H1, G1, s0, l, t, vs, ds, t', d, by rw [List.append_nil], g4, ⟨hide2_s, hide2_l, (w1.own i s0 g2).1, (w1.own i l g3).1⟩, hide2_ex, w1.gh, p1, hR, fun v H' G' x1 x2 x3 x4 x5 x6 x7 => ?_⟩
  obtain ⟨y1, y2⟩ := w1.src h1 x1 x2 x3 x4 x5 x6
  exact k v H' G' ad1 (e1.trans y1) y2 x7

/-! ### statements -/
inductive Out where
  | nx (ρ : List Sl)
  | rt (d : PyData) (ρ : List Sl)
  | ct (ρ : List Sl)
  | bk (ρ : List Sl)
def Out.met (K : PySem.W.Frag) (D : Ends) (F G' H' : Hp) (σ' : L2.St) (ad' : Nat → List Addr) : Out → Prop
  | .nx ρ' => Sta K F G' H' σ' ρ' ad' → D.nx σ' H'
  | .rt d ρ' => Sta K F G' H' σ' ρ' ad' → ∀ v, Da K G' v d → D.rt v H'
  | .ct ρ' => Sta K F G' H' σ' ρ' ad' → D.ct σ' H'
  | .bk ρ' => Sta K F G' H' σ' ρ' ad' → D.bk σ' H'
/-- the source's slot keeps its address -/
def Keeps (σ σ' : L2.St) (ρ : List Sl) : Prop := True
def cS (K : PySem.W.Frag) (ρ : List Sl) (o : Out) : TS := fun D σ H => ∃ F G ad, Sta K F G H σ ρ ad ∧ ∀ σ' H' G' ad', Ext F G G' → o.met K D F G' H' σ' ad'
def S1 (X : Cx) (st : Stmt) (ρ : List Sl) (o : Out) : Prop := PS X st (cS X.K ρ o)
def S (X : Cx) (st : List Stmt) (ρ : List Sl) (o : Out) : Prop := PSs X st (cS X.K ρ o)
theorem ps_imp {st : Stmt} {t t' : TS} (h : PS X st t) (k : ∀ D σ H, t' D σ H → t D σ H) : PS X st t' := ⟨fun pins s σ H D I q => h.run pins s σ H D I (k D σ H q)⟩
theorem pss_imp {st : List Stmt} {t t' : TS} (h : PSs X st t) (k : ∀ D σ H, t' D σ H → t D σ H) : PSs X st t' := ⟨fun pins s σ H D I q => h.run pins s σ H D I (k D σ H q)⟩
def anyS (X : Cx) (st : List Stmt) : TS := fun D σ H => ∃ ρ o, S X st ρ o ∧ cS X.K ρ o D σ H
theorem anyS_ok {st : List Stmt} : PSs X st (anyS X st) := ⟨fun pins s σ H D I ⟨ρ, o, h, k⟩ => h.run pins s σ H D I k⟩
def anyS1 (X : Cx) (st : Stmt) : TS := fun D σ H => ∃ ρ o, S1 X st ρ o ∧ cS X.K ρ o D σ H
theorem anyS1_ok {st : Stmt} : PS X st (anyS1 X st) := ⟨fun pins s σ H D I ⟨ρ, o, h, k⟩ => h.run pins s σ H D I k⟩
def Out.stops : Out → Prop
  | .nx _ => False
  | _ => True
/-- the ends but for what comes behind -/
theorem Out.met_nx {o : Out} {K : PySem.W.Frag} {D : Ends} {nx : L2.St → Hp → Prop} {F G' H' : Hp} {σ' : L2.St} {ad' : Nat → List Addr} (h : o.stops) (k : o.met K D F G' H' σ' ad') : o.met K { D with nx := nx } F G' H' σ' ad' := by
  cases o with
  | nx => exact h.elim
  | rt => exact k
  | ct => exact k
  | bk => exact k
theorem s_nil (h : Le ρ ρ1) : S X [] ρ (.nx ρ1) := pss_imp pss_nil fun D σ H ⟨F, G, ad, w, k⟩ => k σ H G ad (Ext.refl F G) (w.le h)
theorem s_nil' : S X [] ρ (.nx ρ) := s_nil (Le.refl ρ)
theorem s_cons {st : Stmt} {rs : List Stmt} {o : Out} (h : S1 X st ρ (.nx ρ1)) (hr : S X rs ρ1 o) : S X (st :: rs) ρ o :=
  pss_imp (pss_cons h anyS_ok) fun D σ H ⟨F, G, ad, w, k⟩ => ⟨F, G, ad, w, fun σ1 H1 G1 ad1 e1 w1 => ⟨ρ1, o, hr, F, G1, ad1, w1, fun σ2 H2 G2 ad2 e2 => k σ2 H2 G2 ad2 (e1.trans e2)⟩⟩
theorem s_stop {st : Stmt} {rs : List Stmt} {o : Out} (h : S1 X st ρ o) (ho : o.stops := by trivial) : S X (st :: rs) ρ o :=
  pss_imp (pss_cons h (u := fun _ _ _ => False) ⟨fun _ _ _ _ _ _ z => z.elim⟩) fun D σ H ⟨F, G, ad, w, k⟩ => ⟨F, G, ad, w, fun σ1 H1 G1 ad1 e1 => Out.met_nx ho (k σ1 H1 G1 ad1 e1)⟩
/-- what a block gives, then the rest -/
inductive Then (X : Cx) (A rs : List Stmt) (ρ : List Sl) (o : Out) : Prop
  | go {ρ1 : List Sl} (h : S X A ρ (.nx ρ1)) (hr : S X rs ρ1 o)
  | stop (h : S X A ρ o) (ho : o.stops)
theorem s_if {A B rs : List Stmt} {o : Out} (hc : T X c ρ p ρ1) (ha : p = true → Then X A rs ρ1 o) (hb : p = false → Then X B rs ρ1 o) : S X (.If c A B pos :: rs) ρ o := by
  refine pss_imp (pss_cons (ps_if hc anyS_ok anyS_ok) anyS_ok) fun D σ H ⟨F, G, ad, w, k⟩ => ⟨F, G, ad, w, fun H1 G1 ad1 e1 w1 => ?_⟩
  have go : ∀ {C : List Stmt}, Then X C rs ρ1 o → anyS X C { D with nx := anyS X rs D } σ H1 := fun {C} h => by
    cases h with
    | go h hr => exact ⟨ρ1, _, h, F, G1, ad1, w1, fun σ2 H2 G2 ad2 e2 w2 => ⟨_, o, hr, F, G2, ad2, w2, fun σ3 H3 G3 ad3 e3 => k σ3 H3 G3 ad3 ((e1.trans e2).trans e3)⟩⟩
    | stop h ho => exact ⟨ρ1, o, h, F, G1, ad1, w1, fun σ2 H2 G2 ad2 e2 => Out.met_nx ho (k σ2 H2 G2 ad2 (e1.trans e2))⟩
  cases p with
  | true => exact go (ha rfl)
  | false => exact go (hb rfl)
theorem s1_if {A B : List Stmt} {o : Out} (hc : T X c ρ p ρ1) (ha : p = true → S X A ρ1 o) (hb : p = false → S X B ρ1 o) : S1 X (.If c A B pos) ρ o := by
  refine ps_imp (ps_if hc anyS_ok anyS_ok) fun D σ H ⟨F, G, ad, w, k⟩ => ⟨F, G, ad, w, fun H1 G1 ad1 e1 w1 => ?_⟩
  cases p with
  | true => exact ⟨ρ1, o, ha rfl, F, G1, ad1, w1, fun σ2 H2 G2 ad2 e2 => k σ2 H2 G2 ad2 (e1.trans e2)⟩
  | false => exact ⟨ρ1, o, hb rfl, F, G1, ad1, w1, fun σ2 H2 G2 ad2 e2 => k σ2 H2 G2 ad2 (e1.trans e2)⟩
theorem Le.trans (h : Le ρ ρ1) (h2 : Le ρ1 ρ2) : Le ρ ρ2 := ⟨h.1.trans h2.1, fun i r q => by
  rcases h2.2 i r q with z | z
  · exact .inl z
  · exact h.2 i r z⟩
/-- forget ahead -/
theorem S.pre {st : List Stmt} {o : Out} (h : S X st ρ1 o) (l : Le ρ ρ1) : S X st ρ o := pss_imp h fun D σ H ⟨F, G, ad, w, k⟩ => ⟨F, G, ad, w.le l, k⟩
theorem S1.pre {st : Stmt} {o : Out} (h : S1 X st ρ1 o) (l : Le ρ ρ1) : S1 X st ρ o := ps_imp h fun D σ H ⟨F, G, ad, w, k⟩ => ⟨F, G, ad, w.le l, k⟩
theorem E.pre (h : E X e ρ1 d ρ2) (l : Le ρ ρ1) : E X e ρ d ρ2 := pe_imp h fun σ H Q ⟨F, G, ad, w, k⟩ => ⟨F, G, ad, w.le l, k⟩
theorem s_ret (h : E X e ρ d ρ1) : S1 X (.Return (some e) pos) ρ (.rt d ρ1) := ps_imp (ps_ret h) fun D σ H ⟨F, G, ad, w, k⟩ => ⟨F, G, ad, w, fun v H' G' ad' e1 w' p => k σ H' G' ad' e1 w' v p⟩
theorem s_ret' (h : E X e ρ d1 ρ1) (q : d1 = d) : S1 X (.Return (some e) pos) ρ (.rt d ρ1) := by subst q; exact s_ret h
theorem le_rep {n : Nat} (h : ρ.length = n) : Le ρ (List.replicate n .un) := ⟨by rw [List.length_replicate]; exact h, fun i r q => by
  rw [List.getElem?_replicate] at q
  split at q
  · cases q
    exact .inl rfl
  · cases q⟩
theorem le_src {n : Nat} {s l : Addr} {t : Src} (h : ρ[0]? = some (.src s l t)) (hn : ρ.length = n + 1) : Le ρ (.src s l t :: List.replicate n .un) := ⟨by rw [List.length_cons, List.length_replicate]; exact hn, fun i r q => by
  cases i with
  | zero =>
    cases q
    exact .inr h
  | succ i =>
    rw [List.getElem?_cons_succ, List.getElem?_replicate] at q
    split at q
    · cases q
      exact .inl rfl
    · cases q⟩
/-- return, in a def over data; in one with the source in slot 0 -/
theorem s_retP {n : Nat} (h : E X e ρ d1 ρ1) (q : d1 = d := by rfl) (hn : ρ1.length = n := by rfl) : S1 X (.Return (some e) pos) ρ (.rt d (List.replicate n .un)) := by
  subst q
  exact ps_imp (ps_ret h) fun D σ H ⟨F, G, ad, w, k⟩ => ⟨F, G, ad, w, fun v H' G' ad' e1 w' p => k σ H' G' ad' e1 (w'.le (le_rep hn)) v p⟩
theorem s_retS {n : Nat} {s l : Addr} {t : Src} (h : E X e ρ d1 ρ1) (q : d1 = d := by rfl) (h0 : ρ1[0]? = some (.src s l t) := by rfl) (hn : ρ1.length = n + 1 := by rfl) : S1 X (.Return (some e) pos) ρ (.rt d (.src s l t :: List.replicate n .un)) := by
  subst q
  exact ps_imp (ps_ret h) fun D σ H ⟨F, G, ad, w, k⟩ => ⟨F, G, ad, w, fun v H' G' ad' e1 w' p => k σ H' G' ad' e1 (w'.le (le_src h0 hn)) v p⟩
theorem s_retN : S1 X (.Return none pos) ρ (.rt .none ρ) := ps_imp ps_retN fun D σ H ⟨F, G, ad, w, k⟩ => k σ H G ad (Ext.refl F G) w .non .non
theorem s_pass : S1 X (.Pass pos) ρ (.nx ρ) := ps_imp ps_pass fun D σ H ⟨F, G, ad, w, k⟩ => k σ H G ad (Ext.refl F G) w
theorem s_cont : S1 X (.Continue pos) ρ (.ct ρ) := ps_imp ps_continue fun D σ H ⟨F, G, ad, w, k⟩ => k σ H G ad (Ext.refl F G) w
theorem s_break : S1 X (.Break pos) ρ (.bk ρ) := ps_imp ps_break fun D σ H ⟨F, G, ad, w, k⟩ => k σ H G ad (Ext.refl F G) w
theorem s_drop (h : E X e ρ d ρ1) (hs : swapsWith e none pos.line X.env = pure false := by rfl) : S1 X (.Expr e pos) ρ (.nx ρ1) := ps_imp (ps_expr h hs) fun D σ H ⟨F, G, ad, w, k⟩ => ⟨F, G, ad, w, fun v H' G' ad' e1 w' _ => k σ H' G' ad' e1 w'⟩
theorem s_doc {z : Str} {j : Nat} {pos' : Pos} : S1 X (.Expr (.Constant (.str z) j pos) pos') ρ (.nx ρ) := ps_imp ps_doc fun D σ H ⟨F, G, ad, w, k⟩ => k σ H G ad (Ext.refl F G) w

/-! ### targets -/
/-- σ' is σ but at js -/
def Off (js : List Nat) (σ σ' : L2.St) : Prop := σ'.length = σ.length ∧ ∀ i, i ∉ js → σ'[i]? = σ[i]?
theorem Off.refl (js : List Nat) (σ : L2.St) : Off js σ σ := ⟨rfl, fun _ _ => rfl⟩
theorem Off.trans {js ks : List Nat} {σ σ' σ'' : L2.St} (a : Off js σ σ') (b : Off ks σ' σ'') : Off (js ++ ks) σ σ'' := ⟨b.1.trans a.1, fun i h => (b.2 i fun z => h (List.mem_append_right _ z)).trans (a.2 i fun z => h (List.mem_append_left _ z))⟩
def cG (K : PySem.W.Frag) (d : PyData) (ρ ρ' : List Sl) (js : List Nat) : TG := fun v σ H Q => ∃ F G ad, Sta K F G H σ ρ ad ∧ Da K G v d ∧ ∀ σ' H' G' ad', Off js σ σ' → Ext F G G' → Sta K F G' H' σ' ρ' ad' → Q σ' H'
def TgD (X : Cx) (tg : Expr) (d : PyData) (ρ ρ' : List Sl) (js : List Nat) : Prop := PG X tg (cG X.K d ρ ρ' js)
def cGs (K : PySem.W.Frag) (ds : List PyData) (ρ ρ' : List Sl) (js : List Nat) : TGs := fun vs σ H Q => ∃ F G ad, Sta K F G H σ ρ ad ∧ DaAll K G vs ds ∧ ∀ σ' H' G' ad', Off js σ σ' → Ext F G G' → Sta K F G' H' σ' ρ' ad' → Q σ' H'
def TgsD (X : Cx) (es : List Expr) (ds : List PyData) (ρ ρ' : List Sl) (js : List Nat) : Prop := PGs X es (cGs X.K ds ρ ρ' js)
theorem pg_imp {tg : Expr} {t t' : TG} (h : PG X tg t) (k : ∀ v σ H Q, t' v σ H Q → t v σ H Q) : PG X tg t' := ⟨fun pins s σ H v u Q I r q => h.run pins s σ H v u Q I r (k v σ H Q q)⟩
theorem pgs_imp {tg : List Expr} {t t' : TGs} (h : PGs X tg t) (k : ∀ v σ H Q, t' v σ H Q → t v σ H Q) : PGs X tg t' := ⟨fun pins s σ H v u Q I r q => h.run pins s σ H v u Q I r (k v σ H Q q)⟩
def anyG (X : Cx) (tg : Expr) : TG := fun v σ H Q => ∃ d ρ ρ' js, TgD X tg d ρ ρ' js ∧ cG X.K d ρ ρ' js v σ H Q
theorem anyG_ok {tg : Expr} : PG X tg (anyG X tg) := ⟨fun pins s σ H v u Q I r ⟨d, ρ, ρ', js, h, k⟩ => h.run pins s σ H v u Q I r k⟩
theorem g_name (i : Nat) (hN : X.N.Nodup) (hi : X.N[i]? = some x := by rfl) (hx : Loc X.env.scope x := by first | exact Or.inl rfl | exact Or.inr rfl) (hl : i < ρ.length := by exact Nat.le_of_ble_eq_true rfl) (hf : X.fn x = true ∨ X.env.scope.names.lookup x = some .local := by first | exact .inl rfl | exact .inr rfl) :
    TgD X (.Name x pos) d ρ (ρ.set i (.dat d)) [i] := pg_imp (pg_name hN hi hx hf) fun v σ H Q ⟨F, G, ad, w, p, k⟩ => k _ H G _ ⟨List.length_set, fun j hj => List.getElem?_set_ne (fun z => hj (by rw [z]; exact List.mem_singleton.mpr rfl))⟩ (Ext.refl F G) (w.set p hl)
theorem gs_nil : TgsD X [] [] ρ ρ [] := pgs_imp pgs_nil fun vs σ H Q ⟨F, G, ad, w, p, k⟩ => by
  cases p
  exact ⟨rfl, k σ H G ad (Off.refl _ _) (Ext.refl F G) w⟩
theorem gs_cons {es : List Expr} {js ks : List Nat} (h1 : TgD X e d ρ ρ1 js) (h2 : TgsD X es ds ρ1 ρ2 ks) (hs : (assignEach (e :: es) X.env).map (·.2) = assign e X.env :: (assignEach es X.env).map (·.2) := by rfl) : TgsD X (e :: es) (d :: ds) ρ ρ2 (js ++ ks) :=
  pgs_imp (pgs_cons h1 h2 hs) fun vs σ H Q ⟨F, G, ad, w, p, k⟩ => by
    cases p with
    | cons p1 p2 => exact ⟨_, _, rfl, F, G, ad, w, p1, fun σ1 H1 G1 ad1 o1 e1 w1 => ⟨F, G1, ad1, w1, daAll_ex e1.1 p2, fun σ2 H2 G2 ad2 o2 e2 w2 => k σ2 H2 G2 ad2 (o1.trans o2) (e1.trans e2) w2⟩⟩
theorem g_tup {es : List Expr} {js : List Nat} {k : Nat} (hc : X.calm = true) (h : TgsD X es ds ρ ρ1 js) (hn : (assignEach es X.env).length = ds.length := by rfl) (hst : (assignEach es X.env).findIdx? (·.1) = none := by rfl) : TgD X (.Tuple es k pos) (.tuple ds) ρ ρ1 js :=
  pg_imp (pg_tup (n := ds.length) hc h hn hst) fun v σ H Q ⟨F, G, ad, w, p, k⟩ => by
    cases p with
    | tup p1 p2 => exact ⟨_, _, rfl, sqT_ex w.gh p1, daAll_len p2, F, G, ad, w, p2, k⟩
/-! ### assignments -/
theorem s_asg {tg : Expr} (he : E X e ρ d ρ1) {js : List Nat} (hg : TgD X tg d ρ1 ρ2 js) (hs : swapsWithSole [tg] e pos.line X.env = pure false := by rfl) (hw : swappedStores [tg] e X.env = pure none := by rfl)
    (h1 : (assignEach [tg] X.env).map (·.2) = [assign tg X.env] := by rfl) : S1 X (.Assign [tg] e pos) ρ (.nx ρ2) :=
  ps_imp (ps_asg he hg hs hw h1) fun D σ H ⟨F, G, ad, w, k⟩ => ⟨F, G, ad, w, fun v H1 G1 ad1 e1 w1 p1 => ⟨F, G1, ad1, w1, p1, fun σ2 H2 G2 ad2 _ e2 w2 => k σ2 H2 G2 ad2 (e1.trans e2) w2⟩⟩
theorem s_set (i : Nat) {pos' : Pos} (he : E X e ρ d ρ1) (hN : X.N.Nodup) (hi : X.N[i]? = some x := by rfl) (hx : Loc X.env.scope x := by first | exact Or.inl rfl | exact Or.inr rfl) (hl : i < ρ1.length := by exact Nat.le_of_ble_eq_true rfl) (hs : swapsWith e (some (.Name x pos')) pos.line X.env = pure false := by rfl)
    (hf : X.fn x = true ∨ X.env.scope.names.lookup x = some .local := by first | exact .inl rfl | exact .inr rfl) : S1 X (.Assign [.Name x pos'] e pos) ρ (.nx (ρ1.set i (.dat d))) :=
  ps_imp (ps_set hN hi hx he hs hf) fun D σ H ⟨F, G, ad, w, k⟩ => ⟨F, G, ad, w, fun v H1 G1 ad1 e1 w1 p1 => k _ H1 G1 _ e1 (w1.set p1 hl)⟩
theorem s_setO (i : Nat) {pos' : Pos} (he : EO X e ρ ds ρ1) (hN : X.N.Nodup) (hi : X.N[i]? = some x := by rfl) (hx : Loc X.env.scope x := by first | exact Or.inl rfl | exact Or.inr rfl) (hl : i < ρ1.length := by exact Nat.le_of_ble_eq_true rfl) (hs : swapsWith e (some (.Name x pos')) pos.line X.env = pure false := by rfl)
    (hf : X.fn x = true ∨ X.env.scope.names.lookup x = some .local := by first | exact .inl rfl | exact .inr rfl) : S1 X (.Assign [.Name x pos'] e pos) ρ (.nx (ρ1.set i (.own ds))) :=
  ps_imp (ps_set hN hi hx he hs hf) fun D σ H ⟨F, G, ad, w, k⟩ => ⟨F, G, ad, w, fun l xs H1 G1 ad1 e1 w1 q1 q2 q3 q4 q5 => k _ H1 G1 _ e1 (w1.setO q4 q5 q1 q2 q3 hl)⟩
/-- a, b = e1, e2 with plain local names -/
theorem s_par (i j : Nat) {y : Str} {px py pt : Pos} {kt k2 : Nat} {pt2 : Pos} (ha : EA X [a, b] ρ [d1, d2] ρ1) (hc : X.calm = true) (hN : X.N.Nodup) (hi : X.N[i]? = some x := by rfl) (hj : X.N[j]? = some y := by rfl) (hij : i ≠ j := by decide)
    (hx : X.env.scope.names.lookup x = some .local := by rfl) (hy : X.env.scope.names.lookup y = some .local := by rfl) (hl : i < ρ1.length := by exact Nat.le_of_ble_eq_true rfl) (hl2 : j < ρ1.length := by exact Nat.le_of_ble_eq_true rfl)
    (hw : swappedStores [.Tuple [.Name x px, .Name y py] kt pt] (.Tuple [a, b] k2 pt2) X.env = pure (some [x, y]) := by rfl)
    (hs : swapsWithSole [.Tuple [.Name x px, .Name y py] kt pt] (.Tuple [a, b] k2 pt2) pos.line X.env = pure false := by rfl) :
    S1 X (.Assign [.Tuple [.Name x px, .Name y py] kt pt] (.Tuple [a, b] k2 pt2) pos) ρ (.nx ((ρ1.set i (.dat d1)).set j (.dat d2))) :=
  ps_imp (ps_par hc hN hi hj hij hx hy ha hw hs) fun D σ H ⟨F, G, ad, w, k⟩ => ⟨F, G, ad, w, fun vs H1 G1 ad1 e1 w1 p1 => by
    obtain ⟨v, u, rfl, q1, q2⟩ := daAll_two p1
    exact ⟨v, u, rfl, k _ H1 G1 _ e1 ((w1.set q1 hl).set q2 (by rw [List.length_set]; exact hl2))⟩⟩
end
end DL
end part_DLd
section part_DLe
namespace DL
open L2 PyProof.Rows PySem.Spec PySem
/-! ### what is walked -/
def Walks (K : PySem.W.Frag) (J : It) (G : Hp) (ys : List PyData) : Prop := ∀ (H G2 : Hp), Ex G G2 → Ex G2 H → J.stop ys.length H ∧ ∀ (i : Nat) (d : PyData), ys[i]? = some d → J.go i H ∧ ∀ x H', J.yld i H x H' → ∃ G', Ex H H' ∧ Ext H G2 G' ∧ Ex G' H' ∧ Da K G' x d
def cI (K : PySem.W.Frag) (ρ : List Sl) (ys : List PyData) (ρ' : List Sl) : TI := fun σ H R => ∃ F G ad, Sta K F G H σ ρ ad ∧ ∀ J H' G' ad', Ext F G G' → Sta K F G' H' σ ρ' ad' → Walks K J G' ys → R J H'
def Iter (X : Cx) (tg it : Expr) (ρ : List Sl) (ys : List PyData) (ρ' : List Sl) : Prop := PI X tg it (cI X.K ρ ys ρ')
theorem pi_imp {X : Cx} {tg it : Expr} {t t' : TI} (h : PI X tg it t) (k : ∀ σ H R, t' σ H R → t σ H R) : PI X tg it t' := ⟨fun pins s σ H R I q => h.run pins s σ H R I (k σ H R q)⟩
section
variable {X : Cx} {e a b c tg it l elt : Expr} {rest : List Expr} {ρ ρ0 ρ1 ρ2 ρ3 : List Sl} {d d1 d2 d3 : PyData} {ds es ys rs : List PyData} {x : Str} {pos : Pos} {p q : Bool}
theorem i_list (h : E X l ρ (.list ds) ρ1) : Iter X tg l ρ ds ρ1 := pi_imp (pi_list h) fun σ H R ⟨F, G, ad, w, k⟩ => ⟨F, G, ad, w, fun v H1 G1 ad1 e1 w1 p1 => by
  cases p1 with
  | lst h1 h2 =>
    refine ⟨_, rfl, ⟨_, SqL.of (w1.gh _ _ h1)⟩, k _ H1 G1 ad1 e1 w1 fun H2 G2 g1 g2 => ⟨⟨_, SqL.of (g2 _ _ (g1 _ _ h1)), by rw [daAll_len h2]; exact Nat.le_refl _⟩, fun i d hi => ?_⟩⟩
    obtain ⟨v, hv, pv⟩ := daAll_get h2 hi
    refine ⟨⟨_, v, SqL.of (g2 _ _ (g1 _ _ h1)), hv⟩, fun x H' ⟨e, z⟩ => ?_⟩
    subst e
    have zz := z _ (SqL.of (g2 _ _ (g1 _ _ h1)))
    rw [hv] at zz
    cases zz
    exact ⟨G2, Ex.refl _, Ext.refl _ _, g2, da_ex g1 pv⟩⟩
theorem i_tup (h : E X l ρ (.tuple ds) ρ1) : Iter X tg l ρ ds ρ1 := pi_imp (pi_tup h) fun σ H R ⟨F, G, ad, w, k⟩ => ⟨F, G, ad, w, fun v H1 G1 ad1 e1 w1 p1 => by
  cases p1 with
  | tup h1 h2 =>
    refine ⟨_, rfl, ⟨_, sqT_ex w1.gh h1⟩, k _ H1 G1 ad1 e1 w1 fun H2 G2 g1 g2 => ⟨⟨_, sqT_ex (g1.trans g2) h1, by rw [daAll_len h2]; exact Nat.le_refl _⟩, fun i d hi => ?_⟩⟩
    obtain ⟨v, hv, pv⟩ := daAll_get h2 hi
    refine ⟨⟨_, v, sqT_ex (g1.trans g2) h1, hv⟩, fun x H' ⟨e, z⟩ => ?_⟩
    subst e
    have zz := z _ (sqT_ex (g1.trans g2) h1)
    rw [hv] at zz
    cases zz
    exact ⟨G2, Ex.refl _, Ext.refl _ _, g2, da_ex g1 pv⟩⟩
/-- lo, lo + 1, .., n of them -/
def rangeD (lo : Int) (n : Nat) : List PyData := (List.range n).map fun (i : Nat) => PyData.int (lo + i)
theorem rangeD_len (lo : Int) (n : Nat) : (rangeD lo n).length = n := by unfold rangeD; rw [List.length_map, List.length_range]
theorem walks_range (K : PySem.W.Frag) (G : Hp) (lo : Int) (n : Nat) : Walks K (Itr lo n) G (rangeD lo n) := fun H2 G2 g1 g2 => ⟨by rw [rangeD_len]; exact Nat.le_refl _, fun i d hi => by
  have hi2 : i < n := by
    have := (List.getElem?_eq_some_iff.mp hi).1
    rw [rangeD_len] at this
    exact this
  refine ⟨hi2, fun x H' ⟨e, z⟩ => ?_⟩
  subst e z
  unfold rangeD at hi
  rw [List.getElem?_map, List.getElem?_range hi2] at hi
  cases hi
  exact ⟨G2, Ex.refl _, Ext.refl _ _, g2, .int _⟩⟩
theorem i_range1 {p0 : Pos} {n : Int} (h : EA X [a] ρ [.int n] ρ1) (hm : X.mg "range" = none) (h1 : -(2 ^ 62) ≤ n ∧ n < 2 ^ 62 := by first | decide | omega) (hg : Gl X "range" := by rfl) (hs : starEach [a] X.env = [(false, eval a X.env)] := by rfl) : Iter X tg (.Call (.Name "range" p0) [a] [] pos) ρ (rangeD 0 n.toNat) ρ1 :=
  pi_imp (pi_range1 hg hm h hs) fun σ H R ⟨F, G, ad, w, k⟩ => ⟨F, G, ad, w, fun vs H1 G1 ad1 e1 w1 p1 => by
    obtain ⟨v, rfl, q⟩ := daAll_one p1
    cases q
    exact ⟨n, rfl, h1.1, h1.2, k _ H1 G1 ad1 e1 w1 (walks_range _ _ 0 n.toNat)⟩⟩
theorem i_range2 {p0 : Pos} {m n : Int} (h : EA X [a, b] ρ [.int m, .int n] ρ1) (hm : X.mg "range" = none) (h1 : (-(2 ^ 62) ≤ m ∧ m < 2 ^ 62) ∧ -(2 ^ 62) ≤ n ∧ n < 2 ^ 62 := by first | decide | omega) (hg : Gl X "range" := by rfl) (hs : starEach [a, b] X.env = [(false, eval a X.env), (false, eval b X.env)] := by rfl) (hs2 : starEach [b] X.env = [(false, eval b X.env)] := by rfl) :
    Iter X tg (.Call (.Name "range" p0) [a, b] [] pos) ρ (rangeD m (n - m).toNat) ρ1 :=
  pi_imp (pi_range2 hg hm h hs hs2) fun σ H R ⟨F, G, ad, w, k⟩ => ⟨F, G, ad, w, fun vs H1 G1 ad1 e1 w1 p1 => by
    obtain ⟨v, u, rfl, q, r⟩ := daAll_two p1
    cases q
    cases r
    exact ⟨m, n, rfl, ⟨h1.1.1, h1.1.2, h1.2.1, h1.2.2⟩, k _ H1 G1 ad1 e1 w1 (walks_range _ _ m (n - m).toNat)⟩⟩
/-! ### for -/
inductive Loop (X : Cx) (tg : Expr) (body : List Stmt) : List PyData → List Sl → Out → Prop
  | nil {ρ : List Sl} : Loop X tg body [] ρ (.nx ρ)
  | nx {d : PyData} {ds : List PyData} {ρ ρ1 ρ2 : List Sl} {o : Out} {js : List Nat} : TgD X tg d ρ ρ1 js → S X body ρ1 (.nx ρ2) → Loop X tg body ds ρ2 o → Loop X tg body (d :: ds) ρ o
  | ct {d : PyData} {ds : List PyData} {ρ ρ1 ρ2 : List Sl} {o : Out} {js : List Nat} : TgD X tg d ρ ρ1 js → S X body ρ1 (.ct ρ2) → Loop X tg body ds ρ2 o → Loop X tg body (d :: ds) ρ o
  | bk {d : PyData} {ds : List PyData} {ρ ρ1 ρ2 : List Sl} {js : List Nat} : TgD X tg d ρ ρ1 js → S X body ρ1 (.bk ρ2) → Loop X tg body (d :: ds) ρ (.nx ρ2)
  | rt {d r : PyData} {ds : List PyData} {ρ ρ1 ρ2 : List Sl} {js : List Nat} : TgD X tg d ρ ρ1 js → S X body ρ1 (.rt r ρ2) → Loop X tg body (d :: ds) ρ (.rt r ρ2)
  | pre {ds : List PyData} {ρ ρ1 : List Sl} {o : Out} : Le ρ ρ1 → Loop X tg body ds ρ1 o → Loop X tg body ds ρ o
/-- a turn -/
def Turn1 (X : Cx) (tg : Expr) (body : List Stmt) (d : PyData) (ds : List PyData) (ρ : List Sl) (o : Out) : Prop := ∃ ρ1 js o1, TgD X tg d ρ ρ1 js ∧ S X body ρ1 o1 ∧ match o1 with
  | .nx ρ2 => Loop X tg body ds ρ2 o
  | .ct ρ2 => Loop X tg body ds ρ2 o
  | .bk ρ2 => o = .nx ρ2
  | .rt r ρ2 => o = .rt r ρ2
theorem loop_cases {body : List Stmt} {o : Out} (h : Loop X tg body ds ρ o) : ∃ ρ0, Le ρ ρ0 ∧ ((ds = [] ∧ o = .nx ρ0) ∨ ∃ d es, ds = d :: es ∧ Turn1 X tg body d es ρ0 o) := by
  induction h with
  | nil => exact ⟨_, Le.refl _, .inl ⟨rfl, rfl⟩⟩
  | nx h1 h2 h3 _ => exact ⟨_, Le.refl _, .inr ⟨_, _, rfl, _, _, .nx _, h1, h2, h3⟩⟩
  | ct h1 h2 h3 _ => exact ⟨_, Le.refl _, .inr ⟨_, _, rfl, _, _, .ct _, h1, h2, h3⟩⟩
  | bk h1 h2 => exact ⟨_, Le.refl _, .inr ⟨_, _, rfl, _, _, .bk _, h1, h2, rfl⟩⟩
  | rt h1 h2 => exact ⟨_, Le.refl _, .inr ⟨_, _, rfl, _, _, .rt _ _, h1, h2, rfl⟩⟩
  | pre h1 _ ih =>
    obtain ⟨ρ0, h2, h3⟩ := ih
    exact ⟨ρ0, h1.trans h2, h3⟩
theorem drop_cons {ys : List PyData} {i : Nat} {d : PyData} {es : List PyData} (h : ys.drop i = d :: es) : ys[i]? = some d ∧ ys.drop (i + 1) = es := by
  have h1 : (ys.drop i)[0]? = some d := by rw [h]; rfl
  rw [List.getElem?_drop] at h1
  refine ⟨h1, ?_⟩
  have h2 : (ys.drop i).drop 1 = es := by rw [h]; rfl
  rw [List.drop_drop] at h2
  exact h2
theorem s_for {body : List Stmt} {o : Out} (hi : Iter X tg it ρ ys ρ1) (hl : Loop X tg body ys ρ1 o) (hc : X.calm = true := by rfl) (hp : PassesOwn (model X.prog X.w) X.A X.env X.xe := by exact PassesOwn.never) (hs : ∀ x, foldedSetIterable it X.env x = pure x := by intro _; rfl) : S1 X (.For tg it body [] pos) ρ o := by
  refine ps_imp (ps_for hp hc hi anyG_ok anyS_ok hs) fun D σ H ⟨F, G, ad, w, k⟩ => ⟨F, G, ad, w, fun J H1 G1 ad1 e1 w1 wk => ?_⟩
  refine ⟨fun i m σ H => m = ys.length - i ∧ i ≤ ys.length ∧ ∃ ρi Gi adi, Ext F G1 Gi ∧ Sta X.K F Gi H σ ρi adi ∧ Loop X tg body (ys.drop i) ρi o, ⟨ys.length, by simp, Nat.zero_le _, ρ1, G1, ad1, Ext.refl _ _, w1, by simpa using hl⟩, ?_⟩
  rintro i m σ2 H2 ⟨rfl, hle, ρi, Gi, adi, e2, w2, hl2⟩
  obtain ⟨ws, wg⟩ := wk H2 Gi e2.1 w2.gh
  obtain ⟨ρ0, le, hcase⟩ := loop_cases hl2
  rcases hcase with ⟨hnil, ho⟩ | ⟨d, es, hcons, ρ2, js, o1, ht, hb, ho⟩
  · have ei : i = ys.length := by
      have := List.drop_eq_nil_iff.mp hnil
      omega
    subst ei ho
    exact .inl ⟨ws, k σ2 H2 Gi adi (e1.trans e2) (w2.le le)⟩
  · obtain ⟨hd, hes⟩ := drop_cons hcons
    obtain ⟨hgo, hy⟩ := wg i d hd
    have hlt : i < ys.length := (List.getElem?_eq_some_iff.mp hd).1
    refine .inr ⟨hgo, fun σ' H' => ∃ ρ2 G2 ad2, Ext F G1 G2 ∧ Sta X.K F G2 H' σ' ρ2 ad2 ∧ Loop X tg body (ys.drop (i + 1)) ρ2 o, fun σ' H' hN => ⟨ys.length - (i + 1), by omega, rfl, hlt, hN⟩, fun x H' hx => ?_⟩
    obtain ⟨G3, x1, x2, x3, x4⟩ := hy x H' hx
    have w3 := (w2.grow x1 x2 x3).le le
    have e3 : Ext F G1 G3 := e2.trans (x2.weak w2.fh)
    refine ⟨d, ρ0, ρ2, js, ht, F, G3, _, w3, x4, fun σ4 H4 G4 ad4 _ e4 w4 => ⟨ρ2, o1, hb, F, G4, ad4, w4, fun σ5 H5 G5 ad5 e5 => ?_⟩⟩
    have e6 : Ext F G1 G5 := (e3.trans e4).trans e5
    cases o1 with
    | nx ρ3 => exact fun w5 => ⟨ρ3, G5, ad5, e6, w5, by rw [hes]; exact ho⟩
    | ct ρ3 => exact fun w5 => ⟨ρ3, G5, ad5, e6, w5, by rw [hes]; exact ho⟩
    | bk ρ3 =>
      subst ho
      exact k σ5 H5 G5 ad5 (e1.trans e6)
    | rt r ρ3 =>
      subst ho
      exact k σ5 H5 G5 ad5 (e1.trans e6)
/-! ### while -/
inductive Wh (X : Cx) (c : Expr) (body : List Stmt) : Nat → List Sl → Out → Prop
  | done {ρ ρ1 : List Sl} : T X c ρ false ρ1 → Wh X c body 0 ρ (.nx ρ1)
  | nx {n : Nat} {ρ ρ1 ρ2 : List Sl} {o : Out} : T X c ρ true ρ1 → S X body ρ1 (.nx ρ2) → Wh X c body n ρ2 o → Wh X c body (n + 1) ρ o
  | ct {n : Nat} {ρ ρ1 ρ2 : List Sl} {o : Out} : T X c ρ true ρ1 → S X body ρ1 (.ct ρ2) → Wh X c body n ρ2 o → Wh X c body (n + 1) ρ o
  | bk {ρ ρ1 ρ2 : List Sl} : T X c ρ true ρ1 → S X body ρ1 (.bk ρ2) → Wh X c body 0 ρ (.nx ρ2)
  | rt {r : PyData} {ρ ρ1 ρ2 : List Sl} : T X c ρ true ρ1 → S X body ρ1 (.rt r ρ2) → Wh X c body 0 ρ (.rt r ρ2)
  | pre {n : Nat} {ρ ρ1 : List Sl} {o : Out} : Le ρ ρ1 → Wh X c body n ρ1 o → Wh X c body n ρ o
def WTurn (X : Cx) (c : Expr) (body : List Stmt) (n : Nat) (ρ : List Sl) (o : Out) : Prop := ∃ ρ1 o1, T X c ρ true ρ1 ∧ S X body ρ1 o1 ∧ match o1 with
  | .nx ρ2 => ∃ m, m < n ∧ Wh X c body m ρ2 o
  | .ct ρ2 => ∃ m, m < n ∧ Wh X c body m ρ2 o
  | .bk ρ2 => o = .nx ρ2
  | .rt r ρ2 => o = .rt r ρ2
theorem wh_cases {body : List Stmt} {n : Nat} {o : Out} (h : Wh X c body n ρ o) : ∃ ρ0, Le ρ ρ0 ∧ ((∃ ρ1, T X c ρ0 false ρ1 ∧ o = .nx ρ1) ∨ WTurn X c body n ρ0 o) := by
  induction h with
  | done h => exact ⟨_, Le.refl _, .inl ⟨_, h, rfl⟩⟩
  | nx h1 h2 h3 _ => exact ⟨_, Le.refl _, .inr ⟨_, .nx _, h1, h2, _, Nat.lt_succ_self _, h3⟩⟩
  | ct h1 h2 h3 _ => exact ⟨_, Le.refl _, .inr ⟨_, .ct _, h1, h2, _, Nat.lt_succ_self _, h3⟩⟩
  | bk h1 h2 => exact ⟨_, Le.refl _, .inr ⟨_, .bk _, h1, h2, rfl⟩⟩
  | rt h1 h2 => exact ⟨_, Le.refl _, .inr ⟨_, .rt _ _, h1, h2, rfl⟩⟩
  | pre h1 _ ih =>
    obtain ⟨ρ0, h2, h3⟩ := ih
    exact ⟨ρ0, h1.trans h2, h3⟩
theorem s_while {body : List Stmt} {n : Nat} {o : Out} (h : Wh X c body n ρ o) (hp : PassesOwn (model X.prog X.w) X.A X.env X.xe := by exact PassesOwn.never) : S1 X (.While c body [] pos) ρ o := by
  refine ps_imp (ps_while hp anyT_ok anyS_ok) fun D σ H ⟨F, G, ad, w, k⟩ => ⟨fun m σ' H' => ∃ ρi Gi adi, Ext F G Gi ∧ Sta X.K F Gi H' σ' ρi adi ∧ Wh X c body m ρi o, ⟨n, ρ, G, ad, Ext.refl _ _, w, h⟩, ?_⟩
  rintro m σ' H' ⟨ρi, Gi, adi, e1, w1, h1⟩
  obtain ⟨ρ0, le, hcase⟩ := wh_cases h1
  rcases hcase with ⟨ρ1, ht, rfl⟩ | ⟨ρ1, o1, ht, hb, ho⟩
  · exact ⟨ρ0, false, ρ1, ht, F, Gi, adi, w1.le le, fun H2 G2 ad2 e2 w2 => k σ' H2 G2 ad2 (e1.trans e2) w2⟩
  · refine ⟨ρ0, true, ρ1, ht, F, Gi, adi, w1.le le, fun H2 G2 ad2 e2 w2 => ?_⟩
    show (if true = true then _ else _)
    rw [if_pos rfl]
    refine ⟨fun σ' H' => ∃ m', m' < m ∧ ∃ ρi Gi adi, Ext F G Gi ∧ Sta X.K F Gi H' σ' ρi adi ∧ Wh X c body m' ρi o, fun σ3 H3 h3 => h3, ?_⟩
    refine ⟨ρ1, o1, hb, F, G2, ad2, w2, fun σ5 H5 G5 ad5 e5 => ?_⟩
    have e6 : Ext F G G5 := (e1.trans e2).trans e5
    cases o1 with
    | nx ρ3 =>
      obtain ⟨m', hm, hw⟩ := ho
      exact fun w5 => ⟨m', hm, ρ3, G5, ad5, e6, w5, hw⟩
    | ct ρ3 =>
      obtain ⟨m', hm, hw⟩ := ho
      exact fun w5 => ⟨m', hm, ρ3, G5, ad5, e6, w5, hw⟩
    | bk ρ3 =>
      subst ho
      exact k σ5 H5 G5 ad5 e6
    | rt r ρ3 =>
      subst ho
      exact k σ5 H5 G5 ad5 e6
end
end DL
end part_DLe
section part_DLf
namespace DL
open L2 PyProof.Rows PySem.Spec PySem
/-! ### comprehensions -/
def wipeA (vs : List Nat) : Nat → List Sl → List Sl
  | _, [] => []
  | i, r :: ρ => (if vs.contains i then Sl.un else r) :: wipeA vs (i + 1) ρ
def keepDat : Sl → Sl
  | .dat d => .dat d
  | _ => .un
def joinA (vs : List Nat) : Nat → List Sl → List Sl → List Sl
  | _, _, [] => []
  | i, [], r :: ρ => (if vs.contains i then Sl.un else r) :: joinA vs (i + 1) [] ρ
  | i, r0 :: ρ0, r :: ρ => (if vs.contains i then keepDat r0 else r) :: joinA vs (i + 1) ρ0 ρ
theorem wipeA_get (vs : List Nat) : ∀ (ρ : List Sl) (k i : Nat), (wipeA vs k ρ)[i]? = (ρ[i]?).map fun r => if vs.contains (k + i) then Sl.un else r
  | [], k, i => by simp [wipeA]
  | r :: ρ, k, 0 => by simp [wipeA]
  | r :: ρ, k, i + 1 => by
    have h := wipeA_get vs ρ (k + 1) i
    rw [show k + 1 + i = k + (i + 1) by omega] at h
    simpa [wipeA] using h
theorem wipeA_len (vs : List Nat) : ∀ (ρ : List Sl) (k : Nat), (wipeA vs k ρ).length = ρ.length
  | [], k => rfl
  | r :: ρ, k => by
    show (wipeA vs (k + 1) ρ).length + 1 = ρ.length + 1
    rw [wipeA_len vs ρ (k + 1)]
theorem joinA_len (vs : List Nat) : ∀ (ρ ρ0 : List Sl) (k : Nat), (joinA vs k ρ0 ρ).length = ρ.length
  | [], ρ0, k => by cases ρ0 <;> rfl
  | r :: ρ, [], k => by
    show (joinA vs (k + 1) [] ρ).length + 1 = ρ.length + 1
    rw [joinA_len vs ρ [] (k + 1)]
  | r :: ρ, r0 :: ρ0, k => by
    show (joinA vs (k + 1) ρ0 ρ).length + 1 = ρ.length + 1
    rw [joinA_len vs ρ ρ0 (k + 1)]
theorem joinA_get (vs : List Nat) : ∀ (ρ ρ0 : List Sl) (k i : Nat) (r : Sl), (joinA vs k ρ0 ρ)[i]? = some r → (vs.contains (k + i) = false ∧ ρ[i]? = some r) ∨ (vs.contains (k + i) = true ∧ (r = .un ∨ ∃ d, r = .dat d ∧ ρ0[i]? = some (.dat d)))
  | [], ρ0, k, i, r, h => by cases ρ0 <;> simp [joinA] at h
  | r1 :: ρ, [], k, 0, r, h => by
    have e : r = (if vs.contains k then Sl.un else r1) := by simpa [joinA] using h.symm
    cases q : vs.contains k with
    | true =>
      rw [q, if_pos rfl] at e
      exact .inr ⟨rfl, .inl e⟩
    | false =>
      rw [q, if_neg Bool.false_ne_true] at e
      exact .inl ⟨rfl, by rw [e]; rfl⟩
  | r1 :: ρ, r0 :: ρ0, k, 0, r, h => by
    have e : r = (if vs.contains k then keepDat r0 else r1) := by simpa [joinA] using h.symm
    cases q : vs.contains k with
    | true =>
      rw [q, if_pos rfl] at e
      refine .inr ⟨rfl, ?_⟩
      cases r0 with
      | dat d => exact .inr ⟨d, e, rfl⟩
      | un => exact .inl e
      | own _ => exact .inl e
      | src _ _ _ => exact .inl e
      | scr _ => exact .inl e
    | false =>
      rw [q, if_neg Bool.false_ne_true] at e
      exact .inl ⟨rfl, by rw [e]; rfl⟩
  | r1 :: ρ, [], k, i + 1, r, h => by
    have h2 : (joinA vs (k + 1) [] ρ)[i]? = some r := by simpa [joinA] using h
    have z := joinA_get vs ρ [] (k + 1) i r h2
    rw [show k + 1 + i = k + (i + 1) by omega] at z
    simpa using z
  | r1 :: ρ, r0 :: ρ0, k, i + 1, r, h => by
    have h2 : (joinA vs (k + 1) ρ0 ρ)[i]? = some r := by simpa [joinA] using h
    have z := joinA_get vs ρ ρ0 (k + 1) i r h2
    rw [show k + 1 + i = k + (i + 1) by omega] at z
    simpa using z
theorem wipe_get {σ : L2.St} : ∀ (vs : List Nat) (i : Nat), (wipe σ vs)[i]? = if vs.contains i then (σ[i]?).map (fun _ => none) else σ[i]?
  | [], i => by simp [wipe]
  | v :: vs, i => by
    have ih := wipe_get (σ := σ) vs i
    by_cases e : v = i
    · subst e
      show ((wipe σ vs).set v none)[v]? = _
      by_cases hl : v < σ.length
      · rw [List.getElem?_set_self (by rw [wipe_length]; exact hl)]
        simp [List.getElem?_eq_getElem hl]
      · rw [List.getElem?_eq_none (by rw [List.length_set, wipe_length]; omega), List.getElem?_eq_none (by omega)]
        simp
    · show ((wipe σ vs).set v none)[i]? = _
      rw [List.getElem?_set_ne e, ih]
      have : (v :: vs).contains i = vs.contains i := by
        rw [List.contains_cons]
        have : (i == v) = false := by simpa using fun z => e z.symm
        rw [this, Bool.false_or]
      rw [this]
/-- σ' is σ but at slots that are wiped -/
theorem wipe_off {σ σ' : L2.St} {vs js : List Nat} (h : Off js (wipe σ vs) σ') (hj : ∀ j ∈ js, j ∈ vs) : wipe σ' vs = wipe σ vs := by
  refine List.ext_getElem? fun i => ?_
  rw [wipe_get, wipe_get]
  have hl : σ'.length = σ.length := by rw [h.1, wipe_length]
  cases q : vs.contains i with
  | true =>
    rw [if_pos rfl, if_pos rfl]
    by_cases hi : i < σ.length
    · rw [List.getElem?_eq_getElem hi, List.getElem?_eq_getElem (by omega)]
      rfl
    · rw [List.getElem?_eq_none (by omega), List.getElem?_eq_none (by omega)]
  | false =>
    rw [if_neg Bool.false_ne_true, if_neg Bool.false_ne_true]
    have ni : i ∉ js := fun z => by
      have := List.contains_iff_mem.mpr (hj i z)
      rw [q] at this; cases this
    have := h.2 i ni
    rw [wipe_get, q, if_neg Bool.false_ne_true] at this
    exact this
section
variable {K : PySem.W.Frag} {F G H : Hp} {σ : L2.St} {ρ ρ0 : List Sl} {ad : Nat → List Addr}
theorem Sta.wipe (w : Sta K F G H σ ρ ad) (vs : List Nat) : Sta K F G H (wipe σ vs) (wipeA vs 0 ρ) ad := ⟨w.gh, w.fh, w.own, w.there, w.dis, by rw [wipe_length, wipeA_len]; exact w.len, fun i r q => by
  rw [wipeA_get, Nat.zero_add] at q
  rw [wipe_get]
  cases z : vs.contains i with
  | true =>
    rw [z] at q
    cases e : ρ[i]? with
    | none => rw [e] at q; cases q
    | some r0 =>
      rw [e] at q
      have q' : r = Sl.un := by simpa using q.symm
      subst q'
      trivial
  | false =>
    rw [z] at q
    rw [if_neg Bool.false_ne_true]
    refine w.hold i r ?_
    cases e : ρ[i]? with
    | none => rw [e] at q; cases q
    | some r0 =>
      rw [e] at q
      simpa using q⟩
/-- behind the block: the wiped slots hold what they held -/
theorem Sta.unwipe {F0 G0 H0 : Hp} {ad0 : Nat → List Addr} {vs : List Nat} (w : Sta K F G H (L2.wipe σ vs) (wipeA vs 0 ρ) ad) (w0 : Sta K F0 G0 H0 σ ρ0 ad0) (e : Ex G0 G) : Sta K F G H σ (joinA vs 0 ρ0 ρ) ad := ⟨w.gh, w.fh, w.own, w.there, w.dis, by
  have := w.len
  rw [wipe_length, wipeA_len] at this
  rw [joinA_len]; exact this, fun i r q => by
  rcases joinA_get vs ρ ρ0 0 i r q with ⟨z, h⟩ | ⟨z, h⟩
  · rw [Nat.zero_add] at z
    have h1 : (wipeA vs 0 ρ)[i]? = some r := by
      rw [wipeA_get, Nat.zero_add, h]
      simp only [Option.map_some, z]
      rfl
    have h2 := w.hold i r h1
    rw [wipe_get, z, if_neg Bool.false_ne_true] at h2
    exact h2
  · rcases h with rfl | ⟨d, rfl, h⟩
    · trivial
    · obtain ⟨v, h1, h2⟩ := w0.hold i _ h
      exact ⟨v, h1, da_ex e h2⟩⟩
end
section
variable {X : Cx} {e a b c tg it l elt : Expr} {rest ifs : List Expr} {ρ ρ0 ρ1 ρ2 ρ3 : List Sl} {d d1 d2 d3 : PyData} {ds es ys rs : List PyData} {x : Str} {pos : Pos} {p q : Bool} {scope : Scope}
abbrev Blk (X : Cx) (scope : Scope) (J : Cx → Prop) : Prop := ∀ (s : Shared) (H : Hp) (C : Addr) (cl : List (Str × Addr)) (fp : List Addr), J (X.blk s H scope (compEnvC scope cl C X.env) fp)
def Ts (X : Cx) (ifs : List Expr) (ρ : List Sl) (b : Bool) (ρ' : List Sl) : Prop := PTs X ifs (cT X.K ρ b ρ')
theorem ts_nil : Ts X [] ρ true ρ := ⟨fun pins s σ H Q I ⟨F, G, ad, w, k⟩ => pts_nil.run pins s σ H Q I (k H G ad (Ext.refl F G) w)⟩
theorem ts_one (h : T X c ρ p ρ1) : Ts X [c] ρ p ρ1 := pts_one h
inductive CL (X : Cx) (scope : Scope) (tg : Expr) (ifs : List Expr) (elt : Expr) (vs : List Nat) : List PyData → List Sl → List PyData → List Sl → Prop
  | nil {ρ : List Sl} : CL X scope tg ifs elt vs [] ρ [] ρ
  | yes {d r : PyData} {ds rs : List PyData} {ρ ρ1 ρ2 ρ3 ρ4 : List Sl} {js : List Nat} : (hj : ∀ j ∈ js, j ∈ vs) → Blk X scope (fun Y => TgD Y tg d (wipeA vs 0 ρ) ρ1 js) → Blk X scope (fun Y => Ts Y ifs ρ1 true ρ2) → Blk X scope (fun Y => E Y elt ρ2 r ρ3) →
      CL X scope tg ifs elt vs ds ρ3 rs ρ4 → CL X scope tg ifs elt vs (d :: ds) ρ (r :: rs) ρ4
  | no {d : PyData} {ds rs : List PyData} {ρ ρ1 ρ2 ρ4 : List Sl} {js : List Nat} : (hj : ∀ j ∈ js, j ∈ vs) → Blk X scope (fun Y => TgD Y tg d (wipeA vs 0 ρ) ρ1 js) → Blk X scope (fun Y => Ts Y ifs ρ1 false ρ2) →
      CL X scope tg ifs elt vs ds ρ2 rs ρ4 → CL X scope tg ifs elt vs (d :: ds) ρ rs ρ4
  | pre {ds rs : List PyData} {ρ ρ1 ρ4 : List Sl} : Le (wipeA vs 0 ρ) (wipeA vs 0 ρ1) → CL X scope tg ifs elt vs ds ρ1 rs ρ4 → CL X scope tg ifs elt vs ds ρ rs ρ4
def CTurn (X : Cx) (scope : Scope) (tg : Expr) (ifs : List Expr) (elt : Expr) (vs : List Nat) (d : PyData) (ds : List PyData) (ρ : List Sl) (rs : List PyData) (ρ4 : List Sl) : Prop := ∃ ρ1 js b ρ2, (∀ j ∈ js, j ∈ vs) ∧ Blk X scope (fun Y => TgD Y tg d (wipeA vs 0 ρ) ρ1 js) ∧ Blk X scope (fun Y => Ts Y ifs ρ1 b ρ2) ∧
  ((b = true ∧ ∃ r rs' ρ3, rs = r :: rs' ∧ Blk X scope (fun Y => E Y elt ρ2 r ρ3) ∧ CL X scope tg ifs elt vs ds ρ3 rs' ρ4) ∨ (b = false ∧ CL X scope tg ifs elt vs ds ρ2 rs ρ4))
theorem cl_cases {vs : List Nat} {ρ4 : List Sl} (h : CL X scope tg ifs elt vs ds ρ rs ρ4) : ∃ ρ0, Le (wipeA vs 0 ρ) (wipeA vs 0 ρ0) ∧ ((ds = [] ∧ rs = [] ∧ ρ4 = ρ0) ∨ ∃ d es, ds = d :: es ∧ CTurn X scope tg ifs elt vs d es ρ0 rs ρ4) := by
  induction h with
  | nil => exact ⟨_, Le.refl _, .inl ⟨rfl, rfl, rfl⟩⟩
  | yes hj h1 h2 h3 h4 _ => exact ⟨_, Le.refl _, .inr ⟨_, _, rfl, _, _, true, _, hj, h1, h2, .inl ⟨rfl, _, _, _, rfl, h3, h4⟩⟩⟩
  | no hj h1 h2 h4 _ => exact ⟨_, Le.refl _, .inr ⟨_, _, rfl, _, _, false, _, hj, h1, h2, .inr ⟨rfl, h4⟩⟩⟩
  | pre h1 _ ih =>
    obtain ⟨ρ0, h2, h3⟩ := ih
    exact ⟨ρ0, h1.trans h2, h3⟩
def anyBG (X : Cx) (scope : Scope) (tg : Expr) : TG := fun v σ H Q => ∃ d ρ ρ' js, Blk X scope (fun Y => TgD Y tg d ρ ρ' js) ∧ cG X.K d ρ ρ' js v σ H Q
def anyBT (X : Cx) (scope : Scope) (ifs : List Expr) : TT := fun σ H Q => ∃ ρ b ρ', Blk X scope (fun Y => Ts Y ifs ρ b ρ') ∧ cT X.K ρ b ρ' σ H Q
def anyBE (X : Cx) (scope : Scope) (e : Expr) : TE := fun σ H Q => ∃ ρ d ρ', Blk X scope (fun Y => E Y e ρ d ρ') ∧ cE X.K ρ d ρ' σ H Q
/-- what a comprehension's reading asks -/
theorem lc_read {ta : TI} (hta : ta = cI X.K ρ ys ρ1) {vs : List Nat} {D : VK} {σ : L2.St} {H : Hp} (hcl : CL X scope tg ifs elt vs ys ρ1 rs ρ2) (hz : ys.length ≤ 1000000) (h : cO X.K ρ rs (joinA vs 0 ρ1 ρ2) σ H D) :
    tLc ta (anyBG X scope tg) (anyBT X scope ifs) (anyBE X scope elt) vs σ H D := by
  subst hta
  obtain ⟨F, G, ad, w, k⟩ := h
  refine ⟨F, G, ad, w, fun J H1 G1 ad1 e1 w1 wk => fun Dl hD => ?_⟩
  have hG1 : G1 Dl = none := w1.gh.none hD
  have hF : F Dl = none := w1.fh.none hD
  have had : ∀ j, Dl ∉ ad1 j := fun j q => by
    obtain ⟨o, ho⟩ := w1.there j Dl q
    rw [hD] at ho; cases ho
  refine ⟨fun i m H => m = ys.length - i ∧ i ≤ ys.length ∧ ∃ ρi Gi adi acc done todo, Ext F G1 Gi ∧ Gi Dl = none ∧ (∀ j, Dl ∉ adi j) ∧ Sta X.K F Gi H (wipe σ vs) (wipeA vs 0 ρi) adi ∧ H Dl = some (.lst acc) ∧ DaAll X.K Gi acc done ∧ done.length ≤ i ∧
    CL X scope tg ifs elt vs (ys.drop i) ρi todo ρ2 ∧ rs = done ++ todo, ⟨ys.length, by simp, Nat.zero_le _, ρ1, G1, ad1, [], [], rs, Ext.refl _ _, hG1, had, (w1.mutX hG1 hF had).wipe vs, upd_same, .nil, Nat.le_refl _, by simpa using hcl, rfl⟩, ?_⟩
  rintro i m H2 ⟨rfl, hle, ρi, Gi, adi, acc, done, todo, e2, g2, a2, w2, hacc, hdone, hlen, hl2, hrs⟩
  obtain ⟨ws, wg⟩ := wk H2 Gi e2.1 w2.gh
  obtain ⟨ρ0, le, hcase⟩ := cl_cases hl2
  have w2' := w2.le le
  rcases hcase with ⟨hnil, htodo, hρ⟩ | ⟨d, es, hcons, ρt, js, b, ρu, hj, ht, hb, ho⟩
  · have ei : i = ys.length := by
      have := List.drop_eq_nil_iff.mp hnil
      omega
    subst ei hρ htodo
    rw [List.append_nil] at hrs
    subst hrs
    exact .inl ⟨ws, k Dl acc H2 Gi adi (e1.trans e2) (w2'.unwipe w1 e2.1) hF g2 a2 hacc hdone⟩
  · obtain ⟨hd, hes⟩ := drop_cons hcons
    obtain ⟨hgo, hy⟩ := wg i d hd
    have hlt : i < ys.length := (List.getElem?_eq_some_iff.mp hd).1
    refine .inr ⟨hgo, fun H => ∃ ρi Gi adi acc done todo, Ext F G1 Gi ∧ Gi Dl = none ∧ (∀ j, Dl ∉ adi j) ∧ Sta X.K F Gi H (wipe σ vs) (wipeA vs 0 ρi) adi ∧ H Dl = some (.lst acc) ∧ DaAll X.K Gi acc done ∧ done.length ≤ i + 1 ∧
      CL X scope tg ifs elt vs (ys.drop (i + 1)) ρi todo ρ2 ∧ rs = done ++ todo, fun H' hN => ⟨ys.length - (i + 1), by omega, rfl, hlt, hN⟩, fun x H' hx => ?_⟩
    obtain ⟨G3, x1, x2, x3, x4⟩ := hy x H' hx
    have w3 := (w2'.framed hacc a2).grow x1 x2 x3
    have e3 : Ext (upd F Dl (.lst acc)) Gi G3 := x2.weak (w2'.framed hacc a2).fh
    refine ⟨d, _, ρt, js, ht, _, G3, adi, w3, x4, fun σ4 H4 G4 ad4 o4 e4 w4 => ⟨wipe_off o4 hj, ρt, b, ρu, hb, _, G4, ad4, w4, fun H5 G5 ad5 e5 w5 => ?_⟩⟩
    -- back from the frame that holds the list made so far
    have back : ∀ {G6 H6 : Hp} {ad6 : Nat → List Addr} {ρ6 : List Sl}, Ext (upd F Dl (.lst acc)) Gi G6 → Sta X.K (upd F Dl (.lst acc)) G6 H6 σ4 ρ6 ad6 → Ext F G1 G6 ∧ G6 Dl = none ∧ (∀ j, Dl ∉ ad6 j) ∧ Sta X.K F G6 H6 (wipe σ vs) (wipeA vs 0 ρ6) ad6 ∧ H6 Dl = some (.lst acc) := fun {G6 H6 ad6 ρ6} e6 w6 => by
      refine ⟨e2.trans (e6.weak (Ex.new hF)), e6.none (upd_same) g2, fun j q => ?_, ?_, w6.fh _ _ upd_same⟩
      · have := (w6.own j Dl q).2
        rw [upd_same] at this; cases this
      · have z := (w6.frame (Ex.new hF)).wipe vs
        rw [wipe_off o4 hj] at z
        exact z
    rcases ho with ⟨rfl, r, rs', ρ3, hr, he, hcl'⟩ | ⟨rfl, hcl'⟩
    · refine iteT ?_
      refine ⟨ρu, r, ρ3, he, _, G5, ad5, w5, fun v H6 G6 ad6 e6 w6 pv => ?_⟩
      obtain ⟨b1, b2, b3, b4, b5⟩ := back (((e3.trans e4).trans e5).trans e6) w6
      refine ⟨acc, b5, ?_, ρ3, G6, ad6, acc ++ [v], done ++ [r], rs', b1, b2, b3, b4.mutX b2 hF b3, upd_same, daAll_app (daAll_ex (((e3.trans e4).trans e5).trans e6).1 hdone) (.cons pv .nil), ?_, by rw [hes]; exact hcl', ?_⟩
      · rw [daAll_len hdone]
        have := sizeLine_big
        omega
      · rw [List.length_append, List.length_singleton]; omega
      · rw [hrs, hr, List.append_assoc]; rfl
    · refine iteF ?_
      obtain ⟨b1, b2, b3, b4, b5⟩ := back ((e3.trans e4).trans e5) w5
      exact ⟨ρu, G5, ad5, acc, done, todo, b1, b2, b3, b4, b5, daAll_ex ((e3.trans e4).trans e5).1 hdone, by omega, by rw [hes]; exact hcl', hrs⟩
theorem eo_lc {own : List (Str × Nat)} (hi : Iter X tg it ρ ys ρ1) (hcl : CL X scope tg ifs elt (own.map (·.2)) ys ρ1 rs ρ2) (hz : ys.length ≤ 1000000) (hN : X.N.Nodup) (ok : BlkOk X.N X.env.scope scope own) (hc : X.calm = true := by rfl) (hs : ∀ x, foldedSetIterable it X.env x = pure x := by intro _; rfl) :
    EO X (.ListComp elt [⟨tg, it, ifs, 0⟩] scope pos) ρ rs (joinA (own.map (·.2)) 0 ρ1 ρ2) :=
  pe_imp (pe_lc (g := anyBG X scope tg) (tt := anyBT X scope ifs) (te := anyBE X scope elt) hc hN hi ok (fun s H C cl fp => ⟨fun pins s' σ H v u Q I r ⟨d, ρ, ρ', js, h, k⟩ => (h _ _ C cl fp).run pins s' σ H v u Q I r k⟩) (fun s H C cl fp => ⟨fun pins s' σ H Q I ⟨ρ, b, ρ', h, k⟩ => (h _ _ C cl fp).run pins s' σ H Q I k⟩)
    (fun s H C cl fp => ⟨fun pins s' σ H Q I ⟨ρ, d, ρ', h, k⟩ => (h _ _ C cl fp).run pins s' σ H Q I k⟩) hs) fun σ H Q h => lc_read rfl hcl hz h
/-- y = [.. for ..] -/
theorem s_setLc (i : Nat) {own : List (Str × Nat)} {y : Str} {py spos : Pos} (hi : Iter X tg it ρ ys ρ1) (hcl : CL X scope tg ifs elt (own.map (·.2)) ys ρ1 rs ρ2) (hz : ys.length ≤ 1000000) (hN : X.N.Nodup) (ok : BlkOk X.N X.env.scope scope own) (hl : i < ρ2.length) (hc : X.calm = true := by rfl)
    (hy : X.N[i]? = some y := by rfl) (hyl : X.env.scope.names.lookup y = some .local := by rfl) (hsw : swapsWith (.ListComp elt [⟨tg, it, ifs, 0⟩] scope pos) (some (.Name y py)) spos.line X.env = pure true := by exact sw_true rfl rfl rfl (by decide +kernel)) (hs : ∀ x, foldedSetIterable it X.env x = pure x := by intro _; rfl) :
    S1 X (.Assign [.Name y py] (.ListComp elt [⟨tg, it, ifs, 0⟩] scope pos) spos) ρ (.nx ((joinA (own.map (·.2)) 0 ρ1 ρ2).set i (.own rs))) :=
  ps_imp (ps_setLc (i := i) (g := anyBG X scope tg) (tt := anyBT X scope ifs) (te := anyBE X scope elt) hc hN hy hyl hsw hi ok (fun s H C cl fp => ⟨fun pins s' σ H v u Q I r ⟨d, ρ, ρ', js, h, k⟩ => (h _ _ C cl fp).run pins s' σ H v u Q I r k⟩) (fun s H C cl fp => ⟨fun pins s' σ H Q I ⟨ρ, b, ρ', h, k⟩ => (h _ _ C cl fp).run pins s' σ H Q I k⟩)
    (fun s H C cl fp => ⟨fun pins s' σ H Q I ⟨ρ, d, ρ', h, k⟩ => (h _ _ C cl fp).run pins s' σ H Q I k⟩) hs) fun D σ H ⟨F, G, ad, w, k⟩ => lc_read rfl hcl hz ⟨F, G, ad, w, fun l xs H1 G1 ad1 e1 w1 q1 q2 q3 q4 q5 => k _ H1 G1 _ e1 (w1.setO q4 q5 q1 q2 q3 (by rw [joinA_len]; exact hl))⟩
end
end DL
end part_DLf
section part_DLg
namespace DL
open L2 PyProof.Rows PySem.Spec PySem
section
variable {X : Cx} {e a b c tg it l elt : Expr} {rest ifs : List Expr} {ρ ρ0 ρ1 ρ2 ρ3 : List Sl} {d d1 d2 d3 : PyData} {ds es ys rs : List PyData} {x : Str} {pos : Pos} {p q : Bool} {i j : Int}
theorem same_end {K : PySem.W.Frag} {H G : Hp} {Q : VK} {v : V} (e : Ex G H) (k : ∀ v H' G', Ex H H' → Ext H G G' → Ex G' H' → Da K G' v d → Q v H') (h : Da K G v d) : Q v H := k v H G (Ex.refl H) (Ext.refl H G) e h
theorem new_end {K : PySem.W.Frag} {H G : Hp} {Q : VK} {l : Addr} {xs : List V} (e : Ex G H) (k : ∀ v H' G', Ex H H' → Ext H G G' → Ex G' H' → Da K G' v (.tuple ds) → Q v H') (hl : H l = none) (h : DaAll K G xs ds) : Q (.ref l) (upd H l (.tup xs)) :=
  k _ _ (upd G l (.tup xs)) (Ex.new hl) (Ext.new hl (e.none hl)) e.both (.tup (SqT.of upd_same) (daAll_ex (Ex.new (e.none hl)) h))
/-! ### ints -/
theorem ov_int0 {f : Value → Value → Sem Value} {g : Int → Int → V} (h : OpR X f (rI0 g)) (hg : ∀ (G : Hp) i j, Da X.K G (g i j) (d)) : OpV X f (.int i) (.int j) d := op_imp h fun x y H Q ⟨G, e, p1, p2, k⟩ => by
  cases p1
  cases p2
  exact ⟨i, j, rfl, rfl, same_end e k (hg G i j)⟩
theorem ov_rI0 {f : Value → Value → Sem Value} {g : Int → Int → V} {gd : Int → Int → PyData} (h : OpR X f (rI0 g)) (hg : ∀ (G : Hp) i j, Da X.K G (g i j) (gd i j)) : OpV X f (.int i) (.int j) (gd i j) := op_imp h fun x y H Q ⟨G, e, p1, p2, k⟩ => by
  cases p1
  cases p2
  exact ⟨i, j, rfl, rfl, same_end e k (hg G i j)⟩
theorem ov_rI {f : Value → Value → Sem Value} {C : Int → Int → Prop} {g : Int → Int → V} {gd : Int → Int → PyData} (h : OpR X f (rI C g)) (hg : ∀ (G : Hp) i j, Da X.K G (g i j) (gd i j)) (hc : C i j) : OpV X f (.int i) (.int j) (gd i j) := op_imp h fun x y H Q ⟨G, e, p1, p2, k⟩ => by
  cases p1
  cases p2
  exact ⟨i, j, rfl, rfl, hc, same_end e k (hg G i j)⟩
theorem ov_add : OpV X (binaryOp .Add) (.int i) (.int j) (.int (i + j)) := ov_rI0 op_add fun _ _ _ => .int _
theorem ov_sub : OpV X (binaryOp .Sub) (.int i) (.int j) (.int (i - j)) := ov_rI0 op_sub fun _ _ _ => .int _
theorem ov_mul (h : CMulW i j) : OpV X (binaryOp .Mult) (.int i) (.int j) (.int (i * j)) := ov_rI op_mulW (fun _ _ _ => .int _) h
theorem ov_mulS (h : CMul i j) : OpV X (binaryOp .Mult) (.int i) (.int j) (.int (i * j)) := ov_rI op_mul (fun _ _ _ => .int _) h
theorem ov_mod (h : j ≠ 0) : OpV X (binaryOp .Mod) (.int i) (.int j) (.int (i.fmod j)) := ov_rI op_modN (fun _ _ _ => .int _) h
def CDivWN (_ j : Int) : Prop := j ≠ 0 ∧ j.natAbs.log2 < 9000
theorem op_fdivWN : OpR X (binaryOp .FloorDiv) (rI CDivWN fun i j => .int (i.fdiv j)) := opI fun _ _ _ _ _ _ _ hc q => floordiv_int hc.1 q (.inl (PyProof.noPylong_of_log2 hc.2))
theorem ov_fdiv (h : j ≠ 0) (h2 : j.natAbs.log2 < 9000) : OpV X (binaryOp .FloorDiv) (.int i) (.int j) (.int (i.fdiv j)) := ov_rI op_fdivWN (fun _ _ _ => .int _) ⟨h, h2⟩
theorem ov_lt : OpV X (compareOp .Lt) (.int i) (.int j) (.bool (decide (i < j))) := ov_rI0 op_lt fun _ _ _ => .bl _
theorem ov_le : OpV X (compareOp .LtE) (.int i) (.int j) (.bool (decide (i ≤ j))) := ov_rI0 op_le fun _ _ _ => .bl _
theorem ov_gt : OpV X (compareOp .Gt) (.int i) (.int j) (.bool (decide (j < i))) := ov_rI0 op_gt fun _ _ _ => .bl _
theorem ov_ge : OpV X (compareOp .GtE) (.int i) (.int j) (.bool (decide (j ≤ i))) := ov_rI0 op_ge fun _ _ _ => .bl _
theorem ov_eqI : OpV X (compareOp .Eq) (.int i) (.int j) (.bool (decide (i = j))) := op_imp op_eq fun x y H Q ⟨G, e, p1, p2, k⟩ => by
  cases p1
  cases p2
  have z : decide (V.int i = V.int j) = decide (i = j) := by rw [dec_int, Bool.beq_eq_decide_eq]
  exact ⟨rfl, by rw [z]; exact same_end e k (.bl _)⟩
theorem ov_neI : OpV X (compareOp .NotEq) (.int i) (.int j) (.bool (!decide (i = j))) := op_imp op_ne fun x y H Q ⟨G, e, p1, p2, k⟩ => by
  cases p1
  cases p2
  have z : decide (V.int i = V.int j) = decide (i = j) := by rw [dec_int, Bool.beq_eq_decide_eq]
  exact ⟨rfl, by rw [z]; exact same_end e k (.bl _)⟩
theorem ov_eqS {t u : Str} : OpV X (compareOp .Eq) (.str t) (.str u) (.bool (decide (t = u))) := op_imp op_eq fun x y H Q ⟨G, e, p1, p2, k⟩ => by
  cases p1
  cases p2
  have w : decide (V.str t = V.str u) = decide (t = u) := by rw [dec_str, Bool.beq_eq_decide_eq]
  exact ⟨rfl, by rw [w]; exact same_end e k (.bl _)⟩
theorem ov_neS {t u : Str} : OpV X (compareOp .NotEq) (.str t) (.str u) (.bool (!decide (t = u))) := op_imp op_ne fun x y H Q ⟨G, e, p1, p2, k⟩ => by
  cases p1
  cases p2
  have w : decide (V.str t = V.str u) = decide (t = u) := by rw [dec_str, Bool.beq_eq_decide_eq]
  exact ⟨rfl, by rw [w]; exact same_end e k (.bl _)⟩
def isNone : PyData → Bool
  | .none => true
  | _ => false
theorem isNone_of {K : PySem.W.Frag} {G : Hp} {v : V} (h : Da K G v d) : decide (v = .non) = isNone d := by cases h <;> rfl
theorem ov_is : OpV X (compareOp .Is) d .none (.bool (isNone d)) := op_imp op_isN fun x y H Q ⟨G, e, p1, p2, k⟩ => by
  cases p2
  exact ⟨rfl, by rw [isNone_of p1]; exact same_end e k (.bl _)⟩
theorem ov_isnt : OpV X (compareOp .IsNot) d .none (.bool (!isNone d)) := op_imp op_notN fun x y H Q ⟨G, e, p1, p2, k⟩ => by
  cases p2
  exact ⟨rfl, by rw [isNone_of p1]; exact same_end e k (.bl _)⟩
/-- -a -/
theorem e_neg (h : E X a ρ (.int i) ρ1) : E X (.UnaryOp .USub a pos) ρ (.int (-i)) ρ1 := pe_imp (pe_un un_neg h) fun σ H Q ⟨F, G, ad, w, k⟩ => ⟨F, G, ad, w, fun v H' G' ad' e w' q => by
  cases q
  exact ⟨i, rfl, k _ H' G' ad' e w' (.int _)⟩⟩
/-! ### data without dicts, for == and repr -/
mutual
def flatD : PyData → Bool
  | .list xs => flatDs xs
  | .tuple xs => flatDs xs
  | .dict _ => false
  | _ => true
def flatDs : List PyData → Bool
  | [] => true
  | x :: xs => flatD x && flatDs xs
end
mutual
theorem dp_of {K : PySem.W.Frag} {G H : Hp} (e : Ex G H) : ∀ {v : V} {d : PyData}, Da K G v d → flatD d = true → Dp K H v d
  | _, _, .non, _ => .non
  | _, _, .bl b, _ => .bl b
  | _, _, .int i, _ => .int i
  | _, _, .str x, _ => .str x
  | _, _, .lst h1 h2, f => .lst (SqL.of (e _ _ h1)) (dpAll_of e h2 (by simpa [flatD] using f))
  | _, _, .tup h1 h2, f => .tup (sqT_ex e h1) (dpAll_of e h2 (by simpa [flatD] using f))
  | _, _, .dct h1 h2, f => by simp [flatD] at f
theorem dpAll_of {K : PySem.W.Frag} {G H : Hp} (e : Ex G H) : ∀ {v : List V} {d : List PyData}, DaAll K G v d → flatDs d = true → DpAll K H v d
  | _, _, .nil, _ => .nil
  | _, _, .cons h1 h2, f => by
    have f' := Bool.and_eq_true_iff.mp (by simpa [flatDs] using f)
    exact .cons (dp_of e h1 f'.1) (dpAll_of e h2 f'.2)
end
/-- == over data -/
theorem ov_eqD (hu : X.A.units + 64 < cLine) (h1 : SeqAt.shaped d1 = true) (h2 : SeqAt.shaped d2 = true) (f1 : flatD d1 = true) (f2 : flatD d2 = true) : OpV X (compareOp .Eq) d1 d2 (.bool (PyData.eqv d1 d2)) := op_imp (op_eqD hu) fun x y H Q ⟨G, e, p1, p2, k⟩ =>
  ⟨d1, d2, dp_of e p1 f1, dp_of e p2 f2, h1, h2, same_end e k (.bl _)⟩
theorem ov_neD (hu : X.A.units + 64 < cLine) (h1 : SeqAt.shaped d1 = true) (h2 : SeqAt.shaped d2 = true) (f1 : flatD d1 = true) (f2 : flatD d2 = true) : OpV X (compareOp .NotEq) d1 d2 (.bool (!PyData.eqv d1 d2)) := op_imp (op_neD hu) fun x y H Q ⟨G, e, p1, p2, k⟩ =>
  ⟨d1, d2, dp_of e p1 f1, dp_of e p2 f2, h1, h2, same_end e k (.bl _)⟩
/-! ### subscripts -/
def IxV (X : Cx) (d1 d2 d : PyData) : Prop := IxR X (cOp X.K d1 d2 d)
theorem ix_imp {r r' : R2} (h : IxR X r) (k : ∀ x y H Q, r' x y H Q → r x y H Q) : IxR X r' := fun e1 e2 pins s σ H x y v u Q I rx ry q hs => h e1 e2 pins s σ H x y v u Q I rx ry (k x y H Q q) hs
theorem atI_len {α β : Type} {xs : List α} {ys : List β} (hl : xs.length = ys.length) {y : β} (h : atI ys i = some y) : ∃ k : Nat, ys[k]? = some y ∧ ∀ x, xs[k]? = some x → atI xs i = some x := by
  unfold atI at h ⊢
  rw [hl]
  cases e : ixN ys.length i with
  | none => rw [e] at h; cases h
  | some k =>
    rw [e] at h
    exact ⟨k, h, fun x hx => hx⟩
theorem ixv_tup (h : atI ds i = some d) : IxV X (.tuple ds) (.int i) d := ix_imp ix_tup fun x y H Q ⟨G, e, p1, p2, k⟩ => by
  cases p1 with
  | tup h1 h2 =>
    cases p2
    obtain ⟨j, hj, hx⟩ := atI_len (daAll_len h2) h
    obtain ⟨v, hv, pv⟩ := daAll_get h2 hj
    exact ⟨_, _, i, v, rfl, rfl, sqT_ex e h1, hx v hv, same_end e k pv⟩
theorem ixv_lst (h : atI ds i = some d) : IxV X (.list ds) (.int i) d := ix_imp ix_list fun x y H Q ⟨G, e, p1, p2, k⟩ => by
  cases p1 with
  | lst h1 h2 =>
    cases p2
    obtain ⟨j, hj, hx⟩ := atI_len (daAll_len h2) h
    obtain ⟨v, hv, pv⟩ := daAll_get h2 hj
    exact ⟨_, _, i, v, rfl, rfl, SqL.of (e _ _ h1), hx v hv, same_end e k pv⟩
theorem e_ix (ha : E X a ρ d1 ρ1) (hb : E X b ρ1 d2 ρ2) (ho : IxV X d1 d2 d) (hs : PlainIx b := by exact fun _ _ => rfl) : E X (.Subscript a b pos) ρ d ρ2 :=
  pe_imp (pe_ix ho ha hb hs) fun σ H Q h => two rfl rfl (fun _ _ _ _ z => z) h
/-- t[0], t a tuple -/
theorem e_ixt {k : Nat} {j : Nat} {pos2 : Pos} (ha : E X a ρ (.tuple ds) ρ1) (h : ds[k]? = some d := by rfl) : E X (.Subscript a (.Constant (.int (k : Int)) j pos2) pos) ρ d ρ1 :=
  e_ix ha e_int (ixv_tup (atI_nat h))
theorem e_ixl {k : Nat} {j : Nat} {pos2 : Pos} (ha : E X a ρ (.list ds) ρ1) (h : ds[k]? = some d := by rfl) : E X (.Subscript a (.Constant (.int (k : Int)) j pos2) pos) ρ d ρ1 :=
  e_ix ha e_int (ixv_lst (atI_nat h))
/-! ### built-ins -/
theorem cv_one {f : Value} {r : List V → Hp → VK → Prop} (h : CallR X f r) (k : ∀ v H G Q, Ex G H → Da X.K G v d1 → (∀ v H' G', Ex H H' → Ext H G G' → Ex G' H' → Da X.K G' v d → Q v H') → r [v] H Q) : CV X f [d1] d := call_imp h fun vs H Q ⟨G, e, p, q⟩ => by
  obtain ⟨v, rfl, pv⟩ := daAll_one p
  exact k v H G Q e pv q
theorem cv_abs : CV X (.builtin "abs") [.int i] (.int (if i < 0 then -i else i)) := cv_one call_abs fun v H G Q e p k => by
  cases p
  exact ⟨i, rfl, same_end e k (.int _)⟩
theorem cv_int : CV X (.type "int") [.int i] (.int i) := cv_one call_int1 fun v H G Q e p k => by
  cases p
  exact .inl ⟨i, rfl, same_end e k (.int _)⟩
theorem cv_intB : CV X (.type "int") [.bool p] (.int (if p then 1 else 0)) := cv_one call_int1 fun v H G Q e q k => by
  cases q
  exact .inr ⟨p, rfl, same_end e k (.int _)⟩
theorem cv_max (hc : X.calm = true) : CV X (.builtin "max") [.int i, .int j] (.int (if j > i then j else i)) := call_imp (call_max2 hc) fun vs H Q ⟨G, e, p, q⟩ => by
  obtain ⟨v, u, rfl, pv, pu⟩ := daAll_two p
  cases pv
  cases pu
  exact ⟨i, j, rfl, same_end e q (.int _)⟩
theorem cv_min (hc : X.calm = true) : CV X (.builtin "min") [.int i, .int j] (.int (if j < i then j else i)) := call_imp (call_min2 hc) fun vs H Q ⟨G, e, p, q⟩ => by
  obtain ⟨v, u, rfl, pv, pu⟩ := daAll_two p
  cases pv
  cases pu
  exact ⟨i, j, rfl, same_end e q (.int _)⟩
theorem cv_gcd : CV X (.builtin "math.gcd") [.int i, .int j] (.int ((Nat.gcd i.natAbs j.natAbs : Nat) : Int)) := call_imp cr_gcd fun vs H Q ⟨G, e, p, q⟩ => by
  obtain ⟨v, u, rfl, pv, pu⟩ := daAll_two p
  cases pv
  cases pu
  exact ⟨i, j, rfl, same_end e q (.int _)⟩
theorem cv_lenL : CV X (.builtin "len") [.list ds] (.int (ds.length : Int)) := cv_one call_len_seq fun v H G Q e p k => by
  cases p with
  | lst h1 h2 => exact ⟨_, _, rfl, .inl (SqL.of (e _ _ h1)), by rw [daAll_len h2]; exact same_end e k (.int _)⟩
theorem cv_lenT : CV X (.builtin "len") [.tuple ds] (.int (ds.length : Int)) := cv_one call_len_seq fun v H G Q e p k => by
  cases p with
  | tup h1 h2 => exact ⟨_, _, rfl, .inr (sqT_ex e h1), by rw [daAll_len h2]; exact same_end e k (.int _)⟩
theorem cv_tupL : CV X (.type "tuple") [.list ds] (.tuple ds) := cv_one call_tuple_of fun v H G Q e p k => by
  cases p with
  | lst h1 h2 => exact ⟨_, _, rfl, .inl ⟨SqL.of (e _ _ h1), fun l hl => new_end e k hl h2⟩⟩
theorem cv_tupT : CV X (.type "tuple") [.tuple ds] (.tuple ds) := cv_one call_tuple_of fun v H G Q e p k => by
  cases p with
  | tup h1 h2 => exact ⟨_, _, rfl, .inr ⟨sqT_ex e h1, same_end e k (.tup h1 h2)⟩⟩
theorem co_new {K : PySem.W.Frag} {H G : Hp} {Q : VK} {xs : List V} (e : Ex G H) (k : ∀ l xs H' G', Ex H H' → Ext H G G' → Ex G' H' → H l = none → G' l = none → H' l = some (.lst xs) → DaAll K G' xs es → Q (.ref l) H') (h : DaAll K G xs es) (l : Addr) (hl : H l = none) : Q (.ref l) (upd H l (.lst xs)) :=
  k l xs _ G (Ex.new hl) (Ext.refl H G) (e.mut (e.none hl)) hl (e.none hl) upd_same h
theorem co_listL : CO X (.type "list") [.list ds] ds := call_imp call_list_of fun vs H Q ⟨G, e, p, q⟩ => by
  obtain ⟨v, rfl, pv⟩ := daAll_one p
  cases pv with
  | lst h1 h2 => exact ⟨_, _, rfl, .inl (SqL.of (e _ _ h1)), fun l hl => co_new e q h2 l hl⟩
theorem co_listT : CO X (.type "list") [.tuple ds] ds := call_imp call_list_of fun vs H Q ⟨G, e, p, q⟩ => by
  obtain ⟨v, rfl, pv⟩ := daAll_one p
  cases pv with
  | tup h1 h2 => exact ⟨_, _, rfl, .inr (sqT_ex e h1), fun l hl => co_new e q h2 l hl⟩
theorem cv_all {bs : List Bool} (hc : X.calm = true) : CV X (.builtin "all") [.list (bs.map PyData.bool)] (.bool (bs.all id)) := cv_one (cr_all hc) fun v H G Q e p k => by
  cases p with
  | lst h1 h2 =>
    have z := bls_daAll h2
    subst z
    exact ⟨_, bs, rfl, SqL.of (e _ _ h1), same_end e k (.bl _)⟩
theorem cv_any {bs : List Bool} (hc : X.calm = true) : CV X (.builtin "any") [.list (bs.map PyData.bool)] (.bool (bs.any id)) := cv_one (cr_any hc) fun v H G Q e p k => by
  cases p with
  | lst h1 h2 =>
    have z := bls_daAll h2
    subst z
    exact ⟨_, bs, rfl, SqL.of (e _ _ h1), same_end e k (.bl _)⟩
/-! ### lists -/
theorem oo_cat (hz : ds.length + es.length ≤ 1000000) : OpO X (binaryOp .Add) (.list ds) (.list es) (ds ++ es) := op_imp op_cat fun x y H Q ⟨G, e, p1, p2, k⟩ => by
  cases p1 with
  | lst h1 h2 =>
    cases p2 with
    | lst h3 h4 => exact ⟨_, _, _, _, rfl, rfl, e _ _ h1, e _ _ h3, by rw [daAll_len h2, daAll_len h4]; exact Nat.le_trans hz sizeLine_big, fun l hl => k l _ hl (daAll_app h2 h4)⟩
theorem ov_catT (hz : ds.length + es.length ≤ 1000000) (hd : ds ≠ []) : OpV X (binaryOp .Add) (.tuple ds) (.tuple es) (.tuple (ds ++ es)) := op_imp op_catT fun x y H Q ⟨G, e, p1, p2, k⟩ => by
  cases p1 with
  | tup h1 h2 =>
    cases p2 with
    | tup h3 h4 =>
      refine ⟨_, _, _, _, rfl, rfl, sqT_ex e h1, sqT_ex e h3, fun z => ?_, by rw [daAll_len h2, daAll_len h4]; exact Nat.le_trans hz sizeLine_big, fun z => ?_, fun z l hl => new_end e k hl (daAll_app h2 h4)⟩
      · subst z; cases h2; exact hd rfl
      · subst z; cases h4
        rw [List.append_nil] at k
        exact same_end e k (.tup h1 h2)
end
end DL
end part_DLg
section part_DLh
namespace DL
open L2 PyProof.Rows PySem.Spec PySem
section
variable {X : Cx} {e a b c tg it l elt : Expr} {rest ifs : List Expr} {ρ ρ0 ρ1 ρ2 ρ3 : List Sl} {d d1 d2 d3 : PyData} {ds es ys rs : List PyData} {x : Str} {pos : Pos} {p q : Bool} {i j : Int}
/-! ### lists of one's own -/
theorem Sta.own_at {K : PySem.W.Frag} {F G H : Hp} {σ : L2.St} {ad : Nat → List Addr} {k : Nat} (w : Sta K F G H σ ρ ad) (h : ρ[k]? = some (.own ds)) : ∃ l xs, σ[k]? = some (some (.ref l)) ∧ H l = some (.lst xs) ∧ DaAll K G xs ds ∧ G l = none := by
  obtain ⟨l, xs, h1, h2, h3, h4⟩ := w.hold k _ h
  exact ⟨l, xs, h1, h3, h4, (w.own k l h2).1⟩
theorem s_append (k : Nat) {apos cpos npos : Pos} (h : E X e ρ d ρ1) (hk : ρ[k]? = some (.own es) := by rfl) (hk1 : ρ1[k]? = some (.own ds) := by rfl) (hz : ds.length < 1000000) (hN : X.N[k]? = some x := by rfl) (hv : Vis X.env.scope x := by first | exact Or.inl rfl | exact Or.inr (Or.inl rfl) | exact Or.inr (Or.inr rfl))
    (hd : (x == ("__debug__" : Str)) = false := by decide) (hcd : (x == ("__classdict__" : Str)) = false := by decide)
    (pe : ∀ {te : TE}, PE X e te → PE X (.Call (.Attribute (.Name x npos) "append" apos) [e] [] cpos) (tBM X.K "list" rAppend (tVar k) (tCons te tNil)) := by exact fun h => pe_bm PySem.F.plainAttrs_list PySem.F.slot_list_append PySem.F.type_list_append mt_append (pv _) (pa_cons h pa_nil))
    (hs : swapsWith (.Call (.Attribute (.Name x npos) "append" apos) [e] [] cpos) none pos.line X.env = pure false := by rfl) :
    S1 X (.Expr (.Call (.Attribute (.Name x npos) "append" apos) [e] [] cpos) pos) ρ (.nx (ρ1.set k (.own (ds ++ [d])))) :=
  ps_imp (ps_expr (pe h) hs) fun D σ H ⟨F, G, ad, w, q⟩ => by
    obtain ⟨l, xs, h1, h2, h3, h4⟩ := w.own_at hk
    refine ⟨_, h1, .inl ⟨rfl, _, .inl (.inl h2)⟩, F, G, ad, w, fun v H1 G1 ad1 e1 w1 p1 => ?_⟩
    obtain ⟨l', xs', g1, g2, g3, g4⟩ := w1.own_at hk1
    have el : l' = l := by
      rw [h1] at g1
      cases g1
      rfl
    subst el
    exact ⟨l', xs', v, rfl, rfl, g2, by rw [daAll_len g3]; exact Nat.lt_of_lt_of_le hz sizeLine_big, q σ _ G1 ad1 e1 (w1.mutO hk1 h1 (daAll_app g3 (.cons p1 .nil)))⟩
/-- xs.pop(e), a value -/
theorem e_popAt (k : Nat) {apos cpos npos : Pos} (h : E X e ρ (.int i) ρ1) (hi : 0 ≤ i) {j : Nat} (hj : i = (j : Int)) (hk : ρ[k]? = some (.own es) := by rfl) (hk1 : ρ1[k]? = some (.own ds) := by rfl) (hg : ds[j]? = some d) (hz : ds.length < 1000000) (hN : X.N[k]? = some x := by rfl) (hv : Vis X.env.scope x := by first | exact Or.inl rfl | exact Or.inr (Or.inl rfl) | exact Or.inr (Or.inr rfl))
    (hd : (x == ("__debug__" : Str)) = false := by decide) (hcd : (x == ("__classdict__" : Str)) = false := by decide)
    (pe : ∀ {te : TE}, PE X e te → PE X (.Call (.Attribute (.Name x npos) "pop" apos) [e] [] cpos) (tBM X.K "list" rPopAt (tVar k) (tCons te tNil)) := by exact fun h => pe_bm PySem.F.plainAttrs_list PySem.F.slot_list_pop PySem.F.type_list_pop mt_popAt (pv _) (pa_cons h pa_nil)) :
    E X (.Call (.Attribute (.Name x npos) "pop" apos) [e] [] cpos) ρ d (ρ1.set k (.own (ds.eraseIdx j))) :=
  pe_imp (pe h) fun σ H Q ⟨F, G, ad, w, q⟩ => by
    obtain ⟨l, xs, h1, h2, h3, h4⟩ := w.own_at hk
    refine ⟨_, h1, .inl ⟨rfl, _, .inl (.inl h2)⟩, F, G, ad, w, fun v H1 G1 ad1 e1 w1 p1 => ?_⟩
    cases p1
    obtain ⟨l', xs', g1, g2, g3, g4⟩ := w1.own_at hk1
    have el : l' = l := by
      rw [h1] at g1
      cases g1
      rfl
    subst el
    obtain ⟨v, hv, pv⟩ := daAll_get g3 hg
    have hl := daAll_len g3
    have hlt : j < xs'.length := (List.getElem?_eq_some_iff.mp hv).1
    refine ⟨l', xs', i, j, v, rfl, rfl, g2, by omega, by omega, ?_, hv, q v _ G1 ad1 e1 (w1.mutO hk1 h1 (daAll_erase j g3)) pv⟩
    have := (ixN_seq (n := xs'.length) (i := i) (j := j) (by unfold ixN; rw [if_pos hi, if_pos (by omega), hj]; rfl)).1
    exact this
/-! ### the source's fields -/
theorem kne (y z : Str) (h : y ≠ z) : decide ((Sum.inr y : Key) = Sum.inr z) = false := decide_eq_false fun q => h (Sum.inr.inj q)
theorem valV_cons {y : Str} {v : V} {r : List (Key × V)} (z : Str) : valV ((Sum.inr y, v) :: r) (Sum.inr z) = if y = z then some v else valV r (Sum.inr z) := by
  unfold valV
  rw [List.find?_cons]
  by_cases h : y = z
  · subst h
    simp
  · rw [kne y z h, if_neg h]
theorem src_left (l : Addr) (t : Src) : valV (srcK l t) (Sum.inr "left") = some (.int t.left) := by
  unfold srcK
  rw [valV_cons, if_neg (by decide), valV_cons, if_pos rfl]
theorem src_mixed (l : Addr) (t : Src) : valV (srcK l t) (Sum.inr "mixed") = some (.int t.mixed) := by
  unfold srcK
  rw [valV_cons, if_neg (by decide), valV_cons, if_neg (by decide), valV_cons, if_pos rfl]
theorem src_turn (l : Addr) (t : Src) : valV (srcK l t) (Sum.inr "turn") = some (.int t.turn) := by
  unfold srcK
  rw [valV_cons, if_neg (by decide), valV_cons, if_neg (by decide), valV_cons, if_neg (by decide), valV_cons, if_pos rfl]
theorem src_cells (l : Addr) (t : Src) : valV (srcK l t) (Sum.inr "cells") = some (.ref l) := by
  unfold srcK
  rw [valV_cons, if_pos rfl]
/-- other keys than the source's own four -/
def moreOk (t : Src) : Prop := ∀ kv ∈ t.more, kv.1 ≠ (Sum.inr "cells" : Key) ∧ kv.1 ≠ (Sum.inr "left" : Key) ∧ kv.1 ≠ (Sum.inr "mixed" : Key) ∧ kv.1 ≠ (Sum.inr "turn" : Key)
theorem putK_here {y : Str} {v w : V} {pre post : List (Key × V)} (h1 : ∀ kv ∈ pre, kv.1 ≠ Sum.inr y) (h2 : ∀ kv ∈ post, kv.1 ≠ Sum.inr y) : putK (pre ++ (Sum.inr y, v) :: post) (Sum.inr y) w = pre ++ (Sum.inr y, w) :: post := by
  unfold putK
  rw [if_pos (by simp)]
  have id_of : ∀ l : List (Key × V), (∀ kv ∈ l, kv.1 ≠ Sum.inr y) → (l.map fun kv => if kv.1 = Sum.inr y then (kv.1, w) else kv) = l := fun l h => by
    induction l with
    | nil => rfl
    | cons z r ih =>
      rw [List.map_cons, ih fun kv hm => h kv (List.mem_cons_of_mem _ hm), if_neg (h z List.mem_cons_self)]
  rw [List.map_append, List.map_cons, id_of pre h1, id_of post h2, if_pos rfl]
theorem ne_k {y z : Str} {v : V} (h : y ≠ z := by decide) : ((Sum.inr y, v) : Key × V).1 ≠ (Sum.inr z : Key) := fun q => h (Sum.inr.inj q)
theorem put_left (l : Addr) (t : Src) (hm : moreOk t) (n : Int) : putK (srcK l t) (Sum.inr "left") (.int n) = srcK l { t with left := n } :=
  putK_here (pre := [(Sum.inr "cells", V.ref l)]) (post := (Sum.inr "mixed", V.int t.mixed) :: (Sum.inr "turn", V.int t.turn) :: t.more) (by intro kv h; rw [List.mem_singleton] at h; subst h; exact ne_k) (by
    intro kv h
    simp only [List.mem_cons] at h
    rcases h with rfl | rfl | h
    · exact ne_k
    · exact ne_k
    · exact (hm kv h).2.1)
theorem put_mixed (l : Addr) (t : Src) (hm : moreOk t) (n : Int) : putK (srcK l t) (Sum.inr "mixed") (.int n) = srcK l { t with mixed := n } :=
  putK_here (pre := [(Sum.inr "cells", V.ref l), (Sum.inr "left", V.int t.left)]) (post := (Sum.inr "turn", V.int t.turn) :: t.more) (by intro kv h; simp only [List.mem_cons, List.not_mem_nil, or_false] at h; rcases h with rfl | rfl <;> exact ne_k) (by
    intro kv h
    simp only [List.mem_cons] at h
    rcases h with rfl | h
    · exact ne_k
    · exact (hm kv h).2.2.1)
theorem put_turn (l : Addr) (t : Src) (hm : moreOk t) (n : Int) : putK (srcK l t) (Sum.inr "turn") (.int n) = srcK l { t with turn := n } :=
  putK_here (pre := [(Sum.inr "cells", V.ref l), (Sum.inr "left", V.int t.left), (Sum.inr "mixed", V.int t.mixed)]) (post := t.more) (by intro kv h; simp only [List.mem_cons, List.not_mem_nil, or_false] at h; rcases h with rfl | rfl | rfl <;> exact ne_k) (by
    intro kv h
    exact (hm kv h).2.2.2)
variable {s0 l0 : Addr} {t : Src}
/-- source["left"] .. -/
theorem e_src (k : Nat) {key : Str} {npos cpos : Pos} {jj : Nat} {n : Int} (hf : ∀ l, valV (srcK l t) (Sum.inr key) = some (.int n)) (hu : X.A.units + 1 < cLine) (hk : ρ[k]? = some (.src s0 l0 t) := by rfl) (hN : X.N[k]? = some x := by rfl) (hv : Vis X.env.scope x := by first | exact Or.inl rfl | exact Or.inr (Or.inl rfl) | exact Or.inr (Or.inr rfl))
    (hd : (x == ("__debug__" : Str)) = false := by decide) (hcd : (x == ("__classdict__" : Str)) = false := by decide) : E X (.Subscript (.Name x npos) (.Constant (.str key) jj cpos) pos) ρ (.int n) ρ :=
  pe_imp (pe_dget hu (pe_var hN hv hd hcd) pe_str (fun _ _ => rfl)) fun σ H Q ⟨F, G, ad, w, q⟩ => by
    obtain ⟨h1, h2, h3, h4⟩ := w.hold k _ hk
    exact ⟨_, h1, s0, _, rfl, by rw [← hf l0]; exact DGet.k (k := Sum.inr key) h4.d, q _ H G ad (Ext.refl F G) w (.int n)⟩
theorem e_srcLen (k : Nat) {npos cpos spos p0 : Pos} {jj : Nat} (hu : X.A.units + 1 < cLine) (hm : X.mg "len" = none) (hk : ρ[k]? = some (.src s0 l0 t) := by rfl) (hg : Gl X "len" := by rfl) (hN : X.N[k]? = some x := by rfl) (hv : Vis X.env.scope x := by first | exact Or.inl rfl | exact Or.inr (Or.inl rfl) | exact Or.inr (Or.inr rfl))
    (hd : (x == ("__debug__" : Str)) = false := by decide) (hcd : (x == ("__classdict__" : Str)) = false := by decide)
    (he : starEach [(.Subscript (.Name x npos) (.Constant (.str "cells") jj cpos) spos)] X.env = (false, eval (.Subscript (.Name x npos) (.Constant (.str "cells") jj cpos) spos) X.env) :: starEach [] X.env := by rfl) (hpl : (backTo pos (starEach [] X.env)).any (·.1) = false := by rfl) :
    E X (.Call (.Name "len" p0) [.Subscript (.Name x npos) (.Constant (.str "cells") jj cpos) spos] [] pos) ρ (.int (t.cells.length : Int)) ρ :=
  pe_imp (pe_callB call_len_seq hg hm (by decide +kernel) (pa_cons (pe_dget hu (pe_var hN hv hd hcd) pe_str (fun _ _ => rfl)) pa_nil he) (by decide) (by decide) he hpl) fun σ H Q ⟨F, G, ad, w, q⟩ => by
    obtain ⟨h1, h2, h3, h4⟩ := w.hold k _ hk
    refine ⟨_, h1, s0, _, rfl, by rw [← src_cells l0 t]; exact DGet.k (k := Sum.inr "cells") h4.d, l0, _, rfl, .inl (SqL.of h4.c), ?_⟩
    rw [List.length_map]
    exact q _ H G ad (Ext.refl F G) w (.int _)
theorem e_srcPop (k : Nat) {npos cpos spos apos : Pos} {jj : Nat} {n : Int} (hu : X.A.units + 1 < cLine) (hk : ρ[k]? = some (.src s0 l0 t) := by rfl) (hlast : t.cells[t.cells.length - 1]? = some n) (hN : X.N[k]? = some x := by rfl) (hv : Vis X.env.scope x := by first | exact Or.inl rfl | exact Or.inr (Or.inl rfl) | exact Or.inr (Or.inr rfl))
    (hd : (x == ("__debug__" : Str)) = false := by decide) (hcd : (x == ("__classdict__" : Str)) = false := by decide)
    (pe : ∀ {te : TE}, PE X (.Subscript (.Name x npos) (.Constant (.str "cells") jj cpos) spos) te → PE X (.Call (.Attribute (.Subscript (.Name x npos) (.Constant (.str "cells") jj cpos) spos) "pop" apos) [] [] pos) (tBM0 X.K "list" rPop te) := by exact fun h => pe_bm0 PySem.F.plainAttrs_list PySem.F.slot_list_pop PySem.F.type_list_pop mt_pop h) :
    E X (.Call (.Attribute (.Subscript (.Name x npos) (.Constant (.str "cells") jj cpos) spos) "pop" apos) [] [] pos) ρ (.int n) (ρ.set k (.src s0 l0 { t with cells := t.cells.dropLast })) :=
  pe_imp (pe (pe_dget hu (pe_var hN hv hd hcd) pe_str (fun _ _ => rfl))) fun σ H Q ⟨F, G, ad, w, q⟩ => by
    obtain ⟨h1, h2, h3, h4⟩ := w.hold k _ hk
    refine ⟨_, h1, s0, V.ref l0, rfl, by rw [← src_cells l0 t]; exact DGet.k (k := Sum.inr "cells") h4.d, .inl ⟨rfl, _, .inl (.inl h4.c)⟩, l0, _, .int n, rfl, rfl, h4.c, by rw [List.length_map, List.getElem?_map, hlast]; rfl, ?_⟩
    have fs := w.own k s0 h2
    have fl := w.own k l0 h3
    have ne : s0 ≠ l0 := ne_of h4.d h4.c (by intro z; cases z)
    obtain ⟨y1, y2⟩ := w.src (H' := upd H l0 (.lst (t.cells.map V.int).dropLast)) (G' := G) (t' := { t with cells := t.cells.dropLast }) hk (Ext.refl _ G) (fun a o ho => by
      rw [upd_ne (hide2_of ho).2]
      exact hide2_ex a o ho) (w.gh.mut fl.1) ⟨by rw [upd_ne ne]; exact h4.d, by rw [upd_same, List.map_dropLast]⟩ fs.1 fl.1
    exact q _ _ G ad y1 y2 (.int n)
theorem s_srcSet (k : Nat) {key : Str} {npos cpos pos' : Pos} {jj : Nat} {n : Int} {t' : Src} (h : E X e ρ (.int n) ρ1) (hu : X.A.units + 1 < cLine) (hput : ∀ l, putK (srcK l t) (Sum.inr key) (.int n) = srcK l t') (hcells : t'.cells = t.cells) (hlen : t.more.length < 1000) (hk : ρ1[k]? = some (.src s0 l0 t) := by rfl) (hN : X.N[k]? = some x := by rfl) (hv : Vis X.env.scope x := by first | exact Or.inl rfl | exact Or.inr (Or.inl rfl) | exact Or.inr (Or.inr rfl))
    (hd : (x == ("__debug__" : Str)) = false := by decide) (hcd : (x == ("__classdict__" : Str)) = false := by decide) (hs : swapsWith e (some (.Subscript (.Name x npos) (.Constant (.str key) jj cpos) pos')) pos.line X.env = pure false := by rfl) :
    S1 X (.Assign [.Subscript (.Name x npos) (.Constant (.str key) jj cpos) pos'] e pos) ρ (.nx (ρ1.set k (.src s0 l0 t'))) :=
  ps_imp (ps_dput hu (pe_var hN hv hd hcd) pe_str h hs) fun D σ H ⟨F, G, ad, w, q⟩ => ⟨F, G, ad, w, fun v H1 G1 ad1 e1 w1 p1 => by
    cases p1
    obtain ⟨h1, h2, h3, h4⟩ := w1.hold k _ hk
    have fs := w1.own k s0 h2
    have fl := w1.own k l0 h3
    have ne : s0 ≠ l0 := ne_of h4.d h4.c (by intro z; cases z)
    refine ⟨_, h1, s0, _, rfl, DPut.k (k := Sum.inr key) h4.d (by unfold srcK; simp only [List.length_cons]; have := sizeLine_big; omega), ?_⟩
    rw [hput]
    obtain ⟨y1, y2⟩ := w1.src (H' := upd H1 s0 (.dK (srcK l0 t'))) (G' := G1) (t' := t') hk (Ext.refl _ G1) (fun a o ho => by
      rw [upd_ne (hide2_of ho).1]
      exact hide2_ex a o ho) (w1.gh.mut fs.1) ⟨upd_same, by rw [upd_ne (Ne.symm ne), hcells]; exact h4.c⟩ fs.1 fl.1
    exact q σ _ G1 ad1 (e1.trans y1) y2⟩
end
end DL
end part_DLh
section part_DLi
namespace DL
open L2 PyProof.Rows PySem.Spec PySem
/-! ### a def's body -/
structure CxA where
  f : Addr
  cdv : Value
  A : Around
  outer : List Env
  s : Shared
  H : Hp
  E : XK
section
variable (P : Program) (w : World) (K : PySem.W.Frag) (mg : Str → Option Value) (base : Heap)
/-- the context of the body of st, the def x with the names N -/
abbrev cx (N : List Str) (x : Str) (st : Stmt) (a : CxA) : Cx := (cxOf L2.CX0 P w K mg base N x (defScope st) a.f a.cdv a.A a.outer a.s a.H a.E).nox
/-- the def x of the text st stands behind the top -/
structure Put (x : Str) (st : Stmt) : Prop where
  ex : ∃ f fd, mg x = some (.ref f) ∧ FunD K x x (defArgs st) (defBody st) (defScope st) [] [] f fd
/-- .. and keeps sp -/
structure Def (x : Str) (k : Nat) (ps : List Str) (sp : Sp) : Prop where
  ex : ∃ f fd, mg x = some (.ref f) ∧ PySem.W.keepIn K (.ref f) = true ∧ Binds K fd ps [] ∧ FnG P w K mg base L2.CX0 k f fd ps sp
end
def dataS (N : List Str) (n : Nat) (l : List Sl) : List Sl := l ++ List.replicate (N.length - n) Sl.un
section
variable {P : Program} {w : World} {K : PySem.W.Frag} {mg : Str → Option Value} {base : Heap} {x : Str} {st : Stmt} {N ps : List Str} {k : Nat} {sp : Sp}
/-- room for calls; no repr under way -/
abbrev Rm (k : Nat) (A : Around) : Prop := Room k A ∧ A.guards = some []
theorem Def.known {A : Around} {j : Nat} (d : Def P w K mg base x k ps sp) (hr : Rm j A) (h : k ≤ j := by decide) : Known P w K mg base A x sp := by
  obtain ⟨f, fd, h1, h2, h3, h4⟩ := d.ex
  exact ⟨k, f, fd, ps, h4, ⟨hr.1.mono h, hr.2⟩, h1, h2, h3⟩
/-- how the arguments bind -/
abbrev BindsOf (st : Stmt) (x : Str) (ps : List Str) : Prop := ∀ (kV doc pm : Value) (an : Option Addr) (cdv ct : Value) (us : List Value), us.length = ps.length → bindArgs (PySem.W.fnOf x x (defArgs st) (defBody st) (defScope st) .none kV doc pm an cdv ct) ⟨us, []⟩ = pure (ps.zip us)
theorem sta0 {F G H : Hp} {N : List Str} {vs : List V} {l : List Sl} (e1 : Ex G H) (e2 : Ex F H) (hl : vs.length = l.length) (hN : vs.length ≤ N.length) (ad : Nat → List Addr) (h1 : ∀ i a, a ∈ ad i → G a = none ∧ F a = none) (h2 : ∀ i a, a ∈ ad i → ∃ o, H a = some o) (h3 : ∀ i j a, a ∈ ad i → a ∈ ad j → i = j)
    (h : ∀ i r, l[i]? = some r → Hold K G H ((vs.map some)[i]?) (ad i) r) : Sta K F G H (L2.start N vs) (dataS N vs.length l) ad :=
  ⟨e1, e2, h1, h2, h3, by unfold L2.start dataS; simp [hl], fun i r q => by
    unfold dataS at q
    unfold L2.start
    by_cases hi : i < l.length
    · rw [List.getElem?_append_left hi] at q
      rw [List.getElem?_append_left (by rw [List.length_map, hl]; exact hi)]
      exact h i r q
    · rw [List.getElem?_append_right (by omega), List.getElem?_replicate] at q
      split at q
      · cases q
        trivial
      · cases q⟩
theorem startData {G : Hp} : ∀ {vs : List V} {ds : List PyData}, DaAll K G vs ds → ∀ (H : Hp) (as : List Addr) (i : Nat) (r : Sl), (ds.map Sl.dat)[i]? = some r → Hold K G H ((vs.map some)[i]?) as r := fun {vs ds} h H as i r q => by
  rw [List.getElem?_map] at q
  cases e : ds[i]? with
  | none => rw [e] at q; cases q
  | some d =>
    rw [e] at q
    cases q
    obtain ⟨v, hv, pv⟩ := daAll_get h e
    exact ⟨v, by rw [List.getElem?_map, hv]; rfl, pv⟩
/-- how a body may end -/
inductive Done (X : Cx) (n : Nat) (body : List Stmt) (ρ : List Sl) (d : PyData) : Prop
  | rt (h : S X body ρ (.rt d (List.replicate n .un)))
  | nx {ρ' : List Sl} (h : S X body ρ (.nx ρ')) (e : d = .none)
/-- a def over data -/
theorem def_P {R : List PyData → PyData → Prop} (hp : Put K mg x st) (S : FnScope N ps (defScope st)) (hb : BindsOf st x ps) (hN : ps.length ≤ N.length) (hl : ∀ ds d, R ds d → ds.length = ps.length)
    (body : ∀ (a : CxA), Rm k (cx P w K mg base N x st a).A → ∀ ds d, R ds d → Done (cx P w K mg base N x st a) N.length (defBody st) (dataS N ds.length (ds.map Sl.dat)) d) : Def P w K mg base x (k + 1) ps (spP K R) := by
  obtain ⟨f, fd, h1, F⟩ := hp.ex
  have b := F.bindsN (ps := ps) hb
  refine ⟨f, fd, h1, F.kp, b, fnG_of F S (fun vs H Q E h => ?_) (fun cdv A outer s H vs Q E hr0 hgd h => ?_)⟩
  · obtain ⟨ds, d, hR, G, _, hd, _⟩ := h
    rw [daAll_len hd, hl ds d hR]
  · obtain ⟨ds, d, hR, G, e, hd, q⟩ := h
    have len : vs.length = ds.length := daAll_len hd
    have w0 : Sta K H G H (L2.start N vs) (dataS N ds.length (ds.map Sl.dat)) (fun _ => []) := by
      rw [← len]
      exact sta0 e (Ex.refl H) (by rw [len, List.length_map]) (by rw [len, hl ds d hR]; exact hN) _ (fun _ _ z => nomatch z) (fun _ _ z => nomatch z) (fun _ _ _ z => nomatch z) (startData hd H [])
    have hbody := body ⟨f, cdv, A, outer, s, H, E⟩ ⟨hr0, hgd⟩ ds d hR
    cases hbody with
    | rt hS => exact ⟨_, PSs.nox hS, H, G, _, w0, fun σ' H' G' ad' e' w' v pv => q v H' G' w'.fh e' w'.gh pv⟩
    | nx hS ed =>
      subst ed
      exact ⟨_, PSs.nox hS, H, G, _, w0, fun σ' H' G' ad' e' w' => q .non H' G' w'.fh e' w'.gh .non⟩
/-- a def whose first argument is the source -/
theorem def_S {R : Src → List PyData → Src → PyData → Prop} (hp : Put K mg x st) (S : FnScope N ps (defScope st)) (hb : BindsOf st x ps) (hN : ps.length ≤ N.length) (hl : ∀ t ds t' d, R t ds t' d → ds.length + 1 = ps.length)
    (body : ∀ (a : CxA), Rm k (cx P w K mg base N x st a).A → ∀ s l t ds t' d, R t ds t' d → DL.S (cx P w K mg base N x st a) (defBody st) (dataS N (ds.length + 1) (.src s l t :: ds.map Sl.dat)) (.rt d (.src s l t' :: List.replicate (N.length - 1) .un))) : Def P w K mg base x (k + 1) ps (spS K R) := by
  obtain ⟨f, fd, h1, F⟩ := hp.ex
  have b := F.bindsN (ps := ps) hb
  refine ⟨f, fd, h1, F.kp, b, fnG_of F S (fun vs H Q E h => ?_) (fun cdv A outer sh H vs Q E hr0 hgd h => ?_)⟩
  · obtain ⟨F, G, s, l, t, vs', ds, t', d, rfl, _, _, _, _, hd, hR, _⟩ := h
    rw [List.length_cons, daAll_len hd, hl t ds t' d hR]
  · obtain ⟨F, G, s, l, t, vs', ds, t', d, rfl, hs, ⟨f1, f2, f3, f4⟩, e1, e2, hd, hR, q⟩ := h
    have len : vs'.length = ds.length := daAll_len hd
    have ne : s ≠ l := ne_of hs.d hs.c (by intro z; cases z)
    have w0 : Sta K F G H (L2.start N (.ref s :: vs')) (dataS N (ds.length + 1) (.src s l t :: ds.map Sl.dat)) (fun i => if i = 0 then [s, l] else []) := by
      rw [← len]
      refine sta0 (vs := .ref s :: vs') e2 e1 (by simp [len]) (by have := hl t ds t' d hR; simp [len]; omega) _ (fun i a z => ?_) (fun i a z => ?_) (fun i j a z1 z2 => ?_) (fun i r z => ?_)
      · by_cases hi : i = 0
        · rw [if_pos hi] at z
          simp only [List.mem_cons, List.not_mem_nil, or_false] at z
          rcases z with rfl | rfl
          · exact ⟨f3, f1⟩
          · exact ⟨f4, f2⟩
        · rw [if_neg hi] at z; cases z
      · by_cases hi : i = 0
        · rw [if_pos hi] at z
          simp only [List.mem_cons, List.not_mem_nil, or_false] at z
          rcases z with rfl | rfl
          · exact ⟨_, hs.d⟩
          · exact ⟨_, hs.c⟩
        · rw [if_neg hi] at z; cases z
      · by_cases hi : i = 0
        · by_cases hj : j = 0
          · omega
          · rw [if_neg hj] at z2; cases z2
        · rw [if_neg hi] at z1; cases z1
      · cases i with
        | zero =>
          cases z
          exact ⟨rfl, by simp, by simp, hs⟩
        | succ i => exact startData hd H _ i r (by simpa using z)
    have hS := body ⟨f, cdv, A, outer, sh, H, E⟩ ⟨hr0, hgd⟩ s l t ds t' d hR
    refine ⟨_, PSs.nox hS, F, G, _, w0, fun σ' H' G' ad' e' w' v pv => ?_⟩
    obtain ⟨g1, g2, g3, g4⟩ := w'.hold 0 (.src s l t') rfl
    exact q v H' G' e' w'.fh w'.gh g4 (w'.own 0 s g2).1 (w'.own 0 l g3).1 pv
/-- the same, what it hands back told by some word alone -/
theorem def_Sx {pre : Src → List PyData → Prop} {post : Src → List PyData → Src → PyData → Prop} (hp : Put K mg x st) (S : FnScope N ps (defScope st)) (hb : BindsOf st x ps) (hN : ps.length ≤ N.length) (hl : ∀ t ds, pre t ds → ds.length + 1 = ps.length)
    (body : ∀ t ds, pre t ds → ∃ t' d, post t ds t' d ∧ ∀ (a : CxA), Rm k (cx P w K mg base N x st a).A → ∀ s l, DL.S (cx P w K mg base N x st a) (defBody st) (dataS N (ds.length + 1) (.src s l t :: ds.map Sl.dat)) (.rt d (.src s l t' :: List.replicate (N.length - 1) .un))) :
    ∃ R, Def P w K mg base x (k + 1) ps (spS K R) ∧ ∀ t ds, pre t ds → ∃ t' d, R t ds t' d ∧ post t ds t' d := by
  refine ⟨fun t ds t' d => ds.length + 1 = ps.length ∧ ∀ (a : CxA), Rm k (cx P w K mg base N x st a).A → ∀ s l, DL.S (cx P w K mg base N x st a) (defBody st) (dataS N (ds.length + 1) (.src s l t :: ds.map Sl.dat)) (.rt d (.src s l t' :: List.replicate (N.length - 1) .un)),
    def_S hp S hb hN (fun _ _ _ _ h => h.1) fun a hr s l t ds t' d h => h.2 a hr s l, fun t ds h => ?_⟩
  obtain ⟨t', d, h1, h2⟩ := body t ds h
  exact ⟨t', d, ⟨hl t ds h, h2⟩, h1⟩
/-- the law -/
def spL (K : PySem.W.Frag) : Sp := fun vs H Q _ => ∃ (a : Addr) (ns : List Int), vs = [.ref a] ∧ SqL K H a (ns.map V.int) ∧ ns.length ≤ 63 ∧ ∀ H', Q (.bl true) H'
theorem def_L {f : Addr} {fd : FuncData} (F : FunD K x x (defArgs st) (defBody st) (defScope st) [] [] f fd) (S : FnScope N ps (defScope st)) (hb : BindsOf st x ps) (hN : ps.length ≤ N.length) (hl : ps.length = 1)
    (body : ∀ (a : CxA), Rm k (cx P w K mg base N x st a).A → ∀ ns : List Int, ns.length ≤ 63 → DL.S (cx P w K mg base N x st a) (defBody st) (dataS N 1 [.scr ns]) (.rt (.bool true) (List.replicate N.length .un))) : FnG P w K mg base L2.CX0 (k + 1) f fd ps (spL K) := by
  refine fnG_of F S (fun vs H Q E h => ?_) (fun cdv A outer sh H vs Q E hr0 hgd h => ?_)
  · obtain ⟨a, ns, rfl, _⟩ := h
    rw [hl]; rfl
  · obtain ⟨a, ns, rfl, hs, hn, q⟩ := h
    have w0 : Sta K (fun _ => none) H H (L2.start N [.ref a]) (dataS N 1 [.scr ns]) (fun _ => []) :=
      sta0 (vs := [.ref a]) (Ex.refl H) (fun _ _ z => by cases z) rfl (by rw [hl] at hN; exact hN) _ (fun _ _ z => nomatch z) (fun _ _ z => nomatch z) (fun _ _ _ z => nomatch z) fun i r z => by
        cases i with
        | zero => cases z; exact ⟨a, rfl, hs⟩
        | succ i => cases z
    have hS := body ⟨f, cdv, A, outer, sh, H, E⟩ ⟨hr0, hgd⟩ ns hn
    refine ⟨_, PSs.nox hS, _, H, _, w0, fun σ' H' G' ad' e' w' v pv => ?_⟩
    cases pv
    exact q H'
/-- the def that makes the source of the script -/
def spSrc (K : PySem.W.Frag) (g : List Int → Src) : Sp := fun vs H Q _ => ∃ (a : Addr) (ns : List Int), vs = [.ref a] ∧ SqL K H a (ns.map V.int) ∧ ns.length ≤ 1000 ∧ ∀ s l H', H s = none → H l = none → Ex H H' → SrcAt H' s l (g ns) → Q (.ref s) H'
end
section
variable {X : Cx} {e a b c : Expr} {ρ ρ1 : List Sl} {d : PyData} {x y : Str} {pos : Pos}
/-- s = f(script), the source made -/
theorem s_source (i j : Nat) {g : List Int → Src} {z : Str} {ns : List Int} {p0 p1 p2 pos2 : Pos} {rs : List Stmt} {o : Out} (f : Kn X x (spSrc X.K g)) (hz : ns.length ≤ 1000) (hk : ∀ s l, S X rs (ρ.set i (.src s l (g ns))) o) (hN : X.N.Nodup) (h0 : ρ[j]? = some (.scr ns) := by rfl) (hl : i < ρ.length := by exact Nat.le_of_ble_eq_true rfl) (hg : Gl X x := by rfl)
    (hNj : X.N[j]? = some y := by rfl) (hNi : X.N[i]? = some z := by rfl) (hv : Vis X.env.scope y := by first | exact Or.inl rfl | exact Or.inr (Or.inl rfl) | exact Or.inr (Or.inr rfl)) (hd : (y == ("__debug__" : Str)) = false := by decide) (hcd : (y == ("__classdict__" : Str)) = false := by decide)
    (hdb : (x == ("__debug__" : Str)) = false := by decide) (he : starEach [.Name y p0] X.env = (false, eval (.Name y p0) X.env) :: starEach [] X.env := by rfl) (hpl : (backTo pos (starEach [] X.env)).any (·.1) = false := by rfl)
    (hx : Loc X.env.scope z := by first | exact Or.inl rfl | exact Or.inr rfl) (hs : swapsWith (.Call (.Name x p1) [.Name y p0] [] pos) (some (.Name z p2)) pos2.line X.env = pure false := by rfl)
    (hf : X.fn z = true ∨ X.env.scope.names.lookup z = some .local := by first | exact .inl rfl | exact .inr rfl) : S X (.Assign [.Name z p2] (.Call (.Name x p1) [.Name y p0] [] pos) pos2 :: rs) ρ o := by
  obtain ⟨k, f, fd, ps, F, ⟨hr, hgd⟩, hm, hk2, hb⟩ := f.ex
  refine pss_imp (pss_cons (ps_set hN hNi hx (pe_callG F hr hgd hg hm hk2 hb .nil pass0 (pa_cons (pe_var hNj hv hd hcd) pa_nil he) hdb he hpl) hs hf) anyS_ok) fun D σ H ⟨F, G, ad, w, k⟩ => ?_
  obtain ⟨a, h2, h3⟩ := w.hold j _ h0
  refine ⟨_, h2, a, ns, rfl, sqL_ex w.gh h3, hz, fun s l H' hs hl' e1 hS => ?_⟩
  have gs := w.gh.none hs
  have gl := w.gh.none hl'
  have ns' : ∀ j, s ∉ ad j := fun j q => by
    obtain ⟨o, ho⟩ := w.there j s q
    rw [hs] at ho; cases ho
  have nl' : ∀ j, l ∉ ad j := fun j q => by
    obtain ⟨o, ho⟩ := w.there j l q
    rw [hl'] at ho; cases ho
  have w1 : Sta X.K F G H' (σ.set i (some (.ref s))) (ρ.set i (.src s l (g ns))) (fun j => if j = i then [s, l] else ad j) := by
    refine ⟨w.gh.trans e1, w.fh.trans e1, fun j a q => ?_, fun j a q => ?_, fun j k a q1 q2 => ?_, by rw [List.length_set, List.length_set]; exact w.len, fun j r q => ?_⟩
    · by_cases e : j = i
      · rw [if_pos e] at q
        simp only [List.mem_cons, List.not_mem_nil, or_false] at q
        rcases q with rfl | rfl
        · exact ⟨gs, w.fh.none hs⟩
        · exact ⟨gl, w.fh.none hl'⟩
      · rw [if_neg e] at q; exact w.own j a q
    · by_cases e : j = i
      · rw [if_pos e] at q
        simp only [List.mem_cons, List.not_mem_nil, or_false] at q
        rcases q with rfl | rfl
        · exact ⟨_, hS.d⟩
        · exact ⟨_, hS.c⟩
      · rw [if_neg e] at q
        obtain ⟨o, ho⟩ := w.there j a q
        exact ⟨o, e1 a o ho⟩
    · by_cases e : j = i
      · rw [if_pos e] at q1
        simp only [List.mem_cons, List.not_mem_nil, or_false] at q1
        by_cases e2 : k = i
        · rw [e, e2]
        · rw [if_neg e2] at q2
          rcases q1 with rfl | rfl
          · exact absurd q2 (ns' k)
          · exact absurd q2 (nl' k)
      · rw [if_neg e] at q1
        by_cases e2 : k = i
        · rw [if_pos e2] at q2
          simp only [List.mem_cons, List.not_mem_nil, or_false] at q2
          rcases q2 with rfl | rfl
          · exact absurd q1 (ns' j)
          · exact absurd q1 (nl' j)
        · rw [if_neg e2] at q2; exact w.dis j k a q1 q2
    · by_cases e : j = i
      · subst e
        rw [List.getElem?_set_self (by rw [← w.len] at hl; rw [← w.len]; exact hl)] at q
        cases q
        rw [List.getElem?_set_self (by rw [w.len]; exact hl), if_pos rfl]
        exact ⟨rfl, by simp, by simp, hS⟩
      · rw [List.getElem?_set_ne (Ne.symm e)] at q ⊢
        rw [if_neg e]
        exact (w.hold j r q).grow (Ex.refl G) fun a _ u z => e1 a u z
  exact ⟨_, o, hk s l, F, G, _, w1, k⟩
/-- the script walked -/
theorem i_scr (j : Nat) {ns : List Int} {p0 : Pos} {tg : Expr} (h0 : ρ[j]? = some (.scr ns) := by rfl) (hNj : X.N[j]? = some y := by rfl) (hv : Vis X.env.scope y := by first | exact Or.inl rfl | exact Or.inr (Or.inl rfl) | exact Or.inr (Or.inr rfl)) (hd : (y == ("__debug__" : Str)) = false := by decide) (hcd : (y == ("__classdict__" : Str)) = false := by decide) :
    Iter X tg (.Name y p0) ρ (ns.map PyData.int) ρ := pi_imp (pi_list (pe_var hNj hv hd hcd)) fun σ H R ⟨F, G, ad, w, k⟩ => by
  obtain ⟨a, h2, h3⟩ := w.hold j _ h0
  refine ⟨_, h2, a, rfl, ⟨_, sqL_ex w.gh h3⟩, k _ H G ad (Ext.refl F G) w fun H2 G2 g1 g2 => ⟨⟨_, sqL_ex (g1.trans g2) h3, by rw [List.length_map, List.length_map]; exact Nat.le_refl _⟩, fun i d hi => ?_⟩⟩
  rw [List.getElem?_map] at hi
  cases e : ns[i]? with
  | none => rw [e] at hi; cases hi
  | some n =>
    rw [e] at hi
    cases hi
    have hx : (ns.map V.int)[i]? = some (V.int n) := by rw [List.getElem?_map, e]; rfl
    refine ⟨⟨_, _, sqL_ex (g1.trans g2) h3, hx⟩, fun x H' ⟨e, z⟩ => ?_⟩
    subst e
    have zz := z _ (sqL_ex (g1.trans g2) h3)
    rw [hx] at zz
    cases zz
    exact ⟨G2, Ex.refl _, Ext.refl _ _, g2, .int n⟩
/-- forget behind -/
theorem S.rt_le {st : List Stmt} {ρ' ρ2 : List Sl} (h : S X st ρ (.rt d ρ')) (l : Le ρ' ρ2) : S X st ρ (.rt d ρ2) := pss_imp h fun D σ H ⟨F, G, ad, w, k⟩ => ⟨F, G, ad, w, fun σ' H' G' ad' e w' => k σ' H' G' ad' e (w'.le l)⟩
end
end DL
end part_DLi
section part_DLend
/-! The law's end over such defs. -/
namespace DL
open L2 PyProof.Rows PySem.Spec PySem
section
variable {P : Program} {w : World} {K : PySem.W.Frag} {mg mb : Str → Option Value} {k : Nat} {fa a : Addr} {fd : FuncData} {x : Str} {sp : Sp} {s₁ : Shared} {vs : List Value} {ns : List Int}
/-- how the law's call ends -/
def LawOk (s₁ : Shared) (r : Result) (s' : Shared) : Prop := r = .ok (.ret (.bool true)) ∧ OldK s₁.heap s'.heap ∧ s'.os = s₁.os ∧ AllBare s'.gens
/-- from an abstract heap H in which the script alone may stand -/
theorem lawG_at (KX : K.In s₁.heap) (hns : s₁.heap.Ns mainGlobals mg) (hb : s₁.heap.Ns builtinsNs mb) (hbb : ∀ x : Str, x ≠ "__name__" → mb x = bootBuiltins x) (hlim : s₁.heap.NoLimit) (hg : s₁.gens = #[])
    (ha : s₁.heap.get? a = some { cls := .type "list", data := .seq vs.toArray }) (hr : Room k callerA) (F : ∀ base : Heap, K.In base → base.Ns mainGlobals mg → FnG P w K mg base L2.CX0 k fa fd [x] sp) (hbind : ∀ (s : Shared) (u : Value), BindsTo s fd ⟨[u], []⟩ [(x, u)])
    (H : Hp) (hO : Only H) (hok : HOk P w H s₁.heap) (hA : ∀ b, H b ≠ none → b = a) (hK : H a ≠ none → K.lookup a = none) (hsp : sp [.ref a] H (fun v _ => v = .bl true) fun _ _ _ => False) : codeAny (model P w) callerA (.call (.ref fa) ⟨[.ref a], []⟩) (LawOk s₁) s₁ := by
  have at_a : ∀ {b : Addr} {u : HO}, H b = some u → b = a := fun {b u} q => hA b (by rw [q]; exact Option.some_ne_none u)
  have dict_free : ∀ {b : Addr} {o : Obj} {es : Array DictEntry} {ep : Nat}, s₁.heap.get? b = some o → o.data = .dict es ep → H b = none := fun {b o es ep} e d => by
    match q : H b with
    | none => rfl
    | some u =>
      rw [at_a q, ha] at e
      cases e
      exact nomatch (show Data.seq vs.toArray _ = Data.dict es ep from d)
  have ns_of : ∀ {b : Addr} {m : Str → Option Value}, s₁.heap.Ns b m → (hidT s₁.heap H).Ns b m := fun {b m} ⟨o, es, ep, e, d, r⟩ => ⟨o, es, ep, hidT_get e (dict_free e d), d, r⟩
  have K_in : K.In (hidT s₁.heap H) := fun b o e => hidT_get (KX b o e) (by
    match q : H b with
    | none => rfl
    | some u =>
      have z := at_a q
      subst z
      rw [hK (by rw [q]; exact Option.some_ne_none u)] at e
      cases e)
  obtain ⟨mc, l1, l2⟩ := hlim
  have e0 : Env0 P w K mg (hidT s₁.heap H) callerA [] s₁ H := ⟨rfl, ⟨K_in, ns_of hns, ⟨mb, ns_of hb, hbb⟩, ⟨mc, ns_of l1, l2⟩⟩, fun b o e => of_hidT e, Nat.le_of_eq (hidT_size _ _), trivial, (fun b z => nomatch z), hok, .of_eq hg⟩
  refine codeAny_mono ((F _ K_in (ns_of hns)).runG callerA [] s₁ H ⟨[.ref a], []⟩ [.ref a] [.ref a] _ _ hr rfl e0 (hbind s₁ (.ref a)) (.cons rfl .nil) hsp) fun res s' z => ?_
  match res, z with
  | .error e, z => exact z.elim
  | .ok .next, z => exact z.elim
  | .ok .brk, z => exact z.elim
  | .ok .cont, z => exact z.elim
  | .ok (.ret u), ⟨v, H', os, bare, un, hok', rv, q⟩ =>
    cases (show v = .bl true from q)
    cases (show u = Value.bool true from rv)
    refine ⟨rfl, OldK.of_keep fun b o e => ?_, os, bare⟩
    match q : H b with
    | none => exact un.keep b o e q (fun z => nomatch z) (fun z => nomatch z)
    | some u =>
      rcases hO b with z | ⟨ob, xs, z⟩
      · rw [z] at q
        cases q
      · have o1 := (hok b _ z).1
        have o2 := (hok' b _ (un.frzs b ob _ z)).1
        rw [e] at o1
        cases o1
        exact o2
theorem lawG (KX : K.In s₁.heap) (hns : s₁.heap.Ns mainGlobals mg) (hb : s₁.heap.Ns builtinsNs mb) (hbb : ∀ x : Str, x ≠ "__name__" → mb x = bootBuiltins x) (hlim : s₁.heap.NoLimit) (hg : s₁.gens = #[])
    (ha : s₁.heap.get? a = some { cls := .type "list", data := .seq vs.toArray }) (hi : IntsAre vs ns) (hl : ns.length ≤ sizeLine) (hr : Room k callerA) (F : ∀ base : Heap, K.In base → base.Ns mainGlobals mg → FnG P w K mg base L2.CX0 k fa fd [x] sp) (hbind : ∀ (s : Shared) (u : Value), BindsTo s fd ⟨[u], []⟩ [(x, u)])
    (hsp : ∀ H : Hp, SqL K H a (ns.map V.int) → sp [.ref a] H (fun v _ => v = .bl true) fun _ _ _ => False) : codeAny (model P w) callerA (.call (.ref fa) ⟨[.ref a], []⟩) (LawOk s₁) s₁ := by
  have rv := vals_ints hi
  match hk : K.lookup a with
  | some o =>
    have e := KX a o hk
    rw [ha] at e
    cases e
    refine lawG_at KX hns hb hbb hlim hg ha hr F hbind (fun _ => none) (fun _ => .inl rfl) (fun b u z => nomatch (show (none : Option HO) = some u from z)) (fun b z => absurd rfl z) (fun z => absurd rfl z) (hsp _ (.inr ⟨_, vs.toArray, _, hk, rfl, rfl, rfl, ?_, by simpa using rv⟩))
    rw [List.size_toArray, hi.length]
    exact hl
  | none =>
    let ob : Obj := { cls := .type "list", data := .seq vs.toArray }
    let H : Hp := fun b => if b = a then some (.frz ob (.lst (ns.map V.int))) else none
    have Ha : H a = some (.frz ob (.lst (ns.map V.int))) := if_pos rfl
    have Hn : ∀ b, b ≠ a → H b = none := fun b z => if_neg z
    refine lawG_at KX hns hb hbb hlim hg ha hr F hbind H (fun b => ?_) (fun b u z => ?_) (fun b z => ?_) (fun _ => hk) (hsp H (.inl (.inr ⟨ob, Ha⟩)))
    · by_cases q : b = a
      · exact .inr ⟨ob, _, by rw [q]; exact Ha⟩
      · exact .inl (Hn b q)
    · by_cases q : b = a
      · subst q
        rw [Ha] at z
        cases z
        exact ⟨ha, by rw [List.length_map]; exact hl, vs, _, rv, ha⟩
      · rw [Hn b q] at z
        cases z
    · by_cases q : b = a
      · exact q
      · exact absurd (Hn b q) z
end
/-- the walk's end, from the law's own promise -/
theorem walkG {l : PySem.W.OpenLaw} {n k : Nat} {q : Program} {loose : List Str} {XP : (Str → Option Value) → Heap → Prop} {YP : World → Heap → Prop} {d : DefRec} {x : Str} (hn : l.most = some n) (hn2 : n ≤ sizeLine) (hdf : d.params.defaults = []) (hr : Room k callerA)
    (F : ∀ (w : World) (mg : Str → Option Value) (fa : Addr) (h : Heap), YP w h → h.Ns mainGlobals mg → mg d.name = some (.ref fa) →
      ∃ (K : PySem.W.Frag) (fd : FuncData) (sp : Sp), K.In h ∧ (∀ (s : Shared) (u : Value), BindsTo s fd ⟨[u], []⟩ [(x, u)]) ∧ (∀ (H : Hp) (a : Addr) (ns : List Int), ns.length ≤ n → SqL K H a (ns.map V.int) → sp [.ref a] H (fun v _ => v = .bl true) fun _ _ _ => False) ∧
        ∀ base : Heap, K.In base → base.Ns mainGlobals mg → FnG l.prog w K mg base L2.CX0 k fa fd [x] sp) : PySem.W.WalkO q loose XP YP l.row.toRowW d [] (fun f vs => PySem.call f vs) := by
  refine Att.attach_call hn hdf fun w s₀ s₁ mg mb fa o pm cd doc a vs ns G Y ho hd hcd hmg hobj hints hlen hg => ?_
  obtain ⟨K, fd, sp, KX, hb, hsp, hF⟩ := F w mg fa _ Y G.T.g hmg
  exact lawG KX G.T.g G.T.b G.T.builtins G.T.nolimit hg hobj hints (Nat.le_trans hlen hn2) hr hF hb fun H hS => hsp H a ns hlen hS
end DL
end part_DLend
section part_DLj
/-! repr of data, with ints of up to 12,900 bits -/
namespace DLr
open L2 PyProof.Rows PySem.Spec PySem
/-- nobody has set another digit limit -/
def Digits (h : Heap) : Prop := ∃ mc, h.Ns cStatics mc ∧ mc "sys.int_max_str_digits" = none
theorem Digits.keeps {h h' : Heap} (x : Digits h) (k : ∀ b o, h.get? b = some o → h'.get? b = some o) : Digits h' := by
  obtain ⟨mc, a, b⟩ := x
  exact ⟨mc, a.keeps k, b⟩
section
variable {prog : Program} {w : World} {A : Around} {E : Value → Shared → Prop} {s : Shared} {a : Int} {t : Tok}
theorem over_no {M : Model} {Q : Option Nat → Shared → Prop} (hd : Digits s.heap) (h1 : a.natAbs.log2 < 12900) (h : Q none s) : wpAny M A (Builtin.overDigitLimit? a) Q E s := by
  unfold Builtin.overDigitLimit?
  by_cases q : a.natAbs.log2 < 1920
  · rw [if_pos q]
    exact wpAny_pure h
  · rw [if_neg q]
    obtain ⟨mc, hn, hm⟩ := hd
    unfold Builtin.intMaxStrDigits
    refine wpAny_bind (wpAny_bind (wpAny_nsGet hn ?_))
    rw [hm]
    refine wpAny_pure ?_
    have q1 : ¬ (a.natAbs.log2 / 30 + 1 > 1000) := by omega
    have q2 : ((4300 : Nat) == 0 || decide (a.natAbs.log2 < 3 * 4300)) = true := by
      rw [decide_eq_true (by omega)]
      rfl
    show wpAny M A (if a.natAbs.log2 / 30 + 1 > 1000 then _ else _) Q E s
    rw [if_neg q1]
    simp only [q2, if_true]
    exact wpAny_pure h
theorem int_text_fits_len (a : Int) : ((toString a : String) : Str).length = (toString a).length := by
  exact PySem.ofString_length _
theorem int_text_wide (h : a.natAbs.log2 < 12900) : ((toString a : String) : Str).length ≤ 12901 := by
  have z := int_text_length_le (k := 12900) (by decide) h
  have e := int_text_fits_len a
  omega
theorem meets_intRepr : Meets (Builtin.«int.__repr__» ⟨[.int a t], []⟩) (fun A R s => Digits s.heap ∧ a.natAbs.log2 < 12900 ∧ R (.ok (.ret (.str (toString a) s.toks))) { s with toks := s.toks + 1 }) := by
  intro prog w A R s ⟨hd, ha, h⟩
  unfold Builtin.«int.__repr__»
  show wpAny _ _ (do let r ← Builtin.overDigitLimit? a; _) _ _ _
  refine wpAny_bind (over_no hd ha ?_)
  show wpAny _ _ (retStr _) _ _ _
  unfold retStr
  refine wpAny_bind (wpAny_mkStr (wpAny_pure h) ?_)
  exact Nat.le_trans (int_text_wide ha) (by decide)
theorem reprObj_wide {Q : Value → Shared → Prop} (hu : A.units < cLine) (hd : Digits s.heap) (ha : a.natAbs.log2 < 12900) (h : Q (.str (toString a) s.toks) { s with toks := s.toks + 1 }) : wpAny (model prog w) A (pyReprObj (.int a t)) Q E s :=
  wpAny_pyReprObj_slot hu (typeIs_int s a t) F.slot_int_repr.toG (call_meets F.slot_int_repr (typeIs_int s a t) F.entry_int_repr (F.args_int_repr_1 _) meets_intRepr ⟨hd, ha, _, _, rfl, h⟩)
theorem reprK_wide {as : List Addr} {h₀ : Heap} (hd : Digits h₀) (ha : a.natAbs.log2 < 12900) : ReprK prog w as h₀ 0 (.int a t) (toString a) := fun base hb A g E s Q hg hc hu hk hQ => by
  rw [pyReprUnder_leaf (v := .int a t) (by omega) (fun _ e => nomatch e)]
  unfold pyRepr
  exact wpAny_bind (reprObj_wide (by omega) (hd.keeps hk) ha (wpAny_pure (hQ s.heap _ fun _ _ e => e)))
end
/-! ### data -/
mutual
def wideD : PyData → Bool
  | .int i => decide (i.natAbs.log2 < 12900)
  | .list xs => wideDs xs
  | .tuple xs => wideDs xs
  | .dict _ => false
  | _ => true
def wideDs : List PyData → Bool
  | [] => true
  | x :: xs => wideD x && wideDs xs
end
section
variable {prog : Program} {w : World} {h₀ : Heap}
mutual
theorem reprK_of (hd : Digits h₀) : ∀ {v : Value} {d : PyData} {as : List Addr}, Reads h₀ v d as → wideD d = true → d.shown.length ≤ sizeLine → ∃ bs, ReadAtMost h₀ d.depth bs ∧ ReprK prog w bs h₀ d.depth v d.shown
  | _, _, _, .none, _, _ => ⟨[], (fun _ q => nomatch q), by rw [PyData.shown]; exact .of_is ReprIs.none _ _ _⟩
  | _, _, _, .bool b, _, _ => ⟨[], (fun _ q => nomatch q), by rw [PyData.shown]; exact .of_is (ReprIs.bool b) _ _ _⟩
  | _, _, _, .int i t, hs, _ => ⟨[], (fun _ q => nomatch q), by rw [PyData.shown]; exact (reprK_wide hd (by simpa [wideD] using hs)).level_le (Nat.zero_le _)⟩
  | _, _, _, .str x t, _, hz => ⟨[], (fun _ q => nomatch q), by rw [PyData.shown]; exact .of_is (ReprIs.str x t (by rw [PyData.shown] at hz; exact hz)) _ _ _⟩
  | _, _, _, .list (a := a) (vs := vs) (xs := xs) h1 h2 h3 h4, hs, hz => by
    have zz : (listText (PyData.shownAll xs)).length ≤ sizeLine := by rw [PyData.shown] at hz; exact hz
    obtain ⟨bs, hb, hk⟩ := reprAllK_of hd h4 (by simpa [wideD] using hs) (fun t ht => Nat.le_trans (listText_mem_le ht) zz)
    have rd : Reads h₀ (.ref a) (.list xs) _ := .list h1 h2 h3 h4
    have no : a ∉ bs := not_mem_of_deeper rd (by rw [PyData.depth]; omega) hb
    refine ⟨a :: bs, .cons rd (by rw [PyData.depth]; omega) hb, ?_⟩
    rw [PyData.depth, PyData.shown]
    obtain ⟨l⟩ := vs
    cases l with
    | nil =>
      have h5 : ReadsAll h₀ [] xs _ := h4
      cases h5
      rw [PyData.shownAll, listText_nil]
      exact ReprK.listEmpty h1 h2 h3
    | cons x l => exact ReprK.list h1 h2 h3 no (by simpa using hk.length_eq) (fun i y q => hk.item i y (by simpa using q))
  | _, _, _, .tuple (a := a) (xs := xs) h1 h2 h3 h4, hs, hz => by
    have zz : (tupleText (PyData.shownAll xs)).length ≤ sizeLine := by rw [PyData.shown] at hz; exact hz
    obtain ⟨bs, hb, hk⟩ := reprAllK_of hd h4 (by simpa [wideD] using hs) (fun t ht => Nat.le_trans (tupleText_mem_le ht) zz)
    have rd : Reads h₀ (.ref a) (.tuple xs) _ := .tuple h1 h2 h3 h4
    have no : a ∉ bs := not_mem_of_deeper rd (by rw [PyData.depth]; omega) hb
    refine ⟨a :: bs, .cons rd (by rw [PyData.depth]; omega) hb, ?_⟩
    rw [PyData.depth, PyData.shown]
    exact ReprK.tuple h1 h2 h3 no hk
  | _, _, _, .dict _ _ _ _ _, hs, _ => by simp [wideD] at hs
theorem reprAllK_of (hd : Digits h₀) : ∀ {vs : List Value} {ds : List PyData} {as : List Addr}, ReadsAll h₀ vs ds as → wideDs ds = true → (∀ t ∈ PyData.shownAll ds, t.length ≤ sizeLine) →
    ∃ bs, ReadAtMost h₀ (PyData.depthAll ds) bs ∧ ReprAllK prog w bs h₀ (PyData.depthAll ds) vs (PyData.shownAll ds)
  | _, _, _, .nil, _, _ => ⟨[], (fun _ q => nomatch q), by rw [PyData.shownAll]; exact .nil⟩
  | _, _, _, .cons (d := d) (ds := ds) r rs, hs, hz => by
    have hs' := Bool.and_eq_true_iff.mp (show (wideD d && wideDs ds) = true by simpa [wideDs] using hs)
    obtain ⟨b1, hb1, k1⟩ := reprK_of hd r hs'.1 (hz _ (by rw [PyData.shownAll]; exact List.mem_cons_self))
    obtain ⟨b2, hb2, k2⟩ := reprAllK_of hd rs hs'.2 (fun t ht => hz t (by rw [PyData.shownAll]; exact List.mem_cons_of_mem _ ht))
    rw [PyData.depthAll, PyData.shownAll]
    exact ⟨b1 ++ b2, (hb1.mono (Nat.le_max_left _ _)).append (hb2.mono (Nat.le_max_right _ _)), .cons ((k1.more fun b z => List.mem_append_left _ z).level_le (Nat.le_max_left _ _)) (k2.more_le (fun b z => List.mem_append_right _ z) (Nat.le_max_right _ _))⟩
end
variable {A : Around} {E : Value → Shared → Prop} {s : Shared} {Q : Value → Shared → Prop} {a : Addr} {d : PyData} {as : List Addr}
theorem repr_ref (hd : Digits s.heap) (r : Reads s.heap (.ref a) d as) (hs : wideD d = true) (hz : d.shown.length ≤ sizeLine) (hg : A.guards = some []) (hu : A.units + (d.depth + 1) < cLine)
    (hQ : ∀ h' u tk, (∀ b o, s.heap.get? b = some o → h'.get? b = some o) → Q (.str d.shown u) { s with heap := h', toks := tk }) : wpAny (model prog w) A (call (.builtin "repr") [.ref a]) Q E s := by
  cases r with
  | list h1 h2 h3 h4 =>
    rename_i o vs n xs bs0
    have zz : (listText (PyData.shownAll xs)).length ≤ sizeLine := by rw [PyData.shown] at hz; exact hz
    obtain ⟨bs, hb, hk⟩ := reprAllK_of hd h4 (by simpa [wideD] using hs) (fun t ht => Nat.le_trans (listText_mem_le ht) zz)
    have no : a ∉ bs := not_mem_of_deeper (.list h1 h2 h3 h4) (by rw [PyData.depth]; omega) hb
    rw [PyData.depth] at hu
    rw [PyData.shown] at hQ
    refine call_repr_slot (by omega) ⟨o, h1, h2⟩ F.slot_list_repr.toG ?_
    obtain ⟨l⟩ := vs
    cases l with
    | nil =>
      have h5 : ReadsAll s.heap [] xs _ := h4
      cases h5
      rw [PyData.shownAll, listText_nil] at hQ
      exact call_list_repr_empty ⟨o, h1, h2⟩ h1 h3 ⟨_, _, rfl, hQ s.heap _ _ fun _ _ q => q⟩
    | cons x l =>
      exact call_list_reprK h1 h2 h3 no (by simpa using hk.length_eq) (fun i y q => hk.item i y (by simpa using q)) hg (fun b _ => Clear.nil b) (by show A.units + 1 + _ < cLine; omega) (fun _ _ q => q) (fun h' u tk q => ⟨_, _, rfl, hQ h' u tk q⟩) zz
  | tuple h1 h2 h3 h4 =>
    rename_i o vs n xs
    have zz : (tupleText (PyData.shownAll xs)).length ≤ sizeLine := by rw [PyData.shown] at hz; exact hz
    obtain ⟨bs, hb, hk⟩ := reprAllK_of hd h4 (by simpa [wideD] using hs) (fun t ht => Nat.le_trans (tupleText_mem_le ht) zz)
    have no : a ∉ bs := not_mem_of_deeper (.tuple h1 h2 h3 h4) (by rw [PyData.depth]; omega) hb
    rw [PyData.depth] at hu
    rw [PyData.shown] at hQ
    refine call_repr_slot (by omega) ⟨o, h1, h2⟩ F.slot_tuple_repr ?_
    exact call_tuple_reprK h1 h2 h3 no hk hg (fun b _ => Clear.nil b) (by show A.units + 1 + _ < cLine; omega) (fun _ _ q => q) (fun h' u tk q => ⟨_, _, rfl, hQ h' u tk q⟩) zz
  | dict => simp [wideD] at hs
end
end DLr
end part_DLj
section part_DLk
namespace DL
open L2 PyProof.Rows PySem.Spec PySem DLr
theorem digits_of {K : PySem.W.Frag} {h : Heap} (X : K.In h) (hl : h.NoLimit) (e : PySem.W.nsIn K cStatics "sys.int_max_str_digits" = some none) : Digits h := by
  obtain ⟨mc, hn, _⟩ := hl
  refine ⟨mc, hn, ?_⟩
  obtain ⟨ob, es, ep, ho, hd, _, hf⟩ := hn
  unfold PySem.W.nsIn at e
  split at e
  · rename_i q
    have z := X _ _ q
    rw [ho] at z
    cases z
    cases hd
    split at e
    · cases e
    · rename_i q2
      rw [← hf]
      unfold nsFind findBy
      rw [← Array.find?_toList, q2]
      rfl
  · cases e
/-! ### how long a text is -/
mutual
def nodes : PyData → Nat
  | .list xs => nodesAll xs + 1
  | .tuple xs => nodesAll xs + 1
  | .dict _ => 0
  | _ => 1
def nodesAll : List PyData → Nat
  | [] => 0
  | x :: xs => nodes x + nodesAll xs
end
mutual
/-- strings of up to 1,000 bytes as shown -/
def shortD : PyData → Bool
  | .str x => decide ((reprText x).length ≤ 12000)
  | .list xs => shortDs xs
  | .tuple xs => shortDs xs
  | .dict _ => false
  | _ => true
def shortDs : List PyData → Bool
  | [] => true
  | x :: xs => shortD x && shortDs xs
end
theorem listText_len (ts : List Str) : (listText ts).length ≤ piled ts + 2 := by
  cases ts with
  | nil =>
    have : (listText []).length = 2 := by rw [listText_nil]; rfl
    rw [this]; exact Nat.le_add_left _ _
  | cons t r =>
    have hX : (listText (t :: r)).length = (textFrom 0 "[" (t :: r)).length + 1 := by
      show (textFrom 0 "[" (t :: r) ++ "]").length = _
      rw [strLen_append]; rfl
    have h2 := textFrom_length_pos r 1 (("[" : Str) ++ (if (0 : Nat) > 0 then ", " else "" : String) ++ t) (Nat.succ_pos 0)
    have hY : (textFrom 0 "[" (t :: r)).length = (textFrom 1 (("[" : Str) ++ (if (0 : Nat) > 0 then ", " else "" : String) ++ t) r).length := rfl
    have e : ((("[" : Str) ++ (if (0 : Nat) > 0 then ", " else "" : String) ++ t)).length = 1 + t.length := by
      rw [strLen_append, strLen_append]; rfl
    rw [hX, hY, h2, e, piled_cons]
    omega
theorem tupleText_len (ts : List Str) : (tupleText ts).length ≤ piled ts + 3 := by
  unfold tupleText
  rw [strLen_append, strLen_append]
  have e1 : ((("(" : String) : Str)).length = 1 := rfl
  have e3 : (((if ts.length == 1 then ",)" else ")" : String) : Str)).length ≤ 2 := by split <;> decide
  by_cases h : ts = []
  · subst h
    have : (Str.join ", " ([] : List Str)).length = 0 := rfl
    rw [this, e1]
    omega
  · have := join_length_add ts h
    rw [e1]
    omega
mutual
theorem shown_len : ∀ {d : PyData}, wideD d = true → shortD d = true → d.shown.length + 2 ≤ 13000 * nodes d
  | .none, _, _ => by
    have : (PyData.shown .none).length = 4 := by rw [PyData.shown]; rfl
    rw [this]; show 6 ≤ 13000 * 1; omega
  | .bool b, _, _ => by
    have : (PyData.shown (.bool b)).length ≤ 5 := by rw [PyData.shown]; cases b <;> decide
    show _ ≤ 13000 * 1; omega
  | .int i, h, _ => by
    have h1 : i.natAbs.log2 < 12900 := by simpa [wideD] using h
    have := int_text_wide h1
    rw [PyData.shown]
    show _ ≤ 13000 * 1; omega
  | .str x, _, h => by
    have h1 : (reprText x).length ≤ 12000 := by simpa [shortD] using h
    rw [PyData.shown]
    show _ ≤ 13000 * 1; omega
  | .list xs, h, g => by
    have z := shown_lens (xs := xs) (by simpa [wideD] using h) (by simpa [shortD] using g)
    have y := listText_len (PyData.shownAll xs)
    rw [PyData.shown, nodes]
    omega
  | .tuple xs, h, g => by
    have z := shown_lens (xs := xs) (by simpa [wideD] using h) (by simpa [shortD] using g)
    have y := tupleText_len (PyData.shownAll xs)
    rw [PyData.shown, nodes]
    omega
  | .dict _, h, _ => by simp [wideD] at h
theorem shown_lens : ∀ {xs : List PyData}, wideDs xs = true → shortDs xs = true → piled (PyData.shownAll xs) ≤ 13000 * nodesAll xs
  | [], _, _ => by rw [PyData.shownAll, piled_nil, nodesAll]; exact Nat.zero_le _
  | x :: xs, h, g => by
    have h1 := Bool.and_eq_true_iff.mp (show (wideD x && wideDs xs) = true by simpa [wideDs] using h)
    have g1 := Bool.and_eq_true_iff.mp (show (shortD x && shortDs xs) = true by simpa [shortDs] using g)
    have a := shown_len h1.1 g1.1
    have b := shown_lens h1.2 g1.2
    rw [PyData.shownAll, piled_cons, nodesAll]
    omega
end
mutual
theorem flat_of_wide : ∀ {d : PyData}, wideD d = true → flatD d = true
  | .none, _ => by simp [flatD]
  | .bool _, _ => by simp [flatD]
  | .int _, _ => by simp [flatD]
  | .str _, _ => by simp [flatD]
  | .list xs, h => by
    have := flats_of_wide (xs := xs) (by simpa [wideD] using h)
    simpa [flatD] using this
  | .tuple xs, h => by
    have := flats_of_wide (xs := xs) (by simpa [wideD] using h)
    simpa [flatD] using this
  | .dict _, h => by simp [wideD] at h
theorem flats_of_wide : ∀ {xs : List PyData}, wideDs xs = true → flatDs xs = true
  | [], _ => by simp [flatDs]
  | x :: xs, h => by
    have h1 := Bool.and_eq_true_iff.mp (show (wideD x && wideDs xs) = true by simpa [wideDs] using h)
    simp [flatDs, flat_of_wide h1.1, flats_of_wide h1.2]
end
/-- what repr asks of data -/
structure Shows (d : PyData) : Prop where
  wide : wideD d = true
  short : shortD d = true
  few : nodes d ≤ 1200
  flat : d.depth ≤ 64
theorem Shows.fits {d : PyData} (h : Shows d) : d.shown.length ≤ sizeLine := by
  have h1 := shown_len h.wide h.short
  have h2 := h.few
  have : 13000 * nodes d ≤ 13000 * 1200 := Nat.mul_le_mul_left _ h2
  rw [sizeLine_eq]
  omega
section
variable {X : Cx} {d : PyData}
theorem cv_repr (hd : PySem.W.nsIn X.K cStatics "sys.int_max_str_digits" = some none) (hr : X.A.units + 100 < cLine) (hg : X.A.guards = some []) (h : Shows d) : CV X (.builtin "repr") [d] (.str d.shown) := by
  intro pins s σ H vs us Q I r ⟨G, e, p, q⟩
  obtain ⟨v, rfl, pv⟩ := daAll_one p
  obtain ⟨u, rfl, ru⟩ := r.one
  have dig : Digits s.heap := digits_of I.kIn I.nolimit hd
  have hfl := h.flat
  have dp := dp_of e pv (flat_of_wide h.wide)
  obtain ⟨as, rd⟩ := Dp.reads I d v u dp ru
  have fin : ∀ (h' : Heap) (t : Tok) (tk : Nat), (∀ b o, s.heap.get? b = some o → h'.get? b = some o) → EP X pins σ Q (.str d.shown t) { s with heap := h', toks := tk } := fun h' t tk k =>
    ⟨.str d.shown, H, I.kept k, ⟨t, rfl⟩, q _ H G (Ex.refl H) (Ext.refl H G) e (.str _)⟩
  cases pv with
  | non =>
    cases (show u = Value.none from ru)
    exact PySem.P.repr_of_none (fin s.heap _ _ fun _ _ z => z)
  | bl b =>
    cases (show u = Value.bool b from ru)
    exact PySem.P.repr_of_bool (fin s.heap _ _ fun _ _ z => z)
  | int i =>
    obtain ⟨t, hu⟩ := (show ∃ t, u = Value.int i t from ru)
    subst hu
    have h1 : i.natAbs.log2 < 12900 := by simpa [wideD] using h.wide
    refine call_repr_slot (by omega) (typeIs_int s i t) F.slot_int_repr.toG (call_meets F.slot_int_repr (typeIs_int s i t) F.entry_int_repr (F.args_int_repr_1 _) meets_intRepr ⟨dig, h1, _, _, rfl, ?_⟩)
    exact fin s.heap _ _ fun _ _ z => z
  | str x =>
    obtain ⟨t, hu⟩ := (show ∃ t, u = Value.str x t from ru)
    subst hu
    exact PySem.P.repr_of_str (fin s.heap _ _ fun _ _ z => z) (by have := h.fits; rw [PyData.shown] at this; exact this)
  | lst h1 h2 =>
    cases (show u = Value.ref _ from ru)
    exact repr_ref dig rd h.wide h.fits hg (by omega) fun h' t tk k => fin h' t tk k
  | tup h1 h2 =>
    cases (show u = Value.ref _ from ru)
    exact repr_ref dig rd h.wide h.fits hg (by omega) fun h' t tk k => fin h' t tk k
  | dct h1 h2 => exact absurd h.wide (by simp [wideD])
/-- a class's name as an argument: isinstance(x, tuple) -/
def tyOf : PyData → String
  | .none => "NoneType"
  | .bool _ => "bool"
  | .int _ => "int"
  | .str _ => "str"
  | .list _ => "list"
  | .tuple _ => "tuple"
  | .dict _ => "dict"
theorem tyX_of {K : PySem.W.Frag} {G H : Hp} {v : V} {d : PyData} (e : Ex G H) (h : Da K G v d) : TyX K H v (.type (tyOf d)) := by
  cases h with
  | non => exact .base .non
  | bl b => exact .base (.bl b)
  | int i => exact .base (.int i)
  | str x => exact .base (.str x)
  | lst h1 h2 => exact .base (.lst (e _ _ h1))
  | tup h1 h2 =>
    rcases h1 with (h1 | ⟨o, h1⟩) | ⟨o, its, n, h1, h3, _⟩
    · exact .base (.tup (e _ _ h1))
    · exact .fTuple (e _ _ h1)
    · exact .kTuple h1 h3
  | dct h1 h2 => exact .base (.dK (e _ _ h1))
variable {e : Expr} {ρ ρ1 : List Sl} {pos pn p2 : Pos} {T : String} {b : Bool}
/-- isinstance(e, T), T a built-in class -/
theorem e_isi {y : Str} (h : E X e ρ d ρ1) (hm : X.mg "isinstance" = none) (hy : X.mg y = none) (hk : kitB (tyOf d) T = some b := by decide +kernel) (hv : bootBuiltins y = some (.type T) := by decide +kernel) (hg : Gl X "isinstance" := by rfl) (hgy : Gl X y := by rfl) (hny : y ≠ "__name__" := by decide) (hdy : (y == ("__debug__" : Str)) = false := by decide)
    (hs1 : starEach [.Name y p2] X.env = (false, eval (.Name y p2) X.env) :: starEach [] X.env := by rfl) (he : starEach [e, .Name y p2] X.env = (false, eval e X.env) :: starEach [.Name y p2] X.env := by rfl) (hpl : (backTo pos (starEach [.Name y p2] X.env)).any (·.1) = false := by rfl) :
    E X (.Call (.Name "isinstance" pn) [e, .Name y p2] [] pos) ρ (.bool b) ρ1 :=
  pe_imp (pe_callB call_isi hg hm (by decide +kernel) (pa_cons h (pa_cons (pe_bltn (v := .ty T) hgy hy hv rfl hny hdy) pa_nil hs1) he) (by decide) (by decide) he hpl) fun σ H Q ⟨F, G, ad, w, k⟩ => ⟨F, G, ad, w, fun v H1 G1 ad1 e1 w1 p1 =>
    ⟨v, .ty T, _, _, b, rfl, .ty T, tyX_of w1.gh p1, kit_ty hk, k _ H1 G1 ad1 e1 w1 (.bl b)⟩⟩
end
end DL
end part_DLk
section part_DLl
namespace DL
open L2 PyProof.Rows PySem.Spec PySem
section
variable {X : Cx} {e a b c tg it l elt : Expr} {rest ifs : List Expr} {ρ ρ0 ρ1 ρ2 ρ3 : List Sl} {d d1 d2 d3 : PyData} {ds es ys rs : List PyData} {x y : Str} {pos pn p0 p2 : Pos} {p q : Bool} {i j : Int}
theorem ov_pow (h : CPow i j) : OpV X (binaryOp .Pow) (.int i) (.int j) (.int (i ^ j.toNat)) := ov_rI op_pow (fun _ _ _ => .int _) h
/-- len(x), x a list of one's own -/
theorem e_lenO (k : Nat) (hm : X.mg "len" = none) (h : ρ[k]? = some (.own ds) := by rfl) (hg : Gl X "len" := by rfl) (hN : X.N[k]? = some x := by rfl) (hv : Vis X.env.scope x := by first | exact Or.inl rfl | exact Or.inr (Or.inl rfl) | exact Or.inr (Or.inr rfl))
    (hd : (x == ("__debug__" : Str)) = false := by decide) (hcd : (x == ("__classdict__" : Str)) = false := by decide) (he : starEach [.Name x p2] X.env = (false, eval (.Name x p2) X.env) :: starEach [] X.env := by rfl) (hpl : (backTo pos (starEach [] X.env)).any (·.1) = false := by rfl) :
    E X (.Call (.Name "len" pn) [.Name x p2] [] pos) ρ (.int (ds.length : Int)) ρ :=
  pe_imp (pe_callB call_len_seq hg hm (by decide +kernel) (pa_cons (pe_var hN hv hd hcd) pa_nil he) (by decide) (by decide) he hpl) fun σ H Q ⟨F, G, ad, w, k⟩ => by
    obtain ⟨l, xs, h1, h2, h3, h4⟩ := w.own_at h
    exact ⟨_, h1, _, _, rfl, .inl (SqL.of h2), by rw [daAll_len h3]; exact k _ H G ad (Ext.refl F G) w (.int _)⟩
/-! ### slices with bounds that are not negative -/
def cP (K : PySem.W.Frag) (ρ : List Sl) (o : Option Int) (ρ' : List Sl) : TO := fun σ H Q => ∃ F G ad, Sta K F G H σ ρ ad ∧ ∀ H' G' ad', Ext F G G' → Sta K F G' H' σ ρ' ad' → Q o H'
def PoD (X : Cx) (o : Option Expr) (ρ : List Sl) (v : Option Int) (ρ' : List Sl) : Prop := PO X o (cP X.K ρ v ρ')
theorem po_imp {o : Option Expr} {t t' : TO} (h : PO X o t) (k : ∀ σ H Q, t' σ H Q → t σ H Q) : PO X o t' := ⟨fun pins s σ H Q I q => h.run pins s σ H Q I (k σ H Q q)⟩
theorem pd_none : PoD X none ρ none ρ := po_imp po_none fun σ H Q ⟨F, G, ad, w, k⟩ => k H G ad (Ext.refl F G) w
theorem pd_some (h : E X e ρ (.int i) ρ1) : PoD X (some e) ρ (some i) ρ1 := po_imp (po_some h) fun σ H Q ⟨F, G, ad, w, k⟩ => ⟨F, G, ad, w, fun v H1 G1 ad1 e1 w1 p1 => by
  cases p1
  exact ⟨i, rfl, k H1 G1 ad1 e1 w1⟩⟩
def cutD (ds : List PyData) (lo hi : Option Int) : List PyData := (ds.drop (HT.sIx ds.length 0 lo)).take (HT.sIx ds.length ds.length hi - HT.sIx ds.length 0 lo)
theorem cutD_to (ds : List PyData) (k : Nat) : cutD ds none (some (k : Int)) = ds.take k := by
  unfold cutD
  rw [HT.sIx_none, HT.sIx_nat, List.drop_zero, Nat.sub_zero]
  by_cases h : k ≤ ds.length
  · rw [Nat.min_eq_left h]
  · rw [Nat.min_eq_right (by omega), List.take_length, List.take_of_length_le (by omega)]
theorem cutD_from (ds : List PyData) (k : Nat) : cutD ds (some (k : Int)) none = ds.drop k := by
  unfold cutD
  rw [HT.sIx_none, HT.sIx_nat]
  by_cases h : k ≤ ds.length
  · rw [Nat.min_eq_left h, List.take_of_length_le (by rw [List.length_drop]; exact Nat.le_refl _)]
  · rw [Nat.min_eq_right (by omega), List.drop_of_length_le (Nat.le_refl _), List.drop_of_length_le (by omega), List.take_nil]
theorem daAll_cut {K : PySem.W.Frag} {H : Hp} {xs : List V} (lo hi : Option Int) (h : DaAll K H xs ds) : DaAll K H (cutV xs lo hi) (cutD ds lo hi) := by
  unfold cutV cutD
  rw [daAll_len h]
  exact daAll_take _ (daAll_drop _ h)
theorem eo_slice {lo hi : Option Expr} {u v : Option Int} (he : E X e ρ (.list ds) ρ1) (hl : PoD X lo ρ1 u ρ2) (hh : PoD X hi ρ2 v ρ3) : EO X (.Subscript e (.Slice lo hi none p2) pos) ρ (cutD ds u v) ρ3 :=
  pe_imp (pe_slice sl_list he hl hh) fun σ H Q ⟨F, G, ad, w, k⟩ => ⟨F, G, ad, w, fun x H1 G1 ad1 e1 w1 p1 => ⟨F, G1, ad1, w1, fun H2 G2 ad2 e2 w2 => ⟨F, G2, ad2, w2, fun H3 G3 ad3 e3 w3 => by
    cases p1 with
    | lst h1 h2 =>
      refine ⟨_, _, rfl, SqL.of (w3.gh _ _ (e3.1 _ _ (e2.1 _ _ h1))), fun l hl => ?_⟩
      have hg := w3.gh.none hl
      refine k l _ _ G3 ad3 ((e1.trans e2).trans e3) (w3.grow (Ex.new hl) (Ext.refl _ _) (w3.gh.mut hg)) (w3.fh.none hl) hg (fun j q => ?_) upd_same (daAll_cut u v (daAll_ex (e2.trans e3).1 h2))
      obtain ⟨o, ho⟩ := w3.there j l q
      rw [hl] at ho; cases ho⟩⟩⟩
/-! ### a module's constant -/
structure Const (X : Cx) (x : Str) (d : PyData) : Prop where
  ex : ∃ v u, X.mg x = some u ∧ RelV v u ∧ ∀ G, Da X.K G v d
theorem e_glob (h : Const X x d) (hg : Gl X x := by rfl) (hd : (x == ("__debug__" : Str)) = false := by decide) : E X (.Name x pos) ρ d ρ := by
  obtain ⟨v, u, h1, h2, h3⟩ := h.ex
  exact pe_imp (pe_glob hg h1 h2 hd) fun σ H Q ⟨F, G, ad, w, k⟩ => k v H G ad (Ext.refl F G) w (h3 G)
/-- an own def without arguments but the source: f(source) is e_callS with no more arguments -/
theorem e_isi2 {T1 : String} (h : E X e ρ d ρ1) (hm : X.mg "isinstance" = none) (hy : X.mg y = none) {r : Bool} (hk : kitB (tyOf d) T1 = some r) (hv : bootBuiltins y = some (.type T1) := by decide +kernel) (hg : Gl X "isinstance" := by rfl) (hgy : Gl X y := by rfl) (hny : y ≠ "__name__" := by decide) (hdy : (y == ("__debug__" : Str)) = false := by decide)
    (hs1 : starEach [.Name y p2] X.env = (false, eval (.Name y p2) X.env) :: starEach [] X.env := by rfl) (he : starEach [e, .Name y p2] X.env = (false, eval e X.env) :: starEach [.Name y p2] X.env := by rfl) (hpl : (backTo pos (starEach [.Name y p2] X.env)).any (·.1) = false := by rfl) :
    E X (.Call (.Name "isinstance" pn) [e, .Name y p2] [] pos) ρ (.bool r) ρ1 := e_isi h hm hy hk hv hg hgy hny hdy hs1 he hpl
end
/-! ### parts of a statement -/
def whC : Stmt → Expr
  | .While c _ _ _ => c
  | .For _ i _ _ _ => i
  | _ => .Constant .none 0 ⟨0, 0, 0, 0⟩
def forT : Stmt → Expr
  | .For t _ _ _ _ => t
  | _ => .Constant .none 0 ⟨0, 0, 0, 0⟩
def lpB : Stmt → List Stmt
  | .While _ b _ _ => b
  | .For _ _ b _ _ => b
  | _ => []
def bodyAt (s : Stmt) (i : Nat) : Stmt := (defBody s).getD i (.Pass ⟨0, 0, 0, 0⟩)
/-- the comprehension that a statement hands back or stores -/
def exprOf : Stmt → Expr
  | .Return (some e) _ => e
  | .Assign _ e _ => e
  | .Expr e _ => e
  | _ => .Constant .none 0 ⟨0, 0, 0, 0⟩
def cmT : Expr → Expr
  | .ListComp _ (g :: _) _ _ => g.target
  | _ => .Constant .none 0 ⟨0, 0, 0, 0⟩
def cmI : Expr → List Expr
  | .ListComp _ (g :: _) _ _ => g.ifs
  | _ => []
def cmE : Expr → Expr
  | .ListComp e _ _ _ => e
  | _ => .Constant .none 0 ⟨0, 0, 0, 0⟩
def cmS : Expr → Scope
  | .ListComp _ _ s _ => s
  | _ => { kind := .function, names := [], isGenerator := false, isCoroutine := false }
/-- the i-th argument of a call -/
def argOf (i : Nat) : Expr → Expr
  | .Call _ es _ _ => es.getD i (.Constant .none 0 ⟨0, 0, 0, 0⟩)
  | _ => .Constant .none 0 ⟨0, 0, 0, 0⟩
end DL
end part_DLl
section part_DLhd
/-! The head's hook with looks of one's own. -/
namespace DL
open L2 PyProof.Rows PySem.Spec PySem
def adrX (g : Addr → Option Obj) (n : Nat) : List Addr := cStatics :: He.asD g n
def obsX (ex : PySem.W.Frag → Bool) (fa : List He.Fa) (fn : List He.DefD) (K : PySem.W.Frag) : Bool × He.AlD := (ex K, He.obsD fa fn K)
def valX (fn : List He.DefD) : Bool × He.AlD := (true, He.valD fn)
def obX (n : Nat) (ex : PySem.W.Frag → Bool) (fa : List He.Fa) (fn : List He.DefD) (g : Addr → Option Obj) : Bool × He.AlD := obsX ex fa fn (He.frG g (adrX g n))
def hookX (n : Nat) (ex : PySem.W.Frag → Bool) (fa : List He.Fa) (fn : List He.DefD) : PySem.W.Hook where
  α := Bool × He.AlD
  obs := fun s => obX n ex fa fn s.heap.get?
  val := fun _ => valX fn
  says := fun _ h => ∃ K : PySem.W.Frag, K.In h ∧ obsX ex fa fn K = valX fn
  of := fun _ _ e => ⟨_, He.frG_in, e⟩
  keeps := fun _ _ _ ⟨K, hK, c⟩ k => ⟨K, PySem.W.Frag.In.keeps hK k, c⟩
theorem obX_eq {n : Nat} {ex : PySem.W.Frag → Bool} {fa : List He.Fa} {fn : List He.DefD} {g : Addr → Option Obj} {s : Shared} (h : ∀ a, g a = s.heap.get? a) : obX n ex fa fn g = (hookX n ex fa fn).obs s := by
  have e : g = s.heap.get? := funext h
  subst e
  rfl
section
variable {ex : PySem.W.Frag → Bool} {fa : List He.Fa} {fn : List He.DefD} {K : PySem.W.Frag}
theorem saysX_own (c : obsX ex fa fn K = valX fn) : ex K = true := congrArg (fun z : Bool × He.AlD => z.1) c
theorem saysX_d (c : obsX ex fa fn K = valX fn) : He.SaysD fa fn K := congrArg (fun z : Bool × He.AlD => z.2) c
end
/-- nobody has set another limit of digits -/
def digB (K : PySem.W.Frag) : Bool := He.eqO (PySem.W.nsIn K cStatics "sys.int_max_str_digits") (some none)
/-- a name is a built-in of a module -/
def bltB (K : PySem.W.Frag) (x : Str) (y : String) : Bool := He.eqO (PySem.W.nsIn K mainGlobals x) (some (some (.builtin y)))
/-- a def as a datum -/
def defD (x : Str) (st : Stmt) : He.DefD := ⟨(x, none), x, x, defArgs st, defBody st, defScope st, [], []⟩
section
variable {K : PySem.W.Frag} {h : Heap} {mg : Str → Option Value} {x : Str} {st : Stmt} {fa : List He.Fa} {fn : List He.DefD}
theorem put_of (X : K.In h) (G : h.Ns mainGlobals mg) (c : He.SaysD fa fn K) (i j : Nat) (hi : fn[i]? = some (defD x st) := by rfl) (hj : fa[j]? = some (He.Fa.glo x) := by rfl) : Put K mg x st := by
  obtain ⟨fd, F⟩ := c.def_ i hi
  exact ⟨_, fd, He.glo_ok X G (c.fact j hj), F⟩
theorem free_of (X : K.In h) (G : h.Ns mainGlobals mg) (c : He.SaysD fa fn K) (j : Nat) (hj : fa[j]? = some (He.Fa.free x) := by rfl) : mg x = none := He.free_ok X G (c.fact j hj)
end
end DL
namespace DL
open L2 PyProof.Rows PySem.Spec PySem
theorem def_end {P : Program} {w : World} {K : PySem.W.Frag} {mg : Str → Option Value} {h : Heap} {fa f : Addr} {fd : FuncData} {y x : Str} {st : Stmt} {k : Nat} (F : FunD K y y (defArgs st) (defBody st) (defScope st) [] [] f fd) (hb : BindsOf st y [x])
    (dl : ∀ base : Heap, FnG P w K mg base L2.CX0 k f fd [x] (spL K)) (KX : K.In h) (hf : mg y = some (.ref f)) (hmg : mg y = some (.ref fa)) :
    ∃ (K : PySem.W.Frag) (fd : FuncData) (sp : Sp), K.In h ∧ (∀ (s : Shared) (u : Value), BindsTo s fd ⟨[u], []⟩ [(x, u)]) ∧ (∀ (H : Hp) (a : Addr) (ns : List Int), ns.length ≤ 63 → SqL K H a (ns.map V.int) → sp [.ref a] H (fun v _ => v = .bl true) fun _ _ _ => False) ∧
        ∀ base : Heap, K.In base → base.Ns mainGlobals mg → FnG P w K mg base L2.CX0 k fa fd [x] sp := by
  have e := hmg.symm.trans hf
  cases e
  have b := FunD.bindsA (ps := [x]) F hb
  exact ⟨K, fd, spL K, KX, fun s u => b s [u] rfl, fun H a ns hl hS => ⟨a, ns, rfl, hS, hl, fun _ => rfl⟩, fun base _ _ => dl base⟩
end DL
end part_DLhd
section part_Num
/-! Plain numbers: sizes, fractions. -/
namespace Num
open PySem L2
/-! ### sizes -/
def Sz (n : Nat) (i : Int) : Prop := i.natAbs < 2 ^ n
theorem Sz.mono {n m : Nat} {i : Int} (h : Sz n i) (le : n ≤ m) : Sz m i := Nat.lt_of_lt_of_le h (Nat.pow_le_pow_right (by decide) le)
theorem Sz.mul {n m : Nat} {i j : Int} (h : Sz n i) (g : Sz m j) : Sz (n + m) (i * j) := wide_lt h g
theorem Sz.add {n m k : Nat} {i j : Int} (h : Sz n i) (g : Sz m j) (hn : n < k) (hm : m < k) : Sz k (i + j) := by
  have h1 := h.mono (show n ≤ k - 1 by omega)
  have h2 := g.mono (show m ≤ k - 1 by omega)
  have h3 := Int.natAbs_add_le i j
  unfold Sz at h1 h2 ⊢
  have e : 2 ^ k = 2 ^ (k - 1) + 2 ^ (k - 1) := by rw [← Nat.two_mul, ← Nat.pow_succ', show (k - 1).succ = k by omega]
  omega
theorem Sz.neg {n : Nat} {i : Int} (h : Sz n i) : Sz n (-i) := by unfold Sz; rw [Int.natAbs_neg]; exact h
theorem Sz.sub {n m k : Nat} {i j : Int} (h : Sz n i) (g : Sz m j) (hn : n < k) (hm : m < k) : Sz k (i - j) := by
  rw [Int.sub_eq_add_neg]
  exact h.add g.neg hn hm
theorem Sz.cmul {n m : Nat} {i j : Int} (h : Sz n i) (g : Sz m j) (z : n + m < 999998) : CMulW i j :=
  wide_mul (h.mono (Nat.le_succ n)) (g.mono (Nat.le_succ m)) (Nat.succ_pos n) (Nat.succ_pos m) (by omega)
theorem Sz.log {n : Nat} {i : Int} (h : Sz n i) (z : n < 9000) : i.natAbs.log2 < 9000 := Nat.lt_of_lt_of_le (PySem.Flt.log2_lt_of (Nat.succ_pos n) (h.mono (Nat.le_succ n))) z
/-! ### fractions -/
abbrev fr (p q : Int) : PyData := .tuple [.int p, .int q]
def gc (p q : Int) : Int := ((Nat.gcd p.natAbs q.natAbs : Nat) : Int)
def sg (p q : Int) : Int := if q < 0 then -gc p q else gc p q
def num (p q : Int) : Int := p.fdiv (sg p q)
def den (p q : Int) : Int := q.fdiv (sg p q)
abbrev frac (p q : Int) : PyData := fr (num p q) (den p q)
theorem gc_pos {p q : Int} (h : q ≠ 0) : 0 < gc p q := by
  unfold gc
  have : 0 < Nat.gcd p.natAbs q.natAbs := Nat.gcd_pos_of_pos_right _ (by omega)
  omega
theorem sg_ne {p q : Int} (h : q ≠ 0) : sg p q ≠ 0 := by
  have := gc_pos (p := p) h
  unfold sg
  split <;> omega
theorem sg_size {n : Nat} {p q : Int} (h : q ≠ 0) (hq : Sz n q) : Sz n (sg p q) := by
  have h1 : Nat.gcd p.natAbs q.natAbs ≤ q.natAbs := Nat.gcd_le_right _ (by omega)
  have h2 : (sg p q).natAbs = Nat.gcd p.natAbs q.natAbs := by
    unfold sg gc
    split
    · rw [Int.natAbs_neg, Int.natAbs_natCast]
    · rw [Int.natAbs_natCast]
  unfold Sz at hq ⊢
  omega

theorem Sz.of_le {n : Nat} {i j : Int} (h : Sz n j) (le : i.natAbs ≤ j.natAbs) : Sz n i := Nat.lt_of_le_of_lt le h
theorem natAbs_fdiv_le (a b : Int) (hb : b ∣ a) : (a.fdiv b).natAbs ≤ a.natAbs := by
  obtain ⟨c, rfl⟩ := hb
  by_cases h : b = 0
  · subst h
    simp
  · rw [Int.mul_fdiv_cancel_left c h, Int.natAbs_mul]
    exact Nat.le_mul_of_pos_left _ (by omega)
theorem gc_dvd_l (p q : Int) : gc p q ∣ p := by
  unfold gc
  exact Int.ofNat_dvd_left.mpr (Nat.gcd_dvd_left _ _)
theorem gc_dvd_r (p q : Int) : gc p q ∣ q := by
  unfold gc
  exact Int.ofNat_dvd_left.mpr (Nat.gcd_dvd_right _ _)
theorem sg_dvd_l (p q : Int) : sg p q ∣ p := by
  unfold sg
  split
  · exact Int.neg_dvd.mpr (gc_dvd_l p q)
  · exact gc_dvd_l p q
theorem sg_dvd_r (p q : Int) : sg p q ∣ q := by
  unfold sg
  split
  · exact Int.neg_dvd.mpr (gc_dvd_r p q)
  · exact gc_dvd_r p q
theorem num_size {n : Nat} {p : Int} (q : Int) (h : Sz n p) : Sz n (num p q) := h.of_le (natAbs_fdiv_le _ _ (sg_dvd_l p q))
theorem den_size {n : Nat} {q : Int} (p : Int) (h : Sz n q) : Sz n (den p q) := h.of_le (natAbs_fdiv_le _ _ (sg_dvd_r p q))
theorem den_eq {p q : Int} (h : q ≠ 0) : den p q * sg p q = q := by
  unfold den
  obtain ⟨c, hc⟩ := sg_dvd_r p q
  have e : q.fdiv (sg p q) = c := by
    have : (sg p q * c).fdiv (sg p q) = c := Int.mul_fdiv_cancel_left c (sg_ne h)
    rw [← hc] at this
    exact this
  rw [e, Int.mul_comm]
  exact hc.symm
theorem num_eq {p q : Int} (h : q ≠ 0) : num p q * sg p q = p := by
  unfold num
  obtain ⟨c, hc⟩ := sg_dvd_l p q
  have e : p.fdiv (sg p q) = c := by
    have : (sg p q * c).fdiv (sg p q) = c := Int.mul_fdiv_cancel_left c (sg_ne h)
    rw [← hc] at this
    exact this
  rw [e, Int.mul_comm]
  exact hc.symm
theorem den_pos {p q : Int} (h : q ≠ 0) : 0 < den p q := by
  have e := den_eq (p := p) h
  have g := gc_pos (p := p) h
  by_cases hq : q < 0
  · have s : sg p q = -gc p q := by unfold sg; rw [if_pos hq]
    rw [s] at e
    by_cases hd : 0 < den p q
    · exact hd
    · have h1 : 0 ≤ den p q * -gc p q := by
        rw [Int.mul_neg, ← Int.neg_mul]
        exact Int.mul_nonneg (by omega) (by omega)
      omega
  · have s : sg p q = gc p q := by unfold sg; rw [if_neg hq]
    rw [s] at e
    by_cases hd : 0 < den p q
    · exact hd
    · have h1 : 0 ≤ -den p q * gc p q := Int.mul_nonneg (by omega) (by omega)
      rw [Int.neg_mul] at h1
      omega
/-- the same fraction, both sides multiplied -/
theorem gc_mul {p q c : Int} (hc : 0 < c) : gc (p * c) (q * c) = gc p q * c := by
  unfold gc
  rw [Int.natAbs_mul, Int.natAbs_mul, Nat.gcd_mul_right, Int.natCast_mul]
  congr 1
  omega
theorem sg_mul {p q c : Int} (hc : 0 < c) : sg (p * c) (q * c) = sg p q * c := by
  unfold sg
  rw [gc_mul hc]
  by_cases hq : q < 0
  · have : q * c < 0 := Int.mul_neg_of_neg_of_pos hq hc
    rw [if_pos this, if_pos hq, Int.neg_mul]
  · have : ¬ q * c < 0 := by
      have := Int.mul_nonneg (show 0 ≤ q by omega) (show 0 ≤ c by omega)
      omega
    rw [if_neg this, if_neg hq]
theorem num_mul {p q c : Int} (hq : q ≠ 0) (hc : 0 < c) : num (p * c) (q * c) = num p q := by
  unfold num
  rw [sg_mul hc, Int.mul_fdiv_mul_of_pos_left _ _ hc]
theorem den_mul {p q c : Int} (hq : q ≠ 0) (hc : 0 < c) : den (p * c) (q * c) = den p q := by
  unfold den
  rw [sg_mul hc, Int.mul_fdiv_mul_of_pos_left _ _ hc]
theorem sg_negs {p q : Int} (hq : q ≠ 0) : sg (-p) (-q) = -sg p q := by
  unfold sg gc
  rw [Int.natAbs_neg, Int.natAbs_neg]
  by_cases h : q < 0
  · rw [if_pos h, if_neg (by omega), Int.neg_neg]
  · rw [if_neg h, if_pos (by omega)]
theorem num_negs {p q : Int} (hq : q ≠ 0) : num (-p) (-q) = num p q := by
  unfold num
  rw [sg_negs hq, Int.neg_fdiv_neg]
theorem den_negs {p q : Int} (hq : q ≠ 0) : den (-p) (-q) = den p q := by
  unfold den
  rw [sg_negs hq, Int.neg_fdiv_neg]
theorem sg_zero {q : Int} (hq : q ≠ 0) : sg 0 q = q := by
  unfold sg gc
  rw [Int.natAbs_zero, Nat.gcd_zero_left]
  split <;> omega
theorem sg_self {q : Int} (hq : q ≠ 0) : sg q q = q := by
  unfold sg gc
  rw [Nat.gcd_self]
  split <;> omega
end Num
end part_Num
section part_K01a
namespace K01
open L2 PyProof.Rows PySem.Spec PySem DL Num
def top (i : Nat) : Stmt := PySem.Challenge.pw_everygust_k01_fractions.main.body.getD i (.Pass ⟨0, 0, 0, 0⟩)
abbrev sFrac : Stmt := top 3
abbrev sPlus : Stmt := top 4
abbrev sMinus : Stmt := top 5
abbrev sTimes : Stmt := top 6
abbrev sOver : Stmt := top 7
abbrev sTotal : Stmt := top 8
abbrev sLess : Stmt := top 9
abbrev sLow : Stmt := top 10
abbrev sHigh : Stmt := top 11
abbrev sFloor : Stmt := top 12
abbrev sCeil : Stmt := top 13
def rFrac (ds : List PyData) (d : PyData) : Prop := ∃ p q : Int, ds = [.int p, .int q] ∧ q ≠ 0 ∧ Sz 8990 q ∧ d = frac p q
/-- two fractions of such sizes -/
structure F2 (a b c e : Int) : Prop where
  hb : b ≠ 0
  he : e ≠ 0
  sa : Sz 4400 a
  sb : Sz 4400 b
  sc : Sz 4400 c
  se : Sz 4400 e
def rPlus (ds : List PyData) (d : PyData) : Prop := ∃ a b c e : Int, ds = [fr a b, fr c e] ∧ F2 a b c e ∧ d = frac (a * e + c * b) (b * e)
def rMinus (ds : List PyData) (d : PyData) : Prop := ∃ a b c e : Int, ds = [fr a b, fr c e] ∧ F2 a b c e ∧ d = frac (a * e - c * b) (b * e)
def rTimes (ds : List PyData) (d : PyData) : Prop := ∃ a b c e : Int, ds = [fr a b, fr c e] ∧ F2 a b c e ∧ d = frac (a * c) (b * e)
def rOver (ds : List PyData) (d : PyData) : Prop := ∃ a b c e : Int, ds = [fr a b, fr c e] ∧ F2 a b c e ∧ d = if c = 0 then .none else frac (a * e) (b * c)
def rLess (ds : List PyData) (d : PyData) : Prop := ∃ a b c e : Int, ds = [fr a b, fr c e] ∧ Sz 400000 a ∧ Sz 400000 b ∧ Sz 400000 c ∧ Sz 400000 e ∧ d = .bool (decide (a * e < c * b))
def rFloor (ds : List PyData) (d : PyData) : Prop := ∃ a b : Int, ds = [fr a b] ∧ b ≠ 0 ∧ Sz 8990 b ∧ d = .int (a.fdiv b)
def rCeil (ds : List PyData) (d : PyData) : Prop := ∃ a b : Int, ds = [fr a b] ∧ b ≠ 0 ∧ Sz 8990 b ∧ d = .int (-((-a).fdiv b))
theorem F2.mul {a b c e : Int} (h : F2 a b c e) : b * e ≠ 0 ∧ Sz 8990 (b * e) := ⟨Int.mul_ne_zero h.hb h.he, (h.sb.mul h.se).mono (by decide)⟩
section
variable {P : Program} {w : World} {K : PySem.W.Frag} {mg : Str → Option Value} {base : Heap}
theorem scFrac : FnScope ["p", "q", "shared"] ["p", "q"] (defScope sFrac) := ⟨rfl, rfl, rfl, by decide +kernel, rfl, by decide +kernel, by decide +kernel⟩
theorem ok_frac (hp : DL.Put K mg "fraction_of" sFrac) (g_gcd : mg "gcd" = some (.builtin "math.gcd")) : Def P w K mg base "fraction_of" 1 ["p", "q"] (spP K rFrac) := by
  refine def_P hp scFrac (fun _ _ _ _ _ _ us hl => match us, hl with | [_, _], _ => rfl) (by decide) (fun ds d h => ?_) (fun a hr ds d h => ?_)
  · obtain ⟨p, q, rfl, _⟩ := h
    rfl
  · obtain ⟨p, q, rfl, hq, hz, rfl⟩ := h
    have hs : Sz 8999 (sg p q) := (sg_size hq hz).mono (by decide)
    have hn := sg_ne (p := p) hq
    refine .rt (s_cons (s_set 2 (e_callF (ea_cons (e_var 0) (ea_cons (e_var 1) ea_nil)) cv_gcd g_gcd) scFrac.nd)
      (s_if (t_cmp (e_var 1) e_int ov_lt) (fun h => .go (s_cons (s_set 2 (e_neg (e_var 2)) scFrac.nd)
      s_nil') (s_stop (s_retP (e_tup (ea_cons (e_bin (e_var 0) (e_var 2) (ov_fdiv ?a1 ?a2)) (ea_cons (e_bin (e_var 1) (e_var 2) (ov_fdiv ?a1 ?a2)) ea_nil))) ?a3)))
        (fun h => .go s_nil' (s_stop (s_retP (e_tup (ea_cons (e_bin (e_var 0) (e_var 2) (ov_fdiv ?b1 ?b2)) (ea_cons (e_bin (e_var 1) (e_var 2) (ov_fdiv ?b1 ?b2)) ea_nil))) ?b3)))))
    all_goals
      have e : sg p q = if q < 0 then -((Nat.gcd p.natAbs q.natAbs : Nat) : Int) else ((Nat.gcd p.natAbs q.natAbs : Nat) : Int) := rfl
      first
        | (rw [if_pos (of_decide_eq_true h)] at e)
        | (rw [if_neg (of_decide_eq_false h)] at e)
      first
        | (rw [← e]; exact hn)
        | (rw [← e]; exact hs.log (by decide))
        | (rw [← e]; rfl)
theorem scPlus : FnScope ["one", "other"] ["one", "other"] (defScope sPlus) := ⟨rfl, rfl, rfl, by decide +kernel, rfl, by decide +kernel, by decide +kernel⟩
theorem ok_plus (hp : DL.Put K mg "plus" sPlus) (dF : Def P w K mg base "fraction_of" 1 ["p", "q"] (spP K rFrac)) : Def P w K mg base "plus" 2 ["one", "other"] (spP K rPlus) := by
  refine def_P hp scPlus (fun _ _ _ _ _ _ us hl => match us, hl with | [_, _], _ => rfl) (by decide) (fun ds d h => ?_) (fun a hr ds d h => ?_)
  · obtain ⟨_, _, _, _, rfl, _⟩ := h
    rfl
  · obtain ⟨a, b, c, e, rfl, h, rfl⟩ := h
    have k_fraction_of := dF.known hr
    exact .rt (s_stop (s_retP (e_call k_fraction_of (ea_cons (e_bin (e_bin (e_ixt (e_var 0)) (e_ixt (e_var 1)) (ov_mul (h.sa.cmul h.se (by decide)))) (e_bin (e_ixt (e_var 1)) (e_ixt (e_var 0)) (ov_mul (h.sc.cmul h.sb (by decide)))) ov_add) (ea_cons (e_bin (e_ixt (e_var 0)) (e_ixt (e_var 1)) (ov_mul (h.sb.cmul h.se (by decide)))) ea_nil)) ⟨_, _, rfl, h.mul.1, h.mul.2, rfl⟩)))
theorem scMinus : FnScope ["one", "other"] ["one", "other"] (defScope sMinus) := ⟨rfl, rfl, rfl, by decide +kernel, rfl, by decide +kernel, by decide +kernel⟩
theorem ok_minus (hp : DL.Put K mg "minus" sMinus) (dF : Def P w K mg base "fraction_of" 1 ["p", "q"] (spP K rFrac)) : Def P w K mg base "minus" 2 ["one", "other"] (spP K rMinus) := by
  refine def_P hp scMinus (fun _ _ _ _ _ _ us hl => match us, hl with | [_, _], _ => rfl) (by decide) (fun ds d h => ?_) (fun a hr ds d h => ?_)
  · obtain ⟨_, _, _, _, rfl, _⟩ := h
    rfl
  · obtain ⟨a, b, c, e, rfl, h, rfl⟩ := h
    have k_fraction_of := dF.known hr
    exact .rt (s_stop (s_retP (e_call k_fraction_of (ea_cons (e_bin (e_bin (e_ixt (e_var 0)) (e_ixt (e_var 1)) (ov_mul (h.sa.cmul h.se (by decide)))) (e_bin (e_ixt (e_var 1)) (e_ixt (e_var 0)) (ov_mul (h.sc.cmul h.sb (by decide)))) ov_sub) (ea_cons (e_bin (e_ixt (e_var 0)) (e_ixt (e_var 1)) (ov_mul (h.sb.cmul h.se (by decide)))) ea_nil)) ⟨_, _, rfl, h.mul.1, h.mul.2, rfl⟩)))
theorem scTimes : FnScope ["one", "other"] ["one", "other"] (defScope sTimes) := ⟨rfl, rfl, rfl, by decide +kernel, rfl, by decide +kernel, by decide +kernel⟩
theorem ok_times (hp : DL.Put K mg "times" sTimes) (dF : Def P w K mg base "fraction_of" 1 ["p", "q"] (spP K rFrac)) : Def P w K mg base "times" 2 ["one", "other"] (spP K rTimes) := by
  refine def_P hp scTimes (fun _ _ _ _ _ _ us hl => match us, hl with | [_, _], _ => rfl) (by decide) (fun ds d h => ?_) (fun a hr ds d h => ?_)
  · obtain ⟨_, _, _, _, rfl, _⟩ := h
    rfl
  · obtain ⟨a, b, c, e, rfl, h, rfl⟩ := h
    have k_fraction_of := dF.known hr
    exact .rt (s_stop (s_retP (e_call k_fraction_of (ea_cons (e_bin (e_ixt (e_var 0)) (e_ixt (e_var 1)) (ov_mul (h.sa.cmul h.sc (by decide)))) (ea_cons (e_bin (e_ixt (e_var 0)) (e_ixt (e_var 1)) (ov_mul (h.sb.cmul h.se (by decide)))) ea_nil)) ⟨_, _, rfl, h.mul.1, h.mul.2, rfl⟩)))
theorem scOver : FnScope ["one", "other"] ["one", "other"] (defScope sOver) := ⟨rfl, rfl, rfl, by decide +kernel, rfl, by decide +kernel, by decide +kernel⟩
theorem ok_over (hp : DL.Put K mg "over" sOver) (dF : Def P w K mg base "fraction_of" 1 ["p", "q"] (spP K rFrac)) : Def P w K mg base "over" 2 ["one", "other"] (spP K rOver) := by
  refine def_P hp scOver (fun _ _ _ _ _ _ us hl => match us, hl with | [_, _], _ => rfl) (by decide) (fun ds d h => ?_) (fun a hr ds d h => ?_)
  · obtain ⟨_, _, _, _, rfl, _⟩ := h
    rfl
  · obtain ⟨a, b, c, e, rfl, h, rfl⟩ := h
    have k_fraction_of := dF.known hr
    by_cases hc : c = 0
    · rw [if_pos hc]
      exact .rt (s_stop (s_retP (e_if (t_cmp (e_ixt (e_var 1)) e_int ov_eqI) (fun h => e_non) (fun h => absurd hc (of_decide_eq_false h)))))
    · rw [if_neg hc]
      exact .rt (s_stop (s_retP (e_if (t_cmp (e_ixt (e_var 1)) e_int ov_eqI) (fun h => absurd (of_decide_eq_true h) hc) (fun _ => (e_call k_fraction_of (ea_cons (e_bin (e_ixt (e_var 0)) (e_ixt (e_var 1)) (ov_mul (h.sa.cmul h.se (by decide)))) (ea_cons (e_bin (e_ixt (e_var 0)) (e_ixt (e_var 1)) (ov_mul (h.sb.cmul h.sc (by decide)))) ea_nil)) ⟨_, _, rfl, Int.mul_ne_zero h.hb hc, (h.sb.mul h.sc).mono (by decide), rfl⟩)))))
theorem scLess : FnScope ["one", "other"] ["one", "other"] (defScope sLess) := ⟨rfl, rfl, rfl, by decide +kernel, rfl, by decide +kernel, by decide +kernel⟩
theorem ok_less (hp : DL.Put K mg "is_less" sLess) : Def P w K mg base "is_less" 1 ["one", "other"] (spP K rLess) := by
  refine def_P hp scLess (fun _ _ _ _ _ _ us hl => match us, hl with | [_, _], _ => rfl) (by decide) (fun ds d h => ?_) (fun a hr ds d h => ?_)
  · obtain ⟨_, _, _, _, rfl, _⟩ := h
    rfl
  · obtain ⟨a, b, c, e, rfl, sa, sb, sc, se, rfl⟩ := h
    exact .rt (s_stop (s_retP (e_cmp (e_bin (e_ixt (e_var 0)) (e_ixt (e_var 1)) (ov_mul (sa.cmul se (by decide)))) (e_bin (e_ixt (e_var 1)) (e_ixt (e_var 0)) (ov_mul (sc.cmul sb (by decide)))) ov_lt)))
theorem scFloor : FnScope ["t"] ["t"] (defScope sFloor) := ⟨rfl, rfl, rfl, by decide +kernel, rfl, by decide +kernel, by decide +kernel⟩
theorem ok_floor (hp : DL.Put K mg "floor_of" sFloor) : Def P w K mg base "floor_of" 1 ["t"] (spP K rFloor) := by
  refine def_P hp scFloor (fun _ _ _ _ _ _ us hl => match us, hl with | [_], _ => rfl) (by decide) (fun ds d h => ?_) (fun a hr ds d h => ?_)
  · obtain ⟨_, _, rfl, _⟩ := h
    rfl
  · obtain ⟨a, b, rfl, hb, sb, rfl⟩ := h
    exact .rt (s_stop (s_retP (e_bin (e_ixt (e_var 0)) (e_ixt (e_var 0)) (ov_fdiv hb (sb.log (by decide))))))
theorem scCeil : FnScope ["t"] ["t"] (defScope sCeil) := ⟨rfl, rfl, rfl, by decide +kernel, rfl, by decide +kernel, by decide +kernel⟩
theorem ok_ceil (hp : DL.Put K mg "ceiling_of" sCeil) : Def P w K mg base "ceiling_of" 1 ["t"] (spP K rCeil) := by
  refine def_P hp scCeil (fun _ _ _ _ _ _ us hl => match us, hl with | [_], _ => rfl) (by decide) (fun ds d h => ?_) (fun a hr ds d h => ?_)
  · obtain ⟨_, _, rfl, _⟩ := h
    rfl
  · obtain ⟨a, b, rfl, hb, sb, rfl⟩ := h
    exact .rt (s_stop (s_retP (e_neg (e_bin (e_neg (e_ixt (e_var 0))) (e_ixt (e_var 0)) (ov_fdiv hb (sb.log (by decide)))))))
end
end K01
end part_K01a
section part_K01b
namespace K01
open L2 PyProof.Rows PySem.Spec PySem DL Num
/-! ### total, lowest, highest -/
abbrev frD (x : Int × Int) : PyData := fr x.1 x.2
def addF (x y : Int × Int) : Int × Int := (num (x.1 * y.2 + y.1 * x.2) (x.2 * y.2), den (x.1 * y.2 + y.1 * x.2) (x.2 * y.2))
def lessF (x y : Int × Int) : Bool := decide (x.1 * y.2 < y.1 * x.2)
/-- a fraction of n bits -/
structure Fo (n : Nat) (x : Int × Int) : Prop where
  pos : 0 < x.2
  s1 : Sz n x.1
  s2 : Sz n x.2
theorem Fo.mono {n m : Nat} {x : Int × Int} (h : Fo n x) (le : n ≤ m) : Fo m x := ⟨h.pos, h.s1.mono le, h.s2.mono le⟩
theorem Fo.add {n m k : Nat} {x y : Int × Int} (h : Fo n x) (g : Fo m y) (hk : n + m < k) : Fo k (addF x y) := by
  have hz : x.2 * y.2 ≠ 0 := Int.mul_ne_zero (by have := h.pos; omega) (by have := g.pos; omega)
  exact ⟨den_pos hz, num_size _ ((h.s1.mul g.s2).add (g.s1.mul h.s2) hk (by omega)), den_size _ ((h.s2.mul g.s2).mono (by omega))⟩
theorem Fo.f2 {n m : Nat} {x y : Int × Int} (h : Fo n x) (g : Fo m y) (hn : n ≤ 4400) (hm : m ≤ 4400) : F2 x.1 x.2 y.1 y.2 :=
  ⟨by have := h.pos; omega, by have := g.pos; omega, h.s1.mono hn, h.s2.mono hn, g.s1.mono hm, g.s2.mono hm⟩
/-- a list or a tuple of fractions -/
def seqD (t : Bool) (xs : List (Int × Int)) : PyData := if t then .tuple (xs.map frD) else .list (xs.map frD)
def rTotal (ds : List PyData) (d : PyData) : Prop := ∃ (t : Bool) (xs : List (Int × Int)), ds = [seqD t xs] ∧ xs.length ≤ 30 ∧ (∀ x ∈ xs, Fo 140 x) ∧ d = frD (xs.foldl addF (0, 1))
def lowF (xs : List (Int × Int)) (x : Int × Int) : Int × Int := xs.foldl (fun f y => if lessF y f then y else f) x
def highF (xs : List (Int × Int)) (x : Int × Int) : Int × Int := xs.foldl (fun f y => if lessF f y then y else f) x
def rLow (ds : List PyData) (d : PyData) : Prop := ∃ (t : Bool) (x : Int × Int) (xs : List (Int × Int)), ds = [seqD t (x :: xs)] ∧ (∀ y ∈ x :: xs, Fo 140 y) ∧ d = frD (lowF (x :: xs) x)
def rHigh (ds : List PyData) (d : PyData) : Prop := ∃ (t : Bool) (x : Int × Int) (xs : List (Int × Int)), ds = [seqD t (x :: xs)] ∧ (∀ y ∈ x :: xs, Fo 140 y) ∧ d = frD (highF (x :: xs) x)
section
variable {P : Program} {w : World} {K : PySem.W.Frag} {mg : Str → Option Value} {base : Heap}
theorem i_seq {X : Cx} {tg l : Expr} {ρ ρ1 : List Sl} {t : Bool} {xs : List (Int × Int)} (h : E X l ρ (seqD t xs) ρ1) : Iter X tg l ρ (xs.map frD) ρ1 := by
  cases t with
  | true => exact i_tup h
  | false => exact i_list h
abbrev cTotal (K : PySem.W.Frag) (P : Program) (w : World) (mg : Str → Option Value) (base : Heap) (a : CxA) : Cx := cx P w K mg base ["fractions", "found", "one"] "total" sTotal a
theorem scTotal : FnScope ["fractions", "found", "one"] ["fractions"] (defScope sTotal) := ⟨rfl, rfl, rfl, by decide +kernel, rfl, by decide +kernel, by decide +kernel⟩
theorem total_loop (dP : Def P w K mg base "plus" 2 ["one", "other"] (spP K rPlus)) {a : CxA} (hr : Rm 2 (cTotal K P w mg base a).A) (l : PyData) : ∀ (xs : List (Int × Int)) (f : Int × Int) (m : Nat), Fo m f → m + 142 * xs.length ≤ 4400 → (∀ x ∈ xs, Fo 140 x) →
    Loop (cTotal K P w mg base a) (forT (bodyAt sTotal 1)) (lpB (bodyAt sTotal 1)) (xs.map frD) [.dat l, .dat (frD f), .un] (.nx [.dat l, .dat (frD (xs.foldl addF f)), .un])
  | [], f, m, _, _, _ => .nil
  | x :: xs, f, m, hf, hm, hx => by
    have k_plus := dP.known hr
    have fx := hx x List.mem_cons_self
    rw [List.length_cons] at hm
    refine .nx (g_name 2 scTotal.nd) (s_cons (s_set 1 (e_call k_plus (ea_cons (e_var 1) (ea_cons (e_var 2) ea_nil)) ⟨_, _, _, _, rfl, hf.f2 fx (by omega) (by decide), rfl⟩) scTotal.nd) (s_nil (le_cons (le_cons (le_un le_nil))))) ?_
    exact total_loop dP hr l xs (addF f x) (m + 141) (hf.add fx (by omega)) (by omega) fun y hy => hx y (List.mem_cons_of_mem _ hy)
theorem ok_total (hp : DL.Put K mg "total" sTotal) (dP : Def P w K mg base "plus" 2 ["one", "other"] (spP K rPlus)) (c_N : ∃ v u, mg "NOUGHT" = some u ∧ RelV v u ∧ ∀ G, Da K G v (fr 0 1)) : Def P w K mg base "total" 3 ["fractions"] (spP K rTotal) := by
  refine def_P hp scTotal (fun _ _ _ _ _ _ us hl => match us, hl with | [_], _ => rfl) (by decide) (fun ds d h => ?_) (fun a hr ds d h => ?_)
  · obtain ⟨_, _, rfl, _⟩ := h
    rfl
  · obtain ⟨t, xs, rfl, hl, hx, rfl⟩ := h
    refine .rt (s_cons (s_set 1 (e_glob ⟨c_N⟩) scTotal.nd) (s_cons (s_for (i_seq (e_var 0)) (total_loop dP hr (seqD t xs) xs (0, 1) 1 ⟨by decide, (by show (0 : Int).natAbs < 2 ^ 1; decide), (by show (1 : Int).natAbs < 2 ^ 1; decide)⟩ (by omega) hx)) (s_stop (s_retP (e_var 1)))))
abbrev cLow (K : PySem.W.Frag) (P : Program) (w : World) (mg : Str → Option Value) (base : Heap) (a : CxA) : Cx := cx P w K mg base ["fractions", "found", "one"] "lowest" sLow a
theorem scLow : FnScope ["fractions", "found", "one"] ["fractions"] (defScope sLow) := ⟨rfl, rfl, rfl, by decide +kernel, rfl, by decide +kernel, by decide +kernel⟩
theorem low_loop (dL : Def P w K mg base "is_less" 1 ["one", "other"] (spP K rLess)) {a : CxA} (hr : Rm 1 (cLow K P w mg base a).A) (l : PyData) : ∀ (xs : List (Int × Int)) (f : Int × Int), Fo 140 f → (∀ x ∈ xs, Fo 140 x) →
    Loop (cLow K P w mg base a) (forT (bodyAt sLow 1)) (lpB (bodyAt sLow 1)) (xs.map frD) [.dat l, .dat (frD f), .un] (.nx [.dat l, .dat (frD (lowF xs f)), .un])
  | [], f, _, _ => .nil
  | x :: xs, f, hf, hx => by
    have k_less := dL.known hr
    have fx := hx x List.mem_cons_self
    have hl : rLess [frD x, frD f] (.bool (lessF x f)) := ⟨_, _, _, _, rfl, fx.s1.mono (by decide), fx.s2.mono (by decide), hf.s1.mono (by decide), hf.s2.mono (by decide), rfl⟩
    have ih := low_loop dL hr l xs (if lessF x f then x else f) (by split <;> assumption) fun y hy => hx y (List.mem_cons_of_mem _ hy)
    refine .nx (g_name 2 scLow.nd) (s_cons (s1_if (t_val (e_call k_less (ea_cons (e_var 2) (ea_cons (e_var 1) ea_nil)) hl)) (fun h => ?_) (fun h => ?_)) s_nil') ih
    · rw [if_pos h]
      exact s_cons (s_set 1 (e_var 2) scLow.nd) (s_nil (le_cons (le_cons (le_un le_nil))))
    · rw [if_neg (by rw [h]; decide)]
      exact s_nil (le_cons (le_cons (le_un le_nil)))
theorem low_start {X : Cx} {e : Expr} {pos p2 : Pos} {j : Nat} {ρ ρ1 : List Sl} {t : Bool} {x : Int × Int} {xs : List (Int × Int)} (h : E X e ρ (seqD t (x :: xs)) ρ1) : E X (.Subscript e (.Constant (.int 0) j p2) pos) ρ (frD x) ρ1 := by
  cases t with
  | true => exact e_ixt (k := 0) h
  | false => exact e_ixl (k := 0) h
theorem ok_low (hp : DL.Put K mg "lowest" sLow) (dL : Def P w K mg base "is_less" 1 ["one", "other"] (spP K rLess)) : Def P w K mg base "lowest" 2 ["fractions"] (spP K rLow) := by
  refine def_P hp scLow (fun _ _ _ _ _ _ us hl => match us, hl with | [_], _ => rfl) (by decide) (fun ds d h => ?_) (fun a hr ds d h => ?_)
  · obtain ⟨_, _, _, rfl, _⟩ := h
    rfl
  · obtain ⟨t, x, xs, rfl, hx, rfl⟩ := h
    exact .rt (s_cons (s_set 1 (low_start (e_var 0)) scLow.nd) (s_cons (s_for (i_seq (e_var 0)) (low_loop dL hr (seqD t (x :: xs)) (x :: xs) x (hx x List.mem_cons_self) hx)) (s_stop (s_retP (e_var 1)))))
abbrev cHigh (K : PySem.W.Frag) (P : Program) (w : World) (mg : Str → Option Value) (base : Heap) (a : CxA) : Cx := cx P w K mg base ["fractions", "found", "one"] "highest" sHigh a
theorem scHigh : FnScope ["fractions", "found", "one"] ["fractions"] (defScope sHigh) := ⟨rfl, rfl, rfl, by decide +kernel, rfl, by decide +kernel, by decide +kernel⟩
theorem high_loop (dL : Def P w K mg base "is_less" 1 ["one", "other"] (spP K rLess)) {a : CxA} (hr : Rm 1 (cHigh K P w mg base a).A) (l : PyData) : ∀ (xs : List (Int × Int)) (f : Int × Int), Fo 140 f → (∀ x ∈ xs, Fo 140 x) →
    Loop (cHigh K P w mg base a) (forT (bodyAt sHigh 1)) (lpB (bodyAt sHigh 1)) (xs.map frD) [.dat l, .dat (frD f), .un] (.nx [.dat l, .dat (frD (highF xs f)), .un])
  | [], f, _, _ => .nil
  | x :: xs, f, hf, hx => by
    have k_less := dL.known hr
    have fx := hx x List.mem_cons_self
    have hl : rLess [frD f, frD x] (.bool (lessF f x)) := ⟨_, _, _, _, rfl, hf.s1.mono (by decide), hf.s2.mono (by decide), fx.s1.mono (by decide), fx.s2.mono (by decide), rfl⟩
    have ih := high_loop dL hr l xs (if lessF f x then x else f) (by split <;> assumption) fun y hy => hx y (List.mem_cons_of_mem _ hy)
    refine .nx (g_name 2 scHigh.nd) (s_cons (s1_if (t_val (e_call k_less (ea_cons (e_var 1) (ea_cons (e_var 2) ea_nil)) hl)) (fun h => ?_) (fun h => ?_)) s_nil') ih
    · rw [if_pos h]
      exact s_cons (s_set 1 (e_var 2) scHigh.nd) (s_nil (le_cons (le_cons (le_un le_nil))))
    · rw [if_neg (by rw [h]; decide)]
      exact s_nil (le_cons (le_cons (le_un le_nil)))
theorem ok_high (hp : DL.Put K mg "highest" sHigh) (dL : Def P w K mg base "is_less" 1 ["one", "other"] (spP K rLess)) : Def P w K mg base "highest" 2 ["fractions"] (spP K rHigh) := by
  refine def_P hp scHigh (fun _ _ _ _ _ _ us hl => match us, hl with | [_], _ => rfl) (by decide) (fun ds d h => ?_) (fun a hr ds d h => ?_)
  · obtain ⟨_, _, _, rfl, _⟩ := h
    rfl
  · obtain ⟨t, x, xs, rfl, hx, rfl⟩ := h
    exact .rt (s_cons (s_set 1 (low_start (e_var 0)) scHigh.nd) (s_cons (s_for (i_seq (e_var 0)) (high_loop dL hr (seqD t (x :: xs)) (x :: xs) x (hx x List.mem_cons_self) hx)) (s_stop (s_retP (e_var 1)))))
end
end K01
end part_K01b
section part_K01c
namespace K01
open L2 PyProof.Rows PySem.Spec PySem DL Num
/-! ### the law's draws -/
abbrev sSource : Stmt := top 15
abbrev sPick : Stmt := top 16
abbrev sOf : Stmt := top 17
abbrev sMixed : Stmt := top 18
abbrev sLeast : Stmt := top 19
abbrev sLPlus : Stmt := top 20
abbrev sGreat : Stmt := top 21
/-- a source that may be drawn from -/
structure Ok (t : Src) : Prop where
  more : moreOk t
  few : t.more.length < 1000
theorem Ok.left {t : Src} (h : Ok t) (n : Int) : Ok { t with left := n } := ⟨h.more, h.few⟩
theorem Ok.mixed {t : Src} (h : Ok t) (n : Int) : Ok { t with mixed := n } := ⟨h.more, h.few⟩
theorem Ok.turn {t : Src} (h : Ok t) (n : Int) : Ok { t with turn := n } := ⟨h.more, h.few⟩
theorem Ok.cells {t : Src} (h : Ok t) (c : List Int) : Ok { t with cells := c } := ⟨h.more, h.few⟩
theorem hu_rm {k : Nat} {A : Around} (h : Rm k A) : A.units + 1 < cLine := hu_of h.1
section
variable {P : Program} {w : World} {K : PySem.W.Frag} {mg : Str → Option Value} {base : Heap}
/-! #### _law_pick -/
def prePick (t : Src) (ds : List PyData) : Prop := Ok t ∧ ∃ m : Int, ds = [.int m] ∧ Sz 900 m
def postPick (t : Src) (ds : List PyData) (t' : Src) (d : PyData) : Prop := Ok t' ∧ ∃ m n : Int, ds = [.int m] ∧ d = .int n ∧ 0 ≤ n ∧ (n < m ∨ n = 0)
theorem scPick : FnScope ["source", "many", "left", "mixed"] ["source", "many"] (defScope sPick) := ⟨rfl, rfl, rfl, by decide +kernel, rfl, by decide +kernel, by decide +kernel⟩
abbrev cPick (P : Program) (w : World) (K : PySem.W.Frag) (mg : Str → Option Value) (base : Heap) (a : CxA) : Cx := cx P w K mg base ["source", "many", "left", "mixed"] "_law_pick" sPick a
theorem pick_loop (m_len : mg "len" = none) (m : Int) : ∀ (k : Nat) (t : Src), t.cells.length = k → Ok t → ∃ (t' : Src) (n : Nat), Ok t' ∧ ∀ (a : CxA), Rm 0 (cPick P w K mg base a).A → ∀ s l,
    Wh (cPick P w K mg base a) (whC (bodyAt sPick 0)) (lpB (bodyAt sPick 0)) n [.src s l t, .dat (.int m), .un, .un] (.nx [.src s l t', .dat (.int m), .un, .un]) := by
  intro k
  induction k with
  | zero =>
    intro t hk ht
    refine ⟨t, 0, ht, fun a hr s l => ?_⟩
    have hu := hu_rm hr
    refine .done (T.to (t_w (tw_and (t_cmp (e_var 1) e_int ov_gt) (fun h => (tw_and (t_cmp (e_src 0 (src_left · _) hu) e_int ov_lt) (fun h => (tw_and1 (t_cmp (e_srcLen 0 hu m_len) e_int ov_gt))) (fun h => rfl))) (fun h => rfl))) ?_)
    rw [hk]
    simp
  | succ k ih =>
    intro t hk ht
    by_cases hc : 1 < m ∧ t.left < 2
    · have hlast : t.cells[t.cells.length - 1]? = some (t.cells[t.cells.length - 1]'(by omega)) := List.getElem?_eq_getElem _
      obtain ⟨t', n, ht', h⟩ := ih { t with cells := t.cells.dropLast, left := t.cells[t.cells.length - 1]'(by omega) } (by show t.cells.dropLast.length = k; rw [List.length_dropLast]; omega) ⟨ht.more, ht.few⟩
      refine ⟨t', n + 1, ht', fun a hr s l => ?_⟩
      have hu := hu_rm hr
      refine .nx (T.to (t_w (tw_and (t_cmp (e_var 1) e_int ov_gt) (fun h => (tw_and (t_cmp (e_src 0 (src_left · _) hu) e_int ov_lt) (fun h => (tw_and1 (t_cmp (e_srcLen 0 hu m_len) e_int ov_gt))) (fun h => rfl))) (fun h => rfl))) ?_) (s_cons (s_srcSet 0 (e_srcPop 0 hu rfl hlast) hu (put_left · _ (show moreOk { t with cells := t.cells.dropLast } from ht.more) _) rfl ht.few) s_nil') (h a hr s l)
      rw [decide_eq_true hc.1, decide_eq_true hc.2, hk]
      simp
    · refine ⟨t, 0, ht, fun a hr s l => ?_⟩
      have hu := hu_rm hr
      refine .done (T.to (t_w (tw_and (t_cmp (e_var 1) e_int ov_gt) (fun h => (tw_and (t_cmp (e_src 0 (src_left · _) hu) e_int ov_lt) (fun h => (tw_and1 (t_cmp (e_srcLen 0 hu m_len) e_int ov_gt))) (fun h => rfl))) (fun h => rfl))) ?_)
      by_cases h1 : 1 < m
      · have h2 : ¬ t.left < 2 := fun z => hc ⟨h1, z⟩
        rw [decide_eq_false h2, Bool.false_and, Bool.and_false]
      · rw [decide_eq_false h1, Bool.false_and]
theorem max_one {m : Int} : (if m > 1 then m else 1) ≠ 0 ∧ (Sz 900 m → Sz 901 (if m > 1 then m else 1)) := by
  by_cases h : m > 1
  · rw [if_pos h]
    exact ⟨by omega, fun z => z.mono (by decide)⟩
  · rw [if_neg h]
    refine ⟨by decide, fun _ => ?_⟩
    have h1 : Sz 1 1 := by show (1 : Int).natAbs < 2 ^ 1; decide
    exact h1.mono (by decide)
theorem fmod_in {a b : Int} (h : 0 < b) : 0 ≤ a.fmod b ∧ a.fmod b < b := ⟨Int.fmod_nonneg_of_pos a h, Int.fmod_lt_of_pos a h⟩
theorem fmod_sz {a b : Int} {n : Nat} (h : 0 < b) (hb : Sz n b) : Sz n (a.fmod b) := by
  have z := fmod_in (a := a) h
  exact hb.of_le (by omega)
theorem ok_pick (hp : DL.Put K mg "_law_pick" sPick) (m_len : mg "len" = none) (m_max : mg "max" = none) (m_int : mg "int" = none) : ∃ R, Def P w K mg base "_law_pick" 1 ["source", "many"] (spS K R) ∧ ∀ t ds, prePick t ds → ∃ t' d, R t ds t' d ∧ postPick t ds t' d := by
  refine def_Sx hp scPick (fun _ _ _ _ _ _ us hl => match us, hl with | [_, _], _ => rfl) (by decide) (fun t ds h => ?_) (fun t0 ds h => ?_)
  · obtain ⟨_, m, rfl, _⟩ := h
    rfl
  · obtain ⟨ht0, m, rfl, hm⟩ := h
    obtain ⟨t, n, ht, hw⟩ := pick_loop (P := P) (w := w) (K := K) (base := base) m_len m t0.cells.length t0 rfl ht0
    by_cases hc : m < 2 ∨ 1 < t.left
    · refine ⟨{ t with left := t.left.fdiv (if m > 1 then m else 1) }, .int (t.left.fmod (if m > 1 then m else 1)), ⟨ht.left _, m, _, rfl, rfl, ?_⟩, fun a hr s l => ?_⟩
      · by_cases h : m > 1
        · rw [if_pos h]
          have z := fmod_in (a := t.left) (show 0 < m by omega)
          exact ⟨z.1, .inl z.2⟩
        · rw [if_neg h]
          have z := fmod_in (a := t.left) (show (0 : Int) < 1 by decide)
          exact ⟨z.1, .inr (by omega)⟩
      · have hu := hu_rm hr
        refine s_cons (s_while (hw a hr s l)) (s_cons (s_set 2 (e_src 0 (src_left · _) hu) scPick.nd)
          (s_if (T.to (q := true) (t_w (tw_or (t_cmp (e_var 1) e_int ov_lt) (fun h => (tw_or1 (t_cmp (e_var 2) e_int ov_gt))) (fun h => rfl))) ?_) (fun h => .stop (s_cons (s_srcSet 0 (e_bin (e_var 2) (e_callB (ea_cons e_int (ea_cons (e_var 1) ea_nil)) (cv_max rfl) m_max) (ov_fdiv max_one.1 ((max_one.2 hm).log (by decide)))) hu (put_left · _ ht.more _) rfl ht.few)
          (s_stop (s_retS (e_bin (e_callTy (ea_cons (e_var 2) ea_nil) cv_int m_int) (e_callB (ea_cons e_int (ea_cons (e_var 1) ea_nil)) (cv_max rfl) m_max) (ov_mod max_one.1))))) trivial) (fun h => Bool.noConfusion h)))
        rcases hc with h | h
        · rw [decide_eq_true h, Bool.true_or]
        · rw [decide_eq_true h, Bool.or_true]
    · have h1 : ¬ m < 2 := fun z => hc (.inl z)
      have h2 : ¬ 1 < t.left := fun z => hc (.inr z)
      have hm0 : 0 < m := by omega
      refine ⟨{ { t with turn := t.turn + 1 } with mixed := (((t.mixed + (t.turn + 1) * 104729).fmod 998244353 * (t.mixed + (t.turn + 1) * 104729).fmod 998244353 + (t.turn + 1) * 17).fmod 2147483647) }, .int ((((t.mixed + (t.turn + 1) * 104729).fmod 998244353 * (t.mixed + (t.turn + 1) * 104729).fmod 998244353 + (t.turn + 1) * 17).fmod 2147483647).fdiv 16 |>.fmod m), ⟨(ht.turn _).mixed _, m, _, rfl, rfl, ?_⟩, fun a hr s l => ?_⟩
      · have z := fmod_in (a := ((((t.mixed + (t.turn + 1) * 104729).fmod 998244353 * (t.mixed + (t.turn + 1) * 104729).fmod 998244353 + (t.turn + 1) * 17).fmod 2147483647).fdiv 16)) hm0
        exact ⟨z.1, .inl z.2⟩
      · have hu := hu_rm hr
        have sm : Sz 40 ((t.mixed + (t.turn + 1) * 104729).fmod 998244353) := fmod_sz (by decide) (by show (998244353 : Int).natAbs < 2 ^ 40; decide)
        have ht1 := ht.turn (t.turn + 1)
        refine s_cons (s_while (hw a hr s l)) (s_cons (s_set 2 (e_src 0 (src_left · _) hu) scPick.nd)
          (s_if (T.to (q := false) (t_w (tw_or (t_cmp (e_var 1) e_int ov_lt) (fun h => (tw_or1 (t_cmp (e_var 2) e_int ov_gt))) (fun h => rfl))) ?_) (fun h => Bool.noConfusion h) (fun h => .go s_nil' (s_cons (s_srcSet 0 (e_bin (e_src 0 (src_turn · _) hu) e_int ov_add) hu (put_turn · _ ht.more _) rfl ht.few)
          (s_cons (s_set 3 (e_bin (e_callTy (ea_cons (e_bin (e_src 0 (src_mixed · _) hu) (e_bin (e_src 0 (src_turn · _) hu) e_int (ov_mulS (.inr ⟨by decide, by decide⟩))) ov_add) ea_nil) cv_int m_int) e_int (ov_mod (by decide))) scPick.nd)
          (s_cons (s_set 3 (e_bin (e_callTy (ea_cons (e_bin (e_bin (e_var 3) (e_var 3) (ov_mul (sm.cmul sm (by decide)))) (e_bin (e_src 0 (src_turn · _) hu) e_int (ov_mulS (.inr ⟨by decide, by decide⟩))) ov_add) ea_nil) cv_int m_int) e_int (ov_mod (by decide))) scPick.nd)
          (s_cons (s_srcSet 0 (e_var 3) hu (put_mixed · _ ht1.more ((((t.mixed + (t.turn + 1) * 104729).fmod 998244353 * (t.mixed + (t.turn + 1) * 104729).fmod 998244353 + (t.turn + 1) * 17).fmod 2147483647))) rfl ht.few)
          (s_stop (s_retS (e_bin (e_callTy (ea_cons (e_bin (e_var 3) e_int (ov_fdiv (by decide) (by decide +kernel))) ea_nil) cv_int m_int) (e_var 1) (ov_mod (by omega)))))))))))) 
        rw [decide_eq_false h1, decide_eq_false h2]
        rfl
end
end K01
end part_K01c
section part_K01s
namespace K01
open L2 PyProof.Rows PySem.Spec PySem DL Num
section
variable {P : Program} {w : World} {K : PySem.W.Frag} {mg : Str → Option Value} {base : Heap}
/-! #### _law_source -/
theorem scSource : FnScope ["script", "mixed", "cell"] ["script"] (defScope sSource) := ⟨rfl, rfl, rfl, by decide +kernel, rfl, by decide +kernel, by decide +kernel⟩
abbrev cSource (P : Program) (w : World) (K : PySem.W.Frag) (mg : Str → Option Value) (base : Heap) (a : CxA) : Cx := cx P w K mg base ["script", "mixed", "cell"] "_law_source" sSource a
def mixOf (ns : List Int) (m : Int) : Int := ns.foldl (fun m c => (m * 69069 + c * 31 + 5).fmod 2147483629) m
def absI (i : Int) : Int := if i < 0 then -i else i
def srcOf (ns : List Int) : Src := { cells := (ns.map absI).reverse, left := 1, mixed := mixOf ns 11, turn := 0 }
theorem srcOf_ok (ns : List Int) : Ok (srcOf ns) := ⟨fun _ h => (nomatch h), by show 0 < 1000; decide⟩
theorem source_loop (m_int : mg "int" = none) {a : CxA} (hr : Rm 0 (cSource P w K mg base a).A) (all : List Int) : ∀ (ns : List Int) (m : Int),
    Loop (cSource P w K mg base a) (forT (bodyAt sSource 1)) (lpB (bodyAt sSource 1)) (ns.map PyData.int) [.scr all, .dat (.int m), .un] (.nx [.scr all, .dat (.int (mixOf ns m)), .un])
  | [], m => .nil
  | n :: ns, m => .nx (g_name 2 scSource.nd) (s_cons (s_set 1 (e_bin (e_callTy (ea_cons (e_bin (e_bin (e_bin (e_var 1) e_int (ov_mulS (.inr ⟨by decide, by decide⟩))) (e_bin (e_var 2) e_int (ov_mulS (.inr ⟨by decide, by decide⟩))) ov_add) e_int ov_add) ea_nil) cv_int m_int) e_int (ov_mod (by decide))) scSource.nd) (s_nil (le_cons (le_cons (le_un le_nil))))) (source_loop m_int hr all ns _)
def dictOf : Stmt → Expr := exprOf
abbrev srcRev : Expr := match exprOf (bodyAt sSource 2) with
  | .Dict _ (.Subscript e _ _ :: _) _ => e
  | e => e
theorem source_cl (m_abs : mg "abs" = none) {a : CxA} (all : List Int) (m : Int) : ∀ (ns : List Int), CL (cSource P w K mg base a) (cmS srcRev) (cmT srcRev) (cmI srcRev) (cmE srcRev) [2] (ns.map PyData.int) [.scr all, .dat (.int m), .un] ((ns.map absI).map PyData.int) [.scr all, .dat (.int m), .un]
  | [] => .nil
  | n :: ns => .yes (js := [2]) (fun _ z => z) (fun _ _ _ _ _ => g_name 2 scSource.nd) (fun _ _ _ _ _ => ts_nil) (fun _ _ _ _ _ => e_callB (ea_cons (e_var 2) ea_nil) cv_abs m_abs) (.pre (ρ1 := [.scr all, .dat (.int m), .un]) (Le.refl _) (source_cl m_abs all m ns))
theorem blkSource : blkC ["script", "mixed", "cell"] (defScope sSource) (cmS srcRev) [("cell", 2)] = true := by decide +kernel
theorem source_end (m_abs : mg "abs" = none) {a : CxA} (ns : List Int) (hl : ns.length ≤ 1000) (m : Int) : ∃ te, PE (cSource P w K mg base a) (exprOf (bodyAt sSource 2)) te ∧
    ∀ (F G H : Hp) (σ : L2.St) (ad : Nat → List Addr) (Q : VK), Sta K F G H σ [.scr ns, .dat (.int m), .un] ad → (∀ s l H', F s = none → F l = none → Ex F H' → SrcAt H' s l { cells := (ns.map absI).reverse, left := 1, mixed := m, turn := 0 } → Q (.ref s) H') → te σ H Q := by
  refine ⟨_, pe_disp (pps_cons pe_str (pe_revL (eo_lc (own := [("cell", 2)]) (i_scr 0) (source_cl m_abs ns m ns) (by rw [List.length_map]; omega) scSource.nd (blkOk_by blkSource)))
    (pps_cons pe_str pe_int (pps_cons pe_str (pe_var (i := 1) rfl (.inl rfl)) (pps_cons pe_str pe_int pps_nil)))) rfl rfl (by decide) (by decide), fun F G H σ ad Q w k => ?_⟩
  intro p hp
  have Fp : F p = none := w.fh.none hp
  have w1 : Sta K (upd F p (.dK [])) G (upd H p (.dK [])) σ [.scr ns, .dat (.int m), .un] ad := by
    refine ⟨w.gh.trans (Ex.new hp), w.fh.both, fun i b z => ?_, fun i b z => ?_, w.dis, w.len, fun i r q => (w.hold i r q).grow (Ex.refl G) fun b _ u z => Ex.new hp b u z⟩
    · obtain ⟨o, ho⟩ := w.there i b z
      have ne : b ≠ p := fun e => by rw [e, hp] at ho; cases ho
      rw [upd_ne ne]
      exact w.own i b z
    · obtain ⟨o, ho⟩ := w.there i b z
      exact ⟨o, Ex.new hp b o ho⟩
  refine ⟨_, _, _, w1, fun l xs H1 G1 ad1 e1 w2 f1 f2 f3 f4 f5 => ?_⟩
  refine ⟨l, xs, rfl, SqL.of f4, fun p2 hp2 => ?_⟩
  obtain ⟨v, hv, pv⟩ := w2.dat (i := 1) (d := .int m) rfl
  cases pv
  have hpl : H1 p = some (.dK []) := w2.fh _ _ upd_same
  have ne : p ≠ p2 := fun e => by rw [← e, hpl] at hp2; cases hp2
  refine ⟨_, hv, ?_, [(Sum.inr "cells", .ref p2), (Sum.inr "left", .int 1), (Sum.inr "mixed", .int m), (Sum.inr "turn", .int 0)], rfl, Nat.le_of_ble_eq_true rfl, ?_⟩
  · rw [upd_ne ne]
    exact hpl
  · have xe : xs = (ns.map absI).map V.int := ints_daAll f5
    subst xe
    refine k p p2 _ Fp ?_ ?_ ⟨?_, ?_⟩
    · exact (Ex.new Fp).trans w2.fh |>.none hp2
    · intro b u z
      have n1 : b ≠ p := fun e => by rw [e, Fp] at z; cases z
      have z1 : H1 b = some u := w2.fh b u (by rw [upd_ne n1]; exact z)
      have n2 : b ≠ p2 := fun e => by rw [e, hp2] at z1; cases z1
      rw [upd_ne n1, upd_ne n2]
      exact z1
    · rw [upd_same]
      rfl
    · rw [upd_ne (Ne.symm ne), upd_same, List.map_reverse]
theorem ok_source (hp : DL.Put K mg "_law_source" sSource) (m_int : mg "int" = none) (m_abs : mg "abs" = none) : Def P w K mg base "_law_source" 1 ["script"] (spSrc K srcOf) := by
  obtain ⟨f, fd, h1, F⟩ := hp.ex
  have b := F.bindsN (ps := ["script"]) (fun _ _ _ _ _ _ us hl => match us, hl with | [_], _ => rfl)
  refine ⟨f, fd, h1, F.kp, b, fnG_of F scSource (fun vs H Q E h => ?_) (fun cdv A outer sh H vs Q E hr0 hgd h => ?_)⟩
  · obtain ⟨a, ns, rfl, _⟩ := h
    rfl
  · obtain ⟨a, ns, rfl, hs, hn, q⟩ := h
    have w0 : Sta K H H H (L2.start ["script", "mixed", "cell"] [.ref a]) (dataS ["script", "mixed", "cell"] 1 [.scr ns]) (fun _ => []) :=
      sta0 (vs := [.ref a]) (Ex.refl H) (Ex.refl H) rfl (Nat.le_of_ble_eq_true rfl) _ (fun _ _ z => nomatch z) (fun _ _ z => nomatch z) (fun _ _ _ z => nomatch z) fun i r z => by
        cases i with
        | zero => cases z; exact ⟨a, rfl, hs⟩
        | succ i => cases z
    let c : CxA := ⟨f, cdv, A, outer, sh, H, E⟩
    have hr : Rm 0 (cSource P w K mg base c).A := ⟨hr0, hgd⟩
    obtain ⟨te, h2, h3⟩ := source_end (P := P) (w := w) (K := K) (mg := mg) (base := base) m_abs (a := c) ns hn (mixOf ns 11)
    have s1 : S1 (cSource P w K mg base c) (bodyAt sSource 0) [.scr ns, .un, .un] (.nx [.scr ns, .dat (.int 11), .un]) := s_set 1 e_int scSource.nd
    have s2 : S1 (cSource P w K mg base c) (bodyAt sSource 1) [.scr ns, .dat (.int 11), .un] (.nx [.scr ns, .dat (.int (mixOf ns 11)), .un]) := s_for (i_scr 0) (source_loop m_int hr ns ns 11)
    refine ⟨_, PSs.nox (pss_cons s1 (pss_cons s2 (pss_cons (ps_ret h2) pss_nil))), ?_⟩
    refine ⟨_, _, _, w0, fun σ1 H1 G1 ad1 e1 w1 => ⟨_, _, _, w1, fun σ2 H2 G2 ad2 e2 w2 => ?_⟩⟩
    refine h3 _ _ _ _ _ _ w2 fun s l H' g1 g2 g3 g4 => ?_
    exact q s l H' g1 g2 g3 g4
end
end K01
end part_K01s
section part_K01d
namespace K01
open L2 PyProof.Rows PySem.Spec PySem DL Num
section
variable {P : Program} {w : World} {K : PySem.W.Frag} {mg : Str → Option Value} {base : Heap}
theorem E.to {X : Cx} {e : Expr} {ρ ρ1 : List Sl} {d d1 : PyData} (h : E X e ρ d1 ρ1) (q : d1 = d) : E X e ρ d ρ1 := by subst q; exact h
/-! #### _law_least -/
theorem scLeast : FnScope ["a", "b", "one", "other"] ["a", "b"] (defScope sLeast) := ⟨rfl, rfl, rfl, by decide +kernel, rfl, by decide +kernel, by decide +kernel⟩
abbrev cLeast (P : Program) (w : World) (K : PySem.W.Frag) (mg : Str → Option Value) (base : Heap) (a : CxA) : Cx := cx P w K mg base ["a", "b", "one", "other"] "_law_least" sLeast a
theorem fmod_nat (m n : Nat) : Int.fmod (m : Int) (n : Int) = ((m % n : Nat) : Int) := by
  rw [Int.fmod_eq_emod_of_nonneg _ (by omega), Int.natCast_emod]
theorem least_loop (m_int : mg "int" = none) (p q : PyData) : ∀ (n m : Nat), ∃ k, ∀ (a : CxA), Rm 0 (cLeast P w K mg base a).A →
    Wh (cLeast P w K mg base a) (whC (bodyAt sLeast 1)) (lpB (bodyAt sLeast 1)) k [.dat p, .dat q, .dat (.int (m : Int)), .dat (.int (n : Int))] (.nx [.dat p, .dat q, .dat (.int ((Nat.gcd m n : Nat) : Int)), .dat (.int 0)]) := by
  intro n
  induction n using Nat.strongRecOn with
  | ind n ih =>
    intro m
    by_cases hn : n = 0
    · subst hn
      refine ⟨0, fun a hr => ?_⟩
      rw [Nat.gcd_zero_right]
      exact .done (T.to (t_cmp (e_var 3) e_int ov_neI) rfl)
    · obtain ⟨k, hk⟩ := ih (m % n) (Nat.mod_lt _ (by omega)) n
      refine ⟨k + 1, fun a hr => ?_⟩
      have hg : Nat.gcd m n = Nat.gcd n (m % n) := by rw [Nat.gcd_comm, Nat.gcd_rec, Nat.gcd_comm]
      rw [hg]
      refine .nx (T.to (t_cmp (e_var 3) e_int ov_neI) ?_) (s_cons (s_par 2 3 (ea_cons (e_var 3) (ea_cons (E.to (e_bin (e_callTy (ea_cons (e_var 2) ea_nil) cv_int m_int) (e_var 3) (ov_mod ?_)) ?_) ea_nil)) rfl scLeast.nd) s_nil') (hk a hr)
      · rw [decide_eq_false (by omega)]
        rfl
      · omega
      · rw [fmod_nat]
theorem ok_least (hp : DL.Put K mg "_law_least" sLeast) (m_abs : mg "abs" = none) (m_int : mg "int" = none) : Def P w K mg base "_law_least" 1 ["a", "b"] (spP K rFrac) := by
  refine def_P hp scLeast (fun _ _ _ _ _ _ us hl => match us, hl with | [_, _], _ => rfl) (by decide) (fun ds d h => ?_) (fun a hr ds d h => ?_)
  · obtain ⟨p, q, rfl, _⟩ := h
    rfl
  · obtain ⟨p, q, rfl, hq, hz, rfl⟩ := h
    have hs : Sz 8999 (sg p q) := (sg_size hq hz).mono (by decide)
    have hn := sg_ne (p := p) hq
    obtain ⟨k, hk⟩ := least_loop (P := P) (w := w) (K := K) (base := base) m_int (.int p) (.int q) q.natAbs p.natAbs
    have ab : ∀ i : Int, PyData.int (if i < 0 then -i else i) = .int (i.natAbs : Int) := fun i => by
      congr 1
      split <;> omega
    have eg : (if decide (0 < q) then ((Nat.gcd p.natAbs q.natAbs : Nat) : Int) else 0 - ((Nat.gcd p.natAbs q.natAbs : Nat) : Int)) = sg p q := by
      unfold sg gc
      by_cases h : q < 0
      · rw [if_pos h, decide_eq_false (by omega), if_neg Bool.false_ne_true]
        omega
      · rw [if_neg h, decide_eq_true (by omega), if_pos rfl]
    refine .rt (s_cons (s_par 2 3 (ea_cons (E.to (e_callB (ea_cons (e_var 0) ea_nil) cv_abs m_abs) (ab p)) (ea_cons (E.to (e_callB (ea_cons (e_var 1) ea_nil) cv_abs m_abs) (ab q)) ea_nil)) rfl scLeast.nd)
      (s_cons (s_while (hk a hr))
      (s_cons (s_set 2 (d := .int (sg p q)) (e_if (t_cmp (e_var 1) e_int ov_gt) (fun h => E.to (e_var 2) ?_) (fun h => E.to (e_bin e_int (e_var 2) ov_sub) ?_)) scLeast.nd)
      (s_stop (s_retP (e_tup (ea_cons (e_bin (e_var 0) (e_var 2) (ov_fdiv hn (hs.log (by decide)))) (ea_cons (e_bin (e_var 1) (e_var 2) (ov_fdiv hn (hs.log (by decide)))) ea_nil))) rfl)))))
    · rw [h, if_pos rfl] at eg
      rw [← eg]
    · rw [h, if_neg Bool.false_ne_true] at eg
      rw [← eg]
/-! #### _law_plus -/
theorem scLPlus : FnScope ["x", "y"] ["x", "y"] (defScope sLPlus) := ⟨rfl, rfl, rfl, by decide +kernel, rfl, by decide +kernel, by decide +kernel⟩
theorem ok_lplus (hp : DL.Put K mg "_law_plus" sLPlus) (dF : Def P w K mg base "_law_least" 1 ["a", "b"] (spP K rFrac)) : Def P w K mg base "_law_plus" 2 ["x", "y"] (spP K rPlus) := by
  refine def_P hp scLPlus (fun _ _ _ _ _ _ us hl => match us, hl with | [_, _], _ => rfl) (by decide) (fun ds d h => ?_) (fun a hr ds d h => ?_)
  · obtain ⟨_, _, _, _, rfl, _⟩ := h
    rfl
  · obtain ⟨a, b, c, e, rfl, h, rfl⟩ := h
    have k_law_least := dF.known hr
    exact .rt (s_stop (s_retP (e_call k_law_least (ea_cons (e_bin (e_bin (e_ixt (e_var 0)) (e_ixt (e_var 1)) (ov_mul (h.sa.cmul h.se (by decide)))) (e_bin (e_ixt (e_var 1)) (e_ixt (e_var 0)) (ov_mul (h.sc.cmul h.sb (by decide)))) ov_add) (ea_cons (e_bin (e_ixt (e_var 0)) (e_ixt (e_var 1)) (ov_mul (h.sb.cmul h.se (by decide)))) ea_nil)) ⟨_, _, rfl, h.mul.1, h.mul.2, rfl⟩)))
end
/-! #### the promise of a draw -/
/-- what a def that draws is known by -/
def Draws (P : Program) (w : World) (K : PySem.W.Frag) (mg : Str → Option Value) (base : Heap) (x : Str) (k : Nat) (ps : List Str) (pre : Src → List PyData → Prop) (post : Src → List PyData → Src → PyData → Prop) : Prop :=
  ∃ R, Def P w K mg base x k ps (spS K R) ∧ ∀ t ds, pre t ds → ∃ t' d, R t ds t' d ∧ post t ds t' d
section
variable {P : Program} {w : World} {K : PySem.W.Frag} {mg : Str → Option Value} {base : Heap}
abbrev DPick (P : Program) (w : World) (K : PySem.W.Frag) (mg : Str → Option Value) (base : Heap) : Prop := Draws P w K mg base "_law_pick" 1 ["source", "many"] prePick postPick
/-! #### _law_of -/
theorem scOf : FnScope ["source", "some"] ["source", "some"] (defScope sOf) := ⟨rfl, rfl, rfl, by decide +kernel, rfl, by decide +kernel, by decide +kernel⟩
def preOf (t : Src) (ds : List PyData) : Prop := Ok t ∧ ∃ es : List PyData, ds = [.list es] ∧ es ≠ [] ∧ es.length < 1000
def postOf (t : Src) (ds : List PyData) (t' : Src) (d : PyData) : Prop := Ok t' ∧ ∃ es : List PyData, ds = [.list es] ∧ d ∈ es
theorem szNat {n : Nat} {k : Nat} (h : n < 2 ^ k) : Sz k (n : Int) := by
  unfold Sz
  rw [Int.natAbs_natCast]
  exact h
theorem pick_nat {R : Src → List PyData → Src → PyData → Prop} (hR : ∀ t ds, prePick t ds → ∃ t' d, R t ds t' d ∧ postPick t ds t' d) {t : Src} (ht : Ok t) (n : Nat) (hn : n < 1000) : ∃ t' j, R t [.int (n : Int)] t' (.int ((j : Nat) : Int)) ∧ Ok t' ∧ (j < n ∨ j = 0) := by
  obtain ⟨t', d, h1, h2, m, j, e1, rfl, h3, h4⟩ := hR t [.int (n : Int)] ⟨ht, _, rfl, szNat (Nat.lt_of_lt_of_le hn (by decide +kernel))⟩
  cases e1
  refine ⟨t', j.toNat, ?_, h2, by omega⟩
  rw [Int.toNat_of_nonneg h3]
  exact h1
theorem ok_of (hp : DL.Put K mg "_law_of" sOf) (dP : DPick P w K mg base) (m_len : mg "len" = none) : Draws P w K mg base "_law_of" 2 ["source", "some"] preOf postOf := by
  obtain ⟨R, dR, hR⟩ := dP
  refine def_Sx hp scOf (fun _ _ _ _ _ _ us hl => match us, hl with | [_, _], _ => rfl) (by decide) (fun t ds h => ?_) (fun t ds h => ?_)
  · obtain ⟨_, es, rfl, _⟩ := h
    rfl
  · obtain ⟨ht, es, rfl, hne, hl⟩ := h
    obtain ⟨t', j, h1, h2, h3⟩ := pick_nat hR ht es.length hl
    have hj : j < es.length := by
      have : es.length ≠ 0 := fun z => hne (List.length_eq_zero_iff.mp z)
      omega
    refine ⟨t', es[j], ⟨h2, es, rfl, List.getElem_mem _⟩, fun a hr s l => ?_⟩
    have k_law_pick := dR.known hr
    exact s_stop (s_retS (e_ix (e_var 1) (e_callS 0 k_law_pick (ea_cons (e_callB (ea_cons (e_var 1) ea_nil) cv_lenL m_len) ea_nil) h1) (ixv_lst (atI_nat (List.getElem?_eq_getElem hj)))))
/-! #### _law_mixed -/
theorem perm_out {α : Type} : ∀ {l : List α} {j : Nat} (h : j < l.length), (l[j] :: l.eraseIdx j).Perm l
  | x :: l, 0, _ => .refl _
  | x :: l, j + 1, h => by
    have := perm_out (l := l) (j := j) (by simpa using h)
    exact (List.Perm.swap _ _ _).trans (List.Perm.cons _ this)

theorem scMixed : FnScope ["source", "things", "rest", "lap"] ["source", "things"] (defScope sMixed) := ⟨rfl, rfl, rfl, by decide +kernel, rfl, by decide +kernel, by decide +kernel⟩
abbrev cMixed (P : Program) (w : World) (K : PySem.W.Frag) (mg : Str → Option Value) (base : Heap) (a : CxA) : Cx := cx P w K mg base ["source", "things", "rest", "lap"] "_law_mixed" sMixed a
theorem blkMixed : blkC ["source", "things", "rest", "lap"] (defScope sMixed) (cmS (exprOf (bodyAt sMixed 1))) [("lap", 3)] = true := by decide +kernel
abbrev mixE : Expr := exprOf (bodyAt sMixed 1)
theorem mixed_cl {R : Src → List PyData → Src → PyData → Prop} (dR : Def P w K mg base "_law_pick" 1 ["source", "many"] (spS K R)) (hR : ∀ t ds, prePick t ds → ∃ t' d, R t ds t' d ∧ postPick t ds t' d) (m_len : mg "len" = none) (things : PyData) :
    ∀ (ys es : List PyData) (t : Src), ys.length = es.length → es.length < 1000 → Ok t → ∃ t' rs, rs.Perm es ∧ Ok t' ∧ ∀ (a : CxA), Rm 1 (cMixed P w K mg base a).A → ∀ s l, CL (cMixed P w K mg base a) (cmS mixE) (cmT mixE) (cmI mixE) (cmE mixE) [3] ys [.src s l t, .dat things, .own es, .un] rs [.src s l t', .dat things, .own [], .un]
  | [], [], t, _, _, ht => ⟨t, [], .refl _, ht, fun a hr s l => .nil⟩
  | [], _ :: _, _, h, _, _ => nomatch h
  | _ :: _, [], _, h, _, _ => nomatch h
  | y :: ys, e :: es, t, h, hz, ht => by
    obtain ⟨t1, j, h1, ht1, h3⟩ := pick_nat hR ht (e :: es).length hz
    have hj : j < (e :: es).length := by
      rw [List.length_cons] at h3 ⊢
      omega
    have hlen : ((e :: es).eraseIdx j).length = es.length := by
      rw [List.length_eraseIdx_of_lt hj, List.length_cons]
      omega
    obtain ⟨t', rs, hp, ht', hc⟩ := mixed_cl dR hR m_len things ys ((e :: es).eraseIdx j) t1 (by rw [hlen]; simpa using h) (by rw [hlen]; rw [List.length_cons] at hz; omega) ht1
    refine ⟨t', (e :: es)[j] :: rs, ?_, ht', fun a hr s l => ?_⟩
    · exact (List.Perm.cons _ hp).trans (perm_out hj)
    · have k_law_pick := dR.known hr
      refine .yes (js := [3]) (fun _ z => z) (fun _ _ _ _ _ => g_name 3 scMixed.nd) (fun _ _ _ _ _ => ts_nil) (fun _ _ _ _ _ => e_popAt 2 (e_callS 0 k_law_pick (ea_cons (e_lenO 2 m_len) ea_nil) h1) (by omega) rfl rfl rfl (List.getElem?_eq_getElem hj) (by rw [List.length_cons] at hz ⊢; omega)) (.pre (ρ1 := [.src s l t1, .dat things, .own ((e :: es).eraseIdx j), .un]) (Le.refl _) (hc a hr s l))
def preMixed (t : Src) (ds : List PyData) : Prop := Ok t ∧ ∃ es : List PyData, ds = [.list es] ∧ es.length < 1000
def postMixed (t : Src) (ds : List PyData) (t' : Src) (d : PyData) : Prop := Ok t' ∧ ∃ es rs : List PyData, ds = [.list es] ∧ d = .list rs ∧ rs.Perm es
theorem ok_mixed (hp : DL.Put K mg "_law_mixed" sMixed) (dP : DPick P w K mg base) (m_len : mg "len" = none) (m_list : mg "list" = none) (m_range : mg "range" = none) : Draws P w K mg base "_law_mixed" 2 ["source", "things"] preMixed postMixed := by
  obtain ⟨R, dR, hR⟩ := dP
  refine def_Sx hp scMixed (fun _ _ _ _ _ _ us hl => match us, hl with | [_, _], _ => rfl) (by decide) (fun t ds h => ?_) (fun t ds h => ?_)
  · obtain ⟨_, es, rfl, _⟩ := h
    rfl
  · obtain ⟨ht, es, rfl, hl⟩ := h
    obtain ⟨t', rs, hp, ht', hc⟩ := mixed_cl dR hR m_len (.list es) (rangeD 0 es.length) es t (by unfold rangeD; simp) hl ht
    refine ⟨t', .list rs, ⟨ht', es, rs, rfl, rfl, hp⟩, fun a hr s l => ?_⟩
    refine (s_cons (s_setO 2 (eo_callTy (ea_cons (e_var 1) ea_nil) co_listL m_list) scMixed.nd)
      (s_stop (s_retS (e_O (eo_lc (own := [("lap", 3)]) (i_range1 (ea_cons (e_lenO 2 m_len) ea_nil) m_range (by have : es.length < 1000 := hl; omega)) (hc a hr s l) (by unfold rangeD; simp; omega) scMixed.nd (blkOk_by blkMixed))))))
end
end K01
end part_K01d
section part_K01e
namespace K01
open L2 PyProof.Rows PySem.Spec PySem DL Num
abbrev sDrawn : Stmt := top 22
section
variable {P : Program} {w : World} {K : PySem.W.Frag} {mg : Str → Option Value} {base : Heap}
theorem pick_int {R : Src → List PyData → Src → PyData → Prop} (hR : ∀ t ds, prePick t ds → ∃ t' d, R t ds t' d ∧ postPick t ds t' d) {t : Src} (ht : Ok t) (m : Int) (h1 : 1 ≤ m) (h2 : m < 1000000) : ∃ t' n, R t [.int m] t' (.int n) ∧ Ok t' ∧ 0 ≤ n ∧ n < m := by
  obtain ⟨t', d, g1, g2, m', j, e1, rfl, g3, g4⟩ := hR t [.int m] ⟨ht, _, rfl, Nat.lt_of_lt_of_le (show m.natAbs < 1000000 by omega) (by decide +kernel)⟩
  cases e1
  exact ⟨t', j, g1, g2, g3, by omega⟩
/-! #### _law_great -/
theorem scGreat : FnScope ["source", "figures", "found", "lap"] ["source", "figures"] (defScope sGreat) := ⟨rfl, rfl, rfl, by decide +kernel, rfl, by decide +kernel, by decide +kernel⟩
abbrev cGreat (P : Program) (w : World) (K : PySem.W.Frag) (mg : Str → Option Value) (base : Heap) (a : CxA) : Cx := cx P w K mg base ["source", "figures", "found", "lap"] "_law_great" sGreat a
theorem great_loop {R : Src → List PyData → Src → PyData → Prop} (dR : Def P w K mg base "_law_pick" 1 ["source", "many"] (spS K R)) (hR : ∀ t ds, prePick t ds → ∃ t' d, R t ds t' d ∧ postPick t ds t' d) (fg : PyData) :
    ∀ (ys : List PyData) (t : Src) (f m : Nat), f < 10 ^ m → Ok t → ∃ (t' : Src) (f' : Nat), f' < 10 ^ (m + ys.length) ∧ Ok t' ∧ ∀ (a : CxA), Rm 1 (cGreat P w K mg base a).A → ∀ s l,
      Loop (cGreat P w K mg base a) (forT (bodyAt sGreat 1)) (lpB (bodyAt sGreat 1)) ys [.src s l t, .dat fg, .dat (.int (f : Int)), .un] (.nx [.src s l t', .dat fg, .dat (.int (f' : Int)), .un])
  | [], t, f, m, hf, ht => ⟨t, f, hf, ht, fun a hr s l => .nil⟩
  | y :: ys, t, f, m, hf, ht => by
    obtain ⟨t1, n, h1, ht1, h2, h3⟩ := pick_int hR ht 10 (by decide) (by decide)
    obtain ⟨t', f', hf', ht', hl⟩ := great_loop dR hR fg ys t1 (f * 10 + n.toNat) (m + 1) (by rw [Nat.pow_succ]; omega) ht1
    refine ⟨t', f', by rw [List.length_cons, show m + (ys.length + 1) = m + 1 + ys.length by omega]; exact hf', ht', fun a hr s l => ?_⟩
    have k_law_pick := dR.known hr
    have e : PyData.int ((f : Int) * 10 + n) = .int ((f * 10 + n.toNat : Nat) : Int) := by
      congr 1
      omega
    exact .nx (g_name 3 scGreat.nd) (s_cons (s_set 2 (E.to (e_bin (e_bin (e_var 2) e_int (ov_mulS (.inr ⟨by decide, by decide⟩))) (e_callS 0 k_law_pick (ea_cons e_int ea_nil) h1) ov_add) e) scGreat.nd) (s_nil (le_cons (le_cons (le_cons (le_un le_nil)))))) (hl a hr s l)
def preGreat (t : Src) (ds : List PyData) : Prop := Ok t ∧ ∃ fg : Nat, ds = [.int (fg : Int)] ∧ 1 ≤ fg ∧ fg ≤ 1000
def postGreat (t : Src) (ds : List PyData) (t' : Src) (d : PyData) : Prop := Ok t' ∧ ∃ fg n : Nat, ds = [.int (fg : Int)] ∧ d = .int (n : Int) ∧ n < 10 ^ fg
theorem ok_great (hp : DL.Put K mg "_law_great" sGreat) (dP : DPick P w K mg base) (m_range : mg "range" = none) : Draws P w K mg base "_law_great" 2 ["source", "figures"] preGreat postGreat := by
  obtain ⟨R, dR, hR⟩ := dP
  refine def_Sx hp scGreat (fun _ _ _ _ _ _ us hl => match us, hl with | [_, _], _ => rfl) (by decide) (fun t ds h => ?_) (fun t ds h => ?_)
  · obtain ⟨_, es, rfl, _⟩ := h
    rfl
  · obtain ⟨ht, fg, rfl, h1, h2⟩ := h
    obtain ⟨t1, n, g1, ht1, g2, g3⟩ := pick_int hR ht (fg : Int) (by omega) (by omega)
    obtain ⟨t', f', hf, ht', hl⟩ := great_loop dR hR (.int (fg : Int)) (rangeD 0 (1 + n).toNat) t1 0 0 (by decide) ht1
    refine ⟨t', .int (f' : Int), ⟨ht', fg, f', rfl, rfl, Nat.lt_of_lt_of_le hf (Nat.pow_le_pow_right (by decide) (by unfold rangeD; simp; omega))⟩, fun a hr s l => ?_⟩
    have k_law_pick := dR.known hr
    exact s_cons (s_set 2 e_int scGreat.nd)
      (s_cons (s_for (i_range1 (ea_cons (e_bin e_int (e_callS 0 k_law_pick (ea_cons (e_var 1) ea_nil) g1) ov_add) ea_nil) m_range (by omega)) (hl a hr s l))
      (s_stop (s_retS (e_var 2))))
theorem great_int {R : Src → List PyData → Src → PyData → Prop} (hR : ∀ t ds, preGreat t ds → ∃ t' d, R t ds t' d ∧ postGreat t ds t' d) {t : Src} (ht : Ok t) (m : Nat) (h1 : 1 ≤ m) (h2 : m ≤ 1000) : ∃ (t' : Src) (n : Nat), R t [.int (m : Int)] t' (.int (n : Int)) ∧ Ok t' ∧ n < 10 ^ m := by
  obtain ⟨t', d, g1, g2, m', j, e1, rfl, g3⟩ := hR t [.int (m : Int)] ⟨ht, _, rfl, h1, h2⟩
  cases e1
  exact ⟨t', j, g1, g2, g3⟩
/-! #### _law_drawn -/
abbrev DGreat (P : Program) (w : World) (K : PySem.W.Frag) (mg : Str → Option Value) (base : Heap) : Prop := Draws P w K mg base "_law_great" 2 ["source", "figures"] preGreat postGreat
theorem scDrawn : FnScope ["source", "way", "sign"] ["source"] (defScope sDrawn) := ⟨rfl, rfl, rfl, by decide +kernel, rfl, by decide +kernel, by decide +kernel⟩
def preDrawn (t : Src) (ds : List PyData) : Prop := Ok t ∧ ds = []
def postDrawn (t : Src) (ds : List PyData) (t' : Src) (d : PyData) : Prop := Ok t' ∧ ∃ x : Int × Int, d = frD x ∧ Fo 140 x
theorem fo_frac {p q : Int} (h : q ≠ 0) (hp : Sz 140 p) (hq : Sz 140 q) : Fo 140 (num p q, den p q) := ⟨den_pos h, num_size _ hp, den_size _ hq⟩
theorem sz_great {n m : Nat} (h : n < 10 ^ m) (hm : m ≤ 41) : Sz 137 (n : Int) := by
  refine szNat (Nat.lt_of_lt_of_le h (Nat.le_trans (Nat.pow_le_pow_right (by decide) hm) (by decide +kernel)))
theorem sz_sign {s : Int} (h : s = 1 ∨ s = -1) : Sz 1 s := by
  rcases h with rfl | rfl
  · show (1 : Int).natAbs < 2 ^ 1; decide
  · show (-1 : Int).natAbs < 2 ^ 1; decide
theorem sz_lt {n : Nat} {i : Int} (h : i.natAbs < 2 ^ n) : Sz n i := h
theorem ok_drawn (hp : DL.Put K mg "_law_drawn" sDrawn) (dP : DPick P w K mg base) (dG : DGreat P w K mg base) (dL : Def P w K mg base "_law_least" 1 ["a", "b"] (spP K rFrac)) : Draws P w K mg base "_law_drawn" 3 ["source"] preDrawn postDrawn := by
  obtain ⟨R, dR, hR⟩ := dP
  obtain ⟨R2, dR2, hR2⟩ := dG
  refine def_Sx hp scDrawn (fun _ _ _ _ _ _ us hl => match us, hl with | [_], _ => rfl) (by decide) (fun t ds h => ?_) (fun t ds h => ?_)
  · obtain ⟨_, rfl⟩ := h
    rfl
  · obtain ⟨ht, rfl⟩ := h
    obtain ⟨t1, way, r1, ht1, g1, g2⟩ := pick_int hR ht 6 (by decide) (by decide)
    by_cases hw : way < 3
    · obtain ⟨t2, a, r2, ht2, g3, g4⟩ := pick_int hR ht1 25 (by decide) (by decide)
      obtain ⟨t3, b, r3, ht3, g5, g6⟩ := pick_int hR ht2 9 (by decide) (by decide)
      have sa : Sz 140 (a - 12) := Sz.mono (n := 20) (sz_lt (by omega)) (by decide)
      have sb : Sz 140 (1 + b) := Sz.mono (n := 20) (sz_lt (by omega)) (by decide)
      refine ⟨t3, frac (a - 12) (1 + b), ⟨ht3, _, rfl, fo_frac (by omega) sa sb⟩, fun c hr s l => ?_⟩
      have k_law_pick := dR.known hr
      have k_law_least := dL.known hr
      exact s_cons (s_set 1 (e_callS 0 k_law_pick (ea_cons e_int ea_nil) r1) scDrawn.nd)
        (s_if (t_cmp (e_var 1) e_int ov_lt) (fun h => .stop (s_stop (s_retS (e_call k_law_least (ea_cons (e_bin (e_callS 0 k_law_pick (ea_cons e_int ea_nil) r2) e_int ov_sub) (ea_cons (e_bin e_int (e_callS 0 k_law_pick (ea_cons e_int ea_nil) r3) ov_add) ea_nil)) ⟨_, _, rfl, by omega, sb.mono (by decide), rfl⟩))) trivial)
          (fun h => absurd hw (of_decide_eq_false h)))
    · obtain ⟨t2, sg1, r2, ht2, g3, g4⟩ := pick_int hR ht1 2 (by decide) (by decide)
      have ss : Sz 1 (1 - 2 * sg1) := sz_sign (by omega)
      by_cases hw2 : way < 5
      · obtain ⟨t3, a, r3, ht3, g5⟩ := great_int hR2 ht2 20 (by decide) (by decide)
        obtain ⟨t4, b, r4, ht4, g6⟩ := great_int hR2 ht3 6 (by decide) (by decide)
        have sa := sz_great g5 (by decide)
        have sm : Sz 140 ((1 - 2 * sg1) * (a : Int)) := (ss.mul sa).mono (by decide)
        have sb : Sz 140 (1 + (b : Int)) := Sz.mono (Sz.add (n := 137) (m := 137) (k := 138) (sz_lt (by decide +kernel)) (sz_great g6 (by decide)) (by decide) (by decide)) (by decide)
        refine ⟨t4, frac ((1 - 2 * sg1) * a) (1 + b), ⟨ht4, _, rfl, fo_frac (by omega) sm sb⟩, fun c hr s l => ?_⟩
        have k_law_pick := dR.known hr
        have k_law_great := dR2.known hr
        have k_law_least := dL.known hr
        exact s_cons (s_set 1 (e_callS 0 k_law_pick (ea_cons e_int ea_nil) r1) scDrawn.nd)
          (s_if (t_cmp (e_var 1) e_int ov_lt) (fun h => absurd (of_decide_eq_true h) hw)
            (fun h => .go s_nil' (s_cons (s_set 2 (e_bin e_int (e_bin e_int (e_callS 0 k_law_pick (ea_cons e_int ea_nil) r2) (ov_mulS (.inl ⟨by decide, by decide⟩))) ov_sub) scDrawn.nd)
          (s_if (t_cmp (e_var 1) e_int ov_lt) (fun h => .stop (s_stop (s_retS (e_call k_law_least (ea_cons (e_bin (e_var 2) (e_callS 0 k_law_great (ea_cons e_int ea_nil) r3) (ov_mul (ss.cmul sa (by decide)))) (ea_cons (e_bin e_int (e_callS 0 k_law_great (ea_cons e_int ea_nil) r4) ov_add) ea_nil)) ⟨_, _, rfl, by omega, sb.mono (by decide), rfl⟩))) trivial)
            (fun h => absurd hw2 (of_decide_eq_false h))))))
      · obtain ⟨t3, a, r3, ht3, g5⟩ := great_int hR2 ht2 40 (by decide) (by decide)
        obtain ⟨t4, b, r4, ht4, g6⟩ := great_int hR2 ht3 39 (by decide) (by decide)
        have sa := sz_great g5 (by decide)
        have sm : Sz 140 ((1 - 2 * sg1) * (a : Int)) := (ss.mul sa).mono (by decide)
        have sb : Sz 140 (1 + (b : Int)) := Sz.mono (Sz.add (n := 137) (m := 137) (k := 138) (sz_lt (by decide +kernel)) (sz_great g6 (by decide)) (by decide) (by decide)) (by decide)
        refine ⟨t4, frac ((1 - 2 * sg1) * a) (1 + b), ⟨ht4, _, rfl, fo_frac (by omega) sm sb⟩, fun c hr s l => ?_⟩
        have k_law_pick := dR.known hr
        have k_law_great := dR2.known hr
        have k_law_least := dL.known hr
        exact s_cons (s_set 1 (e_callS 0 k_law_pick (ea_cons e_int ea_nil) r1) scDrawn.nd)
          (s_if (t_cmp (e_var 1) e_int ov_lt) (fun h => absurd (of_decide_eq_true h) hw)
            (fun h => .go s_nil' (s_cons (s_set 2 (e_bin e_int (e_bin e_int (e_callS 0 k_law_pick (ea_cons e_int ea_nil) r2) (ov_mulS (.inl ⟨by decide, by decide⟩))) ov_sub) scDrawn.nd)
          (s_if (t_cmp (e_var 1) e_int ov_lt) (fun h => absurd (of_decide_eq_true h) hw2)
            (fun h => .go s_nil' (s_stop (s_retS (e_call k_law_least (ea_cons (e_bin (e_var 2) (e_callS 0 k_law_great (ea_cons e_int ea_nil) r3) (ov_mul (ss.cmul sa (by decide)))) (ea_cons (e_bin e_int (e_callS 0 k_law_great (ea_cons e_int ea_nil) r4) ov_add) ea_nil)) ⟨_, _, rfl, by omega, sb.mono (by decide), rfl⟩))))))))
end
end K01
end part_K01e
section part_K01f
namespace K01
open L2 PyProof.Rows PySem.Spec PySem DL DLr Num
abbrev sPair : Stmt := top 23
abbrev sMade : Stmt := top 24
abbrev sList : Stmt := top 25
/-! #### what is shown -/
structure Small (d : PyData) : Prop where
  w : wideD d = true
  s : shortD d = true
  n : nodes d ≤ 3
  k : d.depth ≤ 8
theorem smalls {ds : List PyData} (h : ∀ d ∈ ds, Small d) : wideDs ds = true ∧ shortDs ds = true ∧ nodesAll ds ≤ 3 * ds.length ∧ PyData.depthAll ds ≤ 8 := by
  induction ds with
  | nil => exact ⟨by simp [wideDs], by simp [shortDs], by simp [nodesAll], by rw [PyData.depthAll]; omega⟩
  | cons d ds ih =>
    obtain ⟨h1, h2, h3, h4⟩ := ih fun x hx => h x (List.mem_cons_of_mem _ hx)
    have hd := h d List.mem_cons_self
    refine ⟨by simp [wideDs, hd.w, h1], by simp [shortDs, hd.s, h2], ?_, ?_⟩
    · have := hd.n
      rw [nodesAll, List.length_cons]
      omega
    · have := hd.k
      rw [PyData.depthAll]
      omega
theorem shows_list {ds : List PyData} (h : ∀ d ∈ ds, Small d) (hl : ds.length ≤ 300) : Shows (.list ds) := by
  obtain ⟨h1, h2, h3, h4⟩ := smalls h
  exact ⟨by rw [wideD]; exact h1, by rw [shortD]; exact h2, by rw [nodes]; omega, by rw [PyData.depth]; omega⟩
theorem small_int {i : Int} (h : Sz 12800 i) : Small (.int i) := by
  refine ⟨?_, by simp [shortD], by simp [nodes], by rw [PyData.depth]; omega⟩
  rw [wideD]
  have z := PySem.Flt.log2_lt_of (show 0 < 12801 by decide) (h.mono (show 12800 ≤ 12801 by decide))
  exact decide_eq_true (by omega)
theorem small_bool (b : Bool) : Small (.bool b) := ⟨by simp [wideD], by simp [shortD], by simp [nodes], by rw [PyData.depth]; omega⟩
theorem small_none : Small .none := ⟨by simp [wideD], by simp [shortD], by simp [nodes], by rw [PyData.depth]; omega⟩
theorem small_fr {p q : Int} (h : Sz 12800 p) (g : Sz 12800 q) : Small (fr p q) := by
  have h1 := (small_int h).w
  have h2 := (small_int g).w
  refine ⟨?_, ?_, ?_, ?_⟩
  · show wideD (.tuple [.int p, .int q]) = true
    rw [wideD, wideDs, wideDs, wideDs, h1, h2]; rfl
  · show shortD (.tuple [.int p, .int q]) = true
    simp [shortD, shortDs]
  · show nodes (.tuple [.int p, .int q]) ≤ 3
    simp [nodes, nodesAll]
  · show PyData.depth (.tuple [.int p, .int q]) ≤ 8
    rw [PyData.depth, PyData.depthAll, PyData.depthAll, PyData.depthAll, PyData.depth, PyData.depth]
    omega
theorem fdiv_sz {n : Nat} {i j : Int} (h : Sz n i) : Sz (n + 1) (i.fdiv j) := by
  unfold Sz at h ⊢
  have h1 : (i.fdiv j).natAbs ≤ i.natAbs + 1 := by
    by_cases hj : j = 0
    · subst hj
      simp
    · rw [Int.fdiv_eq_ediv]
      have h2 := Int.natAbs_ediv_le_natAbs i j
      split <;> omega
  have h3 : 2 ^ (n + 1) = 2 * 2 ^ n := by rw [Nat.pow_succ]; omega
  omega
theorem small_frac {p q : Int} (h : Sz 12800 p) (g : Sz 12800 q) : Small (frac p q) := small_fr (num_size _ h) (den_size _ g)
theorem Small.shows {d : PyData} (h : Small d) : Shows d := ⟨h.w, h.s, Nat.le_trans h.n (by decide), Nat.le_trans h.k (by decide)⟩
theorem Fo.small {n : Nat} {x : Int × Int} (h : Fo n x) (hn : n ≤ 12800) : Small (frD x) := small_fr (h.s1.mono hn) (h.s2.mono hn)
section
variable {P : Program} {w : World} {K : PySem.W.Frag} {mg : Str → Option Value} {base : Heap}
/-- what the law's defs know of the ground -/
structure Gd (K : PySem.W.Frag) (mg : Str → Option Value) : Prop where
  dig : PySem.W.nsIn K cStatics "sys.int_max_str_digits" = some none
  int : mg "int" = none
  abs : mg "abs" = none
  len : mg "len" = none
  list : mg "list" = none
  range : mg "range" = none
  max : mg "max" = none
  repr : mg "repr" = none
  all : mg "all" = none
  isinstance : mg "isinstance" = none
  tuple : mg "tuple" = none
theorem r100 {k : Nat} {A : Around} (h : Rm k A) : A.units + 100 < cLine := by
  have := h.1.un
  omega
/-! #### _law_pair_right -/
theorem scPair : FnScope ["source", "x", "y", "due", "told", "whole", "late", "less", "one"] ["source", "x", "y"] (defScope sPair) := ⟨rfl, rfl, rfl, by decide +kernel, rfl, by decide +kernel, by decide +kernel⟩
def prePair (t : Src) (ds : List PyData) : Prop := Ok t ∧ ∃ x y : Int × Int, ds = [frD x, frD y] ∧ Fo 140 x ∧ Fo 140 y
def postRight (_ : Src) (_ : List PyData) (t' : Src) (d : PyData) : Prop := Ok t' ∧ d = .bool true
abbrev cPair (P : Program) (w : World) (K : PySem.W.Frag) (mg : Str → Option Value) (base : Heap) (a : CxA) : Cx := cx P w K mg base ["source", "x", "y", "due", "told", "whole", "late", "less", "one"] "_law_pair_right" sPair a
def exprsIn : Expr → List Expr
  | .BoolOp _ es _ => es
  | .UnaryOp _ e _ => [e]
  | .Call _ es _ _ => es
  | .Compare a _ es _ => a :: es
  | _ => []
def ifC : Stmt → Expr
  | .If c _ _ _ => c
  | s => exprOf s
abbrev isE : Expr := ((exprsIn (((exprsIn (((exprsIn (ifC (bodyAt sPair 3)))).getD 1 (.Constant .none 0 ⟨0, 0, 0, 0⟩))).getD 0 (.Constant .none 0 ⟨0, 0, 0, 0⟩)))).getD 0 (.Constant .none 0 ⟨0, 0, 0, 0⟩))
theorem blkPair : blkC ["source", "x", "y", "due", "told", "whole", "late", "less", "one"] (defScope sPair) (cmS isE) [("one", 8)] = true := by decide +kernel
/-- what the program knows -/
structure Lib (P : Program) (w : World) (K : PySem.W.Frag) (mg : Str → Option Value) (base : Heap) : Prop where
  frac : Def P w K mg base "fraction_of" 1 ["p", "q"] (spP K rFrac)
  plus : Def P w K mg base "plus" 2 ["one", "other"] (spP K rPlus)
  minus : Def P w K mg base "minus" 2 ["one", "other"] (spP K rMinus)
  times : Def P w K mg base "times" 2 ["one", "other"] (spP K rTimes)
  over : Def P w K mg base "over" 2 ["one", "other"] (spP K rOver)
  less : Def P w K mg base "is_less" 1 ["one", "other"] (spP K rLess)
  floor : Def P w K mg base "floor_of" 1 ["t"] (spP K rFloor)
  ceil : Def P w K mg base "ceiling_of" 1 ["t"] (spP K rCeil)
  total : Def P w K mg base "total" 3 ["fractions"] (spP K rTotal)
  low : Def P w K mg base "lowest" 2 ["fractions"] (spP K rLow)
  high : Def P w K mg base "highest" 2 ["fractions"] (spP K rHigh)
  least : Def P w K mg base "_law_least" 1 ["a", "b"] (spP K rFrac)
  lplus : Def P w K mg base "_law_plus" 2 ["x", "y"] (spP K rPlus)
theorem S.lo {n : Nat} {i : Int} (h : Sz n i) (hn : n ≤ 8999) : i.natAbs.log2 < 9000 := (h.mono hn).log (by decide)
theorem ok_pair (hp : DL.Put K mg "_law_pair_right" sPair) (g : Gd K mg) (L : Lib P w K mg base) : Draws P w K mg base "_law_pair_right" 3 ["source", "x", "y"] prePair postRight := by
  refine def_Sx hp scPair (fun _ _ _ _ _ _ us hl => match us, hl with | [_, _, _], _ => rfl) (by decide) (fun t ds h => ?_) (fun t ds h => ?_)
  · obtain ⟨_, x, y, rfl, _⟩ := h
    rfl
  · obtain ⟨ht, ⟨a, b⟩, ⟨c, e⟩, rfl, hx, hy⟩ := h
    refine ⟨t, .bool true, ⟨ht, rfl⟩, fun cc hr s l => ?_⟩
    have hr9 := r100 hr
    have hd := g.dig
    have m_repr := g.repr
    have m_all := g.all
    have k_law_plus := L.lplus.known hr
    have k_law_least := L.least.known hr
    have k_plus := L.plus.known hr
    have k_minus := L.minus.known hr
    have k_times := L.times.known hr
    have k_over := L.over.known hr
    have k_is_less := L.less.known hr
    have k_floor_of := L.floor.known hr
    have k_ceiling_of := L.ceil.known hr
    have hb : b ≠ 0 := by have := hx.pos; show ((a, b) : Int × Int).2 ≠ 0; omega
    have he : e ≠ 0 := by have := hy.pos; show ((c, e) : Int × Int).2 ≠ 0; omega
    have hbe : b * e ≠ 0 := Int.mul_ne_zero hb he
    have f2 : F2 a b c e := hx.f2 hy (by decide) (by decide)
    have f2n : F2 a b (0 - c) e := by
      have z := f2.sc.neg
      refine ⟨hb, he, f2.sa, f2.sb, ?_, f2.se⟩
      rw [Int.zero_sub]
      exact z
    -- the numbers' sizes
    have sa := hx.s1
    have sb := hx.s2
    have sc := hy.s1
    have se := hy.s2
    have sbe : Sz 280 (b * e) := sb.mul se
    have s0n : Sz 281 (a * e + c * b) := (sa.mul se).add (sc.mul sb) (by decide) (by decide)
    have s1n : Sz 281 (a * e - c * b) := (sa.mul se).sub (sc.mul sb) (by decide) (by decide)
    have s2n : Sz 280 (a * c) := sa.mul sc
    have fo0 : Fo 281 (num (a * e + c * b) (b * e), den (a * e + c * b) (b * e)) := ⟨den_pos hbe, num_size _ s0n, den_size _ (sbe.mono (by decide))⟩
    have fo1 : Fo 281 (num (a * e - c * b) (b * e), den (a * e - c * b) (b * e)) := ⟨den_pos hbe, num_size _ s1n, den_size _ (sbe.mono (by decide))⟩
    have fo2 : Fo 281 (num (a * c) (b * e), den (a * c) (b * e)) := ⟨den_pos hbe, num_size _ (s2n.mono (by decide)), den_size _ (sbe.mono (by decide))⟩
    have q1 : a * e + (0 - c) * b = a * e - c * b := by rw [Int.zero_sub, Int.neg_mul, Int.sub_eq_add_neg]
    let D : List PyData := [frac (a * e + c * b) (b * e), frac (a * e - c * b) (b * e), frac (a * c) (b * e), (if c = 0 then .none else frac (a * e) (b * c)), .bool (decide (a * e < c * b))]
    have sh : Shows (.list D) := shows_list (fun d hd => by
      simp only [D, List.mem_cons, List.not_mem_nil, or_false] at hd
      rcases hd with rfl | rfl | rfl | rfl | rfl
      · exact fo0.small (by decide)
      · exact fo1.small (by decide)
      · exact fo2.small (by decide)
      · split
        · exact small_none
        · exact small_frac ((sa.mul se).mono (by decide)) ((sb.mul sc).mono (by decide))
      · exact small_bool _) (by show 5 ≤ 300; decide)
    have rov : ∀ {d : PyData}, d = (if c = 0 then .none else frac (a * e) (b * c)) → rOver [fr a b, fr c e] d := fun h => ⟨_, _, _, _, rfl, f2, h⟩
    refine s_cons (s_set 3 (e_O (eo_lst (ds := [frac (a * e + c * b) (b * e), frac (a * e - c * b) (b * e), frac (a * c) (b * e)]) (ea_cons (e_call k_law_plus (ea_cons (e_var 1) (ea_cons (e_var 2) ea_nil)) ⟨_, _, _, _, rfl, f2, rfl⟩) (ea_cons (E.to (e_call k_law_plus (ea_cons (e_var 1) (ea_cons (e_tup (ea_cons (e_bin e_int (e_ixt (e_var 2)) ov_sub) (ea_cons (e_ixt (e_var 2)) ea_nil))) ea_nil)) ⟨_, _, _, _, rfl, f2n, rfl⟩) (by rw [q1])) (ea_cons (e_call k_law_least (ea_cons (e_bin (e_ixt (e_var 1)) (e_ixt (e_var 2)) (ov_mul (sa.cmul sc (by decide)))) (ea_cons (e_bin (e_ixt (e_var 1)) (e_ixt (e_var 2)) (ov_mul (sb.cmul se (by decide)))) ea_nil)) ⟨_, _, rfl, hbe, sbe.mono (by decide), rfl⟩) ea_nil))))) scPair.nd) ?_
    refine s_cons (s_set 3 (e_O (eo_bin (ds := D) (e_var 3) (e_O (eo_lst (ds := [(if c = 0 then .none else frac (a * e) (b * c)), .bool (decide (a * e < c * b))]) (ea_cons (e_if (t_cmp (e_ixt (e_var 2)) e_int ov_neI) (fun h => E.to (e_call k_law_least (ea_cons (e_bin (e_ixt (e_var 1)) (e_ixt (e_var 2)) (ov_mul (sa.cmul se (by decide)))) (ea_cons (e_bin (e_ixt (e_var 1)) (e_ixt (e_var 2)) (ov_mul (sb.cmul sc (by decide)))) ea_nil)) ⟨_, _, rfl, Int.mul_ne_zero hb ?h1, (sb.mul sc).mono (by decide), rfl⟩) ?h2) (fun h => E.to e_non ?h3)) (ea_cons (e_cmp (e_bin (e_ixt (e_var 1)) (e_ixt (e_var 2)) (ov_mul (sa.cmul se (by decide)))) (e_bin (e_ixt (e_var 2)) (e_ixt (e_var 1)) (ov_mul (sc.cmul sb (by decide)))) ov_lt) ea_nil)))) (oo_cat (Nat.le_of_ble_eq_true rfl)))) scPair.nd) ?_
    case h1 =>
      intro z
      rw [z] at h
      exact Bool.noConfusion h
    case h2 =>
      rw [if_neg]
      intro z
      rw [z] at h
      exact Bool.noConfusion h
    case h3 =>
      rw [if_pos]
      by_cases z : c = 0
      · exact z
      · rw [decide_eq_false z] at h
        exact Bool.noConfusion h
    refine s_cons (s_set 4 (e_O (eo_lst (ds := D) (ea_cons (e_call k_plus (ea_cons (e_var 1) (ea_cons (e_var 2) ea_nil)) ⟨_, _, _, _, rfl, f2, rfl⟩) (ea_cons (e_call k_minus (ea_cons (e_var 1) (ea_cons (e_var 2) ea_nil)) ⟨_, _, _, _, rfl, f2, rfl⟩) (ea_cons (e_call k_times (ea_cons (e_var 1) (ea_cons (e_var 2) ea_nil)) ⟨_, _, _, _, rfl, f2, rfl⟩) (ea_cons (e_call k_over (ea_cons (e_var 1) (ea_cons (e_var 2) ea_nil)) ⟨_, _, _, _, rfl, f2, rfl⟩) (ea_cons (e_call k_is_less (ea_cons (e_var 1) (ea_cons (e_var 2) ea_nil)) ⟨_, _, _, _, rfl, sa.mono (by decide), sb.mono (by decide), sc.mono (by decide), se.mono (by decide), rfl⟩) ea_nil))))))) scPair.nd) ?_
    refine s_if (p := false) (t_w (tw_or (p := false) (T.to (t_cmp (e_callB (ea_cons (e_var 4) ea_nil) (cv_repr hd hr9 hr.2 sh) m_repr) (e_callB (ea_cons (e_var 3) ea_nil) (cv_repr hd hr9 hr.2 sh) m_repr) ov_neS) (by rw [decide_eq_true rfl]; rfl)) (fun h => (tw_or1 (T.to (t_not (t_val (e_callB (ea_cons (e_O (eo_lc (own := [("one", 8)]) (ρ2 := [.src s l t, .dat (frD (a, b)), .dat (frD (c, e)), .dat (.list D), .dat (.list D), .un, .un, .un, .un]) (i_list (e_O (eo_slice (e_var 4) pd_none (pd_some e_int)))) ?cl (by rw [show ((3 : Int)) = ((3 : Nat) : Int) from rfl, cutD_to]; show 3 ≤ 1000000; decide) scPair.nd (blkOk_by blkPair))) ea_nil) (cv_all (bs := [true, true, true]) rfl) m_all))) rfl))) (fun h => rfl))) (fun h => Bool.noConfusion h) (fun h => .go s_nil' ?_)
    case cl =>
      rw [show ((3 : Int)) = ((3 : Nat) : Int) from rfl, cutD_to]
      exact .yes (js := [8]) (fun _ z => z) (fun _ _ _ _ _ => g_name 8 scPair.nd) (fun _ _ _ _ _ => ts_nil) (fun _ _ _ _ _ => e_isi (T := "tuple") (b := true) (e_var 8) g.isinstance g.tuple rfl) (.yes (js := [8]) (fun _ z => z) (fun _ _ _ _ _ => g_name 8 scPair.nd) (fun _ _ _ _ _ => ts_nil) (fun _ _ _ _ _ => e_isi (T := "tuple") (b := true) (e_var 8) g.isinstance g.tuple rfl) (.yes (js := [8]) (fun _ z => z) (fun _ _ _ _ _ => g_name 8 scPair.nd) (fun _ _ _ _ _ => ts_nil) (fun _ _ _ _ _ => e_isi (T := "tuple") (b := true) (e_var 8) g.isinstance g.tuple rfl) (.pre (ρ1 := [.src s l t, .dat (frD (a, b)), .dat (frD (c, e)), .dat (.list D), .dat (.list D), .un, .un, .un, .un]) (Le.refl _) .nil)))
    have w2 : 0 - (0 - a).fdiv b = -((-a).fdiv b) := by rw [Int.zero_sub, Int.zero_sub]
    let W : List PyData := [.int (a.fdiv b), .int (-((-a).fdiv b))]
    have shW : Shows (.list W) := shows_list (fun d hd => by
      simp only [W, List.mem_cons, List.not_mem_nil, or_false] at hd
      rcases hd with rfl | rfl
      · exact small_int ((fdiv_sz sa).mono (by decide))
      · exact small_int (((fdiv_sz sa.neg).neg).mono (by decide))) (by show 2 ≤ 300; decide)
    refine s_cons (s_set 5 (e_O (eo_lst (ds := W) (ea_cons (e_bin (e_ixt (e_var 1)) (e_ixt (e_var 1)) (ov_fdiv hb (sb.log (by decide)))) (ea_cons (E.to (e_bin e_int (e_bin (e_bin e_int (e_ixt (e_var 1)) ov_sub) (e_ixt (e_var 1)) (ov_fdiv hb (sb.log (by decide)))) ov_sub) (by rw [w2])) ea_nil)))) scPair.nd) ?_
    refine s_if (p := false) (T.to (t_cmp (e_callB (ea_cons (e_O (eo_lst (ds := W) (ea_cons (e_call k_floor_of (ea_cons (e_var 1) ea_nil) ⟨_, _, rfl, hb, sb.mono (by decide), rfl⟩) (ea_cons (e_call k_ceiling_of (ea_cons (e_var 1) ea_nil) ⟨_, _, rfl, hb, sb.mono (by decide), rfl⟩) ea_nil)))) ea_nil) (cv_repr hd hr9 hr.2 shW) m_repr) (e_callB (ea_cons (e_var 5) ea_nil) (cv_repr hd hr9 hr.2 shW) m_repr) ov_neS) (by rw [decide_eq_true rfl]; rfl)) (fun h => Bool.noConfusion h) (fun h => .go s_nil' ?_)
    let n0 := num (a * e + c * b) (b * e)
    let d0 := den (a * e + c * b) (b * e)
    let n1 := num (a * e - c * b) (b * e)
    let d1 := den (a * e - c * b) (b * e)
    let n2 := num (a * c) (b * e)
    let d2 := den (a * c) (b * e)
    have f20 : F2 n2 d2 n0 d0 := fo2.f2 fo0 (by decide) (by decide)
    have hd0 : d0 ≠ 0 := f20.he
    let Z : List PyData := [frac (n2 * d0 + n0 * d2) (d2 * d0), .int (n0.fdiv d0), .bool (decide (n1 * d2 < n2 * d1))]
    have shZ : Shows (.list Z) := shows_list (fun d hd => by
      simp only [Z, List.mem_cons, List.not_mem_nil, or_false] at hd
      rcases hd with rfl | rfl | rfl
      · exact small_frac (Sz.mono (n := 563) ((fo2.s1.mul fo0.s2).add (fo0.s1.mul fo2.s2) (by decide) (by decide)) (by decide)) (Sz.mono (fo2.s2.mul fo0.s2) (by decide))
      · exact small_int ((fdiv_sz fo0.s1).mono (by decide))
      · exact small_bool _) (by show 3 ≤ 300; decide)
    refine s_cons (s_set 6 (e_O (eo_lst (ds := Z) (ea_cons (e_call k_plus (ea_cons (e_ixl (e_var 4)) (ea_cons (e_ixl (e_var 4)) ea_nil)) ⟨n2, d2, n0, d0, rfl, f20, rfl⟩) (ea_cons (e_call k_floor_of (ea_cons (e_ixl (e_var 4)) ea_nil) ⟨n0, d0, rfl, hd0, fo0.s2.mono (by decide), rfl⟩) (ea_cons (e_call k_is_less (ea_cons (e_ixl (e_var 4)) (ea_cons (e_ixl (e_var 4)) ea_nil)) ⟨n1, d1, n2, d2, rfl, fo1.s1.mono (by decide), fo1.s2.mono (by decide), fo2.s1.mono (by decide), fo2.s2.mono (by decide), rfl⟩) ea_nil))))) scPair.nd) ?_
    refine s_cons (s_set 7 (e_cmp (e_bin (e_ixt (e_ixl (e_var 3))) (e_ixt (e_ixl (e_var 3))) (ov_mul (fo1.s1.cmul fo2.s2 (by decide)))) (e_bin (e_ixt (e_ixl (e_var 3))) (e_ixt (e_ixl (e_var 3))) (ov_mul (fo2.s1.cmul fo1.s2 (by decide)))) ov_lt) scPair.nd) ?_
    exact s_stop (s_retS (e_cmp (e_callB (ea_cons (e_var 6) ea_nil) (cv_repr hd hr9 hr.2 shZ) m_repr) (e_callB (ea_cons (e_O (eo_lst (ds := Z) (ea_cons (e_call k_law_plus (ea_cons (e_ixl (e_var 3)) (ea_cons (e_ixl (e_var 3)) ea_nil)) ⟨n2, d2, n0, d0, rfl, f20, rfl⟩) (ea_cons (e_bin (e_ixt (e_ixl (e_var 3))) (e_ixt (e_ixl (e_var 3))) (ov_fdiv hd0 (fo0.s2.log (by decide)))) (ea_cons (e_var 7) ea_nil))))) ea_nil) (cv_repr hd hr9 hr.2 shZ) m_repr) ov_eqS) (by rw [decide_eq_true rfl]))
end
end K01
end part_K01f
section part_K01g
namespace K01
open L2 PyProof.Rows PySem.Spec PySem DL DLr Num
section
variable {P : Program} {w : World} {K : PySem.W.Frag} {mg : Str → Option Value} {base : Heap}
/-! #### _law_made_right -/
abbrev DOf (P : Program) (w : World) (K : PySem.W.Frag) (mg : Str → Option Value) (base : Heap) : Prop := Draws P w K mg base "_law_of" 2 ["source", "some"] preOf postOf
abbrev DMixed (P : Program) (w : World) (K : PySem.W.Frag) (mg : Str → Option Value) (base : Heap) : Prop := Draws P w K mg base "_law_mixed" 2 ["source", "things"] preMixed postMixed
abbrev DDrawn (P : Program) (w : World) (K : PySem.W.Frag) (mg : Str → Option Value) (base : Heap) : Prop := Draws P w K mg base "_law_drawn" 3 ["source"] preDrawn postDrawn
theorem scMade : FnScope ["source", "by", "some", "due", "p", "q", "one", "other"] ["source"] (defScope sMade) := ⟨rfl, rfl, rfl, by decide +kernel, rfl, by decide +kernel, by decide +kernel⟩
def preNone (t : Src) (ds : List PyData) : Prop := Ok t ∧ ds = []
abbrev madeE : Expr := ((exprsIn (((exprsIn (exprOf (bodyAt sMade 4)))).getD 0 (.Constant .none 0 ⟨0, 0, 0, 0⟩)))).getD 0 (.Constant .none 0 ⟨0, 0, 0, 0⟩)
theorem blkMade : blkC ["source", "by", "some", "due", "p", "q", "one", "other"] (defScope sMade) (cmS madeE) [("one", 6), ("other", 7)] = true := by decide +kernel
theorem sz_of_lt {n : Nat} {i : Int} (h : i.natAbs < 2 ^ n) : Sz n i := h
theorem made_frac {p q k : Int} (hq : q ≠ 0) (hk : 0 < k) :
    frac (p * k) (q * k) = frac p q ∧ frac (0 - p * k) (0 - q * k) = frac p q ∧ frac (p * k) (0 - q * k) = frac (0 - p) q ∧ frac 0 (0 - q) = fr 0 1 ∧ frac (q * k) (q * k) = fr 1 1 := by
  have hqk : q * k ≠ 0 := Int.mul_ne_zero hq (by omega)
  refine ⟨?_, ?_, ?_, ?_, ?_⟩
  · show fr _ _ = fr _ _
    rw [num_mul hq hk, den_mul hq hk]
  · show fr _ _ = fr _ _
    rw [Int.zero_sub, Int.zero_sub, num_negs hqk, den_negs hqk, num_mul hq hk, den_mul hq hk]
  · show fr _ _ = fr _ _
    have e : p * k = -(-(p * k)) := (Int.neg_neg _).symm
    rw [Int.zero_sub, Int.zero_sub, e, num_negs hqk, den_negs hqk, ← Int.neg_mul, num_mul hq hk, den_mul hq hk]
  · show fr _ _ = fr _ _
    have h0 : 0 - q ≠ 0 := by omega
    unfold num den
    rw [sg_zero h0, Int.zero_fdiv, Int.fdiv_self h0]
  · show fr _ _ = fr _ _
    unfold num den
    rw [sg_self hqk, Int.fdiv_self hqk]
theorem ok_made (hp : DL.Put K mg "_law_made_right" sMade) (g : Gd K mg) (L : Lib P w K mg base) (dP : DPick P w K mg base) (dG : DGreat P w K mg base) (dO : DOf P w K mg base) : Draws P w K mg base "_law_made_right" 3 ["source"] preNone postRight := by
  obtain ⟨R, dR, hR⟩ := dP
  obtain ⟨R2, dR2, hR2⟩ := dG
  obtain ⟨R3, dR3, hR3⟩ := dO
  refine def_Sx hp scMade (fun _ _ _ _ _ _ us hl => match us, hl with | [_], _ => rfl) (by decide) (fun t ds h => ?_) (fun t ds h => ?_)
  · obtain ⟨_, rfl⟩ := h
    rfl
  · obtain ⟨ht, rfl⟩ := h
    obtain ⟨t1, u, r1, ht1, hu⟩ := great_int hR2 ht 12 (by decide) (by decide)
    obtain ⟨t2, v, r2, ht2, hv1, hv2⟩ := pick_int hR ht1 2 (by decide) (by decide)
    obtain ⟨t3, x, r3, ht3, hx⟩ := great_int hR2 ht2 12 (by decide) (by decide)
    obtain ⟨t4, y, r4, ht4, hy⟩ := great_int hR2 ht3 27 (by decide) (by decide)
    obtain ⟨t5, d5, r5, ht5, es, ees, hd5⟩ := hR3 t4 [.list [.int 1, .int 1, .int 2, .int 6, .int (10 ^ 9), .int (1 + (y : Int))]] ⟨ht4, _, rfl, by simp, by show 6 < 1000; decide⟩
    cases ees
    have su := sz_great hu (by decide)
    have sx := sz_great hx (by decide)
    have sy := sz_great hy (by decide)
    have one1 : Sz 1 1 := sz_of_lt (by decide)
    have hk : ∃ k : Int, d5 = .int k ∧ 0 < k ∧ Sz 140 k := by
      simp only [List.mem_cons, List.not_mem_nil, or_false] at hd5
      rcases hd5 with rfl | rfl | rfl | rfl | rfl | rfl
      · exact ⟨_, rfl, by decide, one1.mono (by decide)⟩
      · exact ⟨_, rfl, by decide, one1.mono (by decide)⟩
      · exact ⟨_, rfl, by decide, Sz.mono (n := 4) (sz_of_lt (by decide)) (by decide)⟩
      · exact ⟨_, rfl, by decide, Sz.mono (n := 4) (sz_of_lt (by decide)) (by decide)⟩
      · exact ⟨_, rfl, by decide, Sz.mono (n := 40) (sz_of_lt (by decide +kernel)) (by decide)⟩
      · exact ⟨_, rfl, by omega, Sz.mono (one1.add sy (k := 138) (by decide) (by decide)) (by decide)⟩
    obtain ⟨k, rfl, hk0, sk⟩ := hk
    have ss : Sz 1 (1 - 2 * v) := sz_sign (by omega)
    refine ⟨t5, .bool true, ⟨ht5, rfl⟩, fun cc hr s l => ?_⟩
    have hr9 := r100 hr
    have hd := g.dig
    have m_repr := g.repr
    have k_law_pick := dR.known hr
    have k_law_great := dR2.known hr
    have k_law_of := dR3.known hr
    have k_law_least := L.least.known hr
    have k_frac := L.frac.known hr
    obtain ⟨p, hpE⟩ : ∃ p : Int, p = (u : Int) * (1 - 2 * v) := ⟨_, rfl⟩
    obtain ⟨q, hqE⟩ : ∃ q : Int, q = 1 + (x : Int) := ⟨_, rfl⟩
    have hq : q ≠ 0 := by omega
    have sp : Sz 138 p := by rw [hpE]; exact su.mul ss
    have sq : Sz 138 q := by rw [hqE]; exact one1.add sx (k := 138) (by decide) (by decide)
    have spk : Sz 278 (p * k) := sp.mul sk
    have sqk : Sz 278 (q * k) := sq.mul sk
    have hqk : q * k ≠ 0 := Int.mul_ne_zero hq (by omega)
    have nsub : ∀ {i : Int}, Sz 278 i → Sz 278 (0 - i) := fun {i} h => by rw [Int.zero_sub]; exact h.neg
    obtain ⟨f1, f2, f3, f4, f5⟩ := made_frac (p := p) hq hk0
    let D : List PyData := [frac p q, frac p q, frac (0 - p) q, fr 0 1, fr 1 1]
    have sh : Shows (.list D) := shows_list (fun d hd => by
      simp only [D, List.mem_cons, List.not_mem_nil, or_false] at hd
      rcases hd with rfl | rfl | rfl | rfl | rfl
      · exact small_frac (sp.mono (by decide)) (sq.mono (by decide))
      · exact small_frac (sp.mono (by decide)) (sq.mono (by decide))
      · exact small_frac ((nsub (sp.mono (by decide))).mono (by decide)) (sq.mono (by decide))
      · exact small_fr (Sz.mono (n := 1) (sz_of_lt (by decide)) (by decide)) (one1.mono (by decide))
      · exact small_fr (one1.mono (by decide)) (one1.mono (by decide))) (by show 5 ≤ 300; decide)
    let M : List PyData := [fr (p * k) (q * k), fr (0 - p * k) (0 - q * k), fr (p * k) (0 - q * k), fr 0 (0 - q), fr (q * k) (q * k)]
    refine s_cons (s_par 4 5 (d1 := .int p) (d2 := .int q) (ea_cons (E.to (e_bin (e_callS 0 k_law_great (ea_cons e_int ea_nil) r1) (e_bin e_int (e_bin e_int (e_callS 0 k_law_pick (ea_cons e_int ea_nil) r2) (ov_mulS (.inl ⟨by decide, by decide⟩))) ov_sub) (ov_mul (su.cmul ss (by decide)))) (by rw [hpE])) (ea_cons (E.to (e_bin e_int (e_callS 0 k_law_great (ea_cons e_int ea_nil) r3) ov_add) (by rw [hqE])) ea_nil)) rfl scMade.nd) ?_
    refine s_cons (s_set 1 (e_callS 0 k_law_of (ea_cons (e_O (eo_lst (ea_cons e_int (ea_cons e_int (ea_cons e_int (ea_cons e_int (ea_cons (e_bin e_int e_int (ov_pow ⟨by decide, by decide, by decide⟩)) (ea_cons (e_bin e_int (e_callS 0 k_law_great (ea_cons e_int ea_nil) r4) ov_add) ea_nil)))))))) ea_nil) r5) scMade.nd) ?_
    refine s_cons (s_set 2 (e_O (eo_lst (ds := M) (ea_cons (e_tup (ea_cons (e_bin (e_var 4) (e_var 1) (ov_mul (sp.cmul sk (by decide)))) (ea_cons (e_bin (e_var 5) (e_var 1) (ov_mul (sq.cmul sk (by decide)))) ea_nil))) (ea_cons (e_tup (ea_cons (e_bin e_int (e_bin (e_var 4) (e_var 1) (ov_mul (sp.cmul sk (by decide)))) ov_sub) (ea_cons (e_bin e_int (e_bin (e_var 5) (e_var 1) (ov_mul (sq.cmul sk (by decide)))) ov_sub) ea_nil))) (ea_cons (e_tup (ea_cons (e_bin (e_var 4) (e_var 1) (ov_mul (sp.cmul sk (by decide)))) (ea_cons (e_bin e_int (e_bin (e_var 5) (e_var 1) (ov_mul (sq.cmul sk (by decide)))) ov_sub) ea_nil))) (ea_cons (e_tup (ea_cons e_int (ea_cons (e_bin e_int (e_var 5) ov_sub) ea_nil))) (ea_cons (e_tup (ea_cons (e_bin (e_var 5) (e_var 1) (ov_mul (sq.cmul sk (by decide)))) (ea_cons (e_bin (e_var 5) (e_var 1) (ov_mul (sq.cmul sk (by decide)))) ea_nil))) ea_nil))))))) scMade.nd) ?_
    refine s_cons (s_set 3 (e_O (eo_lst (ds := D) (ea_cons (e_call k_law_least (ea_cons (e_var 4) (ea_cons (e_var 5) ea_nil)) ⟨_, _, rfl, hq, sq.mono (by decide), rfl⟩) (ea_cons (e_call k_law_least (ea_cons (e_var 4) (ea_cons (e_var 5) ea_nil)) ⟨_, _, rfl, hq, sq.mono (by decide), rfl⟩) (ea_cons (e_call k_law_least (ea_cons (e_bin e_int (e_var 4) ov_sub) (ea_cons (e_var 5) ea_nil)) ⟨_, _, rfl, hq, sq.mono (by decide), rfl⟩) (ea_cons (e_tup (ea_cons e_int (ea_cons e_int ea_nil))) (ea_cons (e_tup (ea_cons e_int (ea_cons e_int ea_nil))) ea_nil))))))) scMade.nd) ?_
    refine s_stop (s_retS (t := t5) (s := s) (l := l) (e_cmp (e_callB (ea_cons (e_O (eo_lc (own := [("one", 6), ("other", 7)]) (rs := D) (ρ2 := [.src s l t5, .dat (.int k), .dat (.list M), .dat (.list D), .dat (.int p), .dat (.int q), .un, .un]) (i_list (e_var 2)) ?cl (by show 5 ≤ 1000000; decide) scMade.nd (blkOk_by blkMade))) ea_nil) (cv_repr hd hr9 hr.2 sh) m_repr) (e_callB (ea_cons (e_var 3) ea_nil) (cv_repr hd hr9 hr.2 sh) m_repr) ov_eqS) (by rw [decide_eq_true rfl]))
    have turn : ∀ {i j : Int} {d : PyData} {ys rs : List PyData}, j ≠ 0 → Sz 278 j → d = frac i j → CL (cx P w K mg base ["source", "by", "some", "due", "p", "q", "one", "other"] "_law_made_right" sMade cc) (cmS madeE) (cmT madeE) (cmI madeE) (cmE madeE) [6, 7] ys [.src s l t5, .dat (.int k), .dat (.list M), .dat (.list D), .dat (.int p), .dat (.int q), .un, .un] rs [.src s l t5, .dat (.int k), .dat (.list M), .dat (.list D), .dat (.int p), .dat (.int q), .un, .un] →
        CL (cx P w K mg base ["source", "by", "some", "due", "p", "q", "one", "other"] "_law_made_right" sMade cc) (cmS madeE) (cmT madeE) (cmI madeE) (cmE madeE) [6, 7] (fr i j :: ys) [.src s l t5, .dat (.int k), .dat (.list M), .dat (.list D), .dat (.int p), .dat (.int q), .un, .un] (d :: rs) [.src s l t5, .dat (.int k), .dat (.list M), .dat (.list D), .dat (.int p), .dat (.int q), .un, .un] := fun {i j d ys rs} hj sj he h => by
      subst he
      exact .yes (js := [6, 7]) (fun _ z => z) (fun _ _ _ _ _ => g_tup rfl (gs_cons (g_name 6 scMade.nd) (gs_cons (g_name 7 scMade.nd) gs_nil))) (fun _ _ _ _ _ => ts_nil) (fun _ _ _ _ _ => e_call k_frac (ea_cons (e_var 6) (ea_cons (e_var 7) ea_nil)) ⟨_, _, rfl, hj, sj.mono (by decide), rfl⟩) (.pre (ρ1 := [.src s l t5, .dat (.int k), .dat (.list M), .dat (.list D), .dat (.int p), .dat (.int q), .un, .un]) (Le.refl _) h)
    exact turn hqk sqk f1.symm (turn (by omega) (nsub sqk) f2.symm (turn (by omega) (nsub sqk) f3.symm (turn (by omega) (nsub (sq.mono (by decide))) f4.symm (turn hqk sqk f5.symm .nil))))
end
end K01
end part_K01g
section part_K01h
namespace K01
open L2 PyProof.Rows PySem.Spec PySem DL DLr Num
section
variable {P : Program} {w : World} {K : PySem.W.Frag} {mg : Str → Option Value} {base : Heap}
/-! #### _law_list_right -/
abbrev nList : List Str := ["source", "some", "one", "given", "kept", "due", "low", "high", "lap"]
theorem scList : FnScope nList ["source"] (defScope sList) := ⟨rfl, rfl, rfl, by decide +kernel, rfl, by decide +kernel, by decide +kernel⟩
abbrev cList (P : Program) (w : World) (K : PySem.W.Frag) (mg : Str → Option Value) (base : Heap) (a : CxA) : Cx := cx P w K mg base nList "_law_list_right" sList a
abbrev drE : Expr := exprOf (bodyAt sList 0)
theorem blkList : blkC nList (defScope sList) (cmS drE) [("lap", 8)] = true := by decide +kernel
theorem drawn_cl {R : Src → List PyData → Src → PyData → Prop} (dR : Def P w K mg base "_law_drawn" 3 ["source"] (spS K R)) (hR : ∀ t ds, preDrawn t ds → ∃ t' d, R t ds t' d ∧ postDrawn t ds t' d) :
    ∀ (ys : List PyData) (t : Src), Ok t → ∃ (t' : Src) (xs : List (Int × Int)), xs.length = ys.length ∧ (∀ x ∈ xs, Fo 140 x) ∧ Ok t' ∧ ∀ (a : CxA), Rm 3 (cList P w K mg base a).A → ∀ s l,
      CL (cList P w K mg base a) (cmS drE) (cmT drE) (cmI drE) (cmE drE) [8] ys [.src s l t, .un, .un, .un, .un, .un, .un, .un, .un] (xs.map frD) [.src s l t', .un, .un, .un, .un, .un, .un, .un, .un]
  | [], t, ht => ⟨t, [], rfl, (fun _ h => nomatch h), ht, fun a hr s l => .nil⟩
  | y :: ys, t, ht => by
    obtain ⟨t1, d, r1, ht1, x, rfl, hx⟩ := hR t [] ⟨ht, rfl⟩
    obtain ⟨t', xs, h1, h2, h3, h4⟩ := drawn_cl dR hR ys t1 ht1
    refine ⟨t', x :: xs, by rw [List.length_cons, List.length_cons, h1], fun z hz => ?_, h3, fun a hr s l => ?_⟩
    · rcases List.mem_cons.mp hz with rfl | hz
      · exact hx
      · exact h2 z hz
    · have k_law_drawn := dR.known hr
      exact .yes (js := [8]) (fun _ z => z) (fun _ _ _ _ _ => g_name 8 scList.nd) (fun _ _ _ _ _ => ts_nil) (fun _ _ _ _ _ => e_callS 0 k_law_drawn ea_nil r1) (.pre (ρ1 := [.src s l t1, .un, .un, .un, .un, .un, .un, .un, .un]) (Le.refl _) (h4 a hr s l))
/-- the least so far -/
def optD : Option (Int × Int) → PyData
  | none => .none
  | some x => frD x
def lowO (o : Option (Int × Int)) (y : Int × Int) : Option (Int × Int) := match o with
  | none => some y
  | some f => if lessF y f then some y else some f
def highO (o : Option (Int × Int)) (y : Int × Int) : Option (Int × Int) := match o with
  | none => some y
  | some f => if lessF f y then some y else some f
def FoO : Option (Int × Int) → Prop
  | none => True
  | some x => Fo 140 x
theorem FoO.low {o : Option (Int × Int)} {y : Int × Int} (h : FoO o) (g : Fo 140 y) : FoO (lowO o y) := by
  cases o with
  | none => exact g
  | some f =>
    show FoO (if lessF y f then some y else some f)
    split
    · exact g
    · exact h
theorem FoO.high {o : Option (Int × Int)} {y : Int × Int} (h : FoO o) (g : Fo 140 y) : FoO (highO o y) := by
  cases o with
  | none => exact g
  | some f =>
    show FoO (if lessF f y then some y else some f)
    split
    · exact g
    · exact h
theorem lowO_fold : ∀ (xs : List (Int × Int)) (f : Int × Int), xs.foldl lowO (some f) = some (lowF xs f)
  | [], f => rfl
  | x :: xs, f => by
    show xs.foldl lowO (if lessF x f then some x else some f) = some (xs.foldl _ (if lessF x f then x else f))
    split
    · exact lowO_fold xs x
    · exact lowO_fold xs f
theorem highO_fold : ∀ (xs : List (Int × Int)) (f : Int × Int), xs.foldl highO (some f) = some (highF xs f)
  | [], f => rfl
  | x :: xs, f => by
    show xs.foldl highO (if lessF f x then some x else some f) = some (xs.foldl _ (if lessF f x then x else f))
    split
    · exact highO_fold xs x
    · exact highO_fold xs f
theorem lowO_all (x : Int × Int) (xs : List (Int × Int)) : (x :: xs).foldl lowO none = some (lowF (x :: xs) x) := by
  show xs.foldl lowO (some x) = some (xs.foldl _ (if lessF x x then x else x))
  rw [ite_self]
  exact lowO_fold xs x
theorem highO_all (x : Int × Int) (xs : List (Int × Int)) : (x :: xs).foldl highO none = some (highF (x :: xs) x) := by
  show xs.foldl highO (some x) = some (xs.foldl _ (if lessF x x then x else x))
  rw [ite_self]
  exact highO_fold xs x
theorem list_loop1 (L : Lib P w K mg base) {a : CxA} (hr : Rm 3 (cList P w K mg base a).A) (s0 : Sl) (l0 k0 : PyData) : ∀ (xs : List (Int × Int)) (f : Int × Int) (o h : Option (Int × Int)) (m : Nat), Fo m f → m + 142 * xs.length ≤ 4400 → (∀ x ∈ xs, Fo 140 x) → FoO o → FoO h →
    Loop (cList P w K mg base a) (forT (bodyAt sList 3)) (lpB (bodyAt sList 3)) (xs.map frD) [s0, .dat l0, .un, .un, .dat k0, .dat (frD f), .dat (optD o), .dat (optD h), .un]
      (.nx [s0, .dat l0, .un, .un, .dat k0, .dat (frD (xs.foldl addF f)), .dat (optD (xs.foldl lowO o)), .dat (optD (xs.foldl highO h)), .un])
  | [], f, o, h, m, _, _, _, _, _ => .nil
  | x :: xs, f, o, h, m, hf, hm, hx, ho, hh => by
    have k_law_plus := L.lplus.known hr
    have fx := hx x List.mem_cons_self
    rw [List.length_cons] at hm
    have lo : E (cList P w K mg base a) (exprOf ((lpB (bodyAt sList 3)).getD 1 (.Pass ⟨0, 0, 0, 0⟩))) [s0, .dat l0, .dat (frD x), .un, .dat k0, .dat (frD (addF f x)), .dat (optD o), .dat (optD h), .un] (optD (lowO o x)) [s0, .dat l0, .dat (frD x), .un, .dat k0, .dat (frD (addF f x)), .dat (optD o), .dat (optD h), .un] := ?lo
    have hi : E (cList P w K mg base a) (exprOf ((lpB (bodyAt sList 3)).getD 2 (.Pass ⟨0, 0, 0, 0⟩))) [s0, .dat l0, .dat (frD x), .un, .dat k0, .dat (frD (addF f x)), .dat (optD (lowO o x)), .dat (optD h), .un] (optD (highO h x)) [s0, .dat l0, .dat (frD x), .un, .dat k0, .dat (frD (addF f x)), .dat (optD (lowO o x)), .dat (optD h), .un] := ?hi
    exact .nx (g_name 2 scList.nd) (s_cons (s_set 5 (e_call k_law_plus (ea_cons (e_var 5) (ea_cons (e_var 2) ea_nil)) ⟨_, _, _, _, rfl, hf.f2 fx (by omega) (by decide), rfl⟩) scList.nd)
      (s_cons (s_set 6 lo scList.nd) (s_cons (s_set 7 hi scList.nd) (s_nil (le_cons (le_cons (le_un (le_cons (le_cons (le_cons (le_cons (le_cons (le_cons le_nil)))))))))))))
      (list_loop1 L hr s0 l0 k0 xs (addF f x) (lowO o x) (highO h x) (m + 141) (hf.add fx (by omega)) (by omega) (fun y hy => hx y (List.mem_cons_of_mem _ hy)) (ho.low fx) (hh.high fx))
    case lo =>
      cases o with
      | none => exact e_if (p := true) (t_w (tw_or (p := true) (q := true) (T.to (t_cmp (e_var 6) e_non ov_is) rfl) (fun h => Bool.noConfusion h) (fun h => rfl))) (fun h => e_var 2) (fun h => Bool.noConfusion h)
      | some z =>
        have sz : Fo 140 z := ho
        by_cases hc : lessF x z = true
        · refine e_if (p := true) (t_w (tw_or (p := false) (T.to (t_cmp (e_var 6) e_non ov_is) rfl) (fun h => (tw_or1 (T.to (t_cmp (e_bin (e_ixt (e_var 2)) (e_ixt (e_var 6)) (ov_mul (fx.s1.cmul sz.s2 (by decide)))) (e_bin (e_ixt (e_var 6)) (e_ixt (e_var 2)) (ov_mul (sz.s1.cmul fx.s2 (by decide)))) ov_lt) hc))) (fun h => Bool.noConfusion h))) (fun h => E.to (e_var 2) ?_) (fun h => Bool.noConfusion h)
          show frD x = optD (if lessF x z then some x else some z)
          rw [if_pos hc]
          rfl
        · refine e_if (p := false) (t_w (tw_or (p := false) (T.to (t_cmp (e_var 6) e_non ov_is) rfl) (fun h => (tw_or1 (T.to (t_cmp (e_bin (e_ixt (e_var 2)) (e_ixt (e_var 6)) (ov_mul (fx.s1.cmul sz.s2 (by decide)))) (e_bin (e_ixt (e_var 6)) (e_ixt (e_var 2)) (ov_mul (sz.s1.cmul fx.s2 (by decide)))) ov_lt) (eq_false_of_ne_true hc)))) (fun h => Bool.noConfusion h))) (fun h => Bool.noConfusion h) (fun h => E.to (e_var 6) ?_)
          show frD z = optD (if lessF x z then some x else some z)
          rw [if_neg hc]
          rfl
    case hi =>
      cases h with
      | none => exact e_if (p := true) (t_w (tw_or (p := true) (q := true) (T.to (t_cmp (e_var 7) e_non ov_is) rfl) (fun h => Bool.noConfusion h) (fun h => rfl))) (fun h => e_var 2) (fun h => Bool.noConfusion h)
      | some z =>
        have sz : Fo 140 z := hh
        by_cases hc : lessF z x = true
        · refine e_if (p := true) (t_w (tw_or (p := false) (T.to (t_cmp (e_var 7) e_non ov_is) rfl) (fun h => (tw_or1 (T.to (t_cmp (e_bin (e_ixt (e_var 7)) (e_ixt (e_var 2)) (ov_mul (sz.s1.cmul fx.s2 (by decide)))) (e_bin (e_ixt (e_var 2)) (e_ixt (e_var 7)) (ov_mul (fx.s1.cmul sz.s2 (by decide)))) ov_lt) hc))) (fun h => Bool.noConfusion h))) (fun h => E.to (e_var 2) ?_) (fun h => Bool.noConfusion h)
          show frD x = optD (if lessF z x then some x else some z)
          rw [if_pos hc]
          rfl
        · refine e_if (p := false) (t_w (tw_or (p := false) (T.to (t_cmp (e_var 7) e_non ov_is) rfl) (fun h => (tw_or1 (T.to (t_cmp (e_bin (e_ixt (e_var 7)) (e_ixt (e_var 2)) (ov_mul (sz.s1.cmul fx.s2 (by decide)))) (e_bin (e_ixt (e_var 2)) (e_ixt (e_var 7)) (ov_mul (fx.s1.cmul sz.s2 (by decide)))) ov_lt) (eq_false_of_ne_true hc)))) (fun h => Bool.noConfusion h))) (fun h => Bool.noConfusion h) (fun h => E.to (e_var 7) ?_)
          show frD z = optD (if lessF z x then some x else some z)
          rw [if_neg hc]
          rfl
theorem fr_list : ∀ {rs : List PyData}, (∀ d ∈ rs, ∃ x : Int × Int, d = frD x ∧ Fo 140 x) → ∃ xs : List (Int × Int), rs = xs.map frD ∧ ∀ x ∈ xs, Fo 140 x
  | [], _ => ⟨[], rfl, fun _ h => nomatch h⟩
  | d :: rs, h => by
    obtain ⟨x, rfl, hx⟩ := h d List.mem_cons_self
    obtain ⟨xs, rfl, hxs⟩ := fr_list (rs := rs) fun e he => h e (List.mem_cons_of_mem _ he)
    refine ⟨x :: xs, rfl, fun z hz => ?_⟩
    rcases List.mem_cons.mp hz with rfl | hz
    · exact hx
    · exact hxs z hz
theorem lay_frs : ∀ xs : List (Int × Int), PyData.canLayAll0 (xs.map frD) = true
  | [] => by simp [PyData.canLayAll0]
  | x :: xs => by simp [PyData.canLayAll0, PyData.canLay0, lay_frs xs]
theorem smalls_fr {n : Nat} {xs : List (Int × Int)} (h : ∀ x ∈ xs, Fo n x) (hn : n ≤ 12800) : ∀ d ∈ xs.map frD, Small d := fun d hd => by
  obtain ⟨x, hx, rfl⟩ := List.mem_map.mp hd
  exact (h x hx).small hn
theorem tot_small : ∀ (xs : List (Int × Int)) (f : Int × Int) (m : Nat), Fo m f → m + 142 * xs.length ≤ 4400 → (∀ x ∈ xs, Fo 140 x) → Fo 4400 (xs.foldl addF f)
  | [], f, m, hf, hm, _ => hf.mono (by simpa using hm)
  | x :: xs, f, m, hf, hm, hx => by
    rw [List.length_cons] at hm
    exact tot_small xs (addF f x) (m + 141) (hf.add (hx x List.mem_cons_self) (by omega)) (by omega) fun y hy => hx y (List.mem_cons_of_mem _ hy)
theorem low_fo : ∀ (xs : List (Int × Int)) (f : Int × Int), Fo 140 f → (∀ x ∈ xs, Fo 140 x) → Fo 140 (lowF xs f)
  | [], f, hf, _ => hf
  | x :: xs, f, hf, hx => by
    have fx := hx x List.mem_cons_self
    refine low_fo xs (if lessF x f then x else f) ?_ fun y hy => hx y (List.mem_cons_of_mem _ hy)
    split
    · exact fx
    · exact hf
theorem high_fo : ∀ (xs : List (Int × Int)) (f : Int × Int), Fo 140 f → (∀ x ∈ xs, Fo 140 x) → Fo 140 (highF xs f)
  | [], f, hf, _ => hf
  | x :: xs, f, hf, hx => by
    have fx := hx x List.mem_cons_self
    refine high_fo xs (if lessF f x then x else f) ?_ fun y hy => hx y (List.mem_cons_of_mem _ hy)
    split
    · exact fx
    · exact hf
theorem nodes_frs (xs : List (Int × Int)) : PyData.depthAll (xs.map frD) ≤ 8 := by
  induction xs with
  | nil => rw [List.map_nil, PyData.depthAll]; omega
  | cons x xs ih =>
    rw [List.map_cons, PyData.depthAll, PyData.depth, PyData.depthAll, PyData.depthAll, PyData.depthAll, PyData.depth, PyData.depth]
    omega
theorem flat_frs : ∀ xs : List (Int × Int), flatDs (xs.map frD) = true
  | [] => by simp [flatDs]
  | x :: xs => by simp [flatDs, flatD, flat_frs xs]
/-- one turn over the two forms of the list -/
theorem list_turn (g : Gd K mg) (L : Lib P w K mg base) {a : CxA} (hr : Rm 3 (cList P w K mg base a).A) (s0 : Sl) (k0 : PyData) (b : Bool) (xs : List (Int × Int)) (hl : xs.length ≤ 30) (hx : ∀ x ∈ xs, Fo 140 x) :
    S (cList P w K mg base a) (lpB (bodyAt sList 4)) [s0, .dat (seqD false xs), .un, .dat (seqD b xs), .dat k0, .dat (frD (xs.foldl addF (0, 1))), .dat (optD (xs.foldl lowO none)), .dat (optD (xs.foldl highO none)), .un]
      (.nx [s0, .dat (seqD false xs), .un, .dat (seqD b xs), .dat k0, .dat (frD (xs.foldl addF (0, 1))), .dat (optD (xs.foldl lowO none)), .dat (optD (xs.foldl highO none)), .un]) := by
  have hr9 := r100 hr
  have hd := g.dig
  have m_repr := g.repr
  have k_total := L.total.known hr
  have k_lowest := L.low.known hr
  have k_highest := L.high.known hr
  have ft : Fo 4400 (xs.foldl addF (0, 1)) := tot_small xs (0, 1) 1 ⟨by decide, sz_of_lt (by decide), sz_of_lt (by decide)⟩ (by omega) hx
  have st : Shows (frD (xs.foldl addF (0, 1))) := (ft.small (by decide)).shows
  have hu : (cList P w K mg base a).A.units + 64 < cLine := by omega
  refine s_if (p := false) (T.to (t_cmp (e_callB (ea_cons (e_call k_total (ea_cons (e_var 3) ea_nil) ⟨b, xs, rfl, hl, hx, rfl⟩) ea_nil) (cv_repr hd hr9 hr.2 st) m_repr) (e_callB (ea_cons (e_var 5) ea_nil) (cv_repr hd hr9 hr.2 st) m_repr) ov_neS) (by rw [decide_eq_true rfl]; rfl)) (fun h => Bool.noConfusion h) (fun h => .go s_nil' ?_)
  have sh1 : SeqAt.shaped (seqD false xs) = true := by
    unfold SeqAt.shaped seqD
    simp [PyData.canLay0, PyData.depth, lay_frs]
    have := nodes_frs xs
    omega
  have fl1 : flatD (seqD false xs) = true := by
    unfold seqD
    simp [flatD, flat_frs]
  cases xs with
  | nil =>
    refine s_cons (s1_if (p := false) (t_w (tw_and (p := false) (q := true) (T.to (t_cmp (e_var 1) (e_O (eo_lst ea_nil)) (ov_neD hu sh1 (by decide +kernel) fl1 (by decide +kernel))) (by decide +kernel)) (fun h => Bool.noConfusion h) (fun h => rfl))) (fun h => Bool.noConfusion h) (fun h => s_nil')) s_nil'
  | cons x xs =>
    rw [lowO_all, highO_all]
    have hlo := low_fo (x :: xs) x (hx x List.mem_cons_self) hx
    have hhi := high_fo (x :: xs) x (hx x List.mem_cons_self) hx
    let D : List PyData := [frD (lowF (x :: xs) x), frD (highF (x :: xs) x)]
    have sD : Shows (.list D) := shows_list (fun d hd => by
      simp only [D, List.mem_cons, List.not_mem_nil, or_false] at hd
      rcases hd with rfl | rfl
      · exact hlo.small (by decide)
      · exact hhi.small (by decide)) (by show 2 ≤ 300; decide)
    refine s_cons (s1_if (p := false) (t_w (tw_and (p := true) (T.to (t_cmp (e_var 1) (e_O (eo_lst ea_nil)) (ov_neD hu sh1 (by decide +kernel) fl1 (by decide +kernel))) ?ne) (fun h => (tw_and1 (T.to (t_cmp (e_callB (ea_cons (e_O (eo_lst (ds := D) (ea_cons (e_call k_lowest (ea_cons (e_var 3) ea_nil) ⟨b, x, xs, rfl, hx, rfl⟩) (ea_cons (e_call k_highest (ea_cons (e_var 3) ea_nil) ⟨b, x, xs, rfl, hx, rfl⟩) ea_nil)))) ea_nil) (cv_repr hd hr9 hr.2 sD) m_repr) (e_callB (ea_cons (e_O (eo_lst (ds := D) (ea_cons (e_var 6) (ea_cons (e_var 7) ea_nil)))) ea_nil) (cv_repr hd hr9 hr.2 sD) m_repr) ov_neS) (by rw [decide_eq_true rfl]; rfl)))) (fun h => Bool.noConfusion h))) (fun h => Bool.noConfusion h) (fun h => s_nil')) s_nil'
    case ne =>
      unfold seqD
      simp [PyData.eqv, PyData.eqvAll]
end
end K01
end part_K01h
section part_K01i
namespace K01
open L2 PyProof.Rows PySem.Spec PySem DL DLr Num
section
variable {P : Program} {w : World} {K : PySem.W.Frag} {mg : Str → Option Value} {base : Heap}
theorem ok_list (hp : DL.Put K mg "_law_list_right" sList) (g : Gd K mg) (L : Lib P w K mg base) (dP : DPick P w K mg base) (dO : DOf P w K mg base) (dM : DMixed P w K mg base) (dD : DDrawn P w K mg base) : Draws P w K mg base "_law_list_right" 4 ["source"] preNone postRight := by
  obtain ⟨R, dR, hR⟩ := dP
  obtain ⟨R3, dR3, hR3⟩ := dO
  obtain ⟨R4, dR4, hR4⟩ := dM
  obtain ⟨R5, dR5, hR5⟩ := dD
  refine def_Sx hp scList (fun _ _ _ _ _ _ us hl => match us, hl with | [_], _ => rfl) (by decide) (fun t ds h => ?_) (fun t ds h => ?_)
  · obtain ⟨_, rfl⟩ := h
    rfl
  · obtain ⟨ht, rfl⟩ := h
    obtain ⟨t1, d1, r1, ht1, es, ees, hd1⟩ := hR3 t [.list [.int 0, .int 1, .int 2, .int 5, .int 9, .int 20]] ⟨ht, _, rfl, by simp, by show 6 < 1000; decide⟩
    cases ees
    have hn : ∃ n : Int, d1 = .int n ∧ 0 ≤ n ∧ n ≤ 20 := by
      simp only [List.mem_cons, List.not_mem_nil, or_false] at hd1
      rcases hd1 with rfl | rfl | rfl | rfl | rfl | rfl <;> exact ⟨_, rfl, by decide, by decide⟩
    obtain ⟨n, rfl, hn0, hn1⟩ := hn
    obtain ⟨t2, xs, hxl, hxs, ht2, hcl⟩ := drawn_cl (P := P) (w := w) (K := K) (mg := mg) (base := base) dR5 hR5 (rangeD 0 n.toNat) t1 ht1
    have hxn : xs.length ≤ 20 := by
      rw [hxl]
      unfold rangeD
      simp
      omega
    obtain ⟨t3, j, r3, ht3, hj0, hj1⟩ := pick_int hR ht2 3 (by decide) (by decide)
    obtain ⟨jn, rfl⟩ : ∃ jn : Nat, j = (jn : Int) := ⟨j.toNat, by omega⟩
    have hml : (xs.map frD ++ (xs.map frD).take jn).length ≤ 22 := by
      rw [List.length_append, List.length_take, List.length_map]
      omega
    obtain ⟨t4, d4, r4, ht4, es, rs, ees, rfl, hperm⟩ := hR4 t3 [.list (xs.map frD ++ (xs.map frD).take jn)] ⟨ht3, _, rfl, by omega⟩
    cases ees
    have hrs : ∀ d ∈ rs, ∃ x : Int × Int, d = frD x ∧ Fo 140 x := fun d hd => by
      have h1 := hperm.mem_iff.mp hd
      have h2 : d ∈ xs.map frD := by
        rcases List.mem_append.mp h1 with h | h
        · exact h
        · exact List.mem_of_mem_take h
      obtain ⟨x, hx, rfl⟩ := List.mem_map.mp h2
      exact ⟨x, rfl, hxs x hx⟩
    obtain ⟨zs, rfl, hzs⟩ := fr_list hrs
    have hzl : zs.length ≤ 22 := by
      have := hperm.length_eq
      rw [List.length_map] at this
      omega
    refine ⟨t4, .bool true, ⟨ht4, rfl⟩, fun cc hr s l => ?_⟩
    have hr9 := r100 hr
    have hd := g.dig
    have m_repr := g.repr
    have m_range := g.range
    have m_tuple := g.tuple
    have k_law_pick := dR.known hr
    have k_law_of := dR3.known hr
    have k_law_mixed := dR4.known hr
    have sh : Shows (.list (zs.map frD)) := shows_list (smalls_fr hzs (by decide)) (by rw [List.length_map]; omega)
    refine s_cons (s_setLc 1 (own := [("lap", 8)]) (i_range1 (ea_cons (e_callS 0 k_law_of (ea_cons (e_O (eo_lst (ea_cons e_int (ea_cons e_int (ea_cons e_int (ea_cons e_int (ea_cons e_int (ea_cons e_int ea_nil)))))))) ea_nil) r1) ea_nil) m_range (by omega)) (hcl cc hr s l) (by unfold rangeD; simp; omega) scList.nd (blkOk_by blkList) (Nat.le_of_ble_eq_true rfl)) ?_
    refine s_cons (s_set 1 (e_callS 0 k_law_mixed (ea_cons (e_O (eo_bin (e_varO 1) (e_O (eo_slice (e_var 1) pd_none (pd_some (e_callS 0 k_law_pick (ea_cons e_int ea_nil) r3)))) (oo_cat (by rw [cutD_to, ← List.length_append]; omega)))) ea_nil) (by rw [cutD_to]; exact r4)) scList.nd) ?_
    refine s_cons (s_asg (e_tup (ea_cons (e_callB (ea_cons (e_var 1) ea_nil) (cv_repr hd hr9 hr.2 sh) m_repr) (ea_cons (e_tup (ea_cons e_int (ea_cons e_int ea_nil))) (ea_cons e_non (ea_cons e_non ea_nil))))) (g_tup rfl (gs_cons (g_name 4 scList.nd) (gs_cons (g_name 5 scList.nd) (gs_cons (g_name 6 scList.nd) (gs_cons (g_name 7 scList.nd) gs_nil)))))) ?_
    refine s_cons (s_for (i_list (e_var 1)) (list_loop1 L hr (.src s l t4) (.list (zs.map frD)) (.str (PyData.list (zs.map frD)).shown) zs (0, 1) none none 1 ⟨by decide, sz_of_lt (by decide), sz_of_lt (by decide)⟩ (by omega) hzs trivial trivial)) ?_
    have turn : ∀ b, S (cList P w K mg base cc) (lpB (bodyAt sList 4)) _ _ := fun b => list_turn g L hr (.src s l t4) (.str (PyData.list (zs.map frD)).shown) b zs (by omega) hzs
    refine s_cons (s_for (i_tup (e_tup (ea_cons (e_var 1) (ea_cons (e_callTy (ea_cons (e_var 1) ea_nil) cv_tupL m_tuple) ea_nil)))) (.nx (g_name 3 scList.nd) (turn false) (.nx (g_name 3 scList.nd) (turn true) .nil))) ?_
    exact s_stop (s_retS (e_cmp (e_callB (ea_cons (e_var 1) ea_nil) (cv_repr hd hr9 hr.2 sh) m_repr) (e_var 4) ov_eqS) (by rw [decide_eq_true rfl]))
end
end K01
end part_K01i
section part_K01j
namespace K01
open L2 PyProof.Rows PySem.Spec PySem DL DLr Num
abbrev sLaw : Stmt := top 26
section
variable {P : Program} {w : World} {K : PySem.W.Frag} {mg : Str → Option Value} {base : Heap}
abbrev nLaw : List Str := ["script", "source", "lap", "told", "half", "x", "y"]
theorem scLaw : FnScope nLaw ["script"] (defScope sLaw) := ⟨rfl, rfl, rfl, by decide +kernel, rfl, by decide +kernel, by decide +kernel⟩
abbrev cLaw (P : Program) (w : World) (K : PySem.W.Frag) (mg : Str → Option Value) (base : Heap) (a : CxA) : Cx := cx P w K mg base nLaw "law" sLaw a
/-- what the law's own defs promise -/
structure Own (P : Program) (w : World) (K : PySem.W.Frag) (mg : Str → Option Value) (base : Heap) : Prop where
  source : Def P w K mg base "_law_source" 1 ["script"] (spSrc K srcOf)
  of : DOf P w K mg base
  drawn : DDrawn P w K mg base
  pair : Draws P w K mg base "_law_pair_right" 3 ["source", "x", "y"] prePair postRight
  made : Draws P w K mg base "_law_made_right" 3 ["source"] preNone postRight
  list : Draws P w K mg base "_law_list_right" 4 ["source"] preNone postRight
theorem law_loop1 (O : Own P w K mg base) (ns : List Int) : ∀ (ys : List PyData) (t : Src), Ok t → ∃ t', Ok t' ∧ ∀ (a : CxA), Rm 4 (cLaw P w K mg base a).A → ∀ s l,
    Loop (cLaw P w K mg base a) (forT (bodyAt sLaw 1)) (lpB (bodyAt sLaw 1)) ys [.scr ns, .src s l t, .un, .un, .un, .un, .un] (.nx [.scr ns, .src s l t', .un, .un, .un, .un, .un])
  | [], t, ht => ⟨t, ht, fun a hr s l => .nil⟩
  | y :: ys, t, ht => by
    obtain ⟨R, dR, hR⟩ := O.drawn
    obtain ⟨R2, dR2, hR2⟩ := O.of
    obtain ⟨R3, dR3, hR3⟩ := O.pair
    obtain ⟨t1, d1, r1, ht1, x, rfl, hx⟩ := hR t [] ⟨ht, rfl⟩
    obtain ⟨t2, d2, r2, ht2, x2, rfl, hx2⟩ := hR t1 [] ⟨ht1, rfl⟩
    obtain ⟨t3, d3, r3, ht3, x3, rfl, hx3⟩ := hR t2 [] ⟨ht2, rfl⟩
    obtain ⟨t4, d4, r4, ht4, x4, rfl, hx4⟩ := hR t3 [] ⟨ht3, rfl⟩
    obtain ⟨t5, d5, r5, ht5, es, ees, hd5⟩ := hR2 t4 [.list [frD x, frD (0 - x.1, x.2), frD x2, frD x3, frD x4]] ⟨ht4, _, rfl, by simp, by show 5 < 1000; decide⟩
    cases ees
    have hy : ∃ z : Int × Int, d5 = frD z ∧ Fo 140 z := by
      simp only [List.mem_cons, List.not_mem_nil, or_false] at hd5
      rcases hd5 with rfl | rfl | rfl | rfl | rfl
      · exact ⟨_, rfl, hx⟩
      · exact ⟨_, rfl, hx.pos, by show Sz 140 (0 - x.1); rw [Int.zero_sub]; exact hx.s1.neg, hx.s2⟩
      · exact ⟨_, rfl, hx2⟩
      · exact ⟨_, rfl, hx3⟩
      · exact ⟨_, rfl, hx4⟩
    obtain ⟨z, rfl, hz⟩ := hy
    obtain ⟨t6, d6, r6, ht6, rfl⟩ := hR3 t5 [frD x, frD z] ⟨ht5, x, z, rfl, hx, hz⟩
    obtain ⟨t7, d7, r7, ht7, rfl⟩ := hR3 t6 [frD z, frD x] ⟨ht6, z, x, rfl, hz, hx⟩
    obtain ⟨t', ht', hl⟩ := law_loop1 O ns ys t7 ht7
    refine ⟨t', ht', fun a hr s l => ?_⟩
    have k_law_drawn := dR.known hr
    have k_law_of := dR2.known hr
    have k_law_pair_right := dR3.known hr
    exact .nx (g_name 2 scLaw.nd) (s_cons (s_set 5 (e_callS 1 k_law_drawn ea_nil r1) scLaw.nd)
      (s_cons (s_set 6 (e_callS 1 k_law_of (ea_cons (e_O (eo_lst (ea_cons (e_var 5) (ea_cons (e_tup (ea_cons (e_bin e_int (e_ixt (e_var 5)) ov_sub) (ea_cons (e_ixt (e_var 5)) ea_nil))) (ea_cons (e_callS 1 k_law_drawn ea_nil r2) (ea_cons (e_callS 1 k_law_drawn ea_nil r3) (ea_cons (e_callS 1 k_law_drawn ea_nil r4) ea_nil))))))) ea_nil) r5) scLaw.nd)
      (s_cons (s1_if (p := false) (t_w (tw_or (p := false) (q := false) (T.to (t_not (t_val (e_callS 1 k_law_pair_right (ea_cons (e_var 5) (ea_cons (e_var 6) ea_nil)) r6))) rfl) (fun h => (tw_or1 (T.to (t_not (t_val (e_callS 1 k_law_pair_right (ea_cons (e_var 6) (ea_cons (e_var 5) ea_nil)) r7))) rfl))) (fun h => Bool.noConfusion h))) (fun h => Bool.noConfusion h) (fun h => s_nil'))
      (s_nil (ρ1 := [.scr ns, .src s l t7, .un, .un, .un, .un, .un]) (le_cons (le_cons (le_un (le_cons (le_cons (le_un (le_un le_nil)))))))))))  (hl a hr s l)
theorem law_loop2 (O : Own P w K mg base) (ns : List Int) : ∀ (ys : List PyData) (t : Src), Ok t → ∃ t', Ok t' ∧ ∀ (a : CxA), Rm 4 (cLaw P w K mg base a).A → ∀ s l,
    Loop (cLaw P w K mg base a) (forT (bodyAt sLaw 2)) (lpB (bodyAt sLaw 2)) ys [.scr ns, .src s l t, .un, .un, .un, .un, .un] (.nx [.scr ns, .src s l t', .un, .un, .un, .un, .un])
  | [], t, ht => ⟨t, ht, fun a hr s l => .nil⟩
  | y :: ys, t, ht => by
    obtain ⟨R, dR, hR⟩ := O.made
    obtain ⟨R2, dR2, hR2⟩ := O.list
    obtain ⟨t6, d6, r6, ht6, rfl⟩ := hR t [] ⟨ht, rfl⟩
    obtain ⟨t7, d7, r7, ht7, rfl⟩ := hR2 t6 [] ⟨ht6, rfl⟩
    obtain ⟨t', ht', hl⟩ := law_loop2 O ns ys t7 ht7
    refine ⟨t', ht', fun a hr s l => ?_⟩
    have k_law_made_right := dR.known hr
    have k_law_list_right := dR2.known hr
    exact .nx (g_name 2 scLaw.nd) (s_cons (s1_if (p := false) (t_w (tw_or (p := false) (q := false) (T.to (t_not (t_val (e_callS 1 k_law_made_right ea_nil r6))) rfl) (fun h => (tw_or1 (T.to (t_not (t_val (e_callS 1 k_law_list_right ea_nil r7))) rfl))) (fun h => Bool.noConfusion h))) (fun h => Bool.noConfusion h) (fun h => s_nil'))
      (s_nil (ρ1 := [.scr ns, .src s l t7, .un, .un, .un, .un, .un]) (le_cons (le_cons (le_un (le_cons (le_cons (le_cons (le_cons le_nil)))))))))  (hl a hr s l)
theorem ok_law {f : Addr} {fd : FuncData} (hp : FunD K "law" "law" (defArgs sLaw) (defBody sLaw) (defScope sLaw) [] [] f fd) (g : Gd K mg) (L : Lib P w K mg base) (O : Own P w K mg base) : FnG P w K mg base L2.CX0 5 f fd ["script"] (spL K) := by
  refine def_L hp scLaw (fun _ _ _ _ _ _ us hl => match us, hl with | [_], _ => rfl) (Nat.le_of_ble_eq_true rfl) rfl (fun a hr ns hns => ?_)
  obtain ⟨t1, ht1, hl1⟩ := law_loop1 O ns (rangeD 0 8) (srcOf ns) (srcOf_ok ns)
  obtain ⟨t2, ht2, hl2⟩ := law_loop2 O ns (rangeD 0 2) t1 ht1
  have hr9 := r100 hr
  have hd := g.dig
  have m_repr := g.repr
  have m_range := g.range
  have k_law_source := O.source.known hr
  have k_over := L.over.known hr
  have k_total := L.total.known hr
  have k_floor_of := L.floor.known hr
  have k_ceiling_of := L.ceil.known hr
  have k_is_less := L.less.known hr
  have z1 : ∀ {i : Int} {n : Nat}, i.natAbs < 2 ^ 9 → 9 ≤ n → Sz n i := fun h hn => Sz.mono (sz_of_lt h) hn
  let D : List PyData := [.none, fr 0 1, fr 0 1, fr 0 1]
  have sh : Shows (.list D) := ⟨by decide +kernel, by decide +kernel, by decide +kernel, by decide +kernel⟩
  let Z : List PyData := [.int (-1), .int 0, .int 7, .int 7, .bool false]
  have sZ : Shows (.list Z) := ⟨by decide +kernel, by decide +kernel, by decide +kernel, by decide +kernel⟩
  refine s_source (ns := ns) 1 0 k_law_source (Nat.le_trans hns (by decide)) (fun s l => ?_) scLaw.nd
  refine s_cons (s_for (i_range1 (ea_cons e_int ea_nil) m_range) (hl1 a hr s l)) ?_
  refine s_cons (s_for (i_range1 (ea_cons e_int ea_nil) m_range) (hl2 a hr s l)) ?_
  refine s_cons (s_set 3 (e_O (eo_lst (ds := D) (ea_cons (e_call k_over (ea_cons (e_tup (ea_cons e_int (ea_cons e_int ea_nil))) (ea_cons (e_tup (ea_cons e_int (ea_cons e_int ea_nil))) ea_nil)) ⟨1, 2, 0, 1, rfl, ⟨by decide, by decide, z1 (by decide) (by decide), z1 (by decide) (by decide), z1 (by decide) (by decide), z1 (by decide) (by decide)⟩, rfl⟩) (ea_cons (e_call k_over (ea_cons (e_tup (ea_cons e_int (ea_cons e_int ea_nil))) (ea_cons (e_tup (ea_cons e_int (ea_cons e_int ea_nil))) ea_nil)) ⟨0, 1, 3, 7, rfl, ⟨by decide, by decide, z1 (by decide) (by decide), z1 (by decide) (by decide), z1 (by decide) (by decide), z1 (by decide) (by decide)⟩, rfl⟩) (ea_cons (e_call k_total (ea_cons (e_O (eo_lst ea_nil)) ea_nil) ⟨false, [], rfl, by decide, (fun _ h => nomatch h), rfl⟩) (ea_cons (e_call k_total (ea_cons (e_tup ea_nil) ea_nil) ⟨true, [], rfl, by decide, (fun _ h => nomatch h), rfl⟩) ea_nil)))))) scLaw.nd) ?_
  refine s_if (p := false) (T.to (t_cmp (e_callB (ea_cons (e_var 3) ea_nil) (cv_repr hd hr9 hr.2 sh) m_repr) (e_callB (ea_cons (e_O (eo_lst (ds := D) (ea_cons e_non (ea_cons (e_tup (ea_cons e_int (ea_cons e_int ea_nil))) (ea_cons (e_tup (ea_cons e_int (ea_cons e_int ea_nil))) (ea_cons (e_tup (ea_cons e_int (ea_cons e_int ea_nil))) ea_nil)))))) ea_nil) (cv_repr hd hr9 hr.2 sh) m_repr) ov_neS) (by rw [decide_eq_true rfl]; rfl)) (fun h => Bool.noConfusion h) (fun h => .go s_nil' ?_)
  refine s_cons (s_set 4 (d := fr (-1) 2) (e_tup (ea_cons (E.to (e_bin e_int e_int ov_sub) rfl) (ea_cons e_int ea_nil))) scLaw.nd) ?_
  refine s_cons (s_set 3 (e_O (eo_lst (ds := Z) (ea_cons (e_call k_floor_of (ea_cons (e_var 4) ea_nil) ⟨-1, 2, rfl, by decide, z1 (by decide) (by decide), rfl⟩) (ea_cons (e_call k_ceiling_of (ea_cons (e_var 4) ea_nil) ⟨-1, 2, rfl, by decide, z1 (by decide) (by decide), rfl⟩) (ea_cons (e_call k_floor_of (ea_cons (e_tup (ea_cons e_int (ea_cons e_int ea_nil))) ea_nil) ⟨7, 1, rfl, by decide, z1 (by decide) (by decide), rfl⟩) (ea_cons (e_call k_ceiling_of (ea_cons (e_tup (ea_cons e_int (ea_cons e_int ea_nil))) ea_nil) ⟨7, 1, rfl, by decide, z1 (by decide) (by decide), rfl⟩) (ea_cons (e_call k_is_less (ea_cons (e_var 4) (ea_cons (e_var 4) ea_nil)) ⟨-1, 2, -1, 2, rfl, z1 (by decide) (by decide), z1 (by decide) (by decide), z1 (by decide) (by decide), z1 (by decide) (by decide), rfl⟩) ea_nil))))))) scLaw.nd) ?_
  exact s_stop (s_retP (e_cmp (e_callB (ea_cons (e_var 3) ea_nil) (cv_repr hd hr9 hr.2 sZ) m_repr) (e_callB (ea_cons (e_O (eo_lst (ds := Z) (ea_cons (E.to (e_bin e_int e_int ov_sub) rfl) (ea_cons e_int (ea_cons e_int (ea_cons e_int (ea_cons e_bl ea_nil))))))) ea_nil) (cv_repr hd hr9 hr.2 sZ) m_repr) ov_eqS) (by rw [decide_eq_true rfl]))
end
end K01
end part_K01j
section part_K01k
namespace K01
open L2 PyProof.Rows PySem.Spec PySem DL DLr Num
def fns : List He.DefD := [defD "fraction_of" sFrac, defD "plus" sPlus, defD "minus" sMinus, defD "times" sTimes, defD "over" sOver, defD "total" sTotal, defD "is_less" sLess, defD "lowest" sLow, defD "highest" sHigh, defD "floor_of" sFloor, defD "ceiling_of" sCeil,
  defD "_law_source" sSource, defD "_law_pick" sPick, defD "_law_of" sOf, defD "_law_mixed" sMixed, defD "_law_least" sLeast, defD "_law_plus" sLPlus, defD "_law_great" sGreat, defD "_law_drawn" sDrawn, defD "_law_pair_right" sPair, defD "_law_made_right" sMade, defD "_law_list_right" sList, defD "law" sLaw]
def names : List Str := ["fraction_of", "plus", "minus", "times", "over", "total", "is_less", "lowest", "highest", "floor_of", "ceiling_of", "_law_source", "_law_pick", "_law_of", "_law_mixed", "_law_least", "_law_plus", "_law_great", "_law_drawn", "_law_pair_right", "_law_made_right", "_law_list_right", "law"]
def frees : List Str := ["int", "abs", "len", "list", "range", "max", "repr", "all", "isinstance", "tuple"]
def facts : List He.Fa := (names.map He.Fa.glo ++ frees.map He.Fa.free) ++ [He.Fa.glo "NOUGHT"]
def own (K : PySem.W.Frag) : Bool := digB K && (bltB K "gcd" "math.gcd" && He.tupB K "NOUGHT" [.int 0, .int 1])
abbrev Rw : PySem.W.OpenRow := PySem.W.OpenLaw.row PySem.Challenge.rw_everygust_k01_fractions
abbrev hk : PySem.W.Hook := hookX 4 own facts fns
def ob (s : PySem.W.SharedT) : Bool × He.AlD := obX 4 own facts fns (HandSHeadRun.getT s)
theorem ob_eq (s : PySem.W.SharedT) : ob s = hk.obs s.abs := obX_eq (HandSHeadRun.getT_eq s)
def loose : List Str := ["NOUGHT", "fraction_of", "plus", "minus", "times", "over", "total", "is_less", "lowest", "highest", "floor_of", "ceiling_of", "_law_source", "_law_pick", "_law_of", "_law_mixed", "_law_least", "_law_plus", "_law_great", "_law_drawn", "_law_pair_right", "_law_made_right", "_law_list_right"]
theorem run (w : World) : HandSHeadRun.RunEqI Rw (PySem.W.view Rw.prog [0, 26]) hk ob 20000 loose w := by
  unfold HandSHeadRun.RunEqI
  kernel_rfl
section
variable {P : Program} {w : World} {K : PySem.W.Frag} {mg : Str → Option Value} {base h : Heap}
theorem gd_of (X : K.In h) (G : h.Ns mainGlobals mg) (o : own K = true) (c : He.SaysD facts fns K) : Gd K mg ∧ mg "gcd" = some (.builtin "math.gcd") ∧ ∃ v u, mg "NOUGHT" = some u ∧ RelV v u ∧ ∀ G, Da K G v (fr 0 1) := by
  obtain ⟨o1, o2⟩ := He.ba o
  obtain ⟨o3, o4⟩ := He.ba o2
  refine ⟨⟨He.eqO_ok o1, free_of X G c 23, free_of X G c 24, free_of X G c 25, free_of X G c 26, free_of X G c 27, free_of X G c 28, free_of X G c 29, free_of X G c 30, free_of X G c 31, free_of X G c 32⟩, PySem.W.mg_of X G (He.eqO_ok o3), .ref (He.ga K "NOUGHT"), .ref (He.ga K "NOUGHT"), ?_, rfl, fun G => ?_⟩
  · exact He.glo_ok X G (c.fact 33 (f := .glo "NOUGHT") rfl)
  · exact .tup (He.tupB_ok o4 G) (.cons (.int 0) (.cons (.int 1) .nil))
theorem law_of (X : K.In h) (G : h.Ns mainGlobals mg) (o : own K = true) (c : He.SaysD facts fns K) {fd : FuncData} (F : FunD K "law" "law" (defArgs sLaw) (defBody sLaw) (defScope sLaw) [] [] (He.fAd K ("law", none)) fd) : FnG P w K mg base L2.CX0 5 (He.fAd K ("law", none)) fd ["script"] (spL K) := by
  obtain ⟨g, gg, gN⟩ := gd_of X G o c
  have p : ∀ {x : Str} {st : Stmt} (i j : Nat), fns[i]? = some (defD x st) → facts[j]? = some (He.Fa.glo x) → DL.Put K mg x st := fun i j a b => put_of X G c i j a b
  have dF : Def P w K mg base "fraction_of" 1 ["p", "q"] (spP K rFrac) := ok_frac (p 0 0 rfl rfl) gg
  have dP := ok_plus (P := P) (w := w) (base := base) (p 1 1 rfl rfl) dF
  have dL := ok_less (P := P) (w := w) (base := base) (p 6 6 rfl rfl)
  have dE := ok_least (P := P) (w := w) (base := base) (p 15 15 rfl rfl) g.abs g.int
  have L : Lib P w K mg base := ⟨dF, dP, ok_minus (p 2 2 rfl rfl) dF, ok_times (p 3 3 rfl rfl) dF, ok_over (p 4 4 rfl rfl) dF, dL, ok_floor (p 9 9 rfl rfl), ok_ceil (p 10 10 rfl rfl), ok_total (p 5 5 rfl rfl) dP gN, ok_low (p 7 7 rfl rfl) dL, ok_high (p 8 8 rfl rfl) dL, dE, ok_lplus (p 16 16 rfl rfl) dE⟩
  have pk : DPick P w K mg base := ok_pick (p 12 12 rfl rfl) g.len g.max g.int
  have of' := ok_of (p 13 13 rfl rfl) pk g.len
  have mx := ok_mixed (p 14 14 rfl rfl) pk g.len g.list g.range
  have gr := ok_great (p 17 17 rfl rfl) pk g.range
  have dr := ok_drawn (p 18 18 rfl rfl) pk gr dE
  exact ok_law F g L ⟨ok_source (p 11 11 rfl rfl) g.int g.abs, of', dr, ok_pair (p 19 19 rfl rfl) g L, ok_made (p 20 20 rfl rfl) g L pk gr of', ok_list (p 21 21 rfl rfl) g L pk of' mx dr⟩
end
end K01
open PySem PySem.W PySem.Calls PyProof.Rows
theorem PySem.Challenge.cw_everygust_k01_fractions_holds : PySem.Challenge.rw_everygust_k01_fractions.Holds := by
  w_on; o_law
  refine HandSHeadRun.head_imp (r := K01.Rw) (q := view K01.Rw.prog [0, 26]) (H := K01.hk) (ob := K01.ob) (M := 20000) (loose := K01.loose) (d := HandSHeadRun.topDef K01.Rw.prog 26) (kwd := []) K01.ob_eq
    K01.run (by kernel_rfl) (by kernel_rfl) (by kernel_rfl) (by rfl) (by first | assumption | decide +kernel) (by decide +kernel) ⟨rfl, rfl, rfl, rfl, rfl, by decide +kernel⟩ ?hw ?hc
  case hw => w_witness2
  case hc =>
    refine DL.walkG (l := PySem.Challenge.rw_everygust_k01_fractions) (n := 63) (k := 5) (x := "script") rfl (by decide) (by kernel_rfl) ⟨rfl, by decide, by decide⟩ ?F
    intro w mg fa h Y G hmg0
    obtain ⟨K, KX, c⟩ := Y
    have hmg : mg ("law" : PySem.Str) = some (.ref fa) := by
      have e : (HandSHeadRun.topDef K01.Rw.prog 26).name = ("law" : PySem.Str) := by kernel_rfl
      rw [← e]
      exact hmg0
    obtain ⟨fd, F⟩ := (DL.saysX_d c).def_ 22 (d := DL.defD "law" K01.sLaw) rfl
    exact DL.def_end (st := K01.sLaw) F (fun _ _ _ _ _ _ us hl => match us, hl with | [_], _ => rfl) (fun base => K01.law_of KX G (DL.saysX_own c) (DL.saysX_d c) F) KX (He.glo_ok KX G ((DL.saysX_d c).fact 22 (f := .glo "law") rfl)) hmg
end part_K01k
