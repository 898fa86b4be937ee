import PyProof.Rows.All
import Wide.All
import OpenK.AllK
import Wide.FinOn
import HandS.ForMost
import HandS.Wide
import HandS.Gcd
import HandS.Defaults
import HandS.IsInst
import HandS.Style
import HandS.Ends
import HandS.HeadEnd
import HandS.RaiseMore
import KE.KStateDown
import HandS.HeadHook2
import HandS.Head2
import HandS.Head3
import HandS.Zip
import HandS.TupMul
import KE.KMathG
import HandS.Star
import HandS.TupAny
import HandS.TryOnly
import HandS.Conv
import HandS.Dict
import PySem.Challenge.RW_everygust_k03_rooms_of_rooms
set_option Elab.async false
set_option linter.all false
set_option maxRecDepth 100000
set_option maxHeartbeats 0
section part_DLa
/-! The data layer: what a piece of a def does, told of plain data. -/
namespace DL
open L2 PyProof.Rows PySem.Spec PySem

/-! ### heaps -/
def Ex (H H' : Hp) : Prop := ∀ a o, H a = some o → H' a = some o
theorem Ex.refl (H : Hp) : Ex H H := fun _ _ h => h
theorem Ex.trans {H H1 H2 : Hp} (a : Ex H H1) (b : Ex H1 H2) : Ex H H2 := fun x o h => b x o (a x o h)
theorem Ex.new {H : Hp} {p : Addr} {o : HO} (h : H p = none) : Ex H (upd H p o) := fun a u e => by
  rw [upd_ne (ne_of_none e h)]
  exact e
/-- both sides get the same object at p -/
theorem Ex.both {G H : Hp} {p : Addr} {o : HO} (e : Ex G H) : Ex (upd G p o) (upd H p o) := fun a u h => by
  by_cases q : a = p
  · subst q
    rw [upd_same] at h ⊢
    exact h
  · rw [upd_ne q] at h ⊢
    exact e a u h
theorem Ex.put {G H : Hp} {p : Addr} {o : HO} (e : Ex G H) (h : H p = some o) : Ex (upd G p o) H := fun a u q => by
  by_cases z : a = p
  · subst z
    rw [upd_same] at q
    rw [h]
    exact q
  · rw [upd_ne z] at q
    exact e a u q
/-- an object that G does not know may change -/
theorem Ex.mut {G H : Hp} {p : Addr} {o : HO} (e : Ex G H) (h : G p = none) : Ex G (upd H p o) := fun a u q => by
  rw [upd_ne (ne_of_none q h)]
  exact e a u q
theorem Ex.none {G H : Hp} {p : Addr} (e : Ex G H) (h : H p = none) : G p = none := by
  cases q : G p with
  | none => rfl
  | some o =>
    rw [e p o q] at h
    cases h
/-- G' is G and objects that F does not have -/
def Ext (F G G' : Hp) : Prop := Ex G G' ∧ ∀ a o, G' a = some o → G a = none → F a = none
theorem Ext.refl (F G : Hp) : Ext F G G := ⟨Ex.refl G, fun a o h n => by rw [n] at h; cases h⟩
theorem Ext.trans {F G G1 G2 : Hp} (a : Ext F G G1) (b : Ext F G1 G2) : Ext F G G2 := ⟨a.1.trans b.1, fun x o h n => by
  cases e : G1 x with
  | none => exact b.2 x o h e
  | some u => exact a.2 x u e n⟩
theorem Ext.weak {F F' G G' : Hp} (e : Ex F F') (h : Ext F' G G') : Ext F G G' := ⟨h.1, fun a o q n => e.none (h.2 a o q n)⟩
theorem Ext.new {F G : Hp} {p : Addr} {o : HO} (hF : F p = none) (hG : G p = none) : Ext F G (upd G p o) := ⟨Ex.new hG, fun a u h n => by
  by_cases q : a = p
  · rw [q]
    exact hF
  · rw [upd_ne q] at h
    rw [n] at h
    cases h⟩
/-- what G' does not gain -/
theorem Ext.none {F G G' : Hp} (h : Ext F G G') {a : Addr} {o : HO} (hF : F a = some o) (hG : G a = none) : G' a = none := by
  cases e : G' a with
  | none => rfl
  | some u =>
    have z := h.2 a u e hG
    rw [hF] at z
    cases z

theorem sqL_ex {K : PySem.W.Frag} {H H' : Hp} {a : Addr} {xs : List V} (e : Ex H H') (h : SqL K H a xs) : SqL K H' a xs := by
  rcases h with (h | ⟨o, h⟩) | h
  · exact .inl (.inl (e _ _ h))
  · exact .inl (.inr ⟨o, e _ _ h⟩)
  · exact .inr h
theorem sqT_ex {K : PySem.W.Frag} {H H' : Hp} {a : Addr} {xs : List V} (e : Ex H H') (h : SqT K H a xs) : SqT K H' a xs := by
  rcases h with (h | ⟨o, h⟩) | h
  · exact .inl (.inl (e _ _ h))
  · exact .inl (.inr ⟨o, e _ _ h⟩)
  · exact .inr h

/-! ### data in a heap -/
mutual
inductive Da (K : PySem.W.Frag) (H : Hp) : V → PyData → Prop
  | non : Da K H .non .none
  | bl (b : Bool) : Da K H (.bl b) (.bool b)
  | int (i : Int) : Da K H (.int i) (.int i)
  | str (x : Str) : Da K H (.str x) (.str x)
  | lst {a : Addr} {xs : List V} {ds : List PyData} : H a = some (.lst xs) → DaAll K H xs ds → Da K H (.ref a) (.list ds)
  | tup {a : Addr} {xs : List V} {ds : List PyData} : SqT K H a xs → DaAll K H xs ds → Da K H (.ref a) (.tuple ds)
  | dct {a : Addr} {kvs : List (Key × V)} {ds : List (PyData × PyData)} : H a = some (.dK kvs) → DaKvs K H kvs ds → Da K H (.ref a) (.dict ds)
inductive DaAll (K : PySem.W.Frag) (H : Hp) : List V → List PyData → Prop
  | nil : DaAll K H [] []
  | cons {v : V} {vs : List V} {d : PyData} {ds : List PyData} : Da K H v d → DaAll K H vs ds → DaAll K H (v :: vs) (d :: ds)
inductive DaKvs (K : PySem.W.Frag) (H : Hp) : List (Key × V) → List (PyData × PyData) → Prop
  | nil : DaKvs K H [] []
  | int {i : Int} {v : V} {d : PyData} {kvs : List (Key × V)} {ds : List (PyData × PyData)} : Da K H v d → DaKvs K H kvs ds → DaKvs K H ((Sum.inl i, v) :: kvs) ((.int i, d) :: ds)
  | str {x : Str} {v : V} {d : PyData} {kvs : List (Key × V)} {ds : List (PyData × PyData)} : Da K H v d → DaKvs K H kvs ds → DaKvs K H ((Sum.inr x, v) :: kvs) ((.str x, d) :: ds)
end
mutual
theorem da_ex {K : PySem.W.Frag} {H H' : Hp} (e : Ex H H') : ∀ {v : V} {d : PyData}, Da K H v d → Da K H' v d
  | _, _, .non => .non
  | _, _, .bl b => .bl b
  | _, _, .int i => .int i
  | _, _, .str x => .str x
  | _, _, .lst h1 h2 => .lst (e _ _ h1) (daAll_ex e h2)
  | _, _, .tup h1 h2 => .tup (sqT_ex e h1) (daAll_ex e h2)
  | _, _, .dct h1 h2 => .dct (e _ _ h1) (daKvs_ex e h2)
theorem daAll_ex {K : PySem.W.Frag} {H H' : Hp} (e : Ex H H') : ∀ {vs : List V} {ds : List PyData}, DaAll K H vs ds → DaAll K H' vs ds
  | _, _, .nil => .nil
  | _, _, .cons h1 h2 => .cons (da_ex e h1) (daAll_ex e h2)
theorem daKvs_ex {K : PySem.W.Frag} {H H' : Hp} (e : Ex H H') : ∀ {vs : List (Key × V)} {ds : List (PyData × PyData)}, DaKvs K H vs ds → DaKvs K H' vs ds
  | _, _, .nil => .nil
  | _, _, .int h1 h2 => .int (da_ex e h1) (daKvs_ex e h2)
  | _, _, .str h1 h2 => .str (da_ex e h1) (daKvs_ex e h2)
end
section
variable {K : PySem.W.Frag} {H : Hp}
theorem daAll_len : ∀ {vs : List V} {ds : List PyData}, DaAll K H vs ds → vs.length = ds.length
  | _, _, .nil => rfl
  | _, _, .cons _ h => congrArg (· + 1) (daAll_len h)
theorem daAll_get : ∀ {vs : List V} {ds : List PyData} {i : Nat} {d : PyData}, DaAll K H vs ds → ds[i]? = some d → ∃ v, vs[i]? = some v ∧ Da K H v d
  | _, _, i, d, .nil, e => by simp at e
  | _, _, 0, d, .cons h _, e => by
    simp at e
    subst e
    exact ⟨_, rfl, h⟩
  | _, _, i + 1, d, .cons _ t, e => by
    obtain ⟨v, h1, h2⟩ := daAll_get (i := i) t (by simpa using e)
    exact ⟨v, by simpa using h1, h2⟩
theorem daAll_getV : ∀ {vs : List V} {ds : List PyData} {i : Nat} {v : V}, DaAll K H vs ds → vs[i]? = some v → ∃ d, ds[i]? = some d ∧ Da K H v d
  | _, _, i, d, .nil, e => by simp at e
  | _, _, 0, d, .cons h _, e => by
    simp at e
    subst e
    exact ⟨_, rfl, h⟩
  | _, _, i + 1, d, .cons _ t, e => by
    obtain ⟨v, h1, h2⟩ := daAll_getV (i := i) t (by simpa using e)
    exact ⟨v, by simpa using h1, h2⟩
theorem daAll_app : ∀ {vs ws : List V} {ds es : List PyData}, DaAll K H vs ds → DaAll K H ws es → DaAll K H (vs ++ ws) (ds ++ es)
  | _, _, _, _, .nil, h => h
  | _, _, _, _, .cons h t, h2 => .cons h (daAll_app t h2)
theorem daAll_take : ∀ {vs : List V} {ds : List PyData} (n : Nat), DaAll K H vs ds → DaAll K H (vs.take n) (ds.take n)
  | _, _, 0, _ => .nil
  | _, _, n + 1, .nil => .nil
  | _, _, n + 1, .cons h t => .cons h (daAll_take n t)
theorem daAll_drop : ∀ {vs : List V} {ds : List PyData} (n : Nat), DaAll K H vs ds → DaAll K H (vs.drop n) (ds.drop n)
  | _, _, 0, h => h
  | _, _, n + 1, .nil => .nil
  | _, _, n + 1, .cons h t => daAll_drop n t
theorem daAll_rev {vs : List V} {ds : List PyData} (h : DaAll K H vs ds) : DaAll K H vs.reverse ds.reverse := by
  induction vs generalizing ds with
  | nil => cases h; exact .nil
  | cons v vs ih =>
    cases h with
    | cons h1 h2 =>
      rw [List.reverse_cons, List.reverse_cons]
      exact daAll_app (ih h2) (.cons h1 .nil)
theorem daAll_erase : ∀ {vs : List V} {ds : List PyData} (n : Nat), DaAll K H vs ds → DaAll K H (vs.eraseIdx n) (ds.eraseIdx n)
  | _, _, _, .nil => .nil
  | _, _, 0, .cons _ t => t
  | _, _, n + 1, .cons h t => .cons h (daAll_erase n t)
theorem daAll_set : ∀ {vs : List V} {ds : List PyData} {v : V} {d : PyData} (n : Nat), Da K H v d → DaAll K H vs ds → DaAll K H (vs.set n v) (ds.set n d)
  | _, _, _, _, _, _, .nil => .nil
  | _, _, _, _, 0, q, .cons _ t => .cons q t
  | _, _, _, _, n + 1, q, .cons h t => .cons h (daAll_set n q t)
theorem daAll_ints : ∀ (ns : List Int), DaAll K H (ns.map V.int) (ns.map PyData.int)
  | [] => .nil
  | n :: ns => .cons (.int n) (daAll_ints ns)
theorem ints_daAll : ∀ {vs : List V} {ns : List Int}, DaAll K H vs (ns.map PyData.int) → vs = ns.map V.int
  | _, [], h => by cases h; rfl
  | _, n :: ns, h => by
    cases h with
    | cons h1 h2 =>
      cases h1
      rw [ints_daAll h2]
      rfl
theorem bls_daAll : ∀ {vs : List V} {ns : List Bool}, DaAll K H vs (ns.map PyData.bool) → vs = ns.map V.bl
  | _, [], h => by cases h; rfl
  | _, n :: ns, h => by
    cases h with
    | cons h1 h2 =>
      cases h1
      rw [bls_daAll h2]
      rfl
theorem daAll_one {vs : List V} {d : PyData} (h : DaAll K H vs [d]) : ∃ v, vs = [v] ∧ Da K H v d := by
  cases h with
  | cons h1 h2 => cases h2; exact ⟨_, rfl, h1⟩
theorem daAll_two {vs : List V} {d e : PyData} (h : DaAll K H vs [d, e]) : ∃ v w, vs = [v, w] ∧ Da K H v d ∧ Da K H w e := by
  cases h with
  | cons h1 h2 =>
    obtain ⟨w, rfl, h3⟩ := daAll_one h2
    exact ⟨_, _, rfl, h1, h3⟩
end

/-! ### what the slots hold -/
/-- the law's source of numbers -/
structure Src where
  cells : List Int
  left : Int
  mixed : Int
  turn : Int
  more : List (Key × V) := []
def srcK (l : Addr) (t : Src) : List (Key × V) := (Sum.inr "cells", V.ref l) :: (Sum.inr "left", V.int t.left) :: (Sum.inr "mixed", V.int t.mixed) :: (Sum.inr "turn", V.int t.turn) :: t.more
structure SrcAt (H : Hp) (s l : Addr) (t : Src) : Prop where
  d : H s = some (.dK (srcK l t))
  c : H l = some (.lst (t.cells.map V.int))
inductive Sl where
  | un
  | dat (d : PyData)
  | own (ds : List PyData)
  | src (s l : Addr) (t : Src)
  | scr (ns : List Int)
def Hold (K : PySem.W.Frag) (G H : Hp) (o : Option (Option V)) (as : List Addr) : Sl → Prop
  | .un => True
  | .dat d => ∃ v, o = some (some v) ∧ Da K G v d
  | .own ds => ∃ l xs, o = some (some (.ref l)) ∧ l ∈ as ∧ H l = some (.lst xs) ∧ DaAll K G xs ds
  | .src s l t => o = some (some (.ref s)) ∧ s ∈ as ∧ l ∈ as ∧ SrcAt H s l t
  | .scr ns => ∃ a, o = some (some (.ref a)) ∧ SqL K G a (ns.map V.int)
/-- F: what stays as it is; G: what data lean on; H: the heap -/
structure Sta (K : PySem.W.Frag) (F G H : Hp) (σ : L2.St) (ρ : List Sl) (ad : Nat → List Addr) : Prop where
  gh : Ex G H
  fh : Ex F H
  own : ∀ i a, a ∈ ad i → G a = none ∧ F a = none
  there : ∀ i a, a ∈ ad i → ∃ o, H a = some o
  dis : ∀ i j a, a ∈ ad i → a ∈ ad j → i = j
  len : σ.length = ρ.length
  hold : ∀ i r, ρ[i]? = some r → Hold K G H (σ[i]?) (ad i) r

section
variable {K : PySem.W.Frag} {F F' G G' H H' : Hp} {σ : L2.St} {ρ : List Sl} {ad : Nat → List Addr} {i : Nat} {o : Option (Option V)} {as : List Addr} {r : Sl} {d : PyData} {ds : List PyData} {v : V} {l : Addr} {xs : List V}
theorem Hold.grow (h : Hold K G H o as r) (eg : Ex G G') (eh : ∀ a, a ∈ as → ∀ u, H a = some u → H' a = some u) : Hold K G' H' o as r := by
  cases r with
  | un => trivial
  | dat d =>
    obtain ⟨v, h1, h2⟩ := h
    exact ⟨v, h1, da_ex eg h2⟩
  | own ds =>
    obtain ⟨l, xs, h1, h2, h3, h4⟩ := h
    exact ⟨l, xs, h1, h2, eh l h2 _ h3, daAll_ex eg h4⟩
  | src s l t =>
    obtain ⟨h1, h2, h3, h4⟩ := h
    exact ⟨h1, h2, h3, eh s h2 _ h4.d, eh l h3 _ h4.c⟩
  | scr ns =>
    obtain ⟨a, h1, h2⟩ := h
    exact ⟨a, h1, sqL_ex eg h2⟩
theorem Hold.more (h : Hold K G H o as r) {bs : List Addr} (hb : ∀ a ∈ as, a ∈ bs) : Hold K G H o bs r := by
  cases r with
  | un => trivial
  | dat d => exact h
  | own ds =>
    obtain ⟨l, xs, h1, h2, h3, h4⟩ := h
    exact ⟨l, xs, h1, hb _ h2, h3, h4⟩
  | src s l t =>
    obtain ⟨h1, h2, h3, h4⟩ := h
    exact ⟨h1, hb _ h2, hb _ h3, h4⟩
  | scr ns => exact h
/-- the heap grows -/
theorem Sta.grow (w : Sta K F G H σ ρ ad) (eh : Ex H H') (eg : Ext H G G') (gh : Ex G' H') : Sta K F G' H' σ ρ ad where
  gh := gh
  fh := w.fh.trans eh
  own := fun i a h => by
    obtain ⟨o, ho⟩ := w.there i a h
    exact ⟨eg.none ho (w.own i a h).1, (w.own i a h).2⟩
  there := fun i a h => by
    obtain ⟨o, ho⟩ := w.there i a h
    exact ⟨o, eh a o ho⟩
  dis := w.dis
  len := w.len
  hold := fun i r h => (w.hold i r h).grow eg.1 fun a _ u q => eh a u q
theorem Sta.dat (w : Sta K F G H σ ρ ad) (h : ρ[i]? = some (.dat d)) : ∃ v, σ[i]? = some (some v) ∧ Da K G v d := w.hold i _ h
/-- slot i is set to data -/
theorem Sta.set (w : Sta K F G H σ ρ ad) (h : Da K G v d) (hr : i < ρ.length) : Sta K F G H (σ.set i (some v)) (ρ.set i (.dat d)) (fun j => if j = i then [] else ad j) where
  gh := w.gh
  fh := w.fh
  own := fun j a q => by
    by_cases e : j = i
    · rw [if_pos e] at q; cases q
    · rw [if_neg e] at q; exact w.own j a q
  there := fun j a q => by
    by_cases e : j = i
    · rw [if_pos e] at q; cases q
    · rw [if_neg e] at q; exact w.there j a q
  dis := fun j k a q1 q2 => by
    by_cases e : j = i
    · rw [if_pos e] at q1; cases q1
    · rw [if_neg e] at q1
      by_cases e2 : k = i
      · rw [if_pos e2] at q2; cases q2
      · rw [if_neg e2] at q2; exact w.dis j k a q1 q2
  len := by rw [List.length_set, List.length_set]; exact w.len
  hold := fun j r q => by
    have hi : i < σ.length := by rw [w.len]; exact hr
    by_cases e : j = i
    · subst e
      rw [List.getElem?_set_self (by
        have := (List.getElem?_eq_some_iff.mp q).1
        rw [List.length_set] at this
        exact this)] at q
      cases q
      rw [List.getElem?_set_self hi]
      exact ⟨v, rfl, h⟩
    · rw [List.getElem?_set_ne (Ne.symm e)] at q ⊢
      rw [if_neg e]
      exact w.hold j r q
/-- slot i is set to a list of one's own -/
theorem Sta.setO (w : Sta K F G H σ ρ ad) (hl : H l = some (.lst xs)) (hd : DaAll K G xs ds) (hF : F l = none) (hG : G l = none) (ha : ∀ j, l ∉ ad j) (hr : i < ρ.length) :
    Sta K F G H (σ.set i (some (.ref l))) (ρ.set i (.own ds)) (fun j => if j = i then [l] else ad j) where
  gh := w.gh
  fh := w.fh
  own := fun j a q => by
    by_cases e : j = i
    · rw [if_pos e] at q
      rw [List.mem_singleton.mp q]
      exact ⟨hG, hF⟩
    · rw [if_neg e] at q; exact w.own j a q
  there := fun j a q => by
    by_cases e : j = i
    · rw [if_pos e] at q
      rw [List.mem_singleton.mp q]
      exact ⟨_, hl⟩
    · rw [if_neg e] at q; exact w.there j a q
  dis := fun j k a q1 q2 => by
    by_cases e : j = i
    · rw [if_pos e] at q1
      by_cases e2 : k = i
      · rw [e, e2]
      · rw [if_neg e2] at q2
        rw [List.mem_singleton.mp q1] at q2
        exact absurd q2 (ha k)
    · rw [if_neg e] at q1
      by_cases e2 : k = i
      · rw [if_pos e2] at q2
        rw [List.mem_singleton.mp q2] at q1
        exact absurd q1 (ha j)
      · rw [if_neg e2] at q2; exact w.dis j k a q1 q2
  len := by rw [List.length_set, List.length_set]; exact w.len
  hold := fun j r q => by
    have hi : i < σ.length := by rw [w.len]; exact hr
    by_cases e : j = i
    · subst e
      rw [List.getElem?_set_self (by
        have := (List.getElem?_eq_some_iff.mp q).1
        rw [List.length_set] at this
        exact this)] at q
      cases q
      rw [List.getElem?_set_self hi, if_pos rfl]
      exact ⟨l, xs, rfl, List.mem_singleton.mpr rfl, hl, hd⟩
    · rw [List.getElem?_set_ne (Ne.symm e)] at q ⊢
      rw [if_neg e]
      exact w.hold j r q
/-- a list of one's own becomes data -/
theorem Sta.freeze (w : Sta K F G H σ ρ ad) (h : ρ[i]? = some (.own ds)) : ∃ (l : Addr) (G' : Hp), σ[i]? = some (some (.ref l)) ∧ Ext F G G' ∧ Da K G' (.ref l) (.list ds) ∧
    Sta K F G' H σ (ρ.set i (.dat (.list ds))) (fun j => if j = i then [] else ad j) := by
  obtain ⟨l, xs, h1, h2, h3, h4⟩ := w.hold i _ h
  obtain ⟨hG, hF⟩ := w.own i l h2
  have ex : Ext F G (upd G l (.lst xs)) := Ext.new hF hG
  have dd : Da K (upd G l (.lst xs)) (.ref l) (.list ds) := .lst upd_same (daAll_ex ex.1 h4)
  refine ⟨l, upd G l (.lst xs), h1, ex, dd, ?_⟩
  refine ⟨w.gh.put h3, w.fh, fun j a q => ?_, fun j a q => ?_, fun j k a q1 q2 => ?_, by rw [List.length_set]; exact w.len, fun j r q => ?_⟩
  · by_cases e : j = i
    · rw [if_pos e] at q; cases q
    · rw [if_neg e] at q
      have ne : a ≠ l := fun z => e (w.dis j i a q (by rw [z]; exact h2))
      exact ⟨by rw [upd_ne ne]; exact (w.own j a q).1, (w.own j a q).2⟩
  · by_cases e : j = i
    · rw [if_pos e] at q; cases q
    · rw [if_neg e] at q; exact w.there j a q
  · by_cases e : j = i
    · rw [if_pos e] at q1; cases q1
    · rw [if_neg e] at q1
      by_cases e2 : k = i
      · rw [if_pos e2] at q2; cases q2
      · rw [if_neg e2] at q2; exact w.dis j k a q1 q2
  · by_cases e : j = i
    · subst e
      rw [List.getElem?_set_self (List.getElem?_eq_some_iff.mp h).1] at q
      cases q
      exact ⟨_, h1, dd⟩
    · rw [List.getElem?_set_ne (Ne.symm e)] at q
      rw [if_neg e]
      exact (w.hold j r q).grow ex.1 fun a _ u z => z
/-- the own list at i is changed in place -/
theorem Sta.mutO {ys : List V} {es : List PyData} (w : Sta K F G H σ ρ ad) (h : ρ[i]? = some (.own ds)) (hl : σ[i]? = some (some (.ref l))) (hd : DaAll K G ys es) :
    Sta K F G (upd H l (.lst ys)) σ (ρ.set i (.own es)) ad := by
  obtain ⟨l', xs, h1, h2, h3, h4⟩ := w.hold i _ h
  have el : l' = l := by
    rw [hl] at h1
    cases h1
    rfl
  subst el
  obtain ⟨hG, hF⟩ := w.own i l' h2
  refine ⟨w.gh.mut hG, w.fh.mut hF, w.own, fun j a q => ?_, w.dis, by rw [List.length_set]; exact w.len, fun j r q => ?_⟩
  · by_cases e : a = l'
    · rw [e, upd_same]; exact ⟨_, rfl⟩
    · rw [upd_ne e]; exact w.there j a q
  · by_cases e : j = i
    · subst e
      rw [List.getElem?_set_self (List.getElem?_eq_some_iff.mp h).1] at q
      cases q
      exact ⟨l', ys, h1, h2, upd_same, hd⟩
    · rw [List.getElem?_set_ne (Ne.symm e)] at q
      refine (w.hold j r q).grow (Ex.refl G) fun a ha u z => ?_
      rw [upd_ne fun y => e (w.dis j i a ha (by rw [y]; exact h2))]
      exact z
theorem Sta.frame (w : Sta K F' G H σ ρ ad) (e : Ex F F') : Sta K F G H σ ρ ad := ⟨w.gh, e.trans w.fh, fun i a q => ⟨(w.own i a q).1, e.none (w.own i a q).2⟩, w.there, w.dis, w.len, w.hold⟩
theorem Sta.framed {D : Addr} {o : HO} (w : Sta K F G H σ ρ ad) (h : H D = some o) (hD : ∀ j, D ∉ ad j) : Sta K (upd F D o) G H σ ρ ad := ⟨w.gh, w.fh.put h, fun i a q => ⟨(w.own i a q).1, by
  rw [upd_ne (fun z => hD i (by rw [← z]; exact q))]
  exact (w.own i a q).2⟩, w.there, w.dis, w.len, w.hold⟩
theorem Sta.mutX {D : Addr} {o : HO} (w : Sta K F G H σ ρ ad) (hG : G D = none) (hF : F D = none) (hD : ∀ j, D ∉ ad j) : Sta K F G (upd H D o) σ ρ ad := ⟨w.gh.mut hG, w.fh.mut hF, w.own, fun i a q => by
  obtain ⟨u, hu⟩ := w.there i a q
  exact ⟨u, by rw [upd_ne (fun z => hD i (by rw [← z]; exact q))]; exact hu⟩, w.dis, w.len, fun i r q => (w.hold i r q).grow (Ex.refl G) fun a ha u z => by
  rw [upd_ne (fun y => hD i (by rw [← y]; exact ha))]
  exact z⟩
/-- forget -/
def Le (ρ ρ' : List Sl) : Prop := ρ.length = ρ'.length ∧ ∀ (i : Nat) (r : Sl), ρ'[i]? = some r → r = Sl.un ∨ ρ[i]? = some r
theorem Le.refl (ρ : List Sl) : Le ρ ρ := ⟨rfl, fun _ _ h => .inr h⟩
theorem Sta.le {ρ' : List Sl} (w : Sta K F G H σ ρ ad) (h : Le ρ ρ') : Sta K F G H σ ρ' ad :=
  ⟨w.gh, w.fh, w.own, w.there, w.dis, w.len.trans h.1, fun i r q => by
    rcases h.2 i r q with e | e
    · subst e; trivial
    · exact w.hold i r e⟩
theorem le_nil : Le [] [] := ⟨rfl, fun i r h => by simp at h⟩
theorem le_cons {a : Sl} {ρ' : List Sl} (h : Le ρ ρ') : Le (a :: ρ) (a :: ρ') := ⟨by rw [List.length_cons, List.length_cons, h.1], fun i r q => by
  cases i with
  | zero => exact .inr q
  | succ i => exact h.2 i r (by simpa using q)⟩
theorem le_un {a : Sl} {ρ' : List Sl} (h : Le ρ ρ') : Le (a :: ρ) (Sl.un :: ρ') := ⟨by rw [List.length_cons, List.length_cons, h.1], fun i r q => by
  cases i with
  | zero =>
    simp at q
    exact .inl q.symm
  | succ i => exact h.2 i r (by simpa using q)⟩
end
end DL
end part_DLa
section part_DLb
namespace DL
open L2 PyProof.Rows PySem.Spec PySem
/-! ### judgements -/
def cE (K : PySem.W.Frag) (ρ : List Sl) (d : PyData) (ρ' : List Sl) : TE := fun σ H Q => ∃ F G ad, Sta K F G H σ ρ ad ∧ ∀ v H' G' ad', Ext F G G' → Sta K F G' H' σ ρ' ad' → Da K G' v d → Q v H'
def cO (K : PySem.W.Frag) (ρ : List Sl) (ds : List PyData) (ρ' : List Sl) : TE := fun σ H Q => ∃ F G ad, Sta K F G H σ ρ ad ∧
  ∀ l xs H' G' ad', Ext F G G' → Sta K F G' H' σ ρ' ad' → F l = none → G' l = none → (∀ j, l ∉ ad' j) → H' l = some (.lst xs) → DaAll K G' xs ds → Q (.ref l) H'
def cT (K : PySem.W.Frag) (ρ : List Sl) (b : Bool) (ρ' : List Sl) : TT := fun σ H Q => ∃ F G ad, Sta K F G H σ ρ ad ∧ ∀ H' G' ad', Ext F G G' → Sta K F G' H' σ ρ' ad' → Q b H'
def cA (K : PySem.W.Frag) (ρ : List Sl) (ds : List PyData) (ρ' : List Sl) : TA := fun σ H Q => ∃ F G ad, Sta K F G H σ ρ ad ∧ ∀ vs H' G' ad', Ext F G G' → Sta K F G' H' σ ρ' ad' → DaAll K G' vs ds → Q vs H'
def E (X : Cx) (e : Expr) (ρ : List Sl) (d : PyData) (ρ' : List Sl) : Prop := PE X e (cE X.K ρ d ρ')
def EO (X : Cx) (e : Expr) (ρ : List Sl) (ds : List PyData) (ρ' : List Sl) : Prop := PE X e (cO X.K ρ ds ρ')
def T (X : Cx) (e : Expr) (ρ : List Sl) (b : Bool) (ρ' : List Sl) : Prop := PT X e (cT X.K ρ b ρ')
def EA (X : Cx) (es : List Expr) (ρ : List Sl) (ds : List PyData) (ρ' : List Sl) : Prop := PA X es (cA X.K ρ ds ρ')
theorem pe_imp {X : Cx} {e : Expr} {t t' : TE} (h : PE X e t) (k : ∀ σ H Q, t' σ H Q → t σ H Q) : PE X e t' := ⟨fun pins s σ H Q I q => h.run pins s σ H Q I (k σ H Q q)⟩
theorem pt_imp {X : Cx} {e : Expr} {t t' : TT} (h : PT X e t) (k : ∀ σ H Q, t' σ H Q → t σ H Q) : PT X e t' := ⟨fun pins s σ H Q I q => h.run pins s σ H Q I (k σ H Q q)⟩
theorem pw_imp {X : Cx} {e : Expr} {t t' : TT} (h : PW X e t) (k : ∀ σ H Q, t' σ H Q → t σ H Q) : PW X e t' := ⟨fun wh pins s σ H Q I q => h.run wh pins s σ H Q I (k σ H Q q)⟩
theorem pa_imp {X : Cx} {e : List Expr} {t t' : TA} (h : PA X e t) (k : ∀ σ H Q, t' σ H Q → t σ H Q) : PA X e t' := ⟨fun pos pins s σ H Q I q => h.run pos pins s σ H Q I (k σ H Q q)⟩

section
variable {X : Cx} {e a b c : Expr} {ρ ρ0 ρ1 ρ2 ρ3 : List Sl} {d d1 d2 d3 : PyData} {ds es : List PyData} {x : Str} {pos : Pos}
/-- the same, its value told otherwise -/
theorem E.to (h : E X e ρ d ρ1) (q : d = d2) : E X e ρ d2 ρ1 := by subst q; exact h
theorem EO.to (h : EO X e ρ ds ρ1) (q : ds = es) : EO X e ρ es ρ1 := by subst q; exact h
theorem T.to {p q : Bool} (h : T X e ρ p ρ1) (z : p = q) : T X e ρ q ρ1 := by subst z; exact h
theorem EA.to (h : EA X [e] ρ ds ρ1) (q : ds = es) : EA X [e] ρ es ρ1 := by subst q; exact h

theorem e_var (i : Nat) (h : ρ[i]? = some (.dat d) := by rfl) (hN : X.N[i]? = some x := by rfl) (hv : Vis X.env.scope x := by first | exact Or.inl rfl | exact Or.inr (Or.inl rfl) | exact Or.inr (Or.inr rfl))
    (hd : (x == ("__debug__" : Str)) = false := by decide) (hcd : (x == ("__classdict__" : Str)) = false := by decide) : E X (.Name x pos) ρ d ρ :=
  pe_imp (pe_var hN hv hd hcd) fun σ H Q ⟨F, G, ad, w, k⟩ => by
    obtain ⟨v, h1, h2⟩ := w.dat h
    exact ⟨v, h1, k v H G ad (Ext.refl F G) w h2⟩
/-- a list of one's own, read as data: it is data from then on -/
theorem e_varO (i : Nat) (h : ρ[i]? = some (.own ds) := by rfl) (hN : X.N[i]? = some x := by rfl) (hv : Vis X.env.scope x := by first | exact Or.inl rfl | exact Or.inr (Or.inl rfl) | exact Or.inr (Or.inr rfl))
    (hd : (x == ("__debug__" : Str)) = false := by decide) (hcd : (x == ("__classdict__" : Str)) = false := by decide) : E X (.Name x pos) ρ (.list ds) (ρ.set i (.dat (.list ds))) :=
  pe_imp (pe_var hN hv hd hcd) fun σ H Q ⟨F, G, ad, w, k⟩ => by
    obtain ⟨l, G', h1, h2, h3, h4⟩ := w.freeze h
    exact ⟨_, h1, k _ H G' _ h2 h4 h3⟩
theorem e_int {i : Int} {j : Nat} : E X (.Constant (.int i) j pos) ρ (.int i) ρ := pe_imp pe_int fun σ H Q ⟨F, G, ad, w, k⟩ => k _ H G ad (Ext.refl F G) w (.int i)
theorem e_bl {i : Bool} {j : Nat} : E X (.Constant (.bool i) j pos) ρ (.bool i) ρ := pe_imp pe_bl fun σ H Q ⟨F, G, ad, w, k⟩ => k _ H G ad (Ext.refl F G) w (.bl i)
theorem e_non {j : Nat} : E X (.Constant .none j pos) ρ .none ρ := pe_imp pe_non fun σ H Q ⟨F, G, ad, w, k⟩ => k _ H G ad (Ext.refl F G) w .non
theorem e_str {z : Str} {j : Nat} : E X (.Constant (.str z) j pos) ρ (.str z) ρ := pe_imp pe_str fun σ H Q ⟨F, G, ad, w, k⟩ => k _ H G ad (Ext.refl F G) w (.str z)
/-- a new list, read as data -/
theorem e_O (h : EO X e ρ ds ρ1) : E X e ρ (.list ds) ρ1 := pe_imp h fun σ H Q ⟨F, G, ad, w, k⟩ => ⟨F, G, ad, w, fun l xs H' G' ad' e w' hF hG hj hl hd => by
  have ex : Ext F G' (upd G' l (.lst xs)) := Ext.new hF hG
  refine k (.ref l) H' (upd G' l (.lst xs)) ad' (e.trans ex) ⟨w'.gh.put hl, w'.fh, fun i a q => ?_, w'.there, w'.dis, w'.len, fun i r q => (w'.hold i r q).grow ex.1 fun _ _ _ z => z⟩ (.lst upd_same (daAll_ex ex.1 hd))
  have ne : a ≠ l := fun z => hj i (by rw [← z]; exact q)
  exact ⟨by rw [upd_ne ne]; exact (w'.own i a q).1, (w'.own i a q).2⟩⟩

/-! ### operators, by values -/
def cOp (K : PySem.W.Frag) (d1 d2 d : PyData) : R2 := fun x y H Q => ∃ G, Ex G H ∧ Da K G x d1 ∧ Da K G y d2 ∧ ∀ v H' G', Ex H H' → Ext H G G' → Ex G' H' → Da K G' v d → Q v H'
def cOpO (K : PySem.W.Frag) (d1 d2 : PyData) (ds : List PyData) : R2 := fun x y H Q => ∃ G, Ex G H ∧ Da K G x d1 ∧ Da K G y d2 ∧
  ∀ l xs, H l = none → DaAll K G xs ds → Q (.ref l) (upd H l (.lst xs))
def OpV (X : Cx) (f : Value → Value → Sem Value) (d1 d2 d : PyData) : Prop := OpR X f (cOp X.K d1 d2 d)
def OpO (X : Cx) (f : Value → Value → Sem Value) (d1 d2 : PyData) (ds : List PyData) : Prop := OpR X f (cOpO X.K d1 d2 ds)
theorem op_imp {f : Value → Value → Sem Value} {r r' : R2} (h : OpR X f r) (k : ∀ x y H Q, r' x y H Q → r x y H Q) : OpR X f r' := fun pins s σ H x y v u Q I rx ry q => h pins s σ H x y v u Q I rx ry (k x y H Q q)
/-- what a two-place reading asks, from the parts -/
theorem two {ta tb : TE} {K : PySem.W.Frag} (ha : ta = cE K ρ d1 ρ1) (hb : tb = cE K ρ1 d2 ρ2) {r : R2} {σ : L2.St} {H : Hp} {Q : VK} (hr : ∀ x y H2 Q, cOp K d1 d2 d x y H2 Q → r x y H2 Q) (h : cE K ρ d ρ2 σ H Q) : tOp r ta tb σ H Q := by
  subst ha hb
  obtain ⟨F, G, ad, w, k⟩ := h
  refine ⟨F, G, ad, w, fun x H1 G1 ad1 e1 w1 p1 => ⟨F, G1, ad1, w1, fun y H2 G2 ad2 e2 w2 p2 => hr x y H2 Q ⟨G2, w2.gh, da_ex e2.1 p1, p2, fun v H' G' eh eg gh p => ?_⟩⟩⟩
  exact k v H' G' ad2 ((e1.trans e2).trans (eg.weak w2.fh)) (w2.grow eh eg gh) p
theorem e_bin {op : Operator} (ha : E X a ρ d1 ρ1) (hb : E X b ρ1 d2 ρ2) (ho : OpV X (binaryOp op) d1 d2 d) : E X (.BinOp a op b pos) ρ d ρ2 :=
  pe_imp (pe_op ho ha hb) fun σ H Q h => two rfl rfl (fun _ _ _ _ z => z) h
theorem eo_bin {op : Operator} (ha : E X a ρ d1 ρ1) (hb : E X b ρ1 d2 ρ2) (ho : OpO X (binaryOp op) d1 d2 ds) : EO X (.BinOp a op b pos) ρ ds ρ2 :=
  pe_imp (pe_op ho ha hb) fun σ H Q ⟨F, G, ad, w, k⟩ => ⟨F, G, ad, w, fun x H1 G1 ad1 e1 w1 p1 => ⟨F, G1, ad1, w1, fun y H2 G2 ad2 e2 w2 p2 => ⟨G2, w2.gh, da_ex e2.1 p1, p2, fun l xs hl hd => by
    have hg : G2 l = none := w2.gh.none hl
    refine k l xs _ G2 ad2 (e1.trans e2) ⟨w2.gh.mut hg, w2.fh.mut (w2.fh.none hl), w2.own, fun i a q => ?_, w2.dis, w2.len, fun i r q => (w2.hold i r q).grow (Ex.refl _) fun a ha u z => ?_⟩ (w2.fh.none hl) hg (fun j q => ?_) upd_same hd
    · obtain ⟨o, ho⟩ := w2.there i a q
      exact ⟨o, by rw [upd_ne (ne_of_none ho hl)]; exact ho⟩
    · rw [upd_ne (ne_of_none z hl)]; exact z
    · obtain ⟨o, ho⟩ := w2.there j l q
      rw [hl] at ho; cases ho⟩⟩⟩
theorem e_cmp {op : CmpOp} (ha : E X a ρ d1 ρ1) (hb : E X b ρ1 d2 ρ2) (ho : OpV X (compareOp op) d1 d2 d) (hm : behindInMarks op b = false := by first | exact nomark _ | rfl) : E X (.Compare a [op] [b] pos) ρ d ρ2 :=
  pe_imp (pe_cmpR ho ha hb hm) fun σ H Q h => two rfl rfl (fun _ _ _ _ z => z) h
theorem t_cmp {op : CmpOp} {p : Bool} (ha : E X a ρ d1 ρ1) (hb : E X b ρ1 d2 ρ2) (ho : OpV X (compareOp op) d1 d2 (.bool p)) (hm : behindInMarks op b = false := by first | exact nomark _ | rfl) : T X (.Compare a [op] [b] pos) ρ p ρ2 :=
  pt_imp (pt_cmpR ho ha hb hm) fun σ H Q ⟨F, G, ad, w, k⟩ => two rfl rfl (fun _ _ _ _ z => z) (show cE X.K ρ (.bool p) ρ2 σ H _ from ⟨F, G, ad, w, fun v H' G' ad' e w' q => by
    cases q
    exact ⟨p, rfl, k H' G' ad' e w'⟩⟩)
/-- a value that is True or False, as a test -/
theorem t_val {p : Bool} (h : E X e ρ (.bool p) ρ1) (he : ∀ whole, isTrue e X.env whole = (do let v ← whole; standAt e.pos; holding [v] (truthy v)) := by intro _; rfl) : T X e ρ p ρ1 :=
  pt_imp (pt_val h he) fun σ H Q ⟨F, G, ad, w, k⟩ => ⟨F, G, ad, w, fun v H' G' ad' e w' q => by
    cases q
    exact ⟨p, rfl, k H' G' ad' e w'⟩⟩
/-- the truth of data -/
def truD : PyData → Bool
  | .none => false
  | .bool b => b
  | .int i => i != 0
  | .str x => (x.length : Int) != 0
  | .list xs => !xs.isEmpty
  | .tuple xs => !xs.isEmpty
  | .dict xs => !xs.isEmpty
theorem truV_of {K : PySem.W.Frag} {G H : Hp} {v : V} {d : PyData} (h : Da K G v d) (e : Ex G H) (hs : ∀ x, d = .str x → x.length ≤ sizeLine := by intro _ h; cases h) : TruV K v H (truD d) := by
  cases h with
  | non => rfl
  | bl b => rfl
  | int i => rfl
  | str x => exact ⟨hs x rfl, rfl⟩
  | lst h1 h2 =>
    have := daAll_len h2
    refine .inl ⟨_, SqL.of (e _ _ h1), ?_⟩
    show (!_) = (!_)
    congr 1
    cases h2 <;> rfl
  | tup h1 h2 =>
    refine .inr (.inl ⟨_, sqT_ex e h1, ?_⟩)
    show (!_) = (!_)
    congr 1
    cases h2 <;> rfl
  | dct h1 h2 =>
    refine .inr (.inr ⟨_, e _ _ h1, ?_⟩)
    show (!_) = (!_)
    congr 1
    cases h2 <;> rfl
theorem t_tru (h : E X e ρ d ρ1) (he : ∀ whole, isTrue e X.env whole = (do let v ← whole; standAt e.pos; holding [v] (truthy v)) := by intro _; rfl) (hs : ∀ x, d = .str x → x.length ≤ sizeLine := by intro _ h; cases h) : T X e ρ (truD d) ρ1 :=
  pt_imp (pt_truth h he) fun σ H Q ⟨F, G, ad, w, k⟩ => ⟨F, G, ad, w, fun v H' G' ad' e w' q => ⟨_, truV_of q w'.gh hs, k H' G' ad' e w'⟩⟩
end
end DL
end part_DLb
section part_DLfn
/-! Defs whose promise is asked only where no repr is under way (guards = some []): the layer's FnOk with that premise. -/
namespace DL
open L2 PyProof.Rows PySem.Spec PySem
structure FnG (P : Program) (w : World) (K : PySem.W.Frag) (mg : Str → Option Value) (base : Heap) (CX : CXT) (k : Nat) (f : Addr) (fd : FuncData) (ps : List Str) (sp : Sp) : Prop where
  lenG : ∀ vs H Q E, sp vs H Q E → vs.length = ps.length
  runG : ∀ (A : Around) (outer : List Env) (s : Shared) (H : Hp) (args : Args) (us : List Value) (vs : List V) (Q : VK) (E : XK), Room k A → A.guards = some [] → Env0 P w K mg base A outer s H → BindsTo s fd args (ps.zip us) → Vals vs us → sp vs H Q E → codeAny (model P w) A (.call (.ref f) args) (CR CX outer P w H s Q E) s
section
variable {P : Program} {w : World} {K : PySem.W.Frag} {mg : Str → Option Value} {base : Heap} {CX : CXT} {k : Nat} {f : Addr} {fd : FuncData} {ps N : List Str} {sp : Sp}
theorem FnG.mono {j : Nat} (F : FnG P w K mg base CX j f fd ps sp) (h : j ≤ k) : FnG P w K mg base CX k f fd ps sp := ⟨F.lenG, fun A outer s H args us vs Q E hr => F.runG A outer s H args us vs Q E (hr.mono h)⟩
theorem FnG.imp {sp2 : Sp} (F : FnG P w K mg base CX k f fd ps sp) (h : ∀ vs H Q E, sp2 vs H Q E → sp vs H Q E) : FnG P w K mg base CX k f fd ps sp2 := ⟨fun vs H Q E q => F.lenG vs H Q E (h _ _ _ _ q), fun A outer s H args us vs Q E r g e b v q => F.runG A outer s H args us vs Q E r g e b v (h _ _ _ _ q)⟩
/-- a body that keeps its promise -/
theorem fnG_of {x qual : Str} {params : Arguments} {body : List Stmt} {scope : Scope} {dvs : List V} {kws : List (Str × V)} (F : FunD K x qual params body scope dvs kws f fd) (S : FnScope N ps scope) (len : ∀ vs H Q E, sp vs H Q E → vs.length = ps.length)
    (hbody : ∀ (cdv : Value) (A : Around) (outer : List Env) (s : Shared) (H : Hp) (vs : List V) (Q : VK) (E : XK), Room k (A.deeper (envOfC qual scope s.heap.objs.size f cdv)) → A.guards = some [] → sp vs H Q E →
      ∃ t, PSs (cxOf CX P w K mg base N qual scope f cdv A outer s H E) body t ∧ t { nx := fun _ H' => Q .non H', rt := Q } (L2.start N vs) H) : FnG P w K mg base CX (k + 1) f fd ps sp := by
  obtain ⟨oc, od, dV, kV, doc, pm, an, cdv, ct, osl, rfl, lk, hcd, hdf, hkw⟩ := F.ex
  refine ⟨len, fun A outer s H args us vs Q E hr hgd e0 hb rv hsp => ?_⟩
  have KX : K.In s.heap := e0.mod.kin.keeps (fun b o e => (e0.bs b o e).1)
  have lim := e0.mod.nolimit.keeps (h' := s.heap) (fun b o e => (e0.bs b o e).1)
  refine codeAny_call_function (hr.depth) (KX _ _ lk) rfl S.co S.gen rfl (PySem.W.codeRec_of KX hcd) (hb _ _ _ _ (wpAny_newFunctionEnv_cells S.kind (fun ⟨n, v⟩ hy => ?_) fun env he s1 ic => ?_))
  · rcases S.par n (List.of_mem_zip hy).1 with q | q
    · left; exact q
    · right; exact ⟨q, PySem.W.cellsFrom_some _ _ _ (.inl q)⟩
  · subst he
    obtain ⟨t, ht, hq⟩ := hbody cdv A outer s H vs Q E (hr.deeper _) hgd hsp
    have I0 : Inv (cxOf CX P w K mg base N qual scope f cdv A outer s H E) [] (L2.start N vs) H s1 := inv_start S hr.hd e0 (len _ _ _ _ hsp) rv ic
    have out : ∀ {s' : Shared} {σ' : L2.St} {H' : Hp} {v : V} {u : Value}, Inv (cxOf CX P w K mg base N qual scope f cdv A outer s H E) [] σ' H' s' → RelV v u → Q v H' → CE outer P w H s Q u s' := fun {s' σ' H' v u} J r q => ⟨v, H', J.os, J.bare, J.base, J.hok, r, q⟩
    refine ⟨lim.keeps ic.toInCall.keep, codeAny_func (wpAny_mono (ht.run [] s1 (L2.start N vs) H _ I0 hq) (fun fl s' z => ?_) fun e s' z => z)⟩
    match fl, z with
    | .ret u, ⟨v, σ', H', J, r, q⟩ => exact out J r q
    | .next, ⟨σ', H', J, q⟩ => exact out (v := .non) (u := .none) J rfl q
    | .brk, ⟨_, _, _, q⟩ => exact q.elim
    | .cont, ⟨_, _, _, q⟩ => exact q.elim
end
section
variable {X : Cx} {CX : CXT} {k : Nat} {f : Addr} {fd : FuncData} {ps : List Str} {sp : Sp} {dvs : List V} {ds : List Value} {E : XK} {x : Str} {p pos : Pos} {e : Expr} {es : List Expr} {t : TA}
theorem runG {pins : List (Addr × Obj)} {σ : L2.St} {H : Hp} {s : Shared} {Q : VK} {us : List Value} {vs : List V} (F : FnG X.prog X.w X.K X.mg X.base CX k f fd ps sp) (hr : Room k X.A) (hgd : X.A.guards = some []) (hb : Binds X.K fd ps ds) (hd : Vals dvs ds) (hx : Passes CX X E)
    (I : Inv X pins σ H s) (r : Vals vs us) (h : sp (vs ++ dvs) H Q E) : wpAny (model X.prog X.w) X.A (call (.ref f) us) (EP X pins σ Q) X.xe s := by
  have r2 := r.append hd
  have hl : (us ++ ds).length = ps.length := r2.length.symm.trans (F.lenG _ _ _ _ h)
  refine wpAny_call (codeAny_mono (F.runG X.A X.stack s H ⟨us, []⟩ _ _ Q E hr hgd I.env0 (hb s us I.kIn hl) r2 h) fun res s' z => ?_)
  match res, z with
  | .error e, z => exact hx pins σ H s e s' I z
  | .ok (.ret u), z => exact I.after z
  | .ok .next, z => exact z.elim
  | .ok .brk, z => exact z.elim
  | .ok .cont, z => exact z.elim
/-- f(e, ..) -/
theorem pe_callG (F : FnG X.prog X.w X.K X.mg X.base CX k f fd ps sp) (hr : Room k X.A) (hgd : X.A.guards = some []) (hg : Gl X x) (hm : X.mg x = some (.ref f)) (hk : PySem.W.keepIn X.K (.ref f) = true) (hb : Binds X.K fd ps ds) (hd : Vals dvs ds) (hx : Passes CX X E)
    (ha : PA X (e :: es) t) (hdb : (x == ("__debug__" : Str)) = false := by decide) (he : starEach (e :: es) X.env = (false, eval e X.env) :: starEach es X.env := by rfl) (hpl : (backTo pos (starEach es X.env)).any (·.1) = false := by rfl) : PE X (.Call (.Name x p) (e :: es) [] pos) (tCall sp dvs E t) :=
  ⟨fun pins s σ H Q I h => wpAny_Call_Name_kw (ld_glob I hg hm (PySem.W.callWith_K (h₀ := X.base) I.ok.mod.kin hk (thn (ha.run pos pins s σ H _ I h) fun us s1 ⟨vs, H1, I1, r, q⟩ => ⟨I1.kIn, runG F hr hgd hb hd hx I1 r q⟩) he hpl) hdb)⟩
/-- f() -/
theorem pe_callG0 (F : FnG X.prog X.w X.K X.mg X.base CX k f fd ps sp) (hr : Room k X.A) (hgd : X.A.guards = some []) (hg : Gl X x) (hm : X.mg x = some (.ref f)) (hk : PySem.W.keepIn X.K (.ref f) = true) (hb : Binds X.K fd ps ds) (hd : Vals dvs ds) (hx : Passes CX X E)
    (hdb : (x == ("__debug__" : Str)) = false := by decide) : PE X (.Call (.Name x p) [] [] pos) (tCall sp dvs E tNil) :=
  ⟨fun pins s σ H Q I h => wpAny_Call_Name_kw (ld_glob I hg hm (PySem.W.callWith_K0 I.kIn hk (runG (us := []) F hr hgd hb hd hx I .nil h)) hdb)⟩
end
end DL
end part_DLfn
section part_DLc
namespace DL
open L2 PyProof.Rows PySem.Spec PySem
section
variable {X : Cx} {e a b c : Expr} {rest : List Expr} {ρ ρ0 ρ1 ρ2 ρ3 : List Sl} {d d1 d2 d3 : PyData} {ds es : List PyData} {x : Str} {pos : Pos} {p q : Bool}
/-! ### tests -/
theorem t_not (h : T X a ρ p ρ1) : T X (.UnaryOp .Not a pos) ρ (!p) ρ1 := pt_imp (pt_not h) fun σ H Q ⟨F, G, ad, w, k⟩ => ⟨F, G, ad, w, fun H' G' ad' e w' => k H' G' ad' e w'⟩
def TW (X : Cx) (e : Expr) (ρ : List Sl) (b : Bool) (ρ' : List Sl) : Prop := PW X e (cT X.K ρ b ρ')
theorem tw_and1 (h : T X a ρ p ρ1) : TW X (.BoolOp .And [a] pos) ρ p ρ1 := pw_and1 h
theorem tw_or1 (h : T X a ρ p ρ1) : TW X (.BoolOp .Or [a] pos) ρ p ρ1 := pw_or1 h
/-- any reading that holds -/
def anyT (X : Cx) (e : Expr) : TT := fun σ H Q => ∃ ρ b ρ', T X e ρ b ρ' ∧ cT X.K ρ b ρ' σ H Q
theorem anyT_ok : PT X e (anyT X e) := ⟨fun pins s σ H Q I ⟨ρ, b, ρ', h, k⟩ => h.run pins s σ H Q I k⟩
def anyW (X : Cx) (e : Expr) : TT := fun σ H Q => ∃ ρ b ρ', TW X e ρ b ρ' ∧ cT X.K ρ b ρ' σ H Q
theorem anyW_ok : PW X e (anyW X e) := ⟨fun wh pins s σ H Q I ⟨ρ, b, ρ', h, k⟩ => h.run wh pins s σ H Q I k⟩
def anyE (X : Cx) (e : Expr) : TE := fun σ H Q => ∃ ρ d ρ', E X e ρ d ρ' ∧ cE X.K ρ d ρ' σ H Q
theorem anyE_ok : PE X e (anyE X e) := ⟨fun pins s σ H Q I ⟨ρ, b, ρ', h, k⟩ => h.run pins s σ H Q I k⟩
theorem tw_and (ha : T X a ρ p ρ1) (hb : p = true → TW X (.BoolOp .And (b :: rest) pos) ρ1 q ρ2) (h0 : p = false → ρ2 = ρ1) : TW X (.BoolOp .And (a :: b :: rest) pos) ρ (p && q) ρ2 :=
  pw_imp (pw_and ha anyW_ok) fun σ H Q ⟨F, G, ad, w, k⟩ => ⟨F, G, ad, w, fun H1 G1 ad1 e1 w1 => by
    cases p with
    | true => exact ⟨ρ1, q, ρ2, hb rfl, F, G1, ad1, w1, fun H2 G2 ad2 e2 w2 => k H2 G2 ad2 (e1.trans e2) w2⟩
    | false =>
      have e := h0 rfl
      subst e
      exact k H1 G1 ad1 e1 w1⟩
theorem tw_or (ha : T X a ρ p ρ1) (hb : p = false → TW X (.BoolOp .Or (b :: rest) pos) ρ1 q ρ2) (h0 : p = true → ρ2 = ρ1) : TW X (.BoolOp .Or (a :: b :: rest) pos) ρ (p || q) ρ2 :=
  pw_imp (pw_or ha anyW_ok) fun σ H Q ⟨F, G, ad, w, k⟩ => ⟨F, G, ad, w, fun H1 G1 ad1 e1 w1 => by
    cases p with
    | false => exact ⟨ρ1, q, ρ2, hb rfl, F, G1, ad1, w1, fun H2 G2 ad2 e2 w2 => k H2 G2 ad2 (e1.trans e2) w2⟩
    | true =>
      have e := h0 rfl
      subst e
      exact k H1 G1 ad1 e1 w1⟩
theorem t_w (h : TW X e ρ p ρ1) : T X e ρ p ρ1 := PW.pt h
/-- .. as values -/
theorem e_one {op} (h : E X a ρ d ρ1) : E X (.BoolOp op [a] pos) ρ d ρ1 := pe_one h
theorem e_and (ha : E X a ρ (.bool p) ρ1) (hb : p = true → E X (.BoolOp .And (b :: rest) pos) ρ1 d ρ2) (h0 : p = false → d = .bool false ∧ ρ2 = ρ1) : E X (.BoolOp .And (a :: b :: rest) pos) ρ d ρ2 :=
  pe_imp (pe_and ha anyE_ok) fun σ H Q ⟨F, G, ad, w, k⟩ => ⟨F, G, ad, w, fun v H1 G1 ad1 e1 w1 pv => by
    cases pv
    refine ⟨p, rfl, ?_⟩
    cases p with
    | true => exact ⟨ρ1, d, ρ2, hb rfl, F, G1, ad1, w1, fun v H2 G2 ad2 e2 w2 p2 => k v H2 G2 ad2 (e1.trans e2) w2 p2⟩
    | false =>
      obtain ⟨e, f⟩ := h0 rfl
      subst e f
      exact k _ H1 G1 ad1 e1 w1 (.bl false)⟩
theorem e_or (ha : E X a ρ (.bool p) ρ1) (hb : p = false → E X (.BoolOp .Or (b :: rest) pos) ρ1 d ρ2) (h0 : p = true → d = .bool true ∧ ρ2 = ρ1) : E X (.BoolOp .Or (a :: b :: rest) pos) ρ d ρ2 :=
  pe_imp (pe_or ha anyE_ok) fun σ H Q ⟨F, G, ad, w, k⟩ => ⟨F, G, ad, w, fun v H1 G1 ad1 e1 w1 pv => by
    cases pv
    refine ⟨p, rfl, ?_⟩
    cases p with
    | false => exact ⟨ρ1, d, ρ2, hb rfl, F, G1, ad1, w1, fun v H2 G2 ad2 e2 w2 p2 => k v H2 G2 ad2 (e1.trans e2) w2 p2⟩
    | true =>
      obtain ⟨e, f⟩ := h0 rfl
      subst e f
      exact k _ H1 G1 ad1 e1 w1 (.bl true)⟩
theorem e_not (h : E X a ρ (.bool p) ρ1) : E X (.UnaryOp .Not a pos) ρ (.bool (!p)) ρ1 := pe_imp (pe_not h) fun σ H Q ⟨F, G, ad, w, k⟩ => ⟨F, G, ad, w, fun v H' G' ad' e w' pv => by
  cases pv
  exact ⟨p, rfl, k _ H' G' ad' e w' (.bl _)⟩⟩
theorem e_if (hc : T X c ρ p ρ1) (ha : p = true → E X a ρ1 d ρ2) (hb : p = false → E X b ρ1 d ρ2) : E X (.IfExp c a b pos) ρ d ρ2 :=
  pe_imp (pe_ifExp hc anyE_ok anyE_ok) fun σ H Q ⟨F, G, ad, w, k⟩ => ⟨F, G, ad, w, fun H1 G1 ad1 e1 w1 => by
    cases p with
    | true => exact ⟨ρ1, d, ρ2, ha rfl, F, G1, ad1, w1, fun v H2 G2 ad2 e2 w2 p2 => k v H2 G2 ad2 (e1.trans e2) w2 p2⟩
    | false => exact ⟨ρ1, d, ρ2, hb rfl, F, G1, ad1, w1, fun v H2 G2 ad2 e2 w2 p2 => k v H2 G2 ad2 (e1.trans e2) w2 p2⟩⟩
/-! ### arguments, displays -/
theorem ea_nil : EA X [] ρ [] ρ := pa_imp pa_nil fun σ H Q ⟨F, G, ad, w, k⟩ => k [] H G ad (Ext.refl F G) w .nil
theorem ea_cons (ha : E X e ρ d ρ1) (hr : EA X rest ρ1 ds ρ2) (hs : starEach (e :: rest) X.env = (false, eval e X.env) :: starEach rest X.env := by rfl) : EA X (e :: rest) ρ (d :: ds) ρ2 :=
  pa_imp (pa_cons ha hr hs) fun σ H Q ⟨F, G, ad, w, k⟩ => ⟨F, G, ad, w, fun v H1 G1 ad1 e1 w1 p1 => ⟨F, G1, ad1, w1, fun vs H2 G2 ad2 e2 w2 p2 => k (v :: vs) H2 G2 ad2 (e1.trans e2) w2 (.cons (da_ex e2.1 p1) p2)⟩⟩
theorem sizeLine_big : 1000000 ≤ sizeLine := by rw [sizeLine_eq]; decide
theorem e_tup {k : Nat} (h : EA X rest ρ ds ρ1) (hz : ds.length ≤ 1000000 := by exact Nat.le_of_ble_eq_true rfl) : E X (.Tuple rest k pos) ρ (.tuple ds) ρ1 :=
  pe_imp (pe_tup h) fun σ H Q ⟨F, G, ad, w, k⟩ => ⟨F, G, ad, w, fun vs H1 G1 ad1 e1 w1 p1 => ⟨by rw [daAll_len p1]; exact Nat.le_trans hz sizeLine_big, fun l hl => by
    have hg := w1.gh.none hl
    exact k (.ref l) _ (upd G1 l (.tup vs)) ad1 (e1.trans (Ext.new (w1.fh.none hl) hg)) (w1.grow (Ex.new hl) (Ext.new hl hg) w1.gh.both) (.tup (SqT.of upd_same) (daAll_ex (Ex.new hg) p1))⟩⟩
theorem eo_lst (h : EA X rest ρ ds ρ1) (hz : ds.length ≤ 1000000 := by exact Nat.le_of_ble_eq_true rfl) : EO X (.List rest pos) ρ ds ρ1 :=
  pe_imp (pe_lst h) fun σ H Q ⟨F, G, ad, w, k⟩ => ⟨F, G, ad, w, fun vs H1 G1 ad1 e1 w1 p1 => ⟨by rw [daAll_len p1]; exact Nat.le_trans hz sizeLine_big, fun l hl => by
    have hg := w1.gh.none hl
    refine k l vs _ G1 ad1 e1 (w1.grow (Ex.new hl) (Ext.refl _ _) (w1.gh.mut hg)) (w1.fh.none hl) hg (fun j q => ?_) upd_same p1
    obtain ⟨o, ho⟩ := w1.there j l q
    rw [hl] at ho; cases ho⟩⟩

/-! ### calls by values -/
def cC (K : PySem.W.Frag) (ds : List PyData) (d : PyData) : List V → Hp → VK → Prop := fun vs H Q => ∃ G, Ex G H ∧ DaAll K G vs ds ∧ ∀ v H' G', Ex H H' → Ext H G G' → Ex G' H' → Da K G' v d → Q v H'
def cCO (K : PySem.W.Frag) (ds : List PyData) (es : List PyData) : List V → Hp → VK → Prop := fun vs H Q => ∃ G, Ex G H ∧ DaAll K G vs ds ∧
  ∀ l xs H' G', Ex H H' → Ext H G G' → Ex G' H' → H l = none → G' l = none → H' l = some (.lst xs) → DaAll K G' xs es → Q (.ref l) H'
def CV (X : Cx) (f : Value) (ds : List PyData) (d : PyData) : Prop := CallR X f (cC X.K ds d)
def CO (X : Cx) (f : Value) (ds es : List PyData) : Prop := CallR X f (cCO X.K ds es)
theorem call_imp {f : Value} {r r' : List V → Hp → VK → Prop} (h : CallR X f r) (k : ∀ vs H Q, r' vs H Q → r vs H Q) : CallR X f r' := fun pins s σ H vs us Q I rx q => h pins s σ H vs us Q I rx (k vs H Q q)
theorem callD {K : PySem.W.Frag} {σ : L2.St} {H : Hp} {Q : VK} (h : cE K ρ d ρ1 σ H Q) : cA K ρ ds ρ1 σ H fun vs H1 => (∃ F G ad, Sta K F G H1 σ ρ1 ad) → cC K ds d vs H1 Q := by
  obtain ⟨F, G, ad, w, k⟩ := h
  exact ⟨F, G, ad, w, fun vs H1 G1 ad1 e1 w1 p1 _ => ⟨G1, w1.gh, p1, fun v H' G' eh eg gh p => k v H' G' ad1 (e1.trans (eg.weak w1.fh)) (w1.grow eh eg gh) p⟩⟩
theorem callD' {K : PySem.W.Frag} {σ : L2.St} {H : Hp} {Q : VK} (h : cE K ρ d ρ1 σ H Q) : cA K ρ ds ρ1 σ H fun vs H1 => cC K ds d vs H1 Q := by
  obtain ⟨F, G, ad, w, k⟩ := h
  exact ⟨F, G, ad, w, fun vs H1 G1 ad1 e1 w1 p1 => ⟨G1, w1.gh, p1, fun v H' G' eh eg gh p => k v H' G' ad1 (e1.trans (eg.weak w1.fh)) (w1.grow eh eg gh) p⟩⟩
theorem callO' {K : PySem.W.Frag} {σ : L2.St} {H : Hp} {Q : VK} (h : cO K ρ es ρ1 σ H Q) : cA K ρ ds ρ1 σ H fun vs H1 => cCO K ds es vs H1 Q := by
  obtain ⟨F, G, ad, w, k⟩ := h
  refine ⟨F, G, ad, w, fun vs H1 G1 ad1 e1 w1 p1 => ⟨G1, w1.gh, p1, fun l xs H' G' eh eg gh hl hg' hl' hd => ?_⟩⟩
  refine k l xs H' G' ad1 (e1.trans (eg.weak w1.fh)) (w1.grow eh eg gh) (w1.fh.none hl) hg' (fun j q => ?_) hl' hd
  obtain ⟨o, ho⟩ := w1.there j l q
  rw [hl] at ho; cases ho
theorem e_callB {id : String} {pn : Pos} (h : EA X (e :: rest) ρ ds ρ1) (hc : CV X (.builtin id) ds d) (hm : X.mg x = none) (hg : Gl X x := by rfl) (hv : bootBuiltins x = some (.builtin id) := by decide +kernel) (hn : x ≠ "__name__" := by decide) (hdb : (x == ("__debug__" : Str)) = false := by decide)
    (he : starEach (e :: rest) X.env = (false, eval e X.env) :: starEach rest X.env := by rfl) (hpl : (backTo pos (starEach rest X.env)).any (·.1) = false := by rfl) : E X (.Call (.Name x pn) (e :: rest) [] pos) ρ d ρ1 :=
  pe_imp (pe_callB hc hg hm hv h hn hdb he hpl) fun σ H Q h => callD' h
theorem e_callTy {id : String} {pn : Pos} (h : EA X (e :: rest) ρ ds ρ1) (hc : CV X (.type id) ds d) (hm : X.mg x = none) (hg : Gl X x := by rfl) (hv : bootBuiltins x = some (.type id) := by decide +kernel) (hn : x ≠ "__name__" := by decide) (hdb : (x == ("__debug__" : Str)) = false := by decide)
    (he : starEach (e :: rest) X.env = (false, eval e X.env) :: starEach rest X.env := by rfl) (hpl : (backTo pos (starEach rest X.env)).any (·.1) = false := by rfl) : E X (.Call (.Name x pn) (e :: rest) [] pos) ρ d ρ1 :=
  pe_imp (pe_callTy hc hg hm hv h hn hdb he hpl) fun σ H Q h => callD' h
theorem eo_callTy {id : String} {pn : Pos} (h : EA X (e :: rest) ρ ds ρ1) (hc : CO X (.type id) ds es) (hm : X.mg x = none) (hg : Gl X x := by rfl) (hv : bootBuiltins x = some (.type id) := by decide +kernel) (hn : x ≠ "__name__" := by decide) (hdb : (x == ("__debug__" : Str)) = false := by decide)
    (he : starEach (e :: rest) X.env = (false, eval e X.env) :: starEach rest X.env := by rfl) (hpl : (backTo pos (starEach rest X.env)).any (·.1) = false := by rfl) : EO X (.Call (.Name x pn) (e :: rest) [] pos) ρ es ρ1 :=
  pe_imp (pe_callTy hc hg hm hv h hn hdb he hpl) fun σ H Q h => callO' h
/-- a built-in that the module has imported by this name (gcd) -/
theorem e_callF {id : String} {pn : Pos} (h : EA X (e :: rest) ρ ds ρ1) (hc : CV X (.builtin id) ds d) (hm : X.mg x = some (.builtin id)) (hg : Gl X x := by rfl) (hdb : (x == ("__debug__" : Str)) = false := by decide)
    (he : starEach (e :: rest) X.env = (false, eval e X.env) :: starEach rest X.env := by rfl) (hpl : (backTo pos (starEach rest X.env)).any (·.1) = false := by rfl) : E X (.Call (.Name x pn) (e :: rest) [] pos) ρ d ρ1 :=
  pe_imp (pe_callBfun hc hg hm h hdb he hpl) fun σ H Q h => callD' h

/-! ### own defs -/
/-- the promise of a def that works on data alone -/
def spP (K : PySem.W.Frag) (R : List PyData → PyData → Prop) : Sp := fun vs H Q _ => ∃ ds d, R ds d ∧ cC K ds d vs H Q
/-- .. whose first argument is the source -/
def spS (K : PySem.W.Frag) (R : Src → List PyData → Src → PyData → Prop) : Sp := fun vs H Q _ => ∃ F G s l t vs' ds t' d, vs = .ref s :: vs' ∧ SrcAt H s l t ∧ (F s = none ∧ F l = none ∧ G s = none ∧ G l = none) ∧ Ex F H ∧ Ex G H ∧ DaAll K G vs' ds ∧ R t ds t' d ∧
  ∀ v H' G', Ext F G G' → Ex F H' → Ex G' H' → SrcAt H' s l t' → G' s = none → G' l = none → Da K G' v d → Q v H'
/-- the def that the module's name x stands for keeps sp -/
structure Known (P : Program) (w : World) (K : PySem.W.Frag) (mg : Str → Option Value) (base : Heap) (A : Around) (x : Str) (sp : Sp) : Prop where
  ex : ∃ (k : Nat) (f : Addr) (fd : FuncData) (ps : List Str), FnG P w K mg base L2.CX0 k f fd ps sp ∧ (Room k A ∧ A.guards = some []) ∧ mg x = some (.ref f) ∧ PySem.W.keepIn K (.ref f) = true ∧ Binds K fd ps []
abbrev Kn (X : Cx) (x : Str) (sp : Sp) : Prop := Known X.prog X.w X.K X.mg X.base X.A x sp
theorem e_call {R : List PyData → PyData → Prop} {pn : Pos} (f : Kn X x (spP X.K R)) (h : EA X (e :: rest) ρ ds ρ1) (hR : R ds d) (hg : Gl X x := by rfl) 
    (hdb : (x == ("__debug__" : Str)) = false := by decide) (he : starEach (e :: rest) X.env = (false, eval e X.env) :: starEach rest X.env := by rfl) (hpl : (backTo pos (starEach rest X.env)).any (·.1) = false := by rfl) : E X (.Call (.Name x pn) (e :: rest) [] pos) ρ d ρ1 := by
  obtain ⟨k, f, fd, ps, F, ⟨hr, hgd⟩, hm, hk, hb⟩ := f.ex
  refine pe_imp (pe_callG F hr hgd hg hm hk hb .nil pass0 h hdb he hpl) fun σ H Q h => ?_
  obtain ⟨F, G, ad, w, k⟩ := callD' (ds := ds) h
  exact ⟨F, G, ad, w, fun vs H1 G1 ad1 e1 w1 p1 => ⟨ds, d, hR, by rw [List.append_nil]; exact k vs H1 G1 ad1 e1 w1 p1⟩⟩
end
end DL
end part_DLc
section part_DLd
namespace DL
open L2 PyProof.Rows PySem.Spec PySem
section
variable {X : Cx} {e a b c : Expr} {rest : List Expr} {ρ ρ0 ρ1 ρ2 ρ3 : List Sl} {d d1 d2 d3 : PyData} {ds es : List PyData} {x : Str} {pos : Pos} {p q : Bool}
/-! ### the source handed on -/
def hide2 (s l : Addr) (H : Hp) : Hp := fun a => if a = s ∨ a = l then none else H a
theorem hide2_ne {s l a : Addr} {H : Hp} (h1 : a ≠ s) (h2 : a ≠ l) : hide2 s l H a = H a := by
  unfold hide2
  rw [if_neg (fun q => q.elim h1 h2)]
theorem hide2_s {s l : Addr} {H : Hp} : hide2 s l H s = none := by
  unfold hide2
  rw [if_pos (.inl rfl)]
theorem hide2_l {s l : Addr} {H : Hp} : hide2 s l H l = none := by
  unfold hide2
  rw [if_pos (.inr rfl)]
theorem hide2_ex {s l : Addr} {H : Hp} : Ex (hide2 s l H) H := fun a o h => by
  unfold hide2 at h
  split at h
  · cases h
  · exact h
theorem hide2_of {s l a : Addr} {H : Hp} {o : HO} (h : hide2 s l H a = some o) : a ≠ s ∧ a ≠ l := by
  refine ⟨fun e => ?_, fun e => ?_⟩
  · rw [e, hide2_s] at h; cases h
  · rw [e, hide2_l] at h; cases h
theorem Sta.src {K : PySem.W.Frag} {F G H H' G' : Hp} {σ : L2.St} {ad : Nat → List Addr} {i : Nat} {s l : Addr} {t t' : Src} (w : Sta K F G H σ ρ ad) (h : ρ[i]? = some (.src s l t)) (e1 : Ext (hide2 s l H) G G') (e2 : Ex (hide2 s l H) H') (e3 : Ex G' H') (hs : SrcAt H' s l t') (gs : G' s = none) (gl : G' l = none) :
    Ext F G G' ∧ Sta K F G' H' σ (ρ.set i (.src s l t')) ad := by
  obtain ⟨h1, h2, h3, h4⟩ := w.hold i _ h
  have fs := w.own i s h2
  have fl := w.own i l h3
  refine ⟨⟨e1.1, fun a o q n => ?_⟩, ⟨e3, fun a o q => ?_, fun j a q => ?_, fun j a q => ?_, w.dis, by rw [List.length_set]; exact w.len, fun j r q => ?_⟩⟩
  · by_cases z1 : a = s
    · rw [z1, gs] at q; cases q
    · by_cases z2 : a = l
      · rw [z2, gl] at q; cases q
      · have z := e1.2 a o q n
        rw [hide2_ne z1 z2] at z
        exact w.fh.none z
  · have z1 : a ≠ s := fun z => by rw [z, fs.2] at q; cases q
    have z2 : a ≠ l := fun z => by rw [z, fl.2] at q; cases q
    exact e2 a o (by rw [hide2_ne z1 z2]; exact w.fh a o q)
  · refine ⟨?_, (w.own j a q).2⟩
    by_cases z1 : a = s
    · rw [z1]; exact gs
    · by_cases z2 : a = l
      · rw [z2]; exact gl
      · obtain ⟨o, ho⟩ := w.there j a q
        exact e1.none (a := a) (o := o) (by rw [hide2_ne z1 z2]; exact ho) (w.own j a q).1
  · by_cases z1 : a = s
    · rw [z1]; exact ⟨_, hs.d⟩
    · by_cases z2 : a = l
      · rw [z2]; exact ⟨_, hs.c⟩
      · obtain ⟨o, ho⟩ := w.there j a q
        exact ⟨o, e2 a o (by rw [hide2_ne z1 z2]; exact ho)⟩
  · by_cases z : j = i
    · subst z
      rw [List.getElem?_set_self (List.getElem?_eq_some_iff.mp h).1] at q
      cases q
      exact ⟨h1, h2, h3, hs⟩
    · rw [List.getElem?_set_ne (Ne.symm z)] at q
      refine (w.hold j r q).grow e1.1 fun a ha u hu => e2 a u ?_
      rw [hide2_ne (fun y => z (w.dis j i a ha (by rw [y]; exact h2))) (fun y => z (w.dis j i a ha (by rw [y]; exact h3)))]
      exact hu
/-- f(source, ..) -/
theorem e_callS {R : Src → List PyData → Src → PyData → Prop} {pn p0 : Pos} {y : Str} {s l s0 l0 : Addr} {t0 t t' : Src} (i : Nat) (f : Kn X x (spS X.K R)) (h : EA X rest ρ ds ρ1) (hR : R t ds t' d) (h0 : ρ[i]? = some (.src s0 l0 t0) := by rfl) (h1 : ρ1[i]? = some (.src s l t) := by rfl) (hg : Gl X x := by rfl)
    (hN : X.N[i]? = some y := by rfl) (hv : Vis X.env.scope y := by first | exact Or.inl rfl | exact Or.inr (Or.inl rfl) | exact Or.inr (Or.inr rfl)) (hd : (y == ("__debug__" : Str)) = false := by decide) (hcd : (y == ("__classdict__" : Str)) = false := by decide)
    (hdb : (x == ("__debug__" : Str)) = false := by decide) (he : starEach (.Name y p0 :: rest) X.env = (false, eval (.Name y p0) X.env) :: starEach rest X.env := by rfl) (hpl : (backTo pos (starEach rest X.env)).any (·.1) = false := by rfl) :
    E X (.Call (.Name x pn) (.Name y p0 :: rest) [] pos) ρ d (ρ1.set i (.src s l t')) := by
  obtain ⟨k, f, fd, ps, F, ⟨hr, hgd⟩, hm, hk, hb⟩ := f.ex
  refine pe_imp (pe_callG F hr hgd hg hm hk hb .nil pass0 (pa_cons (pe_var hN hv hd hcd) h he) hdb he hpl) fun σ H Q ⟨F, G, ad, w, k⟩ => ?_
  obtain ⟨h2, _⟩ := w.hold i _ h0
  refine ⟨_, h2, F, G, ad, w, fun vs H1 G1 ad1 e1 w1 p1 => ?_⟩
  obtain ⟨g1, g2, g3, g4⟩ := w1.hold i _ h1
  have es : s0 = s := by
    rw [h2] at g1
    cases g1
    rfl
  subst es
  refine ⟨hide2 s0 l H1, G1, s0, l, t, vs, ds, t', d, by rw [List.append_nil], g4, ⟨hide2_s, hide2_l, (w1.own i s0 g2).1, (w1.own i l g3).1⟩, hide2_ex, w1.gh, p1, hR, fun v H' G' x1 x2 x3 x4 x5 x6 x7 => ?_⟩
  obtain ⟨y1, y2⟩ := w1.src h1 x1 x2 x3 x4 x5 x6
  exact k v H' G' ad1 (e1.trans y1) y2 x7

/-! ### statements -/
inductive Out where
  | nx (ρ : List Sl)
  | rt (d : PyData) (ρ : List Sl)
  | ct (ρ : List Sl)
  | bk (ρ : List Sl)
def Out.met (K : PySem.W.Frag) (D : Ends) (F G' H' : Hp) (σ' : L2.St) (ad' : Nat → List Addr) : Out → Prop
  | .nx ρ' => Sta K F G' H' σ' ρ' ad' → D.nx σ' H'
  | .rt d ρ' => Sta K F G' H' σ' ρ' ad' → ∀ v, Da K G' v d → D.rt v H'
  | .ct ρ' => Sta K F G' H' σ' ρ' ad' → D.ct σ' H'
  | .bk ρ' => Sta K F G' H' σ' ρ' ad' → D.bk σ' H'
/-- the source's slot keeps its address -/
def Keeps (σ σ' : L2.St) (ρ : List Sl) : Prop := True
def cS (K : PySem.W.Frag) (ρ : List Sl) (o : Out) : TS := fun D σ H => ∃ F G ad, Sta K F G H σ ρ ad ∧ ∀ σ' H' G' ad', Ext F G G' → o.met K D F G' H' σ' ad'
def S1 (X : Cx) (st : Stmt) (ρ : List Sl) (o : Out) : Prop := PS X st (cS X.K ρ o)
def S (X : Cx) (st : List Stmt) (ρ : List Sl) (o : Out) : Prop := PSs X st (cS X.K ρ o)
theorem ps_imp {st : Stmt} {t t' : TS} (h : PS X st t) (k : ∀ D σ H, t' D σ H → t D σ H) : PS X st t' := ⟨fun pins s σ H D I q => h.run pins s σ H D I (k D σ H q)⟩
theorem pss_imp {st : List Stmt} {t t' : TS} (h : PSs X st t) (k : ∀ D σ H, t' D σ H → t D σ H) : PSs X st t' := ⟨fun pins s σ H D I q => h.run pins s σ H D I (k D σ H q)⟩
def anyS (X : Cx) (st : List Stmt) : TS := fun D σ H => ∃ ρ o, S X st ρ o ∧ cS X.K ρ o D σ H
theorem anyS_ok {st : List Stmt} : PSs X st (anyS X st) := ⟨fun pins s σ H D I ⟨ρ, o, h, k⟩ => h.run pins s σ H D I k⟩
def anyS1 (X : Cx) (st : Stmt) : TS := fun D σ H => ∃ ρ o, S1 X st ρ o ∧ cS X.K ρ o D σ H
theorem anyS1_ok {st : Stmt} : PS X st (anyS1 X st) := ⟨fun pins s σ H D I ⟨ρ, o, h, k⟩ => h.run pins s σ H D I k⟩
def Out.stops : Out → Prop
  | .nx _ => False
  | _ => True
/-- the ends but for what comes behind -/
theorem Out.met_nx {o : Out} {K : PySem.W.Frag} {D : Ends} {nx : L2.St → Hp → Prop} {F G' H' : Hp} {σ' : L2.St} {ad' : Nat → List Addr} (h : o.stops) (k : o.met K D F G' H' σ' ad') : o.met K { D with nx := nx } F G' H' σ' ad' := by
  cases o with
  | nx => exact h.elim
  | rt => exact k
  | ct => exact k
  | bk => exact k
theorem s_nil (h : Le ρ ρ1) : S X [] ρ (.nx ρ1) := pss_imp pss_nil fun D σ H ⟨F, G, ad, w, k⟩ => k σ H G ad (Ext.refl F G) (w.le h)
theorem s_nil' : S X [] ρ (.nx ρ) := s_nil (Le.refl ρ)
theorem s_cons {st : Stmt} {rs : List Stmt} {o : Out} (h : S1 X st ρ (.nx ρ1)) (hr : S X rs ρ1 o) : S X (st :: rs) ρ o :=
  pss_imp (pss_cons h anyS_ok) fun D σ H ⟨F, G, ad, w, k⟩ => ⟨F, G, ad, w, fun σ1 H1 G1 ad1 e1 w1 => ⟨ρ1, o, hr, F, G1, ad1, w1, fun σ2 H2 G2 ad2 e2 => k σ2 H2 G2 ad2 (e1.trans e2)⟩⟩
theorem s_stop {st : Stmt} {rs : List Stmt} {o : Out} (h : S1 X st ρ o) (ho : o.stops := by trivial) : S X (st :: rs) ρ o :=
  pss_imp (pss_cons h (u := fun _ _ _ => False) ⟨fun _ _ _ _ _ _ z => z.elim⟩) fun D σ H ⟨F, G, ad, w, k⟩ => ⟨F, G, ad, w, fun σ1 H1 G1 ad1 e1 => Out.met_nx ho (k σ1 H1 G1 ad1 e1)⟩
/-- what a block gives, then the rest -/
inductive Then (X : Cx) (A rs : List Stmt) (ρ : List Sl) (o : Out) : Prop
  | go {ρ1 : List Sl} (h : S X A ρ (.nx ρ1)) (hr : S X rs ρ1 o)
  | stop (h : S X A ρ o) (ho : o.stops)
theorem s_if {A B rs : List Stmt} {o : Out} (hc : T X c ρ p ρ1) (ha : p = true → Then X A rs ρ1 o) (hb : p = false → Then X B rs ρ1 o) : S X (.If c A B pos :: rs) ρ o := by
  refine pss_imp (pss_cons (ps_if hc anyS_ok anyS_ok) anyS_ok) fun D σ H ⟨F, G, ad, w, k⟩ => ⟨F, G, ad, w, fun H1 G1 ad1 e1 w1 => ?_⟩
  have go : ∀ {C : List Stmt}, Then X C rs ρ1 o → anyS X C { D with nx := anyS X rs D } σ H1 := fun {C} h => by
    cases h with
    | go h hr => exact ⟨ρ1, _, h, F, G1, ad1, w1, fun σ2 H2 G2 ad2 e2 w2 => ⟨_, o, hr, F, G2, ad2, w2, fun σ3 H3 G3 ad3 e3 => k σ3 H3 G3 ad3 ((e1.trans e2).trans e3)⟩⟩
    | stop h ho => exact ⟨ρ1, o, h, F, G1, ad1, w1, fun σ2 H2 G2 ad2 e2 => Out.met_nx ho (k σ2 H2 G2 ad2 (e1.trans e2))⟩
  cases p with
  | true => exact go (ha rfl)
  | false => exact go (hb rfl)
theorem s1_if {A B : List Stmt} {o : Out} (hc : T X c ρ p ρ1) (ha : p = true → S X A ρ1 o) (hb : p = false → S X B ρ1 o) : S1 X (.If c A B pos) ρ o := by
  refine ps_imp (ps_if hc anyS_ok anyS_ok) fun D σ H ⟨F, G, ad, w, k⟩ => ⟨F, G, ad, w, fun H1 G1 ad1 e1 w1 => ?_⟩
  cases p with
  | true => exact ⟨ρ1, o, ha rfl, F, G1, ad1, w1, fun σ2 H2 G2 ad2 e2 => k σ2 H2 G2 ad2 (e1.trans e2)⟩
  | false => exact ⟨ρ1, o, hb rfl, F, G1, ad1, w1, fun σ2 H2 G2 ad2 e2 => k σ2 H2 G2 ad2 (e1.trans e2)⟩
theorem Le.trans (h : Le ρ ρ1) (h2 : Le ρ1 ρ2) : Le ρ ρ2 := ⟨h.1.trans h2.1, fun i r q => by
  rcases h2.2 i r q with z | z
  · exact .inl z
  · exact h.2 i r z⟩
/-- forget ahead -/
theorem S.pre {st : List Stmt} {o : Out} (h : S X st ρ1 o) (l : Le ρ ρ1) : S X st ρ o := pss_imp h fun D σ H ⟨F, G, ad, w, k⟩ => ⟨F, G, ad, w.le l, k⟩
theorem S1.pre {st : Stmt} {o : Out} (h : S1 X st ρ1 o) (l : Le ρ ρ1) : S1 X st ρ o := ps_imp h fun D σ H ⟨F, G, ad, w, k⟩ => ⟨F, G, ad, w.le l, k⟩
theorem E.pre (h : E X e ρ1 d ρ2) (l : Le ρ ρ1) : E X e ρ d ρ2 := pe_imp h fun σ H Q ⟨F, G, ad, w, k⟩ => ⟨F, G, ad, w.le l, k⟩
theorem s_ret (h : E X e ρ d ρ1) : S1 X (.Return (some e) pos) ρ (.rt d ρ1) := ps_imp (ps_ret h) fun D σ H ⟨F, G, ad, w, k⟩ => ⟨F, G, ad, w, fun v H' G' ad' e1 w' p => k σ H' G' ad' e1 w' v p⟩
theorem s_ret' (h : E X e ρ d1 ρ1) (q : d1 = d) : S1 X (.Return (some e) pos) ρ (.rt d ρ1) := by subst q; exact s_ret h
theorem le_rep {n : Nat} (h : ρ.length = n) : Le ρ (List.replicate n .un) := ⟨by rw [List.length_replicate]; exact h, fun i r q => by
  rw [List.getElem?_replicate] at q
  split at q
  · cases q
    exact .inl rfl
  · cases q⟩
theorem le_src {n : Nat} {s l : Addr} {t : Src} (h : ρ[0]? = some (.src s l t)) (hn : ρ.length = n + 1) : Le ρ (.src s l t :: List.replicate n .un) := ⟨by rw [List.length_cons, List.length_replicate]; exact hn, fun i r q => by
  cases i with
  | zero =>
    cases q
    exact .inr h
  | succ i =>
    rw [List.getElem?_cons_succ, List.getElem?_replicate] at q
    split at q
    · cases q
      exact .inl rfl
    · cases q⟩
/-- return, in a def over data; in one with the source in slot 0 -/
theorem s_retP {n : Nat} (h : E X e ρ d1 ρ1) (q : d1 = d := by rfl) (hn : ρ1.length = n := by rfl) : S1 X (.Return (some e) pos) ρ (.rt d (List.replicate n .un)) := by
  subst q
  exact ps_imp (ps_ret h) fun D σ H ⟨F, G, ad, w, k⟩ => ⟨F, G, ad, w, fun v H' G' ad' e1 w' p => k σ H' G' ad' e1 (w'.le (le_rep hn)) v p⟩
theorem s_retS {n : Nat} {s l : Addr} {t : Src} (h : E X e ρ d1 ρ1) (q : d1 = d := by rfl) (h0 : ρ1[0]? = some (.src s l t) := by rfl) (hn : ρ1.length = n + 1 := by rfl) : S1 X (.Return (some e) pos) ρ (.rt d (.src s l t :: List.replicate n .un)) := by
  subst q
  exact ps_imp (ps_ret h) fun D σ H ⟨F, G, ad, w, k⟩ => ⟨F, G, ad, w, fun v H' G' ad' e1 w' p => k σ H' G' ad' e1 (w'.le (le_src h0 hn)) v p⟩
theorem s_retN : S1 X (.Return none pos) ρ (.rt .none ρ) := ps_imp ps_retN fun D σ H ⟨F, G, ad, w, k⟩ => k σ H G ad (Ext.refl F G) w .non .non
theorem s_pass : S1 X (.Pass pos) ρ (.nx ρ) := ps_imp ps_pass fun D σ H ⟨F, G, ad, w, k⟩ => k σ H G ad (Ext.refl F G) w
theorem s_cont : S1 X (.Continue pos) ρ (.ct ρ) := ps_imp ps_continue fun D σ H ⟨F, G, ad, w, k⟩ => k σ H G ad (Ext.refl F G) w
theorem s_break : S1 X (.Break pos) ρ (.bk ρ) := ps_imp ps_break fun D σ H ⟨F, G, ad, w, k⟩ => k σ H G ad (Ext.refl F G) w
theorem s_drop (h : E X e ρ d ρ1) (hs : swapsWith e none pos.line X.env = pure false := by rfl) : S1 X (.Expr e pos) ρ (.nx ρ1) := ps_imp (ps_expr h hs) fun D σ H ⟨F, G, ad, w, k⟩ => ⟨F, G, ad, w, fun v H' G' ad' e1 w' _ => k σ H' G' ad' e1 w'⟩
theorem s_doc {z : Str} {j : Nat} {pos' : Pos} : S1 X (.Expr (.Constant (.str z) j pos) pos') ρ (.nx ρ) := ps_imp ps_doc fun D σ H ⟨F, G, ad, w, k⟩ => k σ H G ad (Ext.refl F G) w

/-! ### targets -/
/-- σ' is σ but at js -/
def Off (js : List Nat) (σ σ' : L2.St) : Prop := σ'.length = σ.length ∧ ∀ i, i ∉ js → σ'[i]? = σ[i]?
theorem Off.refl (js : List Nat) (σ : L2.St) : Off js σ σ := ⟨rfl, fun _ _ => rfl⟩
theorem Off.trans {js ks : List Nat} {σ σ' σ'' : L2.St} (a : Off js σ σ') (b : Off ks σ' σ'') : Off (js ++ ks) σ σ'' := ⟨b.1.trans a.1, fun i h => (b.2 i fun z => h (List.mem_append_right _ z)).trans (a.2 i fun z => h (List.mem_append_left _ z))⟩
def cG (K : PySem.W.Frag) (d : PyData) (ρ ρ' : List Sl) (js : List Nat) : TG := fun v σ H Q => ∃ F G ad, Sta K F G H σ ρ ad ∧ Da K G v d ∧ ∀ σ' H' G' ad', Off js σ σ' → Ext F G G' → Sta K F G' H' σ' ρ' ad' → Q σ' H'
def TgD (X : Cx) (tg : Expr) (d : PyData) (ρ ρ' : List Sl) (js : List Nat) : Prop := PG X tg (cG X.K d ρ ρ' js)
def cGs (K : PySem.W.Frag) (ds : List PyData) (ρ ρ' : List Sl) (js : List Nat) : TGs := fun vs σ H Q => ∃ F G ad, Sta K F G H σ ρ ad ∧ DaAll K G vs ds ∧ ∀ σ' H' G' ad', Off js σ σ' → Ext F G G' → Sta K F G' H' σ' ρ' ad' → Q σ' H'
def TgsD (X : Cx) (es : List Expr) (ds : List PyData) (ρ ρ' : List Sl) (js : List Nat) : Prop := PGs X es (cGs X.K ds ρ ρ' js)
theorem pg_imp {tg : Expr} {t t' : TG} (h : PG X tg t) (k : ∀ v σ H Q, t' v σ H Q → t v σ H Q) : PG X tg t' := ⟨fun pins s σ H v u Q I r q => h.run pins s σ H v u Q I r (k v σ H Q q)⟩
theorem pgs_imp {tg : List Expr} {t t' : TGs} (h : PGs X tg t) (k : ∀ v σ H Q, t' v σ H Q → t v σ H Q) : PGs X tg t' := ⟨fun pins s σ H v u Q I r q => h.run pins s σ H v u Q I r (k v σ H Q q)⟩
def anyG (X : Cx) (tg : Expr) : TG := fun v σ H Q => ∃ d ρ ρ' js, TgD X tg d ρ ρ' js ∧ cG X.K d ρ ρ' js v σ H Q
theorem anyG_ok {tg : Expr} : PG X tg (anyG X tg) := ⟨fun pins s σ H v u Q I r ⟨d, ρ, ρ', js, h, k⟩ => h.run pins s σ H v u Q I r k⟩
theorem g_name (i : Nat) (hN : X.N.Nodup) (hi : X.N[i]? = some x := by rfl) (hx : Loc X.env.scope x := by first | exact Or.inl rfl | exact Or.inr rfl) (hl : i < ρ.length := by exact Nat.le_of_ble_eq_true rfl) (hf : X.fn x = true ∨ X.env.scope.names.lookup x = some .local := by first | exact .inl rfl | exact .inr rfl) :
    TgD X (.Name x pos) d ρ (ρ.set i (.dat d)) [i] := pg_imp (pg_name hN hi hx hf) fun v σ H Q ⟨F, G, ad, w, p, k⟩ => k _ H G _ ⟨List.length_set, fun j hj => List.getElem?_set_ne (fun z => hj (by rw [z]; exact List.mem_singleton.mpr rfl))⟩ (Ext.refl F G) (w.set p hl)
theorem gs_nil : TgsD X [] [] ρ ρ [] := pgs_imp pgs_nil fun vs σ H Q ⟨F, G, ad, w, p, k⟩ => by
  cases p
  exact ⟨rfl, k σ H G ad (Off.refl _ _) (Ext.refl F G) w⟩
theorem gs_cons {es : List Expr} {js ks : List Nat} (h1 : TgD X e d ρ ρ1 js) (h2 : TgsD X es ds ρ1 ρ2 ks) (hs : (assignEach (e :: es) X.env).map (·.2) = assign e X.env :: (assignEach es X.env).map (·.2) := by rfl) : TgsD X (e :: es) (d :: ds) ρ ρ2 (js ++ ks) :=
  pgs_imp (pgs_cons h1 h2 hs) fun vs σ H Q ⟨F, G, ad, w, p, k⟩ => by
    cases p with
    | cons p1 p2 => exact ⟨_, _, rfl, F, G, ad, w, p1, fun σ1 H1 G1 ad1 o1 e1 w1 => ⟨F, G1, ad1, w1, daAll_ex e1.1 p2, fun σ2 H2 G2 ad2 o2 e2 w2 => k σ2 H2 G2 ad2 (o1.trans o2) (e1.trans e2) w2⟩⟩
theorem g_tup {es : List Expr} {js : List Nat} {k : Nat} (hc : X.calm = true) (h : TgsD X es ds ρ ρ1 js) (hn : (assignEach es X.env).length = ds.length := by rfl) (hst : (assignEach es X.env).findIdx? (·.1) = none := by rfl) : TgD X (.Tuple es k pos) (.tuple ds) ρ ρ1 js :=
  pg_imp (pg_tup (n := ds.length) hc h hn hst) fun v σ H Q ⟨F, G, ad, w, p, k⟩ => by
    cases p with
    | tup p1 p2 => exact ⟨_, _, rfl, sqT_ex w.gh p1, daAll_len p2, F, G, ad, w, p2, k⟩
/-! ### assignments -/
theorem s_asg {tg : Expr} (he : E X e ρ d ρ1) {js : List Nat} (hg : TgD X tg d ρ1 ρ2 js) (hs : swapsWithSole [tg] e pos.line X.env = pure false := by rfl) (hw : swappedStores [tg] e X.env = pure none := by rfl)
    (h1 : (assignEach [tg] X.env).map (·.2) = [assign tg X.env] := by rfl) : S1 X (.Assign [tg] e pos) ρ (.nx ρ2) :=
  ps_imp (ps_asg he hg hs hw h1) fun D σ H ⟨F, G, ad, w, k⟩ => ⟨F, G, ad, w, fun v H1 G1 ad1 e1 w1 p1 => ⟨F, G1, ad1, w1, p1, fun σ2 H2 G2 ad2 _ e2 w2 => k σ2 H2 G2 ad2 (e1.trans e2) w2⟩⟩
theorem s_set (i : Nat) {pos' : Pos} (he : E X e ρ d ρ1) (hN : X.N.Nodup) (hi : X.N[i]? = some x := by rfl) (hx : Loc X.env.scope x := by first | exact Or.inl rfl | exact Or.inr rfl) (hl : i < ρ1.length := by exact Nat.le_of_ble_eq_true rfl) (hs : swapsWith e (some (.Name x pos')) pos.line X.env = pure false := by rfl)
    (hf : X.fn x = true ∨ X.env.scope.names.lookup x = some .local := by first | exact .inl rfl | exact .inr rfl) : S1 X (.Assign [.Name x pos'] e pos) ρ (.nx (ρ1.set i (.dat d))) :=
  ps_imp (ps_set hN hi hx he hs hf) fun D σ H ⟨F, G, ad, w, k⟩ => ⟨F, G, ad, w, fun v H1 G1 ad1 e1 w1 p1 => k _ H1 G1 _ e1 (w1.set p1 hl)⟩
theorem s_setO (i : Nat) {pos' : Pos} (he : EO X e ρ ds ρ1) (hN : X.N.Nodup) (hi : X.N[i]? = some x := by rfl) (hx : Loc X.env.scope x := by first | exact Or.inl rfl | exact Or.inr rfl) (hl : i < ρ1.length := by exact Nat.le_of_ble_eq_true rfl) (hs : swapsWith e (some (.Name x pos')) pos.line X.env = pure false := by rfl)
    (hf : X.fn x = true ∨ X.env.scope.names.lookup x = some .local := by first | exact .inl rfl | exact .inr rfl) : S1 X (.Assign [.Name x pos'] e pos) ρ (.nx (ρ1.set i (.own ds))) :=
  ps_imp (ps_set hN hi hx he hs hf) fun D σ H ⟨F, G, ad, w, k⟩ => ⟨F, G, ad, w, fun l xs H1 G1 ad1 e1 w1 q1 q2 q3 q4 q5 => k _ H1 G1 _ e1 (w1.setO q4 q5 q1 q2 q3 hl)⟩
/-- a, b = e1, e2 with plain local names -/
theorem s_par (i j : Nat) {y : Str} {px py pt : Pos} {kt k2 : Nat} {pt2 : Pos} (ha : EA X [a, b] ρ [d1, d2] ρ1) (hc : X.calm = true) (hN : X.N.Nodup) (hi : X.N[i]? = some x := by rfl) (hj : X.N[j]? = some y := by rfl) (hij : i ≠ j := by decide)
    (hx : X.env.scope.names.lookup x = some .local := by rfl) (hy : X.env.scope.names.lookup y = some .local := by rfl) (hl : i < ρ1.length := by exact Nat.le_of_ble_eq_true rfl) (hl2 : j < ρ1.length := by exact Nat.le_of_ble_eq_true rfl)
    (hw : swappedStores [.Tuple [.Name x px, .Name y py] kt pt] (.Tuple [a, b] k2 pt2) X.env = pure (some [x, y]) := by rfl)
    (hs : swapsWithSole [.Tuple [.Name x px, .Name y py] kt pt] (.Tuple [a, b] k2 pt2) pos.line X.env = pure false := by rfl) :
    S1 X (.Assign [.Tuple [.Name x px, .Name y py] kt pt] (.Tuple [a, b] k2 pt2) pos) ρ (.nx ((ρ1.set i (.dat d1)).set j (.dat d2))) :=
  ps_imp (ps_par hc hN hi hj hij hx hy ha hw hs) fun D σ H ⟨F, G, ad, w, k⟩ => ⟨F, G, ad, w, fun vs H1 G1 ad1 e1 w1 p1 => by
    obtain ⟨v, u, rfl, q1, q2⟩ := daAll_two p1
    exact ⟨v, u, rfl, k _ H1 G1 _ e1 ((w1.set q1 hl).set q2 (by rw [List.length_set]; exact hl2))⟩⟩
end
end DL
end part_DLd
section part_DLe
namespace DL
open L2 PyProof.Rows PySem.Spec PySem
/-! ### what is walked -/
def Walks (K : PySem.W.Frag) (J : It) (G : Hp) (ys : List PyData) : Prop := ∀ (H G2 : Hp), Ex G G2 → Ex G2 H → J.stop ys.length H ∧ ∀ (i : Nat) (d : PyData), ys[i]? = some d → J.go i H ∧ ∀ x H', J.yld i H x H' → ∃ G', Ex H H' ∧ Ext H G2 G' ∧ Ex G' H' ∧ Da K G' x d
def cI (K : PySem.W.Frag) (ρ : List Sl) (ys : List PyData) (ρ' : List Sl) : TI := fun σ H R => ∃ F G ad, Sta K F G H σ ρ ad ∧ ∀ J H' G' ad', Ext F G G' → Sta K F G' H' σ ρ' ad' → Walks K J G' ys → R J H'
def Iter (X : Cx) (tg it : Expr) (ρ : List Sl) (ys : List PyData) (ρ' : List Sl) : Prop := PI X tg it (cI X.K ρ ys ρ')
theorem pi_imp {X : Cx} {tg it : Expr} {t t' : TI} (h : PI X tg it t) (k : ∀ σ H R, t' σ H R → t σ H R) : PI X tg it t' := ⟨fun pins s σ H R I q => h.run pins s σ H R I (k σ H R q)⟩
section
variable {X : Cx} {e a b c tg it l elt : Expr} {rest : List Expr} {ρ ρ0 ρ1 ρ2 ρ3 : List Sl} {d d1 d2 d3 : PyData} {ds es ys rs : List PyData} {x : Str} {pos : Pos} {p q : Bool}
theorem i_list (h : E X l ρ (.list ds) ρ1) : Iter X tg l ρ ds ρ1 := pi_imp (pi_list h) fun σ H R ⟨F, G, ad, w, k⟩ => ⟨F, G, ad, w, fun v H1 G1 ad1 e1 w1 p1 => by
  cases p1 with
  | lst h1 h2 =>
    refine ⟨_, rfl, ⟨_, SqL.of (w1.gh _ _ h1)⟩, k _ H1 G1 ad1 e1 w1 fun H2 G2 g1 g2 => ⟨⟨_, SqL.of (g2 _ _ (g1 _ _ h1)), by rw [daAll_len h2]; exact Nat.le_refl _⟩, fun i d hi => ?_⟩⟩
    obtain ⟨v, hv, pv⟩ := daAll_get h2 hi
    refine ⟨⟨_, v, SqL.of (g2 _ _ (g1 _ _ h1)), hv⟩, fun x H' ⟨e, z⟩ => ?_⟩
    subst e
    have zz := z _ (SqL.of (g2 _ _ (g1 _ _ h1)))
    rw [hv] at zz
    cases zz
    exact ⟨G2, Ex.refl _, Ext.refl _ _, g2, da_ex g1 pv⟩⟩
theorem i_tup (h : E X l ρ (.tuple ds) ρ1) : Iter X tg l ρ ds ρ1 := pi_imp (pi_tup h) fun σ H R ⟨F, G, ad, w, k⟩ => ⟨F, G, ad, w, fun v H1 G1 ad1 e1 w1 p1 => by
  cases p1 with
  | tup h1 h2 =>
    refine ⟨_, rfl, ⟨_, sqT_ex w1.gh h1⟩, k _ H1 G1 ad1 e1 w1 fun H2 G2 g1 g2 => ⟨⟨_, sqT_ex (g1.trans g2) h1, by rw [daAll_len h2]; exact Nat.le_refl _⟩, fun i d hi => ?_⟩⟩
    obtain ⟨v, hv, pv⟩ := daAll_get h2 hi
    refine ⟨⟨_, v, sqT_ex (g1.trans g2) h1, hv⟩, fun x H' ⟨e, z⟩ => ?_⟩
    subst e
    have zz := z _ (sqT_ex (g1.trans g2) h1)
    rw [hv] at zz
    cases zz
    exact ⟨G2, Ex.refl _, Ext.refl _ _, g2, da_ex g1 pv⟩⟩
/-- lo, lo + 1, .., n of them -/
def rangeD (lo : Int) (n : Nat) : List PyData := (List.range n).map fun (i : Nat) => PyData.int (lo + i)
theorem rangeD_len (lo : Int) (n : Nat) : (rangeD lo n).length = n := by unfold rangeD; rw [List.length_map, List.length_range]
theorem walks_range (K : PySem.W.Frag) (G : Hp) (lo : Int) (n : Nat) : Walks K (Itr lo n) G (rangeD lo n) := fun H2 G2 g1 g2 => ⟨by rw [rangeD_len]; exact Nat.le_refl _, fun i d hi => by
  have hi2 : i < n := by
    have := (List.getElem?_eq_some_iff.mp hi).1
    rw [rangeD_len] at this
    exact this
  refine ⟨hi2, fun x H' ⟨e, z⟩ => ?_⟩
  subst e z
  unfold rangeD at hi
  rw [List.getElem?_map, List.getElem?_range hi2] at hi
  cases hi
  exact ⟨G2, Ex.refl _, Ext.refl _ _, g2, .int _⟩⟩
theorem i_range1 {p0 : Pos} {n : Int} (h : EA X [a] ρ [.int n] ρ1) (hm : X.mg "range" = none) (h1 : -(2 ^ 62) ≤ n ∧ n < 2 ^ 62 := by first | decide | omega) (hg : Gl X "range" := by rfl) (hs : starEach [a] X.env = [(false, eval a X.env)] := by rfl) : Iter X tg (.Call (.Name "range" p0) [a] [] pos) ρ (rangeD 0 n.toNat) ρ1 :=
  pi_imp (pi_range1 hg hm h hs) fun σ H R ⟨F, G, ad, w, k⟩ => ⟨F, G, ad, w, fun vs H1 G1 ad1 e1 w1 p1 => by
    obtain ⟨v, rfl, q⟩ := daAll_one p1
    cases q
    exact ⟨n, rfl, h1.1, h1.2, k _ H1 G1 ad1 e1 w1 (walks_range _ _ 0 n.toNat)⟩⟩
theorem i_range2 {p0 : Pos} {m n : Int} (h : EA X [a, b] ρ [.int m, .int n] ρ1) (hm : X.mg "range" = none) (h1 : (-(2 ^ 62) ≤ m ∧ m < 2 ^ 62) ∧ -(2 ^ 62) ≤ n ∧ n < 2 ^ 62 := by first | decide | omega) (hg : Gl X "range" := by rfl) (hs : starEach [a, b] X.env = [(false, eval a X.env), (false, eval b X.env)] := by rfl) (hs2 : starEach [b] X.env = [(false, eval b X.env)] := by rfl) :
    Iter X tg (.Call (.Name "range" p0) [a, b] [] pos) ρ (rangeD m (n - m).toNat) ρ1 :=
  pi_imp (pi_range2 hg hm h hs hs2) fun σ H R ⟨F, G, ad, w, k⟩ => ⟨F, G, ad, w, fun vs H1 G1 ad1 e1 w1 p1 => by
    obtain ⟨v, u, rfl, q, r⟩ := daAll_two p1
    cases q
    cases r
    exact ⟨m, n, rfl, ⟨h1.1.1, h1.1.2, h1.2.1, h1.2.2⟩, k _ H1 G1 ad1 e1 w1 (walks_range _ _ m (n - m).toNat)⟩⟩
/-! ### for -/
inductive Loop (X : Cx) (tg : Expr) (body : List Stmt) : List PyData → List Sl → Out → Prop
  | nil {ρ : List Sl} : Loop X tg body [] ρ (.nx ρ)
  | nx {d : PyData} {ds : List PyData} {ρ ρ1 ρ2 : List Sl} {o : Out} {js : List Nat} : TgD X tg d ρ ρ1 js → S X body ρ1 (.nx ρ2) → Loop X tg body ds ρ2 o → Loop X tg body (d :: ds) ρ o
  | ct {d : PyData} {ds : List PyData} {ρ ρ1 ρ2 : List Sl} {o : Out} {js : List Nat} : TgD X tg d ρ ρ1 js → S X body ρ1 (.ct ρ2) → Loop X tg body ds ρ2 o → Loop X tg body (d :: ds) ρ o
  | bk {d : PyData} {ds : List PyData} {ρ ρ1 ρ2 : List Sl} {js : List Nat} : TgD X tg d ρ ρ1 js → S X body ρ1 (.bk ρ2) → Loop X tg body (d :: ds) ρ (.nx ρ2)
  | rt {d r : PyData} {ds : List PyData} {ρ ρ1 ρ2 : List Sl} {js : List Nat} : TgD X tg d ρ ρ1 js → S X body ρ1 (.rt r ρ2) → Loop X tg body (d :: ds) ρ (.rt r ρ2)
  | pre {ds : List PyData} {ρ ρ1 : List Sl} {o : Out} : Le ρ ρ1 → Loop X tg body ds ρ1 o → Loop X tg body ds ρ o
/-- a turn -/
def Turn1 (X : Cx) (tg : Expr) (body : List Stmt) (d : PyData) (ds : List PyData) (ρ : List Sl) (o : Out) : Prop := ∃ ρ1 js o1, TgD X tg d ρ ρ1 js ∧ S X body ρ1 o1 ∧ match o1 with
  | .nx ρ2 => Loop X tg body ds ρ2 o
  | .ct ρ2 => Loop X tg body ds ρ2 o
  | .bk ρ2 => o = .nx ρ2
  | .rt r ρ2 => o = .rt r ρ2
theorem loop_cases {body : List Stmt} {o : Out} (h : Loop X tg body ds ρ o) : ∃ ρ0, Le ρ ρ0 ∧ ((ds = [] ∧ o = .nx ρ0) ∨ ∃ d es, ds = d :: es ∧ Turn1 X tg body d es ρ0 o) := by
  induction h with
  | nil => exact ⟨_, Le.refl _, .inl ⟨rfl, rfl⟩⟩
  | nx h1 h2 h3 _ => exact ⟨_, Le.refl _, .inr ⟨_, _, rfl, _, _, .nx _, h1, h2, h3⟩⟩
  | ct h1 h2 h3 _ => exact ⟨_, Le.refl _, .inr ⟨_, _, rfl, _, _, .ct _, h1, h2, h3⟩⟩
  | bk h1 h2 => exact ⟨_, Le.refl _, .inr ⟨_, _, rfl, _, _, .bk _, h1, h2, rfl⟩⟩
  | rt h1 h2 => exact ⟨_, Le.refl _, .inr ⟨_, _, rfl, _, _, .rt _ _, h1, h2, rfl⟩⟩
  | pre h1 _ ih =>
    obtain ⟨ρ0, h2, h3⟩ := ih
    exact ⟨ρ0, h1.trans h2, h3⟩
theorem drop_cons {ys : List PyData} {i : Nat} {d : PyData} {es : List PyData} (h : ys.drop i = d :: es) : ys[i]? = some d ∧ ys.drop (i + 1) = es := by
  have h1 : (ys.drop i)[0]? = some d := by rw [h]; rfl
  rw [List.getElem?_drop] at h1
  refine ⟨h1, ?_⟩
  have h2 : (ys.drop i).drop 1 = es := by rw [h]; rfl
  rw [List.drop_drop] at h2
  exact h2
theorem s_for {body : List Stmt} {o : Out} (hi : Iter X tg it ρ ys ρ1) (hl : Loop X tg body ys ρ1 o) (hc : X.calm = true := by rfl) (hp : PassesOwn (model X.prog X.w) X.A X.env X.xe := by exact PassesOwn.never) (hs : ∀ x, foldedSetIterable it X.env x = pure x := by intro _; rfl) : S1 X (.For tg it body [] pos) ρ o := by
  refine ps_imp (ps_for hp hc hi anyG_ok anyS_ok hs) fun D σ H ⟨F, G, ad, w, k⟩ => ⟨F, G, ad, w, fun J H1 G1 ad1 e1 w1 wk => ?_⟩
  refine ⟨fun i m σ H => m = ys.length - i ∧ i ≤ ys.length ∧ ∃ ρi Gi adi, Ext F G1 Gi ∧ Sta X.K F Gi H σ ρi adi ∧ Loop X tg body (ys.drop i) ρi o, ⟨ys.length, by simp, Nat.zero_le _, ρ1, G1, ad1, Ext.refl _ _, w1, by simpa using hl⟩, ?_⟩
  rintro i m σ2 H2 ⟨rfl, hle, ρi, Gi, adi, e2, w2, hl2⟩
  obtain ⟨ws, wg⟩ := wk H2 Gi e2.1 w2.gh
  obtain ⟨ρ0, le, hcase⟩ := loop_cases hl2
  rcases hcase with ⟨hnil, ho⟩ | ⟨d, es, hcons, ρ2, js, o1, ht, hb, ho⟩
  · have ei : i = ys.length := by
      have := List.drop_eq_nil_iff.mp hnil
      omega
    subst ei ho
    exact .inl ⟨ws, k σ2 H2 Gi adi (e1.trans e2) (w2.le le)⟩
  · obtain ⟨hd, hes⟩ := drop_cons hcons
    obtain ⟨hgo, hy⟩ := wg i d hd
    have hlt : i < ys.length := (List.getElem?_eq_some_iff.mp hd).1
    refine .inr ⟨hgo, fun σ' H' => ∃ ρ2 G2 ad2, Ext F G1 G2 ∧ Sta X.K F G2 H' σ' ρ2 ad2 ∧ Loop X tg body (ys.drop (i + 1)) ρ2 o, fun σ' H' hN => ⟨ys.length - (i + 1), by omega, rfl, hlt, hN⟩, fun x H' hx => ?_⟩
    obtain ⟨G3, x1, x2, x3, x4⟩ := hy x H' hx
    have w3 := (w2.grow x1 x2 x3).le le
    have e3 : Ext F G1 G3 := e2.trans (x2.weak w2.fh)
    refine ⟨d, ρ0, ρ2, js, ht, F, G3, _, w3, x4, fun σ4 H4 G4 ad4 _ e4 w4 => ⟨ρ2, o1, hb, F, G4, ad4, w4, fun σ5 H5 G5 ad5 e5 => ?_⟩⟩
    have e6 : Ext F G1 G5 := (e3.trans e4).trans e5
    cases o1 with
    | nx ρ3 => exact fun w5 => ⟨ρ3, G5, ad5, e6, w5, by rw [hes]; exact ho⟩
    | ct ρ3 => exact fun w5 => ⟨ρ3, G5, ad5, e6, w5, by rw [hes]; exact ho⟩
    | bk ρ3 =>
      subst ho
      exact k σ5 H5 G5 ad5 (e1.trans e6)
    | rt r ρ3 =>
      subst ho
      exact k σ5 H5 G5 ad5 (e1.trans e6)
/-! ### while -/
inductive Wh (X : Cx) (c : Expr) (body : List Stmt) : Nat → List Sl → Out → Prop
  | done {ρ ρ1 : List Sl} : T X c ρ false ρ1 → Wh X c body 0 ρ (.nx ρ1)
  | nx {n : Nat} {ρ ρ1 ρ2 : List Sl} {o : Out} : T X c ρ true ρ1 → S X body ρ1 (.nx ρ2) → Wh X c body n ρ2 o → Wh X c body (n + 1) ρ o
  | ct {n : Nat} {ρ ρ1 ρ2 : List Sl} {o : Out} : T X c ρ true ρ1 → S X body ρ1 (.ct ρ2) → Wh X c body n ρ2 o → Wh X c body (n + 1) ρ o
  | bk {ρ ρ1 ρ2 : List Sl} : T X c ρ true ρ1 → S X body ρ1 (.bk ρ2) → Wh X c body 0 ρ (.nx ρ2)
  | rt {r : PyData} {ρ ρ1 ρ2 : List Sl} : T X c ρ true ρ1 → S X body ρ1 (.rt r ρ2) → Wh X c body 0 ρ (.rt r ρ2)
  | pre {n : Nat} {ρ ρ1 : List Sl} {o : Out} : Le ρ ρ1 → Wh X c body n ρ1 o → Wh X c body n ρ o
def WTurn (X : Cx) (c : Expr) (body : List Stmt) (n : Nat) (ρ : List Sl) (o : Out) : Prop := ∃ ρ1 o1, T X c ρ true ρ1 ∧ S X body ρ1 o1 ∧ match o1 with
  | .nx ρ2 => ∃ m, m < n ∧ Wh X c body m ρ2 o
  | .ct ρ2 => ∃ m, m < n ∧ Wh X c body m ρ2 o
  | .bk ρ2 => o = .nx ρ2
  | .rt r ρ2 => o = .rt r ρ2
theorem wh_cases {body : List Stmt} {n : Nat} {o : Out} (h : Wh X c body n ρ o) : ∃ ρ0, Le ρ ρ0 ∧ ((∃ ρ1, T X c ρ0 false ρ1 ∧ o = .nx ρ1) ∨ WTurn X c body n ρ0 o) := by
  induction h with
  | done h => exact ⟨_, Le.refl _, .inl ⟨_, h, rfl⟩⟩
  | nx h1 h2 h3 _ => exact ⟨_, Le.refl _, .inr ⟨_, .nx _, h1, h2, _, Nat.lt_succ_self _, h3⟩⟩
  | ct h1 h2 h3 _ => exact ⟨_, Le.refl _, .inr ⟨_, .ct _, h1, h2, _, Nat.lt_succ_self _, h3⟩⟩
  | bk h1 h2 => exact ⟨_, Le.refl _, .inr ⟨_, .bk _, h1, h2, rfl⟩⟩
  | rt h1 h2 => exact ⟨_, Le.refl _, .inr ⟨_, .rt _ _, h1, h2, rfl⟩⟩
  | pre h1 _ ih =>
    obtain ⟨ρ0, h2, h3⟩ := ih
    exact ⟨ρ0, h1.trans h2, h3⟩
theorem s_while {body : List Stmt} {n : Nat} {o : Out} (h : Wh X c body n ρ o) (hp : PassesOwn (model X.prog X.w) X.A X.env X.xe := by exact PassesOwn.never) : S1 X (.While c body [] pos) ρ o := by
  refine ps_imp (ps_while hp anyT_ok anyS_ok) fun D σ H ⟨F, G, ad, w, k⟩ => ⟨fun m σ' H' => ∃ ρi Gi adi, Ext F G Gi ∧ Sta X.K F Gi H' σ' ρi adi ∧ Wh X c body m ρi o, ⟨n, ρ, G, ad, Ext.refl _ _, w, h⟩, ?_⟩
  rintro m σ' H' ⟨ρi, Gi, adi, e1, w1, h1⟩
  obtain ⟨ρ0, le, hcase⟩ := wh_cases h1
  rcases hcase with ⟨ρ1, ht, rfl⟩ | ⟨ρ1, o1, ht, hb, ho⟩
  · exact ⟨ρ0, false, ρ1, ht, F, Gi, adi, w1.le le, fun H2 G2 ad2 e2 w2 => k σ' H2 G2 ad2 (e1.trans e2) w2⟩
  · refine ⟨ρ0, true, ρ1, ht, F, Gi, adi, w1.le le, fun H2 G2 ad2 e2 w2 => ?_⟩
    show (if true = true then _ else _)
    rw [if_pos rfl]
    refine ⟨fun σ' H' => ∃ m', m' < m ∧ ∃ ρi Gi adi, Ext F G Gi ∧ Sta X.K F Gi H' σ' ρi adi ∧ Wh X c body m' ρi o, fun σ3 H3 h3 => h3, ?_⟩
    refine ⟨ρ1, o1, hb, F, G2, ad2, w2, fun σ5 H5 G5 ad5 e5 => ?_⟩
    have e6 : Ext F G G5 := (e1.trans e2).trans e5
    cases o1 with
    | nx ρ3 =>
      obtain ⟨m', hm, hw⟩ := ho
      exact fun w5 => ⟨m', hm, ρ3, G5, ad5, e6, w5, hw⟩
    | ct ρ3 =>
      obtain ⟨m', hm, hw⟩ := ho
      exact fun w5 => ⟨m', hm, ρ3, G5, ad5, e6, w5, hw⟩
    | bk ρ3 =>
      subst ho
      exact k σ5 H5 G5 ad5 e6
    | rt r ρ3 =>
      subst ho
      exact k σ5 H5 G5 ad5 e6
end
end DL
end part_DLe
section part_DLf
namespace DL
open L2 PyProof.Rows PySem.Spec PySem
/-! ### comprehensions -/
def wipeA (vs : List Nat) : Nat → List Sl → List Sl
  | _, [] => []
  | i, r :: ρ => (if vs.contains i then Sl.un else r) :: wipeA vs (i + 1) ρ
def keepDat : Sl → Sl
  | .dat d => .dat d
  | _ => .un
def joinA (vs : List Nat) : Nat → List Sl → List Sl → List Sl
  | _, _, [] => []
  | i, [], r :: ρ => (if vs.contains i then Sl.un else r) :: joinA vs (i + 1) [] ρ
  | i, r0 :: ρ0, r :: ρ => (if vs.contains i then keepDat r0 else r) :: joinA vs (i + 1) ρ0 ρ
theorem wipeA_get (vs : List Nat) : ∀ (ρ : List Sl) (k i : Nat), (wipeA vs k ρ)[i]? = (ρ[i]?).map fun r => if vs.contains (k + i) then Sl.un else r
  | [], k, i => by simp [wipeA]
  | r :: ρ, k, 0 => by simp [wipeA]
  | r :: ρ, k, i + 1 => by
    have h := wipeA_get vs ρ (k + 1) i
    rw [show k + 1 + i = k + (i + 1) by omega] at h
    simpa [wipeA] using h
theorem wipeA_len (vs : List Nat) : ∀ (ρ : List Sl) (k : Nat), (wipeA vs k ρ).length = ρ.length
  | [], k => rfl
  | r :: ρ, k => by
    show (wipeA vs (k + 1) ρ).length + 1 = ρ.length + 1
    rw [wipeA_len vs ρ (k + 1)]
theorem joinA_len (vs : List Nat) : ∀ (ρ ρ0 : List Sl) (k : Nat), (joinA vs k ρ0 ρ).length = ρ.length
  | [], ρ0, k => by cases ρ0 <;> rfl
  | r :: ρ, [], k => by
    show (joinA vs (k + 1) [] ρ).length + 1 = ρ.length + 1
    rw [joinA_len vs ρ [] (k + 1)]
  | r :: ρ, r0 :: ρ0, k => by
    show (joinA vs (k + 1) ρ0 ρ).length + 1 = ρ.length + 1
    rw [joinA_len vs ρ ρ0 (k + 1)]
theorem joinA_get (vs : List Nat) : ∀ (ρ ρ0 : List Sl) (k i : Nat) (r : Sl), (joinA vs k ρ0 ρ)[i]? = some r → (vs.contains (k + i) = false ∧ ρ[i]? = some r) ∨ (vs.contains (k + i) = true ∧ (r = .un ∨ ∃ d, r = .dat d ∧ ρ0[i]? = some (.dat d)))
  | [], ρ0, k, i, r, h => by cases ρ0 <;> simp [joinA] at h
  | r1 :: ρ, [], k, 0, r, h => by
    have e : r = (if vs.contains k then Sl.un else r1) := by simpa [joinA] using h.symm
    cases q : vs.contains k with
    | true =>
      rw [q, if_pos rfl] at e
      exact .inr ⟨rfl, .inl e⟩
    | false =>
      rw [q, if_neg Bool.false_ne_true] at e
      exact .inl ⟨rfl, by rw [e]; rfl⟩
  | r1 :: ρ, r0 :: ρ0, k, 0, r, h => by
    have e : r = (if vs.contains k then keepDat r0 else r1) := by simpa [joinA] using h.symm
    cases q : vs.contains k with
    | true =>
      rw [q, if_pos rfl] at e
      refine .inr ⟨rfl, ?_⟩
      cases r0 with
      | dat d => exact .inr ⟨d, e, rfl⟩
      | un => exact .inl e
      | own _ => exact .inl e
      | src _ _ _ => exact .inl e
      | scr _ => exact .inl e
    | false =>
      rw [q, if_neg Bool.false_ne_true] at e
      exact .inl ⟨rfl, by rw [e]; rfl⟩
  | r1 :: ρ, [], k, i + 1, r, h => by
    have h2 : (joinA vs (k + 1) [] ρ)[i]? = some r := by simpa [joinA] using h
    have z := joinA_get vs ρ [] (k + 1) i r h2
    rw [show k + 1 + i = k + (i + 1) by omega] at z
    simpa using z
  | r1 :: ρ, r0 :: ρ0, k, i + 1, r, h => by
    have h2 : (joinA vs (k + 1) ρ0 ρ)[i]? = some r := by simpa [joinA] using h
    have z := joinA_get vs ρ ρ0 (k + 1) i r h2
    rw [show k + 1 + i = k + (i + 1) by omega] at z
    simpa using z
theorem wipe_get {σ : L2.St} : ∀ (vs : List Nat) (i : Nat), (wipe σ vs)[i]? = if vs.contains i then (σ[i]?).map (fun _ => none) else σ[i]?
  | [], i => by simp [wipe]
  | v :: vs, i => by
    have ih := wipe_get (σ := σ) vs i
    by_cases e : v = i
    · subst e
      show ((wipe σ vs).set v none)[v]? = _
      by_cases hl : v < σ.length
      · rw [List.getElem?_set_self (by rw [wipe_length]; exact hl)]
        simp [List.getElem?_eq_getElem hl]
      · rw [List.getElem?_eq_none (by rw [List.length_set, wipe_length]; omega), List.getElem?_eq_none (by omega)]
        simp
    · show ((wipe σ vs).set v none)[i]? = _
      rw [List.getElem?_set_ne e, ih]
      have : (v :: vs).contains i = vs.contains i := by
        rw [List.contains_cons]
        have : (i == v) = false := by simpa using fun z => e z.symm
        rw [this, Bool.false_or]
      rw [this]
/-- σ' is σ but at slots that are wiped -/
theorem wipe_off {σ σ' : L2.St} {vs js : List Nat} (h : Off js (wipe σ vs) σ') (hj : ∀ j ∈ js, j ∈ vs) : wipe σ' vs = wipe σ vs := by
  refine List.ext_getElem? fun i => ?_
  rw [wipe_get, wipe_get]
  have hl : σ'.length = σ.length := by rw [h.1, wipe_length]
  cases q : vs.contains i with
  | true =>
    rw [if_pos rfl, if_pos rfl]
    by_cases hi : i < σ.length
    · rw [List.getElem?_eq_getElem hi, List.getElem?_eq_getElem (by omega)]
      rfl
    · rw [List.getElem?_eq_none (by omega), List.getElem?_eq_none (by omega)]
  | false =>
    rw [if_neg Bool.false_ne_true, if_neg Bool.false_ne_true]
    have ni : i ∉ js := fun z => by
      have := List.contains_iff_mem.mpr (hj i z)
      rw [q] at this; cases this
    have := h.2 i ni
    rw [wipe_get, q, if_neg Bool.false_ne_true] at this
    exact this
section
variable {K : PySem.W.Frag} {F G H : Hp} {σ : L2.St} {ρ ρ0 : List Sl} {ad : Nat → List Addr}
theorem Sta.wipe (w : Sta K F G H σ ρ ad) (vs : List Nat) : Sta K F G H (wipe σ vs) (wipeA vs 0 ρ) ad := ⟨w.gh, w.fh, w.own, w.there, w.dis, by rw [wipe_length, wipeA_len]; exact w.len, fun i r q => by
  rw [wipeA_get, Nat.zero_add] at q
  rw [wipe_get]
  cases z : vs.contains i with
  | true =>
    rw [z] at q
    cases e : ρ[i]? with
    | none => rw [e] at q; cases q
    | some r0 =>
      rw [e] at q
      have q' : r = Sl.un := by simpa using q.symm
      subst q'
      trivial
  | false =>
    rw [z] at q
    rw [if_neg Bool.false_ne_true]
    refine w.hold i r ?_
    cases e : ρ[i]? with
    | none => rw [e] at q; cases q
    | some r0 =>
      rw [e] at q
      simpa using q⟩
/-- behind the block: the wiped slots hold what they held -/
theorem Sta.unwipe {F0 G0 H0 : Hp} {ad0 : Nat → List Addr} {vs : List Nat} (w : Sta K F G H (L2.wipe σ vs) (wipeA vs 0 ρ) ad) (w0 : Sta K F0 G0 H0 σ ρ0 ad0) (e : Ex G0 G) : Sta K F G H σ (joinA vs 0 ρ0 ρ) ad := ⟨w.gh, w.fh, w.own, w.there, w.dis, by
  have := w.len
  rw [wipe_length, wipeA_len] at this
  rw [joinA_len]; exact this, fun i r q => by
  rcases joinA_get vs ρ ρ0 0 i r q with ⟨z, h⟩ | ⟨z, h⟩
  · rw [Nat.zero_add] at z
    have h1 : (wipeA vs 0 ρ)[i]? = some r := by
      rw [wipeA_get, Nat.zero_add, h]
      simp only [Option.map_some, z]
      rfl
    have h2 := w.hold i r h1
    rw [wipe_get, z, if_neg Bool.false_ne_true] at h2
    exact h2
  · rcases h with rfl | ⟨d, rfl, h⟩
    · trivial
    · obtain ⟨v, h1, h2⟩ := w0.hold i _ h
      exact ⟨v, h1, da_ex e h2⟩⟩
end
section
variable {X : Cx} {e a b c tg it l elt : Expr} {rest ifs : List Expr} {ρ ρ0 ρ1 ρ2 ρ3 : List Sl} {d d1 d2 d3 : PyData} {ds es ys rs : List PyData} {x : Str} {pos : Pos} {p q : Bool} {scope : Scope}
abbrev Blk (X : Cx) (scope : Scope) (J : Cx → Prop) : Prop := ∀ (s : Shared) (H : Hp) (C : Addr) (cl : List (Str × Addr)) (fp : List Addr), J (X.blk s H scope (compEnvC scope cl C X.env) fp)
def Ts (X : Cx) (ifs : List Expr) (ρ : List Sl) (b : Bool) (ρ' : List Sl) : Prop := PTs X ifs (cT X.K ρ b ρ')
theorem ts_nil : Ts X [] ρ true ρ := ⟨fun pins s σ H Q I ⟨F, G, ad, w, k⟩ => pts_nil.run pins s σ H Q I (k H G ad (Ext.refl F G) w)⟩
theorem ts_one (h : T X c ρ p ρ1) : Ts X [c] ρ p ρ1 := pts_one h
inductive CL (X : Cx) (scope : Scope) (tg : Expr) (ifs : List Expr) (elt : Expr) (vs : List Nat) : List PyData → List Sl → List PyData → List Sl → Prop
  | nil {ρ : List Sl} : CL X scope tg ifs elt vs [] ρ [] ρ
  | yes {d r : PyData} {ds rs : List PyData} {ρ ρ1 ρ2 ρ3 ρ4 : List Sl} {js : List Nat} : (hj : ∀ j ∈ js, j ∈ vs) → Blk X scope (fun Y => TgD Y tg d (wipeA vs 0 ρ) ρ1 js) → Blk X scope (fun Y => Ts Y ifs ρ1 true ρ2) → Blk X scope (fun Y => E Y elt ρ2 r ρ3) →
      CL X scope tg ifs elt vs ds ρ3 rs ρ4 → CL X scope tg ifs elt vs (d :: ds) ρ (r :: rs) ρ4
  | no {d : PyData} {ds rs : List PyData} {ρ ρ1 ρ2 ρ4 : List Sl} {js : List Nat} : (hj : ∀ j ∈ js, j ∈ vs) → Blk X scope (fun Y => TgD Y tg d (wipeA vs 0 ρ) ρ1 js) → Blk X scope (fun Y => Ts Y ifs ρ1 false ρ2) →
      CL X scope tg ifs elt vs ds ρ2 rs ρ4 → CL X scope tg ifs elt vs (d :: ds) ρ rs ρ4
  | pre {ds rs : List PyData} {ρ ρ1 ρ4 : List Sl} : Le (wipeA vs 0 ρ) (wipeA vs 0 ρ1) → CL X scope tg ifs elt vs ds ρ1 rs ρ4 → CL X scope tg ifs elt vs ds ρ rs ρ4
def CTurn (X : Cx) (scope : Scope) (tg : Expr) (ifs : List Expr) (elt : Expr) (vs : List Nat) (d : PyData) (ds : List PyData) (ρ : List Sl) (rs : List PyData) (ρ4 : List Sl) : Prop := ∃ ρ1 js b ρ2, (∀ j ∈ js, j ∈ vs) ∧ Blk X scope (fun Y => TgD Y tg d (wipeA vs 0 ρ) ρ1 js) ∧ Blk X scope (fun Y => Ts Y ifs ρ1 b ρ2) ∧
  ((b = true ∧ ∃ r rs' ρ3, rs = r :: rs' ∧ Blk X scope (fun Y => E Y elt ρ2 r ρ3) ∧ CL X scope tg ifs elt vs ds ρ3 rs' ρ4) ∨ (b = false ∧ CL X scope tg ifs elt vs ds ρ2 rs ρ4))
theorem cl_cases {vs : List Nat} {ρ4 : List Sl} (h : CL X scope tg ifs elt vs ds ρ rs ρ4) : ∃ ρ0, Le (wipeA vs 0 ρ) (wipeA vs 0 ρ0) ∧ ((ds = [] ∧ rs = [] ∧ ρ4 = ρ0) ∨ ∃ d es, ds = d :: es ∧ CTurn X scope tg ifs elt vs d es ρ0 rs ρ4) := by
  induction h with
  | nil => exact ⟨_, Le.refl _, .inl ⟨rfl, rfl, rfl⟩⟩
  | yes hj h1 h2 h3 h4 _ => exact ⟨_, Le.refl _, .inr ⟨_, _, rfl, _, _, true, _, hj, h1, h2, .inl ⟨rfl, _, _, _, rfl, h3, h4⟩⟩⟩
  | no hj h1 h2 h4 _ => exact ⟨_, Le.refl _, .inr ⟨_, _, rfl, _, _, false, _, hj, h1, h2, .inr ⟨rfl, h4⟩⟩⟩
  | pre h1 _ ih =>
    obtain ⟨ρ0, h2, h3⟩ := ih
    exact ⟨ρ0, h1.trans h2, h3⟩
def anyBG (X : Cx) (scope : Scope) (tg : Expr) : TG := fun v σ H Q => ∃ d ρ ρ' js, Blk X scope (fun Y => TgD Y tg d ρ ρ' js) ∧ cG X.K d ρ ρ' js v σ H Q
def anyBT (X : Cx) (scope : Scope) (ifs : List Expr) : TT := fun σ H Q => ∃ ρ b ρ', Blk X scope (fun Y => Ts Y ifs ρ b ρ') ∧ cT X.K ρ b ρ' σ H Q
def anyBE (X : Cx) (scope : Scope) (e : Expr) : TE := fun σ H Q => ∃ ρ d ρ', Blk X scope (fun Y => E Y e ρ d ρ') ∧ cE X.K ρ d ρ' σ H Q
/-- what a comprehension's reading asks -/
theorem lc_read {ta : TI} (hta : ta = cI X.K ρ ys ρ1) {vs : List Nat} {D : VK} {σ : L2.St} {H : Hp} (hcl : CL X scope tg ifs elt vs ys ρ1 rs ρ2) (hz : ys.length ≤ 1000000) (h : cO X.K ρ rs (joinA vs 0 ρ1 ρ2) σ H D) :
    tLc ta (anyBG X scope tg) (anyBT X scope ifs) (anyBE X scope elt) vs σ H D := by
  subst hta
  obtain ⟨F, G, ad, w, k⟩ := h
  refine ⟨F, G, ad, w, fun J H1 G1 ad1 e1 w1 wk => fun Dl hD => ?_⟩
  have hG1 : G1 Dl = none := w1.gh.none hD
  have hF : F Dl = none := w1.fh.none hD
  have had : ∀ j, Dl ∉ ad1 j := fun j q => by
    obtain ⟨o, ho⟩ := w1.there j Dl q
    rw [hD] at ho; cases ho
  refine ⟨fun i m H => m = ys.length - i ∧ i ≤ ys.length ∧ ∃ ρi Gi adi acc done todo, Ext F G1 Gi ∧ Gi Dl = none ∧ (∀ j, Dl ∉ adi j) ∧ Sta X.K F Gi H (wipe σ vs) (wipeA vs 0 ρi) adi ∧ H Dl = some (.lst acc) ∧ DaAll X.K Gi acc done ∧ done.length ≤ i ∧
    CL X scope tg ifs elt vs (ys.drop i) ρi todo ρ2 ∧ rs = done ++ todo, ⟨ys.length, by simp, Nat.zero_le _, ρ1, G1, ad1, [], [], rs, Ext.refl _ _, hG1, had, (w1.mutX hG1 hF had).wipe vs, upd_same, .nil, Nat.le_refl _, by simpa using hcl, rfl⟩, ?_⟩
  rintro i m H2 ⟨rfl, hle, ρi, Gi, adi, acc, done, todo, e2, g2, a2, w2, hacc, hdone, hlen, hl2, hrs⟩
  obtain ⟨ws, wg⟩ := wk H2 Gi e2.1 w2.gh
  obtain ⟨ρ0, le, hcase⟩ := cl_cases hl2
  have w2' := w2.le le
  rcases hcase with ⟨hnil, htodo, hρ⟩ | ⟨d, es, hcons, ρt, js, b, ρu, hj, ht, hb, ho⟩
  · have ei : i = ys.length := by
      have := List.drop_eq_nil_iff.mp hnil
      omega
    subst ei hρ htodo
    rw [List.append_nil] at hrs
    subst hrs
    exact .inl ⟨ws, k Dl acc H2 Gi adi (e1.trans e2) (w2'.unwipe w1 e2.1) hF g2 a2 hacc hdone⟩
  · obtain ⟨hd, hes⟩ := drop_cons hcons
    obtain ⟨hgo, hy⟩ := wg i d hd
    have hlt : i < ys.length := (List.getElem?_eq_some_iff.mp hd).1
    refine .inr ⟨hgo, fun H => ∃ ρi Gi adi acc done todo, Ext F G1 Gi ∧ Gi Dl = none ∧ (∀ j, Dl ∉ adi j) ∧ Sta X.K F Gi H (wipe σ vs) (wipeA vs 0 ρi) adi ∧ H Dl = some (.lst acc) ∧ DaAll X.K Gi acc done ∧ done.length ≤ i + 1 ∧
      CL X scope tg ifs elt vs (ys.drop (i + 1)) ρi todo ρ2 ∧ rs = done ++ todo, fun H' hN => ⟨ys.length - (i + 1), by omega, rfl, hlt, hN⟩, fun x H' hx => ?_⟩
    obtain ⟨G3, x1, x2, x3, x4⟩ := hy x H' hx
    have w3 := (w2'.framed hacc a2).grow x1 x2 x3
    have e3 : Ext (upd F Dl (.lst acc)) Gi G3 := x2.weak (w2'.framed hacc a2).fh
    refine ⟨d, _, ρt, js, ht, _, G3, adi, w3, x4, fun σ4 H4 G4 ad4 o4 e4 w4 => ⟨wipe_off o4 hj, ρt, b, ρu, hb, _, G4, ad4, w4, fun H5 G5 ad5 e5 w5 => ?_⟩⟩
    -- back from the frame that holds the list made so far
    have back : ∀ {G6 H6 : Hp} {ad6 : Nat → List Addr} {ρ6 : List Sl}, Ext (upd F Dl (.lst acc)) Gi G6 → Sta X.K (upd F Dl (.lst acc)) G6 H6 σ4 ρ6 ad6 → Ext F G1 G6 ∧ G6 Dl = none ∧ (∀ j, Dl ∉ ad6 j) ∧ Sta X.K F G6 H6 (wipe σ vs) (wipeA vs 0 ρ6) ad6 ∧ H6 Dl = some (.lst acc) := fun {G6 H6 ad6 ρ6} e6 w6 => by
      refine ⟨e2.trans (e6.weak (Ex.new hF)), e6.none (upd_same) g2, fun j q => ?_, ?_, w6.fh _ _ upd_same⟩
      · have := (w6.own j Dl q).2
        rw [upd_same] at this; cases this
      · have z := (w6.frame (Ex.new hF)).wipe vs
        rw [wipe_off o4 hj] at z
        exact z
    rcases ho with ⟨rfl, r, rs', ρ3, hr, he, hcl'⟩ | ⟨rfl, hcl'⟩
    · refine iteT ?_
      refine ⟨ρu, r, ρ3, he, _, G5, ad5, w5, fun v H6 G6 ad6 e6 w6 pv => ?_⟩
      obtain ⟨b1, b2, b3, b4, b5⟩ := back (((e3.trans e4).trans e5).trans e6) w6
      refine ⟨acc, b5, ?_, ρ3, G6, ad6, acc ++ [v], done ++ [r], rs', b1, b2, b3, b4.mutX b2 hF b3, upd_same, daAll_app (daAll_ex (((e3.trans e4).trans e5).trans e6).1 hdone) (.cons pv .nil), ?_, by rw [hes]; exact hcl', ?_⟩
      · rw [daAll_len hdone]
        have := sizeLine_big
        omega
      · rw [List.length_append, List.length_singleton]; omega
      · rw [hrs, hr, List.append_assoc]; rfl
    · refine iteF ?_
      obtain ⟨b1, b2, b3, b4, b5⟩ := back ((e3.trans e4).trans e5) w5
      exact ⟨ρu, G5, ad5, acc, done, todo, b1, b2, b3, b4, b5, daAll_ex ((e3.trans e4).trans e5).1 hdone, by omega, by rw [hes]; exact hcl', hrs⟩
theorem eo_lc {own : List (Str × Nat)} (hi : Iter X tg it ρ ys ρ1) (hcl : CL X scope tg ifs elt (own.map (·.2)) ys ρ1 rs ρ2) (hz : ys.length ≤ 1000000) (hN : X.N.Nodup) (ok : BlkOk X.N X.env.scope scope own) (hc : X.calm = true := by rfl) (hs : ∀ x, foldedSetIterable it X.env x = pure x := by intro _; rfl) :
    EO X (.ListComp elt [⟨tg, it, ifs, 0⟩] scope pos) ρ rs (joinA (own.map (·.2)) 0 ρ1 ρ2) :=
  pe_imp (pe_lc (g := anyBG X scope tg) (tt := anyBT X scope ifs) (te := anyBE X scope elt) hc hN hi ok (fun s H C cl fp => ⟨fun pins s' σ H v u Q I r ⟨d, ρ, ρ', js, h, k⟩ => (h _ _ C cl fp).run pins s' σ H v u Q I r k⟩) (fun s H C cl fp => ⟨fun pins s' σ H Q I ⟨ρ, b, ρ', h, k⟩ => (h _ _ C cl fp).run pins s' σ H Q I k⟩)
    (fun s H C cl fp => ⟨fun pins s' σ H Q I ⟨ρ, d, ρ', h, k⟩ => (h _ _ C cl fp).run pins s' σ H Q I k⟩) hs) fun σ H Q h => lc_read rfl hcl hz h
/-- y = [.. for ..] -/
theorem s_setLc (i : Nat) {own : List (Str × Nat)} {y : Str} {py spos : Pos} (hi : Iter X tg it ρ ys ρ1) (hcl : CL X scope tg ifs elt (own.map (·.2)) ys ρ1 rs ρ2) (hz : ys.length ≤ 1000000) (hN : X.N.Nodup) (ok : BlkOk X.N X.env.scope scope own) (hl : i < ρ2.length) (hc : X.calm = true := by rfl)
    (hy : X.N[i]? = some y := by rfl) (hyl : X.env.scope.names.lookup y = some .local := by rfl) (hsw : swapsWith (.ListComp elt [⟨tg, it, ifs, 0⟩] scope pos) (some (.Name y py)) spos.line X.env = pure true := by exact sw_true rfl rfl rfl (by decide +kernel)) (hs : ∀ x, foldedSetIterable it X.env x = pure x := by intro _; rfl) :
    S1 X (.Assign [.Name y py] (.ListComp elt [⟨tg, it, ifs, 0⟩] scope pos) spos) ρ (.nx ((joinA (own.map (·.2)) 0 ρ1 ρ2).set i (.own rs))) :=
  ps_imp (ps_setLc (i := i) (g := anyBG X scope tg) (tt := anyBT X scope ifs) (te := anyBE X scope elt) hc hN hy hyl hsw hi ok (fun s H C cl fp => ⟨fun pins s' σ H v u Q I r ⟨d, ρ, ρ', js, h, k⟩ => (h _ _ C cl fp).run pins s' σ H v u Q I r k⟩) (fun s H C cl fp => ⟨fun pins s' σ H Q I ⟨ρ, b, ρ', h, k⟩ => (h _ _ C cl fp).run pins s' σ H Q I k⟩)
    (fun s H C cl fp => ⟨fun pins s' σ H Q I ⟨ρ, d, ρ', h, k⟩ => (h _ _ C cl fp).run pins s' σ H Q I k⟩) hs) fun D σ H ⟨F, G, ad, w, k⟩ => lc_read rfl hcl hz ⟨F, G, ad, w, fun l xs H1 G1 ad1 e1 w1 q1 q2 q3 q4 q5 => k _ H1 G1 _ e1 (w1.setO q4 q5 q1 q2 q3 (by rw [joinA_len]; exact hl))⟩
end
end DL
end part_DLf
section part_DLg
namespace DL
open L2 PyProof.Rows PySem.Spec PySem
section
variable {X : Cx} {e a b c tg it l elt : Expr} {rest ifs : List Expr} {ρ ρ0 ρ1 ρ2 ρ3 : List Sl} {d d1 d2 d3 : PyData} {ds es ys rs : List PyData} {x : Str} {pos : Pos} {p q : Bool} {i j : Int}
theorem same_end {K : PySem.W.Frag} {H G : Hp} {Q : VK} {v : V} (e : Ex G H) (k : ∀ v H' G', Ex H H' → Ext H G G' → Ex G' H' → Da K G' v d → Q v H') (h : Da K G v d) : Q v H := k v H G (Ex.refl H) (Ext.refl H G) e h
theorem new_end {K : PySem.W.Frag} {H G : Hp} {Q : VK} {l : Addr} {xs : List V} (e : Ex G H) (k : ∀ v H' G', Ex H H' → Ext H G G' → Ex G' H' → Da K G' v (.tuple ds) → Q v H') (hl : H l = none) (h : DaAll K G xs ds) : Q (.ref l) (upd H l (.tup xs)) :=
  k _ _ (upd G l (.tup xs)) (Ex.new hl) (Ext.new hl (e.none hl)) e.both (.tup (SqT.of upd_same) (daAll_ex (Ex.new (e.none hl)) h))
/-! ### ints -/
theorem ov_int0 {f : Value → Value → Sem Value} {g : Int → Int → V} (h : OpR X f (rI0 g)) (hg : ∀ (G : Hp) i j, Da X.K G (g i j) (d)) : OpV X f (.int i) (.int j) d := op_imp h fun x y H Q ⟨G, e, p1, p2, k⟩ => by
  cases p1
  cases p2
  exact ⟨i, j, rfl, rfl, same_end e k (hg G i j)⟩
theorem ov_rI0 {f : Value → Value → Sem Value} {g : Int → Int → V} {gd : Int → Int → PyData} (h : OpR X f (rI0 g)) (hg : ∀ (G : Hp) i j, Da X.K G (g i j) (gd i j)) : OpV X f (.int i) (.int j) (gd i j) := op_imp h fun x y H Q ⟨G, e, p1, p2, k⟩ => by
  cases p1
  cases p2
  exact ⟨i, j, rfl, rfl, same_end e k (hg G i j)⟩
theorem ov_rI {f : Value → Value → Sem Value} {C : Int → Int → Prop} {g : Int → Int → V} {gd : Int → Int → PyData} (h : OpR X f (rI C g)) (hg : ∀ (G : Hp) i j, Da X.K G (g i j) (gd i j)) (hc : C i j) : OpV X f (.int i) (.int j) (gd i j) := op_imp h fun x y H Q ⟨G, e, p1, p2, k⟩ => by
  cases p1
  cases p2
  exact ⟨i, j, rfl, rfl, hc, same_end e k (hg G i j)⟩
theorem ov_add : OpV X (binaryOp .Add) (.int i) (.int j) (.int (i + j)) := ov_rI0 op_add fun _ _ _ => .int _
theorem ov_sub : OpV X (binaryOp .Sub) (.int i) (.int j) (.int (i - j)) := ov_rI0 op_sub fun _ _ _ => .int _
theorem ov_mul (h : CMulW i j) : OpV X (binaryOp .Mult) (.int i) (.int j) (.int (i * j)) := ov_rI op_mulW (fun _ _ _ => .int _) h
theorem ov_mulS (h : CMul i j) : OpV X (binaryOp .Mult) (.int i) (.int j) (.int (i * j)) := ov_rI op_mul (fun _ _ _ => .int _) h
theorem ov_mod (h : j ≠ 0) : OpV X (binaryOp .Mod) (.int i) (.int j) (.int (i.fmod j)) := ov_rI op_modN (fun _ _ _ => .int _) h
def CDivWN (_ j : Int) : Prop := j ≠ 0 ∧ j.natAbs.log2 < 9000
theorem op_fdivWN : OpR X (binaryOp .FloorDiv) (rI CDivWN fun i j => .int (i.fdiv j)) := opI fun _ _ _ _ _ _ _ hc q => floordiv_int hc.1 q (.inl (PyProof.noPylong_of_log2 hc.2))
theorem ov_fdiv (h : j ≠ 0) (h2 : j.natAbs.log2 < 9000) : OpV X (binaryOp .FloorDiv) (.int i) (.int j) (.int (i.fdiv j)) := ov_rI op_fdivWN (fun _ _ _ => .int _) ⟨h, h2⟩
theorem ov_lt : OpV X (compareOp .Lt) (.int i) (.int j) (.bool (decide (i < j))) := ov_rI0 op_lt fun _ _ _ => .bl _
theorem ov_le : OpV X (compareOp .LtE) (.int i) (.int j) (.bool (decide (i ≤ j))) := ov_rI0 op_le fun _ _ _ => .bl _
theorem ov_gt : OpV X (compareOp .Gt) (.int i) (.int j) (.bool (decide (j < i))) := ov_rI0 op_gt fun _ _ _ => .bl _
theorem ov_ge : OpV X (compareOp .GtE) (.int i) (.int j) (.bool (decide (j ≤ i))) := ov_rI0 op_ge fun _ _ _ => .bl _
theorem ov_eqI : OpV X (compareOp .Eq) (.int i) (.int j) (.bool (decide (i = j))) := op_imp op_eq fun x y H Q ⟨G, e, p1, p2, k⟩ => by
  cases p1
  cases p2
  have z : decide (V.int i = V.int j) = decide (i = j) := by rw [dec_int, Bool.beq_eq_decide_eq]
  exact ⟨rfl, by rw [z]; exact same_end e k (.bl _)⟩
theorem ov_neI : OpV X (compareOp .NotEq) (.int i) (.int j) (.bool (!decide (i = j))) := op_imp op_ne fun x y H Q ⟨G, e, p1, p2, k⟩ => by
  cases p1
  cases p2
  have z : decide (V.int i = V.int j) = decide (i = j) := by rw [dec_int, Bool.beq_eq_decide_eq]
  exact ⟨rfl, by rw [z]; exact same_end e k (.bl _)⟩
theorem ov_eqS {t u : Str} : OpV X (compareOp .Eq) (.str t) (.str u) (.bool (decide (t = u))) := op_imp op_eq fun x y H Q ⟨G, e, p1, p2, k⟩ => by
  cases p1
  cases p2
  have w : decide (V.str t = V.str u) = decide (t = u) := by rw [dec_str, Bool.beq_eq_decide_eq]
  exact ⟨rfl, by rw [w]; exact same_end e k (.bl _)⟩
theorem ov_neS {t u : Str} : OpV X (compareOp .NotEq) (.str t) (.str u) (.bool (!decide (t = u))) := op_imp op_ne fun x y H Q ⟨G, e, p1, p2, k⟩ => by
  cases p1
  cases p2
  have w : decide (V.str t = V.str u) = decide (t = u) := by rw [dec_str, Bool.beq_eq_decide_eq]
  exact ⟨rfl, by rw [w]; exact same_end e k (.bl _)⟩
def isNone : PyData → Bool
  | .none => true
  | _ => false
theorem isNone_of {K : PySem.W.Frag} {G : Hp} {v : V} (h : Da K G v d) : decide (v = .non) = isNone d := by cases h <;> rfl
theorem ov_is : OpV X (compareOp .Is) d .none (.bool (isNone d)) := op_imp op_isN fun x y H Q ⟨G, e, p1, p2, k⟩ => by
  cases p2
  exact ⟨rfl, by rw [isNone_of p1]; exact same_end e k (.bl _)⟩
theorem ov_isnt : OpV X (compareOp .IsNot) d .none (.bool (!isNone d)) := op_imp op_notN fun x y H Q ⟨G, e, p1, p2, k⟩ => by
  cases p2
  exact ⟨rfl, by rw [isNone_of p1]; exact same_end e k (.bl _)⟩
/-- -a -/
theorem e_neg (h : E X a ρ (.int i) ρ1) : E X (.UnaryOp .USub a pos) ρ (.int (-i)) ρ1 := pe_imp (pe_un un_neg h) fun σ H Q ⟨F, G, ad, w, k⟩ => ⟨F, G, ad, w, fun v H' G' ad' e w' q => by
  cases q
  exact ⟨i, rfl, k _ H' G' ad' e w' (.int _)⟩⟩
/-! ### data without dicts, for == and repr -/
mutual
def flatD : PyData → Bool
  | .list xs => flatDs xs
  | .tuple xs => flatDs xs
  | .dict _ => false
  | _ => true
def flatDs : List PyData → Bool
  | [] => true
  | x :: xs => flatD x && flatDs xs
end
mutual
theorem dp_of {K : PySem.W.Frag} {G H : Hp} (e : Ex G H) : ∀ {v : V} {d : PyData}, Da K G v d → flatD d = true → Dp K H v d
  | _, _, .non, _ => .non
  | _, _, .bl b, _ => .bl b
  | _, _, .int i, _ => .int i
  | _, _, .str x, _ => .str x
  | _, _, .lst h1 h2, f => .lst (SqL.of (e _ _ h1)) (dpAll_of e h2 (by simpa [flatD] using f))
  | _, _, .tup h1 h2, f => .tup (sqT_ex e h1) (dpAll_of e h2 (by simpa [flatD] using f))
  | _, _, .dct h1 h2, f => by simp [flatD] at f
theorem dpAll_of {K : PySem.W.Frag} {G H : Hp} (e : Ex G H) : ∀ {v : List V} {d : List PyData}, DaAll K G v d → flatDs d = true → DpAll K H v d
  | _, _, .nil, _ => .nil
  | _, _, .cons h1 h2, f => by
    have f' := Bool.and_eq_true_iff.mp (by simpa [flatDs] using f)
    exact .cons (dp_of e h1 f'.1) (dpAll_of e h2 f'.2)
end
/-- == over data -/
theorem ov_eqD (hu : X.A.units + 64 < cLine) (h1 : SeqAt.shaped d1 = true) (h2 : SeqAt.shaped d2 = true) (f1 : flatD d1 = true) (f2 : flatD d2 = true) : OpV X (compareOp .Eq) d1 d2 (.bool (PyData.eqv d1 d2)) := op_imp (op_eqD hu) fun x y H Q ⟨G, e, p1, p2, k⟩ =>
  ⟨d1, d2, dp_of e p1 f1, dp_of e p2 f2, h1, h2, same_end e k (.bl _)⟩
theorem ov_neD (hu : X.A.units + 64 < cLine) (h1 : SeqAt.shaped d1 = true) (h2 : SeqAt.shaped d2 = true) (f1 : flatD d1 = true) (f2 : flatD d2 = true) : OpV X (compareOp .NotEq) d1 d2 (.bool (!PyData.eqv d1 d2)) := op_imp (op_neD hu) fun x y H Q ⟨G, e, p1, p2, k⟩ =>
  ⟨d1, d2, dp_of e p1 f1, dp_of e p2 f2, h1, h2, same_end e k (.bl _)⟩
/-! ### subscripts -/
def IxV (X : Cx) (d1 d2 d : PyData) : Prop := IxR X (cOp X.K d1 d2 d)
theorem ix_imp {r r' : R2} (h : IxR X r) (k : ∀ x y H Q, r' x y H Q → r x y H Q) : IxR X r' := fun e1 e2 pins s σ H x y v u Q I rx ry q hs => h e1 e2 pins s σ H x y v u Q I rx ry (k x y H Q q) hs
theorem atI_len {α β : Type} {xs : List α} {ys : List β} (hl : xs.length = ys.length) {y : β} (h : atI ys i = some y) : ∃ k : Nat, ys[k]? = some y ∧ ∀ x, xs[k]? = some x → atI xs i = some x := by
  unfold atI at h ⊢
  rw [hl]
  cases e : ixN ys.length i with
  | none => rw [e] at h; cases h
  | some k =>
    rw [e] at h
    exact ⟨k, h, fun x hx => hx⟩
theorem ixv_tup (h : atI ds i = some d) : IxV X (.tuple ds) (.int i) d := ix_imp ix_tup fun x y H Q ⟨G, e, p1, p2, k⟩ => by
  cases p1 with
  | tup h1 h2 =>
    cases p2
    obtain ⟨j, hj, hx⟩ := atI_len (daAll_len h2) h
    obtain ⟨v, hv, pv⟩ := daAll_get h2 hj
    exact ⟨_, _, i, v, rfl, rfl, sqT_ex e h1, hx v hv, same_end e k pv⟩
theorem ixv_lst (h : atI ds i = some d) : IxV X (.list ds) (.int i) d := ix_imp ix_list fun x y H Q ⟨G, e, p1, p2, k⟩ => by
  cases p1 with
  | lst h1 h2 =>
    cases p2
    obtain ⟨j, hj, hx⟩ := atI_len (daAll_len h2) h
    obtain ⟨v, hv, pv⟩ := daAll_get h2 hj
    exact ⟨_, _, i, v, rfl, rfl, SqL.of (e _ _ h1), hx v hv, same_end e k pv⟩
theorem e_ix (ha : E X a ρ d1 ρ1) (hb : E X b ρ1 d2 ρ2) (ho : IxV X d1 d2 d) (hs : PlainIx b := by exact fun _ _ => rfl) : E X (.Subscript a b pos) ρ d ρ2 :=
  pe_imp (pe_ix ho ha hb hs) fun σ H Q h => two rfl rfl (fun _ _ _ _ z => z) h
/-- t[0], t a tuple -/
theorem e_ixt {k : Nat} {j : Nat} {pos2 : Pos} (ha : E X a ρ (.tuple ds) ρ1) (h : ds[k]? = some d := by rfl) : E X (.Subscript a (.Constant (.int (k : Int)) j pos2) pos) ρ d ρ1 :=
  e_ix ha e_int (ixv_tup (atI_nat h))
theorem e_ixl {k : Nat} {j : Nat} {pos2 : Pos} (ha : E X a ρ (.list ds) ρ1) (h : ds[k]? = some d := by rfl) : E X (.Subscript a (.Constant (.int (k : Int)) j pos2) pos) ρ d ρ1 :=
  e_ix ha e_int (ixv_lst (atI_nat h))
/-! ### built-ins -/
theorem cv_one {f : Value} {r : List V → Hp → VK → Prop} (h : CallR X f r) (k : ∀ v H G Q, Ex G H → Da X.K G v d1 → (∀ v H' G', Ex H H' → Ext H G G' → Ex G' H' → Da X.K G' v d → Q v H') → r [v] H Q) : CV X f [d1] d := call_imp h fun vs H Q ⟨G, e, p, q⟩ => by
  obtain ⟨v, rfl, pv⟩ := daAll_one p
  exact k v H G Q e pv q
theorem cv_abs : CV X (.builtin "abs") [.int i] (.int (if i < 0 then -i else i)) := cv_one call_abs fun v H G Q e p k => by
  cases p
  exact ⟨i, rfl, same_end e k (.int _)⟩
theorem cv_int : CV X (.type "int") [.int i] (.int i) := cv_one call_int1 fun v H G Q e p k => by
  cases p
  exact .inl ⟨i, rfl, same_end e k (.int _)⟩
theorem cv_intB : CV X (.type "int") [.bool p] (.int (if p then 1 else 0)) := cv_one call_int1 fun v H G Q e q k => by
  cases q
  exact .inr ⟨p, rfl, same_end e k (.int _)⟩
theorem cv_max (hc : X.calm = true) : CV X (.builtin "max") [.int i, .int j] (.int (if j > i then j else i)) := call_imp (call_max2 hc) fun vs H Q ⟨G, e, p, q⟩ => by
  obtain ⟨v, u, rfl, pv, pu⟩ := daAll_two p
  cases pv
  cases pu
  exact ⟨i, j, rfl, same_end e q (.int _)⟩
theorem cv_min (hc : X.calm = true) : CV X (.builtin "min") [.int i, .int j] (.int (if j < i then j else i)) := call_imp (call_min2 hc) fun vs H Q ⟨G, e, p, q⟩ => by
  obtain ⟨v, u, rfl, pv, pu⟩ := daAll_two p
  cases pv
  cases pu
  exact ⟨i, j, rfl, same_end e q (.int _)⟩
theorem cv_gcd : CV X (.builtin "math.gcd") [.int i, .int j] (.int ((Nat.gcd i.natAbs j.natAbs : Nat) : Int)) := call_imp cr_gcd fun vs H Q ⟨G, e, p, q⟩ => by
  obtain ⟨v, u, rfl, pv, pu⟩ := daAll_two p
  cases pv
  cases pu
  exact ⟨i, j, rfl, same_end e q (.int _)⟩
theorem cv_lenL : CV X (.builtin "len") [.list ds] (.int (ds.length : Int)) := cv_one call_len_seq fun v H G Q e p k => by
  cases p with
  | lst h1 h2 => exact ⟨_, _, rfl, .inl (SqL.of (e _ _ h1)), by rw [daAll_len h2]; exact same_end e k (.int _)⟩
theorem cv_lenT : CV X (.builtin "len") [.tuple ds] (.int (ds.length : Int)) := cv_one call_len_seq fun v H G Q e p k => by
  cases p with
  | tup h1 h2 => exact ⟨_, _, rfl, .inr (sqT_ex e h1), by rw [daAll_len h2]; exact same_end e k (.int _)⟩
theorem cv_tupL : CV X (.type "tuple") [.list ds] (.tuple ds) := cv_one call_tuple_of fun v H G Q e p k => by
  cases p with
  | lst h1 h2 => exact ⟨_, _, rfl, .inl ⟨SqL.of (e _ _ h1), fun l hl => new_end e k hl h2⟩⟩
theorem cv_tupT : CV X (.type "tuple") [.tuple ds] (.tuple ds) := cv_one call_tuple_of fun v H G Q e p k => by
  cases p with
  | tup h1 h2 => exact ⟨_, _, rfl, .inr ⟨sqT_ex e h1, same_end e k (.tup h1 h2)⟩⟩
theorem co_new {K : PySem.W.Frag} {H G : Hp} {Q : VK} {xs : List V} (e : Ex G H) (k : ∀ l xs H' G', Ex H H' → Ext H G G' → Ex G' H' → H l = none → G' l = none → H' l = some (.lst xs) → DaAll K G' xs es → Q (.ref l) H') (h : DaAll K G xs es) (l : Addr) (hl : H l = none) : Q (.ref l) (upd H l (.lst xs)) :=
  k l xs _ G (Ex.new hl) (Ext.refl H G) (e.mut (e.none hl)) hl (e.none hl) upd_same h
theorem co_listL : CO X (.type "list") [.list ds] ds := call_imp call_list_of fun vs H Q ⟨G, e, p, q⟩ => by
  obtain ⟨v, rfl, pv⟩ := daAll_one p
  cases pv with
  | lst h1 h2 => exact ⟨_, _, rfl, .inl (SqL.of (e _ _ h1)), fun l hl => co_new e q h2 l hl⟩
theorem co_listT : CO X (.type "list") [.tuple ds] ds := call_imp call_list_of fun vs H Q ⟨G, e, p, q⟩ => by
  obtain ⟨v, rfl, pv⟩ := daAll_one p
  cases pv with
  | tup h1 h2 => exact ⟨_, _, rfl, .inr (sqT_ex e h1), fun l hl => co_new e q h2 l hl⟩
theorem cv_all {bs : List Bool} (hc : X.calm = true) : CV X (.builtin "all") [.list (bs.map PyData.bool)] (.bool (bs.all id)) := cv_one (cr_all hc) fun v H G Q e p k => by
  cases p with
  | lst h1 h2 =>
    have z := bls_daAll h2
    subst z
    exact ⟨_, bs, rfl, SqL.of (e _ _ h1), same_end e k (.bl _)⟩
theorem cv_any {bs : List Bool} (hc : X.calm = true) : CV X (.builtin "any") [.list (bs.map PyData.bool)] (.bool (bs.any id)) := cv_one (cr_any hc) fun v H G Q e p k => by
  cases p with
  | lst h1 h2 =>
    have z := bls_daAll h2
    subst z
    exact ⟨_, bs, rfl, SqL.of (e _ _ h1), same_end e k (.bl _)⟩
/-! ### lists -/
theorem oo_cat (hz : ds.length + es.length ≤ 1000000) : OpO X (binaryOp .Add) (.list ds) (.list es) (ds ++ es) := op_imp op_cat fun x y H Q ⟨G, e, p1, p2, k⟩ => by
  cases p1 with
  | lst h1 h2 =>
    cases p2 with
    | lst h3 h4 => exact ⟨_, _, _, _, rfl, rfl, e _ _ h1, e _ _ h3, by rw [daAll_len h2, daAll_len h4]; exact Nat.le_trans hz sizeLine_big, fun l hl => k l _ hl (daAll_app h2 h4)⟩
theorem ov_catT (hz : ds.length + es.length ≤ 1000000) (hd : ds ≠ []) : OpV X (binaryOp .Add) (.tuple ds) (.tuple es) (.tuple (ds ++ es)) := op_imp op_catT fun x y H Q ⟨G, e, p1, p2, k⟩ => by
  cases p1 with
  | tup h1 h2 =>
    cases p2 with
    | tup h3 h4 =>
      refine ⟨_, _, _, _, rfl, rfl, sqT_ex e h1, sqT_ex e h3, fun z => ?_, by rw [daAll_len h2, daAll_len h4]; exact Nat.le_trans hz sizeLine_big, fun z => ?_, fun z l hl => new_end e k hl (daAll_app h2 h4)⟩
      · subst z; cases h2; exact hd rfl
      · subst z; cases h4
        rw [List.append_nil] at k
        exact same_end e k (.tup h1 h2)
end
end DL
end part_DLg
section part_DLh
namespace DL
open L2 PyProof.Rows PySem.Spec PySem
section
variable {X : Cx} {e a b c tg it l elt : Expr} {rest ifs : List Expr} {ρ ρ0 ρ1 ρ2 ρ3 : List Sl} {d d1 d2 d3 : PyData} {ds es ys rs : List PyData} {x : Str} {pos : Pos} {p q : Bool} {i j : Int}
/-! ### lists of one's own -/
theorem Sta.own_at {K : PySem.W.Frag} {F G H : Hp} {σ : L2.St} {ad : Nat → List Addr} {k : Nat} (w : Sta K F G H σ ρ ad) (h : ρ[k]? = some (.own ds)) : ∃ l xs, σ[k]? = some (some (.ref l)) ∧ H l = some (.lst xs) ∧ DaAll K G xs ds ∧ G l = none := by
  obtain ⟨l, xs, h1, h2, h3, h4⟩ := w.hold k _ h
  exact ⟨l, xs, h1, h3, h4, (w.own k l h2).1⟩
theorem s_append (k : Nat) {apos cpos npos : Pos} (h : E X e ρ d ρ1) (hk : ρ[k]? = some (.own es) := by rfl) (hk1 : ρ1[k]? = some (.own ds) := by rfl) (hz : ds.length < 1000000) (hN : X.N[k]? = some x := by rfl) (hv : Vis X.env.scope x := by first | exact Or.inl rfl | exact Or.inr (Or.inl rfl) | exact Or.inr (Or.inr rfl))
    (hd : (x == ("__debug__" : Str)) = false := by decide) (hcd : (x == ("__classdict__" : Str)) = false := by decide)
    (pe : ∀ {te : TE}, PE X e te → PE X (.Call (.Attribute (.Name x npos) "append" apos) [e] [] cpos) (tBM X.K "list" rAppend (tVar k) (tCons te tNil)) := by exact fun h => pe_bm PySem.F.plainAttrs_list PySem.F.slot_list_append PySem.F.type_list_append mt_append (pv _) (pa_cons h pa_nil))
    (hs : swapsWith (.Call (.Attribute (.Name x npos) "append" apos) [e] [] cpos) none pos.line X.env = pure false := by rfl) :
    S1 X (.Expr (.Call (.Attribute (.Name x npos) "append" apos) [e] [] cpos) pos) ρ (.nx (ρ1.set k (.own (ds ++ [d])))) :=
  ps_imp (ps_expr (pe h) hs) fun D σ H ⟨F, G, ad, w, q⟩ => by
    obtain ⟨l, xs, h1, h2, h3, h4⟩ := w.own_at hk
    refine ⟨_, h1, .inl ⟨rfl, _, .inl (.inl h2)⟩, F, G, ad, w, fun v H1 G1 ad1 e1 w1 p1 => ?_⟩
    obtain ⟨l', xs', g1, g2, g3, g4⟩ := w1.own_at hk1
    have el : l' = l := by
      rw [h1] at g1
      cases g1
      rfl
    subst el
    exact ⟨l', xs', v, rfl, rfl, g2, by rw [daAll_len g3]; exact Nat.lt_of_lt_of_le hz sizeLine_big, q σ _ G1 ad1 e1 (w1.mutO hk1 h1 (daAll_app g3 (.cons p1 .nil)))⟩
/-- xs.pop(e), a value -/
theorem e_popAt (k : Nat) {apos cpos npos : Pos} (h : E X e ρ (.int i) ρ1) (hi : 0 ≤ i) {j : Nat} (hj : i = (j : Int)) (hk : ρ[k]? = some (.own es) := by rfl) (hk1 : ρ1[k]? = some (.own ds) := by rfl) (hg : ds[j]? = some d) (hz : ds.length < 1000000) (hN : X.N[k]? = some x := by rfl) (hv : Vis X.env.scope x := by first | exact Or.inl rfl | exact Or.inr (Or.inl rfl) | exact Or.inr (Or.inr rfl))
    (hd : (x == ("__debug__" : Str)) = false := by decide) (hcd : (x == ("__classdict__" : Str)) = false := by decide)
    (pe : ∀ {te : TE}, PE X e te → PE X (.Call (.Attribute (.Name x npos) "pop" apos) [e] [] cpos) (tBM X.K "list" rPopAt (tVar k) (tCons te tNil)) := by exact fun h => pe_bm PySem.F.plainAttrs_list PySem.F.slot_list_pop PySem.F.type_list_pop mt_popAt (pv _) (pa_cons h pa_nil)) :
    E X (.Call (.Attribute (.Name x npos) "pop" apos) [e] [] cpos) ρ d (ρ1.set k (.own (ds.eraseIdx j))) :=
  pe_imp (pe h) fun σ H Q ⟨F, G, ad, w, q⟩ => by
    obtain ⟨l, xs, h1, h2, h3, h4⟩ := w.own_at hk
    refine ⟨_, h1, .inl ⟨rfl, _, .inl (.inl h2)⟩, F, G, ad, w, fun v H1 G1 ad1 e1 w1 p1 => ?_⟩
    cases p1
    obtain ⟨l', xs', g1, g2, g3, g4⟩ := w1.own_at hk1
    have el : l' = l := by
      rw [h1] at g1
      cases g1
      rfl
    subst el
    obtain ⟨v, hv, pv⟩ := daAll_get g3 hg
    have hl := daAll_len g3
    have hlt : j < xs'.length := (List.getElem?_eq_some_iff.mp hv).1
    refine ⟨l', xs', i, j, v, rfl, rfl, g2, by omega, by omega, ?_, hv, q v _ G1 ad1 e1 (w1.mutO hk1 h1 (daAll_erase j g3)) pv⟩
    have := (ixN_seq (n := xs'.length) (i := i) (j := j) (by unfold ixN; rw [if_pos hi, if_pos (by omega), hj]; rfl)).1
    exact this
/-! ### the source's fields -/
theorem kne (y z : Str) (h : y ≠ z) : decide ((Sum.inr y : Key) = Sum.inr z) = false := decide_eq_false fun q => h (Sum.inr.inj q)
theorem valV_cons {y : Str} {v : V} {r : List (Key × V)} (z : Str) : valV ((Sum.inr y, v) :: r) (Sum.inr z) = if y = z then some v else valV r (Sum.inr z) := by
  unfold valV
  rw [List.find?_cons]
  by_cases h : y = z
  · subst h
    simp
  · rw [kne y z h, if_neg h]
theorem src_left (l : Addr) (t : Src) : valV (srcK l t) (Sum.inr "left") = some (.int t.left) := by
  unfold srcK
  rw [valV_cons, if_neg (by decide), valV_cons, if_pos rfl]
theorem src_mixed (l : Addr) (t : Src) : valV (srcK l t) (Sum.inr "mixed") = some (.int t.mixed) := by
  unfold srcK
  rw [valV_cons, if_neg (by decide), valV_cons, if_neg (by decide), valV_cons, if_pos rfl]
theorem src_turn (l : Addr) (t : Src) : valV (srcK l t) (Sum.inr "turn") = some (.int t.turn) := by
  unfold srcK
  rw [valV_cons, if_neg (by decide), valV_cons, if_neg (by decide), valV_cons, if_neg (by decide), valV_cons, if_pos rfl]
theorem src_cells (l : Addr) (t : Src) : valV (srcK l t) (Sum.inr "cells") = some (.ref l) := by
  unfold srcK
  rw [valV_cons, if_pos rfl]
/-- other keys than the source's own four -/
def moreOk (t : Src) : Prop := ∀ kv ∈ t.more, kv.1 ≠ (Sum.inr "cells" : Key) ∧ kv.1 ≠ (Sum.inr "left" : Key) ∧ kv.1 ≠ (Sum.inr "mixed" : Key) ∧ kv.1 ≠ (Sum.inr "turn" : Key)
theorem putK_here {y : Str} {v w : V} {pre post : List (Key × V)} (h1 : ∀ kv ∈ pre, kv.1 ≠ Sum.inr y) (h2 : ∀ kv ∈ post, kv.1 ≠ Sum.inr y) : putK (pre ++ (Sum.inr y, v) :: post) (Sum.inr y) w = pre ++ (Sum.inr y, w) :: post := by
  unfold putK
  rw [if_pos (by simp)]
  have id_of : ∀ l : List (Key × V), (∀ kv ∈ l, kv.1 ≠ Sum.inr y) → (l.map fun kv => if kv.1 = Sum.inr y then (kv.1, w) else kv) = l := fun l h => by
    induction l with
    | nil => rfl
    | cons z r ih =>
      rw [List.map_cons, ih fun kv hm => h kv (List.mem_cons_of_mem _ hm), if_neg (h z List.mem_cons_self)]
  rw [List.map_append, List.map_cons, id_of pre h1, id_of post h2, if_pos rfl]
theorem ne_k {y z : Str} {v : V} (h : y ≠ z := by decide) : ((Sum.inr y, v) : Key × V).1 ≠ (Sum.inr z : Key) := fun q => h (Sum.inr.inj q)
theorem put_left (l : Addr) (t : Src) (hm : moreOk t) (n : Int) : putK (srcK l t) (Sum.inr "left") (.int n) = srcK l { t with left := n } :=
  putK_here (pre := [(Sum.inr "cells", V.ref l)]) (post := (Sum.inr "mixed", V.int t.mixed) :: (Sum.inr "turn", V.int t.turn) :: t.more) (by intro kv h; rw [List.mem_singleton] at h; subst h; exact ne_k) (by
    intro kv h
    simp only [List.mem_cons] at h
    rcases h with rfl | rfl | h
    · exact ne_k
    · exact ne_k
    · exact (hm kv h).2.1)
theorem put_mixed (l : Addr) (t : Src) (hm : moreOk t) (n : Int) : putK (srcK l t) (Sum.inr "mixed") (.int n) = srcK l { t with mixed := n } :=
  putK_here (pre := [(Sum.inr "cells", V.ref l), (Sum.inr "left", V.int t.left)]) (post := (Sum.inr "turn", V.int t.turn) :: t.more) (by intro kv h; simp only [List.mem_cons, List.not_mem_nil, or_false] at h; rcases h with rfl | rfl <;> exact ne_k) (by
    intro kv h
    simp only [List.mem_cons] at h
    rcases h with rfl | h
    · exact ne_k
    · exact (hm kv h).2.2.1)
theorem put_turn (l : Addr) (t : Src) (hm : moreOk t) (n : Int) : putK (srcK l t) (Sum.inr "turn") (.int n) = srcK l { t with turn := n } :=
  putK_here (pre := [(Sum.inr "cells", V.ref l), (Sum.inr "left", V.int t.left), (Sum.inr "mixed", V.int t.mixed)]) (post := t.more) (by intro kv h; simp only [List.mem_cons, List.not_mem_nil, or_false] at h; rcases h with rfl | rfl | rfl <;> exact ne_k) (by
    intro kv h
    exact (hm kv h).2.2.2)
variable {s0 l0 : Addr} {t : Src}
/-- source["left"] .. -/
theorem e_src (k : Nat) {key : Str} {npos cpos : Pos} {jj : Nat} {n : Int} (hf : ∀ l, valV (srcK l t) (Sum.inr key) = some (.int n)) (hu : X.A.units + 1 < cLine) (hk : ρ[k]? = some (.src s0 l0 t) := by rfl) (hN : X.N[k]? = some x := by rfl) (hv : Vis X.env.scope x := by first | exact Or.inl rfl | exact Or.inr (Or.inl rfl) | exact Or.inr (Or.inr rfl))
    (hd : (x == ("__debug__" : Str)) = false := by decide) (hcd : (x == ("__classdict__" : Str)) = false := by decide) : E X (.Subscript (.Name x npos) (.Constant (.str key) jj cpos) pos) ρ (.int n) ρ :=
  pe_imp (pe_dget hu (pe_var hN hv hd hcd) pe_str (fun _ _ => rfl)) fun σ H Q ⟨F, G, ad, w, q⟩ => by
    obtain ⟨h1, h2, h3, h4⟩ := w.hold k _ hk
    exact ⟨_, h1, s0, _, rfl, by rw [← hf l0]; exact DGet.k (k := Sum.inr key) h4.d, q _ H G ad (Ext.refl F G) w (.int n)⟩
theorem e_srcLen (k : Nat) {npos cpos spos p0 : Pos} {jj : Nat} (hu : X.A.units + 1 < cLine) (hm : X.mg "len" = none) (hk : ρ[k]? = some (.src s0 l0 t) := by rfl) (hg : Gl X "len" := by rfl) (hN : X.N[k]? = some x := by rfl) (hv : Vis X.env.scope x := by first | exact Or.inl rfl | exact Or.inr (Or.inl rfl) | exact Or.inr (Or.inr rfl))
    (hd : (x == ("__debug__" : Str)) = false := by decide) (hcd : (x == ("__classdict__" : Str)) = false := by decide)
    (he : starEach [(.Subscript (.Name x npos) (.Constant (.str "cells") jj cpos) spos)] X.env = (false, eval (.Subscript (.Name x npos) (.Constant (.str "cells") jj cpos) spos) X.env) :: starEach [] X.env := by rfl) (hpl : (backTo pos (starEach [] X.env)).any (·.1) = false := by rfl) :
    E X (.Call (.Name "len" p0) [.Subscript (.Name x npos) (.Constant (.str "cells") jj cpos) spos] [] pos) ρ (.int (t.cells.length : Int)) ρ :=
  pe_imp (pe_callB call_len_seq hg hm (by decide +kernel) (pa_cons (pe_dget hu (pe_var hN hv hd hcd) pe_str (fun _ _ => rfl)) pa_nil he) (by decide) (by decide) he hpl) fun σ H Q ⟨F, G, ad, w, q⟩ => by
    obtain ⟨h1, h2, h3, h4⟩ := w.hold k _ hk
    refine ⟨_, h1, s0, _, rfl, by rw [← src_cells l0 t]; exact DGet.k (k := Sum.inr "cells") h4.d, l0, _, rfl, .inl (SqL.of h4.c), ?_⟩
    rw [List.length_map]
    exact q _ H G ad (Ext.refl F G) w (.int _)
theorem e_srcPop (k : Nat) {npos cpos spos apos : Pos} {jj : Nat} {n : Int} (hu : X.A.units + 1 < cLine) (hk : ρ[k]? = some (.src s0 l0 t) := by rfl) (hlast : t.cells[t.cells.length - 1]? = some n) (hN : X.N[k]? = some x := by rfl) (hv : Vis X.env.scope x := by first | exact Or.inl rfl | exact Or.inr (Or.inl rfl) | exact Or.inr (Or.inr rfl))
    (hd : (x == ("__debug__" : Str)) = false := by decide) (hcd : (x == ("__classdict__" : Str)) = false := by decide)
    (pe : ∀ {te : TE}, PE X (.Subscript (.Name x npos) (.Constant (.str "cells") jj cpos) spos) te → PE X (.Call (.Attribute (.Subscript (.Name x npos) (.Constant (.str "cells") jj cpos) spos) "pop" apos) [] [] pos) (tBM0 X.K "list" rPop te) := by exact fun h => pe_bm0 PySem.F.plainAttrs_list PySem.F.slot_list_pop PySem.F.type_list_pop mt_pop h) :
    E X (.Call (.Attribute (.Subscript (.Name x npos) (.Constant (.str "cells") jj cpos) spos) "pop" apos) [] [] pos) ρ (.int n) (ρ.set k (.src s0 l0 { t with cells := t.cells.dropLast })) :=
  pe_imp (pe (pe_dget hu (pe_var hN hv hd hcd) pe_str (fun _ _ => rfl))) fun σ H Q ⟨F, G, ad, w, q⟩ => by
    obtain ⟨h1, h2, h3, h4⟩ := w.hold k _ hk
    refine ⟨_, h1, s0, V.ref l0, rfl, by rw [← src_cells l0 t]; exact DGet.k (k := Sum.inr "cells") h4.d, .inl ⟨rfl, _, .inl (.inl h4.c)⟩, l0, _, .int n, rfl, rfl, h4.c, by rw [List.length_map, List.getElem?_map, hlast]; rfl, ?_⟩
    have fs := w.own k s0 h2
    have fl := w.own k l0 h3
    have ne : s0 ≠ l0 := ne_of h4.d h4.c (by intro z; cases z)
    obtain ⟨y1, y2⟩ := w.src (H' := upd H l0 (.lst (t.cells.map V.int).dropLast)) (G' := G) (t' := { t with cells := t.cells.dropLast }) hk (Ext.refl _ G) (fun a o ho => by
      rw [upd_ne (hide2_of ho).2]
      exact hide2_ex a o ho) (w.gh.mut fl.1) ⟨by rw [upd_ne ne]; exact h4.d, by rw [upd_same, List.map_dropLast]⟩ fs.1 fl.1
    exact q _ _ G ad y1 y2 (.int n)
theorem s_srcSet (k : Nat) {key : Str} {npos cpos pos' : Pos} {jj : Nat} {n : Int} {t' : Src} (h : E X e ρ (.int n) ρ1) (hu : X.A.units + 1 < cLine) (hput : ∀ l, putK (srcK l t) (Sum.inr key) (.int n) = srcK l t') (hcells : t'.cells = t.cells) (hlen : t.more.length < 1000) (hk : ρ1[k]? = some (.src s0 l0 t) := by rfl) (hN : X.N[k]? = some x := by rfl) (hv : Vis X.env.scope x := by first | exact Or.inl rfl | exact Or.inr (Or.inl rfl) | exact Or.inr (Or.inr rfl))
    (hd : (x == ("__debug__" : Str)) = false := by decide) (hcd : (x == ("__classdict__" : Str)) = false := by decide) (hs : swapsWith e (some (.Subscript (.Name x npos) (.Constant (.str key) jj cpos) pos')) pos.line X.env = pure false := by rfl) :
    S1 X (.Assign [.Subscript (.Name x npos) (.Constant (.str key) jj cpos) pos'] e pos) ρ (.nx (ρ1.set k (.src s0 l0 t'))) :=
  ps_imp (ps_dput hu (pe_var hN hv hd hcd) pe_str h hs) fun D σ H ⟨F, G, ad, w, q⟩ => ⟨F, G, ad, w, fun v H1 G1 ad1 e1 w1 p1 => by
    cases p1
    obtain ⟨h1, h2, h3, h4⟩ := w1.hold k _ hk
    have fs := w1.own k s0 h2
    have fl := w1.own k l0 h3
    have ne : s0 ≠ l0 := ne_of h4.d h4.c (by intro z; cases z)
    refine ⟨_, h1, s0, _, rfl, DPut.k (k := Sum.inr key) h4.d (by unfold srcK; simp only [List.length_cons]; have := sizeLine_big; omega), ?_⟩
    rw [hput]
    obtain ⟨y1, y2⟩ := w1.src (H' := upd H1 s0 (.dK (srcK l0 t'))) (G' := G1) (t' := t') hk (Ext.refl _ G1) (fun a o ho => by
      rw [upd_ne (hide2_of ho).1]
      exact hide2_ex a o ho) (w1.gh.mut fs.1) ⟨upd_same, by rw [upd_ne (Ne.symm ne), hcells]; exact h4.c⟩ fs.1 fl.1
    exact q σ _ G1 ad1 (e1.trans y1) y2⟩
end
end DL
end part_DLh
section part_DLi
namespace DL
open L2 PyProof.Rows PySem.Spec PySem
/-! ### a def's body -/
structure CxA where
  f : Addr
  cdv : Value
  A : Around
  outer : List Env
  s : Shared
  H : Hp
  E : XK
section
variable (P : Program) (w : World) (K : PySem.W.Frag) (mg : Str → Option Value) (base : Heap)
/-- the context of the body of st, the def x with the names N -/
abbrev cx (N : List Str) (x : Str) (st : Stmt) (a : CxA) : Cx := (cxOf L2.CX0 P w K mg base N x (defScope st) a.f a.cdv a.A a.outer a.s a.H a.E).nox
/-- the def x of the text st stands behind the top -/
structure Put (x : Str) (st : Stmt) : Prop where
  ex : ∃ f fd, mg x = some (.ref f) ∧ FunD K x x (defArgs st) (defBody st) (defScope st) [] [] f fd
/-- .. and keeps sp -/
structure Def (x : Str) (k : Nat) (ps : List Str) (sp : Sp) : Prop where
  ex : ∃ f fd, mg x = some (.ref f) ∧ PySem.W.keepIn K (.ref f) = true ∧ Binds K fd ps [] ∧ FnG P w K mg base L2.CX0 k f fd ps sp
end
def dataS (N : List Str) (n : Nat) (l : List Sl) : List Sl := l ++ List.replicate (N.length - n) Sl.un
section
variable {P : Program} {w : World} {K : PySem.W.Frag} {mg : Str → Option Value} {base : Heap} {x : Str} {st : Stmt} {N ps : List Str} {k : Nat} {sp : Sp}
/-- room for calls; no repr under way -/
abbrev Rm (k : Nat) (A : Around) : Prop := Room k A ∧ A.guards = some []
theorem Def.known {A : Around} {j : Nat} (d : Def P w K mg base x k ps sp) (hr : Rm j A) (h : k ≤ j := by decide) : Known P w K mg base A x sp := by
  obtain ⟨f, fd, h1, h2, h3, h4⟩ := d.ex
  exact ⟨k, f, fd, ps, h4, ⟨hr.1.mono h, hr.2⟩, h1, h2, h3⟩
/-- how the arguments bind -/
abbrev BindsOf (st : Stmt) (x : Str) (ps : List Str) : Prop := ∀ (kV doc pm : Value) (an : Option Addr) (cdv ct : Value) (us : List Value), us.length = ps.length → bindArgs (PySem.W.fnOf x x (defArgs st) (defBody st) (defScope st) .none kV doc pm an cdv ct) ⟨us, []⟩ = pure (ps.zip us)
theorem sta0 {F G H : Hp} {N : List Str} {vs : List V} {l : List Sl} (e1 : Ex G H) (e2 : Ex F H) (hl : vs.length = l.length) (hN : vs.length ≤ N.length) (ad : Nat → List Addr) (h1 : ∀ i a, a ∈ ad i → G a = none ∧ F a = none) (h2 : ∀ i a, a ∈ ad i → ∃ o, H a = some o) (h3 : ∀ i j a, a ∈ ad i → a ∈ ad j → i = j)
    (h : ∀ i r, l[i]? = some r → Hold K G H ((vs.map some)[i]?) (ad i) r) : Sta K F G H (L2.start N vs) (dataS N vs.length l) ad :=
  ⟨e1, e2, h1, h2, h3, by unfold L2.start dataS; simp [hl], fun i r q => by
    unfold dataS at q
    unfold L2.start
    by_cases hi : i < l.length
    · rw [List.getElem?_append_left hi] at q
      rw [List.getElem?_append_left (by rw [List.length_map, hl]; exact hi)]
      exact h i r q
    · rw [List.getElem?_append_right (by omega), List.getElem?_replicate] at q
      split at q
      · cases q
        trivial
      · cases q⟩
theorem startData {G : Hp} : ∀ {vs : List V} {ds : List PyData}, DaAll K G vs ds → ∀ (H : Hp) (as : List Addr) (i : Nat) (r : Sl), (ds.map Sl.dat)[i]? = some r → Hold K G H ((vs.map some)[i]?) as r := fun {vs ds} h H as i r q => by
  rw [List.getElem?_map] at q
  cases e : ds[i]? with
  | none => rw [e] at q; cases q
  | some d =>
    rw [e] at q
    cases q
    obtain ⟨v, hv, pv⟩ := daAll_get h e
    exact ⟨v, by rw [List.getElem?_map, hv]; rfl, pv⟩
/-- how a body may end -/
inductive Done (X : Cx) (n : Nat) (body : List Stmt) (ρ : List Sl) (d : PyData) : Prop
  | rt (h : S X body ρ (.rt d (List.replicate n .un)))
  | nx {ρ' : List Sl} (h : S X body ρ (.nx ρ')) (e : d = .none)
/-- a def over data -/
theorem def_P {R : List PyData → PyData → Prop} (hp : Put K mg x st) (S : FnScope N ps (defScope st)) (hb : BindsOf st x ps) (hN : ps.length ≤ N.length) (hl : ∀ ds d, R ds d → ds.length = ps.length)
    (body : ∀ (a : CxA), Rm k (cx P w K mg base N x st a).A → ∀ ds d, R ds d → Done (cx P w K mg base N x st a) N.length (defBody st) (dataS N ds.length (ds.map Sl.dat)) d) : Def P w K mg base x (k + 1) ps (spP K R) := by
  obtain ⟨f, fd, h1, F⟩ := hp.ex
  have b := F.bindsN (ps := ps) hb
  refine ⟨f, fd, h1, F.kp, b, fnG_of F S (fun vs H Q E h => ?_) (fun cdv A outer s H vs Q E hr0 hgd h => ?_)⟩
  · obtain ⟨ds, d, hR, G, _, hd, _⟩ := h
    rw [daAll_len hd, hl ds d hR]
  · obtain ⟨ds, d, hR, G, e, hd, q⟩ := h
    have len : vs.length = ds.length := daAll_len hd
    have w0 : Sta K H G H (L2.start N vs) (dataS N ds.length (ds.map Sl.dat)) (fun _ => []) := by
      rw [← len]
      exact sta0 e (Ex.refl H) (by rw [len, List.length_map]) (by rw [len, hl ds d hR]; exact hN) _ (fun _ _ z => nomatch z) (fun _ _ z => nomatch z) (fun _ _ _ z => nomatch z) (startData hd H [])
    have hbody := body ⟨f, cdv, A, outer, s, H, E⟩ ⟨hr0, hgd⟩ ds d hR
    cases hbody with
    | rt hS => exact ⟨_, PSs.nox hS, H, G, _, w0, fun σ' H' G' ad' e' w' v pv => q v H' G' w'.fh e' w'.gh pv⟩
    | nx hS ed =>
      subst ed
      exact ⟨_, PSs.nox hS, H, G, _, w0, fun σ' H' G' ad' e' w' => q .non H' G' w'.fh e' w'.gh .non⟩
/-- a def whose first argument is the source -/
theorem def_S {R : Src → List PyData → Src → PyData → Prop} (hp : Put K mg x st) (S : FnScope N ps (defScope st)) (hb : BindsOf st x ps) (hN : ps.length ≤ N.length) (hl : ∀ t ds t' d, R t ds t' d → ds.length + 1 = ps.length)
    (body : ∀ (a : CxA), Rm k (cx P w K mg base N x st a).A → ∀ s l t ds t' d, R t ds t' d → DL.S (cx P w K mg base N x st a) (defBody st) (dataS N (ds.length + 1) (.src s l t :: ds.map Sl.dat)) (.rt d (.src s l t' :: List.replicate (N.length - 1) .un))) : Def P w K mg base x (k + 1) ps (spS K R) := by
  obtain ⟨f, fd, h1, F⟩ := hp.ex
  have b := F.bindsN (ps := ps) hb
  refine ⟨f, fd, h1, F.kp, b, fnG_of F S (fun vs H Q E h => ?_) (fun cdv A outer sh H vs Q E hr0 hgd h => ?_)⟩
  · obtain ⟨F, G, s, l, t, vs', ds, t', d, rfl, _, _, _, _, hd, hR, _⟩ := h
    rw [List.length_cons, daAll_len hd, hl t ds t' d hR]
  · obtain ⟨F, G, s, l, t, vs', ds, t', d, rfl, hs, ⟨f1, f2, f3, f4⟩, e1, e2, hd, hR, q⟩ := h
    have len : vs'.length = ds.length := daAll_len hd
    have ne : s ≠ l := ne_of hs.d hs.c (by intro z; cases z)
    have w0 : Sta K F G H (L2.start N (.ref s :: vs')) (dataS N (ds.length + 1) (.src s l t :: ds.map Sl.dat)) (fun i => if i = 0 then [s, l] else []) := by
      rw [← len]
      refine sta0 (vs := .ref s :: vs') e2 e1 (by simp [len]) (by have := hl t ds t' d hR; simp [len]; omega) _ (fun i a z => ?_) (fun i a z => ?_) (fun i j a z1 z2 => ?_) (fun i r z => ?_)
      · by_cases hi : i = 0
        · rw [if_pos hi] at z
          simp only [List.mem_cons, List.not_mem_nil, or_false] at z
          rcases z with rfl | rfl
          · exact ⟨f3, f1⟩
          · exact ⟨f4, f2⟩
        · rw [if_neg hi] at z; cases z
      · by_cases hi : i = 0
        · rw [if_pos hi] at z
          simp only [List.mem_cons, List.not_mem_nil, or_false] at z
          rcases z with rfl | rfl
          · exact ⟨_, hs.d⟩
          · exact ⟨_, hs.c⟩
        · rw [if_neg hi] at z; cases z
      · by_cases hi : i = 0
        · by_cases hj : j = 0
          · omega
          · rw [if_neg hj] at z2; cases z2
        · rw [if_neg hi] at z1; cases z1
      · cases i with
        | zero =>
          cases z
          exact ⟨rfl, by simp, by simp, hs⟩
        | succ i => exact startData hd H _ i r (by simpa using z)
    have hS := body ⟨f, cdv, A, outer, sh, H, E⟩ ⟨hr0, hgd⟩ s l t ds t' d hR
    refine ⟨_, PSs.nox hS, F, G, _, w0, fun σ' H' G' ad' e' w' v pv => ?_⟩
    obtain ⟨g1, g2, g3, g4⟩ := w'.hold 0 (.src s l t') rfl
    exact q v H' G' e' w'.fh w'.gh g4 (w'.own 0 s g2).1 (w'.own 0 l g3).1 pv
/-- the same, what it hands back told by some word alone -/
theorem def_Sx {pre : Src → List PyData → Prop} {post : Src → List PyData → Src → PyData → Prop} (hp : Put K mg x st) (S : FnScope N ps (defScope st)) (hb : BindsOf st x ps) (hN : ps.length ≤ N.length) (hl : ∀ t ds, pre t ds → ds.length + 1 = ps.length)
    (body : ∀ t ds, pre t ds → ∃ t' d, post t ds t' d ∧ ∀ (a : CxA), Rm k (cx P w K mg base N x st a).A → ∀ s l, DL.S (cx P w K mg base N x st a) (defBody st) (dataS N (ds.length + 1) (.src s l t :: ds.map Sl.dat)) (.rt d (.src s l t' :: List.replicate (N.length - 1) .un))) :
    ∃ R, Def P w K mg base x (k + 1) ps (spS K R) ∧ ∀ t ds, pre t ds → ∃ t' d, R t ds t' d ∧ post t ds t' d := by
  refine ⟨fun t ds t' d => ds.length + 1 = ps.length ∧ ∀ (a : CxA), Rm k (cx P w K mg base N x st a).A → ∀ s l, DL.S (cx P w K mg base N x st a) (defBody st) (dataS N (ds.length + 1) (.src s l t :: ds.map Sl.dat)) (.rt d (.src s l t' :: List.replicate (N.length - 1) .un)),
    def_S hp S hb hN (fun _ _ _ _ h => h.1) fun a hr s l t ds t' d h => h.2 a hr s l, fun t ds h => ?_⟩
  obtain ⟨t', d, h1, h2⟩ := body t ds h
  exact ⟨t', d, ⟨hl t ds h, h2⟩, h1⟩
/-- the law -/
def spL (K : PySem.W.Frag) : Sp := fun vs H Q _ => ∃ (a : Addr) (ns : List Int), vs = [.ref a] ∧ SqL K H a (ns.map V.int) ∧ ns.length ≤ 63 ∧ ∀ H', Q (.bl true) H'
theorem def_L {f : Addr} {fd : FuncData} (F : FunD K x x (defArgs st) (defBody st) (defScope st) [] [] f fd) (S : FnScope N ps (defScope st)) (hb : BindsOf st x ps) (hN : ps.length ≤ N.length) (hl : ps.length = 1)
    (body : ∀ (a : CxA), Rm k (cx P w K mg base N x st a).A → ∀ ns : List Int, ns.length ≤ 63 → DL.S (cx P w K mg base N x st a) (defBody st) (dataS N 1 [.scr ns]) (.rt (.bool true) (List.replicate N.length .un))) : FnG P w K mg base L2.CX0 (k + 1) f fd ps (spL K) := by
  refine fnG_of F S (fun vs H Q E h => ?_) (fun cdv A outer sh H vs Q E hr0 hgd h => ?_)
  · obtain ⟨a, ns, rfl, _⟩ := h
    rw [hl]; rfl
  · obtain ⟨a, ns, rfl, hs, hn, q⟩ := h
    have w0 : Sta K (fun _ => none) H H (L2.start N [.ref a]) (dataS N 1 [.scr ns]) (fun _ => []) :=
      sta0 (vs := [.ref a]) (Ex.refl H) (fun _ _ z => by cases z) rfl (by rw [hl] at hN; exact hN) _ (fun _ _ z => nomatch z) (fun _ _ z => nomatch z) (fun _ _ _ z => nomatch z) fun i r z => by
        cases i with
        | zero => cases z; exact ⟨a, rfl, hs⟩
        | succ i => cases z
    have hS := body ⟨f, cdv, A, outer, sh, H, E⟩ ⟨hr0, hgd⟩ ns hn
    refine ⟨_, PSs.nox hS, _, H, _, w0, fun σ' H' G' ad' e' w' v pv => ?_⟩
    cases pv
    exact q H'
/-- the def that makes the source of the script -/
def spSrc (K : PySem.W.Frag) (g : List Int → Src) : Sp := fun vs H Q _ => ∃ (a : Addr) (ns : List Int), vs = [.ref a] ∧ SqL K H a (ns.map V.int) ∧ ns.length ≤ 1000 ∧ ∀ s l H', H s = none → H l = none → Ex H H' → SrcAt H' s l (g ns) → Q (.ref s) H'
end
section
variable {X : Cx} {e a b c : Expr} {ρ ρ1 : List Sl} {d : PyData} {x y : Str} {pos : Pos}
/-- s = f(script), the source made -/
theorem s_source (i j : Nat) {g : List Int → Src} {z : Str} {ns : List Int} {p0 p1 p2 pos2 : Pos} {rs : List Stmt} {o : Out} (f : Kn X x (spSrc X.K g)) (hz : ns.length ≤ 1000) (hk : ∀ s l, S X rs (ρ.set i (.src s l (g ns))) o) (hN : X.N.Nodup) (h0 : ρ[j]? = some (.scr ns) := by rfl) (hl : i < ρ.length := by exact Nat.le_of_ble_eq_true rfl) (hg : Gl X x := by rfl)
    (hNj : X.N[j]? = some y := by rfl) (hNi : X.N[i]? = some z := by rfl) (hv : Vis X.env.scope y := by first | exact Or.inl rfl | exact Or.inr (Or.inl rfl) | exact Or.inr (Or.inr rfl)) (hd : (y == ("__debug__" : Str)) = false := by decide) (hcd : (y == ("__classdict__" : Str)) = false := by decide)
    (hdb : (x == ("__debug__" : Str)) = false := by decide) (he : starEach [.Name y p0] X.env = (false, eval (.Name y p0) X.env) :: starEach [] X.env := by rfl) (hpl : (backTo pos (starEach [] X.env)).any (·.1) = false := by rfl)
    (hx : Loc X.env.scope z := by first | exact Or.inl rfl | exact Or.inr rfl) (hs : swapsWith (.Call (.Name x p1) [.Name y p0] [] pos) (some (.Name z p2)) pos2.line X.env = pure false := by rfl)
    (hf : X.fn z = true ∨ X.env.scope.names.lookup z = some .local := by first | exact .inl rfl | exact .inr rfl) : S X (.Assign [.Name z p2] (.Call (.Name x p1) [.Name y p0] [] pos) pos2 :: rs) ρ o := by
  obtain ⟨k, f, fd, ps, F, ⟨hr, hgd⟩, hm, hk2, hb⟩ := f.ex
  refine pss_imp (pss_cons (ps_set hN hNi hx (pe_callG F hr hgd hg hm hk2 hb .nil pass0 (pa_cons (pe_var hNj hv hd hcd) pa_nil he) hdb he hpl) hs hf) anyS_ok) fun D σ H ⟨F, G, ad, w, k⟩ => ?_
  obtain ⟨a, h2, h3⟩ := w.hold j _ h0
  refine ⟨_, h2, a, ns, rfl, sqL_ex w.gh h3, hz, fun s l H' hs hl' e1 hS => ?_⟩
  have gs := w.gh.none hs
  have gl := w.gh.none hl'
  have ns' : ∀ j, s ∉ ad j := fun j q => by
    obtain ⟨o, ho⟩ := w.there j s q
    rw [hs] at ho; cases ho
  have nl' : ∀ j, l ∉ ad j := fun j q => by
    obtain ⟨o, ho⟩ := w.there j l q
    rw [hl'] at ho; cases ho
  have w1 : Sta X.K F G H' (σ.set i (some (.ref s))) (ρ.set i (.src s l (g ns))) (fun j => if j = i then [s, l] else ad j) := by
    refine ⟨w.gh.trans e1, w.fh.trans e1, fun j a q => ?_, fun j a q => ?_, fun j k a q1 q2 => ?_, by rw [List.length_set, List.length_set]; exact w.len, fun j r q => ?_⟩
    · by_cases e : j = i
      · rw [if_pos e] at q
        simp only [List.mem_cons, List.not_mem_nil, or_false] at q
        rcases q with rfl | rfl
        · exact ⟨gs, w.fh.none hs⟩
        · exact ⟨gl, w.fh.none hl'⟩
      · rw [if_neg e] at q; exact w.own j a q
    · by_cases e : j = i
      · rw [if_pos e] at q
        simp only [List.mem_cons, List.not_mem_nil, or_false] at q
        rcases q with rfl | rfl
        · exact ⟨_, hS.d⟩
        · exact ⟨_, hS.c⟩
      · rw [if_neg e] at q
        obtain ⟨o, ho⟩ := w.there j a q
        exact ⟨o, e1 a o ho⟩
    · by_cases e : j = i
      · rw [if_pos e] at q1
        simp only [List.mem_cons, List.not_mem_nil, or_false] at q1
        by_cases e2 : k = i
        · rw [e, e2]
        · rw [if_neg e2] at q2
          rcases q1 with rfl | rfl
          · exact absurd q2 (ns' k)
          · exact absurd q2 (nl' k)
      · rw [if_neg e] at q1
        by_cases e2 : k = i
        · rw [if_pos e2] at q2
          simp only [List.mem_cons, List.not_mem_nil, or_false] at q2
          rcases q2 with rfl | rfl
          · exact absurd q1 (ns' j)
          · exact absurd q1 (nl' j)
        · rw [if_neg e2] at q2; exact w.dis j k a q1 q2
    · by_cases e : j = i
      · subst e
        rw [List.getElem?_set_self (by rw [← w.len] at hl; rw [← w.len]; exact hl)] at q
        cases q
        rw [List.getElem?_set_self (by rw [w.len]; exact hl), if_pos rfl]
        exact ⟨rfl, by simp, by simp, hS⟩
      · rw [List.getElem?_set_ne (Ne.symm e)] at q ⊢
        rw [if_neg e]
        exact (w.hold j r q).grow (Ex.refl G) fun a _ u z => e1 a u z
  exact ⟨_, o, hk s l, F, G, _, w1, k⟩
/-- the script walked -/
theorem i_scr (j : Nat) {ns : List Int} {p0 : Pos} {tg : Expr} (h0 : ρ[j]? = some (.scr ns) := by rfl) (hNj : X.N[j]? = some y := by rfl) (hv : Vis X.env.scope y := by first | exact Or.inl rfl | exact Or.inr (Or.inl rfl) | exact Or.inr (Or.inr rfl)) (hd : (y == ("__debug__" : Str)) = false := by decide) (hcd : (y == ("__classdict__" : Str)) = false := by decide) :
    Iter X tg (.Name y p0) ρ (ns.map PyData.int) ρ := pi_imp (pi_list (pe_var hNj hv hd hcd)) fun σ H R ⟨F, G, ad, w, k⟩ => by
  obtain ⟨a, h2, h3⟩ := w.hold j _ h0
  refine ⟨_, h2, a, rfl, ⟨_, sqL_ex w.gh h3⟩, k _ H G ad (Ext.refl F G) w fun H2 G2 g1 g2 => ⟨⟨_, sqL_ex (g1.trans g2) h3, by rw [List.length_map, List.length_map]; exact Nat.le_refl _⟩, fun i d hi => ?_⟩⟩
  rw [List.getElem?_map] at hi
  cases e : ns[i]? with
  | none => rw [e] at hi; cases hi
  | some n =>
    rw [e] at hi
    cases hi
    have hx : (ns.map V.int)[i]? = some (V.int n) := by rw [List.getElem?_map, e]; rfl
    refine ⟨⟨_, _, sqL_ex (g1.trans g2) h3, hx⟩, fun x H' ⟨e, z⟩ => ?_⟩
    subst e
    have zz := z _ (sqL_ex (g1.trans g2) h3)
    rw [hx] at zz
    cases zz
    exact ⟨G2, Ex.refl _, Ext.refl _ _, g2, .int n⟩
/-- forget behind -/
theorem S.rt_le {st : List Stmt} {ρ' ρ2 : List Sl} (h : S X st ρ (.rt d ρ')) (l : Le ρ' ρ2) : S X st ρ (.rt d ρ2) := pss_imp h fun D σ H ⟨F, G, ad, w, k⟩ => ⟨F, G, ad, w, fun σ' H' G' ad' e w' => k σ' H' G' ad' e (w'.le l)⟩
end
end DL
end part_DLi
section part_DLend
/-! The law's end over such defs. -/
namespace DL
open L2 PyProof.Rows PySem.Spec PySem
section
variable {P : Program} {w : World} {K : PySem.W.Frag} {mg mb : Str → Option Value} {k : Nat} {fa a : Addr} {fd : FuncData} {x : Str} {sp : Sp} {s₁ : Shared} {vs : List Value} {ns : List Int}
/-- how the law's call ends -/
def LawOk (s₁ : Shared) (r : Result) (s' : Shared) : Prop := r = .ok (.ret (.bool true)) ∧ OldK s₁.heap s'.heap ∧ s'.os = s₁.os ∧ AllBare s'.gens
/-- from an abstract heap H in which the script alone may stand -/
theorem lawG_at (KX : K.In s₁.heap) (hns : s₁.heap.Ns mainGlobals mg) (hb : s₁.heap.Ns builtinsNs mb) (hbb : ∀ x : Str, x ≠ "__name__" → mb x = bootBuiltins x) (hlim : s₁.heap.NoLimit) (hg : s₁.gens = #[])
    (ha : s₁.heap.get? a = some { cls := .type "list", data := .seq vs.toArray }) (hr : Room k callerA) (F : ∀ base : Heap, K.In base → base.Ns mainGlobals mg → FnG P w K mg base L2.CX0 k fa fd [x] sp) (hbind : ∀ (s : Shared) (u : Value), BindsTo s fd ⟨[u], []⟩ [(x, u)])
    (H : Hp) (hO : Only H) (hok : HOk P w H s₁.heap) (hA : ∀ b, H b ≠ none → b = a) (hK : H a ≠ none → K.lookup a = none) (hsp : sp [.ref a] H (fun v _ => v = .bl true) fun _ _ _ => False) : codeAny (model P w) callerA (.call (.ref fa) ⟨[.ref a], []⟩) (LawOk s₁) s₁ := by
  have at_a : ∀ {b : Addr} {u : HO}, H b = some u → b = a := fun {b u} q => hA b (by rw [q]; exact Option.some_ne_none u)
  have dict_free : ∀ {b : Addr} {o : Obj} {es : Array DictEntry} {ep : Nat}, s₁.heap.get? b = some o → o.data = .dict es ep → H b = none := fun {b o es ep} e d => by
    match q : H b with
    | none => rfl
    | some u =>
      rw [at_a q, ha] at e
      cases e
      exact nomatch (show Data.seq vs.toArray _ = Data.dict es ep from d)
  have ns_of : ∀ {b : Addr} {m : Str → Option Value}, s₁.heap.Ns b m → (hidT s₁.heap H).Ns b m := fun {b m} ⟨o, es, ep, e, d, r⟩ => ⟨o, es, ep, hidT_get e (dict_free e d), d, r⟩
  have K_in : K.In (hidT s₁.heap H) := fun b o e => hidT_get (KX b o e) (by
    match q : H b with
    | none => rfl
    | some u =>
      have z := at_a q
      subst z
      rw [hK (by rw [q]; exact Option.some_ne_none u)] at e
      cases e)
  obtain ⟨mc, l1, l2⟩ := hlim
  have e0 : Env0 P w K mg (hidT s₁.heap H) callerA [] s₁ H := ⟨rfl, ⟨K_in, ns_of hns, ⟨mb, ns_of hb, hbb⟩, ⟨mc, ns_of l1, l2⟩⟩, fun b o e => of_hidT e, Nat.le_of_eq (hidT_size _ _), trivial, (fun b z => nomatch z), hok, .of_eq hg⟩
  refine codeAny_mono ((F _ K_in (ns_of hns)).runG callerA [] s₁ H ⟨[.ref a], []⟩ [.ref a] [.ref a] _ _ hr rfl e0 (hbind s₁ (.ref a)) (.cons rfl .nil) hsp) fun res s' z => ?_
  match res, z with
  | .error e, z => exact z.elim
  | .ok .next, z => exact z.elim
  | .ok .brk, z => exact z.elim
  | .ok .cont, z => exact z.elim
  | .ok (.ret u), ⟨v, H', os, bare, un, hok', rv, q⟩ =>
    cases (show v = .bl true from q)
    cases (show u = Value.bool true from rv)
    refine ⟨rfl, OldK.of_keep fun b o e => ?_, os, bare⟩
    match q : H b with
    | none => exact un.keep b o e q (fun z => nomatch z) (fun z => nomatch z)
    | some u =>
      rcases hO b with z | ⟨ob, xs, z⟩
      · rw [z] at q
        cases q
      · have o1 := (hok b _ z).1
        have o2 := (hok' b _ (un.frzs b ob _ z)).1
        rw [e] at o1
        cases o1
        exact o2
theorem lawG (KX : K.In s₁.heap) (hns : s₁.heap.Ns mainGlobals mg) (hb : s₁.heap.Ns builtinsNs mb) (hbb : ∀ x : Str, x ≠ "__name__" → mb x = bootBuiltins x) (hlim : s₁.heap.NoLimit) (hg : s₁.gens = #[])
    (ha : s₁.heap.get? a = some { cls := .type "list", data := .seq vs.toArray }) (hi : IntsAre vs ns) (hl : ns.length ≤ sizeLine) (hr : Room k callerA) (F : ∀ base : Heap, K.In base → base.Ns mainGlobals mg → FnG P w K mg base L2.CX0 k fa fd [x] sp) (hbind : ∀ (s : Shared) (u : Value), BindsTo s fd ⟨[u], []⟩ [(x, u)])
    (hsp : ∀ H : Hp, SqL K H a (ns.map V.int) → sp [.ref a] H (fun v _ => v = .bl true) fun _ _ _ => False) : codeAny (model P w) callerA (.call (.ref fa) ⟨[.ref a], []⟩) (LawOk s₁) s₁ := by
  have rv := vals_ints hi
  match hk : K.lookup a with
  | some o =>
    have e := KX a o hk
    rw [ha] at e
    cases e
    refine lawG_at KX hns hb hbb hlim hg ha hr F hbind (fun _ => none) (fun _ => .inl rfl) (fun b u z => nomatch (show (none : Option HO) = some u from z)) (fun b z => absurd rfl z) (fun z => absurd rfl z) (hsp _ (.inr ⟨_, vs.toArray, _, hk, rfl, rfl, rfl, ?_, by simpa using rv⟩))
    rw [List.size_toArray, hi.length]
    exact hl
  | none =>
    let ob : Obj := { cls := .type "list", data := .seq vs.toArray }
    let H : Hp := fun b => if b = a then some (.frz ob (.lst (ns.map V.int))) else none
    have Ha : H a = some (.frz ob (.lst (ns.map V.int))) := if_pos rfl
    have Hn : ∀ b, b ≠ a → H b = none := fun b z => if_neg z
    refine lawG_at KX hns hb hbb hlim hg ha hr F hbind H (fun b => ?_) (fun b u z => ?_) (fun b z => ?_) (fun _ => hk) (hsp H (.inl (.inr ⟨ob, Ha⟩)))
    · by_cases q : b = a
      · exact .inr ⟨ob, _, by rw [q]; exact Ha⟩
      · exact .inl (Hn b q)
    · by_cases q : b = a
      · subst q
        rw [Ha] at z
        cases z
        exact ⟨ha, by rw [List.length_map]; exact hl, vs, _, rv, ha⟩
      · rw [Hn b q] at z
        cases z
    · by_cases q : b = a
      · exact q
      · exact absurd (Hn b q) z
end
/-- the walk's end, from the law's own promise -/
theorem walkG {l : PySem.W.OpenLaw} {n k : Nat} {q : Program} {loose : List Str} {XP : (Str → Option Value) → Heap → Prop} {YP : World → Heap → Prop} {d : DefRec} {x : Str} (hn : l.most = some n) (hn2 : n ≤ sizeLine) (hdf : d.params.defaults = []) (hr : Room k callerA)
    (F : ∀ (w : World) (mg : Str → Option Value) (fa : Addr) (h : Heap), YP w h → h.Ns mainGlobals mg → mg d.name = some (.ref fa) →
      ∃ (K : PySem.W.Frag) (fd : FuncData) (sp : Sp), K.In h ∧ (∀ (s : Shared) (u : Value), BindsTo s fd ⟨[u], []⟩ [(x, u)]) ∧ (∀ (H : Hp) (a : Addr) (ns : List Int), ns.length ≤ n → SqL K H a (ns.map V.int) → sp [.ref a] H (fun v _ => v = .bl true) fun _ _ _ => False) ∧
        ∀ base : Heap, K.In base → base.Ns mainGlobals mg → FnG l.prog w K mg base L2.CX0 k fa fd [x] sp) : PySem.W.WalkO q loose XP YP l.row.toRowW d [] (fun f vs => PySem.call f vs) := by
  refine Att.attach_call hn hdf fun w s₀ s₁ mg mb fa o pm cd doc a vs ns G Y ho hd hcd hmg hobj hints hlen hg => ?_
  obtain ⟨K, fd, sp, KX, hb, hsp, hF⟩ := F w mg fa _ Y G.T.g hmg
  exact lawG KX G.T.g G.T.b G.T.builtins G.T.nolimit hg hobj hints (Nat.le_trans hlen hn2) hr hF hb fun H hS => hsp H a ns hlen hS
end DL
end part_DLend
section part_DLj
/-! repr of data, with ints of up to 12,900 bits -/
namespace DLr
open L2 PyProof.Rows PySem.Spec PySem
/-- nobody has set another digit limit -/
def Digits (h : Heap) : Prop := ∃ mc, h.Ns cStatics mc ∧ mc "sys.int_max_str_digits" = none
theorem Digits.keeps {h h' : Heap} (x : Digits h) (k : ∀ b o, h.get? b = some o → h'.get? b = some o) : Digits h' := by
  obtain ⟨mc, a, b⟩ := x
  exact ⟨mc, a.keeps k, b⟩
section
variable {prog : Program} {w : World} {A : Around} {E : Value → Shared → Prop} {s : Shared} {a : Int} {t : Tok}
theorem over_no {M : Model} {Q : Option Nat → Shared → Prop} (hd : Digits s.heap) (h1 : a.natAbs.log2 < 12900) (h : Q none s) : wpAny M A (Builtin.overDigitLimit? a) Q E s := by
  unfold Builtin.overDigitLimit?
  by_cases q : a.natAbs.log2 < 1920
  · rw [if_pos q]
    exact wpAny_pure h
  · rw [if_neg q]
    obtain ⟨mc, hn, hm⟩ := hd
    unfold Builtin.intMaxStrDigits
    refine wpAny_bind (wpAny_bind (wpAny_nsGet hn ?_))
    rw [hm]
    refine wpAny_pure ?_
    have q1 : ¬ (a.natAbs.log2 / 30 + 1 > 1000) := by omega
    have q2 : ((4300 : Nat) == 0 || decide (a.natAbs.log2 < 3 * 4300)) = true := by
      rw [decide_eq_true (by omega)]
      rfl
    show wpAny M A (if a.natAbs.log2 / 30 + 1 > 1000 then _ else _) Q E s
    rw [if_neg q1]
    simp only [q2, if_true]
    exact wpAny_pure h
theorem int_text_fits_len (a : Int) : ((toString a : String) : Str).length = (toString a).length := by
  exact PySem.ofString_length _
theorem int_text_wide (h : a.natAbs.log2 < 12900) : ((toString a : String) : Str).length ≤ 12901 := by
  have z := int_text_length_le (k := 12900) (by decide) h
  have e := int_text_fits_len a
  omega
theorem meets_intRepr : Meets (Builtin.«int.__repr__» ⟨[.int a t], []⟩) (fun A R s => Digits s.heap ∧ a.natAbs.log2 < 12900 ∧ R (.ok (.ret (.str (toString a) s.toks))) { s with toks := s.toks + 1 }) := by
  intro prog w A R s ⟨hd, ha, h⟩
  unfold Builtin.«int.__repr__»
  show wpAny _ _ (do let r ← Builtin.overDigitLimit? a; _) _ _ _
  refine wpAny_bind (over_no hd ha ?_)
  show wpAny _ _ (retStr _) _ _ _
  unfold retStr
  refine wpAny_bind (wpAny_mkStr (wpAny_pure h) ?_)
  exact Nat.le_trans (int_text_wide ha) (by decide)
theorem reprObj_wide {Q : Value → Shared → Prop} (hu : A.units < cLine) (hd : Digits s.heap) (ha : a.natAbs.log2 < 12900) (h : Q (.str (toString a) s.toks) { s with toks := s.toks + 1 }) : wpAny (model prog w) A (pyReprObj (.int a t)) Q E s :=
  wpAny_pyReprObj_slot hu (typeIs_int s a t) F.slot_int_repr.toG (call_meets F.slot_int_repr (typeIs_int s a t) F.entry_int_repr (F.args_int_repr_1 _) meets_intRepr ⟨hd, ha, _, _, rfl, h⟩)
theorem reprK_wide {as : List Addr} {h₀ : Heap} (hd : Digits h₀) (ha : a.natAbs.log2 < 12900) : ReprK prog w as h₀ 0 (.int a t) (toString a) := fun base hb A g E s Q hg hc hu hk hQ => by
  rw [pyReprUnder_leaf (v := .int a t) (by omega) (fun _ e => nomatch e)]
  unfold pyRepr
  exact wpAny_bind (reprObj_wide (by omega) (hd.keeps hk) ha (wpAny_pure (hQ s.heap _ fun _ _ e => e)))
end
/-! ### data -/
mutual
def wideD : PyData → Bool
  | .int i => decide (i.natAbs.log2 < 12900)
  | .list xs => wideDs xs
  | .tuple xs => wideDs xs
  | .dict _ => false
  | _ => true
def wideDs : List PyData → Bool
  | [] => true
  | x :: xs => wideD x && wideDs xs
end
section
variable {prog : Program} {w : World} {h₀ : Heap}
mutual
theorem reprK_of (hd : Digits h₀) : ∀ {v : Value} {d : PyData} {as : List Addr}, Reads h₀ v d as → wideD d = true → d.shown.length ≤ sizeLine → ∃ bs, ReadAtMost h₀ d.depth bs ∧ ReprK prog w bs h₀ d.depth v d.shown
  | _, _, _, .none, _, _ => ⟨[], (fun _ q => nomatch q), by rw [PyData.shown]; exact .of_is ReprIs.none _ _ _⟩
  | _, _, _, .bool b, _, _ => ⟨[], (fun _ q => nomatch q), by rw [PyData.shown]; exact .of_is (ReprIs.bool b) _ _ _⟩
  | _, _, _, .int i t, hs, _ => ⟨[], (fun _ q => nomatch q), by rw [PyData.shown]; exact (reprK_wide hd (by simpa [wideD] using hs)).level_le (Nat.zero_le _)⟩
  | _, _, _, .str x t, _, hz => ⟨[], (fun _ q => nomatch q), by rw [PyData.shown]; exact .of_is (ReprIs.str x t (by rw [PyData.shown] at hz; exact hz)) _ _ _⟩
  | _, _, _, .list (a := a) (vs := vs) (xs := xs) h1 h2 h3 h4, hs, hz => by
    have zz : (listText (PyData.shownAll xs)).length ≤ sizeLine := by rw [PyData.shown] at hz; exact hz
    obtain ⟨bs, hb, hk⟩ := reprAllK_of hd h4 (by simpa [wideD] using hs) (fun t ht => Nat.le_trans (listText_mem_le ht) zz)
    have rd : Reads h₀ (.ref a) (.list xs) _ := .list h1 h2 h3 h4
    have no : a ∉ bs := not_mem_of_deeper rd (by rw [PyData.depth]; omega) hb
    refine ⟨a :: bs, .cons rd (by rw [PyData.depth]; omega) hb, ?_⟩
    rw [PyData.depth, PyData.shown]
    obtain ⟨l⟩ := vs
    cases l with
    | nil =>
      have h5 : ReadsAll h₀ [] xs _ := h4
      cases h5
      rw [PyData.shownAll, listText_nil]
      exact ReprK.listEmpty h1 h2 h3
    | cons x l => exact ReprK.list h1 h2 h3 no (by simpa using hk.length_eq) (fun i y q => hk.item i y (by simpa using q))
  | _, _, _, .tuple (a := a) (xs := xs) h1 h2 h3 h4, hs, hz => by
    have zz : (tupleText (PyData.shownAll xs)).length ≤ sizeLine := by rw [PyData.shown] at hz; exact hz
    obtain ⟨bs, hb, hk⟩ := reprAllK_of hd h4 (by simpa [wideD] using hs) (fun t ht => Nat.le_trans (tupleText_mem_le ht) zz)
    have rd : Reads h₀ (.ref a) (.tuple xs) _ := .tuple h1 h2 h3 h4
    have no : a ∉ bs := not_mem_of_deeper rd (by rw [PyData.depth]; omega) hb
    refine ⟨a :: bs, .cons rd (by rw [PyData.depth]; omega) hb, ?_⟩
    rw [PyData.depth, PyData.shown]
    exact ReprK.tuple h1 h2 h3 no hk
  | _, _, _, .dict _ _ _ _ _, hs, _ => by simp [wideD] at hs
theorem reprAllK_of (hd : Digits h₀) : ∀ {vs : List Value} {ds : List PyData} {as : List Addr}, ReadsAll h₀ vs ds as → wideDs ds = true → (∀ t ∈ PyData.shownAll ds, t.length ≤ sizeLine) →
    ∃ bs, ReadAtMost h₀ (PyData.depthAll ds) bs ∧ ReprAllK prog w bs h₀ (PyData.depthAll ds) vs (PyData.shownAll ds)
  | _, _, _, .nil, _, _ => ⟨[], (fun _ q => nomatch q), by rw [PyData.shownAll]; exact .nil⟩
  | _, _, _, .cons (d := d) (ds := ds) r rs, hs, hz => by
    have hs' := Bool.and_eq_true_iff.mp (show (wideD d && wideDs ds) = true by simpa [wideDs] using hs)
    obtain ⟨b1, hb1, k1⟩ := reprK_of hd r hs'.1 (hz _ (by rw [PyData.shownAll]; exact List.mem_cons_self))
    obtain ⟨b2, hb2, k2⟩ := reprAllK_of hd rs hs'.2 (fun t ht => hz t (by rw [PyData.shownAll]; exact List.mem_cons_of_mem _ ht))
    rw [PyData.depthAll, PyData.shownAll]
    exact ⟨b1 ++ b2, (hb1.mono (Nat.le_max_left _ _)).append (hb2.mono (Nat.le_max_right _ _)), .cons ((k1.more fun b z => List.mem_append_left _ z).level_le (Nat.le_max_left _ _)) (k2.more_le (fun b z => List.mem_append_right _ z) (Nat.le_max_right _ _))⟩
end
variable {A : Around} {E : Value → Shared → Prop} {s : Shared} {Q : Value → Shared → Prop} {a : Addr} {d : PyData} {as : List Addr}
theorem repr_ref (hd : Digits s.heap) (r : Reads s.heap (.ref a) d as) (hs : wideD d = true) (hz : d.shown.length ≤ sizeLine) (hg : A.guards = some []) (hu : A.units + (d.depth + 1) < cLine)
    (hQ : ∀ h' u tk, (∀ b o, s.heap.get? b = some o → h'.get? b = some o) → Q (.str d.shown u) { s with heap := h', toks := tk }) : wpAny (model prog w) A (call (.builtin "repr") [.ref a]) Q E s := by
  cases r with
  | list h1 h2 h3 h4 =>
    rename_i o vs n xs bs0
    have zz : (listText (PyData.shownAll xs)).length ≤ sizeLine := by rw [PyData.shown] at hz; exact hz
    obtain ⟨bs, hb, hk⟩ := reprAllK_of hd h4 (by simpa [wideD] using hs) (fun t ht => Nat.le_trans (listText_mem_le ht) zz)
    have no : a ∉ bs := not_mem_of_deeper (.list h1 h2 h3 h4) (by rw [PyData.depth]; omega) hb
    rw [PyData.depth] at hu
    rw [PyData.shown] at hQ
    refine call_repr_slot (by omega) ⟨o, h1, h2⟩ F.slot_list_repr.toG ?_
    obtain ⟨l⟩ := vs
    cases l with
    | nil =>
      have h5 : ReadsAll s.heap [] xs _ := h4
      cases h5
      rw [PyData.shownAll, listText_nil] at hQ
      exact call_list_repr_empty ⟨o, h1, h2⟩ h1 h3 ⟨_, _, rfl, hQ s.heap _ _ fun _ _ q => q⟩
    | cons x l =>
      exact call_list_reprK h1 h2 h3 no (by simpa using hk.length_eq) (fun i y q => hk.item i y (by simpa using q)) hg (fun b _ => Clear.nil b) (by show A.units + 1 + _ < cLine; omega) (fun _ _ q => q) (fun h' u tk q => ⟨_, _, rfl, hQ h' u tk q⟩) zz
  | tuple h1 h2 h3 h4 =>
    rename_i o vs n xs
    have zz : (tupleText (PyData.shownAll xs)).length ≤ sizeLine := by rw [PyData.shown] at hz; exact hz
    obtain ⟨bs, hb, hk⟩ := reprAllK_of hd h4 (by simpa [wideD] using hs) (fun t ht => Nat.le_trans (tupleText_mem_le ht) zz)
    have no : a ∉ bs := not_mem_of_deeper (.tuple h1 h2 h3 h4) (by rw [PyData.depth]; omega) hb
    rw [PyData.depth] at hu
    rw [PyData.shown] at hQ
    refine call_repr_slot (by omega) ⟨o, h1, h2⟩ F.slot_tuple_repr ?_
    exact call_tuple_reprK h1 h2 h3 no hk hg (fun b _ => Clear.nil b) (by show A.units + 1 + _ < cLine; omega) (fun _ _ q => q) (fun h' u tk q => ⟨_, _, rfl, hQ h' u tk q⟩) zz
  | dict => simp [wideD] at hs
end
end DLr
end part_DLj
section part_DLk
namespace DL
open L2 PyProof.Rows PySem.Spec PySem DLr
theorem digits_of {K : PySem.W.Frag} {h : Heap} (X : K.In h) (hl : h.NoLimit) (e : PySem.W.nsIn K cStatics "sys.int_max_str_digits" = some none) : Digits h := by
  obtain ⟨mc, hn, _⟩ := hl
  refine ⟨mc, hn, ?_⟩
  obtain ⟨ob, es, ep, ho, hd, _, hf⟩ := hn
  unfold PySem.W.nsIn at e
  split at e
  · rename_i q
    have z := X _ _ q
    rw [ho] at z
    cases z
    cases hd
    split at e
    · cases e
    · rename_i q2
      rw [← hf]
      unfold nsFind findBy
      rw [← Array.find?_toList, q2]
      rfl
  · cases e
/-! ### how long a text is -/
mutual
def nodes : PyData → Nat
  | .list xs => nodesAll xs + 1
  | .tuple xs => nodesAll xs + 1
  | .dict _ => 0
  | _ => 1
def nodesAll : List PyData → Nat
  | [] => 0
  | x :: xs => nodes x + nodesAll xs
end
mutual
/-- strings of up to 1,000 bytes as shown -/
def shortD : PyData → Bool
  | .str x => decide ((reprText x).length ≤ 12000)
  | .list xs => shortDs xs
  | .tuple xs => shortDs xs
  | .dict _ => false
  | _ => true
def shortDs : List PyData → Bool
  | [] => true
  | x :: xs => shortD x && shortDs xs
end
theorem listText_len (ts : List Str) : (listText ts).length ≤ piled ts + 2 := by
  cases ts with
  | nil =>
    have : (listText []).length = 2 := by rw [listText_nil]; rfl
    rw [this]; exact Nat.le_add_left _ _
  | cons t r =>
    have hX : (listText (t :: r)).length = (textFrom 0 "[" (t :: r)).length + 1 := by
      show (textFrom 0 "[" (t :: r) ++ "]").length = _
      rw [strLen_append]; rfl
    have h2 := textFrom_length_pos r 1 (("[" : Str) ++ (if (0 : Nat) > 0 then ", " else "" : String) ++ t) (Nat.succ_pos 0)
    have hY : (textFrom 0 "[" (t :: r)).length = (textFrom 1 (("[" : Str) ++ (if (0 : Nat) > 0 then ", " else "" : String) ++ t) r).length := rfl
    have e : ((("[" : Str) ++ (if (0 : Nat) > 0 then ", " else "" : String) ++ t)).length = 1 + t.length := by
      rw [strLen_append, strLen_append]; rfl
    rw [hX, hY, h2, e, piled_cons]
    omega
theorem tupleText_len (ts : List Str) : (tupleText ts).length ≤ piled ts + 3 := by
  unfold tupleText
  rw [strLen_append, strLen_append]
  have e1 : ((("(" : String) : Str)).length = 1 := rfl
  have e3 : (((if ts.length == 1 then ",)" else ")" : String) : Str)).length ≤ 2 := by split <;> decide
  by_cases h : ts = []
  · subst h
    have : (Str.join ", " ([] : List Str)).length = 0 := rfl
    rw [this, e1]
    omega
  · have := join_length_add ts h
    rw [e1]
    omega
mutual
theorem shown_len : ∀ {d : PyData}, wideD d = true → shortD d = true → d.shown.length + 2 ≤ 13000 * nodes d
  | .none, _, _ => by
    have : (PyData.shown .none).length = 4 := by rw [PyData.shown]; rfl
    rw [this]; show 6 ≤ 13000 * 1; omega
  | .bool b, _, _ => by
    have : (PyData.shown (.bool b)).length ≤ 5 := by rw [PyData.shown]; cases b <;> decide
    show _ ≤ 13000 * 1; omega
  | .int i, h, _ => by
    have h1 : i.natAbs.log2 < 12900 := by simpa [wideD] using h
    have := int_text_wide h1
    rw [PyData.shown]
    show _ ≤ 13000 * 1; omega
  | .str x, _, h => by
    have h1 : (reprText x).length ≤ 12000 := by simpa [shortD] using h
    rw [PyData.shown]
    show _ ≤ 13000 * 1; omega
  | .list xs, h, g => by
    have z := shown_lens (xs := xs) (by simpa [wideD] using h) (by simpa [shortD] using g)
    have y := listText_len (PyData.shownAll xs)
    rw [PyData.shown, nodes]
    omega
  | .tuple xs, h, g => by
    have z := shown_lens (xs := xs) (by simpa [wideD] using h) (by simpa [shortD] using g)
    have y := tupleText_len (PyData.shownAll xs)
    rw [PyData.shown, nodes]
    omega
  | .dict _, h, _ => by simp [wideD] at h
theorem shown_lens : ∀ {xs : List PyData}, wideDs xs = true → shortDs xs = true → piled (PyData.shownAll xs) ≤ 13000 * nodesAll xs
  | [], _, _ => by rw [PyData.shownAll, piled_nil, nodesAll]; exact Nat.zero_le _
  | x :: xs, h, g => by
    have h1 := Bool.and_eq_true_iff.mp (show (wideD x && wideDs xs) = true by simpa [wideDs] using h)
    have g1 := Bool.and_eq_true_iff.mp (show (shortD x && shortDs xs) = true by simpa [shortDs] using g)
    have a := shown_len h1.1 g1.1
    have b := shown_lens h1.2 g1.2
    rw [PyData.shownAll, piled_cons, nodesAll]
    omega
end
mutual
theorem flat_of_wide : ∀ {d : PyData}, wideD d = true → flatD d = true
  | .none, _ => by simp [flatD]
  | .bool _, _ => by simp [flatD]
  | .int _, _ => by simp [flatD]
  | .str _, _ => by simp [flatD]
  | .list xs, h => by
    have := flats_of_wide (xs := xs) (by simpa [wideD] using h)
    simpa [flatD] using this
  | .tuple xs, h => by
    have := flats_of_wide (xs := xs) (by simpa [wideD] using h)
    simpa [flatD] using this
  | .dict _, h => by simp [wideD] at h
theorem flats_of_wide : ∀ {xs : List PyData}, wideDs xs = true → flatDs xs = true
  | [], _ => by simp [flatDs]
  | x :: xs, h => by
    have h1 := Bool.and_eq_true_iff.mp (show (wideD x && wideDs xs) = true by simpa [wideDs] using h)
    simp [flatDs, flat_of_wide h1.1, flats_of_wide h1.2]
end
/-- what repr asks of data -/
structure Shows (d : PyData) : Prop where
  wide : wideD d = true
  short : shortD d = true
  few : nodes d ≤ 1200
  flat : d.depth ≤ 64
theorem Shows.fits {d : PyData} (h : Shows d) : d.shown.length ≤ sizeLine := by
  have h1 := shown_len h.wide h.short
  have h2 := h.few
  have : 13000 * nodes d ≤ 13000 * 1200 := Nat.mul_le_mul_left _ h2
  rw [sizeLine_eq]
  omega
section
variable {X : Cx} {d : PyData}
theorem cv_repr (hd : PySem.W.nsIn X.K cStatics "sys.int_max_str_digits" = some none) (hr : X.A.units + 100 < cLine) (hg : X.A.guards = some []) (h : Shows d) : CV X (.builtin "repr") [d] (.str d.shown) := by
  intro pins s σ H vs us Q I r ⟨G, e, p, q⟩
  obtain ⟨v, rfl, pv⟩ := daAll_one p
  obtain ⟨u, rfl, ru⟩ := r.one
  have dig : Digits s.heap := digits_of I.kIn I.nolimit hd
  have hfl := h.flat
  have dp := dp_of e pv (flat_of_wide h.wide)
  obtain ⟨as, rd⟩ := Dp.reads I d v u dp ru
  have fin : ∀ (h' : Heap) (t : Tok) (tk : Nat), (∀ b o, s.heap.get? b = some o → h'.get? b = some o) → EP X pins σ Q (.str d.shown t) { s with heap := h', toks := tk } := fun h' t tk k =>
    ⟨.str d.shown, H, I.kept k, ⟨t, rfl⟩, q _ H G (Ex.refl H) (Ext.refl H G) e (.str _)⟩
  cases pv with
  | non =>
    cases (show u = Value.none from ru)
    exact PySem.P.repr_of_none (fin s.heap _ _ fun _ _ z => z)
  | bl b =>
    cases (show u = Value.bool b from ru)
    exact PySem.P.repr_of_bool (fin s.heap _ _ fun _ _ z => z)
  | int i =>
    obtain ⟨t, hu⟩ := (show ∃ t, u = Value.int i t from ru)
    subst hu
    have h1 : i.natAbs.log2 < 12900 := by simpa [wideD] using h.wide
    refine call_repr_slot (by omega) (typeIs_int s i t) F.slot_int_repr.toG (call_meets F.slot_int_repr (typeIs_int s i t) F.entry_int_repr (F.args_int_repr_1 _) meets_intRepr ⟨dig, h1, _, _, rfl, ?_⟩)
    exact fin s.heap _ _ fun _ _ z => z
  | str x =>
    obtain ⟨t, hu⟩ := (show ∃ t, u = Value.str x t from ru)
    subst hu
    exact PySem.P.repr_of_str (fin s.heap _ _ fun _ _ z => z) (by have := h.fits; rw [PyData.shown] at this; exact this)
  | lst h1 h2 =>
    cases (show u = Value.ref _ from ru)
    exact repr_ref dig rd h.wide h.fits hg (by omega) fun h' t tk k => fin h' t tk k
  | tup h1 h2 =>
    cases (show u = Value.ref _ from ru)
    exact repr_ref dig rd h.wide h.fits hg (by omega) fun h' t tk k => fin h' t tk k
  | dct h1 h2 => exact absurd h.wide (by simp [wideD])
/-- a class's name as an argument: isinstance(x, tuple) -/
def tyOf : PyData → String
  | .none => "NoneType"
  | .bool _ => "bool"
  | .int _ => "int"
  | .str _ => "str"
  | .list _ => "list"
  | .tuple _ => "tuple"
  | .dict _ => "dict"
theorem tyX_of {K : PySem.W.Frag} {G H : Hp} {v : V} {d : PyData} (e : Ex G H) (h : Da K G v d) : TyX K H v (.type (tyOf d)) := by
  cases h with
  | non => exact .base .non
  | bl b => exact .base (.bl b)
  | int i => exact .base (.int i)
  | str x => exact .base (.str x)
  | lst h1 h2 => exact .base (.lst (e _ _ h1))
  | tup h1 h2 =>
    rcases h1 with (h1 | ⟨o, h1⟩) | ⟨o, its, n, h1, h3, _⟩
    · exact .base (.tup (e _ _ h1))
    · exact .fTuple (e _ _ h1)
    · exact .kTuple h1 h3
  | dct h1 h2 => exact .base (.dK (e _ _ h1))
variable {e : Expr} {ρ ρ1 : List Sl} {pos pn p2 : Pos} {T : String} {b : Bool}
/-- isinstance(e, T), T a built-in class -/
theorem e_isi {y : Str} (h : E X e ρ d ρ1) (hm : X.mg "isinstance" = none) (hy : X.mg y = none) (hk : kitB (tyOf d) T = some b := by decide +kernel) (hv : bootBuiltins y = some (.type T) := by decide +kernel) (hg : Gl X "isinstance" := by rfl) (hgy : Gl X y := by rfl) (hny : y ≠ "__name__" := by decide) (hdy : (y == ("__debug__" : Str)) = false := by decide)
    (hs1 : starEach [.Name y p2] X.env = (false, eval (.Name y p2) X.env) :: starEach [] X.env := by rfl) (he : starEach [e, .Name y p2] X.env = (false, eval e X.env) :: starEach [.Name y p2] X.env := by rfl) (hpl : (backTo pos (starEach [.Name y p2] X.env)).any (·.1) = false := by rfl) :
    E X (.Call (.Name "isinstance" pn) [e, .Name y p2] [] pos) ρ (.bool b) ρ1 :=
  pe_imp (pe_callB call_isi hg hm (by decide +kernel) (pa_cons h (pa_cons (pe_bltn (v := .ty T) hgy hy hv rfl hny hdy) pa_nil hs1) he) (by decide) (by decide) he hpl) fun σ H Q ⟨F, G, ad, w, k⟩ => ⟨F, G, ad, w, fun v H1 G1 ad1 e1 w1 p1 =>
    ⟨v, .ty T, _, _, b, rfl, .ty T, tyX_of w1.gh p1, kit_ty hk, k _ H1 G1 ad1 e1 w1 (.bl b)⟩⟩
end
end DL
end part_DLk
section part_DLl
namespace DL
open L2 PyProof.Rows PySem.Spec PySem
section
variable {X : Cx} {e a b c tg it l elt : Expr} {rest ifs : List Expr} {ρ ρ0 ρ1 ρ2 ρ3 : List Sl} {d d1 d2 d3 : PyData} {ds es ys rs : List PyData} {x y : Str} {pos pn p0 p2 : Pos} {p q : Bool} {i j : Int}
theorem ov_pow (h : CPow i j) : OpV X (binaryOp .Pow) (.int i) (.int j) (.int (i ^ j.toNat)) := ov_rI op_pow (fun _ _ _ => .int _) h
/-- len(x), x a list of one's own -/
theorem e_lenO (k : Nat) (hm : X.mg "len" = none) (h : ρ[k]? = some (.own ds) := by rfl) (hg : Gl X "len" := by rfl) (hN : X.N[k]? = some x := by rfl) (hv : Vis X.env.scope x := by first | exact Or.inl rfl | exact Or.inr (Or.inl rfl) | exact Or.inr (Or.inr rfl))
    (hd : (x == ("__debug__" : Str)) = false := by decide) (hcd : (x == ("__classdict__" : Str)) = false := by decide) (he : starEach [.Name x p2] X.env = (false, eval (.Name x p2) X.env) :: starEach [] X.env := by rfl) (hpl : (backTo pos (starEach [] X.env)).any (·.1) = false := by rfl) :
    E X (.Call (.Name "len" pn) [.Name x p2] [] pos) ρ (.int (ds.length : Int)) ρ :=
  pe_imp (pe_callB call_len_seq hg hm (by decide +kernel) (pa_cons (pe_var hN hv hd hcd) pa_nil he) (by decide) (by decide) he hpl) fun σ H Q ⟨F, G, ad, w, k⟩ => by
    obtain ⟨l, xs, h1, h2, h3, h4⟩ := w.own_at h
    exact ⟨_, h1, _, _, rfl, .inl (SqL.of h2), by rw [daAll_len h3]; exact k _ H G ad (Ext.refl F G) w (.int _)⟩
/-! ### slices with bounds that are not negative -/
def cP (K : PySem.W.Frag) (ρ : List Sl) (o : Option Int) (ρ' : List Sl) : TO := fun σ H Q => ∃ F G ad, Sta K F G H σ ρ ad ∧ ∀ H' G' ad', Ext F G G' → Sta K F G' H' σ ρ' ad' → Q o H'
def PoD (X : Cx) (o : Option Expr) (ρ : List Sl) (v : Option Int) (ρ' : List Sl) : Prop := PO X o (cP X.K ρ v ρ')
theorem po_imp {o : Option Expr} {t t' : TO} (h : PO X o t) (k : ∀ σ H Q, t' σ H Q → t σ H Q) : PO X o t' := ⟨fun pins s σ H Q I q => h.run pins s σ H Q I (k σ H Q q)⟩
theorem pd_none : PoD X none ρ none ρ := po_imp po_none fun σ H Q ⟨F, G, ad, w, k⟩ => k H G ad (Ext.refl F G) w
theorem pd_some (h : E X e ρ (.int i) ρ1) : PoD X (some e) ρ (some i) ρ1 := po_imp (po_some h) fun σ H Q ⟨F, G, ad, w, k⟩ => ⟨F, G, ad, w, fun v H1 G1 ad1 e1 w1 p1 => by
  cases p1
  exact ⟨i, rfl, k H1 G1 ad1 e1 w1⟩⟩
def cutD (ds : List PyData) (lo hi : Option Int) : List PyData := (ds.drop (HT.sIx ds.length 0 lo)).take (HT.sIx ds.length ds.length hi - HT.sIx ds.length 0 lo)
theorem cutD_to (ds : List PyData) (k : Nat) : cutD ds none (some (k : Int)) = ds.take k := by
  unfold cutD
  rw [HT.sIx_none, HT.sIx_nat, List.drop_zero, Nat.sub_zero]
  by_cases h : k ≤ ds.length
  · rw [Nat.min_eq_left h]
  · rw [Nat.min_eq_right (by omega), List.take_length, List.take_of_length_le (by omega)]
theorem cutD_from (ds : List PyData) (k : Nat) : cutD ds (some (k : Int)) none = ds.drop k := by
  unfold cutD
  rw [HT.sIx_none, HT.sIx_nat]
  by_cases h : k ≤ ds.length
  · rw [Nat.min_eq_left h, List.take_of_length_le (by rw [List.length_drop]; exact Nat.le_refl _)]
  · rw [Nat.min_eq_right (by omega), List.drop_of_length_le (Nat.le_refl _), List.drop_of_length_le (by omega), List.take_nil]
theorem daAll_cut {K : PySem.W.Frag} {H : Hp} {xs : List V} (lo hi : Option Int) (h : DaAll K H xs ds) : DaAll K H (cutV xs lo hi) (cutD ds lo hi) := by
  unfold cutV cutD
  rw [daAll_len h]
  exact daAll_take _ (daAll_drop _ h)
theorem eo_slice {lo hi : Option Expr} {u v : Option Int} (he : E X e ρ (.list ds) ρ1) (hl : PoD X lo ρ1 u ρ2) (hh : PoD X hi ρ2 v ρ3) : EO X (.Subscript e (.Slice lo hi none p2) pos) ρ (cutD ds u v) ρ3 :=
  pe_imp (pe_slice sl_list he hl hh) fun σ H Q ⟨F, G, ad, w, k⟩ => ⟨F, G, ad, w, fun x H1 G1 ad1 e1 w1 p1 => ⟨F, G1, ad1, w1, fun H2 G2 ad2 e2 w2 => ⟨F, G2, ad2, w2, fun H3 G3 ad3 e3 w3 => by
    cases p1 with
    | lst h1 h2 =>
      refine ⟨_, _, rfl, SqL.of (w3.gh _ _ (e3.1 _ _ (e2.1 _ _ h1))), fun l hl => ?_⟩
      have hg := w3.gh.none hl
      refine k l _ _ G3 ad3 ((e1.trans e2).trans e3) (w3.grow (Ex.new hl) (Ext.refl _ _) (w3.gh.mut hg)) (w3.fh.none hl) hg (fun j q => ?_) upd_same (daAll_cut u v (daAll_ex (e2.trans e3).1 h2))
      obtain ⟨o, ho⟩ := w3.there j l q
      rw [hl] at ho; cases ho⟩⟩⟩
/-! ### a module's constant -/
structure Const (X : Cx) (x : Str) (d : PyData) : Prop where
  ex : ∃ v u, X.mg x = some u ∧ RelV v u ∧ ∀ G, Da X.K G v d
theorem e_glob (h : Const X x d) (hg : Gl X x := by rfl) (hd : (x == ("__debug__" : Str)) = false := by decide) : E X (.Name x pos) ρ d ρ := by
  obtain ⟨v, u, h1, h2, h3⟩ := h.ex
  exact pe_imp (pe_glob hg h1 h2 hd) fun σ H Q ⟨F, G, ad, w, k⟩ => k v H G ad (Ext.refl F G) w (h3 G)
/-- an own def without arguments but the source: f(source) is e_callS with no more arguments -/
theorem e_isi2 {T1 : String} (h : E X e ρ d ρ1) (hm : X.mg "isinstance" = none) (hy : X.mg y = none) {r : Bool} (hk : kitB (tyOf d) T1 = some r) (hv : bootBuiltins y = some (.type T1) := by decide +kernel) (hg : Gl X "isinstance" := by rfl) (hgy : Gl X y := by rfl) (hny : y ≠ "__name__" := by decide) (hdy : (y == ("__debug__" : Str)) = false := by decide)
    (hs1 : starEach [.Name y p2] X.env = (false, eval (.Name y p2) X.env) :: starEach [] X.env := by rfl) (he : starEach [e, .Name y p2] X.env = (false, eval e X.env) :: starEach [.Name y p2] X.env := by rfl) (hpl : (backTo pos (starEach [.Name y p2] X.env)).any (·.1) = false := by rfl) :
    E X (.Call (.Name "isinstance" pn) [e, .Name y p2] [] pos) ρ (.bool r) ρ1 := e_isi h hm hy hk hv hg hgy hny hdy hs1 he hpl
end
/-! ### parts of a statement -/
def whC : Stmt → Expr
  | .While c _ _ _ => c
  | .For _ i _ _ _ => i
  | _ => .Constant .none 0 ⟨0, 0, 0, 0⟩
def forT : Stmt → Expr
  | .For t _ _ _ _ => t
  | _ => .Constant .none 0 ⟨0, 0, 0, 0⟩
def lpB : Stmt → List Stmt
  | .While _ b _ _ => b
  | .For _ _ b _ _ => b
  | _ => []
def bodyAt (s : Stmt) (i : Nat) : Stmt := (defBody s).getD i (.Pass ⟨0, 0, 0, 0⟩)
/-- the comprehension that a statement hands back or stores -/
def exprOf : Stmt → Expr
  | .Return (some e) _ => e
  | .Assign _ e _ => e
  | .Expr e _ => e
  | _ => .Constant .none 0 ⟨0, 0, 0, 0⟩
def cmT : Expr → Expr
  | .ListComp _ (g :: _) _ _ => g.target
  | _ => .Constant .none 0 ⟨0, 0, 0, 0⟩
def cmI : Expr → List Expr
  | .ListComp _ (g :: _) _ _ => g.ifs
  | _ => []
def cmE : Expr → Expr
  | .ListComp e _ _ _ => e
  | _ => .Constant .none 0 ⟨0, 0, 0, 0⟩
def cmS : Expr → Scope
  | .ListComp _ _ s _ => s
  | _ => { kind := .function, names := [], isGenerator := false, isCoroutine := false }
/-- the i-th argument of a call -/
def argOf (i : Nat) : Expr → Expr
  | .Call _ es _ _ => es.getD i (.Constant .none 0 ⟨0, 0, 0, 0⟩)
  | _ => .Constant .none 0 ⟨0, 0, 0, 0⟩
end DL
end part_DLl
section part_DLhd
/-! The head's hook with looks of one's own. -/
namespace DL
open L2 PyProof.Rows PySem.Spec PySem
def adrX (g : Addr → Option Obj) (n : Nat) : List Addr := cStatics :: He.asD g n
def obsX (ex : PySem.W.Frag → Bool) (fa : List He.Fa) (fn : List He.DefD) (K : PySem.W.Frag) : Bool × He.AlD := (ex K, He.obsD fa fn K)
def valX (fn : List He.DefD) : Bool × He.AlD := (true, He.valD fn)
def obX (n : Nat) (ex : PySem.W.Frag → Bool) (fa : List He.Fa) (fn : List He.DefD) (g : Addr → Option Obj) : Bool × He.AlD := obsX ex fa fn (He.frG g (adrX g n))
def hookX (n : Nat) (ex : PySem.W.Frag → Bool) (fa : List He.Fa) (fn : List He.DefD) : PySem.W.Hook where
  α := Bool × He.AlD
  obs := fun s => obX n ex fa fn s.heap.get?
  val := fun _ => valX fn
  says := fun _ h => ∃ K : PySem.W.Frag, K.In h ∧ obsX ex fa fn K = valX fn
  of := fun _ _ e => ⟨_, He.frG_in, e⟩
  keeps := fun _ _ _ ⟨K, hK, c⟩ k => ⟨K, PySem.W.Frag.In.keeps hK k, c⟩
theorem obX_eq {n : Nat} {ex : PySem.W.Frag → Bool} {fa : List He.Fa} {fn : List He.DefD} {g : Addr → Option Obj} {s : Shared} (h : ∀ a, g a = s.heap.get? a) : obX n ex fa fn g = (hookX n ex fa fn).obs s := by
  have e : g = s.heap.get? := funext h
  subst e
  rfl
section
variable {ex : PySem.W.Frag → Bool} {fa : List He.Fa} {fn : List He.DefD} {K : PySem.W.Frag}
theorem saysX_own (c : obsX ex fa fn K = valX fn) : ex K = true := congrArg (fun z : Bool × He.AlD => z.1) c
theorem saysX_d (c : obsX ex fa fn K = valX fn) : He.SaysD fa fn K := congrArg (fun z : Bool × He.AlD => z.2) c
end
/-- nobody has set another limit of digits -/
def digB (K : PySem.W.Frag) : Bool := He.eqO (PySem.W.nsIn K cStatics "sys.int_max_str_digits") (some none)
/-- a name is a built-in of a module -/
def bltB (K : PySem.W.Frag) (x : Str) (y : String) : Bool := He.eqO (PySem.W.nsIn K mainGlobals x) (some (some (.builtin y)))
/-- a def as a datum -/
def defD (x : Str) (st : Stmt) : He.DefD := ⟨(x, none), x, x, defArgs st, defBody st, defScope st, [], []⟩
section
variable {K : PySem.W.Frag} {h : Heap} {mg : Str → Option Value} {x : Str} {st : Stmt} {fa : List He.Fa} {fn : List He.DefD}
theorem put_of (X : K.In h) (G : h.Ns mainGlobals mg) (c : He.SaysD fa fn K) (i j : Nat) (hi : fn[i]? = some (defD x st) := by rfl) (hj : fa[j]? = some (He.Fa.glo x) := by rfl) : Put K mg x st := by
  obtain ⟨fd, F⟩ := c.def_ i hi
  exact ⟨_, fd, He.glo_ok X G (c.fact j hj), F⟩
theorem free_of (X : K.In h) (G : h.Ns mainGlobals mg) (c : He.SaysD fa fn K) (j : Nat) (hj : fa[j]? = some (He.Fa.free x) := by rfl) : mg x = none := He.free_ok X G (c.fact j hj)
end
end DL
namespace DL
open L2 PyProof.Rows PySem.Spec PySem
theorem def_end {P : Program} {w : World} {K : PySem.W.Frag} {mg : Str → Option Value} {h : Heap} {fa f : Addr} {fd : FuncData} {y x : Str} {st : Stmt} {k : Nat} (F : FunD K y y (defArgs st) (defBody st) (defScope st) [] [] f fd) (hb : BindsOf st y [x])
    (dl : ∀ base : Heap, FnG P w K mg base L2.CX0 k f fd [x] (spL K)) (KX : K.In h) (hf : mg y = some (.ref f)) (hmg : mg y = some (.ref fa)) :
    ∃ (K : PySem.W.Frag) (fd : FuncData) (sp : Sp), K.In h ∧ (∀ (s : Shared) (u : Value), BindsTo s fd ⟨[u], []⟩ [(x, u)]) ∧ (∀ (H : Hp) (a : Addr) (ns : List Int), ns.length ≤ 63 → SqL K H a (ns.map V.int) → sp [.ref a] H (fun v _ => v = .bl true) fun _ _ _ => False) ∧
        ∀ base : Heap, K.In base → base.Ns mainGlobals mg → FnG P w K mg base L2.CX0 k fa fd [x] sp := by
  have e := hmg.symm.trans hf
  cases e
  have b := FunD.bindsA (ps := [x]) F hb
  exact ⟨K, fd, spL K, KX, fun s u => b s [u] rfl, fun H a ns hl hS => ⟨a, ns, rfl, hS, hl, fun _ => rfl⟩, fun base _ _ => dl base⟩
end DL
end part_DLhd
section part_DLz
/-! zip over lists and tuples in any pairing (true: a tuple). -/
namespace DLz
open L2 PyProof.Rows PySem.Spec PySem RZ
open PySem.Sem (wp)
def ItB (k : Bool) (h : Heap) (it l : Addr) (i : Nat) : Prop := match k with
  | true => h.IsTupleIter it l i
  | false => h.IsListIter it l i
def SqB (k : Bool) (h : Heap) (l : Addr) (xs : Array Value) : Prop := match k with
  | true => h.IsTuple l xs
  | false => h.IsList l xs
theorem ItB.off {k : Bool} {h h' : Heap} {a b t : Addr} {i : Nat} (x : ItB k h a t i) (q : Heap.ExtBut b h h') (n : a ≠ b) : ItB k h' a t i := by
  cases k with
  | true => exact Heap.IsTupleIter.extBut x q n
  | false => exact Heap.IsListIter.extBut x q n
theorem SqB.off {k : Bool} {h h' : Heap} {a b : Addr} {xs : Array Value} (x : SqB k h a xs) (q : Heap.ExtBut b h h') (n : a ≠ b) : SqB k h' a xs := by
  cases k with
  | true => exact Heap.IsTuple.extBut x q n
  | false => exact Heap.IsList.extBut x q n
theorem ItB.at_ {k : Bool} {h h' : Heap} {a t : Addr} {i : Nat} (x : ItB k h a t i) (q : ∀ o, h.get? a = some o → h'.get? a = some o) : ItB k h' a t i := by
  cases k with
  | true => exact Heap.IsTupleIter.at x q
  | false => exact Heap.IsListIter.at x q
theorem ItB.obj {k : Bool} {h : Heap} {a t : Addr} {i : Nat} (x : ItB k h a t i) : ∃ o, h.get? a = some o ∧ ∀ v, o.data ≠ .cell v := by
  cases k with
  | true =>
    obtain ⟨o, e, _, d⟩ := x
    exact ⟨o, e, fun v q => by rw [d] at q; cases q⟩
  | false =>
    obtain ⟨o, e, _, d⟩ := x
    exact ⟨o, e, fun v q => by rw [d] at q; cases q⟩
theorem SqB.lt {k : Bool} {h : Heap} {a : Addr} {xs : Array Value} (x : SqB k h a xs) : a < h.objs.size := by
  cases k with
  | true =>
    obtain ⟨o, e, _⟩ := x
    exact Heap.lt_size e
  | false =>
    obtain ⟨o, e, _⟩ := x
    exact Heap.lt_size e
section
variable {prog : Program} {w : World} {A : Around} {E : Value → Shared → Prop} {s : Shared}
theorem next_item {k : Bool} {it l : Addr} {i : Nat} {xs : Array Value} {x : Value} {Q : Value → Shared → Prop} (h1 : ItB k s.heap it l i) (h2 : SqB k s.heap l xs) (hx : xs[i]? = some x)
    (hQ : ∀ h', ItB k h' it l (i + 1) → Heap.SameBut it s.heap h' → Q x { s with heap := h' }) : wpAny (model prog w) A (Builtin.SmallTypes.nextOf (.ref it)) Q E s := by
  cases k with
  | true => exact nextOf_tuple_item h1 h2 hx hQ
  | false => exact wpAny_nextOf_list_item h1 h2 hx hQ
theorem next_end {k : Bool} {it l : Addr} {i : Nat} {xs : Array Value} {Q : Value → Shared → Prop} (hh : A.handled = none) (h1 : ItB k s.heap it l i) (h2 : SqB k s.heap l xs) (hx : xs[i]? = none)
    (hE : ∀ h' e, Heap.ExtBut it s.heap h' → (∃ o, h'.get? e = some o ∧ o.cls = .type "StopIteration") → E (.ref e) { s with heap := h' }) : wpAny (model prog w) A (Builtin.SmallTypes.nextOf (.ref it)) Q E s := by
  cases k with
  | true => exact nextOf_tuple_end hh h1 h2 hx hE
  | false => exact wpAny_nextOf_list_end hh h1 h2 hx hE
variable {k j : Bool} {Z U O p q l m : Addr} {n1 n2 : Nat} {xs ys : Array Value} {x y a b : Value}
/-- what lies apart -/
theorem zip_go {Q : Value → Shared → Prop} (D : ZipApart Z U O p q l m) (zz : IsZip s.heap Z U O .none) (zU : IsPair s.heap U (.ref p) (.ref q)) (zO : IsPair s.heap O a b)
    (i1 : ItB k s.heap p l n1) (i2 : ItB j s.heap q m n2) (s1 : SqB k s.heap l xs) (s2 : SqB j s.heap m ys) (ex : xs[n1]? = some x) (ey : ys[n2]? = some y)
    (fin : ∀ h', IsZip h' Z U O (rawInt s.heap.objs.size) → IsPair h' O x y → ItB k h' p l (n1 + 1) → ItB j h' q m (n2 + 1) → IsPair h' s.heap.objs.size x y → h'.objs.size = s.heap.objs.size + 1 →
      (∀ c o, c ≠ Z → c ≠ O → c ≠ p → c ≠ q → s.heap.get? c = some o → h'.get? c = some o) → Q (.ref s.heap.objs.size) { s with heap := h' }) :
    wpAny (model prog w) A (Builtin.«zip.__next__» ⟨[.ref Z], []⟩) (fun r s' => ∃ v, r = .done (.ret v) ∧ Q v s') E s := by
  show wpAny _ _ (field (.ref Z) 2 >>= _) _ _ _
  refine wpAny_bind (wpAny_field zz rfl (x := .bool false) rfl ?_)
  show wpAny _ _ (field (.ref Z) 3 >>= _) _ _ _
  refine wpAny_bind (wpAny_field zz rfl (x := .ref U) rfl (wpAny_bind (wpAny_seqItems zU rfl ?_)))
  show wpAny _ _ (Builtin.SmallTypes.ownedTupleIsFree (.ref Z) >>= _) _ _ _
  refine wpAny_bind ?_
  unfold Builtin.SmallTypes.ownedTupleIsFree; refine wpAny_bind (wpAny_field zz rfl (x := .none) rfl (wpAny_pure ?_))
  simp only [if_true]
  refine wpAny_bind (wpAny_rule (wpAny_bind (wpAny_field zz rfl (x := .ref O) rfl (wpAny_bind (wpAny_setField_rec zz (by simp) fun t1 y1 v1 => ?_)))))
  replace y1 : IsZip t1 Z U O .ellipsis := y1
  refine wpAny_bind ?_
  simp only [List.zipIdx_cons, List.zipIdx_nil, List.forIn_cons, List.forIn_nil]; refine wpAny_bind (wpAny_bind (wpAny_onRaise ?_))
  show wpAny _ _ (Builtin.SmallTypes.nextOf (.ref p) >>= _) _ _ _
  refine wpAny_bind (next_item (i1.off v1.extBut D.i1z) (s1.off v1.extBut D.l1z) ex fun t2 j1 v2 => wpAny_pure ?_)
  have o2 : IsPair t2 O a b := v2.extBut _ _ D.TOi1 (v1.extBut _ _ D.TOz zO)
  refine wpAny_bind (wpAny_seqItems o2 rfl (wpAny_bind (wpAny_updateSeq_pair o2 fun t3 o3 v3 => ?_)))
  replace o3 : IsPair t3 O x b := o3
  refine wpAny_bind (wpAny_letGo (wpAny_pure (wpAny_bind (wpAny_bind (wpAny_onRaise ?_)))))
  show wpAny _ _ (Builtin.SmallTypes.nextOf (.ref q) >>= _) _ _ _
  refine wpAny_bind (next_item (((i2.off v1.extBut D.i2z).off v2.extBut D.i12.symm).off v3.extBut D.TOi2.symm) (((s2.off v1.extBut D.l2z).off v2.extBut D.l2i1).off v3.extBut D.l2TO) ey fun t4 j2 v4 => wpAny_pure ?_)
  have o4 : IsPair t4 O x b := v4.extBut _ _ D.TOi2 o3
  refine wpAny_bind (wpAny_seqItems o4 rfl (wpAny_bind (wpAny_updateSeq_pair o4 fun t5 o5 v5 => ?_)))
  replace o5 : IsPair t5 O x y := o5
  refine wpAny_bind (wpAny_letGo (wpAny_pure (wpAny_pure (wpAny_bind (wpAny_seqItems o5 rfl (wpAny_bind (wpAny_newTuple ?_)))))))
  have e5 : t5.objs.size = s.heap.objs.size := by rw [v5.1, v4.1, v3.1, v2.1, v1.1]
  have y5 : IsZip t5 Z U O .ellipsis := v5.extBut _ _ D.TOz.symm (v4.extBut _ _ D.i2z.symm (v3.extBut _ _ D.TOz.symm (v2.extBut _ _ D.i1z.symm y1)))
  have k5 : ∀ c o, c ≠ Z → c ≠ O → c ≠ p → c ≠ q → s.heap.get? c = some o → t5.get? c = some o := fun c o c1 c2 c3 c4 e => v5.extBut _ _ c2 (v4.extBut _ _ c4 (v3.extBut _ _ c2 (v2.extBut _ _ c3 (v1.extBut _ _ c1 e))))
  have g1 : ItB k t5 p l (n1 + 1) := ((j1.off v3.extBut D.TOi1.symm).off v4.extBut D.i12).off v5.extBut D.TOi1.symm
  have g2 : ItB j t5 q m (n2 + 1) := j2.off v5.extBut D.TOi2.symm
  have lz : Z < t5.objs.size := Heap.lt_size y5
  show wpAny _ _ (Builtin.SmallTypes.ownedTupleHandOut (.ref Z) (.ref t5.objs.size) >>= _) _ _ _
  refine wpAny_bind ?_
  unfold Builtin.SmallTypes.ownedTupleHandOut; have y6 : IsZip (t5.push { cls := .type "tuple", data := .seq #[x, y] }) Z U O .ellipsis := Heap.get?_push_of_some _ y5
  refine wpAny_bind (wpAny_setField_rec y6 (by simp) fun t7 y7 v7 => ?_)
  replace y7 : IsZip t7 Z U O (rawInt t5.objs.size) := y7
  refine wpAny_setField_rec y7 (by simp) fun t8 y8 v8 => ?_
  replace y8 : IsZip t8 Z U O (rawInt t5.objs.size) := y8
  have up : ∀ c o, c ≠ Z → t5.get? c = some o → t8.get? c = some o := fun c o c1 e => v8.extBut _ _ c1 (v7.extBut _ _ c1 (Heap.get?_push_of_some _ e))
  have w8 : IsPair t8 t5.objs.size x y := v8.extBut _ _ (Nat.ne_of_gt lz) (v7.extBut _ _ (Nat.ne_of_gt lz) (Heap.get?_push_size _ rfl))
  have e8 : t8.objs.size = t5.objs.size + 1 := by rw [v8.1, v7.1, Heap.size_push]
  rw [e5] at y8 w8 e8
  refine wpAny_pure ⟨_, rfl, ?_⟩
  show Q (.ref t5.objs.size) _
  rw [e5]
  exact fin t8 y8 (up _ _ D.TOz o5) (g1.at_ fun o e => up _ o D.i1z e) (g2.at_ fun o e => up _ o D.i2z e) w8 e8 fun c o c1 c2 c3 c4 e => up c o c1 (k5 c o c1 c2 c3 c4 e)
theorem zip_stop {Q : Fin → Shared → Prop} (hh : A.handled = none) (D : ZipApart Z U O p q l m) (zz : IsZip s.heap Z U O .none) (zU : IsPair s.heap U (.ref p) (.ref q)) (zO : IsPair s.heap O a b)
    (i1 : ItB k s.heap p l n1) (i2 : ItB j s.heap q m n2) (s1 : SqB k s.heap l xs) (s2 : SqB j s.heap m ys) (none1 : xs[n1]? = none ∨ ys[n2]? = none)
    (fin : ∀ h' e, (∀ c o, c ≠ Z → c ≠ O → c ≠ p → c ≠ q → s.heap.get? c = some o → h'.get? c = some o) → (∃ o, h'.get? e = some o ∧ o.cls = .type "StopIteration") → E (.ref e) { s with heap := h' }) :
    wpAny (model prog w) A (Builtin.«zip.__next__» ⟨[.ref Z], []⟩) Q E s := by
  show wpAny _ _ (field (.ref Z) 2 >>= _) _ _ _
  refine wpAny_bind (wpAny_field zz rfl (x := .bool false) rfl ?_)
  show wpAny _ _ (field (.ref Z) 3 >>= _) _ _ _
  refine wpAny_bind (wpAny_field zz rfl (x := .ref U) rfl (wpAny_bind (wpAny_seqItems zU rfl ?_)))
  show wpAny _ _ (Builtin.SmallTypes.ownedTupleIsFree (.ref Z) >>= _) _ _ _
  refine wpAny_bind ?_
  unfold Builtin.SmallTypes.ownedTupleIsFree; refine wpAny_bind (wpAny_field zz rfl (x := .none) rfl (wpAny_pure ?_))
  simp only [if_true]
  refine wpAny_bind (wpAny_rule (wpAny_bind (wpAny_field zz rfl (x := .ref O) rfl (wpAny_bind (wpAny_setField_rec zz (by simp) fun t1 y1 v1 => ?_)))))
  replace y1 : IsZip t1 Z U O .ellipsis := y1
  refine wpAny_bind ?_
  simp only [List.zipIdx_cons, List.zipIdx_nil, List.forIn_cons, List.forIn_nil]; refine wpAny_bind (wpAny_bind (wpAny_onRaise ?_))
  show wpAny _ _ (Builtin.SmallTypes.nextOf (.ref p) >>= _) _ _ _
  cases ex : xs[n1]? with
  | none =>
    refine wpAny_bind (next_end hh (i1.off v1.extBut D.i1z) (s1.off v1.extBut D.l1z) ex fun t2 e v2 he => ?_)
    obtain ⟨oe, g1, g2⟩ := he
    have y2 : IsZip t2 Z U O .ellipsis := v2 _ _ D.i1z.symm y1
    have ne : e ≠ Z := fun z => by subst z; rw [y2] at g1; cases g1; simp at g2
    refine wpAny_setField_rec y2 (by simp) fun t3 _ v3 => fin t3 e (fun c o c1 _ c3 _ z => v3.extBut _ _ c1 (v2 _ _ c3 (v1.extBut _ _ c1 z))) ⟨oe, v3.extBut _ _ ne g1, g2⟩
  | some x =>
    have ey : ys[n2]? = none := by
      rcases none1 with h | h
      · rw [ex] at h; cases h
      · exact h
    refine wpAny_bind (next_item (i1.off v1.extBut D.i1z) (s1.off v1.extBut D.l1z) ex fun t2 j1 v2 => wpAny_pure ?_)
    have o2 : IsPair t2 O a b := v2.extBut _ _ D.TOi1 (v1.extBut _ _ D.TOz zO)
    refine wpAny_bind (wpAny_seqItems o2 rfl (wpAny_bind (wpAny_updateSeq_pair o2 fun t3 o3 v3 => ?_)))
    refine wpAny_bind (wpAny_letGo (wpAny_pure (wpAny_bind (wpAny_bind (wpAny_onRaise ?_)))))
    show wpAny _ _ (Builtin.SmallTypes.nextOf (.ref q) >>= _) _ _ _
    refine wpAny_bind (next_end hh (((i2.off v1.extBut D.i2z).off v2.extBut D.i12.symm).off v3.extBut D.TOi2.symm) (((s2.off v1.extBut D.l2z).off v2.extBut D.l2i1).off v3.extBut D.l2TO) ey fun t4 e v4 he => ?_)
    obtain ⟨oe, g1, g2⟩ := he
    have y4 : IsZip t4 Z U O .ellipsis := v4 _ _ D.i2z.symm (v3.extBut _ _ D.TOz.symm (v2.extBut _ _ D.i1z.symm y1))
    have ne : e ≠ Z := fun z => by subst z; rw [y4] at g1; cases g1; simp at g2
    refine wpAny_setField_rec y4 (by simp) fun t5 _ v5 => fin t5 e (fun c o c1 c2 c3 c4 z => v5.extBut _ _ c1 (v4 _ _ c4 (v3.extBut _ _ c2 (v2.extBut _ _ c3 (v1.extBut _ _ c1 z))))) ⟨oe, v5.extBut _ _ ne g1, g2⟩
theorem pyNext_go {Q : Option Value → Shared → Prop} (D : ZipApart Z U O p q l m) (zz : IsZip s.heap Z U O .none) (zU : IsPair s.heap U (.ref p) (.ref q)) (zO : IsPair s.heap O a b)
    (i1 : ItB k s.heap p l n1) (i2 : ItB j s.heap q m n2) (s1 : SqB k s.heap l xs) (s2 : SqB j s.heap m ys) (ex : xs[n1]? = some x) (ey : ys[n2]? = some y)
    (fin : ∀ h', IsZip h' Z U O (rawInt s.heap.objs.size) → IsPair h' O x y → ItB k h' p l (n1 + 1) → ItB j h' q m (n2 + 1) → IsPair h' s.heap.objs.size x y → h'.objs.size = s.heap.objs.size + 1 →
      (∀ c o, c ≠ Z → c ≠ O → c ≠ p → c ≠ q → s.heap.get? c = some o → h'.get? c = some o) → Q (some (.ref s.heap.objs.size)) { s with heap := h' }) : wpAny (model prog w) A (pyNext (.ref Z)) Q E s := by
  have ty : s.TypeIs (.ref Z) "zip" := ⟨_, zz, rfl⟩
  unfold pyNext
  exact wpAny_bind (wpAny_attempt (wpAny_callSpecial?_slot (name := Str.ofString "__next__") ty F.slot_zip_next (wpAny_call_entry F.slot_zip_next ty F.entry_zip_next (zip_go D zz zU zO i1 i2 s1 s2 ex ey fun h' a1 a2 a3 a4 a5 a6 a7 => wpAny_pure (fin h' a1 a2 a3 a4 a5 a6 a7)) (F.args_zip_next_1 _))))
theorem pyNext_stop {Q : Option Value → Shared → Prop} (hh : A.handled = none) (D : ZipApart Z U O p q l m) (zz : IsZip s.heap Z U O .none) (zU : IsPair s.heap U (.ref p) (.ref q)) (zO : IsPair s.heap O a b)
    (i1 : ItB k s.heap p l n1) (i2 : ItB j s.heap q m n2) (s1 : SqB k s.heap l xs) (s2 : SqB j s.heap m ys) (none1 : xs[n1]? = none ∨ ys[n2]? = none)
    (fin : ∀ h', (∀ c o, c ≠ Z → c ≠ O → c ≠ p → c ≠ q → s.heap.get? c = some o → h'.get? c = some o) → Q none { s with heap := h' }) : wpAny (model prog w) A (pyNext (.ref Z)) Q E s := by
  have ty : s.TypeIs (.ref Z) "zip" := ⟨_, zz, rfl⟩
  unfold pyNext
  refine wpAny_bind (wpAny_attempt (wpAny_callSpecial?_slot (name := Str.ofString "__next__") ty F.slot_zip_next (wpAny_call_entry F.slot_zip_next ty F.entry_zip_next (zip_stop hh D zz zU zO i1 i2 s1 s2 none1 fun h' e hk he => ?_) (F.args_zip_next_1 _))))
  obtain ⟨o, g1, g2⟩ := he
  exact wpAny_bind (wpAny_isInstance (T := "StopIteration") (b := true) ⟨o, g1, g2⟩ isSubtype_stop (wpAny_pure (fin _ hk)))
end
/-! ### a zip made -/
def itO (k : Bool) (l : Addr) : Obj := match k with
  | true => { cls := .type "tuple_iterator", data := .fields #[.ref l, .int 0 0] }
  | false => { cls := .type "list_iterator", data := .fields #[.ref l, .int 0 0] }
abbrev z1 (h : Heap) (k : Bool) (l : Addr) : Heap := h.push (itO k l)
abbrev z2 (h : Heap) (k j : Bool) (l m : Addr) : Heap := (z1 h k l).push (itO j m)
abbrev z3 (h : Heap) (k j : Bool) (l m : Addr) : Heap := (z2 h k j l m).push { cls := .type "tuple", data := .seq #[.ref h.objs.size, .ref (z1 h k l).objs.size] }
abbrev z4 (h : Heap) (k j : Bool) (l m : Addr) : Heap := (z3 h k j l m).push { cls := .type "tuple", data := .seq #[.none, .none] }
abbrev z5 (h : Heap) (k j : Bool) (l m : Addr) : Heap := (z4 h k j l m).push { cls := .type "zip", data := .fields #[.none, .bool false, .bool false, .ref (z2 h k j l m).objs.size, .ref (z3 h k j l m).objs.size] }
theorem meets_new (k j : Bool) (l m : Addr) (xs ys : Array Value) : Meets (Builtin.«zip.__new__» ⟨[.type "zip", .ref l, .ref m], []⟩) (fun _ R s => SqB k s.heap l xs ∧ SqB j s.heap m ys ∧ R (.ok (.ret (.ref (z4 s.heap k j l m).objs.size))) { s with heap := z5 s.heap k j l m }) :=
  .of_wp fun prog w A R s h => by
    obtain ⟨hp, g, d, tk, os⟩ := s
    obtain ⟨a1, a2, h⟩ := h
    have hsub := sub_zip
    cases k with
    | true =>
      have b1 : Heap.IsTuple (Shared.heap ⟨hp, g, d, tk, os⟩) l xs := a1
      cases j with
      | true =>
        have b2 : Heap.IsTuple (Shared.heap ⟨hp.push { cls := .type "tuple_iterator", data := .fields #[.ref l, .int 0 0] }, g, d, tk, os⟩) m ys := Heap.IsTuple.push a2 _
        wp_walk using wpAny_pyIter_tuple b1, wpAny_pyIter_tuple b2
        exact ⟨_, rfl, h⟩
      | false =>
        have b2 : Heap.IsList (Shared.heap ⟨hp.push { cls := .type "tuple_iterator", data := .fields #[.ref l, .int 0 0] }, g, d, tk, os⟩) m ys := Heap.IsList.push a2 _
        wp_walk using wpAny_pyIter_tuple b1, wpAny_pyIter_list b2
        exact ⟨_, rfl, h⟩
    | false =>
      have b1 : Heap.IsList (Shared.heap ⟨hp, g, d, tk, os⟩) l xs := a1
      cases j with
      | true =>
        have b2 : Heap.IsTuple (Shared.heap ⟨hp.push { cls := .type "list_iterator", data := .fields #[.ref l, .int 0 0] }, g, d, tk, os⟩) m ys := Heap.IsTuple.push a2 _
        wp_walk using wpAny_pyIter_list b1, wpAny_pyIter_tuple b2
        exact ⟨_, rfl, h⟩
      | false =>
        have b2 : Heap.IsList (Shared.heap ⟨hp.push { cls := .type "list_iterator", data := .fields #[.ref l, .int 0 0] }, g, d, tk, os⟩) m ys := Heap.IsList.push a2 _
        wp_walk using wpAny_pyIter_list b1, wpAny_pyIter_list b2
        exact ⟨_, rfl, h⟩
theorem itO_free {k : Bool} {l : Addr} : (itO k l).isFreed = false := by cases k <;> rfl
theorem itO_at {k : Bool} {h : Heap} {a l : Addr} (e : h.get? a = some (itO k l)) : ItB k h a l 0 := by
  cases k with
  | true => exact ⟨_, e, rfl, rfl⟩
  | false => exact ⟨_, e, rfl, rfl⟩
section
variable {prog : Program} {w : World} {A : Around} {E : Value → Shared → Prop} {s : Shared} {k j : Bool} {l m : Addr} {xs ys : Array Value}
theorem call_zipB {Q : Value → Shared → Prop} (a1 : SqB k s.heap l xs) (a2 : SqB j s.heap m ys)
    (fin : ∀ h', IsZip h' (s.heap.objs.size + 4) (s.heap.objs.size + 2) (s.heap.objs.size + 3) .none → IsPair h' (s.heap.objs.size + 2) (.ref s.heap.objs.size) (.ref (s.heap.objs.size + 1)) → IsPair h' (s.heap.objs.size + 3) .none .none →
      ItB k h' s.heap.objs.size l 0 → ItB j h' (s.heap.objs.size + 1) m 0 → (∀ c o, s.heap.get? c = some o → h'.get? c = some o) → Q (.ref (s.heap.objs.size + 4)) { s with heap := h' }) : wpAny (model prog w) A (call (.type "zip") [.ref l, .ref m]) Q E s := by
  refine callType_new F.called_zip (by decide) (F.typeCall_zip_2 _ _) (F.newCall_zip_2 _ _) (fun obj => F.args_object_init_3 obj _ _) F.entry_zip_new (meets_new k j l m xs ys) ⟨a1, a2, ?_⟩
  have n1 : (z1 s.heap k l).objs.size = s.heap.objs.size + 1 := Heap.size_push ..
  have n2 : (z2 s.heap k j l m).objs.size = s.heap.objs.size + 2 := by rw [Heap.size_push, n1]
  have n3 : (z3 s.heap k j l m).objs.size = s.heap.objs.size + 3 := by rw [Heap.size_push, n2]
  have n4 : (z4 s.heap k j l m).objs.size = s.heap.objs.size + 4 := by rw [Heap.size_push, n3]
  have g5 : (z5 s.heap k j l m).get? (z4 s.heap k j l m).objs.size = some _ := Heap.get?_push_size _ rfl
  have g4 : (z5 s.heap k j l m).get? (z3 s.heap k j l m).objs.size = some _ := Heap.get?_push_of_some _ (Heap.get?_push_size _ rfl)
  have g3 : (z5 s.heap k j l m).get? (z2 s.heap k j l m).objs.size = some _ := Heap.get?_push_of_some _ (Heap.get?_push_of_some _ (Heap.get?_push_size _ rfl))
  have g2 : (z5 s.heap k j l m).get? (z1 s.heap k l).objs.size = some (itO j m) := Heap.get?_push_of_some _ (Heap.get?_push_of_some _ (Heap.get?_push_of_some _ (Heap.get?_push_size _ itO_free)))
  have g1 : (z5 s.heap k j l m).get? s.heap.objs.size = some (itO k l) := Heap.get?_push_of_some _ (Heap.get?_push_of_some _ (Heap.get?_push_of_some _ (Heap.get?_push_of_some _ (Heap.get?_push_size _ itO_free))))
  show _ ∧ _
  rw [n2, n3, n4] at g5
  rw [n1, n2] at g3
  rw [n3] at g4
  rw [n1] at g2
  rw [n4]
  exact ⟨⟨_, g5, rfl⟩, fin _ g5 g3 g4 (itO_at g1) (itO_at g2) fun c o x => Heap.get?_push_of_some _ (Heap.get?_push_of_some _ (Heap.get?_push_of_some _ (Heap.get?_push_of_some _ (Heap.get?_push_of_some _ x))))⟩
end
/-! ### the walk -/
/-- a list or a tuple of a heap -/
def SqK (K : PySem.W.Frag) (k : Bool) (H : Hp) (a : Addr) (xs : List V) : Prop := match k with
  | true => SqT K H a xs
  | false => SqL K H a xs
def ItzB (K : PySem.W.Frag) (k j : Bool) (a b : Addr) : It :=
  ⟨fun i H => ∃ (xs ys : List V) (x y : V), SqK K k H a xs ∧ SqK K j H b ys ∧ xs[i]? = some x ∧ ys[i]? = some y,
    fun i H v H' => ∃ T x y, v = .ref T ∧ H T = none ∧ H' = upd H T (.tup [x, y]) ∧ (∀ xs, SqK K k H a xs → xs[i]? = some x) ∧ ∀ ys, SqK K j H b ys → ys[i]? = some y,
    fun i H => ∃ xs ys : List V, SqK K k H a xs ∧ SqK K j H b ys ∧ (xs.length ≤ i ∨ ys.length ≤ i)⟩
section
variable {X : Cx} {pins : List (Addr × Obj)} {σ : L2.St} {H : Hp} {s : Shared} {k j : Bool} {a b : Addr} {xs ys : List V}
theorem SqK.of (h : SqK X.K k H a xs) (I : Inv X pins σ H s) : ∃ its : List Value, Vals xs its ∧ SqB k s.heap a its.toArray := by
  cases k with
  | true =>
    obtain ⟨its, rv, p, _⟩ := I.tuple h
    exact ⟨its, rv, p⟩
  | false =>
    obtain ⟨its, rv, p, _⟩ := I.list h
    exact ⟨its, rv, p.isList⟩
theorem SqK.inj {ys : List V} (h1 : SqK X.K k H a xs) (h2 : SqK X.K k H a ys) (I : Inv X pins σ H s) : xs = ys := by
  cases k with
  | true => exact I.tuple_inj h1 h2
  | false => exact I.list_inj h1 h2
end
theorem turn_zipB {P : Program} {w : World} {K : PySem.W.Frag} {elts : List Expr} {kk : Nat} {tpos : Pos} {k j : Bool} {l m Z U O p q : Addr} (D : ZipApart Z U O p q l m) :
    Turn P w K (.Tuple elts kk tpos) (ItzB K k j l m) [Z, U, O, p, q] Z (fun i h => IsZip h Z U O .none ∧ IsPair h U (.ref p) (.ref q) ∧ (∃ x y, IsPair h O x y) ∧ ItB k h p l i ∧ ItB j h q m i) where
  mem := by simp
  obj := fun i h st c hc => by
    obtain ⟨zz, zU, ⟨x, y, zO⟩, i1, i2⟩ := st
    have cases5 : c = Z ∨ c = U ∨ c = O ∨ c = p ∨ c = q := by simpa using hc
    rcases cases5 with e | e | e | e | e
    · rw [e]; exact ⟨_, zz, fun v q => nomatch q⟩
    · rw [e]; exact ⟨_, zU, fun v q => nomatch q⟩
    · rw [e]; exact ⟨_, zO, fun v q => nomatch q⟩
    · rw [e]; exact i1.obj
    · rw [e]; exact i2.obj
  keep := fun i h h' st kp => by
    obtain ⟨zz, zU, ⟨x, y, zO⟩, i1, i2⟩ := st
    exact ⟨kp Z (by simp) _ zz, kp U (by simp) _ zU, ⟨x, y, kp O (by simp) _ zO⟩, i1.at_ fun o e => kp p (by simp) o e, i2.at_ fun o e => kp q (by simp) o e⟩
  item := by
    intro X hP hw hK hc i pins s σ H E I hf st hg
    subst hP hw hK
    obtain ⟨zz, zU, ⟨x0, y0, zO⟩, i1, i2⟩ := st
    obtain ⟨xs, ys, x, y, hqx, hqy, hx, hy⟩ := hg
    obtain ⟨its, rv, s1⟩ := hqx.of I
    obtain ⟨its2, rv2, s2⟩ := hqy.of I
    obtain ⟨u, hu, ru⟩ := rv.get hx
    obtain ⟨v, hv, rw2⟩ := rv2.get hy
    have lz : Z < s.heap.objs.size := Heap.lt_size zz
    refine pyNext_go D zz zU zO i1 i2 s1 s2 (x := u) (y := v) (by simpa using hu) (by simpa using hv) fun h' z' O' j1 j2 hT hsz hk => ?_
    refine ⟨_, rfl, wpAny_letOwnedTupleGo_zip (s := { s with heap := h' }) z' fun h2 z2 sb => ?_⟩
    have T2 : h2.get? s.heap.objs.size = some { cls := .type "tuple", data := .seq #[u, v] } := (sb.2 _ (Nat.ne_of_gt lz)).trans hT
    have fresh : ObjOk X.prog X.w (upd H s.heap.objs.size (.tup [x, y])) h2 s.heap.objs.size (.tup [x, y]) := ⟨by show 2 ≤ sizeLine; decide, [u, v], .cons ru (.cons rw2 .nil), ⟨_, T2, rfl, _, rfl⟩⟩
    have J : Inv X pins σ (upd H s.heap.objs.size (.tup [x, y])) { s with heap := h2 } :=
      I.turnedNew (t' := s.toks) (ch := [Z, U, O, p, q]) (fun c o hb e => (sb.2 c (fun n => hb (by simp [n]))).trans (hk c o (fun n => hb (by simp [n])) (fun n => hb (by simp [n])) (fun n => hb (by simp [n])) (fun n => hb (by simp [n])) e)) hf (Nat.le_refl _) fresh
    refine ⟨.ref s.heap.objs.size, _, J, rfl, ⟨_, x, y, rfl, I.hok.fresh (Nat.le_refl _), rfl, fun l hl => by rw [hl.inj hqx I]; exact hx, fun l hl => by rw [hl.inj hqy I]; exact hy⟩, ⟨z2, ?_, ⟨u, v, ?_⟩, ?_, ?_⟩, fun c hcm => ?_⟩
    · exact (sb.2 _ D.TIz).trans (hk _ _ D.TIz D.TITO D.TIi1 D.TIi2 zU)
    · exact (sb.2 _ D.TOz).trans O'
    · exact j1.at_ fun o e => (sb.2 _ D.i1z).trans e
    · exact j2.at_ fun o e => (sb.2 _ D.i2z).trans e
    · have lt : c < s.heap.objs.size := by
        have cases5 : c = Z ∨ c = U ∨ c = O ∨ c = p ∨ c = q := by simpa using hcm
        rcases cases5 with e | e | e | e | e
        · rw [e]; exact lz
        · rw [e]; exact Heap.lt_size zU
        · rw [e]; exact Heap.lt_size zO
        · obtain ⟨_, e1, _⟩ := i1.obj
          rw [e]; exact Heap.lt_size e1
        · obtain ⟨_, e1, _⟩ := i2.obj
          rw [e]; exact Heap.lt_size e1
      rw [upd_ne (Nat.ne_of_lt lt)]
      exact (hf c hcm).1
  done := by
    intro X hP hw hK hc i pins s σ H E I hf st hg
    subst hP hw hK
    obtain ⟨zz, zU, ⟨x0, y0, zO⟩, i1, i2⟩ := st
    obtain ⟨xs, ys, hqx, hqy, hend⟩ := hg
    obtain ⟨its, rv, s1⟩ := hqx.of I
    obtain ⟨its2, rv2, s2⟩ := hqy.of I
    have n1 := rv.length
    have n2 := rv2.length
    have he : its.toArray[i]? = none ∨ its2.toArray[i]? = none := by
      rcases hend with e | e
      · exact .inl (by simp; omega)
      · exact .inr (by simp; omega)
    exact pyNext_stop (I.ok.hd hc) D zz zU zO i1 i2 s1 s2 he fun h' hk => ⟨rfl, I.turnedL (t' := s.toks) (ch := [Z, U, O, p, q]) (fun c o hb e =>
      hk c o (fun n => hb (by simp [n])) (fun n => hb (by simp [n])) (fun n => hb (by simp [n])) (fun n => hb (by simp [n])) e) hf⟩
  self := fun A i s Q E st h => wpAny_pyIter_zip st.1 h
def iZipB (K : PySem.W.Frag) (ta : TA) : TI := fun σ H R => ta σ H fun vs H1 => ∃ k j a b xs ys, vs = [.ref a, .ref b] ∧ SqK K k H1 a xs ∧ SqK K j H1 b ys ∧ R (ItzB K k j a b) H1
theorem pi_zipB {X : Cx} {e e2 : Expr} {ta : TA} {p pos tpos : Pos} {elts : List Expr} {kk : Nat} (hg : Gl X "zip") (hm : X.mg "zip" = none) (ha : PA X [e, e2] ta) (hs : starEach [e, e2] X.env = (false, eval e X.env) :: starEach [e2] X.env := by rfl) (hpl : (backTo pos (starEach [e2] X.env)).any (·.1) = false := by rfl) :
    PI X (.Tuple elts kk tpos) (.Call (.Name "zip" p) [e, e2] [] pos) (iZipB X.K ta) := by
  refine ⟨fun pins s σ H R I h => ?_⟩
  refine Call_ (ld_blt I hg hm PyProof.Rows.boot_zip (PyProof.Rows.callWith_type1 (thn (ha.run pos pins s σ H _ I h) fun us s1 ⟨vs, H1, I1, r1, k, j, a, b, xs, ys, ex, hqx, hqy, fin⟩ => ?_) hs hpl))
  subst ex
  cases r1 with
  | cons r rr =>
    cases rr with
    | cons r' rr =>
      cases rr
      cases r
      cases r'
      have five : ∀ c, c ∈ [s1.heap.objs.size + 4, s1.heap.objs.size + 2, s1.heap.objs.size + 3, s1.heap.objs.size, s1.heap.objs.size + 1] → FpOk X pins H1 c := fun c hcm => by
        have le : s1.heap.objs.size ≤ c := by
          simp only [List.mem_cons, List.not_mem_nil, or_false] at hcm
          rcases hcm with z | z | z | z | z <;> (rw [z]; first | exact Nat.le_add_right _ _ | exact Nat.le_refl _)
        exact I1.fpOk le (I1.hok.fresh le)
      obtain ⟨its, rv, q1⟩ := hqx.of I1
      obtain ⟨its2, rv2, q2⟩ := hqy.of I1
      refine call_zipB q1 q2 fun h' zz zU zO g1 g2 hk => wpAny_pyIter_zip zz ?_
      have I2 : Inv X pins σ H1 { s1 with heap := h' } := I1.kept (t' := s1.toks) hk
      exact ⟨s1.heap.objs.size + 4, [s1.heap.objs.size + 4, s1.heap.objs.size + 2, s1.heap.objs.size + 3, s1.heap.objs.size, s1.heap.objs.size + 1], _, _, H1, rfl, I2, turn_zipB (PySem.W.ktu_apart s1.heap.objs.size a b q1.lt q2.lt), ⟨zz, zU, ⟨_, _, zO⟩, g1, g2⟩, five, fin⟩
end DLz
/-! ### over data -/
namespace DL
open L2 PyProof.Rows PySem.Spec PySem DLz
/-- a list or a tuple of data -/
def sqD (k : Bool) (ds : List PyData) : PyData := match k with
  | true => .tuple ds
  | false => .list ds
section
variable {X : Cx} {a b : Expr} {ρ ρ1 : List Sl} {ds es : List PyData} {p pos tpos : Pos} {elts : List Expr} {kk : Nat}
theorem sqK_of {K : PySem.W.Frag} {G H : Hp} {k : Bool} {v : V} (e : Ex G H) (h : Da K G v (sqD k ds)) : ∃ l xs, v = .ref l ∧ SqK K k H l xs ∧ DaAll K G xs ds ∧ ∀ H', Ex H H' → SqK K k H' l xs := by
  cases k with
  | true =>
    cases h with
    | tup h1 h2 => exact ⟨_, _, rfl, sqT_ex e h1, h2, fun H' g => sqT_ex (e.trans g) h1⟩
  | false =>
    cases h with
    | lst h1 h2 => exact ⟨_, _, rfl, SqL.of (e _ _ h1), h2, fun H' g => SqL.of (g _ _ (e _ _ h1))⟩
/-- the pairs of a zip -/
def zipD (ds es : List PyData) : List PyData := (ds.zip es).map fun z => .tuple [z.1, z.2]
theorem i_zip {k j : Bool} (h : EA X [a, b] ρ [sqD k ds, sqD j es] ρ1) (hm : X.mg "zip" = none) (hg : Gl X "zip" := by rfl) (hs : starEach [a, b] X.env = (false, eval a X.env) :: starEach [b] X.env := by rfl) (hpl : (backTo pos (starEach [b] X.env)).any (·.1) = false := by rfl) :
    Iter X (.Tuple elts kk tpos) (.Call (.Name "zip" p) [a, b] [] pos) ρ (zipD ds es) ρ1 := pi_imp (pi_zipB hg hm h hs hpl) fun σ H R ⟨F, G, ad, w, c⟩ => ⟨F, G, ad, w, fun vs H1 G1 ad1 e1 w1 p1 => by
  obtain ⟨v, u, rfl, pv, pu⟩ := daAll_two p1
  obtain ⟨l, xs, rfl, q1, d1, k1⟩ := sqK_of w1.gh pv
  obtain ⟨m, ys, rfl, q2, d2, k2⟩ := sqK_of w1.gh pu
  refine ⟨k, j, l, m, xs, ys, rfl, q1, q2, c _ H1 G1 ad1 e1 w1 fun H2 G2 g1 g2 => ?_⟩
  obtain ⟨l', xs', r1, r2, r3, r4⟩ := sqK_of (g1.trans g2) pv
  obtain ⟨m', ys', u1, u2, u3, u4⟩ := sqK_of (g1.trans g2) pu
  cases r1
  cases u1
  have n1 := daAll_len r3
  have n2 := daAll_len u3
  refine ⟨⟨xs', ys', r2, u2, ?_⟩, fun i d hi => ?_⟩
  · unfold zipD
    rw [List.length_map, List.length_zip]
    omega
  · unfold zipD at hi
    rw [List.getElem?_map] at hi
    cases ez : (ds.zip es)[i]? with
    | none => rw [ez] at hi; cases hi
    | some z =>
      rw [ez] at hi
      cases hi
      obtain ⟨z1, z2⟩ := z
      have hz := List.getElem?_zip_eq_some.mp ez
      obtain ⟨v1, hv1, pv1⟩ := daAll_get r3 hz.1
      obtain ⟨v2, hv2, pv2⟩ := daAll_get u3 hz.2
      refine ⟨⟨xs', ys', v1, v2, r2, u2, hv1, hv2⟩, fun x H' ⟨T, x1, y1, e1, e2, e3, f1, f2⟩ => ?_⟩
      have w1 := f1 xs' r2
      have w2 := f2 ys' u2
      rw [hv1] at w1
      rw [hv2] at w2
      cases w1
      cases w2
      subst e1 e3
      have hG : G2 T = none := g2.none e2
      exact ⟨upd G2 T (.tup [v1, v2]), Ex.new e2, Ext.new e2 hG, g2.both, .tup (SqT.of upd_same) (.cons (da_ex (Ex.new hG) (da_ex g1 pv1)) (.cons (da_ex (Ex.new hG) (da_ex g1 pv2)) .nil))⟩⟩
end
end DL
end part_DLz
section part_DLm
/-! more leaves -/
namespace DL
open L2 PyProof.Rows PySem.Spec PySem
section
variable {X : Cx} {e a b c tg it l elt : Expr} {rest ifs : List Expr} {ρ ρ0 ρ1 ρ2 ρ3 : List Sl} {d d1 d2 d3 : PyData} {ds es ys rs : List PyData} {x y : Str} {pos pn p0 p2 : Pos} {p q : Bool} {i j : Int}
/-! ### any over a tuple of ints -/
theorem vals_ints {ns : List Int} : ∀ {us : List Value}, Vals (ns.map V.int) us → ∀ (i : Nat) (v : Value), us[i]? = some v → ∃ n t, ns[i]? = some n ∧ v = Value.int n t := by
  induction ns with
  | nil =>
    intro us r i v h
    cases r
    simp at h
  | cons n ns ih =>
    intro us r i v h
    cases r with
    | cons r1 r2 =>
      cases i with
      | zero =>
        obtain ⟨t, e⟩ := r1
        simp at h
        subst h
        exact ⟨n, t, rfl, e⟩
      | succ i => exact ih r2 i v (by simpa using h)
theorem any_ints (ns : List Int) : (List.range ns.length).any (fun i => ns.getD i 0 != 0) = ns.any (· != 0) := by
  induction ns with
  | nil => rfl
  | cons n ns ih =>
    rw [List.length_cons, List.range_succ_eq_map, List.any_cons, List.any_map, List.any_cons, ← ih]
    rfl
theorem cr_anyT (hc : X.calm = true) : CallR X (.builtin "any") (fun vs H Q => ∃ (a : Addr) (ns : List Int), vs = [V.ref a] ∧ SqT X.K H a (ns.map V.int) ∧ Q (.bl (ns.any (· != 0))) H) := by
  intro pins s σ H vs us Q I r h
  obtain ⟨a, ns, rfl, hs, q⟩ := h
  obtain ⟨its, rv, hl, _⟩ := I.tuple hs
  rw [Vals.ref1 r]
  have ht : s.heap.IsTuple a its.toArray := hl
  have lt : a < s.heap.objs.size := by
    obtain ⟨_, e, _⟩ := ht
    exact Heap.lt_size e
  refine call_any_walk (wpAny_pyIter_tuple ht ⟨s.heap.objs.size, _, _, _, _, _, fun i => ns.getD i 0 != 0, rfl, Walks.tuple (A := X.A.in1) (I.ok.hd hc) _ a (Nat.ne_of_lt lt) its.toArray, ⟨⟨_, Heap.get?_push_size _ rfl, rfl, rfl⟩, ht.push _⟩, fun i v s' Q' E' hv hq => ?_, fun h' tk hk => ?_⟩)
  · obtain ⟨n, t, hn, rfl⟩ := vals_ints rv i v (by simpa using hv)
    refine PySem.P.truthy_int ?_
    have e1 : ns.getD i 0 = n := by rw [List.getD_eq_getElem?_getD, hn]; rfl
    have hq2 : Q' (ns.getD i 0 != 0) s' := hq
    rw [e1] at hq2
    exact hq2
  · refine ⟨.bl _, H, I.kept fun b o eo => hk b o (fun hmem => ?_) (Heap.get?_push_of_some _ eo), ?_, q⟩
    · rcases List.mem_cons.mp hmem with e1 | hmem
      · exact absurd (e1 ▸ Heap.lt_size eo) (Nat.lt_irrefl _)
      · cases hmem
    · show Value.bool _ = Value.bool _
      have n1 := rv.length
      rw [List.length_map] at n1
      rw [List.size_toArray, ← n1, any_ints]
theorem cv_anyT {ns : List Int} (hc : X.calm = true) : CV X (.builtin "any") [.tuple (ns.map PyData.int)] (.bool (ns.any (· != 0))) := cv_one (cr_anyT hc) fun v H G Q e p k => by
  cases p with
  | tup h1 h2 =>
    have z := ints_daAll h2
    subst z
    exact ⟨_, ns, rfl, sqT_ex e h1, same_end e k (.bl _)⟩
/-! ### lcm -/
theorem cv_lcm (h1 : i.natAbs.log2 < 13000) (h2 : j.natAbs.log2 < 13000) (h3 : (Nat.lcm i.natAbs j.natAbs).log2 < 100000) : CV X (.builtin "math.lcm") [.int i, .int j] (.int ((Nat.lcm i.natAbs j.natAbs : Nat) : Int)) := by
  intro pins s σ H vs us Q I r ⟨G, e, pd, k⟩
  obtain ⟨v, u, rfl, pv, pu⟩ := daAll_two pd
  cases pv
  cases pu
  obtain ⟨t, u, rfl⟩ := Vals.int2 r
  have l1 : ∀ a b n : Nat, a.log2 < n → b.log2 < n → (max a b).log2 < n := fun a b n g1 g2 => by
    rcases Nat.le_total a b with h | h
    · rw [Nat.max_eq_right h]; exact g2
    · rw [Nat.max_eq_left h]; exact g1
  have m1 := l1 1 i.natAbs 13000 (by decide) h1
  have m2 := l1 _ _ _ h1 h2
  have e1 : (Nat.lcm 1 i.natAbs) = i.natAbs := Nat.lcm_one_left _
  refine call_function_meets PySem.W.MGF.kind_lcm PySem.W.MGF.plain_lcm PySem.W.MGF.entry_lcm (PySem.W.MGF.args_lcm _ _) (PySem.W.mg_run_lcm i t j u (by omega) (by omega) ?_).meets ?_
  · rw [e1, Int.natAbs_natCast]
    have : (100000 : Nat) ≤ bitsLine := by decide +kernel
    omega
  · rw [e1]
    exact ⟨.int _, H, I.tok _, ⟨_, rfl⟩, same_end e k (.int _)⟩
/-! ### max of a list -/
theorem cv_maxL {ns : List Int} {m : Int} (hc : X.calm = true) (h : m ∈ ns) (hm : ∀ y ∈ ns, y ≤ m) : CV X (.builtin "max") [.list (ns.map PyData.int)] (.int m) := cv_one (cr_max hc) fun v H G Q e p k => by
  cases p with
  | lst h1 h2 =>
    have z := ints_daAll h2
    subst z
    refine ⟨_, ns, rfl, SqL.of (e _ _ h1), List.length_pos_of_mem h, fun m' g1 g2 => ?_⟩
    have : m' = m := by
      have := hm m' g1
      have := g2 m h
      omega
    subst this
    exact same_end e k (.int _)
/-! ### x += e -/
theorem s_aug (k : Nat) {npos : Pos} (h : E X e ρ (.int j) ρ1) (hN : X.N.Nodup) (hk : ρ[k]? = some (.dat (.int i)) := by rfl) (hi : X.N[k]? = some x := by rfl) (hx : Loc X.env.scope x := by first | exact Or.inl rfl | exact Or.inr rfl) (hl : k < ρ1.length := by exact Nat.le_of_ble_eq_true rfl)
    (hf : X.fn x = true ∨ X.env.scope.names.lookup x = some .local := by first | exact .inl rfl | exact .inr rfl) : S1 X (.AugAssign (.Name x npos) .Add e pos) ρ (.nx (ρ1.set k (.dat (.int (i + j))))) :=
  ps_imp (ps_aug hN hi hx h iop_add hf) fun D σ H ⟨F, G, ad, w, q⟩ => by
    obtain ⟨v, hv, pv⟩ := w.dat hk
    cases pv
    refine ⟨_, hv, F, G, ad, w, fun u H1 G1 ad1 e1 w1 p1 => ?_⟩
    cases p1
    exact ⟨i, j, rfl, rfl, q _ H1 G1 _ e1 (w1.set (.int _) hl)⟩
/-! ### tuple * 0, tuple * 1 -/
theorem mul_one (l : Addr) (items : Array Value) (n : Nat) (dd : Option Addr) (sl : Array (Option Value)) (u : Tok) :
    Meets (Builtin.«tuple.__mul__» ⟨[.ref l, .int 1 u], []⟩) (fun _ R s => s.heap.get? l = some { cls := .type "tuple", dict := dd, data := .seq items n, slots := sl } ∧ R (.ok (.ret (.ref l))) s) :=
  .of_wp fun prog w A R s h => by
    obtain ⟨hp, g, d, tk, os⟩ := s
    obtain ⟨hl, h⟩ := h
    have f1 := AutoSeq1.idx_int
    wp_walk using wpAny_loadPart' hl
    repeat (first
      | (refine wpAny_ite_false (by decide) ?_; wp_walk using wpAny_loadPart' hl)
      | (refine wpAny_ite_true (by simp) ?_; wp_walk using wpAny_loadPart' hl))
    exact ⟨_, rfl, h⟩
theorem mul_nil (l : Addr) (items : Array Value) (n : Nat) (dd : Option Addr) (sl : Array (Option Value)) (u : Tok) (c : items.isEmpty = false) :
    Meets (Builtin.«tuple.__mul__» ⟨[.ref l, .int 0 u], []⟩) (fun _ R s => s.heap.get? l = some { cls := .type "tuple", dict := dd, data := .seq items n, slots := sl } ∧
      R (.ok (.ret (.ref s.heap.objs.size))) { s with heap := s.heap.push { cls := .type "tuple", data := .seq #[] }, toks := s.toks }) :=
  .of_wp fun prog w A R s h => by
    obtain ⟨hp, g, d, tk, os⟩ := s
    obtain ⟨hl, h⟩ := h
    have f1 := AutoSeq1.idx_int
    wp_walk using wpAny_loadPart' hl
    repeat (first
      | (refine wpAny_ite_false (by rw [c]; decide) ?_; wp_walk using wpAny_loadPart' hl)
      | (refine wpAny_ite_false (by decide) ?_; wp_walk using wpAny_loadPart' hl)
      | (refine wpAny_ite_true (by simp) ?_; wp_walk using wpAny_loadPart' hl))
    exact ⟨_, rfl, h⟩
theorem op_rep01 : OpR X (binaryOp .Mult) (fun x y H Q => ∃ l k xs, x = V.ref l ∧ y = V.int k ∧ SqT X.K H l xs ∧ xs ≠ [] ∧ ((k = 1 ∧ Q (.ref l) H) ∨ (k = 0 ∧ ∀ p, H p = none → Q (.ref p) (upd H p (.tup []))))) := by
  intro pins s σ H x y v u Q I rx ry h
  obtain ⟨l, k, xs, rfl, rfl, hT, hne, hq⟩ := h
  cases rx
  obtain ⟨t, rfl⟩ := ry
  obtain ⟨its, r, ⟨⟨cls, dd, data, sl⟩, ho, hc, n, hd⟩, hs⟩ := I.tuple hT
  simp only at hc hd
  subst hc hd
  have he : its.toArray.isEmpty = false := by
    cases its with
    | nil =>
      have := r.length
      exact absurd (List.eq_nil_of_length_eq_zero this) hne
    | cons a b => rfl
  rcases hq with ⟨rfl, q⟩ | ⟨rfl, q⟩
  · exact wpAny_binaryOp_repeat_ref (T := "tuple") (U := "int") (by decide) ⟨_, ho, rfl⟩ (fun s' => typeIs_int s' 1 t) noFill_tuple_mul F.fills_int_mul F.slot_int_rmul repeat_tuple F.slot_int_index.lookup
      (call_meets F.slot_int_rmul (typeIs_int s 1 t) F.entry_int_rmul (F.args_int_rmul_2 _ _) (int_rmul_tuple 1 t l its.toArray n dd sl)
        ⟨ho, rfl, ⟨_, ho, rfl⟩, call_meets F.slot_tuple_mul ⟨_, ho, rfl⟩ F.entry_tuple_mul (F.args_tuple_mul_2 _ _) (mul_one l its.toArray n dd sl t) ⟨ho, ⟨.ref l, H, I, rfl, q⟩⟩⟩)
  · refine wpAny_binaryOp_repeat_ref (T := "tuple") (U := "int") (by decide) ⟨_, ho, rfl⟩ (fun s' => typeIs_int s' 0 t) noFill_tuple_mul F.fills_int_mul F.slot_int_rmul repeat_tuple F.slot_int_index.lookup
      (call_meets F.slot_int_rmul (typeIs_int s 0 t) F.entry_int_rmul (F.args_int_rmul_2 _ _) (int_rmul_tuple 0 t l its.toArray n dd sl)
        ⟨ho, rfl, ⟨_, ho, rfl⟩, call_meets F.slot_tuple_mul ⟨_, ho, rfl⟩ F.entry_tuple_mul (F.args_tuple_mul_2 _ _) (mul_nil l its.toArray n dd sl t he) ⟨ho, ?_⟩⟩)
    refine ⟨.ref s.heap.objs.size, _, I.laid (t' := s.toks) (o := .tup []) (fun b ob q => Heap.get?_push_of_some _ q) (Nat.le_refl _) ?_, rfl, q _ (I.hok.fresh (Nat.le_refl _))⟩
    exact ⟨Nat.zero_le _, [], .nil, IsTup.new _ _⟩
theorem daAll_rep {K : PySem.W.Frag} {G : Hp} {xs : List V} (h : DaAll K G xs ds) : ∀ n, DaAll K G (List.replicate n xs).flatten (List.replicate n ds).flatten
  | 0 => .nil
  | n + 1 => by
    rw [List.replicate_succ, List.replicate_succ, List.flatten_cons, List.flatten_cons]
    exact daAll_app h (daAll_rep h n)
/-- t * n, t a tuple that is not empty -/
theorem ov_rep {n : Nat} (hd : ds ≠ []) (hn : n ≤ 1000) (hz : ds.length ≤ 1000) : OpV X (binaryOp .Mult) (.tuple ds) (.int (n : Int)) (.tuple (List.replicate n ds).flatten) := by
  by_cases h : n < 2
  · refine op_imp op_rep01 fun x y H Q ⟨G, e, p1, p2, k⟩ => ?_
    cases p1 with
    | tup h1 h2 =>
      cases p2
      refine ⟨_, _, _, rfl, rfl, sqT_ex e h1, fun z => ?_, ?_⟩
      · subst z
        cases h2
        exact hd rfl
      · by_cases h0 : n = 0
        · subst h0
          exact .inr ⟨rfl, fun p hp => new_end e k hp .nil⟩
        · have h1' : n = 1 := by omega
          subst h1'
          refine .inl ⟨rfl, ?_⟩
          have z : (List.replicate 1 ds).flatten = ds := by simp
          rw [z] at k
          exact same_end e k (.tup h1 h2)
  · refine op_imp op_repT fun x y H Q ⟨G, e, p1, p2, k⟩ => ?_
    cases p1 with
    | tup h1 h2 =>
      cases p2
      refine ⟨_, _, _, rfl, rfl, sqT_ex e h1, fun z => ?_, by omega, by omega, by rw [daAll_len h2]; exact hz, fun p hp => ?_⟩
      · subst z
        cases h2
        exact hd rfl
      · rw [Int.toNat_natCast]
        exact new_end e k hp (daAll_rep h2 n)
/-! ### enumerate -/
def enumD (ds : List PyData) (k : Nat) : List PyData := match ds with
  | [] => []
  | d :: r => .tuple [.int (k : Int), d] :: enumD r (k + 1)
theorem enumD_get : ∀ (ds : List PyData) (k i : Nat), (enumD ds k)[i]? = (ds[i]?).map fun d => .tuple [.int ((k + i : Nat) : Int), d]
  | [], k, i => by simp [enumD]
  | d :: r, k, 0 => by simp [enumD]
  | d :: r, k, i + 1 => by
    have := enumD_get r (k + 1) i
    rw [show k + 1 + i = k + (i + 1) by omega] at this
    simpa [enumD] using this
theorem enumD_len : ∀ (ds : List PyData) (k : Nat), (enumD ds k).length = ds.length
  | [], k => rfl
  | d :: r, k => by
    show (enumD r (k + 1)).length + 1 = r.length + 1
    rw [enumD_len r (k + 1)]
theorem i_enum {elts : List Expr} {kk : Nat} {tpos : Pos} (h : EA X [a] ρ [.list ds] ρ1) (hm : X.mg "enumerate" = none) (hg : Gl X "enumerate" := by rfl) (hs : starEach [a] X.env = [(false, eval a X.env)] := by rfl) :
    Iter X (.Tuple elts kk tpos) (.Call (.Name "enumerate" p0) [a] [] pos) ρ (enumD ds 0) ρ1 := pi_imp (pi_enum hg hm h hs) fun σ H R ⟨F, G, ad, w, c⟩ => ⟨F, G, ad, w, fun vs H1 G1 ad1 e1 w1 p1 => by
  obtain ⟨v, rfl, pv⟩ := daAll_one p1
  cases pv with
  | lst h1 h2 =>
    refine ⟨_, _, rfl, SqL.of (w1.gh _ _ h1), c _ H1 G1 ad1 e1 w1 fun H2 G2 g1 g2 => ⟨⟨_, SqL.of (g2 _ _ (g1 _ _ h1)), by rw [enumD_len, daAll_len h2]; exact Nat.le_refl _⟩, fun i d hi => ?_⟩⟩
    rw [enumD_get, Nat.zero_add] at hi
    cases ed : ds[i]? with
    | none => rw [ed] at hi; cases hi
    | some d0 =>
      rw [ed] at hi
      cases hi
      obtain ⟨v, hv, pv⟩ := daAll_get h2 ed
      refine ⟨⟨_, v, SqL.of (g2 _ _ (g1 _ _ h1)), hv⟩, fun x H' ⟨T, x1, q1, q2, q3, q4⟩ => ?_⟩
      have z := q4 _ (SqL.of (g2 _ _ (g1 _ _ h1)))
      rw [hv] at z
      cases z
      subst q1 q3
      have hG : G2 T = none := g2.none q2
      exact ⟨upd G2 T (.tup [.int (i : Nat), v]), Ex.new q2, Ext.new q2 hG, g2.both, .tup (SqT.of upd_same) (.cons (.int _) (.cons (da_ex (Ex.new hG) (da_ex g1 pv)) .nil))⟩⟩
/-! ### defs that hand back a fresh list -/
/-- R ds es: of ds comes the list es, a new one -/
def spO (K : PySem.W.Frag) (R : List PyData → List PyData → Prop) : Sp := fun vs H Q _ => ∃ ds es G, Ex G H ∧ DaAll K G vs ds ∧ R ds es ∧ ∀ l xs H' G', Ex H H' → Ext H G G' → Ex G' H' → H l = none → G' l = none → H' l = some (.lst xs) → DaAll K G' xs es → Q (.ref l) H'
end
/-- a block that ends with a new list handed back -/
def SO (X : Cx) (st : List Stmt) (ρ : List Sl) (es : List PyData) : Prop := PSs X st fun D σ H => ∃ F G ad, Sta X.K F G H σ ρ ad ∧ ∀ l xs H' G', Ext F G G' → Ex F H' → Ex G' H' → F l = none → G' l = none → H' l = some (.lst xs) → DaAll X.K G' xs es → D.rt (.ref l) H'
section
variable {X : Cx} {e c : Expr} {ρ ρ1 : List Sl} {es : List PyData} {st : Stmt} {rs A B : List Stmt} {pos : Pos} {p : Bool}
def anySO (X : Cx) (st : List Stmt) : TS := fun D σ H => ∃ ρ es, SO X st ρ es ∧ ∃ F G ad, Sta X.K F G H σ ρ ad ∧ ∀ l xs H' G', Ext F G G' → Ex F H' → Ex G' H' → F l = none → G' l = none → H' l = some (.lst xs) → DaAll X.K G' xs es → D.rt (.ref l) H'
theorem anySO_ok {st : List Stmt} : PSs X st (anySO X st) := ⟨fun pins s σ H D I ⟨ρ, es, h, k⟩ => h.run pins s σ H D I k⟩
theorem so_cons (h : S1 X st ρ (.nx ρ1)) (hr : SO X rs ρ1 es) : SO X (st :: rs) ρ es :=
  pss_imp (pss_cons h anySO_ok) fun D σ H ⟨F, G, ad, w, k⟩ => ⟨F, G, ad, w, fun σ1 H1 G1 ad1 e1 w1 => ⟨ρ1, es, hr, F, G1, ad1, w1, fun l xs H' G' g1 g2 g3 g4 g5 => k l xs H' G' (e1.trans g1) g2 g3 g4 g5⟩⟩
theorem so_ret (h : EO X e ρ es ρ1) : SO X (.Return (some e) pos :: rs) ρ es :=
  pss_imp (pss_cons (ps_ret h) (u := fun _ _ _ => False) ⟨fun _ _ _ _ _ _ z => z.elim⟩) fun D σ H ⟨F, G, ad, w, k⟩ => ⟨F, G, ad, w, fun l xs H' G' ad' g1 w1 g2 g3 g4 g5 g6 => k l xs H' G' g1 w1.fh w1.gh g2 g3 g5 g6⟩
end
section
variable {P : Program} {w : World} {K : PySem.W.Frag} {mg : Str → Option Value} {base : Heap} {x : Str} {st : Stmt} {N ps : List Str} {k : Nat}
theorem def_O {R : List PyData → List PyData → Prop} (hp : Put K mg x st) (S : FnScope N ps (defScope st)) (hb : BindsOf st x ps) (hN : ps.length ≤ N.length) (hl : ∀ ds d, R ds d → ds.length = ps.length)
    (body : ∀ (a : CxA), Rm k (cx P w K mg base N x st a).A → ∀ ds es, R ds es → SO (cx P w K mg base N x st a) (defBody st) (dataS N ds.length (ds.map Sl.dat)) es) : Def P w K mg base x (k + 1) ps (spO K R) := by
  obtain ⟨f, fd, h1, F⟩ := hp.ex
  have b := F.bindsN (ps := ps) hb
  refine ⟨f, fd, h1, F.kp, b, fnG_of F S (fun vs H Q E h => ?_) (fun cdv A outer s H vs Q E hr0 hgd h => ?_)⟩
  · obtain ⟨ds, d, G, _, hd, hR, _⟩ := h
    rw [daAll_len hd, hl ds d hR]
  · obtain ⟨ds, d, G, e, hd, hR, q⟩ := h
    have len : vs.length = ds.length := daAll_len hd
    have w0 : Sta K H G H (L2.start N vs) (dataS N ds.length (ds.map Sl.dat)) (fun _ => []) := by
      rw [← len]
      exact sta0 e (Ex.refl H) (by rw [len, List.length_map]) (by rw [len, hl ds d hR]; exact hN) _ (fun _ _ z => nomatch z) (fun _ _ z => nomatch z) (fun _ _ _ z => nomatch z) (startData hd H [])
    exact ⟨_, PSs.nox (body ⟨f, cdv, A, outer, s, H, E⟩ ⟨hr0, hgd⟩ ds d hR), H, G, _, w0, fun l xs H' G' e1 e2 e3 e4 e5 e6 e7 => q l xs H' G' e2 e1 e3 e4 e5 e6 e7⟩
end
section
variable {X : Cx} {x : Str} {rest : List Expr} {ρ ρ1 : List Sl} {ds es : List PyData} {pn pos : Pos}
/-- f(..), a new list -/
theorem eo_call {e : Expr} {R : List PyData → List PyData → Prop} (f : Kn X x (spO X.K R)) (h : EA X (e :: rest) ρ ds ρ1) (hR : R ds es) (hg : Gl X x := by rfl) (hdb : (x == ("__debug__" : Str)) = false := by decide) (he : starEach (e :: rest) X.env = (false, eval e X.env) :: starEach rest X.env := by rfl) (hpl : (backTo pos (starEach rest X.env)).any (·.1) = false := by rfl) :
    EO X (.Call (.Name x pn) (e :: rest) [] pos) ρ es ρ1 := by
  obtain ⟨k, f, fd, ps, F, ⟨hr, hgd⟩, hm, hk, hb⟩ := f.ex
  refine pe_imp (pe_callG F hr hgd hg hm hk hb .nil pass0 h hdb he hpl) fun σ H Q ⟨F, G, ad, w, k⟩ => ⟨F, G, ad, w, fun vs H1 G1 ad1 e1 w1 p1 => ?_⟩
  show spO X.K R (vs ++ []) H1 Q E0
  rw [List.append_nil]
  refine ⟨ds, es, G1, w1.gh, p1, hR, fun l xs H' G' g1 g2 g3 g4 g5 g6 g7 => ?_⟩
  have w2 := w1.grow g1 g2 g3
  refine k l xs H' G' ad1 (e1.trans (g2.weak w1.fh)) w2 (w1.fh.none g4) g5 (fun j q => ?_) g6 g7
  obtain ⟨o, ho⟩ := w1.there j l q
  rw [g4] at ho
  cases ho
end
end DL
end part_DLm
section part_DLn
/-! comprehensions over mapped lists -/
namespace DL
open L2 PyProof.Rows PySem.Spec PySem
section
variable {X : Cx} {scope : Scope} {tg elt c : Expr} {vs js : List Nat} {ρ : List Sl} {α : Type} {f r : α → PyData} {ρt : α → List Sl} {p : α → Bool}
theorem cl_map (hj : ∀ j ∈ js, j ∈ vs) : ∀ xs : List α, (∀ x ∈ xs, Blk X scope (fun Y => TgD Y tg (f x) (wipeA vs 0 ρ) (ρt x) js)) → (∀ x ∈ xs, Blk X scope (fun Y => E Y elt (ρt x) (r x) (ρt x))) → (∀ x ∈ xs, Le (wipeA vs 0 (ρt x)) (wipeA vs 0 ρ)) →
    CL X scope tg [] elt vs (xs.map f) ρ (xs.map r) ρ
  | [], _, _, _ => .nil
  | x :: xs, h1, h2, h3 => .yes hj (h1 x List.mem_cons_self) (fun _ _ _ _ _ => ts_nil) (h2 x List.mem_cons_self) (.pre (h3 x List.mem_cons_self) (cl_map hj xs (fun y hy => h1 y (List.mem_cons_of_mem _ hy)) (fun y hy => h2 y (List.mem_cons_of_mem _ hy)) fun y hy => h3 y (List.mem_cons_of_mem _ hy)))
theorem cl_filter (hj : ∀ j ∈ js, j ∈ vs) : ∀ xs : List α, (∀ x ∈ xs, Blk X scope (fun Y => TgD Y tg (f x) (wipeA vs 0 ρ) (ρt x) js)) → (∀ x ∈ xs, Blk X scope (fun Y => T Y c (ρt x) (p x) (ρt x))) → (∀ x ∈ xs, Blk X scope (fun Y => E Y elt (ρt x) (r x) (ρt x))) → (∀ x ∈ xs, Le (wipeA vs 0 (ρt x)) (wipeA vs 0 ρ)) →
    CL X scope tg [c] elt vs (xs.map f) ρ ((xs.filter p).map r) ρ
  | [], _, _, _, _ => .nil
  | x :: xs, h1, h0, h2, h3 => by
    have ih := cl_filter hj xs (fun y hy => h1 y (List.mem_cons_of_mem _ hy)) (fun y hy => h0 y (List.mem_cons_of_mem _ hy)) (fun y hy => h2 y (List.mem_cons_of_mem _ hy)) fun y hy => h3 y (List.mem_cons_of_mem _ hy)
    have h0x := h0 x List.mem_cons_self
    cases hp : p x with
    | true =>
      rw [List.filter_cons_of_pos hp]
      rw [hp] at h0x
      exact .yes hj (h1 x List.mem_cons_self) (fun s H C cl fp => ts_one (h0x s H C cl fp)) (h2 x List.mem_cons_self) (.pre (h3 x List.mem_cons_self) ih)
    | false =>
      rw [List.filter_cons_of_neg (by rw [hp]; exact Bool.false_ne_true)]
      rw [hp] at h0x
      exact .no hj (h1 x List.mem_cons_self) (fun s H C cl fp => ts_one (h0x s H C cl fp)) (.pre (h3 x List.mem_cons_self) ih)
end
end DL
end part_DLn
section part_DLo
/-! repr of a list of one's own that stays so; sizes of what is shown; draws one behind another -/
namespace DL
open L2 PyProof.Rows PySem.Spec PySem DLr
section
variable {X : Cx} {x : Str} {ρ : List Sl} {ds : List PyData} {pos pn p2 : Pos}
/-- repr(x), x a list of one's own, which stays one's own -/
theorem e_reprO (k : Nat) (hd : PySem.W.nsIn X.K cStatics "sys.int_max_str_digits" = some none) (hr : X.A.units + 100 < cLine) (hgd : X.A.guards = some []) (hs : Shows (.list ds)) (hm : X.mg "repr" = none) (h : ρ[k]? = some (.own ds) := by rfl) (hg : Gl X "repr" := by rfl) (hN : X.N[k]? = some x := by rfl) (hv : Vis X.env.scope x := by first | exact Or.inl rfl | exact Or.inr (Or.inl rfl) | exact Or.inr (Or.inr rfl))
    (hdb : (x == ("__debug__" : Str)) = false := by decide) (hcd : (x == ("__classdict__" : Str)) = false := by decide) (he : starEach [.Name x p2] X.env = (false, eval (.Name x p2) X.env) :: starEach [] X.env := by rfl) (hpl : (backTo pos (starEach [] X.env)).any (·.1) = false := by rfl) :
    E X (.Call (.Name "repr" pn) [.Name x p2] [] pos) ρ (.str (PyData.list ds).shown) ρ :=
  pe_imp (pe_callB (cv_repr hd hr hgd hs) hg hm (by decide +kernel) (pa_cons (pe_var hN hv hdb hcd) pa_nil he) (by decide) (by decide) he hpl) fun σ H Q ⟨F, G, ad, w, q⟩ => by
    obtain ⟨l, xs, h1, h2, h3, h4⟩ := w.own_at h
    refine ⟨_, h1, H, Ex.refl H, .cons (.lst h2 (daAll_ex w.gh h3)) .nil, fun v H' G' e1 e2 e3 pv => ?_⟩
    cases pv
    exact q _ H' G ad (Ext.refl F G) (w.grow e1 (Ext.refl H G) (w.gh.trans e1)) (.str _)
end
/-! ### sizes -/
structure Sm (n k : Nat) (d : PyData) : Prop where
  w : wideD d = true
  s : shortD d = true
  n : nodes d ≤ n
  k : d.depth ≤ k
theorem Sm.mono {n m k j : Nat} {d : PyData} (h : Sm n k d) (h1 : n ≤ m) (h2 : k ≤ j) : Sm m j d := ⟨h.w, h.s, Nat.le_trans h.n h1, Nat.le_trans h.k h2⟩
theorem Sm.shows {n k : Nat} {d : PyData} (h : Sm n k d) (h1 : n ≤ 1200) (h2 : k ≤ 64) : Shows d := ⟨h.w, h.s, Nat.le_trans h.n h1, Nat.le_trans h.k h2⟩
theorem sms {n k : Nat} {ds : List PyData} (h : ∀ d ∈ ds, Sm n k d) : wideDs ds = true ∧ shortDs ds = true ∧ nodesAll ds ≤ n * ds.length ∧ PyData.depthAll ds ≤ k := by
  induction ds with
  | nil => exact ⟨by simp [wideDs], by simp [shortDs], by simp [nodesAll], by rw [PyData.depthAll]; omega⟩
  | cons d ds ih =>
    obtain ⟨h1, h2, h3, h4⟩ := ih fun x hx => h x (List.mem_cons_of_mem _ hx)
    have hd := h d List.mem_cons_self
    refine ⟨by simp [wideDs, hd.w, h1], by simp [shortDs, hd.s, h2], ?_, ?_⟩
    · have := hd.n
      rw [nodesAll, List.length_cons, Nat.mul_succ]
      omega
    · have := hd.k
      rw [PyData.depthAll]
      omega
theorem sm_list {n k : Nat} {ds : List PyData} (h : ∀ d ∈ ds, Sm n k d) : Sm (n * ds.length + 1) (k + 1) (.list ds) := by
  obtain ⟨h1, h2, h3, h4⟩ := sms h
  exact ⟨by rw [wideD]; exact h1, by rw [shortD]; exact h2, by rw [nodes]; omega, by rw [PyData.depth]; omega⟩
theorem sm_tup {n k : Nat} {ds : List PyData} (h : ∀ d ∈ ds, Sm n k d) : Sm (n * ds.length + 1) (k + 1) (.tuple ds) := by
  obtain ⟨h1, h2, h3, h4⟩ := sms h
  exact ⟨by rw [wideD]; exact h1, by rw [shortD]; exact h2, by rw [nodes]; omega, by rw [PyData.depth]; omega⟩
theorem sm_int {i : Int} (h : i.natAbs < 2 ^ 12801) : Sm 1 1 (.int i) := by
  refine ⟨?_, by simp [shortD], by simp [nodes], by rw [PyData.depth]; omega⟩
  rw [wideD]
  have z := PySem.Flt.log2_lt_of (show 0 < 12801 by decide) h
  exact decide_eq_true (by omega)
theorem sm_bool (b : Bool) : Sm 1 1 (.bool b) := ⟨by simp [wideD], by simp [shortD], by simp [nodes], by rw [PyData.depth]; omega⟩
theorem sm_none : Sm 1 1 .none := ⟨by simp [wideD], by simp [shortD], by simp [nodes], by rw [PyData.depth]; omega⟩
/-! ### draws one behind another -/
inductive Ch (R : Src → List PyData → Src → PyData → Prop) (args : List PyData) : Src → List PyData → Src → Prop
  | nil (t : Src) : Ch R args t [] t
  | cons {t t1 t2 : Src} {d : PyData} {rs : List PyData} : R t args t1 d → Ch R args t1 rs t2 → Ch R args t (d :: rs) t2
theorem ch_ex {R : Src → List PyData → Src → PyData → Prop} {args : List PyData} {O : Src → Prop} {Q : PyData → Prop} (h : ∀ t, O t → ∃ t' d, R t args t' d ∧ O t' ∧ Q d) : ∀ (n : Nat) (t : Src), O t → ∃ t' rs, Ch R args t rs t' ∧ rs.length = n ∧ (∀ d ∈ rs, Q d) ∧ O t'
  | 0, t, ht => ⟨t, [], .nil t, rfl, (fun _ h => nomatch h), ht⟩
  | n + 1, t, ht => by
    obtain ⟨t1, d, h1, h2, h3⟩ := h t ht
    obtain ⟨t', rs, h4, h5, h6, h7⟩ := ch_ex h n t1 h2
    refine ⟨t', d :: rs, .cons h1 h4, by rw [List.length_cons, h5], fun e he => ?_, h7⟩
    rcases List.mem_cons.mp he with rfl | he
    · exact h3
    · exact h6 e he
section
variable {X : Cx} {scope : Scope} {tg elt : Expr} {vs js : List Nat} {R : Src → List PyData → Src → PyData → Prop} {args : List PyData} {ρ : Src → List Sl} {ρt : Src → PyData → List Sl}
theorem ch_cl (hj : ∀ j ∈ js, j ∈ vs) (h1 : ∀ t y, Blk X scope (fun Y => TgD Y tg y (wipeA vs 0 (ρ t)) (ρt t y) js)) (h2 : ∀ t y t' d, R t args t' d → Blk X scope (fun Y => E Y elt (ρt t y) d (ρt t' y))) (h3 : ∀ t y, Le (wipeA vs 0 (ρt t y)) (wipeA vs 0 (ρ t))) :
    ∀ (ys rs : List PyData) (t t' : Src), ys.length = rs.length → Ch R args t rs t' → CL X scope tg [] elt vs ys (ρ t) rs (ρ t')
  | [], _, t, t', hl, c => by
    cases c with
    | nil => exact .nil
    | cons a b => exact nomatch hl
  | y :: ys, _, t, t', hl, c => by
    cases c with
    | nil => exact nomatch hl
    | @cons _ t1 _ d rs a b => exact .yes hj (h1 t y) (fun _ _ _ _ _ => ts_nil) (h2 t y t1 d a) (.pre (h3 t1 y) (ch_cl hj h1 h2 h3 ys rs t1 t' (by simpa using hl) b))
end
theorem map_of {α : Type} {f : α → PyData} {Q : α → Prop} : ∀ {rs : List PyData}, (∀ d ∈ rs, ∃ x, d = f x ∧ Q x) → ∃ xs : List α, rs = xs.map f ∧ ∀ x ∈ xs, Q x
  | [], _ => ⟨[], rfl, fun _ h => nomatch h⟩
  | d :: rs, h => by
    obtain ⟨x, rfl, hx⟩ := h d List.mem_cons_self
    obtain ⟨xs, rfl, hxs⟩ := map_of (rs := rs) fun e he => h e (List.mem_cons_of_mem _ he)
    refine ⟨x :: xs, rfl, fun z hz => ?_⟩
    rcases List.mem_cons.mp hz with rfl | hz
    · exact hx
    · exact hxs z hz
/-! ### enumerate with a test -/
def idxG {α : Type} (p : α → Bool) : List α → Nat → List PyData
  | [], _ => []
  | s :: ss, k => if p s then .int (k : Int) :: idxG p ss (k + 1) else idxG p ss (k + 1)
section
variable {α : Type} {X : Cx} {scope : Scope} {tg elt c : Expr} {vs js : List Nat} {ρ : List Sl} {p : α → Bool} {f : α → PyData} {ρt : Nat → α → List Sl}
theorem cl_enumG (hj : ∀ j ∈ js, j ∈ vs) : ∀ (ss : List α) (k : Nat), (∀ k s, Blk X scope (fun Y => TgD Y tg (.tuple [.int ((k : Nat) : Int), f s]) (wipeA vs 0 ρ) (ρt k s) js)) →
    (∀ k s, Blk X scope (fun Y => T Y c (ρt k s) (p s) (ρt k s))) → (∀ k s, Blk X scope (fun Y => E Y elt (ρt k s) (.int ((k : Nat) : Int)) (ρt k s))) → (∀ k s, Le (wipeA vs 0 (ρt k s)) (wipeA vs 0 ρ)) → CL X scope tg [c] elt vs (enumD (ss.map f) k) ρ (idxG p ss k) ρ
  | [], k, _, _, _, _ => .nil
  | s :: ss, k, h1, h2, h3, h4 => by
    have ih := cl_enumG hj ss (k + 1) h1 h2 h3 h4
    have h2x := h2 k s
    show CL X scope tg [c] elt vs (.tuple [.int (k : Int), f s] :: enumD (ss.map f) (k + 1)) ρ (if p s then .int (k : Int) :: idxG p ss (k + 1) else idxG p ss (k + 1)) ρ
    cases hp : p s with
    | true =>
      rw [hp] at h2x
      rw [if_pos rfl]
      exact .yes hj (h1 k s) (fun s H C cl fp => ts_one (h2x s H C cl fp)) (h3 k s) (.pre (h4 k s) ih)
    | false =>
      rw [hp] at h2x
      rw [if_neg Bool.false_ne_true]
      exact .no hj (h1 k s) (fun s H C cl fp => ts_one (h2x s H C cl fp)) (.pre (h4 k s) ih)
end
end DL
end part_DLo
section part_DLp
/-! stars, tuples of any size, lists unpacked -/
namespace DL
open L2 PyProof.Rows PySem.Spec PySem
section
variable {X : Cx} {e : Expr} {es rest : List Expr} {ρ ρ1 ρ2 ρ3 : List Sl} {ds fs : List PyData} {d : PyData} {pos p2 sp : Pos} {k : Bool}
/-- *e, .. in a display or a call -/
theorem ea_star (h : E X e ρ (match k with
    | true => .tuple ds
    | false => .list ds) ρ1) (hr : EA X es ρ1 fs ρ2) (hs : starEach (.Starred e sp :: es) X.env = (true, eval e X.env) :: starEach es X.env := by rfl) : EA X (.Starred e sp :: es) ρ (ds ++ fs) ρ2 :=
  pa_imp (StX.pa_star h hr hs) fun σ H Q ⟨F, G, ad, w, c⟩ => ⟨F, G, ad, w, fun v H1 G1 ad1 e1 w1 p1 => by
    cases k with
    | true =>
      cases p1 with
      | tup h1 h2 => exact ⟨_, _, rfl, .inl (sqT_ex w1.gh h1), F, G1, ad1, w1, fun vs H2 G2 ad2 e2 w2 p2 => c _ H2 G2 ad2 (e1.trans e2) w2 (daAll_app (daAll_ex e2.1 h2) p2)⟩
    | false =>
      cases p1 with
      | lst h1 h2 => exact ⟨_, _, rfl, .inr (SqL.of (w1.gh _ _ h1)), F, G1, ad1, w1, fun vs H2 G2 ad2 e2 w2 p2 => c _ H2 G2 ad2 (e1.trans e2) w2 (daAll_app (daAll_ex e2.1 h2) p2)⟩⟩
/-- t + u, tuples of any size -/
theorem ov_catA (hz : ds.length + fs.length ≤ 1000000) : OpV X (binaryOp .Add) (.tuple ds) (.tuple fs) (.tuple (ds ++ fs)) := op_imp op_catA fun x y H Q ⟨G, e, p1, p2, c⟩ => by
  cases p1 with
  | tup h1 h2 =>
    cases p2 with
    | tup h3 h4 =>
      refine ⟨_, _, _, _, rfl, rfl, sqT_ex e h1, sqT_ex e h3, by rw [daAll_len h2, daAll_len h4]; exact Nat.le_trans hz sizeLine_big, fun z => ?_, fun z0 z => ?_, fun z0 z l hl => new_end e c hl (daAll_app h2 h4)⟩
      · subst z
        cases h2
        exact same_end e c (.tup h3 h4)
      · subst z
        cases h4
        rw [List.append_nil] at c
        exact same_end e c (.tup h1 h2)
/-- t[a:b] of a tuple -/
theorem e_sliceT {lo hi : Option Expr} {u v : Option Int} (he : E X e ρ (.tuple ds) ρ1) (hl : PoD X lo ρ1 u ρ2) (hh : PoD X hi ρ2 v ρ3) : E X (.Subscript e (.Slice lo hi none p2) pos) ρ (.tuple (cutD ds u v)) ρ3 :=
  pe_imp (pe_slice sl_tupA he hl hh) fun σ H Q ⟨F, G, ad, w, c⟩ => ⟨F, G, ad, w, fun x H1 G1 ad1 e1 w1 p1 => ⟨F, G1, ad1, w1, fun H2 G2 ad2 e2 w2 => ⟨F, G2, ad2, w2, fun H3 G3 ad3 e3 w3 => by
    cases p1 with
    | tup h1 h2 =>
      have n := daAll_len h2
      have all := (e1.trans e2).trans e3
      have h1' := sqT_ex (Ex.trans e2.1 e3.1) h1
      have h2' := daAll_ex (Ex.trans e2.1 e3.1) h2
      refine ⟨_, _, rfl, sqT_ex w3.gh h1', fun z => ?_, fun z l hl => ?_⟩
      · have ec : cutD ds u v = ds := by
          unfold cutD
          rw [n] at z
          rw [z.1, z.2, List.drop_zero, Nat.sub_zero, List.take_length]
        rw [ec] at c
        exact c _ H3 G3 ad3 all w3 (.tup h1' h2')
      · have hg := w3.gh.none hl
        have hG : G3 l = none := hg
        refine c (.ref l) _ (upd G3 l (.tup _)) ad3 (all.trans (Ext.new (w3.fh.none hl) hG)) (w3.grow (Ex.new hl) (Ext.new hl hG) w3.gh.both) (.tup (SqT.of upd_same) (daAll_ex (Ex.new hG) (daAll_cut u v h2')))⟩⟩⟩
/-- [..] * n -/
theorem oo_rep {n : Nat} (hn : n ≤ 1000) (hz : ds.length ≤ 1000) : OpO X (binaryOp .Mult) (.list ds) (.int (n : Int)) (List.replicate n ds).flatten := op_imp op_rep fun x y H Q ⟨G, e, p1, p2, c⟩ => by
  cases p1 with
  | lst h1 h2 =>
    cases p2
    refine ⟨_, _, _, rfl, rfl, e _ _ h1, by omega, by omega, ?_, fun l hl => ?_⟩
    · rw [daAll_len h2, Int.toNat_natCast]
      have := Nat.mul_le_mul hz hn
      have := sizeLine_big
      omega
    · rw [Int.toNat_natCast]
      exact c l _ hl (daAll_rep h2 n)
/-- (a, b, ..) = a list -/
theorem g_lst {js : List Nat} {kk : Nat} (hc : X.calm = true) (h : TgsD X es ds ρ ρ1 js) (hn : (assignEach es X.env).length = ds.length := by rfl) (hst : (assignEach es X.env).findIdx? (·.1) = none := by rfl) : TgD X (.Tuple es kk pos) (.list ds) ρ ρ1 js :=
  pg_imp (pg_lst (n := ds.length) hc h hn hst) fun v σ H Q ⟨F, G, ad, w, p, c⟩ => by
    cases p with
    | lst p1 p2 => exact ⟨_, _, rfl, SqL.of (w.gh _ _ p1), daAll_len p2, F, G, ad, w, p2, c⟩
/-- a, b = e1, a new list -/
theorem s_parDO (i j : Nat) {a b : Expr} {d1 : PyData} {x y : Str} {px py pt : Pos} {kt k2 : Nat} {pt2 : Pos} (ha : E X a ρ d1 ρ1) (hb : EO X b ρ1 ds ρ2) (hc : X.calm = true) (hN : X.N.Nodup) (hi : X.N[i]? = some x := by rfl) (hj : X.N[j]? = some y := by rfl) (hij : i ≠ j := by decide)
    (hx : X.env.scope.names.lookup x = some .local := by rfl) (hy : X.env.scope.names.lookup y = some .local := by rfl) (hl : i < ρ2.length := by exact Nat.le_of_ble_eq_true rfl) (hl2 : j < ρ2.length := by exact Nat.le_of_ble_eq_true rfl)
    (h1 : starEach [a, b] X.env = (false, eval a X.env) :: starEach [b] X.env := by rfl) (h2 : starEach [b] X.env = (false, eval b X.env) :: starEach [] X.env := by rfl)
    (hw : swappedStores [.Tuple [.Name x px, .Name y py] kt pt] (.Tuple [a, b] k2 pt2) X.env = pure (some [x, y]) := by rfl)
    (hs : swapsWithSole [.Tuple [.Name x px, .Name y py] kt pt] (.Tuple [a, b] k2 pt2) pos.line X.env = pure false := by rfl) :
    S1 X (.Assign [.Tuple [.Name x px, .Name y py] kt pt] (.Tuple [a, b] k2 pt2) pos) ρ (.nx ((ρ2.set i (.dat d1)).set j (.own ds))) :=
  ps_imp (ps_par hc hN hi hj hij hx hy (pa_cons ha (pa_cons hb pa_nil h2) h1) hw hs) fun D σ H ⟨F, G, ad, w, c⟩ => ⟨F, G, ad, w, fun v H1 G1 ad1 e1 w1 p1 => ⟨F, G1, ad1, w1, fun l xs H2 G2 ad2 e2 w2 q1 q2 q3 q4 q5 => ⟨v, .ref l, rfl, c _ H2 G2 _ (e1.trans e2) ((w2.set (da_ex e2.1 p1) hl).setO q4 q5 q1 q2 (fun k q => by
    by_cases h : k = i
    · rw [if_pos h] at q
      cases q
    · rw [if_neg h] at q
      exact q3 k q) (by rw [List.length_set]; exact hl2))⟩⟩⟩
end
end DL
end part_DLp
section part_DLq
/-! list(range(n)) -/
namespace DL
open L2 PyProof.Rows PySem.Spec PySem
section
variable {X : Cx} {e a : Expr} {ρ ρ1 : List Sl} {pos p0 : Pos}
theorem rgV_rangeD {K : PySem.W.Frag} {G : Hp} (n : Int) : DaAll K G (rgV 0 n) (rangeD 0 n.toNat) := by
  unfold rgV rangeD
  rw [Int.sub_zero]
  have : ∀ l : List Nat, DaAll K G (l.map fun i : Nat => V.int (0 + (i : Int))) (l.map fun i : Nat => PyData.int (0 + (i : Int))) := fun l => by
    induction l with
    | nil => exact .nil
    | cons i l ih => exact .cons (.int _) ih
  exact this _
theorem eo_listRg {n : Int} (h : E X a ρ (.int n) ρ1) (hc : X.calm = true) (ml : X.mg "list" = none) (mr : X.mg "range" = none) (hz : n ≤ 1000000) (h0 : -1000000 ≤ n) (hg : Gl X "list" := by rfl) (hr : Gl X "range" := by rfl)
    (na : starEach [a] X.env = (false, eval a X.env) :: starEach [] X.env := by rfl) (nb : starEach [.Call (.Name "range" p0) [a] [] pos] X.env = (false, eval (.Call (.Name "range" p0) [a] [] pos) X.env) :: starEach [] X.env := by rfl) {pos2 p2 : Pos} :
    EO X (.Call (.Name "list" p2) [.Call (.Name "range" p0) [a] [] pos] [] pos2) ρ (rangeD 0 n.toNat) ρ1 :=
  pe_imp (pe_listRg hc hg ml (prg_1 hr mr h na) nb) fun σ H Q ⟨F, G, ad, w, k⟩ => ⟨F, G, ad, w, fun v H1 G1 ad1 e1 w1 p1 => by
    cases p1
    refine ⟨n, rfl, ⟨by decide, by decide, by omega, by omega, by omega⟩, fun l hl => ?_⟩
    have hg := w1.gh.none hl
    refine k l _ _ G1 ad1 e1 (w1.grow (Ex.new hl) (Ext.refl _ _) (w1.gh.mut hg)) (w1.fh.none hl) hg (fun j q => ?_) upd_same (rgV_rangeD n)
    obtain ⟨o, ho⟩ := w1.there j l q
    rw [hl] at ho; cases ho⟩
end
/-- a list that is, but for the sequence, what f makes of some -/
theorem perm_map {α : Type} {f : α → PyData} {g : PyData → α} (hg : ∀ x, g (f x) = x) {l : List α} {rs : List PyData} (h : rs.Perm (l.map f)) : ∃ o : List α, o.Perm l ∧ rs = o.map f := by
  have h1 : ∀ d ∈ rs, ∃ x, d = f x ∧ True := fun d hd => by
    obtain ⟨x, _, rfl⟩ := List.mem_map.mp (h.mem_iff.mp hd)
    exact ⟨x, rfl, trivial⟩
  obtain ⟨o, rfl, _⟩ := map_of h1
  refine ⟨o, ?_, rfl⟩
  have h2 := h.map g
  have e : ∀ l : List α, (l.map f).map g = l := fun l => by
    rw [List.map_map]
    have : g ∘ f = id := funext hg
    rw [this, List.map_id]
  rw [e, e] at h2
  exact h2
end DL
end part_DLq
section part_Num
/-! Plain numbers: sizes, fractions. -/
namespace Num
open PySem L2
/-! ### sizes -/
def Sz (n : Nat) (i : Int) : Prop := i.natAbs < 2 ^ n
theorem Sz.mono {n m : Nat} {i : Int} (h : Sz n i) (le : n ≤ m) : Sz m i := Nat.lt_of_lt_of_le h (Nat.pow_le_pow_right (by decide) le)
theorem Sz.mul {n m : Nat} {i j : Int} (h : Sz n i) (g : Sz m j) : Sz (n + m) (i * j) := wide_lt h g
theorem Sz.add {n m k : Nat} {i j : Int} (h : Sz n i) (g : Sz m j) (hn : n < k) (hm : m < k) : Sz k (i + j) := by
  have h1 := h.mono (show n ≤ k - 1 by omega)
  have h2 := g.mono (show m ≤ k - 1 by omega)
  have h3 := Int.natAbs_add_le i j
  unfold Sz at h1 h2 ⊢
  have e : 2 ^ k = 2 ^ (k - 1) + 2 ^ (k - 1) := by rw [← Nat.two_mul, ← Nat.pow_succ', show (k - 1).succ = k by omega]
  omega
theorem Sz.neg {n : Nat} {i : Int} (h : Sz n i) : Sz n (-i) := by unfold Sz; rw [Int.natAbs_neg]; exact h
theorem Sz.sub {n m k : Nat} {i j : Int} (h : Sz n i) (g : Sz m j) (hn : n < k) (hm : m < k) : Sz k (i - j) := by
  rw [Int.sub_eq_add_neg]
  exact h.add g.neg hn hm
theorem Sz.cmul {n m : Nat} {i j : Int} (h : Sz n i) (g : Sz m j) (z : n + m < 999998) : CMulW i j :=
  wide_mul (h.mono (Nat.le_succ n)) (g.mono (Nat.le_succ m)) (Nat.succ_pos n) (Nat.succ_pos m) (by omega)
theorem Sz.log {n : Nat} {i : Int} (h : Sz n i) (z : n < 9000) : i.natAbs.log2 < 9000 := Nat.lt_of_lt_of_le (PySem.Flt.log2_lt_of (Nat.succ_pos n) (h.mono (Nat.le_succ n))) z
/-! ### fractions -/
abbrev fr (p q : Int) : PyData := .tuple [.int p, .int q]
def gc (p q : Int) : Int := ((Nat.gcd p.natAbs q.natAbs : Nat) : Int)
def sg (p q : Int) : Int := if q < 0 then -gc p q else gc p q
def num (p q : Int) : Int := p.fdiv (sg p q)
def den (p q : Int) : Int := q.fdiv (sg p q)
abbrev frac (p q : Int) : PyData := fr (num p q) (den p q)
theorem gc_pos {p q : Int} (h : q ≠ 0) : 0 < gc p q := by
  unfold gc
  have : 0 < Nat.gcd p.natAbs q.natAbs := Nat.gcd_pos_of_pos_right _ (by omega)
  omega
theorem sg_ne {p q : Int} (h : q ≠ 0) : sg p q ≠ 0 := by
  have := gc_pos (p := p) h
  unfold sg
  split <;> omega
theorem sg_size {n : Nat} {p q : Int} (h : q ≠ 0) (hq : Sz n q) : Sz n (sg p q) := by
  have h1 : Nat.gcd p.natAbs q.natAbs ≤ q.natAbs := Nat.gcd_le_right _ (by omega)
  have h2 : (sg p q).natAbs = Nat.gcd p.natAbs q.natAbs := by
    unfold sg gc
    split
    · rw [Int.natAbs_neg, Int.natAbs_natCast]
    · rw [Int.natAbs_natCast]
  unfold Sz at hq ⊢
  omega

theorem Sz.of_le {n : Nat} {i j : Int} (h : Sz n j) (le : i.natAbs ≤ j.natAbs) : Sz n i := Nat.lt_of_le_of_lt le h
theorem natAbs_fdiv_le (a b : Int) (hb : b ∣ a) : (a.fdiv b).natAbs ≤ a.natAbs := by
  obtain ⟨c, rfl⟩ := hb
  by_cases h : b = 0
  · subst h
    simp
  · rw [Int.mul_fdiv_cancel_left c h, Int.natAbs_mul]
    exact Nat.le_mul_of_pos_left _ (by omega)
theorem gc_dvd_l (p q : Int) : gc p q ∣ p := by
  unfold gc
  exact Int.ofNat_dvd_left.mpr (Nat.gcd_dvd_left _ _)
theorem gc_dvd_r (p q : Int) : gc p q ∣ q := by
  unfold gc
  exact Int.ofNat_dvd_left.mpr (Nat.gcd_dvd_right _ _)
theorem sg_dvd_l (p q : Int) : sg p q ∣ p := by
  unfold sg
  split
  · exact Int.neg_dvd.mpr (gc_dvd_l p q)
  · exact gc_dvd_l p q
theorem sg_dvd_r (p q : Int) : sg p q ∣ q := by
  unfold sg
  split
  · exact Int.neg_dvd.mpr (gc_dvd_r p q)
  · exact gc_dvd_r p q
theorem num_size {n : Nat} {p : Int} (q : Int) (h : Sz n p) : Sz n (num p q) := h.of_le (natAbs_fdiv_le _ _ (sg_dvd_l p q))
theorem den_size {n : Nat} {q : Int} (p : Int) (h : Sz n q) : Sz n (den p q) := h.of_le (natAbs_fdiv_le _ _ (sg_dvd_r p q))
theorem den_eq {p q : Int} (h : q ≠ 0) : den p q * sg p q = q := by
  unfold den
  obtain ⟨c, hc⟩ := sg_dvd_r p q
  have e : q.fdiv (sg p q) = c := by
    have : (sg p q * c).fdiv (sg p q) = c := Int.mul_fdiv_cancel_left c (sg_ne h)
    rw [← hc] at this
    exact this
  rw [e, Int.mul_comm]
  exact hc.symm
theorem num_eq {p q : Int} (h : q ≠ 0) : num p q * sg p q = p := by
  unfold num
  obtain ⟨c, hc⟩ := sg_dvd_l p q
  have e : p.fdiv (sg p q) = c := by
    have : (sg p q * c).fdiv (sg p q) = c := Int.mul_fdiv_cancel_left c (sg_ne h)
    rw [← hc] at this
    exact this
  rw [e, Int.mul_comm]
  exact hc.symm
theorem den_pos {p q : Int} (h : q ≠ 0) : 0 < den p q := by
  have e := den_eq (p := p) h
  have g := gc_pos (p := p) h
  by_cases hq : q < 0
  · have s : sg p q = -gc p q := by unfold sg; rw [if_pos hq]
    rw [s] at e
    by_cases hd : 0 < den p q
    · exact hd
    · have h1 : 0 ≤ den p q * -gc p q := by
        rw [Int.mul_neg, ← Int.neg_mul]
        exact Int.mul_nonneg (by omega) (by omega)
      omega
  · have s : sg p q = gc p q := by unfold sg; rw [if_neg hq]
    rw [s] at e
    by_cases hd : 0 < den p q
    · exact hd
    · have h1 : 0 ≤ -den p q * gc p q := Int.mul_nonneg (by omega) (by omega)
      rw [Int.neg_mul] at h1
      omega
/-- the same fraction, both sides multiplied -/
theorem gc_mul {p q c : Int} (hc : 0 < c) : gc (p * c) (q * c) = gc p q * c := by
  unfold gc
  rw [Int.natAbs_mul, Int.natAbs_mul, Nat.gcd_mul_right, Int.natCast_mul]
  congr 1
  omega
theorem sg_mul {p q c : Int} (hc : 0 < c) : sg (p * c) (q * c) = sg p q * c := by
  unfold sg
  rw [gc_mul hc]
  by_cases hq : q < 0
  · have : q * c < 0 := Int.mul_neg_of_neg_of_pos hq hc
    rw [if_pos this, if_pos hq, Int.neg_mul]
  · have : ¬ q * c < 0 := by
      have := Int.mul_nonneg (show 0 ≤ q by omega) (show 0 ≤ c by omega)
      omega
    rw [if_neg this, if_neg hq]
theorem num_mul {p q c : Int} (hq : q ≠ 0) (hc : 0 < c) : num (p * c) (q * c) = num p q := by
  unfold num
  rw [sg_mul hc, Int.mul_fdiv_mul_of_pos_left _ _ hc]
theorem den_mul {p q c : Int} (hq : q ≠ 0) (hc : 0 < c) : den (p * c) (q * c) = den p q := by
  unfold den
  rw [sg_mul hc, Int.mul_fdiv_mul_of_pos_left _ _ hc]
theorem sg_negs {p q : Int} (hq : q ≠ 0) : sg (-p) (-q) = -sg p q := by
  unfold sg gc
  rw [Int.natAbs_neg, Int.natAbs_neg]
  by_cases h : q < 0
  · rw [if_pos h, if_neg (by omega), Int.neg_neg]
  · rw [if_neg h, if_pos (by omega)]
theorem num_negs {p q : Int} (hq : q ≠ 0) : num (-p) (-q) = num p q := by
  unfold num
  rw [sg_negs hq, Int.neg_fdiv_neg]
theorem den_negs {p q : Int} (hq : q ≠ 0) : den (-p) (-q) = den p q := by
  unfold den
  rw [sg_negs hq, Int.neg_fdiv_neg]
theorem sg_zero {q : Int} (hq : q ≠ 0) : sg 0 q = q := by
  unfold sg gc
  rw [Int.natAbs_zero, Nat.gcd_zero_left]
  split <;> omega
theorem sg_self {q : Int} (hq : q ≠ 0) : sg q q = q := by
  unfold sg gc
  rw [Nat.gcd_self]
  split <;> omega
end Num
end part_Num
section part_Row
/-! Plain rows, points, what rows come to. -/
namespace Num
open PySem L2 DL
abbrev Fr : Type := Int × Int
abbrev frD (x : Fr) : PyData := fr x.1 x.2
/-- a fraction of n bits, its denominator above 0 -/
structure Fo (n : Nat) (x : Fr) : Prop where
  pos : 0 < x.2
  s1 : Sz n x.1
  s2 : Sz n x.2
theorem Fo.mono {n m : Nat} {x : Fr} (h : Fo n x) (le : n ≤ m) : Fo m x := ⟨h.pos, h.s1.mono le, h.s2.mono le⟩
def addF (x y : Fr) : Fr := (num (x.1 * y.2 + y.1 * x.2) (x.2 * y.2), den (x.1 * y.2 + y.1 * x.2) (x.2 * y.2))
def red (p q : Int) : Fr := (num p q, den p q)
theorem red_mul {p q c : Int} (hq : q ≠ 0) (hc : 0 < c) : red (p * c) (q * c) = red p q := by unfold red; rw [num_mul hq hc, den_mul hq hc]
theorem sg_pos {p q : Int} (h : 0 < q) : 0 < sg p q := by
  unfold sg
  rw [if_neg (by omega)]
  exact gc_pos (by omega)
theorem red_pos {p q : Int} (h : q ≠ 0) : 0 < (red p q).2 := den_pos h
/-- sums may be taken ahead of reducing -/
theorem red_add {p q r s : Int} (hq : 0 < q) (hs : 0 < s) : addF (red p q) (red r s) = red (p * s + r * q) (q * s) := by
  have g1 := sg_pos (p := p) hq
  have g2 := sg_pos (p := r) hs
  have e1 := num_eq (p := p) (q := q) (by omega)
  have e2 := den_eq (p := p) (q := q) (by omega)
  have e3 := num_eq (p := r) (q := s) (by omega)
  have e4 := den_eq (p := r) (q := s) (by omega)
  have d1 := den_pos (p := p) (q := q) (by omega)
  have d2 := den_pos (p := r) (q := s) (by omega)
  have hc : 0 < sg p q * sg r s := Int.mul_pos g1 g2
  have hz : den p q * den r s ≠ 0 := by
    have := Int.mul_pos d1 d2
    omega
  have m1 := red_mul (p := num p q * den r s + num r s * den p q) hz hc
  have n1 : (num p q * den r s + num r s * den p q) * (sg p q * sg r s) = p * s + r * q := by
    have : (num p q * den r s + num r s * den p q) * (sg p q * sg r s) = (num p q * sg p q) * (den r s * sg r s) + (num r s * sg r s) * (den p q * sg p q) := by
      simp only [Int.add_mul, Int.mul_comm, Int.mul_left_comm, Int.mul_assoc]
    rw [this, e1, e2, e3, e4]
  have n2 : den p q * den r s * (sg p q * sg r s) = q * s := by
    have : den p q * den r s * (sg p q * sg r s) = (den p q * sg p q) * (den r s * sg r s) := by
      simp only [Int.mul_comm, Int.mul_left_comm, Int.mul_assoc]
    rw [this, e2, e4]
  rw [n1, n2] at m1
  exact m1.symm
/-! ### common divisors -/
def gN (g : Nat) (a : List Int) : Nat := a.foldl (fun g x => Nat.gcd g x.natAbs) g
theorem gN_dvd : ∀ (a : List Int) (g : Nat), gN g a ∣ g ∧ ∀ x ∈ a, gN g a ∣ x.natAbs
  | [], g => ⟨Nat.dvd_refl _, fun _ h => nomatch h⟩
  | x :: a, g => by
    obtain ⟨h1, h2⟩ := gN_dvd a (Nat.gcd g x.natAbs)
    refine ⟨Nat.dvd_trans h1 (Nat.gcd_dvd_left _ _), fun y hy => ?_⟩
    rcases List.mem_cons.mp hy with rfl | hy
    · exact Nat.dvd_trans h1 (Nat.gcd_dvd_right _ _)
    · exact h2 y hy
theorem gN_noughts : ∀ (a : List Int), (∀ x ∈ a, x = 0) → gN 0 a = 0
  | [], _ => rfl
  | x :: a, h => by
    have := h x List.mem_cons_self
    subst this
    exact gN_noughts a fun y hy => h y (List.mem_cons_of_mem _ hy)
theorem gN_zero {a : List Int} : gN 0 a = 0 ↔ ∀ x ∈ a, x = 0 := ⟨fun h x hx => by
  have := (gN_dvd a 0).2 x hx
  rw [h] at this
  have := Nat.eq_zero_of_zero_dvd this
  omega, gN_noughts a⟩
theorem gN_sz {a : List Int} {n : Nat} (h : gN 0 a ≠ 0) (hs : ∀ x ∈ a, Sz n x) : gN 0 a < 2 ^ n := by
  by_cases hz : ∀ x ∈ a, x = 0
  · exact absurd (gN_noughts a hz) h
  · obtain ⟨x, hx⟩ := Classical.not_forall.mp hz
    obtain ⟨hm, hn⟩ := Classical.not_imp.mp hx
    have h1 := Nat.le_of_dvd (by omega) ((gN_dvd a 0).2 x hm)
    exact Nat.lt_of_le_of_lt h1 (hs x hm)
theorem gN_app (a : List Int) (b : Int) : gN 0 (a ++ [b]) = Nat.gcd (gN 0 a) b.natAbs := by
  unfold gN
  rw [List.foldl_append]
  rfl
/-- the divisor of a row -/
def dv (a : List Int) (b : Int) : Nat := Nat.gcd (gN 0 a) b.natAbs
def plainF (a : List Int) (b : Int) : List Int × Int := if gN 0 a = 0 then (a, if 0 ≤ b then 0 else -1) else (a.map fun x => x.fdiv (dv a b : Int), b.fdiv (dv a b : Int))
theorem dv_pos {a : List Int} {b : Int} (h : gN 0 a ≠ 0) : 0 < dv a b := Nat.gcd_pos_of_pos_left _ (Nat.pos_of_ne_zero h)
theorem dv_sz {a : List Int} {b : Int} {n : Nat} (h : gN 0 a ≠ 0) (hs : ∀ x ∈ a, Sz n x) : dv a b < 2 ^ n := Nat.lt_of_le_of_lt (Nat.gcd_le_left _ (Nat.pos_of_ne_zero h)) (gN_sz h hs)
theorem dv_mem {a : List Int} {b x : Int} (hx : x ∈ a) : (dv a b : Int) ∣ x := Int.ofNat_dvd_left.mpr (Nat.dvd_trans (Nat.gcd_dvd_left _ _) ((gN_dvd a 0).2 x hx))
theorem dv_b {a : List Int} {b : Int} : (dv a b : Int) ∣ b := Int.ofNat_dvd_left.mpr (Nat.gcd_dvd_right _ _)
/-! ### rows as data -/
abbrev rowD (r : List Int × Int) : PyData := .tuple [.tuple (r.1.map PyData.int), .int r.2]
abbrev ptD (xs : List Fr) : PyData := .tuple (xs.map frD)
/-- a row of n bits -/
structure Ro (n : Nat) (r : List Int × Int) : Prop where
  a : ∀ x ∈ r.1, Sz n x
  b : Sz n r.2
  len : r.1.length ≤ 15
theorem Ro.mono {n m : Nat} {r : List Int × Int} (h : Ro n r) (le : n ≤ m) : Ro m r := ⟨fun x hx => (h.a x hx).mono le, h.b.mono le, h.len⟩
theorem fdiv_le {x : Int} {g : Nat} (hg : (g : Int) ∣ x) : (x.fdiv (g : Int)).natAbs ≤ x.natAbs := natAbs_fdiv_le x g hg
theorem Ro.plain {n : Nat} {r : List Int × Int} (h : Ro n r) (hn : 1 ≤ n) : Ro n (plainF r.1 r.2) := by
  unfold plainF
  split
  · refine ⟨h.a, ?_, h.len⟩
    have : 2 ^ 1 ≤ 2 ^ n := Nat.pow_le_pow_right (by decide) hn
    show (if 0 ≤ r.2 then (0 : Int) else -1).natAbs < 2 ^ n
    split <;> omega
  · refine ⟨fun x hx => ?_, ?_, by rw [List.length_map]; exact h.len⟩
    · obtain ⟨y, hy, rfl⟩ := List.mem_map.mp hx
      exact (h.a y hy).of_le (fdiv_le (dv_mem hy))
    · exact h.b.of_le (fdiv_le dv_b)
/-! ### common multiples -/
def lcF (m : Nat) (xs : List Fr) : Nat := xs.foldl (fun m x => Nat.lcm m x.2.natAbs) m
theorem lcF_lcm : ∀ (xs : List Fr) (a b : Nat), lcF (Nat.lcm a b) xs = Nat.lcm (lcF a xs) b
  | [], a, b => rfl
  | x :: xs, a, b => by
    show lcF (Nat.lcm (Nat.lcm a b) x.2.natAbs) xs = Nat.lcm (lcF (Nat.lcm a x.2.natAbs) xs) b
    rw [← lcF_lcm xs (Nat.lcm a x.2.natAbs) b, Nat.lcm_assoc, Nat.lcm_assoc, Nat.lcm_comm b x.2.natAbs]
theorem lcF_dvd : ∀ (xs : List Fr) (m : Nat), m ∣ lcF m xs ∧ ∀ x ∈ xs, x.2.natAbs ∣ lcF m xs
  | [], m => ⟨Nat.dvd_refl _, fun _ h => nomatch h⟩
  | x :: xs, m => by
    obtain ⟨h1, h2⟩ := lcF_dvd xs (Nat.lcm m x.2.natAbs)
    refine ⟨Nat.dvd_trans (Nat.dvd_lcm_left _ _) h1, fun y hy => ?_⟩
    rcases List.mem_cons.mp hy with rfl | hy
    · exact Nat.dvd_trans (Nat.dvd_lcm_right _ _) h1
    · exact h2 y hy
theorem lcF_pos : ∀ (xs : List Fr) (m : Nat), 0 < m → (∀ x ∈ xs, 0 < x.2) → 0 < lcF m xs
  | [], m, h, _ => h
  | x :: xs, m, h, hx => by
    have := hx x List.mem_cons_self
    exact lcF_pos xs _ (Nat.lcm_pos h (by omega)) fun y hy => hx y (List.mem_cons_of_mem _ hy)
theorem lcm_le (a b : Nat) : Nat.lcm a b ≤ a * b := Nat.div_le_self _ _
theorem lcF_sz {n : Nat} : ∀ (xs : List Fr) (m k : Nat), m < 2 ^ k → (∀ x ∈ xs, Sz n x.2) → lcF m xs < 2 ^ (k + n * xs.length)
  | [], m, k, h, _ => h
  | x :: xs, m, k, h, hx => by
    have h1 : Nat.lcm m x.2.natAbs < 2 ^ (k + n) := by
      have h2 : x.2.natAbs < 2 ^ n := hx x List.mem_cons_self
      refine Nat.lt_of_le_of_lt (lcm_le _ _) ?_
      rw [Nat.pow_add]
      by_cases hz : x.2.natAbs = 0
      · rw [hz, Nat.mul_zero]
        exact Nat.mul_pos (Nat.pow_pos (by decide)) (Nat.pow_pos (by decide))
      · exact Nat.lt_of_lt_of_le (Nat.mul_lt_mul_of_pos_right h (by omega)) (Nat.mul_le_mul_left _ (Nat.le_of_lt h2))
    have := lcF_sz xs _ (k + n) h1 fun y hy => hx y (List.mem_cons_of_mem _ hy)
    rw [List.length_cons, Nat.mul_succ, show k + (n * xs.length + n) = k + n + n * xs.length by omega]
    exact this
/-- members times the multiple over their denominators -/
def upF (M : Nat) (xs : List Fr) : List Int := xs.map fun x => x.1 * ((M : Int).fdiv x.2)
def rowOfF (ms : List Fr) (bd : Fr) : List Int × Int := plainF (upF (lcF bd.2.natAbs ms) ms) (bd.1 * ((lcF bd.2.natAbs ms : Nat) : Int).fdiv bd.2)
def dot (a w : List Int) : Int := (a.zip w).foldl (fun s z => s + z.1 * z.2) 0
def dotF (s : Int) (zs : List (Int × Int)) : Int := zs.foldl (fun s z => s + z.1 * z.2) s
theorem dotF_add : ∀ (zs : List (Int × Int)) (s : Int), dotF s zs = s + dotF 0 zs
  | [], s => (Int.add_zero s).symm
  | z :: zs, s => by
    show dotF (s + z.1 * z.2) zs = s + dotF (0 + z.1 * z.2) zs
    rw [dotF_add zs (s + z.1 * z.2), dotF_add zs (0 + z.1 * z.2)]
    omega
theorem dotF_sz {n m : Nat} : ∀ (zs : List (Int × Int)) (s : Int), (∀ z ∈ zs, Sz n z.1 ∧ Sz m z.2) → (dotF s zs).natAbs ≤ s.natAbs + zs.length * 2 ^ (n + m)
  | [], s, _ => by
    show s.natAbs ≤ _
    omega
  | z :: zs, s, h => by
    have ih := dotF_sz zs (s + z.1 * z.2) fun y hy => h y (List.mem_cons_of_mem _ hy)
    obtain ⟨h1, h2⟩ := h z List.mem_cons_self
    have h3 : (z.1 * z.2).natAbs < 2 ^ (n + m) := h1.mul h2
    have h4 := Int.natAbs_add_le s (z.1 * z.2)
    show (dotF (s + z.1 * z.2) zs).natAbs ≤ _
    rw [List.length_cons, Nat.succ_mul]
    omega
theorem dot_sz {n m : Nat} {a w : List Int} (ha : ∀ x ∈ a, Sz n x) (hw : ∀ x ∈ w, Sz m x) (hl : a.length ≤ 15) : Sz (n + m + 4) (dot a w) := by
  have h := dotF_sz (n := n) (m := m) (a.zip w) 0 fun z hz => ⟨ha _ (List.of_mem_zip hz).1, hw _ (List.of_mem_zip hz).2⟩
  have h1 : (a.zip w).length ≤ 15 := by rw [List.length_zip]; omega
  have h2 : (a.zip w).length * 2 ^ (n + m) ≤ 15 * 2 ^ (n + m) := Nat.mul_le_mul_right _ h1
  have h3 : 2 ^ (n + m + 4) = 16 * 2 ^ (n + m) := by rw [Nat.pow_add]; omega
  have h4 : 0 < 2 ^ (n + m) := Nat.pow_pos (by decide)
  show (dotF 0 (a.zip w)).natAbs < 2 ^ (n + m + 4)
  omega
theorem upF_sz {n k : Nat} {M : Nat} {xs : List Fr} (h : ∀ x ∈ xs, Sz n x.1) (hM : M < 2 ^ k) (hd : ∀ x ∈ xs, x.2 ∣ (M : Int)) : ∀ y ∈ upF M xs, Sz (n + k) y := fun y hy => by
  obtain ⟨x, hx, rfl⟩ := List.mem_map.mp hy
  refine (h x hx).mul ?_
  have h1 := natAbs_fdiv_le (M : Int) x.2 (hd x hx)
  show ((M : Int).fdiv x.2).natAbs < 2 ^ k
  omega
/-! ### what a row comes to at a point -/
def reachF (a : List Int) (xs : List Fr) : Fr := red (dot a (upF (lcF 1 xs) xs)) ((lcF 1 xs : Nat) : Int)
def lawReachF (zs : List (Int × Fr)) (f : Fr) : Fr := zs.foldl (fun f z => addF f (red (z.1 * z.2.1) z.2.2)) f
theorem law_reach {M : Int} (hM : 0 < M) : ∀ (zs : List (Int × Fr)) (P Q : Int), 0 < Q → (∀ z ∈ zs, 0 < z.2.2 ∧ z.2.2 ∣ M) →
    lawReachF zs (red P Q) = red (P * M + Q * dotF 0 (zs.map fun z => (z.1, z.2.1 * M.fdiv z.2.2))) (Q * M)
  | [], P, Q, hQ, _ => by
    show red P Q = red (P * M + Q * 0) (Q * M)
    rw [Int.mul_zero, Int.add_zero, red_mul (by omega) hM]
  | z :: zs, P, Q, hQ, h => by
    obtain ⟨hq, c, hc⟩ := h z List.mem_cons_self
    have ih := law_reach hM zs (P * z.2.2 + z.1 * z.2.1 * Q) (Q * z.2.2) (Int.mul_pos hQ hq) fun y hy => h y (List.mem_cons_of_mem _ hy)
    show lawReachF zs (addF (red P Q) (red (z.1 * z.2.1) z.2.2)) = _
    rw [red_add hQ hq, ih]
    have e : M.fdiv z.2.2 = c := by rw [hc]; exact Int.mul_fdiv_cancel_left c (by omega)
    have eD : dotF 0 ((z :: zs).map fun z => (z.1, z.2.1 * M.fdiv z.2.2)) = z.1 * (z.2.1 * c) + dotF 0 (zs.map fun z => (z.1, z.2.1 * M.fdiv z.2.2)) := by
      show dotF (0 + z.1 * (z.2.1 * M.fdiv z.2.2)) (zs.map fun z => (z.1, z.2.1 * M.fdiv z.2.2)) = _
      rw [dotF_add, e, Int.zero_add]
    rw [eD]
    generalize dotF 0 (zs.map fun z => (z.1, z.2.1 * M.fdiv z.2.2)) = D
    have m1 := red_mul (p := P * M + Q * (z.1 * (z.2.1 * c) + D)) (q := Q * M) (c := z.2.2) (by have := Int.mul_pos hQ hM; omega) hq
    rw [← m1]
    congr 1
    · rw [hc]
      simp only [Int.add_mul, Int.mul_add, Int.mul_comm, Int.mul_left_comm, Int.mul_assoc, Int.add_assoc]
    · simp only [Int.mul_comm, Int.mul_left_comm, Int.mul_assoc]
theorem zip_up (M : Nat) : ∀ (a : List Int) (xs : List Fr), a.zip (upF M xs) = (a.zip xs).map fun z => (z.1, z.2.1 * (M : Int).fdiv z.2.2)
  | [], xs => by simp
  | x :: a, [] => by simp [upF]
  | x :: a, y :: xs => by
    have := zip_up M a xs
    simp only [upF, List.map_cons, List.zip_cons_cons] at this ⊢
    rw [this]
theorem reach_eq {a : List Int} {xs : List Fr} (h : ∀ x ∈ xs, 0 < x.2) : lawReachF (a.zip xs) (0, 1) = reachF a xs := by
  have hM : 0 < ((lcF 1 xs : Nat) : Int) := by
    have := lcF_pos xs 1 (by decide) h
    omega
  have r01 : red 0 1 = (0, 1) := by rfl
  have z := law_reach hM (a.zip xs) 0 1 (by decide) fun z hz => by
    have hm := (List.of_mem_zip hz).2
    have hp := h _ hm
    refine ⟨hp, ?_⟩
    have := (lcF_dvd xs 1).2 _ hm
    have e : (z.2.2.natAbs : Int) = z.2.2 := by omega
    rw [← e]
    exact Int.ofNat_dvd.mpr this
  rw [r01, Int.zero_mul, Int.zero_add, Int.one_mul, Int.one_mul, ← zip_up] at z
  exact z
end Num
end part_Row
section part_K03a
namespace K03
open L2 PyProof.Rows PySem.Spec PySem DL Num
def top (i : Nat) : Stmt := PySem.Challenge.pw_everygust_k03_rooms_of_rooms.main.body.getD i (.Pass ⟨0, 0, 0, 0⟩)
abbrev sFrac : Stmt := top 3
abbrev sPlus : Stmt := top 4
--
abbrev sTimes : Stmt := top 5
--
--
--
--
--
--
--
def rFrac (ds : List PyData) (d : PyData) : Prop := ∃ p q : Int, ds = [.int p, .int q] ∧ q ≠ 0 ∧ Sz 8990 q ∧ d = frac p q
/-- two fractions of such sizes -/
structure F2 (a b c e : Int) : Prop where
  hb : b ≠ 0
  he : e ≠ 0
  sa : Sz 4400 a
  sb : Sz 4400 b
  sc : Sz 4400 c
  se : Sz 4400 e
def rPlus (ds : List PyData) (d : PyData) : Prop := ∃ a b c e : Int, ds = [fr a b, fr c e] ∧ F2 a b c e ∧ d = frac (a * e + c * b) (b * e)
def rMinus (ds : List PyData) (d : PyData) : Prop := ∃ a b c e : Int, ds = [fr a b, fr c e] ∧ F2 a b c e ∧ d = frac (a * e - c * b) (b * e)
def rTimes (ds : List PyData) (d : PyData) : Prop := ∃ a b c e : Int, ds = [fr a b, fr c e] ∧ F2 a b c e ∧ d = frac (a * c) (b * e)
def rOver (ds : List PyData) (d : PyData) : Prop := ∃ a b c e : Int, ds = [fr a b, fr c e] ∧ F2 a b c e ∧ d = if c = 0 then .none else frac (a * e) (b * c)
def rLess (ds : List PyData) (d : PyData) : Prop := ∃ a b c e : Int, ds = [fr a b, fr c e] ∧ Sz 400000 a ∧ Sz 400000 b ∧ Sz 400000 c ∧ Sz 400000 e ∧ d = .bool (decide (a * e < c * b))
def rFloor (ds : List PyData) (d : PyData) : Prop := ∃ a b : Int, ds = [fr a b] ∧ b ≠ 0 ∧ Sz 8990 b ∧ d = .int (a.fdiv b)
def rCeil (ds : List PyData) (d : PyData) : Prop := ∃ a b : Int, ds = [fr a b] ∧ b ≠ 0 ∧ Sz 8990 b ∧ d = .int (-((-a).fdiv b))
theorem F2.mul {a b c e : Int} (h : F2 a b c e) : b * e ≠ 0 ∧ Sz 8990 (b * e) := ⟨Int.mul_ne_zero h.hb h.he, (h.sb.mul h.se).mono (by decide)⟩
section
variable {P : Program} {w : World} {K : PySem.W.Frag} {mg : Str → Option Value} {base : Heap}
theorem scFrac : FnScope ["p", "q", "shared"] ["p", "q"] (defScope sFrac) := ⟨rfl, rfl, rfl, by decide +kernel, rfl, by decide +kernel, by decide +kernel⟩
theorem ok_frac (hp : DL.Put K mg "fraction_of" sFrac) (g_gcd : mg "gcd" = some (.builtin "math.gcd")) : Def P w K mg base "fraction_of" 1 ["p", "q"] (spP K rFrac) := by
  refine def_P hp scFrac (fun _ _ _ _ _ _ us hl => match us, hl with | [_, _], _ => rfl) (by decide) (fun ds d h => ?_) (fun a hr ds d h => ?_)
  · obtain ⟨p, q, rfl, _⟩ := h
    rfl
  · obtain ⟨p, q, rfl, hq, hz, rfl⟩ := h
    have hs : Sz 8999 (sg p q) := (sg_size hq hz).mono (by decide)
    have hn := sg_ne (p := p) hq
    refine .rt (s_cons (s_set 2 (e_callF (ea_cons (e_var 0) (ea_cons (e_var 1) ea_nil)) cv_gcd g_gcd) scFrac.nd)
      (s_if (t_cmp (e_var 1) e_int ov_lt) (fun h => .go (s_cons (s_set 2 (e_neg (e_var 2)) scFrac.nd)
      s_nil') (s_stop (s_retP (e_tup (ea_cons (e_bin (e_var 0) (e_var 2) (ov_fdiv ?a1 ?a2)) (ea_cons (e_bin (e_var 1) (e_var 2) (ov_fdiv ?a1 ?a2)) ea_nil))) ?a3)))
        (fun h => .go s_nil' (s_stop (s_retP (e_tup (ea_cons (e_bin (e_var 0) (e_var 2) (ov_fdiv ?b1 ?b2)) (ea_cons (e_bin (e_var 1) (e_var 2) (ov_fdiv ?b1 ?b2)) ea_nil))) ?b3)))))
    all_goals
      have e : sg p q = if q < 0 then -((Nat.gcd p.natAbs q.natAbs : Nat) : Int) else ((Nat.gcd p.natAbs q.natAbs : Nat) : Int) := rfl
      first
        | (rw [if_pos (of_decide_eq_true h)] at e)
        | (rw [if_neg (of_decide_eq_false h)] at e)
      first
        | (rw [← e]; exact hn)
        | (rw [← e]; exact hs.log (by decide))
        | (rw [← e]; rfl)
theorem scPlus : FnScope ["one", "other"] ["one", "other"] (defScope sPlus) := ⟨rfl, rfl, rfl, by decide +kernel, rfl, by decide +kernel, by decide +kernel⟩
theorem ok_plus (hp : DL.Put K mg "plus" sPlus) (dF : Def P w K mg base "fraction_of" 1 ["p", "q"] (spP K rFrac)) : Def P w K mg base "plus" 2 ["one", "other"] (spP K rPlus) := by
  refine def_P hp scPlus (fun _ _ _ _ _ _ us hl => match us, hl with | [_, _], _ => rfl) (by decide) (fun ds d h => ?_) (fun a hr ds d h => ?_)
  · obtain ⟨_, _, _, _, rfl, _⟩ := h
    rfl
  · obtain ⟨a, b, c, e, rfl, h, rfl⟩ := h
    have k_fraction_of := dF.known hr
    exact .rt (s_stop (s_retP (e_call k_fraction_of (ea_cons (e_bin (e_bin (e_ixt (e_var 0)) (e_ixt (e_var 1)) (ov_mul (h.sa.cmul h.se (by decide)))) (e_bin (e_ixt (e_var 1)) (e_ixt (e_var 0)) (ov_mul (h.sc.cmul h.sb (by decide)))) ov_add) (ea_cons (e_bin (e_ixt (e_var 0)) (e_ixt (e_var 1)) (ov_mul (h.sb.cmul h.se (by decide)))) ea_nil)) ⟨_, _, rfl, h.mul.1, h.mul.2, rfl⟩)))
theorem scTimes : FnScope ["one", "other"] ["one", "other"] (defScope sTimes) := ⟨rfl, rfl, rfl, by decide +kernel, rfl, by decide +kernel, by decide +kernel⟩
theorem ok_times (hp : DL.Put K mg "times" sTimes) (dF : Def P w K mg base "fraction_of" 1 ["p", "q"] (spP K rFrac)) : Def P w K mg base "times" 2 ["one", "other"] (spP K rTimes) := by
  refine def_P hp scTimes (fun _ _ _ _ _ _ us hl => match us, hl with | [_, _], _ => rfl) (by decide) (fun ds d h => ?_) (fun a hr ds d h => ?_)
  · obtain ⟨_, _, _, _, rfl, _⟩ := h
    rfl
  · obtain ⟨a, b, c, e, rfl, h, rfl⟩ := h
    have k_fraction_of := dF.known hr
    exact .rt (s_stop (s_retP (e_call k_fraction_of (ea_cons (e_bin (e_ixt (e_var 0)) (e_ixt (e_var 1)) (ov_mul (h.sa.cmul h.sc (by decide)))) (ea_cons (e_bin (e_ixt (e_var 0)) (e_ixt (e_var 1)) (ov_mul (h.sb.cmul h.se (by decide)))) ea_nil)) ⟨_, _, rfl, h.mul.1, h.mul.2, rfl⟩)))
end
end K03
end part_K03a
section part_K03c
namespace K03
open L2 PyProof.Rows PySem.Spec PySem DL Num
/-! ### the law's draws -/
abbrev sSource : Stmt := top 30
abbrev sPick : Stmt := top 31
abbrev sOf : Stmt := top 32
abbrev sMixed : Stmt := top 33
abbrev sLeast : Stmt := top 34
abbrev sLPlus : Stmt := top 35
abbrev sGreat : Stmt := top 37
/-- a source that may be drawn from -/
structure Ok (t : Src) : Prop where
  more : moreOk t
  few : t.more.length < 1000
theorem Ok.left {t : Src} (h : Ok t) (n : Int) : Ok { t with left := n } := ⟨h.more, h.few⟩
theorem Ok.mixed {t : Src} (h : Ok t) (n : Int) : Ok { t with mixed := n } := ⟨h.more, h.few⟩
theorem Ok.turn {t : Src} (h : Ok t) (n : Int) : Ok { t with turn := n } := ⟨h.more, h.few⟩
theorem Ok.cells {t : Src} (h : Ok t) (c : List Int) : Ok { t with cells := c } := ⟨h.more, h.few⟩
theorem hu_rm {k : Nat} {A : Around} (h : Rm k A) : A.units + 1 < cLine := hu_of h.1
section
variable {P : Program} {w : World} {K : PySem.W.Frag} {mg : Str → Option Value} {base : Heap}
/-! #### _law_pick -/
def prePick (t : Src) (ds : List PyData) : Prop := Ok t ∧ ∃ m : Int, ds = [.int m] ∧ Sz 900 m
def postPick (t : Src) (ds : List PyData) (t' : Src) (d : PyData) : Prop := Ok t' ∧ ∃ m n : Int, ds = [.int m] ∧ d = .int n ∧ 0 ≤ n ∧ (n < m ∨ n = 0)
theorem scPick : FnScope ["source", "many", "left", "mixed"] ["source", "many"] (defScope sPick) := ⟨rfl, rfl, rfl, by decide +kernel, rfl, by decide +kernel, by decide +kernel⟩
abbrev cPick (P : Program) (w : World) (K : PySem.W.Frag) (mg : Str → Option Value) (base : Heap) (a : CxA) : Cx := cx P w K mg base ["source", "many", "left", "mixed"] "_law_pick" sPick a
theorem pick_loop (m_len : mg "len" = none) (m : Int) : ∀ (k : Nat) (t : Src), t.cells.length = k → Ok t → ∃ (t' : Src) (n : Nat), Ok t' ∧ ∀ (a : CxA), Rm 0 (cPick P w K mg base a).A → ∀ s l,
    Wh (cPick P w K mg base a) (whC (bodyAt sPick 0)) (lpB (bodyAt sPick 0)) n [.src s l t, .dat (.int m), .un, .un] (.nx [.src s l t', .dat (.int m), .un, .un]) := by
  intro k
  induction k with
  | zero =>
    intro t hk ht
    refine ⟨t, 0, ht, fun a hr s l => ?_⟩
    have hu := hu_rm hr
    refine .done (T.to (t_w (tw_and (t_cmp (e_var 1) e_int ov_gt) (fun h => (tw_and (t_cmp (e_src 0 (src_left · _) hu) e_int ov_lt) (fun h => (tw_and1 (t_cmp (e_srcLen 0 hu m_len) e_int ov_gt))) (fun h => rfl))) (fun h => rfl))) ?_)
    rw [hk]
    simp
  | succ k ih =>
    intro t hk ht
    by_cases hc : 1 < m ∧ t.left < 2
    · have hlast : t.cells[t.cells.length - 1]? = some (t.cells[t.cells.length - 1]'(by omega)) := List.getElem?_eq_getElem _
      obtain ⟨t', n, ht', h⟩ := ih { t with cells := t.cells.dropLast, left := t.cells[t.cells.length - 1]'(by omega) } (by show t.cells.dropLast.length = k; rw [List.length_dropLast]; omega) ⟨ht.more, ht.few⟩
      refine ⟨t', n + 1, ht', fun a hr s l => ?_⟩
      have hu := hu_rm hr
      refine .nx (T.to (t_w (tw_and (t_cmp (e_var 1) e_int ov_gt) (fun h => (tw_and (t_cmp (e_src 0 (src_left · _) hu) e_int ov_lt) (fun h => (tw_and1 (t_cmp (e_srcLen 0 hu m_len) e_int ov_gt))) (fun h => rfl))) (fun h => rfl))) ?_) (s_cons (s_srcSet 0 (e_srcPop 0 hu rfl hlast) hu (put_left · _ (show moreOk { t with cells := t.cells.dropLast } from ht.more) _) rfl ht.few) s_nil') (h a hr s l)
      rw [decide_eq_true hc.1, decide_eq_true hc.2, hk]
      simp
    · refine ⟨t, 0, ht, fun a hr s l => ?_⟩
      have hu := hu_rm hr
      refine .done (T.to (t_w (tw_and (t_cmp (e_var 1) e_int ov_gt) (fun h => (tw_and (t_cmp (e_src 0 (src_left · _) hu) e_int ov_lt) (fun h => (tw_and1 (t_cmp (e_srcLen 0 hu m_len) e_int ov_gt))) (fun h => rfl))) (fun h => rfl))) ?_)
      by_cases h1 : 1 < m
      · have h2 : ¬ t.left < 2 := fun z => hc ⟨h1, z⟩
        rw [decide_eq_false h2, Bool.false_and, Bool.and_false]
      · rw [decide_eq_false h1, Bool.false_and]
theorem max_one {m : Int} : (if m > 1 then m else 1) ≠ 0 ∧ (Sz 900 m → Sz 901 (if m > 1 then m else 1)) := by
  by_cases h : m > 1
  · rw [if_pos h]
    exact ⟨by omega, fun z => z.mono (by decide)⟩
  · rw [if_neg h]
    refine ⟨by decide, fun _ => ?_⟩
    have h1 : Sz 1 1 := by show (1 : Int).natAbs < 2 ^ 1; decide
    exact h1.mono (by decide)
theorem fmod_in {a b : Int} (h : 0 < b) : 0 ≤ a.fmod b ∧ a.fmod b < b := ⟨Int.fmod_nonneg_of_pos a h, Int.fmod_lt_of_pos a h⟩
theorem fmod_sz {a b : Int} {n : Nat} (h : 0 < b) (hb : Sz n b) : Sz n (a.fmod b) := by
  have z := fmod_in (a := a) h
  exact hb.of_le (by omega)
theorem ok_pick (hp : DL.Put K mg "_law_pick" sPick) (m_len : mg "len" = none) (m_max : mg "max" = none) (m_int : mg "int" = none) : ∃ R, Def P w K mg base "_law_pick" 1 ["source", "many"] (spS K R) ∧ ∀ t ds, prePick t ds → ∃ t' d, R t ds t' d ∧ postPick t ds t' d := by
  refine def_Sx hp scPick (fun _ _ _ _ _ _ us hl => match us, hl with | [_, _], _ => rfl) (by decide) (fun t ds h => ?_) (fun t0 ds h => ?_)
  · obtain ⟨_, m, rfl, _⟩ := h
    rfl
  · obtain ⟨ht0, m, rfl, hm⟩ := h
    obtain ⟨t, n, ht, hw⟩ := pick_loop (P := P) (w := w) (K := K) (base := base) m_len m t0.cells.length t0 rfl ht0
    by_cases hc : m < 2 ∨ 1 < t.left
    · refine ⟨{ t with left := t.left.fdiv (if m > 1 then m else 1) }, .int (t.left.fmod (if m > 1 then m else 1)), ⟨ht.left _, m, _, rfl, rfl, ?_⟩, fun a hr s l => ?_⟩
      · by_cases h : m > 1
        · rw [if_pos h]
          have z := fmod_in (a := t.left) (show 0 < m by omega)
          exact ⟨z.1, .inl z.2⟩
        · rw [if_neg h]
          have z := fmod_in (a := t.left) (show (0 : Int) < 1 by decide)
          exact ⟨z.1, .inr (by omega)⟩
      · have hu := hu_rm hr
        refine s_cons (s_while (hw a hr s l)) (s_cons (s_set 2 (e_src 0 (src_left · _) hu) scPick.nd)
          (s_if (T.to (q := true) (t_w (tw_or (t_cmp (e_var 1) e_int ov_lt) (fun h => (tw_or1 (t_cmp (e_var 2) e_int ov_gt))) (fun h => rfl))) ?_) (fun h => .stop (s_cons (s_srcSet 0 (e_bin (e_var 2) (e_callB (ea_cons e_int (ea_cons (e_var 1) ea_nil)) (cv_max rfl) m_max) (ov_fdiv max_one.1 ((max_one.2 hm).log (by decide)))) hu (put_left · _ ht.more _) rfl ht.few)
          (s_stop (s_retS (e_bin (e_callTy (ea_cons (e_var 2) ea_nil) cv_int m_int) (e_callB (ea_cons e_int (ea_cons (e_var 1) ea_nil)) (cv_max rfl) m_max) (ov_mod max_one.1))))) trivial) (fun h => Bool.noConfusion h)))
        rcases hc with h | h
        · rw [decide_eq_true h, Bool.true_or]
        · rw [decide_eq_true h, Bool.or_true]
    · have h1 : ¬ m < 2 := fun z => hc (.inl z)
      have h2 : ¬ 1 < t.left := fun z => hc (.inr z)
      have hm0 : 0 < m := by omega
      refine ⟨{ { t with turn := t.turn + 1 } with mixed := (((t.mixed + (t.turn + 1) * 104729).fmod 998244353 * (t.mixed + (t.turn + 1) * 104729).fmod 998244353 + (t.turn + 1) * 17).fmod 2147483647) }, .int ((((t.mixed + (t.turn + 1) * 104729).fmod 998244353 * (t.mixed + (t.turn + 1) * 104729).fmod 998244353 + (t.turn + 1) * 17).fmod 2147483647).fdiv 16 |>.fmod m), ⟨(ht.turn _).mixed _, m, _, rfl, rfl, ?_⟩, fun a hr s l => ?_⟩
      · have z := fmod_in (a := ((((t.mixed + (t.turn + 1) * 104729).fmod 998244353 * (t.mixed + (t.turn + 1) * 104729).fmod 998244353 + (t.turn + 1) * 17).fmod 2147483647).fdiv 16)) hm0
        exact ⟨z.1, .inl z.2⟩
      · have hu := hu_rm hr
        have sm : Sz 40 ((t.mixed + (t.turn + 1) * 104729).fmod 998244353) := fmod_sz (by decide) (by show (998244353 : Int).natAbs < 2 ^ 40; decide)
        have ht1 := ht.turn (t.turn + 1)
        refine s_cons (s_while (hw a hr s l)) (s_cons (s_set 2 (e_src 0 (src_left · _) hu) scPick.nd)
          (s_if (T.to (q := false) (t_w (tw_or (t_cmp (e_var 1) e_int ov_lt) (fun h => (tw_or1 (t_cmp (e_var 2) e_int ov_gt))) (fun h => rfl))) ?_) (fun h => Bool.noConfusion h) (fun h => .go s_nil' (s_cons (s_srcSet 0 (e_bin (e_src 0 (src_turn · _) hu) e_int ov_add) hu (put_turn · _ ht.more _) rfl ht.few)
          (s_cons (s_set 3 (e_bin (e_callTy (ea_cons (e_bin (e_src 0 (src_mixed · _) hu) (e_bin (e_src 0 (src_turn · _) hu) e_int (ov_mulS (.inr ⟨by decide, by decide⟩))) ov_add) ea_nil) cv_int m_int) e_int (ov_mod (by decide))) scPick.nd)
          (s_cons (s_set 3 (e_bin (e_callTy (ea_cons (e_bin (e_bin (e_var 3) (e_var 3) (ov_mul (sm.cmul sm (by decide)))) (e_bin (e_src 0 (src_turn · _) hu) e_int (ov_mulS (.inr ⟨by decide, by decide⟩))) ov_add) ea_nil) cv_int m_int) e_int (ov_mod (by decide))) scPick.nd)
          (s_cons (s_srcSet 0 (e_var 3) hu (put_mixed · _ ht1.more ((((t.mixed + (t.turn + 1) * 104729).fmod 998244353 * (t.mixed + (t.turn + 1) * 104729).fmod 998244353 + (t.turn + 1) * 17).fmod 2147483647))) rfl ht.few)
          (s_stop (s_retS (e_bin (e_callTy (ea_cons (e_bin (e_var 3) e_int (ov_fdiv (by decide) (by decide +kernel))) ea_nil) cv_int m_int) (e_var 1) (ov_mod (by omega)))))))))))) 
        rw [decide_eq_false h1, decide_eq_false h2]
        rfl
end
end K03
end part_K03c
section part_K03s
namespace K03
open L2 PyProof.Rows PySem.Spec PySem DL Num
section
variable {P : Program} {w : World} {K : PySem.W.Frag} {mg : Str → Option Value} {base : Heap}
/-! #### _law_source -/
theorem scSource : FnScope ["script", "mixed", "cell"] ["script"] (defScope sSource) := ⟨rfl, rfl, rfl, by decide +kernel, rfl, by decide +kernel, by decide +kernel⟩
abbrev cSource (P : Program) (w : World) (K : PySem.W.Frag) (mg : Str → Option Value) (base : Heap) (a : CxA) : Cx := cx P w K mg base ["script", "mixed", "cell"] "_law_source" sSource a
def mixOf (ns : List Int) (m : Int) : Int := ns.foldl (fun m c => (m * 69069 + c * 31 + 5).fmod 2147483629) m
def absI (i : Int) : Int := if i < 0 then -i else i
def srcOf (ns : List Int) : Src := { cells := (ns.map absI).reverse, left := 1, mixed := mixOf ns 11, turn := 0 }
theorem srcOf_ok (ns : List Int) : Ok (srcOf ns) := ⟨fun _ h => (nomatch h), by show 0 < 1000; decide⟩
theorem source_loop (m_int : mg "int" = none) {a : CxA} (hr : Rm 0 (cSource P w K mg base a).A) (all : List Int) : ∀ (ns : List Int) (m : Int),
    Loop (cSource P w K mg base a) (forT (bodyAt sSource 1)) (lpB (bodyAt sSource 1)) (ns.map PyData.int) [.scr all, .dat (.int m), .un] (.nx [.scr all, .dat (.int (mixOf ns m)), .un])
  | [], m => .nil
  | n :: ns, m => .nx (g_name 2 scSource.nd) (s_cons (s_set 1 (e_bin (e_callTy (ea_cons (e_bin (e_bin (e_bin (e_var 1) e_int (ov_mulS (.inr ⟨by decide, by decide⟩))) (e_bin (e_var 2) e_int (ov_mulS (.inr ⟨by decide, by decide⟩))) ov_add) e_int ov_add) ea_nil) cv_int m_int) e_int (ov_mod (by decide))) scSource.nd) (s_nil (le_cons (le_cons (le_un le_nil))))) (source_loop m_int hr all ns _)
def dictOf : Stmt → Expr := exprOf
abbrev srcRev : Expr := match exprOf (bodyAt sSource 2) with
  | .Dict _ (.Subscript e _ _ :: _) _ => e
  | e => e
theorem source_cl (m_abs : mg "abs" = none) {a : CxA} (all : List Int) (m : Int) : ∀ (ns : List Int), CL (cSource P w K mg base a) (cmS srcRev) (cmT srcRev) (cmI srcRev) (cmE srcRev) [2] (ns.map PyData.int) [.scr all, .dat (.int m), .un] ((ns.map absI).map PyData.int) [.scr all, .dat (.int m), .un]
  | [] => .nil
  | n :: ns => .yes (js := [2]) (fun _ z => z) (fun _ _ _ _ _ => g_name 2 scSource.nd) (fun _ _ _ _ _ => ts_nil) (fun _ _ _ _ _ => e_callB (ea_cons (e_var 2) ea_nil) cv_abs m_abs) (.pre (ρ1 := [.scr all, .dat (.int m), .un]) (Le.refl _) (source_cl m_abs all m ns))
theorem blkSource : blkC ["script", "mixed", "cell"] (defScope sSource) (cmS srcRev) [("cell", 2)] = true := by decide +kernel
theorem source_end (m_abs : mg "abs" = none) {a : CxA} (ns : List Int) (hl : ns.length ≤ 1000) (m : Int) : ∃ te, PE (cSource P w K mg base a) (exprOf (bodyAt sSource 2)) te ∧
    ∀ (F G H : Hp) (σ : L2.St) (ad : Nat → List Addr) (Q : VK), Sta K F G H σ [.scr ns, .dat (.int m), .un] ad → (∀ s l H', F s = none → F l = none → Ex F H' → SrcAt H' s l { cells := (ns.map absI).reverse, left := 1, mixed := m, turn := 0 } → Q (.ref s) H') → te σ H Q := by
  refine ⟨_, pe_disp (pps_cons pe_str (pe_revL (eo_lc (own := [("cell", 2)]) (i_scr 0) (source_cl m_abs ns m ns) (by rw [List.length_map]; omega) scSource.nd (blkOk_by blkSource)))
    (pps_cons pe_str pe_int (pps_cons pe_str (pe_var (i := 1) rfl (.inl rfl)) (pps_cons pe_str pe_int pps_nil)))) rfl rfl (by decide) (by decide), fun F G H σ ad Q w k => ?_⟩
  intro p hp
  have Fp : F p = none := w.fh.none hp
  have w1 : Sta K (upd F p (.dK [])) G (upd H p (.dK [])) σ [.scr ns, .dat (.int m), .un] ad := by
    refine ⟨w.gh.trans (Ex.new hp), w.fh.both, fun i b z => ?_, fun i b z => ?_, w.dis, w.len, fun i r q => (w.hold i r q).grow (Ex.refl G) fun b _ u z => Ex.new hp b u z⟩
    · obtain ⟨o, ho⟩ := w.there i b z
      have ne : b ≠ p := fun e => by rw [e, hp] at ho; cases ho
      rw [upd_ne ne]
      exact w.own i b z
    · obtain ⟨o, ho⟩ := w.there i b z
      exact ⟨o, Ex.new hp b o ho⟩
  refine ⟨_, _, _, w1, fun l xs H1 G1 ad1 e1 w2 f1 f2 f3 f4 f5 => ?_⟩
  refine ⟨l, xs, rfl, SqL.of f4, fun p2 hp2 => ?_⟩
  obtain ⟨v, hv, pv⟩ := w2.dat (i := 1) (d := .int m) rfl
  cases pv
  have hpl : H1 p = some (.dK []) := w2.fh _ _ upd_same
  have ne : p ≠ p2 := fun e => by rw [← e, hpl] at hp2; cases hp2
  refine ⟨_, hv, ?_, [(Sum.inr "cells", .ref p2), (Sum.inr "left", .int 1), (Sum.inr "mixed", .int m), (Sum.inr "turn", .int 0)], rfl, Nat.le_of_ble_eq_true rfl, ?_⟩
  · rw [upd_ne ne]
    exact hpl
  · have xe : xs = (ns.map absI).map V.int := ints_daAll f5
    subst xe
    refine k p p2 _ Fp ?_ ?_ ⟨?_, ?_⟩
    · exact (Ex.new Fp).trans w2.fh |>.none hp2
    · intro b u z
      have n1 : b ≠ p := fun e => by rw [e, Fp] at z; cases z
      have z1 : H1 b = some u := w2.fh b u (by rw [upd_ne n1]; exact z)
      have n2 : b ≠ p2 := fun e => by rw [e, hp2] at z1; cases z1
      rw [upd_ne n1, upd_ne n2]
      exact z1
    · rw [upd_same]
      rfl
    · rw [upd_ne (Ne.symm ne), upd_same, List.map_reverse]
theorem ok_source (hp : DL.Put K mg "_law_source" sSource) (m_int : mg "int" = none) (m_abs : mg "abs" = none) : Def P w K mg base "_law_source" 1 ["script"] (spSrc K srcOf) := by
  obtain ⟨f, fd, h1, F⟩ := hp.ex
  have b := F.bindsN (ps := ["script"]) (fun _ _ _ _ _ _ us hl => match us, hl with | [_], _ => rfl)
  refine ⟨f, fd, h1, F.kp, b, fnG_of F scSource (fun vs H Q E h => ?_) (fun cdv A outer sh H vs Q E hr0 hgd h => ?_)⟩
  · obtain ⟨a, ns, rfl, _⟩ := h
    rfl
  · obtain ⟨a, ns, rfl, hs, hn, q⟩ := h
    have w0 : Sta K H H H (L2.start ["script", "mixed", "cell"] [.ref a]) (dataS ["script", "mixed", "cell"] 1 [.scr ns]) (fun _ => []) :=
      sta0 (vs := [.ref a]) (Ex.refl H) (Ex.refl H) rfl (Nat.le_of_ble_eq_true rfl) _ (fun _ _ z => nomatch z) (fun _ _ z => nomatch z) (fun _ _ _ z => nomatch z) fun i r z => by
        cases i with
        | zero => cases z; exact ⟨a, rfl, hs⟩
        | succ i => cases z
    let c : CxA := ⟨f, cdv, A, outer, sh, H, E⟩
    have hr : Rm 0 (cSource P w K mg base c).A := ⟨hr0, hgd⟩
    obtain ⟨te, h2, h3⟩ := source_end (P := P) (w := w) (K := K) (mg := mg) (base := base) m_abs (a := c) ns hn (mixOf ns 11)
    have s1 : S1 (cSource P w K mg base c) (bodyAt sSource 0) [.scr ns, .un, .un] (.nx [.scr ns, .dat (.int 11), .un]) := s_set 1 e_int scSource.nd
    have s2 : S1 (cSource P w K mg base c) (bodyAt sSource 1) [.scr ns, .dat (.int 11), .un] (.nx [.scr ns, .dat (.int (mixOf ns 11)), .un]) := s_for (i_scr 0) (source_loop m_int hr ns ns 11)
    refine ⟨_, PSs.nox (pss_cons s1 (pss_cons s2 (pss_cons (ps_ret h2) pss_nil))), ?_⟩
    refine ⟨_, _, _, w0, fun σ1 H1 G1 ad1 e1 w1 => ⟨_, _, _, w1, fun σ2 H2 G2 ad2 e2 w2 => ?_⟩⟩
    refine h3 _ _ _ _ _ _ w2 fun s l H' g1 g2 g3 g4 => ?_
    exact q s l H' g1 g2 g3 g4
end
end K03
end part_K03s
section part_K03d
namespace K03
open L2 PyProof.Rows PySem.Spec PySem DL Num
section
variable {P : Program} {w : World} {K : PySem.W.Frag} {mg : Str → Option Value} {base : Heap}
theorem E.to {X : Cx} {e : Expr} {ρ ρ1 : List Sl} {d d1 : PyData} (h : E X e ρ d1 ρ1) (q : d1 = d) : E X e ρ d ρ1 := by subst q; exact h
/-! #### _law_least -/
theorem scLeast : FnScope ["a", "b", "one", "other"] ["a", "b"] (defScope sLeast) := ⟨rfl, rfl, rfl, by decide +kernel, rfl, by decide +kernel, by decide +kernel⟩
abbrev cLeast (P : Program) (w : World) (K : PySem.W.Frag) (mg : Str → Option Value) (base : Heap) (a : CxA) : Cx := cx P w K mg base ["a", "b", "one", "other"] "_law_least" sLeast a
theorem fmod_nat (m n : Nat) : Int.fmod (m : Int) (n : Int) = ((m % n : Nat) : Int) := by
  rw [Int.fmod_eq_emod_of_nonneg _ (by omega), Int.natCast_emod]
theorem least_loop (m_int : mg "int" = none) (p q : PyData) : ∀ (n m : Nat), ∃ k, ∀ (a : CxA), Rm 0 (cLeast P w K mg base a).A →
    Wh (cLeast P w K mg base a) (whC (bodyAt sLeast 1)) (lpB (bodyAt sLeast 1)) k [.dat p, .dat q, .dat (.int (m : Int)), .dat (.int (n : Int))] (.nx [.dat p, .dat q, .dat (.int ((Nat.gcd m n : Nat) : Int)), .dat (.int 0)]) := by
  intro n
  induction n using Nat.strongRecOn with
  | ind n ih =>
    intro m
    by_cases hn : n = 0
    · subst hn
      refine ⟨0, fun a hr => ?_⟩
      rw [Nat.gcd_zero_right]
      exact .done (T.to (t_cmp (e_var 3) e_int ov_neI) rfl)
    · obtain ⟨k, hk⟩ := ih (m % n) (Nat.mod_lt _ (by omega)) n
      refine ⟨k + 1, fun a hr => ?_⟩
      have hg : Nat.gcd m n = Nat.gcd n (m % n) := by rw [Nat.gcd_comm, Nat.gcd_rec, Nat.gcd_comm]
      rw [hg]
      refine .nx (T.to (t_cmp (e_var 3) e_int ov_neI) ?_) (s_cons (s_par 2 3 (ea_cons (e_var 3) (ea_cons (E.to (e_bin (e_callTy (ea_cons (e_var 2) ea_nil) cv_int m_int) (e_var 3) (ov_mod ?_)) ?_) ea_nil)) rfl scLeast.nd) s_nil') (hk a hr)
      · rw [decide_eq_false (by omega)]
        rfl
      · omega
      · rw [fmod_nat]
theorem ok_least (hp : DL.Put K mg "_law_least" sLeast) (m_abs : mg "abs" = none) (m_int : mg "int" = none) : Def P w K mg base "_law_least" 1 ["a", "b"] (spP K rFrac) := by
  refine def_P hp scLeast (fun _ _ _ _ _ _ us hl => match us, hl with | [_, _], _ => rfl) (by decide) (fun ds d h => ?_) (fun a hr ds d h => ?_)
  · obtain ⟨p, q, rfl, _⟩ := h
    rfl
  · obtain ⟨p, q, rfl, hq, hz, rfl⟩ := h
    have hs : Sz 8999 (sg p q) := (sg_size hq hz).mono (by decide)
    have hn := sg_ne (p := p) hq
    obtain ⟨k, hk⟩ := least_loop (P := P) (w := w) (K := K) (base := base) m_int (.int p) (.int q) q.natAbs p.natAbs
    have ab : ∀ i : Int, PyData.int (if i < 0 then -i else i) = .int (i.natAbs : Int) := fun i => by
      congr 1
      split <;> omega
    have eg : (if decide (0 < q) then ((Nat.gcd p.natAbs q.natAbs : Nat) : Int) else 0 - ((Nat.gcd p.natAbs q.natAbs : Nat) : Int)) = sg p q := by
      unfold sg gc
      by_cases h : q < 0
      · rw [if_pos h, decide_eq_false (by omega), if_neg Bool.false_ne_true]
        omega
      · rw [if_neg h, decide_eq_true (by omega), if_pos rfl]
    refine .rt (s_cons (s_par 2 3 (ea_cons (E.to (e_callB (ea_cons (e_var 0) ea_nil) cv_abs m_abs) (ab p)) (ea_cons (E.to (e_callB (ea_cons (e_var 1) ea_nil) cv_abs m_abs) (ab q)) ea_nil)) rfl scLeast.nd)
      (s_cons (s_while (hk a hr))
      (s_cons (s_set 2 (d := .int (sg p q)) (e_if (t_cmp (e_var 1) e_int ov_gt) (fun h => E.to (e_var 2) ?_) (fun h => E.to (e_bin e_int (e_var 2) ov_sub) ?_)) scLeast.nd)
      (s_stop (s_retP (e_tup (ea_cons (e_bin (e_var 0) (e_var 2) (ov_fdiv hn (hs.log (by decide)))) (ea_cons (e_bin (e_var 1) (e_var 2) (ov_fdiv hn (hs.log (by decide)))) ea_nil))) rfl)))))
    · rw [h, if_pos rfl] at eg
      rw [← eg]
    · rw [h, if_neg Bool.false_ne_true] at eg
      rw [← eg]
/-! #### _law_plus -/
theorem scLPlus : FnScope ["x", "y"] ["x", "y"] (defScope sLPlus) := ⟨rfl, rfl, rfl, by decide +kernel, rfl, by decide +kernel, by decide +kernel⟩
theorem ok_lplus (hp : DL.Put K mg "_law_plus" sLPlus) (dF : Def P w K mg base "_law_least" 1 ["a", "b"] (spP K rFrac)) : Def P w K mg base "_law_plus" 2 ["x", "y"] (spP K rPlus) := by
  refine def_P hp scLPlus (fun _ _ _ _ _ _ us hl => match us, hl with | [_, _], _ => rfl) (by decide) (fun ds d h => ?_) (fun a hr ds d h => ?_)
  · obtain ⟨_, _, _, _, rfl, _⟩ := h
    rfl
  · obtain ⟨a, b, c, e, rfl, h, rfl⟩ := h
    have k_law_least := dF.known hr
    exact .rt (s_stop (s_retP (e_call k_law_least (ea_cons (e_bin (e_bin (e_ixt (e_var 0)) (e_ixt (e_var 1)) (ov_mul (h.sa.cmul h.se (by decide)))) (e_bin (e_ixt (e_var 1)) (e_ixt (e_var 0)) (ov_mul (h.sc.cmul h.sb (by decide)))) ov_add) (ea_cons (e_bin (e_ixt (e_var 0)) (e_ixt (e_var 1)) (ov_mul (h.sb.cmul h.se (by decide)))) ea_nil)) ⟨_, _, rfl, h.mul.1, h.mul.2, rfl⟩)))
end
/-! #### the promise of a draw -/
/-- what a def that draws is known by -/
def Draws (P : Program) (w : World) (K : PySem.W.Frag) (mg : Str → Option Value) (base : Heap) (x : Str) (k : Nat) (ps : List Str) (pre : Src → List PyData → Prop) (post : Src → List PyData → Src → PyData → Prop) : Prop :=
  ∃ R, Def P w K mg base x k ps (spS K R) ∧ ∀ t ds, pre t ds → ∃ t' d, R t ds t' d ∧ post t ds t' d
section
variable {P : Program} {w : World} {K : PySem.W.Frag} {mg : Str → Option Value} {base : Heap}
abbrev DPick (P : Program) (w : World) (K : PySem.W.Frag) (mg : Str → Option Value) (base : Heap) : Prop := Draws P w K mg base "_law_pick" 1 ["source", "many"] prePick postPick
/-! #### _law_of -/
theorem scOf : FnScope ["source", "some"] ["source", "some"] (defScope sOf) := ⟨rfl, rfl, rfl, by decide +kernel, rfl, by decide +kernel, by decide +kernel⟩
def preOf (t : Src) (ds : List PyData) : Prop := Ok t ∧ ∃ es : List PyData, ds = [.list es] ∧ es ≠ [] ∧ es.length < 1000
def postOf (t : Src) (ds : List PyData) (t' : Src) (d : PyData) : Prop := Ok t' ∧ ∃ es : List PyData, ds = [.list es] ∧ d ∈ es
theorem szNat {n : Nat} {k : Nat} (h : n < 2 ^ k) : Sz k (n : Int) := by
  unfold Sz
  rw [Int.natAbs_natCast]
  exact h
theorem pick_nat {R : Src → List PyData → Src → PyData → Prop} (hR : ∀ t ds, prePick t ds → ∃ t' d, R t ds t' d ∧ postPick t ds t' d) {t : Src} (ht : Ok t) (n : Nat) (hn : n < 1000) : ∃ t' j, R t [.int (n : Int)] t' (.int ((j : Nat) : Int)) ∧ Ok t' ∧ (j < n ∨ j = 0) := by
  obtain ⟨t', d, h1, h2, m, j, e1, rfl, h3, h4⟩ := hR t [.int (n : Int)] ⟨ht, _, rfl, szNat (Nat.lt_of_lt_of_le hn (by decide +kernel))⟩
  cases e1
  refine ⟨t', j.toNat, ?_, h2, by omega⟩
  rw [Int.toNat_of_nonneg h3]
  exact h1
theorem ok_of (hp : DL.Put K mg "_law_of" sOf) (dP : DPick P w K mg base) (m_len : mg "len" = none) : Draws P w K mg base "_law_of" 2 ["source", "some"] preOf postOf := by
  obtain ⟨R, dR, hR⟩ := dP
  refine def_Sx hp scOf (fun _ _ _ _ _ _ us hl => match us, hl with | [_, _], _ => rfl) (by decide) (fun t ds h => ?_) (fun t ds h => ?_)
  · obtain ⟨_, es, rfl, _⟩ := h
    rfl
  · obtain ⟨ht, es, rfl, hne, hl⟩ := h
    obtain ⟨t', j, h1, h2, h3⟩ := pick_nat hR ht es.length hl
    have hj : j < es.length := by
      have : es.length ≠ 0 := fun z => hne (List.length_eq_zero_iff.mp z)
      omega
    refine ⟨t', es[j], ⟨h2, es, rfl, List.getElem_mem _⟩, fun a hr s l => ?_⟩
    have k_law_pick := dR.known hr
    exact s_stop (s_retS (e_ix (e_var 1) (e_callS 0 k_law_pick (ea_cons (e_callB (ea_cons (e_var 1) ea_nil) cv_lenL m_len) ea_nil) h1) (ixv_lst (atI_nat (List.getElem?_eq_getElem hj)))))
/-! #### _law_mixed -/
theorem perm_out {α : Type} : ∀ {l : List α} {j : Nat} (h : j < l.length), (l[j] :: l.eraseIdx j).Perm l
  | x :: l, 0, _ => .refl _
  | x :: l, j + 1, h => by
    have := perm_out (l := l) (j := j) (by simpa using h)
    exact (List.Perm.swap _ _ _).trans (List.Perm.cons _ this)

theorem scMixed : FnScope ["source", "things", "rest", "lap"] ["source", "things"] (defScope sMixed) := ⟨rfl, rfl, rfl, by decide +kernel, rfl, by decide +kernel, by decide +kernel⟩
abbrev cMixed (P : Program) (w : World) (K : PySem.W.Frag) (mg : Str → Option Value) (base : Heap) (a : CxA) : Cx := cx P w K mg base ["source", "things", "rest", "lap"] "_law_mixed" sMixed a
theorem blkMixed : blkC ["source", "things", "rest", "lap"] (defScope sMixed) (cmS (exprOf (bodyAt sMixed 1))) [("lap", 3)] = true := by decide +kernel
abbrev mixE : Expr := exprOf (bodyAt sMixed 1)
theorem mixed_cl {R : Src → List PyData → Src → PyData → Prop} (dR : Def P w K mg base "_law_pick" 1 ["source", "many"] (spS K R)) (hR : ∀ t ds, prePick t ds → ∃ t' d, R t ds t' d ∧ postPick t ds t' d) (m_len : mg "len" = none) (things : PyData) :
    ∀ (ys es : List PyData) (t : Src), ys.length = es.length → es.length < 1000 → Ok t → ∃ t' rs, rs.Perm es ∧ Ok t' ∧ ∀ (a : CxA), Rm 1 (cMixed P w K mg base a).A → ∀ s l, CL (cMixed P w K mg base a) (cmS mixE) (cmT mixE) (cmI mixE) (cmE mixE) [3] ys [.src s l t, .dat things, .own es, .un] rs [.src s l t', .dat things, .own [], .un]
  | [], [], t, _, _, ht => ⟨t, [], .refl _, ht, fun a hr s l => .nil⟩
  | [], _ :: _, _, h, _, _ => nomatch h
  | _ :: _, [], _, h, _, _ => nomatch h
  | y :: ys, e :: es, t, h, hz, ht => by
    obtain ⟨t1, j, h1, ht1, h3⟩ := pick_nat hR ht (e :: es).length hz
    have hj : j < (e :: es).length := by
      rw [List.length_cons] at h3 ⊢
      omega
    have hlen : ((e :: es).eraseIdx j).length = es.length := by
      rw [List.length_eraseIdx_of_lt hj, List.length_cons]
      omega
    obtain ⟨t', rs, hp, ht', hc⟩ := mixed_cl dR hR m_len things ys ((e :: es).eraseIdx j) t1 (by rw [hlen]; simpa using h) (by rw [hlen]; rw [List.length_cons] at hz; omega) ht1
    refine ⟨t', (e :: es)[j] :: rs, ?_, ht', fun a hr s l => ?_⟩
    · exact (List.Perm.cons _ hp).trans (perm_out hj)
    · have k_law_pick := dR.known hr
      refine .yes (js := [3]) (fun _ z => z) (fun _ _ _ _ _ => g_name 3 scMixed.nd) (fun _ _ _ _ _ => ts_nil) (fun _ _ _ _ _ => e_popAt 2 (e_callS 0 k_law_pick (ea_cons (e_lenO 2 m_len) ea_nil) h1) (by omega) rfl rfl rfl (List.getElem?_eq_getElem hj) (by rw [List.length_cons] at hz ⊢; omega)) (.pre (ρ1 := [.src s l t1, .dat things, .own ((e :: es).eraseIdx j), .un]) (Le.refl _) (hc a hr s l))
def preMixed (t : Src) (ds : List PyData) : Prop := Ok t ∧ ∃ es : List PyData, ds = [.list es] ∧ es.length < 1000
def postMixed (t : Src) (ds : List PyData) (t' : Src) (d : PyData) : Prop := Ok t' ∧ ∃ es rs : List PyData, ds = [.list es] ∧ d = .list rs ∧ rs.Perm es
theorem ok_mixed (hp : DL.Put K mg "_law_mixed" sMixed) (dP : DPick P w K mg base) (m_len : mg "len" = none) (m_list : mg "list" = none) (m_range : mg "range" = none) : Draws P w K mg base "_law_mixed" 2 ["source", "things"] preMixed postMixed := by
  obtain ⟨R, dR, hR⟩ := dP
  refine def_Sx hp scMixed (fun _ _ _ _ _ _ us hl => match us, hl with | [_, _], _ => rfl) (by decide) (fun t ds h => ?_) (fun t ds h => ?_)
  · obtain ⟨_, es, rfl, _⟩ := h
    rfl
  · obtain ⟨ht, es, rfl, hl⟩ := h
    obtain ⟨t', rs, hp, ht', hc⟩ := mixed_cl dR hR m_len (.list es) (rangeD 0 es.length) es t (by unfold rangeD; simp) hl ht
    refine ⟨t', .list rs, ⟨ht', es, rs, rfl, rfl, hp⟩, fun a hr s l => ?_⟩
    refine (s_cons (s_setO 2 (eo_callTy (ea_cons (e_var 1) ea_nil) co_listL m_list) scMixed.nd)
      (s_stop (s_retS (e_O (eo_lc (own := [("lap", 3)]) (i_range1 (ea_cons (e_lenO 2 m_len) ea_nil) m_range (by have : es.length < 1000 := hl; omega)) (hc a hr s l) (by unfold rangeD; simp; omega) scMixed.nd (blkOk_by blkMixed))))))
end
end K03
end part_K03d
section part_K03e
namespace K03
open L2 PyProof.Rows PySem.Spec PySem DL Num
section
variable {P : Program} {w : World} {K : PySem.W.Frag} {mg : Str → Option Value} {base : Heap}
theorem pick_int {R : Src → List PyData → Src → PyData → Prop} (hR : ∀ t ds, prePick t ds → ∃ t' d, R t ds t' d ∧ postPick t ds t' d) {t : Src} (ht : Ok t) (m : Int) (h1 : 1 ≤ m) (h2 : m < 1000000) : ∃ t' n, R t [.int m] t' (.int n) ∧ Ok t' ∧ 0 ≤ n ∧ n < m := by
  obtain ⟨t', d, g1, g2, m', j, e1, rfl, g3, g4⟩ := hR t [.int m] ⟨ht, _, rfl, Nat.lt_of_lt_of_le (show m.natAbs < 1000000 by omega) (by decide +kernel)⟩
  cases e1
  exact ⟨t', j, g1, g2, g3, by omega⟩
/-! #### _law_great -/
theorem scGreat : FnScope ["source", "figures", "found", "lap"] ["source", "figures"] (defScope sGreat) := ⟨rfl, rfl, rfl, by decide +kernel, rfl, by decide +kernel, by decide +kernel⟩
abbrev cGreat (P : Program) (w : World) (K : PySem.W.Frag) (mg : Str → Option Value) (base : Heap) (a : CxA) : Cx := cx P w K mg base ["source", "figures", "found", "lap"] "_law_great" sGreat a
theorem great_loop {R : Src → List PyData → Src → PyData → Prop} (dR : Def P w K mg base "_law_pick" 1 ["source", "many"] (spS K R)) (hR : ∀ t ds, prePick t ds → ∃ t' d, R t ds t' d ∧ postPick t ds t' d) (fg : PyData) :
    ∀ (ys : List PyData) (t : Src) (f m : Nat), f < 10 ^ m → Ok t → ∃ (t' : Src) (f' : Nat), f' < 10 ^ (m + ys.length) ∧ Ok t' ∧ ∀ (a : CxA), Rm 1 (cGreat P w K mg base a).A → ∀ s l,
      Loop (cGreat P w K mg base a) (forT (bodyAt sGreat 1)) (lpB (bodyAt sGreat 1)) ys [.src s l t, .dat fg, .dat (.int (f : Int)), .un] (.nx [.src s l t', .dat fg, .dat (.int (f' : Int)), .un])
  | [], t, f, m, hf, ht => ⟨t, f, hf, ht, fun a hr s l => .nil⟩
  | y :: ys, t, f, m, hf, ht => by
    obtain ⟨t1, n, h1, ht1, h2, h3⟩ := pick_int hR ht 10 (by decide) (by decide)
    obtain ⟨t', f', hf', ht', hl⟩ := great_loop dR hR fg ys t1 (f * 10 + n.toNat) (m + 1) (by rw [Nat.pow_succ]; omega) ht1
    refine ⟨t', f', by rw [List.length_cons, show m + (ys.length + 1) = m + 1 + ys.length by omega]; exact hf', ht', fun a hr s l => ?_⟩
    have k_law_pick := dR.known hr
    have e : PyData.int ((f : Int) * 10 + n) = .int ((f * 10 + n.toNat : Nat) : Int) := by
      congr 1
      omega
    exact .nx (g_name 3 scGreat.nd) (s_cons (s_set 2 (E.to (e_bin (e_bin (e_var 2) e_int (ov_mulS (.inr ⟨by decide, by decide⟩))) (e_callS 0 k_law_pick (ea_cons e_int ea_nil) h1) ov_add) e) scGreat.nd) (s_nil (le_cons (le_cons (le_cons (le_un le_nil)))))) (hl a hr s l)
def preGreat (t : Src) (ds : List PyData) : Prop := Ok t ∧ ∃ fg : Nat, ds = [.int (fg : Int)] ∧ 1 ≤ fg ∧ fg ≤ 1000
def postGreat (t : Src) (ds : List PyData) (t' : Src) (d : PyData) : Prop := Ok t' ∧ ∃ fg n : Nat, ds = [.int (fg : Int)] ∧ d = .int (n : Int) ∧ n < 10 ^ fg
theorem ok_great (hp : DL.Put K mg "_law_great" sGreat) (dP : DPick P w K mg base) (m_range : mg "range" = none) : Draws P w K mg base "_law_great" 2 ["source", "figures"] preGreat postGreat := by
  obtain ⟨R, dR, hR⟩ := dP
  refine def_Sx hp scGreat (fun _ _ _ _ _ _ us hl => match us, hl with | [_, _], _ => rfl) (by decide) (fun t ds h => ?_) (fun t ds h => ?_)
  · obtain ⟨_, es, rfl, _⟩ := h
    rfl
  · obtain ⟨ht, fg, rfl, h1, h2⟩ := h
    obtain ⟨t1, n, g1, ht1, g2, g3⟩ := pick_int hR ht (fg : Int) (by omega) (by omega)
    obtain ⟨t', f', hf, ht', hl⟩ := great_loop dR hR (.int (fg : Int)) (rangeD 0 (1 + n).toNat) t1 0 0 (by decide) ht1
    refine ⟨t', .int (f' : Int), ⟨ht', fg, f', rfl, rfl, Nat.lt_of_lt_of_le hf (Nat.pow_le_pow_right (by decide) (by unfold rangeD; simp; omega))⟩, fun a hr s l => ?_⟩
    have k_law_pick := dR.known hr
    exact s_cons (s_set 2 e_int scGreat.nd)
      (s_cons (s_for (i_range1 (ea_cons (e_bin e_int (e_callS 0 k_law_pick (ea_cons (e_var 1) ea_nil) g1) ov_add) ea_nil) m_range (by omega)) (hl a hr s l))
      (s_stop (s_retS (e_var 2))))
theorem great_int {R : Src → List PyData → Src → PyData → Prop} (hR : ∀ t ds, preGreat t ds → ∃ t' d, R t ds t' d ∧ postGreat t ds t' d) {t : Src} (ht : Ok t) (m : Nat) (h1 : 1 ≤ m) (h2 : m ≤ 1000) : ∃ (t' : Src) (n : Nat), R t [.int (m : Int)] t' (.int (n : Int)) ∧ Ok t' ∧ n < 10 ^ m := by
  obtain ⟨t', d, g1, g2, m', j, e1, rfl, g3⟩ := hR t [.int (m : Int)] ⟨ht, _, rfl, h1, h2⟩
  cases e1
  exact ⟨t', j, g1, g2, g3⟩
/-! #### sizes -/
abbrev DGreat (P : Program) (w : World) (K : PySem.W.Frag) (mg : Str → Option Value) (base : Heap) : Prop := Draws P w K mg base "_law_great" 2 ["source", "figures"] preGreat postGreat
theorem sz_great {n m : Nat} (h : n < 10 ^ m) (hm : m ≤ 41) : Sz 137 (n : Int) := by
  refine szNat (Nat.lt_of_lt_of_le h (Nat.le_trans (Nat.pow_le_pow_right (by decide) hm) (by decide +kernel)))
theorem sz_sign {s : Int} (h : s = 1 ∨ s = -1) : Sz 1 s := by
  rcases h with rfl | rfl
  · show (1 : Int).natAbs < 2 ^ 1; decide
  · show (-1 : Int).natAbs < 2 ^ 1; decide
theorem sz_lt {n : Nat} {i : Int} (h : i.natAbs < 2 ^ n) : Sz n i := h
end
end K03
end part_K03e
section part_K03b
namespace K03
open L2 PyProof.Rows PySem.Spec PySem DL Num
abbrev sPlain : Stmt := top 7
abbrev sRowOf : Stmt := top 8
--
--
abbrev sWhole : Stmt := top 9
abbrev sDot : Stmt := top 10
abbrev sReach : Stmt := top 11
--
abbrev sSigns : Stmt := top 12
--
abbrev sBroken : Stmt := top 13
abbrev sIsIn : Stmt := top 14
/-- the comprehension in tuple([..]) at the i-th place of what a statement hands back -/
abbrev noE : Expr := .Constant .none 0 ⟨0, 0, 0, 0⟩
def parts : Expr → List Expr
  | .Tuple es _ _ => es
  | .List es _ => es
  | .Call _ es _ _ => es
  | .BoolOp _ es _ => es
  | .BinOp a _ b _ => [a, b]
  | .Subscript a b _ => [a, b]
  | .UnaryOp _ e _ => [e]
  | .Compare a _ es _ => a :: es
  | _ => []
def pt (i : Nat) (e : Expr) : Expr := (parts e).getD i noE
section
variable {P : Program} {w : World} {K : PySem.W.Frag} {mg : Str → Option Value} {base : Heap}
/-! #### plain_row -/
def rPlain (ds : List PyData) (d : PyData) : Prop := ∃ r : List Int × Int, ds = [rowD r] ∧ Ro 8990 r ∧ d = rowD (plainF r.1 r.2)
theorem scPlain : FnScope ["row", "shared", "member", "members", "bound"] ["row"] (defScope sPlain) := ⟨rfl, rfl, rfl, by decide +kernel, rfl, by decide +kernel, by decide +kernel⟩
abbrev cPlain (P : Program) (w : World) (K : PySem.W.Frag) (mg : Str → Option Value) (base : Heap) (a : CxA) : Cx := cx P w K mg base ["row", "shared", "member", "members", "bound"] "plain_row" sPlain a
theorem plain_loop (g_gcd : mg "gcd" = some (.builtin "math.gcd")) {a : CxA} (r m b : PyData) : ∀ (xs : List Int) (g : Nat),
    Loop (cPlain P w K mg base a) (forT (bodyAt sPlain 2)) (lpB (bodyAt sPlain 2)) (xs.map PyData.int) [.dat r, .dat (.int (g : Int)), .un, .dat m, .dat b] (.nx [.dat r, .dat (.int ((gN g xs : Nat) : Int)), .un, .dat m, .dat b])
  | [], g => .nil
  | x :: xs, g => .nx (g_name 2 scPlain.nd) (s_cons (s_set 1 (e_callF (ea_cons (e_var 1) (ea_cons (e_var 2) ea_nil)) cv_gcd g_gcd) scPlain.nd) (s_nil (le_cons (le_cons (le_un (le_cons (le_cons le_nil))))))) (plain_loop g_gcd r m b xs (Nat.gcd g x.natAbs))
abbrev plE : Expr := pt 0 (pt 0 (exprOf (bodyAt sPlain 5)))
theorem blkPlain : blkC ["row", "shared", "member", "members", "bound"] (defScope sPlain) (cmS plE) [("member", 2)] = true := by decide +kernel
theorem szNatI {g n : Nat} (h : g < 2 ^ n) : Sz n (g : Int) := by
  unfold Sz
  rw [Int.natAbs_natCast]
  exact h
theorem ok_plain (hp : DL.Put K mg "plain_row" sPlain) (g_gcd : mg "gcd" = some (.builtin "math.gcd")) (m_tuple : mg "tuple" = none) : Def P w K mg base "plain_row" 1 ["row"] (spP K rPlain) := by
  refine def_P hp scPlain (fun _ _ _ _ _ _ us hl => match us, hl with | [_], _ => rfl) (by decide) (fun ds d h => ?_) (fun a hr ds d h => ?_)
  · obtain ⟨_, rfl, _⟩ := h
    rfl
  · obtain ⟨⟨m, b⟩, rfl, hs, rfl⟩ := h
    have hl := plain_loop (P := P) (w := w) (K := K) (base := base) g_gcd (a := a) (rowD (m, b)) (.tuple (m.map PyData.int)) (.int b) m 0
    refine .rt (s_cons (s_asg (e_var 0) (g_tup rfl (gs_cons (g_name 3 scPlain.nd) (gs_cons (g_name 4 scPlain.nd) gs_nil)))) (s_cons (s_set 1 e_int scPlain.nd) (s_cons (s_for (i_tup (e_var 3)) hl) ?_)))
    by_cases h0 : gN 0 m = 0
    · have e : plainF m b = (m, if 0 ≤ b then 0 else -1) := by unfold plainF; rw [if_pos h0]
      refine s_if (p := true) (T.to (t_cmp (e_var 1) e_int ov_eqI) ?_) (fun _ => .stop (s_stop (s_retP (e_tup (ea_cons (e_var 3) (ea_cons (e_if (d := .int (plainF m b).2) (t_cmp (e_var 4) e_int ov_ge) (fun h => E.to e_int ?_) (fun h => E.to (e_neg e_int) ?_)) ea_nil))) ?_)) trivial) (fun h => Bool.noConfusion h)
      · rw [h0]; rfl
      · rw [e]
        show PyData.int 0 = .int (if 0 ≤ b then 0 else -1)
        rw [if_pos (of_decide_eq_true h)]
      · rw [e]
        show PyData.int (-1) = .int (if 0 ≤ b then 0 else -1)
        rw [if_neg (of_decide_eq_false h)]
      · rw [e]
    · have e : plainF m b = (m.map fun x => x.fdiv (dv m b : Int), b.fdiv (dv m b : Int)) := by unfold plainF; rw [if_neg h0]
      have hz := dv_sz (b := b) h0 hs.a
      have hpos := dv_pos (b := b) h0
      have lg : ((dv m b : Nat) : Int).natAbs.log2 < 9000 := (szNatI hz).log (by decide)
      refine s_if (p := false) (T.to (t_cmp (e_var 1) e_int ov_eqI) ?_) (fun h => Bool.noConfusion h) (fun _ => .go s_nil' (s_cons (s_set 1 (d := .int (dv m b : Int)) (e_callF (ea_cons (e_var 1) (ea_cons (e_var 4) ea_nil)) cv_gcd g_gcd) scPlain.nd)
        (s_stop (s_retP (e_tup (ea_cons (e_callTy (ea_cons (e_O (eo_lc (own := [("member", 2)]) (i_tup (e_var 3)) (cl_map (f := PyData.int) (r := fun x : Int => .int (x.fdiv (dv m b : Int))) (js := [2]) (fun _ z => z) m (fun _ _ _ _ _ _ _ => g_name 2 scPlain.nd) (fun _ _ _ _ _ _ _ => e_bin (e_var 2) (e_var 1) (ov_fdiv (by omega) lg)) (fun _ _ => Le.refl _)) ?_ scPlain.nd (blkOk_by blkPlain))) ea_nil) cv_tupL m_tuple) (ea_cons (e_bin (e_var 4) (e_var 1) (ov_fdiv (by omega) lg)) ea_nil))) ?_))))
      · exact decide_eq_false (by omega)
      · have : m.length ≤ 15 := hs.len
        rw [List.length_map]
        omega
      · rw [e]
        show _ = PyData.tuple [.tuple (List.map PyData.int (List.map _ m)), _]
        rw [List.map_map]
        rfl
/-! #### row_of -/
/-- fractions that may stand in a row or a point -/
structure Pt (xs : List Fr) : Prop where
  fo : ∀ x ∈ xs, Fo 130 x
  len : xs.length ≤ 7
theorem Pt.pos {xs : List Fr} (h : Pt xs) : ∀ x ∈ xs, 0 < x.2 := fun x hx => (h.fo x hx).pos
theorem lcF_sz7 {xs : List Fr} (h : Pt xs) {m k : Nat} (hm : m < 2 ^ k) : lcF m xs < 2 ^ (k + 910) := by
  have := lcF_sz (n := 130) xs m k hm fun x hx => (h.fo x hx).s2
  have h2 : 130 * xs.length ≤ 910 := by have := h.len; omega
  exact Nat.lt_of_lt_of_le this (Nat.pow_le_pow_right (by decide) (by omega))
theorem dvd_lc {xs : List Fr} (h : ∀ x ∈ xs, 0 < x.2) (m : Nat) : ∀ x ∈ xs, x.2 ∣ ((lcF m xs : Nat) : Int) := fun x hx => by
  have e : (x.2.natAbs : Int) = x.2 := by have := h x hx; omega
  rw [← e]
  exact Int.ofNat_dvd.mpr ((lcF_dvd xs m).2 x hx)
def rRowOf (ds : List PyData) (d : PyData) : Prop := ∃ (ms : List Fr) (bd : Fr), ds = [ptD ms, frD bd] ∧ Pt ms ∧ Fo 1400 bd ∧ d = rowD (rowOfF ms bd)
theorem rowOf_ro {ms : List Fr} {bd : Fr} (h : Pt ms) (g : Fo 1400 bd) : Ro 3720 (upF (lcF bd.2.natAbs ms) ms, bd.1 * ((lcF bd.2.natAbs ms : Nat) : Int).fdiv bd.2) := by
  have hm := lcF_sz7 h g.s2
  refine ⟨fun y hy => (upF_sz (fun x hx => (h.fo x hx).s1) hm (dvd_lc h.pos _) y hy).mono (by decide), ?_, ?_⟩
  · refine Sz.mono (n := 1400 + 2310) (g.s1.mul ?_) (by decide)
    have e : (bd.2.natAbs : Int) = bd.2 := by have := g.pos; omega
    have hd : bd.2 ∣ ((lcF bd.2.natAbs ms : Nat) : Int) := by
      have := Int.ofNat_dvd.mpr (lcF_dvd ms bd.2.natAbs).1
      rw [e] at this
      exact this
    have := natAbs_fdiv_le _ _ hd
    show (((lcF bd.2.natAbs ms : Nat) : Int).fdiv bd.2).natAbs < 2 ^ 2310
    omega
  · have := h.len
    show (ms.map _).length ≤ 15
    rw [List.length_map]
    omega
theorem scRowOf : FnScope ["members", "bound", "many", "member", "whole"] ["members", "bound"] (defScope sRowOf) := ⟨rfl, rfl, rfl, by decide +kernel, rfl, by decide +kernel, by decide +kernel⟩
abbrev cRowOf (P : Program) (w : World) (K : PySem.W.Frag) (mg : Str → Option Value) (base : Heap) (a : CxA) : Cx := cx P w K mg base ["members", "bound", "many", "member", "whole"] "row_of" sRowOf a
theorem log13 {n : Nat} {i : Int} (h : Sz n i) (z : n < 13000) : i.natAbs.log2 < 13000 := Nat.lt_of_lt_of_le (PySem.Flt.log2_lt_of (Nat.succ_pos n) (h.mono (Nat.le_succ n))) z
theorem cv_lcmS {X : Cx} {n m : Nat} {i j : Int} (h : Sz n i) (g : Sz m j) (hn : n < 5000) (hm : m < 5000) : CV X (.builtin "math.lcm") [.int i, .int j] (.int ((Nat.lcm i.natAbs j.natAbs : Nat) : Int)) := by
  refine cv_lcm (log13 h (by omega)) (log13 g (by omega)) ?_
  have h1 : Nat.lcm i.natAbs j.natAbs < 2 ^ (n + m + 1) := by
    refine Nat.lt_of_le_of_lt (lcm_le _ _) ?_
    have h2 : i.natAbs < 2 ^ n := h
    have h3 : j.natAbs < 2 ^ m := g
    rw [Nat.pow_succ, Nat.pow_add]
    have h4 : i.natAbs * j.natAbs ≤ 2 ^ n * 2 ^ m := Nat.mul_le_mul (Nat.le_of_lt h2) (Nat.le_of_lt h3)
    have h5 : 0 < 2 ^ n * 2 ^ m := Nat.mul_pos (Nat.pow_pos (by decide)) (Nat.pow_pos (by decide))
    omega
  exact Nat.lt_of_lt_of_le (PySem.Flt.log2_lt_of (Nat.succ_pos _) h1) (by omega)
/-- the loop that takes the common multiple of denominators, told once -/
theorem lcm_step {X : Cx} {ms bd : Nat} {x : Fr} {k : Nat} (hk : ms < 2 ^ k) (hx : Fo 130 x) (h : k < 4000) : CV X (.builtin "math.lcm") [.int (ms : Int), .int x.2] (.int ((Nat.lcm ms x.2.natAbs : Nat) : Int)) := cv_lcmS (szNatI hk) hx.s2 (by omega) (by decide)
theorem lcm_grow {m k : Nat} {x : Fr} (h : m < 2 ^ k) (hx : Fo 130 x) : Nat.lcm m x.2.natAbs < 2 ^ (k + 130) := lcF_sz (n := 130) [x] m k h fun y hy => by
  rw [List.mem_singleton.mp hy]
  exact hx.s2
theorem rowOf_loop (g_lcm : mg "lcm" = some (.builtin "math.lcm")) {a : CxA} (r b : PyData) : ∀ (xs : List Fr) (m k : Nat), m < 2 ^ k → k + 130 * xs.length < 3900 → (∀ x ∈ xs, Fo 130 x) →
    Loop (cRowOf P w K mg base a) (forT (bodyAt sRowOf 1)) (lpB (bodyAt sRowOf 1)) (xs.map frD) [.dat r, .dat b, .dat (.int (m : Int)), .un, .un] (.nx [.dat r, .dat b, .dat (.int ((lcF m xs : Nat) : Int)), .un, .un])
  | [], m, k, _, _, _ => .nil
  | x :: xs, m, k, hm, hk, hx => by
    have fx := hx x List.mem_cons_self
    rw [List.length_cons] at hk
    exact .nx (g_name 3 scRowOf.nd) (s_cons (s_set 2 (e_callF (ea_cons (e_var 2) (ea_cons (e_ixt (e_var 3)) ea_nil)) (lcm_step (bd := 0) hm fx (by omega)) g_lcm) scRowOf.nd) (s_nil (le_cons (le_cons (le_cons (le_un (le_cons le_nil)))))))
      (rowOf_loop g_lcm r b xs (Nat.lcm m x.2.natAbs) (k + 130) (lcm_grow hm fx) (by omega) fun y hy => hx y (List.mem_cons_of_mem _ hy))
abbrev roE : Expr := pt 0 (exprOf (bodyAt sRowOf 2))
theorem blkRowOf : blkC ["members", "bound", "many", "member", "whole"] (defScope sRowOf) (cmS roE) [("member", 3)] = true := by decide +kernel
theorem ok_rowOf (hp : DL.Put K mg "row_of" sRowOf) (g_lcm : mg "lcm" = some (.builtin "math.lcm")) (m_tuple : mg "tuple" = none) (dP : Def P w K mg base "plain_row" 1 ["row"] (spP K rPlain)) : Def P w K mg base "row_of" 2 ["members", "bound"] (spP K rRowOf) := by
  refine def_P hp scRowOf (fun _ _ _ _ _ _ us hl => match us, hl with | [_, _], _ => rfl) (by decide) (fun ds d h => ?_) (fun a hr ds d h => ?_)
  · obtain ⟨_, _, rfl, _⟩ := h
    rfl
  · obtain ⟨ms, ⟨p, q⟩, rfl, hs, hb, rfl⟩ := h
    have k_plain_row := dP.known hr
    have hq : 0 < q := hb.pos
    have hq0 : q ≠ 0 := by omega
    have eq : ((q.natAbs : Nat) : Int) = q := by omega
    have hm : q.natAbs < 2 ^ 1400 := hb.s2
    have hM := lcF_sz7 hs hm
    have hl := rowOf_loop (P := P) (w := w) (K := K) (base := base) g_lcm (a := a) (ptD ms) (frD (p, q)) ms q.natAbs 1400 hm (by have := hs.len; omega) hs.fo
    have sM : Sz 2310 ((lcF q.natAbs ms : Nat) : Int) := szNatI hM
    have hro := rowOf_ro hs hb
    have sf : ∀ {x : Int}, x ∣ ((lcF q.natAbs ms : Nat) : Int) → Sz 2310 (((lcF q.natAbs ms : Nat) : Int).fdiv x) := fun {x} hd => sM.of_le (natAbs_fdiv_le _ _ hd)
    have hqd : q ∣ ((lcF q.natAbs ms : Nat) : Int) := by
      have := Int.ofNat_dvd.mpr (lcF_dvd ms q.natAbs).1
      rw [eq] at this
      exact this
    refine .rt (s_cons (s_set 2 (d := .int ((q.natAbs : Nat) : Int)) (E.to (e_ixt (e_var 1)) (by show PyData.int q = _; rw [eq])) scRowOf.nd) (s_cons (s_for (i_tup (e_var 0)) hl)
      (s_cons (s_set 4 (d := .tuple ((upF (lcF q.natAbs ms) ms).map PyData.int)) (E.to (e_callTy (ea_cons (e_O (eo_lc (own := [("member", 3)]) (i_tup (e_var 0)) (cl_map (f := frD) (r := fun x : Fr => .int (x.1 * ((lcF q.natAbs ms : Nat) : Int).fdiv x.2)) (js := [3]) (fun _ z => z) ms (fun _ _ _ _ _ _ _ => g_name 3 scRowOf.nd)
        (fun x hx _ _ _ _ _ => e_bin (e_ixt (e_var 3)) (e_bin (e_var 2) (e_ixt (e_var 3)) (ov_fdiv (by have := hs.pos x hx; omega) ((hs.fo x hx).s2.log (by decide)))) (ov_mul ((hs.fo x hx).s1.cmul (sf (dvd_lc hs.pos _ x hx)) (by decide)))) (fun _ _ => Le.refl _)) ?_ scRowOf.nd (blkOk_by blkRowOf))) ea_nil) cv_tupL m_tuple) ?_) scRowOf.nd)
      (s_stop (s_retP (e_call k_plain_row (ea_cons (e_tup (ea_cons (e_var 4) (ea_cons (e_bin (e_ixt (e_var 1)) (e_bin (e_var 2) (e_ixt (e_var 1)) (ov_fdiv hq0 (hb.s2.log (by decide)))) (ov_mul (hb.s1.cmul (sf hqd) (by decide)))) ea_nil))) ea_nil) ⟨_, rfl, hro.mono (by decide), rfl⟩))))))
    · have := hs.len
      rw [List.length_map]
      omega
    · have e : (ms.map fun x : Fr => PyData.int (x.1 * ((lcF q.natAbs ms : Nat) : Int).fdiv x.2)) = (upF (lcF q.natAbs ms) ms).map PyData.int := by
        unfold upF
        rw [List.map_map]
        rfl
      rw [e]
end
end K03
end part_K03b
section part_K03f
namespace K03
open L2 PyProof.Rows PySem.Spec PySem DL Num
section
variable {P : Program} {w : World} {K : PySem.W.Frag} {mg : Str → Option Value} {base : Heap}
/-! #### is_always, is_never -/
def noughts (a : List Int) : Bool := !a.any (· != 0)
def rAlways (ds : List PyData) (d : PyData) : Prop := ∃ r : List Int × Int, ds = [rowD r] ∧ d = .bool (noughts r.1 && decide (0 ≤ r.2))
def rNever (ds : List PyData) (d : PyData) : Prop := ∃ r : List Int × Int, ds = [rowD r] ∧ d = .bool (noughts r.1 && decide (r.2 < 0))
/-! #### whole_point -/
abbrev whD (xs : List Fr) : PyData := .tuple [.list ((upF (lcF 1 xs) xs).map PyData.int), .int ((lcF 1 xs : Nat) : Int)]
def rWhole (ds : List PyData) (d : PyData) : Prop := ∃ xs : List Fr, ds = [ptD xs] ∧ Pt xs ∧ d = whD xs
theorem scWhole : FnScope ["point", "many", "one"] ["point"] (defScope sWhole) := ⟨rfl, rfl, rfl, by decide +kernel, rfl, by decide +kernel, by decide +kernel⟩
abbrev cWhole (P : Program) (w : World) (K : PySem.W.Frag) (mg : Str → Option Value) (base : Heap) (a : CxA) : Cx := cx P w K mg base ["point", "many", "one"] "whole_point" sWhole a
theorem whole_loop (g_lcm : mg "lcm" = some (.builtin "math.lcm")) {a : CxA} (r : PyData) : ∀ (xs : List Fr) (m k : Nat), m < 2 ^ k → k + 130 * xs.length < 3900 → (∀ x ∈ xs, Fo 130 x) →
    Loop (cWhole P w K mg base a) (forT (bodyAt sWhole 1)) (lpB (bodyAt sWhole 1)) (xs.map frD) [.dat r, .dat (.int (m : Int)), .un] (.nx [.dat r, .dat (.int ((lcF m xs : Nat) : Int)), .un])
  | [], m, k, _, _, _ => .nil
  | x :: xs, m, k, hm, hk, hx => by
    have fx := hx x List.mem_cons_self
    rw [List.length_cons] at hk
    exact .nx (g_name 2 scWhole.nd) (s_cons (s_set 1 (e_callF (ea_cons (e_var 1) (ea_cons (e_ixt (e_var 2)) ea_nil)) (lcm_step (bd := 0) hm fx (by omega)) g_lcm) scWhole.nd) (s_nil (le_cons (le_cons (le_un le_nil)))))
      (whole_loop g_lcm r xs (Nat.lcm m x.2.natAbs) (k + 130) (lcm_grow hm fx) (by omega) fun y hy => hx y (List.mem_cons_of_mem _ hy))
abbrev whE : Expr := pt 0 (exprOf (bodyAt sWhole 2))
theorem blkWhole : blkC ["point", "many", "one"] (defScope sWhole) (cmS whE) [("one", 2)] = true := by decide +kernel
theorem lc1 {xs : List Fr} (h : Pt xs) : lcF 1 xs < 2 ^ 911 := lcF_sz7 h (m := 1) (k := 1) (by decide)
theorem ok_whole (hp : DL.Put K mg "whole_point" sWhole) (g_lcm : mg "lcm" = some (.builtin "math.lcm")) : Def P w K mg base "whole_point" 1 ["point"] (spP K rWhole) := by
  refine def_P hp scWhole (fun _ _ _ _ _ _ us hl => match us, hl with | [_], _ => rfl) (by decide) (fun ds d h => ?_) (fun a hr ds d h => ?_)
  · obtain ⟨_, rfl, _⟩ := h
    rfl
  · obtain ⟨xs, rfl, hs, rfl⟩ := h
    have hl := whole_loop (P := P) (w := w) (K := K) (base := base) g_lcm (a := a) (ptD xs) xs 1 1 (by decide) (by have := hs.len; omega) hs.fo
    have sM : Sz 911 ((lcF 1 xs : Nat) : Int) := szNatI (lc1 hs)
    have sf : ∀ {x : Int}, x ∣ ((lcF 1 xs : Nat) : Int) → Sz 911 (((lcF 1 xs : Nat) : Int).fdiv x) := fun {x} hd => sM.of_le (natAbs_fdiv_le _ _ hd)
    refine .rt (s_cons (s_set 1 e_int scWhole.nd) (s_cons (s_for (i_tup (e_var 0)) hl)
      (s_stop (s_retP (e_tup (ea_cons (e_O (eo_lc (own := [("one", 2)]) (i_tup (e_var 0)) (cl_map (f := frD) (r := fun x : Fr => .int (x.1 * ((lcF 1 xs : Nat) : Int).fdiv x.2)) (js := [2]) (fun _ z => z) xs (fun _ _ _ _ _ _ _ => g_name 2 scWhole.nd)
        (fun x hx _ _ _ _ _ => e_bin (e_ixt (e_var 2)) (e_bin (e_var 1) (e_ixt (e_var 2)) (ov_fdiv (by have := hs.pos x hx; omega) ((hs.fo x hx).s2.log (by decide)))) (ov_mul ((hs.fo x hx).s1.cmul (sf (dvd_lc hs.pos _ x hx)) (by decide)))) (fun _ _ => Le.refl _)) ?_ scWhole.nd (blkOk_by blkWhole))) (ea_cons (e_var 1) ea_nil))) ?_))))
    · have := hs.len
      rw [List.length_map]
      omega
    · show _ = PyData.tuple [.list (List.map PyData.int (List.map _ xs)), _]
      rw [List.map_map]
      rfl
/-! #### whole_reach -/
def rDot (ds : List PyData) (d : PyData) : Prop := ∃ a ws : List Int, ds = [.tuple (a.map PyData.int), .list (ws.map PyData.int)] ∧ (∀ x ∈ a, Sz 5000 x) ∧ (∀ x ∈ ws, Sz 5000 x) ∧ d = .int (dot a ws)
theorem scDot : FnScope ["members", "whole", "found", "member", "one"] ["members", "whole"] (defScope sDot) := ⟨rfl, rfl, rfl, by decide +kernel, rfl, by decide +kernel, by decide +kernel⟩
abbrev cDot (P : Program) (w : World) (K : PySem.W.Frag) (mg : Str → Option Value) (base : Heap) (a : CxA) : Cx := cx P w K mg base ["members", "whole", "found", "member", "one"] "whole_reach" sDot a
abbrev p2D (z : Int × Int) : PyData := .tuple [.int z.1, .int z.2]
theorem zip_ints (a ws : List Int) : zipD (a.map PyData.int) (ws.map PyData.int) = (a.zip ws).map p2D := by
  unfold zipD
  rw [List.zip_map, List.map_map]
  rfl
theorem dot_loop {a : CxA} (m r : PyData) : ∀ (zs : List (Int × Int)) (s : Int), (∀ z ∈ zs, Sz 5000 z.1 ∧ Sz 5000 z.2) →
    Loop (cDot P w K mg base a) (forT (bodyAt sDot 1)) (lpB (bodyAt sDot 1)) (zs.map p2D) [.dat m, .dat r, .dat (.int s), .un, .un] (.nx [.dat m, .dat r, .dat (.int (dotF s zs)), .un, .un])
  | [], s, _ => .nil
  | z :: zs, s, hz => by
    obtain ⟨h1, h2⟩ := hz z List.mem_cons_self
    exact .nx (g_tup rfl (gs_cons (g_name 3 scDot.nd) (gs_cons (g_name 4 scDot.nd) gs_nil))) (s_cons (s_aug 2 (e_bin (e_var 3) (e_var 4) (ov_mul (h1.cmul h2 (by decide)))) scDot.nd) (s_nil (le_cons (le_cons (le_cons (le_un (le_un le_nil)))))))
      (dot_loop m r zs (s + z.1 * z.2) fun y hy => hz y (List.mem_cons_of_mem _ hy))
theorem ok_dot (hp : DL.Put K mg "whole_reach" sDot) (m_zip : mg "zip" = none) : Def P w K mg base "whole_reach" 1 ["members", "whole"] (spP K rDot) := by
  refine def_P hp scDot (fun _ _ _ _ _ _ us hl => match us, hl with | [_, _], _ => rfl) (by decide) (fun ds d h => ?_) (fun a hr ds d h => ?_)
  · obtain ⟨_, _, rfl, _⟩ := h
    rfl
  · obtain ⟨m, ws, rfl, h1, h2, rfl⟩ := h
    have hl := dot_loop (P := P) (w := w) (K := K) (mg := mg) (base := base) (a := a) (.tuple (m.map PyData.int)) (.list (ws.map PyData.int)) (m.zip ws) 0 fun z hz => ⟨h1 _ (List.of_mem_zip hz).1, h2 _ (List.of_mem_zip hz).2⟩
    rw [← zip_ints] at hl
    exact .rt (s_cons (s_set 2 e_int scDot.nd) (s_cons (s_for (i_zip (k := true) (j := false) (ea_cons (e_var 0) (ea_cons (e_var 1) ea_nil)) m_zip) hl) (s_stop (s_retP (e_var 2)))))
/-! #### reach, slack -/
def rReach (ds : List PyData) (d : PyData) : Prop := ∃ (r : List Int × Int) (xs : List Fr), ds = [rowD r, ptD xs] ∧ Ro 200 r ∧ Pt xs ∧ d = frD (reachF r.1 xs)
theorem up_sz {xs : List Fr} (h : Pt xs) : ∀ y ∈ upF (lcF 1 xs) xs, Sz 1041 y := upF_sz (fun x hx => (h.fo x hx).s1) (lc1 h) (dvd_lc h.pos 1)
theorem reach_fo {r : List Int × Int} {xs : List Fr} (h : Ro 200 r) (g : Pt xs) : Fo 1300 (reachF r.1 xs) := by
  have hp := lcF_pos xs 1 (by decide) g.pos
  have hd : Sz 1300 (dot r.1 (upF (lcF 1 xs) xs)) := (dot_sz h.a (up_sz g) h.len).mono (by decide)
  exact ⟨den_pos (by omega), num_size _ hd, den_size _ ((szNatI (lc1 g)).mono (by decide))⟩
theorem scReach : FnScope ["row", "point", "whole", "many"] ["row", "point"] (defScope sReach) := ⟨rfl, rfl, rfl, by decide +kernel, rfl, by decide +kernel, by decide +kernel⟩
theorem ok_reach (hp : DL.Put K mg "reach" sReach) (dW : Def P w K mg base "whole_point" 1 ["point"] (spP K rWhole)) (dD : Def P w K mg base "whole_reach" 1 ["members", "whole"] (spP K rDot)) (dF : Def P w K mg base "fraction_of" 1 ["p", "q"] (spP K rFrac)) : Def P w K mg base "reach" 2 ["row", "point"] (spP K rReach) := by
  refine def_P hp scReach (fun _ _ _ _ _ _ us hl => match us, hl with | [_, _], _ => rfl) (by decide) (fun ds d h => ?_) (fun a hr ds d h => ?_)
  · obtain ⟨_, _, rfl, _⟩ := h
    rfl
  · obtain ⟨r, xs, rfl, h1, h2, rfl⟩ := h
    have k_whole_point := dW.known hr
    have k_whole_reach := dD.known hr
    have k_fraction_of := dF.known hr
    have hp := lcF_pos xs 1 (by decide) h2.pos
    exact .rt (s_cons (s_asg (e_call k_whole_point (ea_cons (e_var 1) ea_nil) ⟨xs, rfl, h2, rfl⟩) (g_tup rfl (gs_cons (g_name 2 scReach.nd) (gs_cons (g_name 3 scReach.nd) gs_nil))))
      (s_stop (s_retP (e_call k_fraction_of (ea_cons (e_call k_whole_reach (ea_cons (e_ixt (e_var 0)) (ea_cons (e_var 2) ea_nil)) ⟨r.1, _, rfl, fun x hx => (h1.a x hx).mono (by decide), fun x hx => (up_sz h2 x hx).mono (by decide), rfl⟩) (ea_cons (e_var 3) ea_nil)) ⟨_, _, rfl, by omega, (szNatI (lc1 h2)).mono (by decide), rfl⟩))))
def slackF (r : List Int × Int) (xs : List Fr) : Fr := red (r.2 * (reachF r.1 xs).2 - (reachF r.1 xs).1) (reachF r.1 xs).2
def rSlack (ds : List PyData) (d : PyData) : Prop := ∃ (r : List Int × Int) (xs : List Fr), ds = [rowD r, ptD xs] ∧ Ro 200 r ∧ Pt xs ∧ d = frD (slackF r xs)
end
end K03
end part_K03f
section part_K03g
namespace K03
open L2 PyProof.Rows PySem.Spec PySem DL Num
abbrev Row : Type := List Int × Int
abbrev roomD (n : Int) (rows : List Row) : PyData := .tuple [.int n, .tuple (rows.map rowD)]
/-- what is left between a row and its bound, times the common multiple -/
def sgn (xs : List Fr) (r : Row) : Int := r.2 * ((lcF 1 xs : Nat) : Int) - dot r.1 (upF (lcF 1 xs) xs)
/-- a room and a point that are asked together -/
structure Rp (rows : List Row) (xs : List Fr) : Prop where
  ro : ∀ r ∈ rows, Ro 3800 r
  few : rows.length ≤ 30
  pt : Pt xs
def idxF (p : Int → Bool) : List Int → Nat → List PyData
  | [], _ => []
  | s :: ss, k => if p s then .int (k : Int) :: idxF p ss (k + 1) else idxF p ss (k + 1)
def firstF : List Int → Nat → Option Nat
  | [], _ => none
  | s :: ss, k => if s < 0 then some k else firstF ss (k + 1)
def optN : Option Nat → PyData
  | none => .none
  | some k => .int (k : Int)
section
variable {P : Program} {w : World} {K : PySem.W.Frag} {mg : Str → Option Value} {base : Heap}
def rSigns (ds : List PyData) (d : PyData) : Prop := ∃ (n : Int) (rows : List Row) (xs : List Fr), ds = [roomD n rows, ptD xs] ∧ Rp rows xs ∧ d = .list ((rows.map (sgn xs)).map PyData.int)
theorem scSigns : FnScope ["room", "point", "whole", "many", "row"] ["room", "point"] (defScope sSigns) := ⟨rfl, rfl, rfl, by decide +kernel, rfl, by decide +kernel, by decide +kernel⟩
abbrev siE : Expr := exprOf (bodyAt sSigns 1)
theorem blkSigns : blkC ["room", "point", "whole", "many", "row"] (defScope sSigns) (cmS siE) [("row", 4)] = true := by decide +kernel
theorem ok_signs (hp : DL.Put K mg "slack_signs" sSigns) (dW : Def P w K mg base "whole_point" 1 ["point"] (spP K rWhole)) (dD : Def P w K mg base "whole_reach" 1 ["members", "whole"] (spP K rDot)) : Def P w K mg base "slack_signs" 2 ["room", "point"] (spP K rSigns) := by
  refine def_P hp scSigns (fun _ _ _ _ _ _ us hl => match us, hl with | [_, _], _ => rfl) (by decide) (fun ds d h => ?_) (fun a hr ds d h => ?_)
  · obtain ⟨_, _, _, rfl, _⟩ := h
    rfl
  · obtain ⟨n, rows, xs, rfl, h, rfl⟩ := h
    have k_whole_point := dW.known hr
    have k_whole_reach := dD.known hr
    refine .rt (s_cons (s_asg (e_call k_whole_point (ea_cons (e_var 1) ea_nil) ⟨xs, rfl, h.pt, rfl⟩) (g_tup rfl (gs_cons (g_name 2 scSigns.nd) (gs_cons (g_name 3 scSigns.nd) gs_nil))))
      (s_stop (s_retP (e_O (eo_lc (own := [("row", 4)]) (i_tup (e_ixt (e_var 0))) (cl_map (f := rowD) (r := fun r : Row => .int (sgn xs r)) (js := [4]) (fun _ z => z) rows (fun _ _ _ _ _ _ _ => g_name 4 scSigns.nd)
        (fun r hr' _ _ _ _ _ => e_bin (e_bin (e_ixt (e_var 4)) (e_var 3) (ov_mul ((h.ro r hr').b.cmul (szNatI (lc1 h.pt)) (by decide)))) (e_call k_whole_reach (ea_cons (e_ixt (e_var 4)) (ea_cons (e_var 2) ea_nil)) ⟨r.1, _, rfl, fun x hx => ((h.ro r hr').a x hx).mono (by decide), fun x hx => (up_sz h.pt x hx).mono (by decide), rfl⟩) ov_sub) (fun _ _ => Le.refl _)) ?_ scSigns.nd (blkOk_by blkSigns))) ?_)))
    · have := h.few
      rw [List.length_map]
      omega
    · rw [List.map_map]
      rfl
/-! #### tight_rows -/
theorem cl_enum {X : Cx} {scope : Scope} {tg elt c : Expr} {vs js : List Nat} {ρ : List Sl} {p : Int → Bool} {ρt : Nat → Int → List Sl} (hj : ∀ j ∈ js, j ∈ vs) : ∀ (ss : List Int) (k : Nat), (∀ k s, Blk X scope (fun Y => TgD Y tg (.tuple [.int ((k : Nat) : Int), .int s]) (wipeA vs 0 ρ) (ρt k s) js)) →
    (∀ k s, Blk X scope (fun Y => T Y c (ρt k s) (p s) (ρt k s))) → (∀ k s, Blk X scope (fun Y => E Y elt (ρt k s) (.int ((k : Nat) : Int)) (ρt k s))) → (∀ k s, Le (wipeA vs 0 (ρt k s)) (wipeA vs 0 ρ)) → CL X scope tg [c] elt vs (enumD (ss.map PyData.int) k) ρ (idxF p ss k) ρ
  | [], k, _, _, _, _ => .nil
  | s :: ss, k, h1, h2, h3, h4 => by
    have ih := cl_enum hj ss (k + 1) h1 h2 h3 h4
    have h2x := h2 k s
    show CL X scope tg [c] elt vs (.tuple [.int (k : Int), .int s] :: enumD (ss.map PyData.int) (k + 1)) ρ (if p s then .int (k : Int) :: idxF p ss (k + 1) else idxF p ss (k + 1)) ρ
    cases hp : p s with
    | true =>
      rw [hp] at h2x
      rw [if_pos rfl]
      exact .yes hj (h1 k s) (fun s H C cl fp => ts_one (h2x s H C cl fp)) (h3 k s) (.pre (h4 k s) ih)
    | false =>
      rw [hp] at h2x
      rw [if_neg Bool.false_ne_true]
      exact .no hj (h1 k s) (fun s H C cl fp => ts_one (h2x s H C cl fp)) (.pre (h4 k s) ih)
def tightF (xs : List Fr) (rows : List Row) : List PyData := idxF (fun s => decide (s = 0)) (rows.map (sgn xs)) 0
def rTight (ds es : List PyData) : Prop := ∃ (n : Int) (rows : List Row) (xs : List Fr), ds = [roomD n rows, ptD xs] ∧ Rp rows xs ∧ es = tightF xs rows
/-! #### first_broken -/
def rBroken (ds : List PyData) (d : PyData) : Prop := ∃ (n : Int) (rows : List Row) (xs : List Fr), ds = [roomD n rows, ptD xs] ∧ Rp rows xs ∧ d = optN (firstF (rows.map (sgn xs)) 0)
theorem scBroken : FnScope ["room", "point", "k", "sign"] ["room", "point"] (defScope sBroken) := ⟨rfl, rfl, rfl, by decide +kernel, rfl, by decide +kernel, by decide +kernel⟩
abbrev cBroken (P : Program) (w : World) (K : PySem.W.Frag) (mg : Str → Option Value) (base : Heap) (a : CxA) : Cx := cx P w K mg base ["room", "point", "k", "sign"] "first_broken" sBroken a
theorem broken_loop {a : CxA} (r q : PyData) : ∀ (ss : List Int) (k : Nat), Loop (cBroken P w K mg base a) (forT (bodyAt sBroken 0)) (lpB (bodyAt sBroken 0)) (enumD (ss.map PyData.int) k) [.dat r, .dat q, .un, .un]
    (match firstF ss k with
      | none => .nx [.dat r, .dat q, .un, .un]
      | some j => .rt (.int (j : Int)) (List.replicate 4 .un))
  | [], k => .nil
  | s :: ss, k => by
    by_cases hs : s < 0
    · have e : firstF (s :: ss) k = some k := if_pos hs
      rw [e]
      exact .rt (g_tup rfl (gs_cons (g_name 2 scBroken.nd) (gs_cons (g_name 3 scBroken.nd) gs_nil))) (s_stop (s1_if (p := true) (T.to (t_cmp (e_var 3) e_int ov_lt) (decide_eq_true hs)) (fun _ => s_stop (s_retP (e_var 2))) (fun h => Bool.noConfusion h)))
    · have e : firstF (s :: ss) k = firstF ss (k + 1) := if_neg hs
      rw [e]
      exact .nx (g_tup rfl (gs_cons (g_name 2 scBroken.nd) (gs_cons (g_name 3 scBroken.nd) gs_nil))) (s_cons (s1_if (p := false) (T.to (t_cmp (e_var 3) e_int ov_lt) (decide_eq_false hs)) (fun h => Bool.noConfusion h) (fun _ => s_nil')) (s_nil (le_cons (le_cons (le_un (le_un le_nil)))))) (broken_loop r q ss (k + 1))
theorem ok_broken (hp : DL.Put K mg "first_broken" sBroken) (m_enumerate : mg "enumerate" = none) (dS : Def P w K mg base "slack_signs" 2 ["room", "point"] (spP K rSigns)) : Def P w K mg base "first_broken" 3 ["room", "point"] (spP K rBroken) := by
  refine def_P hp scBroken (fun _ _ _ _ _ _ us hl => match us, hl with | [_, _], _ => rfl) (by decide) (fun ds d h => ?_) (fun a hr ds d h => ?_)
  · obtain ⟨_, _, _, rfl, _⟩ := h
    rfl
  · obtain ⟨n, rows, xs, rfl, h, rfl⟩ := h
    have k_slack_signs := dS.known hr
    have hl := broken_loop (P := P) (w := w) (K := K) (mg := mg) (base := base) (a := a) (roomD n rows) (ptD xs) (rows.map (sgn xs)) 0
    cases hf : firstF (rows.map (sgn xs)) 0 with
    | none =>
      rw [hf] at hl
      exact .rt (s_cons (s_for (i_enum (ea_cons (e_call k_slack_signs (ea_cons (e_var 0) (ea_cons (e_var 1) ea_nil)) ⟨n, rows, xs, rfl, h, rfl⟩) ea_nil) m_enumerate) hl) (s_stop (s_retP e_non)))
    | some j =>
      rw [hf] at hl
      exact .rt (s_stop (s_for (i_enum (ea_cons (e_call k_slack_signs (ea_cons (e_var 0) (ea_cons (e_var 1) ea_nil)) ⟨n, rows, xs, rfl, h, rfl⟩) ea_nil) m_enumerate) hl))
/-! #### is_in -/
def rIsIn (ds : List PyData) (d : PyData) : Prop := ∃ (n : Int) (rows : List Row) (xs : List Fr), ds = [roomD n rows, ptD xs] ∧ Rp rows xs ∧ d = .bool (firstF (rows.map (sgn xs)) 0).isNone
theorem scIsIn : FnScope ["room", "point"] ["room", "point"] (defScope sIsIn) := ⟨rfl, rfl, rfl, by decide +kernel, rfl, by decide +kernel, by decide +kernel⟩
theorem ok_isIn (hp : DL.Put K mg "is_in" sIsIn) (dB : Def P w K mg base "first_broken" 3 ["room", "point"] (spP K rBroken)) : Def P w K mg base "is_in" 4 ["room", "point"] (spP K rIsIn) := by
  refine def_P hp scIsIn (fun _ _ _ _ _ _ us hl => match us, hl with | [_, _], _ => rfl) (by decide) (fun ds d h => ?_) (fun a hr ds d h => ?_)
  · obtain ⟨_, _, _, rfl, _⟩ := h
    rfl
  · obtain ⟨n, rows, xs, rfl, h, rfl⟩ := h
    have k_first_broken := dB.known hr
    refine .rt (s_stop (s_retP (e_cmp (e_call k_first_broken (ea_cons (e_var 0) (ea_cons (e_var 1) ea_nil)) ⟨n, rows, xs, rfl, h, rfl⟩) e_non ov_is) ?_))
    cases firstF (rows.map (sgn xs)) 0 <;> rfl
end
end K03
end part_K03g
section part_K03h
namespace K03
open L2 PyProof.Rows PySem.Spec PySem DL Num
abbrev sNumber : Stmt := top 38
abbrev sFraction : Stmt := top 39
abbrev sDiv : Stmt := top 40
abbrev sLPlain : Stmt := top 41
abbrev sLReach : Stmt := top 42
--
abbrev sLRowOf : Stmt := top 43
section
variable {P : Program} {w : World} {K : PySem.W.Frag} {mg : Str → Option Value} {base : Heap}
abbrev DOf (P : Program) (w : World) (K : PySem.W.Frag) (mg : Str → Option Value) (base : Heap) : Prop := Draws P w K mg base "_law_of" 2 ["source", "some"] preOf postOf
abbrev DMixed (P : Program) (w : World) (K : PySem.W.Frag) (mg : Str → Option Value) (base : Heap) : Prop := Draws P w K mg base "_law_mixed" 2 ["source", "things"] preMixed postMixed
def preNone (t : Src) (ds : List PyData) : Prop := Ok t ∧ ds = []
theorem ten_le {n m k : Nat} (h : n < 10 ^ m) (hk : 10 ^ m ≤ 2 ^ k) : Sz k (n : Int) := szNatI (Nat.lt_of_lt_of_le h hk)
/-! #### _law_number -/
def postNumber (_ : Src) (_ : List PyData) (t' : Src) (d : PyData) : Prop := Ok t' ∧ ∃ n : Int, d = .int n ∧ Sz 120 n
theorem scNumber : FnScope ["source", "way", "sign"] ["source"] (defScope sNumber) := ⟨rfl, rfl, rfl, by decide +kernel, rfl, by decide +kernel, by decide +kernel⟩
theorem ok_number (hp : DL.Put K mg "_law_number" sNumber) (dP : DPick P w K mg base) (dG : DGreat P w K mg base) : Draws P w K mg base "_law_number" 3 ["source"] preNone postNumber := by
  obtain ⟨R, dR, hR⟩ := dP
  obtain ⟨R2, dR2, hR2⟩ := dG
  refine def_Sx hp scNumber (fun _ _ _ _ _ _ us hl => match us, hl with | [_], _ => rfl) (by decide) (fun t ds h => ?_) (fun t ds h => ?_)
  · obtain ⟨_, rfl⟩ := h
    rfl
  · obtain ⟨ht, rfl⟩ := h
    obtain ⟨t1, way, r1, ht1, g1, g2⟩ := pick_int hR ht 10 (by decide) (by decide)
    obtain ⟨t2, sgn, r2, ht2, g3, g4⟩ := pick_int hR ht1 2 (by decide) (by decide)
    have ss : Sz 1 (1 - 2 * sgn) := sz_sign (by omega)
    by_cases hw : way = 9
    · obtain ⟨t3, a, r3, ht3, g5⟩ := great_int hR2 ht2 30 (by decide) (by decide)
      have sa : Sz 110 (a : Int) := ten_le g5 (by decide +kernel)
      refine ⟨t3, .int ((1 - 2 * sgn) * (a : Int)), ⟨ht3, _, rfl, (ss.mul sa).mono (by decide)⟩, fun c hr s l => ?_⟩
      have k_law_pick := dR.known hr
      have k_law_great := dR2.known hr
      exact s_cons (s_par 1 2 (ea_cons (e_callS 0 k_law_pick (ea_cons e_int ea_nil) r1) (ea_cons (e_bin e_int (e_bin e_int (e_callS 0 k_law_pick (ea_cons e_int ea_nil) r2) (ov_mulS (.inl ⟨by decide, by decide⟩))) ov_sub) ea_nil)) rfl scNumber.nd)
        (s_if (p := true) (T.to (t_cmp (e_var 1) e_int ov_eqI) (decide_eq_true hw)) (fun h => .stop (s_stop (s_retS (e_bin (e_var 2) (e_callS 0 k_law_great (ea_cons e_int ea_nil) r3) (ov_mul (ss.cmul sa (by decide)))))) trivial) (fun h => Bool.noConfusion h))
    · by_cases hw2 : way < 3
      · refine ⟨t2, .int 0, ⟨ht2, _, rfl, sz_lt (by decide +kernel)⟩, fun c hr s l => ?_⟩
        have k_law_pick := dR.known hr
        exact s_cons (s_par 1 2 (ea_cons (e_callS 0 k_law_pick (ea_cons e_int ea_nil) r1) (ea_cons (e_bin e_int (e_bin e_int (e_callS 0 k_law_pick (ea_cons e_int ea_nil) r2) (ov_mulS (.inl ⟨by decide, by decide⟩))) ov_sub) ea_nil)) rfl scNumber.nd)
          (s_if (p := false) (T.to (t_cmp (e_var 1) e_int ov_eqI) (decide_eq_false hw)) (fun h => Bool.noConfusion h) (fun h => .go s_nil' (s_stop (s_retS (e_if (p := true) (T.to (t_cmp (e_var 1) e_int ov_lt) (decide_eq_true hw2)) (fun h => e_int) (fun h => Bool.noConfusion h))))))
      · obtain ⟨t3, a, r3, ht3, g5, g6⟩ := pick_int hR ht2 9 (by decide) (by decide)
        have sa : Sz 4 a := sz_lt (by omega)
        refine ⟨t3, .int ((1 - 2 * sgn) * a), ⟨ht3, _, rfl, (ss.mul sa).mono (by decide)⟩, fun c hr s l => ?_⟩
        have k_law_pick := dR.known hr
        exact s_cons (s_par 1 2 (ea_cons (e_callS 0 k_law_pick (ea_cons e_int ea_nil) r1) (ea_cons (e_bin e_int (e_bin e_int (e_callS 0 k_law_pick (ea_cons e_int ea_nil) r2) (ov_mulS (.inl ⟨by decide, by decide⟩))) ov_sub) ea_nil)) rfl scNumber.nd)
          (s_if (p := false) (T.to (t_cmp (e_var 1) e_int ov_eqI) (decide_eq_false hw)) (fun h => Bool.noConfusion h) (fun h => .go s_nil' (s_stop (s_retS (e_if (p := false) (T.to (t_cmp (e_var 1) e_int ov_lt) (decide_eq_false hw2)) (fun h => Bool.noConfusion h) (fun h => e_bin (e_var 2) (e_callS 0 k_law_pick (ea_cons e_int ea_nil) r3) (ov_mul (ss.cmul sa (by decide)))))))))
/-! #### _law_fraction -/
def postFraction (_ : Src) (_ : List PyData) (t' : Src) (d : PyData) : Prop := Ok t' ∧ ∃ x : Fr, d = frD x ∧ Fo 62 x
theorem scFraction : FnScope ["source"] ["source"] (defScope sFraction) := ⟨rfl, rfl, rfl, by decide +kernel, rfl, by decide +kernel, by decide +kernel⟩
theorem red_fo {p q : Int} {n : Nat} (h : q ≠ 0) (hp : Sz n p) (hq : Sz n q) : Fo n (red p q) := ⟨den_pos h, num_size _ hp, den_size _ hq⟩
theorem ok_fraction (hp : DL.Put K mg "_law_fraction" sFraction) (dP : DPick P w K mg base) (dG : DGreat P w K mg base) (dO : DOf P w K mg base) (dL : Def P w K mg base "_law_least" 1 ["a", "b"] (spP K rFrac)) : Draws P w K mg base "_law_fraction" 3 ["source"] preNone postFraction := by
  obtain ⟨R, dR, hR⟩ := dP
  obtain ⟨R2, dR2, hR2⟩ := dG
  obtain ⟨R3, dR3, hR3⟩ := dO
  refine def_Sx hp scFraction (fun _ _ _ _ _ _ us hl => match us, hl with | [_], _ => rfl) (by decide) (fun t ds h => ?_) (fun t ds h => ?_)
  · obtain ⟨_, rfl⟩ := h
    rfl
  · obtain ⟨ht, rfl⟩ := h
    obtain ⟨t1, way, r1, ht1, g1, g2⟩ := pick_int hR ht 5 (by decide) (by decide)
    by_cases hw : way > 0
    · obtain ⟨t2, a, r2, ht2, g3, g4⟩ := pick_int hR ht1 25 (by decide) (by decide)
      obtain ⟨t3, d3, r3, ht3, es, ees, hd3⟩ := hR3 t2 [.list [.int 1, .int 1, .int 2, .int 3, .int 5, .int 12]] ⟨ht2, _, rfl, by simp, by show 6 < 1000; decide⟩
      cases ees
      have hk : ∃ k : Int, d3 = .int k ∧ 0 < k ∧ k ≤ 12 := by
        simp only [List.mem_cons, List.not_mem_nil, or_false] at hd3
        rcases hd3 with rfl | rfl | rfl | rfl | rfl | rfl <;> exact ⟨_, rfl, by decide, by decide⟩
      obtain ⟨k, rfl, hk0, hk1⟩ := hk
      have s1 : Sz 62 (a - 12) := Sz.mono (n := 20) (sz_lt (by omega)) (by decide)
      have s2 : Sz 62 k := Sz.mono (n := 20) (sz_lt (by omega)) (by decide)
      refine ⟨t3, frac (a - 12) k, ⟨ht3, red (a - 12) k, rfl, red_fo (by omega) s1 s2⟩, fun c hr s l => ?_⟩
      have k_law_pick := dR.known hr
      have k_law_of := dR3.known hr
      have k_law_least := dL.known hr
      exact s_if (p := true) (T.to (t_cmp (e_callS 0 k_law_pick (ea_cons e_int ea_nil) r1) e_int ov_gt) (decide_eq_true hw)) (fun h => .stop (s_stop (s_retS (e_call k_law_least (ea_cons (e_bin (e_callS 0 k_law_pick (ea_cons e_int ea_nil) r2) e_int ov_sub) (ea_cons (e_callS 0 k_law_of (ea_cons (e_O (eo_lst (ea_cons e_int (ea_cons e_int (ea_cons e_int (ea_cons e_int (ea_cons e_int (ea_cons e_int ea_nil)))))))) ea_nil) r3) ea_nil)) ⟨_, _, rfl, by omega, s2.mono (by decide), rfl⟩))) trivial) (fun h => Bool.noConfusion h)
    · obtain ⟨t2, a, r2, ht2, g3⟩ := great_int hR2 ht1 18 (by decide) (by decide)
      obtain ⟨t3, b, r3, ht3, g4⟩ := great_int hR2 ht2 18 (by decide) (by decide)
      obtain ⟨t4, q, r4, ht4, g5⟩ := great_int hR2 ht3 6 (by decide) (by decide)
      have sa : Sz 61 (a : Int) := ten_le g3 (by decide +kernel)
      have sb : Sz 61 (b : Int) := ten_le g4 (by decide +kernel)
      have sq : Sz 61 (q : Int) := ten_le g5 (by decide +kernel)
      have s1 : Sz 62 ((a : Int) - b) := (sa.sub sb (by decide) (by decide))
      have s2 : Sz 62 (1 + (q : Int)) := Sz.add (n := 1) (sz_lt (by decide)) sq (by decide) (by decide)
      refine ⟨t4, frac ((a : Int) - b) (1 + (q : Int)), ⟨ht4, red ((a : Int) - b) (1 + (q : Int)), rfl, red_fo (by omega) s1 s2⟩, fun c hr s l => ?_⟩
      have k_law_pick := dR.known hr
      have k_law_great := dR2.known hr
      have k_law_least := dL.known hr
      exact s_if (p := false) (T.to (t_cmp (e_callS 0 k_law_pick (ea_cons e_int ea_nil) r1) e_int ov_gt) (decide_eq_false hw)) (fun h => Bool.noConfusion h) (fun h => .go s_nil' (s_stop (s_retS (e_call k_law_least (ea_cons (e_bin (e_callS 0 k_law_great (ea_cons e_int ea_nil) r2) (e_callS 0 k_law_great (ea_cons e_int ea_nil) r3) ov_sub) (ea_cons (e_bin e_int (e_callS 0 k_law_great (ea_cons e_int ea_nil) r4) ov_add) ea_nil)) ⟨_, _, rfl, by omega, s2.mono (by decide), rfl⟩))))
/-! #### _law_divisor -/
def rDiv (ds : List PyData) (d : PyData) : Prop := ∃ ns : List Int, ds = [.list (ns.map PyData.int)] ∧ d = .int ((gN 0 ns : Nat) : Int)
theorem scDiv : FnScope ["numbers", "found", "one", "a", "b"] ["numbers"] (defScope sDiv) := ⟨rfl, rfl, rfl, by decide +kernel, rfl, by decide +kernel, by decide +kernel⟩
abbrev cDiv (P : Program) (w : World) (K : PySem.W.Frag) (mg : Str → Option Value) (base : Heap) (a : CxA) : Cx := cx P w K mg base ["numbers", "found", "one", "a", "b"] "_law_divisor" sDiv a
abbrev dvW : Stmt := (lpB (bodyAt sDiv 1)).getD 1 (.Pass ⟨0, 0, 0, 0⟩)
theorem div_while (m_int : mg "int" = none) {a : CxA} (x y z : PyData) : ∀ (n m : Nat), ∃ k, Wh (cDiv P w K mg base a) (whC dvW) (lpB dvW) k [.dat x, .dat y, .dat z, .dat (.int (m : Int)), .dat (.int (n : Int))] (.nx [.dat x, .dat y, .dat z, .dat (.int ((Nat.gcd m n : Nat) : Int)), .dat (.int 0)]) := by
  intro n
  induction n using Nat.strongRecOn with
  | ind n ih =>
    intro m
    by_cases hn : n = 0
    · subst hn
      refine ⟨0, ?_⟩
      rw [Nat.gcd_zero_right]
      exact .done (T.to (t_cmp (e_var 4) e_int ov_neI) rfl)
    · obtain ⟨k, hk⟩ := ih (m % n) (Nat.mod_lt _ (by omega)) n
      have hg : Nat.gcd m n = Nat.gcd n (m % n) := by rw [Nat.gcd_comm, Nat.gcd_rec, Nat.gcd_comm]
      rw [hg]
      refine ⟨k + 1, .nx (T.to (t_cmp (e_var 4) e_int ov_neI) ?_) (s_cons (s_par 3 4 (ea_cons (e_var 4) (ea_cons (E.to (e_bin (e_callTy (ea_cons (e_var 3) ea_nil) cv_int m_int) (e_var 4) (ov_mod ?_)) ?_) ea_nil)) rfl scDiv.nd) s_nil') hk⟩
      · rw [decide_eq_false (by omega)]
        rfl
      · omega
      · rw [fmod_nat]
theorem div_loop (m_int : mg "int" = none) (m_abs : mg "abs" = none) {a : CxA} (x : PyData) : ∀ (ns : List Int) (g : Nat), Loop (cDiv P w K mg base a) (forT (bodyAt sDiv 1)) (lpB (bodyAt sDiv 1)) (ns.map PyData.int) [.dat x, .dat (.int (g : Int)), .un, .un, .un] (.nx [.dat x, .dat (.int ((gN g ns : Nat) : Int)), .un, .un, .un])
  | [], g => .nil
  | n :: ns, g => by
    obtain ⟨k, hk⟩ := div_while (P := P) (w := w) (K := K) (base := base) m_int (a := a) x (.int (g : Int)) (.int n) n.natAbs g
    have ab : PyData.int (if n < 0 then -n else n) = .int (n.natAbs : Int) := by
      congr 1
      split <;> omega
    exact .nx (g_name 2 scDiv.nd) (s_cons (s_par 3 4 (ea_cons (e_var 1) (ea_cons (E.to (e_callB (ea_cons (e_var 2) ea_nil) cv_abs m_abs) ab) ea_nil)) rfl scDiv.nd) (s_cons (s_while hk) (s_cons (s_set 1 (e_var 3) scDiv.nd) (s_nil (le_cons (le_cons (le_un (le_un (le_un le_nil)))))))))
      (div_loop m_int m_abs x ns (Nat.gcd g n.natAbs))
theorem ok_div (hp : DL.Put K mg "_law_divisor" sDiv) (m_int : mg "int" = none) (m_abs : mg "abs" = none) : Def P w K mg base "_law_divisor" 1 ["numbers"] (spP K rDiv) := by
  refine def_P hp scDiv (fun _ _ _ _ _ _ us hl => match us, hl with | [_], _ => rfl) (by decide) (fun ds d h => ?_) (fun a hr ds d h => ?_)
  · obtain ⟨_, rfl, _⟩ := h
    rfl
  · obtain ⟨ns, rfl, rfl⟩ := h
    exact .rt (s_cons (s_set 1 e_int scDiv.nd) (s_cons (s_for (i_list (e_var 0)) (div_loop m_int m_abs (.list (ns.map PyData.int)) ns 0)) (s_stop (s_retP (e_var 1)))))
end
end K03
end part_K03h
section part_K03i
namespace K03
open L2 PyProof.Rows PySem.Spec PySem DL Num
section
variable {P : Program} {w : World} {K : PySem.W.Frag} {mg : Str → Option Value} {base : Heap}
/-! #### _law_plain -/
theorem lay_ints : ∀ ns : List Int, PyData.canLayAll0 (ns.map PyData.int) = true
  | [] => by simp [PyData.canLayAll0]
  | n :: ns => by simp [PyData.canLayAll0, PyData.canLay0, lay_ints ns]
theorem depth_ints : ∀ ns : List Int, PyData.depthAll (ns.map PyData.int) ≤ 1
  | [] => by rw [List.map_nil, PyData.depthAll]; omega
  | n :: ns => by
    have := depth_ints ns
    rw [List.map_cons, PyData.depthAll, PyData.depth]
    omega
theorem flat_ints : ∀ ns : List Int, flatDs (ns.map PyData.int) = true
  | [] => by simp [flatDs]
  | n :: ns => by simp [flatDs, flatD, flat_ints ns]
theorem shaped_ints (ns : List Int) : SeqAt.shaped (.list (ns.map PyData.int)) = true := by
  unfold SeqAt.shaped
  have := depth_ints ns
  simp [PyData.canLay0, PyData.depth, lay_ints]
  omega
theorem flatL (ns : List Int) : flatD (.list (ns.map PyData.int)) = true := by simp [flatD, flat_ints]
theorem filter_nil {m : List Int} : (m.filter fun x => !decide (x = 0)) = [] ↔ gN 0 m = 0 := by
  rw [gN_zero, List.filter_eq_nil_iff]
  constructor
  · intro h x hx
    have := h x hx
    simpa using this
  · intro h x hx
    have := h x hx
    simp [this]
theorem eqv_nil (ns : List Int) : PyData.eqv (.list (ns.map PyData.int)) (.list []) = ns.isEmpty := by
  cases ns with
  | nil => simp [PyData.eqv, PyData.eqvAll]
  | cons n ns => simp [PyData.eqv, PyData.eqvAll]
theorem scLPlain : FnScope ["row", "by", "a", "b", "one"] ["row"] (defScope sLPlain) := ⟨rfl, rfl, rfl, by decide +kernel, rfl, by decide +kernel, by decide +kernel⟩
abbrev lpE1 : Expr := pt 0 (match bodyAt sLPlain 1 with
  | .If c _ _ _ => c
  | _ => noE)
abbrev lpE2 : Expr := pt 0 (pt 0 (exprOf (bodyAt sLPlain 3)))
theorem blkLP1 : blkC ["row", "by", "a", "b", "one"] (defScope sLPlain) (cmS lpE1) [("one", 4)] = true := by decide +kernel
theorem blkLP2 : blkC ["row", "by", "a", "b", "one"] (defScope sLPlain) (cmS lpE2) [("one", 4)] = true := by decide +kernel
theorem ok_lplain (hp : DL.Put K mg "_law_plain" sLPlain) (m_list : mg "list" = none) (m_tuple : mg "tuple" = none) (dD : Def P w K mg base "_law_divisor" 1 ["numbers"] (spP K rDiv)) : Def P w K mg base "_law_plain" 2 ["row"] (spP K rPlain) := by
  refine def_P hp scLPlain (fun _ _ _ _ _ _ us hl => match us, hl with | [_], _ => rfl) (by decide) (fun ds d h => ?_) (fun a hr ds d h => ?_)
  · obtain ⟨_, rfl, _⟩ := h
    rfl
  · obtain ⟨⟨m, b⟩, rfl, hs, rfl⟩ := h
    have k_law_divisor := dD.known hr
    have hu : (cx P w K mg base ["row", "by", "a", "b", "one"] "_law_plain" sLPlain a).A.units + 64 < cLine := by
      have := hr.1.un
      omega
    have hlen : m.length ≤ 15 := hs.len
    have tst : T (cx P w K mg base ["row", "by", "a", "b", "one"] "_law_plain" sLPlain a) (match bodyAt sLPlain 1 with | .If c _ _ _ => c | _ => noE) [.dat (rowD (m, b)), .un, .dat (.tuple (m.map PyData.int)), .dat (.int b), .un] (m.filter fun x => !decide (x = 0)).isEmpty [.dat (rowD (m, b)), .un, .dat (.tuple (m.map PyData.int)), .dat (.int b), .un] := by
      refine T.to (t_cmp (e_O (eo_lc (own := [("one", 4)]) (i_tup (e_var 2)) (cl_filter (f := PyData.int) (r := fun x : Int => .int x) (p := fun x => !decide (x = 0)) (js := [4]) (fun _ z => z) m (fun _ _ _ _ _ _ _ => g_name 4 scLPlain.nd) (fun _ _ _ _ _ _ _ => t_cmp (e_var 4) e_int ov_neI) (fun _ _ _ _ _ _ _ => e_var 4) (fun _ _ => Le.refl _)) (by rw [List.length_map]; omega) scLPlain.nd (blkOk_by blkLP1))) (e_O (eo_lst ea_nil)) (ov_eqD hu (shaped_ints _) (by decide +kernel) (flatL _) (by decide +kernel))) ?_
      exact eqv_nil _
    refine .rt (s_cons (s_asg (e_var 0) (g_tup rfl (gs_cons (g_name 2 scLPlain.nd) (gs_cons (g_name 3 scLPlain.nd) gs_nil)))) ?_)
    by_cases h0 : gN 0 m = 0
    · have e : plainF m b = (m, if 0 ≤ b then 0 else -1) := by unfold plainF; rw [if_pos h0]
      have e2 : (m.filter fun x => !decide (x = 0)).isEmpty = true := by rw [filter_nil.mpr h0]; rfl
      refine s_if (p := true) (T.to tst e2) (fun _ => .stop (s_stop (s_retP (e_tup (ea_cons (e_var 2) (ea_cons (e_if (d := .int (plainF m b).2) (t_cmp (e_var 3) e_int ov_ge) (fun h => E.to e_int ?_) (fun h => E.to (e_bin e_int e_int ov_sub) ?_)) ea_nil))) ?_)) trivial) (fun h => Bool.noConfusion h)
      · rw [e]
        show PyData.int 0 = .int (if 0 ≤ b then 0 else -1)
        rw [if_pos (of_decide_eq_true h)]
      · rw [e]
        show PyData.int (0 - 1) = .int (if 0 ≤ b then 0 else -1)
        rw [if_neg (of_decide_eq_false h)]
        rfl
      · rw [e]
    · have e : plainF m b = (m.map fun x => x.fdiv (dv m b : Int), b.fdiv (dv m b : Int)) := by unfold plainF; rw [if_neg h0]
      have e2 : (m.filter fun x => !decide (x = 0)).isEmpty = false := by
        cases hf : m.filter fun x => !decide (x = 0) with
        | nil => exact absurd (filter_nil.mp hf) h0
        | cons x r => rfl
      have hz := dv_sz (b := b) h0 hs.a
      have hpos := dv_pos (b := b) h0
      have lg : ((dv m b : Nat) : Int).natAbs.log2 < 9000 := (szNatI hz).log (by decide)
      have eg : gN 0 (m ++ [b]) = dv m b := gN_app m b
      refine s_if (p := false) (T.to tst e2) (fun h => Bool.noConfusion h) (fun _ => .go s_nil' (s_cons (s_set 1 (d := .int (dv m b : Int)) (e_call k_law_divisor (ea_cons (E.to (e_O (eo_bin (e_O (eo_callTy (ea_cons (e_var 2) ea_nil) co_listT m_list)) (e_O (eo_lst (ea_cons (e_var 3) ea_nil))) (oo_cat ?_))) ?_) ea_nil) ⟨m ++ [b], rfl, by rw [eg]⟩) scLPlain.nd)
        (s_stop (s_retP (e_tup (ea_cons (e_callTy (ea_cons (e_O (eo_lc (own := [("one", 4)]) (i_tup (e_var 2)) (cl_map (f := PyData.int) (r := fun x : Int => .int (x.fdiv (dv m b : Int))) (js := [4]) (fun _ z => z) m (fun _ _ _ _ _ _ _ => g_name 4 scLPlain.nd) (fun _ _ _ _ _ _ _ => e_bin (e_var 4) (e_var 1) (ov_fdiv (by omega) lg)) (fun _ _ => Le.refl _)) ?_ scLPlain.nd (blkOk_by blkLP2))) ea_nil) cv_tupL m_tuple) (ea_cons (e_bin (e_var 3) (e_var 1) (ov_fdiv (by omega) lg)) ea_nil))) ?_))))
      · rw [List.length_map]
        show m.length + 1 ≤ 1000000
        omega
      · rw [List.map_append]
        rfl
      · rw [List.length_map]
        omega
      · rw [e]
        show _ = PyData.tuple [.tuple (List.map PyData.int (List.map _ m)), _]
        rw [List.map_map]
        rfl
/-! #### _law_reach -/
theorem scLReach : FnScope ["row", "point", "found", "one", "p", "q"] ["row", "point"] (defScope sLReach) := ⟨rfl, rfl, rfl, by decide +kernel, rfl, by decide +kernel, by decide +kernel⟩
abbrev cLReach (P : Program) (w : World) (K : PySem.W.Frag) (mg : Str → Option Value) (base : Heap) (a : CxA) : Cx := cx P w K mg base ["row", "point", "found", "one", "p", "q"] "_law_reach" sLReach a
abbrev ifD (z : Int × Fr) : PyData := .tuple [.int z.1, frD z.2]
theorem zip_frs (a : List Int) (xs : List Fr) : zipD (a.map PyData.int) (xs.map frD) = (a.zip xs).map ifD := by
  unfold zipD
  rw [List.zip_map, List.map_map]
  rfl
theorem addF_fo {n m k : Nat} {x y : Fr} (h : Fo n x) (g : Fo m y) (hk : n + m < k) : Fo k (addF x y) := by
  have hz : x.2 * y.2 ≠ 0 := Int.mul_ne_zero (by have := h.pos; omega) (by have := g.pos; omega)
  exact ⟨den_pos hz, num_size _ ((h.s1.mul g.s2).add (g.s1.mul h.s2) hk (by omega)), den_size _ ((h.s2.mul g.s2).mono (by omega))⟩
theorem f2_of {n m : Nat} {x y : Fr} (h : Fo n x) (g : Fo m y) (hn : n ≤ 4400) (hm : m ≤ 4400) : F2 x.1 x.2 y.1 y.2 :=
  ⟨by have := h.pos; omega, by have := g.pos; omega, h.s1.mono hn, h.s2.mono hn, g.s1.mono hm, g.s2.mono hm⟩
theorem lreach_loop (dL : Def P w K mg base "_law_least" 1 ["a", "b"] (spP K rFrac)) (dP : Def P w K mg base "_law_plus" 2 ["x", "y"] (spP K rPlus)) {a : CxA} (hr : Rm 2 (cLReach P w K mg base a).A) (r q : PyData) : ∀ (zs : List (Int × Fr)) (f : Fr) (m : Nat), Fo m f → m + 332 * zs.length ≤ 4400 → (∀ z ∈ zs, Sz 200 z.1 ∧ Fo 130 z.2) →
    Loop (cLReach P w K mg base a) (forT (bodyAt sLReach 1)) (lpB (bodyAt sLReach 1)) (zs.map ifD) [.dat r, .dat q, .dat (frD f), .un, .un, .un] (.nx [.dat r, .dat q, .dat (frD (lawReachF zs f)), .un, .un, .un])
  | [], f, m, _, _, _ => .nil
  | z :: zs, f, m, hf, hm, hz => by
    obtain ⟨h1, h2⟩ := hz z List.mem_cons_self
    have k_law_least := dL.known hr
    have k_law_plus := dP.known hr
    rw [List.length_cons] at hm
    have fz : Fo 330 (red (z.1 * z.2.1) z.2.2) := red_fo (by have := h2.pos; omega) (h1.mul h2.s1) (h2.s2.mono (by decide))
    exact .nx (g_tup rfl (gs_cons (g_name 3 scLReach.nd) (gs_cons (g_tup rfl (gs_cons (g_name 4 scLReach.nd) (gs_cons (g_name 5 scLReach.nd) gs_nil))) gs_nil)))
      (s_cons (s_set 2 (e_call k_law_plus (ea_cons (e_var 2) (ea_cons (e_call k_law_least (ea_cons (e_bin (e_var 3) (e_var 4) (ov_mul (h1.cmul h2.s1 (by decide)))) (ea_cons (e_var 5) ea_nil)) ⟨_, _, rfl, by have := h2.pos; omega, h2.s2.mono (by decide), rfl⟩) ea_nil)) ⟨_, _, _, _, rfl, f2_of hf fz (by omega) (by decide), rfl⟩) scLReach.nd) (s_nil (le_cons (le_cons (le_cons (le_un (le_un (le_un le_nil))))))))
      (lreach_loop dL dP hr r q zs (addF f (red (z.1 * z.2.1) z.2.2)) (m + 331) (addF_fo hf fz (by omega)) (by omega) fun y hy => hz y (List.mem_cons_of_mem _ hy))
theorem ok_lreach (hp : DL.Put K mg "_law_reach" sLReach) (m_zip : mg "zip" = none) (dL : Def P w K mg base "_law_least" 1 ["a", "b"] (spP K rFrac)) (dP : Def P w K mg base "_law_plus" 2 ["x", "y"] (spP K rPlus)) : Def P w K mg base "_law_reach" 3 ["row", "point"] (spP K rReach) := by
  refine def_P hp scLReach (fun _ _ _ _ _ _ us hl => match us, hl with | [_, _], _ => rfl) (by decide) (fun ds d h => ?_) (fun a hr ds d h => ?_)
  · obtain ⟨_, _, rfl, _⟩ := h
    rfl
  · obtain ⟨⟨m, b⟩, xs, rfl, h1, h2, rfl⟩ := h
    have hz7 : (m.zip xs).length ≤ 7 := by
      have := h2.len
      rw [List.length_zip]
      omega
    have hl := lreach_loop dL dP (a := a) hr (rowD (m, b)) (ptD xs) (m.zip xs) (0, 1) 1 ⟨by decide, sz_lt (by decide), sz_lt (by decide)⟩ (by omega) fun z hz => ⟨h1.a _ (List.of_mem_zip hz).1, h2.fo _ (List.of_mem_zip hz).2⟩
    rw [← zip_frs, reach_eq h2.pos] at hl
    exact .rt (s_cons (s_set 2 (d := frD (0, 1)) (e_tup (ea_cons e_int (ea_cons e_int ea_nil))) scLReach.nd) (s_cons (s_for (i_zip (k := true) (j := true) (ea_cons (e_ixt (e_var 0)) (ea_cons (e_var 1) ea_nil)) m_zip) hl) (s_stop (s_retP (e_var 2)))))
/-! #### _law_over -/
/-! #### _law_row_of -/
theorem scLRowOf : FnScope ["members", "bound", "many", "p", "q"] ["members", "bound"] (defScope sLRowOf) := ⟨rfl, rfl, rfl, by decide +kernel, rfl, by decide +kernel, by decide +kernel⟩
abbrev cLRowOf (P : Program) (w : World) (K : PySem.W.Frag) (mg : Str → Option Value) (base : Heap) (a : CxA) : Cx := cx P w K mg base ["members", "bound", "many", "p", "q"] "_law_row_of" sLRowOf a
theorem lcm_as (m : Nat) {q : Int} (hq : 0 < q) : (m : Int) * q.fdiv ((Nat.gcd m q.natAbs : Nat) : Int) = ((Nat.lcm m q.natAbs : Nat) : Int) := by
  obtain ⟨n, rfl⟩ : ∃ n : Nat, q = (n : Int) := ⟨q.toNat, by omega⟩
  rw [Int.natAbs_natCast]
  have hg : 0 < Nat.gcd m n := Nat.gcd_pos_of_pos_right _ (by omega)
  have e : ((n : Int)).fdiv ((Nat.gcd m n : Nat) : Int) = ((n / Nat.gcd m n : Nat) : Int) := by
    rw [Int.fdiv_eq_ediv_of_nonneg _ (by omega), Int.natCast_ediv]
  rw [e, ← Int.natCast_mul]
  congr 1
  unfold Nat.lcm
  rw [Nat.mul_div_assoc _ (Nat.gcd_dvd_right m n)]
theorem gN_two (m : Nat) (q : Int) : gN 0 [(m : Int), q] = Nat.gcd m q.natAbs := by
  show Nat.gcd (Nat.gcd 0 ((m : Int)).natAbs) q.natAbs = _
  rw [Nat.gcd_zero_left, Int.natAbs_natCast]
theorem lcm_growN {m k n : Nat} {x : Fr} (h : m < 2 ^ k) (hx : Fo n x) : Nat.lcm m x.2.natAbs < 2 ^ (k + n) := by
  have := lcF_sz (n := n) [x] m k h fun y hy => by
    rw [List.mem_singleton.mp hy]
    exact hx.s2
  rw [List.length_singleton, Nat.mul_one] at this
  exact this
theorem lrow_loop (dD : Def P w K mg base "_law_divisor" 1 ["numbers"] (spP K rDiv)) {a : CxA} (hr : Rm 2 (cLRowOf P w K mg base a).A) (r b : PyData) : ∀ (xs : List Fr) (m k : Nat), m < 2 ^ k → k + 1400 * xs.length < 100000 → (∀ x ∈ xs, Fo 1400 x) →
    Loop (cLRowOf P w K mg base a) (forT (bodyAt sLRowOf 1)) (lpB (bodyAt sLRowOf 1)) (xs.map frD) [.dat r, .dat b, .dat (.int (m : Int)), .un, .un] (.nx [.dat r, .dat b, .dat (.int ((lcF m xs : Nat) : Int)), .un, .un])
  | [], m, k, _, _, _ => .nil
  | x :: xs, m, k, hm, hk, hx => by
    have fx := hx x List.mem_cons_self
    have k_law_divisor := dD.known hr
    rw [List.length_cons] at hk
    have hx0 := fx.pos
    have hg : 0 < Nat.gcd m x.2.natAbs := Nat.gcd_pos_of_pos_right _ (by omega)
    have sg : Sz 1400 ((Nat.gcd m x.2.natAbs : Nat) : Int) := szNatI (Nat.lt_of_le_of_lt (Nat.gcd_le_right _ (by omega)) fx.s2)
    have sq : Sz 1400 (x.2.fdiv ((Nat.gcd m x.2.natAbs : Nat) : Int)) := fx.s2.of_le (natAbs_fdiv_le _ _ (Int.ofNat_dvd_left.mpr (Nat.gcd_dvd_right _ _)))
    exact .nx (g_tup rfl (gs_cons (g_name 3 scLRowOf.nd) (gs_cons (g_name 4 scLRowOf.nd) gs_nil)))
      (s_cons (s_set 2 (E.to (e_bin (e_var 2) (e_bin (e_var 4) (e_call k_law_divisor (ea_cons (e_O (eo_lst (ea_cons (e_var 2) (ea_cons (e_var 4) ea_nil)))) ea_nil) ⟨[(m : Int), x.2], rfl, by rw [gN_two]⟩) (ov_fdiv (by omega) (sg.log (by decide)))) (ov_mul ((szNatI hm).cmul sq (by omega)))) (by rw [lcm_as m hx0])) scLRowOf.nd) (s_nil (le_cons (le_cons (le_cons (le_un (le_un le_nil)))))))
      (lrow_loop dD hr r b xs (Nat.lcm m x.2.natAbs) (k + 1400) (lcm_growN hm fx) (by omega) fun y hy => hx y (List.mem_cons_of_mem _ hy))
abbrev lrE : Expr := pt 0 (pt 0 (pt 0 (pt 0 (exprOf (bodyAt sLRowOf 2)))))
theorem blkLRow : blkC ["members", "bound", "many", "p", "q"] (defScope sLRowOf) (cmS lrE) [("p", 3), ("q", 4)] = true := by decide +kernel
theorem lcF_last (ms : List Fr) (bd : Fr) : lcF 1 (ms ++ [bd]) = lcF bd.2.natAbs ms := by
  have h1 : lcF 1 (ms ++ [bd]) = Nat.lcm (lcF 1 ms) bd.2.natAbs := by
    unfold lcF
    rw [List.foldl_append]
    rfl
  rw [h1, ← lcF_lcm, Nat.lcm_one_left]
def rRowOfS (ds : List PyData) (d : PyData) : Prop := ∃ (k : Bool) (ms : List Fr) (bd : Fr), ds = [sqD k (ms.map frD), frD bd] ∧ Pt ms ∧ Fo 1400 bd ∧ d = rowD (rowOfF ms bd)
theorem ok_lrow (hp : DL.Put K mg "_law_row_of" sLRowOf) (m_list : mg "list" = none) (m_tuple : mg "tuple" = none) (dD : Def P w K mg base "_law_divisor" 1 ["numbers"] (spP K rDiv)) (dP : Def P w K mg base "_law_plain" 2 ["row"] (spP K rPlain)) : Def P w K mg base "_law_row_of" 3 ["members", "bound"] (spP K rRowOfS) := by
  refine def_P hp scLRowOf (fun _ _ _ _ _ _ us hl => match us, hl with | [_, _], _ => rfl) (by decide) (fun ds d h => ?_) (fun a hr ds d h => ?_)
  · obtain ⟨_, _, _, rfl, _⟩ := h
    rfl
  · obtain ⟨k, ms, ⟨p, q⟩, rfl, hs, hb, rfl⟩ := h
    cases k with
    | true =>
      have k_law_plain := dP.known hr
      have hq : 0 < q := hb.pos
      have hq0 : q ≠ 0 := by omega
      have hm : q.natAbs < 2 ^ 1400 := hb.s2
      have hM := lcF_sz7 hs hm
      have hall : ∀ x ∈ ms ++ [(p, q)], Fo 1400 x := fun x hx => by
        rcases List.mem_append.mp hx with h | h
        · exact (hs.fo x h).mono (by decide)
        · rw [List.mem_singleton.mp h]
          exact hb
      have hl := lrow_loop dD (a := a) hr (ptD ms) (frD (p, q)) (ms ++ [(p, q)]) 1 1 (by decide) (by have := hs.len; rw [List.length_append]; show 1 + 1400 * (ms.length + 1) < 100000; omega) hall
      rw [lcF_last] at hl
      have sM : Sz 2310 ((lcF q.natAbs ms : Nat) : Int) := szNatI hM
      have hro := rowOf_ro hs hb
      have sf : ∀ {x : Int}, x ∣ ((lcF q.natAbs ms : Nat) : Int) → Sz 2310 (((lcF q.natAbs ms : Nat) : Int).fdiv x) := fun {x} hd => sM.of_le (natAbs_fdiv_le _ _ hd)
      have eq : ((q.natAbs : Nat) : Int) = q := by omega
      have hqd : q ∣ ((lcF q.natAbs ms : Nat) : Int) := by
        have := Int.ofNat_dvd.mpr (lcF_dvd ms q.natAbs).1
        rw [eq] at this
        exact this
      have el : (ms ++ [(p, q)]).map frD = ms.map frD ++ [frD (p, q)] := by rw [List.map_append]; rfl
      rw [el] at hl
      refine .rt (s_cons (s_set 2 (d := .int ((1 : Nat) : Int)) e_int scLRowOf.nd) (s_cons (s_for (i_list (e_O (eo_bin (e_O (eo_callTy (ea_cons (e_var 0) ea_nil) co_listT m_list)) (e_O (eo_lst (ea_cons (e_var 1) ea_nil))) (oo_cat ?_)))) hl)
        (s_stop (s_retP (e_call k_law_plain (ea_cons (e_tup (ea_cons (E.to (e_callTy (ea_cons (e_O (eo_lc (own := [("p", 3), ("q", 4)]) (i_tup (e_var 0)) (cl_map (f := frD) (r := fun x : Fr => .int (x.1 * ((lcF q.natAbs ms : Nat) : Int).fdiv x.2)) (js := [3, 4]) (fun _ z => z) ms (fun _ _ _ _ _ _ _ => g_tup rfl (gs_cons (g_name 3 scLRowOf.nd) (gs_cons (g_name 4 scLRowOf.nd) gs_nil)))
          (fun x hx _ _ _ _ _ => e_bin (e_var 3) (e_bin (e_var 2) (e_var 4) (ov_fdiv (by have := hs.pos x hx; omega) ((hs.fo x hx).s2.log (by decide)))) (ov_mul ((hs.fo x hx).s1.cmul (sf (dvd_lc hs.pos _ x hx)) (by decide)))) (fun _ _ => Le.refl _)) ?_ scLRowOf.nd (blkOk_by blkLRow))) ea_nil) cv_tupL m_tuple) ?_)
          (ea_cons (e_bin (e_ixt (e_var 1)) (e_bin (e_var 2) (e_ixt (e_var 1)) (ov_fdiv hq0 (hb.s2.log (by decide)))) (ov_mul (hb.s1.cmul (sf hqd) (by decide)))) ea_nil))) ea_nil) ⟨(upF (lcF q.natAbs ms) ms, p * ((lcF q.natAbs ms : Nat) : Int).fdiv q), rfl, hro.mono (by decide), rfl⟩)))))
      · have := hs.len
        rw [List.length_map]
        show ms.length + 1 ≤ 1000000
        omega
      · have := hs.len
        rw [List.length_map]
        omega
      · unfold upF
        rw [List.map_map]
        rfl
    | false =>
      have k_law_plain := dP.known hr
      have hq : 0 < q := hb.pos
      have hq0 : q ≠ 0 := by omega
      have hm : q.natAbs < 2 ^ 1400 := hb.s2
      have hM := lcF_sz7 hs hm
      have hall : ∀ x ∈ ms ++ [(p, q)], Fo 1400 x := fun x hx => by
        rcases List.mem_append.mp hx with h | h
        · exact (hs.fo x h).mono (by decide)
        · rw [List.mem_singleton.mp h]
          exact hb
      have hl := lrow_loop dD (a := a) hr (.list (ms.map frD)) (frD (p, q)) (ms ++ [(p, q)]) 1 1 (by decide) (by have := hs.len; rw [List.length_append]; show 1 + 1400 * (ms.length + 1) < 100000; omega) hall
      rw [lcF_last] at hl
      have sM : Sz 2310 ((lcF q.natAbs ms : Nat) : Int) := szNatI hM
      have hro := rowOf_ro hs hb
      have sf : ∀ {x : Int}, x ∣ ((lcF q.natAbs ms : Nat) : Int) → Sz 2310 (((lcF q.natAbs ms : Nat) : Int).fdiv x) := fun {x} hd => sM.of_le (natAbs_fdiv_le _ _ hd)
      have eq : ((q.natAbs : Nat) : Int) = q := by omega
      have hqd : q ∣ ((lcF q.natAbs ms : Nat) : Int) := by
        have := Int.ofNat_dvd.mpr (lcF_dvd ms q.natAbs).1
        rw [eq] at this
        exact this
      have el : (ms ++ [(p, q)]).map frD = ms.map frD ++ [frD (p, q)] := by rw [List.map_append]; rfl
      rw [el] at hl
      refine .rt (s_cons (s_set 2 (d := .int ((1 : Nat) : Int)) e_int scLRowOf.nd) (s_cons (s_for (i_list (e_O (eo_bin (e_O (eo_callTy (ea_cons (e_var 0) ea_nil) co_listL m_list)) (e_O (eo_lst (ea_cons (e_var 1) ea_nil))) (oo_cat ?_)))) hl)
        (s_stop (s_retP (e_call k_law_plain (ea_cons (e_tup (ea_cons (E.to (e_callTy (ea_cons (e_O (eo_lc (own := [("p", 3), ("q", 4)]) (i_list (e_var 0)) (cl_map (f := frD) (r := fun x : Fr => .int (x.1 * ((lcF q.natAbs ms : Nat) : Int).fdiv x.2)) (js := [3, 4]) (fun _ z => z) ms (fun _ _ _ _ _ _ _ => g_tup rfl (gs_cons (g_name 3 scLRowOf.nd) (gs_cons (g_name 4 scLRowOf.nd) gs_nil)))
          (fun x hx _ _ _ _ _ => e_bin (e_var 3) (e_bin (e_var 2) (e_var 4) (ov_fdiv (by have := hs.pos x hx; omega) ((hs.fo x hx).s2.log (by decide)))) (ov_mul ((hs.fo x hx).s1.cmul (sf (dvd_lc hs.pos _ x hx)) (by decide)))) (fun _ _ => Le.refl _)) ?_ scLRowOf.nd (blkOk_by blkLRow))) ea_nil) cv_tupL m_tuple) ?_)
          (ea_cons (e_bin (e_ixt (e_var 1)) (e_bin (e_var 2) (e_ixt (e_var 1)) (ov_fdiv hq0 (hb.s2.log (by decide)))) (ov_mul (hb.s1.cmul (sf hqd) (by decide)))) ea_nil))) ea_nil) ⟨(upF (lcF q.natAbs ms) ms, p * ((lcF q.natAbs ms : Nat) : Int).fdiv q), rfl, hro.mono (by decide), rfl⟩)))))
      · have := hs.len
        rw [List.length_map]
        show ms.length + 1 ≤ 1000000
        omega
      · have := hs.len
        rw [List.length_map]
        omega
      · unfold upF
        rw [List.map_map]
        rfl
end
end K03
end part_K03i
section part_K03p
namespace K03
open L2 PyProof.Rows PySem.Spec PySem DL DLr Num
/-! ### plain rows twice -/
theorem gN_scale (g : Nat) : ∀ (a : List Int) (k : Nat), gN (g * k) (a.map fun x => x * (g : Int)) = g * gN k a
  | [], k => rfl
  | x :: a, k => by
    show gN (Nat.gcd (g * k) (x * (g : Int)).natAbs) (a.map fun x => x * (g : Int)) = g * gN (Nat.gcd k x.natAbs) a
    rw [Int.natAbs_mul, Int.natAbs_natCast, Nat.mul_comm x.natAbs g, Nat.gcd_mul_left, gN_scale g a (Nat.gcd k x.natAbs)]
theorem gN_scale0 (g : Nat) (a : List Int) : gN 0 (a.map fun x => x * (g : Int)) = g * gN 0 a := by
  have := gN_scale g a 0
  rw [Nat.mul_zero] at this
  exact this
theorem fdiv_back {x : Int} {g : Nat} (h : (g : Int) ∣ x) (hg : 0 < g) : x.fdiv (g : Int) * (g : Int) = x := by
  obtain ⟨c, rfl⟩ := h
  rw [Int.mul_fdiv_cancel_left c (by omega), Int.mul_comm]
/-- what plainF makes of a row that is not all noughts -/
theorem plain_parts {a : List Int} {b : Int} (h : gN 0 a ≠ 0) : (plainF a b).1.map (fun x => x * (dv a b : Int)) = a ∧ (plainF a b).2 * (dv a b : Int) = b ∧ 0 < dv a b := by
  have hp := dv_pos (b := b) h
  have e : plainF a b = (a.map fun x => x.fdiv (dv a b : Int), b.fdiv (dv a b : Int)) := by unfold plainF; rw [if_neg h]
  rw [e]
  refine ⟨?_, fdiv_back dv_b hp, hp⟩
  show List.map _ (List.map _ a) = a
  rw [List.map_map]
  have : ∀ x ∈ a, ((fun x : Int => x * (dv a b : Int)) ∘ fun x : Int => x.fdiv (dv a b : Int)) x = x := fun x hx => fdiv_back (dv_mem hx) hp
  rw [List.map_congr_left this, List.map_id'']
  exact fun _ => rfl
theorem plain_gN {a : List Int} {b : Int} (h : gN 0 a ≠ 0) : gN 0 (plainF a b).1 ≠ 0 := fun z => by
  obtain ⟨h1, _, _⟩ := plain_parts (b := b) h
  have := gN_scale0 (dv a b) (plainF a b).1
  rw [h1, z, Nat.mul_zero] at this
  exact h this
theorem plain_dv {a : List Int} {b : Int} (h : gN 0 a ≠ 0) : dv (plainF a b).1 (plainF a b).2 = 1 := by
  obtain ⟨h1, h2, h3⟩ := plain_parts (b := b) h
  have e1 := gN_scale0 (dv a b) (plainF a b).1
  rw [h1] at e1
  have e2 : b.natAbs = dv a b * (plainF a b).2.natAbs := by
    have : ((plainF a b).2 * (dv a b : Int)).natAbs = b.natAbs := by rw [h2]
    rw [← this, Int.natAbs_mul, Int.natAbs_natCast, Nat.mul_comm]
  have e3 : dv a b = dv a b * dv (plainF a b).1 (plainF a b).2 := by
    have z : dv a b = Nat.gcd (gN 0 a) b.natAbs := rfl
    have y : dv (plainF a b).1 (plainF a b).2 = Nat.gcd (gN 0 (plainF a b).1) (plainF a b).2.natAbs := rfl
    rw [y, ← Nat.gcd_mul_left, ← e1, ← e2]
    exact z
  have e4 : dv a b * 1 = dv a b * dv (plainF a b).1 (plainF a b).2 := by rw [Nat.mul_one]; exact e3
  exact (Nat.eq_of_mul_eq_mul_left h3 e4).symm
theorem plain_twice (a : List Int) (b : Int) : plainF (plainF a b).1 (plainF a b).2 = plainF a b := by
  by_cases h : gN 0 a = 0
  · have e : ∀ b, plainF a b = (a, if 0 ≤ b then 0 else -1) := fun b => by unfold plainF; rw [if_pos h]
    rw [e b]
    show plainF a (if 0 ≤ b then 0 else -1) = _
    rw [e]
    congr 1
    split <;> decide
  · have h2 := plain_gN (b := b) h
    have h3 := plain_dv (b := b) h
    generalize plainF a b = r at h2 h3 ⊢
    obtain ⟨c, d⟩ := r
    show plainF c d = (c, d)
    have h3' : dv c d = 1 := h3
    unfold plainF
    rw [if_neg h2, h3']
    have : ∀ x : Int, x.fdiv ((1 : Nat) : Int) = x := fun x => Int.fdiv_one x
    rw [this, List.map_congr_left (fun x _ => this x), List.map_id'']
    exact fun _ => rfl
/-! ### rows as values -/
theorem eqv_ints : ∀ (a c : List Int), PyData.eqvAll (a.map PyData.int) (c.map PyData.int) = decide (a = c)
  | [], [] => by simp [PyData.eqvAll]
  | [], _ :: _ => by simp [PyData.eqvAll]
  | _ :: _, [] => by simp [PyData.eqvAll]
  | x :: a, y :: c => by
    have := eqv_ints a c
    simp only [List.map_cons, PyData.eqvAll, PyData.eqv, this]
    by_cases h : x = y
    · subst h
      simp
    · simp [h]
theorem eqv_row (r q : Row) : PyData.eqv (rowD r) (rowD q) = decide (r = q) := by
  obtain ⟨a, b⟩ := r
  obtain ⟨c, d⟩ := q
  simp only [rowD, PyData.eqv, PyData.eqvAll, eqv_ints, Bool.and_true, Prod.mk.injEq]
  by_cases h : a = c <;> by_cases h2 : b = d <;> simp [h, h2]
theorem eqv_rows : ∀ (rs qs : List Row), PyData.eqvAll (rs.map rowD) (qs.map rowD) = decide (rs = qs)
  | [], [] => by simp [PyData.eqvAll]
  | [], _ :: _ => by simp [PyData.eqvAll]
  | _ :: _, [] => by simp [PyData.eqvAll]
  | x :: a, y :: c => by
    have := eqv_rows a c
    rw [List.map_cons, List.map_cons, PyData.eqvAll, this, eqv_row]
    by_cases h : x = y
    · subst h
      simp
    · simp [h]
theorem eqv_room (n m : Int) (rs qs : List Row) : PyData.eqv (roomD n rs) (roomD m qs) = decide (n = m ∧ rs = qs) := by
  simp only [roomD, PyData.eqv, PyData.eqvAll, eqv_rows, Bool.and_true]
  by_cases h : n = m <;> by_cases h2 : rs = qs <;> simp [h, h2]
/-! ### always, never -/
theorem noughts_iff {a : List Int} : noughts a = true ↔ gN 0 a = 0 := by
  rw [gN_zero]
  unfold noughts
  rw [Bool.not_eq_true', List.any_eq_false]
  constructor
  · intro h x hx
    have := h x hx
    simpa using this
  · intro h x hx
    have := h x hx
    simp [this]
theorem zeros_of : ∀ {a : List Int}, (∀ x ∈ a, x = 0) → a = List.replicate a.length 0
  | [], _ => rfl
  | x :: a, h => by
    have h1 := h x List.mem_cons_self
    have h2 := zeros_of (a := a) fun y hy => h y (List.mem_cons_of_mem _ hy)
    subst h1
    rw [List.length_cons, List.replicate_succ]
    congr 1
theorem gN_reps (n : Nat) : gN 0 (List.replicate n 0) = 0 := gN_noughts _ fun x hx => (List.mem_replicate.mp hx).2
theorem always_eq {a : List Int} {b : Int} {n : Nat} (h : a.length = n) : (noughts a && decide (0 ≤ b)) = decide (plainF a b = (List.replicate n 0, 0)) := by
  subst h
  by_cases h0 : gN 0 a = 0
  · have e : plainF a b = (a, if 0 ≤ b then 0 else -1) := by unfold plainF; rw [if_pos h0]
    have ea := zeros_of (gN_zero.mp h0)
    rw [noughts_iff.mpr h0, e, ← ea, Bool.true_and]
    by_cases hb : 0 ≤ b
    · rw [if_pos hb]; simp [hb]
    · rw [if_neg hb]; simp [hb]
  · have h1 : noughts a = false := by
      cases hn : noughts a with
      | true => exact absurd (noughts_iff.mp hn) h0
      | false => rfl
    have h2 : plainF a b ≠ (List.replicate a.length 0, 0) := fun z => plain_gN (b := b) h0 (by rw [z]; exact gN_reps _)
    rw [h1, Bool.false_and, decide_eq_false h2]
theorem never_eq {a : List Int} {b : Int} {n : Nat} (h : a.length = n) : (noughts a && decide (b < 0)) = decide (plainF a b = (List.replicate n 0, -1)) := by
  subst h
  by_cases h0 : gN 0 a = 0
  · have e : plainF a b = (a, if 0 ≤ b then 0 else -1) := by unfold plainF; rw [if_pos h0]
    have ea := zeros_of (gN_zero.mp h0)
    rw [noughts_iff.mpr h0, e, ← ea, Bool.true_and]
    by_cases hb : 0 ≤ b
    · rw [if_pos hb]; simp [hb]
    · rw [if_neg hb]; simp [Int.not_le.mp hb]
  · have h1 : noughts a = false := by
      cases hn : noughts a with
      | true => exact absurd (noughts_iff.mp hn) h0
      | false => rfl
    have h2 : plainF a b ≠ (List.replicate a.length 0, -1) := fun z => plain_gN (b := b) h0 (by rw [z]; exact gN_reps _)
    rw [h1, Bool.false_and, decide_eq_false h2]
/-! ### signs -/
theorem num_sign {p q : Int} (hq : 0 < q) : (num p q = 0 ↔ p = 0) ∧ (num p q < 0 ↔ p < 0) := by
  have e := num_eq (p := p) (q := q) (by omega)
  have g := sg_pos (p := p) hq
  generalize num p q = x at e ⊢
  generalize sg p q = s at e g
  subst e
  refine ⟨⟨fun h => by rw [h, Int.zero_mul], fun h => ?_⟩, ⟨fun h => Int.mul_neg_of_neg_of_pos h g, fun h => ?_⟩⟩
  · rcases Int.mul_eq_zero.mp h with z | z
    · exact z
    · omega
  · by_cases z : x < 0
    · exact z
    · have := Int.mul_nonneg (show 0 ≤ x by omega) (show 0 ≤ s by omega)
      omega
theorem mul_sign {x s : Int} (g : 0 < s) : (x * s = 0 ↔ x = 0) ∧ (x * s < 0 ↔ x < 0) := by
  refine ⟨⟨fun h => ?_, fun h => by rw [h, Int.zero_mul]⟩, ⟨fun h => ?_, fun h => Int.mul_neg_of_neg_of_pos h g⟩⟩
  · rcases Int.mul_eq_zero.mp h with z | z
    · exact z
    · omega
  · by_cases z : x < 0
    · exact z
    · have := Int.mul_nonneg (show 0 ≤ x by omega) (show 0 ≤ s by omega)
      omega
theorem slack_sign {r : Row} {xs : List Fr} (h : ∀ x ∈ xs, 0 < x.2) : ((slackF r xs).1 = 0 ↔ sgn xs r = 0) ∧ ((slackF r xs).1 < 0 ↔ sgn xs r < 0) := by
  have hM : 0 < ((lcF 1 xs : Nat) : Int) := by
    have := lcF_pos xs 1 (by decide) h
    omega
  have hg := sg_pos (p := dot r.1 (upF (lcF 1 xs) xs)) hM
  have e1 := num_eq (p := dot r.1 (upF (lcF 1 xs) xs)) (q := ((lcF 1 xs : Nat) : Int)) (by omega)
  have e2 := den_eq (p := dot r.1 (upF (lcF 1 xs) xs)) (q := ((lcF 1 xs : Nat) : Int)) (by omega)
  have hd : 0 < (reachF r.1 xs).2 := den_pos (by omega)
  have e3 : (r.2 * (reachF r.1 xs).2 - (reachF r.1 xs).1) * sg (dot r.1 (upF (lcF 1 xs) xs)) ((lcF 1 xs : Nat) : Int) = sgn xs r := by
    unfold sgn
    rw [Int.sub_mul, Int.mul_assoc]
    show r.2 * (den _ _ * _) - num _ _ * _ = _
    rw [e1, e2]
  have s1 := num_sign (p := r.2 * (reachF r.1 xs).2 - (reachF r.1 xs).1) hd
  have s2 := mul_sign (x := r.2 * (reachF r.1 xs).2 - (reachF r.1 xs).1) hg
  rw [e3] at s2
  exact ⟨s1.1.trans s2.1.symm, s1.2.trans s2.2.symm⟩
theorem dot_scale (g : Int) : ∀ (a w : List Int), dot (a.map fun x => x * g) w = dot a w * g
  | [], w => by show (0 : Int) = 0 * g; rw [Int.zero_mul]
  | x :: a, [] => by show (0 : Int) = 0 * g; rw [Int.zero_mul]
  | x :: a, y :: w => by
    have ih := dot_scale g a w
    show dotF (0 + x * g * y) ((a.map fun x => x * g).zip w) = dotF (0 + x * y) (a.zip w) * g
    rw [dotF_add, dotF_add (a.zip w)]
    show 0 + x * g * y + dot (a.map fun x => x * g) w = (0 + x * y + dot a w) * g
    rw [ih, Int.zero_add, Int.zero_add, Int.add_mul, Int.mul_right_comm]
theorem dot_zero : ∀ {a : List Int} (w : List Int), (∀ x ∈ a, x = 0) → dot a w = 0
  | [], w, _ => rfl
  | x :: a, [], _ => rfl
  | x :: a, y :: w, h => by
    have hx := h x List.mem_cons_self
    have ih := dot_zero (a := a) w fun z hz => h z (List.mem_cons_of_mem _ hz)
    show dotF (0 + x * y) (a.zip w) = 0
    rw [dotF_add]
    show 0 + x * y + dot a w = 0
    rw [ih, hx, Int.zero_mul]
    rfl
theorem plain_sign {r : Row} {xs : List Fr} (h : ∀ x ∈ xs, 0 < x.2) : sgn xs (plainF r.1 r.2) < 0 ↔ sgn xs r < 0 := by
  obtain ⟨a, b⟩ := r
  have hM : 0 < ((lcF 1 xs : Nat) : Int) := by
    have := lcF_pos xs 1 (by decide) h
    omega
  by_cases h0 : gN 0 a = 0
  · have e : plainF a b = (a, if 0 ≤ b then 0 else -1) := by unfold plainF; rw [if_pos h0]
    have d0 := dot_zero (upF (lcF 1 xs) xs) (gN_zero.mp h0)
    show sgn xs (plainF a b) < 0 ↔ _
    rw [e]
    unfold sgn
    show (if 0 ≤ b then (0 : Int) else -1) * _ - dot a _ < 0 ↔ b * _ - dot a _ < 0
    rw [d0, Int.sub_zero, Int.sub_zero, (mul_sign hM).2, (mul_sign hM).2]
    split <;> omega
  · obtain ⟨h1, h2, h3⟩ := plain_parts (b := b) h0
    have e : sgn xs (a, b) = sgn xs (plainF a b) * (dv a b : Int) := by
      unfold sgn
      show b * _ - dot a _ = ((plainF a b).2 * _ - dot (plainF a b).1 _) * _
      have hd := dot_scale (dv a b : Int) (plainF a b).1 (upF (lcF 1 xs) xs)
      rw [h1] at hd
      rw [hd, Int.sub_mul, Int.mul_right_comm, h2]
    rw [e, (mul_sign (show 0 < (dv a b : Int) by omega)).2]
end K03
end part_K03p
section part_K03q
namespace K03
open L2 PyProof.Rows PySem.Spec PySem DL Num
abbrev sRoomRows : Stmt := top 15
abbrev sJoined : Stmt := top 16
abbrev sProduct : Stmt := top 17
abbrev sMembers : Stmt := top 18
abbrev sShifted : Stmt := top 19
abbrev sScaled : Stmt := top 20
abbrev sMirrored : Stmt := top 21
abbrev sPlaced : Stmt := top 22
abbrev sUnit : Stmt := top 23
abbrev sBoxed : Stmt := top 24
abbrev sOpen : Stmt := top 25
abbrev sWorth : Stmt := top 26
abbrev sImage : Stmt := top 27
abbrev sNext : Stmt := top 28
abbrev plR (r : Row) : Row := plainF r.1 r.2
section
variable {P : Program} {w : World} {K : PySem.W.Frag} {mg : Str → Option Value} {base : Heap}
/-! #### room_of_rows, joined -/
def rRoomRows (ds : List PyData) (d : PyData) : Prop := ∃ (n : Int) (rows : List Row), ds = [.int n, .list (rows.map rowD)] ∧ (∀ r ∈ rows, Ro 8990 r) ∧ rows.length ≤ 1000 ∧ d = roomD n (rows.map plR)
theorem scRoomRows : FnScope ["n", "rows", "row"] ["n", "rows"] (defScope sRoomRows) := ⟨rfl, rfl, rfl, by decide +kernel, rfl, by decide +kernel, by decide +kernel⟩
abbrev rrwE : Expr := pt 0 (pt 1 (exprOf (bodyAt sRoomRows 0)))
theorem blkRoomRows : blkC ["n", "rows", "row"] (defScope sRoomRows) (cmS rrwE) [("row", 2)] = true := by decide +kernel
theorem ok_roomRows (hp : DL.Put K mg "room_of_rows" sRoomRows) (m_tuple : mg "tuple" = none) (dP : Def P w K mg base "plain_row" 1 ["row"] (spP K rPlain)) : Def P w K mg base "room_of_rows" 2 ["n", "rows"] (spP K rRoomRows) := by
  refine def_P hp scRoomRows (fun _ _ _ _ _ _ us hl => match us, hl with | [_, _], _ => rfl) (by decide) (fun ds d h => ?_) (fun a hr ds d h => ?_)
  · obtain ⟨_, _, rfl, _⟩ := h
    rfl
  · obtain ⟨n, rows, rfl, h1, h2, rfl⟩ := h
    have k_plain_row := dP.known hr
    refine .rt (s_stop (s_retP (e_tup (ea_cons (e_var 0) (ea_cons (e_callTy (ea_cons (e_O (eo_lc (own := [("row", 2)]) (i_list (e_var 1)) (cl_map (f := rowD) (r := fun r : Row => rowD (plR r)) (js := [2]) (fun _ z => z) rows (fun _ _ _ _ _ _ _ => g_name 2 scRoomRows.nd) (fun r hr' _ _ _ _ _ => e_call k_plain_row (ea_cons (e_var 2) ea_nil) ⟨r, rfl, h1 r hr', rfl⟩) (fun _ _ => Le.refl _)) (by rw [List.length_map]; omega) scRoomRows.nd (blkOk_by blkRoomRows))) ea_nil) cv_tupL m_tuple) ea_nil))) ?_))
    show _ = PyData.tuple [_, .tuple ((rows.map plR).map rowD)]
    rw [List.map_map]
    rfl
def rJoined (ds : List PyData) (d : PyData) : Prop := ∃ (n m : Int) (a b : List Row), ds = [roomD n a, roomD m b] ∧ (∀ r ∈ a ++ b, Ro 8990 r) ∧ (a ++ b).length ≤ 1000 ∧ d = roomD n ((a ++ b).map plR)
theorem scJoined : FnScope ["one", "other"] ["one", "other"] (defScope sJoined) := ⟨rfl, rfl, rfl, by decide +kernel, rfl, by decide +kernel, by decide +kernel⟩
theorem ok_joined (hp : DL.Put K mg "joined" sJoined) (dR : Def P w K mg base "room_of_rows" 2 ["n", "rows"] (spP K rRoomRows)) : Def P w K mg base "joined" 3 ["one", "other"] (spP K rJoined) := by
  refine def_P hp scJoined (fun _ _ _ _ _ _ us hl => match us, hl with | [_, _], _ => rfl) (by decide) (fun ds d h => ?_) (fun c hr ds d h => ?_)
  · obtain ⟨_, _, _, _, rfl, _⟩ := h
    rfl
  · obtain ⟨n, m, a, b, rfl, h1, h2, rfl⟩ := h
    have k_room_of_rows := dR.known hr
    have e : (a ++ b).map rowD = a.map rowD ++ (b.map rowD ++ []) := by rw [List.append_nil, List.map_append]
    have ea : EA (cx P w K mg base ["one", "other"] "joined" sJoined c) (parts (pt 1 (exprOf (bodyAt sJoined 0)))) [.dat (roomD n a), .dat (roomD m b)] ((a ++ b).map rowD) [.dat (roomD n a), .dat (roomD m b)] := by
      rw [e]
      exact ea_star (k := true) (e_ixt (e_var 0)) (ea_star (k := true) (e_ixt (e_var 1)) ea_nil)
    exact .rt (s_stop (s_retP (e_call k_room_of_rows (ea_cons (e_ixt (e_var 0)) (ea_cons (e_O (eo_lst ea (by rw [List.length_map]; omega))) ea_nil)) ⟨n, a ++ b, rfl, h1, h2, rfl⟩)))
/-! #### product -/
def padR (m : Nat) (r : Row) : Row := (r.1 ++ List.replicate m 0, r.2)
def padL (n : Nat) (r : Row) : Row := (List.replicate n 0 ++ r.1, r.2)
def rProduct (ds : List PyData) (d : PyData) : Prop := ∃ (n m : Nat) (a b : List Row), ds = [roomD (n : Int) a, roomD (m : Int) b] ∧ n ≤ 7 ∧ m ≤ 7 ∧ (∀ r ∈ a, Ro 8000 r ∧ r.1.length = n) ∧ (∀ r ∈ b, Ro 8000 r ∧ r.1.length = m) ∧ a.length ≤ 100 ∧ b.length ≤ 100 ∧ d = roomD ((n + m : Nat) : Int) ((a.map (padR m) ++ b.map (padL n)).map plR)
theorem scProduct : FnScope ["one", "other", "rows", "ahead", "behind", "members", "bound"] ["one", "other"] (defScope sProduct) := ⟨rfl, rfl, rfl, by decide +kernel, rfl, by decide +kernel, by decide +kernel⟩
abbrev prE1 : Expr := exprOf (bodyAt sProduct 1)
abbrev prE2 : Expr := pt 1 (pt 1 (exprOf (bodyAt sProduct 2)))
theorem blkPr1 : blkC ["one", "other", "rows", "ahead", "behind", "members", "bound"] (defScope sProduct) (cmS prE1) [("members", 5), ("bound", 6)] = true := by decide +kernel
theorem blkPr2 : blkC ["one", "other", "rows", "ahead", "behind", "members", "bound"] (defScope sProduct) (cmS prE2) [("members", 5), ("bound", 6)] = true := by decide +kernel
theorem flat_reps (n : Nat) (d : PyData) : (List.replicate n [d]).flatten = List.replicate n d := by
  induction n with
  | zero => rfl
  | succ n ih => rw [List.replicate_succ, List.flatten_cons, ih, List.replicate_succ]; rfl
theorem zeros_map (n : Nat) : (List.replicate n [PyData.int 0]).flatten = (List.replicate n (0 : Int)).map PyData.int := by rw [flat_reps, List.map_replicate]
theorem sz0 {n : Nat} : Sz n 0 := by show (0 : Int).natAbs < 2 ^ n; exact Nat.pow_pos (by decide)
theorem ok_product (hp : DL.Put K mg "product" sProduct) (dR : Def P w K mg base "room_of_rows" 2 ["n", "rows"] (spP K rRoomRows)) : Def P w K mg base "product" 3 ["one", "other"] (spP K rProduct) := by
  refine def_P hp scProduct (fun _ _ _ _ _ _ us hl => match us, hl with | [_, _], _ => rfl) (by decide) (fun ds d h => ?_) (fun c hr ds d h => ?_)
  · obtain ⟨_, _, _, _, rfl, _⟩ := h
    rfl
  · obtain ⟨n, m, a, b, rfl, hn, hm, ha, hb, la, lb, rfl⟩ := h
    have k_room_of_rows := dR.known hr
    have hro : ∀ r ∈ a.map (padR m) ++ b.map (padL n), Ro 8990 r := fun r hr' => by
      rcases List.mem_append.mp hr' with h | h
      · obtain ⟨q, hq, rfl⟩ := List.mem_map.mp h
        refine ⟨fun x hx => ?_, (ha q hq).1.b.mono (by decide), ?_⟩
        · rcases List.mem_append.mp hx with hx | hx
          · exact ((ha q hq).1.a x hx).mono (by decide)
          · rw [(List.mem_replicate.mp hx).2]
            exact sz0
        · have := (ha q hq).2
          show (q.1 ++ List.replicate m 0).length ≤ 15
          rw [List.length_append, List.length_replicate]
          omega
      · obtain ⟨q, hq, rfl⟩ := List.mem_map.mp h
        refine ⟨fun x hx => ?_, (hb q hq).1.b.mono (by decide), ?_⟩
        · rcases List.mem_append.mp hx with hx | hx
          · rw [(List.mem_replicate.mp hx).2]
            exact sz0
          · exact ((hb q hq).1.a x hx).mono (by decide)
        · have := (hb q hq).2
          show (List.replicate n 0 ++ q.1).length ≤ 15
          rw [List.length_append, List.length_replicate]
          omega
    refine .rt (s_cons (s_asg (d := .tuple [.tuple ((List.replicate n (0 : Int)).map PyData.int), .tuple ((List.replicate m (0 : Int)).map PyData.int)]) (e_tup (ea_cons (E.to (e_bin (e_tup (ea_cons e_int ea_nil)) (e_ixt (e_var 0)) (ov_rep (by simp) (by omega) (by decide))) (by rw [zeros_map])) (ea_cons (E.to (e_bin (e_tup (ea_cons e_int ea_nil)) (e_ixt (e_var 1)) (ov_rep (by simp) (by omega) (by decide))) (by rw [zeros_map])) ea_nil))) (g_tup rfl (gs_cons (g_name 3 scProduct.nd) (gs_cons (g_name 4 scProduct.nd) gs_nil))))
      (s_cons (s_setLc 2 (own := [("members", 5), ("bound", 6)]) (i_tup (e_ixt (e_var 0))) (cl_map (f := rowD) (r := fun r : Row => rowD (padR m r)) (js := [5, 6]) (fun _ z => z) a (fun _ _ _ _ _ _ _ => g_tup rfl (gs_cons (g_name 5 scProduct.nd) (gs_cons (g_name 6 scProduct.nd) gs_nil))) (fun r hr' _ _ _ _ _ => E.to (e_tup (ea_cons (e_bin (e_var 5) (e_var 4) (ov_catA ?_)) (ea_cons (e_var 6) ea_nil))) ?_) (fun _ _ => Le.refl _)) ?_ scProduct.nd (blkOk_by blkPr1) (Nat.le_of_ble_eq_true rfl))
      (s_stop (s_retP (e_call k_room_of_rows (ea_cons (e_bin (e_ixt (e_var 0)) (e_ixt (e_var 1)) ov_add) (ea_cons (E.to (d := .list ((a.map (padR m) ++ b.map (padL n)).map rowD)) (e_O (eo_bin (e_varO 2) (e_O (eo_lc (own := [("members", 5), ("bound", 6)]) (i_tup (e_ixt (e_var 1))) (cl_map (f := rowD) (r := fun r : Row => rowD (padL n r)) (js := [5, 6]) (fun _ z => z) b (fun _ _ _ _ _ _ _ => g_tup rfl (gs_cons (g_name 5 scProduct.nd) (gs_cons (g_name 6 scProduct.nd) gs_nil))) (fun r hr' _ _ _ _ _ => E.to (e_tup (ea_cons (e_bin (e_var 3) (e_var 5) (ov_catA ?_)) (ea_cons (e_var 6) ea_nil))) ?_) (fun _ _ => Le.refl _)) ?_ scProduct.nd (blkOk_by blkPr2))) (oo_cat ?_))) ?_) ea_nil)) ⟨_, a.map (padR m) ++ b.map (padL n), rfl, hro, by rw [List.length_append, List.length_map, List.length_map]; omega, rfl⟩)))))
    all_goals first
      | (have := (ha r hr').1.len; rw [List.length_map, List.length_map, List.length_replicate]; omega)
      | (have := (hb r hr').1.len; rw [List.length_map, List.length_map, List.length_replicate]; omega)
      | (rw [List.length_map]; omega)
      | (rw [List.length_map, List.length_map]; omega)
      | (show PyData.tuple [.tuple _, _] = PyData.tuple [.tuple (List.map PyData.int (_ ++ _)), _]; rw [List.map_append]; rfl)
      | (rw [List.map_append, List.map_map, List.map_map]; rfl)
      | skip
end
end K03
end part_K03q
section part_K03r
namespace K03
open L2 PyProof.Rows PySem.Spec PySem DL Num
section
variable {P : Program} {w : World} {K : PySem.W.Frag} {mg : Str → Option Value} {base : Heap}
/-! #### whole_members -/
/-- numbers as fractions -/
def ones (a : List Int) : List Fr := a.map fun x => (x, 1)
def rMembers (ds : List PyData) (d : PyData) : Prop := ∃ r : Row, ds = [rowD r] ∧ r.1.length ≤ 1000 ∧ d = ptD (ones r.1)
theorem scMembers : FnScope ["row", "member"] ["row"] (defScope sMembers) := ⟨rfl, rfl, rfl, by decide +kernel, rfl, by decide +kernel, by decide +kernel⟩
abbrev meE : Expr := pt 0 (exprOf (bodyAt sMembers 0))
theorem blkMembers : blkC ["row", "member"] (defScope sMembers) (cmS meE) [("member", 1)] = true := by decide +kernel
theorem ok_members (hp : DL.Put K mg "whole_members" sMembers) (m_tuple : mg "tuple" = none) : Def P w K mg base "whole_members" 1 ["row"] (spP K rMembers) := by
  refine def_P hp scMembers (fun _ _ _ _ _ _ us hl => match us, hl with | [_], _ => rfl) (by decide) (fun ds d h => ?_) (fun c hr ds d h => ?_)
  · obtain ⟨_, rfl, _⟩ := h
    rfl
  · obtain ⟨r, rfl, hl, rfl⟩ := h
    refine .rt (s_stop (s_retP (e_callTy (ea_cons (e_O (eo_lc (own := [("member", 1)]) (i_tup (e_ixt (e_var 0))) (cl_map (f := PyData.int) (r := fun x : Int => frD (x, 1)) (js := [1]) (fun _ z => z) r.1 (fun _ _ _ _ _ _ _ => g_name 1 scMembers.nd) (fun _ _ _ _ _ _ _ => e_tup (ea_cons (e_var 1) (ea_cons e_int ea_nil))) (fun _ _ => Le.refl _)) (by rw [List.length_map]; omega) scMembers.nd (blkOk_by blkMembers))) ea_nil) cv_tupL m_tuple) ?_))
    show _ = PyData.tuple ((r.1.map _).map frD)
    rw [List.map_map]
    rfl
theorem ones_pt {n : Nat} {r : Row} (h : Ro n r) (hn : n ≤ 130) (hl : r.1.length ≤ 7) : Pt (ones r.1) := by
  refine ⟨fun x hx => ?_, by unfold ones; rw [List.length_map]; exact hl⟩
  obtain ⟨y, hy, rfl⟩ := List.mem_map.mp hx
  exact ⟨show (0 : Int) < 1 by decide, (h.a y hy).mono hn, Sz.mono (n := 1) (sz_lt (show (1 : Int).natAbs < 2 ^ 1 by decide)) (by decide)⟩
/-! #### shifted, scaled -/
/-- a row of a room that may be shifted -/
structure Rs (r : Row) : Prop where
  ro : Ro 130 r
  len : r.1.length ≤ 7
def shR (xs : List Fr) (r : Row) : Row := rowOfF (ones r.1) (addF (r.2, 1) (reachF r.1 xs))
def mulF (x y : Fr) : Fr := red (x.1 * y.1) (x.2 * y.2)
def scR (t : Fr) (r : Row) : Row := rowOfF (ones r.1) (mulF (r.2, 1) t)
def rShifted (ds : List PyData) (d : PyData) : Prop := ∃ (n : Int) (rows : List Row) (xs : List Fr), ds = [roomD n rows, ptD xs] ∧ (∀ r ∈ rows, Rs r) ∧ rows.length ≤ 1000 ∧ Pt xs ∧ d = roomD n (rows.map (shR xs))
def rScaled (ds : List PyData) (d : PyData) : Prop := ∃ (n : Int) (rows : List Row) (t : Fr), ds = [roomD n rows, frD t] ∧ (∀ r ∈ rows, Rs r) ∧ rows.length ≤ 1000 ∧ Fo 130 t ∧ d = roomD n (rows.map (scR t))
theorem addF_fo' {n m k : Nat} {x y : Fr} (h : Fo n x) (g : Fo m y) (hk : n + m < k) : Fo k (addF x y) := addF_fo h g hk
theorem int_fo {n : Nat} {i : Int} (h : Sz n i) (hn : 1 ≤ n) : Fo n (i, 1) := ⟨show (0 : Int) < 1 by decide, h, Sz.mono (n := 1) (sz_lt (show (1 : Int).natAbs < 2 ^ 1 by decide)) hn⟩
theorem mul_fo {n m : Nat} {x y : Fr} (h : Fo n x) (g : Fo m y) : Fo (n + m) (mulF x y) := red_fo (Int.mul_ne_zero (by have := h.pos; omega) (by have := g.pos; omega)) (h.s1.mul g.s1) (h.s2.mul g.s2)
theorem scShifted : FnScope ["room", "point", "rows", "row"] ["room", "point"] (defScope sShifted) := ⟨rfl, rfl, rfl, by decide +kernel, rfl, by decide +kernel, by decide +kernel⟩
abbrev shE : Expr := exprOf (bodyAt sShifted 0)
theorem blkShifted : blkC ["room", "point", "rows", "row"] (defScope sShifted) (cmS shE) [("row", 3)] = true := by decide +kernel
theorem ok_shifted (hp : DL.Put K mg "shifted" sShifted) (m_tuple : mg "tuple" = none) (dO : Def P w K mg base "row_of" 2 ["members", "bound"] (spP K rRowOf)) (dM : Def P w K mg base "whole_members" 1 ["row"] (spP K rMembers)) (dP : Def P w K mg base "plus" 2 ["one", "other"] (spP K rPlus)) (dR : Def P w K mg base "reach" 2 ["row", "point"] (spP K rReach)) : Def P w K mg base "shifted" 3 ["room", "point"] (spP K rShifted) := by
  refine def_P hp scShifted (fun _ _ _ _ _ _ us hl => match us, hl with | [_, _], _ => rfl) (by decide) (fun ds d h => ?_) (fun c hr ds d h => ?_)
  · obtain ⟨_, _, _, rfl, _⟩ := h
    rfl
  · obtain ⟨n, rows, xs, rfl, h1, h2, hx, rfl⟩ := h
    have k_row_of := dO.known hr
    have k_whole_members := dM.known hr
    have k_plus := dP.known hr
    have k_reach := dR.known hr
    have ok : ∀ r ∈ rows, Fo 1250 (reachF r.1 xs) ∧ Fo 1400 (addF (r.2, 1) (reachF r.1 xs)) := fun r hr' => by
      have h3 := h1 r hr'
      have hp := lcF_pos xs 1 (by decide) hx.pos
      have hd : Sz 1250 (dot r.1 (upF (lcF 1 xs) xs)) := (dot_sz h3.ro.a (up_sz hx) h3.ro.len).mono (by decide)
      have f : Fo 1250 (reachF r.1 xs) := ⟨den_pos (by omega), num_size _ hd, den_size _ ((szNatI (lc1 hx)).mono (by decide))⟩
      exact ⟨f, addF_fo (int_fo (h3.ro.b) (by decide)) f (by decide)⟩
    refine .rt (s_cons (s_setLc 2 (own := [("row", 3)]) (i_tup (e_ixt (e_var 0))) (cl_map (f := rowD) (r := fun r : Row => rowD (shR xs r)) (js := [3]) (fun _ z => z) rows (fun _ _ _ _ _ _ _ => g_name 3 scShifted.nd) (fun r hr' _ _ _ _ _ => e_call k_row_of (ea_cons (e_call k_whole_members (ea_cons (e_var 3) ea_nil) ⟨r, rfl, by have := (h1 r hr').len; omega, rfl⟩) (ea_cons (e_call k_plus (ea_cons (e_tup (ea_cons (e_ixt (e_var 3)) (ea_cons e_int ea_nil))) (ea_cons (e_call k_reach (ea_cons (e_var 3) (ea_cons (e_var 1) ea_nil)) ⟨r, xs, rfl, (h1 r hr').ro.mono (by decide), hx, rfl⟩) ea_nil)) ⟨r.2, 1, _, _, rfl, f2_of (int_fo (h1 r hr').ro.b (by decide)) (ok r hr').1 (by decide) (by decide), rfl⟩) ea_nil)) ⟨ones r.1, addF (r.2, 1) (reachF r.1 xs), rfl, ones_pt (h1 r hr').ro (by decide) (h1 r hr').len, (ok r hr').2, rfl⟩) (fun _ _ => Le.refl _)) (by rw [List.length_map]; omega) scShifted.nd (blkOk_by blkShifted) (Nat.le_of_ble_eq_true rfl))
      (s_stop (s_retP (e_tup (ea_cons (e_ixt (e_var 0)) (ea_cons (e_callTy (ea_cons (e_varO 2) ea_nil) cv_tupL m_tuple) ea_nil))) ?_)))
    show _ = PyData.tuple [_, .tuple ((rows.map (shR xs)).map rowD)]
    rw [List.map_map]
    rfl
theorem scScaled : FnScope ["room", "t", "row"] ["room", "t"] (defScope sScaled) := ⟨rfl, rfl, rfl, by decide +kernel, rfl, by decide +kernel, by decide +kernel⟩
abbrev scE : Expr := pt 0 (pt 1 (exprOf (bodyAt sScaled 0)))
theorem blkScaled : blkC ["room", "t", "row"] (defScope sScaled) (cmS scE) [("row", 2)] = true := by decide +kernel
theorem ok_scaled (hp : DL.Put K mg "scaled" sScaled) (m_tuple : mg "tuple" = none) (dO : Def P w K mg base "row_of" 2 ["members", "bound"] (spP K rRowOf)) (dM : Def P w K mg base "whole_members" 1 ["row"] (spP K rMembers)) (dT : Def P w K mg base "times" 2 ["one", "other"] (spP K rTimes)) : Def P w K mg base "scaled" 3 ["room", "t"] (spP K rScaled) := by
  refine def_P hp scScaled (fun _ _ _ _ _ _ us hl => match us, hl with | [_, _], _ => rfl) (by decide) (fun ds d h => ?_) (fun c hr ds d h => ?_)
  · obtain ⟨_, _, _, rfl, _⟩ := h
    rfl
  · obtain ⟨n, rows, t, rfl, h1, h2, ht, rfl⟩ := h
    have k_row_of := dO.known hr
    have k_whole_members := dM.known hr
    have k_times := dT.known hr
    refine .rt (s_stop (s_retP (e_tup (ea_cons (e_ixt (e_var 0)) (ea_cons (e_callTy (ea_cons (e_O (eo_lc (own := [("row", 2)]) (i_tup (e_ixt (e_var 0))) (cl_map (f := rowD) (r := fun r : Row => rowD (scR t r)) (js := [2]) (fun _ z => z) rows (fun _ _ _ _ _ _ _ => g_name 2 scScaled.nd) (fun r hr' _ _ _ _ _ => e_call k_row_of (ea_cons (e_call k_whole_members (ea_cons (e_var 2) ea_nil) ⟨r, rfl, by have := (h1 r hr').len; omega, rfl⟩) (ea_cons (e_call k_times (ea_cons (e_tup (ea_cons (e_ixt (e_var 2)) (ea_cons e_int ea_nil))) (ea_cons (e_var 1) ea_nil)) ⟨r.2, 1, t.1, t.2, rfl, f2_of (int_fo (h1 r hr').ro.b (by decide)) ht (by decide) (by decide), rfl⟩) ea_nil)) ⟨ones r.1, mulF (r.2, 1) t, rfl, ones_pt (h1 r hr').ro (by decide) (h1 r hr').len, (mul_fo (int_fo (h1 r hr').ro.b (by decide)) ht).mono (by decide), rfl⟩) (fun _ _ => Le.refl _)) (by rw [List.length_map]; omega) scScaled.nd (blkOk_by blkScaled))) ea_nil) cv_tupL m_tuple) ea_nil))) ?_))
    show _ = PyData.tuple [_, .tuple ((rows.map (scR t)).map rowD)]
    rw [List.map_map]
    rfl
/-! #### open_room -/
def rOpen (ds : List PyData) (d : PyData) : Prop := ∃ n : Int, ds = [.int n] ∧ d = roomD n []
theorem scOpen : FnScope ["n"] ["n"] (defScope sOpen) := ⟨rfl, rfl, rfl, by decide +kernel, rfl, by decide +kernel, by decide +kernel⟩
theorem ok_open (hp : DL.Put K mg "open_room" sOpen) : Def P w K mg base "open_room" 1 ["n"] (spP K rOpen) := by
  refine def_P hp scOpen (fun _ _ _ _ _ _ us hl => match us, hl with | [_], _ => rfl) (by decide) (fun ds d h => ?_) (fun c hr ds d h => ?_)
  · obtain ⟨_, rfl, _⟩ := h
    rfl
  · obtain ⟨n, rfl, rfl⟩ := h
    exact .rt (s_stop (s_retP (e_tup (ea_cons (e_var 0) (ea_cons (e_tup ea_nil) ea_nil)))))
end
end K03
end part_K03r
section part_K03t
namespace K03
open L2 PyProof.Rows PySem.Spec PySem DL Num
section
variable {P : Program} {w : World} {K : PySem.W.Frag} {mg : Str → Option Value} {base : Heap}
/-! #### mirrored, placed -/
def negR (r : Row) : Row := (r.1.map fun x => -x, r.2)
def rMirrored (ds : List PyData) (d : PyData) : Prop := ∃ (n : Int) (rows : List Row), ds = [roomD n rows] ∧ (∀ r ∈ rows, Ro 8990 r) ∧ rows.length ≤ 1000 ∧ d = roomD n ((rows.map negR).map plR)
theorem scMirrored : FnScope ["room", "row", "member"] ["room"] (defScope sMirrored) := ⟨rfl, rfl, rfl, by decide +kernel, rfl, by decide +kernel, by decide +kernel⟩
abbrev miE1 : Expr := pt 1 (exprOf (bodyAt sMirrored 0))
abbrev miE2 : Expr := pt 0 (pt 0 (cmE miE1))
theorem blkMi1 : blkC ["room", "row", "member"] (defScope sMirrored) (cmS miE1) [("row", 1)] = true := by decide +kernel
theorem blkMi2 : blkC ["room", "row", "member"] (cmS miE1) (cmS miE2) [("member", 2)] = true := by decide +kernel
theorem negR_ro {n : Nat} {r : Row} (h : Ro n r) : Ro n (negR r) := ⟨fun x hx => by
  obtain ⟨y, hy, rfl⟩ := List.mem_map.mp hx
  exact (h.a y hy).neg, h.b, by show (r.1.map _).length ≤ 15; rw [List.length_map]; exact h.len⟩
theorem ok_mirrored (hp : DL.Put K mg "mirrored" sMirrored) (m_tuple : mg "tuple" = none) (dR : Def P w K mg base "room_of_rows" 2 ["n", "rows"] (spP K rRoomRows)) : Def P w K mg base "mirrored" 3 ["room"] (spP K rMirrored) := by
  refine def_P hp scMirrored (fun _ _ _ _ _ _ us hl => match us, hl with | [_], _ => rfl) (by decide) (fun ds d h => ?_) (fun c hr ds d h => ?_)
  · obtain ⟨_, _, rfl, _⟩ := h
    rfl
  · obtain ⟨n, rows, rfl, h1, h2, rfl⟩ := h
    have k_room_of_rows := dR.known hr
    have hro : ∀ r ∈ rows.map negR, Ro 8990 r := fun r hr' => by
      obtain ⟨q, hq, rfl⟩ := List.mem_map.mp hr'
      exact negR_ro (h1 q hq)
    refine .rt (s_stop (s_retP (e_call k_room_of_rows (ea_cons (e_ixt (e_var 0)) (ea_cons (E.to (d := .list ((rows.map negR).map rowD)) (e_O (eo_lc (own := [("row", 1)]) (i_tup (e_ixt (e_var 0))) (cl_map (f := rowD) (r := fun r : Row => rowD (negR r)) (js := [1]) (fun _ z => z) rows (fun _ _ _ _ _ _ _ => g_name 1 scMirrored.nd)
      (fun r hr' _ _ _ _ _ => E.to (e_tup (ea_cons (e_callTy (ea_cons (e_O (eo_lc (own := [("member", 2)]) (i_tup (e_ixt (e_var 1))) (cl_map (f := PyData.int) (r := fun x : Int => .int (-x)) (js := [2]) (fun _ z => z) r.1 (fun _ _ _ _ _ _ _ => g_name 2 scMirrored.nd) (fun _ _ _ _ _ _ _ => e_neg (e_var 2)) (fun _ _ => Le.refl _)) ?a1 scMirrored.nd (blkOk_by blkMi2))) ea_nil) cv_tupL m_tuple) (ea_cons (e_ixt (e_var 1)) ea_nil))) ?a2) (fun _ _ => Le.refl _)) (by rw [List.length_map]; omega) scMirrored.nd (blkOk_by blkMi1))) ?a3) ea_nil)) ⟨n, rows.map negR, rfl, hro, by rw [List.length_map]; exact h2, rfl⟩)))
    case a1 =>
      have := (h1 r hr').len
      rw [List.length_map]
      omega
    case a2 =>
      show _ = PyData.tuple [.tuple ((r.1.map _).map PyData.int), _]
      rw [List.map_map]
      rfl
    case a3 =>
      rw [List.map_map]
      rfl
def takeR (o : List Nat) (r : Row) : Row := (o.map fun k => r.1.getD k 0, r.2)
def rPlaced (ds : List PyData) (d : PyData) : Prop := ∃ (n : Int) (m : Nat) (rows : List Row) (o : List Nat), ds = [roomD n rows, .tuple (o.map fun k : Nat => PyData.int (k : Int))] ∧ (∀ r ∈ rows, Ro 8990 r ∧ r.1.length = m) ∧ (∀ k ∈ o, k < m) ∧ o.length ≤ 15 ∧ rows.length ≤ 1000 ∧ d = roomD n ((rows.map (takeR o)).map plR)
theorem scPlaced : FnScope ["room", "order", "row", "place"] ["room", "order"] (defScope sPlaced) := ⟨rfl, rfl, rfl, by decide +kernel, rfl, by decide +kernel, by decide +kernel⟩
abbrev plE1 : Expr := pt 1 (exprOf (bodyAt sPlaced 0))
abbrev plE2 : Expr := pt 0 (pt 0 (cmE plE1))
theorem blkPl1 : blkC ["room", "order", "row", "place"] (defScope sPlaced) (cmS plE1) [("row", 2)] = true := by decide +kernel
theorem blkPl2 : blkC ["room", "order", "row", "place"] (cmS plE1) (cmS plE2) [("place", 3)] = true := by decide +kernel
theorem takeR_ro {n m : Nat} {o : List Nat} {r : Row} (h : Ro n r) (hm : r.1.length = m) (ho : ∀ k ∈ o, k < m) (hl : o.length ≤ 15) : Ro n (takeR o r) := ⟨fun x hx => by
  obtain ⟨k, hk, rfl⟩ := List.mem_map.mp hx
  have := ho k hk
  rw [List.getD_eq_getElem?_getD, List.getElem?_eq_getElem (by omega)]
  exact h.a _ (List.getElem_mem _), h.b, by show (o.map _).length ≤ 15; rw [List.length_map]; exact hl⟩
theorem ok_placed (hp : DL.Put K mg "placed" sPlaced) (m_tuple : mg "tuple" = none) (dR : Def P w K mg base "room_of_rows" 2 ["n", "rows"] (spP K rRoomRows)) : Def P w K mg base "placed" 3 ["room", "order"] (spP K rPlaced) := by
  refine def_P hp scPlaced (fun _ _ _ _ _ _ us hl => match us, hl with | [_, _], _ => rfl) (by decide) (fun ds d h => ?_) (fun c hr ds d h => ?_)
  · obtain ⟨_, _, _, _, rfl, _⟩ := h
    rfl
  · obtain ⟨n, m, rows, o, rfl, h1, ho, hl, h2, rfl⟩ := h
    have k_room_of_rows := dR.known hr
    have hro : ∀ r ∈ rows.map (takeR o), Ro 8990 r := fun r hr' => by
      obtain ⟨q, hq, rfl⟩ := List.mem_map.mp hr'
      exact takeR_ro (h1 q hq).1 (h1 q hq).2 ho hl
    refine .rt (s_stop (s_retP (e_call k_room_of_rows (ea_cons (e_ixt (e_var 0)) (ea_cons (E.to (d := .list ((rows.map (takeR o)).map rowD)) (e_O (eo_lc (own := [("row", 2)]) (i_tup (e_ixt (e_var 0))) (cl_map (f := rowD) (r := fun r : Row => rowD (takeR o r)) (js := [2]) (fun _ z => z) rows (fun _ _ _ _ _ _ _ => g_name 2 scPlaced.nd)
      (fun r hr' _ _ _ _ _ => E.to (e_tup (ea_cons (e_callTy (ea_cons (e_O (eo_lc (own := [("place", 3)]) (i_tup (e_var 1)) (cl_map (f := fun k : Nat => .int (k : Int)) (r := fun k : Nat => .int (r.1.getD k 0)) (js := [3]) (fun _ z => z) o (fun _ _ _ _ _ _ _ => g_name 3 scPlaced.nd) (fun k hk _ _ _ _ _ => e_ix (e_ixt (e_var 2)) (e_var 3) (ixv_tup (atI_nat ?a0))) (fun _ _ => Le.refl _)) ?a1 scPlaced.nd (blkOk_by blkPl2))) ea_nil) cv_tupL m_tuple) (ea_cons (e_ixt (e_var 2)) ea_nil))) ?a2) (fun _ _ => Le.refl _)) (by rw [List.length_map]; omega) scPlaced.nd (blkOk_by blkPl1))) ?a3) ea_nil)) ⟨n, rows.map (takeR o), rfl, hro, by rw [List.length_map]; exact h2, rfl⟩)))
    case a0 =>
      have := ho k hk
      have hm := (h1 r hr').2
      rw [List.getElem?_map, List.getD_eq_getElem?_getD, List.getElem?_eq_getElem (by omega)]
      rfl
    case a1 =>
      rw [List.length_map]
      omega
    case a2 =>
      show _ = PyData.tuple [.tuple ((o.map _).map PyData.int), _]
      rw [List.map_map]
      rfl
    case a3 =>
      rw [List.map_map]
      rfl
end
end K03
end part_K03t
section part_K03u
namespace K03
open L2 PyProof.Rows PySem.Spec PySem DL Num
section
variable {P : Program} {w : World} {K : PySem.W.Frag} {mg : Str → Option Value} {base : Heap}
/-! #### unit, boxed -/
def unitF (n p : Nat) (x : Fr) : List Fr := (List.range n).map fun k => if k = p then x else (0, 1)
def rUnit (ds : List PyData) (d : PyData) : Prop := ∃ (n p : Nat) (x : Fr), ds = [.int (n : Int), .int (p : Int), frD x] ∧ n ≤ 1000 ∧ d = ptD (unitF n p x)
theorem scUnit : FnScope ["n", "place", "member", "k"] ["n", "place", "member"] (defScope sUnit) := ⟨rfl, rfl, rfl, by decide +kernel, rfl, by decide +kernel, by decide +kernel⟩
abbrev unE : Expr := pt 0 (exprOf (bodyAt sUnit 0))
theorem blkUnit : blkC ["n", "place", "member", "k"] (defScope sUnit) (cmS unE) [("k", 3)] = true := by decide +kernel
theorem ok_unit (hp : DL.Put K mg "unit" sUnit) (m_tuple : mg "tuple" = none) (m_range : mg "range" = none) (c_N : ∃ v u, mg "NOUGHT" = some u ∧ RelV v u ∧ ∀ G, Da K G v (fr 0 1)) : Def P w K mg base "unit" 1 ["n", "place", "member"] (spP K rUnit) := by
  refine def_P hp scUnit (fun _ _ _ _ _ _ us hl => match us, hl with | [_, _, _], _ => rfl) (by decide) (fun ds d h => ?_) (fun c hr ds d h => ?_)
  · obtain ⟨_, _, _, rfl, _⟩ := h
    rfl
  · obtain ⟨n, p, x, rfl, hn, rfl⟩ := h
    have er : rangeD 0 ((n : Int)).toNat = (List.range n).map fun k : Nat => PyData.int (k : Int) := by
      unfold rangeD
      rw [Int.toNat_natCast]
      refine List.map_congr_left fun k _ => ?_
      rw [Int.zero_add]
    have cl : ∀ (c : CxA), CL (cx P w K mg base ["n", "place", "member", "k"] "unit" sUnit c) (cmS unE) (cmT unE) (cmI unE) (cmE unE) [3] ((List.range n).map fun k : Nat => PyData.int (k : Int)) [.dat (.int (n : Int)), .dat (.int (p : Int)), .dat (frD x), .un] ((List.range n).map fun k : Nat => frD (if k = p then x else (0, 1))) [.dat (.int (n : Int)), .dat (.int (p : Int)), .dat (frD x), .un] := fun c =>
      cl_map (f := fun k : Nat => PyData.int (k : Int)) (r := fun k : Nat => frD (if k = p then x else (0, 1))) (js := [3]) (fun _ z => z) (List.range n) (fun _ _ _ _ _ _ _ => g_name 3 scUnit.nd) (fun k _ _ _ _ _ _ => by
        by_cases hk : k = p
        · exact E.to (e_if (p := true) (T.to (t_cmp (e_var 3) (e_var 1) ov_eqI) (decide_eq_true (by omega))) (fun _ => e_var 2) (fun h => Bool.noConfusion h)) (by rw [if_pos hk])
        · exact E.to (e_if (p := false) (T.to (t_cmp (e_var 3) (e_var 1) ov_eqI) (decide_eq_false (by omega))) (fun h => Bool.noConfusion h) (fun _ => e_glob ⟨c_N⟩)) (by rw [if_neg hk])) (fun _ _ => Le.refl _)
    have cl2 := cl c
    rw [← er] at cl2
    refine .rt (s_stop (s_retP (e_callTy (ea_cons (e_O (eo_lc (own := [("k", 3)]) (i_range1 (ea_cons (e_var 0) ea_nil) m_range (by omega)) cl2 (by rw [er, List.length_map, List.length_range]; omega) scUnit.nd (blkOk_by blkUnit))) ea_nil) cv_tupL m_tuple) ?_))
    show _ = PyData.tuple ((unitF n p x).map frD)
    unfold unitF
    rw [List.map_map]
    rfl
def boxR (n : Nat) (low high : List Fr) (k : Nat) : List Row := [rowOfF (unitF n k (1, 1)) (high.getD k (0, 1)), rowOfF (unitF n k (-1, 1)) (-(low.getD k (0, 1)).1, (low.getD k (0, 1)).2)]
def boxF (low high : List Fr) : List Row := (List.range low.length).flatMap (boxR low.length low high)
def rBoxed (ds : List PyData) (d : PyData) : Prop := ∃ low high : List Fr, ds = [ptD low, ptD high] ∧ Pt low ∧ Pt high ∧ low.length = high.length ∧ d = roomD (low.length : Int) (boxF low high)
theorem scBoxed : FnScope ["low", "high", "k", "n", "rows"] ["low", "high"] (defScope sBoxed) := ⟨rfl, rfl, rfl, by decide +kernel, rfl, by decide +kernel, by decide +kernel⟩
abbrev cBoxed (P : Program) (w : World) (K : PySem.W.Frag) (mg : Str → Option Value) (base : Heap) (a : CxA) : Cx := cx P w K mg base ["low", "high", "k", "n", "rows"] "boxed" sBoxed a
theorem unit_pt {n p : Nat} {x : Fr} (hn : n ≤ 7) (hx : Fo 130 x) : Pt (unitF n p x) := by
  refine ⟨fun y hy => ?_, by unfold unitF; rw [List.length_map, List.length_range]; exact hn⟩
  obtain ⟨k, _, rfl⟩ := List.mem_map.mp hy
  split
  · exact hx
  · exact ⟨by decide, sz0, Sz.mono (n := 1) (sz_lt (by decide)) (by decide)⟩
theorem boxed_loop (dU : Def P w K mg base "unit" 1 ["n", "place", "member"] (spP K rUnit)) (dO : Def P w K mg base "row_of" 2 ["members", "bound"] (spP K rRowOf)) {a : CxA} (hr : Rm 2 (cBoxed P w K mg base a).A) (low high : List Fr) (hl : Pt low) (hh : Pt high) (he : low.length = high.length) :
    ∀ (ks : List Nat) (rows : List Row), (∀ k ∈ ks, k < low.length) → rows.length + 2 * ks.length ≤ 1000 → Loop (cBoxed P w K mg base a) (forT (bodyAt sBoxed 1)) (lpB (bodyAt sBoxed 1)) (ks.map fun k : Nat => PyData.int (k : Int)) [.dat (ptD low), .dat (ptD high), .un, .dat (.int (low.length : Int)), .own (rows.map rowD)]
      (.nx [.dat (ptD low), .dat (ptD high), .un, .dat (.int (low.length : Int)), .own ((rows ++ ks.flatMap (boxR low.length low high)).map rowD)])
  | [], rows, _, _ => by
    rw [List.flatMap_nil, List.append_nil]
    exact .nil
  | k :: ks, rows, hk, hz => by
    have k_unit := dU.known hr
    have k_row_of := dO.known hr
    have hk0 := hk k List.mem_cons_self
    have hln := hl.len
    have e1 : (low.map frD)[k]? = some (frD (low.getD k (0, 1))) := by
      rw [List.getElem?_map, List.getD_eq_getElem?_getD, List.getElem?_eq_getElem hk0]
      rfl
    have e2 : (high.map frD)[k]? = some (frD (high.getD k (0, 1))) := by
      rw [List.getElem?_map, List.getD_eq_getElem?_getD, List.getElem?_eq_getElem (by omega)]
      rfl
    have fl : Fo 130 (low.getD k (0, 1)) := by
      rw [List.getD_eq_getElem?_getD, List.getElem?_eq_getElem hk0]
      exact hl.fo _ (List.getElem_mem _)
    have fh : Fo 130 (high.getD k (0, 1)) := by
      rw [List.getD_eq_getElem?_getD, List.getElem?_eq_getElem (by omega)]
      exact hh.fo _ (List.getElem_mem _)
    have f1 : Fo 130 ((1, 1) : Fr) := ⟨by decide, Sz.mono (n := 1) (sz_lt (by decide)) (by decide), Sz.mono (n := 1) (sz_lt (by decide)) (by decide)⟩
    have fm : Fo 130 ((-1, 1) : Fr) := ⟨by decide, Sz.mono (n := 1) (sz_lt (by decide)) (by decide), Sz.mono (n := 1) (sz_lt (by decide)) (by decide)⟩
    rw [List.length_cons] at hz
    have ih := boxed_loop dU dO hr low high hl hh he ks (rows ++ boxR low.length low high k) (fun j hj => hk j (List.mem_cons_of_mem _ hj)) (by rw [List.length_append]; show rows.length + 2 + 2 * ks.length ≤ 1000; omega)
    have ea : (rows ++ boxR low.length low high k) ++ ks.flatMap (boxR low.length low high) = rows ++ (k :: ks).flatMap (boxR low.length low high) := by rw [List.flatMap_cons, List.append_assoc]
    rw [ea] at ih
    have eb : (rows ++ boxR low.length low high k).map rowD = (rows.map rowD ++ [rowD (rowOfF (unitF low.length k (1, 1)) (high.getD k (0, 1)))]) ++ [rowD (rowOfF (unitF low.length k (-1, 1)) (-(low.getD k (0, 1)).1, (low.getD k (0, 1)).2))] := by
      rw [List.map_append, List.append_assoc]
      rfl
    rw [eb] at ih
    refine .nx (g_name 2 scBoxed.nd) (s_cons (s_append 4 (e_call k_row_of (ea_cons (e_call k_unit (ea_cons (e_var 3) (ea_cons (e_var 2) (ea_cons (e_tup (ea_cons e_int (ea_cons e_int ea_nil))) ea_nil))) ⟨low.length, k, (1, 1), rfl, by omega, rfl⟩) (ea_cons (e_ix (e_var 1) (e_var 2) (ixv_tup (atI_nat e2))) ea_nil)) ⟨_, high.getD k (0, 1), rfl, unit_pt hln f1, fh.mono (by decide), rfl⟩) rfl rfl ?z1)
      (s_cons (s_append 4 (e_call k_row_of (ea_cons (e_call k_unit (ea_cons (e_var 3) (ea_cons (e_var 2) (ea_cons (e_tup (ea_cons (e_neg e_int) (ea_cons e_int ea_nil))) ea_nil))) ⟨low.length, k, (-1, 1), rfl, by omega, rfl⟩) (ea_cons (e_tup (ea_cons (e_neg (e_ixt (e_ix (e_var 0) (e_var 2) (ixv_tup (atI_nat e1))))) (ea_cons (e_ixt (e_ix (e_var 0) (e_var 2) (ixv_tup (atI_nat e1)))) ea_nil))) ea_nil)) ⟨_, (-(low.getD k (0, 1)).1, (low.getD k (0, 1)).2), rfl, unit_pt hln fm, ⟨fl.pos, (fl.s1.neg).mono (by decide), fl.s2.mono (by decide)⟩, rfl⟩) rfl rfl ?z2)
      (s_nil (le_cons (le_cons (le_un (le_cons (le_cons le_nil)))))))) ih
    case z1 =>
      rw [List.length_map]
      omega
    case z2 =>
      rw [List.length_append, List.length_map]
      show rows.length + 1 < 1000000
      omega
theorem ok_boxed (hp : DL.Put K mg "boxed" sBoxed) (m_tuple : mg "tuple" = none) (m_len : mg "len" = none) (m_range : mg "range" = none) (dU : Def P w K mg base "unit" 1 ["n", "place", "member"] (spP K rUnit)) (dO : Def P w K mg base "row_of" 2 ["members", "bound"] (spP K rRowOf)) : Def P w K mg base "boxed" 3 ["low", "high"] (spP K rBoxed) := by
  refine def_P hp scBoxed (fun _ _ _ _ _ _ us hl => match us, hl with | [_, _], _ => rfl) (by decide) (fun ds d h => ?_) (fun c hr ds d h => ?_)
  · obtain ⟨_, _, rfl, _⟩ := h
    rfl
  · obtain ⟨low, high, rfl, hl, hh, he, rfl⟩ := h
    have hln := hl.len
    have lp := boxed_loop dU dO (a := c) hr low high hl hh he (List.range low.length) [] (fun k hk => List.mem_range.mp hk) (by rw [List.length_range]; show 0 + 2 * low.length ≤ 1000; omega)
    have er : rangeD 0 ((low.length : Int)).toNat = (List.range low.length).map fun k : Nat => PyData.int (k : Int) := by
      unfold rangeD
      rw [Int.toNat_natCast]
      refine List.map_congr_left fun k _ => ?_
      rw [Int.zero_add]
    rw [← er, List.nil_append] at lp
    refine .rt (s_cons (s_parDO 3 4 (d1 := .int (low.length : Int)) (E.to (e_callB (ea_cons (e_var 0) ea_nil) cv_lenT m_len) (by rw [List.length_map])) (eo_lst ea_nil) rfl scBoxed.nd) (s_cons (s_for (i_range1 (ea_cons (e_var 3) ea_nil) m_range (by omega)) lp)
      (s_stop (s_retP (e_tup (ea_cons (e_var 3) (ea_cons (e_callTy (ea_cons (e_varO 4) ea_nil) cv_tupL m_tuple) ea_nil)))))))
end
end K03
end part_K03u
section part_K03v
namespace K03
open L2 PyProof.Rows PySem.Spec PySem DL Num
section
variable {P : Program} {w : World} {K : PySem.W.Frag} {mg : Str → Option Value} {base : Heap}
/-! #### line_worth, image_of, next_of -/
/-- fractions of 62 bits, at most seven -/
structure Sp (xs : List Fr) : Prop where
  fo : ∀ x ∈ xs, Fo 62 x
  len : xs.length ≤ 7
theorem Sp.pt {xs : List Fr} (h : Sp xs) : Pt xs := ⟨fun x hx => (h.fo x hx).mono (by decide), h.len⟩
def worthF (f : Fr) (zs : List (Fr × Fr)) : Fr := zs.foldl (fun f z => addF f (mulF z.1 z.2)) f
theorem worth_fo : ∀ (zs : List (Fr × Fr)) (f : Fr) (m : Nat), Fo m f → (∀ z ∈ zs, Fo 62 z.1 ∧ Fo 62 z.2) → Fo (m + 125 * zs.length) (worthF f zs)
  | [], f, m, h, _ => h.mono (by simp)
  | z :: zs, f, m, h, hz => by
    obtain ⟨h1, h2⟩ := hz z List.mem_cons_self
    have := worth_fo zs (addF f (mulF z.1 z.2)) (m + 125) (addF_fo h (mul_fo h1 h2) (by omega)) fun y hy => hz y (List.mem_cons_of_mem _ hy)
    rw [List.length_cons, show m + 125 * (zs.length + 1) = m + 125 + 125 * zs.length by omega]
    exact this
theorem sp_zip {l x : List Fr} (h : Sp l) (g : Sp x) : (∀ z ∈ l.zip x, Fo 62 z.1 ∧ Fo 62 z.2) ∧ (l.zip x).length ≤ 7 := ⟨fun z hz => ⟨h.fo _ (List.of_mem_zip hz).1, g.fo _ (List.of_mem_zip hz).2⟩, by
  have := h.len
  rw [List.length_zip]
  omega⟩
def rWorth (ds : List PyData) (d : PyData) : Prop := ∃ l x : List Fr, ds = [ptD l, ptD x] ∧ Sp l ∧ Sp x ∧ d = frD (worthF (0, 1) (l.zip x))
theorem scWorth : FnScope ["line", "point", "found", "member", "one"] ["line", "point"] (defScope sWorth) := ⟨rfl, rfl, rfl, by decide +kernel, rfl, by decide +kernel, by decide +kernel⟩
abbrev cWorth (P : Program) (w : World) (K : PySem.W.Frag) (mg : Str → Option Value) (base : Heap) (a : CxA) : Cx := cx P w K mg base ["line", "point", "found", "member", "one"] "line_worth" sWorth a
abbrev ffD (z : Fr × Fr) : PyData := .tuple [frD z.1, frD z.2]
theorem zip_ff (a xs : List Fr) : zipD (a.map frD) (xs.map frD) = (a.zip xs).map ffD := by
  unfold zipD
  rw [List.zip_map, List.map_map]
  rfl
theorem fo01 {n : Nat} (h : 1 ≤ n) : Fo n ((0, 1) : Fr) := ⟨by decide, sz0, Sz.mono (n := 1) (sz_lt (by decide)) h⟩
theorem worth_loop (dP : Def P w K mg base "plus" 2 ["one", "other"] (spP K rPlus)) (dT : Def P w K mg base "times" 2 ["one", "other"] (spP K rTimes)) {a : CxA} (hr : Rm 2 (cWorth P w K mg base a).A) (l q : PyData) : ∀ (zs : List (Fr × Fr)) (f : Fr) (m : Nat), Fo m f → m + 125 * zs.length ≤ 4400 → (∀ z ∈ zs, Fo 62 z.1 ∧ Fo 62 z.2) →
    Loop (cWorth P w K mg base a) (forT (bodyAt sWorth 1)) (lpB (bodyAt sWorth 1)) (zs.map ffD) [.dat l, .dat q, .dat (frD f), .un, .un] (.nx [.dat l, .dat q, .dat (frD (worthF f zs)), .un, .un])
  | [], f, m, _, _, _ => .nil
  | z :: zs, f, m, hf, hm, hz => by
    obtain ⟨h1, h2⟩ := hz z List.mem_cons_self
    have k_plus := dP.known hr
    have k_times := dT.known hr
    rw [List.length_cons] at hm
    exact .nx (g_tup rfl (gs_cons (g_name 3 scWorth.nd) (gs_cons (g_name 4 scWorth.nd) gs_nil))) (s_cons (s_set 2 (e_call k_plus (ea_cons (e_var 2) (ea_cons (e_call k_times (ea_cons (e_var 3) (ea_cons (e_var 4) ea_nil)) ⟨z.1.1, z.1.2, z.2.1, z.2.2, rfl, f2_of h1 h2 (by decide) (by decide), rfl⟩) ea_nil)) ⟨f.1, f.2, _, _, rfl, f2_of hf (mul_fo h1 h2) (by omega) (by decide), rfl⟩) scWorth.nd) (s_nil (le_cons (le_cons (le_cons (le_un (le_un le_nil)))))))
      (worth_loop dP dT hr l q zs (addF f (mulF z.1 z.2)) (m + 125) (addF_fo hf (mul_fo h1 h2) (by omega)) (by omega) fun y hy => hz y (List.mem_cons_of_mem _ hy))
theorem ok_worth (hp : DL.Put K mg "line_worth" sWorth) (m_zip : mg "zip" = none) (dP : Def P w K mg base "plus" 2 ["one", "other"] (spP K rPlus)) (dT : Def P w K mg base "times" 2 ["one", "other"] (spP K rTimes)) (c_N : ∃ v u, mg "NOUGHT" = some u ∧ RelV v u ∧ ∀ G, Da K G v (fr 0 1)) : Def P w K mg base "line_worth" 3 ["line", "point"] (spP K rWorth) := by
  refine def_P hp scWorth (fun _ _ _ _ _ _ us hl => match us, hl with | [_, _], _ => rfl) (by decide) (fun ds d h => ?_) (fun c hr ds d h => ?_)
  · obtain ⟨_, _, rfl, _⟩ := h
    rfl
  · obtain ⟨l, x, rfl, hl, hx, rfl⟩ := h
    obtain ⟨hz, hn⟩ := sp_zip hl hx
    have lp := worth_loop dP dT (a := c) hr (ptD l) (ptD x) (l.zip x) (0, 1) 1 (fo01 (by decide)) (by omega) hz
    rw [← zip_ff] at lp
    exact .rt (s_cons (s_set 2 (e_glob ⟨c_N⟩) scWorth.nd) (s_cons (s_for (i_zip (k := true) (j := true) (ea_cons (e_var 0) (ea_cons (e_var 1) ea_nil)) m_zip) lp) (s_stop (s_retP (e_var 2)))))
/-- the image: a matrix, a point, a shift -/
def imageF (ls : List (List Fr)) (x sh : List Fr) : List Fr := (ls.zip sh).map fun z => addF (worthF (0, 1) (z.1.zip x)) z.2
abbrev maD (ls : List (List Fr)) : PyData := .tuple (ls.map ptD)
def rImage (ds : List PyData) (d : PyData) : Prop := ∃ (ls : List (List Fr)) (x sh : List Fr), ds = [maD ls, ptD x, ptD sh] ∧ (∀ l ∈ ls, Sp l) ∧ Sp x ∧ (∀ y ∈ sh, Fo 3000 y) ∧ sh.length ≤ 7 ∧ d = ptD (imageF ls x sh)
theorem scImage : FnScope ["matrix", "point", "shift", "line", "one"] ["matrix", "point", "shift"] (defScope sImage) := ⟨rfl, rfl, rfl, by decide +kernel, rfl, by decide +kernel, by decide +kernel⟩
abbrev imE : Expr := pt 0 (exprOf (bodyAt sImage 0))
theorem blkImage : blkC ["matrix", "point", "shift", "line", "one"] (defScope sImage) (cmS imE) [("line", 3), ("one", 4)] = true := by decide +kernel
abbrev lfD (z : List Fr × Fr) : PyData := .tuple [ptD z.1, frD z.2]
theorem zip_lf (a : List (List Fr)) (xs : List Fr) : zipD (a.map ptD) (xs.map frD) = (a.zip xs).map lfD := by
  unfold zipD
  rw [List.zip_map, List.map_map]
  rfl
theorem worth900 {l x : List Fr} (hl : Sp l) (hx : Sp x) : Fo 900 (worthF (0, 1) (l.zip x)) := by
  obtain ⟨hz, hn⟩ := sp_zip hl hx
  exact (worth_fo (l.zip x) (0, 1) 1 (fo01 (by decide)) hz).mono (by omega)
theorem image_fo {n : Nat} {ls : List (List Fr)} {x sh : List Fr} (h1 : ∀ l ∈ ls, Sp l) (hx : Sp x) (hs : ∀ y ∈ sh, Fo n y) : ∀ y ∈ imageF ls x sh, Fo (901 + n) y := fun y hy => by
  obtain ⟨z, hz, rfl⟩ := List.mem_map.mp hy
  exact addF_fo (worth900 (h1 _ (List.of_mem_zip hz).1) hx) (hs _ (List.of_mem_zip hz).2) (by omega)
theorem ok_image (hp : DL.Put K mg "image_of" sImage) (m_zip : mg "zip" = none) (m_tuple : mg "tuple" = none) (dP : Def P w K mg base "plus" 2 ["one", "other"] (spP K rPlus)) (dW : Def P w K mg base "line_worth" 3 ["line", "point"] (spP K rWorth)) : Def P w K mg base "image_of" 4 ["matrix", "point", "shift"] (spP K rImage) := by
  refine def_P hp scImage (fun _ _ _ _ _ _ us hl => match us, hl with | [_, _, _], _ => rfl) (by decide) (fun ds d h => ?_) (fun c hr ds d h => ?_)
  · obtain ⟨_, _, _, rfl, _⟩ := h
    rfl
  · obtain ⟨ls, x, sh, rfl, h1, hx, hs, hn, rfl⟩ := h
    have k_plus := dP.known hr
    have k_line_worth := dW.known hr
    have cl : CL (cx P w K mg base ["matrix", "point", "shift", "line", "one"] "image_of" sImage c) (cmS imE) (cmT imE) (cmI imE) (cmE imE) [3, 4] ((ls.zip sh).map lfD) [.dat (maD ls), .dat (ptD x), .dat (ptD sh), .un, .un] ((ls.zip sh).map fun z => frD (addF (worthF (0, 1) (z.1.zip x)) z.2)) [.dat (maD ls), .dat (ptD x), .dat (ptD sh), .un, .un] :=
      cl_map (f := lfD) (r := fun z : List Fr × Fr => frD (addF (worthF (0, 1) (z.1.zip x)) z.2)) (js := [3, 4]) (fun _ z => z) (ls.zip sh) (fun _ _ _ _ _ _ _ => g_tup rfl (gs_cons (g_name 3 scImage.nd) (gs_cons (g_name 4 scImage.nd) gs_nil))) (fun z hz _ _ _ _ _ => e_call k_plus (ea_cons (e_call k_line_worth (ea_cons (e_var 3) (ea_cons (e_var 1) ea_nil)) ⟨z.1, x, rfl, h1 _ (List.of_mem_zip hz).1, hx, rfl⟩) (ea_cons (e_var 4) ea_nil)) ⟨_, _, z.2.1, z.2.2, rfl, f2_of (worth900 (h1 _ (List.of_mem_zip hz).1) hx) (hs _ (List.of_mem_zip hz).2) (by decide) (by decide), rfl⟩) (fun _ _ => Le.refl _)
    rw [← zip_lf] at cl
    refine .rt (s_stop (s_retP (e_callTy (ea_cons (e_O (eo_lc (own := [("line", 3), ("one", 4)]) (i_zip (k := true) (j := true) (ea_cons (e_var 0) (ea_cons (e_var 2) ea_nil)) m_zip) cl ?_ scImage.nd (blkOk_by blkImage))) ea_nil) cv_tupL m_tuple) ?_))
    · rw [zip_lf, List.length_map, List.length_zip]
      omega
    · show _ = PyData.tuple ((imageF ls x sh).map frD)
      unfold imageF
      rw [List.map_map]
      rfl
def rNext (ds : List PyData) (d : PyData) : Prop := ∃ (a b e : List (List Fr)) (sh : List Fr) (r1 r2 : PyData) (x u v : List Fr), ds = [.tuple [maD a, maD b, maD e, ptD sh, r1, r2], ptD x, ptD u, ptD v] ∧ (∀ l ∈ a, Sp l) ∧ (∀ l ∈ b, Sp l) ∧ (∀ l ∈ e, Sp l) ∧ Sp sh ∧ Sp x ∧ Sp u ∧ Sp v ∧ d = ptD (imageF e v (imageF b u (imageF a x sh)))
theorem scNext : FnScope ["plant", "x", "u", "w", "here"] ["plant", "x", "u", "w"] (defScope sNext) := ⟨rfl, rfl, rfl, by decide +kernel, rfl, by decide +kernel, by decide +kernel⟩
theorem image_len {ls : List (List Fr)} {x sh : List Fr} (h : sh.length ≤ 7) : (imageF ls x sh).length ≤ 7 := by
  unfold imageF
  rw [List.length_map, List.length_zip]
  omega
theorem ok_next (hp : DL.Put K mg "next_of" sNext) (dI : Def P w K mg base "image_of" 4 ["matrix", "point", "shift"] (spP K rImage)) : Def P w K mg base "next_of" 5 ["plant", "x", "u", "w"] (spP K rNext) := by
  refine def_P hp scNext (fun _ _ _ _ _ _ us hl => match us, hl with | [_, _, _, _], _ => rfl) (by decide) (fun ds d h => ?_) (fun c hr ds d h => ?_)
  · obtain ⟨_, _, _, _, _, _, _, _, _, rfl, _⟩ := h
    rfl
  · obtain ⟨a, b, e, sh, r1, r2, x, u, v, rfl, ha, hb, he, hs, hx, hu, hv, rfl⟩ := h
    have k_image_of := dI.known hr
    have f1 := image_fo ha hx hs.fo
    have f2 := image_fo hb hu f1
    exact .rt (s_cons (s_set 4 (e_call k_image_of (ea_cons (e_ixt (e_var 0)) (ea_cons (e_var 1) (ea_cons (e_ixt (e_var 0)) ea_nil))) ⟨a, x, sh, rfl, ha, hx, fun y hy => (hs.fo y hy).mono (by decide), hs.len, rfl⟩) scNext.nd)
      (s_stop (s_retP (e_call k_image_of (ea_cons (e_ixt (e_var 0)) (ea_cons (e_var 3) (ea_cons (e_call k_image_of (ea_cons (e_ixt (e_var 0)) (ea_cons (e_var 2) (ea_cons (e_var 4) ea_nil))) ⟨b, u, imageF a x sh, rfl, hb, hu, fun y hy => (f1 y hy).mono (by decide), image_len hs.len, rfl⟩) ea_nil))) ⟨e, v, imageF b u (imageF a x sh), rfl, he, hv, fun y hy => (f2 y hy).mono (by decide), image_len (image_len hs.len), rfl⟩))))
end
end K03
end part_K03v
section part_K03w
namespace K03
open L2 PyProof.Rows PySem.Spec PySem DL Num
abbrev sLTimes : Stmt := top 36
abbrev sLIsIn : Stmt := top 44
abbrev sLShifted : Stmt := top 47
abbrev sLScaled : Stmt := top 48
abbrev sLPlaced : Stmt := top 49
abbrev sLMoved : Stmt := top 53
section
variable {P : Program} {w : World} {K : PySem.W.Frag} {mg : Str → Option Value} {base : Heap}
/-! #### _law_times -/
theorem scLTimes : FnScope ["x", "y"] ["x", "y"] (defScope sLTimes) := ⟨rfl, rfl, rfl, by decide +kernel, rfl, by decide +kernel, by decide +kernel⟩
theorem ok_ltimes (hp : DL.Put K mg "_law_times" sLTimes) (dF : Def P w K mg base "_law_least" 1 ["a", "b"] (spP K rFrac)) : Def P w K mg base "_law_times" 2 ["x", "y"] (spP K rTimes) := by
  refine def_P hp scLTimes (fun _ _ _ _ _ _ us hl => match us, hl with | [_, _], _ => rfl) (by decide) (fun ds d h => ?_) (fun a hr ds d h => ?_)
  · obtain ⟨_, _, _, _, rfl, _⟩ := h
    rfl
  · obtain ⟨a, b, c, e, rfl, h, rfl⟩ := h
    have k_law_least := dF.known hr
    exact .rt (s_stop (s_retP (e_call k_law_least (ea_cons (e_bin (e_ixt (e_var 0)) (e_ixt (e_var 1)) (ov_mul (h.sa.cmul h.sc (by decide)))) (ea_cons (e_bin (e_ixt (e_var 0)) (e_ixt (e_var 1)) (ov_mul (h.sb.cmul h.se (by decide)))) ea_nil)) ⟨_, _, rfl, h.mul.1, h.mul.2, rfl⟩)))
/-! #### _law_is_in -/
def overF (xs : List Fr) (r : Row) : Fr := addF (r.2, 1) (mulF (-1, 1) (reachF r.1 xs))
def inF (xs : List Fr) (rows : List Row) : Bool := (rows.map (overF xs)).all fun x => !decide (x.1 < 0)
def rLIsIn (ds : List PyData) (d : PyData) : Prop := ∃ (n : Int) (rows : List Row) (xs : List Fr), ds = [roomD n rows, ptD xs] ∧ (∀ r ∈ rows, Ro 200 r) ∧ rows.length ≤ 1000 ∧ Pt xs ∧ d = .bool (inF xs rows)
theorem lay_frs : ∀ xs : List Fr, PyData.canLayAll0 (xs.map frD) = true
  | [] => by simp [PyData.canLayAll0]
  | x :: xs => by simp [PyData.canLayAll0, PyData.canLay0, lay_frs xs]
theorem depth_frs (xs : List Fr) : PyData.depthAll (xs.map frD) ≤ 8 := by
  induction xs with
  | nil => rw [List.map_nil, PyData.depthAll]; omega
  | cons x xs ih =>
    rw [List.map_cons, PyData.depthAll, PyData.depth, PyData.depthAll, PyData.depthAll, PyData.depthAll, PyData.depth, PyData.depth]
    omega
theorem flat_frs : ∀ xs : List Fr, flatDs (xs.map frD) = true
  | [] => by simp [flatDs]
  | x :: xs => by simp [flatDs, flatD, flat_frs xs]
theorem shaped_frs (xs : List Fr) : SeqAt.shaped (.list (xs.map frD)) = true := by
  unfold SeqAt.shaped
  have := depth_frs xs
  simp [PyData.canLay0, PyData.depth, lay_frs]
  omega
theorem flatF (xs : List Fr) : flatD (.list (xs.map frD)) = true := by simp [flatD, flat_frs]
theorem eqv_nilF (xs : List Fr) : PyData.eqv (.list (xs.map frD)) (.list []) = xs.isEmpty := by
  cases xs with
  | nil => simp [PyData.eqv, PyData.eqvAll]
  | cons n ns => simp [PyData.eqv, PyData.eqvAll]
theorem filter_all (p : Fr → Bool) : ∀ xs : List Fr, (xs.filter p).isEmpty = xs.all fun x => !p x
  | [] => rfl
  | x :: xs => by
    have := filter_all p xs
    rw [List.all_cons, ← this]
    cases h : p x with
    | true => rw [List.filter_cons_of_pos h]; rfl
    | false => rw [List.filter_cons_of_neg (by rw [h]; exact Bool.false_ne_true)]; rfl
theorem scLIsIn : FnScope ["room", "point", "over", "row", "one"] ["room", "point"] (defScope sLIsIn) := ⟨rfl, rfl, rfl, by decide +kernel, rfl, by decide +kernel, by decide +kernel⟩
abbrev liE1 : Expr := exprOf (bodyAt sLIsIn 0)
abbrev liE2 : Expr := pt 0 (exprOf (bodyAt sLIsIn 1))
theorem blkLI1 : blkC ["room", "point", "over", "row", "one"] (defScope sLIsIn) (cmS liE1) [("row", 3)] = true := by decide +kernel
theorem blkLI2 : blkC ["room", "point", "over", "row", "one"] (defScope sLIsIn) (cmS liE2) [("one", 4)] = true := by decide +kernel
theorem fo_neg1 {n : Nat} (h : 1 ≤ n) : Fo n ((-1, 1) : Fr) := ⟨by decide, Sz.mono (n := 1) (sz_lt (by decide)) h, Sz.mono (n := 1) (sz_lt (by decide)) h⟩
theorem ok_lisin (hp : DL.Put K mg "_law_is_in" sLIsIn) (dP : Def P w K mg base "_law_plus" 2 ["x", "y"] (spP K rPlus)) (dT : Def P w K mg base "_law_times" 2 ["x", "y"] (spP K rTimes)) (dR : Def P w K mg base "_law_reach" 3 ["row", "point"] (spP K rReach)) : Def P w K mg base "_law_is_in" 4 ["room", "point"] (spP K rLIsIn) := by
  refine def_P hp scLIsIn (fun _ _ _ _ _ _ us hl => match us, hl with | [_, _], _ => rfl) (by decide) (fun ds d h => ?_) (fun c hr ds d h => ?_)
  · obtain ⟨_, _, _, rfl, _⟩ := h
    rfl
  · obtain ⟨n, rows, xs, rfl, h1, h2, hx, rfl⟩ := h
    have k_law_plus := dP.known hr
    have k_law_times := dT.known hr
    have k_law_reach := dR.known hr
    have hu : (cx P w K mg base ["room", "point", "over", "row", "one"] "_law_is_in" sLIsIn c).A.units + 64 < cLine := by
      have := hr.1.un
      omega
    have hm : ∀ r ∈ rows, Fo 1301 (mulF (-1, 1) (reachF r.1 xs)) := fun r hr' => mul_fo (fo_neg1 (by decide)) (reach_fo (h1 r hr') hx)
    have cl : CL (cx P w K mg base ["room", "point", "over", "row", "one"] "_law_is_in" sLIsIn c) (cmS liE1) (cmT liE1) (cmI liE1) (cmE liE1) [3] (rows.map rowD) [.dat (roomD n rows), .dat (ptD xs), .un, .un, .un] ((rows.map (overF xs)).map frD) [.dat (roomD n rows), .dat (ptD xs), .un, .un, .un] := by
      rw [List.map_map]
      exact cl_map (f := rowD) (r := fun r : Row => frD (overF xs r)) (js := [3]) (fun _ z => z) rows (fun _ _ _ _ _ _ _ => g_name 3 scLIsIn.nd) (fun r hr' _ _ _ _ _ => e_call k_law_plus (ea_cons (e_tup (ea_cons (e_ixt (e_var 3)) (ea_cons e_int ea_nil))) (ea_cons (e_call k_law_times (ea_cons (e_tup (ea_cons (E.to (e_bin e_int e_int ov_sub) rfl) (ea_cons e_int ea_nil))) (ea_cons (e_call k_law_reach (ea_cons (e_var 3) (ea_cons (e_var 1) ea_nil)) ⟨r, xs, rfl, h1 r hr', hx, rfl⟩) ea_nil)) ⟨-1, 1, _, _, rfl, f2_of (fo_neg1 (n := 62) (by decide)) (reach_fo (h1 r hr') hx) (by decide) (by decide), rfl⟩) ea_nil)) ⟨r.2, 1, _, _, rfl, f2_of (int_fo (h1 r hr').b (by decide)) (hm r hr') (by decide) (by decide), rfl⟩) (fun _ _ => Le.refl _)
    refine .rt (s_cons (s_setLc 2 (own := [("row", 3)]) (i_tup (e_ixt (e_var 0))) cl (by rw [List.length_map]; omega) scLIsIn.nd (blkOk_by blkLI1) (Nat.le_of_ble_eq_true rfl))
      (s_stop (s_retP (e_cmp (e_O (eo_lc (own := [("one", 4)]) (i_list (e_varO 2)) (cl_filter (f := frD) (r := frD) (p := fun x : Fr => decide (x.1 < 0)) (js := [4]) (fun _ z => z) (rows.map (overF xs)) (fun _ _ _ _ _ _ _ => g_name 4 scLIsIn.nd) (fun _ _ _ _ _ _ _ => t_cmp (e_ixt (e_var 4)) e_int ov_lt) (fun _ _ _ _ _ _ _ => e_var 4) (fun _ _ => Le.refl _)) (by rw [List.length_map, List.length_map]; omega) scLIsIn.nd (blkOk_by blkLI2))) (e_O (eo_lst ea_nil)) (ov_eqD hu (shaped_frs _) (by decide +kernel) (flatF _) (by decide +kernel))) ?_)))
    rw [eqv_nilF, filter_all]
    rfl
/-! #### _law_shifted, _law_scaled, _law_placed -/
theorem scLShifted : FnScope ["room", "point", "rows", "a", "b", "one"] ["room", "point"] (defScope sLShifted) := ⟨rfl, rfl, rfl, by decide +kernel, rfl, by decide +kernel, by decide +kernel⟩
abbrev lsE1 : Expr := exprOf (bodyAt sLShifted 0)
abbrev lsE2 : Expr := pt 0 (cmE lsE1)
theorem blkLS1 : blkC ["room", "point", "rows", "a", "b", "one"] (defScope sLShifted) (cmS lsE1) [("a", 3), ("b", 4)] = true := by decide +kernel
theorem blkLS2 : blkC ["room", "point", "rows", "a", "b", "one"] (cmS lsE1) (cmS lsE2) [("one", 5)] = true := by decide +kernel
theorem sh_fo {r : Row} {xs : List Fr} (h : Rs r) (hx : Pt xs) : Fo 1250 (reachF r.1 xs) ∧ Fo 1400 (addF (r.2, 1) (reachF r.1 xs)) := by
  have hp := lcF_pos xs 1 (by decide) hx.pos
  have hd : Sz 1250 (dot r.1 (upF (lcF 1 xs) xs)) := (dot_sz h.ro.a (up_sz hx) h.ro.len).mono (by decide)
  have f : Fo 1250 (reachF r.1 xs) := ⟨den_pos (by omega), num_size _ hd, den_size _ ((szNatI (lc1 hx)).mono (by decide))⟩
  exact ⟨f, addF_fo (int_fo h.ro.b (by decide)) f (by decide)⟩
theorem ok_lshifted (hp : DL.Put K mg "_law_shifted" sLShifted) (m_tuple : mg "tuple" = none) (dO : Def P w K mg base "_law_row_of" 3 ["members", "bound"] (spP K rRowOfS)) (dP : Def P w K mg base "_law_plus" 2 ["x", "y"] (spP K rPlus)) (dR : Def P w K mg base "_law_reach" 3 ["row", "point"] (spP K rReach)) : Def P w K mg base "_law_shifted" 4 ["room", "point"] (spP K rShifted) := by
  refine def_P hp scLShifted (fun _ _ _ _ _ _ us hl => match us, hl with | [_, _], _ => rfl) (by decide) (fun ds d h => ?_) (fun c hr ds d h => ?_)
  · obtain ⟨_, _, _, rfl, _⟩ := h
    rfl
  · obtain ⟨n, rows, xs, rfl, h1, h2, hx, rfl⟩ := h
    have k_law_row_of := dO.known hr
    have k_law_plus := dP.known hr
    have k_law_reach := dR.known hr
    have eo : ∀ r : Row, (r.1.map fun x : Int => frD (x, 1)) = (ones r.1).map frD := fun r => by
      unfold ones
      rw [List.map_map]
      rfl
    refine .rt (s_cons (s_setLc 2 (own := [("a", 3), ("b", 4)]) (i_tup (e_ixt (e_var 0))) (cl_map (f := rowD) (r := fun r : Row => rowD (shR xs r)) (js := [3, 4]) (fun _ z => z) rows (fun _ _ _ _ _ _ _ => g_tup rfl (gs_cons (g_name 3 scLShifted.nd) (gs_cons (g_name 4 scLShifted.nd) gs_nil)))
      (fun r hr' _ _ _ _ _ => e_call k_law_row_of (ea_cons (E.to (d := .list ((ones r.1).map frD)) (e_O (eo_lc (own := [("one", 5)]) (i_tup (e_var 3)) (cl_map (f := PyData.int) (r := fun x : Int => frD (x, 1)) (js := [5]) (fun _ z => z) r.1 (fun _ _ _ _ _ _ _ => g_name 5 scLShifted.nd) (fun _ _ _ _ _ _ _ => e_tup (ea_cons (e_var 5) (ea_cons e_int ea_nil))) (fun _ _ => Le.refl _)) (by have := (h1 r hr').len; rw [List.length_map]; omega) scLShifted.nd (blkOk_by blkLS2))) (by rw [eo]))
        (ea_cons (e_call k_law_plus (ea_cons (e_tup (ea_cons (e_var 4) (ea_cons e_int ea_nil))) (ea_cons (e_call k_law_reach (ea_cons (e_tup (ea_cons (e_var 3) (ea_cons (e_var 4) ea_nil))) (ea_cons (e_var 1) ea_nil)) ⟨r, xs, rfl, (h1 r hr').ro.mono (by decide), hx, rfl⟩) ea_nil)) ⟨r.2, 1, _, _, rfl, f2_of (int_fo (h1 r hr').ro.b (by decide)) (sh_fo (h1 r hr') hx).1 (by decide) (by decide), rfl⟩) ea_nil)) ⟨false, ones r.1, addF (r.2, 1) (reachF r.1 xs), rfl, ones_pt (h1 r hr').ro (by decide) (h1 r hr').len, (sh_fo (h1 r hr') hx).2, rfl⟩) (fun _ _ => Le.refl _)) (by rw [List.length_map]; omega) scLShifted.nd (blkOk_by blkLS1) (Nat.le_of_ble_eq_true rfl))
      (s_stop (s_retP (e_tup (ea_cons (e_ixt (e_var 0)) (ea_cons (e_callTy (ea_cons (e_varO 2) ea_nil) cv_tupL m_tuple) ea_nil))) ?_)))
    show _ = PyData.tuple [_, .tuple ((rows.map (shR xs)).map rowD)]
    rw [List.map_map]
    rfl
end
end K03
end part_K03w
section part_K03x
namespace K03
open L2 PyProof.Rows PySem.Spec PySem DL Num
abbrev sLBoxed : Stmt := top 50
section
variable {P : Program} {w : World} {K : PySem.W.Frag} {mg : Str → Option Value} {base : Heap}
theorem scLScaled : FnScope ["room", "t", "a", "b", "one"] ["room", "t"] (defScope sLScaled) := ⟨rfl, rfl, rfl, by decide +kernel, rfl, by decide +kernel, by decide +kernel⟩
abbrev lcE1 : Expr := pt 0 (pt 1 (exprOf (bodyAt sLScaled 0)))
abbrev lcE2 : Expr := pt 0 (cmE lcE1)
theorem blkLC1 : blkC ["room", "t", "a", "b", "one"] (defScope sLScaled) (cmS lcE1) [("a", 2), ("b", 3)] = true := by decide +kernel
theorem blkLC2 : blkC ["room", "t", "a", "b", "one"] (cmS lcE1) (cmS lcE2) [("one", 4)] = true := by decide +kernel
theorem mulF_comm (x y : Fr) : mulF x y = mulF y x := by
  unfold mulF
  rw [Int.mul_comm x.1, Int.mul_comm x.2]
theorem ok_lscaled (hp : DL.Put K mg "_law_scaled" sLScaled) (m_tuple : mg "tuple" = none) (dO : Def P w K mg base "_law_row_of" 3 ["members", "bound"] (spP K rRowOfS)) (dT : Def P w K mg base "_law_times" 2 ["x", "y"] (spP K rTimes)) : Def P w K mg base "_law_scaled" 4 ["room", "t"] (spP K rScaled) := by
  refine def_P hp scLScaled (fun _ _ _ _ _ _ us hl => match us, hl with | [_, _], _ => rfl) (by decide) (fun ds d h => ?_) (fun c hr ds d h => ?_)
  · obtain ⟨_, _, _, rfl, _⟩ := h
    rfl
  · obtain ⟨n, rows, t, rfl, h1, h2, ht, rfl⟩ := h
    have k_law_row_of := dO.known hr
    have k_law_times := dT.known hr
    have eo : ∀ r : Row, (r.1.map fun x : Int => frD (x, 1)) = (ones r.1).map frD := fun r => by
      unfold ones
      rw [List.map_map]
      rfl
    refine .rt (s_stop (s_retP (e_tup (ea_cons (e_ixt (e_var 0)) (ea_cons (e_callTy (ea_cons (e_O (eo_lc (own := [("a", 2), ("b", 3)]) (i_tup (e_ixt (e_var 0))) (cl_map (f := rowD) (r := fun r : Row => rowD (scR t r)) (js := [2, 3]) (fun _ z => z) rows (fun _ _ _ _ _ _ _ => g_tup rfl (gs_cons (g_name 2 scLScaled.nd) (gs_cons (g_name 3 scLScaled.nd) gs_nil)))
      (fun r hr' _ _ _ _ _ => e_call k_law_row_of (ea_cons (E.to (d := .list ((ones r.1).map frD)) (e_O (eo_lc (own := [("one", 4)]) (i_tup (e_var 2)) (cl_map (f := PyData.int) (r := fun x : Int => frD (x, 1)) (js := [4]) (fun _ z => z) r.1 (fun _ _ _ _ _ _ _ => g_name 4 scLScaled.nd) (fun _ _ _ _ _ _ _ => e_tup (ea_cons (e_var 4) (ea_cons e_int ea_nil))) (fun _ _ => Le.refl _)) (by have := (h1 r hr').len; rw [List.length_map]; omega) scLScaled.nd (blkOk_by blkLC2))) (by rw [eo]))
        (ea_cons (e_call k_law_times (ea_cons (e_var 1) (ea_cons (e_tup (ea_cons (e_var 3) (ea_cons e_int ea_nil))) ea_nil)) ⟨t.1, t.2, r.2, 1, rfl, f2_of ht (int_fo (h1 r hr').ro.b (by decide)) (by decide) (by decide), rfl⟩) ea_nil)) ⟨false, ones r.1, mulF t (r.2, 1), rfl, ones_pt (h1 r hr').ro (by decide) (h1 r hr').len, (mul_fo ht (int_fo (h1 r hr').ro.b (by decide))).mono (by decide), by unfold scR; rw [mulF_comm t]⟩) (fun _ _ => Le.refl _)) (by rw [List.length_map]; omega) scLScaled.nd (blkOk_by blkLC1))) ea_nil) cv_tupL m_tuple) ea_nil))) ?_))
    show _ = PyData.tuple [_, .tuple ((rows.map (scR t)).map rowD)]
    rw [List.map_map]
    rfl
theorem scLPlaced : FnScope ["room", "order", "a", "b", "k"] ["room", "order"] (defScope sLPlaced) := ⟨rfl, rfl, rfl, by decide +kernel, rfl, by decide +kernel, by decide +kernel⟩
abbrev lqE1 : Expr := pt 0 (pt 1 (exprOf (bodyAt sLPlaced 0)))
abbrev lqE2 : Expr := pt 0 (pt 0 (pt 0 (cmE lqE1)))
theorem blkLQ1 : blkC ["room", "order", "a", "b", "k"] (defScope sLPlaced) (cmS lqE1) [("a", 2), ("b", 3)] = true := by decide +kernel
theorem blkLQ2 : blkC ["room", "order", "a", "b", "k"] (cmS lqE1) (cmS lqE2) [("k", 4)] = true := by decide +kernel
theorem ok_lplaced (hp : DL.Put K mg "_law_placed" sLPlaced) (m_tuple : mg "tuple" = none) (dP : Def P w K mg base "_law_plain" 2 ["row"] (spP K rPlain)) : Def P w K mg base "_law_placed" 3 ["room", "order"] (spP K rPlaced) := by
  refine def_P hp scLPlaced (fun _ _ _ _ _ _ us hl => match us, hl with | [_, _], _ => rfl) (by decide) (fun ds d h => ?_) (fun c hr ds d h => ?_)
  · obtain ⟨_, _, _, _, rfl, _⟩ := h
    rfl
  · obtain ⟨n, m, rows, o, rfl, h1, ho, hl, h2, rfl⟩ := h
    have k_law_plain := dP.known hr
    refine .rt (s_stop (s_retP (e_tup (ea_cons (e_ixt (e_var 0)) (ea_cons (e_callTy (ea_cons (e_O (eo_lc (own := [("a", 2), ("b", 3)]) (i_tup (e_ixt (e_var 0))) (cl_map (f := rowD) (r := fun r : Row => rowD (plR (takeR o r))) (js := [2, 3]) (fun _ z => z) rows (fun _ _ _ _ _ _ _ => g_tup rfl (gs_cons (g_name 2 scLPlaced.nd) (gs_cons (g_name 3 scLPlaced.nd) gs_nil)))
      (fun r hr' _ _ _ _ _ => e_call k_law_plain (ea_cons (E.to (d := rowD (takeR o r)) (e_tup (ea_cons (e_callTy (ea_cons (e_O (eo_lc (own := [("k", 4)]) (i_tup (e_var 1)) (cl_map (f := fun k : Nat => PyData.int (k : Int)) (r := fun k : Nat => .int (r.1.getD k 0)) (js := [4]) (fun _ z => z) o (fun _ _ _ _ _ _ _ => g_name 4 scLPlaced.nd) (fun k hk _ _ _ _ _ => e_ix (e_var 2) (e_var 4) (ixv_tup (atI_nat ?a0))) (fun _ _ => Le.refl _)) ?a1 scLPlaced.nd (blkOk_by blkLQ2))) ea_nil) cv_tupL m_tuple) (ea_cons (e_var 3) ea_nil))) ?a2) ea_nil) ⟨takeR o r, rfl, takeR_ro (h1 r hr').1 (h1 r hr').2 ho hl, rfl⟩) (fun _ _ => Le.refl _)) (by rw [List.length_map]; omega) scLPlaced.nd (blkOk_by blkLQ1))) ea_nil) cv_tupL m_tuple) ea_nil))) ?_))
    case a0 =>
      have := ho k hk
      have hm := (h1 r hr').2
      rw [List.getElem?_map, List.getD_eq_getElem?_getD, List.getElem?_eq_getElem (by omega)]
      rfl
    case a1 =>
      rw [List.length_map]
      omega
    case a2 =>
      show _ = PyData.tuple [.tuple ((o.map _).map PyData.int), _]
      rw [List.map_map]
      rfl
    · show _ = PyData.tuple [_, .tuple (((rows.map (takeR o)).map plR).map rowD)]
      rw [List.map_map, List.map_map]
      rfl
/-! #### _law_moved -/
def movedF (ls : List (List Fr)) (x sh : List Fr) : List Fr := (ls.zip sh).map fun z => worthF z.2 (z.1.zip x)
def rMoved (ds : List PyData) (d : PyData) : Prop := ∃ (ls : List (List Fr)) (x sh : List Fr), ds = [maD ls, ptD x, ptD sh] ∧ (∀ l ∈ ls, Sp l) ∧ Sp x ∧ (∀ y ∈ sh, Fo 3000 y) ∧ sh.length ≤ 7 ∧ d = ptD (movedF ls x sh)
abbrev nMoved : List Str := ["matrix", "point", "shift", "found", "line", "one", "number", "part"]
theorem scLMoved : FnScope nMoved ["matrix", "point", "shift"] (defScope sLMoved) := ⟨rfl, rfl, rfl, by decide +kernel, rfl, by decide +kernel, by decide +kernel⟩
abbrev cMoved (P : Program) (w : World) (K : PySem.W.Frag) (mg : Str → Option Value) (base : Heap) (a : CxA) : Cx := cx P w K mg base nMoved "_law_moved" sLMoved a
abbrev mvIn : Stmt := (lpB (bodyAt sLMoved 1)).getD 0 (.Pass ⟨0, 0, 0, 0⟩)
theorem moved_in (dP : Def P w K mg base "_law_plus" 2 ["x", "y"] (spP K rPlus)) (dT : Def P w K mg base "_law_times" 2 ["x", "y"] (spP K rTimes)) {a : CxA} (hr : Rm 2 (cMoved P w K mg base a).A) (v0 v1 v2 v4 : PyData) (fs : List PyData) : ∀ (zs : List (Fr × Fr)) (f : Fr) (m : Nat), Fo m f → m + 125 * zs.length ≤ 4400 → (∀ z ∈ zs, Fo 62 z.1 ∧ Fo 62 z.2) →
    Loop (cMoved P w K mg base a) (forT mvIn) (lpB mvIn) (zs.map ffD) [.dat v0, .dat v1, .dat v2, .own fs, .dat v4, .dat (frD f), .un, .un] (.nx [.dat v0, .dat v1, .dat v2, .own fs, .dat v4, .dat (frD (worthF f zs)), .un, .un])
  | [], f, m, _, _, _ => .nil
  | z :: zs, f, m, hf, hm, hz => by
    obtain ⟨h1, h2⟩ := hz z List.mem_cons_self
    have k_law_plus := dP.known hr
    have k_law_times := dT.known hr
    rw [List.length_cons] at hm
    exact .nx (g_tup rfl (gs_cons (g_name 6 scLMoved.nd) (gs_cons (g_name 7 scLMoved.nd) gs_nil))) (s_cons (s_set 5 (e_call k_law_plus (ea_cons (e_var 5) (ea_cons (e_call k_law_times (ea_cons (e_var 6) (ea_cons (e_var 7) ea_nil)) ⟨z.1.1, z.1.2, z.2.1, z.2.2, rfl, f2_of h1 h2 (by decide) (by decide), rfl⟩) ea_nil)) ⟨f.1, f.2, _, _, rfl, f2_of hf (mul_fo h1 h2) (by omega) (by decide), rfl⟩) scLMoved.nd) (s_nil (le_cons (le_cons (le_cons (le_cons (le_cons (le_cons (le_un (le_un le_nil))))))))))
      (moved_in dP dT hr v0 v1 v2 v4 fs zs (addF f (mulF z.1 z.2)) (m + 125) (addF_fo hf (mul_fo h1 h2) (by omega)) (by omega) fun y hy => hz y (List.mem_cons_of_mem _ hy))
theorem moved_out (dP : Def P w K mg base "_law_plus" 2 ["x", "y"] (spP K rPlus)) (dT : Def P w K mg base "_law_times" 2 ["x", "y"] (spP K rTimes)) (m_zip : mg "zip" = none) {a : CxA} (hr : Rm 2 (cMoved P w K mg base a).A) (v0 v2 : PyData) (x : List Fr) (hx : Sp x) : ∀ (zs : List (List Fr × Fr)) (fs : List Fr), fs.length + zs.length ≤ 1000 → (∀ z ∈ zs, Sp z.1 ∧ Fo 3000 z.2) →
    Loop (cMoved P w K mg base a) (forT (bodyAt sLMoved 1)) (lpB (bodyAt sLMoved 1)) (zs.map lfD) [.dat v0, .dat (ptD x), .dat v2, .own (fs.map frD), .un, .un, .un, .un] (.nx [.dat v0, .dat (ptD x), .dat v2, .own ((fs ++ zs.map fun z => worthF z.2 (z.1.zip x)).map frD), .un, .un, .un, .un])
  | [], fs, _, _ => by
    rw [List.map_nil, List.map_nil, List.append_nil]
    exact .nil
  | z :: zs, fs, hm, hz => by
    obtain ⟨h1, h2⟩ := hz z List.mem_cons_self
    obtain ⟨q1, q2⟩ := sp_zip h1 hx
    rw [List.length_cons] at hm
    have ih := moved_out dP dT m_zip hr v0 v2 x hx zs (fs ++ [worthF z.2 (z.1.zip x)]) (by rw [List.length_append]; show fs.length + 1 + zs.length ≤ 1000; omega) fun y hy => hz y (List.mem_cons_of_mem _ hy)
    have ea : (fs ++ [worthF z.2 (z.1.zip x)]) ++ (zs.map fun z => worthF z.2 (z.1.zip x)) = fs ++ ((z :: zs).map fun z => worthF z.2 (z.1.zip x)) := by rw [List.append_assoc]; rfl
    rw [ea] at ih
    have eb : (fs ++ [worthF z.2 (z.1.zip x)]).map frD = fs.map frD ++ [frD (worthF z.2 (z.1.zip x))] := by rw [List.map_append]; rfl
    rw [eb] at ih
    have lp := moved_in dP dT (a := a) hr v0 (ptD x) v2 (ptD z.1) (fs.map frD) (z.1.zip x) z.2 3000 h2 (by omega) q1
    rw [← zip_ff] at lp
    exact .nx (g_tup rfl (gs_cons (g_name 4 scLMoved.nd) (gs_cons (g_name 5 scLMoved.nd) gs_nil))) (s_cons (s_for (i_zip (k := true) (j := true) (ea_cons (e_var 4) (ea_cons (e_var 1) ea_nil)) m_zip) lp) (s_cons (s_append 3 (e_var 5) rfl rfl (by rw [List.length_map]; omega)) (s_nil (le_cons (le_cons (le_cons (le_cons (le_un (le_un (le_un (le_un le_nil))))))))))) ih
theorem ok_moved (hp : DL.Put K mg "_law_moved" sLMoved) (m_zip : mg "zip" = none) (m_tuple : mg "tuple" = none) (dP : Def P w K mg base "_law_plus" 2 ["x", "y"] (spP K rPlus)) (dT : Def P w K mg base "_law_times" 2 ["x", "y"] (spP K rTimes)) : Def P w K mg base "_law_moved" 3 ["matrix", "point", "shift"] (spP K rMoved) := by
  refine def_P hp scLMoved (fun _ _ _ _ _ _ us hl => match us, hl with | [_, _, _], _ => rfl) (by decide) (fun ds d h => ?_) (fun c hr ds d h => ?_)
  · obtain ⟨_, _, _, rfl, _⟩ := h
    rfl
  · obtain ⟨ls, x, sh, rfl, h1, hx, hs, hn, rfl⟩ := h
    have lp := moved_out dP dT m_zip (a := c) hr (maD ls) (ptD sh) x hx (ls.zip sh) [] (by rw [List.length_zip]; show 0 + _ ≤ 1000; omega) fun z hz => ⟨h1 _ (List.of_mem_zip hz).1, hs _ (List.of_mem_zip hz).2⟩
    rw [← zip_lf, List.nil_append] at lp
    exact .rt (s_cons (s_setO 3 (eo_lst ea_nil) scLMoved.nd) (s_cons (s_for (i_zip (k := true) (j := true) (ea_cons (e_var 0) (ea_cons (e_var 2) ea_nil)) m_zip) lp) (s_stop (s_retP (e_callTy (ea_cons (e_varO 3) ea_nil) cv_tupL m_tuple)))))
end
end K03
end part_K03x
section part_K03y
namespace K03
open L2 PyProof.Rows PySem.Spec PySem DL Num
/-! ### sums in another order -/
def sumA : List (Fr × Fr) → Int
  | [] => 0
  | z :: zs => (z.1.1 * z.2.1) * (zs.foldr (fun z b => (z.1.2 * z.2.2) * b) 1) + sumA zs * (z.1.2 * z.2.2)
def sumB (zs : List (Fr × Fr)) : Int := zs.foldr (fun z b => (z.1.2 * z.2.2) * b) 1
theorem sumB_pos : ∀ (zs : List (Fr × Fr)), (∀ z ∈ zs, 0 < z.1.2 ∧ 0 < z.2.2) → 0 < sumB zs
  | [], _ => by decide
  | z :: zs, h => by
    obtain ⟨h1, h2⟩ := h z List.mem_cons_self
    exact Int.mul_pos (Int.mul_pos h1 h2) (sumB_pos zs fun y hy => h y (List.mem_cons_of_mem _ hy))
theorem worth_red : ∀ (zs : List (Fr × Fr)) (P Q : Int), 0 < Q → (∀ z ∈ zs, 0 < z.1.2 ∧ 0 < z.2.2) → worthF (red P Q) zs = red (P * sumB zs + sumA zs * Q) (Q * sumB zs)
  | [], P, Q, hQ, _ => by
    show red P Q = red (P * 1 + 0 * Q) (Q * 1)
    rw [Int.mul_one, Int.mul_one, Int.zero_mul, Int.add_zero]
  | z :: zs, P, Q, hQ, h => by
    obtain ⟨h1, h2⟩ := h z List.mem_cons_self
    have hz : 0 < z.1.2 * z.2.2 := Int.mul_pos h1 h2
    have ih := worth_red zs (P * (z.1.2 * z.2.2) + (z.1.1 * z.2.1) * Q) (Q * (z.1.2 * z.2.2)) (Int.mul_pos hQ hz) fun y hy => h y (List.mem_cons_of_mem _ hy)
    show worthF (addF (red P Q) (red (z.1.1 * z.2.1) (z.1.2 * z.2.2))) zs = _
    rw [red_add hQ hz, ih]
    show red _ _ = red (P * ((z.1.2 * z.2.2) * sumB zs) + ((z.1.1 * z.2.1) * sumB zs + sumA zs * (z.1.2 * z.2.2)) * Q) (Q * ((z.1.2 * z.2.2) * sumB zs))
    congr 1
    · generalize z.1.2 * z.2.2 = q
      generalize z.1.1 * z.2.1 = p
      simp only [Int.add_mul, Int.mul_add, Int.mul_comm, Int.mul_left_comm, Int.mul_assoc, Int.add_assoc]
    · rw [Int.mul_assoc]
theorem red01 : red 0 1 = (0, 1) := by rfl
theorem worth_comm {zs : List (Fr × Fr)} {P Q : Int} (hQ : 0 < Q) (h : ∀ z ∈ zs, 0 < z.1.2 ∧ 0 < z.2.2) : addF (worthF (0, 1) zs) (red P Q) = worthF (red P Q) zs := by
  have hB := sumB_pos zs h
  rw [← red01, worth_red zs 0 1 (by decide) h, worth_red zs P Q hQ h, Int.zero_mul, Int.zero_add, Int.mul_one, Int.one_mul, red_add hB hQ]
  congr 1
  · rw [Int.add_comm]
  · rw [Int.mul_comm]
/-- reduced fractions -/
def Redd (x : Fr) : Prop := ∃ p q : Int, 0 < q ∧ x = red p q
theorem image_moved {ls : List (List Fr)} {x sh : List Fr} (h1 : ∀ l ∈ ls, Sp l) (hx : Sp x) (hs : ∀ y ∈ sh, Redd y) : imageF ls x sh = movedF ls x sh := by
  unfold imageF movedF
  refine List.map_congr_left fun z hz => ?_
  obtain ⟨p, q, hq, e⟩ := hs _ (List.of_mem_zip hz).2
  rw [e]
  exact worth_comm hq fun y hy => ⟨((h1 _ (List.of_mem_zip hz).1).fo _ (List.of_mem_zip hy).1).pos, (hx.fo _ (List.of_mem_zip hy).2).pos⟩
theorem addF_redd {x y : Fr} (hx : 0 < x.2) (hy : 0 < y.2) : Redd (addF x y) := ⟨x.1 * y.2 + y.1 * x.2, x.2 * y.2, Int.mul_pos hx hy, rfl⟩
theorem image_redd {ls : List (List Fr)} {x sh : List Fr} (h1 : ∀ l ∈ ls, Sp l) (hx : Sp x) (hs : ∀ y ∈ sh, 0 < y.2) : ∀ y ∈ imageF ls x sh, Redd y := fun y hy => by
  obtain ⟨z, hz, rfl⟩ := List.mem_map.mp hy
  exact addF_redd (worth900 (h1 _ (List.of_mem_zip hz).1) hx).pos (hs _ (List.of_mem_zip hz).2)
/-! ### what is in -/
theorem red_one (b : Int) : red b 1 = (b, 1) := by
  have h1 := num_eq (p := b) (q := 1) (by decide)
  have h2 := den_eq (p := b) (q := 1) (by decide)
  have hs : sg b 1 = 1 := by
    unfold sg gc
    simp
  rw [hs, Int.mul_one] at h1 h2
  show (num b 1, den b 1) = (b, 1)
  rw [h1, h2]
theorem over_slack {xs : List Fr} (h : ∀ x ∈ xs, 0 < x.2) (r : Row) : overF xs r = slackF r xs := by
  have hM := lcF_pos xs 1 (by decide) h
  have hd : 0 < (reachF r.1 xs).2 := den_pos (by omega)
  unfold overF mulF
  rw [← red_one r.2]
  show addF (red r.2 1) (red (-1 * (reachF r.1 xs).1) (1 * (reachF r.1 xs).2)) = _
  rw [Int.one_mul, red_add (by decide) hd, Int.one_mul, Int.mul_one]
  unfold slackF
  congr 1
  omega
theorem first_all : ∀ (ss : List Int) (k : Nat), (firstF ss k).isNone = ss.all fun s => !decide (s < 0)
  | [], k => rfl
  | s :: ss, k => by
    have := first_all ss (k + 1)
    simp only [firstF, List.all_cons]
    by_cases h : s < 0
    · rw [if_pos h, decide_eq_true h]
      rfl
    · rw [if_neg h, decide_eq_false h, this]
      rfl
theorem in_eq {xs : List Fr} (h : ∀ x ∈ xs, 0 < x.2) (rows : List Row) : inF xs rows = rows.all fun r => !decide (sgn xs r < 0) := by
  unfold inF
  rw [List.all_map]
  congr 1
  funext r
  show (!decide ((overF xs r).1 < 0)) = _
  rw [over_slack h]
  have := (slack_sign (r := r) h).2
  by_cases z : sgn xs r < 0
  · rw [decide_eq_true z, decide_eq_true (this.mpr z)]
  · rw [decide_eq_false z, decide_eq_false (fun q => z (this.mp q))]
theorem isin_eq {xs : List Fr} (rows : List Row) : (firstF (rows.map (sgn xs)) 0).isNone = rows.all fun r => !decide (sgn xs r < 0) := by
  rw [first_all, List.all_map]
  rfl
/-- a room changed row by row, a point moved: what is in stays in -/
theorem in_moved {xs ys : List Fr} {f : Row → Row} {rows : List Row} (hx : ∀ x ∈ xs, 0 < x.2) (h : ∀ r ∈ rows, (sgn ys (f r) < 0 ↔ sgn xs r < 0)) : (firstF ((rows.map f).map (sgn ys)) 0).isNone = inF xs rows := by
  rw [isin_eq, in_eq hx, List.all_map]
  have : ∀ rows : List Row, (∀ r ∈ rows, (sgn ys (f r) < 0 ↔ sgn xs r < 0)) → rows.all ((fun r => !decide (sgn ys r < 0)) ∘ f) = rows.all fun r => !decide (sgn xs r < 0) := fun rows h => by
    induction rows with
    | nil => rfl
    | cons r rows ih =>
      rw [List.all_cons, List.all_cons, ih fun q hq => h q (List.mem_cons_of_mem _ hq)]
      have h1 := h r List.mem_cons_self
      show (!decide (sgn ys (f r) < 0) && _) = _
      by_cases z : sgn xs r < 0
      · rw [decide_eq_true z, decide_eq_true (h1.mpr z)]
      · rw [decide_eq_false z, decide_eq_false (fun q => z (h1.mp q))]
  exact this rows h
/-! ### rows made of numbers over a denominator -/
theorem lcF_ones : ∀ (a : List Int) (m : Nat), lcF m (ones a) = m
  | [], m => rfl
  | x :: a, m => by
    show lcF (Nat.lcm m (1 : Int).natAbs) (ones a) = m
    rw [show (1 : Int).natAbs = 1 from rfl, Nat.lcm_one_right]
    exact lcF_ones a m
theorem up_ones (M : Nat) (a : List Int) : upF M (ones a) = a.map fun x => x * (M : Int) := by
  unfold upF ones
  rw [List.map_map]
  refine List.map_congr_left fun x _ => ?_
  show x * (M : Int).fdiv 1 = _
  rw [Int.fdiv_one]
theorem rowOf_ones {a : List Int} {P q : Int} (hq : 0 < q) : rowOfF (ones a) (P, q) = plainF (a.map fun x => x * q) P := by
  have e : ((q.natAbs : Nat) : Int) = q := by omega
  unfold rowOfF
  rw [lcF_ones, up_ones]
  show plainF (a.map fun x => x * ((q.natAbs : Nat) : Int)) (P * ((q.natAbs : Nat) : Int).fdiv q) = _
  rw [e, Int.fdiv_self (by omega), Int.mul_one]
abbrev MM (xs : List Fr) : Int := ((lcF 1 xs : Nat) : Int)
abbrev WW (a : List Int) (xs : List Fr) : Int := dot a (upF (lcF 1 xs) xs)
theorem MM_pos {xs : List Fr} (h : ∀ x ∈ xs, 0 < x.2) : 0 < MM xs := by
  have := lcF_pos xs 1 (by decide) h
  show 0 < ((lcF 1 xs : Nat) : Int)
  omega
theorem rowOf_sign {a : List Int} {P q : Int} {ys : List Fr} (hq : 0 < q) (hy : ∀ y ∈ ys, 0 < y.2) : sgn ys (rowOfF (ones a) (P, q)) < 0 ↔ P * MM ys - q * WW a ys < 0 := by
  rw [rowOf_ones hq]
  have := plain_sign (r := (a.map fun x => x * q, P)) hy
  rw [this]
  unfold sgn
  show P * MM ys - dot (a.map fun x => x * q) _ < 0 ↔ _
  rw [dot_scale, Int.mul_comm (dot a _) q]
theorem up_mul {M : Nat} {x : Fr} (h : x.2 ∣ (M : Int)) (hx : 0 < x.2) : x.1 * (M : Int).fdiv x.2 * x.2 = x.1 * (M : Int) := by
  obtain ⟨c, hc⟩ := h
  rw [hc, Int.mul_fdiv_cancel_left c (by omega), Int.mul_assoc, Int.mul_comm c]
/-- sums over points that are sums, element by element -/
theorem dot_sum {A B C : Int} : ∀ (a u v s : List Int), u.length = v.length → u.length = s.length → (∀ (i : Nat) (x y z : Int), u[i]? = some x → v[i]? = some y → s[i]? = some z → z * A = x * B + y * C) → dot a s * A = dot a u * B + dot a v * C
  | [], u, v, s, _, _, _ => by show (0 : Int) * A = 0 * B + 0 * C; rw [Int.zero_mul, Int.zero_mul, Int.zero_mul]; rfl
  | x :: a, [], [], [], _, _, _ => by show (0 : Int) * A = 0 * B + 0 * C; rw [Int.zero_mul, Int.zero_mul, Int.zero_mul]; rfl
  | x :: a, [], _ :: _, _, h, _, _ => nomatch h
  | x :: a, _ :: _, [], _, h, _, _ => nomatch h
  | x :: a, [], _, _ :: _, _, h, _ => nomatch h
  | x :: a, _ :: _, _, [], _, h, _ => nomatch h
  | x :: a, p :: u, q :: v, t :: s, h1, h2, h => by
    have ih := dot_sum (A := A) (B := B) (C := C) a u v s (by simpa using h1) (by simpa using h2) fun i x y z e1 e2 e3 => h (i + 1) x y z (by simpa using e1) (by simpa using e2) (by simpa using e3)
    have h0 := h 0 p q t rfl rfl rfl
    have st : ∀ (y : Int) (w : List Int), dot (x :: a) (y :: w) = x * y + dot a w := fun y w => by
      show dotF (0 + x * y) (a.zip w) = _
      rw [dotF_add, Int.zero_add]
      rfl
    rw [st, st, st, Int.add_mul, ih, Int.mul_assoc, h0]
    simp only [Int.add_mul, Int.mul_add, Int.mul_assoc]
    omega
end K03
end part_K03y
section part_K03z
namespace K03
open L2 PyProof.Rows PySem.Spec PySem DL Num
theorem up_len (M : Nat) (xs : List Fr) : (upF M xs).length = xs.length := by unfold upF; rw [List.length_map]
theorem up_get {M : Nat} {xs : List Fr} {i : Nat} {u : Int} (h : (upF M xs)[i]? = some u) : ∃ x, xs[i]? = some x ∧ u = x.1 * (M : Int).fdiv x.2 := by
  unfold upF at h
  rw [List.getElem?_map] at h
  cases e : xs[i]? with
  | none => rw [e] at h; cases h
  | some x =>
    rw [e] at h
    cases h
    exact ⟨x, rfl, rfl⟩
/-- the point of sums -/
def ptAdd (xs ps : List Fr) : List Fr := (xs.zip ps).map fun z => addF z.1 z.2
theorem mem_dvd {xs : List Fr} {x : Fr} {i : Nat} (h : ∀ x ∈ xs, 0 < x.2) (e : xs[i]? = some x) : x.2 ∣ MM xs ∧ 0 < x.2 := ⟨dvd_lc h 1 x (List.mem_of_getElem? e), h x (List.mem_of_getElem? e)⟩
theorem add_sums {a : List Int} {xs ps : List Fr} (hx : ∀ x ∈ xs, 0 < x.2) (hp : ∀ x ∈ ps, 0 < x.2) (hl : xs.length = ps.length) (hy : ∀ y ∈ ptAdd xs ps, 0 < y.2) : WW a (ptAdd xs ps) * (MM xs * MM ps) = WW a xs * (MM ps * MM (ptAdd xs ps)) + WW a ps * (MM xs * MM (ptAdd xs ps)) := by
  refine dot_sum a _ _ _ (by rw [up_len, up_len, hl]) (by rw [up_len, up_len]; unfold ptAdd; rw [List.length_map, List.length_zip]; omega) fun i u v s e1 e2 e3 => ?_
  obtain ⟨x, hx1, rfl⟩ := up_get e1
  obtain ⟨p, hp1, rfl⟩ := up_get e2
  obtain ⟨y, hy1, rfl⟩ := up_get e3
  have ey : y = addF x p := by
    unfold ptAdd at hy1
    rw [List.getElem?_map] at hy1
    have ez : (xs.zip ps)[i]? = some (x, p) := List.getElem?_zip_eq_some.mpr ⟨hx1, hp1⟩
    rw [ez] at hy1
    cases hy1
    rfl
  obtain ⟨dx, px⟩ := mem_dvd hx hx1
  obtain ⟨dp, pp⟩ := mem_dvd hp hp1
  obtain ⟨dy, py⟩ := mem_dvd hy hy1
  have m1 := up_mul dx px
  have m2 := up_mul dp pp
  have m3 := up_mul dy py
  have hD : 0 < x.2 * p.2 := Int.mul_pos px pp
  have n1 : y.1 * sg (x.1 * p.2 + p.1 * x.2) (x.2 * p.2) = x.1 * p.2 + p.1 * x.2 := by rw [ey]; exact num_eq (by omega)
  have n2 : y.2 * sg (x.1 * p.2 + p.1 * x.2) (x.2 * p.2) = x.2 * p.2 := by rw [ey]; exact den_eq (by omega)
  have m1' : x.1 * (MM xs).fdiv x.2 * x.2 = x.1 * MM xs := m1
  have m2' : p.1 * (MM ps).fdiv p.2 * p.2 = p.1 * MM ps := m2
  have m3' : y.1 * (MM (ptAdd xs ps)).fdiv y.2 * y.2 = y.1 * MM (ptAdd xs ps) := m3
  show y.1 * (MM (ptAdd xs ps)).fdiv y.2 * (MM xs * MM ps) = x.1 * (MM xs).fdiv x.2 * (MM ps * MM (ptAdd xs ps)) + p.1 * (MM ps).fdiv p.2 * (MM xs * MM (ptAdd xs ps))
  generalize y.1 * (MM (ptAdd xs ps)).fdiv y.2 = s at m3' ⊢
  generalize x.1 * (MM xs).fdiv x.2 = u at m1' ⊢
  generalize p.1 * (MM ps).fdiv p.2 = v at m2' ⊢
  generalize MM (ptAdd xs ps) = My at m3' ⊢
  generalize MM xs = Mx at m1' ⊢
  generalize MM ps = Mp at m2' ⊢
  generalize sg (x.1 * p.2 + p.1 * x.2) (x.2 * p.2) = g at n1 n2
  refine Int.eq_of_mul_eq_mul_right (show x.2 * p.2 ≠ 0 by omega) ?_
  have l1 : s * (Mx * Mp) * (x.2 * p.2) = (x.1 * p.2 + p.1 * x.2) * (My * (Mx * Mp)) := by
    calc s * (Mx * Mp) * (x.2 * p.2) = s * (Mx * Mp) * (y.2 * g) := by rw [n2]
      _ = (s * y.2) * (g * (Mx * Mp)) := by simp only [Int.mul_comm, Int.mul_left_comm, Int.mul_assoc]
      _ = (y.1 * My) * (g * (Mx * Mp)) := by rw [m3']
      _ = (y.1 * g) * (My * (Mx * Mp)) := by simp only [Int.mul_comm, Int.mul_left_comm, Int.mul_assoc]
      _ = _ := by rw [n1]
  have l2 : (u * (Mp * My) + v * (Mx * My)) * (x.2 * p.2) = (u * x.2) * (p.2 * (Mp * My)) + (v * p.2) * (x.2 * (Mx * My)) := by
    rw [Int.add_mul]
    simp only [Int.mul_comm, Int.mul_left_comm, Int.mul_assoc]
  rw [l1, l2, m1', m2', Int.add_mul]
  simp only [Int.mul_comm, Int.mul_left_comm, Int.mul_assoc]
/-- a shifted row at a shifted point -/
theorem shift_sign {r : Row} {xs ps : List Fr} (hx : ∀ x ∈ xs, 0 < x.2) (hp : ∀ x ∈ ps, 0 < x.2) (hl : xs.length = ps.length) : sgn (ptAdd xs ps) (shR ps r) < 0 ↔ sgn xs r < 0 := by
  have hy : ∀ y ∈ ptAdd xs ps, 0 < y.2 := fun y h => by
    obtain ⟨z, hz, rfl⟩ := List.mem_map.mp h
    have h1 := hx _ (List.of_mem_zip hz).1
    have h2 := hp _ (List.of_mem_zip hz).2
    exact den_pos (by have := Int.mul_pos h1 h2; omega)
  have gx := MM_pos hx
  have gp := MM_pos hp
  have gy := MM_pos hy
  have es := add_sums (a := r.1) hx hp hl hy
  have e0 : addF (r.2, 1) (reachF r.1 ps) = red (r.2 * MM ps + WW r.1 ps * 1) (1 * MM ps) := by
    rw [← red_one r.2]
    exact red_add (by decide) gp
  rw [Int.mul_one, Int.one_mul] at e0
  have hg := sg_pos (p := r.2 * MM ps + WW r.1 ps) gp
  have n1 := num_eq (p := r.2 * MM ps + WW r.1 ps) (q := MM ps) (by omega)
  have n2 := den_eq (p := r.2 * MM ps + WW r.1 ps) (q := MM ps) (by omega)
  have hd := den_pos (p := r.2 * MM ps + WW r.1 ps) (q := MM ps) (by omega)
  unfold shR
  rw [e0]
  show sgn (ptAdd xs ps) (rowOfF (ones r.1) (num (r.2 * MM ps + WW r.1 ps) (MM ps), den (r.2 * MM ps + WW r.1 ps) (MM ps))) < 0 ↔ _
  rw [rowOf_sign hd hy]
  show _ ↔ r.2 * MM xs - WW r.1 xs < 0
  generalize num (r.2 * MM ps + WW r.1 ps) (MM ps) = P at n1 ⊢
  generalize den (r.2 * MM ps + WW r.1 ps) (MM ps) = q at n2 hd ⊢
  generalize sg (r.2 * MM ps + WW r.1 ps) (MM ps) = g at hg n1 n2
  generalize WW r.1 (ptAdd xs ps) = Wy at es ⊢
  generalize WW r.1 xs = Wx at es ⊢
  generalize WW r.1 ps = Wp at es n1
  generalize MM (ptAdd xs ps) = My at gy es ⊢
  generalize MM xs = Mx at gx es ⊢
  generalize MM ps = Mp at gp es n1 n2
  generalize r.2 = b at n1 ⊢
  have c1 : (P * My - q * Wy) * (g * Mx) = (b * Mx - Wx) * (Mp * My) := by
    calc (P * My - q * Wy) * (g * Mx) = (P * g) * (My * Mx) - (q * g) * (Wy * Mx) := by
          rw [Int.sub_mul]
          simp only [Int.mul_comm, Int.mul_left_comm, Int.mul_assoc]
      _ = (b * Mp + Wp) * (My * Mx) - Mp * (Wy * Mx) := by rw [n1, n2]
      _ = (b * Mp + Wp) * (My * Mx) - Wy * (Mx * Mp) := by
          congr 1
          simp only [Int.mul_comm, Int.mul_left_comm, Int.mul_assoc]
      _ = (b * Mp + Wp) * (My * Mx) - (Wx * (Mp * My) + Wp * (Mx * My)) := by rw [es]
      _ = _ := by
          rw [Int.add_mul, Int.sub_mul]
          simp only [Int.mul_comm, Int.mul_left_comm, Int.mul_assoc]
          omega
  have s1 := (mul_sign (x := P * My - q * Wy) (Int.mul_pos hg gx)).2
  have s2 := (mul_sign (x := b * Mx - Wx) (Int.mul_pos gp gy)).2
  rw [c1] at s1
  exact s1.symm.trans s2
/-! ### scaled -/
def ptMul (t : Fr) (xs : List Fr) : List Fr := xs.map fun x => mulF t x
theorem mul_sums {a : List Int} {t : Fr} {xs : List Fr} (ht : 0 < t.2) (hx : ∀ x ∈ xs, 0 < x.2) (hy : ∀ y ∈ ptMul t xs, 0 < y.2) : WW a (ptMul t xs) * (t.2 * MM xs) = WW a xs * (t.1 * MM (ptMul t xs)) := by
  have z := dot_sum (A := t.2 * MM xs) (B := t.1 * MM (ptMul t xs)) (C := 0) a (upF (lcF 1 xs) xs) (upF (lcF 1 xs) xs) (upF (lcF 1 (ptMul t xs)) (ptMul t xs)) rfl (by rw [up_len, up_len]; unfold ptMul; rw [List.length_map]) fun i u v s e1 e2 e3 => by
    obtain ⟨x, hx1, rfl⟩ := up_get e1
    obtain ⟨y, hy1, rfl⟩ := up_get e3
    have ey : y = mulF t x := by
      unfold ptMul at hy1
      rw [List.getElem?_map, hx1] at hy1
      cases hy1
      rfl
    obtain ⟨dx, px⟩ := mem_dvd hx hx1
    obtain ⟨dy, py⟩ := mem_dvd hy hy1
    have m1 : x.1 * (MM xs).fdiv x.2 * x.2 = x.1 * MM xs := up_mul dx px
    have m3 : y.1 * (MM (ptMul t xs)).fdiv y.2 * y.2 = y.1 * MM (ptMul t xs) := up_mul dy py
    have hD : 0 < t.2 * x.2 := Int.mul_pos ht px
    have n1 : y.1 * sg (t.1 * x.1) (t.2 * x.2) = t.1 * x.1 := by rw [ey]; exact num_eq (by omega)
    have n2 : y.2 * sg (t.1 * x.1) (t.2 * x.2) = t.2 * x.2 := by rw [ey]; exact den_eq (by omega)
    rw [Int.mul_zero, Int.add_zero]
    show y.1 * (MM (ptMul t xs)).fdiv y.2 * (t.2 * MM xs) = x.1 * (MM xs).fdiv x.2 * (t.1 * MM (ptMul t xs))
    generalize y.1 * (MM (ptMul t xs)).fdiv y.2 = s at m3 ⊢
    generalize x.1 * (MM xs).fdiv x.2 = u at m1 ⊢
    generalize MM (ptMul t xs) = My at m3 ⊢
    generalize MM xs = Mx at m1 ⊢
    generalize sg (t.1 * x.1) (t.2 * x.2) = g at n1 n2
    refine Int.eq_of_mul_eq_mul_right (show x.2 ≠ 0 by omega) ?_
    calc s * (t.2 * Mx) * x.2 = s * Mx * (t.2 * x.2) := by simp only [Int.mul_comm, Int.mul_left_comm, Int.mul_assoc]
      _ = s * Mx * (y.2 * g) := by rw [n2]
      _ = (s * y.2) * (g * Mx) := by simp only [Int.mul_comm, Int.mul_left_comm, Int.mul_assoc]
      _ = (y.1 * My) * (g * Mx) := by rw [m3]
      _ = (y.1 * g) * (My * Mx) := by simp only [Int.mul_comm, Int.mul_left_comm, Int.mul_assoc]
      _ = (t.1 * x.1) * (My * Mx) := by rw [n1]
      _ = (x.1 * Mx) * (t.1 * My) := by simp only [Int.mul_comm, Int.mul_left_comm, Int.mul_assoc]
      _ = (u * x.2) * (t.1 * My) := by rw [m1]
      _ = _ := by simp only [Int.mul_comm, Int.mul_left_comm, Int.mul_assoc]
  rw [Int.mul_zero, Int.add_zero] at z
  exact z
theorem scale_sign {r : Row} {t : Fr} {xs : List Fr} (ht : 0 < t.2) (ht1 : 0 < t.1) (hx : ∀ x ∈ xs, 0 < x.2) : sgn (ptMul t xs) (scR t r) < 0 ↔ sgn xs r < 0 := by
  have hy : ∀ y ∈ ptMul t xs, 0 < y.2 := fun y h => by
    obtain ⟨z, hz, rfl⟩ := List.mem_map.mp h
    exact den_pos (by have := Int.mul_pos ht (hx z hz); omega)
  have gx := MM_pos hx
  have gy := MM_pos hy
  have es := mul_sums (a := r.1) ht hx hy
  have hg := sg_pos (p := r.2 * t.1) ht
  have n1 := num_eq (p := r.2 * t.1) (q := t.2) (by omega)
  have n2 := den_eq (p := r.2 * t.1) (q := t.2) (by omega)
  have hd := den_pos (p := r.2 * t.1) (q := t.2) (by omega)
  have e0 : mulF (r.2, 1) t = (num (r.2 * t.1) t.2, den (r.2 * t.1) t.2) := by
    unfold mulF red
    rw [Int.one_mul]
  unfold scR
  rw [e0, rowOf_sign hd hy]
  show _ ↔ r.2 * MM xs - WW r.1 xs < 0
  generalize num (r.2 * t.1) t.2 = P at n1 ⊢
  generalize den (r.2 * t.1) t.2 = q at n2 hd ⊢
  generalize sg (r.2 * t.1) t.2 = g at hg n1 n2
  generalize WW r.1 (ptMul t xs) = Wy at es ⊢
  generalize WW r.1 xs = Wx at es ⊢
  generalize MM (ptMul t xs) = My at gy es ⊢
  generalize MM xs = Mx at gx es ⊢
  generalize r.2 = b at n1 ⊢
  have c1 : (P * My - q * Wy) * (g * Mx) = (b * Mx - Wx) * (t.1 * My) := by
    calc (P * My - q * Wy) * (g * Mx) = (P * g) * (My * Mx) - (q * g) * (Wy * Mx) := by
          rw [Int.sub_mul]
          simp only [Int.mul_comm, Int.mul_left_comm, Int.mul_assoc]
      _ = (b * t.1) * (My * Mx) - t.2 * (Wy * Mx) := by rw [n1, n2]
      _ = (b * t.1) * (My * Mx) - Wy * (t.2 * Mx) := by
          congr 1
          simp only [Int.mul_comm, Int.mul_left_comm, Int.mul_assoc]
      _ = (b * t.1) * (My * Mx) - Wx * (t.1 * My) := by rw [es]
      _ = _ := by
          rw [Int.sub_mul]
          simp only [Int.mul_comm, Int.mul_left_comm, Int.mul_assoc]
  have s1 := (mul_sign (x := P * My - q * Wy) (Int.mul_pos hg gx)).2
  have s2 := (mul_sign (x := b * Mx - Wx) (Int.mul_pos ht1 gy)).2
  rw [c1] at s1
  exact s1.symm.trans s2
end K03
end part_K03z
section part_K03za
namespace K03
open L2 PyProof.Rows PySem.Spec PySem DL Num
theorem dot_cons (x y : Int) (a w : List Int) : dot (x :: a) (y :: w) = x * y + dot a w := by
  show dotF (0 + x * y) (a.zip w) = _
  rw [dotF_add, Int.zero_add]
  rfl
theorem dot_nil (w : List Int) : dot [] w = 0 := rfl
theorem dot_nil2 (a : List Int) : dot a [] = 0 := by cases a <;> rfl
/-! ### mirrored -/
def ptNeg (xs : List Fr) : List Fr := xs.map fun x => (0 - x.1, x.2)
theorem lcF_dens {f : Fr → Fr} (h : ∀ x, (f x).2 = x.2) : ∀ (xs : List Fr) (m : Nat), lcF m (xs.map f) = lcF m xs
  | [], m => rfl
  | x :: xs, m => by
    show lcF (Nat.lcm m (f x).2.natAbs) (xs.map f) = lcF (Nat.lcm m x.2.natAbs) xs
    rw [h, lcF_dens h]
theorem dot_neg : ∀ (a w : List Int), dot (a.map fun x => -x) (w.map fun x => -x) = dot a w
  | [], w => rfl
  | x :: a, [] => rfl
  | x :: a, y :: w => by
    rw [List.map_cons, List.map_cons, dot_cons, dot_cons, dot_neg a w, Int.neg_mul_neg]
theorem mirror_sign {r : Row} {xs : List Fr} (hx : ∀ x ∈ xs, 0 < x.2) : sgn (ptNeg xs) (plR (negR r)) < 0 ↔ sgn xs r < 0 := by
  have hy : ∀ y ∈ ptNeg xs, 0 < y.2 := fun y h => by
    obtain ⟨z, hz, rfl⟩ := List.mem_map.mp h
    exact hx z hz
  rw [plain_sign (r := negR r) hy]
  have eM : lcF 1 (ptNeg xs) = lcF 1 xs := lcF_dens (f := fun x => (0 - x.1, x.2)) (fun _ => rfl) xs 1
  have eU : upF (lcF 1 xs) (ptNeg xs) = (upF (lcF 1 xs) xs).map fun x => -x := by
    unfold upF ptNeg
    rw [List.map_map, List.map_map]
    refine List.map_congr_left fun x _ => ?_
    show (0 - x.1) * _ = -(x.1 * _)
    rw [Int.zero_sub, Int.neg_mul]
  have e : sgn (ptNeg xs) (negR r) = sgn xs r := by
    unfold sgn
    rw [eM, eU]
    show r.2 * _ - dot (r.1.map fun x => -x) _ = _
    rw [dot_neg]
  rw [e]
/-! ### placed -/
def ptTake (o : List Nat) (xs : List Fr) : List Fr := o.map fun k => xs.getD k (0, 1)
theorem lcF_least : ∀ (xs : List Fr) (m N : Nat), m ∣ N → (∀ x ∈ xs, x.2.natAbs ∣ N) → lcF m xs ∣ N
  | [], m, N, h, _ => h
  | x :: xs, m, N, h, hx => lcF_least xs _ N (Nat.lcm_dvd h (hx x List.mem_cons_self)) fun y hy => hx y (List.mem_cons_of_mem _ hy)
def sumI (f : Nat → Int) : List Nat → Int
  | [] => 0
  | k :: o => f k + sumI f o
theorem sum_perm {f : Nat → Int} {o p : List Nat} (h : o.Perm p) : sumI f o = sumI f p := by
  induction h with
  | nil => rfl
  | cons x _ ih => show f x + _ = f x + _; rw [ih]
  | swap x y l => show f y + (f x + _) = f x + (f y + _); omega
  | trans _ _ h1 h2 => exact h1.trans h2
theorem dot_take (a u : List Int) : ∀ o : List Nat, dot (o.map fun k => a.getD k 0) (o.map fun k => u.getD k 0) = sumI (fun k => a.getD k 0 * u.getD k 0) o
  | [] => rfl
  | k :: o => by
    rw [List.map_cons, List.map_cons, dot_cons, dot_take a u o]
    rfl
theorem dot_range : ∀ (a u : List Int), a.length = u.length → dot a u = sumI (fun k => a.getD k 0 * u.getD k 0) (List.range a.length)
  | [], [], _ => rfl
  | [], _ :: _, h => nomatch h
  | _ :: _, [], h => nomatch h
  | x :: a, y :: u, h => by
    have ih := dot_range a u (by simpa using h)
    have sh : ∀ (f : Nat → Int) (o : List Nat), sumI f (o.map Nat.succ) = sumI (fun k => f (k + 1)) o := fun f o => by
      induction o with
      | nil => rfl
      | cons k o ih => show f (k + 1) + _ = f (k + 1) + _; rw [ih]
    rw [dot_cons, ih, List.length_cons, List.range_succ_eq_map]
    show _ = x * y + sumI _ ((List.range a.length).map Nat.succ)
    rw [sh]
    rfl
theorem place_sign {r : Row} {o : List Nat} {xs : List Fr} (hx : ∀ x ∈ xs, 0 < x.2) (hl : r.1.length = xs.length) (hp : o.Perm (List.range xs.length)) : sgn (ptTake o xs) (plR (takeR o r)) < 0 ↔ sgn xs r < 0 := by
  have lt : ∀ k ∈ o, k < xs.length := fun k hk => List.mem_range.mp (hp.mem_iff.mp hk)
  have hy : ∀ y ∈ ptTake o xs, 0 < y.2 := fun y h => by
    obtain ⟨k, hk, rfl⟩ := List.mem_map.mp h
    have := lt k hk
    rw [List.getD_eq_getElem?_getD, List.getElem?_eq_getElem this]
    exact hx _ (List.getElem_mem _)
  have eM : lcF 1 (ptTake o xs) = lcF 1 xs := by
    refine Nat.dvd_antisymm (lcF_least _ 1 _ (Nat.one_dvd _) fun y h => ?_) (lcF_least _ 1 _ (Nat.one_dvd _) fun x h => ?_)
    · obtain ⟨k, hk, rfl⟩ := List.mem_map.mp h
      have := lt k hk
      rw [List.getD_eq_getElem?_getD, List.getElem?_eq_getElem this]
      exact (lcF_dvd xs 1).2 _ (List.getElem_mem _)
    · obtain ⟨k, hk, e⟩ := List.mem_iff_getElem.mp h
      refine (lcF_dvd (ptTake o xs) 1).2 x (List.mem_map.mpr ⟨k, hp.mem_iff.mpr (List.mem_range.mpr hk), ?_⟩)
      rw [List.getD_eq_getElem?_getD, List.getElem?_eq_getElem hk, e]
      rfl
  have eU : upF (lcF 1 xs) (ptTake o xs) = o.map fun k => (upF (lcF 1 xs) xs).getD k 0 := by
    unfold ptTake
    unfold upF
    rw [List.map_map]
    refine List.map_congr_left fun k hk => ?_
    have := lt k hk
    show (xs.getD k (0, 1)).1 * ((lcF 1 xs : Nat) : Int).fdiv (xs.getD k (0, 1)).2 = _
    rw [List.getD_eq_getElem?_getD, List.getD_eq_getElem?_getD, List.getElem?_map, List.getElem?_eq_getElem this]
    rfl
  rw [plain_sign (r := takeR o r) hy]
  have e : sgn (ptTake o xs) (takeR o r) = sgn xs r := by
    unfold sgn
    rw [eM, eU]
    show r.2 * _ - dot (o.map fun k => r.1.getD k 0) (o.map fun k => (upF (lcF 1 xs) xs).getD k 0) = _
    rw [dot_take, dot_range r.1 (upF (lcF 1 xs) xs) (by rw [up_len, hl]), hl, sum_perm hp]
  rw [e]
/-! ### product -/
theorem dot_app : ∀ (a z u v : List Int), a.length = u.length → dot (a ++ z) (u ++ v) = dot a u + dot z v
  | [], z, [], v, _ => by show dot z v = 0 + dot z v; rw [Int.zero_add]
  | [], z, _ :: _, v, h => nomatch h
  | _ :: _, z, [], v, h => nomatch h
  | x :: a, z, y :: u, v, h => by
    rw [List.cons_append, List.cons_append, dot_cons, dot_cons, dot_app a z u v (by simpa using h), Int.add_assoc]
theorem dot_zeros (n : Nat) (v : List Int) : dot (List.replicate n 0) v = 0 := dot_zero v fun x hx => (List.mem_replicate.mp hx).2
theorem up_app (M : Nat) (x y : List Fr) : upF M (x ++ y) = upF M x ++ upF M y := by unfold upF; rw [List.map_append]
/-- another common multiple: the same sign -/
theorem sgn_at {r : Row} {xs : List Fr} {M : Nat} (hx : ∀ x ∈ xs, 0 < x.2) (hd : lcF 1 xs ∣ M) (hM : 0 < M) : r.2 * (M : Int) - dot r.1 (upF M xs) < 0 ↔ sgn xs r < 0 := by
  obtain ⟨c, rfl⟩ := hd
  have hc : 0 < c := by
    by_cases h : c = 0
    · subst h
      rw [Nat.mul_zero] at hM
      omega
    · omega
  have e : upF (lcF 1 xs * c) xs = (upF (lcF 1 xs) xs).map fun u => u * (c : Int) := by
    unfold upF
    rw [List.map_map]
    refine List.map_congr_left fun x hx1 => ?_
    show x.1 * ((lcF 1 xs * c : Nat) : Int).fdiv x.2 = x.1 * ((lcF 1 xs : Nat) : Int).fdiv x.2 * (c : Int)
    obtain ⟨k, hk⟩ := dvd_lc hx 1 x hx1
    have px := hx x hx1
    rw [Int.natCast_mul, hk, Int.mul_assoc x.2, Int.mul_fdiv_cancel_left _ (by omega), Int.mul_fdiv_cancel_left _ (by omega), Int.mul_assoc]
  have ds : ∀ (a u : List Int), dot a (u.map fun x => x * (c : Int)) = dot a u * (c : Int) := fun a => by
    induction a with
    | nil => intro u; show (0 : Int) = 0 * _; rw [Int.zero_mul]
    | cons x a ih =>
      intro u
      cases u with
      | nil => show (0 : Int) = 0 * _; rw [Int.zero_mul]
      | cons y u => rw [List.map_cons, dot_cons, dot_cons, ih u, Int.add_mul, Int.mul_assoc]
  have e2 : r.2 * ((lcF 1 xs * c : Nat) : Int) - dot r.1 (upF (lcF 1 xs * c) xs) = sgn xs r * (c : Int) := by
    rw [e, ds, Int.natCast_mul, ← Int.mul_assoc, ← Int.sub_mul]
    rfl
  rw [e2]
  exact (mul_sign (show 0 < (c : Int) by omega)).2
theorem padR_sign {r : Row} {x y : List Fr} {m : Nat} (hx : ∀ z ∈ x, 0 < z.2) (hy : ∀ z ∈ y, 0 < z.2) (hl : r.1.length = x.length) : sgn (x ++ y) (plR (padR m r)) < 0 ↔ sgn x r < 0 := by
  have hxy : ∀ z ∈ x ++ y, 0 < z.2 := fun z h => by
    rcases List.mem_append.mp h with h | h
    · exact hx z h
    · exact hy z h
  rw [plain_sign (r := padR m r) hxy]
  have hM := lcF_pos (x ++ y) 1 (by decide) hxy
  have hd : lcF 1 x ∣ lcF 1 (x ++ y) := lcF_least x 1 _ (Nat.one_dvd _) fun z h => (lcF_dvd (x ++ y) 1).2 z (List.mem_append_left _ h)
  have e : sgn (x ++ y) (padR m r) = r.2 * ((lcF 1 (x ++ y) : Nat) : Int) - dot r.1 (upF (lcF 1 (x ++ y)) x) := by
    unfold sgn padR
    show r.2 * _ - dot (r.1 ++ List.replicate m 0) _ = _
    rw [up_app, dot_app _ _ _ _ (by rw [up_len, hl]), dot_zeros, Int.add_zero]
  rw [e]
  exact sgn_at hx hd hM
theorem padL_sign {r : Row} {x y : List Fr} {n : Nat} (hx : ∀ z ∈ x, 0 < z.2) (hy : ∀ z ∈ y, 0 < z.2) (hn : n = x.length) : sgn (x ++ y) (plR (padL n r)) < 0 ↔ sgn y r < 0 := by
  have hxy : ∀ z ∈ x ++ y, 0 < z.2 := fun z h => by
    rcases List.mem_append.mp h with h | h
    · exact hx z h
    · exact hy z h
  rw [plain_sign (r := padL n r) hxy]
  have hM := lcF_pos (x ++ y) 1 (by decide) hxy
  have hd : lcF 1 y ∣ lcF 1 (x ++ y) := lcF_least y 1 _ (Nat.one_dvd _) fun z h => (lcF_dvd (x ++ y) 1).2 z (List.mem_append_right _ h)
  have e : sgn (x ++ y) (padL n r) = r.2 * ((lcF 1 (x ++ y) : Nat) : Int) - dot r.1 (upF (lcF 1 (x ++ y)) y) := by
    unfold sgn padL
    show r.2 * _ - dot (List.replicate n 0 ++ r.1) _ = _
    rw [up_app, dot_app _ _ _ _ (by rw [List.length_replicate, up_len, hn]), dot_zeros, Int.zero_add]
  rw [e]
  exact sgn_at hy hd hM
theorem all_iff {xs ys : List Fr} {f : Row → Row} : ∀ {rows : List Row}, (∀ r ∈ rows, (sgn ys (f r) < 0 ↔ sgn xs r < 0)) → ((rows.map f).all fun r => !decide (sgn ys r < 0)) = rows.all fun r => !decide (sgn xs r < 0)
  | [], _ => rfl
  | r :: rows, h => by
    rw [List.map_cons, List.all_cons, List.all_cons, all_iff fun q hq => h q (List.mem_cons_of_mem _ hq)]
    have h1 := h r List.mem_cons_self
    by_cases z : sgn xs r < 0
    · rw [decide_eq_true z, decide_eq_true (h1.mpr z)]
    · rw [decide_eq_false z, decide_eq_false (fun q => z (h1.mp q))]
theorem in_product {x y : List Fr} {a b : List Row} {n m : Nat} (hx : ∀ z ∈ x, 0 < z.2) (hy : ∀ z ∈ y, 0 < z.2) (hn : n = x.length) (ha : ∀ r ∈ a, r.1.length = x.length) : (firstF (((a.map (padR m) ++ b.map (padL n)).map plR).map (sgn (x ++ y))) 0).isNone = (inF x a && inF y b) := by
  rw [isin_eq, in_eq hx, in_eq hy, List.map_append, List.all_append, List.map_map, List.map_map]
  rw [all_iff (xs := x) (f := plR ∘ padR m) fun r hr => padR_sign hx hy (ha r hr), all_iff (xs := y) (f := plR ∘ padL n) fun r hr => padL_sign hx hy hn]
end K03
end part_K03za
section part_K03zb
namespace K03
open L2 PyProof.Rows PySem.Spec PySem DL Num
abbrev sPoint : Stmt := top 46
section
variable {P : Program} {w : World} {K : PySem.W.Frag} {mg : Str → Option Value} {base : Heap}
/-! #### _law_fraction, again: what it draws is reduced -/
def postFracR (_ : Src) (_ : List PyData) (t' : Src) (d : PyData) : Prop := Ok t' ∧ ∃ x : Fr, d = frD x ∧ Fo 62 x ∧ Redd x
theorem ok_fracR (hp : DL.Put K mg "_law_fraction" sFraction) (dP : DPick P w K mg base) (dG : DGreat P w K mg base) (dO : DOf P w K mg base) (dL : Def P w K mg base "_law_least" 1 ["a", "b"] (spP K rFrac)) : Draws P w K mg base "_law_fraction" 3 ["source"] preNone postFracR := by
  obtain ⟨R, dR, hR⟩ := dP
  obtain ⟨R2, dR2, hR2⟩ := dG
  obtain ⟨R3, dR3, hR3⟩ := dO
  refine def_Sx hp scFraction (fun _ _ _ _ _ _ us hl => match us, hl with | [_], _ => rfl) (by decide) (fun t ds h => ?_) (fun t ds h => ?_)
  · obtain ⟨_, rfl⟩ := h
    rfl
  · obtain ⟨ht, rfl⟩ := h
    obtain ⟨t1, way, r1, ht1, g1, g2⟩ := pick_int hR ht 5 (by decide) (by decide)
    by_cases hw : way > 0
    · obtain ⟨t2, a, r2, ht2, g3, g4⟩ := pick_int hR ht1 25 (by decide) (by decide)
      obtain ⟨t3, d3, r3, ht3, es, ees, hd3⟩ := hR3 t2 [.list [.int 1, .int 1, .int 2, .int 3, .int 5, .int 12]] ⟨ht2, _, rfl, by simp, by show 6 < 1000; decide⟩
      cases ees
      have hk : ∃ k : Int, d3 = .int k ∧ 0 < k ∧ k ≤ 12 := by
        simp only [List.mem_cons, List.not_mem_nil, or_false] at hd3
        rcases hd3 with rfl | rfl | rfl | rfl | rfl | rfl <;> exact ⟨_, rfl, by decide, by decide⟩
      obtain ⟨k, rfl, hk0, hk1⟩ := hk
      have s1 : Sz 62 (a - 12) := Sz.mono (n := 20) (sz_lt (by omega)) (by decide)
      have s2 : Sz 62 k := Sz.mono (n := 20) (sz_lt (by omega)) (by decide)
      refine ⟨t3, frac (a - 12) k, ⟨ht3, red (a - 12) k, rfl, red_fo (by omega) s1 s2, ⟨_, _, by omega, rfl⟩⟩, fun c hr s l => ?_⟩
      have k_law_pick := dR.known hr
      have k_law_of := dR3.known hr
      have k_law_least := dL.known hr
      exact s_if (p := true) (T.to (t_cmp (e_callS 0 k_law_pick (ea_cons e_int ea_nil) r1) e_int ov_gt) (decide_eq_true hw)) (fun h => .stop (s_stop (s_retS (e_call k_law_least (ea_cons (e_bin (e_callS 0 k_law_pick (ea_cons e_int ea_nil) r2) e_int ov_sub) (ea_cons (e_callS 0 k_law_of (ea_cons (e_O (eo_lst (ea_cons e_int (ea_cons e_int (ea_cons e_int (ea_cons e_int (ea_cons e_int (ea_cons e_int ea_nil)))))))) ea_nil) r3) ea_nil)) ⟨_, _, rfl, by omega, s2.mono (by decide), rfl⟩))) trivial) (fun h => Bool.noConfusion h)
    · obtain ⟨t2, a, r2, ht2, g3⟩ := great_int hR2 ht1 18 (by decide) (by decide)
      obtain ⟨t3, b, r3, ht3, g4⟩ := great_int hR2 ht2 18 (by decide) (by decide)
      obtain ⟨t4, q, r4, ht4, g5⟩ := great_int hR2 ht3 6 (by decide) (by decide)
      have sa : Sz 61 (a : Int) := ten_le g3 (by decide +kernel)
      have sb : Sz 61 (b : Int) := ten_le g4 (by decide +kernel)
      have sq : Sz 61 (q : Int) := ten_le g5 (by decide +kernel)
      have s1 : Sz 62 ((a : Int) - b) := (sa.sub sb (by decide) (by decide))
      have s2 : Sz 62 (1 + (q : Int)) := Sz.add (n := 1) (sz_lt (by decide)) sq (by decide) (by decide)
      refine ⟨t4, frac ((a : Int) - b) (1 + (q : Int)), ⟨ht4, red ((a : Int) - b) (1 + (q : Int)), rfl, red_fo (by omega) s1 s2, ⟨_, _, by omega, rfl⟩⟩, fun c hr s l => ?_⟩
      have k_law_pick := dR.known hr
      have k_law_great := dR2.known hr
      have k_law_least := dL.known hr
      exact s_if (p := false) (T.to (t_cmp (e_callS 0 k_law_pick (ea_cons e_int ea_nil) r1) e_int ov_gt) (decide_eq_false hw)) (fun h => Bool.noConfusion h) (fun h => .go s_nil' (s_stop (s_retS (e_call k_law_least (ea_cons (e_bin (e_callS 0 k_law_great (ea_cons e_int ea_nil) r2) (e_callS 0 k_law_great (ea_cons e_int ea_nil) r3) ov_sub) (ea_cons (e_bin e_int (e_callS 0 k_law_great (ea_cons e_int ea_nil) r4) ov_add) ea_nil)) ⟨_, _, rfl, by omega, s2.mono (by decide), rfl⟩))))
abbrev DFraR (P : Program) (w : World) (K : PySem.W.Frag) (mg : Str → Option Value) (base : Heap) : Prop := Draws P w K mg base "_law_fraction" 3 ["source"] preNone postFracR
theorem fraR_ex {R : Src → List PyData → Src → PyData → Prop} (hR : ∀ t ds, preNone t ds → ∃ t' d, R t ds t' d ∧ postFracR t ds t' d) : ∀ t, Ok t → ∃ t' d, R t [] t' d ∧ Ok t' ∧ ∃ x : Fr, d = frD x ∧ Fo 62 x ∧ Redd x := fun t ht => by
  obtain ⟨t', d, h1, h2, h3⟩ := hR t [] ⟨ht, rfl⟩
  exact ⟨t', d, h1, h2, h3⟩
theorem fraR_ex' {R : Src → List PyData → Src → PyData → Prop} (hR : ∀ t ds, preNone t ds → ∃ t' d, R t ds t' d ∧ postFracR t ds t' d) : ∀ t, Ok t → ∃ t' d, R t [] t' d ∧ Ok t' ∧ ∃ x : Fr, d = frD x ∧ (Fo 62 x ∧ Redd x) := fun t ht => fraR_ex hR t ht
/-! #### _law_point -/
def preN (t : Src) (ds : List PyData) : Prop := Ok t ∧ ∃ n : Nat, ds = [.int (n : Int)] ∧ n ≤ 7
def postPoint (_ : Src) (ds : List PyData) (t' : Src) (d : PyData) : Prop := Ok t' ∧ ∃ xs : List Fr, d = ptD xs ∧ Sp xs ∧ ds = [.int (xs.length : Int)] ∧ ∀ x ∈ xs, Redd x
theorem scPoint : FnScope ["source", "n", "k"] ["source", "n"] (defScope sPoint) := ⟨rfl, rfl, rfl, by decide +kernel, rfl, by decide +kernel, by decide +kernel⟩
abbrev pntE : Expr := pt 0 (exprOf (bodyAt sPoint 0))
theorem blkPnt : blkC ["source", "n", "k"] (defScope sPoint) (cmS pntE) [("k", 2)] = true := by decide +kernel
theorem ok_point (hp : DL.Put K mg "_law_point" sPoint) (m_tuple : mg "tuple" = none) (m_range : mg "range" = none) (dF : DFraR P w K mg base) : Draws P w K mg base "_law_point" 4 ["source", "n"] preN postPoint := by
  obtain ⟨R5, dR5, hR5⟩ := dF
  refine def_Sx hp scPoint (fun _ _ _ _ _ _ us hl => match us, hl with | [_, _], _ => rfl) (by decide) (fun t ds h => ?_) (fun t ds h => ?_)
  · obtain ⟨_, n, rfl, _⟩ := h
    rfl
  · obtain ⟨ht, n, rfl, hn⟩ := h
    obtain ⟨t1, fs, hch, hlen, hq, ht1⟩ := ch_ex (O := Ok) (fraR_ex' hR5) n t ht
    obtain ⟨xs, rfl, hxs⟩ := map_of (f := frD) hq
    rw [List.length_map] at hlen
    refine ⟨t1, ptD xs, ⟨ht1, xs, rfl, ⟨fun x hx => (hxs x hx).1, by omega⟩, by rw [hlen], fun x hx => (hxs x hx).2⟩, fun c hr s l => ?_⟩
    have k_law_fraction := dR5.known hr
    have rl : (rangeD 0 n).length = n := by unfold rangeD; simp
    exact s_stop (s_retS (e_callTy (ea_cons (e_O (eo_lc (own := [("k", 2)]) (ρ2 := [.src s l t1, .dat (.int (n : Int)), .un]) (i_range1 (ea_cons (e_var 1) ea_nil) m_range (by omega)) (ch_cl (ρ := fun t => [.src s l t, .dat (.int (n : Int)), .un]) (js := [2]) (fun _ z => z) (fun _ _ _ _ _ _ _ => g_name 2 scPoint.nd) (fun _ _ _ _ h _ _ _ _ _ => e_callS 0 k_law_fraction ea_nil h) (fun _ _ => Le.refl _) _ _ t t1 (by rw [Int.toNat_natCast, rl, List.length_map, hlen]) hch) (by rw [Int.toNat_natCast, rl]; omega) scPoint.nd (blkOk_by blkPnt))) ea_nil) cv_tupL m_tuple))
end
end K03
end part_K03zb
section part_K03zc
namespace K03
open L2 PyProof.Rows PySem.Spec PySem DL Num
section
variable {P : Program} {w : World} {K : PySem.W.Frag} {mg : Str → Option Value} {base : Heap}
/-! #### _law_boxed -/
abbrev nLBoxed : List Str := ["low", "high", "k", "rows", "n", "one", "other", "i"]
theorem scLBoxed : FnScope nLBoxed ["low", "high"] (defScope sLBoxed) := ⟨rfl, rfl, rfl, by decide +kernel, rfl, by decide +kernel, by decide +kernel⟩
abbrev cLBoxed (P : Program) (w : World) (K : PySem.W.Frag) (mg : Str → Option Value) (base : Heap) (a : CxA) : Cx := cx P w K mg base nLBoxed "_law_boxed" sLBoxed a
abbrev lbS (k : Nat) : Stmt := (lpB (bodyAt sLBoxed 1)).getD k (.Pass ⟨0, 0, 0, 0⟩)
abbrev lbE (k : Nat) : Expr := pt 0 (exprOf (lbS k))
theorem blkLB0 : blkC nLBoxed (defScope sLBoxed) (cmS (lbE 0)) [("i", 7)] = true := by decide +kernel
theorem blkLB1 : blkC nLBoxed (defScope sLBoxed) (cmS (lbE 1)) [("i", 7)] = true := by decide +kernel
theorem range_ints (n : Nat) : rangeD 0 ((n : Int)).toNat = (List.range n).map fun k : Nat => PyData.int (k : Int) := by
  unfold rangeD
  rw [Int.toNat_natCast]
  refine List.map_congr_left fun k _ => ?_
  rw [Int.zero_add]
theorem lboxed_loop (m_tuple : mg "tuple" = none) (m_range : mg "range" = none) (m_int : mg "int" = none) (dO : Def P w K mg base "_law_row_of" 3 ["members", "bound"] (spP K rRowOfS)) {a : CxA} (hr : Rm 3 (cLBoxed P w K mg base a).A) (low high : List Fr) (hl : Pt low) (hh : Pt high) (he : low.length = high.length) :
    ∀ (ks : List Nat) (rows : List Row), (∀ k ∈ ks, k < low.length) → rows.length + 2 * ks.length ≤ 1000 → Loop (cLBoxed P w K mg base a) (forT (bodyAt sLBoxed 1)) (lpB (bodyAt sLBoxed 1)) (ks.map fun k : Nat => PyData.int (k : Int)) [.dat (ptD low), .dat (ptD high), .un, .dat (.list (rows.map rowD)), .dat (.int (low.length : Int)), .un, .un, .un]
      (.nx [.dat (ptD low), .dat (ptD high), .un, .dat (.list ((rows ++ ks.flatMap (boxR low.length low high)).map rowD)), .dat (.int (low.length : Int)), .un, .un, .un])
  | [], rows, _, _ => by
    rw [List.flatMap_nil, List.append_nil]
    exact .nil
  | k :: ks, rows, hk, hz => by
    have k_law_row_of := dO.known hr
    have hk0 := hk k List.mem_cons_self
    have hln := hl.len
    have e1 : (low.map frD)[k]? = some (frD (low.getD k (0, 1))) := by
      rw [List.getElem?_map, List.getD_eq_getElem?_getD, List.getElem?_eq_getElem hk0]
      rfl
    have e2 : (high.map frD)[k]? = some (frD (high.getD k (0, 1))) := by
      rw [List.getElem?_map, List.getD_eq_getElem?_getD, List.getElem?_eq_getElem (by omega)]
      rfl
    have fl : Fo 130 (low.getD k (0, 1)) := by
      rw [List.getD_eq_getElem?_getD, List.getElem?_eq_getElem hk0]
      exact hl.fo _ (List.getElem_mem _)
    have fh : Fo 130 (high.getD k (0, 1)) := by
      rw [List.getD_eq_getElem?_getD, List.getElem?_eq_getElem (by omega)]
      exact hh.fo _ (List.getElem_mem _)
    have f1 : Fo 130 ((1, 1) : Fr) := ⟨by decide, Sz.mono (n := 1) (sz_lt (by decide)) (by decide), Sz.mono (n := 1) (sz_lt (by decide)) (by decide)⟩
    have fm : Fo 130 ((-1, 1) : Fr) := ⟨by decide, Sz.mono (n := 1) (sz_lt (by decide)) (by decide), Sz.mono (n := 1) (sz_lt (by decide)) (by decide)⟩
    rw [List.length_cons] at hz
    have ih := lboxed_loop m_tuple m_range m_int dO hr low high hl hh he ks (rows ++ boxR low.length low high k) (fun j hj => hk j (List.mem_cons_of_mem _ hj)) (by rw [List.length_append]; show rows.length + 2 + 2 * ks.length ≤ 1000; omega)
    have ea : (rows ++ boxR low.length low high k) ++ ks.flatMap (boxR low.length low high) = rows ++ (k :: ks).flatMap (boxR low.length low high) := by rw [List.flatMap_cons, List.append_assoc]
    rw [ea] at ih
    have eb : (rows ++ boxR low.length low high k).map rowD = rows.map rowD ++ [rowD (rowOfF (unitF low.length k (1, 1)) (high.getD k (0, 1))), rowD (rowOfF (unitF low.length k (-1, 1)) (-(low.getD k (0, 1)).1, (low.getD k (0, 1)).2))] := by
      rw [List.map_append]
      rfl
    rw [eb] at ih
    have eu : ∀ x : Fr, PyData.tuple ((List.range low.length).map fun i : Nat => frD (if i = k then x else (0, 1))) = ptD (unitF low.length k x) := fun x => by
      show _ = PyData.tuple ((unitF low.length k x).map frD)
      unfold unitF
      rw [List.map_map]
      rfl
    have cl0 : CL (cLBoxed P w K mg base a) (cmS (lbE 0)) (cmT (lbE 0)) (cmI (lbE 0)) (cmE (lbE 0)) [7] ((List.range low.length).map fun k : Nat => PyData.int (k : Int)) [.dat (ptD low), .dat (ptD high), .dat (.int (k : Int)), .dat (.list (rows.map rowD)), .dat (.int (low.length : Int)), .un, .un, .un] ((List.range low.length).map fun i : Nat => frD (if i = k then (1, 1) else (0, 1))) [.dat (ptD low), .dat (ptD high), .dat (.int (k : Int)), .dat (.list (rows.map rowD)), .dat (.int (low.length : Int)), .un, .un, .un] :=
      cl_map (f := fun k : Nat => PyData.int (k : Int)) (r := fun i : Nat => frD (if i = k then (1, 1) else (0, 1))) (js := [7]) (fun _ z => z) (List.range low.length) (fun _ _ _ _ _ _ _ => g_name 7 scLBoxed.nd) (fun i _ _ _ _ _ _ => E.to (e_tup (ea_cons (e_callTy (ea_cons (e_cmp (e_var 7) (e_var 2) ov_eqI) ea_nil) cv_intB m_int) (ea_cons e_int ea_nil))) (by
        by_cases h : i = k
        · rw [if_pos h, if_pos (decide_eq_true (by omega))]
          try rfl
        · rw [if_neg h, if_neg (by rw [decide_eq_false (by omega)]; decide)]
          try rfl)) (fun _ _ => Le.refl _)
    have cl1 : CL (cLBoxed P w K mg base a) (cmS (lbE 1)) (cmT (lbE 1)) (cmI (lbE 1)) (cmE (lbE 1)) [7] ((List.range low.length).map fun k : Nat => PyData.int (k : Int)) [.dat (ptD low), .dat (ptD high), .dat (.int (k : Int)), .dat (.list (rows.map rowD)), .dat (.int (low.length : Int)), .dat (ptD (unitF low.length k (1, 1))), .un, .un] ((List.range low.length).map fun i : Nat => frD (if i = k then (-1, 1) else (0, 1))) [.dat (ptD low), .dat (ptD high), .dat (.int (k : Int)), .dat (.list (rows.map rowD)), .dat (.int (low.length : Int)), .dat (ptD (unitF low.length k (1, 1))), .un, .un] :=
      cl_map (f := fun k : Nat => PyData.int (k : Int)) (r := fun i : Nat => frD (if i = k then (-1, 1) else (0, 1))) (js := [7]) (fun _ z => z) (List.range low.length) (fun _ _ _ _ _ _ _ => g_name 7 scLBoxed.nd) (fun i _ _ _ _ _ _ => E.to (e_tup (ea_cons (e_bin e_int (e_callTy (ea_cons (e_cmp (e_var 7) (e_var 2) ov_eqI) ea_nil) cv_intB m_int) ov_sub) (ea_cons e_int ea_nil))) (by
        by_cases h : i = k
        · rw [if_pos h, if_pos (decide_eq_true (by omega))]
          try rfl
        · rw [if_neg h, if_neg (by rw [decide_eq_false (by omega)]; decide)]
          try rfl)) (fun _ _ => Le.refl _)
    rw [← range_ints] at cl0 cl1
    have rl : (rangeD 0 ((low.length : Int)).toNat).length ≤ 1000000 := by rw [range_ints, List.length_map, List.length_range]; omega
    refine .nx (g_name 2 scLBoxed.nd) (s_cons (s_set 5 (d := ptD (unitF low.length k (1, 1))) (E.to (e_callTy (ea_cons (e_O (eo_lc (own := [("i", 7)]) (i_range1 (ea_cons (e_var 4) ea_nil) m_range (by omega)) cl0 rl scLBoxed.nd (blkOk_by blkLB0))) ea_nil) cv_tupL m_tuple) (eu (1, 1))) scLBoxed.nd)
      (s_cons (s_set 6 (d := ptD (unitF low.length k (-1, 1))) (E.to (e_callTy (ea_cons (e_O (eo_lc (own := [("i", 7)]) (i_range1 (ea_cons (e_var 4) ea_nil) m_range (by omega)) cl1 rl scLBoxed.nd (blkOk_by blkLB1))) ea_nil) cv_tupL m_tuple) (eu (-1, 1))) scLBoxed.nd)
      (s_cons (s_set 3 (e_O (eo_bin (e_var 3) (e_O (eo_lst (ea_cons (e_call k_law_row_of (ea_cons (e_var 5) (ea_cons (e_ix (e_var 1) (e_var 2) (ixv_tup (atI_nat e2))) ea_nil)) ⟨true, _, high.getD k (0, 1), rfl, unit_pt hln f1, fh.mono (by decide), rfl⟩)
        (ea_cons (e_call k_law_row_of (ea_cons (e_var 6) (ea_cons (E.to (d := frD (-(low.getD k (0, 1)).1, (low.getD k (0, 1)).2)) (e_tup (ea_cons (e_bin e_int (e_ixt (e_ix (e_var 0) (e_var 2) (ixv_tup (atI_nat e1)))) ov_sub) (ea_cons (e_ixt (e_ix (e_var 0) (e_var 2) (ixv_tup (atI_nat e1)))) ea_nil))) ?z0) ea_nil)) ⟨true, _, (-(low.getD k (0, 1)).1, (low.getD k (0, 1)).2), rfl, unit_pt hln fm, ⟨fl.pos, (fl.s1.neg).mono (by decide), fl.s2.mono (by decide)⟩, rfl⟩) ea_nil)))) (oo_cat ?z1))) scLBoxed.nd)
      (s_nil (le_cons (le_cons (le_un (le_cons (le_cons (le_un (le_un (le_un le_nil)))))))))))) ih
    case z0 =>
      rw [Int.zero_sub]
    case z1 =>
      rw [List.length_map]
      show rows.length + 2 ≤ 1000000
      omega
theorem ok_lboxed (hp : DL.Put K mg "_law_boxed" sLBoxed) (m_tuple : mg "tuple" = none) (m_len : mg "len" = none) (m_range : mg "range" = none) (m_int : mg "int" = none) (dO : Def P w K mg base "_law_row_of" 3 ["members", "bound"] (spP K rRowOfS)) : Def P w K mg base "_law_boxed" 4 ["low", "high"] (spP K rBoxed) := by
  refine def_P hp scLBoxed (fun _ _ _ _ _ _ us hl => match us, hl with | [_, _], _ => rfl) (by decide) (fun ds d h => ?_) (fun c hr ds d h => ?_)
  · obtain ⟨_, _, rfl, _⟩ := h
    rfl
  · obtain ⟨low, high, rfl, hl, hh, he, rfl⟩ := h
    have hln := hl.len
    have lp := lboxed_loop m_tuple m_range m_int dO (a := c) hr low high hl hh he (List.range low.length) [] (fun k hk => List.mem_range.mp hk) (by rw [List.length_range]; show 0 + 2 * low.length ≤ 1000; omega)
    rw [← range_ints, List.nil_append] at lp
    exact .rt (s_cons (s_par 3 4 (d1 := .list []) (d2 := .int (low.length : Int)) (ea_cons (e_O (eo_lst ea_nil)) (ea_cons (E.to (e_callB (ea_cons (e_var 0) ea_nil) cv_lenT m_len) (by rw [List.length_map])) ea_nil)) rfl scLBoxed.nd) (s_cons (s_for (i_range1 (ea_cons (e_var 4) ea_nil) m_range (by omega)) lp)
      (s_stop (s_retP (e_tup (ea_cons (e_var 4) (ea_cons (e_callTy (ea_cons (e_var 3) ea_nil) cv_tupL m_tuple) ea_nil)))))))
end
end K03
end part_K03zc
section part_K03zd
namespace K03
open L2 PyProof.Rows PySem.Spec PySem DL Num
abbrev sLRoom : Stmt := top 45
section
variable {P : Program} {w : World} {K : PySem.W.Frag} {mg : Str → Option Value} {base : Heap}
/-! #### _law_room -/
abbrev DNum (P : Program) (w : World) (K : PySem.W.Frag) (mg : Str → Option Value) (base : Heap) : Prop := Draws P w K mg base "_law_number" 3 ["source"] preNone postNumber
theorem num_ex {R : Src → List PyData → Src → PyData → Prop} (hR : ∀ t ds, preNone t ds → ∃ t' d, R t ds t' d ∧ postNumber t ds t' d) : ∀ t, Ok t → ∃ t' d, R t [] t' d ∧ Ok t' ∧ ∃ n : Int, d = .int n ∧ Sz 120 n := fun t ht => by
  obtain ⟨t', d, h1, h2, h3⟩ := hR t [] ⟨ht, rfl⟩
  exact ⟨t', d, h1, h2, h3⟩
/-- a drawn row of n -/
def Rn (n : Nat) (r : Row) : Prop := Rs r ∧ r.1.length = n
def postRoom (_ : Src) (ds : List PyData) (t' : Src) (d : PyData) : Prop := Ok t' ∧ ∃ (n : Nat) (rows : List Row), ds = [.int (n : Int)] ∧ d = roomD (n : Int) rows ∧ rows.length ≤ 12 ∧ ∀ r ∈ rows, Rn n r
abbrev nLRoom : List Str := ["source", "n", "rows", "lap", "a", "b", "k"]
theorem scLRoom : FnScope nLRoom ["source", "n"] (defScope sLRoom) := ⟨rfl, rfl, rfl, by decide +kernel, rfl, by decide +kernel, by decide +kernel⟩
abbrev cLRoom (P : Program) (w : World) (K : PySem.W.Frag) (mg : Str → Option Value) (base : Heap) (a : CxA) : Cx := cx P w K mg base nLRoom "_law_room" sLRoom a
abbrev lrmS : Stmt := (lpB (bodyAt sLRoom 1)).getD 0 (.Pass ⟨0, 0, 0, 0⟩)
abbrev lrmE : Expr := pt 0 (pt 0 (exprOf lrmS))
theorem blkLRm : blkC nLRoom (defScope sLRoom) (cmS lrmE) [("k", 6)] = true := by decide +kernel
theorem reps1 (n : Nat) : (List.replicate n [PyData.int 0]).flatten = (List.replicate n (0 : Int)).map PyData.int := by
  induction n with
  | zero => rfl
  | succ n ih => rw [List.replicate_succ, List.flatten_cons, ih, List.replicate_succ]; rfl
theorem room_loop (m_tuple : mg "tuple" = none) (m_range : mg "range" = none) (dP : DPick P w K mg base) (dO : DOf P w K mg base) (dN : DNum P w K mg base) (n : Nat) (hn : n ≤ 7) : ∀ (ys : List PyData) (rows : List Row) (t : Src), Ok t → (∀ r ∈ rows, Rn n r) → rows.length + ys.length ≤ 10 →
    ∃ (t' : Src) (rows' : List Row), Ok t' ∧ (∀ r ∈ rows', Rn n r) ∧ rows'.length ≤ 10 ∧ ∀ (a : CxA), Rm 3 (cLRoom P w K mg base a).A → ∀ s l,
      Loop (cLRoom P w K mg base a) (forT (bodyAt sLRoom 1)) (lpB (bodyAt sLRoom 1)) ys [.src s l t, .dat (.int (n : Int)), .own (rows.map rowD), .un, .un, .un, .un] (.nx [.src s l t', .dat (.int (n : Int)), .own (rows'.map rowD), .un, .un, .un, .un])
  | [], rows, t, ht, h, hz => ⟨t, rows, ht, h, by rw [List.length_nil] at hz; omega, fun a hr s l => .nil⟩
  | y :: ys, rows, t, ht, h, hz => by
    obtain ⟨R, dR, hR⟩ := dP
    obtain ⟨R3, dR3, hR3⟩ := dO
    obtain ⟨R4, dR4, hR4⟩ := dN
    rw [List.length_cons] at hz
    obtain ⟨t1, rs, hch, hlen, hq, ht1⟩ := ch_ex (O := Ok) (num_ex hR4) n t ht
    obtain ⟨ns, rfl, hns⟩ := map_of (f := PyData.int) hq
    rw [List.length_map] at hlen
    obtain ⟨t2, d2, r2, ht2, b, rfl, hb⟩ := num_ex hR4 t1 ht1
    obtain ⟨t3, way, r3, ht3, g1, g2⟩ := pick_int hR ht2 8 (by decide) (by decide)
    have rl : (rangeD 0 n).length = n := by unfold rangeD; simp
    have first : ∀ (a : CxA), Rm 3 (cLRoom P w K mg base a).A → ∀ s l, S1 (cLRoom P w K mg base a) lrmS [.src s l t, .dat (.int (n : Int)), .own (rows.map rowD), .dat y, .un, .un, .un] (.nx [.src s l t2, .dat (.int (n : Int)), .own (rows.map rowD), .dat y, .dat (.tuple (ns.map PyData.int)), .dat (.int b), .un]) := fun a hr s l => by
      have k_law_number := dR4.known hr
      exact s_par 4 5 (d1 := .tuple (ns.map PyData.int)) (d2 := .int b) (ea_cons (e_callTy (ea_cons (e_O (eo_lc (own := [("k", 6)]) (ρ2 := [.src s l t1, .dat (.int (n : Int)), .own (rows.map rowD), .dat y, .un, .un, .un]) (i_range1 (ea_cons (e_var 1) ea_nil) m_range (by omega)) (ch_cl (ρ := fun t => [.src s l t, .dat (.int (n : Int)), .own (rows.map rowD), .dat y, .un, .un, .un]) (js := [6]) (fun _ z => z) (fun _ _ _ _ _ _ _ => g_name 6 scLRoom.nd) (fun _ _ _ _ h _ _ _ _ _ => e_callS 0 k_law_number ea_nil h) (fun _ _ => Le.refl _) _ _ t t1 (by rw [Int.toNat_natCast, rl, List.length_map, hlen]) hch) (by rw [Int.toNat_natCast, rl]; omega) scLRoom.nd (blkOk_by blkLRm))) ea_nil) cv_tupL m_tuple) (ea_cons (e_callS 0 k_law_number ea_nil r2) ea_nil)) rfl scLRoom.nd
    have more : ∀ r : Row, Rn n r → (∀ x ∈ rows ++ [r], Rn n x) := fun r hr x hx => by
      rcases List.mem_append.mp hx with hx | hx
      · exact h x hx
      · rw [List.mem_singleton.mp hx]
        exact hr
    have em : ∀ r : Row, (rows ++ [r]).map rowD = rows.map rowD ++ [rowD r] := fun r => by
      rw [List.map_append]
      rfl
    by_cases hw : way > 0
    · obtain ⟨t4, d4, r4, ht4, es, ees, hd4⟩ := hR3 t3 [.list [.int 0, .int 0, .int 9]] ⟨ht3, _, rfl, by simp, by show 3 < 1000; decide⟩
      cases ees
      have hk : ∃ k : Int, d4 = .int k ∧ 0 ≤ k ∧ k ≤ 9 := by
        simp only [List.mem_cons, List.not_mem_nil, or_false] at hd4
        rcases hd4 with rfl | rfl | rfl <;> exact ⟨_, rfl, by decide, by decide⟩
      obtain ⟨k, rfl, hk0, hk1⟩ := hk
      have hrow : Rn n (ns, b + k) := ⟨⟨⟨fun x hx => (hns x hx).mono (by decide), Sz.add hb (Sz.mono (n := 9) (sz_lt (by omega)) (by decide) : Sz 120 k) (by decide) (by decide), by show ns.length ≤ 15; omega⟩, by show ns.length ≤ 7; omega⟩, hlen⟩
      obtain ⟨t', rows', ht', h', hz', hl⟩ := room_loop m_tuple m_range ⟨R, dR, hR⟩ ⟨R3, dR3, hR3⟩ ⟨R4, dR4, hR4⟩ n hn ys (rows ++ [(ns, b + k)]) t4 ht4 (more _ hrow) (by rw [List.length_append]; show rows.length + 1 + ys.length ≤ 10; omega)
      refine ⟨t', rows', ht', h', hz', fun a hr s l => ?_⟩
      have k_law_pick := dR.known hr
      have k_law_of := dR3.known hr
      have ih := hl a hr s l
      rw [em] at ih
      exact .nx (g_name 3 scLRoom.nd) (s_cons (first a hr s l) (s_cons (s_append 2 (ρ1 := [.src s l t4, .dat (.int (n : Int)), .own (rows.map rowD), .dat y, .dat (.tuple (ns.map PyData.int)), .dat (.int b), .un]) (d := rowD (ns, b + k)) (e_if (p := true) (T.to (t_cmp (e_callS 0 k_law_pick (ea_cons e_int ea_nil) r3) e_int ov_gt) (decide_eq_true hw)) (fun h => (e_tup (ea_cons (e_var 4) (ea_cons (e_bin (e_var 5) (e_callS 0 k_law_of (ea_cons (e_O (eo_lst (ea_cons e_int (ea_cons e_int (ea_cons e_int ea_nil))))) ea_nil) r4) ov_add) ea_nil)))) (fun h => Bool.noConfusion h)) rfl rfl (by rw [List.length_map]; omega)) (s_nil (le_cons (le_cons (le_cons (le_un (le_un (le_un (le_un le_nil)))))))))) ih
    · have hrow : Rn n (List.replicate n 0, b) := ⟨⟨⟨fun x hx => by rw [(List.mem_replicate.mp hx).2]; exact sz0, hb.mono (by decide), by show (List.replicate n (0 : Int)).length ≤ 15; rw [List.length_replicate]; omega⟩, by show (List.replicate n (0 : Int)).length ≤ 7; rw [List.length_replicate]; omega⟩, List.length_replicate⟩
      obtain ⟨t', rows', ht', h', hz', hl⟩ := room_loop m_tuple m_range ⟨R, dR, hR⟩ ⟨R3, dR3, hR3⟩ ⟨R4, dR4, hR4⟩ n hn ys (rows ++ [(List.replicate n 0, b)]) t3 ht3 (more _ hrow) (by rw [List.length_append]; show rows.length + 1 + ys.length ≤ 10; omega)
      refine ⟨t', rows', ht', h', hz', fun a hr s l => ?_⟩
      have k_law_pick := dR.known hr
      have ih := hl a hr s l
      rw [em] at ih
      exact .nx (g_name 3 scLRoom.nd) (s_cons (first a hr s l) (s_cons (s_append 2 (ρ1 := [.src s l t3, .dat (.int (n : Int)), .own (rows.map rowD), .dat y, .dat (.tuple (ns.map PyData.int)), .dat (.int b), .un]) (d := rowD (List.replicate n 0, b)) (e_if (p := false) (T.to (t_cmp (e_callS 0 k_law_pick (ea_cons e_int ea_nil) r3) e_int ov_gt) (decide_eq_false hw)) (fun h => Bool.noConfusion h) (fun h => (E.to (e_tup (ea_cons (e_bin (e_tup (ea_cons e_int ea_nil)) (e_var 1) (ov_rep (by simp) (by omega) (by decide))) (ea_cons (e_var 5) ea_nil))) (by rw [reps1])))) rfl rfl (by rw [List.length_map]; omega)) (s_nil (le_cons (le_cons (le_cons (le_un (le_un (le_un (le_un le_nil)))))))))) ih
theorem ok_lroom (hp : DL.Put K mg "_law_room" sLRoom) (m_tuple : mg "tuple" = none) (m_range : mg "range" = none) (dP : DPick P w K mg base) (dO : DOf P w K mg base) (dM : DMixed P w K mg base) (dN : DNum P w K mg base) : Draws P w K mg base "_law_room" 4 ["source", "n"] preN postRoom := by
  refine def_Sx hp scLRoom (fun _ _ _ _ _ _ us hl => match us, hl with | [_, _], _ => rfl) (by decide) (fun t ds h => ?_) (fun t ds h => ?_)
  · obtain ⟨_, n, rfl, _⟩ := h
    rfl
  · obtain ⟨ht, n, rfl, hn⟩ := h
    have dP' := dP
    have dO' := dO
    obtain ⟨R, dR, hR⟩ := dP
    obtain ⟨R3, dR3, hR3⟩ := dO
    obtain ⟨R4, dR4, hR4⟩ := dM
    obtain ⟨t1, d1, r1, ht1, es, ees, hd1⟩ := hR3 t [.list [.int 0, .int 1, .int 2, .int 4, .int 6, .int 10]] ⟨ht, _, rfl, by simp, by show 6 < 1000; decide⟩
    cases ees
    have hk : ∃ k : Nat, d1 = .int (k : Int) ∧ k ≤ 10 := by
      simp only [List.mem_cons, List.not_mem_nil, or_false] at hd1
      rcases hd1 with rfl | rfl | rfl | rfl | rfl | rfl
      · exact ⟨0, rfl, by decide⟩
      · exact ⟨1, rfl, by decide⟩
      · exact ⟨2, rfl, by decide⟩
      · exact ⟨4, rfl, by decide⟩
      · exact ⟨6, rfl, by decide⟩
      · exact ⟨10, rfl, by decide⟩
    obtain ⟨k, rfl, hk10⟩ := hk
    have rl : ∀ n : Nat, (rangeD 0 n).length = n := fun n => by unfold rangeD; simp
    obtain ⟨t2, rows, ht2, hrows, hrl, hlp⟩ := room_loop m_tuple m_range dP' dO' dN n hn (rangeD 0 ((k : Int)).toNat) [] t1 ht1 (fun r h => nomatch h) (by rw [Int.toNat_natCast, rl]; show 0 + k ≤ 10; omega)
    obtain ⟨t3, j, r3, ht3, hj0, hj1⟩ := pick_int hR ht2 3 (by decide) (by decide)
    obtain ⟨jn, rfl⟩ : ∃ jn : Nat, j = (jn : Int) := ⟨j.toNat, by omega⟩
    have hml : (rows.map rowD ++ (rows.map rowD).take jn).length ≤ 12 := by
      rw [List.length_append, List.length_take, List.length_map]
      omega
    obtain ⟨t4, d4, r4, ht4, es, rs2, ees, rfl, hperm⟩ := hR4 t3 [.list (rows.map rowD ++ (rows.map rowD).take jn)] ⟨ht3, _, rfl, by omega⟩
    cases ees
    have hrs : ∀ d ∈ rs2, ∃ r : Row, d = rowD r ∧ Rn n r := fun d hd => by
      have h1 := hperm.mem_iff.mp hd
      have h2 : d ∈ rows.map rowD := by
        rcases List.mem_append.mp h1 with h | h
        · exact h
        · exact List.mem_of_mem_take h
      obtain ⟨r, hr, rfl⟩ := List.mem_map.mp h2
      exact ⟨r, rfl, hrows r hr⟩
    obtain ⟨rows2, rfl, hrows2⟩ := map_of (f := rowD) hrs
    have hl2 : rows2.length ≤ 12 := by
      have := hperm.length_eq
      rw [List.length_map] at this
      omega
    refine ⟨t4, roomD (n : Int) rows2, ⟨ht4, n, rows2, rfl, rfl, hl2, hrows2⟩, fun c hr s l => ?_⟩
    have k_law_pick := dR.known hr
    have k_law_of := dR3.known hr
    have k_law_mixed := dR4.known hr
    have lp := hlp c hr s l
    exact s_cons (s_setO 2 (eo_lst ea_nil) scLRoom.nd)
      (s_cons (s_for (i_range1 (ea_cons (e_callS 0 k_law_of (ea_cons (e_O (eo_lst (ea_cons e_int (ea_cons e_int (ea_cons e_int (ea_cons e_int (ea_cons e_int (ea_cons e_int ea_nil)))))))) ea_nil) r1) ea_nil) m_range (by omega)) lp)
      (s_stop (s_retS (e_tup (ea_cons (e_var 1) (ea_cons (e_callTy (ea_cons (e_callS 0 k_law_mixed (ea_cons (e_O (eo_bin (e_varO 2) (e_O (eo_slice (e_var 2) pd_none (pd_some (e_callS 0 k_law_pick (ea_cons e_int ea_nil) r3)))) (oo_cat (by rw [cutD_to, ← List.length_append]; omega)))) ea_nil) (by rw [cutD_to]; exact r4)) ea_nil) cv_tupL m_tuple) ea_nil))))))
end
end K03
end part_K03zd
section part_K03ze
namespace K03
open L2 PyProof.Rows PySem.Spec PySem DL DLr Num
section
variable {P : Program} {w : World} {K : PySem.W.Frag} {mg : Str → Option Value} {base : Heap}
/-- what the law's defs know of the ground -/
structure Gd (K : PySem.W.Frag) (mg : Str → Option Value) : Prop where
  dig : PySem.W.nsIn K cStatics "sys.int_max_str_digits" = some none
  int : mg "int" = none
  abs : mg "abs" = none
  len : mg "len" = none
  list : mg "list" = none
  range : mg "range" = none
  max : mg "max" = none
  repr : mg "repr" = none
  any : mg "any" = none
  zip : mg "zip" = none
  enumerate : mg "enumerate" = none
  tuple : mg "tuple" = none
  gcd : mg "gcd" = some (.builtin "math.gcd")
  lcm : mg "lcm" = some (.builtin "math.lcm")
  nought : ∃ v u, mg "NOUGHT" = some u ∧ RelV v u ∧ ∀ G, Da K G v (fr 0 1)
theorem r100 {k : Nat} {A : Around} (h : Rm k A) : A.units + 100 < cLine := by
  have := h.1.un
  omega
/-- the program's and the law's own pure defs, the law's draws -/
structure Lib (P : Program) (w : World) (K : PySem.W.Frag) (mg : Str → Option Value) (base : Heap) : Prop where
  isIn : Def P w K mg base "is_in" 4 ["room", "point"] (spP K rIsIn)
  joined : Def P w K mg base "joined" 3 ["one", "other"] (spP K rJoined)
  product : Def P w K mg base "product" 3 ["one", "other"] (spP K rProduct)
  shifted : Def P w K mg base "shifted" 3 ["room", "point"] (spP K rShifted)
  scaled : Def P w K mg base "scaled" 3 ["room", "t"] (spP K rScaled)
  open_ : Def P w K mg base "open_room" 1 ["n"] (spP K rOpen)
  mirrored : Def P w K mg base "mirrored" 3 ["room"] (spP K rMirrored)
  placed : Def P w K mg base "placed" 3 ["room", "order"] (spP K rPlaced)
  boxed : Def P w K mg base "boxed" 3 ["low", "high"] (spP K rBoxed)
  image : Def P w K mg base "image_of" 4 ["matrix", "point", "shift"] (spP K rImage)
  next : Def P w K mg base "next_of" 5 ["plant", "x", "u", "w"] (spP K rNext)
  lplain : Def P w K mg base "_law_plain" 2 ["row"] (spP K rPlain)
  lplus : Def P w K mg base "_law_plus" 2 ["x", "y"] (spP K rPlus)
  ltimes : Def P w K mg base "_law_times" 2 ["x", "y"] (spP K rTimes)
  lisIn : Def P w K mg base "_law_is_in" 4 ["room", "point"] (spP K rLIsIn)
  lshifted : Def P w K mg base "_law_shifted" 4 ["room", "point"] (spP K rShifted)
  lscaled : Def P w K mg base "_law_scaled" 4 ["room", "t"] (spP K rScaled)
  lplaced : Def P w K mg base "_law_placed" 3 ["room", "order"] (spP K rPlaced)
  lboxed : Def P w K mg base "_law_boxed" 4 ["low", "high"] (spP K rBoxed)
  lmoved : Def P w K mg base "_law_moved" 3 ["matrix", "point", "shift"] (spP K rMoved)
  pick : DPick P w K mg base
  of : DOf P w K mg base
  mixed : DMixed P w K mg base
  fra : DFraR P w K mg base
  point : Draws P w K mg base "_law_point" 4 ["source", "n"] preN postPoint
  room : Draws P w K mg base "_law_room" 4 ["source", "n"] preN postRoom
theorem room_ex {R : Src → List PyData → Src → PyData → Prop} (hR : ∀ t ds, preN t ds → ∃ t' d, R t ds t' d ∧ postRoom t ds t' d) {n : Nat} (hn : n ≤ 7) {t : Src} (ht : Ok t) : ∃ (t' : Src) (rows : List Row), R t [.int (n : Int)] t' (roomD (n : Int) rows) ∧ Ok t' ∧ rows.length ≤ 12 ∧ ∀ r ∈ rows, Rn n r := by
  obtain ⟨t', d, h1, h2, m, rows, e, rfl, h3, h4⟩ := hR t [.int (n : Int)] ⟨ht, n, rfl, hn⟩
  injection e with e
  injection e with e
  have em : m = n := by omega
  subst em
  exact ⟨t', rows, h1, h2, h3, h4⟩
theorem point_ex {R : Src → List PyData → Src → PyData → Prop} (hR : ∀ t ds, preN t ds → ∃ t' d, R t ds t' d ∧ postPoint t ds t' d) {n : Nat} (hn : n ≤ 7) {t : Src} (ht : Ok t) : ∃ (t' : Src) (xs : List Fr), R t [.int (n : Int)] t' (ptD xs) ∧ Ok t' ∧ xs.length = n ∧ Sp xs ∧ ∀ x ∈ xs, Redd x := by
  obtain ⟨t', d, h1, h2, xs, rfl, h3, e, h4⟩ := hR t [.int (n : Int)] ⟨ht, n, rfl, hn⟩
  injection e with e
  injection e with e
  exact ⟨t', xs, h1, h2, by omega, h3, h4⟩
/-! ### how great what is shown is -/
theorem sm_pairT {a b k : Nat} {x y : PyData} (h : Sm a k x) (g : Sm b k y) : Sm (a + b + 1) (k + 1) (.tuple [x, y]) := by
  have hn := h.n
  have gn := g.n
  have hk := h.k
  have gk := g.k
  exact ⟨by simp [wideD, wideDs, h.w, g.w], by simp [shortD, shortDs, h.s, g.s], by simp [nodes, nodesAll]; omega, by simp [PyData.depth, PyData.depthAll]; omega⟩
theorem sm_rowN {n m : Nat} {r : Row} (h : Ro n r) (hn : n ≤ 12801) (hm : r.1.length ≤ m) : Sm (m + 3) 3 (rowD r) := by
  have h1 : ∀ d ∈ r.1.map PyData.int, Sm 1 1 d := fun d hd => by
    obtain ⟨x, hx, rfl⟩ := List.mem_map.mp hd
    exact sm_int ((h.a x hx).mono hn)
  have h2 := sm_tup h1
  rw [List.length_map] at h2
  exact (sm_pairT (k := 2) h2 ((sm_int (h.b.mono hn)).mono (Nat.le_refl _) (by decide))).mono (by omega) (by decide)
theorem sm_roomN {n m k : Nat} {rows : List Row} {i : Int} (hi : i.natAbs < 2 ^ 12801) (h : ∀ r ∈ rows, Ro n r ∧ r.1.length ≤ m) (hn : n ≤ 12801) (hl : rows.length ≤ k) : Sm ((m + 3) * k + 3) 5 (roomD i rows) := by
  have h1 : ∀ d ∈ rows.map rowD, Sm (m + 3) 3 d := fun d hd => by
    obtain ⟨r, hr, rfl⟩ := List.mem_map.mp hd
    exact sm_rowN (h r hr).1 hn (h r hr).2
  have h2 := sm_tup h1
  rw [List.length_map] at h2
  have h3 : (m + 3) * rows.length ≤ (m + 3) * k := Nat.mul_le_mul (Nat.le_refl _) hl
  exact (sm_pairT (k := 4) ((sm_int hi).mono (Nat.le_refl _) (by decide)) h2).mono (by omega) (Nat.le_refl _)
theorem sm_nat {n : Nat} (h : n ≤ 1000) : ((n : Nat) : Int).natAbs < 2 ^ 12801 := Nat.lt_of_le_of_lt (show ((n : Nat) : Int).natAbs ≤ 1000 by omega) (by decide +kernel)
theorem plain_len (r : Row) : (plR r).1.length = r.1.length := by
  show (plainF r.1 r.2).1.length = _
  unfold plainF
  split
  · rfl
  · show (List.map _ _).length = _
    rw [List.length_map]
end
end K03
end part_K03ze
section part_K03zf
namespace K03
open L2 PyProof.Rows PySem.Spec PySem DL DLr Num
abbrev sTwo : Stmt := top 52
section
variable {P : Program} {w : World} {K : PySem.W.Frag} {mg : Str → Option Value} {base : Heap}
/-! #### _law_two_right -/
def preSix (t : Src) (ds : List PyData) : Prop := Ok t ∧ ∃ n : Nat, ds = [.int (n : Int)] ∧ n ≤ 6
def postRight (_ : Src) (_ : List PyData) (t' : Src) (d : PyData) : Prop := Ok t' ∧ d = .bool true
abbrev nTwo : List Str := ["source", "n", "late", "rows", "told", "one", "other", "l", "x", "y", "low", "high", "row", "a", "b"]
theorem scTwo : FnScope nTwo ["source", "n"] (defScope sTwo) := ⟨rfl, rfl, rfl, by decide +kernel, rfl, by decide +kernel, by decide +kernel⟩
abbrev cTwo (P : Program) (w : World) (K : PySem.W.Frag) (mg : Str → Option Value) (base : Heap) (a : CxA) : Cx := cx P w K mg base nTwo "_law_two_right" sTwo a
abbrev twE1 : Expr := exprOf (bodyAt sTwo 2)
abbrev twE2 : Expr := pt 0 (exprOf (bodyAt sTwo 4))
abbrev twE3 : Expr := pt 1 (exprOf (bodyAt sTwo 4))
theorem blkTw1 : blkC nTwo (defScope sTwo) (cmS twE1) [("row", 12)] = true := by decide +kernel
theorem blkTw2 : blkC nTwo (defScope sTwo) (cmS twE2) [("a", 13), ("b", 14)] = true := by decide +kernel
theorem blkTw3 : blkC nTwo (defScope sTwo) (cmS twE3) [("a", 13), ("b", 14)] = true := by decide +kernel
theorem zeros_map1 (n : Nat) : (List.replicate n [PyData.int 0]).flatten = (List.replicate n (0 : Int)).map PyData.int := reps1 n
theorem padR_ro {n m : Nat} {r : Row} (h : Ro n r) (hl : r.1.length + m ≤ 15) : Ro n (padR m r) := ⟨fun x hx => by
  rcases List.mem_append.mp hx with hx | hx
  · exact h.a x hx
  · rw [(List.mem_replicate.mp hx).2]
    exact sz0, h.b, by show (r.1 ++ List.replicate m 0).length ≤ 15; rw [List.length_append, List.length_replicate]; omega⟩
theorem padL_ro {n m : Nat} {r : Row} (h : Ro n r) (hl : r.1.length + m ≤ 15) : Ro n (padL m r) := ⟨fun x hx => by
  rcases List.mem_append.mp hx with hx | hx
  · rw [(List.mem_replicate.mp hx).2]
    exact sz0
  · exact h.a x hx, h.b, by show (List.replicate m 0 ++ r.1).length ≤ 15; rw [List.length_append, List.length_replicate]; omega⟩
theorem rowOfF_ro {ms : List Fr} {bd : Fr} (h : Pt ms) (g : Fo 1400 bd) : Ro 3720 (rowOfF ms bd) ∧ (rowOfF ms bd).1.length ≤ 7 := by
  refine ⟨(rowOf_ro h g).plain (by decide), ?_⟩
  have e : rowOfF ms bd = plR (upF (lcF bd.2.natAbs ms) ms, bd.1 * ((lcF bd.2.natAbs ms : Nat) : Int).fdiv bd.2) := rfl
  have := h.len
  rw [e, plain_len, up_len]
  exact this
theorem ok_two (hp : DL.Put K mg "_law_two_right" sTwo) (g : Gd K mg) (L : Lib P w K mg base) : Draws P w K mg base "_law_two_right" 5 ["source", "n"] preSix postRight := by
  obtain ⟨R1, dR1, hR1⟩ := L.pick
  obtain ⟨R2, dR2, hR2⟩ := L.room
  obtain ⟨R3, dR3, hR3⟩ := L.point
  refine def_Sx hp scTwo (fun _ _ _ _ _ _ us hl => match us, hl with | [_, _], _ => rfl) (by decide) (fun t ds h => ?_) (fun t ds h => ?_)
  · obtain ⟨_, n, rfl, _⟩ := h
    rfl
  · obtain ⟨ht, n, rfl, hn⟩ := h
    obtain ⟨t1, A, r1, ht1, lA, hA⟩ := room_ex hR2 (show n ≤ 7 by omega) ht
    obtain ⟨t2, B, r2, ht2, lB, hB⟩ := room_ex hR2 (show n ≤ 7 by omega) ht1
    obtain ⟨t3, l0, r3, ht3, hl0, hl1⟩ := pick_int hR1 ht2 (7 - (n : Int)) (by omega) (by omega)
    obtain ⟨l, rfl⟩ : ∃ l : Nat, l0 = (l : Int) := ⟨l0.toNat, by omega⟩
    obtain ⟨t4, C, r4, ht4, lC, hC⟩ := room_ex hR2 (show l ≤ 7 by omega) ht3
    obtain ⟨t5, x, r5, ht5, hxl, hx, hxr⟩ := point_ex hR3 (show n ≤ 7 by omega) ht4
    obtain ⟨t6, y, r6, ht6, hyl, hy, hyr⟩ := point_ex hR3 (show l ≤ 7 by omega) ht5
    obtain ⟨t7, u, r7, ht7, hul, hu, hur⟩ := point_ex hR3 (show n ≤ 7 by omega) ht6
    obtain ⟨t8, v, r8, ht8, hvl, hv, hvr⟩ := point_ex hR3 (show n ≤ 7 by omega) ht7
    refine ⟨t8, .bool true, ⟨ht8, rfl⟩, fun c hr s sl => ?_⟩
    have hr9 := r100 hr
    have hd := g.dig
    have m_repr := g.repr
    have m_tuple := g.tuple
    have k_law_pick := dR1.known hr
    have k_law_room := dR2.known hr
    have k_law_point := dR3.known hr
    have k_law_plain := L.lplain.known hr
    have k_joined := L.joined.known hr
    have k_product := L.product.known hr
    have k_is_in := L.isIn.known hr
    have k_law_is_in := L.lisIn.known hr
    have k_boxed := L.boxed.known hr
    have k_law_boxed := L.lboxed.known hr
    have hAB : ∀ r ∈ A ++ B, Rn n r := fun r h => by
      rcases List.mem_append.mp h with h | h
      · exact hA r h
      · exact hB r h
    have lAB : (A ++ B).length ≤ 24 := by rw [List.length_append]; omega
    have sh1 : Shows (roomD (n : Int) ((A ++ B).map plR)) := (sm_roomN (n := 130) (m := 7) (k := 24) (sm_nat (by omega)) (fun r h => by
      obtain ⟨q, hq, rfl⟩ := List.mem_map.mp h
      exact ⟨(hAB q hq).1.ro.plain (by decide), by rw [plain_len]; exact (hAB q hq).1.len⟩) (by decide) (by rw [List.length_map]; exact lAB)).shows (by decide) (by decide)
    have hp2 : ∀ r ∈ (A.map (padR l) ++ C.map (padL n)).map plR, Ro 130 r ∧ r.1.length ≤ 7 := fun r h => by
      obtain ⟨q, hq, rfl⟩ := List.mem_map.mp h
      rcases List.mem_append.mp hq with hq | hq
      · obtain ⟨p, hp, rfl⟩ := List.mem_map.mp hq
        have := (hA p hp).2
        refine ⟨(padR_ro (hA p hp).1.ro (by omega)).plain (by decide), ?_⟩
        rw [plain_len]
        show (p.1 ++ List.replicate l 0).length ≤ 7
        rw [List.length_append, List.length_replicate]
        omega
      · obtain ⟨p, hp, rfl⟩ := List.mem_map.mp hq
        have := (hC p hp).2
        refine ⟨(padL_ro (hC p hp).1.ro (by omega)).plain (by decide), ?_⟩
        rw [plain_len]
        show (List.replicate n 0 ++ p.1).length ≤ 7
        rw [List.length_append, List.length_replicate]
        omega
    have l2 : ((A.map (padR l) ++ C.map (padL n)).map plR).length ≤ 24 := by rw [List.length_map, List.length_append, List.length_map, List.length_map]; omega
    have sh2 : Shows (roomD ((n + l : Nat) : Int) ((A.map (padR l) ++ C.map (padL n)).map plR)) := (sm_roomN (n := 130) (m := 7) (k := 24) (sm_nat (by omega)) hp2 (by decide) l2).shows (by decide) (by decide)
    have pxy : Pt (x ++ y) := ⟨fun z hz => by
      rcases List.mem_append.mp hz with h | h
      · exact (hx.fo z h).mono (by decide)
      · exact (hy.fo z h).mono (by decide), by rw [List.length_append]; omega⟩
    have ein := in_product (x := x) (y := y) (a := A) (b := C) (n := n) (m := l) (fun z hz => (hx.fo z hz).pos) (fun z hz => (hy.fo z hz).pos) hxl.symm (fun r hr => by rw [(hA r hr).2, hxl])
    have sboxes : ∀ p q : List Fr, Sp p → Sp q → p.length = n → q.length = n → Sm 160 5 (roomD (p.length : Int) (boxF p q)) := fun p q h1 h2 h3 h4 => by
      refine (sm_roomN (n := 3720) (m := 7) (k := 14) (sm_nat (by omega)) (fun r h => ?_) (by decide) ?_).mono (by decide) (by decide)
      · obtain ⟨k, hk, hr⟩ := List.mem_flatMap.mp h
        have hk0 := List.mem_range.mp hk
        have e1 : Fo 130 (q.getD k (0, 1)) := by
          rw [List.getD_eq_getElem?_getD, List.getElem?_eq_getElem (by omega)]
          exact h2.pt.fo _ (List.getElem_mem _)
        have e2 : Fo 130 (p.getD k (0, 1)) := by
          rw [List.getD_eq_getElem?_getD, List.getElem?_eq_getElem hk0]
          exact h1.pt.fo _ (List.getElem_mem _)
        have f1 : Fo 130 ((1, 1) : Fr) := ⟨by decide, Sz.mono (n := 1) (sz_lt (by decide)) (by decide), Sz.mono (n := 1) (sz_lt (by decide)) (by decide)⟩
        have fm : Fo 130 ((-1, 1) : Fr) := ⟨by decide, Sz.mono (n := 1) (sz_lt (by decide)) (by decide), Sz.mono (n := 1) (sz_lt (by decide)) (by decide)⟩
        have u1 := unit_pt (n := p.length) (p := k) h1.len f1
        have u2 := unit_pt (n := p.length) (p := k) h1.len fm
        simp only [boxR, List.mem_cons, List.not_mem_nil, or_false] at hr
        rcases hr with rfl | rfl
        · exact rowOfF_ro u1 (e1.mono (by decide))
        · exact rowOfF_ro u2 ⟨e2.pos, (e2.s1.neg).mono (by decide), e2.s2.mono (by decide)⟩
      · unfold boxF
        have e : ∀ ks : List Nat, (ks.flatMap (boxR p.length p q)).length = 2 * ks.length := fun ks => by
          induction ks with
          | nil => rfl
          | cons k ks ih => rw [List.flatMap_cons, List.length_append, ih, List.length_cons]; show 2 + _ = _; omega
        rw [e, List.length_range]
        omega
    have sh3 : Shows (.list [roomD (u.length : Int) (boxF u v), roomD (u.length : Int) (boxF u u)]) := (sm_list (n := 160) (k := 5) fun d hd => by
      simp only [List.mem_cons, List.not_mem_nil, or_false] at hd
      rcases hd with rfl | rfl
      · exact sboxes u v hu hv hul hvl
      · exact sboxes u u hu hu hul hul).shows (by show 160 * 2 + 1 ≤ 1200; decide) (by decide)
    let X := cTwo P w K mg base c
    let fin : Out := .rt (.bool true) (.src s sl t8 :: List.replicate 14 .un)
    have eP : PyData.tuple [.int ((n : Int) + (l : Int)), .tuple (((A.map (padR l) ++ C.map (padL n)).map plR).map rowD)] = roomD ((n + l : Nat) : Int) ((A.map (padR l) ++ C.map (padL n)).map plR) := by
      show PyData.tuple [.int ((n : Int) + (l : Int)), _] = PyData.tuple [.int ((n + l : Nat) : Int), _]
      rw [Int.natCast_add]
    have s10 : S X ((defBody sTwo).drop 10) [.src s sl t8, .dat (.int (n : Int)), .dat (roomD (l : Int) C), .dat (.list (((A.map (padR l) ++ C.map (padL n)).map plR).map rowD)), .dat (roomD ((n + l : Nat) : Int) ((A.map (padR l) ++ C.map (padL n)).map plR)), .dat (roomD (n : Int) A), .dat (roomD (n : Int) B), .dat (.int (l : Int)), .dat (ptD x), .dat (ptD y), .dat (ptD u), .dat (ptD v), .un, .un, .un] fin :=
      s_stop (s_retS (e_cmp (e_callB (ea_cons (e_O (eo_lst (ea_cons (e_call k_boxed (ea_cons (e_var 10) (ea_cons (e_var 11) ea_nil)) ⟨u, v, rfl, hu.pt, hv.pt, by omega, rfl⟩) (ea_cons (e_call k_boxed (ea_cons (e_var 10) (ea_cons (e_var 10) ea_nil)) ⟨u, u, rfl, hu.pt, hu.pt, rfl, rfl⟩) ea_nil)))) ea_nil) (cv_repr hd hr9 hr.2 sh3) m_repr) (e_callB (ea_cons (e_O (eo_lst (ea_cons (e_call k_law_boxed (ea_cons (e_var 10) (ea_cons (e_var 11) ea_nil)) ⟨u, v, rfl, hu.pt, hv.pt, by omega, rfl⟩) (ea_cons (e_call k_law_boxed (ea_cons (e_var 10) (ea_cons (e_var 10) ea_nil)) ⟨u, u, rfl, hu.pt, hu.pt, rfl, rfl⟩) ea_nil)))) ea_nil) (cv_repr hd hr9 hr.2 sh3) m_repr) ov_eqS) (by rw [decide_eq_true rfl]))
    have s9 : S X ((defBody sTwo).drop 9) [.src s sl t6, .dat (.int (n : Int)), .dat (roomD (l : Int) C), .dat (.list (((A.map (padR l) ++ C.map (padL n)).map plR).map rowD)), .dat (roomD ((n + l : Nat) : Int) ((A.map (padR l) ++ C.map (padL n)).map plR)), .dat (roomD (n : Int) A), .dat (roomD (n : Int) B), .dat (.int (l : Int)), .dat (ptD x), .dat (ptD y), .un, .un, .un, .un, .un] fin :=
      s_cons (s_par 10 11 (d1 := ptD u) (d2 := ptD v) (ea_cons (e_callS 0 k_law_point (ea_cons (e_var 1) ea_nil) r7) (ea_cons (e_callS 0 k_law_point (ea_cons (e_var 1) ea_nil) r8) ea_nil)) rfl scTwo.nd) s10
    have s8 : S X ((defBody sTwo).drop 8) [.src s sl t6, .dat (.int (n : Int)), .dat (roomD (l : Int) C), .dat (.list (((A.map (padR l) ++ C.map (padL n)).map plR).map rowD)), .dat (roomD ((n + l : Nat) : Int) ((A.map (padR l) ++ C.map (padL n)).map plR)), .dat (roomD (n : Int) A), .dat (roomD (n : Int) B), .dat (.int (l : Int)), .dat (ptD x), .dat (ptD y), .un, .un, .un, .un, .un] fin :=
      s_cons (s1_if (p := false) (T.to (t_cmp (e_callB (ea_cons (E.to (d := .bool (inF x A && inF y C)) (e_call k_is_in (ea_cons (e_var 4) (ea_cons (E.to (d := ptD (x ++ y)) (e_bin (e_var 8) (e_var 9) (ov_catA (by rw [List.length_map, List.length_map]; omega))) (by show _ = PyData.tuple ((x ++ y).map frD); rw [List.map_append])) ea_nil)) ⟨((n + l : Nat) : Int), (A.map (padR l) ++ C.map (padL n)).map plR, x ++ y, rfl, ⟨fun r h => (hp2 r h).1.mono (by decide), by omega, pxy⟩, rfl⟩) (by rw [ein])) ea_nil) (cv_repr hd hr9 hr.2 ((sm_bool _).shows (by decide) (by decide))) m_repr)
        (e_callB (ea_cons (e_and (d := .bool (inF x A && inF y C)) (e_call k_law_is_in (ea_cons (e_var 5) (ea_cons (e_var 8) ea_nil)) ⟨(n : Int), A, x, rfl, (fun r h => (hA r h).1.ro.mono (by decide)), by omega, hx.pt, rfl⟩) (fun h => (E.to (e_one (e_call k_law_is_in (ea_cons (e_var 2) (ea_cons (e_var 9) ea_nil)) ⟨(l : Int), C, y, rfl, (fun r h => (hC r h).1.ro.mono (by decide)), by omega, hy.pt, rfl⟩)) (by rw [h]; rfl))) (fun h => ⟨by rw [h]; rfl, rfl⟩)) ea_nil) (cv_repr hd hr9 hr.2 ((sm_bool _).shows (by decide) (by decide))) m_repr) ov_neS) (by rw [decide_eq_true rfl]; rfl)) (fun h => Bool.noConfusion h) (fun h => s_nil')) s9
    have s7 : S X ((defBody sTwo).drop 7) [.src s sl t4, .dat (.int (n : Int)), .dat (roomD (l : Int) C), .dat (.list (((A.map (padR l) ++ C.map (padL n)).map plR).map rowD)), .dat (roomD ((n + l : Nat) : Int) ((A.map (padR l) ++ C.map (padL n)).map plR)), .dat (roomD (n : Int) A), .dat (roomD (n : Int) B), .dat (.int (l : Int)), .un, .un, .un, .un, .un, .un, .un] fin :=
      s_cons (s_par 8 9 (d1 := ptD x) (d2 := ptD y) (ea_cons (e_callS 0 k_law_point (ea_cons (e_var 1) ea_nil) r5) (ea_cons (e_callS 0 k_law_point (ea_cons (e_var 7) ea_nil) r6) ea_nil)) rfl scTwo.nd) s8
    have s6 : S X ((defBody sTwo).drop 6) [.src s sl t4, .dat (.int (n : Int)), .dat (roomD (l : Int) C), .dat (.list (((A.map (padR l) ++ C.map (padL n)).map plR).map rowD)), .dat (roomD ((n + l : Nat) : Int) ((A.map (padR l) ++ C.map (padL n)).map plR)), .dat (roomD (n : Int) A), .dat (roomD (n : Int) B), .dat (.int (l : Int)), .un, .un, .un, .un, .un, .un, .un] fin :=
      s_cons (s1_if (p := false) (T.to (t_cmp (e_callB (ea_cons (e_var 4) ea_nil) (cv_repr hd hr9 hr.2 sh2) m_repr) (e_callB (ea_cons (E.to (e_tup (ea_cons (e_bin (e_var 1) (e_var 7) ov_add) (ea_cons (e_callTy (ea_cons (e_var 3) ea_nil) cv_tupL m_tuple) ea_nil))) eP) ea_nil) (cv_repr hd hr9 hr.2 sh2) m_repr) ov_neS) (by rw [decide_eq_true rfl]; rfl)) (fun h => Bool.noConfusion h) (fun h => s_nil')) s7
    have s5 : S X ((defBody sTwo).drop 5) [.src s sl t4, .dat (.int (n : Int)), .dat (roomD (l : Int) C), .dat (.list (((A.map (padR l) ++ C.map (padL n)).map plR).map rowD)), .un, .dat (roomD (n : Int) A), .dat (roomD (n : Int) B), .dat (.int (l : Int)), .un, .un, .un, .un, .un, .un, .un] fin :=
      s_cons (s_set 4 (e_call k_product (ea_cons (e_var 5) (ea_cons (e_var 2) ea_nil)) ⟨n, l, A, C, rfl, by omega, by omega, (fun r h => ⟨(hA r h).1.ro.mono (by decide), (hA r h).2⟩), (fun r h => ⟨(hC r h).1.ro.mono (by decide), (hC r h).2⟩), by omega, by omega, rfl⟩) scTwo.nd) s6
    have pR : ∀ r ∈ A, (r.1.map PyData.int).length + ((List.replicate l [PyData.int 0]).flatten).length ≤ 1000000 := fun r h => by
      have := (hA r h).1.len
      rw [zeros_map1, List.length_map, List.length_map, List.length_replicate]
      omega
    have pL : ∀ r ∈ C, ((List.replicate n [PyData.int 0]).flatten).length + (r.1.map PyData.int).length ≤ 1000000 := fun r h => by
      have := (hC r h).1.len
      rw [zeros_map1, List.length_map, List.length_map, List.length_replicate]
      omega
    have eR : ∀ r : Row, PyData.tuple [.tuple (r.1.map PyData.int ++ (List.replicate l [PyData.int 0]).flatten), .int r.2] = rowD (padR l r) := fun r => by
      rw [zeros_map1]
      show PyData.tuple [.tuple _, _] = PyData.tuple [.tuple (List.map PyData.int (_ ++ _)), _]
      rw [List.map_append]
      rfl
    have eL : ∀ r : Row, PyData.tuple [.tuple ((List.replicate n [PyData.int 0]).flatten ++ r.1.map PyData.int), .int r.2] = rowD (padL n r) := fun r => by
      rw [zeros_map1]
      show PyData.tuple [.tuple _, _] = PyData.tuple [.tuple (List.map PyData.int (_ ++ _)), _]
      rw [List.map_append]
      rfl
    have z4 : [PyData.int 0] ≠ [] := List.cons_ne_nil _ _
    have n1 : n ≤ 1000 := by omega
    have l1 : l ≤ 1000 := by omega
    have st1 : E X twE2 [.src s sl t4, .dat (.int (n : Int)), .dat (roomD (l : Int) C), .dat (.list (((A ++ B).map plR).map rowD)), .un, .dat (roomD (n : Int) A), .dat (roomD (n : Int) B), .dat (.int (l : Int)), .un, .un, .un, .un, .un, .un, .un] (.list (A.map fun r : Row => rowD (plR (padR l r)))) [.src s sl t4, .dat (.int (n : Int)), .dat (roomD (l : Int) C), .dat (.list (((A ++ B).map plR).map rowD)), .un, .dat (roomD (n : Int) A), .dat (roomD (n : Int) B), .dat (.int (l : Int)), .un, .un, .un, .un, .un, .un, .un] :=
      e_O (eo_lc (own := [("a", 13), ("b", 14)]) (i_tup (e_ixt (e_var 5))) (cl_map (f := rowD) (r := fun r : Row => rowD (plR (padR l r))) (js := [13, 14]) (fun _ z => z) A (fun _ _ _ _ _ _ _ => g_tup rfl (gs_cons (g_name 13 scTwo.nd) (gs_cons (g_name 14 scTwo.nd) gs_nil))) (fun r hr' _ _ _ _ _ => e_call k_law_plain (ea_cons (E.to (e_tup (ea_cons (e_bin (e_var 13) (e_bin (e_tup (ea_cons e_int ea_nil)) (e_var 7) (ov_rep z4 l1 (by decide))) (ov_catA (pR r hr'))) (ea_cons (e_var 14) ea_nil))) (eR r)) ea_nil) ⟨padR l r, rfl, (padR_ro (hA r hr').1.ro (by have := (hA r hr').2; omega)).mono (by decide), rfl⟩) (fun _ _ => Le.refl _)) (by rw [List.length_map]; omega) scTwo.nd (blkOk_by blkTw2))
    have st2 : E X twE3 [.src s sl t4, .dat (.int (n : Int)), .dat (roomD (l : Int) C), .dat (.list (((A ++ B).map plR).map rowD)), .un, .dat (roomD (n : Int) A), .dat (roomD (n : Int) B), .dat (.int (l : Int)), .un, .un, .un, .un, .un, .un, .un] (.list (C.map fun r : Row => rowD (plR (padL n r)))) [.src s sl t4, .dat (.int (n : Int)), .dat (roomD (l : Int) C), .dat (.list (((A ++ B).map plR).map rowD)), .un, .dat (roomD (n : Int) A), .dat (roomD (n : Int) B), .dat (.int (l : Int)), .un, .un, .un, .un, .un, .un, .un] :=
      e_O (eo_lc (own := [("a", 13), ("b", 14)]) (i_tup (e_ixt (e_var 2))) (cl_map (f := rowD) (r := fun r : Row => rowD (plR (padL n r))) (js := [13, 14]) (fun _ z => z) C (fun _ _ _ _ _ _ _ => g_tup rfl (gs_cons (g_name 13 scTwo.nd) (gs_cons (g_name 14 scTwo.nd) gs_nil))) (fun r hr' _ _ _ _ _ => e_call k_law_plain (ea_cons (E.to (e_tup (ea_cons (e_bin (e_bin (e_tup (ea_cons e_int ea_nil)) (e_var 1) (ov_rep z4 n1 (by decide))) (e_var 13) (ov_catA (pL r hr'))) (ea_cons (e_var 14) ea_nil))) (eL r)) ea_nil) ⟨padL n r, rfl, (padL_ro (hC r hr').1.ro (by have := (hC r hr').2; omega)).mono (by decide), rfl⟩) (fun _ _ => Le.refl _)) (by rw [List.length_map]; omega) scTwo.nd (blkOk_by blkTw3))
    have e4 : (A.map fun r : Row => rowD (plR (padR l r))) ++ (C.map fun r : Row => rowD (plR (padL n r))) = ((A.map (padR l) ++ C.map (padL n)).map plR).map rowD := by
      rw [List.map_append, List.map_append, List.map_map, List.map_map, List.map_map, List.map_map]
      rfl
    have s4 : S X ((defBody sTwo).drop 4) [.src s sl t4, .dat (.int (n : Int)), .dat (roomD (l : Int) C), .dat (.list (((A ++ B).map plR).map rowD)), .un, .dat (roomD (n : Int) A), .dat (roomD (n : Int) B), .dat (.int (l : Int)), .un, .un, .un, .un, .un, .un, .un] fin :=
      s_cons (s_set 3 (E.to (e_O (eo_bin st1 st2 (oo_cat (by rw [List.length_map, List.length_map]; omega)))) (congrArg PyData.list e4)) scTwo.nd) s5
    have s3 : S X ((defBody sTwo).drop 3) [.src s sl t4, .dat (.int (n : Int)), .dat (roomD (l : Int) C), .own ((A ++ B).map fun r : Row => rowD (plR r)), .un, .dat (roomD (n : Int) A), .dat (roomD (n : Int) B), .dat (.int (l : Int)), .un, .un, .un, .un, .un, .un, .un] fin :=
      s_cons (s1_if (p := false) (T.to (t_cmp (e_callB (ea_cons (e_call k_joined (ea_cons (e_var 5) (ea_cons (e_var 6) ea_nil)) ⟨(n : Int), (n : Int), A, B, rfl, (fun r h => (hAB r h).1.ro.mono (by decide)), by omega, rfl⟩) ea_nil) (cv_repr hd hr9 hr.2 sh1) m_repr) (e_callB (ea_cons (E.to (d := roomD (n : Int) ((A ++ B).map plR)) (e_tup (ea_cons (e_var 1) (ea_cons (e_callTy (ea_cons (e_varO 3) ea_nil) cv_tupL m_tuple) ea_nil))) (by show _ = PyData.tuple [_, .tuple (((A ++ B).map plR).map rowD)]; rw [List.map_map]; rfl)) ea_nil) (cv_repr hd hr9 hr.2 sh1) m_repr) ov_neS) (by rw [decide_eq_true rfl]; rfl)) (fun h => Bool.noConfusion h) (fun h => s_nil')) (by
        have q : ((A ++ B).map fun r : Row => rowD (plR r)) = ((A ++ B).map plR).map rowD := by rw [List.map_map]; rfl
        rw [q]
        exact s4)
    have s2 : S X ((defBody sTwo).drop 2) [.src s sl t4, .dat (.int (n : Int)), .dat (roomD (l : Int) C), .un, .un, .dat (roomD (n : Int) A), .dat (roomD (n : Int) B), .dat (.int (l : Int)), .un, .un, .un, .un, .un, .un, .un] fin :=
      s_cons (s_setLc 3 (own := [("row", 12)]) (i_tup (E.to (d := .tuple ((A ++ B).map rowD)) (e_bin (e_ixt (e_var 5)) (e_ixt (e_var 6)) (ov_catA (by rw [List.length_map, List.length_map]; omega))) (by rw [List.map_append]))) (cl_map (f := rowD) (r := fun r : Row => rowD (plR r)) (js := [12]) (fun _ z => z) (A ++ B) (fun _ _ _ _ _ _ _ => g_name 12 scTwo.nd) (fun r hr' _ _ _ _ _ => e_call k_law_plain (ea_cons (e_var 12) ea_nil) ⟨r, rfl, (hAB r hr').1.ro.mono (by decide), rfl⟩) (fun _ _ => Le.refl _)) (by rw [List.length_map]; omega) scTwo.nd (blkOk_by blkTw1) (Nat.le_of_ble_eq_true rfl)) s3
    have s1 : S X ((defBody sTwo).drop 1) [.src s sl t3, .dat (.int (n : Int)), .un, .un, .un, .dat (roomD (n : Int) A), .dat (roomD (n : Int) B), .dat (.int (l : Int)), .un, .un, .un, .un, .un, .un, .un] fin :=
      s_cons (s_set 2 (e_callS 0 k_law_room (ea_cons (e_var 7) ea_nil) r4) scTwo.nd) s2
    exact s_cons (s_asg (d := .tuple [roomD (n : Int) A, roomD (n : Int) B, .int (l : Int)]) (e_tup (ea_cons (e_callS 0 k_law_room (ea_cons (e_var 1) ea_nil) r1) (ea_cons (e_callS 0 k_law_room (ea_cons (e_var 1) ea_nil) r2) (ea_cons (e_callS 0 k_law_pick (ea_cons (e_bin e_int (e_var 1) ov_sub) ea_nil) r3) ea_nil)))) (g_tup rfl (gs_cons (g_name 5 scTwo.nd) (gs_cons (g_name 6 scTwo.nd) (gs_cons (g_name 7 scTwo.nd) gs_nil))))) s1
end
end K03
end part_K03zf
section part_K03zg
namespace K03
open L2 PyProof.Rows PySem.Spec PySem DL DLr Num
abbrev sMade : Stmt := top 51
section
variable {P : Program} {w : World} {K : PySem.W.Frag} {mg : Str → Option Value} {base : Heap}
/-! #### _law_made_right -/
abbrev nMade : List Str := ["source", "n", "t", "order", "kept", "told", "due", "lap", "room", "p", "x", "there", "some", "wide", "back", "one", "other", "a", "b", "k"]
theorem scMade : FnScope nMade ["source", "n"] (defScope sMade) := ⟨rfl, rfl, rfl, by decide +kernel, rfl, by decide +kernel, by decide +kernel⟩
abbrev cMade (P : Program) (w : World) (K : PySem.W.Frag) (mg : Str → Option Value) (base : Heap) (a : CxA) : Cx := cx P w K mg base nMade "_law_made_right" sMade a
abbrev ordD (o : List Nat) : PyData := .tuple (o.map fun k : Nat => PyData.int (k : Int))
def posF (x : Fr) : Fr := if x.1 = 0 then (1, 3) else (if x.1 < 0 then -x.1 else x.1, x.2)
theorem posF_pos {x : Fr} (h : Fo 62 x) : Fo 62 (posF x) ∧ 0 < (posF x).1 := by
  unfold posF
  by_cases z : x.1 = 0
  · rw [if_pos z]
    exact ⟨⟨by decide, Sz.mono (n := 3) (sz_lt (show (1 : Int).natAbs < 2 ^ 3 by decide)) (by decide), Sz.mono (n := 3) (sz_lt (show (3 : Int).natAbs < 2 ^ 3 by decide)) (by decide)⟩, by decide⟩
  · rw [if_neg z]
    refine ⟨⟨h.pos, ?_, h.s2⟩, ?_⟩
    · show Sz 62 (if x.1 < 0 then -x.1 else x.1)
      by_cases q : x.1 < 0
      · rw [if_pos q]; exact h.s1.neg
      · rw [if_neg q]; exact h.s1
    · show 0 < (if x.1 < 0 then -x.1 else x.1)
      by_cases q : x.1 < 0
      · rw [if_pos q]; omega
      · rw [if_neg q]; omega
theorem sm_fr {n : Nat} {x : Fr} (h : Fo n x) (hn : n ≤ 12801) : Sm 3 2 (frD x) := sm_pairT (k := 1) (sm_int (h.s1.mono hn)) (sm_int (h.s2.mono hn))
theorem sm_pt {n : Nat} {xs : List Fr} (h : ∀ x ∈ xs, Fo n x) (hn : n ≤ 12801) (hl : xs.length ≤ 7) : Sm 22 3 (ptD xs) := by
  have h1 : ∀ d ∈ xs.map frD, Sm 3 2 d := fun d hd => by
    obtain ⟨x, hx, rfl⟩ := List.mem_map.mp hd
    exact sm_fr (h x hx) hn
  have h2 := sm_tup h1
  rw [List.length_map] at h2
  exact h2.mono (by omega) (by decide)
theorem sm_ord {o : List Nat} (h : ∀ k ∈ o, k ≤ 1000) (hl : o.length ≤ 7) : Sm 8 2 (ordD o) := by
  have h1 : ∀ d ∈ o.map (fun k : Nat => PyData.int (k : Int)), Sm 1 1 d := fun d hd => by
    obtain ⟨k, hk, rfl⟩ := List.mem_map.mp hd
    exact sm_int (sm_nat (h k hk))
  have h2 := sm_tup h1
  rw [List.length_map] at h2
  exact h2.mono (by omega) (by decide)
abbrev mdB (i : Nat) : Stmt := (lpB (bodyAt sMade 9)).getD i (.Pass ⟨0, 0, 0, 0⟩)
abbrev mdE1 : Expr := pt 0 (exprOf (mdB 2))
abbrev mdE2 : Expr := pt 0 (pt 0 (exprOf (mdB 3)))
abbrev mdE3 : Expr := pt 0 (pt 1 (exprOf (mdB 3)))
abbrev mdE4 : Expr := pt 0 (pt 1 (pt 0 (exprOf (mdB 5))))
theorem blkMd1 : blkC nMade (defScope sMade) (cmS mdE1) [("one", 15), ("other", 16)] = true := by decide +kernel
theorem blkMd2 : blkC nMade (defScope sMade) (cmS mdE2) [("one", 15)] = true := by decide +kernel
theorem blkMd3 : blkC nMade (defScope sMade) (cmS mdE3) [("one", 15)] = true := by decide +kernel
theorem blkMd4 : blkC nMade (defScope sMade) (cmS mdE4) [("k", 19)] = true := by decide +kernel
/-- what the law holds when the points are drawn -/
structure Mk (n : Nat) (A : List Row) (p : List Fr) (t : Fr) (o : List Nat) : Prop where
  hn : n ≤ 6
  hA : ∀ r ∈ A, Rn n r
  lA : A.length ≤ 12
  hp : Sp p
  lp : p.length = n
  ht : Fo 62 t
  t0 : 0 < t.1
  ho : o.Perm (List.range n)
theorem Mk.olen {n : Nat} {A : List Row} {p : List Fr} {t : Fr} {o : List Nat} (m : Mk n A p t o) : o.length = n := by rw [m.ho.length_eq, List.length_range]
theorem Mk.olt {n : Nat} {A : List Row} {p : List Fr} {t : Fr} {o : List Nat} (m : Mk n A p t o) : ∀ k ∈ o, k < n := fun k hk => List.mem_range.mp (m.ho.mem_iff.mp hk)
abbrev toldL (n : Nat) (A : List Row) (p : List Fr) (t : Fr) (o : List Nat) : List PyData := [roomD (n : Int) (A.map (shR p)), roomD (n : Int) (A.map (scR t)), roomD (n : Int) ((A.map negR).map plR), roomD (n : Int) ((A.map (takeR o)).map plR), roomD (n : Int) []]
theorem shR_ro {r : Row} {n : Nat} {p : List Fr} (h : Rn n r) (hp : Pt p) : Ro 3720 (shR p r) ∧ (shR p r).1.length ≤ 7 := rowOfF_ro (ones_pt h.1.ro (by decide) h.1.len) (sh_fo h.1 hp).2
theorem scR_ro {r : Row} {n : Nat} {t : Fr} (h : Rn n r) (ht : Fo 62 t) : Ro 3720 (scR t r) ∧ (scR t r).1.length ≤ 7 := rowOfF_ro (ones_pt h.1.ro (by decide) h.1.len) ((mul_fo (int_fo h.1.ro.b (by decide)) ht).mono (by decide))
theorem mirR_ro {r : Row} {n : Nat} (h : Rn n r) : Ro 130 (plR (negR r)) ∧ (plR (negR r)).1.length ≤ 7 := ⟨(negR_ro h.1.ro).plain (by decide), by rw [plain_len]; show (r.1.map _).length ≤ 7; rw [List.length_map]; exact h.1.len⟩
theorem plcR_ro {r : Row} {n : Nat} {o : List Nat} (h : Rn n r) (hn : n ≤ 6) (ho : ∀ k ∈ o, k < n) (hl : o.length = n) : Ro 130 (plR (takeR o r)) ∧ (plR (takeR o r)).1.length ≤ 7 := ⟨(takeR_ro h.1.ro h.2 ho (by omega)).plain (by decide), by rw [plain_len]; show (o.map _).length ≤ 7; rw [List.length_map]; omega⟩
theorem told_sm {n : Nat} {A : List Row} {p : List Fr} {t : Fr} {o : List Nat} (m : Mk n A p t o) : Shows (.list (toldL n A p t o)) := by
  have hn := m.hn
  have sn := sm_nat (n := n) (by omega)
  have one : ∀ (f : Row → Row) (k : Nat), k ≤ 12801 → (∀ r ∈ A, Ro k (f r) ∧ (f r).1.length ≤ 7) → Sm 123 5 (roomD (n : Int) (A.map f)) := fun f k hk h => by
    refine (sm_roomN (n := k) (m := 7) (k := 12) sn (fun r hr => ?_) hk (by rw [List.length_map]; exact m.lA)).mono (by decide) (by decide)
    obtain ⟨q, hq, rfl⟩ := List.mem_map.mp hr
    exact h q hq
  have e1 : (A.map negR).map plR = A.map fun r => plR (negR r) := by rw [List.map_map]; rfl
  have e2 : (A.map (takeR o)).map plR = A.map fun r => plR (takeR o r) := by rw [List.map_map]; rfl
  refine (sm_list (n := 123) (k := 5) fun d hd => ?_).shows (by show 123 * 5 + 1 ≤ 1200; decide) (by decide)
  simp only [List.mem_cons, List.not_mem_nil, or_false] at hd
  rcases hd with rfl | rfl | rfl | rfl | rfl
  · exact one _ 3720 (by decide) fun r hr => shR_ro (m.hA r hr) m.hp.pt
  · exact one _ 3720 (by decide) fun r hr => scR_ro (m.hA r hr) m.ht
  · rw [e1]
    exact one _ 130 (by decide) fun r hr => mirR_ro (m.hA r hr)
  · rw [e2]
    exact one _ 130 (by decide) fun r hr => plcR_ro (m.hA r hr) hn m.olt m.olen
  · exact (sm_roomN (rows := []) (n := 1) (m := 7) (k := 12) sn (fun r hr => nomatch hr) (by decide) (by decide)).mono (by decide) (by decide)
theorem rp_of {rows : List Row} {xs : List Fr} (h : ∀ r ∈ rows, Ro 3720 r ∧ r.1.length ≤ 7) (hl : rows.length ≤ 12) (hx : Pt xs) : Rp rows xs := ⟨fun r hr => (h r hr).1.mono (by decide), by omega, hx⟩
theorem map_ro {A : List Row} {f : Row → Row} {k : Nat} (hk : k ≤ 3720) (h : ∀ r ∈ A, Ro k (f r) ∧ (f r).1.length ≤ 7) : ∀ r ∈ A.map f, Ro 3720 r ∧ r.1.length ≤ 7 := fun r hr => by
  obtain ⟨q, hq, rfl⟩ := List.mem_map.mp hr
  exact ⟨(h q hq).1.mono hk, (h q hq).2⟩
theorem bools_sm {ds : List PyData} (h : ∀ d ∈ ds, ∃ b, d = .bool b) (hl : ds.length ≤ 100) : Shows (.list ds) := by
  refine (sm_list (n := 1) (k := 1) fun d hd => ?_).shows (by omega) (by decide)
  obtain ⟨b, rfl⟩ := h d hd
  exact sm_bool b
section
variable {n : Nat} {A : List Row} {p : List Fr} {t : Fr} {o : List Nat} {x : List Fr}
theorem add_pt (m : Mk n A p t o) (hx : Sp x) (lx : x.length = n) : Pt (ptAdd x p) := ⟨fun z hz => by
  obtain ⟨q, hq, rfl⟩ := List.mem_map.mp hz
  exact addF_fo (hx.fo _ (List.of_mem_zip hq).1) (m.hp.fo _ (List.of_mem_zip hq).2) (by decide), by
  have := hx.len
  unfold ptAdd
  rw [List.length_map, List.length_zip]
  omega⟩
theorem mul_pt (m : Mk n A p t o) (hx : Sp x) : Pt (ptMul t x) := ⟨fun z hz => by
  obtain ⟨q, hq, rfl⟩ := List.mem_map.mp hz
  exact (mul_fo m.ht (hx.fo _ hq)).mono (by decide), by unfold ptMul; rw [List.length_map]; exact hx.len⟩
theorem neg_pt (hx : Sp x) : Pt (ptNeg x) := ⟨fun z hz => by
  obtain ⟨q, hq, rfl⟩ := List.mem_map.mp hz
  have h := hx.fo _ hq
  exact ⟨h.pos, by show Sz 130 (0 - q.1); rw [Int.zero_sub]; exact h.s1.neg.mono (by decide), h.s2.mono (by decide)⟩, by unfold ptNeg; rw [List.length_map]; exact hx.len⟩
theorem take_pt (m : Mk n A p t o) (hx : Sp x) (lx : x.length = n) : Pt (ptTake o x) := ⟨fun z hz => by
  obtain ⟨k, hk, rfl⟩ := List.mem_map.mp hz
  have := m.olt k hk
  rw [List.getD_eq_getElem?_getD, List.getElem?_eq_getElem (by omega)]
  exact hx.pt.fo _ (List.getElem_mem _), by unfold ptTake; rw [List.length_map, m.olen]; have := m.hn; omega⟩
/-- the five rooms have the moved points just where the room has the point -/
theorem ins (m : Mk n A p t o) (hx : Sp x) (lx : x.length = n) :
    (firstF ((A.map (shR p)).map (sgn (ptAdd x p))) 0).isNone = inF x A ∧ (firstF ((A.map (scR t)).map (sgn (ptMul t x))) 0).isNone = inF x A ∧ (firstF (((A.map negR).map plR).map (sgn (ptNeg x))) 0).isNone = inF x A ∧
    (firstF (((A.map (takeR o)).map plR).map (sgn (ptTake o x))) 0).isNone = inF x A ∧ (firstF (A.map (sgn x)) 0).isNone = inF x A := by
  have px : ∀ z ∈ x, 0 < z.2 := fun z hz => (hx.fo z hz).pos
  have pp : ∀ z ∈ p, 0 < z.2 := fun z hz => (m.hp.fo z hz).pos
  have e1 : (A.map negR).map plR = A.map fun r => plR (negR r) := by rw [List.map_map]; rfl
  have e2 : (A.map (takeR o)).map plR = A.map fun r => plR (takeR o r) := by rw [List.map_map]; rfl
  refine ⟨in_moved px fun r _ => shift_sign px pp (by rw [lx, m.lp]), in_moved px fun r _ => scale_sign m.ht.pos m.t0 px, ?_, ?_, ?_⟩
  · rw [e1]
    exact in_moved px fun r _ => mirror_sign px
  · rw [e2]
    exact in_moved px fun r hr => place_sign px (by rw [(m.hA r hr).2, lx]) (by rw [lx]; exact m.ho)
  · rw [isin_eq, in_eq px]
end
abbrev mdSt (s l : Addr) (n : Nat) (A : List Row) (p : List Fr) (t : Fr) (o : List Nat) (z : Str) (τ : Src) : List Sl := [.src s l τ, .dat (.int (n : Int)), .dat (frD t), .dat (ordD o), .dat (.str z), .dat (.list (toldL n A p t o)), .un, .un, .dat (roomD (n : Int) A), .dat (ptD p), .un, .un, .un, .un, .un, .un, .un, .un, .un, .un]
theorem made_turn (g : Gd K mg) (L : Lib P w K mg base) {n : Nat} {A : List Row} {p : List Fr} {t : Fr} {o : List Nat} (m : Mk n A p t o) {x : List Fr} (hx : Sp x) (lx : x.length = n) (z : Str) {R3 : Src → List PyData → Src → PyData → Prop} {τ τ' : Src} (r : R3 τ [.int (n : Int)] τ' (ptD x))
    (dR3 : Def P w K mg base "_law_point" 4 ["source", "n"] (spS K R3)) (c : CxA) (hr : Rm 4 (cMade P w K mg base c).A) (s l : Addr) (lap : PyData) :
    S (cMade P w K mg base c) (lpB (bodyAt sMade 9)) ((mdSt s l n A p t o z τ).set 7 (.dat lap)) (.nx (mdSt s l n A p t o z τ')) := by
  have hr9 := r100 hr
  have hd := g.dig
  have hn := m.hn
  have m_repr := g.repr
  have m_tuple := g.tuple
  have m_zip := g.zip
  have k_law_point := dR3.known hr
  have k_is_in := L.isIn.known hr
  have k_law_is_in := L.lisIn.known hr
  have k_law_plus := L.lplus.known hr
  have k_law_times := L.ltimes.known hr
  obtain ⟨i1, i2, i3, i4, i5⟩ := ins m hx lx
  let X := cMade P w K mg base c
  let b := inF x A
  have e1 : (A.map negR).map plR = A.map fun r => plR (negR r) := by rw [List.map_map]; rfl
  have e2 : (A.map (takeR o)).map plR = A.map fun r => plR (takeR o r) := by rw [List.map_map]; rfl
  have lA := m.lA
  have q1 : Rp (A.map (shR p)) (ptAdd x p) := rp_of (map_ro (k := 3720) (by decide) fun r hr => shR_ro (m.hA r hr) m.hp.pt) (by rw [List.length_map]; exact lA) (add_pt m hx lx)
  have q2 : Rp (A.map (scR t)) (ptMul t x) := rp_of (map_ro (k := 3720) (by decide) fun r hr => scR_ro (m.hA r hr) m.ht) (by rw [List.length_map]; exact lA) (mul_pt m hx)
  have q3 : Rp ((A.map negR).map plR) (ptNeg x) := by
    rw [e1]
    exact rp_of (map_ro (k := 130) (by decide) fun r hr => mirR_ro (m.hA r hr)) (by rw [List.length_map]; exact lA) (neg_pt hx)
  have q4 : Rp ((A.map (takeR o)).map plR) (ptTake o x) := by
    rw [e2]
    exact rp_of (map_ro (k := 130) (by decide) fun r hr => plcR_ro (m.hA r hr) hn m.olt m.olen) (by rw [List.length_map]; exact lA) (take_pt m hx lx)
  have q5 : Rp A x := ⟨fun r hr => (m.hA r hr).1.ro.mono (by decide), by omega, hx.pt⟩
  have q6 : Rp [] x := ⟨fun r hr => (nomatch hr), by decide, hx.pt⟩
  have sb : Shows (.list [.bool b, .bool b, .bool b, .bool b, .bool true, .bool b]) := bools_sm (fun d hd => by
    simp only [List.mem_cons, List.not_mem_nil, or_false] at hd
    rcases hd with rfl | rfl | rfl | rfl | rfl | rfl <;> exact ⟨_, rfl⟩) (Nat.le_of_ble_eq_true rfl)
  have s6 : S X ((lpB (bodyAt sMade 9)).drop 6) [.src s l τ', .dat (.int (n : Int)), .dat (frD t), .dat (ordD o), .dat (.str z), .dat (.list (toldL n A p t o)), .dat (.bool b), .dat lap, .dat (roomD (n : Int) A), .dat (ptD p), .dat (ptD x), .dat (ptD (ptAdd x p)), .own [.bool b, .bool b, .bool b, .bool b], .dat (ptD (ptMul t x)), .dat (ptD (ptNeg x)), .un, .un, .un, .un, .un] (.nx (mdSt s l n A p t o z τ')) :=
    s_cons (s1_if (p := false) (T.to (t_cmp
      (e_callB (ea_cons (E.to (d := .list [.bool b, .bool b, .bool b, .bool b, .bool true, .bool b]) (e_O (eo_bin (e_varO 12) (e_O (eo_lst (ea_cons (E.to (d := .bool true) (e_call k_is_in (ea_cons (e_ixl (e_var 5)) (ea_cons (e_var 10) ea_nil)) ⟨(n : Int), [], x, rfl, q6, rfl⟩) rfl) (ea_cons (E.to (d := .bool b) (e_call k_is_in (ea_cons (e_var 8) (ea_cons (e_var 10) ea_nil)) ⟨(n : Int), A, x, rfl, q5, rfl⟩) (congrArg PyData.bool i5)) ea_nil)))) (oo_cat (Nat.le_of_ble_eq_true rfl)))) rfl) ea_nil) (cv_repr hd hr9 hr.2 sb) m_repr)
      (e_callB (ea_cons (E.to (d := .list [.bool b, .bool b, .bool b, .bool b, .bool true, .bool b]) (e_O (eo_bin (e_O (eo_bin (e_O (eo_lst (ea_cons (e_var 6) ea_nil))) e_int (oo_rep (n := 4) (by decide) (Nat.le_of_ble_eq_true rfl)))) (e_O (eo_lst (ea_cons e_bl (ea_cons (e_var 6) ea_nil)))) (oo_cat (Nat.le_of_ble_eq_true rfl)))) rfl) ea_nil) (cv_repr hd hr9 hr.2 sb) m_repr) ov_neS) (by rw [decide_eq_true rfl]; rfl)) (fun h => Bool.noConfusion h) (fun h => s_nil'))
      (s_nil (le_cons (le_cons (le_cons (le_cons (le_cons (le_cons (le_un (le_un (le_cons (le_cons (le_un (le_un (le_un (le_un (le_un (le_un (le_un (le_un (le_un (le_un le_nil)))))))))))))))))))))
  have c5 : E X (pt 0 (exprOf (mdB 5))) [.src s l τ', .dat (.int (n : Int)), .dat (frD t), .dat (ordD o), .dat (.str z), .dat (.list (toldL n A p t o)), .dat (.bool b), .dat lap, .dat (roomD (n : Int) A), .dat (ptD p), .dat (ptD x), .dat (ptD (ptAdd x p)), .own [.bool b, .bool b, .bool b], .dat (ptD (ptMul t x)), .dat (ptD (ptNeg x)), .un, .un, .un, .un, .un] (.bool b)
      [.src s l τ', .dat (.int (n : Int)), .dat (frD t), .dat (ordD o), .dat (.str z), .dat (.list (toldL n A p t o)), .dat (.bool b), .dat lap, .dat (roomD (n : Int) A), .dat (ptD p), .dat (ptD x), .dat (ptD (ptAdd x p)), .own [.bool b, .bool b, .bool b], .dat (ptD (ptMul t x)), .dat (ptD (ptNeg x)), .un, .un, .un, .un, .un] :=
    E.to (e_call k_is_in (ea_cons (e_ixl (e_var 5)) (ea_cons (E.to (d := ptD (ptTake o x)) (e_callTy (ea_cons (e_O (eo_lc (own := [("k", 19)]) (i_tup (e_var 3)) (cl_map (f := fun k : Nat => PyData.int (k : Int)) (r := fun k : Nat => frD (x.getD k (0, 1))) (js := [19]) (fun _ z => z) o (fun _ _ _ _ _ _ _ => g_name 19 scMade.nd) (fun k hk _ _ _ _ _ => e_ix (e_var 10) (e_var 19) (ixv_tup (atI_nat (by
      have := m.olt k hk
      rw [List.getElem?_map, List.getD_eq_getElem?_getD, List.getElem?_eq_getElem (by omega)]
      rfl)))) (fun _ _ => Le.refl _)) (by rw [List.length_map, m.olen]; omega) scMade.nd (blkOk_by blkMd4))) ea_nil) cv_tupL m_tuple) (by
      show _ = PyData.tuple (List.map frD (List.map _ o))
      rw [List.map_map]
      rfl)) ea_nil)) ⟨(n : Int), (A.map (takeR o)).map plR, ptTake o x, rfl, q4, rfl⟩) (congrArg PyData.bool i4)
  have s5 : S X ((lpB (bodyAt sMade 9)).drop 5) [.src s l τ', .dat (.int (n : Int)), .dat (frD t), .dat (ordD o), .dat (.str z), .dat (.list (toldL n A p t o)), .dat (.bool b), .dat lap, .dat (roomD (n : Int) A), .dat (ptD p), .dat (ptD x), .dat (ptD (ptAdd x p)), .own [.bool b, .bool b, .bool b], .dat (ptD (ptMul t x)), .dat (ptD (ptNeg x)), .un, .un, .un, .un, .un] (.nx (mdSt s l n A p t o z τ')) :=
    s_cons (s_append 12 c5 rfl rfl (by show 3 < 1000000; decide)) s6
  have s4 : S X ((lpB (bodyAt sMade 9)).drop 4) [.src s l τ', .dat (.int (n : Int)), .dat (frD t), .dat (ordD o), .dat (.str z), .dat (.list (toldL n A p t o)), .dat (.bool b), .dat lap, .dat (roomD (n : Int) A), .dat (ptD p), .dat (ptD x), .dat (ptD (ptAdd x p)), .un, .dat (ptD (ptMul t x)), .dat (ptD (ptNeg x)), .un, .un, .un, .un, .un] (.nx (mdSt s l n A p t o z τ')) :=
    s_cons (s_setO 12 (eo_lst (ea_cons (E.to (d := .bool b) (e_call k_is_in (ea_cons (e_ixl (e_var 5)) (ea_cons (e_var 11) ea_nil)) ⟨(n : Int), A.map (shR p), ptAdd x p, rfl, q1, rfl⟩) (congrArg PyData.bool i1)) (ea_cons (E.to (d := .bool b) (e_call k_is_in (ea_cons (e_ixl (e_var 5)) (ea_cons (e_var 13) ea_nil)) ⟨(n : Int), A.map (scR t), ptMul t x, rfl, q2, rfl⟩) (congrArg PyData.bool i2)) (ea_cons (E.to (d := .bool b) (e_call k_is_in (ea_cons (e_ixl (e_var 5)) (ea_cons (e_var 14) ea_nil)) ⟨(n : Int), (A.map negR).map plR, ptNeg x, rfl, q3, rfl⟩) (congrArg PyData.bool i3)) ea_nil)))) scMade.nd) s5
  have lx7 := hx.len
  have s3 : S X ((lpB (bodyAt sMade 9)).drop 3) [.src s l τ', .dat (.int (n : Int)), .dat (frD t), .dat (ordD o), .dat (.str z), .dat (.list (toldL n A p t o)), .dat (.bool b), .dat lap, .dat (roomD (n : Int) A), .dat (ptD p), .dat (ptD x), .dat (ptD (ptAdd x p)), .un, .un, .un, .un, .un, .un, .un, .un] (.nx (mdSt s l n A p t o z τ')) :=
    s_cons (s_par 13 14 (d1 := ptD (ptMul t x)) (d2 := ptD (ptNeg x)) (ea_cons (E.to (e_callTy (ea_cons (e_O (eo_lc (own := [("one", 15)]) (i_tup (e_var 10)) (cl_map (f := frD) (r := fun y : Fr => frD (mulF t y)) (js := [15]) (fun _ z => z) x (fun _ _ _ _ _ _ _ => g_name 15 scMade.nd) (fun y hy _ _ _ _ _ => e_call k_law_times (ea_cons (e_var 2) (ea_cons (e_var 15) ea_nil)) ⟨t.1, t.2, y.1, y.2, rfl, f2_of m.ht (hx.fo y hy) (by decide) (by decide), rfl⟩) (fun _ _ => Le.refl _)) (by rw [List.length_map]; omega) scMade.nd (blkOk_by blkMd2))) ea_nil) cv_tupL m_tuple) (by
      show _ = PyData.tuple (List.map frD (List.map _ x))
      rw [List.map_map]
      rfl))
      (ea_cons (E.to (e_callTy (ea_cons (e_O (eo_lc (own := [("one", 15)]) (i_tup (e_var 10)) (cl_map (f := frD) (r := fun y : Fr => frD (0 - y.1, y.2)) (js := [15]) (fun _ z => z) x (fun _ _ _ _ _ _ _ => g_name 15 scMade.nd) (fun y hy _ _ _ _ _ => e_tup (ea_cons (e_bin e_int (e_ixt (e_var 15)) ov_sub) (ea_cons (e_ixt (e_var 15)) ea_nil))) (fun _ _ => Le.refl _)) (by rw [List.length_map]; omega) scMade.nd (blkOk_by blkMd3))) ea_nil) cv_tupL m_tuple) (by
      show _ = PyData.tuple (List.map frD (List.map _ x))
      rw [List.map_map]
      rfl)) ea_nil)) rfl scMade.nd) s4
  have s2 : S X ((lpB (bodyAt sMade 9)).drop 2) [.src s l τ', .dat (.int (n : Int)), .dat (frD t), .dat (ordD o), .dat (.str z), .dat (.list (toldL n A p t o)), .dat (.bool b), .dat lap, .dat (roomD (n : Int) A), .dat (ptD p), .dat (ptD x), .un, .un, .un, .un, .un, .un, .un, .un, .un] (.nx (mdSt s l n A p t o z τ')) := by
    have cl : CL X (cmS mdE1) (cmT mdE1) (cmI mdE1) (cmE mdE1) [15, 16] (zipD (x.map frD) (p.map frD)) [.src s l τ', .dat (.int (n : Int)), .dat (frD t), .dat (ordD o), .dat (.str z), .dat (.list (toldL n A p t o)), .dat (.bool b), .dat lap, .dat (roomD (n : Int) A), .dat (ptD p), .dat (ptD x), .un, .un, .un, .un, .un, .un, .un, .un, .un] ((ptAdd x p).map frD)
        [.src s l τ', .dat (.int (n : Int)), .dat (frD t), .dat (ordD o), .dat (.str z), .dat (.list (toldL n A p t o)), .dat (.bool b), .dat lap, .dat (roomD (n : Int) A), .dat (ptD p), .dat (ptD x), .un, .un, .un, .un, .un, .un, .un, .un, .un] := by
      unfold ptAdd
      rw [zip_ff, List.map_map]
      exact cl_map (f := ffD) (r := fun y : Fr × Fr => frD (addF y.1 y.2)) (js := [15, 16]) (fun _ z => z) (x.zip p) (fun _ _ _ _ _ _ _ => g_tup rfl (gs_cons (g_name 15 scMade.nd) (gs_cons (g_name 16 scMade.nd) gs_nil))) (fun y hy _ _ _ _ _ => e_call k_law_plus (ea_cons (e_var 15) (ea_cons (e_var 16) ea_nil)) ⟨y.1.1, y.1.2, y.2.1, y.2.2, rfl, f2_of (hx.fo _ (List.of_mem_zip hy).1) (m.hp.fo _ (List.of_mem_zip hy).2) (by decide) (by decide), rfl⟩) (fun _ _ => Le.refl _)
    exact s_cons (s_set 11 (e_callTy (ea_cons (e_O (eo_lc (own := [("one", 15), ("other", 16)]) (i_zip (k := true) (j := true) (ea_cons (e_var 10) (ea_cons (e_var 9) ea_nil)) m_zip) cl (by rw [zip_ff, List.length_map, List.length_zip]; omega) scMade.nd (blkOk_by blkMd1))) ea_nil) cv_tupL m_tuple) scMade.nd) s3
  have s1 : S X ((lpB (bodyAt sMade 9)).drop 1) [.src s l τ', .dat (.int (n : Int)), .dat (frD t), .dat (ordD o), .dat (.str z), .dat (.list (toldL n A p t o)), .un, .dat lap, .dat (roomD (n : Int) A), .dat (ptD p), .dat (ptD x), .un, .un, .un, .un, .un, .un, .un, .un, .un] (.nx (mdSt s l n A p t o z τ')) :=
    s_cons (s_set 6 (e_call k_law_is_in (ea_cons (e_var 8) (ea_cons (e_var 10) ea_nil)) ⟨(n : Int), A, x, rfl, (fun r h => (m.hA r h).1.ro.mono (by decide)), by omega, hx.pt, rfl⟩) scMade.nd) s2
  exact s_cons (s_set 10 (e_callS 0 k_law_point (ea_cons (e_var 1) ea_nil) r) scMade.nd) s1
end
end K03
end part_K03zg
section part_K03zh
namespace K03
open L2 PyProof.Rows PySem.Spec PySem DL DLr Num
section
variable {P : Program} {w : World} {K : PySem.W.Frag} {mg : Str → Option Value} {base : Heap}
theorem made_loop (g : Gd K mg) (L : Lib P w K mg base) {n : Nat} {A : List Row} {p : List Fr} {t : Fr} {o : List Nat} (m : Mk n A p t o) (z : Str) : ∀ (ys : List PyData) (τ : Src), Ok τ → ∃ τ', Ok τ' ∧ ∀ (c : CxA), Rm 4 (cMade P w K mg base c).A → ∀ s l,
    Loop (cMade P w K mg base c) (forT (bodyAt sMade 9)) (lpB (bodyAt sMade 9)) ys (mdSt s l n A p t o z τ) (.nx (mdSt s l n A p t o z τ'))
  | [], τ, h => ⟨τ, h, fun c hr s l => .nil⟩
  | y :: ys, τ, h => by
    obtain ⟨R3, dR3, hR3⟩ := L.point
    obtain ⟨τ1, x, r, h1, lx, hx, _⟩ := point_ex hR3 (show n ≤ 7 by have := m.hn; omega) h
    obtain ⟨τ', h2, hl⟩ := made_loop g L m z ys τ1 h1
    exact ⟨τ', h2, fun c hr s l => .nx (g_name 7 scMade.nd) (made_turn g L m hx lx z r dR3 c hr s l y) (hl c hr s l)⟩
abbrev mdE5 : Expr := pt 0 (pt 1 (pt 0 (exprOf (bodyAt sMade 6))))
abbrev mdE6 : Expr := pt 0 (pt 0 (pt 0 (cmE mdE5)))
theorem blkMd5 : blkC nMade (defScope sMade) (cmS mdE5) [("a", 17), ("b", 18)] = true := by decide +kernel
theorem blkMd6 : blkC nMade (cmS mdE5) (cmS mdE6) [("one", 15)] = true := by decide +kernel
theorem ok_made (hp : DL.Put K mg "_law_made_right" sMade) (g : Gd K mg) (L : Lib P w K mg base) : Draws P w K mg base "_law_made_right" 5 ["source", "n"] preSix postRight := by
  obtain ⟨R2, dR2, hR2⟩ := L.room
  obtain ⟨R3, dR3, hR3⟩ := L.point
  obtain ⟨R4, dR4, hR4⟩ := L.mixed
  obtain ⟨R5, dR5, hR5⟩ := L.fra
  refine def_Sx hp scMade (fun _ _ _ _ _ _ us hl => match us, hl with | [_, _], _ => rfl) (by decide) (fun t ds h => ?_) (fun t ds h => ?_)
  · obtain ⟨_, n, rfl, _⟩ := h
    rfl
  · obtain ⟨ht, n, rfl, hn⟩ := h
    obtain ⟨t1, A, r1, ht1, lA, hA⟩ := room_ex hR2 (show n ≤ 7 by omega) ht
    obtain ⟨t2, p, r2, ht2, lp, hpp, _⟩ := point_ex hR3 (show n ≤ 7 by omega) ht1
    obtain ⟨t3, d3, r3, ht3, x0, rfl, hx0, _⟩ := fraR_ex hR5 t2 ht2
    obtain ⟨t4, d4, r4, ht4, es, rs, ees, rfl, hperm⟩ := hR4 t3 [.list (rangeD 0 ((n : Int)).toNat)] ⟨ht3, _, rfl, by rw [rangeD_len]; omega⟩
    cases ees
    have hperm' : rs.Perm ((List.range n).map fun i : Nat => PyData.int (i : Int)) := by
      unfold rangeD at hperm
      rw [Int.toNat_natCast] at hperm
      have e : (fun i : Nat => PyData.int (0 + (i : Int))) = fun i : Nat => PyData.int (i : Int) := funext fun i => by rw [Int.zero_add]
      rw [e] at hperm
      exact hperm
    obtain ⟨o, ho, rfl⟩ := perm_map (g := fun d => match d with | .int i => i.toNat | _ => 0) (fun i => Int.toNat_natCast i) hperm'
    obtain ⟨q1, q2⟩ := posF_pos hx0
    have m : Mk n A p (posF x0) o := ⟨hn, hA, lA, hpp, lp, q1, q2, ho⟩
    have okept : ∀ k ∈ o, k ≤ 1000 := fun k hk => by have := m.olt k hk; omega
    have sk : Shows (.list [roomD (n : Int) A, ptD p, ordD o]) := (sm_list (n := 123) (k := 5) fun d hd => by
      simp only [List.mem_cons, List.not_mem_nil, or_false] at hd
      rcases hd with rfl | rfl | rfl
      · exact sm_roomN (n := 130) (m := 7) (k := 12) (sm_nat (by omega)) (fun r hr => ⟨(hA r hr).1.ro, (hA r hr).1.len⟩) (by decide) lA
      · exact (sm_pt hpp.fo (by decide) hpp.len).mono (by decide) (by decide)
      · exact (sm_ord okept (by rw [m.olen]; omega)).mono (by decide) (by decide)).shows (by show 123 * 3 + 1 ≤ 1200; decide) (by decide)
    have st := told_sm m
    obtain ⟨t5, ht5, hl⟩ := made_loop g L m (PyData.shown (.list [roomD (n : Int) A, ptD p, ordD o])) (rangeD 0 2) t4 ht4
    refine ⟨t5, .bool true, ⟨ht5, rfl⟩, fun c hr s l => ?_⟩
    have hr9 := r100 hr
    have hd := g.dig
    have m_repr := g.repr
    have m_tuple := g.tuple
    have m_list := g.list
    have m_range := g.range
    have m_abs := g.abs
    have k_law_room := dR2.known hr
    have k_law_point := dR3.known hr
    have k_law_mixed := dR4.known hr
    have k_law_fraction := dR5.known hr
    have k_shifted := L.shifted.known hr
    have k_scaled := L.scaled.known hr
    have k_mirrored := L.mirrored.known hr
    have k_placed := L.placed.known hr
    have k_open_room := L.open_.known hr
    have k_law_shifted := L.lshifted.known hr
    have k_law_scaled := L.lscaled.known hr
    have k_law_placed := L.lplaced.known hr
    have k_law_plain := L.lplain.known hr
    let X := cMade P w K mg base c
    let z : Str := PyData.shown (.list [roomD (n : Int) A, ptD p, ordD o])
    let fin : Out := .rt (.bool true) (.src s l t5 :: List.replicate 19 .un)
    have h1 : ∀ r ∈ A, Rs r := fun r h => (hA r h).1
    have h8 : ∀ r ∈ A, Ro 8990 r := fun r h => (hA r h).1.ro.mono (by decide)
    have h9 : ∀ r ∈ A, Ro 8990 r ∧ r.1.length = n := fun r h => ⟨h8 r h, (hA r h).2⟩
    have lA3 : A.length ≤ 1000 := by omega
    have lo : o.length ≤ 15 := by rw [m.olen]; omega
    have s10 : S X ((defBody sMade).drop 10) (mdSt s l n A p (posF x0) o z t5) fin := s_stop (s_retS e_bl)
    have s9 : S X ((defBody sMade).drop 9) [.src s l t4, .dat (.int (n : Int)), .dat (frD (posF x0)), .dat (ordD o), .dat (.str z), .dat (.list (toldL n A p (posF x0) o)), .dat (.list (toldL n A p (posF x0) o)), .un, .dat (roomD (n : Int) A), .dat (ptD p), .un, .un, .un, .un, .un, .un, .un, .un, .un, .un] fin :=
      s_cons (s_for (i_range1 (ea_cons e_int ea_nil) m_range) (.pre (le_cons (le_cons (le_cons (le_cons (le_cons (le_cons (le_un (le_un (le_cons (le_cons (le_un (le_un (le_un (le_un (le_un (le_un (le_un (le_un (le_un (le_un le_nil)))))))))))))))))))) (hl c hr s l))) s10
    have s8 : S X ((defBody sMade).drop 8) [.src s l t4, .dat (.int (n : Int)), .dat (frD (posF x0)), .dat (ordD o), .dat (.str z), .dat (.list (toldL n A p (posF x0) o)), .own (toldL n A p (posF x0) o), .un, .dat (roomD (n : Int) A), .dat (ptD p), .un, .un, .un, .un, .un, .un, .un, .un, .un, .un] fin :=
      s_cons (s1_if (p := false) (t_w (tw_or (p := false) (q := false) (T.to (t_cmp (e_callB (ea_cons (e_var 5) ea_nil) (cv_repr hd hr9 hr.2 st) m_repr) (e_callB (ea_cons (e_varO 6) ea_nil) (cv_repr hd hr9 hr.2 st) m_repr) ov_neS) (by rw [decide_eq_true rfl]; rfl))
        (fun h => tw_or1 (T.to (t_cmp (e_callB (ea_cons (e_O (eo_lst (ea_cons (e_var 8) (ea_cons (e_var 9) (ea_cons (e_var 3) ea_nil))))) ea_nil) (cv_repr hd hr9 hr.2 sk) m_repr) (e_var 4) ov_neS) (by rw [decide_eq_true rfl]; rfl))) (fun h => Bool.noConfusion h))) (fun h => Bool.noConfusion h) (fun h => s_nil')) s9
    have s7 : S X ((defBody sMade).drop 7) [.src s l t4, .dat (.int (n : Int)), .dat (frD (posF x0)), .dat (ordD o), .dat (.str z), .dat (.list (toldL n A p (posF x0) o)), .own [roomD (n : Int) (A.map (shR p)), roomD (n : Int) (A.map (scR (posF x0))), roomD (n : Int) ((A.map negR).map plR)], .un, .dat (roomD (n : Int) A), .dat (ptD p), .un, .un, .un, .un, .un, .un, .un, .un, .un, .un] fin :=
      s_cons (s_setO 6 (eo_bin (e_varO (ds := [roomD (n : Int) (A.map (shR p)), roomD (n : Int) (A.map (scR (posF x0))), roomD (n : Int) ((A.map negR).map plR)]) 6) (e_O (eo_lst (ea_cons (e_call k_law_placed (ea_cons (e_var 8) (ea_cons (e_var 3) ea_nil)) ⟨(n : Int), n, A, o, rfl, h9, m.olt, lo, lA3, rfl⟩) (ea_cons (E.to (d := roomD (n : Int) []) (e_tup (ea_cons (e_var 1) (ea_cons (e_tup ea_nil) ea_nil))) rfl) ea_nil)))) (oo_cat (Nat.le_of_ble_eq_true rfl))) scMade.nd) s8
    have c6 : E X (pt 0 (exprOf (bodyAt sMade 6))) [.src s l t4, .dat (.int (n : Int)), .dat (frD (posF x0)), .dat (ordD o), .dat (.str z), .dat (.list (toldL n A p (posF x0) o)), .own [roomD (n : Int) (A.map (shR p)), roomD (n : Int) (A.map (scR (posF x0)))], .un, .dat (roomD (n : Int) A), .dat (ptD p), .un, .un, .un, .un, .un, .un, .un, .un, .un, .un] (roomD (n : Int) ((A.map negR).map plR))
        [.src s l t4, .dat (.int (n : Int)), .dat (frD (posF x0)), .dat (ordD o), .dat (.str z), .dat (.list (toldL n A p (posF x0) o)), .own [roomD (n : Int) (A.map (shR p)), roomD (n : Int) (A.map (scR (posF x0)))], .un, .dat (roomD (n : Int) A), .dat (ptD p), .un, .un, .un, .un, .un, .un, .un, .un, .un, .un] := by
      refine E.to (e_tup (ea_cons (e_var 1) (ea_cons (e_callTy (ea_cons (e_O (eo_lc (own := [("a", 17), ("b", 18)]) (i_tup (e_ixt (e_var 8))) (cl_map (f := rowD) (r := fun r : Row => rowD (plR (negR r))) (js := [17, 18]) (fun _ z => z) A (fun _ _ _ _ _ _ _ => g_tup rfl (gs_cons (g_name 17 scMade.nd) (gs_cons (g_name 18 scMade.nd) gs_nil)))
        (fun r hr' _ _ _ _ _ => e_call k_law_plain (ea_cons (E.to (d := rowD (negR r)) (e_tup (ea_cons (e_callTy (ea_cons (e_O (eo_lc (own := [("one", 15)]) (i_tup (e_var 17)) (cl_map (f := PyData.int) (r := fun y : Int => .int (0 - y)) (js := [15]) (fun _ z => z) r.1 (fun _ _ _ _ _ _ _ => g_name 15 scMade.nd) (fun _ _ _ _ _ _ _ => e_bin e_int (e_var 15) ov_sub) (fun _ _ => Le.refl _)) (by have := (hA r hr').1.len; rw [List.length_map]; omega) scMade.nd (blkOk_by blkMd6))) ea_nil) cv_tupL m_tuple) (ea_cons (e_var 18) ea_nil))) ?_) ea_nil) ⟨negR r, rfl, negR_ro (h8 r hr'), rfl⟩) (fun _ _ => Le.refl _)) (by rw [List.length_map]; omega) scMade.nd (blkOk_by blkMd5))) ea_nil) cv_tupL m_tuple) ea_nil))) ?_
      · show PyData.tuple [.tuple (List.map _ r.1), _] = PyData.tuple [.tuple (List.map PyData.int (List.map _ r.1)), _]
        rw [List.map_map]
        have e : (fun y : Int => PyData.int (0 - y)) = PyData.int ∘ fun y => -y := funext fun y => by show PyData.int (0 - y) = PyData.int (-y); rw [Int.zero_sub]
        rw [e]
        rfl
      · show PyData.tuple [_, .tuple (List.map _ A)] = PyData.tuple [_, .tuple (List.map rowD (List.map plR (List.map negR A)))]
        rw [List.map_map, List.map_map]
        rfl
    have s6 : S X ((defBody sMade).drop 6) [.src s l t4, .dat (.int (n : Int)), .dat (frD (posF x0)), .dat (ordD o), .dat (.str z), .dat (.list (toldL n A p (posF x0) o)), .own [roomD (n : Int) (A.map (shR p)), roomD (n : Int) (A.map (scR (posF x0)))], .un, .dat (roomD (n : Int) A), .dat (ptD p), .un, .un, .un, .un, .un, .un, .un, .un, .un, .un] fin :=
      s_cons (s_append 6 c6 rfl rfl (by show 2 < 1000000; decide)) s7
    have s5 : S X ((defBody sMade).drop 5) [.src s l t4, .dat (.int (n : Int)), .dat (frD (posF x0)), .dat (ordD o), .dat (.str z), .dat (.list (toldL n A p (posF x0) o)), .un, .un, .dat (roomD (n : Int) A), .dat (ptD p), .un, .un, .un, .un, .un, .un, .un, .un, .un, .un] fin :=
      s_cons (s_setO 6 (eo_lst (ea_cons (e_call k_law_shifted (ea_cons (e_var 8) (ea_cons (e_var 9) ea_nil)) ⟨(n : Int), A, p, rfl, h1, lA3, hpp.pt, rfl⟩) (ea_cons (e_call k_law_scaled (ea_cons (e_var 8) (ea_cons (e_var 2) ea_nil)) ⟨(n : Int), A, posF x0, rfl, h1, lA3, q1.mono (by decide), rfl⟩) ea_nil))) scMade.nd) s6
    have s4 : S X ((defBody sMade).drop 4) [.src s l t4, .dat (.int (n : Int)), .dat (frD (posF x0)), .dat (ordD o), .dat (.str z), .un, .un, .un, .dat (roomD (n : Int) A), .dat (ptD p), .un, .un, .un, .un, .un, .un, .un, .un, .un, .un] fin :=
      s_cons (s_set 5 (e_O (eo_lst (ea_cons (e_call k_shifted (ea_cons (e_var 8) (ea_cons (e_var 9) ea_nil)) ⟨(n : Int), A, p, rfl, h1, lA3, hpp.pt, rfl⟩) (ea_cons (e_call k_scaled (ea_cons (e_var 8) (ea_cons (e_var 2) ea_nil)) ⟨(n : Int), A, posF x0, rfl, h1, lA3, q1.mono (by decide), rfl⟩) (ea_cons (e_call k_mirrored (ea_cons (e_var 8) ea_nil) ⟨(n : Int), A, rfl, h8, lA3, rfl⟩) (ea_cons (e_call k_placed (ea_cons (e_var 8) (ea_cons (e_var 3) ea_nil)) ⟨(n : Int), n, A, o, rfl, h9, m.olt, lo, lA3, rfl⟩) (ea_cons (e_call k_open_room (ea_cons (e_var 1) ea_nil) ⟨(n : Int), rfl, rfl⟩) ea_nil))))))) scMade.nd) s5
    have s3 : S X ((defBody sMade).drop 3) [.src s l t4, .dat (.int (n : Int)), .dat (frD (posF x0)), .dat (ordD o), .un, .un, .un, .un, .dat (roomD (n : Int) A), .dat (ptD p), .un, .un, .un, .un, .un, .un, .un, .un, .un, .un] fin :=
      s_cons (s_set 4 (e_callB (ea_cons (e_O (eo_lst (ea_cons (e_var 8) (ea_cons (e_var 9) (ea_cons (e_var 3) ea_nil))))) ea_nil) (cv_repr hd hr9 hr.2 sk) m_repr) scMade.nd) s4
    have s2 : S X ((defBody sMade).drop 2) [.src s l t3, .dat (.int (n : Int)), .dat (frD (posF x0)), .un, .un, .un, .un, .un, .dat (roomD (n : Int) A), .dat (ptD p), .un, .un, .un, .un, .un, .un, .un, .un, .un, .un] fin :=
      s_cons (s_set 3 (e_callTy (ea_cons (e_callS 0 k_law_mixed (ea_cons (e_O (eo_listRg (e_var 1) rfl m_list m_range (by omega) (by omega))) ea_nil) r4) ea_nil) cv_tupL m_tuple) scMade.nd) s3
    have s1 : S X ((defBody sMade).drop 1) [.src s l t3, .dat (.int (n : Int)), .dat (frD x0), .un, .un, .un, .un, .un, .dat (roomD (n : Int) A), .dat (ptD p), .un, .un, .un, .un, .un, .un, .un, .un, .un, .un] fin := by
      refine s_cons (s_set 2 (d := frD (posF x0)) (e_if (t_cmp (e_ixt (e_var 2)) e_int ov_neI) (fun h => E.to (e_tup (ea_cons (e_callB (ea_cons (e_ixt (e_var 2)) ea_nil) cv_abs m_abs) (ea_cons (e_ixt (e_var 2)) ea_nil))) ?_) (fun h => E.to (e_tup (ea_cons e_int (ea_cons e_int ea_nil))) ?_)) scMade.nd) s2
      · have h0 : ¬ x0.1 = 0 := by simpa using h
        show PyData.tuple [.int (if x0.1 < 0 then -x0.1 else x0.1), .int x0.2] = frD (posF x0)
        unfold posF
        rw [if_neg h0]
      · have h0 : x0.1 = 0 := by simpa using h
        show PyData.tuple [.int 1, .int 3] = frD (posF x0)
        unfold posF
        rw [if_pos h0]
    exact s_cons (s_asg (d := .tuple [roomD (n : Int) A, ptD p, frD x0]) (e_tup (ea_cons (e_callS 0 k_law_room (ea_cons (e_var 1) ea_nil) r1) (ea_cons (e_callS 0 k_law_point (ea_cons (e_var 1) ea_nil) r2) (ea_cons (e_callS 0 k_law_fraction ea_nil r3) ea_nil)))) (g_tup rfl (gs_cons (g_name 8 scMade.nd) (gs_cons (g_name 9 scMade.nd) (gs_cons (g_name 2 scMade.nd) gs_nil))))) s1
end
end K03
end part_K03zh
section part_K03zi
namespace K03
open L2 PyProof.Rows PySem.Spec PySem DL DLr Num
abbrev sNxt : Stmt := top 54
section
variable {P : Program} {w : World} {K : PySem.W.Frag} {mg : Str → Option Value} {base : Heap}
/-! #### _law_next_right -/
abbrev nNxt : List Str := ["source", "due", "plant", "some", "n", "m", "k", "a", "b", "e", "c", "x", "u", "w", "size", "lap"]
theorem scNxt : FnScope nNxt ["source"] (defScope sNxt) := ⟨rfl, rfl, rfl, by decide +kernel, rfl, by decide +kernel, by decide +kernel⟩
abbrev cNxt (P : Program) (w : World) (K : PySem.W.Frag) (mg : Str → Option Value) (base : Heap) (a : CxA) : Cx := cx P w K mg base nNxt "_law_next_right" sNxt a
abbrev nxE1 : Expr := exprOf (bodyAt sNxt 1)
abbrev nxE2 : Expr := pt 0 (cmE nxE1)
abbrev nxE3 : Expr := exprOf (bodyAt sNxt 2)
theorem blkNx1 : blkC nNxt (defScope sNxt) (cmS nxE1) [("size", 14)] = true := by decide +kernel
theorem blkNx2 : blkC nNxt (cmS nxE1) (cmS nxE2) [("lap", 15)] = true := by decide +kernel
theorem blkNx3 : blkC nNxt (defScope sNxt) (cmS nxE3) [("size", 14)] = true := by decide +kernel
theorem moved_len (ls : List (List Fr)) (x sh : List Fr) : (movedF ls x sh).length ≤ sh.length := by unfold movedF; rw [List.length_map, List.length_zip]; omega
theorem moved_fo {ls : List (List Fr)} {x sh : List Fr} {k : Nat} (h1 : ∀ l ∈ ls, Sp l) (hx : Sp x) (hs : ∀ y ∈ sh, Fo k y) : ∀ y ∈ movedF ls x sh, Fo (k + 875) y := fun y hy => by
  obtain ⟨z, hz, rfl⟩ := List.mem_map.mp hy
  obtain ⟨q1, q2⟩ := sp_zip (h1 _ (List.of_mem_zip hz).1) hx
  exact (worth_fo _ _ k (hs _ (List.of_mem_zip hz).2) q1).mono (by omega)
theorem points_ex {R : Src → List PyData → Src → PyData → Prop} (hR : ∀ t ds, preN t ds → ∃ t' d, R t ds t' d ∧ postPoint t ds t' d) (n : Nat) {sz : Nat} (hs : sz ≤ 7) {t : Src} (ht : Ok t) : ∃ (t' : Src) (xss : List (List Fr)), Ch R [.int (sz : Int)] t (xss.map ptD) t' ∧ xss.length = n ∧ Ok t' ∧ ∀ x ∈ xss, Sp x := by
  obtain ⟨t', rs, h1, h2, h3, h4⟩ := ch_ex (O := Ok) (Q := fun d => ∃ xs : List Fr, d = ptD xs ∧ Sp xs) (args := [.int (sz : Int)]) (fun t ht => by
    obtain ⟨t', xs, a, b, _, c, _⟩ := point_ex hR hs ht
    exact ⟨t', ptD xs, a, b, xs, rfl, c⟩) n t ht
  obtain ⟨xss, rfl, h5⟩ := map_of (f := ptD) h3
  rw [List.length_map] at h2
  exact ⟨t', xss, h1, h2, h4, h5⟩
theorem sm_frs {k : Nat} {xs : List Fr} (h : ∀ x ∈ xs, Fo k x) (hk : k ≤ 12801) (hl : xs.length ≤ 7) : Sm 22 3 (ptD xs) := sm_pt h hk hl
theorem ok_nextRight (hp : DL.Put K mg "_law_next_right" sNxt) (g : Gd K mg) (L : Lib P w K mg base) : Draws P w K mg base "_law_next_right" 6 ["source"] preNone postRight := by
  obtain ⟨R1, dR1, hR1⟩ := L.pick
  obtain ⟨R2, dR2, hR2⟩ := L.room
  obtain ⟨R3, dR3, hR3⟩ := L.point
  refine def_Sx hp scNxt (fun _ _ _ _ _ _ us hl => match us, hl with | [_], _ => rfl) (by decide) (fun t ds h => ?_) (fun t ds h => ?_)
  · obtain ⟨_, rfl⟩ := h
    rfl
  · obtain ⟨ht, rfl⟩ := h
    obtain ⟨t1, n0, r1, ht1, n1, n2⟩ := pick_int hR1 ht 6 (by decide) (by decide)
    obtain ⟨n', rfl⟩ : ∃ n' : Nat, n0 = (n' : Int) := ⟨n0.toNat, by omega⟩
    obtain ⟨n, hn⟩ : ∃ n : Nat, n = n' + 1 := ⟨_, rfl⟩
    have en : (1 : Int) + (n' : Int) = (n : Int) := by omega
    obtain ⟨t2, m0, r2, ht2, m1, m2⟩ := pick_int hR1 ht1 7 (by decide) (by decide)
    obtain ⟨m, rfl⟩ : ∃ m : Nat, m0 = (m : Int) := ⟨m0.toNat, by omega⟩
    obtain ⟨t3, k0, r3, ht3, k1, k2⟩ := pick_int hR1 ht2 7 (by decide) (by decide)
    obtain ⟨k, rfl⟩ : ∃ k : Nat, k0 = (k : Int) := ⟨k0.toNat, by omega⟩
    obtain ⟨t4, a, c4, la, ht4, ha⟩ := points_ex hR3 n (sz := n) (by omega) ht3
    obtain ⟨t5, b, c5, lb, ht5, hb⟩ := points_ex hR3 n (sz := m) (by omega) ht4
    obtain ⟨t6, e, c6, le', ht6, he⟩ := points_ex hR3 n (sz := k) (by omega) ht5
    obtain ⟨t7, c, r7, ht7, lc, hc, hcr⟩ := point_ex hR3 (show n ≤ 7 by omega) ht6
    obtain ⟨t8, x, r8, ht8, lx, hx, hxr⟩ := point_ex hR3 (show n ≤ 7 by omega) ht7
    obtain ⟨t9, u, r9, ht9, lu, hu, hur⟩ := point_ex hR3 (show m ≤ 7 by omega) ht8
    obtain ⟨t10, v, r10, ht10, lv, hv, hvr⟩ := point_ex hR3 (show k ≤ 7 by omega) ht9
    obtain ⟨t11, A, r11, ht11, lA, hA⟩ := room_ex hR2 (show m ≤ 7 by omega) ht10
    obtain ⟨t12, B, r12, ht12, lB, hB⟩ := room_ex hR2 (show k ≤ 7 by omega) ht11
    refine ⟨t12, .bool true, ⟨ht12, rfl⟩, fun q hr s l => ?_⟩
    have hr9 := r100 hr
    have hd := g.dig
    have m_repr := g.repr
    have m_tuple := g.tuple
    have m_range := g.range
    have k_law_pick := dR1.known hr
    have k_law_room := dR2.known hr
    have k_law_point := dR3.known hr
    have k_law_moved := L.lmoved.known hr
    have k_image_of := L.image.known hr
    have k_next_of := L.next.known hr
    let X := cNxt P w K mg base q
    let fin : Out := .rt (.bool true) (.src s l t12 :: List.replicate 15 .un)
    have hc3 : ∀ y ∈ c, Fo 3000 y := fun y hy => (hc.fo y hy).mono (by decide)
    have lc7 : c.length ≤ 7 := hc.len
    let y1 := movedF a x c
    let y2 := movedF b u y1
    let y3 := movedF e v y2
    have f1 : ∀ y ∈ y1, Fo 937 y := moved_fo ha hx hc.fo
    have f2 : ∀ y ∈ y2, Fo 1812 y := moved_fo hb hu f1
    have f3 : ∀ y ∈ y3, Fo 2687 y := moved_fo he hv f2
    have l1 : y1.length ≤ 7 := Nat.le_trans (moved_len _ _ _) lc7
    have l2 : y2.length ≤ 7 := Nat.le_trans (moved_len _ _ _) l1
    have l3 : y3.length ≤ 7 := Nat.le_trans (moved_len _ _ _) l2
    have im1 : imageF a x c = y1 := image_moved ha hx hcr
    have rd1 : ∀ y ∈ y1, Redd y := by
      rw [← im1]
      exact image_redd ha hx fun y hy => (hc.fo y hy).pos
    have im2 : imageF b u y1 = y2 := image_moved hb hu rd1
    have rd2 : ∀ y ∈ y2, Redd y := by
      rw [← im2]
      exact image_redd hb hu fun y hy => (f1 y hy).pos
    have im3 : imageF e v y2 = y3 := image_moved he hv rd2
    have imN : ptD (imageF e v (imageF b u (imageF a x c))) = ptD y3 := by rw [im1, im2, im3]
    have sh3 : Shows (ptD y3) := (sm_frs f3 (by decide) l3).shows (by decide) (by decide)
    have imb : imageF b u c = movedF b u c := image_moved hb hu hcr
    have hb1 : ∀ z ∈ b.take 1, Sp z := fun z hz => hb z (List.mem_of_mem_take hz)
    have hc1 : ∀ y ∈ c.take 1, Fo 62 y := fun y hy => hc.fo y (List.mem_of_mem_take hy)
    have imb1 : imageF (b.take 1) u (c.take 1) = movedF (b.take 1) u (c.take 1) := image_moved hb1 hu fun y hy => hcr y (List.mem_of_mem_take hy)
    have lc1 : (c.take 1).length ≤ 7 := by rw [List.length_take]; omega
    have shS : Shows (.list [ptD (movedF b u c), ptD [], ptD (movedF (b.take 1) u (c.take 1))]) := (sm_list (n := 22) (k := 3) fun d hd => by
      simp only [List.mem_cons, List.not_mem_nil, or_false] at hd
      rcases hd with rfl | rfl | rfl
      · exact sm_frs (moved_fo hb hu hc.fo) (by decide) (Nat.le_trans (moved_len _ _ _) lc7)
      · exact sm_frs (k := 1) (xs := []) (fun y hy => nomatch hy) (by decide) (by decide)
      · exact sm_frs (moved_fo hb1 hu hc1) (by decide) (Nat.le_trans (moved_len _ _ _) lc1)).shows (by show 22 * 3 + 1 ≤ 1200; decide) (by decide)
    have et : ∀ (ls : List (List Fr)), PyData.tuple (cutD (ls.map ptD) none (some 1)) = maD (ls.take 1) := fun ls => by
      have := cutD_to (ls.map ptD) 1
      rw [show (some (1 : Int)) = some (((1 : Nat) : Int)) from rfl, this, ← List.map_take]
    have ep : ∀ (ls : List Fr), PyData.tuple (cutD (ls.map frD) none (some 1)) = ptD (ls.take 1) := fun ls => by
      have := cutD_to (ls.map frD) 1
      rw [show (some (1 : Int)) = some (((1 : Nat) : Int)) from rfl, this, ← List.map_take]
    let plD : PyData := .tuple [maD a, maD b, maD e, ptD c, roomD (m : Int) A, roomD (k : Int) B]
    let so : PyData := .list [ptD (movedF b u c), ptD [], ptD (movedF (b.take 1) u (c.take 1))]
    have s7 : S X ((defBody sNxt).drop 7) [.src s l t12, .dat (ptD y3), .dat plD, .dat so, .dat (.int (n : Int)), .dat (.int (m : Int)), .dat (.int (k : Int)), .dat (maD a), .dat (maD b), .dat (maD e), .dat (ptD c), .dat (ptD x), .dat (ptD u), .dat (ptD v), .un, .un] fin :=
      s_stop (s_retS (e_cmp (e_callB (ea_cons (e_var 3) ea_nil) (cv_repr hd hr9 hr.2 shS) m_repr) (e_callB (ea_cons (E.to (d := so) (e_O (eo_lst (ea_cons (e_call k_law_moved (ea_cons (e_var 8) (ea_cons (e_var 12) (ea_cons (e_var 10) ea_nil))) ⟨b, u, c, rfl, hb, hu, hc3, lc7, rfl⟩) (ea_cons (e_tup ea_nil) (ea_cons (e_call k_law_moved (ea_cons (E.to (e_sliceT (e_var 8) pd_none (pd_some e_int)) (et b)) (ea_cons (e_var 12) (ea_cons (E.to (e_sliceT (e_var 10) pd_none (pd_some e_int)) (ep c)) ea_nil))) ⟨b.take 1, u, c.take 1, rfl, hb1, hu, (fun y hy => (hc1 y hy).mono (by decide)), lc1, rfl⟩) ea_nil))))) rfl) ea_nil) (cv_repr hd hr9 hr.2 shS) m_repr) ov_eqS) (by rw [decide_eq_true rfl]))
    have s6 : S X ((defBody sNxt).drop 6) [.src s l t12, .dat (ptD y3), .dat plD, .un, .dat (.int (n : Int)), .dat (.int (m : Int)), .dat (.int (k : Int)), .dat (maD a), .dat (maD b), .dat (maD e), .dat (ptD c), .dat (ptD x), .dat (ptD u), .dat (ptD v), .un, .un] fin := by
      refine s_cons (s_set 3 (E.to (d := so) (e_O (eo_lst (ea_cons (e_call k_image_of (ea_cons (e_var 8) (ea_cons (e_var 12) (ea_cons (e_var 10) ea_nil))) ⟨b, u, c, rfl, hb, hu, hc3, lc7, rfl⟩) (ea_cons (E.to (d := ptD (imageF [] x [])) (e_call k_image_of (ea_cons (E.to (d := maD []) (e_tup ea_nil) rfl) (ea_cons (e_var 11) (ea_cons (E.to (d := ptD []) (e_tup ea_nil) rfl) ea_nil))) ⟨[], x, [], rfl, (fun z hz => nomatch hz), hx, (fun z hz => nomatch hz), by decide, rfl⟩) rfl) (ea_cons (e_call k_image_of (ea_cons (E.to (e_sliceT (e_var 8) pd_none (pd_some e_int)) (et b)) (ea_cons (e_var 12) (ea_cons (E.to (e_sliceT (e_var 10) pd_none (pd_some e_int)) (ep c)) ea_nil))) ⟨b.take 1, u, c.take 1, rfl, hb1, hu, (fun y hy => (hc1 y hy).mono (by decide)), lc1, rfl⟩) ea_nil))))) ?_) scNxt.nd) s7
      show PyData.list [ptD (imageF b u c), ptD (imageF [] x []), ptD (imageF (b.take 1) u (c.take 1))] = _
      rw [imb, imb1]
      rfl
    have s5 : S X ((defBody sNxt).drop 5) [.src s l t12, .dat (ptD y3), .dat plD, .un, .dat (.int (n : Int)), .dat (.int (m : Int)), .dat (.int (k : Int)), .dat (maD a), .dat (maD b), .dat (maD e), .dat (ptD c), .dat (ptD x), .dat (ptD u), .dat (ptD v), .un, .un] fin :=
      s_cons (s1_if (p := false) (T.to (t_cmp (e_callB (ea_cons (E.to (e_call k_next_of (ea_cons (e_var 2) (ea_cons (e_var 11) (ea_cons (e_var 12) (ea_cons (e_var 13) ea_nil)))) ⟨a, b, e, c, roomD (m : Int) A, roomD (k : Int) B, x, u, v, rfl, ha, hb, he, hc, hx, hu, hv, rfl⟩) imN) ea_nil) (cv_repr hd hr9 hr.2 sh3) m_repr) (e_callB (ea_cons (e_var 1) ea_nil) (cv_repr hd hr9 hr.2 sh3) m_repr) ov_neS) (by rw [decide_eq_true rfl]; rfl)) (fun h => Bool.noConfusion h) (fun h => s_nil')) s6
    have s4 : S X ((defBody sNxt).drop 4) [.src s l t10, .dat (ptD y3), .un, .un, .dat (.int (n : Int)), .dat (.int (m : Int)), .dat (.int (k : Int)), .dat (maD a), .dat (maD b), .dat (maD e), .dat (ptD c), .dat (ptD x), .dat (ptD u), .dat (ptD v), .un, .un] fin :=
      s_cons (s_set 2 (e_tup (ea_cons (e_var 7) (ea_cons (e_var 8) (ea_cons (e_var 9) (ea_cons (e_var 10) (ea_cons (e_callS 0 k_law_room (ea_cons (e_var 5) ea_nil) r11) (ea_cons (e_callS 0 k_law_room (ea_cons (e_var 6) ea_nil) r12) ea_nil))))))) scNxt.nd) s5
    have s3 : S X ((defBody sNxt).drop 3) [.src s l t10, .un, .un, .un, .dat (.int (n : Int)), .dat (.int (m : Int)), .dat (.int (k : Int)), .dat (maD a), .dat (maD b), .dat (maD e), .dat (ptD c), .dat (ptD x), .dat (ptD u), .dat (ptD v), .un, .un] fin :=
      s_cons (s_set 1 (e_call k_law_moved (ea_cons (e_var 9) (ea_cons (e_var 13) (ea_cons (e_call k_law_moved (ea_cons (e_var 8) (ea_cons (e_var 12) (ea_cons (e_call k_law_moved (ea_cons (e_var 7) (ea_cons (e_var 11) (ea_cons (e_var 10) ea_nil))) ⟨a, x, c, rfl, ha, hx, hc3, lc7, rfl⟩) ea_nil))) ⟨b, u, y1, rfl, hb, hu, (fun y hy => (f1 y hy).mono (by decide)), l1, rfl⟩) ea_nil))) ⟨e, v, y2, rfl, he, hv, (fun y hy => (f2 y hy).mono (by decide)), l2, rfl⟩) scNxt.nd) s4
    let st2 (τ : Src) (z : Sl) : List Sl := [.src s l τ, .un, .un, .un, .dat (.int (n : Int)), .dat (.int (m : Int)), .dat (.int (k : Int)), .dat (maD a), .dat (maD b), .dat (maD e), .un, .un, .un, .un, z, .un]
    have go2 : ∀ (τ τ' : Src) (sz : Nat) (xs : List Fr), R3 τ [.int (sz : Int)] τ' (ptD xs) → Blk X (cmS nxE3) (fun Y => E Y (cmE nxE3) (st2 τ (.dat (.int (sz : Int)))) (ptD xs) (st2 τ' (.dat (.int (sz : Int))))) := fun τ τ' sz xs h _ _ _ _ _ => e_callS 0 k_law_point (ea_cons (e_var 14) ea_nil) h
    have tg2 : ∀ (τ : Src) (z : Sl) (sz : Nat), Blk X (cmS nxE3) (fun Y => TgD Y (cmT nxE3) (.int (sz : Int)) (wipeA [14] 0 (st2 τ z)) (st2 τ (.dat (.int (sz : Int)))) [14]) := fun τ z sz _ _ _ _ _ => g_name 14 scNxt.nd
    have cl2 : CL X (cmS nxE3) (cmT nxE3) (cmI nxE3) (cmE nxE3) [14] [.int (n : Int), .int (n : Int), .int (m : Int), .int (k : Int)] (st2 t6 .un) [ptD c, ptD x, ptD u, ptD v] (st2 t10 (.dat (.int (k : Int)))) :=
      .yes (fun _ z => z) (tg2 t6 .un n) (fun _ _ _ _ _ => ts_nil) (go2 t6 t7 n c r7) (.yes (fun _ z => z) (tg2 t7 _ n) (fun _ _ _ _ _ => ts_nil) (go2 t7 t8 n x r8) (.yes (fun _ z => z) (tg2 t8 _ m) (fun _ _ _ _ _ => ts_nil) (go2 t8 t9 m u r9) (.yes (fun _ z => z) (tg2 t9 _ k) (fun _ _ _ _ _ => ts_nil) (go2 t9 t10 k v r10) .nil)))
    have s2 : S X ((defBody sNxt).drop 2) (st2 t6 .un) fin :=
      s_cons (s_asg (e_O (eo_lc (own := [("size", 14)]) (i_tup (e_tup (ea_cons (e_var 4) (ea_cons (e_var 4) (ea_cons (e_var 5) (ea_cons (e_var 6) ea_nil)))))) cl2 (Nat.le_of_ble_eq_true rfl) scNxt.nd (blkOk_by blkNx3))) (g_lst rfl (gs_cons (g_name 10 scNxt.nd) (gs_cons (g_name 11 scNxt.nd) (gs_cons (g_name 12 scNxt.nd) (gs_cons (g_name 13 scNxt.nd) gs_nil)))))) s3
    let st1 (τ : Src) (z : Sl) : List Sl := [.src s l τ, .un, .un, .un, .dat (.int (n : Int)), .dat (.int (m : Int)), .dat (.int (k : Int)), .un, .un, .un, .un, .un, .un, .un, z, .un]
    have rl : ∀ n : Nat, (rangeD 0 n).length = n := fun n => by unfold rangeD; simp
    have go1 : ∀ (τ τ' : Src) (sz : Nat) (xss : List (List Fr)), xss.length = n → Ch R3 [.int (sz : Int)] τ (xss.map ptD) τ' → Blk X (cmS nxE1) (fun Y => E Y (cmE nxE1) (st1 τ (.dat (.int (sz : Int)))) (maD xss) (st1 τ' (.dat (.int (sz : Int))))) := fun τ τ' sz xss hl h _ _ _ _ _ =>
      e_callTy (ea_cons (e_O (eo_lc (own := [("lap", 15)]) (ρ2 := st1 τ' (.dat (.int (sz : Int)))) (i_range1 (ea_cons (e_var 4) ea_nil) m_range (by omega)) (ch_cl (ρ := fun t => st1 t (.dat (.int (sz : Int)))) (js := [15]) (fun _ z => z) (fun _ _ _ _ _ _ _ => g_name 15 scNxt.nd) (fun _ _ _ _ h _ _ _ _ _ => e_callS 0 k_law_point (ea_cons (e_var 14) ea_nil) h) (fun _ _ => Le.refl _) _ _ τ τ' (by rw [Int.toNat_natCast, rl, List.length_map, hl]) h) (by rw [Int.toNat_natCast, rl]; omega) scNxt.nd (blkOk_by blkNx2))) ea_nil) cv_tupL m_tuple
    have tg1 : ∀ (τ : Src) (z : Sl) (sz : Nat), Blk X (cmS nxE1) (fun Y => TgD Y (cmT nxE1) (.int (sz : Int)) (wipeA [14] 0 (st1 τ z)) (st1 τ (.dat (.int (sz : Int)))) [14]) := fun τ z sz _ _ _ _ _ => g_name 14 scNxt.nd
    have cl1 : CL X (cmS nxE1) (cmT nxE1) (cmI nxE1) (cmE nxE1) [14] [.int (n : Int), .int (m : Int), .int (k : Int)] (st1 t3 .un) [maD a, maD b, maD e] (st1 t6 (.dat (.int (k : Int)))) :=
      .yes (fun _ z => z) (tg1 t3 .un n) (fun _ _ _ _ _ => ts_nil) (go1 t3 t4 n a la c4) (.yes (fun _ z => z) (tg1 t4 _ m) (fun _ _ _ _ _ => ts_nil) (go1 t4 t5 m b lb c5) (.yes (fun _ z => z) (tg1 t5 _ k) (fun _ _ _ _ _ => ts_nil) (go1 t5 t6 k e le' c6) .nil))
    have s1 : S X ((defBody sNxt).drop 1) (st1 t3 .un) fin :=
      s_cons (s_asg (e_O (eo_lc (own := [("size", 14)]) (i_tup (e_tup (ea_cons (e_var 4) (ea_cons (e_var 5) (ea_cons (e_var 6) ea_nil))))) cl1 (Nat.le_of_ble_eq_true rfl) scNxt.nd (blkOk_by blkNx1))) (g_lst rfl (gs_cons (g_name 7 scNxt.nd) (gs_cons (g_name 8 scNxt.nd) (gs_cons (g_name 9 scNxt.nd) gs_nil))))) s2
    exact s_cons (s_asg (d := .tuple [.int (n : Int), .int (m : Int), .int (k : Int)]) (e_tup (ea_cons (E.to (e_bin e_int (e_callS 0 k_law_pick (ea_cons e_int ea_nil) r1) ov_add) (congrArg PyData.int en)) (ea_cons (e_callS 0 k_law_pick (ea_cons e_int ea_nil) r2) (ea_cons (e_callS 0 k_law_pick (ea_cons e_int ea_nil) r3) ea_nil)))) (g_tup rfl (gs_cons (g_name 4 scNxt.nd) (gs_cons (g_name 5 scNxt.nd) (gs_cons (g_name 6 scNxt.nd) gs_nil))))) s1
end
end K03
end part_K03zi
section part_K03zj
namespace K03
open L2 PyProof.Rows PySem.Spec PySem DL DLr Num
abbrev sLaw : Stmt := top 55
section
variable {P : Program} {w : World} {K : PySem.W.Frag} {mg : Str → Option Value} {base : Heap}
abbrev nLaw : List Str := ["script", "source", "lap", "far", "told", "due", "n"]
theorem scLaw : FnScope nLaw ["script"] (defScope sLaw) := ⟨rfl, rfl, rfl, by decide +kernel, rfl, by decide +kernel, by decide +kernel⟩
abbrev cLaw (P : Program) (w : World) (K : PySem.W.Frag) (mg : Str → Option Value) (base : Heap) (a : CxA) : Cx := cx P w K mg base nLaw "law" sLaw a
structure Own (P : Program) (w : World) (K : PySem.W.Frag) (mg : Str → Option Value) (base : Heap) : Prop where
  source : Def P w K mg base "_law_source" 1 ["script"] (spSrc K srcOf)
  made : Draws P w K mg base "_law_made_right" 5 ["source", "n"] preSix postRight
  two : Draws P w K mg base "_law_two_right" 5 ["source", "n"] preSix postRight
  next : Draws P w K mg base "_law_next_right" 6 ["source"] preNone postRight
theorem law_loop (L : Lib P w K mg base) (O : Own P w K mg base) (ns : List Int) : ∀ (ys : List PyData) (t : Src), Ok t → ∃ t', Ok t' ∧ ∀ (a : CxA), Rm 6 (cLaw P w K mg base a).A → ∀ s l,
    Loop (cLaw P w K mg base a) (forT (bodyAt sLaw 1)) (lpB (bodyAt sLaw 1)) ys [.scr ns, .src s l t, .un, .un, .un, .un, .un] (.nx [.scr ns, .src s l t', .un, .un, .un, .un, .un])
  | [], t, ht => ⟨t, ht, fun a hr s l => .nil⟩
  | y :: ys, t, ht => by
    obtain ⟨R2, dR2, hR2⟩ := L.of
    obtain ⟨R3, dR3, hR3⟩ := O.made
    obtain ⟨R4, dR4, hR4⟩ := O.two
    obtain ⟨R5, dR5, hR5⟩ := O.next
    obtain ⟨t1, d1, r1, ht1, es, ees, hd1⟩ := hR2 t [.list [.int 0, .int 1, .int 2, .int 3, .int 4, .int 6]] ⟨ht, _, rfl, by simp, by show 6 < 1000; decide⟩
    cases ees
    have hn : ∃ n : Nat, d1 = .int (n : Int) ∧ n ≤ 6 := by
      simp only [List.mem_cons, List.not_mem_nil, or_false] at hd1
      rcases hd1 with rfl | rfl | rfl | rfl | rfl | rfl
      · exact ⟨0, rfl, by decide⟩
      · exact ⟨1, rfl, by decide⟩
      · exact ⟨2, rfl, by decide⟩
      · exact ⟨3, rfl, by decide⟩
      · exact ⟨4, rfl, by decide⟩
      · exact ⟨6, rfl, by decide⟩
    obtain ⟨n, rfl, hn6⟩ := hn
    obtain ⟨t2, d2, r2, ht2, rfl⟩ := hR3 t1 [.int (n : Int)] ⟨ht1, n, rfl, hn6⟩
    obtain ⟨t3, d3, r3, ht3, rfl⟩ := hR4 t2 [.int (n : Int)] ⟨ht2, n, rfl, hn6⟩
    obtain ⟨t4, d4, r4, ht4, rfl⟩ := hR5 t3 [] ⟨ht3, rfl⟩
    obtain ⟨t', ht', hl⟩ := law_loop L O ns ys t4 ht4
    refine ⟨t', ht', fun a hr s l => ?_⟩
    have k_law_of := dR2.known hr
    have k_law_made_right := dR3.known hr
    have k_law_two_right := dR4.known hr
    have k_law_next_right := dR5.known hr
    exact .nx (g_name 2 scLaw.nd) (s_cons (s_set 6 (e_callS 1 k_law_of (ea_cons (e_O (eo_lst (ea_cons e_int (ea_cons e_int (ea_cons e_int (ea_cons e_int (ea_cons e_int (ea_cons e_int ea_nil)))))))) ea_nil) r1) scLaw.nd)
      (s_cons (s1_if (p := false) (t_w (tw_or (p := false) (q := false) (T.to (t_not (t_val (e_callS 1 k_law_made_right (ea_cons (e_var 6) ea_nil) r2))) rfl) (fun h => (tw_or (p := false) (q := false) (T.to (t_not (t_val (e_callS 1 k_law_two_right (ea_cons (e_var 6) ea_nil) r3))) rfl) (fun h => (tw_or1 (T.to (t_not (t_val (e_callS 1 k_law_next_right ea_nil r4))) rfl))) (fun h => Bool.noConfusion h))) (fun h => Bool.noConfusion h))) (fun h => Bool.noConfusion h) (fun h => s_nil'))
      (s_nil (ρ1 := [.scr ns, .src s l t4, .un, .un, .un, .un, .un]) (le_cons (le_cons (le_un (le_cons (le_cons (le_cons (le_un le_nil)))))))))) (hl a hr s l)
theorem small9 {n : Nat} {i : Int} (h : i.natAbs < 2 ^ 9) (hn : 9 ≤ n) : Sz n i := Sz.mono (n := 9) (sz_lt h) hn
theorem ok_law {f : Addr} {fd : FuncData} (F : FunD K "law" "law" (defArgs sLaw) (defBody sLaw) (defScope sLaw) [] [] f fd) (g : Gd K mg) (L : Lib P w K mg base) (O : Own P w K mg base) : FnG P w K mg base L2.CX0 7 f fd ["script"] (spL K) := by
  refine def_L F scLaw (fun _ _ _ _ _ _ us hl => match us, hl with | [_], _ => rfl) (Nat.le_of_ble_eq_true rfl) rfl (fun a hr ns hns => ?_)
  obtain ⟨t1, ht1, hl1⟩ := law_loop L O ns (rangeD 0 4) (srcOf ns) (srcOf_ok ns)
  have hr9 := r100 hr
  have hd := g.dig
  have m_repr := g.repr
  have m_range := g.range
  have k_law_source := O.source.known hr
  have k_shifted := L.shifted.known hr
  have k_placed := L.placed.known hr
  have k_boxed := L.boxed.known hr
  let far : List Row := [([1, 0], 1), ([0 - 2, 4], 6), ([0, 0], 0 - 4)]
  let D : List PyData := [roomD 2 [([2, 0], 3), ([0 - 2, 4], 5), ([0, 0], 0 - 1)], roomD 2 [([0, 1], 1), ([2, 0 - 1], 3), ([0, 0], 0 - 1)], roomD 1 [([2], 1), ([0 - 1], 0 - 1)]]
  have sD : Shows (.list D) := ⟨by decide +kernel, by decide +kernel, by decide +kernel, by decide +kernel⟩
  have ro : ∀ (n : Nat) (a : List Int) (b : Int), 9 ≤ n → (∀ x ∈ a, x.natAbs < 2 ^ 9) → b.natAbs < 2 ^ 9 → a.length ≤ 15 → Ro n (a, b) := fun n a b h0 h1 h2 h3 => ⟨fun x hx => small9 (h1 x hx) h0, small9 h2 h0, h3⟩
  have fo : ∀ (p q : Int), p.natAbs < 2 ^ 9 → q.natAbs < 2 ^ 9 → 0 < q → Fo 130 (p, q) := fun p q h1 h2 h3 => ⟨h3, small9 h1 (by decide), small9 h2 (by decide)⟩
  have hf : ∀ r ∈ far, Rs r ∧ r.1.length = 2 := fun r hr => by
    simp only [far, List.mem_cons, List.not_mem_nil, or_false] at hr
    rcases hr with rfl | rfl | rfl <;> exact ⟨⟨ro _ _ _ (by decide) (by decide) (by decide) (by decide), by decide⟩, rfl⟩
  have pt2 : Pt [(1, 2), (0, 1)] := ⟨fun x hx => by
    simp only [List.mem_cons, List.not_mem_nil, or_false] at hx
    rcases hx with rfl | rfl
    · exact fo 1 2 (by decide) (by decide) (by decide)
    · exact fo 0 1 (by decide) (by decide) (by decide), by decide⟩
  have pt11 : Pt [(1, 1)] := ⟨fun x hx => by
    rw [List.mem_singleton.mp hx]
    exact fo 1 1 (by decide) (by decide) (by decide), by decide⟩
  have pt12 : Pt [(1, 2)] := ⟨fun x hx => by
    rw [List.mem_singleton.mp hx]
    exact fo 1 2 (by decide) (by decide) (by decide), by decide⟩
  let X := cLaw P w K mg base a
  let fin : Out := .rt (.bool true) (List.replicate 7 .un)
  have w1 : roomD 2 (far.map (shR [(1, 2), (0, 1)])) = roomD 2 [([2, 0], 3), ([0 - 2, 4], 5), ([0, 0], 0 - 1)] := congrArg (roomD 2) (show far.map (shR [(1, 2), (0, 1)]) = [([2, 0], 3), ([0 - 2, 4], 5), ([0, 0], 0 - 1)] from by decide +kernel)
  have w2 : roomD 2 ((far.map (takeR [1, 0])).map plR) = roomD 2 [([0, 1], 1), ([2, 0 - 1], 3), ([0, 0], 0 - 1)] := congrArg (roomD 2) (show (far.map (takeR [1, 0])).map plR = [([0, 1], 1), ([2, 0 - 1], 3), ([0, 0], 0 - 1)] from by decide +kernel)
  have w3 : roomD (([((1 : Int), (1 : Int))] : List Fr).length : Int) (boxF [(1, 1)] [(1, 2)]) = roomD 1 [([2], 1), ([0 - 1], 0 - 1)] := congrArg (roomD 1) (show boxF [(1, 1)] [(1, 2)] = [([2], 1), ([0 - 1], 0 - 1)] from by decide +kernel)
  refine s_source (ns := ns) 1 0 k_law_source (Nat.le_trans hns (by decide)) (fun s l => ?_) scLaw.nd
  have s6 : S X ((defBody sLaw).drop 6) [.scr ns, .src s l t1, .un, .dat (roomD 2 far), .dat (.list D), .dat (.list D), .un] fin :=
    s_stop (s_retP (e_cmp (e_callB (ea_cons (e_var 4) ea_nil) (cv_repr hd hr9 hr.2 sD) m_repr) (e_callB (ea_cons (e_var 5) ea_nil) (cv_repr hd hr9 hr.2 sD) m_repr) ov_eqS) (by rw [decide_eq_true rfl]))
  have s5 : S X ((defBody sLaw).drop 5) [.scr ns, .src s l t1, .un, .dat (roomD 2 far), .dat (.list D), .dat (.list [roomD 2 [([2, 0], 3), ([0 - 2, 4], 5), ([0, 0], 0 - 1)]]), .un] fin :=
    s_cons (s_set 5 (E.to (d := .list D) (e_O (eo_bin (e_var 5) (e_O (eo_lst (ea_cons (e_tup (ea_cons e_int (ea_cons (e_tup (ea_cons (e_tup (ea_cons (e_tup (ea_cons e_int (ea_cons e_int ea_nil))) (ea_cons e_int ea_nil))) (ea_cons (e_tup (ea_cons (e_tup (ea_cons e_int (ea_cons (e_bin e_int e_int ov_sub) ea_nil))) (ea_cons e_int ea_nil))) (ea_cons (e_tup (ea_cons (e_tup (ea_cons e_int (ea_cons e_int ea_nil))) (ea_cons (e_bin e_int e_int ov_sub) ea_nil))) ea_nil)))) ea_nil))) (ea_cons (e_tup (ea_cons e_int (ea_cons (e_tup (ea_cons (e_tup (ea_cons (e_tup (ea_cons e_int ea_nil)) (ea_cons e_int ea_nil))) (ea_cons (e_tup (ea_cons (e_tup (ea_cons (e_bin e_int e_int ov_sub) ea_nil)) (ea_cons (e_bin e_int e_int ov_sub) ea_nil))) ea_nil))) ea_nil))) ea_nil)))) (oo_cat (Nat.le_of_ble_eq_true rfl)))) rfl) scLaw.nd) s6
  have s4 : S X ((defBody sLaw).drop 4) [.scr ns, .src s l t1, .un, .dat (roomD 2 far), .dat (.list D), .un, .un] fin :=
    s_cons (s_set 5 (E.to (d := .list [roomD 2 [([2, 0], 3), ([0 - 2, 4], 5), ([0, 0], 0 - 1)]]) (e_O (eo_lst (ea_cons (e_tup (ea_cons e_int (ea_cons (e_tup (ea_cons (e_tup (ea_cons (e_tup (ea_cons e_int (ea_cons e_int ea_nil))) (ea_cons e_int ea_nil))) (ea_cons (e_tup (ea_cons (e_tup (ea_cons (e_bin e_int e_int ov_sub) (ea_cons e_int ea_nil))) (ea_cons e_int ea_nil))) (ea_cons (e_tup (ea_cons (e_tup (ea_cons e_int (ea_cons e_int ea_nil))) (ea_cons (e_bin e_int e_int ov_sub) ea_nil))) ea_nil)))) ea_nil))) ea_nil))) rfl) scLaw.nd) s5
  have s3 : S X ((defBody sLaw).drop 3) [.scr ns, .src s l t1, .un, .dat (roomD 2 far), .un, .un, .un] fin :=
    s_cons (s_set 4 (e_O (eo_lst (ds := D) (ea_cons (E.to (e_call k_shifted (ea_cons (e_var 3) (ea_cons (E.to (d := ptD [(1, 2), (0, 1)]) (e_tup (ea_cons (e_tup (ea_cons e_int (ea_cons e_int ea_nil))) (ea_cons (e_tup (ea_cons e_int (ea_cons e_int ea_nil))) ea_nil))) rfl) ea_nil)) ⟨2, far, [(1, 2), (0, 1)], rfl, (fun r h => (hf r h).1), by decide, pt2, rfl⟩) w1) (ea_cons (E.to (e_call k_placed (ea_cons (e_var 3) (ea_cons (E.to (d := ordD [1, 0]) (e_tup (ea_cons e_int (ea_cons e_int ea_nil))) rfl) ea_nil)) ⟨2, 2, far, [1, 0], rfl, (fun r h => ⟨(hf r h).1.ro.mono (by decide), (hf r h).2⟩), (by decide), by decide, by decide, rfl⟩) w2) (ea_cons (E.to (e_call k_boxed (ea_cons (E.to (d := ptD [(1, 1)]) (e_tup (ea_cons (e_tup (ea_cons e_int (ea_cons e_int ea_nil))) ea_nil)) rfl) (ea_cons (E.to (d := ptD [(1, 2)]) (e_tup (ea_cons (e_tup (ea_cons e_int (ea_cons e_int ea_nil))) ea_nil)) rfl) ea_nil)) ⟨[(1, 1)], [(1, 2)], rfl, pt11, pt12, rfl, rfl⟩) w3) ea_nil))))) scLaw.nd) s4
  have s2 : S X ((defBody sLaw).drop 2) [.scr ns, .src s l t1, .un, .un, .un, .un, .un] fin :=
    s_cons (s_set 3 (E.to (d := roomD 2 far) (e_tup (ea_cons e_int (ea_cons (e_tup (ea_cons (e_tup (ea_cons (e_tup (ea_cons e_int (ea_cons e_int ea_nil))) (ea_cons e_int ea_nil))) (ea_cons (e_tup (ea_cons (e_tup (ea_cons (e_bin e_int e_int ov_sub) (ea_cons e_int ea_nil))) (ea_cons e_int ea_nil))) (ea_cons (e_tup (ea_cons (e_tup (ea_cons e_int (ea_cons e_int ea_nil))) (ea_cons (e_bin e_int e_int ov_sub) ea_nil))) ea_nil)))) ea_nil))) rfl) scLaw.nd) s3
  exact s_cons (s_for (i_range1 (ea_cons e_int ea_nil) m_range) (hl1 a hr s l)) s2
end
end K03
end part_K03zj
section part_K03zk
namespace K03
open L2 PyProof.Rows PySem.Spec PySem DL DLr Num
def fns : List He.DefD := ([defD "fraction_of" sFrac, defD "plus" sPlus, defD "times" sTimes, defD "plain_row" sPlain, defD "row_of" sRowOf, defD "whole_point" sWhole, defD "whole_reach" sDot, defD "reach" sReach, defD "slack_signs" sSigns, defD "first_broken" sBroken, defD "is_in" sIsIn, defD "room_of_rows" sRoomRows, defD "joined" sJoined, defD "product" sProduct, defD "whole_members" sMembers, defD "shifted" sShifted, defD "scaled" sScaled, defD "mirrored" sMirrored, defD "placed" sPlaced, defD "unit" sUnit] : List He.DefD) ++ ([defD "boxed" sBoxed, defD "open_room" sOpen, defD "line_worth" sWorth, defD "image_of" sImage, defD "next_of" sNext, defD "_law_source" sSource, defD "_law_pick" sPick, defD "_law_of" sOf, defD "_law_mixed" sMixed, defD "_law_least" sLeast, defD "_law_plus" sLPlus, defD "_law_times" sLTimes, defD "_law_great" sGreat, defD "_law_number" sNumber, defD "_law_fraction" sFraction, defD "_law_divisor" sDiv, defD "_law_plain" sLPlain, defD "_law_reach" sLReach, defD "_law_row_of" sLRowOf, defD "_law_is_in" sLIsIn] : List He.DefD) ++ ([defD "_law_room" sLRoom, defD "_law_point" sPoint, defD "_law_shifted" sLShifted, defD "_law_scaled" sLScaled, defD "_law_placed" sLPlaced, defD "_law_boxed" sLBoxed, defD "_law_made_right" sMade, defD "_law_two_right" sTwo, defD "_law_moved" sLMoved, defD "_law_next_right" sNxt, defD "law" sLaw] : List He.DefD)
def names : List Str := (["fraction_of", "plus", "times", "plain_row", "row_of", "whole_point", "whole_reach", "reach", "slack_signs", "first_broken", "is_in", "room_of_rows", "joined", "product", "whole_members", "shifted", "scaled", "mirrored", "placed", "unit"] : List Str) ++ (["boxed", "open_room", "line_worth", "image_of", "next_of", "_law_source", "_law_pick", "_law_of", "_law_mixed", "_law_least", "_law_plus", "_law_times", "_law_great", "_law_number", "_law_fraction", "_law_divisor", "_law_plain", "_law_reach", "_law_row_of", "_law_is_in"] : List Str) ++ (["_law_room", "_law_point", "_law_shifted", "_law_scaled", "_law_placed", "_law_boxed", "_law_made_right", "_law_two_right", "_law_moved", "_law_next_right", "law"] : List Str)
def frees : List Str := ["int", "abs", "len", "list", "range", "max", "repr", "any", "zip", "enumerate", "tuple"]
def facts : List He.Fa := (names.map He.Fa.glo ++ frees.map He.Fa.free) ++ [He.Fa.glo "NOUGHT"]
def own (K : PySem.W.Frag) : Bool := digB K && (bltB K "gcd" "math.gcd" && (bltB K "lcm" "math.lcm" && He.tupB K "NOUGHT" [.int 0, .int 1]))
abbrev Rw : PySem.W.OpenRow := PySem.W.OpenLaw.row PySem.Challenge.rw_everygust_k03_rooms_of_rooms
abbrev hk : PySem.W.Hook := hookX 4 own facts fns
def ob (s : PySem.W.SharedT) : Bool × He.AlD := obX 4 own facts fns (HandSHeadRun.getT s)
theorem ob_eq (s : PySem.W.SharedT) : ob s = hk.obs s.abs := obX_eq (HandSHeadRun.getT_eq s)
def loose : List Str := (["NOUGHT", "fraction_of", "plus", "times", "plain_row", "row_of", "whole_point", "whole_reach", "reach", "slack_signs", "first_broken", "is_in", "room_of_rows", "joined", "product", "whole_members", "shifted", "scaled", "mirrored", "placed"] : List Str) ++ (["unit", "boxed", "open_room", "line_worth", "image_of", "next_of", "_law_source", "_law_pick", "_law_of", "_law_mixed", "_law_least", "_law_plus", "_law_times", "_law_great", "_law_number", "_law_fraction", "_law_divisor", "_law_plain", "_law_reach", "_law_row_of"] : List Str) ++ (["_law_is_in", "_law_room", "_law_point", "_law_shifted", "_law_scaled", "_law_placed", "_law_boxed", "_law_made_right", "_law_two_right", "_law_moved", "_law_next_right"] : List Str)
theorem run (w : World) : HandSHeadRun.RunEqI Rw (PySem.W.view Rw.prog [0, 55]) hk ob 20000 loose w := by
  unfold HandSHeadRun.RunEqI
  kernel_rfl
section
variable {P : Program} {w : World} {K : PySem.W.Frag} {mg : Str → Option Value} {base h : Heap}
theorem gd_of (X : K.In h) (G : h.Ns mainGlobals mg) (o : own K = true) (c : He.SaysD facts fns K) : Gd K mg := by
  obtain ⟨o1, o2⟩ := He.ba o
  obtain ⟨o3, o4⟩ := He.ba o2
  obtain ⟨o5, o6⟩ := He.ba o4
  refine ⟨He.eqO_ok o1, free_of X G c 51, free_of X G c 52, free_of X G c 53, free_of X G c 54, free_of X G c 55, free_of X G c 56, free_of X G c 57, free_of X G c 58, free_of X G c 59, free_of X G c 60, free_of X G c 61, PySem.W.mg_of X G (He.eqO_ok o3), PySem.W.mg_of X G (He.eqO_ok o5), .ref (He.ga K "NOUGHT"), .ref (He.ga K "NOUGHT"), ?_, rfl, fun G => ?_⟩
  · exact He.glo_ok X G (c.fact 62 (f := .glo "NOUGHT") rfl)
  · exact .tup (He.tupB_ok o6 G) (.cons (.int 0) (.cons (.int 1) .nil))
theorem law_of (X : K.In h) (G : h.Ns mainGlobals mg) (o : own K = true) (c : He.SaysD facts fns K) {fd : FuncData} (F : FunD K "law" "law" (defArgs sLaw) (defBody sLaw) (defScope sLaw) [] [] (He.fAd K ("law", none)) fd) : FnG P w K mg base L2.CX0 7 (He.fAd K ("law", none)) fd ["script"] (spL K) := by
  have g := gd_of X G o c
  have p : ∀ {x : Str} {st : Stmt} (i j : Nat), fns[i]? = some (defD x st) → facts[j]? = some (He.Fa.glo x) → DL.Put K mg x st := fun i j a b => put_of X G c i j a b
  have dF : Def P w K mg base "fraction_of" 1 ["p", "q"] (spP K rFrac) := ok_frac (p 0 0 rfl rfl) g.gcd
  have dPl := ok_plus (P := P) (w := w) (base := base) (p 1 1 rfl rfl) dF
  have dT := ok_times (P := P) (w := w) (base := base) (p 2 2 rfl rfl) dF
  have dR := ok_plain (P := P) (w := w) (base := base) (p 3 3 rfl rfl) g.gcd g.tuple
  have dRo := ok_rowOf (P := P) (w := w) (base := base) (p 4 4 rfl rfl) g.lcm g.tuple dR
  have dW := ok_whole (P := P) (w := w) (base := base) (p 5 5 rfl rfl) g.lcm
  have dD := ok_dot (P := P) (w := w) (base := base) (p 6 6 rfl rfl) g.zip
  have dRe := ok_reach (p 7 7 rfl rfl) dW dD dF
  have dS := ok_signs (p 8 8 rfl rfl) dW dD
  have dB := ok_broken (p 9 9 rfl rfl) g.enumerate dS
  have dI := ok_isIn (p 10 10 rfl rfl) dB
  have dRr := ok_roomRows (p 11 11 rfl rfl) g.tuple dR
  have dM := ok_members (P := P) (w := w) (base := base) (p 14 14 rfl rfl) g.tuple
  have dU := ok_unit (P := P) (w := w) (base := base) (p 19 19 rfl rfl) g.tuple g.range g.nought
  have dWo := ok_worth (p 22 22 rfl rfl) g.zip dPl dT g.nought
  have dIm := ok_image (p 23 23 rfl rfl) g.zip g.tuple dPl dWo
  have dE := ok_least (P := P) (w := w) (base := base) (p 29 29 rfl rfl) g.abs g.int
  have dLP := ok_lplus (p 30 30 rfl rfl) dE
  have dLT := ok_ltimes (p 31 31 rfl rfl) dE
  have dDv := ok_div (P := P) (w := w) (base := base) (p 35 35 rfl rfl) g.int g.abs
  have dLPl := ok_lplain (p 36 36 rfl rfl) g.list g.tuple dDv
  have dLR := ok_lreach (p 37 37 rfl rfl) g.zip dE dLP
  have dLRo := ok_lrow (p 38 38 rfl rfl) g.list g.tuple dDv dLPl
  have pk : DPick P w K mg base := ok_pick (p 26 26 rfl rfl) g.len g.max g.int
  have of' := ok_of (p 27 27 rfl rfl) pk g.len
  have mx := ok_mixed (p 28 28 rfl rfl) pk g.len g.list g.range
  have gr := ok_great (p 32 32 rfl rfl) pk g.range
  have nu := ok_number (p 33 33 rfl rfl) pk gr
  have fr' := ok_fracR (p 34 34 rfl rfl) pk gr of' dE
  have L : Lib P w K mg base := ⟨dI, ok_joined (p 12 12 rfl rfl) dRr, ok_product (p 13 13 rfl rfl) dRr, ok_shifted (p 15 15 rfl rfl) g.tuple dRo dM dPl dRe, ok_scaled (p 16 16 rfl rfl) g.tuple dRo dM dT, ok_open (p 21 21 rfl rfl), ok_mirrored (p 17 17 rfl rfl) g.tuple dRr, ok_placed (p 18 18 rfl rfl) g.tuple dRr, ok_boxed (p 20 20 rfl rfl) g.tuple g.len g.range dU dRo, dIm, ok_next (p 24 24 rfl rfl) dIm,
    dLPl, dLP, dLT, ok_lisin (p 39 39 rfl rfl) dLP dLT dLR, ok_lshifted (p 42 42 rfl rfl) g.tuple dLRo dLP dLR, ok_lscaled (p 43 43 rfl rfl) g.tuple dLRo dLT, ok_lplaced (p 44 44 rfl rfl) g.tuple dLPl, ok_lboxed (p 45 45 rfl rfl) g.tuple g.len g.range g.int dLRo, ok_moved (p 48 48 rfl rfl) g.zip g.tuple dLP dLT,
    pk, of', mx, fr', ok_point (p 41 41 rfl rfl) g.tuple g.range fr', ok_lroom (p 40 40 rfl rfl) g.tuple g.range pk of' mx nu⟩
  exact ok_law F g L ⟨ok_source (p 25 25 rfl rfl) g.int g.abs, ok_made (p 46 46 rfl rfl) g L, ok_two (p 47 47 rfl rfl) g L, ok_nextRight (p 49 49 rfl rfl) g L⟩
end
end K03
open PySem PySem.W PySem.Calls PyProof.Rows
theorem PySem.Challenge.cw_everygust_k03_rooms_of_rooms_holds : PySem.Challenge.rw_everygust_k03_rooms_of_rooms.Holds := by
  w_on; o_law
  refine HandSHeadRun.head_imp (r := K03.Rw) (q := view K03.Rw.prog [0, 55]) (H := K03.hk) (ob := K03.ob) (M := 20000) (loose := K03.loose) (d := HandSHeadRun.topDef K03.Rw.prog 55) (kwd := []) K03.ob_eq
    K03.run (by kernel_rfl) (by kernel_rfl) (by kernel_rfl) (by rfl) (by first | assumption | decide +kernel) (by decide +kernel) ⟨rfl, rfl, rfl, rfl, rfl, by decide +kernel⟩ ?hw ?hc
  case hw => w_witness2
  case hc =>
    refine DL.walkG (l := PySem.Challenge.rw_everygust_k03_rooms_of_rooms) (n := 63) (k := 7) (x := "script") rfl (by decide) (by kernel_rfl) ⟨rfl, by decide, by decide⟩ ?F
    intro w mg fa h Y G hmg0
    obtain ⟨K, KX, c⟩ := Y
    have hmg : mg ("law" : PySem.Str) = some (.ref fa) := by
      have e : (HandSHeadRun.topDef K03.Rw.prog 55).name = ("law" : PySem.Str) := by kernel_rfl
      rw [← e]
      exact hmg0
    obtain ⟨fd, F⟩ := (DL.saysX_d c).def_ 50 (d := DL.defD "law" K03.sLaw) rfl
    exact DL.def_end (st := K03.sLaw) F (fun _ _ _ _ _ _ us hl => match us, hl with | [_], _ => rfl) (fun base => K03.law_of KX G (DL.saysX_own c) (DL.saysX_d c) F) KX (He.glo_ok KX G ((DL.saysX_d c).fact 50 (f := .glo "law") rfl)) hmg
end part_K03zk
