import PyProof.Rows.All
import Wide.All
import OpenK.AllK
import Wide.FinOn
import HandS.ForMost
import HandS.Wide
import HandS.Gcd
import HandS.Lambda
import HandS.Defaults
import HandS.IsInst
import HandS.Style
import HandS.Ends
import HandS.HeadEnd
import HandS.RaiseMore
import HandS.TupMul
import KE.KMathG
import HandS.Zip
import HandS.Star
import HandS.TupAny
import HandS.TryOnly
import HandS.Conv
import HandS.Dict
import KE.KExcSuper
import KE.KSuper
import HandS.ExcInit
import HandS.List
import HandS.ExcValue
import HandS.ExcIs
import KE.KExcIs
import HandS.HeadHook1
import KE.KStateDown
import HandS.HeadHook2
import HandS.Head2
import HandS.Head3
import HandS.Exc
import PySem.Challenge.RW_everygust_k00_errors
set_option Elab.async false
set_option linter.all false
set_option maxRecDepth 100000
set_option maxHeartbeats 0
section part_DMa
/-! The data layer: what a piece of a def does, told of plain data. -/
namespace DM
open L2 PyProof.Rows PySem.Spec PySem

/-! ### heaps -/
def Ex (H H' : Hp) : Prop := ∀ a o, H a = some o → H' a = some o
theorem Ex.refl (H : Hp) : Ex H H := fun _ _ h => h
theorem Ex.trans {H H1 H2 : Hp} (a : Ex H H1) (b : Ex H1 H2) : Ex H H2 := fun x o h => b x o (a x o h)
theorem Ex.new {H : Hp} {p : Addr} {o : HO} (h : H p = none) : Ex H (upd H p o) := fun a u e => by
  rw [upd_ne (ne_of_none e h)]
  exact e
/-- both sides get the same object at p -/
theorem Ex.both {G H : Hp} {p : Addr} {o : HO} (e : Ex G H) : Ex (upd G p o) (upd H p o) := fun a u h => by
  by_cases q : a = p
  · subst q
    rw [upd_same] at h ⊢
    exact h
  · rw [upd_ne q] at h ⊢
    exact e a u h
theorem Ex.put {G H : Hp} {p : Addr} {o : HO} (e : Ex G H) (h : H p = some o) : Ex (upd G p o) H := fun a u q => by
  by_cases z : a = p
  · subst z
    rw [upd_same] at q
    rw [h]
    exact q
  · rw [upd_ne z] at q
    exact e a u q
/-- an object that G does not know may change -/
theorem Ex.mut {G H : Hp} {p : Addr} {o : HO} (e : Ex G H) (h : G p = none) : Ex G (upd H p o) := fun a u q => by
  rw [upd_ne (ne_of_none q h)]
  exact e a u q
theorem Ex.none {G H : Hp} {p : Addr} (e : Ex G H) (h : H p = none) : G p = none := by
  cases q : G p with
  | none => rfl
  | some o =>
    rw [e p o q] at h
    cases h
/-- G' is G and objects that F does not have -/
def Ext (F G G' : Hp) : Prop := Ex G G' ∧ ∀ a o, G' a = some o → G a = none → F a = none
theorem Ext.refl (F G : Hp) : Ext F G G := ⟨Ex.refl G, fun a o h n => by rw [n] at h; cases h⟩
theorem Ext.trans {F G G1 G2 : Hp} (a : Ext F G G1) (b : Ext F G1 G2) : Ext F G G2 := ⟨a.1.trans b.1, fun x o h n => by
  cases e : G1 x with
  | none => exact b.2 x o h e
  | some u => exact a.2 x u e n⟩
theorem Ext.weak {F F' G G' : Hp} (e : Ex F F') (h : Ext F' G G') : Ext F G G' := ⟨h.1, fun a o q n => e.none (h.2 a o q n)⟩
theorem Ext.new {F G : Hp} {p : Addr} {o : HO} (hF : F p = none) (hG : G p = none) : Ext F G (upd G p o) := ⟨Ex.new hG, fun a u h n => by
  by_cases q : a = p
  · rw [q]
    exact hF
  · rw [upd_ne q] at h
    rw [n] at h
    cases h⟩
/-- what G' does not gain -/
theorem Ext.none {F G G' : Hp} (h : Ext F G G') {a : Addr} {o : HO} (hF : F a = some o) (hG : G a = none) : G' a = none := by
  cases e : G' a with
  | none => rfl
  | some u =>
    have z := h.2 a u e hG
    rw [hF] at z
    cases z

theorem sqL_ex {K : PySem.W.Frag} {H H' : Hp} {a : Addr} {xs : List V} (e : Ex H H') (h : SqL K H a xs) : SqL K H' a xs := by
  rcases h with (h | ⟨o, h⟩) | h
  · exact .inl (.inl (e _ _ h))
  · exact .inl (.inr ⟨o, e _ _ h⟩)
  · exact .inr h
theorem sqT_ex {K : PySem.W.Frag} {H H' : Hp} {a : Addr} {xs : List V} (e : Ex H H') (h : SqT K H a xs) : SqT K H' a xs := by
  rcases h with (h | ⟨o, h⟩) | h
  · exact .inl (.inl (e _ _ h))
  · exact .inl (.inr ⟨o, e _ _ h⟩)
  · exact .inr h

/-! ### data in a heap -/
mutual
inductive Da (K : PySem.W.Frag) (H : Hp) : V → PyData → Prop
  | non : Da K H .non .none
  | bl (b : Bool) : Da K H (.bl b) (.bool b)
  | int (i : Int) : Da K H (.int i) (.int i)
  | str (x : Str) : Da K H (.str x) (.str x)
  | lst {a : Addr} {xs : List V} {ds : List PyData} : H a = some (.lst xs) → DaAll K H xs ds → Da K H (.ref a) (.list ds)
  | tup {a : Addr} {xs : List V} {ds : List PyData} : SqT K H a xs → DaAll K H xs ds → Da K H (.ref a) (.tuple ds)
  | dct {a : Addr} {kvs : List (Key × V)} {ds : List (PyData × PyData)} : H a = some (.dK kvs) → DaKvs K H kvs ds → Da K H (.ref a) (.dict ds)
inductive DaAll (K : PySem.W.Frag) (H : Hp) : List V → List PyData → Prop
  | nil : DaAll K H [] []
  | cons {v : V} {vs : List V} {d : PyData} {ds : List PyData} : Da K H v d → DaAll K H vs ds → DaAll K H (v :: vs) (d :: ds)
inductive DaKvs (K : PySem.W.Frag) (H : Hp) : List (Key × V) → List (PyData × PyData) → Prop
  | nil : DaKvs K H [] []
  | int {i : Int} {v : V} {d : PyData} {kvs : List (Key × V)} {ds : List (PyData × PyData)} : Da K H v d → DaKvs K H kvs ds → DaKvs K H ((Sum.inl i, v) :: kvs) ((.int i, d) :: ds)
  | str {x : Str} {v : V} {d : PyData} {kvs : List (Key × V)} {ds : List (PyData × PyData)} : Da K H v d → DaKvs K H kvs ds → DaKvs K H ((Sum.inr x, v) :: kvs) ((.str x, d) :: ds)
end
mutual
theorem da_ex {K : PySem.W.Frag} {H H' : Hp} (e : Ex H H') : ∀ {v : V} {d : PyData}, Da K H v d → Da K H' v d
  | _, _, .non => .non
  | _, _, .bl b => .bl b
  | _, _, .int i => .int i
  | _, _, .str x => .str x
  | _, _, .lst h1 h2 => .lst (e _ _ h1) (daAll_ex e h2)
  | _, _, .tup h1 h2 => .tup (sqT_ex e h1) (daAll_ex e h2)
  | _, _, .dct h1 h2 => .dct (e _ _ h1) (daKvs_ex e h2)
theorem daAll_ex {K : PySem.W.Frag} {H H' : Hp} (e : Ex H H') : ∀ {vs : List V} {ds : List PyData}, DaAll K H vs ds → DaAll K H' vs ds
  | _, _, .nil => .nil
  | _, _, .cons h1 h2 => .cons (da_ex e h1) (daAll_ex e h2)
theorem daKvs_ex {K : PySem.W.Frag} {H H' : Hp} (e : Ex H H') : ∀ {vs : List (Key × V)} {ds : List (PyData × PyData)}, DaKvs K H vs ds → DaKvs K H' vs ds
  | _, _, .nil => .nil
  | _, _, .int h1 h2 => .int (da_ex e h1) (daKvs_ex e h2)
  | _, _, .str h1 h2 => .str (da_ex e h1) (daKvs_ex e h2)
end
section
variable {K : PySem.W.Frag} {H : Hp}
theorem daAll_len : ∀ {vs : List V} {ds : List PyData}, DaAll K H vs ds → vs.length = ds.length
  | _, _, .nil => rfl
  | _, _, .cons _ h => congrArg (· + 1) (daAll_len h)
theorem daAll_get : ∀ {vs : List V} {ds : List PyData} {i : Nat} {d : PyData}, DaAll K H vs ds → ds[i]? = some d → ∃ v, vs[i]? = some v ∧ Da K H v d
  | _, _, i, d, .nil, e => by simp at e
  | _, _, 0, d, .cons h _, e => by
    simp at e
    subst e
    exact ⟨_, rfl, h⟩
  | _, _, i + 1, d, .cons _ t, e => by
    obtain ⟨v, h1, h2⟩ := daAll_get (i := i) t (by simpa using e)
    exact ⟨v, by simpa using h1, h2⟩
theorem daAll_getV : ∀ {vs : List V} {ds : List PyData} {i : Nat} {v : V}, DaAll K H vs ds → vs[i]? = some v → ∃ d, ds[i]? = some d ∧ Da K H v d
  | _, _, i, d, .nil, e => by simp at e
  | _, _, 0, d, .cons h _, e => by
    simp at e
    subst e
    exact ⟨_, rfl, h⟩
  | _, _, i + 1, d, .cons _ t, e => by
    obtain ⟨v, h1, h2⟩ := daAll_getV (i := i) t (by simpa using e)
    exact ⟨v, by simpa using h1, h2⟩
theorem daAll_app : ∀ {vs ws : List V} {ds es : List PyData}, DaAll K H vs ds → DaAll K H ws es → DaAll K H (vs ++ ws) (ds ++ es)
  | _, _, _, _, .nil, h => h
  | _, _, _, _, .cons h t, h2 => .cons h (daAll_app t h2)
theorem daAll_take : ∀ {vs : List V} {ds : List PyData} (n : Nat), DaAll K H vs ds → DaAll K H (vs.take n) (ds.take n)
  | _, _, 0, _ => .nil
  | _, _, n + 1, .nil => .nil
  | _, _, n + 1, .cons h t => .cons h (daAll_take n t)
theorem daAll_drop : ∀ {vs : List V} {ds : List PyData} (n : Nat), DaAll K H vs ds → DaAll K H (vs.drop n) (ds.drop n)
  | _, _, 0, h => h
  | _, _, n + 1, .nil => .nil
  | _, _, n + 1, .cons h t => daAll_drop n t
theorem daAll_rev {vs : List V} {ds : List PyData} (h : DaAll K H vs ds) : DaAll K H vs.reverse ds.reverse := by
  induction vs generalizing ds with
  | nil => cases h; exact .nil
  | cons v vs ih =>
    cases h with
    | cons h1 h2 =>
      rw [List.reverse_cons, List.reverse_cons]
      exact daAll_app (ih h2) (.cons h1 .nil)
theorem daAll_erase : ∀ {vs : List V} {ds : List PyData} (n : Nat), DaAll K H vs ds → DaAll K H (vs.eraseIdx n) (ds.eraseIdx n)
  | _, _, _, .nil => .nil
  | _, _, 0, .cons _ t => t
  | _, _, n + 1, .cons h t => .cons h (daAll_erase n t)
theorem daAll_set : ∀ {vs : List V} {ds : List PyData} {v : V} {d : PyData} (n : Nat), Da K H v d → DaAll K H vs ds → DaAll K H (vs.set n v) (ds.set n d)
  | _, _, _, _, _, _, .nil => .nil
  | _, _, _, _, 0, q, .cons _ t => .cons q t
  | _, _, _, _, n + 1, q, .cons h t => .cons h (daAll_set n q t)
theorem daAll_ints : ∀ (ns : List Int), DaAll K H (ns.map V.int) (ns.map PyData.int)
  | [] => .nil
  | n :: ns => .cons (.int n) (daAll_ints ns)
theorem ints_daAll : ∀ {vs : List V} {ns : List Int}, DaAll K H vs (ns.map PyData.int) → vs = ns.map V.int
  | _, [], h => by cases h; rfl
  | _, n :: ns, h => by
    cases h with
    | cons h1 h2 =>
      cases h1
      rw [ints_daAll h2]
      rfl
theorem bls_daAll : ∀ {vs : List V} {ns : List Bool}, DaAll K H vs (ns.map PyData.bool) → vs = ns.map V.bl
  | _, [], h => by cases h; rfl
  | _, n :: ns, h => by
    cases h with
    | cons h1 h2 =>
      cases h1
      rw [bls_daAll h2]
      rfl
theorem daAll_one {vs : List V} {d : PyData} (h : DaAll K H vs [d]) : ∃ v, vs = [v] ∧ Da K H v d := by
  cases h with
  | cons h1 h2 => cases h2; exact ⟨_, rfl, h1⟩
theorem daAll_two {vs : List V} {d e : PyData} (h : DaAll K H vs [d, e]) : ∃ v w, vs = [v, w] ∧ Da K H v d ∧ Da K H w e := by
  cases h with
  | cons h1 h2 =>
    obtain ⟨w, rfl, h3⟩ := daAll_one h2
    exact ⟨_, _, rfl, h1, h3⟩
end

/-! ### what the slots hold -/
/-- the law's source of numbers -/
structure Src where
  cells : List Int
  left : Int
  mixed : Int
  turn : Int
  more : List (Key × V) := []
def srcK (l : Addr) (t : Src) : List (Key × V) := (Sum.inr "cells", V.ref l) :: (Sum.inr "left", V.int t.left) :: (Sum.inr "mixed", V.int t.mixed) :: (Sum.inr "turn", V.int t.turn) :: t.more
structure SrcAt (H : Hp) (s l : Addr) (t : Src) : Prop where
  d : H s = some (.dK (srcK l t))
  c : H l = some (.lst (t.cells.map V.int))
inductive Sl where
  | un
  | dat (d : PyData)
  | own (ds : List PyData)
  | src (s l : Addr) (t : Src)
  | scr (ns : List Int)
  | pin (v : V) (T : Hp)
def Hold (K : PySem.W.Frag) (G H : Hp) (o : Option (Option V)) (as : List Addr) : Sl → Prop
  | .un => True
  | .dat d => ∃ v, o = some (some v) ∧ Da K G v d
  | .own ds => ∃ l xs, o = some (some (.ref l)) ∧ l ∈ as ∧ H l = some (.lst xs) ∧ DaAll K G xs ds
  | .src s l t => o = some (some (.ref s)) ∧ s ∈ as ∧ l ∈ as ∧ SrcAt H s l t
  | .scr ns => ∃ a, o = some (some (.ref a)) ∧ SqL K G a (ns.map V.int)
  | .pin v T => o = some (some v) ∧ Ex T G
/-! ### tables of code objects, which the making of a lambda changes -/
class Tabl where
  tk : PySem.W.Frag → List (Addr × Str)
abbrev TKs [Tabl] (K : PySem.W.Frag) : List (Addr × Str) := Tabl.tk K
/-- neither a table nor a code object -/
def NotX (o : HO) : Prop := (∀ ps, o ≠ .tbl ps) ∧ ∀ c q, o ≠ LamX.CodeO c q
theorem notX_lst {xs : List V} : NotX (.lst xs) := ⟨fun _ z => (by cases z), fun c q z => (by unfold LamX.CodeO at z; cases z)⟩
theorem notX_dK {xs : List (Key × V)} : NotX (.dK xs) := ⟨fun _ z => (by cases z), fun c q z => (by unfold LamX.CodeO at z; cases z)⟩
theorem notX_of {H : Hp} {l : Addr} (h : H l = none) : ∀ o, H l = some o → NotX o := fun o e => by rw [h] at e; cases e
theorem notX_at {H : Hp} {l : Addr} {u : HO} (h : H l = some u) (n : NotX u) : ∀ o, H l = some o → NotX o := fun o e => by rw [h] at e; cases e; exact n
theorem tabs_mut [Tabl] {T : List (Addr × Str)} {H : Hp} {l : Addr} {o : HO} (t : LamX.Tabs T H) (h : ∀ u, H l = some u → NotX u) : LamX.Tabs T (upd H l o) := fun p hp => by
  obtain ⟨ps, h1, h2, h3⟩ := t p hp
  refine ⟨ps, by rw [upd_ne (fun z => (h _ (by rw [← z]; exact h1)).1 ps rfl)]; exact h1, h2, fun pos cv e => ?_⟩
  obtain ⟨c, e1, e2⟩ := h3 pos cv e
  exact ⟨c, e1, by rw [upd_ne (fun z => (h _ (by rw [← z]; exact e2)).2 c p.2 rfl)]; exact e2⟩
structure Tbk [Tabl] (K : PySem.W.Frag) (F G H : Hp) : Prop where
  tb : LamX.Tabs (TKs K) H
  ft : ∀ p ∈ TKs K, F p.1 = none
  gt : ∀ p ∈ TKs K, G p.1 = none
section
variable [Tabl] {K : PySem.W.Frag} {F F' G G' H H' : Hp} {l : Addr} {o : HO}
theorem Tbk.ne (t : Tbk K F G H) {p : Addr × Str} (hp : p ∈ TKs K) (h : ∀ u, H l = some u → NotX u) : p.1 ≠ l := fun z => by
  obtain ⟨ps, h1, _⟩ := t.tb p hp
  exact (h _ (by rw [← z]; exact h1)).1 ps rfl
theorem Tbk.grow (t : Tbk K F G H) (eh : Ex H H') (eg : Ext H G G') : Tbk K F G' H' := ⟨t.tb.ext eh, t.ft, fun p hp => by
  obtain ⟨ps, h1, _⟩ := t.tb p hp
  exact eg.none h1 (t.gt p hp)⟩
theorem Tbk.put (t : Tbk K F G H) (h : ∀ u, H l = some u → NotX u) : Tbk K F (upd G l o) H := ⟨t.tb, t.ft, fun p hp => by
  rw [upd_ne (t.ne hp h)]
  exact t.gt p hp⟩
theorem Tbk.mut [Tabl] (t : Tbk K F G H) (h : ∀ u, H l = some u → NotX u) : Tbk K F G (upd H l o) := ⟨tabs_mut t.tb h, t.ft, t.gt⟩
theorem Tbk.frame (t : Tbk K F' G H) (e : Ex F F') : Tbk K F G H := ⟨t.tb, fun p hp => e.none (t.ft p hp), t.gt⟩
theorem Tbk.framed (t : Tbk K F G H) (h : ∀ u, H l = some u → NotX u) : Tbk K (upd F l o) G H := ⟨t.tb, fun p hp => by
  rw [upd_ne (t.ne hp h)]
  exact t.ft p hp, t.gt⟩
end
/-- F: what stays as it is; G: what data lean on; H: the heap -/
structure Sta [Tabl] (K : PySem.W.Frag) (F G H : Hp) (σ : L2.St) (ρ : List Sl) (ad : Nat → List Addr) : Prop where
  gh : Ex G H
  fh : Ex F H
  own : ∀ i a, a ∈ ad i → G a = none ∧ F a = none
  there : ∀ i a, a ∈ ad i → ∃ o, H a = some o
  dis : ∀ i j a, a ∈ ad i → a ∈ ad j → i = j
  len : σ.length = ρ.length
  hold : ∀ i r, ρ[i]? = some r → Hold K G H (σ[i]?) (ad i) r
  tk : Tbk K F G H

section
variable [Tabl] {K : PySem.W.Frag} {F F' G G' H H' : Hp} {σ : L2.St} {ρ : List Sl} {ad : Nat → List Addr} {i : Nat} {o : Option (Option V)} {as : List Addr} {r : Sl} {d : PyData} {ds : List PyData} {v : V} {l : Addr} {xs : List V}
theorem Hold.grow (h : Hold K G H o as r) (eg : Ex G G') (eh : ∀ a, a ∈ as → ∀ u, H a = some u → H' a = some u) : Hold K G' H' o as r := by
  cases r with
  | un => trivial
  | dat d =>
    obtain ⟨v, h1, h2⟩ := h
    exact ⟨v, h1, da_ex eg h2⟩
  | own ds =>
    obtain ⟨l, xs, h1, h2, h3, h4⟩ := h
    exact ⟨l, xs, h1, h2, eh l h2 _ h3, daAll_ex eg h4⟩
  | src s l t =>
    obtain ⟨h1, h2, h3, h4⟩ := h
    exact ⟨h1, h2, h3, eh s h2 _ h4.d, eh l h3 _ h4.c⟩
  | scr ns =>
    obtain ⟨a, h1, h2⟩ := h
    exact ⟨a, h1, sqL_ex eg h2⟩
  | pin v T => exact ⟨h.1, h.2.trans eg⟩
theorem Hold.more (h : Hold K G H o as r) {bs : List Addr} (hb : ∀ a ∈ as, a ∈ bs) : Hold K G H o bs r := by
  cases r with
  | un => trivial
  | dat d => exact h
  | own ds =>
    obtain ⟨l, xs, h1, h2, h3, h4⟩ := h
    exact ⟨l, xs, h1, hb _ h2, h3, h4⟩
  | src s l t =>
    obtain ⟨h1, h2, h3, h4⟩ := h
    exact ⟨h1, hb _ h2, hb _ h3, h4⟩
  | scr ns => exact h
  | pin v T => exact h
/-- the heap grows -/
theorem Sta.grow [Tabl] (w : Sta K F G H σ ρ ad) (eh : Ex H H') (eg : Ext H G G') (gh : Ex G' H') : Sta K F G' H' σ ρ ad where
  gh := gh
  fh := w.fh.trans eh
  own := fun i a h => by
    obtain ⟨o, ho⟩ := w.there i a h
    exact ⟨eg.none ho (w.own i a h).1, (w.own i a h).2⟩
  there := fun i a h => by
    obtain ⟨o, ho⟩ := w.there i a h
    exact ⟨o, eh a o ho⟩
  dis := w.dis
  len := w.len
  hold := fun i r h => (w.hold i r h).grow eg.1 fun a _ u q => eh a u q
  tk := w.tk.grow eh eg
theorem Sta.dat [Tabl] (w : Sta K F G H σ ρ ad) (h : ρ[i]? = some (.dat d)) : ∃ v, σ[i]? = some (some v) ∧ Da K G v d := w.hold i _ h
/-- slot i is set to data -/
theorem Sta.set [Tabl] (w : Sta K F G H σ ρ ad) (h : Da K G v d) (hr : i < ρ.length) : Sta K F G H (σ.set i (some v)) (ρ.set i (.dat d)) (fun j => if j = i then [] else ad j) where
  gh := w.gh
  fh := w.fh
  own := fun j a q => by
    by_cases e : j = i
    · rw [if_pos e] at q; cases q
    · rw [if_neg e] at q; exact w.own j a q
  there := fun j a q => by
    by_cases e : j = i
    · rw [if_pos e] at q; cases q
    · rw [if_neg e] at q; exact w.there j a q
  dis := fun j k a q1 q2 => by
    by_cases e : j = i
    · rw [if_pos e] at q1; cases q1
    · rw [if_neg e] at q1
      by_cases e2 : k = i
      · rw [if_pos e2] at q2; cases q2
      · rw [if_neg e2] at q2; exact w.dis j k a q1 q2
  len := by rw [List.length_set, List.length_set]; exact w.len
  hold := fun j r q => by
    have hi : i < σ.length := by rw [w.len]; exact hr
    by_cases e : j = i
    · subst e
      rw [List.getElem?_set_self (by
        have := (List.getElem?_eq_some_iff.mp q).1
        rw [List.length_set] at this
        exact this)] at q
      cases q
      rw [List.getElem?_set_self hi]
      exact ⟨v, rfl, h⟩
    · rw [List.getElem?_set_ne (Ne.symm e)] at q ⊢
      rw [if_neg e]
      exact w.hold j r q
  tk := w.tk
/-- slot i is set to a list of one's own -/
theorem Sta.setO [Tabl] (w : Sta K F G H σ ρ ad) (hl : H l = some (.lst xs)) (hd : DaAll K G xs ds) (hF : F l = none) (hG : G l = none) (ha : ∀ j, l ∉ ad j) (hr : i < ρ.length) :
    Sta K F G H (σ.set i (some (.ref l))) (ρ.set i (.own ds)) (fun j => if j = i then [l] else ad j) where
  gh := w.gh
  fh := w.fh
  own := fun j a q => by
    by_cases e : j = i
    · rw [if_pos e] at q
      rw [List.mem_singleton.mp q]
      exact ⟨hG, hF⟩
    · rw [if_neg e] at q; exact w.own j a q
  there := fun j a q => by
    by_cases e : j = i
    · rw [if_pos e] at q
      rw [List.mem_singleton.mp q]
      exact ⟨_, hl⟩
    · rw [if_neg e] at q; exact w.there j a q
  dis := fun j k a q1 q2 => by
    by_cases e : j = i
    · rw [if_pos e] at q1
      by_cases e2 : k = i
      · rw [e, e2]
      · rw [if_neg e2] at q2
        rw [List.mem_singleton.mp q1] at q2
        exact absurd q2 (ha k)
    · rw [if_neg e] at q1
      by_cases e2 : k = i
      · rw [if_pos e2] at q2
        rw [List.mem_singleton.mp q2] at q1
        exact absurd q1 (ha j)
      · rw [if_neg e2] at q2; exact w.dis j k a q1 q2
  len := by rw [List.length_set, List.length_set]; exact w.len
  hold := fun j r q => by
    have hi : i < σ.length := by rw [w.len]; exact hr
    by_cases e : j = i
    · subst e
      rw [List.getElem?_set_self (by
        have := (List.getElem?_eq_some_iff.mp q).1
        rw [List.length_set] at this
        exact this)] at q
      cases q
      rw [List.getElem?_set_self hi, if_pos rfl]
      exact ⟨l, xs, rfl, List.mem_singleton.mpr rfl, hl, hd⟩
    · rw [List.getElem?_set_ne (Ne.symm e)] at q ⊢
      rw [if_neg e]
      exact w.hold j r q
  tk := w.tk
/-- a list of one's own becomes data -/
theorem Sta.freeze [Tabl] (w : Sta K F G H σ ρ ad) (h : ρ[i]? = some (.own ds)) : ∃ (l : Addr) (G' : Hp), σ[i]? = some (some (.ref l)) ∧ Ext F G G' ∧ Da K G' (.ref l) (.list ds) ∧
    Sta K F G' H σ (ρ.set i (.dat (.list ds))) (fun j => if j = i then [] else ad j) := by
  obtain ⟨l, xs, h1, h2, h3, h4⟩ := w.hold i _ h
  obtain ⟨hG, hF⟩ := w.own i l h2
  have ex : Ext F G (upd G l (.lst xs)) := Ext.new hF hG
  have dd : Da K (upd G l (.lst xs)) (.ref l) (.list ds) := .lst upd_same (daAll_ex ex.1 h4)
  refine ⟨l, upd G l (.lst xs), h1, ex, dd, ?_⟩
  refine ⟨w.gh.put h3, w.fh, fun j a q => ?_, fun j a q => ?_, fun j k a q1 q2 => ?_, by rw [List.length_set]; exact w.len, fun j r q => ?_, w.tk.put (notX_at h3 notX_lst)⟩
  · by_cases e : j = i
    · rw [if_pos e] at q; cases q
    · rw [if_neg e] at q
      have ne : a ≠ l := fun z => e (w.dis j i a q (by rw [z]; exact h2))
      exact ⟨by rw [upd_ne ne]; exact (w.own j a q).1, (w.own j a q).2⟩
  · by_cases e : j = i
    · rw [if_pos e] at q; cases q
    · rw [if_neg e] at q; exact w.there j a q
  · by_cases e : j = i
    · rw [if_pos e] at q1; cases q1
    · rw [if_neg e] at q1
      by_cases e2 : k = i
      · rw [if_pos e2] at q2; cases q2
      · rw [if_neg e2] at q2; exact w.dis j k a q1 q2
  · by_cases e : j = i
    · subst e
      rw [List.getElem?_set_self (List.getElem?_eq_some_iff.mp h).1] at q
      cases q
      exact ⟨_, h1, dd⟩
    · rw [List.getElem?_set_ne (Ne.symm e)] at q
      rw [if_neg e]
      exact (w.hold j r q).grow ex.1 fun a _ u z => z
/-- the own list at i is changed in place -/
theorem Sta.mutO [Tabl] {ys : List V} {es : List PyData} (w : Sta K F G H σ ρ ad) (h : ρ[i]? = some (.own ds)) (hl : σ[i]? = some (some (.ref l))) (hd : DaAll K G ys es) :
    Sta K F G (upd H l (.lst ys)) σ (ρ.set i (.own es)) ad := by
  obtain ⟨l', xs, h1, h2, h3, h4⟩ := w.hold i _ h
  have el : l' = l := by
    rw [hl] at h1
    cases h1
    rfl
  subst el
  obtain ⟨hG, hF⟩ := w.own i l' h2
  refine ⟨w.gh.mut hG, w.fh.mut hF, w.own, fun j a q => ?_, w.dis, by rw [List.length_set]; exact w.len, fun j r q => ?_, w.tk.mut (notX_at h3 notX_lst)⟩
  · by_cases e : a = l'
    · rw [e, upd_same]; exact ⟨_, rfl⟩
    · rw [upd_ne e]; exact w.there j a q
  · by_cases e : j = i
    · subst e
      rw [List.getElem?_set_self (List.getElem?_eq_some_iff.mp h).1] at q
      cases q
      exact ⟨l', ys, h1, h2, upd_same, hd⟩
    · rw [List.getElem?_set_ne (Ne.symm e)] at q
      refine (w.hold j r q).grow (Ex.refl G) fun a ha u z => ?_
      rw [upd_ne fun y => e (w.dis j i a ha (by rw [y]; exact h2))]
      exact z
theorem Sta.frame [Tabl] (w : Sta K F' G H σ ρ ad) (e : Ex F F') : Sta K F G H σ ρ ad := ⟨w.gh, e.trans w.fh, fun i a q => ⟨(w.own i a q).1, e.none (w.own i a q).2⟩, w.there, w.dis, w.len, w.hold, w.tk.frame e⟩
theorem Sta.framed [Tabl] {D : Addr} {o : HO} (w : Sta K F G H σ ρ ad) (h : H D = some o) (ho : NotX o) (hD : ∀ j, D ∉ ad j) : Sta K (upd F D o) G H σ ρ ad := ⟨w.gh, w.fh.put h, fun i a q => ⟨(w.own i a q).1, by
  rw [upd_ne (fun z => hD i (by rw [← z]; exact q))]
  exact (w.own i a q).2⟩, w.there, w.dis, w.len, w.hold, w.tk.framed (notX_at h ho)⟩
theorem Sta.mutX [Tabl] {D : Addr} {o : HO} (w : Sta K F G H σ ρ ad) (hX : ∀ u, H D = some u → NotX u) (hG : G D = none) (hF : F D = none) (hD : ∀ j, D ∉ ad j) : Sta K F G (upd H D o) σ ρ ad := ⟨w.gh.mut hG, w.fh.mut hF, w.own, fun i a q => by
  obtain ⟨u, hu⟩ := w.there i a q
  exact ⟨u, by rw [upd_ne (fun z => hD i (by rw [← z]; exact q))]; exact hu⟩, w.dis, w.len, fun i r q => (w.hold i r q).grow (Ex.refl G) fun a ha u z => by
  rw [upd_ne (fun y => hD i (by rw [← y]; exact ha))]
  exact z, w.tk.mut hX⟩
/-- forget -/
def Le (ρ ρ' : List Sl) : Prop := ρ.length = ρ'.length ∧ ∀ (i : Nat) (r : Sl), ρ'[i]? = some r → r = Sl.un ∨ ρ[i]? = some r
theorem Le.refl (ρ : List Sl) : Le ρ ρ := ⟨rfl, fun _ _ h => .inr h⟩
theorem Sta.le [Tabl] {ρ' : List Sl} (w : Sta K F G H σ ρ ad) (h : Le ρ ρ') : Sta K F G H σ ρ' ad :=
  ⟨w.gh, w.fh, w.own, w.there, w.dis, w.len.trans h.1, fun i r q => by
    rcases h.2 i r q with e | e
    · subst e; trivial
    · exact w.hold i r e, w.tk⟩
theorem le_nil : Le [] [] := ⟨rfl, fun i r h => by simp at h⟩
theorem le_cons {a : Sl} {ρ' : List Sl} (h : Le ρ ρ') : Le (a :: ρ) (a :: ρ') := ⟨by rw [List.length_cons, List.length_cons, h.1], fun i r q => by
  cases i with
  | zero => exact .inr q
  | succ i => exact h.2 i r (by simpa using q)⟩
theorem le_un {a : Sl} {ρ' : List Sl} (h : Le ρ ρ') : Le (a :: ρ) (Sl.un :: ρ') := ⟨by rw [List.length_cons, List.length_cons, h.1], fun i r q => by
  cases i with
  | zero =>
    simp at q
    exact .inl q.symm
  | succ i => exact h.2 i r (by simpa using q)⟩
end
end DM
end part_DMa
section part_DMb
namespace DM
open L2 PyProof.Rows PySem.Spec PySem
/-! ### judgements -/
def cE [Tabl] (K : PySem.W.Frag) (ρ : List Sl) (d : PyData) (ρ' : List Sl) : TE := fun σ H Q => ∃ F G ad, Sta K F G H σ ρ ad ∧ ∀ v H' G' ad', Ext F G G' → Sta K F G' H' σ ρ' ad' → Da K G' v d → Q v H'
def cO [Tabl] (K : PySem.W.Frag) (ρ : List Sl) (ds : List PyData) (ρ' : List Sl) : TE := fun σ H Q => ∃ F G ad, Sta K F G H σ ρ ad ∧
  ∀ l xs H' G' ad', Ext F G G' → Sta K F G' H' σ ρ' ad' → F l = none → G' l = none → (∀ j, l ∉ ad' j) → H' l = some (.lst xs) → DaAll K G' xs ds → Q (.ref l) H'
def cT [Tabl] (K : PySem.W.Frag) (ρ : List Sl) (b : Bool) (ρ' : List Sl) : TT := fun σ H Q => ∃ F G ad, Sta K F G H σ ρ ad ∧ ∀ H' G' ad', Ext F G G' → Sta K F G' H' σ ρ' ad' → Q b H'
def cA [Tabl] (K : PySem.W.Frag) (ρ : List Sl) (ds : List PyData) (ρ' : List Sl) : TA := fun σ H Q => ∃ F G ad, Sta K F G H σ ρ ad ∧ ∀ vs H' G' ad', Ext F G G' → Sta K F G' H' σ ρ' ad' → DaAll K G' vs ds → Q vs H'
def E [Tabl] (X : Cx) (e : Expr) (ρ : List Sl) (d : PyData) (ρ' : List Sl) : Prop := PE X e (cE X.K ρ d ρ')
def EO [Tabl] (X : Cx) (e : Expr) (ρ : List Sl) (ds : List PyData) (ρ' : List Sl) : Prop := PE X e (cO X.K ρ ds ρ')
def T [Tabl] (X : Cx) (e : Expr) (ρ : List Sl) (b : Bool) (ρ' : List Sl) : Prop := PT X e (cT X.K ρ b ρ')
def EA [Tabl] (X : Cx) (es : List Expr) (ρ : List Sl) (ds : List PyData) (ρ' : List Sl) : Prop := PA X es (cA X.K ρ ds ρ')
theorem pe_imp {X : Cx} {e : Expr} {t t' : TE} (h : PE X e t) (k : ∀ σ H Q, t' σ H Q → t σ H Q) : PE X e t' := ⟨fun pins s σ H Q I q => h.run pins s σ H Q I (k σ H Q q)⟩
theorem pt_imp {X : Cx} {e : Expr} {t t' : TT} (h : PT X e t) (k : ∀ σ H Q, t' σ H Q → t σ H Q) : PT X e t' := ⟨fun pins s σ H Q I q => h.run pins s σ H Q I (k σ H Q q)⟩
theorem pw_imp {X : Cx} {e : Expr} {t t' : TT} (h : PW X e t) (k : ∀ σ H Q, t' σ H Q → t σ H Q) : PW X e t' := ⟨fun wh pins s σ H Q I q => h.run wh pins s σ H Q I (k σ H Q q)⟩
theorem pa_imp {X : Cx} {e : List Expr} {t t' : TA} (h : PA X e t) (k : ∀ σ H Q, t' σ H Q → t σ H Q) : PA X e t' := ⟨fun pos pins s σ H Q I q => h.run pos pins s σ H Q I (k σ H Q q)⟩

section
variable {X : Cx} {e a b c : Expr} {ρ ρ0 ρ1 ρ2 ρ3 : List Sl} {d d1 d2 d3 : PyData} {ds es : List PyData} {x : Str} {pos : Pos}
/-- the same, its value told otherwise -/
theorem E.to [Tabl] (h : E X e ρ d ρ1) (q : d = d2) : E X e ρ d2 ρ1 := by subst q; exact h
theorem EO.to [Tabl] (h : EO X e ρ ds ρ1) (q : ds = es) : EO X e ρ es ρ1 := by subst q; exact h
theorem T.to [Tabl] {p q : Bool} (h : T X e ρ p ρ1) (z : p = q) : T X e ρ q ρ1 := by subst z; exact h
theorem EA.to [Tabl] (h : EA X [e] ρ ds ρ1) (q : ds = es) : EA X [e] ρ es ρ1 := by subst q; exact h

theorem e_var [Tabl] (i : Nat) (h : ρ[i]? = some (.dat d) := by rfl) (hN : X.N[i]? = some x := by rfl) (hv : Vis X.env.scope x := by first | exact Or.inl rfl | exact Or.inr (Or.inl rfl) | exact Or.inr (Or.inr rfl))
    (hd : (x == ("__debug__" : Str)) = false := by decide) (hcd : (x == ("__classdict__" : Str)) = false := by decide) : E X (.Name x pos) ρ d ρ :=
  pe_imp (pe_var hN hv hd hcd) fun σ H Q ⟨F, G, ad, w, k⟩ => by
    obtain ⟨v, h1, h2⟩ := w.dat h
    exact ⟨v, h1, k v H G ad (Ext.refl F G) w h2⟩
/-- a list of one's own, read as data: it is data from then on -/
theorem e_varO [Tabl] (i : Nat) (h : ρ[i]? = some (.own ds) := by rfl) (hN : X.N[i]? = some x := by rfl) (hv : Vis X.env.scope x := by first | exact Or.inl rfl | exact Or.inr (Or.inl rfl) | exact Or.inr (Or.inr rfl))
    (hd : (x == ("__debug__" : Str)) = false := by decide) (hcd : (x == ("__classdict__" : Str)) = false := by decide) : E X (.Name x pos) ρ (.list ds) (ρ.set i (.dat (.list ds))) :=
  pe_imp (pe_var hN hv hd hcd) fun σ H Q ⟨F, G, ad, w, k⟩ => by
    obtain ⟨l, G', h1, h2, h3, h4⟩ := w.freeze h
    exact ⟨_, h1, k _ H G' _ h2 h4 h3⟩
theorem e_int [Tabl] {i : Int} {j : Nat} : E X (.Constant (.int i) j pos) ρ (.int i) ρ := pe_imp pe_int fun σ H Q ⟨F, G, ad, w, k⟩ => k _ H G ad (Ext.refl F G) w (.int i)
theorem e_bl [Tabl] {i : Bool} {j : Nat} : E X (.Constant (.bool i) j pos) ρ (.bool i) ρ := pe_imp pe_bl fun σ H Q ⟨F, G, ad, w, k⟩ => k _ H G ad (Ext.refl F G) w (.bl i)
theorem e_non [Tabl] {j : Nat} : E X (.Constant .none j pos) ρ .none ρ := pe_imp pe_non fun σ H Q ⟨F, G, ad, w, k⟩ => k _ H G ad (Ext.refl F G) w .non
theorem e_str [Tabl] {z : Str} {j : Nat} : E X (.Constant (.str z) j pos) ρ (.str z) ρ := pe_imp pe_str fun σ H Q ⟨F, G, ad, w, k⟩ => k _ H G ad (Ext.refl F G) w (.str z)
/-- a new list, read as data -/
theorem e_O [Tabl] (h : EO X e ρ ds ρ1) : E X e ρ (.list ds) ρ1 := pe_imp h fun σ H Q ⟨F, G, ad, w, k⟩ => ⟨F, G, ad, w, fun l xs H' G' ad' e w' hF hG hj hl hd => by
  have ex : Ext F G' (upd G' l (.lst xs)) := Ext.new hF hG
  refine k (.ref l) H' (upd G' l (.lst xs)) ad' (e.trans ex) ⟨w'.gh.put hl, w'.fh, fun i a q => ?_, w'.there, w'.dis, w'.len, fun i r q => (w'.hold i r q).grow ex.1 fun _ _ _ z => z, w'.tk.put (notX_at hl notX_lst)⟩ (.lst upd_same (daAll_ex ex.1 hd))
  have ne : a ≠ l := fun z => hj i (by rw [← z]; exact q)
  exact ⟨by rw [upd_ne ne]; exact (w'.own i a q).1, (w'.own i a q).2⟩⟩

/-! ### operators, by values -/
def cOp (K : PySem.W.Frag) (d1 d2 d : PyData) : R2 := fun x y H Q => ∃ G, Ex G H ∧ Da K G x d1 ∧ Da K G y d2 ∧ ∀ v H' G', Ex H H' → Ext H G G' → Ex G' H' → Da K G' v d → Q v H'
def cOpO (K : PySem.W.Frag) (d1 d2 : PyData) (ds : List PyData) : R2 := fun x y H Q => ∃ G, Ex G H ∧ Da K G x d1 ∧ Da K G y d2 ∧
  ∀ l xs, H l = none → DaAll K G xs ds → Q (.ref l) (upd H l (.lst xs))
def OpV (X : Cx) (f : Value → Value → Sem Value) (d1 d2 d : PyData) : Prop := OpR X f (cOp X.K d1 d2 d)
def OpO (X : Cx) (f : Value → Value → Sem Value) (d1 d2 : PyData) (ds : List PyData) : Prop := OpR X f (cOpO X.K d1 d2 ds)
theorem op_imp {f : Value → Value → Sem Value} {r r' : R2} (h : OpR X f r) (k : ∀ x y H Q, r' x y H Q → r x y H Q) : OpR X f r' := fun pins s σ H x y v u Q I rx ry q => h pins s σ H x y v u Q I rx ry (k x y H Q q)
/-- what a two-place reading asks, from the parts -/
theorem two [Tabl] {ta tb : TE} {K : PySem.W.Frag} (ha : ta = cE K ρ d1 ρ1) (hb : tb = cE K ρ1 d2 ρ2) {r : R2} {σ : L2.St} {H : Hp} {Q : VK} (hr : ∀ x y H2 Q, cOp K d1 d2 d x y H2 Q → r x y H2 Q) (h : cE K ρ d ρ2 σ H Q) : tOp r ta tb σ H Q := by
  subst ha hb
  obtain ⟨F, G, ad, w, k⟩ := h
  refine ⟨F, G, ad, w, fun x H1 G1 ad1 e1 w1 p1 => ⟨F, G1, ad1, w1, fun y H2 G2 ad2 e2 w2 p2 => hr x y H2 Q ⟨G2, w2.gh, da_ex e2.1 p1, p2, fun v H' G' eh eg gh p => ?_⟩⟩⟩
  exact k v H' G' ad2 ((e1.trans e2).trans (eg.weak w2.fh)) (w2.grow eh eg gh) p
theorem e_bin [Tabl] {op : Operator} (ha : E X a ρ d1 ρ1) (hb : E X b ρ1 d2 ρ2) (ho : OpV X (binaryOp op) d1 d2 d) : E X (.BinOp a op b pos) ρ d ρ2 :=
  pe_imp (pe_op ho ha hb) fun σ H Q h => two rfl rfl (fun _ _ _ _ z => z) h
theorem eo_bin [Tabl] {op : Operator} (ha : E X a ρ d1 ρ1) (hb : E X b ρ1 d2 ρ2) (ho : OpO X (binaryOp op) d1 d2 ds) : EO X (.BinOp a op b pos) ρ ds ρ2 :=
  pe_imp (pe_op ho ha hb) fun σ H Q ⟨F, G, ad, w, k⟩ => ⟨F, G, ad, w, fun x H1 G1 ad1 e1 w1 p1 => ⟨F, G1, ad1, w1, fun y H2 G2 ad2 e2 w2 p2 => ⟨G2, w2.gh, da_ex e2.1 p1, p2, fun l xs hl hd => by
    have hg : G2 l = none := w2.gh.none hl
    refine k l xs _ G2 ad2 (e1.trans e2) ⟨w2.gh.mut hg, w2.fh.mut (w2.fh.none hl), w2.own, fun i a q => ?_, w2.dis, w2.len, fun i r q => (w2.hold i r q).grow (Ex.refl _) fun a ha u z => ?_, w2.tk.mut (notX_of hl)⟩ (w2.fh.none hl) hg (fun j q => ?_) upd_same hd
    · obtain ⟨o, ho⟩ := w2.there i a q
      exact ⟨o, by rw [upd_ne (ne_of_none ho hl)]; exact ho⟩
    · rw [upd_ne (ne_of_none z hl)]; exact z
    · obtain ⟨o, ho⟩ := w2.there j l q
      rw [hl] at ho; cases ho⟩⟩⟩
theorem e_cmp [Tabl] {op : CmpOp} (ha : E X a ρ d1 ρ1) (hb : E X b ρ1 d2 ρ2) (ho : OpV X (compareOp op) d1 d2 d) (hm : behindInMarks op b = false := by first | exact nomark _ | rfl) : E X (.Compare a [op] [b] pos) ρ d ρ2 :=
  pe_imp (pe_cmpR ho ha hb hm) fun σ H Q h => two rfl rfl (fun _ _ _ _ z => z) h
theorem t_cmp [Tabl] {op : CmpOp} {p : Bool} (ha : E X a ρ d1 ρ1) (hb : E X b ρ1 d2 ρ2) (ho : OpV X (compareOp op) d1 d2 (.bool p)) (hm : behindInMarks op b = false := by first | exact nomark _ | rfl) : T X (.Compare a [op] [b] pos) ρ p ρ2 :=
  pt_imp (pt_cmpR ho ha hb hm) fun σ H Q ⟨F, G, ad, w, k⟩ => two rfl rfl (fun _ _ _ _ z => z) (show cE X.K ρ (.bool p) ρ2 σ H _ from ⟨F, G, ad, w, fun v H' G' ad' e w' q => by
    cases q
    exact ⟨p, rfl, k H' G' ad' e w'⟩⟩)
/-- a value that is True or False, as a test -/
theorem t_val [Tabl] {p : Bool} (h : E X e ρ (.bool p) ρ1) (he : ∀ whole, isTrue e X.env whole = (do let v ← whole; standAt e.pos; holding [v] (truthy v)) := by intro _; rfl) : T X e ρ p ρ1 :=
  pt_imp (pt_val h he) fun σ H Q ⟨F, G, ad, w, k⟩ => ⟨F, G, ad, w, fun v H' G' ad' e w' q => by
    cases q
    exact ⟨p, rfl, k H' G' ad' e w'⟩⟩
/-- the truth of data -/
def truD : PyData → Bool
  | .none => false
  | .bool b => b
  | .int i => i != 0
  | .str x => (x.length : Int) != 0
  | .list xs => !xs.isEmpty
  | .tuple xs => !xs.isEmpty
  | .dict xs => !xs.isEmpty
theorem truV_of {K : PySem.W.Frag} {G H : Hp} {v : V} {d : PyData} (h : Da K G v d) (e : Ex G H) (hs : ∀ x, d = .str x → x.length ≤ sizeLine := by intro _ h; cases h) : TruV K v H (truD d) := by
  cases h with
  | non => rfl
  | bl b => rfl
  | int i => rfl
  | str x => exact ⟨hs x rfl, rfl⟩
  | lst h1 h2 =>
    have := daAll_len h2
    refine .inl ⟨_, SqL.of (e _ _ h1), ?_⟩
    show (!_) = (!_)
    congr 1
    cases h2 <;> rfl
  | tup h1 h2 =>
    refine .inr (.inl ⟨_, sqT_ex e h1, ?_⟩)
    show (!_) = (!_)
    congr 1
    cases h2 <;> rfl
  | dct h1 h2 =>
    refine .inr (.inr ⟨_, e _ _ h1, ?_⟩)
    show (!_) = (!_)
    congr 1
    cases h2 <;> rfl
theorem t_tru [Tabl] (h : E X e ρ d ρ1) (he : ∀ whole, isTrue e X.env whole = (do let v ← whole; standAt e.pos; holding [v] (truthy v)) := by intro _; rfl) (hs : ∀ x, d = .str x → x.length ≤ sizeLine := by intro _ h; cases h) : T X e ρ (truD d) ρ1 :=
  pt_imp (pt_truth h he) fun σ H Q ⟨F, G, ad, w, k⟩ => ⟨F, G, ad, w, fun v H' G' ad' e w' q => ⟨_, truV_of q w'.gh hs, k H' G' ad' e w'⟩⟩
end
end DM
end part_DMb
section part_DMfn
/-! Defs whose promise is asked only where no repr is under way (guards = some []): the layer's FnOk with that premise. -/
namespace DM
open L2 PyProof.Rows PySem.Spec PySem
structure FnG (P : Program) (w : World) (K : PySem.W.Frag) (mg : Str → Option Value) (base : Heap) (CX : CXT) (k : Nat) (f : Addr) (fd : FuncData) (ps : List Str) (sp : Sp) : Prop where
  lenG : ∀ vs H Q E, sp vs H Q E → vs.length = ps.length
  runG : ∀ (A : Around) (outer : List Env) (s : Shared) (H : Hp) (args : Args) (us : List Value) (vs : List V) (Q : VK) (E : XK), Room k A → A.guards = some [] → Env0 P w K mg base A outer s H → BindsTo s fd args (ps.zip us) → Vals vs us → sp vs H Q E → codeAny (model P w) A (.call (.ref f) args) (CR CX outer P w H s Q E) s
section
variable {P : Program} {w : World} {K : PySem.W.Frag} {mg : Str → Option Value} {base : Heap} {CX : CXT} {k : Nat} {f : Addr} {fd : FuncData} {ps N : List Str} {sp : Sp}
theorem FnG.mono {j : Nat} (F : FnG P w K mg base CX j f fd ps sp) (h : j ≤ k) : FnG P w K mg base CX k f fd ps sp := ⟨F.lenG, fun A outer s H args us vs Q E hr => F.runG A outer s H args us vs Q E (hr.mono h)⟩
theorem FnG.imp {sp2 : Sp} (F : FnG P w K mg base CX k f fd ps sp) (h : ∀ vs H Q E, sp2 vs H Q E → sp vs H Q E) : FnG P w K mg base CX k f fd ps sp2 := ⟨fun vs H Q E q => F.lenG vs H Q E (h _ _ _ _ q), fun A outer s H args us vs Q E r g e b v q => F.runG A outer s H args us vs Q E r g e b v (h _ _ _ _ q)⟩
/-- a body that keeps its promise -/
theorem fnG_of {x qual : Str} {params : Arguments} {body : List Stmt} {scope : Scope} {dvs : List V} {kws : List (Str × V)} (F : FunD K x qual params body scope dvs kws f fd) (S : FnScope N ps scope) (len : ∀ vs H Q E, sp vs H Q E → vs.length = ps.length)
    (hbody : ∀ (cdv : Value) (A : Around) (outer : List Env) (s : Shared) (H : Hp) (vs : List V) (Q : VK) (E : XK), Room k (A.deeper (envOfC qual scope s.heap.objs.size f cdv)) → A.guards = some [] → sp vs H Q E →
      ∃ t, PSs (cxOf CX P w K mg base N qual scope f cdv A outer s H E) body t ∧ t { nx := fun _ H' => Q .non H', rt := Q } (L2.start N vs) H) : FnG P w K mg base CX (k + 1) f fd ps sp := by
  obtain ⟨oc, od, dV, kV, doc, pm, an, cdv, ct, osl, rfl, lk, hcd, hdf, hkw⟩ := F.ex
  refine ⟨len, fun A outer s H args us vs Q E hr hgd e0 hb rv hsp => ?_⟩
  have KX : K.In s.heap := e0.mod.kin.keeps (fun b o e => (e0.bs b o e).1)
  have lim := e0.mod.nolimit.keeps (h' := s.heap) (fun b o e => (e0.bs b o e).1)
  refine codeAny_call_function (hr.depth) (KX _ _ lk) rfl S.co S.gen rfl (PySem.W.codeRec_of KX hcd) (hb _ _ _ _ (wpAny_newFunctionEnv_cells S.kind (fun ⟨n, v⟩ hy => ?_) fun env he s1 ic => ?_))
  · rcases S.par n (List.of_mem_zip hy).1 with q | q
    · left; exact q
    · right; exact ⟨q, PySem.W.cellsFrom_some _ _ _ (.inl q)⟩
  · subst he
    obtain ⟨t, ht, hq⟩ := hbody cdv A outer s H vs Q E (hr.deeper _) hgd hsp
    have I0 : Inv (cxOf CX P w K mg base N qual scope f cdv A outer s H E) [] (L2.start N vs) H s1 := inv_start S hr.hd e0 (len _ _ _ _ hsp) rv ic
    have out : ∀ {s' : Shared} {σ' : L2.St} {H' : Hp} {v : V} {u : Value}, Inv (cxOf CX P w K mg base N qual scope f cdv A outer s H E) [] σ' H' s' → RelV v u → Q v H' → CE outer P w H s Q u s' := fun {s' σ' H' v u} J r q => ⟨v, H', J.os, J.bare, J.base, J.hok, r, q⟩
    refine ⟨lim.keeps ic.toInCall.keep, codeAny_func (wpAny_mono (ht.run [] s1 (L2.start N vs) H _ I0 hq) (fun fl s' z => ?_) fun e s' z => z)⟩
    match fl, z with
    | .ret u, ⟨v, σ', H', J, r, q⟩ => exact out J r q
    | .next, ⟨σ', H', J, q⟩ => exact out (v := .non) (u := .none) J rfl q
    | .brk, ⟨_, _, _, q⟩ => exact q.elim
    | .cont, ⟨_, _, _, q⟩ => exact q.elim
end
section
variable {X : Cx} {CX : CXT} {k : Nat} {f : Addr} {fd : FuncData} {ps : List Str} {sp : Sp} {dvs : List V} {ds : List Value} {E : XK} {x : Str} {p pos : Pos} {e : Expr} {es : List Expr} {t : TA}
theorem runG {pins : List (Addr × Obj)} {σ : L2.St} {H : Hp} {s : Shared} {Q : VK} {us : List Value} {vs : List V} (F : FnG X.prog X.w X.K X.mg X.base CX k f fd ps sp) (hr : Room k X.A) (hgd : X.A.guards = some []) (hb : Binds X.K fd ps ds) (hd : Vals dvs ds) (hx : Passes CX X E)
    (I : Inv X pins σ H s) (r : Vals vs us) (h : sp (vs ++ dvs) H Q E) : wpAny (model X.prog X.w) X.A (call (.ref f) us) (EP X pins σ Q) X.xe s := by
  have r2 := r.append hd
  have hl : (us ++ ds).length = ps.length := r2.length.symm.trans (F.lenG _ _ _ _ h)
  refine wpAny_call (codeAny_mono (F.runG X.A X.stack s H ⟨us, []⟩ _ _ Q E hr hgd I.env0 (hb s us I.kIn hl) r2 h) fun res s' z => ?_)
  match res, z with
  | .error e, z => exact hx pins σ H s e s' I z
  | .ok (.ret u), z => exact I.after z
  | .ok .next, z => exact z.elim
  | .ok .brk, z => exact z.elim
  | .ok .cont, z => exact z.elim
/-- f(e, ..) -/
theorem pe_callG (F : FnG X.prog X.w X.K X.mg X.base CX k f fd ps sp) (hr : Room k X.A) (hgd : X.A.guards = some []) (hg : Gl X x) (hm : X.mg x = some (.ref f)) (hk : PySem.W.keepIn X.K (.ref f) = true) (hb : Binds X.K fd ps ds) (hd : Vals dvs ds) (hx : Passes CX X E)
    (ha : PA X (e :: es) t) (hdb : (x == ("__debug__" : Str)) = false := by decide) (he : starEach (e :: es) X.env = (false, eval e X.env) :: starEach es X.env := by rfl) (hpl : (backTo pos (starEach es X.env)).any (·.1) = false := by rfl) : PE X (.Call (.Name x p) (e :: es) [] pos) (tCall sp dvs E t) :=
  ⟨fun pins s σ H Q I h => wpAny_Call_Name_kw (ld_glob I hg hm (PySem.W.callWith_K (h₀ := X.base) I.ok.mod.kin hk (thn (ha.run pos pins s σ H _ I h) fun us s1 ⟨vs, H1, I1, r, q⟩ => ⟨I1.kIn, runG F hr hgd hb hd hx I1 r q⟩) he hpl) hdb)⟩
/-- f() -/
theorem pe_callG0 (F : FnG X.prog X.w X.K X.mg X.base CX k f fd ps sp) (hr : Room k X.A) (hgd : X.A.guards = some []) (hg : Gl X x) (hm : X.mg x = some (.ref f)) (hk : PySem.W.keepIn X.K (.ref f) = true) (hb : Binds X.K fd ps ds) (hd : Vals dvs ds) (hx : Passes CX X E)
    (hdb : (x == ("__debug__" : Str)) = false := by decide) : PE X (.Call (.Name x p) [] [] pos) (tCall sp dvs E tNil) :=
  ⟨fun pins s σ H Q I h => wpAny_Call_Name_kw (ld_glob I hg hm (PySem.W.callWith_K0 I.kIn hk (runG (us := []) F hr hgd hb hd hx I .nil h)) hdb)⟩
end
end DM
end part_DMfn
section part_DMc
namespace DM
open L2 PyProof.Rows PySem.Spec PySem
section
variable {X : Cx} {e a b c : Expr} {rest : List Expr} {ρ ρ0 ρ1 ρ2 ρ3 : List Sl} {d d1 d2 d3 : PyData} {ds es : List PyData} {x : Str} {pos : Pos} {p q : Bool}
/-! ### tests -/
theorem t_not [Tabl] (h : T X a ρ p ρ1) : T X (.UnaryOp .Not a pos) ρ (!p) ρ1 := pt_imp (pt_not h) fun σ H Q ⟨F, G, ad, w, k⟩ => ⟨F, G, ad, w, fun H' G' ad' e w' => k H' G' ad' e w'⟩
def TW [Tabl] (X : Cx) (e : Expr) (ρ : List Sl) (b : Bool) (ρ' : List Sl) : Prop := PW X e (cT X.K ρ b ρ')
theorem tw_and1 [Tabl] (h : T X a ρ p ρ1) : TW X (.BoolOp .And [a] pos) ρ p ρ1 := pw_and1 h
theorem tw_or1 [Tabl] (h : T X a ρ p ρ1) : TW X (.BoolOp .Or [a] pos) ρ p ρ1 := pw_or1 h
/-- any reading that holds -/
def anyT [Tabl] (X : Cx) (e : Expr) : TT := fun σ H Q => ∃ ρ b ρ', T X e ρ b ρ' ∧ cT X.K ρ b ρ' σ H Q
theorem anyT_ok [Tabl] : PT X e (anyT X e) := ⟨fun pins s σ H Q I ⟨ρ, b, ρ', h, k⟩ => h.run pins s σ H Q I k⟩
def anyW [Tabl] (X : Cx) (e : Expr) : TT := fun σ H Q => ∃ ρ b ρ', TW X e ρ b ρ' ∧ cT X.K ρ b ρ' σ H Q
theorem anyW_ok [Tabl] : PW X e (anyW X e) := ⟨fun wh pins s σ H Q I ⟨ρ, b, ρ', h, k⟩ => h.run wh pins s σ H Q I k⟩
def anyE [Tabl] (X : Cx) (e : Expr) : TE := fun σ H Q => ∃ ρ d ρ', E X e ρ d ρ' ∧ cE X.K ρ d ρ' σ H Q
theorem anyE_ok [Tabl] : PE X e (anyE X e) := ⟨fun pins s σ H Q I ⟨ρ, b, ρ', h, k⟩ => h.run pins s σ H Q I k⟩
theorem tw_and [Tabl] (ha : T X a ρ p ρ1) (hb : p = true → TW X (.BoolOp .And (b :: rest) pos) ρ1 q ρ2) (h0 : p = false → ρ2 = ρ1) : TW X (.BoolOp .And (a :: b :: rest) pos) ρ (p && q) ρ2 :=
  pw_imp (pw_and ha anyW_ok) fun σ H Q ⟨F, G, ad, w, k⟩ => ⟨F, G, ad, w, fun H1 G1 ad1 e1 w1 => by
    cases p with
    | true => exact ⟨ρ1, q, ρ2, hb rfl, F, G1, ad1, w1, fun H2 G2 ad2 e2 w2 => k H2 G2 ad2 (e1.trans e2) w2⟩
    | false =>
      have e := h0 rfl
      subst e
      exact k H1 G1 ad1 e1 w1⟩
theorem tw_or [Tabl] (ha : T X a ρ p ρ1) (hb : p = false → TW X (.BoolOp .Or (b :: rest) pos) ρ1 q ρ2) (h0 : p = true → ρ2 = ρ1) : TW X (.BoolOp .Or (a :: b :: rest) pos) ρ (p || q) ρ2 :=
  pw_imp (pw_or ha anyW_ok) fun σ H Q ⟨F, G, ad, w, k⟩ => ⟨F, G, ad, w, fun H1 G1 ad1 e1 w1 => by
    cases p with
    | false => exact ⟨ρ1, q, ρ2, hb rfl, F, G1, ad1, w1, fun H2 G2 ad2 e2 w2 => k H2 G2 ad2 (e1.trans e2) w2⟩
    | true =>
      have e := h0 rfl
      subst e
      exact k H1 G1 ad1 e1 w1⟩
theorem t_w [Tabl] (h : TW X e ρ p ρ1) : T X e ρ p ρ1 := PW.pt h
/-- .. as values -/
theorem e_one [Tabl] {op} (h : E X a ρ d ρ1) : E X (.BoolOp op [a] pos) ρ d ρ1 := pe_one h
theorem e_and [Tabl] (ha : E X a ρ (.bool p) ρ1) (hb : p = true → E X (.BoolOp .And (b :: rest) pos) ρ1 d ρ2) (h0 : p = false → d = .bool false ∧ ρ2 = ρ1) : E X (.BoolOp .And (a :: b :: rest) pos) ρ d ρ2 :=
  pe_imp (pe_and ha anyE_ok) fun σ H Q ⟨F, G, ad, w, k⟩ => ⟨F, G, ad, w, fun v H1 G1 ad1 e1 w1 pv => by
    cases pv
    refine ⟨p, rfl, ?_⟩
    cases p with
    | true => exact ⟨ρ1, d, ρ2, hb rfl, F, G1, ad1, w1, fun v H2 G2 ad2 e2 w2 p2 => k v H2 G2 ad2 (e1.trans e2) w2 p2⟩
    | false =>
      obtain ⟨e, f⟩ := h0 rfl
      subst e f
      exact k _ H1 G1 ad1 e1 w1 (.bl false)⟩
theorem e_or [Tabl] (ha : E X a ρ (.bool p) ρ1) (hb : p = false → E X (.BoolOp .Or (b :: rest) pos) ρ1 d ρ2) (h0 : p = true → d = .bool true ∧ ρ2 = ρ1) : E X (.BoolOp .Or (a :: b :: rest) pos) ρ d ρ2 :=
  pe_imp (pe_or ha anyE_ok) fun σ H Q ⟨F, G, ad, w, k⟩ => ⟨F, G, ad, w, fun v H1 G1 ad1 e1 w1 pv => by
    cases pv
    refine ⟨p, rfl, ?_⟩
    cases p with
    | false => exact ⟨ρ1, d, ρ2, hb rfl, F, G1, ad1, w1, fun v H2 G2 ad2 e2 w2 p2 => k v H2 G2 ad2 (e1.trans e2) w2 p2⟩
    | true =>
      obtain ⟨e, f⟩ := h0 rfl
      subst e f
      exact k _ H1 G1 ad1 e1 w1 (.bl true)⟩
theorem e_not [Tabl] (h : E X a ρ (.bool p) ρ1) : E X (.UnaryOp .Not a pos) ρ (.bool (!p)) ρ1 := pe_imp (pe_not h) fun σ H Q ⟨F, G, ad, w, k⟩ => ⟨F, G, ad, w, fun v H' G' ad' e w' pv => by
  cases pv
  exact ⟨p, rfl, k _ H' G' ad' e w' (.bl _)⟩⟩
theorem e_if [Tabl] (hc : T X c ρ p ρ1) (ha : p = true → E X a ρ1 d ρ2) (hb : p = false → E X b ρ1 d ρ2) : E X (.IfExp c a b pos) ρ d ρ2 :=
  pe_imp (pe_ifExp hc anyE_ok anyE_ok) fun σ H Q ⟨F, G, ad, w, k⟩ => ⟨F, G, ad, w, fun H1 G1 ad1 e1 w1 => by
    cases p with
    | true => exact ⟨ρ1, d, ρ2, ha rfl, F, G1, ad1, w1, fun v H2 G2 ad2 e2 w2 p2 => k v H2 G2 ad2 (e1.trans e2) w2 p2⟩
    | false => exact ⟨ρ1, d, ρ2, hb rfl, F, G1, ad1, w1, fun v H2 G2 ad2 e2 w2 p2 => k v H2 G2 ad2 (e1.trans e2) w2 p2⟩⟩
/-! ### arguments, displays -/
theorem ea_nil [Tabl] : EA X [] ρ [] ρ := pa_imp pa_nil fun σ H Q ⟨F, G, ad, w, k⟩ => k [] H G ad (Ext.refl F G) w .nil
theorem ea_cons [Tabl] (ha : E X e ρ d ρ1) (hr : EA X rest ρ1 ds ρ2) (hs : starEach (e :: rest) X.env = (false, eval e X.env) :: starEach rest X.env := by rfl) : EA X (e :: rest) ρ (d :: ds) ρ2 :=
  pa_imp (pa_cons ha hr hs) fun σ H Q ⟨F, G, ad, w, k⟩ => ⟨F, G, ad, w, fun v H1 G1 ad1 e1 w1 p1 => ⟨F, G1, ad1, w1, fun vs H2 G2 ad2 e2 w2 p2 => k (v :: vs) H2 G2 ad2 (e1.trans e2) w2 (.cons (da_ex e2.1 p1) p2)⟩⟩
theorem sizeLine_big : 1000000 ≤ sizeLine := by rw [sizeLine_eq]; decide
theorem e_tup [Tabl] {k : Nat} (h : EA X rest ρ ds ρ1) (hz : ds.length ≤ 1000000 := by exact Nat.le_of_ble_eq_true rfl) : E X (.Tuple rest k pos) ρ (.tuple ds) ρ1 :=
  pe_imp (pe_tup h) fun σ H Q ⟨F, G, ad, w, k⟩ => ⟨F, G, ad, w, fun vs H1 G1 ad1 e1 w1 p1 => ⟨by rw [daAll_len p1]; exact Nat.le_trans hz sizeLine_big, fun l hl => by
    have hg := w1.gh.none hl
    exact k (.ref l) _ (upd G1 l (.tup vs)) ad1 (e1.trans (Ext.new (w1.fh.none hl) hg)) (w1.grow (Ex.new hl) (Ext.new hl hg) w1.gh.both) (.tup (SqT.of upd_same) (daAll_ex (Ex.new hg) p1))⟩⟩
theorem eo_lst [Tabl] (h : EA X rest ρ ds ρ1) (hz : ds.length ≤ 1000000 := by exact Nat.le_of_ble_eq_true rfl) : EO X (.List rest pos) ρ ds ρ1 :=
  pe_imp (pe_lst h) fun σ H Q ⟨F, G, ad, w, k⟩ => ⟨F, G, ad, w, fun vs H1 G1 ad1 e1 w1 p1 => ⟨by rw [daAll_len p1]; exact Nat.le_trans hz sizeLine_big, fun l hl => by
    have hg := w1.gh.none hl
    refine k l vs _ G1 ad1 e1 (w1.grow (Ex.new hl) (Ext.refl _ _) (w1.gh.mut hg)) (w1.fh.none hl) hg (fun j q => ?_) upd_same p1
    obtain ⟨o, ho⟩ := w1.there j l q
    rw [hl] at ho; cases ho⟩⟩

/-! ### calls by values -/
def cC (K : PySem.W.Frag) (ds : List PyData) (d : PyData) : List V → Hp → VK → Prop := fun vs H Q => ∃ G, Ex G H ∧ DaAll K G vs ds ∧ ∀ v H' G', Ex H H' → Ext H G G' → Ex G' H' → Da K G' v d → Q v H'
def cCO (K : PySem.W.Frag) (ds : List PyData) (es : List PyData) : List V → Hp → VK → Prop := fun vs H Q => ∃ G, Ex G H ∧ DaAll K G vs ds ∧
  ∀ l xs H' G', Ex H H' → Ext H G G' → Ex G' H' → H l = none → G' l = none → H' l = some (.lst xs) → DaAll K G' xs es → Q (.ref l) H'
def CV (X : Cx) (f : Value) (ds : List PyData) (d : PyData) : Prop := CallR X f (cC X.K ds d)
def CO (X : Cx) (f : Value) (ds es : List PyData) : Prop := CallR X f (cCO X.K ds es)
theorem call_imp {f : Value} {r r' : List V → Hp → VK → Prop} (h : CallR X f r) (k : ∀ vs H Q, r' vs H Q → r vs H Q) : CallR X f r' := fun pins s σ H vs us Q I rx q => h pins s σ H vs us Q I rx (k vs H Q q)
theorem callD [Tabl] {K : PySem.W.Frag} {σ : L2.St} {H : Hp} {Q : VK} (h : cE K ρ d ρ1 σ H Q) : cA K ρ ds ρ1 σ H fun vs H1 => (∃ F G ad, Sta K F G H1 σ ρ1 ad) → cC K ds d vs H1 Q := by
  obtain ⟨F, G, ad, w, k⟩ := h
  exact ⟨F, G, ad, w, fun vs H1 G1 ad1 e1 w1 p1 _ => ⟨G1, w1.gh, p1, fun v H' G' eh eg gh p => k v H' G' ad1 (e1.trans (eg.weak w1.fh)) (w1.grow eh eg gh) p⟩⟩
theorem callD' [Tabl] {K : PySem.W.Frag} {σ : L2.St} {H : Hp} {Q : VK} (h : cE K ρ d ρ1 σ H Q) : cA K ρ ds ρ1 σ H fun vs H1 => cC K ds d vs H1 Q := by
  obtain ⟨F, G, ad, w, k⟩ := h
  exact ⟨F, G, ad, w, fun vs H1 G1 ad1 e1 w1 p1 => ⟨G1, w1.gh, p1, fun v H' G' eh eg gh p => k v H' G' ad1 (e1.trans (eg.weak w1.fh)) (w1.grow eh eg gh) p⟩⟩
theorem callO' [Tabl] {K : PySem.W.Frag} {σ : L2.St} {H : Hp} {Q : VK} (h : cO K ρ es ρ1 σ H Q) : cA K ρ ds ρ1 σ H fun vs H1 => cCO K ds es vs H1 Q := by
  obtain ⟨F, G, ad, w, k⟩ := h
  refine ⟨F, G, ad, w, fun vs H1 G1 ad1 e1 w1 p1 => ⟨G1, w1.gh, p1, fun l xs H' G' eh eg gh hl hg' hl' hd => ?_⟩⟩
  refine k l xs H' G' ad1 (e1.trans (eg.weak w1.fh)) (w1.grow eh eg gh) (w1.fh.none hl) hg' (fun j q => ?_) hl' hd
  obtain ⟨o, ho⟩ := w1.there j l q
  rw [hl] at ho; cases ho
theorem e_callB [Tabl] {id : String} {pn : Pos} (h : EA X (e :: rest) ρ ds ρ1) (hc : CV X (.builtin id) ds d) (hm : X.mg x = none) (hg : Gl X x := by rfl) (hv : bootBuiltins x = some (.builtin id) := by decide +kernel) (hn : x ≠ "__name__" := by decide) (hdb : (x == ("__debug__" : Str)) = false := by decide)
    (he : starEach (e :: rest) X.env = (false, eval e X.env) :: starEach rest X.env := by rfl) (hpl : (backTo pos (starEach rest X.env)).any (·.1) = false := by rfl) : E X (.Call (.Name x pn) (e :: rest) [] pos) ρ d ρ1 :=
  pe_imp (pe_callB hc hg hm hv h hn hdb he hpl) fun σ H Q h => callD' h
theorem e_callTy [Tabl] {id : String} {pn : Pos} (h : EA X (e :: rest) ρ ds ρ1) (hc : CV X (.type id) ds d) (hm : X.mg x = none) (hg : Gl X x := by rfl) (hv : bootBuiltins x = some (.type id) := by decide +kernel) (hn : x ≠ "__name__" := by decide) (hdb : (x == ("__debug__" : Str)) = false := by decide)
    (he : starEach (e :: rest) X.env = (false, eval e X.env) :: starEach rest X.env := by rfl) (hpl : (backTo pos (starEach rest X.env)).any (·.1) = false := by rfl) : E X (.Call (.Name x pn) (e :: rest) [] pos) ρ d ρ1 :=
  pe_imp (pe_callTy hc hg hm hv h hn hdb he hpl) fun σ H Q h => callD' h
theorem eo_callTy [Tabl] {id : String} {pn : Pos} (h : EA X (e :: rest) ρ ds ρ1) (hc : CO X (.type id) ds es) (hm : X.mg x = none) (hg : Gl X x := by rfl) (hv : bootBuiltins x = some (.type id) := by decide +kernel) (hn : x ≠ "__name__" := by decide) (hdb : (x == ("__debug__" : Str)) = false := by decide)
    (he : starEach (e :: rest) X.env = (false, eval e X.env) :: starEach rest X.env := by rfl) (hpl : (backTo pos (starEach rest X.env)).any (·.1) = false := by rfl) : EO X (.Call (.Name x pn) (e :: rest) [] pos) ρ es ρ1 :=
  pe_imp (pe_callTy hc hg hm hv h hn hdb he hpl) fun σ H Q h => callO' h
/-- a built-in that the module has imported by this name (gcd) -/
theorem e_callF [Tabl] {id : String} {pn : Pos} (h : EA X (e :: rest) ρ ds ρ1) (hc : CV X (.builtin id) ds d) (hm : X.mg x = some (.builtin id)) (hg : Gl X x := by rfl) (hdb : (x == ("__debug__" : Str)) = false := by decide)
    (he : starEach (e :: rest) X.env = (false, eval e X.env) :: starEach rest X.env := by rfl) (hpl : (backTo pos (starEach rest X.env)).any (·.1) = false := by rfl) : E X (.Call (.Name x pn) (e :: rest) [] pos) ρ d ρ1 :=
  pe_imp (pe_callBfun hc hg hm h hdb he hpl) fun σ H Q h => callD' h

/-! ### own defs -/
/-- all but the tables -/
def noT [Tabl] (K : PySem.W.Frag) (H : Hp) : Hp := fun a => if a ∈ (TKs K).map (·.1) then none else H a
theorem noT_of [Tabl] {K : PySem.W.Frag} {H : Hp} {a : Addr} (h : a ∉ (TKs K).map (·.1)) : noT K H a = H a := by
  unfold noT
  rw [if_neg h]
theorem noT_ex [Tabl] {K : PySem.W.Frag} {H : Hp} : Ex (noT K H) H := fun a o h => by
  unfold noT at h
  split at h
  · cases h
  · exact h
theorem noT_at [Tabl] {K : PySem.W.Frag} {H : Hp} {p : Addr × Str} (h : p ∈ TKs K) : noT K H p.1 = none := by
  unfold noT
  rw [if_pos (List.mem_map.mpr ⟨p, h, rfl⟩)]
theorem not_tk [Tabl] {K : PySem.W.Frag} {F : Hp} (h : ∀ p ∈ TKs K, F p.1 = none) {a : Addr} {o : HO} (e : F a = some o) : a ∉ (TKs K).map (·.1) := fun z => by
  obtain ⟨p, hp, ep⟩ := List.mem_map.mp z
  have := h p hp
  rw [ep, e] at this
  cases this
theorem tk_ne [Tabl] {K : PySem.W.Frag} {F G H : Hp} (t : Tbk K F G H) {a : Addr} {o : HO} (e : H a = some o) (n : NotX o) : a ∉ (TKs K).map (·.1) := fun z => by
  obtain ⟨p, hp, ep⟩ := List.mem_map.mp z
  exact t.ne hp (l := a) (notX_at e n) ep
/-- the addresses that are no tables -/
def adT [Tabl] (K : PySem.W.Frag) (ad : Nat → List Addr) : Nat → List Addr := fun i => (ad i).filter fun a => decide (a ∉ (TKs K).map (·.1))
theorem adT_mem [Tabl] {K : PySem.W.Frag} {ad : Nat → List Addr} {i : Nat} {a : Addr} : a ∈ adT K ad i ↔ a ∈ ad i ∧ a ∉ (TKs K).map (·.1) := by
  unfold adT
  rw [List.mem_filter, decide_eq_true_iff]
/-- the promise of a def that works on data alone -/
def cK [Tabl] (K : PySem.W.Frag) (ds : List PyData) (d : PyData) : List V → Hp → VK → Prop := fun vs H Q => ∃ F G, Tbk K F G H ∧ Ex F H ∧ Ex G H ∧ DaAll K G vs ds ∧ ∀ v H' G', Ext F G G' → Ex F H' → Ex G' H' → Tbk K F G' H' → Da K G' v d → Q v H'
def spP [Tabl] (K : PySem.W.Frag) (R : List PyData → PyData → Prop) : Sp := fun vs H Q _ => ∃ ds d, R ds d ∧ cK K ds d vs H Q
/-- .. whose first argument is the source -/
def spS [Tabl] (K : PySem.W.Frag) (R : Src → List PyData → Src → PyData → Prop) : Sp := fun vs H Q _ => ∃ F G s l t vs' ds t' d, vs = .ref s :: vs' ∧ SrcAt H s l t ∧ (F s = none ∧ F l = none ∧ G s = none ∧ G l = none) ∧ Tbk K F G H ∧ Ex F H ∧ Ex G H ∧ DaAll K G vs' ds ∧ R t ds t' d ∧
  ∀ v H' G', Ext F G G' → Ex F H' → Ex G' H' → Tbk K F G' H' → SrcAt H' s l t' → G' s = none → G' l = none → Da K G' v d → Q v H'
/-- the def that the module's name x stands for keeps sp -/
structure Known (P : Program) (w : World) (K : PySem.W.Frag) (mg : Str → Option Value) (base : Heap) (A : Around) (x : Str) (sp : Sp) : Prop where
  ex : ∃ (k : Nat) (f : Addr) (fd : FuncData) (ps : List Str), FnG P w K mg base L2.CX0 k f fd ps sp ∧ (Room k A ∧ A.guards = some []) ∧ mg x = some (.ref f) ∧ PySem.W.keepIn K (.ref f) = true ∧ Binds K fd ps []
abbrev Kn (X : Cx) (x : Str) (sp : Sp) : Prop := Known X.prog X.w X.K X.mg X.base X.A x sp
/-- the tables' part for a callee that is to keep all else -/
theorem Tbk.callee [Tabl] {K : PySem.W.Frag} {F G H : Hp} (t : Tbk K F G H) : Tbk K (noT K H) G H := ⟨t.tb, fun p hp => noT_at hp, t.gt⟩
/-- behind a callee that kept all but the tables -/
theorem Sta.call [Tabl] {K : PySem.W.Frag} {F G H H' G' : Hp} {σ : L2.St} {ad : Nat → List Addr} (w : Sta K F G H σ ρ ad) (e1 : Ext (noT K H) G G') (e2 : Ex (noT K H) H') (e3 : Ex G' H') (t : Tbk K (noT K H) G' H') : Ext F G G' ∧ Sta K F G' H' σ ρ (adT K ad) := by
  have fF : ∀ a o, F a = some o → noT K H a = some o := fun a o q => by
    rw [noT_of (not_tk w.tk.ft q)]
    exact w.fh a o q
  refine ⟨⟨e1.1, fun a o q n => ?_⟩, ⟨e3, fun a o q => e2 a o (fF a o q), fun j a q => ?_, fun j a q => ?_, fun i j a h1 h2 => w.dis i j a (adT_mem.mp h1).1 (adT_mem.mp h2).1, w.len, fun i r q => ?_, ⟨t.tb, w.tk.ft, t.gt⟩⟩⟩
  · cases z : F a with
    | none => rfl
    | some u =>
      have h1 := e1.2 a o q n
      rw [fF a u z] at h1
      cases h1
  · obtain ⟨q1, q2⟩ := adT_mem.mp q
    obtain ⟨o, ho⟩ := w.there j a q1
    exact ⟨e1.none (a := a) (o := o) (by rw [noT_of q2]; exact ho) (w.own j a q1).1, (w.own j a q1).2⟩
  · obtain ⟨q1, q2⟩ := adT_mem.mp q
    obtain ⟨o, ho⟩ := w.there j a q1
    exact ⟨o, e2 a o (by rw [noT_of q2]; exact ho)⟩
  · have hh := w.hold i r q
    cases r with
    | un => trivial
    | dat d =>
      obtain ⟨v, h1, h2⟩ := hh
      exact ⟨v, h1, da_ex e1.1 h2⟩
    | own ds =>
      obtain ⟨l, xs, h1, h2, h3, h4⟩ := hh
      have nt := tk_ne w.tk h3 notX_lst
      exact ⟨l, xs, h1, adT_mem.mpr ⟨h2, nt⟩, e2 l _ (by rw [noT_of nt]; exact h3), daAll_ex e1.1 h4⟩
    | src s l t =>
      obtain ⟨h1, h2, h3, h4⟩ := hh
      have n1 := tk_ne w.tk h4.d notX_dK
      have n2 := tk_ne w.tk h4.c notX_lst
      exact ⟨h1, adT_mem.mpr ⟨h2, n1⟩, adT_mem.mpr ⟨h3, n2⟩, e2 s _ (by rw [noT_of n1]; exact h4.d), e2 l _ (by rw [noT_of n2]; exact h4.c)⟩
    | scr ns =>
      obtain ⟨a, h1, h2⟩ := hh
      exact ⟨a, h1, sqL_ex e1.1 h2⟩
    | pin v T => exact ⟨hh.1, hh.2.trans e1.1⟩
theorem callK [Tabl] {K : PySem.W.Frag} {σ : L2.St} {H : Hp} {Q : VK} (h : cE K ρ d ρ1 σ H Q) : cA K ρ ds ρ1 σ H fun vs H1 => cK K ds d vs H1 Q := by
  obtain ⟨F, G, ad, w, k⟩ := h
  exact ⟨F, G, ad, w, fun vs H1 G1 ad1 e1 w1 p1 => ⟨noT K H1, G1, w1.tk.callee, noT_ex, w1.gh, p1, fun v H' G' x1 x2 x3 x4 x5 => by
    obtain ⟨y1, y2⟩ := w1.call x1 x2 x3 x4
    exact k v H' G' _ (e1.trans y1) y2 x5⟩⟩
theorem e_call [Tabl] {R : List PyData → PyData → Prop} {pn : Pos} (f : Kn X x (spP X.K R)) (h : EA X (e :: rest) ρ ds ρ1) (hR : R ds d) (hg : Gl X x := by rfl) 
    (hdb : (x == ("__debug__" : Str)) = false := by decide) (he : starEach (e :: rest) X.env = (false, eval e X.env) :: starEach rest X.env := by rfl) (hpl : (backTo pos (starEach rest X.env)).any (·.1) = false := by rfl) : E X (.Call (.Name x pn) (e :: rest) [] pos) ρ d ρ1 := by
  obtain ⟨k, f, fd, ps, F, ⟨hr, hgd⟩, hm, hk, hb⟩ := f.ex
  refine pe_imp (pe_callG F hr hgd hg hm hk hb .nil pass0 h hdb he hpl) fun σ H Q h => ?_
  obtain ⟨F, G, ad, w, k⟩ := callK (ds := ds) h
  exact ⟨F, G, ad, w, fun vs H1 G1 ad1 e1 w1 p1 => ⟨ds, d, hR, by rw [List.append_nil]; exact k vs H1 G1 ad1 e1 w1 p1⟩⟩
end
end DM
end part_DMc
section part_DMd
namespace DM
open L2 PyProof.Rows PySem.Spec PySem
section
variable {X : Cx} {e a b c : Expr} {rest : List Expr} {ρ ρ0 ρ1 ρ2 ρ3 : List Sl} {d d1 d2 d3 : PyData} {ds es : List PyData} {x : Str} {pos : Pos} {p q : Bool}
/-! ### the source handed on -/
def hide2 (s l : Addr) (H : Hp) : Hp := fun a => if a = s ∨ a = l then none else H a
theorem hide2_ne {s l a : Addr} {H : Hp} (h1 : a ≠ s) (h2 : a ≠ l) : hide2 s l H a = H a := by
  unfold hide2
  rw [if_neg (fun q => q.elim h1 h2)]
theorem hide2_s {s l : Addr} {H : Hp} : hide2 s l H s = none := by
  unfold hide2
  rw [if_pos (.inl rfl)]
theorem hide2_l {s l : Addr} {H : Hp} : hide2 s l H l = none := by
  unfold hide2
  rw [if_pos (.inr rfl)]
theorem hide2_ex {s l : Addr} {H : Hp} : Ex (hide2 s l H) H := fun a o h => by
  unfold hide2 at h
  split at h
  · cases h
  · exact h
theorem hide2_of {s l a : Addr} {H : Hp} {o : HO} (h : hide2 s l H a = some o) : a ≠ s ∧ a ≠ l := by
  refine ⟨fun e => ?_, fun e => ?_⟩
  · rw [e, hide2_s] at h; cases h
  · rw [e, hide2_l] at h; cases h
theorem Sta.src [Tabl] {K : PySem.W.Frag} {F G H H' G' : Hp} {σ : L2.St} {ad : Nat → List Addr} {i : Nat} {s l : Addr} {t t' : Src} (w : Sta K F G H σ ρ ad) (h : ρ[i]? = some (.src s l t)) (e1 : Ext (hide2 s l (noT K H)) G G') (e2 : Ex (hide2 s l (noT K H)) H') (e3 : Ex G' H') (tk : Tbk K (hide2 s l (noT K H)) G' H') (hs : SrcAt H' s l t') (gs : G' s = none) (gl : G' l = none) :
    Ext F G G' ∧ Sta K F G' H' σ (ρ.set i (.src s l t')) (adT K ad) := by
  obtain ⟨h1, h2, h3, h4⟩ := w.hold i _ h
  have fs := w.own i s h2
  have fl := w.own i l h3
  have at_ : ∀ {a : Addr}, a ≠ s → a ≠ l → a ∉ (TKs K).map (·.1) → hide2 s l (noT K H) a = H a := fun {a} n1 n2 n3 => by rw [hide2_ne n1 n2, noT_of n3]
  have ns := tk_ne w.tk h4.d notX_dK
  have nl := tk_ne w.tk h4.c notX_lst
  refine ⟨⟨e1.1, fun a o q n => ?_⟩, ⟨e3, fun a o q => ?_, fun j a q => ?_, fun j a q => ?_, fun i j a z1 z2 => w.dis i j a (adT_mem.mp z1).1 (adT_mem.mp z2).1, by rw [List.length_set]; exact w.len, fun j r q => ?_, ⟨tk.tb, w.tk.ft, tk.gt⟩⟩⟩
  · by_cases z1 : a = s
    · rw [z1, gs] at q; cases q
    · by_cases z2 : a = l
      · rw [z2, gl] at q; cases q
      · cases z : F a with
        | none => rfl
        | some u =>
          have y := e1.2 a o q n
          rw [at_ z1 z2 (not_tk w.tk.ft z), w.fh a u z] at y
          cases y
  · have z1 : a ≠ s := fun z => by rw [z, fs.2] at q; cases q
    have z2 : a ≠ l := fun z => by rw [z, fl.2] at q; cases q
    exact e2 a o (by rw [at_ z1 z2 (not_tk w.tk.ft q)]; exact w.fh a o q)
  · obtain ⟨q1, q2⟩ := adT_mem.mp q
    refine ⟨?_, (w.own j a q1).2⟩
    by_cases z1 : a = s
    · rw [z1]; exact gs
    · by_cases z2 : a = l
      · rw [z2]; exact gl
      · obtain ⟨o, ho⟩ := w.there j a q1
        exact e1.none (a := a) (o := o) (by rw [at_ z1 z2 q2]; exact ho) (w.own j a q1).1
  · obtain ⟨q1, q2⟩ := adT_mem.mp q
    by_cases z1 : a = s
    · rw [z1]; exact ⟨_, hs.d⟩
    · by_cases z2 : a = l
      · rw [z2]; exact ⟨_, hs.c⟩
      · obtain ⟨o, ho⟩ := w.there j a q1
        exact ⟨o, e2 a o (by rw [at_ z1 z2 q2]; exact ho)⟩
  · by_cases z : j = i
    · subst z
      rw [List.getElem?_set_self (List.getElem?_eq_some_iff.mp h).1] at q
      cases q
      exact ⟨h1, adT_mem.mpr ⟨h2, ns⟩, adT_mem.mpr ⟨h3, nl⟩, hs⟩
    · rw [List.getElem?_set_ne (Ne.symm z)] at q
      have hh := w.hold j r q
      have off : ∀ {a : Addr}, a ∈ ad j → a ≠ s ∧ a ≠ l := fun {a} ha => ⟨fun y => z (w.dis j i a ha (by rw [y]; exact h2)), fun y => z (w.dis j i a ha (by rw [y]; exact h3))⟩
      cases r with
      | un => trivial
      | dat d =>
        obtain ⟨v, g1, g2⟩ := hh
        exact ⟨v, g1, da_ex e1.1 g2⟩
      | own ds =>
        obtain ⟨l2, xs, g1, g2, g3, g4⟩ := hh
        have nt := tk_ne w.tk g3 notX_lst
        exact ⟨l2, xs, g1, adT_mem.mpr ⟨g2, nt⟩, e2 l2 _ (by rw [at_ (off g2).1 (off g2).2 nt]; exact g3), daAll_ex e1.1 g4⟩
      | src s2 l2 t2 =>
        obtain ⟨g1, g2, g3, g4⟩ := hh
        have n1 := tk_ne w.tk g4.d notX_dK
        have n2 := tk_ne w.tk g4.c notX_lst
        exact ⟨g1, adT_mem.mpr ⟨g2, n1⟩, adT_mem.mpr ⟨g3, n2⟩, e2 s2 _ (by rw [at_ (off g2).1 (off g2).2 n1]; exact g4.d), e2 l2 _ (by rw [at_ (off g3).1 (off g3).2 n2]; exact g4.c)⟩
      | scr ns =>
        obtain ⟨a, g1, g2⟩ := hh
        exact ⟨a, g1, sqL_ex e1.1 g2⟩
      | pin v T => exact ⟨hh.1, hh.2.trans e1.1⟩
theorem Tbk.callee2 [Tabl] {K : PySem.W.Frag} {F G H : Hp} {s l : Addr} (t : Tbk K F G H) : Tbk K (hide2 s l (noT K H)) G H := t.callee.frame hide2_ex
/-- f(source, ..) -/
theorem e_callS [Tabl] {R : Src → List PyData → Src → PyData → Prop} {pn p0 : Pos} {y : Str} {s l s0 l0 : Addr} {t0 t t' : Src} (i : Nat) (f : Kn X x (spS X.K R)) (h : EA X rest ρ ds ρ1) (hR : R t ds t' d) (h0 : ρ[i]? = some (.src s0 l0 t0) := by rfl) (h1 : ρ1[i]? = some (.src s l t) := by rfl) (hg : Gl X x := by rfl)
    (hN : X.N[i]? = some y := by rfl) (hv : Vis X.env.scope y := by first | exact Or.inl rfl | exact Or.inr (Or.inl rfl) | exact Or.inr (Or.inr rfl)) (hd : (y == ("__debug__" : Str)) = false := by decide) (hcd : (y == ("__classdict__" : Str)) = false := by decide)
    (hdb : (x == ("__debug__" : Str)) = false := by decide) (he : starEach (.Name y p0 :: rest) X.env = (false, eval (.Name y p0) X.env) :: starEach rest X.env := by rfl) (hpl : (backTo pos (starEach rest X.env)).any (·.1) = false := by rfl) :
    E X (.Call (.Name x pn) (.Name y p0 :: rest) [] pos) ρ d (ρ1.set i (.src s l t')) := by
  obtain ⟨k, f, fd, ps, F, ⟨hr, hgd⟩, hm, hk, hb⟩ := f.ex
  refine pe_imp (pe_callG F hr hgd hg hm hk hb .nil pass0 (pa_cons (pe_var hN hv hd hcd) h he) hdb he hpl) fun σ H Q ⟨F, G, ad, w, k⟩ => ?_
  obtain ⟨h2, _⟩ := w.hold i _ h0
  refine ⟨_, h2, F, G, ad, w, fun vs H1 G1 ad1 e1 w1 p1 => ?_⟩
  obtain ⟨g1, g2, g3, g4⟩ := w1.hold i _ h1
  have es : s0 = s := by
    rw [h2] at g1
    cases g1
    rfl
  subst es
  refine ⟨hide2 s0 l (noT X.K H1), G1, s0, l, t, vs, ds, t', d, by rw [List.append_nil], g4, ⟨hide2_s, hide2_l, (w1.own i s0 g2).1, (w1.own i l g3).1⟩, w1.tk.callee2, hide2_ex.trans noT_ex, w1.gh, p1, hR, fun v H' G' x1 x2 x3 x8 x4 x5 x6 x7 => ?_⟩
  obtain ⟨y1, y2⟩ := w1.src h1 x1 x2 x3 x8 x4 x5 x6
  exact k v H' G' _ (e1.trans y1) y2 x7

/-! ### statements -/
inductive Out where
  | nx (ρ : List Sl)
  | rt (d : PyData) (ρ : List Sl)
  | ct (ρ : List Sl)
  | bk (ρ : List Sl)
def Out.met [Tabl] (K : PySem.W.Frag) (D : Ends) (F G' H' : Hp) (σ' : L2.St) (ad' : Nat → List Addr) : Out → Prop
  | .nx ρ' => Sta K F G' H' σ' ρ' ad' → D.nx σ' H'
  | .rt d ρ' => Sta K F G' H' σ' ρ' ad' → ∀ v, Da K G' v d → D.rt v H'
  | .ct ρ' => Sta K F G' H' σ' ρ' ad' → D.ct σ' H'
  | .bk ρ' => Sta K F G' H' σ' ρ' ad' → D.bk σ' H'
/-- the source's slot keeps its address -/
def Keeps (σ σ' : L2.St) (ρ : List Sl) : Prop := True
def cS [Tabl] (K : PySem.W.Frag) (ρ : List Sl) (o : Out) : TS := fun D σ H => ∃ F G ad, Sta K F G H σ ρ ad ∧ ∀ σ' H' G' ad', Ext F G G' → o.met K D F G' H' σ' ad'
def S1 [Tabl] (X : Cx) (st : Stmt) (ρ : List Sl) (o : Out) : Prop := PS X st (cS X.K ρ o)
def S [Tabl] (X : Cx) (st : List Stmt) (ρ : List Sl) (o : Out) : Prop := PSs X st (cS X.K ρ o)
theorem ps_imp {st : Stmt} {t t' : TS} (h : PS X st t) (k : ∀ D σ H, t' D σ H → t D σ H) : PS X st t' := ⟨fun pins s σ H D I q => h.run pins s σ H D I (k D σ H q)⟩
theorem pss_imp {st : List Stmt} {t t' : TS} (h : PSs X st t) (k : ∀ D σ H, t' D σ H → t D σ H) : PSs X st t' := ⟨fun pins s σ H D I q => h.run pins s σ H D I (k D σ H q)⟩
def anyS [Tabl] (X : Cx) (st : List Stmt) : TS := fun D σ H => ∃ ρ o, S X st ρ o ∧ cS X.K ρ o D σ H
theorem anyS_ok [Tabl] {st : List Stmt} : PSs X st (anyS X st) := ⟨fun pins s σ H D I ⟨ρ, o, h, k⟩ => h.run pins s σ H D I k⟩
def anyS1 [Tabl] (X : Cx) (st : Stmt) : TS := fun D σ H => ∃ ρ o, S1 X st ρ o ∧ cS X.K ρ o D σ H
theorem anyS1_ok [Tabl] {st : Stmt} : PS X st (anyS1 X st) := ⟨fun pins s σ H D I ⟨ρ, o, h, k⟩ => h.run pins s σ H D I k⟩
def Out.stops : Out → Prop
  | .nx _ => False
  | _ => True
/-- the ends but for what comes behind -/
theorem Out.met_nx [Tabl] {o : Out} {K : PySem.W.Frag} {D : Ends} {nx : L2.St → Hp → Prop} {F G' H' : Hp} {σ' : L2.St} {ad' : Nat → List Addr} (h : o.stops) (k : o.met K D F G' H' σ' ad') : o.met K { D with nx := nx } F G' H' σ' ad' := by
  cases o with
  | nx => exact h.elim
  | rt => exact k
  | ct => exact k
  | bk => exact k
theorem s_nil [Tabl] (h : Le ρ ρ1) : S X [] ρ (.nx ρ1) := pss_imp pss_nil fun D σ H ⟨F, G, ad, w, k⟩ => k σ H G ad (Ext.refl F G) (w.le h)
theorem s_nil' [Tabl] : S X [] ρ (.nx ρ) := s_nil (Le.refl ρ)
theorem s_cons [Tabl] {st : Stmt} {rs : List Stmt} {o : Out} (h : S1 X st ρ (.nx ρ1)) (hr : S X rs ρ1 o) : S X (st :: rs) ρ o :=
  pss_imp (pss_cons h anyS_ok) fun D σ H ⟨F, G, ad, w, k⟩ => ⟨F, G, ad, w, fun σ1 H1 G1 ad1 e1 w1 => ⟨ρ1, o, hr, F, G1, ad1, w1, fun σ2 H2 G2 ad2 e2 => k σ2 H2 G2 ad2 (e1.trans e2)⟩⟩
theorem s_stop [Tabl] {st : Stmt} {rs : List Stmt} {o : Out} (h : S1 X st ρ o) (ho : o.stops := by trivial) : S X (st :: rs) ρ o :=
  pss_imp (pss_cons h (u := fun _ _ _ => False) ⟨fun _ _ _ _ _ _ z => z.elim⟩) fun D σ H ⟨F, G, ad, w, k⟩ => ⟨F, G, ad, w, fun σ1 H1 G1 ad1 e1 => Out.met_nx ho (k σ1 H1 G1 ad1 e1)⟩
/-- what a block gives, then the rest -/
inductive Then [Tabl] (X : Cx) (A rs : List Stmt) (ρ : List Sl) (o : Out) : Prop
  | go {ρ1 : List Sl} (h : S X A ρ (.nx ρ1)) (hr : S X rs ρ1 o)
  | stop (h : S X A ρ o) (ho : o.stops)
theorem s_if [Tabl] {A B rs : List Stmt} {o : Out} (hc : T X c ρ p ρ1) (ha : p = true → Then X A rs ρ1 o) (hb : p = false → Then X B rs ρ1 o) : S X (.If c A B pos :: rs) ρ o := by
  refine pss_imp (pss_cons (ps_if hc anyS_ok anyS_ok) anyS_ok) fun D σ H ⟨F, G, ad, w, k⟩ => ⟨F, G, ad, w, fun H1 G1 ad1 e1 w1 => ?_⟩
  have go : ∀ {C : List Stmt}, Then X C rs ρ1 o → anyS X C { D with nx := anyS X rs D } σ H1 := fun {C} h => by
    cases h with
    | go h hr => exact ⟨ρ1, _, h, F, G1, ad1, w1, fun σ2 H2 G2 ad2 e2 w2 => ⟨_, o, hr, F, G2, ad2, w2, fun σ3 H3 G3 ad3 e3 => k σ3 H3 G3 ad3 ((e1.trans e2).trans e3)⟩⟩
    | stop h ho => exact ⟨ρ1, o, h, F, G1, ad1, w1, fun σ2 H2 G2 ad2 e2 => Out.met_nx ho (k σ2 H2 G2 ad2 (e1.trans e2))⟩
  cases p with
  | true => exact go (ha rfl)
  | false => exact go (hb rfl)
theorem s1_if [Tabl] {A B : List Stmt} {o : Out} (hc : T X c ρ p ρ1) (ha : p = true → S X A ρ1 o) (hb : p = false → S X B ρ1 o) : S1 X (.If c A B pos) ρ o := by
  refine ps_imp (ps_if hc anyS_ok anyS_ok) fun D σ H ⟨F, G, ad, w, k⟩ => ⟨F, G, ad, w, fun H1 G1 ad1 e1 w1 => ?_⟩
  cases p with
  | true => exact ⟨ρ1, o, ha rfl, F, G1, ad1, w1, fun σ2 H2 G2 ad2 e2 => k σ2 H2 G2 ad2 (e1.trans e2)⟩
  | false => exact ⟨ρ1, o, hb rfl, F, G1, ad1, w1, fun σ2 H2 G2 ad2 e2 => k σ2 H2 G2 ad2 (e1.trans e2)⟩
theorem Le.trans (h : Le ρ ρ1) (h2 : Le ρ1 ρ2) : Le ρ ρ2 := ⟨h.1.trans h2.1, fun i r q => by
  rcases h2.2 i r q with z | z
  · exact .inl z
  · exact h.2 i r z⟩
/-- forget ahead -/
theorem S.pre [Tabl] {st : List Stmt} {o : Out} (h : S X st ρ1 o) (l : Le ρ ρ1) : S X st ρ o := pss_imp h fun D σ H ⟨F, G, ad, w, k⟩ => ⟨F, G, ad, w.le l, k⟩
theorem S1.pre [Tabl] {st : Stmt} {o : Out} (h : S1 X st ρ1 o) (l : Le ρ ρ1) : S1 X st ρ o := ps_imp h fun D σ H ⟨F, G, ad, w, k⟩ => ⟨F, G, ad, w.le l, k⟩
theorem E.pre [Tabl] (h : E X e ρ1 d ρ2) (l : Le ρ ρ1) : E X e ρ d ρ2 := pe_imp h fun σ H Q ⟨F, G, ad, w, k⟩ => ⟨F, G, ad, w.le l, k⟩
theorem s_ret [Tabl] (h : E X e ρ d ρ1) : S1 X (.Return (some e) pos) ρ (.rt d ρ1) := ps_imp (ps_ret h) fun D σ H ⟨F, G, ad, w, k⟩ => ⟨F, G, ad, w, fun v H' G' ad' e1 w' p => k σ H' G' ad' e1 w' v p⟩
theorem s_ret' [Tabl] (h : E X e ρ d1 ρ1) (q : d1 = d) : S1 X (.Return (some e) pos) ρ (.rt d ρ1) := by subst q; exact s_ret h
theorem le_rep {n : Nat} (h : ρ.length = n) : Le ρ (List.replicate n .un) := ⟨by rw [List.length_replicate]; exact h, fun i r q => by
  rw [List.getElem?_replicate] at q
  split at q
  · cases q
    exact .inl rfl
  · cases q⟩
theorem le_src {n : Nat} {s l : Addr} {t : Src} (h : ρ[0]? = some (.src s l t)) (hn : ρ.length = n + 1) : Le ρ (.src s l t :: List.replicate n .un) := ⟨by rw [List.length_cons, List.length_replicate]; exact hn, fun i r q => by
  cases i with
  | zero =>
    cases q
    exact .inr h
  | succ i =>
    rw [List.getElem?_cons_succ, List.getElem?_replicate] at q
    split at q
    · cases q
      exact .inl rfl
    · cases q⟩
/-- return, in a def over data; in one with the source in slot 0 -/
theorem s_retP [Tabl] {n : Nat} (h : E X e ρ d1 ρ1) (q : d1 = d := by rfl) (hn : ρ1.length = n := by rfl) : S1 X (.Return (some e) pos) ρ (.rt d (List.replicate n .un)) := by
  subst q
  exact ps_imp (ps_ret h) fun D σ H ⟨F, G, ad, w, k⟩ => ⟨F, G, ad, w, fun v H' G' ad' e1 w' p => k σ H' G' ad' e1 (w'.le (le_rep hn)) v p⟩
theorem s_retS [Tabl] {n : Nat} {s l : Addr} {t : Src} (h : E X e ρ d1 ρ1) (q : d1 = d := by rfl) (h0 : ρ1[0]? = some (.src s l t) := by rfl) (hn : ρ1.length = n + 1 := by rfl) : S1 X (.Return (some e) pos) ρ (.rt d (.src s l t :: List.replicate n .un)) := by
  subst q
  exact ps_imp (ps_ret h) fun D σ H ⟨F, G, ad, w, k⟩ => ⟨F, G, ad, w, fun v H' G' ad' e1 w' p => k σ H' G' ad' e1 (w'.le (le_src h0 hn)) v p⟩
theorem s_retN [Tabl] : S1 X (.Return none pos) ρ (.rt .none ρ) := ps_imp ps_retN fun D σ H ⟨F, G, ad, w, k⟩ => k σ H G ad (Ext.refl F G) w .non .non
theorem s_pass [Tabl] : S1 X (.Pass pos) ρ (.nx ρ) := ps_imp ps_pass fun D σ H ⟨F, G, ad, w, k⟩ => k σ H G ad (Ext.refl F G) w
theorem s_cont [Tabl] : S1 X (.Continue pos) ρ (.ct ρ) := ps_imp ps_continue fun D σ H ⟨F, G, ad, w, k⟩ => k σ H G ad (Ext.refl F G) w
theorem s_break [Tabl] : S1 X (.Break pos) ρ (.bk ρ) := ps_imp ps_break fun D σ H ⟨F, G, ad, w, k⟩ => k σ H G ad (Ext.refl F G) w
theorem s_drop [Tabl] (h : E X e ρ d ρ1) (hs : swapsWith e none pos.line X.env = pure false := by rfl) : S1 X (.Expr e pos) ρ (.nx ρ1) := ps_imp (ps_expr h hs) fun D σ H ⟨F, G, ad, w, k⟩ => ⟨F, G, ad, w, fun v H' G' ad' e1 w' _ => k σ H' G' ad' e1 w'⟩
theorem s_doc [Tabl] {z : Str} {j : Nat} {pos' : Pos} : S1 X (.Expr (.Constant (.str z) j pos) pos') ρ (.nx ρ) := ps_imp ps_doc fun D σ H ⟨F, G, ad, w, k⟩ => k σ H G ad (Ext.refl F G) w

/-! ### targets -/
/-- σ' is σ but at js -/
def Off (js : List Nat) (σ σ' : L2.St) : Prop := σ'.length = σ.length ∧ ∀ i, i ∉ js → σ'[i]? = σ[i]?
theorem Off.refl (js : List Nat) (σ : L2.St) : Off js σ σ := ⟨rfl, fun _ _ => rfl⟩
theorem Off.trans {js ks : List Nat} {σ σ' σ'' : L2.St} (a : Off js σ σ') (b : Off ks σ' σ'') : Off (js ++ ks) σ σ'' := ⟨b.1.trans a.1, fun i h => (b.2 i fun z => h (List.mem_append_right _ z)).trans (a.2 i fun z => h (List.mem_append_left _ z))⟩
def cG [Tabl] (K : PySem.W.Frag) (d : PyData) (ρ ρ' : List Sl) (js : List Nat) : TG := fun v σ H Q => ∃ F G ad, Sta K F G H σ ρ ad ∧ Da K G v d ∧ ∀ σ' H' G' ad', Off js σ σ' → Ext F G G' → Sta K F G' H' σ' ρ' ad' → Q σ' H'
def TgD [Tabl] (X : Cx) (tg : Expr) (d : PyData) (ρ ρ' : List Sl) (js : List Nat) : Prop := PG X tg (cG X.K d ρ ρ' js)
def cGs [Tabl] (K : PySem.W.Frag) (ds : List PyData) (ρ ρ' : List Sl) (js : List Nat) : TGs := fun vs σ H Q => ∃ F G ad, Sta K F G H σ ρ ad ∧ DaAll K G vs ds ∧ ∀ σ' H' G' ad', Off js σ σ' → Ext F G G' → Sta K F G' H' σ' ρ' ad' → Q σ' H'
def TgsD [Tabl] (X : Cx) (es : List Expr) (ds : List PyData) (ρ ρ' : List Sl) (js : List Nat) : Prop := PGs X es (cGs X.K ds ρ ρ' js)
theorem pg_imp {tg : Expr} {t t' : TG} (h : PG X tg t) (k : ∀ v σ H Q, t' v σ H Q → t v σ H Q) : PG X tg t' := ⟨fun pins s σ H v u Q I r q => h.run pins s σ H v u Q I r (k v σ H Q q)⟩
theorem pgs_imp {tg : List Expr} {t t' : TGs} (h : PGs X tg t) (k : ∀ v σ H Q, t' v σ H Q → t v σ H Q) : PGs X tg t' := ⟨fun pins s σ H v u Q I r q => h.run pins s σ H v u Q I r (k v σ H Q q)⟩
def anyG [Tabl] (X : Cx) (tg : Expr) : TG := fun v σ H Q => ∃ d ρ ρ' js, TgD X tg d ρ ρ' js ∧ cG X.K d ρ ρ' js v σ H Q
theorem anyG_ok [Tabl] {tg : Expr} : PG X tg (anyG X tg) := ⟨fun pins s σ H v u Q I r ⟨d, ρ, ρ', js, h, k⟩ => h.run pins s σ H v u Q I r k⟩
theorem g_name [Tabl] (i : Nat) (hN : X.N.Nodup) (hi : X.N[i]? = some x := by rfl) (hx : Loc X.env.scope x := by first | exact Or.inl rfl | exact Or.inr rfl) (hl : i < ρ.length := by exact Nat.le_of_ble_eq_true rfl) (hf : X.fn x = true ∨ X.env.scope.names.lookup x = some .local := by first | exact .inl rfl | exact .inr rfl) :
    TgD X (.Name x pos) d ρ (ρ.set i (.dat d)) [i] := pg_imp (pg_name hN hi hx hf) fun v σ H Q ⟨F, G, ad, w, p, k⟩ => k _ H G _ ⟨List.length_set, fun j hj => List.getElem?_set_ne (fun z => hj (by rw [z]; exact List.mem_singleton.mpr rfl))⟩ (Ext.refl F G) (w.set p hl)
theorem gs_nil [Tabl] : TgsD X [] [] ρ ρ [] := pgs_imp pgs_nil fun vs σ H Q ⟨F, G, ad, w, p, k⟩ => by
  cases p
  exact ⟨rfl, k σ H G ad (Off.refl _ _) (Ext.refl F G) w⟩
theorem gs_cons [Tabl] {es : List Expr} {js ks : List Nat} (h1 : TgD X e d ρ ρ1 js) (h2 : TgsD X es ds ρ1 ρ2 ks) (hs : (assignEach (e :: es) X.env).map (·.2) = assign e X.env :: (assignEach es X.env).map (·.2) := by rfl) : TgsD X (e :: es) (d :: ds) ρ ρ2 (js ++ ks) :=
  pgs_imp (pgs_cons h1 h2 hs) fun vs σ H Q ⟨F, G, ad, w, p, k⟩ => by
    cases p with
    | cons p1 p2 => exact ⟨_, _, rfl, F, G, ad, w, p1, fun σ1 H1 G1 ad1 o1 e1 w1 => ⟨F, G1, ad1, w1, daAll_ex e1.1 p2, fun σ2 H2 G2 ad2 o2 e2 w2 => k σ2 H2 G2 ad2 (o1.trans o2) (e1.trans e2) w2⟩⟩
theorem g_tup [Tabl] {es : List Expr} {js : List Nat} {k : Nat} (hc : X.calm = true) (h : TgsD X es ds ρ ρ1 js) (hn : (assignEach es X.env).length = ds.length := by rfl) (hst : (assignEach es X.env).findIdx? (·.1) = none := by rfl) : TgD X (.Tuple es k pos) (.tuple ds) ρ ρ1 js :=
  pg_imp (pg_tup (n := ds.length) hc h hn hst) fun v σ H Q ⟨F, G, ad, w, p, k⟩ => by
    cases p with
    | tup p1 p2 => exact ⟨_, _, rfl, sqT_ex w.gh p1, daAll_len p2, F, G, ad, w, p2, k⟩
/-! ### assignments -/
theorem s_asg [Tabl] {tg : Expr} (he : E X e ρ d ρ1) {js : List Nat} (hg : TgD X tg d ρ1 ρ2 js) (hs : swapsWithSole [tg] e pos.line X.env = pure false := by rfl) (hw : swappedStores [tg] e X.env = pure none := by rfl)
    (h1 : (assignEach [tg] X.env).map (·.2) = [assign tg X.env] := by rfl) : S1 X (.Assign [tg] e pos) ρ (.nx ρ2) :=
  ps_imp (ps_asg he hg hs hw h1) fun D σ H ⟨F, G, ad, w, k⟩ => ⟨F, G, ad, w, fun v H1 G1 ad1 e1 w1 p1 => ⟨F, G1, ad1, w1, p1, fun σ2 H2 G2 ad2 _ e2 w2 => k σ2 H2 G2 ad2 (e1.trans e2) w2⟩⟩
theorem s_set [Tabl] (i : Nat) {pos' : Pos} (he : E X e ρ d ρ1) (hN : X.N.Nodup) (hi : X.N[i]? = some x := by rfl) (hx : Loc X.env.scope x := by first | exact Or.inl rfl | exact Or.inr rfl) (hl : i < ρ1.length := by exact Nat.le_of_ble_eq_true rfl) (hs : swapsWith e (some (.Name x pos')) pos.line X.env = pure false := by rfl)
    (hf : X.fn x = true ∨ X.env.scope.names.lookup x = some .local := by first | exact .inl rfl | exact .inr rfl) : S1 X (.Assign [.Name x pos'] e pos) ρ (.nx (ρ1.set i (.dat d))) :=
  ps_imp (ps_set hN hi hx he hs hf) fun D σ H ⟨F, G, ad, w, k⟩ => ⟨F, G, ad, w, fun v H1 G1 ad1 e1 w1 p1 => k _ H1 G1 _ e1 (w1.set p1 hl)⟩
theorem s_setO [Tabl] (i : Nat) {pos' : Pos} (he : EO X e ρ ds ρ1) (hN : X.N.Nodup) (hi : X.N[i]? = some x := by rfl) (hx : Loc X.env.scope x := by first | exact Or.inl rfl | exact Or.inr rfl) (hl : i < ρ1.length := by exact Nat.le_of_ble_eq_true rfl) (hs : swapsWith e (some (.Name x pos')) pos.line X.env = pure false := by rfl)
    (hf : X.fn x = true ∨ X.env.scope.names.lookup x = some .local := by first | exact .inl rfl | exact .inr rfl) : S1 X (.Assign [.Name x pos'] e pos) ρ (.nx (ρ1.set i (.own ds))) :=
  ps_imp (ps_set hN hi hx he hs hf) fun D σ H ⟨F, G, ad, w, k⟩ => ⟨F, G, ad, w, fun l xs H1 G1 ad1 e1 w1 q1 q2 q3 q4 q5 => k _ H1 G1 _ e1 (w1.setO q4 q5 q1 q2 q3 hl)⟩
/-- a, b = e1, e2 with plain local names -/
theorem s_par [Tabl] (i j : Nat) {y : Str} {px py pt : Pos} {kt k2 : Nat} {pt2 : Pos} (ha : EA X [a, b] ρ [d1, d2] ρ1) (hc : X.calm = true) (hN : X.N.Nodup) (hi : X.N[i]? = some x := by rfl) (hj : X.N[j]? = some y := by rfl) (hij : i ≠ j := by decide)
    (hx : X.env.scope.names.lookup x = some .local := by rfl) (hy : X.env.scope.names.lookup y = some .local := by rfl) (hl : i < ρ1.length := by exact Nat.le_of_ble_eq_true rfl) (hl2 : j < ρ1.length := by exact Nat.le_of_ble_eq_true rfl)
    (hw : swappedStores [.Tuple [.Name x px, .Name y py] kt pt] (.Tuple [a, b] k2 pt2) X.env = pure (some [x, y]) := by rfl)
    (hs : swapsWithSole [.Tuple [.Name x px, .Name y py] kt pt] (.Tuple [a, b] k2 pt2) pos.line X.env = pure false := by rfl) :
    S1 X (.Assign [.Tuple [.Name x px, .Name y py] kt pt] (.Tuple [a, b] k2 pt2) pos) ρ (.nx ((ρ1.set i (.dat d1)).set j (.dat d2))) :=
  ps_imp (ps_par hc hN hi hj hij hx hy ha hw hs) fun D σ H ⟨F, G, ad, w, k⟩ => ⟨F, G, ad, w, fun vs H1 G1 ad1 e1 w1 p1 => by
    obtain ⟨v, u, rfl, q1, q2⟩ := daAll_two p1
    exact ⟨v, u, rfl, k _ H1 G1 _ e1 ((w1.set q1 hl).set q2 (by rw [List.length_set]; exact hl2))⟩⟩
end
end DM
end part_DMd
section part_DMe
namespace DM
open L2 PyProof.Rows PySem.Spec PySem
/-! ### what is walked -/
def Walks (K : PySem.W.Frag) (J : It) (G : Hp) (ys : List PyData) : Prop := ∀ (H G2 : Hp), Ex G G2 → Ex G2 H → J.stop ys.length H ∧ ∀ (i : Nat) (d : PyData), ys[i]? = some d → J.go i H ∧ ∀ x H', J.yld i H x H' → ∃ G', Ex H H' ∧ Ext H G2 G' ∧ Ex G' H' ∧ Da K G' x d
def cI [Tabl] (K : PySem.W.Frag) (ρ : List Sl) (ys : List PyData) (ρ' : List Sl) : TI := fun σ H R => ∃ F G ad, Sta K F G H σ ρ ad ∧ ∀ J H' G' ad', Ext F G G' → Sta K F G' H' σ ρ' ad' → Walks K J G' ys → R J H'
def Iter [Tabl] (X : Cx) (tg it : Expr) (ρ : List Sl) (ys : List PyData) (ρ' : List Sl) : Prop := PI X tg it (cI X.K ρ ys ρ')
theorem pi_imp {X : Cx} {tg it : Expr} {t t' : TI} (h : PI X tg it t) (k : ∀ σ H R, t' σ H R → t σ H R) : PI X tg it t' := ⟨fun pins s σ H R I q => h.run pins s σ H R I (k σ H R q)⟩
section
variable {X : Cx} {e a b c tg it l elt : Expr} {rest : List Expr} {ρ ρ0 ρ1 ρ2 ρ3 : List Sl} {d d1 d2 d3 : PyData} {ds es ys rs : List PyData} {x : Str} {pos : Pos} {p q : Bool}
theorem i_list [Tabl] (h : E X l ρ (.list ds) ρ1) : Iter X tg l ρ ds ρ1 := pi_imp (pi_list h) fun σ H R ⟨F, G, ad, w, k⟩ => ⟨F, G, ad, w, fun v H1 G1 ad1 e1 w1 p1 => by
  cases p1 with
  | lst h1 h2 =>
    refine ⟨_, rfl, ⟨_, SqL.of (w1.gh _ _ h1)⟩, k _ H1 G1 ad1 e1 w1 fun H2 G2 g1 g2 => ⟨⟨_, SqL.of (g2 _ _ (g1 _ _ h1)), by rw [daAll_len h2]; exact Nat.le_refl _⟩, fun i d hi => ?_⟩⟩
    obtain ⟨v, hv, pv⟩ := daAll_get h2 hi
    refine ⟨⟨_, v, SqL.of (g2 _ _ (g1 _ _ h1)), hv⟩, fun x H' ⟨e, z⟩ => ?_⟩
    subst e
    have zz := z _ (SqL.of (g2 _ _ (g1 _ _ h1)))
    rw [hv] at zz
    cases zz
    exact ⟨G2, Ex.refl _, Ext.refl _ _, g2, da_ex g1 pv⟩⟩
theorem i_tup [Tabl] (h : E X l ρ (.tuple ds) ρ1) : Iter X tg l ρ ds ρ1 := pi_imp (pi_tup h) fun σ H R ⟨F, G, ad, w, k⟩ => ⟨F, G, ad, w, fun v H1 G1 ad1 e1 w1 p1 => by
  cases p1 with
  | tup h1 h2 =>
    refine ⟨_, rfl, ⟨_, sqT_ex w1.gh h1⟩, k _ H1 G1 ad1 e1 w1 fun H2 G2 g1 g2 => ⟨⟨_, sqT_ex (g1.trans g2) h1, by rw [daAll_len h2]; exact Nat.le_refl _⟩, fun i d hi => ?_⟩⟩
    obtain ⟨v, hv, pv⟩ := daAll_get h2 hi
    refine ⟨⟨_, v, sqT_ex (g1.trans g2) h1, hv⟩, fun x H' ⟨e, z⟩ => ?_⟩
    subst e
    have zz := z _ (sqT_ex (g1.trans g2) h1)
    rw [hv] at zz
    cases zz
    exact ⟨G2, Ex.refl _, Ext.refl _ _, g2, da_ex g1 pv⟩⟩
/-- lo, lo + 1, .., n of them -/
def rangeD (lo : Int) (n : Nat) : List PyData := (List.range n).map fun (i : Nat) => PyData.int (lo + i)
theorem rangeD_len (lo : Int) (n : Nat) : (rangeD lo n).length = n := by unfold rangeD; rw [List.length_map, List.length_range]
theorem walks_range (K : PySem.W.Frag) (G : Hp) (lo : Int) (n : Nat) : Walks K (Itr lo n) G (rangeD lo n) := fun H2 G2 g1 g2 => ⟨by rw [rangeD_len]; exact Nat.le_refl _, fun i d hi => by
  have hi2 : i < n := by
    have := (List.getElem?_eq_some_iff.mp hi).1
    rw [rangeD_len] at this
    exact this
  refine ⟨hi2, fun x H' ⟨e, z⟩ => ?_⟩
  subst e z
  unfold rangeD at hi
  rw [List.getElem?_map, List.getElem?_range hi2] at hi
  cases hi
  exact ⟨G2, Ex.refl _, Ext.refl _ _, g2, .int _⟩⟩
theorem i_range1 [Tabl] {p0 : Pos} {n : Int} (h : EA X [a] ρ [.int n] ρ1) (hm : X.mg "range" = none) (h1 : -(2 ^ 62) ≤ n ∧ n < 2 ^ 62 := by first | decide | omega) (hg : Gl X "range" := by rfl) (hs : starEach [a] X.env = [(false, eval a X.env)] := by rfl) : Iter X tg (.Call (.Name "range" p0) [a] [] pos) ρ (rangeD 0 n.toNat) ρ1 :=
  pi_imp (pi_range1 hg hm h hs) fun σ H R ⟨F, G, ad, w, k⟩ => ⟨F, G, ad, w, fun vs H1 G1 ad1 e1 w1 p1 => by
    obtain ⟨v, rfl, q⟩ := daAll_one p1
    cases q
    exact ⟨n, rfl, h1.1, h1.2, k _ H1 G1 ad1 e1 w1 (walks_range _ _ 0 n.toNat)⟩⟩
theorem i_range2 [Tabl] {p0 : Pos} {m n : Int} (h : EA X [a, b] ρ [.int m, .int n] ρ1) (hm : X.mg "range" = none) (h1 : (-(2 ^ 62) ≤ m ∧ m < 2 ^ 62) ∧ -(2 ^ 62) ≤ n ∧ n < 2 ^ 62 := by first | decide | omega) (hg : Gl X "range" := by rfl) (hs : starEach [a, b] X.env = [(false, eval a X.env), (false, eval b X.env)] := by rfl) (hs2 : starEach [b] X.env = [(false, eval b X.env)] := by rfl) :
    Iter X tg (.Call (.Name "range" p0) [a, b] [] pos) ρ (rangeD m (n - m).toNat) ρ1 :=
  pi_imp (pi_range2 hg hm h hs hs2) fun σ H R ⟨F, G, ad, w, k⟩ => ⟨F, G, ad, w, fun vs H1 G1 ad1 e1 w1 p1 => by
    obtain ⟨v, u, rfl, q, r⟩ := daAll_two p1
    cases q
    cases r
    exact ⟨m, n, rfl, ⟨h1.1.1, h1.1.2, h1.2.1, h1.2.2⟩, k _ H1 G1 ad1 e1 w1 (walks_range _ _ m (n - m).toNat)⟩⟩
/-! ### for -/
inductive Loop [Tabl] (X : Cx) (tg : Expr) (body : List Stmt) : List PyData → List Sl → Out → Prop
  | nil {ρ : List Sl} : Loop X tg body [] ρ (.nx ρ)
  | nx {d : PyData} {ds : List PyData} {ρ ρ1 ρ2 : List Sl} {o : Out} {js : List Nat} : TgD X tg d ρ ρ1 js → S X body ρ1 (.nx ρ2) → Loop X tg body ds ρ2 o → Loop X tg body (d :: ds) ρ o
  | ct {d : PyData} {ds : List PyData} {ρ ρ1 ρ2 : List Sl} {o : Out} {js : List Nat} : TgD X tg d ρ ρ1 js → S X body ρ1 (.ct ρ2) → Loop X tg body ds ρ2 o → Loop X tg body (d :: ds) ρ o
  | bk {d : PyData} {ds : List PyData} {ρ ρ1 ρ2 : List Sl} {js : List Nat} : TgD X tg d ρ ρ1 js → S X body ρ1 (.bk ρ2) → Loop X tg body (d :: ds) ρ (.nx ρ2)
  | rt {d r : PyData} {ds : List PyData} {ρ ρ1 ρ2 : List Sl} {js : List Nat} : TgD X tg d ρ ρ1 js → S X body ρ1 (.rt r ρ2) → Loop X tg body (d :: ds) ρ (.rt r ρ2)
  | pre {ds : List PyData} {ρ ρ1 : List Sl} {o : Out} : Le ρ ρ1 → Loop X tg body ds ρ1 o → Loop X tg body ds ρ o
/-- a turn -/
def Turn1 [Tabl] (X : Cx) (tg : Expr) (body : List Stmt) (d : PyData) (ds : List PyData) (ρ : List Sl) (o : Out) : Prop := ∃ ρ1 js o1, TgD X tg d ρ ρ1 js ∧ S X body ρ1 o1 ∧ match o1 with
  | .nx ρ2 => Loop X tg body ds ρ2 o
  | .ct ρ2 => Loop X tg body ds ρ2 o
  | .bk ρ2 => o = .nx ρ2
  | .rt r ρ2 => o = .rt r ρ2
theorem loop_cases [Tabl] {body : List Stmt} {o : Out} (h : Loop X tg body ds ρ o) : ∃ ρ0, Le ρ ρ0 ∧ ((ds = [] ∧ o = .nx ρ0) ∨ ∃ d es, ds = d :: es ∧ Turn1 X tg body d es ρ0 o) := by
  induction h with
  | nil => exact ⟨_, Le.refl _, .inl ⟨rfl, rfl⟩⟩
  | nx h1 h2 h3 _ => exact ⟨_, Le.refl _, .inr ⟨_, _, rfl, _, _, .nx _, h1, h2, h3⟩⟩
  | ct h1 h2 h3 _ => exact ⟨_, Le.refl _, .inr ⟨_, _, rfl, _, _, .ct _, h1, h2, h3⟩⟩
  | bk h1 h2 => exact ⟨_, Le.refl _, .inr ⟨_, _, rfl, _, _, .bk _, h1, h2, rfl⟩⟩
  | rt h1 h2 => exact ⟨_, Le.refl _, .inr ⟨_, _, rfl, _, _, .rt _ _, h1, h2, rfl⟩⟩
  | pre h1 _ ih =>
    obtain ⟨ρ0, h2, h3⟩ := ih
    exact ⟨ρ0, h1.trans h2, h3⟩
theorem drop_cons {ys : List PyData} {i : Nat} {d : PyData} {es : List PyData} (h : ys.drop i = d :: es) : ys[i]? = some d ∧ ys.drop (i + 1) = es := by
  have h1 : (ys.drop i)[0]? = some d := by rw [h]; rfl
  rw [List.getElem?_drop] at h1
  refine ⟨h1, ?_⟩
  have h2 : (ys.drop i).drop 1 = es := by rw [h]; rfl
  rw [List.drop_drop] at h2
  exact h2
theorem s_for [Tabl] {body : List Stmt} {o : Out} (hi : Iter X tg it ρ ys ρ1) (hl : Loop X tg body ys ρ1 o) (hc : X.calm = true := by rfl) (hp : PassesOwn (model X.prog X.w) X.A X.env X.xe := by exact PassesOwn.never) (hs : ∀ x, foldedSetIterable it X.env x = pure x := by intro _; rfl) : S1 X (.For tg it body [] pos) ρ o := by
  refine ps_imp (ps_for hp hc hi anyG_ok anyS_ok hs) fun D σ H ⟨F, G, ad, w, k⟩ => ⟨F, G, ad, w, fun J H1 G1 ad1 e1 w1 wk => ?_⟩
  refine ⟨fun i m σ H => m = ys.length - i ∧ i ≤ ys.length ∧ ∃ ρi Gi adi, Ext F G1 Gi ∧ Sta X.K F Gi H σ ρi adi ∧ Loop X tg body (ys.drop i) ρi o, ⟨ys.length, by simp, Nat.zero_le _, ρ1, G1, ad1, Ext.refl _ _, w1, by simpa using hl⟩, ?_⟩
  rintro i m σ2 H2 ⟨rfl, hle, ρi, Gi, adi, e2, w2, hl2⟩
  obtain ⟨ws, wg⟩ := wk H2 Gi e2.1 w2.gh
  obtain ⟨ρ0, le, hcase⟩ := loop_cases hl2
  rcases hcase with ⟨hnil, ho⟩ | ⟨d, es, hcons, ρ2, js, o1, ht, hb, ho⟩
  · have ei : i = ys.length := by
      have := List.drop_eq_nil_iff.mp hnil
      omega
    subst ei ho
    exact .inl ⟨ws, k σ2 H2 Gi adi (e1.trans e2) (w2.le le)⟩
  · obtain ⟨hd, hes⟩ := drop_cons hcons
    obtain ⟨hgo, hy⟩ := wg i d hd
    have hlt : i < ys.length := (List.getElem?_eq_some_iff.mp hd).1
    refine .inr ⟨hgo, fun σ' H' => ∃ ρ2 G2 ad2, Ext F G1 G2 ∧ Sta X.K F G2 H' σ' ρ2 ad2 ∧ Loop X tg body (ys.drop (i + 1)) ρ2 o, fun σ' H' hN => ⟨ys.length - (i + 1), by omega, rfl, hlt, hN⟩, fun x H' hx => ?_⟩
    obtain ⟨G3, x1, x2, x3, x4⟩ := hy x H' hx
    have w3 := (w2.grow x1 x2 x3).le le
    have e3 : Ext F G1 G3 := e2.trans (x2.weak w2.fh)
    refine ⟨d, ρ0, ρ2, js, ht, F, G3, _, w3, x4, fun σ4 H4 G4 ad4 _ e4 w4 => ⟨ρ2, o1, hb, F, G4, ad4, w4, fun σ5 H5 G5 ad5 e5 => ?_⟩⟩
    have e6 : Ext F G1 G5 := (e3.trans e4).trans e5
    cases o1 with
    | nx ρ3 => exact fun w5 => ⟨ρ3, G5, ad5, e6, w5, by rw [hes]; exact ho⟩
    | ct ρ3 => exact fun w5 => ⟨ρ3, G5, ad5, e6, w5, by rw [hes]; exact ho⟩
    | bk ρ3 =>
      subst ho
      exact k σ5 H5 G5 ad5 (e1.trans e6)
    | rt r ρ3 =>
      subst ho
      exact k σ5 H5 G5 ad5 (e1.trans e6)
/-! ### while -/
inductive Wh [Tabl] (X : Cx) (c : Expr) (body : List Stmt) : Nat → List Sl → Out → Prop
  | done {ρ ρ1 : List Sl} : T X c ρ false ρ1 → Wh X c body 0 ρ (.nx ρ1)
  | nx {n : Nat} {ρ ρ1 ρ2 : List Sl} {o : Out} : T X c ρ true ρ1 → S X body ρ1 (.nx ρ2) → Wh X c body n ρ2 o → Wh X c body (n + 1) ρ o
  | ct {n : Nat} {ρ ρ1 ρ2 : List Sl} {o : Out} : T X c ρ true ρ1 → S X body ρ1 (.ct ρ2) → Wh X c body n ρ2 o → Wh X c body (n + 1) ρ o
  | bk {ρ ρ1 ρ2 : List Sl} : T X c ρ true ρ1 → S X body ρ1 (.bk ρ2) → Wh X c body 0 ρ (.nx ρ2)
  | rt {r : PyData} {ρ ρ1 ρ2 : List Sl} : T X c ρ true ρ1 → S X body ρ1 (.rt r ρ2) → Wh X c body 0 ρ (.rt r ρ2)
  | pre {n : Nat} {ρ ρ1 : List Sl} {o : Out} : Le ρ ρ1 → Wh X c body n ρ1 o → Wh X c body n ρ o
def WTurn [Tabl] (X : Cx) (c : Expr) (body : List Stmt) (n : Nat) (ρ : List Sl) (o : Out) : Prop := ∃ ρ1 o1, T X c ρ true ρ1 ∧ S X body ρ1 o1 ∧ match o1 with
  | .nx ρ2 => ∃ m, m < n ∧ Wh X c body m ρ2 o
  | .ct ρ2 => ∃ m, m < n ∧ Wh X c body m ρ2 o
  | .bk ρ2 => o = .nx ρ2
  | .rt r ρ2 => o = .rt r ρ2
theorem wh_cases [Tabl] {body : List Stmt} {n : Nat} {o : Out} (h : Wh X c body n ρ o) : ∃ ρ0, Le ρ ρ0 ∧ ((∃ ρ1, T X c ρ0 false ρ1 ∧ o = .nx ρ1) ∨ WTurn X c body n ρ0 o) := by
  induction h with
  | done h => exact ⟨_, Le.refl _, .inl ⟨_, h, rfl⟩⟩
  | nx h1 h2 h3 _ => exact ⟨_, Le.refl _, .inr ⟨_, .nx _, h1, h2, _, Nat.lt_succ_self _, h3⟩⟩
  | ct h1 h2 h3 _ => exact ⟨_, Le.refl _, .inr ⟨_, .ct _, h1, h2, _, Nat.lt_succ_self _, h3⟩⟩
  | bk h1 h2 => exact ⟨_, Le.refl _, .inr ⟨_, .bk _, h1, h2, rfl⟩⟩
  | rt h1 h2 => exact ⟨_, Le.refl _, .inr ⟨_, .rt _ _, h1, h2, rfl⟩⟩
  | pre h1 _ ih =>
    obtain ⟨ρ0, h2, h3⟩ := ih
    exact ⟨ρ0, h1.trans h2, h3⟩
theorem s_while [Tabl] {body : List Stmt} {n : Nat} {o : Out} (h : Wh X c body n ρ o) (hp : PassesOwn (model X.prog X.w) X.A X.env X.xe := by exact PassesOwn.never) : S1 X (.While c body [] pos) ρ o := by
  refine ps_imp (ps_while hp anyT_ok anyS_ok) fun D σ H ⟨F, G, ad, w, k⟩ => ⟨fun m σ' H' => ∃ ρi Gi adi, Ext F G Gi ∧ Sta X.K F Gi H' σ' ρi adi ∧ Wh X c body m ρi o, ⟨n, ρ, G, ad, Ext.refl _ _, w, h⟩, ?_⟩
  rintro m σ' H' ⟨ρi, Gi, adi, e1, w1, h1⟩
  obtain ⟨ρ0, le, hcase⟩ := wh_cases h1
  rcases hcase with ⟨ρ1, ht, rfl⟩ | ⟨ρ1, o1, ht, hb, ho⟩
  · exact ⟨ρ0, false, ρ1, ht, F, Gi, adi, w1.le le, fun H2 G2 ad2 e2 w2 => k σ' H2 G2 ad2 (e1.trans e2) w2⟩
  · refine ⟨ρ0, true, ρ1, ht, F, Gi, adi, w1.le le, fun H2 G2 ad2 e2 w2 => ?_⟩
    show (if true = true then _ else _)
    rw [if_pos rfl]
    refine ⟨fun σ' H' => ∃ m', m' < m ∧ ∃ ρi Gi adi, Ext F G Gi ∧ Sta X.K F Gi H' σ' ρi adi ∧ Wh X c body m' ρi o, fun σ3 H3 h3 => h3, ?_⟩
    refine ⟨ρ1, o1, hb, F, G2, ad2, w2, fun σ5 H5 G5 ad5 e5 => ?_⟩
    have e6 : Ext F G G5 := (e1.trans e2).trans e5
    cases o1 with
    | nx ρ3 =>
      obtain ⟨m', hm, hw⟩ := ho
      exact fun w5 => ⟨m', hm, ρ3, G5, ad5, e6, w5, hw⟩
    | ct ρ3 =>
      obtain ⟨m', hm, hw⟩ := ho
      exact fun w5 => ⟨m', hm, ρ3, G5, ad5, e6, w5, hw⟩
    | bk ρ3 =>
      subst ho
      exact k σ5 H5 G5 ad5 e6
    | rt r ρ3 =>
      subst ho
      exact k σ5 H5 G5 ad5 e6
end
end DM
end part_DMe
section part_DMf
namespace DM
open L2 PyProof.Rows PySem.Spec PySem
/-! ### comprehensions -/
def wipeA (vs : List Nat) : Nat → List Sl → List Sl
  | _, [] => []
  | i, r :: ρ => (if vs.contains i then Sl.un else r) :: wipeA vs (i + 1) ρ
def keepDat : Sl → Sl
  | .dat d => .dat d
  | _ => .un
def joinA (vs : List Nat) : Nat → List Sl → List Sl → List Sl
  | _, _, [] => []
  | i, [], r :: ρ => (if vs.contains i then Sl.un else r) :: joinA vs (i + 1) [] ρ
  | i, r0 :: ρ0, r :: ρ => (if vs.contains i then keepDat r0 else r) :: joinA vs (i + 1) ρ0 ρ
theorem wipeA_get (vs : List Nat) : ∀ (ρ : List Sl) (k i : Nat), (wipeA vs k ρ)[i]? = (ρ[i]?).map fun r => if vs.contains (k + i) then Sl.un else r
  | [], k, i => by simp [wipeA]
  | r :: ρ, k, 0 => by simp [wipeA]
  | r :: ρ, k, i + 1 => by
    have h := wipeA_get vs ρ (k + 1) i
    rw [show k + 1 + i = k + (i + 1) by omega] at h
    simpa [wipeA] using h
theorem wipeA_len (vs : List Nat) : ∀ (ρ : List Sl) (k : Nat), (wipeA vs k ρ).length = ρ.length
  | [], k => rfl
  | r :: ρ, k => by
    show (wipeA vs (k + 1) ρ).length + 1 = ρ.length + 1
    rw [wipeA_len vs ρ (k + 1)]
theorem joinA_len (vs : List Nat) : ∀ (ρ ρ0 : List Sl) (k : Nat), (joinA vs k ρ0 ρ).length = ρ.length
  | [], ρ0, k => by cases ρ0 <;> rfl
  | r :: ρ, [], k => by
    show (joinA vs (k + 1) [] ρ).length + 1 = ρ.length + 1
    rw [joinA_len vs ρ [] (k + 1)]
  | r :: ρ, r0 :: ρ0, k => by
    show (joinA vs (k + 1) ρ0 ρ).length + 1 = ρ.length + 1
    rw [joinA_len vs ρ ρ0 (k + 1)]
theorem joinA_get (vs : List Nat) : ∀ (ρ ρ0 : List Sl) (k i : Nat) (r : Sl), (joinA vs k ρ0 ρ)[i]? = some r → (vs.contains (k + i) = false ∧ ρ[i]? = some r) ∨ (vs.contains (k + i) = true ∧ (r = .un ∨ ∃ d, r = .dat d ∧ ρ0[i]? = some (.dat d)))
  | [], ρ0, k, i, r, h => by cases ρ0 <;> simp [joinA] at h
  | r1 :: ρ, [], k, 0, r, h => by
    have e : r = (if vs.contains k then Sl.un else r1) := by simpa [joinA] using h.symm
    cases q : vs.contains k with
    | true =>
      rw [q, if_pos rfl] at e
      exact .inr ⟨rfl, .inl e⟩
    | false =>
      rw [q, if_neg Bool.false_ne_true] at e
      exact .inl ⟨rfl, by rw [e]; rfl⟩
  | r1 :: ρ, r0 :: ρ0, k, 0, r, h => by
    have e : r = (if vs.contains k then keepDat r0 else r1) := by simpa [joinA] using h.symm
    cases q : vs.contains k with
    | true =>
      rw [q, if_pos rfl] at e
      refine .inr ⟨rfl, ?_⟩
      cases r0 with
      | dat d => exact .inr ⟨d, e, rfl⟩
      | un => exact .inl e
      | own _ => exact .inl e
      | src _ _ _ => exact .inl e
      | scr _ => exact .inl e
      | pin _ _ => exact .inl e
    | false =>
      rw [q, if_neg Bool.false_ne_true] at e
      exact .inl ⟨rfl, by rw [e]; rfl⟩
  | r1 :: ρ, [], k, i + 1, r, h => by
    have h2 : (joinA vs (k + 1) [] ρ)[i]? = some r := by simpa [joinA] using h
    have z := joinA_get vs ρ [] (k + 1) i r h2
    rw [show k + 1 + i = k + (i + 1) by omega] at z
    simpa using z
  | r1 :: ρ, r0 :: ρ0, k, i + 1, r, h => by
    have h2 : (joinA vs (k + 1) ρ0 ρ)[i]? = some r := by simpa [joinA] using h
    have z := joinA_get vs ρ ρ0 (k + 1) i r h2
    rw [show k + 1 + i = k + (i + 1) by omega] at z
    simpa using z
theorem wipe_get {σ : L2.St} : ∀ (vs : List Nat) (i : Nat), (wipe σ vs)[i]? = if vs.contains i then (σ[i]?).map (fun _ => none) else σ[i]?
  | [], i => by simp [wipe]
  | v :: vs, i => by
    have ih := wipe_get (σ := σ) vs i
    by_cases e : v = i
    · subst e
      show ((wipe σ vs).set v none)[v]? = _
      by_cases hl : v < σ.length
      · rw [List.getElem?_set_self (by rw [wipe_length]; exact hl)]
        simp [List.getElem?_eq_getElem hl]
      · rw [List.getElem?_eq_none (by rw [List.length_set, wipe_length]; omega), List.getElem?_eq_none (by omega)]
        simp
    · show ((wipe σ vs).set v none)[i]? = _
      rw [List.getElem?_set_ne e, ih]
      have : (v :: vs).contains i = vs.contains i := by
        rw [List.contains_cons]
        have : (i == v) = false := by simpa using fun z => e z.symm
        rw [this, Bool.false_or]
      rw [this]
/-- σ' is σ but at slots that are wiped -/
theorem wipe_off {σ σ' : L2.St} {vs js : List Nat} (h : Off js (wipe σ vs) σ') (hj : ∀ j ∈ js, j ∈ vs) : wipe σ' vs = wipe σ vs := by
  refine List.ext_getElem? fun i => ?_
  rw [wipe_get, wipe_get]
  have hl : σ'.length = σ.length := by rw [h.1, wipe_length]
  cases q : vs.contains i with
  | true =>
    rw [if_pos rfl, if_pos rfl]
    by_cases hi : i < σ.length
    · rw [List.getElem?_eq_getElem hi, List.getElem?_eq_getElem (by omega)]
      rfl
    · rw [List.getElem?_eq_none (by omega), List.getElem?_eq_none (by omega)]
  | false =>
    rw [if_neg Bool.false_ne_true, if_neg Bool.false_ne_true]
    have ni : i ∉ js := fun z => by
      have := List.contains_iff_mem.mpr (hj i z)
      rw [q] at this; cases this
    have := h.2 i ni
    rw [wipe_get, q, if_neg Bool.false_ne_true] at this
    exact this
section
variable {K : PySem.W.Frag} {F G H : Hp} {σ : L2.St} {ρ ρ0 : List Sl} {ad : Nat → List Addr}
theorem Sta.wipe [Tabl] (w : Sta K F G H σ ρ ad) (vs : List Nat) : Sta K F G H (wipe σ vs) (wipeA vs 0 ρ) ad := ⟨w.gh, w.fh, w.own, w.there, w.dis, by rw [wipe_length, wipeA_len]; exact w.len, fun i r q => by
  rw [wipeA_get, Nat.zero_add] at q
  rw [wipe_get]
  cases z : vs.contains i with
  | true =>
    rw [z] at q
    cases e : ρ[i]? with
    | none => rw [e] at q; cases q
    | some r0 =>
      rw [e] at q
      have q' : r = Sl.un := by simpa using q.symm
      subst q'
      trivial
  | false =>
    rw [z] at q
    rw [if_neg Bool.false_ne_true]
    refine w.hold i r ?_
    cases e : ρ[i]? with
    | none => rw [e] at q; cases q
    | some r0 =>
      rw [e] at q
      simpa using q, w.tk⟩
/-- behind the block: the wiped slots hold what they held -/
theorem Sta.unwipe [Tabl] {F0 G0 H0 : Hp} {ad0 : Nat → List Addr} {vs : List Nat} (w : Sta K F G H (L2.wipe σ vs) (wipeA vs 0 ρ) ad) (w0 : Sta K F0 G0 H0 σ ρ0 ad0) (e : Ex G0 G) : Sta K F G H σ (joinA vs 0 ρ0 ρ) ad := ⟨w.gh, w.fh, w.own, w.there, w.dis, by
  have := w.len
  rw [wipe_length, wipeA_len] at this
  rw [joinA_len]; exact this, fun i r q => by
  rcases joinA_get vs ρ ρ0 0 i r q with ⟨z, h⟩ | ⟨z, h⟩
  · rw [Nat.zero_add] at z
    have h1 : (wipeA vs 0 ρ)[i]? = some r := by
      rw [wipeA_get, Nat.zero_add, h]
      simp only [Option.map_some, z]
      rfl
    have h2 := w.hold i r h1
    rw [wipe_get, z, if_neg Bool.false_ne_true] at h2
    exact h2
  · rcases h with rfl | ⟨d, rfl, h⟩
    · trivial
    · obtain ⟨v, h1, h2⟩ := w0.hold i _ h
      exact ⟨v, h1, da_ex e h2⟩, w.tk⟩
end
section
variable {X : Cx} {e a b c tg it l elt : Expr} {rest ifs : List Expr} {ρ ρ0 ρ1 ρ2 ρ3 : List Sl} {d d1 d2 d3 : PyData} {ds es ys rs : List PyData} {x : Str} {pos : Pos} {p q : Bool} {scope : Scope}
abbrev Blk (X : Cx) (scope : Scope) (J : Cx → Prop) : Prop := ∀ (s : Shared) (H : Hp) (C : Addr) (cl : List (Str × Addr)) (fp : List Addr), J (X.blk s H scope (compEnvC scope cl C X.env) fp)
def Ts [Tabl] (X : Cx) (ifs : List Expr) (ρ : List Sl) (b : Bool) (ρ' : List Sl) : Prop := PTs X ifs (cT X.K ρ b ρ')
theorem ts_nil [Tabl] : Ts X [] ρ true ρ := ⟨fun pins s σ H Q I ⟨F, G, ad, w, k⟩ => pts_nil.run pins s σ H Q I (k H G ad (Ext.refl F G) w)⟩
theorem ts_one [Tabl] (h : T X c ρ p ρ1) : Ts X [c] ρ p ρ1 := pts_one h
inductive CL [Tabl] (X : Cx) (scope : Scope) (tg : Expr) (ifs : List Expr) (elt : Expr) (vs : List Nat) : List PyData → List Sl → List PyData → List Sl → Prop
  | nil {ρ : List Sl} : CL X scope tg ifs elt vs [] ρ [] ρ
  | yes {d r : PyData} {ds rs : List PyData} {ρ ρ1 ρ2 ρ3 ρ4 : List Sl} {js : List Nat} : (hj : ∀ j ∈ js, j ∈ vs) → Blk X scope (fun Y => TgD Y tg d (wipeA vs 0 ρ) ρ1 js) → Blk X scope (fun Y => Ts Y ifs ρ1 true ρ2) → Blk X scope (fun Y => E Y elt ρ2 r ρ3) →
      CL X scope tg ifs elt vs ds ρ3 rs ρ4 → CL X scope tg ifs elt vs (d :: ds) ρ (r :: rs) ρ4
  | no {d : PyData} {ds rs : List PyData} {ρ ρ1 ρ2 ρ4 : List Sl} {js : List Nat} : (hj : ∀ j ∈ js, j ∈ vs) → Blk X scope (fun Y => TgD Y tg d (wipeA vs 0 ρ) ρ1 js) → Blk X scope (fun Y => Ts Y ifs ρ1 false ρ2) →
      CL X scope tg ifs elt vs ds ρ2 rs ρ4 → CL X scope tg ifs elt vs (d :: ds) ρ rs ρ4
  | pre {ds rs : List PyData} {ρ ρ1 ρ4 : List Sl} : Le (wipeA vs 0 ρ) (wipeA vs 0 ρ1) → CL X scope tg ifs elt vs ds ρ1 rs ρ4 → CL X scope tg ifs elt vs ds ρ rs ρ4
def CTurn [Tabl] (X : Cx) (scope : Scope) (tg : Expr) (ifs : List Expr) (elt : Expr) (vs : List Nat) (d : PyData) (ds : List PyData) (ρ : List Sl) (rs : List PyData) (ρ4 : List Sl) : Prop := ∃ ρ1 js b ρ2, (∀ j ∈ js, j ∈ vs) ∧ Blk X scope (fun Y => TgD Y tg d (wipeA vs 0 ρ) ρ1 js) ∧ Blk X scope (fun Y => Ts Y ifs ρ1 b ρ2) ∧
  ((b = true ∧ ∃ r rs' ρ3, rs = r :: rs' ∧ Blk X scope (fun Y => E Y elt ρ2 r ρ3) ∧ CL X scope tg ifs elt vs ds ρ3 rs' ρ4) ∨ (b = false ∧ CL X scope tg ifs elt vs ds ρ2 rs ρ4))
theorem cl_cases [Tabl] {vs : List Nat} {ρ4 : List Sl} (h : CL X scope tg ifs elt vs ds ρ rs ρ4) : ∃ ρ0, Le (wipeA vs 0 ρ) (wipeA vs 0 ρ0) ∧ ((ds = [] ∧ rs = [] ∧ ρ4 = ρ0) ∨ ∃ d es, ds = d :: es ∧ CTurn X scope tg ifs elt vs d es ρ0 rs ρ4) := by
  induction h with
  | nil => exact ⟨_, Le.refl _, .inl ⟨rfl, rfl, rfl⟩⟩
  | yes hj h1 h2 h3 h4 _ => exact ⟨_, Le.refl _, .inr ⟨_, _, rfl, _, _, true, _, hj, h1, h2, .inl ⟨rfl, _, _, _, rfl, h3, h4⟩⟩⟩
  | no hj h1 h2 h4 _ => exact ⟨_, Le.refl _, .inr ⟨_, _, rfl, _, _, false, _, hj, h1, h2, .inr ⟨rfl, h4⟩⟩⟩
  | pre h1 _ ih =>
    obtain ⟨ρ0, h2, h3⟩ := ih
    exact ⟨ρ0, h1.trans h2, h3⟩
def anyBG [Tabl] (X : Cx) (scope : Scope) (tg : Expr) : TG := fun v σ H Q => ∃ d ρ ρ' js, Blk X scope (fun Y => TgD Y tg d ρ ρ' js) ∧ cG X.K d ρ ρ' js v σ H Q
def anyBT [Tabl] (X : Cx) (scope : Scope) (ifs : List Expr) : TT := fun σ H Q => ∃ ρ b ρ', Blk X scope (fun Y => Ts Y ifs ρ b ρ') ∧ cT X.K ρ b ρ' σ H Q
def anyBE [Tabl] (X : Cx) (scope : Scope) (e : Expr) : TE := fun σ H Q => ∃ ρ d ρ', Blk X scope (fun Y => E Y e ρ d ρ') ∧ cE X.K ρ d ρ' σ H Q
/-- what a comprehension's reading asks -/
theorem lc_read [Tabl] {ta : TI} (hta : ta = cI X.K ρ ys ρ1) {vs : List Nat} {D : VK} {σ : L2.St} {H : Hp} (hcl : CL X scope tg ifs elt vs ys ρ1 rs ρ2) (hz : ys.length ≤ 1000000) (h : cO X.K ρ rs (joinA vs 0 ρ1 ρ2) σ H D) :
    tLc ta (anyBG X scope tg) (anyBT X scope ifs) (anyBE X scope elt) vs σ H D := by
  subst hta
  obtain ⟨F, G, ad, w, k⟩ := h
  refine ⟨F, G, ad, w, fun J H1 G1 ad1 e1 w1 wk => fun Dl hD => ?_⟩
  have hG1 : G1 Dl = none := w1.gh.none hD
  have hF : F Dl = none := w1.fh.none hD
  have had : ∀ j, Dl ∉ ad1 j := fun j q => by
    obtain ⟨o, ho⟩ := w1.there j Dl q
    rw [hD] at ho; cases ho
  refine ⟨fun i m H => m = ys.length - i ∧ i ≤ ys.length ∧ ∃ ρi Gi adi acc done todo, Ext F G1 Gi ∧ Gi Dl = none ∧ (∀ j, Dl ∉ adi j) ∧ Sta X.K F Gi H (wipe σ vs) (wipeA vs 0 ρi) adi ∧ H Dl = some (.lst acc) ∧ DaAll X.K Gi acc done ∧ done.length ≤ i ∧
    CL X scope tg ifs elt vs (ys.drop i) ρi todo ρ2 ∧ rs = done ++ todo, ⟨ys.length, by simp, Nat.zero_le _, ρ1, G1, ad1, [], [], rs, Ext.refl _ _, hG1, had, (w1.mutX (notX_of hD) hG1 hF had).wipe vs, upd_same, .nil, Nat.le_refl _, by simpa using hcl, rfl⟩, ?_⟩
  rintro i m H2 ⟨rfl, hle, ρi, Gi, adi, acc, done, todo, e2, g2, a2, w2, hacc, hdone, hlen, hl2, hrs⟩
  obtain ⟨ws, wg⟩ := wk H2 Gi e2.1 w2.gh
  obtain ⟨ρ0, le, hcase⟩ := cl_cases hl2
  have w2' := w2.le le
  rcases hcase with ⟨hnil, htodo, hρ⟩ | ⟨d, es, hcons, ρt, js, b, ρu, hj, ht, hb, ho⟩
  · have ei : i = ys.length := by
      have := List.drop_eq_nil_iff.mp hnil
      omega
    subst ei hρ htodo
    rw [List.append_nil] at hrs
    subst hrs
    exact .inl ⟨ws, k Dl acc H2 Gi adi (e1.trans e2) (w2'.unwipe w1 e2.1) hF g2 a2 hacc hdone⟩
  · obtain ⟨hd, hes⟩ := drop_cons hcons
    obtain ⟨hgo, hy⟩ := wg i d hd
    have hlt : i < ys.length := (List.getElem?_eq_some_iff.mp hd).1
    refine .inr ⟨hgo, fun H => ∃ ρi Gi adi acc done todo, Ext F G1 Gi ∧ Gi Dl = none ∧ (∀ j, Dl ∉ adi j) ∧ Sta X.K F Gi H (wipe σ vs) (wipeA vs 0 ρi) adi ∧ H Dl = some (.lst acc) ∧ DaAll X.K Gi acc done ∧ done.length ≤ i + 1 ∧
      CL X scope tg ifs elt vs (ys.drop (i + 1)) ρi todo ρ2 ∧ rs = done ++ todo, fun H' hN => ⟨ys.length - (i + 1), by omega, rfl, hlt, hN⟩, fun x H' hx => ?_⟩
    obtain ⟨G3, x1, x2, x3, x4⟩ := hy x H' hx
    have w3 := (w2'.framed hacc notX_lst a2).grow x1 x2 x3
    have e3 : Ext (upd F Dl (.lst acc)) Gi G3 := x2.weak (w2'.framed hacc notX_lst a2).fh
    refine ⟨d, _, ρt, js, ht, _, G3, adi, w3, x4, fun σ4 H4 G4 ad4 o4 e4 w4 => ⟨wipe_off o4 hj, ρt, b, ρu, hb, _, G4, ad4, w4, fun H5 G5 ad5 e5 w5 => ?_⟩⟩
    -- back from the frame that holds the list made so far
    have back : ∀ {G6 H6 : Hp} {ad6 : Nat → List Addr} {ρ6 : List Sl}, Ext (upd F Dl (.lst acc)) Gi G6 → Sta X.K (upd F Dl (.lst acc)) G6 H6 σ4 ρ6 ad6 → Ext F G1 G6 ∧ G6 Dl = none ∧ (∀ j, Dl ∉ ad6 j) ∧ Sta X.K F G6 H6 (wipe σ vs) (wipeA vs 0 ρ6) ad6 ∧ H6 Dl = some (.lst acc) := fun {G6 H6 ad6 ρ6} e6 w6 => by
      refine ⟨e2.trans (e6.weak (Ex.new hF)), e6.none (upd_same) g2, fun j q => ?_, ?_, w6.fh _ _ upd_same⟩
      · have := (w6.own j Dl q).2
        rw [upd_same] at this; cases this
      · have z := (w6.frame (Ex.new hF)).wipe vs
        rw [wipe_off o4 hj] at z
        exact z
    rcases ho with ⟨rfl, r, rs', ρ3, hr, he, hcl'⟩ | ⟨rfl, hcl'⟩
    · refine iteT ?_
      refine ⟨ρu, r, ρ3, he, _, G5, ad5, w5, fun v H6 G6 ad6 e6 w6 pv => ?_⟩
      obtain ⟨b1, b2, b3, b4, b5⟩ := back (((e3.trans e4).trans e5).trans e6) w6
      refine ⟨acc, b5, ?_, ρ3, G6, ad6, acc ++ [v], done ++ [r], rs', b1, b2, b3, b4.mutX (notX_at b5 notX_lst) b2 hF b3, upd_same, daAll_app (daAll_ex (((e3.trans e4).trans e5).trans e6).1 hdone) (.cons pv .nil), ?_, by rw [hes]; exact hcl', ?_⟩
      · rw [daAll_len hdone]
        have := sizeLine_big
        omega
      · rw [List.length_append, List.length_singleton]; omega
      · rw [hrs, hr, List.append_assoc]; rfl
    · refine iteF ?_
      obtain ⟨b1, b2, b3, b4, b5⟩ := back ((e3.trans e4).trans e5) w5
      exact ⟨ρu, G5, ad5, acc, done, todo, b1, b2, b3, b4, b5, daAll_ex ((e3.trans e4).trans e5).1 hdone, by omega, by rw [hes]; exact hcl', hrs⟩
theorem eo_lc [Tabl] {own : List (Str × Nat)} (hi : Iter X tg it ρ ys ρ1) (hcl : CL X scope tg ifs elt (own.map (·.2)) ys ρ1 rs ρ2) (hz : ys.length ≤ 1000000) (hN : X.N.Nodup) (ok : BlkOk X.N X.env.scope scope own) (hc : X.calm = true := by rfl) (hs : ∀ x, foldedSetIterable it X.env x = pure x := by intro _; rfl) :
    EO X (.ListComp elt [⟨tg, it, ifs, 0⟩] scope pos) ρ rs (joinA (own.map (·.2)) 0 ρ1 ρ2) :=
  pe_imp (pe_lc (g := anyBG X scope tg) (tt := anyBT X scope ifs) (te := anyBE X scope elt) hc hN hi ok (fun s H C cl fp => ⟨fun pins s' σ H v u Q I r ⟨d, ρ, ρ', js, h, k⟩ => (h _ _ C cl fp).run pins s' σ H v u Q I r k⟩) (fun s H C cl fp => ⟨fun pins s' σ H Q I ⟨ρ, b, ρ', h, k⟩ => (h _ _ C cl fp).run pins s' σ H Q I k⟩)
    (fun s H C cl fp => ⟨fun pins s' σ H Q I ⟨ρ, d, ρ', h, k⟩ => (h _ _ C cl fp).run pins s' σ H Q I k⟩) hs) fun σ H Q h => lc_read rfl hcl hz h
/-- y = [.. for ..] -/
theorem s_setLc [Tabl] (i : Nat) {own : List (Str × Nat)} {y : Str} {py spos : Pos} (hi : Iter X tg it ρ ys ρ1) (hcl : CL X scope tg ifs elt (own.map (·.2)) ys ρ1 rs ρ2) (hz : ys.length ≤ 1000000) (hN : X.N.Nodup) (ok : BlkOk X.N X.env.scope scope own) (hl : i < ρ2.length) (hc : X.calm = true := by rfl)
    (hy : X.N[i]? = some y := by rfl) (hyl : X.env.scope.names.lookup y = some .local := by rfl) (hsw : swapsWith (.ListComp elt [⟨tg, it, ifs, 0⟩] scope pos) (some (.Name y py)) spos.line X.env = pure true := by exact sw_true rfl rfl rfl (by decide +kernel)) (hs : ∀ x, foldedSetIterable it X.env x = pure x := by intro _; rfl) :
    S1 X (.Assign [.Name y py] (.ListComp elt [⟨tg, it, ifs, 0⟩] scope pos) spos) ρ (.nx ((joinA (own.map (·.2)) 0 ρ1 ρ2).set i (.own rs))) :=
  ps_imp (ps_setLc (i := i) (g := anyBG X scope tg) (tt := anyBT X scope ifs) (te := anyBE X scope elt) hc hN hy hyl hsw hi ok (fun s H C cl fp => ⟨fun pins s' σ H v u Q I r ⟨d, ρ, ρ', js, h, k⟩ => (h _ _ C cl fp).run pins s' σ H v u Q I r k⟩) (fun s H C cl fp => ⟨fun pins s' σ H Q I ⟨ρ, b, ρ', h, k⟩ => (h _ _ C cl fp).run pins s' σ H Q I k⟩)
    (fun s H C cl fp => ⟨fun pins s' σ H Q I ⟨ρ, d, ρ', h, k⟩ => (h _ _ C cl fp).run pins s' σ H Q I k⟩) hs) fun D σ H ⟨F, G, ad, w, k⟩ => lc_read rfl hcl hz ⟨F, G, ad, w, fun l xs H1 G1 ad1 e1 w1 q1 q2 q3 q4 q5 => k _ H1 G1 _ e1 (w1.setO q4 q5 q1 q2 q3 (by rw [joinA_len]; exact hl))⟩
end
end DM
end part_DMf
section part_DMg
namespace DM
open L2 PyProof.Rows PySem.Spec PySem
section
variable {X : Cx} {e a b c tg it l elt : Expr} {rest ifs : List Expr} {ρ ρ0 ρ1 ρ2 ρ3 : List Sl} {d d1 d2 d3 : PyData} {ds es ys rs : List PyData} {x : Str} {pos : Pos} {p q : Bool} {i j : Int}
theorem same_end {K : PySem.W.Frag} {H G : Hp} {Q : VK} {v : V} (e : Ex G H) (k : ∀ v H' G', Ex H H' → Ext H G G' → Ex G' H' → Da K G' v d → Q v H') (h : Da K G v d) : Q v H := k v H G (Ex.refl H) (Ext.refl H G) e h
theorem new_end {K : PySem.W.Frag} {H G : Hp} {Q : VK} {l : Addr} {xs : List V} (e : Ex G H) (k : ∀ v H' G', Ex H H' → Ext H G G' → Ex G' H' → Da K G' v (.tuple ds) → Q v H') (hl : H l = none) (h : DaAll K G xs ds) : Q (.ref l) (upd H l (.tup xs)) :=
  k _ _ (upd G l (.tup xs)) (Ex.new hl) (Ext.new hl (e.none hl)) e.both (.tup (SqT.of upd_same) (daAll_ex (Ex.new (e.none hl)) h))
/-! ### ints -/
theorem ov_int0 {f : Value → Value → Sem Value} {g : Int → Int → V} (h : OpR X f (rI0 g)) (hg : ∀ (G : Hp) i j, Da X.K G (g i j) (d)) : OpV X f (.int i) (.int j) d := op_imp h fun x y H Q ⟨G, e, p1, p2, k⟩ => by
  cases p1
  cases p2
  exact ⟨i, j, rfl, rfl, same_end e k (hg G i j)⟩
theorem ov_rI0 {f : Value → Value → Sem Value} {g : Int → Int → V} {gd : Int → Int → PyData} (h : OpR X f (rI0 g)) (hg : ∀ (G : Hp) i j, Da X.K G (g i j) (gd i j)) : OpV X f (.int i) (.int j) (gd i j) := op_imp h fun x y H Q ⟨G, e, p1, p2, k⟩ => by
  cases p1
  cases p2
  exact ⟨i, j, rfl, rfl, same_end e k (hg G i j)⟩
theorem ov_rI {f : Value → Value → Sem Value} {C : Int → Int → Prop} {g : Int → Int → V} {gd : Int → Int → PyData} (h : OpR X f (rI C g)) (hg : ∀ (G : Hp) i j, Da X.K G (g i j) (gd i j)) (hc : C i j) : OpV X f (.int i) (.int j) (gd i j) := op_imp h fun x y H Q ⟨G, e, p1, p2, k⟩ => by
  cases p1
  cases p2
  exact ⟨i, j, rfl, rfl, hc, same_end e k (hg G i j)⟩
theorem ov_add : OpV X (binaryOp .Add) (.int i) (.int j) (.int (i + j)) := ov_rI0 op_add fun _ _ _ => .int _
theorem ov_sub : OpV X (binaryOp .Sub) (.int i) (.int j) (.int (i - j)) := ov_rI0 op_sub fun _ _ _ => .int _
theorem ov_mul (h : CMulW i j) : OpV X (binaryOp .Mult) (.int i) (.int j) (.int (i * j)) := ov_rI op_mulW (fun _ _ _ => .int _) h
theorem ov_mulS (h : CMul i j) : OpV X (binaryOp .Mult) (.int i) (.int j) (.int (i * j)) := ov_rI op_mul (fun _ _ _ => .int _) h
theorem ov_mod (h : j ≠ 0) : OpV X (binaryOp .Mod) (.int i) (.int j) (.int (i.fmod j)) := ov_rI op_modN (fun _ _ _ => .int _) h
def CDivWN (_ j : Int) : Prop := j ≠ 0 ∧ j.natAbs.log2 < 9000
theorem op_fdivWN : OpR X (binaryOp .FloorDiv) (rI CDivWN fun i j => .int (i.fdiv j)) := opI fun _ _ _ _ _ _ _ hc q => floordiv_int hc.1 q (.inl (PyProof.noPylong_of_log2 hc.2))
theorem ov_fdiv (h : j ≠ 0) (h2 : j.natAbs.log2 < 9000) : OpV X (binaryOp .FloorDiv) (.int i) (.int j) (.int (i.fdiv j)) := ov_rI op_fdivWN (fun _ _ _ => .int _) ⟨h, h2⟩
theorem ov_lt : OpV X (compareOp .Lt) (.int i) (.int j) (.bool (decide (i < j))) := ov_rI0 op_lt fun _ _ _ => .bl _
theorem ov_le : OpV X (compareOp .LtE) (.int i) (.int j) (.bool (decide (i ≤ j))) := ov_rI0 op_le fun _ _ _ => .bl _
theorem ov_gt : OpV X (compareOp .Gt) (.int i) (.int j) (.bool (decide (j < i))) := ov_rI0 op_gt fun _ _ _ => .bl _
theorem ov_ge : OpV X (compareOp .GtE) (.int i) (.int j) (.bool (decide (j ≤ i))) := ov_rI0 op_ge fun _ _ _ => .bl _
theorem ov_eqI : OpV X (compareOp .Eq) (.int i) (.int j) (.bool (decide (i = j))) := op_imp op_eq fun x y H Q ⟨G, e, p1, p2, k⟩ => by
  cases p1
  cases p2
  have z : decide (V.int i = V.int j) = decide (i = j) := by rw [dec_int, Bool.beq_eq_decide_eq]
  exact ⟨rfl, by rw [z]; exact same_end e k (.bl _)⟩
theorem ov_neI : OpV X (compareOp .NotEq) (.int i) (.int j) (.bool (!decide (i = j))) := op_imp op_ne fun x y H Q ⟨G, e, p1, p2, k⟩ => by
  cases p1
  cases p2
  have z : decide (V.int i = V.int j) = decide (i = j) := by rw [dec_int, Bool.beq_eq_decide_eq]
  exact ⟨rfl, by rw [z]; exact same_end e k (.bl _)⟩
theorem ov_eqS {t u : Str} : OpV X (compareOp .Eq) (.str t) (.str u) (.bool (decide (t = u))) := op_imp op_eq fun x y H Q ⟨G, e, p1, p2, k⟩ => by
  cases p1
  cases p2
  have w : decide (V.str t = V.str u) = decide (t = u) := by rw [dec_str, Bool.beq_eq_decide_eq]
  exact ⟨rfl, by rw [w]; exact same_end e k (.bl _)⟩
theorem ov_neS {t u : Str} : OpV X (compareOp .NotEq) (.str t) (.str u) (.bool (!decide (t = u))) := op_imp op_ne fun x y H Q ⟨G, e, p1, p2, k⟩ => by
  cases p1
  cases p2
  have w : decide (V.str t = V.str u) = decide (t = u) := by rw [dec_str, Bool.beq_eq_decide_eq]
  exact ⟨rfl, by rw [w]; exact same_end e k (.bl _)⟩
def isNone : PyData → Bool
  | .none => true
  | _ => false
theorem isNone_of {K : PySem.W.Frag} {G : Hp} {v : V} (h : Da K G v d) : decide (v = .non) = isNone d := by cases h <;> rfl
theorem ov_is : OpV X (compareOp .Is) d .none (.bool (isNone d)) := op_imp op_isN fun x y H Q ⟨G, e, p1, p2, k⟩ => by
  cases p2
  exact ⟨rfl, by rw [isNone_of p1]; exact same_end e k (.bl _)⟩
theorem ov_isnt : OpV X (compareOp .IsNot) d .none (.bool (!isNone d)) := op_imp op_notN fun x y H Q ⟨G, e, p1, p2, k⟩ => by
  cases p2
  exact ⟨rfl, by rw [isNone_of p1]; exact same_end e k (.bl _)⟩
/-- -a -/
theorem e_neg [Tabl] (h : E X a ρ (.int i) ρ1) : E X (.UnaryOp .USub a pos) ρ (.int (-i)) ρ1 := pe_imp (pe_un un_neg h) fun σ H Q ⟨F, G, ad, w, k⟩ => ⟨F, G, ad, w, fun v H' G' ad' e w' q => by
  cases q
  exact ⟨i, rfl, k _ H' G' ad' e w' (.int _)⟩⟩
/-! ### data without dicts, for == and repr -/
mutual
def flatD : PyData → Bool
  | .list xs => flatDs xs
  | .tuple xs => flatDs xs
  | .dict _ => false
  | _ => true
def flatDs : List PyData → Bool
  | [] => true
  | x :: xs => flatD x && flatDs xs
end
mutual
theorem dp_of {K : PySem.W.Frag} {G H : Hp} (e : Ex G H) : ∀ {v : V} {d : PyData}, Da K G v d → flatD d = true → Dp K H v d
  | _, _, .non, _ => .non
  | _, _, .bl b, _ => .bl b
  | _, _, .int i, _ => .int i
  | _, _, .str x, _ => .str x
  | _, _, .lst h1 h2, f => .lst (SqL.of (e _ _ h1)) (dpAll_of e h2 (by simpa [flatD] using f))
  | _, _, .tup h1 h2, f => .tup (sqT_ex e h1) (dpAll_of e h2 (by simpa [flatD] using f))
  | _, _, .dct h1 h2, f => by simp [flatD] at f
theorem dpAll_of {K : PySem.W.Frag} {G H : Hp} (e : Ex G H) : ∀ {v : List V} {d : List PyData}, DaAll K G v d → flatDs d = true → DpAll K H v d
  | _, _, .nil, _ => .nil
  | _, _, .cons h1 h2, f => by
    have f' := Bool.and_eq_true_iff.mp (by simpa [flatDs] using f)
    exact .cons (dp_of e h1 f'.1) (dpAll_of e h2 f'.2)
end
/-- == over data -/
theorem ov_eqD (hu : X.A.units + 64 < cLine) (h1 : SeqAt.shaped d1 = true) (h2 : SeqAt.shaped d2 = true) (f1 : flatD d1 = true) (f2 : flatD d2 = true) : OpV X (compareOp .Eq) d1 d2 (.bool (PyData.eqv d1 d2)) := op_imp (op_eqD hu) fun x y H Q ⟨G, e, p1, p2, k⟩ =>
  ⟨d1, d2, dp_of e p1 f1, dp_of e p2 f2, h1, h2, same_end e k (.bl _)⟩
theorem ov_neD (hu : X.A.units + 64 < cLine) (h1 : SeqAt.shaped d1 = true) (h2 : SeqAt.shaped d2 = true) (f1 : flatD d1 = true) (f2 : flatD d2 = true) : OpV X (compareOp .NotEq) d1 d2 (.bool (!PyData.eqv d1 d2)) := op_imp (op_neD hu) fun x y H Q ⟨G, e, p1, p2, k⟩ =>
  ⟨d1, d2, dp_of e p1 f1, dp_of e p2 f2, h1, h2, same_end e k (.bl _)⟩
/-! ### subscripts -/
def IxV (X : Cx) (d1 d2 d : PyData) : Prop := IxR X (cOp X.K d1 d2 d)
theorem ix_imp {r r' : R2} (h : IxR X r) (k : ∀ x y H Q, r' x y H Q → r x y H Q) : IxR X r' := fun e1 e2 pins s σ H x y v u Q I rx ry q hs => h e1 e2 pins s σ H x y v u Q I rx ry (k x y H Q q) hs
theorem atI_len {α β : Type} {xs : List α} {ys : List β} (hl : xs.length = ys.length) {y : β} (h : atI ys i = some y) : ∃ k : Nat, ys[k]? = some y ∧ ∀ x, xs[k]? = some x → atI xs i = some x := by
  unfold atI at h ⊢
  rw [hl]
  cases e : ixN ys.length i with
  | none => rw [e] at h; cases h
  | some k =>
    rw [e] at h
    exact ⟨k, h, fun x hx => hx⟩
theorem ixv_tup (h : atI ds i = some d) : IxV X (.tuple ds) (.int i) d := ix_imp ix_tup fun x y H Q ⟨G, e, p1, p2, k⟩ => by
  cases p1 with
  | tup h1 h2 =>
    cases p2
    obtain ⟨j, hj, hx⟩ := atI_len (daAll_len h2) h
    obtain ⟨v, hv, pv⟩ := daAll_get h2 hj
    exact ⟨_, _, i, v, rfl, rfl, sqT_ex e h1, hx v hv, same_end e k pv⟩
theorem ixv_lst (h : atI ds i = some d) : IxV X (.list ds) (.int i) d := ix_imp ix_list fun x y H Q ⟨G, e, p1, p2, k⟩ => by
  cases p1 with
  | lst h1 h2 =>
    cases p2
    obtain ⟨j, hj, hx⟩ := atI_len (daAll_len h2) h
    obtain ⟨v, hv, pv⟩ := daAll_get h2 hj
    exact ⟨_, _, i, v, rfl, rfl, SqL.of (e _ _ h1), hx v hv, same_end e k pv⟩
theorem e_ix [Tabl] (ha : E X a ρ d1 ρ1) (hb : E X b ρ1 d2 ρ2) (ho : IxV X d1 d2 d) (hs : PlainIx b := by exact fun _ _ => rfl) : E X (.Subscript a b pos) ρ d ρ2 :=
  pe_imp (pe_ix ho ha hb hs) fun σ H Q h => two rfl rfl (fun _ _ _ _ z => z) h
/-- t[0], t a tuple -/
theorem e_ixt [Tabl] {k : Nat} {j : Nat} {pos2 : Pos} (ha : E X a ρ (.tuple ds) ρ1) (h : ds[k]? = some d := by rfl) : E X (.Subscript a (.Constant (.int (k : Int)) j pos2) pos) ρ d ρ1 :=
  e_ix ha e_int (ixv_tup (atI_nat h))
theorem e_ixl [Tabl] {k : Nat} {j : Nat} {pos2 : Pos} (ha : E X a ρ (.list ds) ρ1) (h : ds[k]? = some d := by rfl) : E X (.Subscript a (.Constant (.int (k : Int)) j pos2) pos) ρ d ρ1 :=
  e_ix ha e_int (ixv_lst (atI_nat h))
/-! ### built-ins -/
theorem cv_one {f : Value} {r : List V → Hp → VK → Prop} (h : CallR X f r) (k : ∀ v H G Q, Ex G H → Da X.K G v d1 → (∀ v H' G', Ex H H' → Ext H G G' → Ex G' H' → Da X.K G' v d → Q v H') → r [v] H Q) : CV X f [d1] d := call_imp h fun vs H Q ⟨G, e, p, q⟩ => by
  obtain ⟨v, rfl, pv⟩ := daAll_one p
  exact k v H G Q e pv q
theorem cv_abs : CV X (.builtin "abs") [.int i] (.int (if i < 0 then -i else i)) := cv_one call_abs fun v H G Q e p k => by
  cases p
  exact ⟨i, rfl, same_end e k (.int _)⟩
theorem cv_int : CV X (.type "int") [.int i] (.int i) := cv_one call_int1 fun v H G Q e p k => by
  cases p
  exact .inl ⟨i, rfl, same_end e k (.int _)⟩
theorem cv_intB : CV X (.type "int") [.bool p] (.int (if p then 1 else 0)) := cv_one call_int1 fun v H G Q e q k => by
  cases q
  exact .inr ⟨p, rfl, same_end e k (.int _)⟩
theorem cv_max (hc : X.calm = true) : CV X (.builtin "max") [.int i, .int j] (.int (if j > i then j else i)) := call_imp (call_max2 hc) fun vs H Q ⟨G, e, p, q⟩ => by
  obtain ⟨v, u, rfl, pv, pu⟩ := daAll_two p
  cases pv
  cases pu
  exact ⟨i, j, rfl, same_end e q (.int _)⟩
theorem cv_min (hc : X.calm = true) : CV X (.builtin "min") [.int i, .int j] (.int (if j < i then j else i)) := call_imp (call_min2 hc) fun vs H Q ⟨G, e, p, q⟩ => by
  obtain ⟨v, u, rfl, pv, pu⟩ := daAll_two p
  cases pv
  cases pu
  exact ⟨i, j, rfl, same_end e q (.int _)⟩
theorem cv_gcd : CV X (.builtin "math.gcd") [.int i, .int j] (.int ((Nat.gcd i.natAbs j.natAbs : Nat) : Int)) := call_imp cr_gcd fun vs H Q ⟨G, e, p, q⟩ => by
  obtain ⟨v, u, rfl, pv, pu⟩ := daAll_two p
  cases pv
  cases pu
  exact ⟨i, j, rfl, same_end e q (.int _)⟩
theorem cv_lenL : CV X (.builtin "len") [.list ds] (.int (ds.length : Int)) := cv_one call_len_seq fun v H G Q e p k => by
  cases p with
  | lst h1 h2 => exact ⟨_, _, rfl, .inl (SqL.of (e _ _ h1)), by rw [daAll_len h2]; exact same_end e k (.int _)⟩
theorem cv_lenT : CV X (.builtin "len") [.tuple ds] (.int (ds.length : Int)) := cv_one call_len_seq fun v H G Q e p k => by
  cases p with
  | tup h1 h2 => exact ⟨_, _, rfl, .inr (sqT_ex e h1), by rw [daAll_len h2]; exact same_end e k (.int _)⟩
theorem cv_tupL : CV X (.type "tuple") [.list ds] (.tuple ds) := cv_one call_tuple_of fun v H G Q e p k => by
  cases p with
  | lst h1 h2 => exact ⟨_, _, rfl, .inl ⟨SqL.of (e _ _ h1), fun l hl => new_end e k hl h2⟩⟩
theorem cv_tupT : CV X (.type "tuple") [.tuple ds] (.tuple ds) := cv_one call_tuple_of fun v H G Q e p k => by
  cases p with
  | tup h1 h2 => exact ⟨_, _, rfl, .inr ⟨sqT_ex e h1, same_end e k (.tup h1 h2)⟩⟩
theorem co_new {K : PySem.W.Frag} {H G : Hp} {Q : VK} {xs : List V} (e : Ex G H) (k : ∀ l xs H' G', Ex H H' → Ext H G G' → Ex G' H' → H l = none → G' l = none → H' l = some (.lst xs) → DaAll K G' xs es → Q (.ref l) H') (h : DaAll K G xs es) (l : Addr) (hl : H l = none) : Q (.ref l) (upd H l (.lst xs)) :=
  k l xs _ G (Ex.new hl) (Ext.refl H G) (e.mut (e.none hl)) hl (e.none hl) upd_same h
theorem co_listL : CO X (.type "list") [.list ds] ds := call_imp call_list_of fun vs H Q ⟨G, e, p, q⟩ => by
  obtain ⟨v, rfl, pv⟩ := daAll_one p
  cases pv with
  | lst h1 h2 => exact ⟨_, _, rfl, .inl (SqL.of (e _ _ h1)), fun l hl => co_new e q h2 l hl⟩
theorem co_listT : CO X (.type "list") [.tuple ds] ds := call_imp call_list_of fun vs H Q ⟨G, e, p, q⟩ => by
  obtain ⟨v, rfl, pv⟩ := daAll_one p
  cases pv with
  | tup h1 h2 => exact ⟨_, _, rfl, .inr (sqT_ex e h1), fun l hl => co_new e q h2 l hl⟩
theorem cv_all {bs : List Bool} (hc : X.calm = true) : CV X (.builtin "all") [.list (bs.map PyData.bool)] (.bool (bs.all id)) := cv_one (cr_all hc) fun v H G Q e p k => by
  cases p with
  | lst h1 h2 =>
    have z := bls_daAll h2
    subst z
    exact ⟨_, bs, rfl, SqL.of (e _ _ h1), same_end e k (.bl _)⟩
theorem cv_any {bs : List Bool} (hc : X.calm = true) : CV X (.builtin "any") [.list (bs.map PyData.bool)] (.bool (bs.any id)) := cv_one (cr_any hc) fun v H G Q e p k => by
  cases p with
  | lst h1 h2 =>
    have z := bls_daAll h2
    subst z
    exact ⟨_, bs, rfl, SqL.of (e _ _ h1), same_end e k (.bl _)⟩
/-! ### lists -/
theorem oo_cat (hz : ds.length + es.length ≤ 1000000) : OpO X (binaryOp .Add) (.list ds) (.list es) (ds ++ es) := op_imp op_cat fun x y H Q ⟨G, e, p1, p2, k⟩ => by
  cases p1 with
  | lst h1 h2 =>
    cases p2 with
    | lst h3 h4 => exact ⟨_, _, _, _, rfl, rfl, e _ _ h1, e _ _ h3, by rw [daAll_len h2, daAll_len h4]; exact Nat.le_trans hz sizeLine_big, fun l hl => k l _ hl (daAll_app h2 h4)⟩
theorem ov_catT (hz : ds.length + es.length ≤ 1000000) (hd : ds ≠ []) : OpV X (binaryOp .Add) (.tuple ds) (.tuple es) (.tuple (ds ++ es)) := op_imp op_catT fun x y H Q ⟨G, e, p1, p2, k⟩ => by
  cases p1 with
  | tup h1 h2 =>
    cases p2 with
    | tup h3 h4 =>
      refine ⟨_, _, _, _, rfl, rfl, sqT_ex e h1, sqT_ex e h3, fun z => ?_, by rw [daAll_len h2, daAll_len h4]; exact Nat.le_trans hz sizeLine_big, fun z => ?_, fun z l hl => new_end e k hl (daAll_app h2 h4)⟩
      · subst z; cases h2; exact hd rfl
      · subst z; cases h4
        rw [List.append_nil] at k
        exact same_end e k (.tup h1 h2)
end
end DM
end part_DMg
section part_DMh
namespace DM
open L2 PyProof.Rows PySem.Spec PySem
section
variable {X : Cx} {e a b c tg it l elt : Expr} {rest ifs : List Expr} {ρ ρ0 ρ1 ρ2 ρ3 : List Sl} {d d1 d2 d3 : PyData} {ds es ys rs : List PyData} {x : Str} {pos : Pos} {p q : Bool} {i j : Int}
/-! ### lists of one's own -/
theorem Sta.own_at [Tabl] {K : PySem.W.Frag} {F G H : Hp} {σ : L2.St} {ad : Nat → List Addr} {k : Nat} (w : Sta K F G H σ ρ ad) (h : ρ[k]? = some (.own ds)) : ∃ l xs, σ[k]? = some (some (.ref l)) ∧ H l = some (.lst xs) ∧ DaAll K G xs ds ∧ G l = none := by
  obtain ⟨l, xs, h1, h2, h3, h4⟩ := w.hold k _ h
  exact ⟨l, xs, h1, h3, h4, (w.own k l h2).1⟩
theorem s_append [Tabl] (k : Nat) {apos cpos npos : Pos} (h : E X e ρ d ρ1) (hk : ρ[k]? = some (.own es) := by rfl) (hk1 : ρ1[k]? = some (.own ds) := by rfl) (hz : ds.length < 1000000) (hN : X.N[k]? = some x := by rfl) (hv : Vis X.env.scope x := by first | exact Or.inl rfl | exact Or.inr (Or.inl rfl) | exact Or.inr (Or.inr rfl))
    (hd : (x == ("__debug__" : Str)) = false := by decide) (hcd : (x == ("__classdict__" : Str)) = false := by decide)
    (pe : ∀ {te : TE}, PE X e te → PE X (.Call (.Attribute (.Name x npos) "append" apos) [e] [] cpos) (tBM X.K "list" rAppend (tVar k) (tCons te tNil)) := by exact fun h => pe_bm PySem.F.plainAttrs_list PySem.F.slot_list_append PySem.F.type_list_append mt_append (pv _) (pa_cons h pa_nil))
    (hs : swapsWith (.Call (.Attribute (.Name x npos) "append" apos) [e] [] cpos) none pos.line X.env = pure false := by rfl) :
    S1 X (.Expr (.Call (.Attribute (.Name x npos) "append" apos) [e] [] cpos) pos) ρ (.nx (ρ1.set k (.own (ds ++ [d])))) :=
  ps_imp (ps_expr (pe h) hs) fun D σ H ⟨F, G, ad, w, q⟩ => by
    obtain ⟨l, xs, h1, h2, h3, h4⟩ := w.own_at hk
    refine ⟨_, h1, .inl ⟨rfl, _, .inl (.inl h2)⟩, F, G, ad, w, fun v H1 G1 ad1 e1 w1 p1 => ?_⟩
    obtain ⟨l', xs', g1, g2, g3, g4⟩ := w1.own_at hk1
    have el : l' = l := by
      rw [h1] at g1
      cases g1
      rfl
    subst el
    exact ⟨l', xs', v, rfl, rfl, g2, by rw [daAll_len g3]; exact Nat.lt_of_lt_of_le hz sizeLine_big, q σ _ G1 ad1 e1 (w1.mutO hk1 h1 (daAll_app g3 (.cons p1 .nil)))⟩
/-- xs.pop(e), a value -/
theorem e_popAt [Tabl] (k : Nat) {apos cpos npos : Pos} (h : E X e ρ (.int i) ρ1) (hi : 0 ≤ i) {j : Nat} (hj : i = (j : Int)) (hk : ρ[k]? = some (.own es) := by rfl) (hk1 : ρ1[k]? = some (.own ds) := by rfl) (hg : ds[j]? = some d) (hz : ds.length < 1000000) (hN : X.N[k]? = some x := by rfl) (hv : Vis X.env.scope x := by first | exact Or.inl rfl | exact Or.inr (Or.inl rfl) | exact Or.inr (Or.inr rfl))
    (hd : (x == ("__debug__" : Str)) = false := by decide) (hcd : (x == ("__classdict__" : Str)) = false := by decide)
    (pe : ∀ {te : TE}, PE X e te → PE X (.Call (.Attribute (.Name x npos) "pop" apos) [e] [] cpos) (tBM X.K "list" rPopAt (tVar k) (tCons te tNil)) := by exact fun h => pe_bm PySem.F.plainAttrs_list PySem.F.slot_list_pop PySem.F.type_list_pop mt_popAt (pv _) (pa_cons h pa_nil)) :
    E X (.Call (.Attribute (.Name x npos) "pop" apos) [e] [] cpos) ρ d (ρ1.set k (.own (ds.eraseIdx j))) :=
  pe_imp (pe h) fun σ H Q ⟨F, G, ad, w, q⟩ => by
    obtain ⟨l, xs, h1, h2, h3, h4⟩ := w.own_at hk
    refine ⟨_, h1, .inl ⟨rfl, _, .inl (.inl h2)⟩, F, G, ad, w, fun v H1 G1 ad1 e1 w1 p1 => ?_⟩
    cases p1
    obtain ⟨l', xs', g1, g2, g3, g4⟩ := w1.own_at hk1
    have el : l' = l := by
      rw [h1] at g1
      cases g1
      rfl
    subst el
    obtain ⟨v, hv, pv⟩ := daAll_get g3 hg
    have hl := daAll_len g3
    have hlt : j < xs'.length := (List.getElem?_eq_some_iff.mp hv).1
    refine ⟨l', xs', i, j, v, rfl, rfl, g2, by omega, by omega, ?_, hv, q v _ G1 ad1 e1 (w1.mutO hk1 h1 (daAll_erase j g3)) pv⟩
    have := (ixN_seq (n := xs'.length) (i := i) (j := j) (by unfold ixN; rw [if_pos hi, if_pos (by omega), hj]; rfl)).1
    exact this
/-! ### the source's fields -/
theorem kne (y z : Str) (h : y ≠ z) : decide ((Sum.inr y : Key) = Sum.inr z) = false := decide_eq_false fun q => h (Sum.inr.inj q)
theorem valV_cons {y : Str} {v : V} {r : List (Key × V)} (z : Str) : valV ((Sum.inr y, v) :: r) (Sum.inr z) = if y = z then some v else valV r (Sum.inr z) := by
  unfold valV
  rw [List.find?_cons]
  by_cases h : y = z
  · subst h
    simp
  · rw [kne y z h, if_neg h]
theorem src_left (l : Addr) (t : Src) : valV (srcK l t) (Sum.inr "left") = some (.int t.left) := by
  unfold srcK
  rw [valV_cons, if_neg (by decide), valV_cons, if_pos rfl]
theorem src_mixed (l : Addr) (t : Src) : valV (srcK l t) (Sum.inr "mixed") = some (.int t.mixed) := by
  unfold srcK
  rw [valV_cons, if_neg (by decide), valV_cons, if_neg (by decide), valV_cons, if_pos rfl]
theorem src_turn (l : Addr) (t : Src) : valV (srcK l t) (Sum.inr "turn") = some (.int t.turn) := by
  unfold srcK
  rw [valV_cons, if_neg (by decide), valV_cons, if_neg (by decide), valV_cons, if_neg (by decide), valV_cons, if_pos rfl]
theorem src_cells (l : Addr) (t : Src) : valV (srcK l t) (Sum.inr "cells") = some (.ref l) := by
  unfold srcK
  rw [valV_cons, if_pos rfl]
/-- other keys than the source's own four -/
def moreOk (t : Src) : Prop := ∀ kv ∈ t.more, kv.1 ≠ (Sum.inr "cells" : Key) ∧ kv.1 ≠ (Sum.inr "left" : Key) ∧ kv.1 ≠ (Sum.inr "mixed" : Key) ∧ kv.1 ≠ (Sum.inr "turn" : Key)
theorem putK_here {y : Str} {v w : V} {pre post : List (Key × V)} (h1 : ∀ kv ∈ pre, kv.1 ≠ Sum.inr y) (h2 : ∀ kv ∈ post, kv.1 ≠ Sum.inr y) : putK (pre ++ (Sum.inr y, v) :: post) (Sum.inr y) w = pre ++ (Sum.inr y, w) :: post := by
  unfold putK
  rw [if_pos (by simp)]
  have id_of : ∀ l : List (Key × V), (∀ kv ∈ l, kv.1 ≠ Sum.inr y) → (l.map fun kv => if kv.1 = Sum.inr y then (kv.1, w) else kv) = l := fun l h => by
    induction l with
    | nil => rfl
    | cons z r ih =>
      rw [List.map_cons, ih fun kv hm => h kv (List.mem_cons_of_mem _ hm), if_neg (h z List.mem_cons_self)]
  rw [List.map_append, List.map_cons, id_of pre h1, id_of post h2, if_pos rfl]
theorem ne_k {y z : Str} {v : V} (h : y ≠ z := by decide) : ((Sum.inr y, v) : Key × V).1 ≠ (Sum.inr z : Key) := fun q => h (Sum.inr.inj q)
theorem put_left (l : Addr) (t : Src) (hm : moreOk t) (n : Int) : putK (srcK l t) (Sum.inr "left") (.int n) = srcK l { t with left := n } :=
  putK_here (pre := [(Sum.inr "cells", V.ref l)]) (post := (Sum.inr "mixed", V.int t.mixed) :: (Sum.inr "turn", V.int t.turn) :: t.more) (by intro kv h; rw [List.mem_singleton] at h; subst h; exact ne_k) (by
    intro kv h
    simp only [List.mem_cons] at h
    rcases h with rfl | rfl | h
    · exact ne_k
    · exact ne_k
    · exact (hm kv h).2.1)
theorem put_mixed (l : Addr) (t : Src) (hm : moreOk t) (n : Int) : putK (srcK l t) (Sum.inr "mixed") (.int n) = srcK l { t with mixed := n } :=
  putK_here (pre := [(Sum.inr "cells", V.ref l), (Sum.inr "left", V.int t.left)]) (post := (Sum.inr "turn", V.int t.turn) :: t.more) (by intro kv h; simp only [List.mem_cons, List.not_mem_nil, or_false] at h; rcases h with rfl | rfl <;> exact ne_k) (by
    intro kv h
    simp only [List.mem_cons] at h
    rcases h with rfl | h
    · exact ne_k
    · exact (hm kv h).2.2.1)
theorem put_turn (l : Addr) (t : Src) (hm : moreOk t) (n : Int) : putK (srcK l t) (Sum.inr "turn") (.int n) = srcK l { t with turn := n } :=
  putK_here (pre := [(Sum.inr "cells", V.ref l), (Sum.inr "left", V.int t.left), (Sum.inr "mixed", V.int t.mixed)]) (post := t.more) (by intro kv h; simp only [List.mem_cons, List.not_mem_nil, or_false] at h; rcases h with rfl | rfl | rfl <;> exact ne_k) (by
    intro kv h
    exact (hm kv h).2.2.2)
variable {s0 l0 : Addr} {t : Src}
/-- source["left"] .. -/
theorem e_src [Tabl] (k : Nat) {key : Str} {npos cpos : Pos} {jj : Nat} {n : Int} (hf : ∀ l, valV (srcK l t) (Sum.inr key) = some (.int n)) (hu : X.A.units + 1 < cLine) (hk : ρ[k]? = some (.src s0 l0 t) := by rfl) (hN : X.N[k]? = some x := by rfl) (hv : Vis X.env.scope x := by first | exact Or.inl rfl | exact Or.inr (Or.inl rfl) | exact Or.inr (Or.inr rfl))
    (hd : (x == ("__debug__" : Str)) = false := by decide) (hcd : (x == ("__classdict__" : Str)) = false := by decide) : E X (.Subscript (.Name x npos) (.Constant (.str key) jj cpos) pos) ρ (.int n) ρ :=
  pe_imp (pe_dget hu (pe_var hN hv hd hcd) pe_str (fun _ _ => rfl)) fun σ H Q ⟨F, G, ad, w, q⟩ => by
    obtain ⟨h1, h2, h3, h4⟩ := w.hold k _ hk
    exact ⟨_, h1, s0, _, rfl, by rw [← hf l0]; exact DGet.k (k := Sum.inr key) h4.d, q _ H G ad (Ext.refl F G) w (.int n)⟩
theorem e_srcLen [Tabl] (k : Nat) {npos cpos spos p0 : Pos} {jj : Nat} (hu : X.A.units + 1 < cLine) (hm : X.mg "len" = none) (hk : ρ[k]? = some (.src s0 l0 t) := by rfl) (hg : Gl X "len" := by rfl) (hN : X.N[k]? = some x := by rfl) (hv : Vis X.env.scope x := by first | exact Or.inl rfl | exact Or.inr (Or.inl rfl) | exact Or.inr (Or.inr rfl))
    (hd : (x == ("__debug__" : Str)) = false := by decide) (hcd : (x == ("__classdict__" : Str)) = false := by decide)
    (he : starEach [(.Subscript (.Name x npos) (.Constant (.str "cells") jj cpos) spos)] X.env = (false, eval (.Subscript (.Name x npos) (.Constant (.str "cells") jj cpos) spos) X.env) :: starEach [] X.env := by rfl) (hpl : (backTo pos (starEach [] X.env)).any (·.1) = false := by rfl) :
    E X (.Call (.Name "len" p0) [.Subscript (.Name x npos) (.Constant (.str "cells") jj cpos) spos] [] pos) ρ (.int (t.cells.length : Int)) ρ :=
  pe_imp (pe_callB call_len_seq hg hm (by decide +kernel) (pa_cons (pe_dget hu (pe_var hN hv hd hcd) pe_str (fun _ _ => rfl)) pa_nil he) (by decide) (by decide) he hpl) fun σ H Q ⟨F, G, ad, w, q⟩ => by
    obtain ⟨h1, h2, h3, h4⟩ := w.hold k _ hk
    refine ⟨_, h1, s0, _, rfl, by rw [← src_cells l0 t]; exact DGet.k (k := Sum.inr "cells") h4.d, l0, _, rfl, .inl (SqL.of h4.c), ?_⟩
    rw [List.length_map]
    exact q _ H G ad (Ext.refl F G) w (.int _)
theorem e_srcPop [Tabl] (k : Nat) {npos cpos spos apos : Pos} {jj : Nat} {n : Int} (hu : X.A.units + 1 < cLine) (hk : ρ[k]? = some (.src s0 l0 t) := by rfl) (hlast : t.cells[t.cells.length - 1]? = some n) (hN : X.N[k]? = some x := by rfl) (hv : Vis X.env.scope x := by first | exact Or.inl rfl | exact Or.inr (Or.inl rfl) | exact Or.inr (Or.inr rfl))
    (hd : (x == ("__debug__" : Str)) = false := by decide) (hcd : (x == ("__classdict__" : Str)) = false := by decide)
    (pe : ∀ {te : TE}, PE X (.Subscript (.Name x npos) (.Constant (.str "cells") jj cpos) spos) te → PE X (.Call (.Attribute (.Subscript (.Name x npos) (.Constant (.str "cells") jj cpos) spos) "pop" apos) [] [] pos) (tBM0 X.K "list" rPop te) := by exact fun h => pe_bm0 PySem.F.plainAttrs_list PySem.F.slot_list_pop PySem.F.type_list_pop mt_pop h) :
    E X (.Call (.Attribute (.Subscript (.Name x npos) (.Constant (.str "cells") jj cpos) spos) "pop" apos) [] [] pos) ρ (.int n) (ρ.set k (.src s0 l0 { t with cells := t.cells.dropLast })) :=
  pe_imp (pe (pe_dget hu (pe_var hN hv hd hcd) pe_str (fun _ _ => rfl))) fun σ H Q ⟨F, G, ad, w, q⟩ => by
    obtain ⟨h1, h2, h3, h4⟩ := w.hold k _ hk
    refine ⟨_, h1, s0, V.ref l0, rfl, by rw [← src_cells l0 t]; exact DGet.k (k := Sum.inr "cells") h4.d, .inl ⟨rfl, _, .inl (.inl h4.c)⟩, l0, _, .int n, rfl, rfl, h4.c, by rw [List.length_map, List.getElem?_map, hlast]; rfl, ?_⟩
    have fs := w.own k s0 h2
    have fl := w.own k l0 h3
    have ne : s0 ≠ l0 := ne_of h4.d h4.c (by intro z; cases z)
    obtain ⟨y1, y2⟩ := w.src (H' := upd H l0 (.lst (t.cells.map V.int).dropLast)) (G' := G) (t' := { t with cells := t.cells.dropLast }) hk (Ext.refl _ G) (fun a o ho => by
      rw [upd_ne (hide2_of ho).2]
      exact noT_ex a o (hide2_ex a o ho)) (w.gh.mut fl.1) (w.tk.callee2.mut (notX_at h4.c notX_lst)) ⟨by rw [upd_ne ne]; exact h4.d, by rw [upd_same, List.map_dropLast]⟩ fs.1 fl.1
    exact q _ _ G _ y1 y2 (.int n)
theorem s_srcSet [Tabl] (k : Nat) {key : Str} {npos cpos pos' : Pos} {jj : Nat} {n : Int} {t' : Src} (h : E X e ρ (.int n) ρ1) (hu : X.A.units + 1 < cLine) (hput : ∀ l, putK (srcK l t) (Sum.inr key) (.int n) = srcK l t') (hcells : t'.cells = t.cells) (hlen : t.more.length < 1000) (hk : ρ1[k]? = some (.src s0 l0 t) := by rfl) (hN : X.N[k]? = some x := by rfl) (hv : Vis X.env.scope x := by first | exact Or.inl rfl | exact Or.inr (Or.inl rfl) | exact Or.inr (Or.inr rfl))
    (hd : (x == ("__debug__" : Str)) = false := by decide) (hcd : (x == ("__classdict__" : Str)) = false := by decide) (hs : swapsWith e (some (.Subscript (.Name x npos) (.Constant (.str key) jj cpos) pos')) pos.line X.env = pure false := by rfl) :
    S1 X (.Assign [.Subscript (.Name x npos) (.Constant (.str key) jj cpos) pos'] e pos) ρ (.nx (ρ1.set k (.src s0 l0 t'))) :=
  ps_imp (ps_dput hu (pe_var hN hv hd hcd) pe_str h hs) fun D σ H ⟨F, G, ad, w, q⟩ => ⟨F, G, ad, w, fun v H1 G1 ad1 e1 w1 p1 => by
    cases p1
    obtain ⟨h1, h2, h3, h4⟩ := w1.hold k _ hk
    have fs := w1.own k s0 h2
    have fl := w1.own k l0 h3
    have ne : s0 ≠ l0 := ne_of h4.d h4.c (by intro z; cases z)
    refine ⟨_, h1, s0, _, rfl, DPut.k (k := Sum.inr key) h4.d (by unfold srcK; simp only [List.length_cons]; have := sizeLine_big; omega), ?_⟩
    rw [hput]
    obtain ⟨y1, y2⟩ := w1.src (H' := upd H1 s0 (.dK (srcK l0 t'))) (G' := G1) (t' := t') hk (Ext.refl _ G1) (fun a o ho => by
      rw [upd_ne (hide2_of ho).1]
      exact noT_ex a o (hide2_ex a o ho)) (w1.gh.mut fs.1) (w1.tk.callee2.mut (notX_at h4.d notX_dK)) ⟨upd_same, by rw [upd_ne (Ne.symm ne), hcells]; exact h4.c⟩ fs.1 fl.1
    exact q σ _ G1 _ (e1.trans y1) y2⟩
end
end DM
end part_DMh
section part_DMi
namespace DM
open L2 PyProof.Rows PySem.Spec PySem
/-! ### a def's body -/
structure CxA [Tabl] where
  f : Addr
  cdv : Value
  A : Around
  outer : List Env
  s : Shared
  H : Hp
  E : XK
section
variable (P : Program) (w : World) (K : PySem.W.Frag) (mg : Str → Option Value) (base : Heap)
/-- the context of the body of st, the def x with the names N -/
abbrev cx [Tabl] (N : List Str) (x : Str) (st : Stmt) (a : CxA) : Cx := (cxOf L2.CX0 P w K mg base N x (defScope st) a.f a.cdv a.A a.outer a.s a.H a.E).nox
/-- the def x of the text st stands behind the top -/
structure Put (x : Str) (st : Stmt) : Prop where
  ex : ∃ f fd, mg x = some (.ref f) ∧ FunD K x x (defArgs st) (defBody st) (defScope st) [] [] f fd
/-- .. and keeps sp -/
structure Def (x : Str) (k : Nat) (ps : List Str) (sp : Sp) : Prop where
  ex : ∃ f fd, mg x = some (.ref f) ∧ PySem.W.keepIn K (.ref f) = true ∧ Binds K fd ps [] ∧ FnG P w K mg base L2.CX0 k f fd ps sp
end
def dataS (N : List Str) (n : Nat) (l : List Sl) : List Sl := l ++ List.replicate (N.length - n) Sl.un
section
variable {P : Program} {w : World} {K : PySem.W.Frag} {mg : Str → Option Value} {base : Heap} {x : Str} {st : Stmt} {N ps : List Str} {k : Nat} {sp : Sp}
/-- room for calls; no repr under way -/
abbrev Rm (k : Nat) (A : Around) : Prop := Room k A ∧ A.guards = some []
theorem Def.known {A : Around} {j : Nat} (d : Def P w K mg base x k ps sp) (hr : Rm j A) (h : k ≤ j := by decide) : Known P w K mg base A x sp := by
  obtain ⟨f, fd, h1, h2, h3, h4⟩ := d.ex
  exact ⟨k, f, fd, ps, h4, ⟨hr.1.mono h, hr.2⟩, h1, h2, h3⟩
/-- how the arguments bind -/
abbrev BindsOf (st : Stmt) (x : Str) (ps : List Str) : Prop := ∀ (kV doc pm : Value) (an : Option Addr) (cdv ct : Value) (us : List Value), us.length = ps.length → bindArgs (PySem.W.fnOf x x (defArgs st) (defBody st) (defScope st) .none kV doc pm an cdv ct) ⟨us, []⟩ = pure (ps.zip us)
theorem sta0 [Tabl] {F G H : Hp} {N : List Str} {vs : List V} {l : List Sl} (tk : Tbk K F G H) (e1 : Ex G H) (e2 : Ex F H) (hl : vs.length = l.length) (hN : vs.length ≤ N.length) (ad : Nat → List Addr) (h1 : ∀ i a, a ∈ ad i → G a = none ∧ F a = none) (h2 : ∀ i a, a ∈ ad i → ∃ o, H a = some o) (h3 : ∀ i j a, a ∈ ad i → a ∈ ad j → i = j)
    (h : ∀ i r, l[i]? = some r → Hold K G H ((vs.map some)[i]?) (ad i) r) : Sta K F G H (L2.start N vs) (dataS N vs.length l) ad :=
  ⟨e1, e2, h1, h2, h3, by unfold L2.start dataS; simp [hl], fun i r q => (by
    unfold dataS at q
    unfold L2.start
    by_cases hi : i < l.length
    · rw [List.getElem?_append_left hi] at q
      rw [List.getElem?_append_left (by rw [List.length_map, hl]; exact hi)]
      exact h i r q
    · rw [List.getElem?_append_right (by omega), List.getElem?_replicate] at q
      split at q
      · cases q
        trivial
      · cases q), tk⟩
theorem startData {G : Hp} : ∀ {vs : List V} {ds : List PyData}, DaAll K G vs ds → ∀ (H : Hp) (as : List Addr) (i : Nat) (r : Sl), (ds.map Sl.dat)[i]? = some r → Hold K G H ((vs.map some)[i]?) as r := fun {vs ds} h H as i r q => by
  rw [List.getElem?_map] at q
  cases e : ds[i]? with
  | none => rw [e] at q; cases q
  | some d =>
    rw [e] at q
    cases q
    obtain ⟨v, hv, pv⟩ := daAll_get h e
    exact ⟨v, by rw [List.getElem?_map, hv]; rfl, pv⟩
/-- how a body may end -/
inductive Done [Tabl] (X : Cx) (n : Nat) (body : List Stmt) (ρ : List Sl) (d : PyData) : Prop
  | rt (h : S X body ρ (.rt d (List.replicate n .un)))
  | nx {ρ' : List Sl} (h : S X body ρ (.nx ρ')) (e : d = .none)
/-- a def over data -/
theorem def_P [Tabl] {R : List PyData → PyData → Prop} (hp : Put K mg x st) (S : FnScope N ps (defScope st)) (hb : BindsOf st x ps) (hN : ps.length ≤ N.length) (hl : ∀ ds d, R ds d → ds.length = ps.length)
    (body : ∀ (a : CxA), Rm k (cx P w K mg base N x st a).A → ∀ ds d, R ds d → Done (cx P w K mg base N x st a) N.length (defBody st) (dataS N ds.length (ds.map Sl.dat)) d) : Def P w K mg base x (k + 1) ps (spP K R) := by
  obtain ⟨f, fd, h1, F⟩ := hp.ex
  have b := F.bindsN (ps := ps) hb
  refine ⟨f, fd, h1, F.kp, b, fnG_of F S (fun vs H Q E h => ?_) (fun cdv A outer s H vs Q E hr0 hgd h => ?_)⟩
  · obtain ⟨ds, d, hR, F, G, _, _, _, hd, _⟩ := h
    rw [daAll_len hd, hl ds d hR]
  · obtain ⟨ds, d, hR, F, G, tk, ef, e, hd, q⟩ := h
    have len : vs.length = ds.length := daAll_len hd
    have w0 : Sta K F G H (L2.start N vs) (dataS N ds.length (ds.map Sl.dat)) (fun _ => []) := by
      rw [← len]
      exact sta0 tk e ef (by rw [len, List.length_map]) (by rw [len, hl ds d hR]; exact hN) _ (fun _ _ z => nomatch z) (fun _ _ z => nomatch z) (fun _ _ _ z => nomatch z) (startData hd H [])
    have hbody := body ⟨f, cdv, A, outer, s, H, E⟩ ⟨hr0, hgd⟩ ds d hR
    cases hbody with
    | rt hS => exact ⟨_, PSs.nox hS, F, G, _, w0, fun σ' H' G' ad' e' w' v pv => q v H' G' e' w'.fh w'.gh w'.tk pv⟩
    | nx hS ed =>
      subst ed
      exact ⟨_, PSs.nox hS, F, G, _, w0, fun σ' H' G' ad' e' w' => q .non H' G' e' w'.fh w'.gh w'.tk .non⟩
/-- a def whose first argument is the source -/
theorem def_S [Tabl] {R : Src → List PyData → Src → PyData → Prop} (hp : Put K mg x st) (S : FnScope N ps (defScope st)) (hb : BindsOf st x ps) (hN : ps.length ≤ N.length) (hl : ∀ t ds t' d, R t ds t' d → ds.length + 1 = ps.length)
    (body : ∀ (a : CxA), Rm k (cx P w K mg base N x st a).A → ∀ s l t ds t' d, R t ds t' d → DM.S (cx P w K mg base N x st a) (defBody st) (dataS N (ds.length + 1) (.src s l t :: ds.map Sl.dat)) (.rt d (.src s l t' :: List.replicate (N.length - 1) .un))) : Def P w K mg base x (k + 1) ps (spS K R) := by
  obtain ⟨f, fd, h1, F⟩ := hp.ex
  have b := F.bindsN (ps := ps) hb
  refine ⟨f, fd, h1, F.kp, b, fnG_of F S (fun vs H Q E h => ?_) (fun cdv A outer sh H vs Q E hr0 hgd h => ?_)⟩
  · obtain ⟨F, G, s, l, t, vs', ds, t', d, rfl, _, _, _, _, _, hd, hR, _⟩ := h
    rw [List.length_cons, daAll_len hd, hl t ds t' d hR]
  · obtain ⟨F, G, s, l, t, vs', ds, t', d, rfl, hs, ⟨f1, f2, f3, f4⟩, tk, e1, e2, hd, hR, q⟩ := h
    have len : vs'.length = ds.length := daAll_len hd
    have ne : s ≠ l := ne_of hs.d hs.c (by intro z; cases z)
    have w0 : Sta K F G H (L2.start N (.ref s :: vs')) (dataS N (ds.length + 1) (.src s l t :: ds.map Sl.dat)) (fun i => if i = 0 then [s, l] else []) := by
      rw [← len]
      refine sta0 (vs := .ref s :: vs') tk e2 e1 (by simp [len]) (by have := hl t ds t' d hR; simp [len]; omega) _ (fun i a z => ?_) (fun i a z => ?_) (fun i j a z1 z2 => ?_) (fun i r z => ?_)
      · by_cases hi : i = 0
        · rw [if_pos hi] at z
          simp only [List.mem_cons, List.not_mem_nil, or_false] at z
          rcases z with rfl | rfl
          · exact ⟨f3, f1⟩
          · exact ⟨f4, f2⟩
        · rw [if_neg hi] at z; cases z
      · by_cases hi : i = 0
        · rw [if_pos hi] at z
          simp only [List.mem_cons, List.not_mem_nil, or_false] at z
          rcases z with rfl | rfl
          · exact ⟨_, hs.d⟩
          · exact ⟨_, hs.c⟩
        · rw [if_neg hi] at z; cases z
      · by_cases hi : i = 0
        · by_cases hj : j = 0
          · omega
          · rw [if_neg hj] at z2; cases z2
        · rw [if_neg hi] at z1; cases z1
      · cases i with
        | zero =>
          cases z
          exact ⟨rfl, by simp, by simp, hs⟩
        | succ i => exact startData hd H _ i r (by simpa using z)
    have hS := body ⟨f, cdv, A, outer, sh, H, E⟩ ⟨hr0, hgd⟩ s l t ds t' d hR
    refine ⟨_, PSs.nox hS, F, G, _, w0, fun σ' H' G' ad' e' w' v pv => ?_⟩
    obtain ⟨g1, g2, g3, g4⟩ := w'.hold 0 (.src s l t') rfl
    exact q v H' G' e' w'.fh w'.gh w'.tk g4 (w'.own 0 s g2).1 (w'.own 0 l g3).1 pv
/-- the same, what it hands back told by some word alone -/
theorem def_Sx [Tabl] {pre : Src → List PyData → Prop} {post : Src → List PyData → Src → PyData → Prop} (hp : Put K mg x st) (S : FnScope N ps (defScope st)) (hb : BindsOf st x ps) (hN : ps.length ≤ N.length) (hl : ∀ t ds, pre t ds → ds.length + 1 = ps.length)
    (body : ∀ t ds, pre t ds → ∃ t' d, post t ds t' d ∧ ∀ (a : CxA), Rm k (cx P w K mg base N x st a).A → ∀ s l, DM.S (cx P w K mg base N x st a) (defBody st) (dataS N (ds.length + 1) (.src s l t :: ds.map Sl.dat)) (.rt d (.src s l t' :: List.replicate (N.length - 1) .un))) :
    ∃ R, Def P w K mg base x (k + 1) ps (spS K R) ∧ ∀ t ds, pre t ds → ∃ t' d, R t ds t' d ∧ post t ds t' d := by
  refine ⟨fun t ds t' d => ds.length + 1 = ps.length ∧ ∀ (a : CxA), Rm k (cx P w K mg base N x st a).A → ∀ s l, DM.S (cx P w K mg base N x st a) (defBody st) (dataS N (ds.length + 1) (.src s l t :: ds.map Sl.dat)) (.rt d (.src s l t' :: List.replicate (N.length - 1) .un)),
    def_S hp S hb hN (fun _ _ _ _ h => h.1) fun a hr s l t ds t' d h => h.2 a hr s l, fun t ds h => ?_⟩
  obtain ⟨t', d, h1, h2⟩ := body t ds h
  exact ⟨t', d, ⟨hl t ds h, h2⟩, h1⟩
/-- the law -/
def spL [Tabl] (K : PySem.W.Frag) : Sp := fun vs H Q _ => ∃ (a : Addr) (ns : List Int), vs = [.ref a] ∧ LamX.Tabs (TKs K) H ∧ SqL K (noT K H) a (ns.map V.int) ∧ ns.length ≤ 63 ∧ ∀ H', Q (.bl true) H'
theorem def_L [Tabl] {f : Addr} {fd : FuncData} (F : FunD K x x (defArgs st) (defBody st) (defScope st) [] [] f fd) (S : FnScope N ps (defScope st)) (hb : BindsOf st x ps) (hN : ps.length ≤ N.length) (hl : ps.length = 1)
    (body : ∀ (a : CxA), Rm k (cx P w K mg base N x st a).A → ∀ ns : List Int, ns.length ≤ 63 → DM.S (cx P w K mg base N x st a) (defBody st) (dataS N 1 [.scr ns]) (.rt (.bool true) (List.replicate N.length .un))) : FnG P w K mg base L2.CX0 (k + 1) f fd ps (spL K) := by
  refine fnG_of F S (fun vs H Q E h => ?_) (fun cdv A outer sh H vs Q E hr0 hgd h => ?_)
  · obtain ⟨a, ns, rfl, _⟩ := h
    rw [hl]; rfl
  · obtain ⟨a, ns, rfl, ht, hs, hn, q⟩ := h
    have w0 : Sta K (fun _ => none) (noT K H) H (L2.start N [.ref a]) (dataS N 1 [.scr ns]) (fun _ => []) :=
      sta0 (vs := [.ref a]) ⟨ht, fun _ _ => rfl, fun p hp => noT_at hp⟩ noT_ex (fun _ _ z => by cases z) rfl (by rw [hl] at hN; exact hN) _ (fun _ _ z => nomatch z) (fun _ _ z => nomatch z) (fun _ _ _ z => nomatch z) fun i r z => by
        cases i with
        | zero => cases z; exact ⟨a, rfl, hs⟩
        | succ i => cases z
    have hS := body ⟨f, cdv, A, outer, sh, H, E⟩ ⟨hr0, hgd⟩ ns hn
    refine ⟨_, PSs.nox hS, _, _, _, w0, fun σ' H' G' ad' e' w' v pv => ?_⟩
    cases pv
    exact q H'
/-- the def that makes the source of the script -/
def spSrc (K : PySem.W.Frag) (g : List Int → Src) : Sp := fun vs H Q _ => ∃ (a : Addr) (ns : List Int), vs = [.ref a] ∧ SqL K H a (ns.map V.int) ∧ ns.length ≤ 1000 ∧ ∀ s l H', H s = none → H l = none → Ex H H' → SrcAt H' s l (g ns) → Q (.ref s) H'
end
section
variable {X : Cx} {e a b c : Expr} {ρ ρ1 : List Sl} {d : PyData} {x y : Str} {pos : Pos}
/-- s = f(script), the source made -/
theorem s_source [Tabl] (i j : Nat) {g : List Int → Src} {z : Str} {ns : List Int} {p0 p1 p2 pos2 : Pos} {rs : List Stmt} {o : Out} (f : Kn X x (spSrc X.K g)) (hz : ns.length ≤ 1000) (hk : ∀ s l, S X rs (ρ.set i (.src s l (g ns))) o) (hN : X.N.Nodup) (h0 : ρ[j]? = some (.scr ns) := by rfl) (hl : i < ρ.length := by exact Nat.le_of_ble_eq_true rfl) (hg : Gl X x := by rfl)
    (hNj : X.N[j]? = some y := by rfl) (hNi : X.N[i]? = some z := by rfl) (hv : Vis X.env.scope y := by first | exact Or.inl rfl | exact Or.inr (Or.inl rfl) | exact Or.inr (Or.inr rfl)) (hd : (y == ("__debug__" : Str)) = false := by decide) (hcd : (y == ("__classdict__" : Str)) = false := by decide)
    (hdb : (x == ("__debug__" : Str)) = false := by decide) (he : starEach [.Name y p0] X.env = (false, eval (.Name y p0) X.env) :: starEach [] X.env := by rfl) (hpl : (backTo pos (starEach [] X.env)).any (·.1) = false := by rfl)
    (hx : Loc X.env.scope z := by first | exact Or.inl rfl | exact Or.inr rfl) (hs : swapsWith (.Call (.Name x p1) [.Name y p0] [] pos) (some (.Name z p2)) pos2.line X.env = pure false := by rfl)
    (hf : X.fn z = true ∨ X.env.scope.names.lookup z = some .local := by first | exact .inl rfl | exact .inr rfl) : S X (.Assign [.Name z p2] (.Call (.Name x p1) [.Name y p0] [] pos) pos2 :: rs) ρ o := by
  obtain ⟨k, f, fd, ps, F, ⟨hr, hgd⟩, hm, hk2, hb⟩ := f.ex
  refine pss_imp (pss_cons (ps_set hN hNi hx (pe_callG F hr hgd hg hm hk2 hb .nil pass0 (pa_cons (pe_var hNj hv hd hcd) pa_nil he) hdb he hpl) hs hf) anyS_ok) fun D σ H ⟨F, G, ad, w, k⟩ => ?_
  obtain ⟨a, h2, h3⟩ := w.hold j _ h0
  refine ⟨_, h2, a, ns, rfl, sqL_ex w.gh h3, hz, fun s l H' hs hl' e1 hS => ?_⟩
  have gs := w.gh.none hs
  have gl := w.gh.none hl'
  have ns' : ∀ j, s ∉ ad j := fun j q => by
    obtain ⟨o, ho⟩ := w.there j s q
    rw [hs] at ho; cases ho
  have nl' : ∀ j, l ∉ ad j := fun j q => by
    obtain ⟨o, ho⟩ := w.there j l q
    rw [hl'] at ho; cases ho
  have w1 : Sta X.K F G H' (σ.set i (some (.ref s))) (ρ.set i (.src s l (g ns))) (fun j => if j = i then [s, l] else ad j) := by
    refine ⟨w.gh.trans e1, w.fh.trans e1, fun j a q => ?_, fun j a q => ?_, fun j k a q1 q2 => ?_, by rw [List.length_set, List.length_set]; exact w.len, fun j r q => ?_, w.tk.grow e1 (Ext.refl _ _)⟩
    · by_cases e : j = i
      · rw [if_pos e] at q
        simp only [List.mem_cons, List.not_mem_nil, or_false] at q
        rcases q with rfl | rfl
        · exact ⟨gs, w.fh.none hs⟩
        · exact ⟨gl, w.fh.none hl'⟩
      · rw [if_neg e] at q; exact w.own j a q
    · by_cases e : j = i
      · rw [if_pos e] at q
        simp only [List.mem_cons, List.not_mem_nil, or_false] at q
        rcases q with rfl | rfl
        · exact ⟨_, hS.d⟩
        · exact ⟨_, hS.c⟩
      · rw [if_neg e] at q
        obtain ⟨o, ho⟩ := w.there j a q
        exact ⟨o, e1 a o ho⟩
    · by_cases e : j = i
      · rw [if_pos e] at q1
        simp only [List.mem_cons, List.not_mem_nil, or_false] at q1
        by_cases e2 : k = i
        · rw [e, e2]
        · rw [if_neg e2] at q2
          rcases q1 with rfl | rfl
          · exact absurd q2 (ns' k)
          · exact absurd q2 (nl' k)
      · rw [if_neg e] at q1
        by_cases e2 : k = i
        · rw [if_pos e2] at q2
          simp only [List.mem_cons, List.not_mem_nil, or_false] at q2
          rcases q2 with rfl | rfl
          · exact absurd q1 (ns' j)
          · exact absurd q1 (nl' j)
        · rw [if_neg e2] at q2; exact w.dis j k a q1 q2
    · by_cases e : j = i
      · subst e
        rw [List.getElem?_set_self (by rw [← w.len] at hl; rw [← w.len]; exact hl)] at q
        cases q
        rw [List.getElem?_set_self (by rw [w.len]; exact hl), if_pos rfl]
        exact ⟨rfl, by simp, by simp, hS⟩
      · rw [List.getElem?_set_ne (Ne.symm e)] at q ⊢
        rw [if_neg e]
        exact (w.hold j r q).grow (Ex.refl G) fun a _ u z => e1 a u z
  exact ⟨_, o, hk s l, F, G, _, w1, k⟩
/-- the script walked -/
theorem i_scr [Tabl] (j : Nat) {ns : List Int} {p0 : Pos} {tg : Expr} (h0 : ρ[j]? = some (.scr ns) := by rfl) (hNj : X.N[j]? = some y := by rfl) (hv : Vis X.env.scope y := by first | exact Or.inl rfl | exact Or.inr (Or.inl rfl) | exact Or.inr (Or.inr rfl)) (hd : (y == ("__debug__" : Str)) = false := by decide) (hcd : (y == ("__classdict__" : Str)) = false := by decide) :
    Iter X tg (.Name y p0) ρ (ns.map PyData.int) ρ := pi_imp (pi_list (pe_var hNj hv hd hcd)) fun σ H R ⟨F, G, ad, w, k⟩ => by
  obtain ⟨a, h2, h3⟩ := w.hold j _ h0
  refine ⟨_, h2, a, rfl, ⟨_, sqL_ex w.gh h3⟩, k _ H G ad (Ext.refl F G) w fun H2 G2 g1 g2 => ⟨⟨_, sqL_ex (g1.trans g2) h3, by rw [List.length_map, List.length_map]; exact Nat.le_refl _⟩, fun i d hi => ?_⟩⟩
  rw [List.getElem?_map] at hi
  cases e : ns[i]? with
  | none => rw [e] at hi; cases hi
  | some n =>
    rw [e] at hi
    cases hi
    have hx : (ns.map V.int)[i]? = some (V.int n) := by rw [List.getElem?_map, e]; rfl
    refine ⟨⟨_, _, sqL_ex (g1.trans g2) h3, hx⟩, fun x H' ⟨e, z⟩ => ?_⟩
    subst e
    have zz := z _ (sqL_ex (g1.trans g2) h3)
    rw [hx] at zz
    cases zz
    exact ⟨G2, Ex.refl _, Ext.refl _ _, g2, .int n⟩
/-- forget behind -/
theorem S.rt_le [Tabl] {st : List Stmt} {ρ' ρ2 : List Sl} (h : S X st ρ (.rt d ρ')) (l : Le ρ' ρ2) : S X st ρ (.rt d ρ2) := pss_imp h fun D σ H ⟨F, G, ad, w, k⟩ => ⟨F, G, ad, w, fun σ' H' G' ad' e w' => k σ' H' G' ad' e (w'.le l)⟩
end
end DM
end part_DMi
section part_DMj
/-! repr of data, with ints of up to 12,900 bits -/
namespace DMr
open L2 PyProof.Rows PySem.Spec PySem
/-- nobody has set another digit limit -/
def Digits (h : Heap) : Prop := ∃ mc, h.Ns cStatics mc ∧ mc "sys.int_max_str_digits" = none
theorem Digits.keeps {h h' : Heap} (x : Digits h) (k : ∀ b o, h.get? b = some o → h'.get? b = some o) : Digits h' := by
  obtain ⟨mc, a, b⟩ := x
  exact ⟨mc, a.keeps k, b⟩
section
variable {prog : Program} {w : World} {A : Around} {E : Value → Shared → Prop} {s : Shared} {a : Int} {t : Tok}
theorem over_no {M : Model} {Q : Option Nat → Shared → Prop} (hd : Digits s.heap) (h1 : a.natAbs.log2 < 12900) (h : Q none s) : wpAny M A (Builtin.overDigitLimit? a) Q E s := by
  unfold Builtin.overDigitLimit?
  by_cases q : a.natAbs.log2 < 1920
  · rw [if_pos q]
    exact wpAny_pure h
  · rw [if_neg q]
    obtain ⟨mc, hn, hm⟩ := hd
    unfold Builtin.intMaxStrDigits
    refine wpAny_bind (wpAny_bind (wpAny_nsGet hn ?_))
    rw [hm]
    refine wpAny_pure ?_
    have q1 : ¬ (a.natAbs.log2 / 30 + 1 > 1000) := by omega
    have q2 : ((4300 : Nat) == 0 || decide (a.natAbs.log2 < 3 * 4300)) = true := by
      rw [decide_eq_true (by omega)]
      rfl
    show wpAny M A (if a.natAbs.log2 / 30 + 1 > 1000 then _ else _) Q E s
    rw [if_neg q1]
    simp only [q2, if_true]
    exact wpAny_pure h
theorem int_text_fits_len (a : Int) : ((toString a : String) : Str).length = (toString a).length := by
  exact PySem.ofString_length _
theorem int_text_wide (h : a.natAbs.log2 < 12900) : ((toString a : String) : Str).length ≤ 12901 := by
  have z := int_text_length_le (k := 12900) (by decide) h
  have e := int_text_fits_len a
  omega
theorem meets_intRepr : Meets (Builtin.«int.__repr__» ⟨[.int a t], []⟩) (fun A R s => Digits s.heap ∧ a.natAbs.log2 < 12900 ∧ R (.ok (.ret (.str (toString a) s.toks))) { s with toks := s.toks + 1 }) := by
  intro prog w A R s ⟨hd, ha, h⟩
  unfold Builtin.«int.__repr__»
  show wpAny _ _ (do let r ← Builtin.overDigitLimit? a; _) _ _ _
  refine wpAny_bind (over_no hd ha ?_)
  show wpAny _ _ (retStr _) _ _ _
  unfold retStr
  refine wpAny_bind (wpAny_mkStr (wpAny_pure h) ?_)
  exact Nat.le_trans (int_text_wide ha) (by decide)
theorem reprObj_wide {Q : Value → Shared → Prop} (hu : A.units < cLine) (hd : Digits s.heap) (ha : a.natAbs.log2 < 12900) (h : Q (.str (toString a) s.toks) { s with toks := s.toks + 1 }) : wpAny (model prog w) A (pyReprObj (.int a t)) Q E s :=
  wpAny_pyReprObj_slot hu (typeIs_int s a t) F.slot_int_repr.toG (call_meets F.slot_int_repr (typeIs_int s a t) F.entry_int_repr (F.args_int_repr_1 _) meets_intRepr ⟨hd, ha, _, _, rfl, h⟩)
theorem reprK_wide {as : List Addr} {h₀ : Heap} (hd : Digits h₀) (ha : a.natAbs.log2 < 12900) : ReprK prog w as h₀ 0 (.int a t) (toString a) := fun base hb A g E s Q hg hc hu hk hQ => by
  rw [pyReprUnder_leaf (v := .int a t) (by omega) (fun _ e => nomatch e)]
  unfold pyRepr
  exact wpAny_bind (reprObj_wide (by omega) (hd.keeps hk) ha (wpAny_pure (hQ s.heap _ fun _ _ e => e)))
end
/-! ### data -/
mutual
def wideD : PyData → Bool
  | .int i => decide (i.natAbs.log2 < 12900)
  | .list xs => wideDs xs
  | .tuple xs => wideDs xs
  | .dict _ => false
  | _ => true
def wideDs : List PyData → Bool
  | [] => true
  | x :: xs => wideD x && wideDs xs
end
section
variable {prog : Program} {w : World} {h₀ : Heap}
mutual
theorem reprK_of (hd : Digits h₀) : ∀ {v : Value} {d : PyData} {as : List Addr}, Reads h₀ v d as → wideD d = true → d.shown.length ≤ sizeLine → ∃ bs, ReadAtMost h₀ d.depth bs ∧ ReprK prog w bs h₀ d.depth v d.shown
  | _, _, _, .none, _, _ => ⟨[], (fun _ q => nomatch q), by rw [PyData.shown]; exact .of_is ReprIs.none _ _ _⟩
  | _, _, _, .bool b, _, _ => ⟨[], (fun _ q => nomatch q), by rw [PyData.shown]; exact .of_is (ReprIs.bool b) _ _ _⟩
  | _, _, _, .int i t, hs, _ => ⟨[], (fun _ q => nomatch q), by rw [PyData.shown]; exact (reprK_wide hd (by simpa [wideD] using hs)).level_le (Nat.zero_le _)⟩
  | _, _, _, .str x t, _, hz => ⟨[], (fun _ q => nomatch q), by rw [PyData.shown]; exact .of_is (ReprIs.str x t (by rw [PyData.shown] at hz; exact hz)) _ _ _⟩
  | _, _, _, .list (a := a) (vs := vs) (xs := xs) h1 h2 h3 h4, hs, hz => by
    have zz : (listText (PyData.shownAll xs)).length ≤ sizeLine := by rw [PyData.shown] at hz; exact hz
    obtain ⟨bs, hb, hk⟩ := reprAllK_of hd h4 (by simpa [wideD] using hs) (fun t ht => Nat.le_trans (listText_mem_le ht) zz)
    have rd : Reads h₀ (.ref a) (.list xs) _ := .list h1 h2 h3 h4
    have no : a ∉ bs := not_mem_of_deeper rd (by rw [PyData.depth]; omega) hb
    refine ⟨a :: bs, .cons rd (by rw [PyData.depth]; omega) hb, ?_⟩
    rw [PyData.depth, PyData.shown]
    obtain ⟨l⟩ := vs
    cases l with
    | nil =>
      have h5 : ReadsAll h₀ [] xs _ := h4
      cases h5
      rw [PyData.shownAll, listText_nil]
      exact ReprK.listEmpty h1 h2 h3
    | cons x l => exact ReprK.list h1 h2 h3 no (by simpa using hk.length_eq) (fun i y q => hk.item i y (by simpa using q))
  | _, _, _, .tuple (a := a) (xs := xs) h1 h2 h3 h4, hs, hz => by
    have zz : (tupleText (PyData.shownAll xs)).length ≤ sizeLine := by rw [PyData.shown] at hz; exact hz
    obtain ⟨bs, hb, hk⟩ := reprAllK_of hd h4 (by simpa [wideD] using hs) (fun t ht => Nat.le_trans (tupleText_mem_le ht) zz)
    have rd : Reads h₀ (.ref a) (.tuple xs) _ := .tuple h1 h2 h3 h4
    have no : a ∉ bs := not_mem_of_deeper rd (by rw [PyData.depth]; omega) hb
    refine ⟨a :: bs, .cons rd (by rw [PyData.depth]; omega) hb, ?_⟩
    rw [PyData.depth, PyData.shown]
    exact ReprK.tuple h1 h2 h3 no hk
  | _, _, _, .dict _ _ _ _ _, hs, _ => by simp [wideD] at hs
theorem reprAllK_of (hd : Digits h₀) : ∀ {vs : List Value} {ds : List PyData} {as : List Addr}, ReadsAll h₀ vs ds as → wideDs ds = true → (∀ t ∈ PyData.shownAll ds, t.length ≤ sizeLine) →
    ∃ bs, ReadAtMost h₀ (PyData.depthAll ds) bs ∧ ReprAllK prog w bs h₀ (PyData.depthAll ds) vs (PyData.shownAll ds)
  | _, _, _, .nil, _, _ => ⟨[], (fun _ q => nomatch q), by rw [PyData.shownAll]; exact .nil⟩
  | _, _, _, .cons (d := d) (ds := ds) r rs, hs, hz => by
    have hs' := Bool.and_eq_true_iff.mp (show (wideD d && wideDs ds) = true by simpa [wideDs] using hs)
    obtain ⟨b1, hb1, k1⟩ := reprK_of hd r hs'.1 (hz _ (by rw [PyData.shownAll]; exact List.mem_cons_self))
    obtain ⟨b2, hb2, k2⟩ := reprAllK_of hd rs hs'.2 (fun t ht => hz t (by rw [PyData.shownAll]; exact List.mem_cons_of_mem _ ht))
    rw [PyData.depthAll, PyData.shownAll]
    exact ⟨b1 ++ b2, (hb1.mono (Nat.le_max_left _ _)).append (hb2.mono (Nat.le_max_right _ _)), .cons ((k1.more fun b z => List.mem_append_left _ z).level_le (Nat.le_max_left _ _)) (k2.more_le (fun b z => List.mem_append_right _ z) (Nat.le_max_right _ _))⟩
end
variable {A : Around} {E : Value → Shared → Prop} {s : Shared} {Q : Value → Shared → Prop} {a : Addr} {d : PyData} {as : List Addr}
theorem repr_ref (hd : Digits s.heap) (r : Reads s.heap (.ref a) d as) (hs : wideD d = true) (hz : d.shown.length ≤ sizeLine) (hg : A.guards = some []) (hu : A.units + (d.depth + 1) < cLine)
    (hQ : ∀ h' u tk, (∀ b o, s.heap.get? b = some o → h'.get? b = some o) → Q (.str d.shown u) { s with heap := h', toks := tk }) : wpAny (model prog w) A (call (.builtin "repr") [.ref a]) Q E s := by
  cases r with
  | list h1 h2 h3 h4 =>
    rename_i o vs n xs bs0
    have zz : (listText (PyData.shownAll xs)).length ≤ sizeLine := by rw [PyData.shown] at hz; exact hz
    obtain ⟨bs, hb, hk⟩ := reprAllK_of hd h4 (by simpa [wideD] using hs) (fun t ht => Nat.le_trans (listText_mem_le ht) zz)
    have no : a ∉ bs := not_mem_of_deeper (.list h1 h2 h3 h4) (by rw [PyData.depth]; omega) hb
    rw [PyData.depth] at hu
    rw [PyData.shown] at hQ
    refine call_repr_slot (by omega) ⟨o, h1, h2⟩ F.slot_list_repr.toG ?_
    obtain ⟨l⟩ := vs
    cases l with
    | nil =>
      have h5 : ReadsAll s.heap [] xs _ := h4
      cases h5
      rw [PyData.shownAll, listText_nil] at hQ
      exact call_list_repr_empty ⟨o, h1, h2⟩ h1 h3 ⟨_, _, rfl, hQ s.heap _ _ fun _ _ q => q⟩
    | cons x l =>
      exact call_list_reprK h1 h2 h3 no (by simpa using hk.length_eq) (fun i y q => hk.item i y (by simpa using q)) hg (fun b _ => Clear.nil b) (by show A.units + 1 + _ < cLine; omega) (fun _ _ q => q) (fun h' u tk q => ⟨_, _, rfl, hQ h' u tk q⟩) zz
  | tuple h1 h2 h3 h4 =>
    rename_i o vs n xs
    have zz : (tupleText (PyData.shownAll xs)).length ≤ sizeLine := by rw [PyData.shown] at hz; exact hz
    obtain ⟨bs, hb, hk⟩ := reprAllK_of hd h4 (by simpa [wideD] using hs) (fun t ht => Nat.le_trans (tupleText_mem_le ht) zz)
    have no : a ∉ bs := not_mem_of_deeper (.tuple h1 h2 h3 h4) (by rw [PyData.depth]; omega) hb
    rw [PyData.depth] at hu
    rw [PyData.shown] at hQ
    refine call_repr_slot (by omega) ⟨o, h1, h2⟩ F.slot_tuple_repr ?_
    exact call_tuple_reprK h1 h2 h3 no hk hg (fun b _ => Clear.nil b) (by show A.units + 1 + _ < cLine; omega) (fun _ _ q => q) (fun h' u tk q => ⟨_, _, rfl, hQ h' u tk q⟩) zz
  | dict => simp [wideD] at hs
end
end DMr
end part_DMj
section part_DMend
/-! The law's end over such defs. -/
namespace DM
open L2 PyProof.Rows PySem.Spec PySem
section
variable {P : Program} {w : World} {K : PySem.W.Frag} {mg mb : Str → Option Value} {k : Nat} {fa a : Addr} {fd : FuncData} {x : Str} {sp : Sp} {s₁ : Shared} {vs : List Value} {ns : List Int}
/-- how the law's call ends -/
def LawOk (s₁ : Shared) (r : Result) (s' : Shared) : Prop := r = .ok (.ret (.bool true)) ∧ OldK s₁.heap s'.heap ∧ s'.os = s₁.os ∧ AllBare s'.gens
/-- from an abstract heap H in which the script alone may stand -/
theorem lawG_at (KX : K.In s₁.heap) (hns : s₁.heap.Ns mainGlobals mg) (hb : s₁.heap.Ns builtinsNs mb) (hbb : ∀ x : Str, x ≠ "__name__" → mb x = bootBuiltins x) (hlim : s₁.heap.NoLimit) (hg : s₁.gens = #[])
    (ha : s₁.heap.get? a = some { cls := .type "list", data := .seq vs.toArray }) (hr : Room k callerA) (F : ∀ base : Heap, K.In base → base.Ns mainGlobals mg → FnG P w K mg base L2.CX0 k fa fd [x] sp) (hbind : ∀ (s : Shared) (u : Value), BindsTo s fd ⟨[u], []⟩ [(x, u)])
    (H : Hp) (hO : Only H) (hok : HOk P w H s₁.heap) (hA : ∀ b, H b ≠ none → b = a) (hK : H a ≠ none → K.lookup a = none) (hsp : sp [.ref a] H (fun v _ => v = .bl true) fun _ _ _ => False) : codeAny (model P w) callerA (.call (.ref fa) ⟨[.ref a], []⟩) (LawOk s₁) s₁ := by
  have at_a : ∀ {b : Addr} {u : HO}, H b = some u → b = a := fun {b u} q => hA b (by rw [q]; exact Option.some_ne_none u)
  have dict_free : ∀ {b : Addr} {o : Obj} {es : Array DictEntry} {ep : Nat}, s₁.heap.get? b = some o → o.data = .dict es ep → H b = none := fun {b o es ep} e d => by
    match q : H b with
    | none => rfl
    | some u =>
      rw [at_a q, ha] at e
      cases e
      exact nomatch (show Data.seq vs.toArray _ = Data.dict es ep from d)
  have ns_of : ∀ {b : Addr} {m : Str → Option Value}, s₁.heap.Ns b m → (hidT s₁.heap H).Ns b m := fun {b m} ⟨o, es, ep, e, d, r⟩ => ⟨o, es, ep, hidT_get e (dict_free e d), d, r⟩
  have K_in : K.In (hidT s₁.heap H) := fun b o e => hidT_get (KX b o e) (by
    match q : H b with
    | none => rfl
    | some u =>
      have z := at_a q
      subst z
      rw [hK (by rw [q]; exact Option.some_ne_none u)] at e
      cases e)
  obtain ⟨mc, l1, l2⟩ := hlim
  have e0 : Env0 P w K mg (hidT s₁.heap H) callerA [] s₁ H := ⟨rfl, ⟨K_in, ns_of hns, ⟨mb, ns_of hb, hbb⟩, ⟨mc, ns_of l1, l2⟩⟩, fun b o e => of_hidT e, Nat.le_of_eq (hidT_size _ _), trivial, (fun b z => nomatch z), hok, .of_eq hg⟩
  refine codeAny_mono ((F _ K_in (ns_of hns)).runG callerA [] s₁ H ⟨[.ref a], []⟩ [.ref a] [.ref a] _ _ hr rfl e0 (hbind s₁ (.ref a)) (.cons rfl .nil) hsp) fun res s' z => ?_
  match res, z with
  | .error e, z => exact z.elim
  | .ok .next, z => exact z.elim
  | .ok .brk, z => exact z.elim
  | .ok .cont, z => exact z.elim
  | .ok (.ret u), ⟨v, H', os, bare, un, hok', rv, q⟩ =>
    cases (show v = .bl true from q)
    cases (show u = Value.bool true from rv)
    refine ⟨rfl, OldK.of_keep fun b o e => ?_, os, bare⟩
    match q : H b with
    | none => exact un.keep b o e q (fun z => nomatch z) (fun z => nomatch z)
    | some u =>
      rcases hO b with z | ⟨ob, xs, z⟩
      · rw [z] at q
        cases q
      · have o1 := (hok b _ z).1
        have o2 := (hok' b _ (un.frzs b ob _ z)).1
        rw [e] at o1
        cases o1
        exact o2
theorem lawG (KX : K.In s₁.heap) (hns : s₁.heap.Ns mainGlobals mg) (hb : s₁.heap.Ns builtinsNs mb) (hbb : ∀ x : Str, x ≠ "__name__" → mb x = bootBuiltins x) (hlim : s₁.heap.NoLimit) (hg : s₁.gens = #[])
    (ha : s₁.heap.get? a = some { cls := .type "list", data := .seq vs.toArray }) (hi : IntsAre vs ns) (hl : ns.length ≤ sizeLine) (hr : Room k callerA) (F : ∀ base : Heap, K.In base → base.Ns mainGlobals mg → FnG P w K mg base L2.CX0 k fa fd [x] sp) (hbind : ∀ (s : Shared) (u : Value), BindsTo s fd ⟨[u], []⟩ [(x, u)])
    (hsp : ∀ H : Hp, SqL K H a (ns.map V.int) → sp [.ref a] H (fun v _ => v = .bl true) fun _ _ _ => False) : codeAny (model P w) callerA (.call (.ref fa) ⟨[.ref a], []⟩) (LawOk s₁) s₁ := by
  have rv := vals_ints hi
  match hk : K.lookup a with
  | some o =>
    have e := KX a o hk
    rw [ha] at e
    cases e
    refine lawG_at KX hns hb hbb hlim hg ha hr F hbind (fun _ => none) (fun _ => .inl rfl) (fun b u z => nomatch (show (none : Option HO) = some u from z)) (fun b z => absurd rfl z) (fun z => absurd rfl z) (hsp _ (.inr ⟨_, vs.toArray, _, hk, rfl, rfl, rfl, ?_, by simpa using rv⟩))
    rw [List.size_toArray, hi.length]
    exact hl
  | none =>
    let ob : Obj := { cls := .type "list", data := .seq vs.toArray }
    let H : Hp := fun b => if b = a then some (.frz ob (.lst (ns.map V.int))) else none
    have Ha : H a = some (.frz ob (.lst (ns.map V.int))) := if_pos rfl
    have Hn : ∀ b, b ≠ a → H b = none := fun b z => if_neg z
    refine lawG_at KX hns hb hbb hlim hg ha hr F hbind H (fun b => ?_) (fun b u z => ?_) (fun b z => ?_) (fun _ => hk) (hsp H (.inl (.inr ⟨ob, Ha⟩)))
    · by_cases q : b = a
      · exact .inr ⟨ob, _, by rw [q]; exact Ha⟩
      · exact .inl (Hn b q)
    · by_cases q : b = a
      · subst q
        rw [Ha] at z
        cases z
        exact ⟨ha, by rw [List.length_map]; exact hl, vs, _, rv, ha⟩
      · rw [Hn b q] at z
        cases z
    · by_cases q : b = a
      · exact q
      · exact absurd (Hn b q) z
end
/-- the walk's end, from the law's own promise -/
theorem walkG {l : PySem.W.OpenLaw} {n k : Nat} {q : Program} {loose : List Str} {XP : (Str → Option Value) → Heap → Prop} {YP : World → Heap → Prop} {d : DefRec} {x : Str} (hn : l.most = some n) (hn2 : n ≤ sizeLine) (hdf : d.params.defaults = []) (hr : Room k callerA)
    (F : ∀ (w : World) (mg : Str → Option Value) (fa : Addr) (h : Heap), YP w h → h.Ns mainGlobals mg → mg d.name = some (.ref fa) →
      ∃ (K : PySem.W.Frag) (fd : FuncData) (sp : Sp), K.In h ∧ (∀ (s : Shared) (u : Value), BindsTo s fd ⟨[u], []⟩ [(x, u)]) ∧ (∀ (H : Hp) (a : Addr) (ns : List Int), ns.length ≤ n → SqL K H a (ns.map V.int) → sp [.ref a] H (fun v _ => v = .bl true) fun _ _ _ => False) ∧
        ∀ base : Heap, K.In base → base.Ns mainGlobals mg → FnG l.prog w K mg base L2.CX0 k fa fd [x] sp) : PySem.W.WalkO q loose XP YP l.row.toRowW d [] (fun f vs => PySem.call f vs) := by
  refine Att.attach_call hn hdf fun w s₀ s₁ mg mb fa o pm cd doc a vs ns G Y ho hd hcd hmg hobj hints hlen hg => ?_
  obtain ⟨K, fd, sp, KX, hb, hsp, hF⟩ := F w mg fa _ Y G.T.g hmg
  exact lawG KX G.T.g G.T.b G.T.builtins G.T.nolimit hg hobj hints (Nat.le_trans hlen hn2) hr hF hb fun H hS => hsp H a ns hlen hS
end DM
end part_DMend
section part_DMk
namespace DM
open L2 PyProof.Rows PySem.Spec PySem DMr
theorem digits_of {K : PySem.W.Frag} {h : Heap} (X : K.In h) (hl : h.NoLimit) (e : PySem.W.nsIn K cStatics "sys.int_max_str_digits" = some none) : Digits h := by
  obtain ⟨mc, hn, _⟩ := hl
  refine ⟨mc, hn, ?_⟩
  obtain ⟨ob, es, ep, ho, hd, _, hf⟩ := hn
  unfold PySem.W.nsIn at e
  split at e
  · rename_i q
    have z := X _ _ q
    rw [ho] at z
    cases z
    cases hd
    split at e
    · cases e
    · rename_i q2
      rw [← hf]
      unfold nsFind findBy
      rw [← Array.find?_toList, q2]
      rfl
  · cases e
/-! ### how long a text is -/
mutual
def nodes : PyData → Nat
  | .list xs => nodesAll xs + 1
  | .tuple xs => nodesAll xs + 1
  | .dict _ => 0
  | _ => 1
def nodesAll : List PyData → Nat
  | [] => 0
  | x :: xs => nodes x + nodesAll xs
end
mutual
/-- strings of up to 1,000 bytes as shown -/
def shortD : PyData → Bool
  | .str x => decide ((reprText x).length ≤ 12000)
  | .list xs => shortDs xs
  | .tuple xs => shortDs xs
  | .dict _ => false
  | _ => true
def shortDs : List PyData → Bool
  | [] => true
  | x :: xs => shortD x && shortDs xs
end
theorem listText_len (ts : List Str) : (listText ts).length ≤ piled ts + 2 := by
  cases ts with
  | nil =>
    have : (listText []).length = 2 := by rw [listText_nil]; rfl
    rw [this]; exact Nat.le_add_left _ _
  | cons t r =>
    have hX : (listText (t :: r)).length = (textFrom 0 "[" (t :: r)).length + 1 := by
      show (textFrom 0 "[" (t :: r) ++ "]").length = _
      rw [strLen_append]; rfl
    have h2 := textFrom_length_pos r 1 (("[" : Str) ++ (if (0 : Nat) > 0 then ", " else "" : String) ++ t) (Nat.succ_pos 0)
    have hY : (textFrom 0 "[" (t :: r)).length = (textFrom 1 (("[" : Str) ++ (if (0 : Nat) > 0 then ", " else "" : String) ++ t) r).length := rfl
    have e : ((("[" : Str) ++ (if (0 : Nat) > 0 then ", " else "" : String) ++ t)).length = 1 + t.length := by
      rw [strLen_append, strLen_append]; rfl
    rw [hX, hY, h2, e, piled_cons]
    omega
theorem tupleText_len (ts : List Str) : (tupleText ts).length ≤ piled ts + 3 := by
  unfold tupleText
  rw [strLen_append, strLen_append]
  have e1 : ((("(" : String) : Str)).length = 1 := rfl
  have e3 : (((if ts.length == 1 then ",)" else ")" : String) : Str)).length ≤ 2 := by split <;> decide
  by_cases h : ts = []
  · subst h
    have : (Str.join ", " ([] : List Str)).length = 0 := rfl
    rw [this, e1]
    omega
  · have := join_length_add ts h
    rw [e1]
    omega
mutual
theorem shown_len : ∀ {d : PyData}, wideD d = true → shortD d = true → d.shown.length + 2 ≤ 13000 * nodes d
  | .none, _, _ => by
    have : (PyData.shown .none).length = 4 := by rw [PyData.shown]; rfl
    rw [this]; show 6 ≤ 13000 * 1; omega
  | .bool b, _, _ => by
    have : (PyData.shown (.bool b)).length ≤ 5 := by rw [PyData.shown]; cases b <;> decide
    show _ ≤ 13000 * 1; omega
  | .int i, h, _ => by
    have h1 : i.natAbs.log2 < 12900 := by simpa [wideD] using h
    have := int_text_wide h1
    rw [PyData.shown]
    show _ ≤ 13000 * 1; omega
  | .str x, _, h => by
    have h1 : (reprText x).length ≤ 12000 := by simpa [shortD] using h
    rw [PyData.shown]
    show _ ≤ 13000 * 1; omega
  | .list xs, h, g => by
    have z := shown_lens (xs := xs) (by simpa [wideD] using h) (by simpa [shortD] using g)
    have y := listText_len (PyData.shownAll xs)
    rw [PyData.shown, nodes]
    omega
  | .tuple xs, h, g => by
    have z := shown_lens (xs := xs) (by simpa [wideD] using h) (by simpa [shortD] using g)
    have y := tupleText_len (PyData.shownAll xs)
    rw [PyData.shown, nodes]
    omega
  | .dict _, h, _ => by simp [wideD] at h
theorem shown_lens : ∀ {xs : List PyData}, wideDs xs = true → shortDs xs = true → piled (PyData.shownAll xs) ≤ 13000 * nodesAll xs
  | [], _, _ => by rw [PyData.shownAll, piled_nil, nodesAll]; exact Nat.zero_le _
  | x :: xs, h, g => by
    have h1 := Bool.and_eq_true_iff.mp (show (wideD x && wideDs xs) = true by simpa [wideDs] using h)
    have g1 := Bool.and_eq_true_iff.mp (show (shortD x && shortDs xs) = true by simpa [shortDs] using g)
    have a := shown_len h1.1 g1.1
    have b := shown_lens h1.2 g1.2
    rw [PyData.shownAll, piled_cons, nodesAll]
    omega
end
mutual
theorem flat_of_wide : ∀ {d : PyData}, wideD d = true → flatD d = true
  | .none, _ => by simp [flatD]
  | .bool _, _ => by simp [flatD]
  | .int _, _ => by simp [flatD]
  | .str _, _ => by simp [flatD]
  | .list xs, h => by
    have := flats_of_wide (xs := xs) (by simpa [wideD] using h)
    simpa [flatD] using this
  | .tuple xs, h => by
    have := flats_of_wide (xs := xs) (by simpa [wideD] using h)
    simpa [flatD] using this
  | .dict _, h => by simp [wideD] at h
theorem flats_of_wide : ∀ {xs : List PyData}, wideDs xs = true → flatDs xs = true
  | [], _ => by simp [flatDs]
  | x :: xs, h => by
    have h1 := Bool.and_eq_true_iff.mp (show (wideD x && wideDs xs) = true by simpa [wideDs] using h)
    simp [flatDs, flat_of_wide h1.1, flats_of_wide h1.2]
end
/-- what repr asks of data -/
structure Shows (d : PyData) : Prop where
  wide : wideD d = true
  short : shortD d = true
  few : nodes d ≤ 1200
  flat : d.depth ≤ 64
theorem Shows.fits {d : PyData} (h : Shows d) : d.shown.length ≤ sizeLine := by
  have h1 := shown_len h.wide h.short
  have h2 := h.few
  have : 13000 * nodes d ≤ 13000 * 1200 := Nat.mul_le_mul_left _ h2
  rw [sizeLine_eq]
  omega
section
variable {X : Cx} {d : PyData}
theorem cv_repr (hd : PySem.W.nsIn X.K cStatics "sys.int_max_str_digits" = some none) (hr : X.A.units + 100 < cLine) (hg : X.A.guards = some []) (h : Shows d) : CV X (.builtin "repr") [d] (.str d.shown) := by
  intro pins s σ H vs us Q I r ⟨G, e, p, q⟩
  obtain ⟨v, rfl, pv⟩ := daAll_one p
  obtain ⟨u, rfl, ru⟩ := r.one
  have dig : Digits s.heap := digits_of I.kIn I.nolimit hd
  have hfl := h.flat
  have dp := dp_of e pv (flat_of_wide h.wide)
  obtain ⟨as, rd⟩ := Dp.reads I d v u dp ru
  have fin : ∀ (h' : Heap) (t : Tok) (tk : Nat), (∀ b o, s.heap.get? b = some o → h'.get? b = some o) → EP X pins σ Q (.str d.shown t) { s with heap := h', toks := tk } := fun h' t tk k =>
    ⟨.str d.shown, H, I.kept k, ⟨t, rfl⟩, q _ H G (Ex.refl H) (Ext.refl H G) e (.str _)⟩
  cases pv with
  | non =>
    cases (show u = Value.none from ru)
    exact PySem.P.repr_of_none (fin s.heap _ _ fun _ _ z => z)
  | bl b =>
    cases (show u = Value.bool b from ru)
    exact PySem.P.repr_of_bool (fin s.heap _ _ fun _ _ z => z)
  | int i =>
    obtain ⟨t, hu⟩ := (show ∃ t, u = Value.int i t from ru)
    subst hu
    have h1 : i.natAbs.log2 < 12900 := by simpa [wideD] using h.wide
    refine call_repr_slot (by omega) (typeIs_int s i t) F.slot_int_repr.toG (call_meets F.slot_int_repr (typeIs_int s i t) F.entry_int_repr (F.args_int_repr_1 _) meets_intRepr ⟨dig, h1, _, _, rfl, ?_⟩)
    exact fin s.heap _ _ fun _ _ z => z
  | str x =>
    obtain ⟨t, hu⟩ := (show ∃ t, u = Value.str x t from ru)
    subst hu
    exact PySem.P.repr_of_str (fin s.heap _ _ fun _ _ z => z) (by have := h.fits; rw [PyData.shown] at this; exact this)
  | lst h1 h2 =>
    cases (show u = Value.ref _ from ru)
    exact repr_ref dig rd h.wide h.fits hg (by omega) fun h' t tk k => fin h' t tk k
  | tup h1 h2 =>
    cases (show u = Value.ref _ from ru)
    exact repr_ref dig rd h.wide h.fits hg (by omega) fun h' t tk k => fin h' t tk k
  | dct h1 h2 => exact absurd h.wide (by simp [wideD])
/-- a class's name as an argument: isinstance(x, tuple) -/
def tyOf : PyData → String
  | .none => "NoneType"
  | .bool _ => "bool"
  | .int _ => "int"
  | .str _ => "str"
  | .list _ => "list"
  | .tuple _ => "tuple"
  | .dict _ => "dict"
theorem tyX_of {K : PySem.W.Frag} {G H : Hp} {v : V} {d : PyData} (e : Ex G H) (h : Da K G v d) : TyX K H v (.type (tyOf d)) := by
  cases h with
  | non => exact .base .non
  | bl b => exact .base (.bl b)
  | int i => exact .base (.int i)
  | str x => exact .base (.str x)
  | lst h1 h2 => exact .base (.lst (e _ _ h1))
  | tup h1 h2 =>
    rcases h1 with (h1 | ⟨o, h1⟩) | ⟨o, its, n, h1, h3, _⟩
    · exact .base (.tup (e _ _ h1))
    · exact .fTuple (e _ _ h1)
    · exact .kTuple h1 h3
  | dct h1 h2 => exact .base (.dK (e _ _ h1))
variable {e : Expr} {ρ ρ1 : List Sl} {pos pn p2 : Pos} {T : String} {b : Bool}
/-- isinstance(e, T), T a built-in class -/
theorem e_isi [Tabl] {y : Str} (h : E X e ρ d ρ1) (hm : X.mg "isinstance" = none) (hy : X.mg y = none) (hk : kitB (tyOf d) T = some b := by decide +kernel) (hv : bootBuiltins y = some (.type T) := by decide +kernel) (hg : Gl X "isinstance" := by rfl) (hgy : Gl X y := by rfl) (hny : y ≠ "__name__" := by decide) (hdy : (y == ("__debug__" : Str)) = false := by decide)
    (hs1 : starEach [.Name y p2] X.env = (false, eval (.Name y p2) X.env) :: starEach [] X.env := by rfl) (he : starEach [e, .Name y p2] X.env = (false, eval e X.env) :: starEach [.Name y p2] X.env := by rfl) (hpl : (backTo pos (starEach [.Name y p2] X.env)).any (·.1) = false := by rfl) :
    E X (.Call (.Name "isinstance" pn) [e, .Name y p2] [] pos) ρ (.bool b) ρ1 :=
  pe_imp (pe_callB call_isi hg hm (by decide +kernel) (pa_cons h (pa_cons (pe_bltn (v := .ty T) hgy hy hv rfl hny hdy) pa_nil hs1) he) (by decide) (by decide) he hpl) fun σ H Q ⟨F, G, ad, w, k⟩ => ⟨F, G, ad, w, fun v H1 G1 ad1 e1 w1 p1 =>
    ⟨v, .ty T, _, _, b, rfl, .ty T, tyX_of w1.gh p1, kit_ty hk, k _ H1 G1 ad1 e1 w1 (.bl b)⟩⟩
end
end DM
end part_DMk
section part_DMl
namespace DM
open L2 PyProof.Rows PySem.Spec PySem
section
variable {X : Cx} {e a b c tg it l elt : Expr} {rest ifs : List Expr} {ρ ρ0 ρ1 ρ2 ρ3 : List Sl} {d d1 d2 d3 : PyData} {ds es ys rs : List PyData} {x y : Str} {pos pn p0 p2 : Pos} {p q : Bool} {i j : Int}
theorem ov_pow (h : CPow i j) : OpV X (binaryOp .Pow) (.int i) (.int j) (.int (i ^ j.toNat)) := ov_rI op_pow (fun _ _ _ => .int _) h
/-- len(x), x a list of one's own -/
theorem e_lenO [Tabl] (k : Nat) (hm : X.mg "len" = none) (h : ρ[k]? = some (.own ds) := by rfl) (hg : Gl X "len" := by rfl) (hN : X.N[k]? = some x := by rfl) (hv : Vis X.env.scope x := by first | exact Or.inl rfl | exact Or.inr (Or.inl rfl) | exact Or.inr (Or.inr rfl))
    (hd : (x == ("__debug__" : Str)) = false := by decide) (hcd : (x == ("__classdict__" : Str)) = false := by decide) (he : starEach [.Name x p2] X.env = (false, eval (.Name x p2) X.env) :: starEach [] X.env := by rfl) (hpl : (backTo pos (starEach [] X.env)).any (·.1) = false := by rfl) :
    E X (.Call (.Name "len" pn) [.Name x p2] [] pos) ρ (.int (ds.length : Int)) ρ :=
  pe_imp (pe_callB call_len_seq hg hm (by decide +kernel) (pa_cons (pe_var hN hv hd hcd) pa_nil he) (by decide) (by decide) he hpl) fun σ H Q ⟨F, G, ad, w, k⟩ => by
    obtain ⟨l, xs, h1, h2, h3, h4⟩ := w.own_at h
    exact ⟨_, h1, _, _, rfl, .inl (SqL.of h2), by rw [daAll_len h3]; exact k _ H G ad (Ext.refl F G) w (.int _)⟩
/-! ### slices with bounds that are not negative -/
def cP [Tabl] (K : PySem.W.Frag) (ρ : List Sl) (o : Option Int) (ρ' : List Sl) : TO := fun σ H Q => ∃ F G ad, Sta K F G H σ ρ ad ∧ ∀ H' G' ad', Ext F G G' → Sta K F G' H' σ ρ' ad' → Q o H'
def PoD [Tabl] (X : Cx) (o : Option Expr) (ρ : List Sl) (v : Option Int) (ρ' : List Sl) : Prop := PO X o (cP X.K ρ v ρ')
theorem po_imp {o : Option Expr} {t t' : TO} (h : PO X o t) (k : ∀ σ H Q, t' σ H Q → t σ H Q) : PO X o t' := ⟨fun pins s σ H Q I q => h.run pins s σ H Q I (k σ H Q q)⟩
theorem pd_none [Tabl] : PoD X none ρ none ρ := po_imp po_none fun σ H Q ⟨F, G, ad, w, k⟩ => k H G ad (Ext.refl F G) w
theorem pd_some [Tabl] (h : E X e ρ (.int i) ρ1) : PoD X (some e) ρ (some i) ρ1 := po_imp (po_some h) fun σ H Q ⟨F, G, ad, w, k⟩ => ⟨F, G, ad, w, fun v H1 G1 ad1 e1 w1 p1 => by
  cases p1
  exact ⟨i, rfl, k H1 G1 ad1 e1 w1⟩⟩
def cutD (ds : List PyData) (lo hi : Option Int) : List PyData := (ds.drop (HT.sIx ds.length 0 lo)).take (HT.sIx ds.length ds.length hi - HT.sIx ds.length 0 lo)
theorem cutD_to (ds : List PyData) (k : Nat) : cutD ds none (some (k : Int)) = ds.take k := by
  unfold cutD
  rw [HT.sIx_none, HT.sIx_nat, List.drop_zero, Nat.sub_zero]
  by_cases h : k ≤ ds.length
  · rw [Nat.min_eq_left h]
  · rw [Nat.min_eq_right (by omega), List.take_length, List.take_of_length_le (by omega)]
theorem cutD_from (ds : List PyData) (k : Nat) : cutD ds (some (k : Int)) none = ds.drop k := by
  unfold cutD
  rw [HT.sIx_none, HT.sIx_nat]
  by_cases h : k ≤ ds.length
  · rw [Nat.min_eq_left h, List.take_of_length_le (by rw [List.length_drop]; exact Nat.le_refl _)]
  · rw [Nat.min_eq_right (by omega), List.drop_of_length_le (Nat.le_refl _), List.drop_of_length_le (by omega), List.take_nil]
theorem daAll_cut {K : PySem.W.Frag} {H : Hp} {xs : List V} (lo hi : Option Int) (h : DaAll K H xs ds) : DaAll K H (cutV xs lo hi) (cutD ds lo hi) := by
  unfold cutV cutD
  rw [daAll_len h]
  exact daAll_take _ (daAll_drop _ h)
theorem eo_slice [Tabl] {lo hi : Option Expr} {u v : Option Int} (he : E X e ρ (.list ds) ρ1) (hl : PoD X lo ρ1 u ρ2) (hh : PoD X hi ρ2 v ρ3) : EO X (.Subscript e (.Slice lo hi none p2) pos) ρ (cutD ds u v) ρ3 :=
  pe_imp (pe_slice sl_list he hl hh) fun σ H Q ⟨F, G, ad, w, k⟩ => ⟨F, G, ad, w, fun x H1 G1 ad1 e1 w1 p1 => ⟨F, G1, ad1, w1, fun H2 G2 ad2 e2 w2 => ⟨F, G2, ad2, w2, fun H3 G3 ad3 e3 w3 => by
    cases p1 with
    | lst h1 h2 =>
      refine ⟨_, _, rfl, SqL.of (w3.gh _ _ (e3.1 _ _ (e2.1 _ _ h1))), fun l hl => ?_⟩
      have hg := w3.gh.none hl
      refine k l _ _ G3 ad3 ((e1.trans e2).trans e3) (w3.grow (Ex.new hl) (Ext.refl _ _) (w3.gh.mut hg)) (w3.fh.none hl) hg (fun j q => ?_) upd_same (daAll_cut u v (daAll_ex (e2.trans e3).1 h2))
      obtain ⟨o, ho⟩ := w3.there j l q
      rw [hl] at ho; cases ho⟩⟩⟩
/-! ### a module's constant -/
structure Const (X : Cx) (x : Str) (d : PyData) : Prop where
  ex : ∃ v u, X.mg x = some u ∧ RelV v u ∧ ∀ G, Da X.K G v d
theorem e_glob [Tabl] (h : Const X x d) (hg : Gl X x := by rfl) (hd : (x == ("__debug__" : Str)) = false := by decide) : E X (.Name x pos) ρ d ρ := by
  obtain ⟨v, u, h1, h2, h3⟩ := h.ex
  exact pe_imp (pe_glob hg h1 h2 hd) fun σ H Q ⟨F, G, ad, w, k⟩ => k v H G ad (Ext.refl F G) w (h3 G)
/-- an own def without arguments but the source: f(source) is e_callS with no more arguments -/
theorem e_isi2 [Tabl] {T1 : String} (h : E X e ρ d ρ1) (hm : X.mg "isinstance" = none) (hy : X.mg y = none) {r : Bool} (hk : kitB (tyOf d) T1 = some r) (hv : bootBuiltins y = some (.type T1) := by decide +kernel) (hg : Gl X "isinstance" := by rfl) (hgy : Gl X y := by rfl) (hny : y ≠ "__name__" := by decide) (hdy : (y == ("__debug__" : Str)) = false := by decide)
    (hs1 : starEach [.Name y p2] X.env = (false, eval (.Name y p2) X.env) :: starEach [] X.env := by rfl) (he : starEach [e, .Name y p2] X.env = (false, eval e X.env) :: starEach [.Name y p2] X.env := by rfl) (hpl : (backTo pos (starEach [.Name y p2] X.env)).any (·.1) = false := by rfl) :
    E X (.Call (.Name "isinstance" pn) [e, .Name y p2] [] pos) ρ (.bool r) ρ1 := e_isi h hm hy hk hv hg hgy hny hdy hs1 he hpl
end
/-! ### parts of a statement -/
def whC : Stmt → Expr
  | .While c _ _ _ => c
  | .For _ i _ _ _ => i
  | _ => .Constant .none 0 ⟨0, 0, 0, 0⟩
def forT : Stmt → Expr
  | .For t _ _ _ _ => t
  | _ => .Constant .none 0 ⟨0, 0, 0, 0⟩
def lpB : Stmt → List Stmt
  | .While _ b _ _ => b
  | .For _ _ b _ _ => b
  | _ => []
def bodyAt (s : Stmt) (i : Nat) : Stmt := (defBody s).getD i (.Pass ⟨0, 0, 0, 0⟩)
/-- the comprehension that a statement hands back or stores -/
def exprOf : Stmt → Expr
  | .Return (some e) _ => e
  | .Assign _ e _ => e
  | .Expr e _ => e
  | _ => .Constant .none 0 ⟨0, 0, 0, 0⟩
def cmT : Expr → Expr
  | .ListComp _ (g :: _) _ _ => g.target
  | _ => .Constant .none 0 ⟨0, 0, 0, 0⟩
def cmI : Expr → List Expr
  | .ListComp _ (g :: _) _ _ => g.ifs
  | _ => []
def cmE : Expr → Expr
  | .ListComp e _ _ _ => e
  | _ => .Constant .none 0 ⟨0, 0, 0, 0⟩
def cmS : Expr → Scope
  | .ListComp _ _ s _ => s
  | _ => { kind := .function, names := [], isGenerator := false, isCoroutine := false }
/-- the i-th argument of a call -/
def argOf (i : Nat) : Expr → Expr
  | .Call _ es _ _ => es.getD i (.Constant .none 0 ⟨0, 0, 0, 0⟩)
  | _ => .Constant .none 0 ⟨0, 0, 0, 0⟩
end DM
end part_DMl
section part_DMm
/-! more leaves -/
namespace DM
open L2 PyProof.Rows PySem.Spec PySem
section
variable {X : Cx} {e a b c tg it l elt : Expr} {rest ifs : List Expr} {ρ ρ0 ρ1 ρ2 ρ3 : List Sl} {d d1 d2 d3 : PyData} {ds es ys rs : List PyData} {x y : Str} {pos pn p0 p2 : Pos} {p q : Bool} {i j : Int}
/-! ### any over a tuple of ints -/
theorem vals_ints {ns : List Int} : ∀ {us : List Value}, Vals (ns.map V.int) us → ∀ (i : Nat) (v : Value), us[i]? = some v → ∃ n t, ns[i]? = some n ∧ v = Value.int n t := by
  induction ns with
  | nil =>
    intro us r i v h
    cases r
    simp at h
  | cons n ns ih =>
    intro us r i v h
    cases r with
    | cons r1 r2 =>
      cases i with
      | zero =>
        obtain ⟨t, e⟩ := r1
        simp at h
        subst h
        exact ⟨n, t, rfl, e⟩
      | succ i => exact ih r2 i v (by simpa using h)
theorem any_ints (ns : List Int) : (List.range ns.length).any (fun i => ns.getD i 0 != 0) = ns.any (· != 0) := by
  induction ns with
  | nil => rfl
  | cons n ns ih =>
    rw [List.length_cons, List.range_succ_eq_map, List.any_cons, List.any_map, List.any_cons, ← ih]
    rfl
theorem cr_anyT (hc : X.calm = true) : CallR X (.builtin "any") (fun vs H Q => ∃ (a : Addr) (ns : List Int), vs = [V.ref a] ∧ SqT X.K H a (ns.map V.int) ∧ Q (.bl (ns.any (· != 0))) H) := by
  intro pins s σ H vs us Q I r h
  obtain ⟨a, ns, rfl, hs, q⟩ := h
  obtain ⟨its, rv, hl, _⟩ := I.tuple hs
  rw [Vals.ref1 r]
  have ht : s.heap.IsTuple a its.toArray := hl
  have lt : a < s.heap.objs.size := by
    obtain ⟨_, e, _⟩ := ht
    exact Heap.lt_size e
  refine call_any_walk (wpAny_pyIter_tuple ht ⟨s.heap.objs.size, _, _, _, _, _, fun i => ns.getD i 0 != 0, rfl, Walks.tuple (A := X.A.in1) (I.ok.hd hc) _ a (Nat.ne_of_lt lt) its.toArray, ⟨⟨_, Heap.get?_push_size _ rfl, rfl, rfl⟩, ht.push _⟩, fun i v s' Q' E' hv hq => ?_, fun h' tk hk => ?_⟩)
  · obtain ⟨n, t, hn, rfl⟩ := vals_ints rv i v (by simpa using hv)
    refine PySem.P.truthy_int ?_
    have e1 : ns.getD i 0 = n := by rw [List.getD_eq_getElem?_getD, hn]; rfl
    have hq2 : Q' (ns.getD i 0 != 0) s' := hq
    rw [e1] at hq2
    exact hq2
  · refine ⟨.bl _, H, I.kept fun b o eo => hk b o (fun hmem => ?_) (Heap.get?_push_of_some _ eo), ?_, q⟩
    · rcases List.mem_cons.mp hmem with e1 | hmem
      · exact absurd (e1 ▸ Heap.lt_size eo) (Nat.lt_irrefl _)
      · cases hmem
    · show Value.bool _ = Value.bool _
      have n1 := rv.length
      rw [List.length_map] at n1
      rw [List.size_toArray, ← n1, any_ints]
theorem cv_anyT {ns : List Int} (hc : X.calm = true) : CV X (.builtin "any") [.tuple (ns.map PyData.int)] (.bool (ns.any (· != 0))) := cv_one (cr_anyT hc) fun v H G Q e p k => by
  cases p with
  | tup h1 h2 =>
    have z := ints_daAll h2
    subst z
    exact ⟨_, ns, rfl, sqT_ex e h1, same_end e k (.bl _)⟩
/-! ### lcm -/
theorem cv_lcm (h1 : i.natAbs.log2 < 13000) (h2 : j.natAbs.log2 < 13000) (h3 : (Nat.lcm i.natAbs j.natAbs).log2 < 100000) : CV X (.builtin "math.lcm") [.int i, .int j] (.int ((Nat.lcm i.natAbs j.natAbs : Nat) : Int)) := by
  intro pins s σ H vs us Q I r ⟨G, e, pd, k⟩
  obtain ⟨v, u, rfl, pv, pu⟩ := daAll_two pd
  cases pv
  cases pu
  obtain ⟨t, u, rfl⟩ := Vals.int2 r
  have l1 : ∀ a b n : Nat, a.log2 < n → b.log2 < n → (max a b).log2 < n := fun a b n g1 g2 => by
    rcases Nat.le_total a b with h | h
    · rw [Nat.max_eq_right h]; exact g2
    · rw [Nat.max_eq_left h]; exact g1
  have m1 := l1 1 i.natAbs 13000 (by decide) h1
  have m2 := l1 _ _ _ h1 h2
  have e1 : (Nat.lcm 1 i.natAbs) = i.natAbs := Nat.lcm_one_left _
  refine call_function_meets PySem.W.MGF.kind_lcm PySem.W.MGF.plain_lcm PySem.W.MGF.entry_lcm (PySem.W.MGF.args_lcm _ _) (PySem.W.mg_run_lcm i t j u (by omega) (by omega) ?_).meets ?_
  · rw [e1, Int.natAbs_natCast]
    have : (100000 : Nat) ≤ bitsLine := by decide +kernel
    omega
  · rw [e1]
    exact ⟨.int _, H, I.tok _, ⟨_, rfl⟩, same_end e k (.int _)⟩
/-! ### max of a list -/
theorem cv_maxL {ns : List Int} {m : Int} (hc : X.calm = true) (h : m ∈ ns) (hm : ∀ y ∈ ns, y ≤ m) : CV X (.builtin "max") [.list (ns.map PyData.int)] (.int m) := cv_one (cr_max hc) fun v H G Q e p k => by
  cases p with
  | lst h1 h2 =>
    have z := ints_daAll h2
    subst z
    refine ⟨_, ns, rfl, SqL.of (e _ _ h1), List.length_pos_of_mem h, fun m' g1 g2 => ?_⟩
    have : m' = m := by
      have := hm m' g1
      have := g2 m h
      omega
    subst this
    exact same_end e k (.int _)
/-! ### x += e -/
theorem s_aug [Tabl] (k : Nat) {npos : Pos} (h : E X e ρ (.int j) ρ1) (hN : X.N.Nodup) (hk : ρ[k]? = some (.dat (.int i)) := by rfl) (hi : X.N[k]? = some x := by rfl) (hx : Loc X.env.scope x := by first | exact Or.inl rfl | exact Or.inr rfl) (hl : k < ρ1.length := by exact Nat.le_of_ble_eq_true rfl)
    (hf : X.fn x = true ∨ X.env.scope.names.lookup x = some .local := by first | exact .inl rfl | exact .inr rfl) : S1 X (.AugAssign (.Name x npos) .Add e pos) ρ (.nx (ρ1.set k (.dat (.int (i + j))))) :=
  ps_imp (ps_aug hN hi hx h iop_add hf) fun D σ H ⟨F, G, ad, w, q⟩ => by
    obtain ⟨v, hv, pv⟩ := w.dat hk
    cases pv
    refine ⟨_, hv, F, G, ad, w, fun u H1 G1 ad1 e1 w1 p1 => ?_⟩
    cases p1
    exact ⟨i, j, rfl, rfl, q _ H1 G1 _ e1 (w1.set (.int _) hl)⟩
/-! ### tuple * 0, tuple * 1 -/
theorem mul_one (l : Addr) (items : Array Value) (n : Nat) (dd : Option Addr) (sl : Array (Option Value)) (u : Tok) :
    Meets (Builtin.«tuple.__mul__» ⟨[.ref l, .int 1 u], []⟩) (fun _ R s => s.heap.get? l = some { cls := .type "tuple", dict := dd, data := .seq items n, slots := sl } ∧ R (.ok (.ret (.ref l))) s) :=
  .of_wp fun prog w A R s h => by
    obtain ⟨hp, g, d, tk, os⟩ := s
    obtain ⟨hl, h⟩ := h
    have f1 := AutoSeq1.idx_int
    wp_walk using wpAny_loadPart' hl
    repeat (first
      | (refine wpAny_ite_false (by decide) ?_; wp_walk using wpAny_loadPart' hl)
      | (refine wpAny_ite_true (by simp) ?_; wp_walk using wpAny_loadPart' hl))
    exact ⟨_, rfl, h⟩
theorem mul_nil (l : Addr) (items : Array Value) (n : Nat) (dd : Option Addr) (sl : Array (Option Value)) (u : Tok) (c : items.isEmpty = false) :
    Meets (Builtin.«tuple.__mul__» ⟨[.ref l, .int 0 u], []⟩) (fun _ R s => s.heap.get? l = some { cls := .type "tuple", dict := dd, data := .seq items n, slots := sl } ∧
      R (.ok (.ret (.ref s.heap.objs.size))) { s with heap := s.heap.push { cls := .type "tuple", data := .seq #[] }, toks := s.toks }) :=
  .of_wp fun prog w A R s h => by
    obtain ⟨hp, g, d, tk, os⟩ := s
    obtain ⟨hl, h⟩ := h
    have f1 := AutoSeq1.idx_int
    wp_walk using wpAny_loadPart' hl
    repeat (first
      | (refine wpAny_ite_false (by rw [c]; decide) ?_; wp_walk using wpAny_loadPart' hl)
      | (refine wpAny_ite_false (by decide) ?_; wp_walk using wpAny_loadPart' hl)
      | (refine wpAny_ite_true (by simp) ?_; wp_walk using wpAny_loadPart' hl))
    exact ⟨_, rfl, h⟩
theorem op_rep01 [Tabl] : OpR X (binaryOp .Mult) (fun x y H Q => ∃ l k xs, x = V.ref l ∧ y = V.int k ∧ SqT X.K H l xs ∧ xs ≠ [] ∧ ((k = 1 ∧ Q (.ref l) H) ∨ (k = 0 ∧ ∀ p, H p = none → Q (.ref p) (upd H p (.tup []))))) := by
  intro pins s σ H x y v u Q I rx ry h
  obtain ⟨l, k, xs, rfl, rfl, hT, hne, hq⟩ := h
  cases rx
  obtain ⟨t, rfl⟩ := ry
  obtain ⟨its, r, ⟨⟨cls, dd, data, sl⟩, ho, hc, n, hd⟩, hs⟩ := I.tuple hT
  simp only at hc hd
  subst hc hd
  have he : its.toArray.isEmpty = false := by
    cases its with
    | nil =>
      have := r.length
      exact absurd (List.eq_nil_of_length_eq_zero this) hne
    | cons a b => rfl
  rcases hq with ⟨rfl, q⟩ | ⟨rfl, q⟩
  · exact wpAny_binaryOp_repeat_ref (T := "tuple") (U := "int") (by decide) ⟨_, ho, rfl⟩ (fun s' => typeIs_int s' 1 t) noFill_tuple_mul F.fills_int_mul F.slot_int_rmul repeat_tuple F.slot_int_index.lookup
      (call_meets F.slot_int_rmul (typeIs_int s 1 t) F.entry_int_rmul (F.args_int_rmul_2 _ _) (int_rmul_tuple 1 t l its.toArray n dd sl)
        ⟨ho, rfl, ⟨_, ho, rfl⟩, call_meets F.slot_tuple_mul ⟨_, ho, rfl⟩ F.entry_tuple_mul (F.args_tuple_mul_2 _ _) (mul_one l its.toArray n dd sl t) ⟨ho, ⟨.ref l, H, I, rfl, q⟩⟩⟩)
  · refine wpAny_binaryOp_repeat_ref (T := "tuple") (U := "int") (by decide) ⟨_, ho, rfl⟩ (fun s' => typeIs_int s' 0 t) noFill_tuple_mul F.fills_int_mul F.slot_int_rmul repeat_tuple F.slot_int_index.lookup
      (call_meets F.slot_int_rmul (typeIs_int s 0 t) F.entry_int_rmul (F.args_int_rmul_2 _ _) (int_rmul_tuple 0 t l its.toArray n dd sl)
        ⟨ho, rfl, ⟨_, ho, rfl⟩, call_meets F.slot_tuple_mul ⟨_, ho, rfl⟩ F.entry_tuple_mul (F.args_tuple_mul_2 _ _) (mul_nil l its.toArray n dd sl t he) ⟨ho, ?_⟩⟩)
    refine ⟨.ref s.heap.objs.size, _, I.laid (t' := s.toks) (o := .tup []) (fun b ob q => Heap.get?_push_of_some _ q) (Nat.le_refl _) ?_, rfl, q _ (I.hok.fresh (Nat.le_refl _))⟩
    exact ⟨Nat.zero_le _, [], .nil, IsTup.new _ _⟩
theorem daAll_rep {K : PySem.W.Frag} {G : Hp} {xs : List V} (h : DaAll K G xs ds) : ∀ n, DaAll K G (List.replicate n xs).flatten (List.replicate n ds).flatten
  | 0 => .nil
  | n + 1 => by
    rw [List.replicate_succ, List.replicate_succ, List.flatten_cons, List.flatten_cons]
    exact daAll_app h (daAll_rep h n)
/-- t * n, t a tuple that is not empty -/
theorem ov_rep [Tabl] {n : Nat} (hd : ds ≠ []) (hn : n ≤ 1000) (hz : ds.length ≤ 1000) : OpV X (binaryOp .Mult) (.tuple ds) (.int (n : Int)) (.tuple (List.replicate n ds).flatten) := by
  by_cases h : n < 2
  · refine op_imp op_rep01 fun x y H Q ⟨G, e, p1, p2, k⟩ => ?_
    cases p1 with
    | tup h1 h2 =>
      cases p2
      refine ⟨_, _, _, rfl, rfl, sqT_ex e h1, fun z => ?_, ?_⟩
      · subst z
        cases h2
        exact hd rfl
      · by_cases h0 : n = 0
        · subst h0
          exact .inr ⟨rfl, fun p hp => new_end e k hp .nil⟩
        · have h1' : n = 1 := by omega
          subst h1'
          refine .inl ⟨rfl, ?_⟩
          have z : (List.replicate 1 ds).flatten = ds := by simp
          rw [z] at k
          exact same_end e k (.tup h1 h2)
  · refine op_imp op_repT fun x y H Q ⟨G, e, p1, p2, k⟩ => ?_
    cases p1 with
    | tup h1 h2 =>
      cases p2
      refine ⟨_, _, _, rfl, rfl, sqT_ex e h1, fun z => ?_, by omega, by omega, by rw [daAll_len h2]; exact hz, fun p hp => ?_⟩
      · subst z
        cases h2
        exact hd rfl
      · rw [Int.toNat_natCast]
        exact new_end e k hp (daAll_rep h2 n)
/-! ### enumerate -/
def enumD (ds : List PyData) (k : Nat) : List PyData := match ds with
  | [] => []
  | d :: r => .tuple [.int (k : Int), d] :: enumD r (k + 1)
theorem enumD_get : ∀ (ds : List PyData) (k i : Nat), (enumD ds k)[i]? = (ds[i]?).map fun d => .tuple [.int ((k + i : Nat) : Int), d]
  | [], k, i => by simp [enumD]
  | d :: r, k, 0 => by simp [enumD]
  | d :: r, k, i + 1 => by
    have := enumD_get r (k + 1) i
    rw [show k + 1 + i = k + (i + 1) by omega] at this
    simpa [enumD] using this
theorem enumD_len : ∀ (ds : List PyData) (k : Nat), (enumD ds k).length = ds.length
  | [], k => rfl
  | d :: r, k => by
    show (enumD r (k + 1)).length + 1 = r.length + 1
    rw [enumD_len r (k + 1)]
theorem i_enum [Tabl] {elts : List Expr} {kk : Nat} {tpos : Pos} (h : EA X [a] ρ [.list ds] ρ1) (hm : X.mg "enumerate" = none) (hg : Gl X "enumerate" := by rfl) (hs : starEach [a] X.env = [(false, eval a X.env)] := by rfl) :
    Iter X (.Tuple elts kk tpos) (.Call (.Name "enumerate" p0) [a] [] pos) ρ (enumD ds 0) ρ1 := pi_imp (pi_enum hg hm h hs) fun σ H R ⟨F, G, ad, w, c⟩ => ⟨F, G, ad, w, fun vs H1 G1 ad1 e1 w1 p1 => by
  obtain ⟨v, rfl, pv⟩ := daAll_one p1
  cases pv with
  | lst h1 h2 =>
    refine ⟨_, _, rfl, SqL.of (w1.gh _ _ h1), c _ H1 G1 ad1 e1 w1 fun H2 G2 g1 g2 => ⟨⟨_, SqL.of (g2 _ _ (g1 _ _ h1)), by rw [enumD_len, daAll_len h2]; exact Nat.le_refl _⟩, fun i d hi => ?_⟩⟩
    rw [enumD_get, Nat.zero_add] at hi
    cases ed : ds[i]? with
    | none => rw [ed] at hi; cases hi
    | some d0 =>
      rw [ed] at hi
      cases hi
      obtain ⟨v, hv, pv⟩ := daAll_get h2 ed
      refine ⟨⟨_, v, SqL.of (g2 _ _ (g1 _ _ h1)), hv⟩, fun x H' ⟨T, x1, q1, q2, q3, q4⟩ => ?_⟩
      have z := q4 _ (SqL.of (g2 _ _ (g1 _ _ h1)))
      rw [hv] at z
      cases z
      subst q1 q3
      have hG : G2 T = none := g2.none q2
      exact ⟨upd G2 T (.tup [.int (i : Nat), v]), Ex.new q2, Ext.new q2 hG, g2.both, .tup (SqT.of upd_same) (.cons (.int _) (.cons (da_ex (Ex.new hG) (da_ex g1 pv)) .nil))⟩⟩
/-! ### defs that hand back a fresh list -/
/-- R ds es: of ds comes the list es, a new one -/
def spO [Tabl] (K : PySem.W.Frag) (R : List PyData → List PyData → Prop) : Sp := fun vs H Q _ => ∃ ds es F G, Tbk K F G H ∧ Ex F H ∧ Ex G H ∧ DaAll K G vs ds ∧ R ds es ∧ ∀ l xs H' G', Ext F G G' → Ex F H' → Ex G' H' → Tbk K F G' H' → F l = none → G' l = none → H' l = some (.lst xs) → DaAll K G' xs es → Q (.ref l) H'
end
/-- a block that ends with a new list handed back -/
def SO [Tabl] (X : Cx) (st : List Stmt) (ρ : List Sl) (es : List PyData) : Prop := PSs X st fun D σ H => ∃ F G ad, Sta X.K F G H σ ρ ad ∧ ∀ l xs H' G', Ext F G G' → Ex F H' → Ex G' H' → Tbk X.K F G' H' → F l = none → G' l = none → H' l = some (.lst xs) → DaAll X.K G' xs es → D.rt (.ref l) H'
section
variable {X : Cx} {e c : Expr} {ρ ρ1 : List Sl} {es : List PyData} {st : Stmt} {rs A B : List Stmt} {pos : Pos} {p : Bool}
def anySO [Tabl] (X : Cx) (st : List Stmt) : TS := fun D σ H => ∃ ρ es, SO X st ρ es ∧ ∃ F G ad, Sta X.K F G H σ ρ ad ∧ ∀ l xs H' G', Ext F G G' → Ex F H' → Ex G' H' → Tbk X.K F G' H' → F l = none → G' l = none → H' l = some (.lst xs) → DaAll X.K G' xs es → D.rt (.ref l) H'
theorem anySO_ok [Tabl] {st : List Stmt} : PSs X st (anySO X st) := ⟨fun pins s σ H D I ⟨ρ, es, h, k⟩ => h.run pins s σ H D I k⟩
theorem so_cons [Tabl] (h : S1 X st ρ (.nx ρ1)) (hr : SO X rs ρ1 es) : SO X (st :: rs) ρ es :=
  pss_imp (pss_cons h anySO_ok) fun D σ H ⟨F, G, ad, w, k⟩ => ⟨F, G, ad, w, fun σ1 H1 G1 ad1 e1 w1 => ⟨ρ1, es, hr, F, G1, ad1, w1, fun l xs H' G' g1 g2 g3 g4 g5 => k l xs H' G' (e1.trans g1) g2 g3 g4 g5⟩⟩
theorem so_ret [Tabl] (h : EO X e ρ es ρ1) : SO X (.Return (some e) pos :: rs) ρ es :=
  pss_imp (pss_cons (ps_ret h) (u := fun _ _ _ => False) ⟨fun _ _ _ _ _ _ z => z.elim⟩) fun D σ H ⟨F, G, ad, w, k⟩ => ⟨F, G, ad, w, fun l xs H' G' ad' g1 w1 g2 g3 g4 g5 g6 => k l xs H' G' g1 w1.fh w1.gh w1.tk g2 g3 g5 g6⟩
end
section
variable {P : Program} {w : World} {K : PySem.W.Frag} {mg : Str → Option Value} {base : Heap} {x : Str} {st : Stmt} {N ps : List Str} {k : Nat}
theorem def_O [Tabl] {R : List PyData → List PyData → Prop} (hp : Put K mg x st) (S : FnScope N ps (defScope st)) (hb : BindsOf st x ps) (hN : ps.length ≤ N.length) (hl : ∀ ds d, R ds d → ds.length = ps.length)
    (body : ∀ (a : CxA), Rm k (cx P w K mg base N x st a).A → ∀ ds es, R ds es → SO (cx P w K mg base N x st a) (defBody st) (dataS N ds.length (ds.map Sl.dat)) es) : Def P w K mg base x (k + 1) ps (spO K R) := by
  obtain ⟨f, fd, h1, F⟩ := hp.ex
  have b := F.bindsN (ps := ps) hb
  refine ⟨f, fd, h1, F.kp, b, fnG_of F S (fun vs H Q E h => ?_) (fun cdv A outer s H vs Q E hr0 hgd h => ?_)⟩
  · obtain ⟨ds, d, F, G, _, _, _, hd, hR, _⟩ := h
    rw [daAll_len hd, hl ds d hR]
  · obtain ⟨ds, d, F, G, tk, ef, e, hd, hR, q⟩ := h
    have len : vs.length = ds.length := daAll_len hd
    have w0 : Sta K F G H (L2.start N vs) (dataS N ds.length (ds.map Sl.dat)) (fun _ => []) := by
      rw [← len]
      exact sta0 tk e ef (by rw [len, List.length_map]) (by rw [len, hl ds d hR]; exact hN) _ (fun _ _ z => nomatch z) (fun _ _ z => nomatch z) (fun _ _ _ z => nomatch z) (startData hd H [])
    exact ⟨_, PSs.nox (body ⟨f, cdv, A, outer, s, H, E⟩ ⟨hr0, hgd⟩ ds d hR), F, G, _, w0, fun l xs H' G' e1 e2 e3 e8 e4 e5 e6 e7 => q l xs H' G' e1 e2 e3 e8 e4 e5 e6 e7⟩
end
section
variable {X : Cx} {x : Str} {rest : List Expr} {ρ ρ1 : List Sl} {ds es : List PyData} {pn pos : Pos}
/-- f(..), a new list -/
theorem eo_call [Tabl] {e : Expr} {R : List PyData → List PyData → Prop} (f : Kn X x (spO X.K R)) (h : EA X (e :: rest) ρ ds ρ1) (hR : R ds es) (hg : Gl X x := by rfl) (hdb : (x == ("__debug__" : Str)) = false := by decide) (he : starEach (e :: rest) X.env = (false, eval e X.env) :: starEach rest X.env := by rfl) (hpl : (backTo pos (starEach rest X.env)).any (·.1) = false := by rfl) :
    EO X (.Call (.Name x pn) (e :: rest) [] pos) ρ es ρ1 := by
  obtain ⟨k, f, fd, ps, F, ⟨hr, hgd⟩, hm, hk, hb⟩ := f.ex
  refine pe_imp (pe_callG F hr hgd hg hm hk hb .nil pass0 h hdb he hpl) fun σ H Q ⟨F, G, ad, w, k⟩ => ⟨F, G, ad, w, fun vs H1 G1 ad1 e1 w1 p1 => ?_⟩
  show spO X.K R (vs ++ []) H1 Q E0
  rw [List.append_nil]
  refine ⟨ds, es, noT X.K H1, G1, w1.tk.callee, noT_ex, w1.gh, p1, hR, fun l xs H' G' g1 g2 g3 g8 g4 g5 g6 g7 => ?_⟩
  obtain ⟨y1, y2⟩ := w1.call g1 g2 g3 g8
  have fl : F l = none := by
    cases z : F l with
    | none => rfl
    | some o =>
      rw [noT_of (not_tk w1.tk.ft z), w1.fh l o z] at g4
      cases g4
  refine k l xs H' G' _ (e1.trans y1) y2 fl g5 (fun j q => ?_) g6 g7
  obtain ⟨q1, q2⟩ := adT_mem.mp q
  obtain ⟨o, ho⟩ := w1.there j l q1
  rw [noT_of q2, ho] at g4
  cases g4
end
end DM
end part_DMm
section part_DMz
/-! zip over lists and tuples in any pairing (true: a tuple). -/
namespace DLz
open L2 PyProof.Rows PySem.Spec PySem RZ
open PySem.Sem (wp)
def ItB (k : Bool) (h : Heap) (it l : Addr) (i : Nat) : Prop := match k with
  | true => h.IsTupleIter it l i
  | false => h.IsListIter it l i
def SqB (k : Bool) (h : Heap) (l : Addr) (xs : Array Value) : Prop := match k with
  | true => h.IsTuple l xs
  | false => h.IsList l xs
theorem ItB.off {k : Bool} {h h' : Heap} {a b t : Addr} {i : Nat} (x : ItB k h a t i) (q : Heap.ExtBut b h h') (n : a ≠ b) : ItB k h' a t i := by
  cases k with
  | true => exact Heap.IsTupleIter.extBut x q n
  | false => exact Heap.IsListIter.extBut x q n
theorem SqB.off {k : Bool} {h h' : Heap} {a b : Addr} {xs : Array Value} (x : SqB k h a xs) (q : Heap.ExtBut b h h') (n : a ≠ b) : SqB k h' a xs := by
  cases k with
  | true => exact Heap.IsTuple.extBut x q n
  | false => exact Heap.IsList.extBut x q n
theorem ItB.at_ {k : Bool} {h h' : Heap} {a t : Addr} {i : Nat} (x : ItB k h a t i) (q : ∀ o, h.get? a = some o → h'.get? a = some o) : ItB k h' a t i := by
  cases k with
  | true => exact Heap.IsTupleIter.at x q
  | false => exact Heap.IsListIter.at x q
theorem ItB.obj {k : Bool} {h : Heap} {a t : Addr} {i : Nat} (x : ItB k h a t i) : ∃ o, h.get? a = some o ∧ ∀ v, o.data ≠ .cell v := by
  cases k with
  | true =>
    obtain ⟨o, e, _, d⟩ := x
    exact ⟨o, e, fun v q => by rw [d] at q; cases q⟩
  | false =>
    obtain ⟨o, e, _, d⟩ := x
    exact ⟨o, e, fun v q => by rw [d] at q; cases q⟩
theorem SqB.lt {k : Bool} {h : Heap} {a : Addr} {xs : Array Value} (x : SqB k h a xs) : a < h.objs.size := by
  cases k with
  | true =>
    obtain ⟨o, e, _⟩ := x
    exact Heap.lt_size e
  | false =>
    obtain ⟨o, e, _⟩ := x
    exact Heap.lt_size e
section
variable {prog : Program} {w : World} {A : Around} {E : Value → Shared → Prop} {s : Shared}
theorem next_item {k : Bool} {it l : Addr} {i : Nat} {xs : Array Value} {x : Value} {Q : Value → Shared → Prop} (h1 : ItB k s.heap it l i) (h2 : SqB k s.heap l xs) (hx : xs[i]? = some x)
    (hQ : ∀ h', ItB k h' it l (i + 1) → Heap.SameBut it s.heap h' → Q x { s with heap := h' }) : wpAny (model prog w) A (Builtin.SmallTypes.nextOf (.ref it)) Q E s := by
  cases k with
  | true => exact nextOf_tuple_item h1 h2 hx hQ
  | false => exact wpAny_nextOf_list_item h1 h2 hx hQ
theorem next_end {k : Bool} {it l : Addr} {i : Nat} {xs : Array Value} {Q : Value → Shared → Prop} (hh : A.handled = none) (h1 : ItB k s.heap it l i) (h2 : SqB k s.heap l xs) (hx : xs[i]? = none)
    (hE : ∀ h' e, Heap.ExtBut it s.heap h' → (∃ o, h'.get? e = some o ∧ o.cls = .type "StopIteration") → E (.ref e) { s with heap := h' }) : wpAny (model prog w) A (Builtin.SmallTypes.nextOf (.ref it)) Q E s := by
  cases k with
  | true => exact nextOf_tuple_end hh h1 h2 hx hE
  | false => exact wpAny_nextOf_list_end hh h1 h2 hx hE
variable {k j : Bool} {Z U O p q l m : Addr} {n1 n2 : Nat} {xs ys : Array Value} {x y a b : Value}
/-- what lies apart -/
theorem zip_go {Q : Value → Shared → Prop} (D : ZipApart Z U O p q l m) (zz : IsZip s.heap Z U O .none) (zU : IsPair s.heap U (.ref p) (.ref q)) (zO : IsPair s.heap O a b)
    (i1 : ItB k s.heap p l n1) (i2 : ItB j s.heap q m n2) (s1 : SqB k s.heap l xs) (s2 : SqB j s.heap m ys) (ex : xs[n1]? = some x) (ey : ys[n2]? = some y)
    (fin : ∀ h', IsZip h' Z U O (rawInt s.heap.objs.size) → IsPair h' O x y → ItB k h' p l (n1 + 1) → ItB j h' q m (n2 + 1) → IsPair h' s.heap.objs.size x y → h'.objs.size = s.heap.objs.size + 1 →
      (∀ c o, c ≠ Z → c ≠ O → c ≠ p → c ≠ q → s.heap.get? c = some o → h'.get? c = some o) → Q (.ref s.heap.objs.size) { s with heap := h' }) :
    wpAny (model prog w) A (Builtin.«zip.__next__» ⟨[.ref Z], []⟩) (fun r s' => ∃ v, r = .done (.ret v) ∧ Q v s') E s := by
  show wpAny _ _ (field (.ref Z) 2 >>= _) _ _ _
  refine wpAny_bind (wpAny_field zz rfl (x := .bool false) rfl ?_)
  show wpAny _ _ (field (.ref Z) 3 >>= _) _ _ _
  refine wpAny_bind (wpAny_field zz rfl (x := .ref U) rfl (wpAny_bind (wpAny_seqItems zU rfl ?_)))
  show wpAny _ _ (Builtin.SmallTypes.ownedTupleIsFree (.ref Z) >>= _) _ _ _
  refine wpAny_bind ?_
  unfold Builtin.SmallTypes.ownedTupleIsFree; refine wpAny_bind (wpAny_field zz rfl (x := .none) rfl (wpAny_pure ?_))
  simp only [if_true]
  refine wpAny_bind (wpAny_rule (wpAny_bind (wpAny_field zz rfl (x := .ref O) rfl (wpAny_bind (wpAny_setField_rec zz (by simp) fun t1 y1 v1 => ?_)))))
  replace y1 : IsZip t1 Z U O .ellipsis := y1
  refine wpAny_bind ?_
  simp only [List.zipIdx_cons, List.zipIdx_nil, List.forIn_cons, List.forIn_nil]; refine wpAny_bind (wpAny_bind (wpAny_onRaise ?_))
  show wpAny _ _ (Builtin.SmallTypes.nextOf (.ref p) >>= _) _ _ _
  refine wpAny_bind (next_item (i1.off v1.extBut D.i1z) (s1.off v1.extBut D.l1z) ex fun t2 j1 v2 => wpAny_pure ?_)
  have o2 : IsPair t2 O a b := v2.extBut _ _ D.TOi1 (v1.extBut _ _ D.TOz zO)
  refine wpAny_bind (wpAny_seqItems o2 rfl (wpAny_bind (wpAny_updateSeq_pair o2 fun t3 o3 v3 => ?_)))
  replace o3 : IsPair t3 O x b := o3
  refine wpAny_bind (wpAny_letGo (wpAny_pure (wpAny_bind (wpAny_bind (wpAny_onRaise ?_)))))
  show wpAny _ _ (Builtin.SmallTypes.nextOf (.ref q) >>= _) _ _ _
  refine wpAny_bind (next_item (((i2.off v1.extBut D.i2z).off v2.extBut D.i12.symm).off v3.extBut D.TOi2.symm) (((s2.off v1.extBut D.l2z).off v2.extBut D.l2i1).off v3.extBut D.l2TO) ey fun t4 j2 v4 => wpAny_pure ?_)
  have o4 : IsPair t4 O x b := v4.extBut _ _ D.TOi2 o3
  refine wpAny_bind (wpAny_seqItems o4 rfl (wpAny_bind (wpAny_updateSeq_pair o4 fun t5 o5 v5 => ?_)))
  replace o5 : IsPair t5 O x y := o5
  refine wpAny_bind (wpAny_letGo (wpAny_pure (wpAny_pure (wpAny_bind (wpAny_seqItems o5 rfl (wpAny_bind (wpAny_newTuple ?_)))))))
  have e5 : t5.objs.size = s.heap.objs.size := by rw [v5.1, v4.1, v3.1, v2.1, v1.1]
  have y5 : IsZip t5 Z U O .ellipsis := v5.extBut _ _ D.TOz.symm (v4.extBut _ _ D.i2z.symm (v3.extBut _ _ D.TOz.symm (v2.extBut _ _ D.i1z.symm y1)))
  have k5 : ∀ c o, c ≠ Z → c ≠ O → c ≠ p → c ≠ q → s.heap.get? c = some o → t5.get? c = some o := fun c o c1 c2 c3 c4 e => v5.extBut _ _ c2 (v4.extBut _ _ c4 (v3.extBut _ _ c2 (v2.extBut _ _ c3 (v1.extBut _ _ c1 e))))
  have g1 : ItB k t5 p l (n1 + 1) := ((j1.off v3.extBut D.TOi1.symm).off v4.extBut D.i12).off v5.extBut D.TOi1.symm
  have g2 : ItB j t5 q m (n2 + 1) := j2.off v5.extBut D.TOi2.symm
  have lz : Z < t5.objs.size := Heap.lt_size y5
  show wpAny _ _ (Builtin.SmallTypes.ownedTupleHandOut (.ref Z) (.ref t5.objs.size) >>= _) _ _ _
  refine wpAny_bind ?_
  unfold Builtin.SmallTypes.ownedTupleHandOut; have y6 : IsZip (t5.push { cls := .type "tuple", data := .seq #[x, y] }) Z U O .ellipsis := Heap.get?_push_of_some _ y5
  refine wpAny_bind (wpAny_setField_rec y6 (by simp) fun t7 y7 v7 => ?_)
  replace y7 : IsZip t7 Z U O (rawInt t5.objs.size) := y7
  refine wpAny_setField_rec y7 (by simp) fun t8 y8 v8 => ?_
  replace y8 : IsZip t8 Z U O (rawInt t5.objs.size) := y8
  have up : ∀ c o, c ≠ Z → t5.get? c = some o → t8.get? c = some o := fun c o c1 e => v8.extBut _ _ c1 (v7.extBut _ _ c1 (Heap.get?_push_of_some _ e))
  have w8 : IsPair t8 t5.objs.size x y := v8.extBut _ _ (Nat.ne_of_gt lz) (v7.extBut _ _ (Nat.ne_of_gt lz) (Heap.get?_push_size _ rfl))
  have e8 : t8.objs.size = t5.objs.size + 1 := by rw [v8.1, v7.1, Heap.size_push]
  rw [e5] at y8 w8 e8
  refine wpAny_pure ⟨_, rfl, ?_⟩
  show Q (.ref t5.objs.size) _
  rw [e5]
  exact fin t8 y8 (up _ _ D.TOz o5) (g1.at_ fun o e => up _ o D.i1z e) (g2.at_ fun o e => up _ o D.i2z e) w8 e8 fun c o c1 c2 c3 c4 e => up c o c1 (k5 c o c1 c2 c3 c4 e)
theorem zip_stop {Q : Fin → Shared → Prop} (hh : A.handled = none) (D : ZipApart Z U O p q l m) (zz : IsZip s.heap Z U O .none) (zU : IsPair s.heap U (.ref p) (.ref q)) (zO : IsPair s.heap O a b)
    (i1 : ItB k s.heap p l n1) (i2 : ItB j s.heap q m n2) (s1 : SqB k s.heap l xs) (s2 : SqB j s.heap m ys) (none1 : xs[n1]? = none ∨ ys[n2]? = none)
    (fin : ∀ h' e, (∀ c o, c ≠ Z → c ≠ O → c ≠ p → c ≠ q → s.heap.get? c = some o → h'.get? c = some o) → (∃ o, h'.get? e = some o ∧ o.cls = .type "StopIteration") → E (.ref e) { s with heap := h' }) :
    wpAny (model prog w) A (Builtin.«zip.__next__» ⟨[.ref Z], []⟩) Q E s := by
  show wpAny _ _ (field (.ref Z) 2 >>= _) _ _ _
  refine wpAny_bind (wpAny_field zz rfl (x := .bool false) rfl ?_)
  show wpAny _ _ (field (.ref Z) 3 >>= _) _ _ _
  refine wpAny_bind (wpAny_field zz rfl (x := .ref U) rfl (wpAny_bind (wpAny_seqItems zU rfl ?_)))
  show wpAny _ _ (Builtin.SmallTypes.ownedTupleIsFree (.ref Z) >>= _) _ _ _
  refine wpAny_bind ?_
  unfold Builtin.SmallTypes.ownedTupleIsFree; refine wpAny_bind (wpAny_field zz rfl (x := .none) rfl (wpAny_pure ?_))
  simp only [if_true]
  refine wpAny_bind (wpAny_rule (wpAny_bind (wpAny_field zz rfl (x := .ref O) rfl (wpAny_bind (wpAny_setField_rec zz (by simp) fun t1 y1 v1 => ?_)))))
  replace y1 : IsZip t1 Z U O .ellipsis := y1
  refine wpAny_bind ?_
  simp only [List.zipIdx_cons, List.zipIdx_nil, List.forIn_cons, List.forIn_nil]; refine wpAny_bind (wpAny_bind (wpAny_onRaise ?_))
  show wpAny _ _ (Builtin.SmallTypes.nextOf (.ref p) >>= _) _ _ _
  cases ex : xs[n1]? with
  | none =>
    refine wpAny_bind (next_end hh (i1.off v1.extBut D.i1z) (s1.off v1.extBut D.l1z) ex fun t2 e v2 he => ?_)
    obtain ⟨oe, g1, g2⟩ := he
    have y2 : IsZip t2 Z U O .ellipsis := v2 _ _ D.i1z.symm y1
    have ne : e ≠ Z := fun z => by subst z; rw [y2] at g1; cases g1; simp at g2
    refine wpAny_setField_rec y2 (by simp) fun t3 _ v3 => fin t3 e (fun c o c1 _ c3 _ z => v3.extBut _ _ c1 (v2 _ _ c3 (v1.extBut _ _ c1 z))) ⟨oe, v3.extBut _ _ ne g1, g2⟩
  | some x =>
    have ey : ys[n2]? = none := by
      rcases none1 with h | h
      · rw [ex] at h; cases h
      · exact h
    refine wpAny_bind (next_item (i1.off v1.extBut D.i1z) (s1.off v1.extBut D.l1z) ex fun t2 j1 v2 => wpAny_pure ?_)
    have o2 : IsPair t2 O a b := v2.extBut _ _ D.TOi1 (v1.extBut _ _ D.TOz zO)
    refine wpAny_bind (wpAny_seqItems o2 rfl (wpAny_bind (wpAny_updateSeq_pair o2 fun t3 o3 v3 => ?_)))
    refine wpAny_bind (wpAny_letGo (wpAny_pure (wpAny_bind (wpAny_bind (wpAny_onRaise ?_)))))
    show wpAny _ _ (Builtin.SmallTypes.nextOf (.ref q) >>= _) _ _ _
    refine wpAny_bind (next_end hh (((i2.off v1.extBut D.i2z).off v2.extBut D.i12.symm).off v3.extBut D.TOi2.symm) (((s2.off v1.extBut D.l2z).off v2.extBut D.l2i1).off v3.extBut D.l2TO) ey fun t4 e v4 he => ?_)
    obtain ⟨oe, g1, g2⟩ := he
    have y4 : IsZip t4 Z U O .ellipsis := v4 _ _ D.i2z.symm (v3.extBut _ _ D.TOz.symm (v2.extBut _ _ D.i1z.symm y1))
    have ne : e ≠ Z := fun z => by subst z; rw [y4] at g1; cases g1; simp at g2
    refine wpAny_setField_rec y4 (by simp) fun t5 _ v5 => fin t5 e (fun c o c1 c2 c3 c4 z => v5.extBut _ _ c1 (v4 _ _ c4 (v3.extBut _ _ c2 (v2.extBut _ _ c3 (v1.extBut _ _ c1 z))))) ⟨oe, v5.extBut _ _ ne g1, g2⟩
theorem pyNext_go {Q : Option Value → Shared → Prop} (D : ZipApart Z U O p q l m) (zz : IsZip s.heap Z U O .none) (zU : IsPair s.heap U (.ref p) (.ref q)) (zO : IsPair s.heap O a b)
    (i1 : ItB k s.heap p l n1) (i2 : ItB j s.heap q m n2) (s1 : SqB k s.heap l xs) (s2 : SqB j s.heap m ys) (ex : xs[n1]? = some x) (ey : ys[n2]? = some y)
    (fin : ∀ h', IsZip h' Z U O (rawInt s.heap.objs.size) → IsPair h' O x y → ItB k h' p l (n1 + 1) → ItB j h' q m (n2 + 1) → IsPair h' s.heap.objs.size x y → h'.objs.size = s.heap.objs.size + 1 →
      (∀ c o, c ≠ Z → c ≠ O → c ≠ p → c ≠ q → s.heap.get? c = some o → h'.get? c = some o) → Q (some (.ref s.heap.objs.size)) { s with heap := h' }) : wpAny (model prog w) A (pyNext (.ref Z)) Q E s := by
  have ty : s.TypeIs (.ref Z) "zip" := ⟨_, zz, rfl⟩
  unfold pyNext
  exact wpAny_bind (wpAny_attempt (wpAny_callSpecial?_slot (name := Str.ofString "__next__") ty F.slot_zip_next (wpAny_call_entry F.slot_zip_next ty F.entry_zip_next (zip_go D zz zU zO i1 i2 s1 s2 ex ey fun h' a1 a2 a3 a4 a5 a6 a7 => wpAny_pure (fin h' a1 a2 a3 a4 a5 a6 a7)) (F.args_zip_next_1 _))))
theorem pyNext_stop {Q : Option Value → Shared → Prop} (hh : A.handled = none) (D : ZipApart Z U O p q l m) (zz : IsZip s.heap Z U O .none) (zU : IsPair s.heap U (.ref p) (.ref q)) (zO : IsPair s.heap O a b)
    (i1 : ItB k s.heap p l n1) (i2 : ItB j s.heap q m n2) (s1 : SqB k s.heap l xs) (s2 : SqB j s.heap m ys) (none1 : xs[n1]? = none ∨ ys[n2]? = none)
    (fin : ∀ h', (∀ c o, c ≠ Z → c ≠ O → c ≠ p → c ≠ q → s.heap.get? c = some o → h'.get? c = some o) → Q none { s with heap := h' }) : wpAny (model prog w) A (pyNext (.ref Z)) Q E s := by
  have ty : s.TypeIs (.ref Z) "zip" := ⟨_, zz, rfl⟩
  unfold pyNext
  refine wpAny_bind (wpAny_attempt (wpAny_callSpecial?_slot (name := Str.ofString "__next__") ty F.slot_zip_next (wpAny_call_entry F.slot_zip_next ty F.entry_zip_next (zip_stop hh D zz zU zO i1 i2 s1 s2 none1 fun h' e hk he => ?_) (F.args_zip_next_1 _))))
  obtain ⟨o, g1, g2⟩ := he
  exact wpAny_bind (wpAny_isInstance (T := "StopIteration") (b := true) ⟨o, g1, g2⟩ isSubtype_stop (wpAny_pure (fin _ hk)))
end
/-! ### a zip made -/
def itO (k : Bool) (l : Addr) : Obj := match k with
  | true => { cls := .type "tuple_iterator", data := .fields #[.ref l, .int 0 0] }
  | false => { cls := .type "list_iterator", data := .fields #[.ref l, .int 0 0] }
abbrev z1 (h : Heap) (k : Bool) (l : Addr) : Heap := h.push (itO k l)
abbrev z2 (h : Heap) (k j : Bool) (l m : Addr) : Heap := (z1 h k l).push (itO j m)
abbrev z3 (h : Heap) (k j : Bool) (l m : Addr) : Heap := (z2 h k j l m).push { cls := .type "tuple", data := .seq #[.ref h.objs.size, .ref (z1 h k l).objs.size] }
abbrev z4 (h : Heap) (k j : Bool) (l m : Addr) : Heap := (z3 h k j l m).push { cls := .type "tuple", data := .seq #[.none, .none] }
abbrev z5 (h : Heap) (k j : Bool) (l m : Addr) : Heap := (z4 h k j l m).push { cls := .type "zip", data := .fields #[.none, .bool false, .bool false, .ref (z2 h k j l m).objs.size, .ref (z3 h k j l m).objs.size] }
theorem meets_new (k j : Bool) (l m : Addr) (xs ys : Array Value) : Meets (Builtin.«zip.__new__» ⟨[.type "zip", .ref l, .ref m], []⟩) (fun _ R s => SqB k s.heap l xs ∧ SqB j s.heap m ys ∧ R (.ok (.ret (.ref (z4 s.heap k j l m).objs.size))) { s with heap := z5 s.heap k j l m }) :=
  .of_wp fun prog w A R s h => by
    obtain ⟨hp, g, d, tk, os⟩ := s
    obtain ⟨a1, a2, h⟩ := h
    have hsub := sub_zip
    cases k with
    | true =>
      have b1 : Heap.IsTuple (Shared.heap ⟨hp, g, d, tk, os⟩) l xs := a1
      cases j with
      | true =>
        have b2 : Heap.IsTuple (Shared.heap ⟨hp.push { cls := .type "tuple_iterator", data := .fields #[.ref l, .int 0 0] }, g, d, tk, os⟩) m ys := Heap.IsTuple.push a2 _
        wp_walk using wpAny_pyIter_tuple b1, wpAny_pyIter_tuple b2
        exact ⟨_, rfl, h⟩
      | false =>
        have b2 : Heap.IsList (Shared.heap ⟨hp.push { cls := .type "tuple_iterator", data := .fields #[.ref l, .int 0 0] }, g, d, tk, os⟩) m ys := Heap.IsList.push a2 _
        wp_walk using wpAny_pyIter_tuple b1, wpAny_pyIter_list b2
        exact ⟨_, rfl, h⟩
    | false =>
      have b1 : Heap.IsList (Shared.heap ⟨hp, g, d, tk, os⟩) l xs := a1
      cases j with
      | true =>
        have b2 : Heap.IsTuple (Shared.heap ⟨hp.push { cls := .type "list_iterator", data := .fields #[.ref l, .int 0 0] }, g, d, tk, os⟩) m ys := Heap.IsTuple.push a2 _
        wp_walk using wpAny_pyIter_list b1, wpAny_pyIter_tuple b2
        exact ⟨_, rfl, h⟩
      | false =>
        have b2 : Heap.IsList (Shared.heap ⟨hp.push { cls := .type "list_iterator", data := .fields #[.ref l, .int 0 0] }, g, d, tk, os⟩) m ys := Heap.IsList.push a2 _
        wp_walk using wpAny_pyIter_list b1, wpAny_pyIter_list b2
        exact ⟨_, rfl, h⟩
theorem itO_free {k : Bool} {l : Addr} : (itO k l).isFreed = false := by cases k <;> rfl
theorem itO_at {k : Bool} {h : Heap} {a l : Addr} (e : h.get? a = some (itO k l)) : ItB k h a l 0 := by
  cases k with
  | true => exact ⟨_, e, rfl, rfl⟩
  | false => exact ⟨_, e, rfl, rfl⟩
section
variable {prog : Program} {w : World} {A : Around} {E : Value → Shared → Prop} {s : Shared} {k j : Bool} {l m : Addr} {xs ys : Array Value}
theorem call_zipB {Q : Value → Shared → Prop} (a1 : SqB k s.heap l xs) (a2 : SqB j s.heap m ys)
    (fin : ∀ h', IsZip h' (s.heap.objs.size + 4) (s.heap.objs.size + 2) (s.heap.objs.size + 3) .none → IsPair h' (s.heap.objs.size + 2) (.ref s.heap.objs.size) (.ref (s.heap.objs.size + 1)) → IsPair h' (s.heap.objs.size + 3) .none .none →
      ItB k h' s.heap.objs.size l 0 → ItB j h' (s.heap.objs.size + 1) m 0 → (∀ c o, s.heap.get? c = some o → h'.get? c = some o) → Q (.ref (s.heap.objs.size + 4)) { s with heap := h' }) : wpAny (model prog w) A (call (.type "zip") [.ref l, .ref m]) Q E s := by
  refine callType_new F.called_zip (by decide) (F.typeCall_zip_2 _ _) (F.newCall_zip_2 _ _) (fun obj => F.args_object_init_3 obj _ _) F.entry_zip_new (meets_new k j l m xs ys) ⟨a1, a2, ?_⟩
  have n1 : (z1 s.heap k l).objs.size = s.heap.objs.size + 1 := Heap.size_push ..
  have n2 : (z2 s.heap k j l m).objs.size = s.heap.objs.size + 2 := by rw [Heap.size_push, n1]
  have n3 : (z3 s.heap k j l m).objs.size = s.heap.objs.size + 3 := by rw [Heap.size_push, n2]
  have n4 : (z4 s.heap k j l m).objs.size = s.heap.objs.size + 4 := by rw [Heap.size_push, n3]
  have g5 : (z5 s.heap k j l m).get? (z4 s.heap k j l m).objs.size = some _ := Heap.get?_push_size _ rfl
  have g4 : (z5 s.heap k j l m).get? (z3 s.heap k j l m).objs.size = some _ := Heap.get?_push_of_some _ (Heap.get?_push_size _ rfl)
  have g3 : (z5 s.heap k j l m).get? (z2 s.heap k j l m).objs.size = some _ := Heap.get?_push_of_some _ (Heap.get?_push_of_some _ (Heap.get?_push_size _ rfl))
  have g2 : (z5 s.heap k j l m).get? (z1 s.heap k l).objs.size = some (itO j m) := Heap.get?_push_of_some _ (Heap.get?_push_of_some _ (Heap.get?_push_of_some _ (Heap.get?_push_size _ itO_free)))
  have g1 : (z5 s.heap k j l m).get? s.heap.objs.size = some (itO k l) := Heap.get?_push_of_some _ (Heap.get?_push_of_some _ (Heap.get?_push_of_some _ (Heap.get?_push_of_some _ (Heap.get?_push_size _ itO_free))))
  show _ ∧ _
  rw [n2, n3, n4] at g5
  rw [n1, n2] at g3
  rw [n3] at g4
  rw [n1] at g2
  rw [n4]
  exact ⟨⟨_, g5, rfl⟩, fin _ g5 g3 g4 (itO_at g1) (itO_at g2) fun c o x => Heap.get?_push_of_some _ (Heap.get?_push_of_some _ (Heap.get?_push_of_some _ (Heap.get?_push_of_some _ (Heap.get?_push_of_some _ x))))⟩
end
/-! ### the walk -/
/-- a list or a tuple of a heap -/
def SqK (K : PySem.W.Frag) (k : Bool) (H : Hp) (a : Addr) (xs : List V) : Prop := match k with
  | true => SqT K H a xs
  | false => SqL K H a xs
def ItzB (K : PySem.W.Frag) (k j : Bool) (a b : Addr) : It :=
  ⟨fun i H => ∃ (xs ys : List V) (x y : V), SqK K k H a xs ∧ SqK K j H b ys ∧ xs[i]? = some x ∧ ys[i]? = some y,
    fun i H v H' => ∃ T x y, v = .ref T ∧ H T = none ∧ H' = upd H T (.tup [x, y]) ∧ (∀ xs, SqK K k H a xs → xs[i]? = some x) ∧ ∀ ys, SqK K j H b ys → ys[i]? = some y,
    fun i H => ∃ xs ys : List V, SqK K k H a xs ∧ SqK K j H b ys ∧ (xs.length ≤ i ∨ ys.length ≤ i)⟩
section
variable {X : Cx} {pins : List (Addr × Obj)} {σ : L2.St} {H : Hp} {s : Shared} {k j : Bool} {a b : Addr} {xs ys : List V}
theorem SqK.of (h : SqK X.K k H a xs) (I : Inv X pins σ H s) : ∃ its : List Value, Vals xs its ∧ SqB k s.heap a its.toArray := by
  cases k with
  | true =>
    obtain ⟨its, rv, p, _⟩ := I.tuple h
    exact ⟨its, rv, p⟩
  | false =>
    obtain ⟨its, rv, p, _⟩ := I.list h
    exact ⟨its, rv, p.isList⟩
theorem SqK.inj {ys : List V} (h1 : SqK X.K k H a xs) (h2 : SqK X.K k H a ys) (I : Inv X pins σ H s) : xs = ys := by
  cases k with
  | true => exact I.tuple_inj h1 h2
  | false => exact I.list_inj h1 h2
end
theorem turn_zipB {P : Program} {w : World} {K : PySem.W.Frag} {elts : List Expr} {kk : Nat} {tpos : Pos} {k j : Bool} {l m Z U O p q : Addr} (D : ZipApart Z U O p q l m) :
    Turn P w K (.Tuple elts kk tpos) (ItzB K k j l m) [Z, U, O, p, q] Z (fun i h => IsZip h Z U O .none ∧ IsPair h U (.ref p) (.ref q) ∧ (∃ x y, IsPair h O x y) ∧ ItB k h p l i ∧ ItB j h q m i) where
  mem := by simp
  obj := fun i h st c hc => by
    obtain ⟨zz, zU, ⟨x, y, zO⟩, i1, i2⟩ := st
    have cases5 : c = Z ∨ c = U ∨ c = O ∨ c = p ∨ c = q := by simpa using hc
    rcases cases5 with e | e | e | e | e
    · rw [e]; exact ⟨_, zz, fun v q => nomatch q⟩
    · rw [e]; exact ⟨_, zU, fun v q => nomatch q⟩
    · rw [e]; exact ⟨_, zO, fun v q => nomatch q⟩
    · rw [e]; exact i1.obj
    · rw [e]; exact i2.obj
  keep := fun i h h' st kp => by
    obtain ⟨zz, zU, ⟨x, y, zO⟩, i1, i2⟩ := st
    exact ⟨kp Z (by simp) _ zz, kp U (by simp) _ zU, ⟨x, y, kp O (by simp) _ zO⟩, i1.at_ fun o e => kp p (by simp) o e, i2.at_ fun o e => kp q (by simp) o e⟩
  item := by
    intro X hP hw hK hc i pins s σ H E I hf st hg
    subst hP hw hK
    obtain ⟨zz, zU, ⟨x0, y0, zO⟩, i1, i2⟩ := st
    obtain ⟨xs, ys, x, y, hqx, hqy, hx, hy⟩ := hg
    obtain ⟨its, rv, s1⟩ := hqx.of I
    obtain ⟨its2, rv2, s2⟩ := hqy.of I
    obtain ⟨u, hu, ru⟩ := rv.get hx
    obtain ⟨v, hv, rw2⟩ := rv2.get hy
    have lz : Z < s.heap.objs.size := Heap.lt_size zz
    refine pyNext_go D zz zU zO i1 i2 s1 s2 (x := u) (y := v) (by simpa using hu) (by simpa using hv) fun h' z' O' j1 j2 hT hsz hk => ?_
    refine ⟨_, rfl, wpAny_letOwnedTupleGo_zip (s := { s with heap := h' }) z' fun h2 z2 sb => ?_⟩
    have T2 : h2.get? s.heap.objs.size = some { cls := .type "tuple", data := .seq #[u, v] } := (sb.2 _ (Nat.ne_of_gt lz)).trans hT
    have fresh : ObjOk X.prog X.w (upd H s.heap.objs.size (.tup [x, y])) h2 s.heap.objs.size (.tup [x, y]) := ⟨by show 2 ≤ sizeLine; decide, [u, v], .cons ru (.cons rw2 .nil), ⟨_, T2, rfl, _, rfl⟩⟩
    have J : Inv X pins σ (upd H s.heap.objs.size (.tup [x, y])) { s with heap := h2 } :=
      I.turnedNew (t' := s.toks) (ch := [Z, U, O, p, q]) (fun c o hb e => (sb.2 c (fun n => hb (by simp [n]))).trans (hk c o (fun n => hb (by simp [n])) (fun n => hb (by simp [n])) (fun n => hb (by simp [n])) (fun n => hb (by simp [n])) e)) hf (Nat.le_refl _) fresh
    refine ⟨.ref s.heap.objs.size, _, J, rfl, ⟨_, x, y, rfl, I.hok.fresh (Nat.le_refl _), rfl, fun l hl => by rw [hl.inj hqx I]; exact hx, fun l hl => by rw [hl.inj hqy I]; exact hy⟩, ⟨z2, ?_, ⟨u, v, ?_⟩, ?_, ?_⟩, fun c hcm => ?_⟩
    · exact (sb.2 _ D.TIz).trans (hk _ _ D.TIz D.TITO D.TIi1 D.TIi2 zU)
    · exact (sb.2 _ D.TOz).trans O'
    · exact j1.at_ fun o e => (sb.2 _ D.i1z).trans e
    · exact j2.at_ fun o e => (sb.2 _ D.i2z).trans e
    · have lt : c < s.heap.objs.size := by
        have cases5 : c = Z ∨ c = U ∨ c = O ∨ c = p ∨ c = q := by simpa using hcm
        rcases cases5 with e | e | e | e | e
        · rw [e]; exact lz
        · rw [e]; exact Heap.lt_size zU
        · rw [e]; exact Heap.lt_size zO
        · obtain ⟨_, e1, _⟩ := i1.obj
          rw [e]; exact Heap.lt_size e1
        · obtain ⟨_, e1, _⟩ := i2.obj
          rw [e]; exact Heap.lt_size e1
      rw [upd_ne (Nat.ne_of_lt lt)]
      exact (hf c hcm).1
  done := by
    intro X hP hw hK hc i pins s σ H E I hf st hg
    subst hP hw hK
    obtain ⟨zz, zU, ⟨x0, y0, zO⟩, i1, i2⟩ := st
    obtain ⟨xs, ys, hqx, hqy, hend⟩ := hg
    obtain ⟨its, rv, s1⟩ := hqx.of I
    obtain ⟨its2, rv2, s2⟩ := hqy.of I
    have n1 := rv.length
    have n2 := rv2.length
    have he : its.toArray[i]? = none ∨ its2.toArray[i]? = none := by
      rcases hend with e | e
      · exact .inl (by simp; omega)
      · exact .inr (by simp; omega)
    exact pyNext_stop (I.ok.hd hc) D zz zU zO i1 i2 s1 s2 he fun h' hk => ⟨rfl, I.turnedL (t' := s.toks) (ch := [Z, U, O, p, q]) (fun c o hb e =>
      hk c o (fun n => hb (by simp [n])) (fun n => hb (by simp [n])) (fun n => hb (by simp [n])) (fun n => hb (by simp [n])) e) hf⟩
  self := fun A i s Q E st h => wpAny_pyIter_zip st.1 h
def iZipB (K : PySem.W.Frag) (ta : TA) : TI := fun σ H R => ta σ H fun vs H1 => ∃ k j a b xs ys, vs = [.ref a, .ref b] ∧ SqK K k H1 a xs ∧ SqK K j H1 b ys ∧ R (ItzB K k j a b) H1
theorem pi_zipB {X : Cx} {e e2 : Expr} {ta : TA} {p pos tpos : Pos} {elts : List Expr} {kk : Nat} (hg : Gl X "zip") (hm : X.mg "zip" = none) (ha : PA X [e, e2] ta) (hs : starEach [e, e2] X.env = (false, eval e X.env) :: starEach [e2] X.env := by rfl) (hpl : (backTo pos (starEach [e2] X.env)).any (·.1) = false := by rfl) :
    PI X (.Tuple elts kk tpos) (.Call (.Name "zip" p) [e, e2] [] pos) (iZipB X.K ta) := by
  refine ⟨fun pins s σ H R I h => ?_⟩
  refine Call_ (ld_blt I hg hm PyProof.Rows.boot_zip (PyProof.Rows.callWith_type1 (thn (ha.run pos pins s σ H _ I h) fun us s1 ⟨vs, H1, I1, r1, k, j, a, b, xs, ys, ex, hqx, hqy, fin⟩ => ?_) hs hpl))
  subst ex
  cases r1 with
  | cons r rr =>
    cases rr with
    | cons r' rr =>
      cases rr
      cases r
      cases r'
      have five : ∀ c, c ∈ [s1.heap.objs.size + 4, s1.heap.objs.size + 2, s1.heap.objs.size + 3, s1.heap.objs.size, s1.heap.objs.size + 1] → FpOk X pins H1 c := fun c hcm => by
        have le : s1.heap.objs.size ≤ c := by
          simp only [List.mem_cons, List.not_mem_nil, or_false] at hcm
          rcases hcm with z | z | z | z | z <;> (rw [z]; first | exact Nat.le_add_right _ _ | exact Nat.le_refl _)
        exact I1.fpOk le (I1.hok.fresh le)
      obtain ⟨its, rv, q1⟩ := hqx.of I1
      obtain ⟨its2, rv2, q2⟩ := hqy.of I1
      refine call_zipB q1 q2 fun h' zz zU zO g1 g2 hk => wpAny_pyIter_zip zz ?_
      have I2 : Inv X pins σ H1 { s1 with heap := h' } := I1.kept (t' := s1.toks) hk
      exact ⟨s1.heap.objs.size + 4, [s1.heap.objs.size + 4, s1.heap.objs.size + 2, s1.heap.objs.size + 3, s1.heap.objs.size, s1.heap.objs.size + 1], _, _, H1, rfl, I2, turn_zipB (PySem.W.ktu_apart s1.heap.objs.size a b q1.lt q2.lt), ⟨zz, zU, ⟨_, _, zO⟩, g1, g2⟩, five, fin⟩
end DLz
/-! ### over data -/
namespace DM
open L2 PyProof.Rows PySem.Spec PySem DLz
/-- a list or a tuple of data -/
def sqD (k : Bool) (ds : List PyData) : PyData := match k with
  | true => .tuple ds
  | false => .list ds
section
variable {X : Cx} {a b : Expr} {ρ ρ1 : List Sl} {ds es : List PyData} {p pos tpos : Pos} {elts : List Expr} {kk : Nat}
theorem sqK_of {K : PySem.W.Frag} {G H : Hp} {k : Bool} {v : V} (e : Ex G H) (h : Da K G v (sqD k ds)) : ∃ l xs, v = .ref l ∧ SqK K k H l xs ∧ DaAll K G xs ds ∧ ∀ H', Ex H H' → SqK K k H' l xs := by
  cases k with
  | true =>
    cases h with
    | tup h1 h2 => exact ⟨_, _, rfl, sqT_ex e h1, h2, fun H' g => sqT_ex (e.trans g) h1⟩
  | false =>
    cases h with
    | lst h1 h2 => exact ⟨_, _, rfl, SqL.of (e _ _ h1), h2, fun H' g => SqL.of (g _ _ (e _ _ h1))⟩
/-- the pairs of a zip -/
def zipD (ds es : List PyData) : List PyData := (ds.zip es).map fun z => .tuple [z.1, z.2]
theorem i_zip [Tabl] {k j : Bool} (h : EA X [a, b] ρ [sqD k ds, sqD j es] ρ1) (hm : X.mg "zip" = none) (hg : Gl X "zip" := by rfl) (hs : starEach [a, b] X.env = (false, eval a X.env) :: starEach [b] X.env := by rfl) (hpl : (backTo pos (starEach [b] X.env)).any (·.1) = false := by rfl) :
    Iter X (.Tuple elts kk tpos) (.Call (.Name "zip" p) [a, b] [] pos) ρ (zipD ds es) ρ1 := pi_imp (pi_zipB hg hm h hs hpl) fun σ H R ⟨F, G, ad, w, c⟩ => ⟨F, G, ad, w, fun vs H1 G1 ad1 e1 w1 p1 => by
  obtain ⟨v, u, rfl, pv, pu⟩ := daAll_two p1
  obtain ⟨l, xs, rfl, q1, d1, k1⟩ := sqK_of w1.gh pv
  obtain ⟨m, ys, rfl, q2, d2, k2⟩ := sqK_of w1.gh pu
  refine ⟨k, j, l, m, xs, ys, rfl, q1, q2, c _ H1 G1 ad1 e1 w1 fun H2 G2 g1 g2 => ?_⟩
  obtain ⟨l', xs', r1, r2, r3, r4⟩ := sqK_of (g1.trans g2) pv
  obtain ⟨m', ys', u1, u2, u3, u4⟩ := sqK_of (g1.trans g2) pu
  cases r1
  cases u1
  have n1 := daAll_len r3
  have n2 := daAll_len u3
  refine ⟨⟨xs', ys', r2, u2, ?_⟩, fun i d hi => ?_⟩
  · unfold zipD
    rw [List.length_map, List.length_zip]
    omega
  · unfold zipD at hi
    rw [List.getElem?_map] at hi
    cases ez : (ds.zip es)[i]? with
    | none => rw [ez] at hi; cases hi
    | some z =>
      rw [ez] at hi
      cases hi
      obtain ⟨z1, z2⟩ := z
      have hz := List.getElem?_zip_eq_some.mp ez
      obtain ⟨v1, hv1, pv1⟩ := daAll_get r3 hz.1
      obtain ⟨v2, hv2, pv2⟩ := daAll_get u3 hz.2
      refine ⟨⟨xs', ys', v1, v2, r2, u2, hv1, hv2⟩, fun x H' ⟨T, x1, y1, e1, e2, e3, f1, f2⟩ => ?_⟩
      have w1 := f1 xs' r2
      have w2 := f2 ys' u2
      rw [hv1] at w1
      rw [hv2] at w2
      cases w1
      cases w2
      subst e1 e3
      have hG : G2 T = none := g2.none e2
      exact ⟨upd G2 T (.tup [v1, v2]), Ex.new e2, Ext.new e2 hG, g2.both, .tup (SqT.of upd_same) (.cons (da_ex (Ex.new hG) (da_ex g1 pv1)) (.cons (da_ex (Ex.new hG) (da_ex g1 pv2)) .nil))⟩⟩
end
end DM
end part_DMz
section part_DMn
/-! comprehensions over mapped lists -/
namespace DM
open L2 PyProof.Rows PySem.Spec PySem
section
variable {X : Cx} {scope : Scope} {tg elt c : Expr} {vs js : List Nat} {ρ : List Sl} {α : Type} {f r : α → PyData} {ρt : α → List Sl} {p : α → Bool}
theorem cl_map [Tabl] (hj : ∀ j ∈ js, j ∈ vs) : ∀ xs : List α, (∀ x ∈ xs, Blk X scope (fun Y => TgD Y tg (f x) (wipeA vs 0 ρ) (ρt x) js)) → (∀ x ∈ xs, Blk X scope (fun Y => E Y elt (ρt x) (r x) (ρt x))) → (∀ x ∈ xs, Le (wipeA vs 0 (ρt x)) (wipeA vs 0 ρ)) →
    CL X scope tg [] elt vs (xs.map f) ρ (xs.map r) ρ
  | [], _, _, _ => .nil
  | x :: xs, h1, h2, h3 => .yes hj (h1 x List.mem_cons_self) (fun _ _ _ _ _ => ts_nil) (h2 x List.mem_cons_self) (.pre (h3 x List.mem_cons_self) (cl_map hj xs (fun y hy => h1 y (List.mem_cons_of_mem _ hy)) (fun y hy => h2 y (List.mem_cons_of_mem _ hy)) fun y hy => h3 y (List.mem_cons_of_mem _ hy)))
theorem cl_filter [Tabl] (hj : ∀ j ∈ js, j ∈ vs) : ∀ xs : List α, (∀ x ∈ xs, Blk X scope (fun Y => TgD Y tg (f x) (wipeA vs 0 ρ) (ρt x) js)) → (∀ x ∈ xs, Blk X scope (fun Y => T Y c (ρt x) (p x) (ρt x))) → (∀ x ∈ xs, Blk X scope (fun Y => E Y elt (ρt x) (r x) (ρt x))) → (∀ x ∈ xs, Le (wipeA vs 0 (ρt x)) (wipeA vs 0 ρ)) →
    CL X scope tg [c] elt vs (xs.map f) ρ ((xs.filter p).map r) ρ
  | [], _, _, _, _ => .nil
  | x :: xs, h1, h0, h2, h3 => by
    have ih := cl_filter hj xs (fun y hy => h1 y (List.mem_cons_of_mem _ hy)) (fun y hy => h0 y (List.mem_cons_of_mem _ hy)) (fun y hy => h2 y (List.mem_cons_of_mem _ hy)) fun y hy => h3 y (List.mem_cons_of_mem _ hy)
    have h0x := h0 x List.mem_cons_self
    cases hp : p x with
    | true =>
      rw [List.filter_cons_of_pos hp]
      rw [hp] at h0x
      exact .yes hj (h1 x List.mem_cons_self) (fun s H C cl fp => ts_one (h0x s H C cl fp)) (h2 x List.mem_cons_self) (.pre (h3 x List.mem_cons_self) ih)
    | false =>
      rw [List.filter_cons_of_neg (by rw [hp]; exact Bool.false_ne_true)]
      rw [hp] at h0x
      exact .no hj (h1 x List.mem_cons_self) (fun s H C cl fp => ts_one (h0x s H C cl fp)) (.pre (h3 x List.mem_cons_self) ih)
end
end DM
end part_DMn
section part_DMo
/-! repr of a list of one's own that stays so; sizes of what is shown; draws one behind another -/
namespace DM
open L2 PyProof.Rows PySem.Spec PySem DMr
section
variable {X : Cx} {x : Str} {ρ : List Sl} {ds : List PyData} {pos pn p2 : Pos}
/-- repr(x), x a list of one's own, which stays one's own -/
theorem e_reprO [Tabl] (k : Nat) (hd : PySem.W.nsIn X.K cStatics "sys.int_max_str_digits" = some none) (hr : X.A.units + 100 < cLine) (hgd : X.A.guards = some []) (hs : Shows (.list ds)) (hm : X.mg "repr" = none) (h : ρ[k]? = some (.own ds) := by rfl) (hg : Gl X "repr" := by rfl) (hN : X.N[k]? = some x := by rfl) (hv : Vis X.env.scope x := by first | exact Or.inl rfl | exact Or.inr (Or.inl rfl) | exact Or.inr (Or.inr rfl))
    (hdb : (x == ("__debug__" : Str)) = false := by decide) (hcd : (x == ("__classdict__" : Str)) = false := by decide) (he : starEach [.Name x p2] X.env = (false, eval (.Name x p2) X.env) :: starEach [] X.env := by rfl) (hpl : (backTo pos (starEach [] X.env)).any (·.1) = false := by rfl) :
    E X (.Call (.Name "repr" pn) [.Name x p2] [] pos) ρ (.str (PyData.list ds).shown) ρ :=
  pe_imp (pe_callB (cv_repr hd hr hgd hs) hg hm (by decide +kernel) (pa_cons (pe_var hN hv hdb hcd) pa_nil he) (by decide) (by decide) he hpl) fun σ H Q ⟨F, G, ad, w, q⟩ => by
    obtain ⟨l, xs, h1, h2, h3, h4⟩ := w.own_at h
    refine ⟨_, h1, H, Ex.refl H, .cons (.lst h2 (daAll_ex w.gh h3)) .nil, fun v H' G' e1 e2 e3 pv => ?_⟩
    cases pv
    exact q _ H' G ad (Ext.refl F G) (w.grow e1 (Ext.refl H G) (w.gh.trans e1)) (.str _)
end
/-! ### sizes -/
structure Sm (n k : Nat) (d : PyData) : Prop where
  w : wideD d = true
  s : shortD d = true
  n : nodes d ≤ n
  k : d.depth ≤ k
theorem Sm.mono {n m k j : Nat} {d : PyData} (h : Sm n k d) (h1 : n ≤ m) (h2 : k ≤ j) : Sm m j d := ⟨h.w, h.s, Nat.le_trans h.n h1, Nat.le_trans h.k h2⟩
theorem Sm.shows {n k : Nat} {d : PyData} (h : Sm n k d) (h1 : n ≤ 1200) (h2 : k ≤ 64) : Shows d := ⟨h.w, h.s, Nat.le_trans h.n h1, Nat.le_trans h.k h2⟩
theorem sms {n k : Nat} {ds : List PyData} (h : ∀ d ∈ ds, Sm n k d) : wideDs ds = true ∧ shortDs ds = true ∧ nodesAll ds ≤ n * ds.length ∧ PyData.depthAll ds ≤ k := by
  induction ds with
  | nil => exact ⟨by simp [wideDs], by simp [shortDs], by simp [nodesAll], by rw [PyData.depthAll]; omega⟩
  | cons d ds ih =>
    obtain ⟨h1, h2, h3, h4⟩ := ih fun x hx => h x (List.mem_cons_of_mem _ hx)
    have hd := h d List.mem_cons_self
    refine ⟨by simp [wideDs, hd.w, h1], by simp [shortDs, hd.s, h2], ?_, ?_⟩
    · have := hd.n
      rw [nodesAll, List.length_cons, Nat.mul_succ]
      omega
    · have := hd.k
      rw [PyData.depthAll]
      omega
theorem sm_list {n k : Nat} {ds : List PyData} (h : ∀ d ∈ ds, Sm n k d) : Sm (n * ds.length + 1) (k + 1) (.list ds) := by
  obtain ⟨h1, h2, h3, h4⟩ := sms h
  exact ⟨by rw [wideD]; exact h1, by rw [shortD]; exact h2, by rw [nodes]; omega, by rw [PyData.depth]; omega⟩
theorem sm_tup {n k : Nat} {ds : List PyData} (h : ∀ d ∈ ds, Sm n k d) : Sm (n * ds.length + 1) (k + 1) (.tuple ds) := by
  obtain ⟨h1, h2, h3, h4⟩ := sms h
  exact ⟨by rw [wideD]; exact h1, by rw [shortD]; exact h2, by rw [nodes]; omega, by rw [PyData.depth]; omega⟩
theorem sm_int {i : Int} (h : i.natAbs < 2 ^ 12801) : Sm 1 1 (.int i) := by
  refine ⟨?_, by simp [shortD], by simp [nodes], by rw [PyData.depth]; omega⟩
  rw [wideD]
  have z := PySem.Flt.log2_lt_of (show 0 < 12801 by decide) h
  exact decide_eq_true (by omega)
theorem sm_bool (b : Bool) : Sm 1 1 (.bool b) := ⟨by simp [wideD], by simp [shortD], by simp [nodes], by rw [PyData.depth]; omega⟩
theorem sm_none : Sm 1 1 .none := ⟨by simp [wideD], by simp [shortD], by simp [nodes], by rw [PyData.depth]; omega⟩
/-! ### draws one behind another -/
inductive Ch (R : Src → List PyData → Src → PyData → Prop) (args : List PyData) : Src → List PyData → Src → Prop
  | nil (t : Src) : Ch R args t [] t
  | cons {t t1 t2 : Src} {d : PyData} {rs : List PyData} : R t args t1 d → Ch R args t1 rs t2 → Ch R args t (d :: rs) t2
theorem ch_ex {R : Src → List PyData → Src → PyData → Prop} {args : List PyData} {O : Src → Prop} {Q : PyData → Prop} (h : ∀ t, O t → ∃ t' d, R t args t' d ∧ O t' ∧ Q d) : ∀ (n : Nat) (t : Src), O t → ∃ t' rs, Ch R args t rs t' ∧ rs.length = n ∧ (∀ d ∈ rs, Q d) ∧ O t'
  | 0, t, ht => ⟨t, [], .nil t, rfl, (fun _ h => nomatch h), ht⟩
  | n + 1, t, ht => by
    obtain ⟨t1, d, h1, h2, h3⟩ := h t ht
    obtain ⟨t', rs, h4, h5, h6, h7⟩ := ch_ex h n t1 h2
    refine ⟨t', d :: rs, .cons h1 h4, by rw [List.length_cons, h5], fun e he => ?_, h7⟩
    rcases List.mem_cons.mp he with rfl | he
    · exact h3
    · exact h6 e he
section
variable {X : Cx} {scope : Scope} {tg elt : Expr} {vs js : List Nat} {R : Src → List PyData → Src → PyData → Prop} {args : List PyData} {ρ : Src → List Sl} {ρt : Src → PyData → List Sl}
theorem ch_cl [Tabl] (hj : ∀ j ∈ js, j ∈ vs) (h1 : ∀ t y, Blk X scope (fun Y => TgD Y tg y (wipeA vs 0 (ρ t)) (ρt t y) js)) (h2 : ∀ t y t' d, R t args t' d → Blk X scope (fun Y => E Y elt (ρt t y) d (ρt t' y))) (h3 : ∀ t y, Le (wipeA vs 0 (ρt t y)) (wipeA vs 0 (ρ t))) :
    ∀ (ys rs : List PyData) (t t' : Src), ys.length = rs.length → Ch R args t rs t' → CL X scope tg [] elt vs ys (ρ t) rs (ρ t')
  | [], _, t, t', hl, c => by
    cases c with
    | nil => exact .nil
    | cons a b => exact nomatch hl
  | y :: ys, _, t, t', hl, c => by
    cases c with
    | nil => exact nomatch hl
    | @cons _ t1 _ d rs a b => exact .yes hj (h1 t y) (fun _ _ _ _ _ => ts_nil) (h2 t y t1 d a) (.pre (h3 t1 y) (ch_cl hj h1 h2 h3 ys rs t1 t' (by simpa using hl) b))
end
theorem map_of {α : Type} {f : α → PyData} {Q : α → Prop} : ∀ {rs : List PyData}, (∀ d ∈ rs, ∃ x, d = f x ∧ Q x) → ∃ xs : List α, rs = xs.map f ∧ ∀ x ∈ xs, Q x
  | [], _ => ⟨[], rfl, fun _ h => nomatch h⟩
  | d :: rs, h => by
    obtain ⟨x, rfl, hx⟩ := h d List.mem_cons_self
    obtain ⟨xs, rfl, hxs⟩ := map_of (rs := rs) fun e he => h e (List.mem_cons_of_mem _ he)
    refine ⟨x :: xs, rfl, fun z hz => ?_⟩
    rcases List.mem_cons.mp hz with rfl | hz
    · exact hx
    · exact hxs z hz
/-! ### enumerate with a test -/
def idxG {α : Type} (p : α → Bool) : List α → Nat → List PyData
  | [], _ => []
  | s :: ss, k => if p s then .int (k : Int) :: idxG p ss (k + 1) else idxG p ss (k + 1)
section
variable {α : Type} {X : Cx} {scope : Scope} {tg elt c : Expr} {vs js : List Nat} {ρ : List Sl} {p : α → Bool} {f : α → PyData} {ρt : Nat → α → List Sl}
theorem cl_enumG [Tabl] (hj : ∀ j ∈ js, j ∈ vs) : ∀ (ss : List α) (k : Nat), (∀ k s, Blk X scope (fun Y => TgD Y tg (.tuple [.int ((k : Nat) : Int), f s]) (wipeA vs 0 ρ) (ρt k s) js)) →
    (∀ k s, Blk X scope (fun Y => T Y c (ρt k s) (p s) (ρt k s))) → (∀ k s, Blk X scope (fun Y => E Y elt (ρt k s) (.int ((k : Nat) : Int)) (ρt k s))) → (∀ k s, Le (wipeA vs 0 (ρt k s)) (wipeA vs 0 ρ)) → CL X scope tg [c] elt vs (enumD (ss.map f) k) ρ (idxG p ss k) ρ
  | [], k, _, _, _, _ => .nil
  | s :: ss, k, h1, h2, h3, h4 => by
    have ih := cl_enumG hj ss (k + 1) h1 h2 h3 h4
    have h2x := h2 k s
    show CL X scope tg [c] elt vs (.tuple [.int (k : Int), f s] :: enumD (ss.map f) (k + 1)) ρ (if p s then .int (k : Int) :: idxG p ss (k + 1) else idxG p ss (k + 1)) ρ
    cases hp : p s with
    | true =>
      rw [hp] at h2x
      rw [if_pos rfl]
      exact .yes hj (h1 k s) (fun s H C cl fp => ts_one (h2x s H C cl fp)) (h3 k s) (.pre (h4 k s) ih)
    | false =>
      rw [hp] at h2x
      rw [if_neg Bool.false_ne_true]
      exact .no hj (h1 k s) (fun s H C cl fp => ts_one (h2x s H C cl fp)) (.pre (h4 k s) ih)
end
end DM
end part_DMo
section part_DMp
/-! stars, tuples of any size, lists unpacked -/
namespace DM
open L2 PyProof.Rows PySem.Spec PySem
section
variable {X : Cx} {e : Expr} {es rest : List Expr} {ρ ρ1 ρ2 ρ3 : List Sl} {ds fs : List PyData} {d : PyData} {pos p2 sp : Pos} {k : Bool}
/-- *e, .. in a display or a call -/
theorem ea_star [Tabl] (h : E X e ρ (match k with
    | true => .tuple ds
    | false => .list ds) ρ1) (hr : EA X es ρ1 fs ρ2) (hs : starEach (.Starred e sp :: es) X.env = (true, eval e X.env) :: starEach es X.env := by rfl) : EA X (.Starred e sp :: es) ρ (ds ++ fs) ρ2 :=
  pa_imp (StX.pa_star h hr hs) fun σ H Q ⟨F, G, ad, w, c⟩ => ⟨F, G, ad, w, fun v H1 G1 ad1 e1 w1 p1 => by
    cases k with
    | true =>
      cases p1 with
      | tup h1 h2 => exact ⟨_, _, rfl, .inl (sqT_ex w1.gh h1), F, G1, ad1, w1, fun vs H2 G2 ad2 e2 w2 p2 => c _ H2 G2 ad2 (e1.trans e2) w2 (daAll_app (daAll_ex e2.1 h2) p2)⟩
    | false =>
      cases p1 with
      | lst h1 h2 => exact ⟨_, _, rfl, .inr (SqL.of (w1.gh _ _ h1)), F, G1, ad1, w1, fun vs H2 G2 ad2 e2 w2 p2 => c _ H2 G2 ad2 (e1.trans e2) w2 (daAll_app (daAll_ex e2.1 h2) p2)⟩⟩
/-- t + u, tuples of any size -/
theorem ov_catA (hz : ds.length + fs.length ≤ 1000000) : OpV X (binaryOp .Add) (.tuple ds) (.tuple fs) (.tuple (ds ++ fs)) := op_imp op_catA fun x y H Q ⟨G, e, p1, p2, c⟩ => by
  cases p1 with
  | tup h1 h2 =>
    cases p2 with
    | tup h3 h4 =>
      refine ⟨_, _, _, _, rfl, rfl, sqT_ex e h1, sqT_ex e h3, by rw [daAll_len h2, daAll_len h4]; exact Nat.le_trans hz sizeLine_big, fun z => ?_, fun z0 z => ?_, fun z0 z l hl => new_end e c hl (daAll_app h2 h4)⟩
      · subst z
        cases h2
        exact same_end e c (.tup h3 h4)
      · subst z
        cases h4
        rw [List.append_nil] at c
        exact same_end e c (.tup h1 h2)
/-- t[a:b] of a tuple -/
theorem e_sliceT [Tabl] {lo hi : Option Expr} {u v : Option Int} (he : E X e ρ (.tuple ds) ρ1) (hl : PoD X lo ρ1 u ρ2) (hh : PoD X hi ρ2 v ρ3) : E X (.Subscript e (.Slice lo hi none p2) pos) ρ (.tuple (cutD ds u v)) ρ3 :=
  pe_imp (pe_slice sl_tupA he hl hh) fun σ H Q ⟨F, G, ad, w, c⟩ => ⟨F, G, ad, w, fun x H1 G1 ad1 e1 w1 p1 => ⟨F, G1, ad1, w1, fun H2 G2 ad2 e2 w2 => ⟨F, G2, ad2, w2, fun H3 G3 ad3 e3 w3 => by
    cases p1 with
    | tup h1 h2 =>
      have n := daAll_len h2
      have all := (e1.trans e2).trans e3
      have h1' := sqT_ex (Ex.trans e2.1 e3.1) h1
      have h2' := daAll_ex (Ex.trans e2.1 e3.1) h2
      refine ⟨_, _, rfl, sqT_ex w3.gh h1', fun z => ?_, fun z l hl => ?_⟩
      · have ec : cutD ds u v = ds := by
          unfold cutD
          rw [n] at z
          rw [z.1, z.2, List.drop_zero, Nat.sub_zero, List.take_length]
        rw [ec] at c
        exact c _ H3 G3 ad3 all w3 (.tup h1' h2')
      · have hg := w3.gh.none hl
        have hG : G3 l = none := hg
        refine c (.ref l) _ (upd G3 l (.tup _)) ad3 (all.trans (Ext.new (w3.fh.none hl) hG)) (w3.grow (Ex.new hl) (Ext.new hl hG) w3.gh.both) (.tup (SqT.of upd_same) (daAll_ex (Ex.new hG) (daAll_cut u v h2')))⟩⟩⟩
/-- [..] * n -/
theorem oo_rep {n : Nat} (hn : n ≤ 1000) (hz : ds.length ≤ 1000) : OpO X (binaryOp .Mult) (.list ds) (.int (n : Int)) (List.replicate n ds).flatten := op_imp op_rep fun x y H Q ⟨G, e, p1, p2, c⟩ => by
  cases p1 with
  | lst h1 h2 =>
    cases p2
    refine ⟨_, _, _, rfl, rfl, e _ _ h1, by omega, by omega, ?_, fun l hl => ?_⟩
    · rw [daAll_len h2, Int.toNat_natCast]
      have := Nat.mul_le_mul hz hn
      have := sizeLine_big
      omega
    · rw [Int.toNat_natCast]
      exact c l _ hl (daAll_rep h2 n)
/-- (a, b, ..) = a list -/
theorem g_lst [Tabl] {js : List Nat} {kk : Nat} (hc : X.calm = true) (h : TgsD X es ds ρ ρ1 js) (hn : (assignEach es X.env).length = ds.length := by rfl) (hst : (assignEach es X.env).findIdx? (·.1) = none := by rfl) : TgD X (.Tuple es kk pos) (.list ds) ρ ρ1 js :=
  pg_imp (pg_lst (n := ds.length) hc h hn hst) fun v σ H Q ⟨F, G, ad, w, p, c⟩ => by
    cases p with
    | lst p1 p2 => exact ⟨_, _, rfl, SqL.of (w.gh _ _ p1), daAll_len p2, F, G, ad, w, p2, c⟩
/-- a, b = e1, a new list -/
theorem s_parDO [Tabl] (i j : Nat) {a b : Expr} {d1 : PyData} {x y : Str} {px py pt : Pos} {kt k2 : Nat} {pt2 : Pos} (ha : E X a ρ d1 ρ1) (hb : EO X b ρ1 ds ρ2) (hc : X.calm = true) (hN : X.N.Nodup) (hi : X.N[i]? = some x := by rfl) (hj : X.N[j]? = some y := by rfl) (hij : i ≠ j := by decide)
    (hx : X.env.scope.names.lookup x = some .local := by rfl) (hy : X.env.scope.names.lookup y = some .local := by rfl) (hl : i < ρ2.length := by exact Nat.le_of_ble_eq_true rfl) (hl2 : j < ρ2.length := by exact Nat.le_of_ble_eq_true rfl)
    (h1 : starEach [a, b] X.env = (false, eval a X.env) :: starEach [b] X.env := by rfl) (h2 : starEach [b] X.env = (false, eval b X.env) :: starEach [] X.env := by rfl)
    (hw : swappedStores [.Tuple [.Name x px, .Name y py] kt pt] (.Tuple [a, b] k2 pt2) X.env = pure (some [x, y]) := by rfl)
    (hs : swapsWithSole [.Tuple [.Name x px, .Name y py] kt pt] (.Tuple [a, b] k2 pt2) pos.line X.env = pure false := by rfl) :
    S1 X (.Assign [.Tuple [.Name x px, .Name y py] kt pt] (.Tuple [a, b] k2 pt2) pos) ρ (.nx ((ρ2.set i (.dat d1)).set j (.own ds))) :=
  ps_imp (ps_par hc hN hi hj hij hx hy (pa_cons ha (pa_cons hb pa_nil h2) h1) hw hs) fun D σ H ⟨F, G, ad, w, c⟩ => ⟨F, G, ad, w, fun v H1 G1 ad1 e1 w1 p1 => ⟨F, G1, ad1, w1, fun l xs H2 G2 ad2 e2 w2 q1 q2 q3 q4 q5 => ⟨v, .ref l, rfl, c _ H2 G2 _ (e1.trans e2) ((w2.set (da_ex e2.1 p1) hl).setO q4 q5 q1 q2 (fun k q => by
    by_cases h : k = i
    · rw [if_pos h] at q
      cases q
    · rw [if_neg h] at q
      exact q3 k q) (by rw [List.length_set]; exact hl2))⟩⟩⟩
end
end DM
end part_DMp
section part_DMq
/-! list(range(n)) -/
namespace DM
open L2 PyProof.Rows PySem.Spec PySem
section
variable {X : Cx} {e a : Expr} {ρ ρ1 : List Sl} {pos p0 : Pos}
theorem rgV_rangeD {K : PySem.W.Frag} {G : Hp} (n : Int) : DaAll K G (rgV 0 n) (rangeD 0 n.toNat) := by
  unfold rgV rangeD
  rw [Int.sub_zero]
  have : ∀ l : List Nat, DaAll K G (l.map fun i : Nat => V.int (0 + (i : Int))) (l.map fun i : Nat => PyData.int (0 + (i : Int))) := fun l => by
    induction l with
    | nil => exact .nil
    | cons i l ih => exact .cons (.int _) ih
  exact this _
theorem eo_listRg [Tabl] {n : Int} (h : E X a ρ (.int n) ρ1) (hc : X.calm = true) (ml : X.mg "list" = none) (mr : X.mg "range" = none) (hz : n ≤ 1000000) (h0 : -1000000 ≤ n) (hg : Gl X "list" := by rfl) (hr : Gl X "range" := by rfl)
    (na : starEach [a] X.env = (false, eval a X.env) :: starEach [] X.env := by rfl) (nb : starEach [.Call (.Name "range" p0) [a] [] pos] X.env = (false, eval (.Call (.Name "range" p0) [a] [] pos) X.env) :: starEach [] X.env := by rfl) {pos2 p2 : Pos} :
    EO X (.Call (.Name "list" p2) [.Call (.Name "range" p0) [a] [] pos] [] pos2) ρ (rangeD 0 n.toNat) ρ1 :=
  pe_imp (pe_listRg hc hg ml (prg_1 hr mr h na) nb) fun σ H Q ⟨F, G, ad, w, k⟩ => ⟨F, G, ad, w, fun v H1 G1 ad1 e1 w1 p1 => by
    cases p1
    refine ⟨n, rfl, ⟨by decide, by decide, by omega, by omega, by omega⟩, fun l hl => ?_⟩
    have hg := w1.gh.none hl
    refine k l _ _ G1 ad1 e1 (w1.grow (Ex.new hl) (Ext.refl _ _) (w1.gh.mut hg)) (w1.fh.none hl) hg (fun j q => ?_) upd_same (rgV_rangeD n)
    obtain ⟨o, ho⟩ := w1.there j l q
    rw [hl] at ho; cases ho⟩
end
/-- a list that is, but for the sequence, what f makes of some -/
theorem perm_map {α : Type} {f : α → PyData} {g : PyData → α} (hg : ∀ x, g (f x) = x) {l : List α} {rs : List PyData} (h : rs.Perm (l.map f)) : ∃ o : List α, o.Perm l ∧ rs = o.map f := by
  have h1 : ∀ d ∈ rs, ∃ x, d = f x ∧ True := fun d hd => by
    obtain ⟨x, _, rfl⟩ := List.mem_map.mp (h.mem_iff.mp hd)
    exact ⟨x, rfl, trivial⟩
  obtain ⟨o, rfl, _⟩ := map_of h1
  refine ⟨o, ?_, rfl⟩
  have h2 := h.map g
  have e : ∀ l : List α, (l.map f).map g = l := fun l => by
    rw [List.map_map]
    have : g ∘ f = id := funext hg
    rw [this, List.map_id]
  rw [e, e] at h2
  exact h2
end DM
end part_DMq
section part_Num
/-! Plain numbers: sizes, fractions. -/
namespace Num
open PySem L2
/-! ### sizes -/
def Sz (n : Nat) (i : Int) : Prop := i.natAbs < 2 ^ n
theorem Sz.mono {n m : Nat} {i : Int} (h : Sz n i) (le : n ≤ m) : Sz m i := Nat.lt_of_lt_of_le h (Nat.pow_le_pow_right (by decide) le)
theorem Sz.mul {n m : Nat} {i j : Int} (h : Sz n i) (g : Sz m j) : Sz (n + m) (i * j) := wide_lt h g
theorem Sz.add {n m k : Nat} {i j : Int} (h : Sz n i) (g : Sz m j) (hn : n < k) (hm : m < k) : Sz k (i + j) := by
  have h1 := h.mono (show n ≤ k - 1 by omega)
  have h2 := g.mono (show m ≤ k - 1 by omega)
  have h3 := Int.natAbs_add_le i j
  unfold Sz at h1 h2 ⊢
  have e : 2 ^ k = 2 ^ (k - 1) + 2 ^ (k - 1) := by rw [← Nat.two_mul, ← Nat.pow_succ', show (k - 1).succ = k by omega]
  omega
theorem Sz.neg {n : Nat} {i : Int} (h : Sz n i) : Sz n (-i) := by unfold Sz; rw [Int.natAbs_neg]; exact h
theorem Sz.sub {n m k : Nat} {i j : Int} (h : Sz n i) (g : Sz m j) (hn : n < k) (hm : m < k) : Sz k (i - j) := by
  rw [Int.sub_eq_add_neg]
  exact h.add g.neg hn hm
theorem Sz.cmul {n m : Nat} {i j : Int} (h : Sz n i) (g : Sz m j) (z : n + m < 999998) : CMulW i j :=
  wide_mul (h.mono (Nat.le_succ n)) (g.mono (Nat.le_succ m)) (Nat.succ_pos n) (Nat.succ_pos m) (by omega)
theorem Sz.log {n : Nat} {i : Int} (h : Sz n i) (z : n < 9000) : i.natAbs.log2 < 9000 := Nat.lt_of_lt_of_le (PySem.Flt.log2_lt_of (Nat.succ_pos n) (h.mono (Nat.le_succ n))) z
/-! ### fractions -/
abbrev fr (p q : Int) : PyData := .tuple [.int p, .int q]
def gc (p q : Int) : Int := ((Nat.gcd p.natAbs q.natAbs : Nat) : Int)
def sg (p q : Int) : Int := if q < 0 then -gc p q else gc p q
def num (p q : Int) : Int := p.fdiv (sg p q)
def den (p q : Int) : Int := q.fdiv (sg p q)
abbrev frac (p q : Int) : PyData := fr (num p q) (den p q)
theorem gc_pos {p q : Int} (h : q ≠ 0) : 0 < gc p q := by
  unfold gc
  have : 0 < Nat.gcd p.natAbs q.natAbs := Nat.gcd_pos_of_pos_right _ (by omega)
  omega
theorem sg_ne {p q : Int} (h : q ≠ 0) : sg p q ≠ 0 := by
  have := gc_pos (p := p) h
  unfold sg
  split <;> omega
theorem sg_size {n : Nat} {p q : Int} (h : q ≠ 0) (hq : Sz n q) : Sz n (sg p q) := by
  have h1 : Nat.gcd p.natAbs q.natAbs ≤ q.natAbs := Nat.gcd_le_right _ (by omega)
  have h2 : (sg p q).natAbs = Nat.gcd p.natAbs q.natAbs := by
    unfold sg gc
    split
    · rw [Int.natAbs_neg, Int.natAbs_natCast]
    · rw [Int.natAbs_natCast]
  unfold Sz at hq ⊢
  omega

theorem Sz.of_le {n : Nat} {i j : Int} (h : Sz n j) (le : i.natAbs ≤ j.natAbs) : Sz n i := Nat.lt_of_le_of_lt le h
theorem natAbs_fdiv_le (a b : Int) (hb : b ∣ a) : (a.fdiv b).natAbs ≤ a.natAbs := by
  obtain ⟨c, rfl⟩ := hb
  by_cases h : b = 0
  · subst h
    simp
  · rw [Int.mul_fdiv_cancel_left c h, Int.natAbs_mul]
    exact Nat.le_mul_of_pos_left _ (by omega)
theorem gc_dvd_l (p q : Int) : gc p q ∣ p := by
  unfold gc
  exact Int.ofNat_dvd_left.mpr (Nat.gcd_dvd_left _ _)
theorem gc_dvd_r (p q : Int) : gc p q ∣ q := by
  unfold gc
  exact Int.ofNat_dvd_left.mpr (Nat.gcd_dvd_right _ _)
theorem sg_dvd_l (p q : Int) : sg p q ∣ p := by
  unfold sg
  split
  · exact Int.neg_dvd.mpr (gc_dvd_l p q)
  · exact gc_dvd_l p q
theorem sg_dvd_r (p q : Int) : sg p q ∣ q := by
  unfold sg
  split
  · exact Int.neg_dvd.mpr (gc_dvd_r p q)
  · exact gc_dvd_r p q
theorem num_size {n : Nat} {p : Int} (q : Int) (h : Sz n p) : Sz n (num p q) := h.of_le (natAbs_fdiv_le _ _ (sg_dvd_l p q))
theorem den_size {n : Nat} {q : Int} (p : Int) (h : Sz n q) : Sz n (den p q) := h.of_le (natAbs_fdiv_le _ _ (sg_dvd_r p q))
theorem den_eq {p q : Int} (h : q ≠ 0) : den p q * sg p q = q := by
  unfold den
  obtain ⟨c, hc⟩ := sg_dvd_r p q
  have e : q.fdiv (sg p q) = c := by
    have : (sg p q * c).fdiv (sg p q) = c := Int.mul_fdiv_cancel_left c (sg_ne h)
    rw [← hc] at this
    exact this
  rw [e, Int.mul_comm]
  exact hc.symm
theorem num_eq {p q : Int} (h : q ≠ 0) : num p q * sg p q = p := by
  unfold num
  obtain ⟨c, hc⟩ := sg_dvd_l p q
  have e : p.fdiv (sg p q) = c := by
    have : (sg p q * c).fdiv (sg p q) = c := Int.mul_fdiv_cancel_left c (sg_ne h)
    rw [← hc] at this
    exact this
  rw [e, Int.mul_comm]
  exact hc.symm
theorem den_pos {p q : Int} (h : q ≠ 0) : 0 < den p q := by
  have e := den_eq (p := p) h
  have g := gc_pos (p := p) h
  by_cases hq : q < 0
  · have s : sg p q = -gc p q := by unfold sg; rw [if_pos hq]
    rw [s] at e
    by_cases hd : 0 < den p q
    · exact hd
    · have h1 : 0 ≤ den p q * -gc p q := by
        rw [Int.mul_neg, ← Int.neg_mul]
        exact Int.mul_nonneg (by omega) (by omega)
      omega
  · have s : sg p q = gc p q := by unfold sg; rw [if_neg hq]
    rw [s] at e
    by_cases hd : 0 < den p q
    · exact hd
    · have h1 : 0 ≤ -den p q * gc p q := Int.mul_nonneg (by omega) (by omega)
      rw [Int.neg_mul] at h1
      omega
/-- the same fraction, both sides multiplied -/
theorem gc_mul {p q c : Int} (hc : 0 < c) : gc (p * c) (q * c) = gc p q * c := by
  unfold gc
  rw [Int.natAbs_mul, Int.natAbs_mul, Nat.gcd_mul_right, Int.natCast_mul]
  congr 1
  omega
theorem sg_mul {p q c : Int} (hc : 0 < c) : sg (p * c) (q * c) = sg p q * c := by
  unfold sg
  rw [gc_mul hc]
  by_cases hq : q < 0
  · have : q * c < 0 := Int.mul_neg_of_neg_of_pos hq hc
    rw [if_pos this, if_pos hq, Int.neg_mul]
  · have : ¬ q * c < 0 := by
      have := Int.mul_nonneg (show 0 ≤ q by omega) (show 0 ≤ c by omega)
      omega
    rw [if_neg this, if_neg hq]
theorem num_mul {p q c : Int} (hq : q ≠ 0) (hc : 0 < c) : num (p * c) (q * c) = num p q := by
  unfold num
  rw [sg_mul hc, Int.mul_fdiv_mul_of_pos_left _ _ hc]
theorem den_mul {p q c : Int} (hq : q ≠ 0) (hc : 0 < c) : den (p * c) (q * c) = den p q := by
  unfold den
  rw [sg_mul hc, Int.mul_fdiv_mul_of_pos_left _ _ hc]
theorem sg_negs {p q : Int} (hq : q ≠ 0) : sg (-p) (-q) = -sg p q := by
  unfold sg gc
  rw [Int.natAbs_neg, Int.natAbs_neg]
  by_cases h : q < 0
  · rw [if_pos h, if_neg (by omega), Int.neg_neg]
  · rw [if_neg h, if_pos (by omega)]
theorem num_negs {p q : Int} (hq : q ≠ 0) : num (-p) (-q) = num p q := by
  unfold num
  rw [sg_negs hq, Int.neg_fdiv_neg]
theorem den_negs {p q : Int} (hq : q ≠ 0) : den (-p) (-q) = den p q := by
  unfold den
  rw [sg_negs hq, Int.neg_fdiv_neg]
theorem sg_zero {q : Int} (hq : q ≠ 0) : sg 0 q = q := by
  unfold sg gc
  rw [Int.natAbs_zero, Nat.gcd_zero_left]
  split <;> omega
theorem sg_self {q : Int} (hq : q ≠ 0) : sg q q = q := by
  unfold sg gc
  rw [Nat.gcd_self]
  split <;> omega
end Num
end part_Num
section part_K00a
namespace K00
open L2 PyProof.Rows PySem.Spec PySem DM Num
def top (i : Nat) : Stmt := PySem.Challenge.pw_everygust_k00_errors.main.body.getD i (.Pass ⟨0, 0, 0, 0⟩)
instance noTabs : Tabl := ⟨fun _ => []⟩
theorem tbk0 {K : PySem.W.Frag} {F G H : Hp} : Tbk K F G H := ⟨fun p hp => (nomatch hp), fun p hp => (nomatch hp), fun p hp => (nomatch hp)⟩
end K00
end part_K00a
section part_K00c
namespace K00
open L2 PyProof.Rows PySem.Spec PySem DM Num
/-! ### the law's draws -/
abbrev sSource : Stmt := top 15
abbrev sPick : Stmt := top 16
abbrev sOf : Stmt := top 17
--
--
--
--
/-- a source that may be drawn from -/
structure Ok (t : Src) : Prop where
  more : moreOk t
  few : t.more.length < 1000
theorem Ok.left {t : Src} (h : Ok t) (n : Int) : Ok { t with left := n } := ⟨h.more, h.few⟩
theorem Ok.mixed {t : Src} (h : Ok t) (n : Int) : Ok { t with mixed := n } := ⟨h.more, h.few⟩
theorem Ok.turn {t : Src} (h : Ok t) (n : Int) : Ok { t with turn := n } := ⟨h.more, h.few⟩
theorem Ok.cells {t : Src} (h : Ok t) (c : List Int) : Ok { t with cells := c } := ⟨h.more, h.few⟩
theorem hu_rm {k : Nat} {A : Around} (h : Rm k A) : A.units + 1 < cLine := hu_of h.1
section
variable {P : Program} {w : World} {K : PySem.W.Frag} {mg : Str → Option Value} {base : Heap}
/-! #### _law_pick -/
def prePick (t : Src) (ds : List PyData) : Prop := Ok t ∧ ∃ m : Int, ds = [.int m] ∧ Sz 900 m
def postPick (t : Src) (ds : List PyData) (t' : Src) (d : PyData) : Prop := Ok t' ∧ ∃ m n : Int, ds = [.int m] ∧ d = .int n ∧ 0 ≤ n ∧ (n < m ∨ n = 0)
theorem scPick : FnScope ["source", "many", "left", "mixed"] ["source", "many"] (defScope sPick) := ⟨rfl, rfl, rfl, by decide +kernel, rfl, by decide +kernel, by decide +kernel⟩
abbrev cPick (P : Program) (w : World) (K : PySem.W.Frag) (mg : Str → Option Value) (base : Heap) (a : CxA) : Cx := cx P w K mg base ["source", "many", "left", "mixed"] "_law_pick" sPick a
theorem pick_loop (m_len : mg "len" = none) (m : Int) : ∀ (k : Nat) (t : Src), t.cells.length = k → Ok t → ∃ (t' : Src) (n : Nat), Ok t' ∧ ∀ (a : CxA), Rm 0 (cPick P w K mg base a).A → ∀ s l,
    Wh (cPick P w K mg base a) (whC (bodyAt sPick 0)) (lpB (bodyAt sPick 0)) n [.src s l t, .dat (.int m), .un, .un] (.nx [.src s l t', .dat (.int m), .un, .un]) := by
  intro k
  induction k with
  | zero =>
    intro t hk ht
    refine ⟨t, 0, ht, fun a hr s l => ?_⟩
    have hu := hu_rm hr
    refine .done (T.to (t_w (tw_and (t_cmp (e_var 1) e_int ov_gt) (fun h => (tw_and (t_cmp (e_src 0 (src_left · _) hu) e_int ov_lt) (fun h => (tw_and1 (t_cmp (e_srcLen 0 hu m_len) e_int ov_gt))) (fun h => rfl))) (fun h => rfl))) ?_)
    rw [hk]
    simp
  | succ k ih =>
    intro t hk ht
    by_cases hc : 1 < m ∧ t.left < 2
    · have hlast : t.cells[t.cells.length - 1]? = some (t.cells[t.cells.length - 1]'(by omega)) := List.getElem?_eq_getElem _
      obtain ⟨t', n, ht', h⟩ := ih { t with cells := t.cells.dropLast, left := t.cells[t.cells.length - 1]'(by omega) } (by show t.cells.dropLast.length = k; rw [List.length_dropLast]; omega) ⟨ht.more, ht.few⟩
      refine ⟨t', n + 1, ht', fun a hr s l => ?_⟩
      have hu := hu_rm hr
      refine .nx (T.to (t_w (tw_and (t_cmp (e_var 1) e_int ov_gt) (fun h => (tw_and (t_cmp (e_src 0 (src_left · _) hu) e_int ov_lt) (fun h => (tw_and1 (t_cmp (e_srcLen 0 hu m_len) e_int ov_gt))) (fun h => rfl))) (fun h => rfl))) ?_) (s_cons (s_srcSet 0 (e_srcPop 0 hu rfl hlast) hu (put_left · _ (show moreOk { t with cells := t.cells.dropLast } from ht.more) _) rfl ht.few) s_nil') (h a hr s l)
      rw [decide_eq_true hc.1, decide_eq_true hc.2, hk]
      simp
    · refine ⟨t, 0, ht, fun a hr s l => ?_⟩
      have hu := hu_rm hr
      refine .done (T.to (t_w (tw_and (t_cmp (e_var 1) e_int ov_gt) (fun h => (tw_and (t_cmp (e_src 0 (src_left · _) hu) e_int ov_lt) (fun h => (tw_and1 (t_cmp (e_srcLen 0 hu m_len) e_int ov_gt))) (fun h => rfl))) (fun h => rfl))) ?_)
      by_cases h1 : 1 < m
      · have h2 : ¬ t.left < 2 := fun z => hc ⟨h1, z⟩
        rw [decide_eq_false h2, Bool.false_and, Bool.and_false]
      · rw [decide_eq_false h1, Bool.false_and]
theorem max_one {m : Int} : (if m > 1 then m else 1) ≠ 0 ∧ (Sz 900 m → Sz 901 (if m > 1 then m else 1)) := by
  by_cases h : m > 1
  · rw [if_pos h]
    exact ⟨by omega, fun z => z.mono (by decide)⟩
  · rw [if_neg h]
    refine ⟨by decide, fun _ => ?_⟩
    have h1 : Sz 1 1 := by show (1 : Int).natAbs < 2 ^ 1; decide
    exact h1.mono (by decide)
theorem fmod_in {a b : Int} (h : 0 < b) : 0 ≤ a.fmod b ∧ a.fmod b < b := ⟨Int.fmod_nonneg_of_pos a h, Int.fmod_lt_of_pos a h⟩
theorem fmod_sz {a b : Int} {n : Nat} (h : 0 < b) (hb : Sz n b) : Sz n (a.fmod b) := by
  have z := fmod_in (a := a) h
  exact hb.of_le (by omega)
theorem ok_pick (hp : DM.Put K mg "_law_pick" sPick) (m_len : mg "len" = none) (m_max : mg "max" = none) (m_int : mg "int" = none) : ∃ R, Def P w K mg base "_law_pick" 1 ["source", "many"] (spS K R) ∧ ∀ t ds, prePick t ds → ∃ t' d, R t ds t' d ∧ postPick t ds t' d := by
  refine def_Sx hp scPick (fun _ _ _ _ _ _ us hl => match us, hl with | [_, _], _ => rfl) (by decide) (fun t ds h => ?_) (fun t0 ds h => ?_)
  · obtain ⟨_, m, rfl, _⟩ := h
    rfl
  · obtain ⟨ht0, m, rfl, hm⟩ := h
    obtain ⟨t, n, ht, hw⟩ := pick_loop (P := P) (w := w) (K := K) (base := base) m_len m t0.cells.length t0 rfl ht0
    by_cases hc : m < 2 ∨ 1 < t.left
    · refine ⟨{ t with left := t.left.fdiv (if m > 1 then m else 1) }, .int (t.left.fmod (if m > 1 then m else 1)), ⟨ht.left _, m, _, rfl, rfl, ?_⟩, fun a hr s l => ?_⟩
      · by_cases h : m > 1
        · rw [if_pos h]
          have z := fmod_in (a := t.left) (show 0 < m by omega)
          exact ⟨z.1, .inl z.2⟩
        · rw [if_neg h]
          have z := fmod_in (a := t.left) (show (0 : Int) < 1 by decide)
          exact ⟨z.1, .inr (by omega)⟩
      · have hu := hu_rm hr
        refine s_cons (s_while (hw a hr s l)) (s_cons (s_set 2 (e_src 0 (src_left · _) hu) scPick.nd)
          (s_if (T.to (q := true) (t_w (tw_or (t_cmp (e_var 1) e_int ov_lt) (fun h => (tw_or1 (t_cmp (e_var 2) e_int ov_gt))) (fun h => rfl))) ?_) (fun h => .stop (s_cons (s_srcSet 0 (e_bin (e_var 2) (e_callB (ea_cons e_int (ea_cons (e_var 1) ea_nil)) (cv_max rfl) m_max) (ov_fdiv max_one.1 ((max_one.2 hm).log (by decide)))) hu (put_left · _ ht.more _) rfl ht.few)
          (s_stop (s_retS (e_bin (e_callTy (ea_cons (e_var 2) ea_nil) cv_int m_int) (e_callB (ea_cons e_int (ea_cons (e_var 1) ea_nil)) (cv_max rfl) m_max) (ov_mod max_one.1))))) trivial) (fun h => Bool.noConfusion h)))
        rcases hc with h | h
        · rw [decide_eq_true h, Bool.true_or]
        · rw [decide_eq_true h, Bool.or_true]
    · have h1 : ¬ m < 2 := fun z => hc (.inl z)
      have h2 : ¬ 1 < t.left := fun z => hc (.inr z)
      have hm0 : 0 < m := by omega
      refine ⟨{ { t with turn := t.turn + 1 } with mixed := (((t.mixed + (t.turn + 1) * 104729).fmod 998244353 * (t.mixed + (t.turn + 1) * 104729).fmod 998244353 + (t.turn + 1) * 17).fmod 2147483647) }, .int ((((t.mixed + (t.turn + 1) * 104729).fmod 998244353 * (t.mixed + (t.turn + 1) * 104729).fmod 998244353 + (t.turn + 1) * 17).fmod 2147483647).fdiv 16 |>.fmod m), ⟨(ht.turn _).mixed _, m, _, rfl, rfl, ?_⟩, fun a hr s l => ?_⟩
      · have z := fmod_in (a := ((((t.mixed + (t.turn + 1) * 104729).fmod 998244353 * (t.mixed + (t.turn + 1) * 104729).fmod 998244353 + (t.turn + 1) * 17).fmod 2147483647).fdiv 16)) hm0
        exact ⟨z.1, .inl z.2⟩
      · have hu := hu_rm hr
        have sm : Sz 40 ((t.mixed + (t.turn + 1) * 104729).fmod 998244353) := fmod_sz (by decide) (by show (998244353 : Int).natAbs < 2 ^ 40; decide)
        have ht1 := ht.turn (t.turn + 1)
        refine s_cons (s_while (hw a hr s l)) (s_cons (s_set 2 (e_src 0 (src_left · _) hu) scPick.nd)
          (s_if (T.to (q := false) (t_w (tw_or (t_cmp (e_var 1) e_int ov_lt) (fun h => (tw_or1 (t_cmp (e_var 2) e_int ov_gt))) (fun h => rfl))) ?_) (fun h => Bool.noConfusion h) (fun h => .go s_nil' (s_cons (s_srcSet 0 (e_bin (e_src 0 (src_turn · _) hu) e_int ov_add) hu (put_turn · _ ht.more _) rfl ht.few)
          (s_cons (s_set 3 (e_bin (e_callTy (ea_cons (e_bin (e_src 0 (src_mixed · _) hu) (e_bin (e_src 0 (src_turn · _) hu) e_int (ov_mulS (.inr ⟨by decide, by decide⟩))) ov_add) ea_nil) cv_int m_int) e_int (ov_mod (by decide))) scPick.nd)
          (s_cons (s_set 3 (e_bin (e_callTy (ea_cons (e_bin (e_bin (e_var 3) (e_var 3) (ov_mul (sm.cmul sm (by decide)))) (e_bin (e_src 0 (src_turn · _) hu) e_int (ov_mulS (.inr ⟨by decide, by decide⟩))) ov_add) ea_nil) cv_int m_int) e_int (ov_mod (by decide))) scPick.nd)
          (s_cons (s_srcSet 0 (e_var 3) hu (put_mixed · _ ht1.more ((((t.mixed + (t.turn + 1) * 104729).fmod 998244353 * (t.mixed + (t.turn + 1) * 104729).fmod 998244353 + (t.turn + 1) * 17).fmod 2147483647))) rfl ht.few)
          (s_stop (s_retS (e_bin (e_callTy (ea_cons (e_bin (e_var 3) e_int (ov_fdiv (by decide) (by decide +kernel))) ea_nil) cv_int m_int) (e_var 1) (ov_mod (by omega)))))))))))) 
        rw [decide_eq_false h1, decide_eq_false h2]
        rfl
end
end K00
end part_K00c
section part_K00s
namespace K00
open L2 PyProof.Rows PySem.Spec PySem DM Num
section
variable {P : Program} {w : World} {K : PySem.W.Frag} {mg : Str → Option Value} {base : Heap}
/-! #### _law_source -/
theorem scSource : FnScope ["script", "mixed", "cell"] ["script"] (defScope sSource) := ⟨rfl, rfl, rfl, by decide +kernel, rfl, by decide +kernel, by decide +kernel⟩
abbrev cSource (P : Program) (w : World) (K : PySem.W.Frag) (mg : Str → Option Value) (base : Heap) (a : CxA) : Cx := cx P w K mg base ["script", "mixed", "cell"] "_law_source" sSource a
def mixOf (ns : List Int) (m : Int) : Int := ns.foldl (fun m c => (m * 69069 + c * 31 + 5).fmod 2147483629) m
def absI (i : Int) : Int := if i < 0 then -i else i
def srcOf (ns : List Int) : Src := { cells := (ns.map absI).reverse, left := 1, mixed := mixOf ns 11, turn := 0 }
theorem srcOf_ok (ns : List Int) : Ok (srcOf ns) := ⟨fun _ h => (nomatch h), by show 0 < 1000; decide⟩
theorem source_loop (m_int : mg "int" = none) {a : CxA} (hr : Rm 0 (cSource P w K mg base a).A) (all : List Int) : ∀ (ns : List Int) (m : Int),
    Loop (cSource P w K mg base a) (forT (bodyAt sSource 1)) (lpB (bodyAt sSource 1)) (ns.map PyData.int) [.scr all, .dat (.int m), .un] (.nx [.scr all, .dat (.int (mixOf ns m)), .un])
  | [], m => .nil
  | n :: ns, m => .nx (g_name 2 scSource.nd) (s_cons (s_set 1 (e_bin (e_callTy (ea_cons (e_bin (e_bin (e_bin (e_var 1) e_int (ov_mulS (.inr ⟨by decide, by decide⟩))) (e_bin (e_var 2) e_int (ov_mulS (.inr ⟨by decide, by decide⟩))) ov_add) e_int ov_add) ea_nil) cv_int m_int) e_int (ov_mod (by decide))) scSource.nd) (s_nil (le_cons (le_cons (le_un le_nil))))) (source_loop m_int hr all ns _)
def dictOf : Stmt → Expr := exprOf
abbrev srcRev : Expr := match exprOf (bodyAt sSource 2) with
  | .Dict _ (.Subscript e _ _ :: _) _ => e
  | e => e
theorem source_cl (m_abs : mg "abs" = none) {a : CxA} (all : List Int) (m : Int) : ∀ (ns : List Int), CL (cSource P w K mg base a) (cmS srcRev) (cmT srcRev) (cmI srcRev) (cmE srcRev) [2] (ns.map PyData.int) [.scr all, .dat (.int m), .un] ((ns.map absI).map PyData.int) [.scr all, .dat (.int m), .un]
  | [] => .nil
  | n :: ns => .yes (js := [2]) (fun _ z => z) (fun _ _ _ _ _ => g_name 2 scSource.nd) (fun _ _ _ _ _ => ts_nil) (fun _ _ _ _ _ => e_callB (ea_cons (e_var 2) ea_nil) cv_abs m_abs) (.pre (ρ1 := [.scr all, .dat (.int m), .un]) (Le.refl _) (source_cl m_abs all m ns))
theorem blkSource : blkC ["script", "mixed", "cell"] (defScope sSource) (cmS srcRev) [("cell", 2)] = true := by decide +kernel
theorem source_end (m_abs : mg "abs" = none) {a : CxA} (ns : List Int) (hl : ns.length ≤ 1000) (m : Int) : ∃ te, PE (cSource P w K mg base a) (exprOf (bodyAt sSource 2)) te ∧
    ∀ (F G H : Hp) (σ : L2.St) (ad : Nat → List Addr) (Q : VK), Sta K F G H σ [.scr ns, .dat (.int m), .un] ad → (∀ s l H', F s = none → F l = none → Ex F H' → SrcAt H' s l { cells := (ns.map absI).reverse, left := 1, mixed := m, turn := 0 } → Q (.ref s) H') → te σ H Q := by
  refine ⟨_, pe_disp (pps_cons pe_str (pe_revL (eo_lc (own := [("cell", 2)]) (i_scr 0) (source_cl m_abs ns m ns) (by rw [List.length_map]; omega) scSource.nd (blkOk_by blkSource)))
    (pps_cons pe_str pe_int (pps_cons pe_str (pe_var (i := 1) rfl (.inl rfl)) (pps_cons pe_str pe_int pps_nil)))) rfl rfl (by decide) (by decide), fun F G H σ ad Q w k => ?_⟩
  intro p hp
  have Fp : F p = none := w.fh.none hp
  have w1 : Sta K (upd F p (.dK [])) G (upd H p (.dK [])) σ [.scr ns, .dat (.int m), .un] ad := by
    refine ⟨w.gh.trans (Ex.new hp), w.fh.both, fun i b z => ?_, fun i b z => ?_, w.dis, w.len, fun i r q => (w.hold i r q).grow (Ex.refl G) fun b _ u z => Ex.new hp b u z, tbk0⟩
    · obtain ⟨o, ho⟩ := w.there i b z
      have ne : b ≠ p := fun e => by rw [e, hp] at ho; cases ho
      rw [upd_ne ne]
      exact w.own i b z
    · obtain ⟨o, ho⟩ := w.there i b z
      exact ⟨o, Ex.new hp b o ho⟩
  refine ⟨_, _, _, w1, fun l xs H1 G1 ad1 e1 w2 f1 f2 f3 f4 f5 => ?_⟩
  refine ⟨l, xs, rfl, SqL.of f4, fun p2 hp2 => ?_⟩
  obtain ⟨v, hv, pv⟩ := w2.dat (i := 1) (d := .int m) rfl
  cases pv
  have hpl : H1 p = some (.dK []) := w2.fh _ _ upd_same
  have ne : p ≠ p2 := fun e => by rw [← e, hpl] at hp2; cases hp2
  refine ⟨_, hv, ?_, [(Sum.inr "cells", .ref p2), (Sum.inr "left", .int 1), (Sum.inr "mixed", .int m), (Sum.inr "turn", .int 0)], rfl, Nat.le_of_ble_eq_true rfl, ?_⟩
  · rw [upd_ne ne]
    exact hpl
  · have xe : xs = (ns.map absI).map V.int := ints_daAll f5
    subst xe
    refine k p p2 _ Fp ?_ ?_ ⟨?_, ?_⟩
    · exact (Ex.new Fp).trans w2.fh |>.none hp2
    · intro b u z
      have n1 : b ≠ p := fun e => by rw [e, Fp] at z; cases z
      have z1 : H1 b = some u := w2.fh b u (by rw [upd_ne n1]; exact z)
      have n2 : b ≠ p2 := fun e => by rw [e, hp2] at z1; cases z1
      rw [upd_ne n1, upd_ne n2]
      exact z1
    · rw [upd_same]
      rfl
    · rw [upd_ne (Ne.symm ne), upd_same, List.map_reverse]
theorem ok_source (hp : DM.Put K mg "_law_source" sSource) (m_int : mg "int" = none) (m_abs : mg "abs" = none) : Def P w K mg base "_law_source" 1 ["script"] (spSrc K srcOf) := by
  obtain ⟨f, fd, h1, F⟩ := hp.ex
  have b := F.bindsN (ps := ["script"]) (fun _ _ _ _ _ _ us hl => match us, hl with | [_], _ => rfl)
  refine ⟨f, fd, h1, F.kp, b, fnG_of F scSource (fun vs H Q E h => ?_) (fun cdv A outer sh H vs Q E hr0 hgd h => ?_)⟩
  · obtain ⟨a, ns, rfl, _⟩ := h
    rfl
  · obtain ⟨a, ns, rfl, hs, hn, q⟩ := h
    have w0 : Sta K H H H (L2.start ["script", "mixed", "cell"] [.ref a]) (dataS ["script", "mixed", "cell"] 1 [.scr ns]) (fun _ => []) :=
      sta0 (vs := [.ref a]) tbk0 (Ex.refl H) (Ex.refl H) rfl (Nat.le_of_ble_eq_true rfl) _ (fun _ _ z => nomatch z) (fun _ _ z => nomatch z) (fun _ _ _ z => nomatch z) fun i r z => by
        cases i with
        | zero => cases z; exact ⟨a, rfl, hs⟩
        | succ i => cases z
    let c : CxA := ⟨f, cdv, A, outer, sh, H, E⟩
    have hr : Rm 0 (cSource P w K mg base c).A := ⟨hr0, hgd⟩
    obtain ⟨te, h2, h3⟩ := source_end (P := P) (w := w) (K := K) (mg := mg) (base := base) m_abs (a := c) ns hn (mixOf ns 11)
    have s1 : S1 (cSource P w K mg base c) (bodyAt sSource 0) [.scr ns, .un, .un] (.nx [.scr ns, .dat (.int 11), .un]) := s_set 1 e_int scSource.nd
    have s2 : S1 (cSource P w K mg base c) (bodyAt sSource 1) [.scr ns, .dat (.int 11), .un] (.nx [.scr ns, .dat (.int (mixOf ns 11)), .un]) := s_for (i_scr 0) (source_loop m_int hr ns ns 11)
    refine ⟨_, PSs.nox (pss_cons s1 (pss_cons s2 (pss_cons (ps_ret h2) pss_nil))), ?_⟩
    refine ⟨_, _, _, w0, fun σ1 H1 G1 ad1 e1 w1 => ⟨_, _, _, w1, fun σ2 H2 G2 ad2 e2 w2 => ?_⟩⟩
    refine h3 _ _ _ _ _ _ w2 fun s l H' g1 g2 g3 g4 => ?_
    exact q s l H' g1 g2 g3 g4
end
end K00
end part_K00s
section part_K00d
namespace K00
open L2 PyProof.Rows PySem.Spec PySem DM Num
/-! #### the promise of a draw -/
/-- what a def that draws is known by -/
def Draws (P : Program) (w : World) (K : PySem.W.Frag) (mg : Str → Option Value) (base : Heap) (x : Str) (k : Nat) (ps : List Str) (pre : Src → List PyData → Prop) (post : Src → List PyData → Src → PyData → Prop) : Prop :=
  ∃ R, Def P w K mg base x k ps (spS K R) ∧ ∀ t ds, pre t ds → ∃ t' d, R t ds t' d ∧ post t ds t' d
section
variable {P : Program} {w : World} {K : PySem.W.Frag} {mg : Str → Option Value} {base : Heap}
abbrev DPick (P : Program) (w : World) (K : PySem.W.Frag) (mg : Str → Option Value) (base : Heap) : Prop := Draws P w K mg base "_law_pick" 1 ["source", "many"] prePick postPick
/-! #### _law_of -/
theorem scOf : FnScope ["source", "some"] ["source", "some"] (defScope sOf) := ⟨rfl, rfl, rfl, by decide +kernel, rfl, by decide +kernel, by decide +kernel⟩
def preOf (t : Src) (ds : List PyData) : Prop := Ok t ∧ ∃ es : List PyData, ds = [.list es] ∧ es ≠ [] ∧ es.length < 1000
def postOf (t : Src) (ds : List PyData) (t' : Src) (d : PyData) : Prop := Ok t' ∧ ∃ es : List PyData, ds = [.list es] ∧ d ∈ es
theorem szNat {n : Nat} {k : Nat} (h : n < 2 ^ k) : Sz k (n : Int) := by
  unfold Sz
  rw [Int.natAbs_natCast]
  exact h
theorem pick_nat {R : Src → List PyData → Src → PyData → Prop} (hR : ∀ t ds, prePick t ds → ∃ t' d, R t ds t' d ∧ postPick t ds t' d) {t : Src} (ht : Ok t) (n : Nat) (hn : n < 1000) : ∃ t' j, R t [.int (n : Int)] t' (.int ((j : Nat) : Int)) ∧ Ok t' ∧ (j < n ∨ j = 0) := by
  obtain ⟨t', d, h1, h2, m, j, e1, rfl, h3, h4⟩ := hR t [.int (n : Int)] ⟨ht, _, rfl, szNat (Nat.lt_of_lt_of_le hn (by decide +kernel))⟩
  cases e1
  refine ⟨t', j.toNat, ?_, h2, by omega⟩
  rw [Int.toNat_of_nonneg h3]
  exact h1
theorem ok_of (hp : DM.Put K mg "_law_of" sOf) (dP : DPick P w K mg base) (m_len : mg "len" = none) : Draws P w K mg base "_law_of" 2 ["source", "some"] preOf postOf := by
  obtain ⟨R, dR, hR⟩ := dP
  refine def_Sx hp scOf (fun _ _ _ _ _ _ us hl => match us, hl with | [_, _], _ => rfl) (by decide) (fun t ds h => ?_) (fun t ds h => ?_)
  · obtain ⟨_, es, rfl, _⟩ := h
    rfl
  · obtain ⟨ht, es, rfl, hne, hl⟩ := h
    obtain ⟨t', j, h1, h2, h3⟩ := pick_nat hR ht es.length hl
    have hj : j < es.length := by
      have : es.length ≠ 0 := fun z => hne (List.length_eq_zero_iff.mp z)
      omega
    refine ⟨t', es[j], ⟨h2, es, rfl, List.getElem_mem _⟩, fun a hr s l => ?_⟩
    have k_law_pick := dR.known hr
    exact s_stop (s_retS (e_ix (e_var 1) (e_callS 0 k_law_pick (ea_cons (e_callB (ea_cons (e_var 1) ea_nil) cv_lenL m_len) ea_nil) h1) (ixv_lst (atI_nat (List.getElem?_eq_getElem hj)))))
end
end K00
end part_K00d
section part_EXa
/-! An own exception class whose __init__ says super().__init__(y) and keeps one field: its call, over the bare heap. -/
namespace EX
open PySem PySem.Spec PySem.W PySem.Calls PyProof.Rows
open Builtin Builtin.ObjectAttr
section
variable {prog : Program} {w : World} {A : Around} {E : Value → Shared → Prop} {K : Frag} {B newId initId : String} {bmB : List Value}
/-- self.name = v, the first store into an exception -/
theorem set_first {s : Shared} {x C : Addr} {fv : Array Value} {name : Str} {v : Value} {Q : Unit → Shared → Prop} (SF : StoreFacts B bmB "object.__setattr__" "object") (X : K.In s.heap)
    (hx : s.heap.get? x = some { cls := .ref C, data := .fields fv }) (hs : findIn K (.ref C) "__setattr__" = some (some (.builtin "object.__setattr__"))) (hp : excOver K C bmB = true) (ht : takerIn K C name = some none) (hh : hasDictIn K C = true)
    (hq : ∀ h' tk' dx, (∀ b o, b ≠ x → s.heap.get? b = some o → h'.get? b = some o) → s.heap.objs.size ≤ dx → dx ≠ x → h'.get? x = some { cls := .ref C, dict := some dx, data := .fields fv } →
      h'.Ns1 dx (fun y => if y = name then some v else none) → Q () { s with heap := h', toks := tk' }) : wpAny (model prog w) A (setAttr (.ref x) name v) Q E s := by
  obtain ⟨hp', g, d, t, os⟩ := s
  have I : W.InstAt hp' x { cls := .ref C, data := .fields fv } C none := ⟨hx, rfl, rfl, trivial⟩
  have hxs : x ≠ hp'.objs.size := Nat.ne_of_lt (Heap.lt_size hx)
  obtain ⟨cd, hc, hd⟩ := any_some hh
  refine set_plain (od := none) X I hs (osa_openX (od := none) SF X I hp ht fun b => ?_)
  have hcls : Looks (model prog w) hp' (classData C) cd := looks_clsIn X hc
  show wpAny _ _ (storeInOwnDict (.ref x) (.ref C) (.str name t) name v b) _ _ _
  obtain ⟨nm, bs, mro, ns, qn, hdc, sn, sb, ab, col, del⟩ := cd
  dsimp only at hd
  subst hd
  unfold storeInOwnDict ownDictForStores
  repeat (first | with_reducible refine HandSPX.store_in_new ?_ ?_ | with_reducible refine wpAny_loadPart_at hx ?_ | with_reducible refine hcls.at ?_ | wp_step)
  · exact ⟨_, #[], _, (Heap.get?_update_ne _ _ _ _ hxs.symm).trans (Heap.get?_push_at rfl rfl), rfl, fun e he => absurd he (by simp), fun _ => rfl⟩
  · intro h' tk' hn' hsb
    have hx₁ : (hp'.push { cls := .type "dict", data := .dict #[] }).get? x = some { cls := .ref C, data := .fields fv } := Heap.get?_push_of_some _ hx
    refine hq h' tk' hp'.objs.size (fun b o hb ho => ?_) (Nat.le_refl _) hxs.symm ?_ hn'
    · exact (hsb.2 b (Nat.ne_of_lt (Heap.lt_size ho))).trans ((Heap.get?_update_ne _ _ _ _ hb).trans (Heap.get?_push_of_some _ ho))
    · exact (hsb.2 x hxs).trans (Heap.get?_update_self _ hx₁ rfl)
/-- what the written part says of such a class: D its __init__'s class, f the field -/
structure InitC (P : Program) (K : Frag) (B newId initId : String) (bmB : List Value) (C D fI cda cc : Addr) (qual f : Str) (params : Arguments) (body : List Stmt) (scope : Scope) : Prop where
  ini : excInitIn K C bmB newId = true
  over : excOver K C bmB = true
  find : findIn K (.ref C) "__init__" = some (some (.ref fI))
  fn : ∃ oc od osl kV doc pm an ct, K.lookup fI = some ⟨oc, od, .func (ksFn "__init__" qual params body scope .none kV doc pm an (.ref cda) ct cc), osl⟩ ∧ oc = .type "function"
  code : codeIn K (.ref cda) qual = true
  file : ∃ cl dd vs sl z tf, K.lookup cda = some ⟨cl, dd, .fields vs, sl⟩ ∧ vs[2]? = some (.str z tf) ∧ ((P.main.file : Str) == z) = true
  cell : ∃ cl dd sl, K.lookup cc = some ⟨cl, dd, .cell (some (.ref D)), sl⟩
  cls : (clsIn K D).isSome = true
  sub : mroIn K C (.ref D) = some true
  sup : ks_superIn K C D "__init__" = some (some (.builtin initId))
  subB : subIn K (.ref C) (.type B) = some true
  any : nsIn K cStatics "thirdparty.any" = some none
  sa : findIn K (.ref C) "__setattr__" = some (some (.builtin "object.__setattr__"))
  hd : hasDictIn K C = true
  tk : takerIn K C f = some none
/-- .. and its text -/
structure InitT (P : Program) (y : Str) (params : Arguments) (scope : Scope) : Prop where
  head : ∃ ar, (params.posonlyargs ++ params.args).head? = some ar ∧ ar.arg = ("self" : Str)
  bind : ∀ (qual : Str) (body : List Stmt) (kV doc pm cdv ct : Value) (an : Option Addr) (cc : Addr) (u v : Value) (s : Shared), BindsTo s (ksFn "__init__" qual params body scope .none kV doc pm an cdv ct cc) ⟨[u, v], []⟩ [("self", u), (y, v)]
  ks : scope.names.lookup ("super" : Str) = some .globalImplicit
  kc : scope.names.lookup ("__class__" : Str) = some .free
  k1 : scope.names.lookup ("self" : Str) = some .local
  k2 : scope.names.lookup y = some .local
  nc : ∀ x ∈ scope.names, x.2 ≠ .cell
  kind : scope.kind = .function
  co : scope.isCoroutine = false
  gen : scope.isGenerator = false
  ne : y ≠ ("self" : Str)
  dy : (y == ("__debug__" : Str)) = false
  top : (P.main.scope.names.lookup ("super" : Str)).isSome = false
/-- what the field's expression gives: the value and new objects -/
def Gives (prog : Program) (w : World) (s : Shared) (scope : Scope) (y : Str) (u : Value) (e : Expr) (R : Value → List (Addr × Obj) → Prop) : Prop :=
  ∀ (A : Around) (E : Value → Shared → Prop) (Q : Value → Shared → Prop) (s' : Shared) (env : Env) (m : Str → Option Value), env.scope = scope → env.globals = mainGlobals → env.builtins = builtinsNs → (∀ b o, s.heap.get? b = some o → s'.heap.get? b = some o) →
      s'.heap.Ns env.locals m → m y = some u → (∀ h' tk v ns, (∀ b o, s'.heap.get? b = some o → h'.get? b = some o) → R v ns → (∀ p ∈ ns, s'.heap.get? p.1 = none ∧ h'.get? p.1 = some p.2) → Q v { s' with heap := h', toks := tk }) → wpAny (model prog w) A (eval e env) Q E s'
theorem call_new {s : Shared} {u : Value} {C D fI cda cc : Addr} {qual f y : Str} {params : Arguments} {scope : Scope} {p0 p1 p2 p3 p4 p5 p6 p7 p8 : Pos} {e : Expr} {mg mb : Str → Option Value} {R : Value → List (Addr × Obj) → Prop} {Q : Value → Shared → Prop}
    (FB : ExcBaseFacts B newId initId bmB) (KF : KxsFacts B initId) (SF : StoreFacts B bmB "object.__setattr__" "object")
    (T : InitC prog K B newId initId bmB C D fI cda cc qual f params
      [.Expr (.Call (.Attribute (.Call (.Name "super" p0) [] [] p1) "__init__" p2) [.Name y p3] [] p4) p5, .Assign [.Attribute (.Name "self" p6) f p7] e p8] scope) (L : InitT prog y params scope)
    (X : K.In s.heap) (hmg : s.heap.Ns mainGlobals mg) (hms : mg "super" = none) (hmb : s.heap.Ns builtinsNs mb) (hbs : mb "super" = some (.type "super")) (hlim : s.heap.NoLimit) (hroom : (A.under (.builtin "type.__call__" ⟨[.ref C, u], []⟩)).depth < recursionLimit)
    {pl : Env → Sem Bool} (he : ∀ env : Env, eval (.Call (.Attribute (.Call (.Name "super" p0) [] [] p1) "__init__" p2) [.Name y p3] [] p4) env = (do
      let ov ← attributeBase (.Call (.Name "super" p0) [] [] p1) "__init__" env (eval (.Call (.Name "super" p0) [] [] p1) env)
      standAt p2.atName
      let (f, first) ← holding [ov] (getMethod ov "__init__" (pl env))
      callWith p4 f first (backTo p4 (starEach [.Name y p3] env)) []))
    (hval : Gives prog w s scope y u e R) (hs : ∀ env, swapsWith e (some (.Attribute (.Name "self" p6) f p7)) p8.line env = pure false)
    (h : ∀ h' tk x d t v ns, (∀ b o, s.heap.get? b = some o → h'.get? b = some o) → s.heap.get? x = none → s.heap.get? d = none → d ≠ x → h'.get? x = some { cls := .ref C, dict := some d, data := .fields #[.ref t, .none, .none, .none, .bool false, .none] } →
      h'.Ns1 d (fun z => if z = f then some v else none) → R v ns → (∀ p ∈ ns, s.heap.get? p.1 = none ∧ h'.get? p.1 = some p.2 ∧ p.1 ≠ x ∧ p.1 ≠ d) → Q (.ref x) { s with heap := h', toks := tk }) :
    wpAny (model prog w) A (call (.ref C) [u]) Q E s := by
  obtain ⟨nm, N', qn, bs, bm, hdct, sn, sub, ab, col, dd, k0, k1, k2, k3, k5, hC, hT⟩ := excInit_of X T.ini
  obtain ⟨oc, od, osl, kV, doc, pm, an, ct, lk, hoc⟩ := T.fn
  obtain ⟨hp, g, d, tk, os⟩ := s
  refine wpAny_call (HandSPX.call_own FB hT hC (looks_findIn X T.find) (fun self => exc_bind (X _ _ lk) hoc self) (by show 1 ≤ sizeLine; rw [sizeLine_eq]; omega) ?_)
  -- the object and its args are there
  have k1' : ∀ b o, hp.get? b = some o → ((hp.push (kdv_tup [u])).push (HandSPX.excO C hp.objs.size)).get? b = some o := fun b o z => Heap.get?_push_of_some _ (Heap.get?_push_of_some _ z)
  have hx1 : ((hp.push (kdv_tup [u])).push (HandSPX.excO C hp.objs.size)).get? (hp.objs.size + 1) = some (HandSPX.excO C hp.objs.size) := by heap_get
  have X1 := X.keeps k1'
  generalize hp1e : ((hp.push (kdv_tup [u])).push (HandSPX.excO C hp.objs.size)) = hp1 at *
  have hn1 : hp.get? (hp.objs.size + 1) = none := Heap.get?_none_of_le (Nat.le_succ _)
  refine ks_codeAny_call_defAt (s := ⟨hp1, g, d, tk, os⟩) (fd := ksFn "__init__" qual params _ scope .none kV doc pm an (.ref cda) ct cc) (binds := [("self", .ref (hp.objs.size + 1)), (y, u)]) hroom (X1 _ _ lk) rfl (hlim.keeps k1') (codeRec_of X1 T.code) rfl (L.bind _ _ _ _ _ _ _ _ _ _ _ _) L.nc (fun z hz => ?_) (fun h2 hns k2' => ?_) L.co L.gen L.kind
  · rcases List.mem_cons.mp hz with rfl | hz
    · exact L.k1
    · rw [List.mem_singleton.mp hz]
      exact L.k2
  have X2 := X1.keeps k2'
  have k02 : ∀ b o, hp.get? b = some o → h2.get? b = some o := fun b o z => k2' b o (k1' b o z)
  have hx2 := k2' _ _ hx1
  have hself : ([("self", Value.ref (hp.objs.size + 1)), (y, u)] : List (Str × Value)).reverse.lookup ("self" : Str) = some (Value.ref (hp.objs.size + 1)) := by
    have q : (("self" : Str) == y) = false := by
      rw [beq_eq_false_iff_ne]
      exact fun z => L.ne z.symm
    show (match ("self" : Str) == y with | true => some u | false => List.lookup ("self" : Str) [("self", Value.ref (hp.objs.size + 1))]) = _
    rw [q] <;> rfl
  have hy : ([("self", Value.ref (hp.objs.size + 1)), (y, u)] : List (Str × Value)).reverse.lookup y = some u := by
    show (match y == y with | true => some u | false => List.lookup y [("self", Value.ref (hp.objs.size + 1))]) = _
    rw [beq_self_eq_true]
  obtain ⟨ar, ha1, ha2⟩ := L.head
  obtain ⟨cl1, dd1, vs, sl1, z1, tf, lc, hvs, hfile⟩ := T.file
  obtain ⟨cl2, dd2, sl2, lcc⟩ := T.cell
  obtain ⟨cdD, hD⟩ := Option.isSome_iff_exists.mp T.cls
  obtain ⟨oD, hD1, hD2⟩ : ∃ oD, K.lookup D = some oD ∧ oD.data = .cls cdD := by
    unfold clsIn at hD
    split at hD
    · rename_i c' d' cd' sl' ho
      cases hD
      exact ⟨_, ho, rfl⟩
    · cases hD
  have hinst : Looks (model prog w) h2 (isInstance (.ref (hp.objs.size + 1)) (.type B)) true := by
    have J : InstAt h2 (hp.objs.size + 1) (HandSPX.excO C hp.objs.size) C none := ⟨hx2, rfl, rfl, trivial⟩
    exact J.type.andThen (looks_subIn X2 T.subB)
  refine ks_wpAt_execs_cons (ks_wpAt_Expr_any (ks_wpAt_MethodCall (ks_wpAt_super_base (f := fI) (cc := cda) (ar := ar) (vs := vs) (file := z1) (tf := tf) L.ks L.kc (by decide) rfl (X2 _ _ lk) rfl ha1 rfl (X2 _ _ lc) rfl hvs hfile L.top ?_) (he _)) (by show (scope.kind == .module && _) = false; rw [L.kind]; rfl))
  refine ks_loadName_global L.kind L.ks (loadGlobal_builtin (hmg.keeps k02) hms (hmb.keeps k02) hbs ⟨rfl, ?_⟩)
  refine wpAny_loadName_free L.kind L.kc rfl ⟨_, X2 _ _ lcc, rfl⟩ ?_
  rw [ha2]
  refine wpAny_loadName_local L.kind L.k1 hns hself ?_
  refine ks_wpAny_isType_cls (X2 _ _ hD1) hD2 ⟨rfl, ?_⟩
  refine ks_wpAny_call_super (X2 _ _ hD1) hD2 hx2 rfl (fun c z => by cases z) (looks_mroIn X2 T.sub) (fun h3 hso k3 => ?_)
  have X3 := X2.keeps k3
  have hx3 := k3 _ _ hx2
  have k23 : ∀ b o, b ≠ hp.objs.size + 1 → h2.get? b = some o → h3.get? b = some o := fun b o _ z => k3 b o z
  obtain ⟨cdC, hcC⟩ : ∃ cd, clsIn K C = some cd := by
    cases hc : clsIn K C with
    | none =>
      have z := T.sup
      unfold ks_superIn at z
      rw [hc] at z
      cases z
    | some cd => exact ⟨cd, rfl⟩
  have hsup : alongIn K "__init__" ((cdC.mro.dropWhile (· != .ref D)).drop 1) = some (some (.builtin initId)) := by
    have z := T.sup
    unfold ks_superIn at z
    rw [hcC] at z
    exact z
  have I3 : InstAt h3 (hp.objs.size + 1) (HandSPX.excO C hp.objs.size) C none := ⟨hx3, rfl, rfl, trivial⟩
  refine kxs_getMethod KF hso (looks_opaque X3 T.any) (l₀ := cdC.mro) (fun A Q E s k q => wpAny_bind ((looks_clsIn X3 hcC) A _ E s k (wpAny_pure q))) rfl X3 hsup (hinst.keeps k3) (ks_ne X3 I3 hcC) (by decide) ?_
  have k34 : ∀ b o, h3.get? b = some o → (h3.push (kxs_mw initId (hp.objs.size + 1))).get? b = some o := fun b o z => Heap.get?_push_of_some _ z
  have hu4 : (h3.push (kxs_mw initId (hp.objs.size + 1))).get? h3.objs.size = some (kxs_mw initId (hp.objs.size + 1)) := Heap.get?_push_at rfl rfl
  have hx4 := k34 _ _ hx3
  have ns4 := hns.keeps (fun b o z => k34 b o (k3 b o z))
  generalize h3.push (kxs_mw initId (hp.objs.size + 1)) = h4 at *
  generalize hu5 : h3.objs.size = q4 at *
  have X4 := X3.keeps k34
  show wpAny _ _ (callWith p4 (.ref q4) [] ((false, eval (.Name y p3) _) :: backTo p4 (starEach [] _)) []) _ _ _
  refine kxs_callWith (i := initId) (x := hp.objs.size + 1) rfl (evalArgs_plain (spliced_cons (wpAny_Name (wpAny_loadName_local L.kind L.k2 ns4 hy (spliced_nil ⟨hu4, ?_⟩)) L.dy)))
  refine wpAny_call (codeAny_of_tree ?_)
  show wpAny _ (_ : Around).in1 (callAny (.ref q4) ⟨[u], []⟩) _ _ _
  simp only [callAny]
  refine wpAny_bind (wpAny_load hu4 ?_)
  simp only [kxs_mw, show (Value.type "method-wrapper" == Value.type "method" || Value.type "method-wrapper" == Value.type "builtin_function_or_method" || Value.type "method-wrapper" == Value.type "method-wrapper") = true by decide, if_true]
  refine W.KFB.if_so (by decide) ?_
  have k04 : ∀ b o, hp.get? b = some o → h4.get? b = some o := fun b o z => k34 b o (k3 b o (k02 b o z))
  refine wpAny_bind (check_bound_init FB.toExcCallFacts (k04 _ _ hC) hx4 rfl ?_)
  refine wpAny_bind (wpAny_pure (wpAny_pure ?_))
  refine ⟨plainId_quiet FB.init.plain _, codeAny_builtin FB.initEntry ?_⟩
  refine exc_init_tree (cls := .ref C) (t0 := hp.objs.size) (dv := none) (c2 := .none) (c3 := .none) (b4 := .bool false) hx4 (by show 1 ≤ sizeLine; rw [sizeLine_eq]; omega) (fun h5 k45 hx5 _ => ?_)
  have ne0 : ∀ b o, hp.get? b = some o → b ≠ hp.objs.size + 1 := fun b o z e => by rw [e, hn1] at z; cases z
  have k05 : ∀ b o, hp.get? b = some o → h5.get? b = some o := fun b o z => k45 b o (ne0 b o z) (k04 b o z)
  have X5 := X.keeps k05
  have ns5 : h5.Ns hp1.objs.size (fun z => ([("self", Value.ref (hp.objs.size + 1)), (y, u)] : List (Str × Value)).reverse.lookup z) := by
    obtain ⟨oL, es, ep, hL, r⟩ := ns4
    refine ⟨oL, es, ep, k45 _ _ (fun z => ?_) hL, r⟩
    have := Heap.lt_size hx1
    rw [← z] at this
    exact Nat.lt_irrefl _ this
  show _root_.PySem.wpAt _ _ _ (execs [_] _) _ _ _
  refine ks_wpAt_execs_cons (ks_wpAt_Assign_Attr (wpAt_of_wpAny (hval _ _ _ _ _ (fun z => ([("self", Value.ref (hp.objs.size + 1)), (y, u)] : List (Str × Value)).reverse.lookup z) rfl rfl rfl k05 ns5 hy (fun h6 tk6 v ns k56 hR hns' => ?_))) (hs _))
  have X6 := X5.keeps k56
  refine wpAny_Name (wpAny_loadName_local L.kind L.k1 (ns5.keeps k56) hself ?_)
  refine set_first SF X6 (k56 _ _ hx5) T.sa T.over T.tk T.hd (fun h7 tk7 dx k67 ge7 ne7 hx7 hd7 => ?_)
  have k57 : ∀ b o, b ≠ hp.objs.size + 1 → h5.get? b = some o → h7.get? b = some o := fun b o hb z => k67 b o hb (k56 b o z)
  have hdn : ∀ b o, h6.get? b = some o → b ≠ dx := fun b o z q => Nat.lt_irrefl _ (Nat.lt_of_lt_of_le (Heap.lt_size z) (by rw [q]; exact ge7))
  refine wpAt_of_wpAny (wpAny_execs_nil ?_)
  show W.InitBack _ _ (.ok (.ret .none)) _
  refine ⟨rfl, h h7 tk7 (hp.objs.size + 1) dx _ v ns (fun b o z => k57 b o (ne0 b o z) (k05 b o z)) hn1 ?_ ne7 hx7 hd7 hR (fun p hp' => ?_)⟩
  · cases z : hp.get? dx with
    | none => rfl
    | some o => exact absurd rfl (hdn dx o (k56 _ _ (k05 _ _ z)))
  · obtain ⟨n1, n2⟩ := hns' p hp'
    have nx : p.1 ≠ hp.objs.size + 1 := fun z => by
      rw [z, hx5] at n1
      cases n1
    refine ⟨?_, k67 _ _ nx n2, nx, hdn _ _ n2⟩
    cases z : hp.get? p.1 with
    | none => rfl
    | some o =>
      rw [k05 _ _ z] at n1
      cases n1
end
end EX
end part_EXa
section part_EXb
/-! Own exceptions as values. -/
namespace EX
open L2 PyProof.Rows PySem.Spec PySem
/-- a class without an __init__ of one's own, or with one that keeps the field f: C(..) makes (f = none | some ..) -/
structure ExcN (P : Program) (K : PySem.W.Frag) (C : Addr) (f : Str) (params : Arguments) (body : List Stmt) (scope : Scope) : Prop where
  ex : ∃ B newId initId bmB D fI cda cc qual, ExcBaseFacts B newId initId bmB ∧ PySem.W.KxsFacts B initId ∧ StoreFacts B bmB "object.__setattr__" "object" ∧ InitC P K B newId initId bmB C D fI cda cc qual f params body scope
  kC : PySem.W.keepIn K (.ref C) = true
section
variable {X : Cx} {pins : List (Addr × Obj)} {σ : L2.St} {H : Hp} {s : Shared}
/-- new objects that stand in the heap are tracked from now on -/
theorem invLays {h' : Heap} {H' : Hp} {t' : Nat} (I : Inv X pins σ H s) (k : ∀ b u, s.heap.get? b = some u → h'.get? b = some u) (ex : ∀ b o, H b = some o → H' b = some o)
    (new : ∀ a o, H' a = some o → H a = none → s.heap.get? a = none ∧ ObjOk X.prog X.w H' h' a o) : Inv X pins σ H' { s with heap := h', toks := t' } := by
  have nn : ∀ b o, s.heap.get? b = some o → H b = none → H' b = none := fun b o e n => by
    cases q : H' b with
    | none => rfl
    | some u =>
      rw [(new b u q n).1] at e
      cases e
  refine I.un ⟨fun b u q _ _ _ => k b u q, fun b u q _ _ _ => ⟨u.slots, k b u q⟩, fun b u q n _ => nn b u q n, fun b u q _ => ⟨u, k b u q⟩, fun b xs q => ex b _ q, fun b u xs q => ex b _ q, fun b ps q => ⟨#[], by rw [ex b _ q] <;> simp⟩⟩ fun b u e => ?_
  cases q : H b with
  | none => exact (new b u e q).2
  | some o =>
    have z := ex b o q
    rw [e] at z
    cases z
    exact (I.hok b u q).stay (fun c v _ y => k c v y) (fun c y => ex c _ y) fun c xs y => ex c _ y
end
/-! ### what the field's text gives -/
section
variable {prog : Program} {w : World} {s : Shared} {scope : Scope} {y : Str} {u : Value} {p3 p6 : Pos}
theorem gives_name (hk : scope.kind = .function) (hl : scope.names.lookup y = some .local) (hd : (y == ("__debug__" : Str)) = false) : Gives prog w s scope y u (.Name y p3) (fun v ns => v = u ∧ ns = []) :=
  fun A E Q s' env m e1 e2 e3 k hn hm h => by
    obtain ⟨hp, g, d, t, os⟩ := s'
    exact wpAny_Name (wpAny_loadName_local (by rw [e1]; exact hk) (by rw [← hl, ← e1]; rfl) hn hm (h hp t u [] (fun _ _ z => z) ⟨rfl, rfl⟩ (fun p hp => by cases hp))) hd
theorem gives_tuple {mg mb : Str → Option Value} {l : Addr} {items : Array Value} {isT : Bool} (hk : scope.kind = .function) (hl : scope.names.lookup y = some .local) (ht : scope.names.lookup ("tuple" : Str) = some .globalImplicit)
    (hd : (y == ("__debug__" : Str)) = false) (hmg : s.heap.Ns mainGlobals mg) (hms : mg "tuple" = none) (hmb : s.heap.Ns builtinsNs mb) (hbs : mb "tuple" = some (.type "tuple")) (hz : items.size ≤ sizeLine)
    (hi : if isT then IsTup s.heap l items else s.heap.IsList l items) :
    Gives prog w s scope y (.ref l) (.Call (.Name "tuple" p6) [.Name y p3] [] p4) (fun v ns => if isT then v = .ref l ∧ ns = [] else ∃ p, v = .ref p ∧ ns = [(p, ({ cls := .type "tuple", data := .seq items } : Obj))]) :=
  fun A E Q s' env m e1 e2 e3 k hn hm h => by
    have hkf : env.scope.kind = .function := by rw [e1]; exact hk
    have hkt : env.kindOf "tuple" = some .globalImplicit := by rw [← ht, ← e1]; rfl
    have hky : env.kindOf y = some .local := by rw [← hl, ← e1]; rfl
    obtain ⟨hp, g, d, t, os⟩ := s'
    refine wpAny_Call_Name_kw (Calls.Name_function_global hkf hkt (Calls.loadGlobal_builtin (by rw [e2]; exact hmg.keeps k) hms (by rw [e3]; exact hmb.keeps k) hbs ?_))
    refine callWith_type1 (e := .Name y p3) (rest := []) (Calls.spliced_cons (wpAny_Name (wpAny_loadName_local hkf hky hn hm (Calls.spliced_nil ?_)) hd)) (by rfl) (by rfl)
    cases isT with
    | true => exact call_tuple_same ((if_pos rfl).mp hi |>.keeps k) (h hp t _ [] (fun _ _ z => z) ⟨rfl, rfl⟩ (fun p hp => by cases hp))
    | false =>
      obtain ⟨o, ho, hc, n, hd'⟩ : s.heap.IsList l items := hi
      refine call_tuple_list ⟨o, k _ _ ho, hc, n, hd'⟩ (fun h' kp => ?_) hz
      refine h (h'.push { cls := .type "tuple", data := .seq items }) t (.ref h'.objs.size) [(h'.objs.size, { cls := .type "tuple", data := .seq items })] (fun b o z => Heap.get?_push_of_some _ (kp b o z)) ⟨_, rfl, rfl⟩ (fun p hp' => ?_)
      rw [List.mem_singleton.mp hp']
      refine ⟨?_, Heap.get?_push_at rfl rfl⟩
      cases z : hp.get? h'.objs.size with
      | none => rfl
      | some o' => exact absurd (Heap.lt_size (kp _ _ z)) (Nat.lt_irrefl _)
end
/-! ### C(e) -/
def tExcN (C : Addr) (f : Str) (ta : TA) : TE := fun σ H Q => ta σ H fun vs H1 => ∃ v, vs = [v] ∧ ∀ a d, H1 a = none → H1 d = none → a ≠ d → Q (.ref a) (upd (upd H1 d (exd d [(f, v)])) a (exo a C (some d)))
def tExcT (K : PySem.W.Frag) (C : Addr) (f : Str) (ta : TA) : TE := fun σ H Q => ta σ H fun vs H1 => ∃ l xs, vs = [.ref l] ∧
  ((SqL K H1 l xs ∧ ∀ a d p, H1 a = none → H1 d = none → H1 p = none → a ≠ d → a ≠ p → d ≠ p → Q (.ref a) (upd (upd (upd H1 p (.tup xs)) d (exd d [(f, .ref p)])) a (exo a C (some d)))) ∨
   (SqT K H1 l xs ∧ ∀ a d, H1 a = none → H1 d = none → a ≠ d → Q (.ref a) (upd (upd H1 d (exd d [(f, .ref l)])) a (exo a C (some d)))))
section
variable {X : Cx} {x f y : Str} {C : Addr} {k : Nat} {params : Arguments} {scope : Scope} {p pos p0 p1 p2 p3 p4 p5 p6 p7 p8 p9 p10 p11 : Pos} {e : Expr} {ta : TA}
theorem ex_two {H : Hp} {a d : Addr} {o u : HO} (ha : H a = none) (hd : H d = none) (ne : a ≠ d) : ∀ b z, H b = some z → upd (upd H d u) a o b = some z := fun b z q => by
  rw [upd_ne (ne_of_none q ha), upd_ne (ne_of_none q hd)]
  exact q
theorem lay_exc {pins : List (Addr × Obj)} {σ : L2.St} {H : Hp} {s : Shared} {h' : Heap} {tk : Nat} {a d t : Addr} {v : V} {u : Value} (I : Inv X pins σ H s) (kp : ∀ b o, s.heap.get? b = some o → h'.get? b = some o) (na : s.heap.get? a = none) (nd : s.heap.get? d = none) (ne : d ≠ a)
    (ha : h'.get? a = some { cls := .ref C, dict := some d, data := .fields #[.ref t, .none, .none, .none, .bool false, .none] }) (hd : h'.Ns1 d (fun z => if z = f then some u else none)) (r : RelV v u) :
    H a = none ∧ H d = none ∧ Inv X pins σ (upd (upd H d (exd d [(f, v)])) a (exo a C (some d))) { s with heap := h', toks := tk } := by
  have n1 : H a = none := HOk.gone I.hok na
  have n2 : H d = none := HOk.gone I.hok nd
  refine ⟨n1, n2, invLays I kp (ex_two n1 n2 (Ne.symm ne)) fun b o e n => ?_⟩
  by_cases hb : b = a
  · subst hb
    rw [upd_same] at e
    cases e
    exact ⟨na, exo_ok ha⟩
  · rw [upd_ne hb] at e
    by_cases hb2 : b = d
    · subst hb2
      rw [upd_same] at e
      cases e
      exact ⟨nd, exd_ok hd (relO_put (fs := []) r fun g => True.intro)⟩
    · rw [upd_ne hb2, n] at e
      cases e
theorem pe_excN (T : ExcN X.prog X.K C f params [.Expr (.Call (.Attribute (.Call (.Name "super" p0) [] [] p1) "__init__" p2) [.Name y p3] [] p4) p5, .Assign [.Attribute (.Name "self" p6) f p7] (.Name y p9) p8] scope) (L : InitT X.prog y params scope)
    (hr : Room (k + 1) X.A) (hg : Gl X x) (hm : X.mg x = some (.ref C)) (hms : X.mg "super" = none) (ha : PA X [e] ta) {pl : Env → Sem Bool}
    (he : ∀ env : Env, eval (.Call (.Attribute (.Call (.Name "super" p0) [] [] p1) "__init__" p2) [.Name y p3] [] p4) env = (do
      let ov ← attributeBase (.Call (.Name "super" p0) [] [] p1) "__init__" env (eval (.Call (.Name "super" p0) [] [] p1) env)
      standAt p2.atName
      let (f, first) ← holding [ov] (getMethod ov "__init__" (pl env))
      callWith p4 f first (backTo p4 (starEach [.Name y p3] env)) []) := by intro _; rfl) (hdb : (x == ("__debug__" : Str)) = false := by decide) (hst : starEach [e] X.env = (false, eval e X.env) :: starEach [] X.env := by rfl) :
    PE X (.Call (.Name x p) [e] [] pos) (tExcN C f ta) := by
  obtain ⟨⟨B, newId, initId, bmB, D, fI, cda, cc, qual, FB, KF, SF, TT⟩, kC⟩ := T
  refine ⟨fun pins s σ H Q I h => ?_⟩
  refine wpAny_Call_Name_kw (ld_glob I hg hm ?_ hdb)
  refine PySem.W.callWith_K (h₀ := X.base) I.ok.mod.kin kC (thn (ha.run pos pins s σ H _ I h) fun us s1 ⟨vs, H1, I1, r1, q⟩ => ⟨I1.kIn, ?_⟩) hst (by rfl)
  obtain ⟨v, rfl, q⟩ := q
  obtain ⟨u, rfl, ru⟩ := vals1 r1
  show wpAny _ _ (call (.ref C) [u]) _ _ _
  obtain ⟨mb, b1, b2⟩ := I1.mod.blt
  refine call_new FB KF SF TT L I1.kIn (I1.mod.glob.keeps I1.bk) hms (b1.keeps I1.bk) ((b2 "super" (by decide)).trans (by decide +kernel)) I1.nolimit (hr.make C [u] []).depth he (gives_name L.kind L.k2 L.dy) (fun _ => by rfl)
    (fun h' tk a d t v' ns kp na nd ne ea ed hR hns => ?_)
  obtain ⟨rfl, rfl⟩ := hR
  obtain ⟨n1, n2, J⟩ := lay_exc I1 (tk := tk) kp na nd ne ea ed ru
  exact ⟨.ref a, _, J, rfl, q a d n1 n2 (Ne.symm ne)⟩
theorem pe_excT (T : ExcN X.prog X.K C f params [.Expr (.Call (.Attribute (.Call (.Name "super" p0) [] [] p1) "__init__" p2) [.Name y p3] [] p4) p5, .Assign [.Attribute (.Name "self" p6) f p7] (.Call (.Name "tuple" p9) [.Name y p10] [] p11) p8] scope) (L : InitT X.prog y params scope)
    (lt : scope.names.lookup ("tuple" : Str) = some .globalImplicit) (hr : Room (k + 1) X.A) (hg : Gl X x) (hm : X.mg x = some (.ref C)) (hms : X.mg "super" = none) (hmt : X.mg "tuple" = none) (ha : PA X [e] ta) {pl : Env → Sem Bool}
    (he : ∀ env : Env, eval (.Call (.Attribute (.Call (.Name "super" p0) [] [] p1) "__init__" p2) [.Name y p3] [] p4) env = (do
      let ov ← attributeBase (.Call (.Name "super" p0) [] [] p1) "__init__" env (eval (.Call (.Name "super" p0) [] [] p1) env)
      standAt p2.atName
      let (f, first) ← holding [ov] (getMethod ov "__init__" (pl env))
      callWith p4 f first (backTo p4 (starEach [.Name y p3] env)) []) := by intro _; rfl) (hdb : (x == ("__debug__" : Str)) = false := by decide) (hst : starEach [e] X.env = (false, eval e X.env) :: starEach [] X.env := by rfl) :
    PE X (.Call (.Name x p) [e] [] pos) (tExcT X.K C f ta) := by
  obtain ⟨⟨B, newId, initId, bmB, D, fI, cda, cc, qual, FB, KF, SF, TT⟩, kC⟩ := T
  refine ⟨fun pins s σ H Q I h => ?_⟩
  refine wpAny_Call_Name_kw (ld_glob I hg hm ?_ hdb)
  refine PySem.W.callWith_K (h₀ := X.base) I.ok.mod.kin kC (thn (ha.run pos pins s σ H _ I h) fun us s1 ⟨vs, H1, I1, r1, q⟩ => ⟨I1.kIn, ?_⟩) hst (by rfl)
  obtain ⟨l, xs, rfl, q⟩ := q
  obtain ⟨u, rfl, ru⟩ := vals1 r1
  cases ru
  show wpAny _ _ (call (.ref C) [.ref l]) _ _ _
  obtain ⟨mb, b1, b2⟩ := I1.mod.blt
  rcases q with ⟨hq, q⟩ | ⟨hq, q⟩
  · obtain ⟨its, r', pl, hz⟩ := I1.list hq
    have hlen := r'.length
    refine call_new FB KF SF TT L I1.kIn (I1.mod.glob.keeps I1.bk) hms (b1.keeps I1.bk) ((b2 "super" (by decide)).trans (by decide +kernel)) I1.nolimit (hr.make C [.ref l] []).depth he
      (gives_tuple (isT := false) (items := its.toArray) L.kind L.k2 lt L.dy (I1.mod.glob.keeps I1.bk) hmt (b1.keeps I1.bk) ((b2 "tuple" (by decide)).trans (by decide +kernel)) (by simp only [List.size_toArray] <;> omega) pl.isList) (fun _ => by rfl)
      (fun h' tk a d t v' ns kp na nd ne ea ed hR hns => ?_)
    obtain ⟨pt, rfl, rfl⟩ := hR
    obtain ⟨np, hp, n1, n2⟩ := hns _ (List.mem_singleton.mpr rfl)
    have m1 : H1 a = none := HOk.gone I1.hok na
    have m2 : H1 d = none := HOk.gone I1.hok nd
    have m3 : H1 pt = none := HOk.gone I1.hok np
    have J : Inv X pins σ (upd (upd (upd H1 pt (.tup xs)) d (exd d [(f, .ref pt)])) a (exo a C (some d))) { s1 with heap := h', toks := tk } := by
      refine invLays I1 kp (fun b z e => by rw [upd_ne (ne_of_none e m1), upd_ne (ne_of_none e m2), upd_ne (ne_of_none e m3)]; exact e) fun b o e n => ?_
      by_cases hb : b = a
      · subst hb
        rw [upd_same] at e
        cases e
        exact ⟨na, exo_ok ea⟩
      · rw [upd_ne hb] at e
        by_cases hb2 : b = d
        · subst hb2
          rw [upd_same] at e
          cases e
          exact ⟨nd, exd_ok ed (relO_put (fs := []) rfl fun g => True.intro)⟩
        · rw [upd_ne hb2] at e
          by_cases hb3 : b = pt
          · subst hb3
            rw [upd_same] at e
            cases e
            exact ⟨np, ⟨hz, its, r', ⟨_, hp, rfl, _, rfl⟩⟩⟩
          · rw [upd_ne hb3, n] at e
            cases e
    exact ⟨.ref a, _, J, rfl, q a d pt m1 m2 m3 (Ne.symm ne) (Ne.symm n1) (Ne.symm n2)⟩
  · obtain ⟨its, r', pl, hz⟩ := I1.tuple hq
    have hlen := r'.length
    refine call_new FB KF SF TT L I1.kIn (I1.mod.glob.keeps I1.bk) hms (b1.keeps I1.bk) ((b2 "super" (by decide)).trans (by decide +kernel)) I1.nolimit (hr.make C [.ref l] []).depth he
      (gives_tuple (isT := true) (items := its.toArray) L.kind L.k2 lt L.dy (I1.mod.glob.keeps I1.bk) hmt (b1.keeps I1.bk) ((b2 "tuple" (by decide)).trans (by decide +kernel)) (by simp only [List.size_toArray] <;> omega) pl) (fun _ => by rfl)
      (fun h' tk a d t v' ns kp na nd ne ea ed hR hns => ?_)
    obtain ⟨rfl, rfl⟩ := hR
    obtain ⟨n1, n2, J⟩ := lay_exc (v := .ref l) I1 (tk := tk) kp na nd ne ea ed rfl
    exact ⟨.ref a, _, J, rfl, q a d n1 n2 (Ne.symm ne)⟩
/-- C(), without an __init__ of its own -/
theorem pe_exc0 {bmB : List Value} {B newId initId : String} (F : ExcBaseFacts B newId initId bmB) (q : PySem.W.excIn X.K C bmB newId = true) (gC : X.mg x = some (.ref C)) (kC : PySem.W.keepIn X.K (.ref C) = true) (hg : Gl X x) (hdb : (x == ("__debug__" : Str)) = false := by decide) :
    PE X (.Call (.Name x p) [] [] pos) (fun σ H Q => ∀ a, H a = none → Q (.ref a) (upd H a (exo a C none))) := by
  refine ⟨fun pins s σ H Q I h => ?_⟩
  refine wpAny_Call_Name_kw (ld_glob I hg gC ?_ hdb)
  refine PySem.W.callWith_K0 I.kIn kC ?_
  show wpAny _ _ (call (.ref C) []) _ _ _
  obtain ⟨bm, N, nm, qn, bs, hdct, sn, sub, ab, col, dd, k0, k1, k2, k3, k5, mN, hC, hN, hni, T⟩ := exc_obj I.kIn q
  refine wpAny_call_exc_subT F T hC hN hni (fun h' a hm => ?_) (Nat.zero_le _)
  have hn : H a = none := HOk.gone I.hok hm.new
  obtain ⟨t, ht, _, _⟩ := hm.there
  exact ⟨.ref a, upd H a (exo a C none), I.laidN hm.keeps hm.new hn (exo_ok ht), rfl, h a hn⟩
end
end EX
end part_EXb
section part_EXc
/-! Exceptions held as values: isinstance, fields. -/
namespace EX
open L2 PyProof.Rows PySem.Spec PySem
/-- at a: an exception of the class C with these fields -/
def ExAt (H : Hp) (a C : Addr) (fs : List (Str × V)) : Prop := ∃ dd, H a = some (exo a C dd) ∧ ((dd = none ∧ fs = []) ∨ ∃ d, dd = some d ∧ H d = some (exd d fs))
theorem ExAt.ex {H H' : Hp} {a C : Addr} {fs : List (Str × V)} (h : ExAt H a C fs) (e : ∀ b o, H b = some o → H' b = some o) : ExAt H' a C fs := by
  obtain ⟨dd, h1, h2⟩ := h
  refine ⟨dd, e _ _ h1, ?_⟩
  rcases h2 with h2 | ⟨d, h3, h4⟩
  · exact .inl h2
  · exact .inr ⟨d, h3, e _ _ h4⟩
/-- what such a class must say -/
structure ExcR (K : PySem.W.Frag) (C : Addr) : Prop where
  cl : (PySem.W.clsIn K C).isSome = true
  ga : PySem.W.findIn K (.ref C) "__getattribute__" = some (some (.builtin "BaseException.__getattribute__"))
  gt : PySem.W.findIn K (.ref C) "__getattr__" = some none
  sub : PySem.W.subIn K (.ref C) (.type "BaseException") = some true
  hd : PySem.W.hasDictIn K C = true
  ha : PySem.W.findIn K (.ref C) "__class__" = some (some (.builtin "object.__class__"))
  hn : PySem.W.specialIn K (.builtin "object.__class__") "__get__" = some (some (.builtin "getset_descriptor.__get__"))
  ht : PySem.W.takesIn K (.builtin "object.__class__") = some true
  hm : PySem.W.mroIn K C (.type "object") = some true
def excRB (K : PySem.W.Frag) (C : Addr) : Bool := (PySem.W.clsIn K C).isSome && (decide (PySem.W.findIn K (.ref C) "__getattribute__" = some (some (.builtin "BaseException.__getattribute__"))) && (decide (PySem.W.findIn K (.ref C) "__getattr__" = some none) &&
  (decide (PySem.W.subIn K (.ref C) (.type "BaseException") = some true) && (PySem.W.hasDictIn K C && (decide (PySem.W.findIn K (.ref C) "__class__" = some (some (.builtin "object.__class__"))) &&
  (decide (PySem.W.specialIn K (.builtin "object.__class__") "__get__" = some (some (.builtin "getset_descriptor.__get__"))) && (decide (PySem.W.takesIn K (.builtin "object.__class__") = some true) && decide (PySem.W.mroIn K C (.type "object") = some true))))))))
theorem excRB_ok {K : PySem.W.Frag} {C : Addr} (h : excRB K C = true) : ExcR K C := by
  obtain ⟨h1, h⟩ := Bool.and_eq_true_iff.mp h
  obtain ⟨h2, h⟩ := Bool.and_eq_true_iff.mp h
  obtain ⟨h3, h⟩ := Bool.and_eq_true_iff.mp h
  obtain ⟨h4, h⟩ := Bool.and_eq_true_iff.mp h
  obtain ⟨h5, h⟩ := Bool.and_eq_true_iff.mp h
  obtain ⟨h6, h⟩ := Bool.and_eq_true_iff.mp h
  obtain ⟨h7, h⟩ := Bool.and_eq_true_iff.mp h
  obtain ⟨h8, h9⟩ := Bool.and_eq_true_iff.mp h
  exact ⟨h1, of_decide_eq_true h2, of_decide_eq_true h3, of_decide_eq_true h4, h5, of_decide_eq_true h6, of_decide_eq_true h7, of_decide_eq_true h8, of_decide_eq_true h9⟩
section
variable {X : Cx} {pins : List (Addr × Obj)} {σ : L2.St} {H : Hp} {s : Shared} {a C : Addr} {fs : List (Str × V)}
theorem ExAt.inst (h : ExAt H a C fs) (I : Inv X pins σ H s) : ∃ o od, PySem.W.InstAt s.heap a o C od ∧ ((od = none ∧ fs = []) ∨ ∃ (ob : Obj) (mA : Str → Option Value), od = some ob ∧ (∀ f, PySem.W.lookIn f ob = some (mA f)) ∧ ∀ f, RelO (fs.lookup f) (mA f)) := by
  obtain ⟨dd, h1, h2⟩ := h
  obtain ⟨t, ho⟩ := exo_at I.hok h1
  rcases h2 with ⟨rfl, rfl⟩ | ⟨d, rfl, h4⟩
  · exact ⟨_, none, ⟨ho, rfl, rfl, trivial⟩, .inl ⟨rfl, rfl⟩⟩
  · obtain ⟨mA, hns, rel⟩ := exd_at I.hok h4
    obtain ⟨ob, hob, hl⟩ := lookIn_ns hns
    exact ⟨_, some ob, ⟨ho, rfl, rfl, hob⟩, .inr ⟨ob, mA, rfl, hl, rel⟩⟩
theorem ExcR.kit {K : PySem.W.Frag} {x : Addr} {ox : Obj} {od : Option Obj} (R : ExcR K C) : PySem.W.KitX K (.ref x) (.ref C) (fun h => PySem.W.InstAt h x ox C od) := PySem.W.kitx_exc R.cl R.ga R.gt R.sub R.ha R.hn R.ht R.hm
/-- isinstance(e, T) -/
def rIsX (K : PySem.W.Frag) : List V → Hp → VK → Prop := fun xs H Q => ∃ (a C : Addr) (fs : List (Str × V)) (c : V) (cv : Value) (b : Bool), xs = [.ref a, c] ∧ ExAt H a C fs ∧ ExcR K C ∧ (∀ u, RelV c u → u = cv) ∧ PySem.W.kitOne K (.ref C) cv = some b ∧ Q (.bl b) H
theorem call_isX : CallR X (.builtin "isinstance") (rIsX X.K) := by
  intro pins s σ H xs us Q I r h
  obtain ⟨a, C, fs, c, cv, b, rfl, hx, R, hc, e, q⟩ := h
  obtain ⟨u1, u2, rfl, r1, r2⟩ := vals2 r
  cases r1
  have := hc _ r2
  subst this
  obtain ⟨o, od, J, _⟩ := hx.inst I
  exact PySem.W.kia_one R.kit I.kIn J e (fun z => nomatch z) fun tk => ⟨.bl b, H, I.tok tk, rfl, q⟩
/-- isinstance(e, (T, ..)), built-in ones -/
def rIsXT (K : PySem.W.Frag) : List V → Hp → VK → Prop := fun xs H Q => ∃ (a C : Addr) (fs : List (Str × V)) (tp : Addr) (ts : List String) (b : Bool), xs = [.ref a, .ref tp] ∧ ExAt H a C fs ∧ ExcR K C ∧ H tp = some (.tup (ts.map V.ty)) ∧ PySem.W.kitAny K (.ref C) (ts.map Value.type) = some b ∧ Q (.bl b) H
theorem tys_vals : ∀ {ts : List String} {its : List Value}, Vals (ts.map V.ty) its → its = ts.map Value.type
  | [], _, h => by cases h; rfl
  | t :: ts, _, h => by
    cases h with
    | cons h1 h2 =>
      rw [tys_vals h2]
      have e : _ = Value.type t := h1
      rw [e] <;> rfl
theorem call_isXT : CallR X (.builtin "isinstance") (rIsXT X.K) := by
  intro pins s σ H xs us Q I r h
  obtain ⟨a, C, fs, tp, ts, b, rfl, hx, R, hT, e, q⟩ := h
  obtain ⟨u1, u2, rfl, r1, r2⟩ := vals2 r
  cases r1
  cases (show u2 = Value.ref tp from r2)
  obtain ⟨o, od, J, _⟩ := hx.inst I
  obtain ⟨_, its, rv, oT, h1, h2, n, h3⟩ := (show ObjOk X.prog X.w H s.heap tp (.tup (ts.map V.ty)) from I.hok tp _ hT)
  have e3 := tys_vals rv
  subst e3
  obtain ⟨oc, od', dt, sl⟩ := oT
  simp only at h2 h3
  subst h2 h3
  exact PySem.W.kia_tup R.kit I.kIn J h1 e (fun z => nomatch z) fun tk => ⟨.bl b, H, I.tok tk, rfl, q⟩
/-- e.f -/
def tXfX (K : PySem.W.Frag) (f : Str) (te : TE) : TE := fun σ H Q => te σ H fun x H1 => ∃ (a C : Addr) (fs : List (Str × V)) (v : V), x = .ref a ∧ ExAt H1 a C fs ∧ ExcR K C ∧ PySem.W.findIn K (.ref C) f = some none ∧ fs.lookup f = some v ∧ Q v H1
theorem pe_xfX {e : Expr} {te : TE} {pos : Pos} {n : Str} (he : PE X e te) (hb : attributeBase e n X.env (eval e X.env) = eval e X.env := by rfl) : PE X (.Attribute e n pos) (tXfX X.K n te) := by
  refine ⟨fun pins s σ H Q I h => ?_⟩
  refine attr_of hb (thn (he.run pins s σ H _ I h) fun u s1 hh => ?_)
  obtain ⟨x, H1, I1, rx, a, C, fs, v, ex, hx, R, hno, l, q⟩ := hh
  subst ex
  obtain rfl : u = Value.ref a := rx
  obtain ⟨o, od, J, k⟩ := hx.inst I1
  rcases k with ⟨_, rfl⟩ | ⟨ob, mA, rfl, hl, rel⟩
  · cases l
  · obtain ⟨u, hu, ru⟩ := RelO.some_of (v := v) (o := mA n) (by rw [← l]; exact rel n)
    exact HandSPX.exc_get I1.kIn J R.ga R.gt R.sub (PySem.W.findObj_own R.hd hno rfl (by rw [hl, hu])) (handed_of ru) ⟨v, H1, I1.tok _, ru, q⟩
end
end EX
end part_EXc
section part_EXd
/-! Defs that only make new things: what they hand back, told of values. -/
namespace EX
open L2 PyProof.Rows PySem.Spec PySem DM
abbrev PP := V → Hp → Hp → Prop
def Mono (P : PP) : Prop := ∀ v H H' G G', Ex H H' → Ex G G' → P v H G → P v H' G'
def pV (v0 : V) : PP := fun v _ _ => v = v0
theorem mono_V {v : V} : Mono (pV v) := fun _ _ _ _ _ _ _ h => h
def pX (C : Addr) (fs : List (Str × V)) : PP := fun v _ G => ∃ a, v = .ref a ∧ ExAt G a C fs
theorem mono_X {C : Addr} {fs : List (Str × V)} : Mono (pX C fs) := fun _ _ _ _ _ _ e ⟨a, h1, h2⟩ => ⟨a, h1, h2.ex e⟩
def pXT (K : PySem.W.Frag) (C : Addr) (f : Str) (xs : List V) : PP := fun v _ G => ∃ a p, v = .ref a ∧ ExAt G a C [(f, .ref p)] ∧ SqT K G p xs
theorem mono_XT {K : PySem.W.Frag} {C : Addr} {f : Str} {xs : List V} : Mono (pXT K C f xs) := fun _ _ _ _ _ _ e ⟨a, p, h1, h2, h3⟩ => ⟨a, p, h1, h2.ex e, sqT_ex e h3⟩
def Al : List PP → List V → Hp → Hp → Prop
  | [], [], _, _ => True
  | P :: Ps, v :: vs, H, G => P v H G ∧ Al Ps vs H G
  | _, _, _, _ => False
def Monos : List PP → Prop
  | [] => True
  | P :: Ps => Mono P ∧ Monos Ps
theorem al_ex : ∀ {Ps : List PP} {vs : List V} {H H' G G' : Hp}, Monos Ps → Ex H H' → Ex G G' → Al Ps vs H G → Al Ps vs H' G'
  | [], [], _, _, _, _, _, _, _, h => h
  | P :: Ps, v :: vs, _, _, _, _, ⟨m, ms⟩, e1, e2, ⟨h1, h2⟩ => ⟨m _ _ _ _ _ e1 e2 h1, al_ex ms e1 e2 h2⟩
  | [], _ :: _, _, _, _, _, _, _, _, h => h.elim
  | _ :: _, [], _, _, _, _, _, _, _, h => h.elim
theorem al_app : ∀ {Ps Qs : List PP} {vs ws : List V} {H G : Hp}, Al Ps vs H G → Al Qs ws H G → Al (Ps ++ Qs) (vs ++ ws) H G
  | [], _, [], _, _, _, _, h => h
  | P :: Ps, _, v :: vs, _, _, _, ⟨h1, h2⟩, h => ⟨h1, al_app h2 h⟩
  | [], _, _ :: _, _, _, _, h, _ => h.elim
  | _ :: _, _, [], _, _, _, h, _ => h.elim
theorem al_len : ∀ {Ps : List PP} {vs : List V} {H G : Hp}, Al Ps vs H G → vs.length = Ps.length
  | [], [], _, _, _ => rfl
  | P :: Ps, v :: vs, _, _, ⟨_, h⟩ => congrArg (· + 1) (al_len h)
  | [], _ :: _, _, _, h => h.elim
  | _ :: _, [], _, _, h => h.elim
theorem al_get : ∀ {Ps : List PP} {vs : List V} {H G : Hp} {i : Nat} {P : PP}, Al Ps vs H G → Ps[i]? = some P → ∃ v, vs[i]? = some v ∧ P v H G
  | [], [], _, _, i, P, _, e => by simp at e
  | Q :: Ps, v :: vs, _, _, 0, P, ⟨h, _⟩, e => by
    simp at e
    subst e
    exact ⟨v, rfl, h⟩
  | Q :: Ps, v :: vs, _, _, i + 1, P, ⟨_, h⟩, e => by
    obtain ⟨u, h1, h2⟩ := al_get (i := i) h (by simpa using e)
    exact ⟨u, by simpa using h1, h2⟩
  | [], _ :: _, _, _, _, _, h, _ => h.elim
  | _ :: _, [], _, _, _, _, h, _ => h.elim
def pL (Ps : List PP) : PP := fun v H G => ∃ l vs, v = .ref l ∧ G l = some (.lst vs) ∧ Al Ps vs H G
theorem mono_L {Ps : List PP} (m : Monos Ps) : Mono (pL Ps) := fun _ _ _ _ _ e1 e2 ⟨l, vs, h1, h2, h3⟩ => ⟨l, vs, h1, e2 _ _ h2, al_ex m e1 e2 h3⟩
theorem monos_app : ∀ {Ps Qs : List PP}, Monos Ps → Monos Qs → Monos (Ps ++ Qs)
  | [], _, _, h => h
  | _ :: _, _, ⟨h1, h2⟩, h => ⟨h1, monos_app h2 h⟩
/-- what is known of the state -/
def MonoΦ (Φ : Hp → Hp → Prop) : Prop := ∀ H H' G G', Ex H H' → Ex G G' → Φ H G → Φ H' G'
def gE (σ0 : L2.St) (Φ : Hp → Hp → Prop) (P : PP) : TE := fun σ H Q => σ = σ0 ∧ ∃ G, Ex G H ∧ Φ H G ∧ ∀ v H' G', Ex H H' → Ext H G G' → Ex G' H' → P v H' G' → Q v H'
def GE (X : Cx) (σ0 : L2.St) (Φ : Hp → Hp → Prop) (e : Expr) (P : PP) : Prop := PE X e (gE σ0 Φ P)
def gA (σ0 : L2.St) (Φ : Hp → Hp → Prop) (Ps : List PP) : TA := fun σ H Q => σ = σ0 ∧ ∃ G, Ex G H ∧ Φ H G ∧ ∀ vs H' G', Ex H H' → Ext H G G' → Ex G' H' → Al Ps vs H' G' → Q vs H'
def GA (X : Cx) (σ0 : L2.St) (Φ : Hp → Hp → Prop) (es : List Expr) (Ps : List PP) : Prop := PA X es (gA σ0 Φ Ps)
def gS (σ0 : L2.St) (Φ : Hp → Hp → Prop) (R : PP) : TS := fun D σ H => σ = σ0 ∧ ∃ G, Ex G H ∧ Φ H G ∧ ∀ v H' G', Ex H H' → Ext H G G' → Ex G' H' → R v H' G' → D.rt v H'
def GS (X : Cx) (σ0 : L2.St) (Φ : Hp → Hp → Prop) (ss : List Stmt) (R : PP) : Prop := PSs X ss (gS σ0 Φ R)
theorem ext_trans {H H1 G G1 G2 : Hp} (e : Ex H H1) (a : Ext H G G1) (b : Ext H1 G1 G2) : Ext H G G2 := a.trans (b.weak e)
section
variable {X : Cx} {σ0 : L2.St} {Φ : Hp → Hp → Prop} {e a b c : Expr} {es rest : List Expr} {P Q R : PP} {Ps Qs : List PP} {x f y : Str} {pos p : Pos} {C : Addr}
theorem ge_imp (h : GE X σ0 Φ e P) (k : ∀ v H G, P v H G → Q v H G) : GE X σ0 Φ e Q := pe_imp h fun σ H q ⟨e, G, g, φ, z⟩ => ⟨e, G, g, φ, fun v H' G' x1 x2 x3 x4 => z v H' G' x1 x2 x3 (k v H' G' x4)⟩
theorem ge_var (i : Nat) {v : V} (h : σ0[i]? = some (some v) := by rfl) (hN : X.N[i]? = some x := by rfl) (hv : Vis X.env.scope x := by first | exact Or.inl rfl | exact Or.inr (Or.inl rfl) | exact Or.inr (Or.inr rfl))
    (hd : (x == ("__debug__" : Str)) = false := by decide) (hcd : (x == ("__classdict__" : Str)) = false := by decide) : GE X σ0 Φ (.Name x pos) (pV v) :=
  pe_imp (pe_var hN hv hd hcd) fun σ H Q ⟨e, G, g, φ, z⟩ => by
    subst e
    exact ⟨v, h, z v H G (Ex.refl H) (Ext.refl H G) g rfl⟩
theorem ga_nil : GA X σ0 Φ [] [] := pa_imp pa_nil fun σ H Q ⟨e, G, g, φ, z⟩ => z [] H G (Ex.refl H) (Ext.refl H G) g trivial
theorem ga_cons (mΦ : MonoΦ Φ) (mP : Mono P) (ha : GE X σ0 Φ e P) (hr : GA X σ0 Φ rest Ps) (hs : starEach (e :: rest) X.env = (false, eval e X.env) :: starEach rest X.env := by rfl) : GA X σ0 Φ (e :: rest) (P :: Ps) :=
  pa_imp (pa_cons ha hr hs) fun σ H Q ⟨e, G, g, φ, z⟩ => ⟨e, G, g, φ, fun v H1 G1 a1 a2 a3 a4 => ⟨e, G1, a3, mΦ _ _ _ _ a1 a2.1 φ, fun vs H2 G2 b1 b2 b3 b4 => z (v :: vs) H2 G2 (a1.trans b1) (ext_trans a1 a2 b2) b3 ⟨mP _ _ _ _ _ b1 b2.1 a4, b4⟩⟩⟩
theorem ge_list (h : GA X σ0 Φ es Ps) (hz : Ps.length ≤ 1000000 := by exact Nat.le_of_ble_eq_true rfl) (mP : Monos Ps) : GE X σ0 Φ (.List es pos) (pL Ps) :=
  pe_imp (pe_lst h) fun σ H Q ⟨e, G, g, φ, z⟩ => ⟨e, G, g, φ, fun vs H1 G1 a1 a2 a3 a4 => ⟨by rw [al_len a4]; exact Nat.le_trans hz sizeLine_big, fun l hl => by
    have hg : G1 l = none := a3.none hl
    exact z (.ref l) _ (upd G1 l (.lst vs)) (a1.trans (Ex.new hl)) (ext_trans a1 a2 (Ext.new hl hg)) a3.both ⟨l, vs, rfl, upd_same, al_ex mP (Ex.new hl) (Ex.new hg) a4⟩⟩⟩
theorem ge_cat (mΦ : MonoΦ Φ) (m1 : Monos Ps) (m2 : Monos Qs) (ha : GE X σ0 Φ a (pL Ps)) (hb : GE X σ0 Φ b (pL Qs)) (hz : Ps.length + Qs.length ≤ 1000000 := by exact Nat.le_of_ble_eq_true rfl) : GE X σ0 Φ (.BinOp a .Add b pos) (pL (Ps ++ Qs)) :=
  pe_imp (pe_op op_cat ha hb) fun σ H Q ⟨e, G, g, φ, z⟩ => ⟨e, G, g, φ, fun v H1 G1 a1 a2 a3 ⟨l1, vs, e1, q1, q2⟩ => ⟨e, G1, a3, mΦ _ _ _ _ a1 a2.1 φ, fun w H2 G2 b1 b2 b3 ⟨l2, ws, e2, q3, q4⟩ => by
    subst e1 e2
    refine ⟨_, _, _, _, rfl, rfl, a3.trans (Ex.refl _) |>.trans b1 |> fun k => k _ _ q1, b3 _ _ q3, by rw [al_len q2, al_len q4]; exact Nat.le_trans hz sizeLine_big, fun l hl => ?_⟩
    have hg : G2 l = none := b3.none hl
    exact z (.ref l) _ (upd G2 l (.lst (vs ++ ws))) ((a1.trans b1).trans (Ex.new hl)) (ext_trans (a1.trans b1) (ext_trans a1 a2 b2) (Ext.new hl hg)) b3.both ⟨l, _, rfl, upd_same, al_ex (monos_app m1 m2) (Ex.new hl) (Ex.new hg) (al_app (al_ex m1 b1 b2.1 q2) q4)⟩⟩⟩
theorem ge_know {v : V} (mΦ : MonoΦ Φ) (h : GE X σ0 Φ e (pV v)) (k : ∀ H G, Φ H G → P v H G) : GE X σ0 Φ e P :=
  pe_imp h fun σ H Q ⟨e, G, g, φ, z⟩ => ⟨e, G, g, φ, fun v H1 G1 a1 a2 a3 a4 => by
    have a4 : v = _ := a4
    subst a4
    exact z _ H1 G1 a1 a2 a3 (k _ _ (mΦ _ _ _ _ a1 a2.1 φ))⟩
theorem ge_glob {v : V} {u : Value} (hm : X.mg x = some u) (r : RelV v u) (hg : Gl X x := by rfl) (hd : (x == ("__debug__" : Str)) = false := by decide) : GE X σ0 Φ (.Name x pos) (pV v) :=
  pe_imp (pe_glob hg hm r hd) fun σ H Q ⟨e, G, g, φ, z⟩ => z v H G (Ex.refl H) (Ext.refl H G) g rfl
theorem ge_ty {n : String} (hm : X.mg x = none) (hv : bootBuiltins x = some (.type n) := by decide +kernel) (hg : Gl X x := by rfl) (hn : x ≠ "__name__" := by decide) (hd : (x == ("__debug__" : Str)) = false := by decide) : GE X σ0 Φ (.Name x pos) (pV (.ty n)) :=
  pe_imp (pe_bltn (v := .ty n) hg hm hv rfl hn hd) fun σ H Q ⟨e, G, g, φ, z⟩ => z _ H G (Ex.refl H) (Ext.refl H G) g rfl
theorem g_two {H H1 : Hp} {a d : Addr} {o u : HO} {G : Hp} (e : H = H1) (ha : H a = none) (hd : H d = none) (ne : a ≠ d) (g : Ex G H) : Ext H G (upd (upd G d u) a o) ∧ Ex (upd (upd G d u) a o) (upd (upd H d u) a o) ∧ Ex H (upd (upd H d u) a o) := by
  refine ⟨⟨ex_two (g.none ha) (g.none hd) ne, fun b z q n => ?_⟩, g.both.both, ex_two ha hd ne⟩
  by_cases h1 : b = a
  · rw [h1]; exact ha
  · rw [upd_ne h1] at q
    by_cases h2 : b = d
    · rw [h2]; exact hd
    · rw [upd_ne h2, n] at q
      cases q
section
variable {k : Nat} {params : Arguments} {scope : Scope} {p0 p1 p2 p3 p4 p5 p6 p7 p8 p9 p10 p11 : Pos} {v : V}
theorem ge_excN (T : ExcN X.prog X.K C f params [.Expr (.Call (.Attribute (.Call (.Name "super" p0) [] [] p1) "__init__" p2) [.Name y p3] [] p4) p5, .Assign [.Attribute (.Name "self" p6) f p7] (.Name y p9) p8] scope) (L : InitT X.prog y params scope)
    (hr : Room (k + 1) X.A) (hm : X.mg x = some (.ref C)) (hms : X.mg "super" = none) (ha : GE X σ0 Φ e (pV v)) (mΦ : MonoΦ Φ) (hg : Gl X x := by rfl) {pl : Env → Sem Bool}
    (he : ∀ env : Env, eval (.Call (.Attribute (.Call (.Name "super" p0) [] [] p1) "__init__" p2) [.Name y p3] [] p4) env = (do
      let ov ← attributeBase (.Call (.Name "super" p0) [] [] p1) "__init__" env (eval (.Call (.Name "super" p0) [] [] p1) env)
      standAt p2.atName
      let (f, first) ← holding [ov] (getMethod ov "__init__" (pl env))
      callWith p4 f first (backTo p4 (starEach [.Name y p3] env)) []) := by intro _; rfl) (hdb : (x == ("__debug__" : Str)) = false := by decide) (hst : starEach [e] X.env = (false, eval e X.env) :: starEach [] X.env := by rfl) :
    GE X σ0 Φ (.Call (.Name x p) [e] [] pos) (pX C [(f, v)]) :=
  pe_imp (pe_excN T L hr hg hm hms (ga_cons mΦ mono_V ha ga_nil hst) he hdb hst) fun σ H Q ⟨e, G, g, φ, z⟩ => ⟨e, G, g, φ, fun vs H1 G1 a1 a2 a3 a4 => by
    match vs, a4 with
    | [w], ⟨(ew : w = v), _⟩ =>
      subst ew
      refine ⟨w, rfl, fun a d h1 h2 ne => ?_⟩
      obtain ⟨t1, t2, t3⟩ := g_two (o := exo a C (some d)) (u := exd d [(f, w)]) (rfl : H1 = H1) h1 h2 ne a3
      exact z _ _ _ (a1.trans t3) (ext_trans a1 a2 t1) t2 ⟨a, rfl, some d, upd_same, .inr ⟨d, rfl, by rw [upd_ne (Ne.symm ne), upd_same]⟩⟩⟩
theorem ge_excT {l : Addr} {xs : List V} (T : ExcN X.prog X.K C f params [.Expr (.Call (.Attribute (.Call (.Name "super" p0) [] [] p1) "__init__" p2) [.Name y p3] [] p4) p5, .Assign [.Attribute (.Name "self" p6) f p7] (.Call (.Name "tuple" p9) [.Name y p10] [] p11) p8] scope) (L : InitT X.prog y params scope)
    (lt : scope.names.lookup ("tuple" : Str) = some .globalImplicit) (hr : Room (k + 1) X.A) (hm : X.mg x = some (.ref C)) (hms : X.mg "super" = none) (hmt : X.mg "tuple" = none) (ha : GE X σ0 Φ e (pV (.ref l))) (mΦ : MonoΦ Φ)
    (hs : ∀ H G, Ex G H → Φ H G → SqL X.K H l xs ∨ SqT X.K G l xs) (hg : Gl X x := by rfl) {pl : Env → Sem Bool}
    (he : ∀ env : Env, eval (.Call (.Attribute (.Call (.Name "super" p0) [] [] p1) "__init__" p2) [.Name y p3] [] p4) env = (do
      let ov ← attributeBase (.Call (.Name "super" p0) [] [] p1) "__init__" env (eval (.Call (.Name "super" p0) [] [] p1) env)
      standAt p2.atName
      let (f, first) ← holding [ov] (getMethod ov "__init__" (pl env))
      callWith p4 f first (backTo p4 (starEach [.Name y p3] env)) []) := by intro _; rfl) (hdb : (x == ("__debug__" : Str)) = false := by decide) (hst : starEach [e] X.env = (false, eval e X.env) :: starEach [] X.env := by rfl) :
    GE X σ0 Φ (.Call (.Name x p) [e] [] pos) (pXT X.K C f xs) :=
  pe_imp (pe_excT T L lt hr hg hm hms hmt (ga_cons mΦ mono_V ha ga_nil hst) he hdb hst) fun σ H Q ⟨e, G, g, φ, z⟩ => ⟨e, G, g, φ, fun vs H1 G1 a1 a2 a3 a4 => by
    match vs, a4 with
    | [w], ⟨(ew : w = .ref l), _⟩ =>
      subst ew
      refine ⟨l, xs, rfl, ?_⟩
      rcases hs H1 G1 a3 (mΦ _ _ _ _ a1 a2.1 φ) with q | q
      · refine .inl ⟨q, fun a d q h1 h2 h3 n1 n2 n3 => ?_⟩
        have e1 : Ex H1 (upd H1 q (.tup xs)) := Ex.new h3
        have f1 : Ex (upd G1 q (.tup xs)) (upd H1 q (.tup xs)) := a3.both
        obtain ⟨t1, t2, t3⟩ := g_two (o := exo a C (some d)) (u := exd d [(f, .ref q)]) (rfl : upd H1 q (.tup xs) = _) (by rw [upd_ne n2]; exact h1) (by rw [upd_ne n3]; exact h2) n1 f1
        refine z _ _ _ (a1.trans (e1.trans t3)) (ext_trans a1 a2 (ext_trans e1 (Ext.new h3 (a3.none h3)) t1)) t2 ⟨a, q, rfl, ⟨some d, upd_same, .inr ⟨d, rfl, by rw [upd_ne (Ne.symm n1), upd_same]⟩⟩, SqT.of ?_⟩
        rw [upd_ne (Ne.symm n2), upd_ne (Ne.symm n3), upd_same]
      · refine .inr ⟨sqT_ex a3 q, fun a d h1 h2 ne => ?_⟩
        obtain ⟨t1, t2, t3⟩ := g_two (o := exo a C (some d)) (u := exd d [(f, .ref l)]) (rfl : H1 = H1) h1 h2 ne a3
        exact z _ _ _ (a1.trans t3) (ext_trans a1 a2 t1) t2 ⟨a, l, rfl, ⟨some d, upd_same, .inr ⟨d, rfl, by rw [upd_ne (Ne.symm ne), upd_same]⟩⟩, sqT_ex t1.1 q⟩⟩
theorem ge_exc0 {bmB : List Value} {B newId initId : String} (F : ExcBaseFacts B newId initId bmB) (q : PySem.W.excIn X.K C bmB newId = true) (gC : X.mg x = some (.ref C)) (kC : PySem.W.keepIn X.K (.ref C) = true) (hg : Gl X x := by rfl) (hdb : (x == ("__debug__" : Str)) = false := by decide) :
    GE X σ0 Φ (.Call (.Name x p) [] [] pos) (pX C []) :=
  pe_imp (pe_exc0 F q gC kC hg hdb) fun σ H Q ⟨e, G, g, φ, z⟩ => fun a h => z (.ref a) _ (upd G a (exo a C none)) (Ex.new h) (Ext.new h (g.none h)) g.both ⟨a, rfl, none, upd_same, .inl ⟨rfl, rfl⟩⟩
end
/-- isinstance(e, T) -/
theorem ge_isX {fs : List (Str × V)} {c0 : V} {cv : Value} {r : Bool} (R : ExcR X.K C) (hk : PySem.W.kitOne X.K (.ref C) cv = some r) (hc : ∀ u, RelV c0 u → u = cv) (mΦ : MonoΦ Φ) (ha : GE X σ0 Φ a (pX C fs)) (hb : GE X σ0 Φ b (pV c0)) (hm : X.mg "isinstance" = none) (hg : Gl X "isinstance" := by rfl)
    (h1 : starEach [a, b] X.env = (false, eval a X.env) :: starEach [b] X.env := by rfl) (h2 : starEach [b] X.env = (false, eval b X.env) :: starEach [] X.env := by rfl) (hpl : (backTo pos (starEach [b] X.env)).any (·.1) = false := by rfl) : GE X σ0 Φ (.Call (.Name "isinstance" p) [a, b] [] pos) (pV (.bl r)) :=
  pe_imp (pe_callB (call_isX (X := X)) hg hm (by decide +kernel) (ga_cons mΦ mono_X ha (ga_cons mΦ mono_V hb ga_nil h2) h1) (by decide) (by decide) h1 hpl) fun σ H Q ⟨e, G, g, φ, z⟩ => ⟨e, G, g, φ, fun vs H1 G1 a1 a2 a3 a4 => by
    match vs, a4 with
    | [v, w], ⟨⟨a, e1, e2⟩, (e3 : w = c0), _⟩ =>
      subst e1 e3
      exact ⟨a, C, fs, w, cv, r, rfl, e2.ex a3, R, hc, hk, z _ H1 G1 a1 a2 a3 rfl⟩⟩
theorem ge_isC {fs : List (Str × V)} {r : Bool} {D : Addr} {q : Pos} (R : ExcR X.K C) (hk : PySem.W.kitOne X.K (.ref C) (.ref D) = some r) (mΦ : MonoΦ Φ) (ha : GE X σ0 Φ a (pX C fs)) (gD : X.mg y = some (.ref D)) (hm : X.mg "isinstance" = none) (hg : Gl X "isinstance" := by rfl) (hgy : Gl X y := by rfl) (hdy : (y == ("__debug__" : Str)) = false := by decide)
    (h1 : starEach [a, .Name y q] X.env = (false, eval a X.env) :: starEach [.Name y q] X.env := by rfl) (h2 : starEach [.Name y q] X.env = (false, eval (.Name y q) X.env) :: starEach [] X.env := by rfl) (hpl : (backTo pos (starEach [.Name y q] X.env)).any (·.1) = false := by rfl) : GE X σ0 Φ (.Call (.Name "isinstance" p) [a, .Name y q] [] pos) (pV (.bl r)) :=
  ge_isX (c0 := .ref D) (cv := .ref D) R hk (fun u h => h) mΦ ha (ge_glob (v := .ref D) gD rfl hgy hdy) hm hg h1 h2 hpl
theorem ge_isT {fs : List (Str × V)} {r : Bool} {n : String} {q : Pos} (R : ExcR X.K C) (hk : PySem.W.kitOne X.K (.ref C) (.type n) = some r) (mΦ : MonoΦ Φ) (ha : GE X σ0 Φ a (pX C fs)) (hn : X.mg y = none) (hm : X.mg "isinstance" = none) (hv : bootBuiltins y = some (.type n) := by decide +kernel) (hg : Gl X "isinstance" := by rfl) (hgy : Gl X y := by rfl) (hny : y ≠ "__name__" := by decide) (hdy : (y == ("__debug__" : Str)) = false := by decide)
    (h1 : starEach [a, .Name y q] X.env = (false, eval a X.env) :: starEach [.Name y q] X.env := by rfl) (h2 : starEach [.Name y q] X.env = (false, eval (.Name y q) X.env) :: starEach [] X.env := by rfl) (hpl : (backTo pos (starEach [.Name y q] X.env)).any (·.1) = false := by rfl) : GE X σ0 Φ (.Call (.Name "isinstance" p) [a, .Name y q] [] pos) (pV (.bl r)) :=
  ge_isX (c0 := .ty n) (cv := .type n) R hk (fun u h => h) mΦ ha (ge_ty hn hv hgy hny hdy) hm hg h1 h2 hpl
def pT (ts : List String) : PP := fun v H _ => ∃ l, v = .ref l ∧ H l = some (.tup (ts.map V.ty))
theorem mono_T {ts : List String} : Mono (pT ts) := fun _ _ _ _ _ e _ ⟨l, h1, h2⟩ => ⟨l, h1, e _ _ h2⟩
theorem ge_tup {ts : List String} {k : Nat} (h : GA X σ0 Φ es (ts.map fun t => pV (.ty t))) (hz : ts.length ≤ 1000000 := by exact Nat.le_of_ble_eq_true rfl) : GE X σ0 Φ (.Tuple es k pos) (pT ts) :=
  pe_imp (pe_tup h) fun σ H Q ⟨e, G, g, φ, z⟩ => ⟨e, G, g, φ, fun vs H1 G1 a1 a2 a3 a4 => by
    have hv : ∀ (ts : List String) (vs : List V), Al (ts.map fun t => pV (.ty t)) vs H1 G1 → vs = ts.map V.ty := by
      intro ts
      induction ts with
      | nil => intro vs h; cases vs with
        | nil => rfl
        | cons _ _ => exact h.elim
      | cons t ts ih =>
        intro vs h
        cases vs with
        | nil => exact h.elim
        | cons v vs =>
          obtain ⟨(h1 : v = .ty t), h2⟩ := h
          rw [ih vs h2, h1] <;> rfl
    have ev := hv ts vs a4
    subst ev
    exact ⟨by rw [List.length_map]; exact Nat.le_trans hz sizeLine_big, fun l hl => z (.ref l) _ G1 (a1.trans (Ex.new hl)) (a2) (a3.mut (a3.none hl)) ⟨l, rfl, upd_same⟩⟩⟩
theorem ge_isXT {fs : List (Str × V)} {ts : List String} {r : Bool} (R : ExcR X.K C) (hk : PySem.W.kitAny X.K (.ref C) (ts.map Value.type) = some r) (mΦ : MonoΦ Φ) (ha : GE X σ0 Φ a (pX C fs)) (hb : GE X σ0 Φ b (pT ts)) (hm : X.mg "isinstance" = none) (hg : Gl X "isinstance" := by rfl)
    (h1 : starEach [a, b] X.env = (false, eval a X.env) :: starEach [b] X.env := by rfl) (h2 : starEach [b] X.env = (false, eval b X.env) :: starEach [] X.env := by rfl) (hpl : (backTo pos (starEach [b] X.env)).any (·.1) = false := by rfl) : GE X σ0 Φ (.Call (.Name "isinstance" p) [a, b] [] pos) (pV (.bl r)) :=
  pe_imp (pe_callB (call_isXT (X := X)) hg hm (by decide +kernel) (ga_cons mΦ mono_X ha (ga_cons mΦ mono_T hb ga_nil h2) h1) (by decide) (by decide) h1 hpl) fun σ H Q ⟨e, G, g, φ, z⟩ => ⟨e, G, g, φ, fun vs H1 G1 a1 a2 a3 a4 => by
    match vs, a4 with
    | [v, w], ⟨⟨a, e1, e2⟩, ⟨l, e3, e4⟩, _⟩ =>
      subst e1 e3
      exact ⟨a, C, fs, l, ts, r, rfl, e2.ex a3, R, e4, hk, z _ H1 G1 a1 a2 a3 rfl⟩⟩
theorem ge_one {op : BoolOp} (h : GE X σ0 Φ a P) : GE X σ0 Φ (.BoolOp op [a] pos) P := pe_one h
theorem ge_or {r1 r2 : Bool} (mΦ : MonoΦ Φ) (h : GE X σ0 Φ a (pV (.bl r1))) (h2 : GE X σ0 Φ (.BoolOp .Or (b :: rest) pos) (pV (.bl r2))) : GE X σ0 Φ (.BoolOp .Or (a :: b :: rest) pos) (pV (.bl (r1 || r2))) :=
  pe_imp (pe_or h h2) fun σ H Q ⟨e, G, g, φ, z⟩ => ⟨e, G, g, φ, fun v H1 G1 a1 a2 a3 a4 => by
    have a4 : v = .bl r1 := a4
    subst a4
    refine ⟨r1, rfl, ?_⟩
    cases r1 with
    | true => exact z _ H1 G1 a1 a2 a3 rfl
    | false => exact ⟨e, G1, a3, mΦ _ _ _ _ a1 a2.1 φ, fun v H2 G2 b1 b2 b3 b4 => z v H2 G2 (a1.trans b1) (ext_trans a1 a2 b2) b3 b4⟩⟩
/-! statements -/
def MP (P : PP) (v : V) (Φ : Hp → Hp → Prop) : Hp → Hp → Prop := fun H G => Φ H G ∧ P v H G
theorem mono_MP {v : V} (m1 : MonoΦ Φ) (m2 : Mono P) : MonoΦ (MP P v Φ) := fun H H' G G' e1 e2 ⟨h1, h2⟩ => ⟨m1 H H' G G' e1 e2 h1, m2 _ _ _ _ _ e1 e2 h2⟩
def anyGS (X : Cx) (rest : List Stmt) (R : PP) : TS := fun D σ H => ∃ (σ0 : L2.St) (Φ : Hp → Hp → Prop), GS X σ0 Φ rest R ∧ gS σ0 Φ R D σ H
theorem anyGS_ok {ss : List Stmt} : PSs X ss (anyGS X ss R) := ⟨fun pins s σ H D I ⟨σ0, Φ, h, q⟩ => h.run pins s σ H D I q⟩
theorem gs_set (i : Nat) {pos' : Pos} {ss : List Stmt} (mΦ : MonoΦ Φ) (mP : Mono P) (he : GE X σ0 Φ e P) (k : ∀ v, GS X (σ0.set i (some v)) (MP P v Φ) ss R) (hN : X.N.Nodup) (hi : X.N[i]? = some x := by rfl) (hx : Loc X.env.scope x := by first | exact Or.inl rfl | exact Or.inr rfl) (hs : swapsWith e (some (.Name x pos')) pos.line X.env = pure false := by rfl)
    (hf : X.fn x = true ∨ X.env.scope.names.lookup x = some .local := by first | exact .inl rfl | exact .inr rfl) : GS X σ0 Φ (.Assign [.Name x pos'] e pos :: ss) R :=
  pss_imp (pss_cons (ps_set hN hi hx he hs hf) anyGS_ok) fun D σ H ⟨e, G, g, φ, z⟩ => ⟨e, G, g, φ, fun v H1 G1 a1 a2 a3 a4 => ⟨_, _, k v, by rw [e], G1, a3, ⟨mΦ _ _ _ _ a1 a2.1 φ, a4⟩, fun w H2 G2 b1 b2 b3 b4 => z w H2 G2 (a1.trans b1) (ext_trans a1 a2 b2) b3 b4⟩⟩
theorem gs_pre {Φ' : Hp → Hp → Prop} {ss : List Stmt} (k : ∀ H G, Φ' H G → Φ H G) (h : GS X σ0 Φ ss R) : GS X σ0 Φ' ss R :=
  pss_imp h fun D σ H ⟨e, G, g, φ, z⟩ => ⟨e, G, g, k H G φ, z⟩
theorem gs_ret (he : GE X σ0 Φ e R) : GS X σ0 Φ [.Return (some e) pos] R :=
  pss_imp (pss_one (ps_ret he)) fun D σ H ⟨e, G, g, φ, z⟩ => ⟨e, G, g, φ, z⟩
end
end EX
end part_EXd
section part_EXe
/-! Pinned values in the layer's states. -/
namespace EX
open L2 PyProof.Rows PySem.Spec PySem DM
section
variable {P : Program} {w : World} {K : PySem.W.Frag} {mg : Str → Option Value} {base : Heap} {x : Str} {st : Stmt} {N ps : List Str} {k : Nat} {α : Type}
/-- a def that only makes new things -/
def spG (Φ : α → List V → Hp → Hp → Prop) (R : α → List V → PP) : Sp := fun vs H Q _ => ∃ a G, Ex G H ∧ Φ a vs H G ∧ ∀ v H' G', Ex H H' → Ext H G G' → Ex G' H' → R a vs v H' G' → Q v H'
theorem def_G [Tabl] {Φ : α → List V → Hp → Hp → Prop} {R : α → List V → PP} (hp : Put K mg x st) (S : FnScope N ps (defScope st)) (hb : BindsOf st x ps) (hl : ∀ a vs H G, Φ a vs H G → vs.length = ps.length)
    (body : ∀ (c : CxA), Rm k (cx P w K mg base N x st c).A → ∀ a vs, vs.length = ps.length → GS (cx P w K mg base N x st c) (L2.start N vs) (Φ a vs) (defBody st) (R a vs)) : Def P w K mg base x (k + 1) ps (spG Φ R) := by
  obtain ⟨f, fd, h1, F⟩ := hp.ex
  have b := F.bindsN (ps := ps) hb
  refine ⟨f, fd, h1, F.kp, b, fnG_of F S (fun vs H Q E h => ?_) (fun cdv A outer s H vs Q E hr0 hgd h => ?_)⟩
  · obtain ⟨a, G, g, φ, _⟩ := h
    exact hl a vs H G φ
  · obtain ⟨a, G, g, φ, q⟩ := h
    exact ⟨_, PSs.nox (body ⟨f, cdv, A, outer, s, H, E⟩ ⟨hr0, hgd⟩ a vs (hl a vs H G φ)), rfl, G, g, φ, q⟩
end
section
variable {X : Cx} {ρ ρ1 ρ2 : List Sl} {e a b c : Expr} {es rest : List Expr} {P P0 : V → Hp → Prop} {x y f : Str} {pos p pn p2 : Pos} {d d1 : PyData} {ds : List PyData} {v : V} {T : Hp} {ss : List Stmt} {o : Out}
def cEP [Tabl] (K : PySem.W.Frag) (ρ : List Sl) (P : V → Hp → Prop) (ρ' : List Sl) : TE := fun σ H Q => ∃ F G ad, Sta K F G H σ ρ ad ∧ ∀ v H' G' ad', Ext F G G' → Sta K F G' H' σ ρ' ad' → P v G' → Q v H'
def EP [Tabl] (X : Cx) (e : Expr) (ρ : List Sl) (P : V → Hp → Prop) (ρ' : List Sl) : Prop := PE X e (cEP X.K ρ P ρ')
theorem EP.toE [Tabl] (h : EP X e ρ P ρ1) (k : ∀ v G, P v G → Da X.K G v d) : E X e ρ d ρ1 := pe_imp h fun σ H Q ⟨F, G, ad, w, z⟩ => ⟨F, G, ad, w, fun v H' G' ad' x1 x2 x3 => z v H' G' ad' x1 x2 (k v G' x3)⟩
theorem ep_of [Tabl] (h : E X e ρ d ρ1) : EP X e ρ (fun v G => Da X.K G v d) ρ1 := h
theorem ep_pin [Tabl] (i : Nat) (h : ρ[i]? = some (.pin v T) := by rfl) (hN : X.N[i]? = some x := by rfl) (hv : Vis X.env.scope x := by first | exact Or.inl rfl | exact Or.inr (Or.inl rfl) | exact Or.inr (Or.inr rfl))
    (hd : (x == ("__debug__" : Str)) = false := by decide) (hcd : (x == ("__classdict__" : Str)) = false := by decide) : EP X (.Name x pos) ρ (fun u G => u = v ∧ Ex T G) ρ :=
  pe_imp (pe_var hN hv hd hcd) fun σ H Q ⟨F, G, ad, w, k⟩ => by
    obtain ⟨h1, h2⟩ := w.hold i _ h
    exact ⟨v, h1, k v H G ad (Ext.refl F G) w ⟨rfl, h2⟩⟩
/-- x[b], x a list of pinned values -/
theorem ep_ix [Tabl] (i : Nat) {j : Nat} {l : Addr} {vs : List V} {u : V} (hb : E X b ρ (.int (j : Int)) ρ1) (hT : T l = some (.lst vs)) (hj : vs[j]? = some u) (h : ρ[i]? = some (.pin (.ref l) T) := by rfl) (hN : X.N[i]? = some x := by rfl) (hv : Vis X.env.scope x := by first | exact Or.inl rfl | exact Or.inr (Or.inl rfl) | exact Or.inr (Or.inr rfl))
    (hd : (x == ("__debug__" : Str)) = false := by decide) (hcd : (x == ("__classdict__" : Str)) = false := by decide) (hs : PlainIx b := by exact fun _ _ => rfl) : EP X (.Subscript (.Name x p) b pos) ρ (fun w G => w = u ∧ Ex T G) ρ1 :=
  pe_imp (pe_ix ix_list (pe_var hN hv hd hcd) hb hs) fun σ H Q ⟨F, G, ad, w, k⟩ => by
    obtain ⟨h1, h2⟩ := w.hold i _ h
    refine ⟨.ref l, h1, F, G, ad, w, fun y H1 G1 ad1 e1 w1 q => ?_⟩
    cases q
    exact ⟨l, vs, j, u, rfl, rfl, SqL.of (w1.gh _ _ (e1.1 _ _ (h2 _ _ hT))), atI_nat hj, k u H1 G1 ad1 e1 w1 ⟨rfl, h2.trans e1.1⟩⟩
theorem e_lenP [Tabl] (i : Nat) {l : Addr} {vs : List V} (hT : T l = some (.lst vs)) (hm : X.mg "len" = none) (h : ρ[i]? = some (.pin (.ref l) T) := by rfl) (hg : Gl X "len" := by rfl) (hN : X.N[i]? = some x := by rfl) (hv : Vis X.env.scope x := by first | exact Or.inl rfl | exact Or.inr (Or.inl rfl) | exact Or.inr (Or.inr rfl))
    (hd : (x == ("__debug__" : Str)) = false := by decide) (hcd : (x == ("__classdict__" : Str)) = false := by decide) (he : starEach [.Name x p2] X.env = (false, eval (.Name x p2) X.env) :: starEach [] X.env := by rfl) (hpl : (backTo pos (starEach [] X.env)).any (·.1) = false := by rfl) :
    E X (.Call (.Name "len" pn) [.Name x p2] [] pos) ρ (.int (vs.length : Int)) ρ :=
  pe_imp (pe_callB call_len_seq hg hm (by decide +kernel) (pa_cons (pe_var hN hv hd hcd) pa_nil he) (by decide) (by decide) he hpl) fun σ H Q ⟨F, G, ad, w, k⟩ => by
    obtain ⟨h1, h2⟩ := w.hold i _ h
    exact ⟨_, h1, _, _, rfl, .inl (SqL.of (w.gh _ _ (h2 _ _ hT))), k _ H G ad (Ext.refl F G) w (.int _)⟩
/-- e.f, e a pinned exception -/
theorem e_xf [Tabl] {ea C : Addr} {fs : List (Str × V)} {u : V} (ha : EP X a ρ (fun w G => w = .ref ea ∧ Ex T G) ρ1) (hx : ExAt T ea C fs) (R : ExcR X.K C) (hno : PySem.W.findIn X.K (.ref C) f = some none) (hl : fs.lookup f = some u) (hd : Da X.K T u d)
    (hb : attributeBase a f X.env (eval a X.env) = eval a X.env := by rfl) : E X (.Attribute a f pos) ρ d ρ1 :=
  pe_imp (pe_xfX (n := f) ha hb) fun σ H Q ⟨F, G, ad, w, k⟩ => ⟨F, G, ad, w, fun v H1 G1 ad1 e1 w1 ⟨ev, t⟩ => by
    subst ev
    exact ⟨ea, C, fs, u, rfl, hx.ex (t.trans w1.gh), R, hno, hl, k u H1 G1 ad1 e1 w1 (da_ex t hd)⟩⟩
/-! calls -/
theorem ep_call1 [Tabl] {α : Type} {Φ : α → List V → Hp → Hp → Prop} {R : α → List V → PP} (f : Kn X x (spG Φ R)) (ha : EP X a ρ P0 ρ1) (hΦ : ∀ v H G, Ex G H → P0 v G → ∃ α, Φ α [v] H G ∧ ∀ u H' G', Ex G G' → R α [v] u H' G' → P u G') (hg : Gl X x := by rfl)
    (hdb : (x == ("__debug__" : Str)) = false := by decide) (he : starEach [a] X.env = (false, eval a X.env) :: starEach [] X.env := by rfl) (hpl : (backTo pos (starEach [] X.env)).any (·.1) = false := by rfl) : EP X (.Call (.Name x pn) [a] [] pos) ρ P ρ1 := by
  obtain ⟨k, f, fd, ps, F, ⟨hr, hgd⟩, hm, hk, hb⟩ := f.ex
  refine pe_imp (pe_callG F hr hgd hg hm hk hb .nil pass0 (pa_cons ha pa_nil he) hdb he hpl) fun σ H Q ⟨F, G, ad, w, k⟩ => ⟨F, G, ad, w, fun v H1 G1 ad1 e1 w1 q => ?_⟩
  obtain ⟨α, φ, z⟩ := hΦ v H1 G1 w1.gh q
  exact ⟨α, G1, w1.gh, φ, fun u H2 G2 x1 x2 x3 x4 => k u H2 G2 ad1 (e1.trans (x2.weak w1.fh)) (w1.grow x1 x2 x3) (z u H2 G2 x2.1 x4)⟩
/-- names -/
def NA (X : Cx) (es : List Expr) (js : List Nat) : Prop := PA X es (fun σ H Q => ∃ vs : List V, (js.map fun j => σ[j]?) = vs.map (fun v => some (some v)) ∧ Q vs H)
theorem na_nil : NA X [] [] := pa_imp pa_nil fun σ H Q ⟨vs, h, q⟩ => by
  cases vs with
  | nil => exact q
  | cons _ _ => cases h
theorem na_cons {js : List Nat} (i : Nat) (hr : NA X rest js) (hN : X.N[i]? = some x := by rfl) (hv : Vis X.env.scope x := by first | exact Or.inl rfl | exact Or.inr (Or.inl rfl) | exact Or.inr (Or.inr rfl))
    (hd : (x == ("__debug__" : Str)) = false := by decide) (hcd : (x == ("__classdict__" : Str)) = false := by decide) (hs : starEach (.Name x p :: rest) X.env = (false, eval (.Name x p) X.env) :: starEach rest X.env := by rfl) : NA X (.Name x p :: rest) (i :: js) :=
  pa_imp (pa_cons (pe_var hN hv hd hcd) hr hs) fun σ H Q ⟨vs, h, q⟩ => by
    cases vs with
    | nil => cases h
    | cons v vs =>
      obtain ⟨h1, h2⟩ := List.cons.inj h
      exact ⟨v, h1, vs, h2, q⟩
theorem ep_callN [Tabl] {α : Type} {Φ : α → List V → Hp → Hp → Prop} {R : α → List V → PP} {js : List Nat} (f : Kn X x (spG Φ R)) (ha : NA X (e :: rest) js)
    (hΦ : ∀ F G H σ ad, Sta X.K F G H σ ρ ad → ∃ vs α, (js.map fun j => σ[j]?) = vs.map (fun v => some (some v)) ∧ Φ α vs H G ∧ ∀ u H' G', Ex G G' → R α vs u H' G' → P u G') (hg : Gl X x := by rfl)
    (hdb : (x == ("__debug__" : Str)) = false := by decide) (he : starEach (e :: rest) X.env = (false, eval e X.env) :: starEach rest X.env := by rfl) (hpl : (backTo pos (starEach rest X.env)).any (·.1) = false := by rfl) : EP X (.Call (.Name x pn) (e :: rest) [] pos) ρ P ρ := by
  obtain ⟨k, f, fd, ps, F, ⟨hr, hgd⟩, hm, hk, hb⟩ := f.ex
  refine pe_imp (pe_callG F hr hgd hg hm hk hb .nil pass0 ha hdb he hpl) fun σ H Q ⟨F, G, ad, w, k⟩ => ?_
  obtain ⟨vs, α, hv, φ, z⟩ := hΦ F G H σ ad w
  exact ⟨vs, hv, α, G, w.gh, by rw [List.append_nil]; exact φ, fun u H2 G2 x1 x2 x3 x4 => k u H2 G2 ad (x2.weak w.fh) (w.grow x1 x2 x3) (z u H2 G2 x2.1 (by rw [List.append_nil] at x4; exact x4))⟩
/-! statements -/
theorem staPin [Tabl] {K : PySem.W.Frag} {F G H : Hp} {σ : L2.St} {ad : Nat → List Addr} {i : Nat} (w : Sta K F G H σ ρ ad) (hr : i < ρ.length) : Sta K F G H (σ.set i (some v)) (ρ.set i (.pin v G)) (fun j => if j = i then [] else ad j) where
  gh := w.gh
  fh := w.fh
  own := fun j a q => by
    by_cases e : j = i
    · rw [if_pos e] at q; cases q
    · rw [if_neg e] at q; exact w.own j a q
  there := fun j a q => by
    by_cases e : j = i
    · rw [if_pos e] at q; cases q
    · rw [if_neg e] at q; exact w.there j a q
  dis := fun j k a q1 q2 => by
    by_cases e : j = i
    · rw [if_pos e] at q1; cases q1
    · rw [if_neg e] at q1
      by_cases e2 : k = i
      · rw [if_pos e2] at q2; cases q2
      · rw [if_neg e2] at q2; exact w.dis j k a q1 q2
  len := by rw [List.length_set, List.length_set]; exact w.len
  hold := fun j r q => by
    have hi : i < σ.length := by rw [w.len]; exact hr
    by_cases e : j = i
    · subst e
      rw [List.getElem?_set_self (by
        have := (List.getElem?_eq_some_iff.mp q).1
        rw [List.length_set] at this
        exact this)] at q
      cases q
      rw [List.getElem?_set_self hi]
      exact ⟨rfl, Ex.refl G⟩
    · rw [List.getElem?_set_ne (Ne.symm e)] at q ⊢
      rw [if_neg e]
      exact w.hold j r q
  tk := w.tk
theorem s_setP [Tabl] (i : Nat) {pos' : Pos} (he : EP X e ρ P ρ1) (k : ∀ v T, P v T → S X ss (ρ1.set i (.pin v T)) o) (hN : X.N.Nodup) (hi : X.N[i]? = some x := by rfl) (hx : Loc X.env.scope x := by first | exact Or.inl rfl | exact Or.inr rfl) (hl : i < ρ1.length := by exact Nat.le_of_ble_eq_true rfl) (hs : swapsWith e (some (.Name x pos')) pos.line X.env = pure false := by rfl)
    (hf : X.fn x = true ∨ X.env.scope.names.lookup x = some .local := by first | exact .inl rfl | exact .inr rfl) : S X (.Assign [.Name x pos'] e pos :: ss) ρ o :=
  pss_imp (pss_cons (ps_set hN hi hx he hs hf) anyS_ok) fun D σ H ⟨F, G, ad, w, z⟩ => ⟨F, G, ad, w, fun v H1 G1 ad1 e1 w1 p1 => ⟨_, o, k v G1 p1, F, G1, _, staPin w1 hl, fun σ2 H2 G2 ad2 e2 => z σ2 H2 G2 ad2 (e1.trans e2)⟩⟩
theorem s_parDP [Tabl] (i j : Nat) {px py pt : Pos} {kt k2 : Nat} {pt2 : Pos} (ha : E X a ρ d1 ρ1) (hb : EP X b ρ1 P ρ2) (k : ∀ v T, P v T → S X ss ((ρ2.set i (.dat d1)).set j (.pin v T)) o) (hc : X.calm = true) (hN : X.N.Nodup) (hi : X.N[i]? = some x := by rfl) (hj : X.N[j]? = some y := by rfl) (hij : i ≠ j := by decide)
    (hx : X.env.scope.names.lookup x = some .local := by rfl) (hy : X.env.scope.names.lookup y = some .local := by rfl) (hl : i < ρ2.length := by exact Nat.le_of_ble_eq_true rfl) (hl2 : j < ρ2.length := by exact Nat.le_of_ble_eq_true rfl)
    (hs1 : starEach [a, b] X.env = (false, eval a X.env) :: starEach [b] X.env := by rfl) (hs2 : starEach [b] X.env = (false, eval b X.env) :: starEach [] X.env := by rfl)
    (hw : swappedStores [.Tuple [.Name x px, .Name y py] kt pt] (.Tuple [a, b] k2 pt2) X.env = pure (some [x, y]) := by rfl)
    (hs : swapsWithSole [.Tuple [.Name x px, .Name y py] kt pt] (.Tuple [a, b] k2 pt2) pos.line X.env = pure false := by rfl) :
    S X (.Assign [.Tuple [.Name x px, .Name y py] kt pt] (.Tuple [a, b] k2 pt2) pos :: ss) ρ o :=
  pss_imp (pss_cons (ps_par hc hN hi hj hij hx hy (pa_cons ha (pa_cons hb pa_nil hs2) hs1) hw hs) anyS_ok) fun D σ H ⟨F, G, ad, w, z⟩ => ⟨F, G, ad, w, fun v1 H1 G1 ad1 e1 w1 p1 => ⟨F, G1, ad1, w1, fun v2 H2 G2 ad2 e2 w2 p2 =>
    ⟨v1, v2, rfl, _, o, k v2 G2 p2, F, G2, _, staPin (w2.set (da_ex e2.1 p1) hl) (by rw [List.length_set]; exact hl2), fun σ3 H3 G3 ad3 e3 => z σ3 H3 G3 ad3 ((e1.trans e2).trans e3)⟩⟩⟩
/-- tuple(x), x a list of one's own, which stays one's own -/
theorem e_tupO [Tabl] (i : Nat) (hm : X.mg "tuple" = none) (h : ρ[i]? = some (.own ds) := by rfl) (hg : Gl X "tuple" := by rfl) (hN : X.N[i]? = some x := by rfl) (hv : Vis X.env.scope x := by first | exact Or.inl rfl | exact Or.inr (Or.inl rfl) | exact Or.inr (Or.inr rfl))
    (hd : (x == ("__debug__" : Str)) = false := by decide) (hcd : (x == ("__classdict__" : Str)) = false := by decide) (he : starEach [.Name x p2] X.env = (false, eval (.Name x p2) X.env) :: starEach [] X.env := by rfl) (hpl : (backTo pos (starEach [] X.env)).any (·.1) = false := by rfl) :
    E X (.Call (.Name "tuple" pn) [.Name x p2] [] pos) ρ (.tuple ds) ρ :=
  pe_imp (pe_callTy call_tuple_of hg hm (by decide +kernel) (pa_cons (pe_var hN hv hd hcd) pa_nil he) (by decide) (by decide) he hpl) fun σ H Q ⟨F, G, ad, w, k⟩ => by
    obtain ⟨l, xs, h1, h2, h3, h4⟩ := w.own_at h
    refine ⟨_, h1, l, xs, rfl, .inl ⟨SqL.of h2, fun q hq => ?_⟩⟩
    have hg2 := w.gh.none hq
    exact k (.ref q) _ (upd G q (.tup xs)) ad (Ext.new (w.fh.none hq) hg2) (w.grow (Ex.new hq) (Ext.new hq hg2) w.gh.both) (.tup (SqT.of upd_same) (daAll_ex (Ex.new hg2) h3))
/-- isinstance(x, list), x a list of one's own -/
theorem e_isiO [Tabl] (i : Nat) (hm : X.mg "isinstance" = none) (hy : X.mg "list" = none) (h : ρ[i]? = some (.own ds) := by rfl) (hg : Gl X "isinstance" := by rfl) (hgy : Gl X "list" := by rfl) (hN : X.N[i]? = some x := by rfl) (hv : Vis X.env.scope x := by first | exact Or.inl rfl | exact Or.inr (Or.inl rfl) | exact Or.inr (Or.inr rfl))
    (hd : (x == ("__debug__" : Str)) = false := by decide) (hcd : (x == ("__classdict__" : Str)) = false := by decide)
    (hs1 : starEach [.Name "list" p2] X.env = (false, eval (.Name "list" p2) X.env) :: starEach [] X.env := by rfl) (he : starEach [.Name x p, .Name "list" p2] X.env = (false, eval (.Name x p) X.env) :: starEach [.Name "list" p2] X.env := by rfl) (hpl : (backTo pos (starEach [.Name "list" p2] X.env)).any (·.1) = false := by rfl) :
    E X (.Call (.Name "isinstance" pn) [.Name x p, .Name "list" p2] [] pos) ρ (.bool true) ρ :=
  pe_imp (pe_callB call_isi hg hm (by decide +kernel) (pa_cons (pe_var hN hv hd hcd) (pa_cons (pe_bltn (v := .ty "list") hgy hy (by decide +kernel) rfl (by decide) (by decide)) pa_nil hs1) he) (by decide) (by decide) he hpl) fun σ H Q ⟨F, G, ad, w, k⟩ => by
    obtain ⟨l, xs, h1, h2, h3, h4⟩ := w.own_at h
    exact ⟨_, h1, .ref l, .ty "list", _, _, true, rfl, .ty "list", .base (.lst h2), kit_ty (a := "list") (b := "list") (by decide +kernel), k _ H G ad (Ext.refl F G) w (.bl true)⟩
/-- x = x if c else .., c true, x a list of one's own -/
theorem s_keep [Tabl] (i : Nat) {pos' p3 : Pos} (hc : DM.T X c ρ true ρ1) (hN : X.N.Nodup) (h : ρ1[i]? = some (.own ds) := by rfl) (hi : X.N[i]? = some x := by rfl) (hx : Loc X.env.scope x := by first | exact Or.inl rfl | exact Or.inr rfl) (hv : Vis X.env.scope x := by first | exact Or.inl rfl | exact Or.inr (Or.inl rfl) | exact Or.inr (Or.inr rfl))
    (hd : (x == ("__debug__" : Str)) = false := by decide) (hcd : (x == ("__classdict__" : Str)) = false := by decide) (hs : swapsWith (.IfExp c (.Name x p) b p3) (some (.Name x pos')) pos.line X.env = pure false := by rfl)
    (hf : X.fn x = true ∨ X.env.scope.names.lookup x = some .local := by first | exact .inl rfl | exact .inr rfl) : S1 X (.Assign [.Name x pos'] (.IfExp c (.Name x p) b p3) pos) ρ (.nx ρ1) :=
  ps_imp (ps_set hN hi hx (pe_ifExp hc (pe_var hi hv hd hcd) (tb := fun _ _ _ => False) ⟨fun _ _ _ _ _ _ z => z.elim⟩) hs hf) fun D σ H ⟨F, G, ad, w, k⟩ => ⟨F, G, ad, w, fun H1 G1 ad1 e1 w1 => by
    show (if true = true then _ else _)
    rw [if_pos rfl]
    obtain ⟨l, xs, h1, h2, h3, h4⟩ := w1.own_at h
    refine ⟨_, h1, ?_⟩
    have es : σ.set i (some (.ref l)) = σ := by
      refine List.ext_getElem? fun j => ?_
      by_cases hj : i = j
      · subst hj
        rw [List.getElem?_set_self (List.getElem?_eq_some_iff.mp h1).1, h1]
      · rw [List.getElem?_set_ne hj]
    show D.nx (σ.set i (some (.ref l))) H1
    rw [es]
    exact k σ H1 G1 ad1 e1 w1⟩
end
end EX
end part_EXe
section part_K00f
namespace K00
open L2 PyProof.Rows PySem.Spec PySem DM EX Num
abbrev sEvery : Stmt := top 18
abbrev sKinds : Stmt := top 19
abbrev sBases : Stmt := top 20
abbrev sLaw : Stmt := top 21
/-- the class statement's __init__ -/
def ini (i : Nat) : Stmt := match top i with
  | .ClassDef _ _ _ (s :: _) _ _ _ _ _ _ _ => s
  | s => s
theorem initT0 {P : Program} (h : (P.main.scope.names.lookup ("super" : Str)).isSome = false) : InitT P "path" (defArgs (ini 3)) (defScope (ini 3)) where
  head := ⟨_, rfl, rfl⟩
  bind := fun qual body kV doc pm cdv ct an cc u v s => .of_eq (by rfl)
  ks := by decide +kernel
  kc := by decide +kernel
  k1 := by decide +kernel
  k2 := by decide +kernel
  nc := by decide +kernel
  kind := by decide +kernel
  co := by decide +kernel
  gen := by decide +kernel
  ne := by decide
  dy := by decide
  top := h
theorem initT1 {P : Program} (h : (P.main.scope.names.lookup ("super" : Str)).isSome = false) : InitT P "place" (defArgs (ini 4)) (defScope (ini 4)) where
  head := ⟨_, rfl, rfl⟩
  bind := fun qual body kV doc pm cdv ct an cc u v s => .of_eq (by rfl)
  ks := by decide +kernel
  kc := by decide +kernel
  k1 := by decide +kernel
  k2 := by decide +kernel
  nc := by decide +kernel
  kind := by decide +kernel
  co := by decide +kernel
  gen := by decide +kernel
  ne := by decide
  dy := by decide
  top := h
theorem initT5 {P : Program} (h : (P.main.scope.names.lookup ("super" : Str)).isSome = false) : InitT P "number" (defArgs (ini 8)) (defScope (ini 8)) where
  head := ⟨_, rfl, rfl⟩
  bind := fun qual body kV doc pm cdv ct an cc u v s => .of_eq (by rfl)
  ks := by decide +kernel
  kc := by decide +kernel
  k1 := by decide +kernel
  k2 := by decide +kernel
  nc := by decide +kernel
  kind := by decide +kernel
  co := by decide +kernel
  gen := by decide +kernel
  ne := by decide
  dy := by decide
  top := h
theorem initT6 {P : Program} (h : (P.main.scope.names.lookup ("super" : Str)).isSome = false) : InitT P "number" (defArgs (ini 9)) (defScope (ini 9)) where
  head := ⟨_, rfl, rfl⟩
  bind := fun qual body kV doc pm cdv ct an cc u v s => .of_eq (by rfl)
  ks := by decide +kernel
  kc := by decide +kernel
  k1 := by decide +kernel
  k2 := by decide +kernel
  nc := by decide +kernel
  kind := by decide +kernel
  co := by decide +kernel
  gen := by decide +kernel
  ne := by decide
  dy := by decide
  top := h
theorem initT7 {P : Program} (h : (P.main.scope.names.lookup ("super" : Str)).isSome = false) : InitT P "word" (defArgs (ini 10)) (defScope (ini 10)) where
  head := ⟨_, rfl, rfl⟩
  bind := fun qual body kV doc pm cdv ct an cc u v s => .of_eq (by rfl)
  ks := by decide +kernel
  kc := by decide +kernel
  k1 := by decide +kernel
  k2 := by decide +kernel
  nc := by decide +kernel
  kind := by decide +kernel
  co := by decide +kernel
  gen := by decide +kernel
  ne := by decide
  dy := by decide
  top := h
theorem initT8 {P : Program} (h : (P.main.scope.names.lookup ("super" : Str)).isSome = false) : InitT P "word" (defArgs (ini 11)) (defScope (ini 11)) where
  head := ⟨_, rfl, rfl⟩
  bind := fun qual body kV doc pm cdv ct an cc u v s => .of_eq (by rfl)
  ks := by decide +kernel
  kc := by decide +kernel
  k1 := by decide +kernel
  k2 := by decide +kernel
  nc := by decide +kernel
  kind := by decide +kernel
  co := by decide +kernel
  gen := by decide +kernel
  ne := by decide
  dy := by decide
  top := h
theorem initT10 {P : Program} (h : (P.main.scope.names.lookup ("super" : Str)).isSome = false) : InitT P "name" (defArgs (ini 13)) (defScope (ini 13)) where
  head := ⟨_, rfl, rfl⟩
  bind := fun qual body kV doc pm cdv ct an cc u v s => .of_eq (by rfl)
  ks := by decide +kernel
  kc := by decide +kernel
  k1 := by decide +kernel
  k2 := by decide +kernel
  nc := by decide +kernel
  kind := by decide +kernel
  co := by decide +kernel
  gen := by decide +kernel
  ne := by decide
  dy := by decide
  top := h
def cn : List Str := ["BadShape", "BadText", "TooGreat", "Bare", "Unbounded", "BadWish", "BadGust", "BadAct", "BadAsk", "NothingDone", "UnknownName"]
/-- the class of the number i -/
abbrev ca (K : PySem.W.Frag) (i : Nat) : Addr := He.ga K (cn.getD i "GustError")
structure Xg (P : Program) (K : PySem.W.Frag) (mg : Str → Option Value) : Prop where
  top : (P.main.scope.names.lookup ("super" : Str)).isSome = false
  isi : mg "isinstance" = none
  sup : mg "super" = none
  tup : mg "tuple" = none
  fValueError : mg "ValueError" = none
  fLookupError : mg "LookupError" = none
  fKeyError : mg "KeyError" = none
  fIndexError : mg "IndexError" = none
  fTypeError : mg "TypeError" = none
  fArithmeticError : mg "ArithmeticError" = none
  fRuntimeError : mg "RuntimeError" = none
  fAttributeError : mg "AttributeError" = none
  g0 : mg "BadShape" = some (.ref (ca K 0))
  g1 : mg "BadText" = some (.ref (ca K 1))
  g2 : mg "TooGreat" = some (.ref (ca K 2))
  g3 : mg "Bare" = some (.ref (ca K 3))
  g4 : mg "Unbounded" = some (.ref (ca K 4))
  g5 : mg "BadWish" = some (.ref (ca K 5))
  g6 : mg "BadGust" = some (.ref (ca K 6))
  g7 : mg "BadAct" = some (.ref (ca K 7))
  g8 : mg "BadAsk" = some (.ref (ca K 8))
  g9 : mg "NothingDone" = some (.ref (ca K 9))
  g10 : mg "UnknownName" = some (.ref (ca K 10))
  gG : mg "GustError" = some (.ref (He.ga K "GustError"))
  gM : mg "NameMissing" = some (.ref (He.ga K "NameMissing"))
  R : ∀ i, i < 11 → ExcR K (ca K i)
  kk : ∀ i, i < 11 → ∀ j, j < 11 → PySem.W.kitOne K (.ref (ca K i)) (.ref (ca K j)) = some (decide (j = i))
  kG : ∀ i, i < 11 → PySem.W.kitOne K (.ref (ca K i)) (.ref (He.ga K "GustError")) = some (decide (i ≠ 10))
  kM : ∀ i, i < 11 → PySem.W.kitOne K (.ref (ca K i)) (.ref (He.ga K "NameMissing")) = some (decide (i = 10))
  kV : ∀ i, i < 11 → PySem.W.kitOne K (.ref (ca K i)) (.type "ValueError") = some (decide (i ≠ 10))
  kL : ∀ i, i < 11 → PySem.W.kitOne K (.ref (ca K i)) (.type "LookupError") = some (decide (i = 10))
  k3 : ∀ i, i < 11 → PySem.W.kitAny K (.ref (ca K i)) (["KeyError", "IndexError", "TypeError"].map Value.type) = some false
  k4 : ∀ i, i < 11 → PySem.W.kitAny K (.ref (ca K i)) (["ArithmeticError", "RuntimeError", "AttributeError"].map Value.type) = some false
  x0 : ExcN P K (ca K 0) "path" (defArgs (ini 3)) (defBody (ini 3)) (defScope (ini 3))
  n0 : PySem.W.findIn K (.ref (ca K 0)) "path" = some none
  x1 : ExcN P K (ca K 1) "place" (defArgs (ini 4)) (defBody (ini 4)) (defScope (ini 4))
  n1 : PySem.W.findIn K (.ref (ca K 1)) "place" = some none
  x5 : ExcN P K (ca K 5) "number" (defArgs (ini 8)) (defBody (ini 8)) (defScope (ini 8))
  n5 : PySem.W.findIn K (.ref (ca K 5)) "number" = some none
  x6 : ExcN P K (ca K 6) "number" (defArgs (ini 9)) (defBody (ini 9)) (defScope (ini 9))
  n6 : PySem.W.findIn K (.ref (ca K 6)) "number" = some none
  x7 : ExcN P K (ca K 7) "word" (defArgs (ini 10)) (defBody (ini 10)) (defScope (ini 10))
  n7 : PySem.W.findIn K (.ref (ca K 7)) "word" = some none
  x8 : ExcN P K (ca K 8) "word" (defArgs (ini 11)) (defBody (ini 11)) (defScope (ini 11))
  n8 : PySem.W.findIn K (.ref (ca K 8)) "word" = some none
  x10 : ExcN P K (ca K 10) "name" (defArgs (ini 13)) (defBody (ini 13)) (defScope (ini 13))
  n10 : PySem.W.findIn K (.ref (ca K 10)) "name" = some none
  z2 : PySem.W.excIn K (ca K 2) He.veBase "ValueError.__new__" = true
  q2 : PySem.W.keepIn K (.ref (ca K 2)) = true
  z3 : PySem.W.excIn K (ca K 3) He.veBase "ValueError.__new__" = true
  q3 : PySem.W.keepIn K (.ref (ca K 3)) = true
  z4 : PySem.W.excIn K (ca K 4) He.veBase "ValueError.__new__" = true
  q4 : PySem.W.keepIn K (.ref (ca K 4)) = true
  z9 : PySem.W.excIn K (ca K 9) He.veBase "ValueError.__new__" = true
  q9 : PySem.W.keepIn K (.ref (ca K 9)) = true
section
variable {P : Program} {w : World} {K : PySem.W.Frag} {mg : Str → Option Value} {base : Heap}
theorem al_bools : ∀ {bs : List Bool} {vs : List V} {H G : Hp}, Al (bs.map fun b => pV (.bl b)) vs H G → DaAll K G vs (bs.map PyData.bool)
  | [], [], _, _, _ => .nil
  | b :: bs, v :: vs, H, G, ⟨h1, h2⟩ => by
    have e : v = .bl b := h1
    subst e
    exact .cons (.bl b) (al_bools h2)
  | [], _ :: _, _, _, h => h.elim
  | _ :: _, [], _, _, h => h.elim
theorem da_bools {bs : List Bool} {v : V} {H G : Hp} (h : pL (bs.map fun b => pV (.bl b)) v H G) : Da K G v (.list (bs.map PyData.bool)) := by
  obtain ⟨l, vs, rfl, h1, h2⟩ := h
  exact .lst h1 (al_bools h2)
def rB (bs : List Bool) : PP := fun v _ G => Da K G v (.list (bs.map PyData.bool))
theorem monos_nil : Monos [] := trivial
theorem monos_cons {P : PP} {Ps : List PP} (h : Mono P) (h2 : Monos Ps) : Monos (P :: Ps) := ⟨h, h2⟩
/-! #### _law_kinds -/
abbrev Al11 : Type := Fin 11 × List (Str × V)
def phiE (K : PySem.W.Frag) : Al11 → List V → Hp → Hp → Prop := fun q vs _ G => ∃ a, vs = [.ref a] ∧ ExAt G a (ca K q.1.val) q.2
theorem mono_phi {q : Al11} {vs : List V} : MonoΦ (phiE K q vs) := fun H H' G G' _ e ⟨a, h1, h2⟩ => ⟨a, h1, h2.ex e⟩
def kindsOf (n : Nat) : List Bool := (List.range 11).map fun j => decide (j = n)
theorem scKinds : FnScope ["e", "found"] ["e"] (defScope sKinds) := ⟨rfl, rfl, rfl, by decide +kernel, rfl, by decide +kernel, by decide +kernel⟩
theorem phi_x {q : Al11} {v : V} : ∀ H G, phiE K q [v] H G → pX (ca K q.1.val) q.2 v H G := fun H G ⟨a, h1, h2⟩ => by
  cases h1
  exact ⟨a, rfl, h2⟩
theorem ok_kinds (hp : DM.Put K mg "_law_kinds" sKinds) (g : Xg P K mg) : Def P w K mg base "_law_kinds" 1 ["e"] (spG (phiE K) fun q _ => rB (K := K) (kindsOf q.1.val)) := by
  refine def_G hp scKinds (fun _ _ _ _ _ _ us hl => match us, hl with | [_], _ => rfl) (fun q vs H G h => ?_) (fun c hr q vs hl => ?_)
  · obtain ⟨a, rfl, _⟩ := h
    rfl
  · obtain ⟨v, rfl⟩ : ∃ v, vs = [v] := by
      match vs, hl with
      | [v], _ => exact ⟨v, rfl⟩
    have M3 : ∀ {a b c : Bool}, Monos [pV (.bl a), pV (.bl b), pV (.bl c)] := fun {a b c} => (monos_cons mono_V (monos_cons mono_V (monos_cons mono_V monos_nil)))
    have M4 : ∀ {a b c d : Bool}, Monos [pV (.bl a), pV (.bl b), pV (.bl c), pV (.bl d)] := fun {a b c d} => (monos_cons mono_V (monos_cons mono_V (monos_cons mono_V (monos_cons mono_V monos_nil))))
    have M8 : ∀ {a b c d a2 b2 c2 d2 : Bool}, Monos ([pV (.bl a), pV (.bl b), pV (.bl c), pV (.bl d)] ++ [pV (.bl a2), pV (.bl b2), pV (.bl c2), pV (.bl d2)]) := monos_app M4 M4
    refine gs_set 1 mono_phi (mono_L M4) (ge_list (ga_cons mono_phi mono_V (ge_isC (g.R _ q.1.isLt) (g.kk _ q.1.isLt 0 (by decide)) mono_phi (ge_know mono_phi (ge_var 0) phi_x) g.g0 g.isi) (ga_cons mono_phi mono_V (ge_isC (g.R _ q.1.isLt) (g.kk _ q.1.isLt 1 (by decide)) mono_phi (ge_know mono_phi (ge_var 0) phi_x) g.g1 g.isi) (ga_cons mono_phi mono_V (ge_isC (g.R _ q.1.isLt) (g.kk _ q.1.isLt 2 (by decide)) mono_phi (ge_know mono_phi (ge_var 0) phi_x) g.g2 g.isi) (ga_cons mono_phi mono_V (ge_isC (g.R _ q.1.isLt) (g.kk _ q.1.isLt 3 (by decide)) mono_phi (ge_know mono_phi (ge_var 0) phi_x) g.g3 g.isi) ga_nil)))) (mP := M4)) (fun w1 => ?_) scKinds.nd
    refine gs_set 1 (mono_MP mono_phi (mono_L M4)) (mono_L M8) (ge_cat (mono_MP mono_phi (mono_L M4)) M4 M4 (ge_know (mono_MP mono_phi (mono_L M4)) (ge_var 1) (fun H G h => h.2)) (ge_list (ga_cons (mono_MP mono_phi (mono_L M4)) mono_V (ge_isC (g.R _ q.1.isLt) (g.kk _ q.1.isLt 4 (by decide)) (mono_MP mono_phi (mono_L M4)) (ge_know (mono_MP mono_phi (mono_L M4)) (ge_var 0) (fun H G h => phi_x H G h.1)) g.g4 g.isi) (ga_cons (mono_MP mono_phi (mono_L M4)) mono_V (ge_isC (g.R _ q.1.isLt) (g.kk _ q.1.isLt 5 (by decide)) (mono_MP mono_phi (mono_L M4)) (ge_know (mono_MP mono_phi (mono_L M4)) (ge_var 0) (fun H G h => phi_x H G h.1)) g.g5 g.isi) (ga_cons (mono_MP mono_phi (mono_L M4)) mono_V (ge_isC (g.R _ q.1.isLt) (g.kk _ q.1.isLt 6 (by decide)) (mono_MP mono_phi (mono_L M4)) (ge_know (mono_MP mono_phi (mono_L M4)) (ge_var 0) (fun H G h => phi_x H G h.1)) g.g6 g.isi) (ga_cons (mono_MP mono_phi (mono_L M4)) mono_V (ge_isC (g.R _ q.1.isLt) (g.kk _ q.1.isLt 7 (by decide)) (mono_MP mono_phi (mono_L M4)) (ge_know (mono_MP mono_phi (mono_L M4)) (ge_var 0) (fun H G h => phi_x H G h.1)) g.g7 g.isi) ga_nil)))) (mP := M4))) (fun w2 => ?_) scKinds.nd
    refine gs_ret (ge_imp (ge_cat (mono_MP (mono_MP mono_phi (mono_L M4)) (mono_L M8)) M8 M3 (ge_know (mono_MP (mono_MP mono_phi (mono_L M4)) (mono_L M8)) (ge_var 1) (fun H G h => h.2)) (ge_list (ga_cons (mono_MP (mono_MP mono_phi (mono_L M4)) (mono_L M8)) mono_V (ge_isC (g.R _ q.1.isLt) (g.kk _ q.1.isLt 8 (by decide)) (mono_MP (mono_MP mono_phi (mono_L M4)) (mono_L M8)) (ge_know (mono_MP (mono_MP mono_phi (mono_L M4)) (mono_L M8)) (ge_var 0) (fun H G h => phi_x H G h.1.1)) g.g8 g.isi) (ga_cons (mono_MP (mono_MP mono_phi (mono_L M4)) (mono_L M8)) mono_V (ge_isC (g.R _ q.1.isLt) (g.kk _ q.1.isLt 9 (by decide)) (mono_MP (mono_MP mono_phi (mono_L M4)) (mono_L M8)) (ge_know (mono_MP (mono_MP mono_phi (mono_L M4)) (mono_L M8)) (ge_var 0) (fun H G h => phi_x H G h.1.1)) g.g9 g.isi) (ga_cons (mono_MP (mono_MP mono_phi (mono_L M4)) (mono_L M8)) mono_V (ge_isC (g.R _ q.1.isLt) (g.kk _ q.1.isLt 10 (by decide)) (mono_MP (mono_MP mono_phi (mono_L M4)) (mono_L M8)) (ge_know (mono_MP (mono_MP mono_phi (mono_L M4)) (mono_L M8)) (ge_var 0) (fun H G h => phi_x H G h.1.1)) g.g10 g.isi) ga_nil))) (mP := M3))) (fun v H G h => ?_))
    exact da_bools (bs := kindsOf q.1.val) h
/-! #### _law_bases -/
def basesOf (n : Nat) : List Bool := [decide (n ≠ 10), decide (n ≠ 10), decide (n = 10), decide (n = 10), false]
theorem scBases : FnScope ["e", "found", "is_odd"] ["e"] (defScope sBases) := ⟨rfl, rfl, rfl, by decide +kernel, rfl, by decide +kernel, by decide +kernel⟩
theorem ok_bases (hp : DM.Put K mg "_law_bases" sBases) (g : Xg P K mg) : Def P w K mg base "_law_bases" 1 ["e"] (spG (phiE K) fun q _ => rB (K := K) (basesOf q.1.val)) := by
  refine def_G hp scBases (fun _ _ _ _ _ _ us hl => match us, hl with | [_], _ => rfl) (fun q vs H G h => ?_) (fun c hr q vs hl => ?_)
  · obtain ⟨a, rfl, _⟩ := h
    rfl
  · obtain ⟨v, rfl⟩ : ∃ v, vs = [v] := by
      match vs, hl with
      | [v], _ => exact ⟨v, rfl⟩
    have M2 : ∀ {a b : Bool}, Monos [pV (.bl a), pV (.bl b)] := fun {a b} => (monos_cons mono_V (monos_cons mono_V monos_nil))
    have M3 : ∀ {a b c : Bool}, Monos [pV (.bl a), pV (.bl b), pV (.bl c)] := fun {a b c} => (monos_cons mono_V (monos_cons mono_V (monos_cons mono_V monos_nil)))
    refine gs_set 1 mono_phi (mono_L M3) (ge_list (ga_cons mono_phi mono_V (ge_isC (g.R _ q.1.isLt) (g.kG _ q.1.isLt) mono_phi (ge_know mono_phi (ge_var 0) phi_x) g.gG g.isi) (ga_cons mono_phi mono_V (ge_isT (g.R _ q.1.isLt) (g.kV _ q.1.isLt) mono_phi (ge_know mono_phi (ge_var 0) phi_x) g.fValueError g.isi) (ga_cons mono_phi mono_V (ge_isC (g.R _ q.1.isLt) (g.kM _ q.1.isLt) mono_phi (ge_know mono_phi (ge_var 0) phi_x) g.gM g.isi) ga_nil))) (mP := M3)) (fun w1 => ?_) scBases.nd
    refine gs_set 2 (mono_MP mono_phi (mono_L M3)) mono_V (ge_isXT (ts := ["KeyError", "IndexError", "TypeError"]) (g.R _ q.1.isLt) (g.k3 _ q.1.isLt) (mono_MP mono_phi (mono_L M3)) (ge_know (mono_MP mono_phi (mono_L M3)) (ge_var 0) (fun H G h => phi_x H G h.1)) (ge_tup (ga_cons (mono_MP mono_phi (mono_L M3)) mono_V (ge_ty g.fKeyError) (ga_cons (mono_MP mono_phi (mono_L M3)) mono_V (ge_ty g.fIndexError) (ga_cons (mono_MP mono_phi (mono_L M3)) mono_V (ge_ty g.fTypeError) ga_nil)))) g.isi) (fun w2 => ?_) scBases.nd
    refine gs_set 2 (mono_MP (mono_MP mono_phi (mono_L M3)) mono_V) mono_V (ge_or (mono_MP (mono_MP mono_phi (mono_L M3)) mono_V) (ge_know (mono_MP (mono_MP mono_phi (mono_L M3)) mono_V) (ge_var 2) (fun H G h => h.2)) (ge_one (ge_isXT (ts := ["ArithmeticError", "RuntimeError", "AttributeError"]) (g.R _ q.1.isLt) (g.k4 _ q.1.isLt) (mono_MP (mono_MP mono_phi (mono_L M3)) mono_V) (ge_know (mono_MP (mono_MP mono_phi (mono_L M3)) mono_V) (ge_var 0) (fun H G h => phi_x H G h.1.1)) (ge_tup (ga_cons (mono_MP (mono_MP mono_phi (mono_L M3)) mono_V) mono_V (ge_ty g.fArithmeticError) (ga_cons (mono_MP (mono_MP mono_phi (mono_L M3)) mono_V) mono_V (ge_ty g.fRuntimeError) (ga_cons (mono_MP (mono_MP mono_phi (mono_L M3)) mono_V) mono_V (ge_ty g.fAttributeError) ga_nil)))) g.isi))) (fun w3 => ?_) scBases.nd
    refine gs_ret (ge_imp (ge_cat (mono_MP (mono_MP (mono_MP mono_phi (mono_L M3)) mono_V) mono_V) M3 M2 (ge_know (mono_MP (mono_MP (mono_MP mono_phi (mono_L M3)) mono_V) mono_V) (ge_var 1) (fun H G h => h.1.1.2)) (ge_list (ga_cons (mono_MP (mono_MP (mono_MP mono_phi (mono_L M3)) mono_V) mono_V) mono_V (ge_isT (g.R _ q.1.isLt) (g.kL _ q.1.isLt) (mono_MP (mono_MP (mono_MP mono_phi (mono_L M3)) mono_V) mono_V) (ge_know (mono_MP (mono_MP (mono_MP mono_phi (mono_L M3)) mono_V) mono_V) (ge_var 0) (fun H G h => phi_x H G h.1.1.1)) g.fLookupError g.isi) (ga_cons (mono_MP (mono_MP (mono_MP mono_phi (mono_L M3)) mono_V) mono_V) mono_V (ge_know (mono_MP (mono_MP (mono_MP mono_phi (mono_L M3)) mono_V) mono_V) (ge_var 2) (fun H G h => h.2)) ga_nil)) (mP := M2))) (fun v H G h => ?_))
    exact da_bools (bs := basesOf q.1.val) h
/-! #### _law_every -/
structure EvQ where
  l : Addr
  xs : List V
  vn : V
  vw : V
  vm : V
structure phiV (K : PySem.W.Frag) (q : EvQ) (a b c d : V) (H G : Hp) : Prop where
  v0 : a = .ref q.l
  v1 : b = q.vn
  v2 : c = q.vw
  v3 : d = q.vm
  sq : SqL K H q.l q.xs ∨ SqT K G q.l q.xs
def phiW (K : PySem.W.Frag) : EvQ → List V → Hp → Hp → Prop := fun q vs H G => ∃ a b c d, vs = [a, b, c, d] ∧ phiV K q a b c d H G
theorem mono_ev {q : EvQ} {a b c d : V} : MonoΦ (phiV K q a b c d) := fun H H' G G' e1 e2 h => ⟨h.v0, h.v1, h.v2, h.v3, h.sq.elim (fun z => .inl (sqL_ex e1 z)) fun z => .inr (sqT_ex e2 z)⟩
def evP (K : PySem.W.Frag) (q : EvQ) : List PP := [pXT K (ca K 0) "path" q.xs, pX (ca K 1) [("place", q.vn)], pX (ca K 2) [], pX (ca K 3) [], pX (ca K 4) [], pX (ca K 5) [("number", q.vn)], pX (ca K 6) [("number", q.vn)], pX (ca K 7) [("word", q.vw)], pX (ca K 8) [("word", q.vw)], pX (ca K 9) [], pX (ca K 10) [("name", q.vm)]]
theorem scEvery : FnScope ["path", "number", "word", "name", "found"] ["path", "number", "word", "name"] (defScope sEvery) := ⟨rfl, rfl, rfl, by decide +kernel, rfl, by decide +kernel, by decide +kernel⟩
theorem ok_every (hp : DM.Put K mg "_law_every" sEvery) (g : Xg P K mg) : Def P w K mg base "_law_every" 2 ["path", "number", "word", "name"] (spG (phiW K) fun q _ => pL (evP K q)) := by
  refine def_G hp scEvery (fun _ _ _ _ _ _ us hl => match us, hl with | [_, _, _, _], _ => rfl) (fun q vs H G h => ?_) (fun c hr q vs hl => ?_)
  · obtain ⟨a, b, c, d, rfl, _⟩ := h
    rfl
  · obtain ⟨a, b, c2, d, rfl⟩ : ∃ a b c d, vs = [a, b, c, d] := by
      match vs, hl with
      | [a, b, c, d], _ => exact ⟨a, b, c, d, rfl⟩
    refine gs_pre (Φ := phiV K q a b c2 d) (fun H G h => ?_) ?_
    · obtain ⟨a', b', c', d', e, h⟩ := h
      cases e
      exact h
    have N7 : Monos [pXT K (ca K 0) "path" q.xs, pX (ca K 1) [("place", q.vn)], pX (ca K 2) [], pX (ca K 3) [], pX (ca K 4) [], pX (ca K 5) [("number", q.vn)], pX (ca K 6) [("number", q.vn)]] := (monos_cons mono_XT (monos_cons mono_X (monos_cons mono_X (monos_cons mono_X (monos_cons mono_X (monos_cons mono_X (monos_cons mono_X monos_nil)))))))
    have N4 : Monos [pX (ca K 7) [("word", q.vw)], pX (ca K 8) [("word", q.vw)], pX (ca K 9) [], pX (ca K 10) [("name", q.vm)]] := (monos_cons mono_X (monos_cons mono_X (monos_cons mono_X (monos_cons mono_X monos_nil))))
    refine gs_set 4 mono_ev (mono_L N7) (ge_list (ga_cons mono_ev mono_XT (ge_excT g.x0 (initT0 g.top) (by decide +kernel) hr.1 g.g0 g.sup g.tup (ge_know mono_ev (ge_var 0) (fun H G h => h.v0)) mono_ev (fun H G _ h => h.sq)) (ga_cons mono_ev mono_X (ge_excN g.x1 (initT1 g.top) hr.1 g.g1 g.sup (ge_know mono_ev (ge_var 1) (fun H G h => h.v1)) mono_ev) (ga_cons mono_ev mono_X (ge_exc0 F.excBase_ValueError g.z2 g.g2 g.q2) (ga_cons mono_ev mono_X (ge_exc0 F.excBase_ValueError g.z3 g.g3 g.q3) (ga_cons mono_ev mono_X (ge_exc0 F.excBase_ValueError g.z4 g.g4 g.q4) (ga_cons mono_ev mono_X (ge_excN g.x5 (initT5 g.top) hr.1 g.g5 g.sup (ge_know mono_ev (ge_var 1) (fun H G h => h.v1)) mono_ev) (ga_cons mono_ev mono_X (ge_excN g.x6 (initT6 g.top) hr.1 g.g6 g.sup (ge_know mono_ev (ge_var 1) (fun H G h => h.v1)) mono_ev) ga_nil))))))) (mP := N7)) (fun w1 => ?_) scEvery.nd
    exact gs_ret (ge_cat (mono_MP mono_ev (mono_L N7)) N7 N4 (ge_know (mono_MP mono_ev (mono_L N7)) (ge_var 4) (fun H G h => h.2)) (ge_list (ga_cons (mono_MP mono_ev (mono_L N7)) mono_X (ge_excN g.x7 (initT7 g.top) hr.1 g.g7 g.sup (ge_know (mono_MP mono_ev (mono_L N7)) (ge_var 2) (fun H G h => h.1.v2)) (mono_MP mono_ev (mono_L N7))) (ga_cons (mono_MP mono_ev (mono_L N7)) mono_X (ge_excN g.x8 (initT8 g.top) hr.1 g.g8 g.sup (ge_know (mono_MP mono_ev (mono_L N7)) (ge_var 2) (fun H G h => h.1.v2)) (mono_MP mono_ev (mono_L N7))) (ga_cons (mono_MP mono_ev (mono_L N7)) mono_X (ge_exc0 F.excBase_ValueError g.z9 g.g9 g.q9) (ga_cons (mono_MP mono_ev (mono_L N7)) mono_X (ge_excN g.x10 (initT10 g.top) hr.1 g.g10 g.sup (ge_know (mono_MP mono_ev (mono_L N7)) (ge_var 3) (fun H G h => h.1.v3)) (mono_MP mono_ev (mono_L N7))) ga_nil)))) (mP := N4)))
end
end K00
end part_K00f
section part_EXf
/-! repr of lists that hold dicts. -/
namespace EX
open L2 PyProof.Rows PySem.Spec PySem DM DMr
section
variable {X : Cx} {pins : List (Addr × Obj)} {σ : L2.St} {H : Hp} {s : Shared}
def Held (H : Hp) (as : List Addr) : Prop := ∀ a ∈ as, H a ≠ none
theorem held_app {as bs : List Addr} (h1 : Held H as) (h2 : Held H bs) : Held H (as ++ bs) := fun a h => (List.mem_append.mp h).elim (h1 a) (h2 a)
theorem held_cons {a : Addr} {o : HO} {as : List Addr} (h1 : H a = some o) (h2 : Held H as) : Held H (a :: as) := fun b h => by
  rcases List.mem_cons.mp h with rfl | h
  · rw [h1]; exact fun z => nomatch z
  · exact h2 b h
theorem keyIs_int' {i : Int} {v : Value} (h : keyIs (.inl i) v = true) : ∃ t, v = .int i t := by
  rcases keyIs_shape h with ⟨j, t, e2, e1⟩ | ⟨x, t, e2, e1⟩
  · cases e2
    cases e1
    exact ⟨t, rfl⟩
  · cases e1; cases e2
theorem keyIs_str' {x : Str} {v : Value} (h : keyIs (.inr x) v = true) : ∃ t, v = .str x t := by
  rcases keyIs_shape h with ⟨j, t, e2, e1⟩ | ⟨y, t, e2, e1⟩
  · cases e1; cases e2
  · cases e2
    cases e1
    exact ⟨t, rfl⟩
mutual
theorem daReads {G : Hp} (I : Inv X pins σ H s) (e : Ex G H) : ∀ {v : V} {d : PyData}, Da X.K G v d → ∀ u, RelV v u → ∃ as, Reads s.heap u d as ∧ Held H as
  | _, _, .non, u, r => by
    cases r
    exact ⟨[], .none, fun _ z => nomatch z⟩
  | _, _, .bl b, u, r => by
    cases r
    exact ⟨[], .bool b, fun _ z => nomatch z⟩
  | _, _, .int i, u, r => by
    obtain ⟨t, rfl⟩ := r
    exact ⟨[], .int i t, fun _ z => nomatch z⟩
  | _, _, .str x, u, r => by
    obtain ⟨t, rfl⟩ := r
    exact ⟨[], .str x t, fun _ z => nomatch z⟩
  | _, _, .lst h1 h2, u, r => by
    cases r
    obtain ⟨its, rv, ⟨o, n, ho, hc, _, hd⟩, _⟩ := I.list (SqL.of (e _ _ h1))
    obtain ⟨as, hr, hh⟩ := daReadsAll I e h2 its rv
    exact ⟨_, .list ho hc hd hr, held_cons (e _ _ h1) hh⟩
  | _, _, .tup h1 h2, u, r => by
    cases r
    obtain ⟨its, rv, ⟨o, ho, hc, n, hd⟩, _⟩ := I.tuple (sqT_ex e h1)
    obtain ⟨as, hr, hh⟩ := daReadsAll I e h2 its rv
    exact ⟨_, .tuple ho hc hd hr, hh⟩
  | _, _, .dct h1 h2, u, r => by
    cases r
    obtain ⟨_, hsm, vs, hkv, o, es, ep, ho, hx, hd, _, hp, _⟩ := dk_of I.hok (e _ _ h1)
    obtain ⟨as, bs, r1, r2, q1, q2⟩ := daReadsKv I e h2 vs es.toList hkv hp
    exact ⟨_, .dict ho hx.1 hd r1 r2, by
      intro a ha
      rcases List.mem_append.mp ha with ha | ha
      · exact held_cons (e _ _ h1) q1 a ha
      · exact q2 a ha⟩
theorem daReadsAll {G : Hp} (I : Inv X pins σ H s) (e : Ex G H) : ∀ {vs : List V} {ds : List PyData}, DaAll X.K G vs ds → ∀ us, Vals vs us → ∃ as, ReadsAll s.heap us ds as ∧ Held H as
  | _, _, .nil, us, r => by
    cases r
    exact ⟨[], .nil, fun _ z => nomatch z⟩
  | _, _, .cons h1 h2, us, r => by
    cases r with
    | cons r1 r2 =>
      obtain ⟨as, q1, g1⟩ := daReads I e h1 _ r1
      obtain ⟨bs, q2, g2⟩ := daReadsAll I e h2 _ r2
      exact ⟨_, .cons q1 q2, held_app g1 g2⟩
theorem daReadsKv {G : Hp} (I : Inv X pins σ H s) (e : Ex G H) : ∀ {kvs : List (Key × V)} {ds : List (PyData × PyData)}, DaKvs X.K G kvs ds → ∀ (vs : List (Key × Value)) (es : List DictEntry), KV kvs vs → Pairs (mixKind X.prog X.w) es vs →
    ∃ as bs, ReadsAll s.heap (es.map (·.key)) (ds.map (·.1)) as ∧ ReadsAll s.heap (es.map (·.val)) (ds.map (·.2)) bs ∧ Held H as ∧ Held H bs
  | _, _, .nil, vs, es, h1, h2 => by
    cases h1
    cases h2
    exact ⟨[], [], .nil, .nil, fun _ z => (nomatch z), fun _ z => (nomatch z)⟩
  | _, _, .int d1 d2, vs, es, h1, h2 => by
    cases h1 with
    | cons r1 rr =>
      obtain ⟨k1, r1⟩ := r1
      cases h2 with
      | cons p1 p2 p3 =>
        obtain ⟨as, q1, g1⟩ := daReads I e d1 _ r1
        obtain ⟨as2, bs2, q2, q3, g2, g3⟩ := daReadsKv I e d2 _ _ rr p3
        dsimp only at k1 p1
        rw [← k1] at p1
        obtain ⟨t, ht⟩ := keyIs_int' p1
        refine ⟨[] ++ as2, as ++ bs2, ?_, ?_, held_app (fun _ z => (nomatch z)) g2, held_app g1 g3⟩
        · rw [List.map_cons, List.map_cons, ht]
          exact .cons (.int _ t) q2
        · rw [List.map_cons, List.map_cons, p2]
          exact .cons q1 q3
  | _, _, .str d1 d2, vs, es, h1, h2 => by
    cases h1 with
    | cons r1 rr =>
      obtain ⟨k1, r1⟩ := r1
      cases h2 with
      | cons p1 p2 p3 =>
        obtain ⟨as, q1, g1⟩ := daReads I e d1 _ r1
        obtain ⟨as2, bs2, q2, q3, g2, g3⟩ := daReadsKv I e d2 _ _ rr p3
        dsimp only at k1 p1
        rw [← k1] at p1
        obtain ⟨t, ht⟩ := keyIs_str' p1
        refine ⟨[] ++ as2, as ++ bs2, ?_, ?_, held_app (fun _ z => (nomatch z)) g2, held_app g1 g3⟩
        · rw [List.map_cons, List.map_cons, ht]
          exact .cons (.str _ t) q2
        · rw [List.map_cons, List.map_cons, p2]
          exact .cons q1 q3
end
end
/-- repr of a list, whatever it holds -/
theorem cv_reprL {X : Cx} {ds : List PyData} (hsys : (X.K.lookup sysModules).isSome = true) (hu : X.A.units + 100 < cLine) (hg : X.A.guards = some []) (hs : PyData.showableAll ds = true) (hz : (PyData.list ds).shown.length ≤ sizeLine) (hdp : (PyData.list ds).depth ≤ 64) : CV X (.builtin "repr") [.list ds] (.str (PyData.list ds).shown) := by
  intro pins s σ H vs us Q I r ⟨G, e, p, q⟩
  obtain ⟨v, rfl, pv⟩ := daAll_one p
  obtain ⟨u, rfl, ru⟩ := r.one
  obtain ⟨as, rd, hh⟩ := daReads I e pv u ru
  have hno : sysModules ∉ as := fun z => by
    obtain ⟨o, ho⟩ := Option.isSome_iff_exists.mp hsys
    exact hh _ z (I.bs _ _ (I.ok.mod.kin _ _ ho)).2
  have fin : ∀ (h' : Heap) (t : Tok) (tk : Nat), (∀ b o, s.heap.get? b = some o → h'.get? b = some o) → L2.EP X pins σ Q (.str (PyData.list ds).shown t) { s with heap := h', toks := tk } := fun h' t tk k =>
    ⟨.str (PyData.list ds).shown, H, I.kept k, ⟨t, rfl⟩, q _ H G (Ex.refl H) (Ext.refl H G) e (.str _)⟩
  cases rd with
  | list h1 h2 h3 h4 =>
    rename_i a o vs n as0
    have zz : (listText (PyData.shownAll ds)).length ≤ sizeLine := by rw [PyData.shown] at hz; exact hz
    obtain ⟨bs, hb, hk⟩ := ReprAllK.of_readsAll (prog := X.prog) (w := X.w) h4 hs (fun _ hm => hno (List.mem_cons_of_mem _ hm)) (fun t ht => Nat.le_trans (listText_mem_le ht) zz)
    have no : a ∉ bs := not_mem_of_deeper (.list h1 h2 h3 h4) (by rw [PyData.depth]; omega) hb
    rw [PyData.depth] at hdp
    rw [PyData.shown] at fin
    refine call_repr_slot (by omega) ⟨o, h1, h2⟩ F.slot_list_repr.toG ?_
    obtain ⟨l⟩ := vs
    cases l with
    | nil =>
      have h5 : ReadsAll s.heap [] ds _ := h4
      cases h5
      rw [PyData.shownAll, listText_nil] at fin
      exact call_list_repr_empty ⟨o, h1, h2⟩ h1 h3 ⟨_, _, rfl, fin s.heap _ _ fun _ _ q => q⟩
    | cons x l =>
      exact call_list_reprK h1 h2 h3 no (by simpa using hk.length_eq) (fun i y q => hk.item i y (by simpa using q)) hg (fun b _ => Clear.nil b) (by show X.A.units + 1 + _ < cLine; omega) (fun _ _ q => q) (fun h' u tk q => ⟨_, _, rfl, fin h' u tk q⟩) zz
section
variable {X : Cx} {x : Str} {ρ : List Sl} {ds : List PyData} {pos pn p2 : Pos}
/-- repr(x), x a list of one's own, which stays one's own -/
theorem e_reprOL [Tabl] (k : Nat) (hsys : (X.K.lookup sysModules).isSome = true) (hr : X.A.units + 100 < cLine) (hgd : X.A.guards = some []) (hs : PyData.showableAll ds = true) (hz : (PyData.list ds).shown.length ≤ sizeLine) (hdp : (PyData.list ds).depth ≤ 64) (hm : X.mg "repr" = none) (h : ρ[k]? = some (.own ds) := by rfl) (hg : Gl X "repr" := by rfl) (hN : X.N[k]? = some x := by rfl) (hv : Vis X.env.scope x := by first | exact Or.inl rfl | exact Or.inr (Or.inl rfl) | exact Or.inr (Or.inr rfl))
    (hdb : (x == ("__debug__" : Str)) = false := by decide) (hcd : (x == ("__classdict__" : Str)) = false := by decide) (he : starEach [.Name x p2] X.env = (false, eval (.Name x p2) X.env) :: starEach [] X.env := by rfl) (hpl : (backTo pos (starEach [] X.env)).any (·.1) = false := by rfl) :
    E X (.Call (.Name "repr" pn) [.Name x p2] [] pos) ρ (.str (PyData.list ds).shown) ρ :=
  pe_imp (pe_callB (cv_reprL hsys hr hgd hs hz hdp) hg hm (by decide +kernel) (pa_cons (pe_var hN hv hdb hcd) pa_nil he) (by decide) (by decide) he hpl) fun σ H Q ⟨F, G, ad, w, q⟩ => by
    obtain ⟨l, xs, h1, h2, h3, h4⟩ := w.own_at h
    refine ⟨_, h1, H, Ex.refl H, .cons (.lst h2 (daAll_ex w.gh h3)) .nil, fun v H' G' e1 e2 e3 pv => ?_⟩
    cases pv
    exact q _ H' G ad (Ext.refl F G) (w.grow e1 (Ext.refl H G) (w.gh.trans e1)) (.str _)
/-- {'x': i} -/
theorem e_dict1 [Tabl] {i : Int} {j j2 : Nat} {q q2 : Pos} : E X (.Dict [some (.Constant (.str x) j q)] [.Constant (.int i) j2 q2] pos) ρ (.dict [(.str x, .int i)]) ρ :=
  pe_imp (pe_disp (pps_cons pe_str pe_int pps_nil) rfl rfl (fun z => nomatch z) (Nat.le_of_ble_eq_true rfl)) fun σ H Q ⟨F, G, ad, w, k⟩ => fun p hp => by
    have hg : G p = none := w.gh.none hp
    have ee : upd (upd H p (.dK [])) p (.dK [(Sum.inr x, .int i)]) = upd H p (.dK [(Sum.inr x, .int i)]) := by
      funext b
      by_cases hb : b = p
      · subst hb
        rw [upd_same, upd_same]
      · rw [upd_ne hb, upd_ne hb, upd_ne hb]
    refine ⟨upd_same, [(Sum.inr x, .int i)], rfl, Nat.le_of_ble_eq_true rfl, ?_⟩
    show Q (.ref p) (upd (upd H p (.dK [])) p (.dK [(Sum.inr x, .int i)]))
    rw [ee]
    exact k (.ref p) _ (upd G p (.dK [(Sum.inr x, .int i)])) ad (Ext.new (w.fh.none hp) hg) (w.grow (Ex.new hp) (Ext.new hp hg) w.gh.both) (.dct upd_same (.str (.int i) .nil))
end
end EX
end part_EXf
section part_K00g
namespace K00
open L2 PyProof.Rows PySem.Spec PySem DM DMr EX Num
abbrev nLaw : List Str := ["script", "source", "lap", "some", "number", "word", "name", "path", "every", "k", "is_name", "j", "kept"]
theorem scLaw : FnScope nLaw ["script"] (defScope sLaw) := ⟨rfl, rfl, rfl, by decide +kernel, rfl, by decide +kernel, by decide +kernel⟩
abbrev lapB : List Stmt := lpB (bodyAt sLaw 1)
abbrev lapAt (i : Nat) : Stmt := lapB.getD i (.Pass ⟨0, 0, 0, 0⟩)
abbrev lc1 : Expr := exprOf (lapAt 0)
abbrev inB (i : Nat) : Stmt := (lpB (lapAt 6)).getD i (.Pass ⟨0, 0, 0, 0⟩)
def stE' : Stmt → Expr
  | .If c _ _ _ => c
  | _ => .Constant .none 0 ⟨0, 0, 0, 0⟩
/-- the list in the loop's first test -/
def lc2 : Expr := match (lpB (lapAt 6)).getD 1 (.Pass ⟨0, 0, 0, 0⟩) with
  | .If (.Compare _ _ [e] _) _ _ _ => e
  | _ => .Constant .none 0 ⟨0, 0, 0, 0⟩
theorem blk1 : blkC nLaw (defScope sLaw) (cmS lc1) [("k", 9)] = true := by decide +kernel
theorem blk2 : blkC nLaw (defScope sLaw) (cmS lc2) [("j", 11)] = true := by decide +kernel
structure Gd (K : PySem.W.Frag) (mg : Str → Option Value) : Prop where
  sysm : (K.lookup sysModules).isSome = true
  dig : PySem.W.nsIn K cStatics "sys.int_max_str_digits" = some none
  int : mg "int" = none
  abs : mg "abs" = none
  len : mg "len" = none
  list : mg "list" = none
  range : mg "range" = none
  max : mg "max" = none
  repr : mg "repr" = none
section
variable {P : Program} {w : World} {K : PySem.W.Frag} {mg : Str → Option Value} {base : Heap}
abbrev cLaw (P : Program) (w : World) (K : PySem.W.Frag) (mg : Str → Option Value) (base : Heap) (a : CxA) : Cx := cx P w K mg base nLaw "law" sLaw a
/-- every, told -/
structure Evs (K : PySem.W.Frag) (ds : List PyData) (n w m : PyData) (u : V) (T : Hp) (l : Addr) (vs : List V) (q : EvQ) : Prop where
  u : u = .ref l
  l : T l = some (.lst vs)
  al : Al (evP K q) vs T T
  ds : DaAll K T q.xs ds
  n : Da K T q.vn n
  w : Da K T q.vw w
  m : Da K T q.vm m
theorem Evs.at {ds : List PyData} {n w m : PyData} {u : V} {T : Hp} {l : Addr} {vs : List V} {q : EvQ} (h : Evs K ds n w m u T l vs q) : vs.length = 11 ∧ ∀ k, k < 11 → ∃ a fs, vs[k]? = some (.ref a) ∧ ExAt T a (ca K k) fs := by
  refine ⟨al_len h.al, fun k hk => ?_⟩
  have pt : ∀ (i : Nat) (C : Addr) (fs : List (Str × V)), (evP K q)[i]? = some (pX C fs) → ∃ a fs, vs[i]? = some (.ref a) ∧ ExAt T a C fs := fun i C fs e => by
    obtain ⟨v, h1, a, rfl, h2⟩ := al_get h.al e
    exact ⟨a, fs, h1, h2⟩
  match k, hk with
  | 0, _ =>
    obtain ⟨v, h1, a, p, rfl, h2, _⟩ := al_get (i := 0) h.al rfl
    exact ⟨a, _, h1, h2⟩
  | 1, _ => exact pt 1 _ _ rfl
  | 2, _ => exact pt 2 _ _ rfl
  | 3, _ => exact pt 3 _ _ rfl
  | 4, _ => exact pt 4 _ _ rfl
  | 5, _ => exact pt 5 _ _ rfl
  | 6, _ => exact pt 6 _ _ rfl
  | 7, _ => exact pt 7 _ _ rfl
  | 8, _ => exact pt 8 _ _ rfl
  | 9, _ => exact pt 9 _ _ rfl
  | 10, _ => exact pt 10 _ _ rfl
  | n + 11, h => omega
abbrev DKinds (P : Program) (w : World) (K : PySem.W.Frag) (mg : Str → Option Value) (base : Heap) : Prop := Def P w K mg base "_law_kinds" 1 ["e"] (spG (phiE K) fun q _ => rB (K := K) (kindsOf q.1.val))
abbrev DBases (P : Program) (w : World) (K : PySem.W.Frag) (mg : Str → Option Value) (base : Heap) : Prop := Def P w K mg base "_law_bases" 1 ["e"] (spG (phiE K) fun q _ => rB (K := K) (basesOf q.1.val))
/-- the state behind the assignments -/
abbrev stI (ns : List Int) (s l : Addr) (t : Src) (a : Sl) (n wd m p : PyData) (v : V) (T : Hp) (rest : List Sl) : List Sl := .scr ns :: .src s l t :: .un :: a :: .dat n :: .dat wd :: .dat m :: .dat p :: .pin v T :: rest
def lsB (bs : List Bool) : PyData := .list (bs.map PyData.bool)
def jlist (k : Nat) : List PyData := (List.range 11).map fun (j : Nat) => PyData.bool (decide ((0 : Int) + (j : Int) = (k : Int)))
def isN (k : Nat) : Bool := decide ((k : Int) = (11 : Int) - 1)
theorem fK : ∀ k, k < 11 → SeqAt.shaped (lsB (kindsOf k)) = true ∧ flatD (lsB (kindsOf k)) = true ∧ SeqAt.shaped (.list (jlist k)) = true ∧ flatD (.list (jlist k)) = true ∧ (!PyData.eqv (lsB (kindsOf k)) (.list (jlist k))) = false := by decide +kernel
theorem fB : ∀ k, k < 11 → SeqAt.shaped (lsB (basesOf k)) = true ∧ flatD (lsB (basesOf k)) = true ∧ SeqAt.shaped (lsB [!isN k, !isN k, isN k, isN k, false]) = true ∧ flatD (lsB [!isN k, !isN k, isN k, isN k, false]) = true ∧ (!PyData.eqv (lsB (basesOf k)) (lsB [!isN k, !isN k, isN k, isN k, false])) = false := by decide +kernel
theorem ep_kind {X : Cx} {ρ ρ1 : List Sl} {e : Expr} {x : Str} {pn pos : Pos} {T : Hp} {a : Addr} {k : Nat} {fs : List (Str × V)} {f : Nat → List Bool} (hk : k < 11) (g : Kn X x (spG (phiE X.K) fun q _ => rB (K := X.K) (f q.1.val))) (ha : EX.EP X e ρ (fun w G => w = .ref a ∧ Ex T G) ρ1) (hx : ExAt T a (ca X.K k) fs) (hg : Gl X x := by rfl)
    (hdb : (x == ("__debug__" : Str)) = false := by decide) (he : starEach [e] X.env = (false, eval e X.env) :: starEach [] X.env := by rfl) (hpl : (backTo pos (starEach [] X.env)).any (·.1) = false := by rfl) : E X (.Call (.Name x pn) [e] [] pos) ρ (lsB (f k)) ρ1 :=
  (ep_call1 (P := fun v G => Da X.K G v (lsB (f k))) g ha (fun v H G _ h => ⟨((⟨k, hk⟩ : Fin 11), fs), ⟨a, by rw [h.1], hx.ex h.2⟩, fun u H' G' _ r => r⟩) hg hdb he hpl).toE fun v G h => h
theorem inner (g : Gd K mg) (dK : DKinds P w K mg base) (dB : DBases P w K mg base) {c : CxA} (hr : Rm 2 (cLaw P w K mg base c).A) {ns : List Int} {s l : Addr} {t : Src} {a : Sl} {ds : List PyData} {n wd m p : PyData} {v : V} {T : Hp} {le : Addr} {vs : List V} {q : EvQ} (ev : Evs K ds n wd m v T le vs q) :
    ∀ ks : List Nat, (∀ k ∈ ks, k < 11) → Loop (cLaw P w K mg base c) (forT (lapAt 6)) (lpB (lapAt 6)) (ks.map fun (k : Nat) => PyData.int ((0 : Int) + (k : Int))) (stI ns s l t a n wd m p v T [.un, .un, .un, .un]) (.nx (stI ns s l t a n wd m p v T [.un, .un, .un, .un])) := by
  obtain ⟨hlen, hat⟩ := ev.at
  have hv := ev.u
  subst hv
  have hu : (cLaw P w K mg base c).A.units + 64 < cLine := hr.1.units
  intro ks
  induction ks with
  | nil => exact fun _ => .nil
  | cons k ks ih =>
    intro hk
    have hk0 := hk k List.mem_cons_self
    obtain ⟨ea, fs, h1, h2⟩ := hat k hk0
    obtain ⟨f1, f2, f3, f4, f5⟩ := fK k hk0
    obtain ⟨b1, b2, b3, b4, b5⟩ := fB k hk0
    have kK := dK.known hr
    have kB := dB.known hr
    have e0 : (vs.length : Int) = 11 := by rw [hlen]; rfl
    have hrg : (rangeD 0 (11 : Int).toNat) = (List.range 11).map fun (j : Nat) => PyData.int ((0 : Int) + (j : Int)) := rfl
    rw [List.map_cons, Int.zero_add]
    refine .nx (js := [9]) (g_name 9 scLaw.nd) ?_ (ih fun y hy => hk y (List.mem_cons_of_mem _ hy))
    refine s_cons (ρ1 := stI ns s l t a n wd m p (.ref le) T [.dat (.int (k : Int)), .dat (.bool (isN k)), .un, .un]) (s_set 10 (e_cmp (e_var 9) (e_bin (E.to (e_lenP 8 ev.l g.len) (by rw [e0])) e_int ov_sub) ov_eqI) scLaw.nd) ?_
    have c1 : DM.T (cLaw P w K mg base c) (stE' (inB 1)) (stI ns s l t a n wd m p (.ref le) T [.dat (.int (k : Int)), .dat (.bool (isN k)), .un, .un]) false (stI ns s l t a n wd m p (.ref le) T [.dat (.int (k : Int)), .dat (.bool (isN k)), .un, .un]) := by
      have lc0 : E (cLaw P w K mg base c) lc2 (stI ns s l t a n wd m p (.ref le) T [.dat (.int (k : Int)), .dat (.bool (isN k)), .un, .un]) (.list (jlist k)) (joinA ([(("j" : Str), 11)].map (·.2)) 0 (stI ns s l t a n wd m p (.ref le) T [.dat (.int (k : Int)), .dat (.bool (isN k)), .un, .un]) (stI ns s l t a n wd m p (.ref le) T [.dat (.int (k : Int)), .dat (.bool (isN k)), .un, .un])) :=
        by
          refine e_O (eo_lc (own := [("j", 11)]) (ρ1 := (stI ns s l t a n wd m p (.ref le) T [.dat (.int (k : Int)), .dat (.bool (isN k)), .un, .un])) (ρ2 := (stI ns s l t a n wd m p (.ref le) T [.dat (.int (k : Int)), .dat (.bool (isN k)), .un, .un])) (i_range1 (ea_cons (E.to (e_lenP 8 ev.l g.len) (by rw [e0])) ea_nil) g.range) ?_ (by decide) scLaw.nd (blkOk_by blk2))
          exact cl_map (f := fun (j : Nat) => PyData.int ((0 : Int) + (j : Int))) (r := fun (j : Nat) => PyData.bool (decide ((0 : Int) + (j : Int) = (k : Int)))) (js := [11]) (fun _ z => z) (List.range 11) (fun _ _ _ _ _ _ _ => g_name 11 scLaw.nd) (fun _ _ _ _ _ _ _ => e_cmp (e_var 11) (e_var 9) ov_eqI) (fun _ _ => Le.refl _)
      have lc : E (cLaw P w K mg base c) lc2 (stI ns s l t a n wd m p (.ref le) T [.dat (.int (k : Int)), .dat (.bool (isN k)), .un, .un]) (.list (jlist k)) (stI ns s l t a n wd m p (.ref le) T [.dat (.int (k : Int)), .dat (.bool (isN k)), .un, .un]) := lc0
      exact DM.T.to (t_cmp (ep_kind (f := kindsOf) hk0 kK (ep_ix 8 (e_var 9) ev.l h1) h2) lc (ov_neD hu f1 f3 f2 f4)) f5
    refine s_cons (s1_if (p := false) c1 (fun h => Bool.noConfusion h) (fun h => s_nil')) ?_
    refine s_cons (s1_if (p := false) (DM.T.to (t_cmp (ep_kind (f := basesOf) hk0 kB (ep_ix 8 (e_var 9) ev.l h1) h2) (e_O (eo_lst (ds := [.bool (!isN k), .bool (!isN k), .bool (isN k), .bool (isN k), .bool false]) (ea_cons (e_not (e_var 10)) (ea_cons (e_not (e_var 10)) (ea_cons (e_var 10) (ea_cons (e_var 10) (ea_cons e_bl ea_nil))))))) (ov_neD hu b1 b3 b2 b4)) b5) (fun h => Bool.noConfusion h) (fun h => s_nil')) ?_
    exact s_nil (le_cons (le_cons (le_cons (le_cons (le_cons (le_cons (le_cons (le_cons (le_cons (le_un (le_un (le_cons (le_cons le_nil)))))))))))))
/-- what is shown of the kept -/
structure ShL (ds : List PyData) : Prop where
  s : PyData.showableAll ds = true
  z : (PyData.list ds).shown.length ≤ sizeLine
  d : (PyData.list ds).depth ≤ 64
theorem ev_x {ds : List PyData} {n w m : PyData} {u : V} {T : Hp} {l : Addr} {vs : List V} {q : EvQ} (h : Evs K ds n w m u T l vs q) (i : Nat) {C : Addr} {f : Str} {v : V} {d : PyData} (e : (evP K q)[i]? = some (pX C [(f, v)]) := by rfl) (hd : Da K T v d) : ∃ a fs u, vs[i]? = some (.ref a) ∧ ExAt T a C fs ∧ fs.lookup f = some u ∧ Da K T u d := by
  obtain ⟨v', h1, a, rfl, h2⟩ := al_get h.al e
  exact ⟨a, _, v, h1, h2, by simp [List.lookup], hd⟩
theorem ev_p {ds : List PyData} {n w m : PyData} {u : V} {T : Hp} {l : Addr} {vs : List V} {q : EvQ} (h : Evs K ds n w m u T l vs q) : ∃ a fs u, vs[0]? = some (.ref a) ∧ ExAt T a (ca K 0) fs ∧ fs.lookup ("path" : Str) = some u ∧ Da K T u (.tuple ds) := by
  obtain ⟨v', h1, a, p, rfl, h2, h3⟩ := al_get (i := 0) h.al rfl
  exact ⟨a, _, .ref p, h1, h2, by simp [List.lookup], .tup h3 h.ds⟩
theorem tail (g : Gd K mg) (xg : Xg P K mg) (dK : DKinds P w K mg base) (dB : DBases P w K mg base) {c : CxA} (hr : Rm 2 (cLaw P w K mg base c).A) {ns : List Int} {s l : Addr} {t : Src} {a : Sl} {ds : List PyData} {n wd m : PyData} {v : V} {T : Hp} {le : Addr} {vs : List V} {q : EvQ} (ev : Evs K ds n wd m v T le vs q)
    (sh : ShL [.tuple ds, n, n, n, wd, wd, m]) : S (cLaw P w K mg base c) (lapB.drop 6) (stI ns s l t a n wd m (.tuple ds) v T [.un, .un, .un, .un]) (.nx (stI ns s l t a n wd m (.tuple ds) v T [.un, .un, .un, .un])) := by
  have hl : Loop (cLaw P w K mg base c) (forT (lapAt 6)) (lpB (lapAt 6)) (rangeD 0 (11 : Int).toNat) (stI ns s l t a n wd m (.tuple ds) v T [.un, .un, .un, .un]) (.nx (stI ns s l t a n wd m (.tuple ds) v T [.un, .un, .un, .un])) := inner (ns := ns) (s := s) (l := l) (t := t) (a := a) (p := .tuple ds) g dK dB hr ev (List.range 11) (fun k hk => List.mem_range.mp hk)
  obtain ⟨hlen, _⟩ := ev.at
  have hv := ev.u
  subst hv
  have e0 : (vs.length : Int) = 11 := by rw [hlen]; rfl
  have hu : (cLaw P w K mg base c).A.units + 100 < cLine := by have := hr.1.un; omega
  obtain ⟨a0, f0, u0, i0, x0, l0, d0⟩ := ev_p ev
  obtain ⟨a1, f1, u1, i1, x1, l1, d1⟩ := ev_x ev 1 (hd := ev.n)
  obtain ⟨a5, f5, u5, i5, x5, l5, d5⟩ := ev_x ev 5 (hd := ev.n)
  obtain ⟨a6, f6, u6, i6, x6, l6, d6⟩ := ev_x ev 6 (hd := ev.n)
  obtain ⟨a7, f7, u7, i7, x7, l7, d7⟩ := ev_x ev 7 (hd := ev.w)
  obtain ⟨a8, f8, u8, i8, x8, l8, d8⟩ := ev_x ev 8 (hd := ev.w)
  obtain ⟨a10, f10, u10, i10, x10, l10, d10⟩ := ev_x ev 10 (hd := ev.m)
  refine s_cons (s_for (i_range1 (n := 11) (ea_cons (E.to (e_lenP 8 ev.l g.len) (by rw [e0])) ea_nil) g.range) hl) ?_
  refine s_cons (s_setO (ds := [.tuple ds, n, n, n, wd, wd]) 12 (eo_lst (ea_cons (e_xf (ep_ix (j := 0) 8 e_int ev.l i0) x0 (xg.R 0 (by decide)) xg.n0 l0 d0) (ea_cons (e_xf (ep_ix (j := 1) 8 e_int ev.l i1) x1 (xg.R 1 (by decide)) xg.n1 l1 d1) (ea_cons (e_xf (ep_ix (j := 5) 8 e_int ev.l i5) x5 (xg.R 5 (by decide)) xg.n5 l5 d5)
    (ea_cons (e_xf (ep_ix (j := 6) 8 e_int ev.l i6) x6 (xg.R 6 (by decide)) xg.n6 l6 d6) (ea_cons (e_xf (ep_ix (j := 7) 8 e_int ev.l i7) x7 (xg.R 7 (by decide)) xg.n7 l7 d7) (ea_cons (e_xf (ep_ix (j := 8) 8 e_int ev.l i8) x8 (xg.R 8 (by decide)) xg.n8 l8 d8) ea_nil))))))) scLaw.nd) ?_
  refine s_cons (s_append 12 (e_xf (ep_ix (j := 10) 8 e_int ev.l i10) x10 (xg.R 10 (by decide)) xg.n10 l10 d10) (hz := Nat.le_of_ble_eq_true rfl)) ?_
  refine s_cons (s1_if (p := false) (DM.T.to (t_cmp (e_reprOL (ds := [.tuple ds, n, n, n, wd, wd, m]) 12 g.sysm hu hr.2 sh.s sh.z sh.d g.repr) (e_callB (ea_cons (e_O (eo_lst (ds := [.tuple ds, n, n, n, wd, wd, m]) (ea_cons (e_var 7) (ea_cons (e_var 4) (ea_cons (e_var 4) (ea_cons (e_var 4) (ea_cons (e_var 5) (ea_cons (e_var 5) (ea_cons (e_var 6) ea_nil))))))))) ea_nil) (cv_reprL g.sysm hu hr.2 sh.s sh.z sh.d) g.repr) ov_neS) (by rw [decide_eq_true rfl]; rfl)) (fun h => Bool.noConfusion h) (fun h => s_nil')) ?_
  exact s_nil (le_cons (le_cons (le_cons (le_cons (le_cons (le_cons (le_cons (le_cons (le_cons (le_cons (le_cons (le_cons (le_un le_nil)))))))))))))
end
end K00
end part_K00g
section part_K00h
namespace K00
open L2 PyProof.Rows PySem.Spec PySem DM DMr EX Num
section
variable {P : Program} {w : World} {K : PySem.W.Frag} {mg : Str → Option Value} {base : Heap}
abbrev DEvery (P : Program) (w : World) (K : PySem.W.Frag) (mg : Str → Option Value) (base : Heap) : Prop := Def P w K mg base "_law_every" 2 ["path", "number", "word", "name"] (spG (phiW K) fun q _ => pL (evP K q))
abbrev DOf (P : Program) (w : World) (K : PySem.W.Frag) (mg : Str → Option Value) (base : Heap) : Prop := Draws P w K mg base "_law_of" 2 ["source", "some"] preOf postOf
def wordsL : List PyData := [.str "form", .str "name", .str "sort", .str "trip", .str ""]
def namesL : List PyData := [.str "a", .str "", .str "no name", .none, .list [], .tuple [.str "a", .str "b"], .dict [(.str "a", .int 1)], .int 7, .bool true]
/-- small -/
structure Tn (d : PyData) : Prop where
  s : d.showable = true
  z : d.shown.length ≤ 1000000
  d : d.depth ≤ 10
theorem tn_words : ∀ d ∈ wordsL, Tn d := by
  intro d h
  simp only [wordsL, List.mem_cons, List.not_mem_nil, or_false] at h
  rcases h with rfl | rfl | rfl | rfl | rfl <;> exact ⟨by decide +kernel, by decide +kernel, by decide +kernel⟩
theorem tn_names : ∀ d ∈ namesL, Tn d := by
  intro d h
  simp only [namesL, List.mem_cons, List.not_mem_nil, or_false] at h
  rcases h with rfl | rfl | rfl | rfl | rfl | rfl | rfl | rfl | rfl <;> exact ⟨by decide +kernel, by decide +kernel, by decide +kernel⟩
theorem tn_int {i : Int} (h0 : 0 ≤ i) (h : i < 2 ^ 20) : Tn (.int i) := by
  have hn : i.natAbs < 2 ^ 20 := by omega
  have hl : i.natAbs.log2 < 1920 := by
    by_cases z : i.natAbs = 0
    · rw [z]; decide
    · exact Nat.lt_trans ((Nat.log2_lt z).mpr hn) (by decide)
  have sm : Sm 1 1 (.int i) := sm_int (Nat.lt_of_lt_of_le hn (Nat.pow_le_pow_right (by decide) (by decide)))
  refine ⟨by simp [PyData.showable, hl], ?_, by simp [PyData.depth]⟩
  have := shown_len sm.w sm.s
  have h2 := sm.n
  omega
theorem tn_path {is : List Int} (hl : is.length ≤ 9) (h : ∀ i ∈ is, 0 ≤ i ∧ i < 9) : Tn (.tuple (is.map PyData.int)) := by
  have sm : Sm (1 * (is.map PyData.int).length + 1) (1 + 1) (.tuple (is.map PyData.int)) := sm_tup fun d hd => by
    obtain ⟨i, hi, rfl⟩ := List.mem_map.mp hd
    have := h i hi
    exact sm_int (Nat.lt_of_lt_of_le (show i.natAbs < 2 ^ 20 by omega) (Nat.pow_le_pow_right (by decide) (by decide)))
  have hs : PyData.showableAll (is.map PyData.int) = true := by
    clear sm hl
    induction is with
    | nil => rfl
    | cons i is ih =>
      have := h i List.mem_cons_self
      rw [List.map_cons, PyData.showableAll, (tn_int this.1 (by omega)).s, ih fun j hj => h j (List.mem_cons_of_mem _ hj)]
      rfl
  refine ⟨by rw [PyData.showable]; exact hs, ?_, ?_⟩
  · have := shown_len sm.w sm.s
    have h2 := sm.n
    rw [List.length_map] at h2
    omega
  · exact Nat.le_trans sm.k (by decide)
theorem shown_list {ds : List PyData} (hl : ds.length ≤ 10) (h : ∀ d ∈ ds, Tn d) : ShL ds := by
  refine ⟨?_, ?_, ?_⟩
  · clear hl
    induction ds with
    | nil => rfl
    | cons d ds ih =>
      rw [PyData.showableAll, (h d List.mem_cons_self).s, ih fun e he => h e (List.mem_cons_of_mem _ he)]
      rfl
  · rw [PyData.shown]
    refine Nat.le_trans (listText_len _) ?_
    have key : ∀ ds : List PyData, (∀ d ∈ ds, Tn d) → piled (PyData.shownAll ds) ≤ 1000002 * ds.length := by
      intro ds
      induction ds with
      | nil => intro _; rw [PyData.shownAll]; exact Nat.zero_le _
      | cons d ds ih =>
        intro h
        have h1 := (h d List.mem_cons_self).z
        have h2 := ih fun e he => h e (List.mem_cons_of_mem _ he)
        rw [PyData.shownAll, List.length_cons]
        show d.shown.length + 2 + piled (PyData.shownAll ds) ≤ _
        omega
    have := key ds h
    rw [sizeLine_eq]
    omega
  · rw [PyData.depth]
    have key : ∀ ds : List PyData, (∀ d ∈ ds, Tn d) → PyData.depthAll ds ≤ 10 := by
      intro ds
      induction ds with
      | nil => intro _; rw [PyData.depthAll]; exact Nat.zero_le _
      | cons d ds ih =>
        intro h
        have h1 := (h d List.mem_cons_self).d
        have h2 := ih fun e he => h e (List.mem_cons_of_mem _ he)
        rw [PyData.depthAll]
        omega
    have := key ds h
    omega
theorem S.post {X : Cx} {st : List Stmt} {ρ ρ1 ρ2 : List Sl} (h : DM.S X st ρ (.nx ρ1)) (l : Le ρ1 ρ2) : DM.S X st ρ (.nx ρ2) := pss_imp h fun D σ H ⟨F, G, ad, w, k⟩ => ⟨F, G, ad, w, fun σ' H' G' ad' e w' => k σ' H' G' ad' e (w'.le l)⟩
abbrev st0 (ns : List Int) (s l : Addr) (t : Src) : List Sl := [.scr ns, .src s l t, .un, .un, .un, .un, .un, .un, .un, .un, .un, .un, .un]
theorem al_noH : ∀ {Ps : List PP} {vs : List V} {H H' G : Hp}, (∀ P ∈ Ps, ∀ v H H' G, P v H G → P v H' G) → Al Ps vs H G → Al Ps vs H' G
  | [], [], _, _, _, _, h => h
  | P :: Ps, v :: vs, _, _, _, k, ⟨h1, h2⟩ => ⟨k P List.mem_cons_self _ _ _ _ h1, al_noH (fun Q hQ => k Q (List.mem_cons_of_mem _ hQ)) h2⟩
  | [], _ :: _, _, _, _, _, h => h.elim
  | _ :: _, [], _, _, _, _, h => h.elim
/-- what is said of the call of _law_every, from the state -/
theorem every_of {F G H : Hp} {σ : L2.St} {ad : Nat → List Addr} {ns : List Int} {s l : Addr} {t : Src} {a : Sl} {ds : List PyData} {n wd m : PyData} {rest : List Sl} (ha : a = .own ds ∨ a = .dat (.tuple ds)) (st : Sta K F G H σ (.scr ns :: .src s l t :: .un :: a :: .dat n :: .dat wd :: .dat m :: rest) ad) :
    ∃ (vs : List V) (α : EvQ), ([3, 4, 5, 6].map fun j => σ[j]?) = vs.map (fun v => some (some v)) ∧ phiW K α vs H G ∧ ∀ u H' G', Ex G G' → pL (evP K α) u H' G' → ∃ le vs', Evs K ds n wd m u G' le vs' α := by
  obtain ⟨v4, h4, d4⟩ := st.dat (i := 4) (d := n) rfl
  obtain ⟨v5, h5, d5⟩ := st.dat (i := 5) (d := wd) rfl
  obtain ⟨v6, h6, d6⟩ := st.dat (i := 6) (d := m) rfl
  obtain ⟨le, xs, h3, hs, hd⟩ : ∃ le xs, σ[3]? = some (some (.ref le)) ∧ (SqL K H le xs ∨ SqT K G le xs) ∧ DaAll K G xs ds := by
    rcases ha with rfl | rfl
    · obtain ⟨le, xs, h1, h2, h3, _⟩ := st.own_at (k := 3) rfl
      exact ⟨le, xs, h1, .inl (SqL.of h2), h3⟩
    · obtain ⟨v, h1, h2⟩ := st.dat (i := 3) (d := .tuple ds) rfl
      cases h2 with
      | tup q1 q2 => exact ⟨_, _, h1, .inr q1, q2⟩
  refine ⟨[.ref le, v4, v5, v6], ⟨le, xs, v4, v5, v6⟩, ?_, ⟨_, _, _, _, rfl, ⟨rfl, rfl, rfl, rfl, hs⟩⟩, fun u H' G' e ⟨l2, vs2, e1, e2, e3⟩ => ⟨l2, vs2, e1, e2, ?_, daAll_ex e hd, da_ex e d4, da_ex e d5, da_ex e d6⟩⟩
  · simp only [List.map_cons, List.map_nil, h3, h4, h5, h6]
  · exact al_noH (fun P hP => by
      simp only [evP, List.mem_cons, List.not_mem_nil, or_false] at hP
      rcases hP with rfl | rfl | rfl | rfl | rfl | rfl | rfl | rfl | rfl | rfl | rfl <;> exact fun _ _ _ _ h => h) e3
/-- the pair's first part -/
def tupE : Expr := match lapAt 4 with
  | .Assign _ (.Tuple (e :: _) _ _) _ => e
  | _ => .Constant .none 0 ⟨0, 0, 0, 0⟩
theorem lap (g : Gd K mg) (xg : Xg P K mg) (dP : DPick P w K mg base) (dO : DOf P w K mg base) (dE : DEvery P w K mg base) (dK : DKinds P w K mg base) (dB : DBases P w K mg base) (ns : List Int) : ∀ (ys : List PyData) (t : Src), Ok t → ∃ t', Ok t' ∧ ∀ (a : CxA), Rm 2 (cLaw P w K mg base a).A → ∀ s l,
    Loop (cLaw P w K mg base a) (forT (bodyAt sLaw 1)) lapB ys (st0 ns s l t) (.nx (st0 ns s l t'))
  | [], t, ht => ⟨t, ht, fun a hr s l => .nil⟩
  | y :: ys, t, ht => by
    obtain ⟨R, dR, hR⟩ := dP
    obtain ⟨R2, dR2, hR2⟩ := dO
    obtain ⟨t1, n1, r1, ht1, hn1⟩ := pick_nat hR ht 4 (by decide)
    have hn1' : n1 < 4 := by omega
    obtain ⟨t2, rs, hch, hlen, hrs, ht2⟩ := ch_ex (R := R) (args := [.int 9]) (O := Ok) (Q := fun d => ∃ i : Int, d = .int i ∧ 0 ≤ i ∧ i < 9) (fun t ht => by
      obtain ⟨t', j, h1, h2, h3⟩ := pick_nat hR ht 9 (by decide)
      exact ⟨t', _, h1, h2, j, rfl, by omega, by omega⟩) n1 t1 ht1
    obtain ⟨is, rfl, his⟩ := map_of hrs
    obtain ⟨t3, n3, r3, ht3, hn3⟩ := pick_nat hR ht2 2 (by decide)
    obtain ⟨t4, d4, r4, ht4, m4, i4, e4, rfl, p4, q4⟩ := hR t3 [.int 1000000] ⟨ht3, _, rfl, by show (1000000 : Int).natAbs < 2 ^ 900; exact Nat.lt_of_lt_of_le (by decide : (1000000 : Int).natAbs < 2 ^ 20) (Nat.pow_le_pow_right (by decide) (by decide))⟩
    cases e4
    obtain ⟨t5, d5, r5, ht5, es5, e5, m5⟩ := hR2 t4 [.list wordsL] ⟨ht4, _, rfl, by simp [wordsL], by show 5 < 1000; decide⟩
    cases e5
    obtain ⟨t6, d6, r6, ht6, es6, e6, m6⟩ := hR2 t5 [.list namesL] ⟨ht5, _, rfl, by simp [namesL], by show 9 < 1000; decide⟩
    cases e6
    obtain ⟨t', ht', hl⟩ := lap g xg ⟨R, dR, hR⟩ ⟨R2, dR2, hR2⟩ dE dK dB ns ys t6 ht6
    refine ⟨t', ht', fun a hr s l => ?_⟩
    have k_pick := dR.known hr
    have k_of := dR2.known hr
    have k_every := dE.known hr
    have hlen' : is.length = n1 := by rw [← hlen, List.length_map]
    have sh : ShL [.tuple (is.map PyData.int), .int i4, .int i4, .int i4, d5, d5, d6] := shown_list (by show 7 ≤ 10; decide) (by
      have z1 := tn_path (is := is) (by omega) his
      have z2 : Tn (.int i4) := tn_int p4 (by omega)
      have z3 := tn_words _ m5
      have z4 := tn_names _ m6
      intro d hd
      simp only [List.mem_cons, List.not_mem_nil, or_false] at hd
      rcases hd with rfl | rfl | rfl | rfl | rfl | rfl | rfl <;> assumption)
    have end_ : ∀ (a1 : Sl), (a1 = .own (is.map PyData.int) ∨ a1 = .dat (.tuple (is.map PyData.int))) → ∀ {a2 : Sl},
        E (cLaw P w K mg base a) tupE (.scr ns :: .src s l t6 :: .un :: a1 :: .dat (.int i4) :: .dat d5 :: .dat d6 :: [.un, .un, .un, .un, .un, .un]) (.tuple (is.map PyData.int)) (.scr ns :: .src s l t6 :: .un :: a1 :: .dat (.int i4) :: .dat d5 :: .dat d6 :: [.un, .un, .un, .un, .un, .un]) →
        (∀ v T, S1 (cLaw P w K mg base a) (lapAt 5) (stI ns s l t6 a1 (.int i4) d5 d6 (.tuple (is.map PyData.int)) v T [.un, .un, .un, .un]) (.nx (stI ns s l t6 a2 (.int i4) d5 d6 (.tuple (is.map PyData.int)) v T [.un, .un, .un, .un]))) →
        S (cLaw P w K mg base a) (lapB.drop 4) (.scr ns :: .src s l t6 :: .un :: a1 :: .dat (.int i4) :: .dat d5 :: .dat d6 :: [.un, .un, .un, .un, .un, .un]) (.nx (st0 ns s l t6)) := fun a1 h1 a2 ht hi => by
      refine s_parDP (P := fun u G => ∃ le vs' q, Evs K (is.map PyData.int) (.int i4) d5 d6 u G le vs' q) 7 8 ht (ep_callN k_every (na_cons 3 (na_cons 4 (na_cons 5 (na_cons 6 na_nil)))) (fun F G H σ ad st => ?_)) (fun v T hP => ?_) rfl scLaw.nd
      · obtain ⟨vs, α, e1, e2, e3⟩ := every_of h1 st
        exact ⟨vs, α, e1, e2, fun u H' G' e h => by
          obtain ⟨le, vs', z⟩ := e3 u H' G' e h
          exact ⟨le, vs', α, z⟩⟩
      · obtain ⟨le, vs', q, ev⟩ := hP
        refine s_cons (hi v T) ?_
        have tl := tail g xg dK dB hr (ns := ns) (s := s) (l := l) (t := t6) (a := a2) ev sh
        exact S.post tl (le_cons (le_cons (le_cons (le_un (le_un (le_un (le_un (le_un (le_un (le_cons (le_cons (le_cons (le_cons le_nil)))))))))))))
    have rl : ∀ m : Nat, (rangeD 0 m).length = m := fun m => rangeD_len 0 m
    have ein : (PyData.int ((n1 : Nat) : Int)) = .int (n1 : Int) := rfl
    refine .nx (js := [2]) (g_name 2 scLaw.nd) (S.pre (ρ1 := st0 ns s l t) ?_ (le_cons (le_cons (le_un (le_cons (le_cons (le_cons (le_cons (le_cons (le_cons (le_cons (le_cons (le_cons (le_cons le_nil)))))))))))))) (hl a hr s l)
    refine s_cons (ρ1 := .scr ns :: .src s l t2 :: .un :: .own (is.map PyData.int) :: [.un, .un, .un, .un, .un, .un, .un, .un, .un]) (s_setLc 3 (own := [("k", 9)]) (ρ1 := st0 ns s l t1) (ρ2 := st0 ns s l t2) (i_range1 (n := (n1 : Int)) (ea_cons (e_callS 1 k_pick (ea_cons e_int ea_nil) r1) ea_nil) g.range (by omega))
      (ch_cl (ρ := fun t => st0 ns s l t) (js := [9]) (fun _ z => z) (fun _ _ _ _ _ _ _ => g_name 9 scLaw.nd) (fun _ _ _ _ h _ _ _ _ _ => e_callS 1 k_pick (ea_cons e_int ea_nil) h) (fun _ _ => Le.refl _) _ _ t1 t2 (by rw [Int.toNat_natCast, rl, List.length_map, hlen']) hch) (by rw [Int.toNat_natCast, rl]; omega) scLaw.nd (blkOk_by blk1) (Nat.le_of_ble_eq_true rfl)) ?_
    have mid : ∀ (a1 a2 : Sl), (a1 = .own (is.map PyData.int) ∨ a1 = .dat (.tuple (is.map PyData.int))) →
        E (cLaw P w K mg base a) tupE (.scr ns :: .src s l t6 :: .un :: a1 :: .dat (.int i4) :: .dat d5 :: .dat d6 :: [.un, .un, .un, .un, .un, .un]) (.tuple (is.map PyData.int)) (.scr ns :: .src s l t6 :: .un :: a1 :: .dat (.int i4) :: .dat d5 :: .dat d6 :: [.un, .un, .un, .un, .un, .un]) →
        (∀ v T, S1 (cLaw P w K mg base a) (lapAt 5) (stI ns s l t6 a1 (.int i4) d5 d6 (.tuple (is.map PyData.int)) v T [.un, .un, .un, .un]) (.nx (stI ns s l t6 a2 (.int i4) d5 d6 (.tuple (is.map PyData.int)) v T [.un, .un, .un, .un]))) →
        S (cLaw P w K mg base a) (lapB.drop 2) (.scr ns :: .src s l t3 :: .un :: a1 :: [.un, .un, .un, .un, .un, .un, .un, .un, .un]) (.nx (st0 ns s l t6)) := fun a1 a2 h1 ht hi => by
      refine s_cons (s_par 4 5 (d1 := .int i4) (d2 := d5) (ea_cons (e_callS 1 k_pick (ea_cons (E.to (e_bin e_int e_int (ov_pow ⟨by decide, by decide, by decide⟩)) (congrArg PyData.int (by decide))) ea_nil) r4) (ea_cons (e_callS 1 k_of (ea_cons (e_O (eo_lst (ds := wordsL) (ea_cons e_str (ea_cons e_str (ea_cons e_str (ea_cons e_str (ea_cons e_str ea_nil))))))) ea_nil) r5) ea_nil)) rfl scLaw.nd) ?_
      refine s_cons (s_set 6 (d := d6) (e_callS 1 k_of (ea_cons (e_O (eo_lst (ds := namesL) (ea_cons e_str (ea_cons e_str (ea_cons e_str (ea_cons e_non (ea_cons (e_O (eo_lst ea_nil)) (ea_cons (e_tup (ea_cons e_str (ea_cons e_str ea_nil))) (ea_cons e_dict1 (ea_cons e_int (ea_cons e_bl ea_nil))))))))))) ea_nil) r6) scLaw.nd) ?_
      exact end_ a1 h1 ht hi
    by_cases h3 : n3 = 0
    · refine s_cons (s_keep 3 (DM.T.to (t_cmp (e_callS 1 k_pick (ea_cons e_int ea_nil) r3) e_int ov_eqI) (decide_eq_true (by omega))) scLaw.nd) ?_
      refine mid _ (.own (is.map PyData.int ++ [.str "later"])) (.inl rfl) (e_tupO 3 xg.tup) (fun v T => ?_)
      exact s1_if (p := true) (t_val (e_isiO 3 xg.isi g.list)) (fun _ => s_cons (s_append 3 e_str (hz := by rw [List.length_map]; omega)) s_nil') (fun h => Bool.noConfusion h)
    · refine s_cons (s_set 3 (d := .tuple (is.map PyData.int)) (e_if (p := false) (DM.T.to (t_cmp (e_callS 1 k_pick (ea_cons e_int ea_nil) r3) e_int ov_eqI) (decide_eq_false (by omega))) (fun h => Bool.noConfusion h) (fun _ => e_callTy (ea_cons (e_varO 3) ea_nil) cv_tupL xg.tup)) scLaw.nd) ?_
      refine mid _ (.dat (.tuple (is.map PyData.int))) (.inr rfl) (e_callTy (ea_cons (e_var 3) ea_nil) cv_tupT xg.tup) (fun v T => ?_)
      exact s1_if (p := false) (t_val (e_isi (d := .tuple (is.map PyData.int)) (T := "list") (e_var 3) xg.isi g.list (show kitB "tuple" "list" = some false by decide +kernel))) (fun h => Bool.noConfusion h) (fun _ => s_nil')
theorem ok_law {f : Addr} {fd : FuncData} (hp : FunD K "law" "law" (defArgs sLaw) (defBody sLaw) (defScope sLaw) [] [] f fd) (g : Gd K mg) (xg : Xg P K mg) (dS : Def P w K mg base "_law_source" 1 ["script"] (spSrc K srcOf)) (dP : DPick P w K mg base) (dO : DOf P w K mg base) (dE : DEvery P w K mg base) (dK : DKinds P w K mg base) (dB : DBases P w K mg base) : FnG P w K mg base L2.CX0 3 f fd ["script"] (spL K) := by
  refine def_L hp scLaw (fun _ _ _ _ _ _ us hl => match us, hl with | [_], _ => rfl) (Nat.le_of_ble_eq_true rfl) rfl (fun a hr ns hns => ?_)
  obtain ⟨t1, ht1, hl1⟩ := lap g xg dP dO dE dK dB ns (rangeD 0 2) (srcOf ns) (srcOf_ok ns)
  have k_law_source := dS.known hr
  refine s_source (ns := ns) 1 0 k_law_source (Nat.le_trans hns (by decide)) (fun s l => ?_) scLaw.nd
  refine s_cons (s_for (i_range1 (ea_cons e_int ea_nil) g.range) (hl1 a hr s l)) ?_
  exact s_stop (s_retP e_bl)
end
end K00
end part_K00h
section part_EXh
/-! The head's hook with own exception classes. -/
namespace EX
open L2 PyProof.Rows PySem.Spec PySem DM
def cellsOf (g : Addr → Option Obj) (as : List Addr) : List Addr := as.flatMap fun a => match g a with
  | some o => (match o.data with
    | .func fd => fd.closure.map (·.2)
    | _ => [])
  | none => []
def adrY (g : Addr → Option Obj) (n : Nat) : List Addr := sysModules :: cStatics :: (He.asD g n ++ cellsOf g (He.asD g n))
abbrev InV : Type := Option (Str × Str × Arguments × FuncBody × Scope × Addr × Value × Addr)
def inObs (K : PySem.W.Frag) (x : Str) : InV := match K.lookup (He.ma K (He.ga K x) "__init__") with
  | some ⟨_, _, .func fd, _⟩ => some (fd.name, fd.qualname, fd.params, fd.body, fd.scope, fd.globals, fd.defaults, fd.builtins)
  | _ => none
def inVal (p : Str × Str × Stmt) : InV := some ("__init__", p.2.1, defArgs p.2.2, .stmts (defBody p.2.2), defScope p.2.2, mainGlobals, .none, builtinsNs)
abbrev AlY : Type := (Bool × He.AlD) × List InV
def obsY (ex : PySem.W.Frag → Bool) (fa : List He.Fa) (fn : List He.DefD) (ins : List (Str × Str × Stmt)) (K : PySem.W.Frag) : AlY := ((ex K, He.obsD fa fn K), ins.map fun p => inObs K p.1)
def valY (fn : List He.DefD) (ins : List (Str × Str × Stmt)) : AlY := ((true, He.valD fn), ins.map inVal)
def obY (n : Nat) (ex : PySem.W.Frag → Bool) (fa : List He.Fa) (fn : List He.DefD) (ins : List (Str × Str × Stmt)) (g : Addr → Option Obj) : AlY := obsY ex fa fn ins (He.frG g (adrY g n))
def hookY (n : Nat) (ex : PySem.W.Frag → Bool) (fa : List He.Fa) (fn : List He.DefD) (ins : List (Str × Str × Stmt)) : PySem.W.Hook where
  α := AlY
  obs := fun s => obY n ex fa fn ins s.heap.get?
  val := fun _ => valY fn ins
  says := fun _ h => ∃ K : PySem.W.Frag, K.In h ∧ obsY ex fa fn ins K = valY fn ins
  of := fun _ _ e => ⟨_, He.frG_in, e⟩
  keeps := fun _ _ _ ⟨K, hK, c⟩ k => ⟨K, PySem.W.Frag.In.keeps hK k, c⟩
theorem obY_eq {n : Nat} {ex : PySem.W.Frag → Bool} {fa : List He.Fa} {fn : List He.DefD} {ins : List (Str × Str × Stmt)} {g : Addr → Option Obj} {s : Shared} (h : ∀ a, g a = s.heap.get? a) : obY n ex fa fn ins g = (hookY n ex fa fn ins).obs s := by
  have e : g = s.heap.get? := funext h
  subst e
  rfl
section
variable {ex : PySem.W.Frag → Bool} {fa : List He.Fa} {fn : List He.DefD} {ins : List (Str × Str × Stmt)} {K : PySem.W.Frag}
theorem saysY_own (c : obsY ex fa fn ins K = valY fn ins) : ex K = true := congrArg (fun z : AlY => z.1.1) c
theorem saysY_d (c : obsY ex fa fn ins K = valY fn ins) : He.SaysD fa fn K := congrArg (fun z : AlY => z.1.2) c
theorem saysY_i (c : obsY ex fa fn ins K = valY fn ins) (i : Nat) {p : Str × Str × Stmt} (h : ins[i]? = some p := by rfl) : inObs K p.1 = inVal p := by
  have e : ins.map (fun p => inObs K p.1) = ins.map inVal := congrArg (fun z : AlY => z.2) c
  have e2 : (ins.map fun p => inObs K p.1)[i]? = (ins.map inVal)[i]? := by rw [e]
  rw [List.getElem?_map, List.getElem?_map, h] at e2
  exact Option.some.inj e2
end
def digB (K : PySem.W.Frag) : Bool := He.eqO (PySem.W.nsIn K cStatics "sys.int_max_str_digits") (some none)
def defD (x : Str) (st : Stmt) : He.DefD := ⟨(x, none), x, x, defArgs st, defBody st, defScope st, [], []⟩
section
variable {K : PySem.W.Frag} {h : Heap} {mg : Str → Option Value} {x : Str} {st : Stmt} {fa : List He.Fa} {fn : List He.DefD}
theorem put_of [Tabl] (X : K.In h) (G : h.Ns mainGlobals mg) (c : He.SaysD fa fn K) (i j : Nat) (hi : fn[i]? = some (defD x st) := by rfl) (hj : fa[j]? = some (He.Fa.glo x) := by rfl) : Put K mg x st := by
  obtain ⟨fd, F⟩ := c.def_ i hi
  exact ⟨_, fd, He.glo_ok X G (c.fact j hj), F⟩
theorem free_of (X : K.In h) (G : h.Ns mainGlobals mg) (c : He.SaysD fa fn K) (j : Nat) (hj : fa[j]? = some (He.Fa.free x) := by rfl) : mg x = none := He.free_ok X G (c.fact j hj)
end
def strAt (vs : Array Value) (z : Str) : Bool := match vs[2]? with
  | some (Value.str y _) => z == y
  | _ => false
theorem strAt_ok {vs : Array Value} {z : Str} (h : strAt vs z = true) : ∃ y t, vs[2]? = some (.str y t) ∧ (z == y) = true := by
  unfold strAt at h
  split at h
  · rename_i y t e
    exact ⟨y, t, e, h⟩
  · cases h
def fileB (P : Program) (K : PySem.W.Frag) (a : Addr) : Bool := match K.lookup a with
  | some ⟨_, _, .fields vs, _⟩ => strAt vs P.main.file
  | _ => false
theorem fileB_ok {P : Program} {K : PySem.W.Frag} {a : Addr} (h : fileB P K a = true) : ∃ cl dd vs sl z tf, K.lookup a = some ⟨cl, dd, .fields vs, sl⟩ ∧ vs[2]? = some (.str z tf) ∧ ((P.main.file : Str) == z) = true := by
  unfold fileB at h
  split at h
  · rename_i cl dd vs sl e
    obtain ⟨y, t, e1, e2⟩ := strAt_ok h
    exact ⟨cl, dd, vs, sl, y, t, e, e1, e2⟩
  · cases h
def cellB (K : PySem.W.Frag) (cc D : Addr) : Bool := match K.lookup cc with
  | some ⟨_, _, .cell (some (.ref D')), _⟩ => decide (D' = D)
  | _ => false
theorem cellB_ok {K : PySem.W.Frag} {cc D : Addr} (h : cellB K cc D = true) : ∃ cl dd sl, K.lookup cc = some ⟨cl, dd, .cell (some (.ref D)), sl⟩ := by
  unfold cellB at h
  split at h
  · rename_i cl dd D' sl e
    rw [of_decide_eq_true h] at e
    exact ⟨cl, dd, sl, e⟩
  · cases h
def cloB (P : Program) (K : PySem.W.Frag) (C : Addr) (q : Str) : List (Str × Addr) → Value → Bool
  | [(z, cc)], .ref cda => decide (z = "__class__") && (PySem.W.codeIn K (.ref cda) q && (fileB P K cda && cellB K cc C))
  | _, _ => false
theorem cloB_ok {P : Program} {K : PySem.W.Frag} {C : Addr} {q : Str} {cl : List (Str × Addr)} {v : Value} (h : cloB P K C q cl v = true) : ∃ cc cda, cl = [(("__class__" : Str), cc)] ∧ v = .ref cda ∧ PySem.W.codeIn K (.ref cda) q = true ∧ fileB P K cda = true ∧ cellB K cc C = true := by
  unfold cloB at h
  split at h
  · rename_i z cc cda
    obtain ⟨h1, h⟩ := He.ba h
    obtain ⟨h2, h⟩ := He.ba h
    obtain ⟨h3, h4⟩ := He.ba h
    rw [of_decide_eq_true h1]
    exact ⟨cc, cda, rfl, rfl, h2, h3, h4⟩
  · cases h
def fnB (P : Program) (K : PySem.W.Frag) (C fI : Addr) : Bool := match K.lookup fI with
  | some ⟨oc, _, .func fd, _⟩ => decide (oc = .type "function") && cloB P K C fd.qualname fd.closure fd.code
  | _ => false
/-- the class x, whose own __init__ keeps f -/
def inB (P : Program) (B newId initId : String) (bmB : List Value) (x f : Str) (K : PySem.W.Frag) : Bool :=
  (PySem.W.excInitIn K (He.ga K x) bmB newId && (PySem.W.excOver K (He.ga K x) bmB && (He.eqO (PySem.W.findIn K (.ref (He.ga K x)) "__init__") (some (some (.ref (He.ma K (He.ga K x) "__init__")))) &&
  (fnB P K (He.ga K x) (He.ma K (He.ga K x) "__init__") &&
  ((PySem.W.clsIn K (He.ga K x)).isSome && (decide (PySem.W.mroIn K (He.ga K x) (.ref (He.ga K x)) = some true) && (He.eqO (PySem.W.ks_superIn K (He.ga K x) (He.ga K x) "__init__") (some (some (.builtin initId))) &&
  (decide (PySem.W.subIn K (.ref (He.ga K x)) (.type B) = some true) && (He.eqO (PySem.W.nsIn K cStatics "thirdparty.any") (some none) && (He.eqO (PySem.W.findIn K (.ref (He.ga K x)) "__setattr__") (some (some (.builtin "object.__setattr__"))) &&
  (PySem.W.hasDictIn K (He.ga K x) && (He.eqO (PySem.W.takerIn K (He.ga K x) f) (some none) && (PySem.W.keepIn K (.ref (He.ga K x)) && He.eqO (PySem.W.findIn K (.ref (He.ga K x)) f) (some none))))))))))))))
theorem inB_ok {P : Program} {B newId initId : String} {bmB : List Value} {x f q : Str} {st : Stmt} {K : PySem.W.Frag} (FB : ExcBaseFacts B newId initId bmB) (KF : PySem.W.KxsFacts B initId) (SF : StoreFacts B bmB "object.__setattr__" "object")
    (h : inB P B newId initId bmB x f K = true) (e : inObs K x = inVal (x, q, st)) : ExcN P K (He.ga K x) f (defArgs st) (defBody st) (defScope st) ∧ PySem.W.findIn K (.ref (He.ga K x)) f = some none := by
  unfold inB at h
  obtain ⟨h1, h⟩ := He.ba h
  obtain ⟨h2, h⟩ := He.ba h
  obtain ⟨h3, h⟩ := He.ba h
  obtain ⟨h4, h⟩ := He.ba h
  obtain ⟨h5, h⟩ := He.ba h
  obtain ⟨h6, h⟩ := He.ba h
  obtain ⟨h7, h⟩ := He.ba h
  obtain ⟨h8, h⟩ := He.ba h
  obtain ⟨h9, h⟩ := He.ba h
  obtain ⟨h10, h⟩ := He.ba h
  obtain ⟨h11, h⟩ := He.ba h
  obtain ⟨h12, h⟩ := He.ba h
  obtain ⟨h13, h14⟩ := He.ba h
  unfold fnB at h4
  unfold inObs at e
  cases q1 : K.lookup (He.ma K (He.ga K x) "__init__") with
  | none => rw [q1] at h4; cases h4
  | some o =>
    obtain ⟨oc, od, dt, osl⟩ := o
    rw [q1] at h4 e
    cases dt with
    | func fd =>
      obtain ⟨n1, n2, n3, n4, n5, n6, n7, n8, n9, n10, n11, n12, n13, n14, n15⟩ := fd
      have e2 : (some (n1, n2, n3, n4, n5, n6, n8, n15) : InV) = inVal (x, q, st) := e
      simp only [inVal, Option.some.injEq, Prod.mk.injEq] at e2
      obtain ⟨g1, g2, g3, g4, g5, g6, g7, g8⟩ := e2
      subst g1 g2 g3 g4 g5 g6 g7 g8
      obtain ⟨p1, p2⟩ := He.ba (show (decide (oc = .type "function") && cloB P K (He.ga K x) _ n7 n13) = true from h4)
      obtain ⟨cc, cda, e7, e13, k1, k2, k3⟩ := cloB_ok p2
      subst e7 e13
      exact ⟨⟨⟨B, newId, initId, bmB, He.ga K x, He.ma K (He.ga K x) "__init__", cda, cc, _, FB, KF, SF, h1, h2, He.eqO_ok h3, ⟨oc, od, osl, n9, n10, n11, n12, n14, q1, of_decide_eq_true p1⟩, k1, fileB_ok k2, cellB_ok k3, h5, of_decide_eq_true h6, He.eqO_ok h7, of_decide_eq_true h8, He.eqO_ok h9, He.eqO_ok h10, h11, He.eqO_ok h12⟩, h13⟩, He.eqO_ok h14⟩
    | _ => cases h4
end EX
end part_EXh
section part_K00i
namespace K00
open L2 PyProof.Rows PySem.Spec PySem DM DMr EX Num
def fns : List He.DefD := [defD "_law_source" sSource, defD "_law_pick" sPick, defD "_law_of" sOf, defD "_law_every" sEvery, defD "_law_kinds" sKinds, defD "_law_bases" sBases, defD "law" sLaw]
def glos : List Str := ["_law_source", "_law_pick", "_law_of", "_law_every", "_law_kinds", "_law_bases", "law", "BadShape", "BadText", "TooGreat", "Bare", "Unbounded", "BadWish", "BadGust", "BadAct", "BadAsk", "NothingDone", "UnknownName", "GustError", "NameMissing"]
def frees : List Str := ["int", "abs", "len", "list", "range", "max", "repr", "isinstance", "super", "tuple", "ValueError", "LookupError", "KeyError", "IndexError", "TypeError", "ArithmeticError", "RuntimeError", "AttributeError"]
def facts : List He.Fa := glos.map He.Fa.glo ++ frees.map He.Fa.free
def inits : List (Str × Str × Stmt) := [("BadShape", "BadShape.__init__", ini 3), ("BadText", "BadText.__init__", ini 4), ("BadWish", "BadWish.__init__", ini 8), ("BadGust", "BadGust.__init__", ini 9), ("BadAct", "BadAct.__init__", ini 10), ("BadAsk", "BadAsk.__init__", ini 11), ("UnknownName", "UnknownName.__init__", ini 13)]
def kO (K : PySem.W.Frag) (i : Nat) (c : Value) (b : Bool) : Bool := decide (PySem.W.kitOne K (.ref (ca K i)) c = some b)
def kA (K : PySem.W.Frag) (i : Nat) (ts : List String) (b : Bool) : Bool := decide (PySem.W.kitAny K (.ref (ca K i)) (ts.map Value.type) = some b)
abbrev PP0 : Program := PySem.Challenge.pw_everygust_k00_errors
def oneB (K : PySem.W.Frag) (i : Nat) : Bool := excRB K (ca K i) && ((List.range 11).all (fun j => kO K i (.ref (ca K j)) (decide (j = i))) && (kO K i (.ref (He.ga K "GustError")) (decide (i ≠ 10)) && (kO K i (.ref (He.ga K "NameMissing")) (decide (i = 10)) && (kO K i (.type "ValueError") (decide (i ≠ 10)) &&
  (kO K i (.type "LookupError") (decide (i = 10)) && (kA K i ["KeyError", "IndexError", "TypeError"] false && kA K i ["ArithmeticError", "RuntimeError", "AttributeError"] false))))))
def zB (K : PySem.W.Frag) (i : Nat) : Bool := PySem.W.excIn K (ca K i) He.veBase "ValueError.__new__" && PySem.W.keepIn K (.ref (ca K i))
def leBase : List Value := [.type "LookupError", .type "Exception", .type "BaseException", .type "object"]
def insB (K : PySem.W.Frag) : Bool := EX.inB PP0 "ValueError" "ValueError.__new__" "ValueError.__init__" He.veBase "BadShape" "path" K && (EX.inB PP0 "ValueError" "ValueError.__new__" "ValueError.__init__" He.veBase "BadText" "place" K && (EX.inB PP0 "ValueError" "ValueError.__new__" "ValueError.__init__" He.veBase "BadWish" "number" K && (EX.inB PP0 "ValueError" "ValueError.__new__" "ValueError.__init__" He.veBase "BadGust" "number" K && (EX.inB PP0 "ValueError" "ValueError.__new__" "ValueError.__init__" He.veBase "BadAct" "word" K && (EX.inB PP0 "ValueError" "ValueError.__new__" "ValueError.__init__" He.veBase "BadAsk" "word" K && (EX.inB PP0 "LookupError" "LookupError.__new__" "LookupError.__init__" leBase "UnknownName" "name" K))))))
def own (K : PySem.W.Frag) : Bool := digB K && ((K.lookup sysModules).isSome && ((List.range 11).all (oneB K) && ((zB K 2 && (zB K 3 && (zB K 4 && zB K 9))) && insB K)))
abbrev Rw : PySem.W.OpenRow := PySem.W.OpenLaw.row PySem.Challenge.rw_everygust_k00_errors
abbrev hk : PySem.W.Hook := hookY 5 own facts fns inits
def ob (s : PySem.W.SharedT) : AlY := obY 5 own facts fns inits (HandSHeadRun.getT s)
theorem ob_eq (s : PySem.W.SharedT) : ob s = hk.obs s.abs := obY_eq (HandSHeadRun.getT_eq s)
def loose : List Str := ["GustError", "NameMissing", "BadShape", "BadText", "TooGreat", "Bare", "Unbounded", "BadWish", "BadGust", "BadAct", "BadAsk", "NothingDone", "UnknownName", "_law_source", "_law_pick", "_law_of", "_law_every", "_law_kinds", "_law_bases"]
theorem run (w : World) : HandSHeadRun.RunEqI Rw (PySem.W.view Rw.prog [21]) hk ob 20000 loose w := by
  unfold HandSHeadRun.RunEqI
  kernel_rfl
end K00
end part_K00i
section part_K00j
namespace K00
open L2 PyProof.Rows PySem.Spec PySem DM DMr EX Num
section
variable {P : Program} {w : World} {K : PySem.W.Frag} {mg : Str → Option Value} {base h : Heap}
theorem all11 {p : Nat → Bool} (h : (List.range 11).all p = true) : ∀ i, i < 11 → p i = true := fun i hi => List.all_eq_true.mp h i (List.mem_range.mpr hi)
structure One (K : PySem.W.Frag) (i : Nat) : Prop where
  R : ExcR K (ca K i)
  kk : ∀ j, j < 11 → PySem.W.kitOne K (.ref (ca K i)) (.ref (ca K j)) = some (decide (j = i))
  kG : PySem.W.kitOne K (.ref (ca K i)) (.ref (He.ga K "GustError")) = some (decide (i ≠ 10))
  kM : PySem.W.kitOne K (.ref (ca K i)) (.ref (He.ga K "NameMissing")) = some (decide (i = 10))
  kV : PySem.W.kitOne K (.ref (ca K i)) (.type "ValueError") = some (decide (i ≠ 10))
  kL : PySem.W.kitOne K (.ref (ca K i)) (.type "LookupError") = some (decide (i = 10))
  k3 : PySem.W.kitAny K (.ref (ca K i)) (["KeyError", "IndexError", "TypeError"].map Value.type) = some false
  k4 : PySem.W.kitAny K (.ref (ca K i)) (["ArithmeticError", "RuntimeError", "AttributeError"].map Value.type) = some false
theorem one_ok {i : Nat} (h : oneB K i = true) : One K i := by
  obtain ⟨h1, h⟩ := He.ba h
  obtain ⟨h2, h⟩ := He.ba h
  obtain ⟨h3, h⟩ := He.ba h
  obtain ⟨h4, h⟩ := He.ba h
  obtain ⟨h5, h⟩ := He.ba h
  obtain ⟨h6, h⟩ := He.ba h
  obtain ⟨h7, h8⟩ := He.ba h
  exact ⟨excRB_ok h1, fun j hj => of_decide_eq_true (all11 h2 j hj), of_decide_eq_true h3, of_decide_eq_true h4, of_decide_eq_true h5, of_decide_eq_true h6, of_decide_eq_true h7, of_decide_eq_true h8⟩
theorem gd_of (X : K.In h) (G : h.Ns mainGlobals mg) (o : own K = true) (cy : obsY own facts fns inits K = valY fns inits) : Gd K mg ∧ Xg PP0 K mg := by
  have c := saysY_d cy
  obtain ⟨o1, o⟩ := He.ba o
  obtain ⟨o2, o⟩ := He.ba o
  obtain ⟨o3, o⟩ := He.ba o
  obtain ⟨oz, oi⟩ := He.ba o
  obtain ⟨z2, oz⟩ := He.ba oz
  obtain ⟨z3, oz⟩ := He.ba oz
  obtain ⟨z4, z9⟩ := He.ba oz
  obtain ⟨z2a, z2b⟩ := He.ba z2
  obtain ⟨z3a, z3b⟩ := He.ba z3
  obtain ⟨z4a, z4b⟩ := He.ba z4
  obtain ⟨z9a, z9b⟩ := He.ba z9
  obtain ⟨i0, oi⟩ := He.ba oi
  obtain ⟨i1, oi⟩ := He.ba oi
  obtain ⟨i5, oi⟩ := He.ba oi
  obtain ⟨i6, oi⟩ := He.ba oi
  obtain ⟨i7, oi⟩ := He.ba oi
  obtain ⟨i8, oi⟩ := He.ba oi
  have i10 := oi
  obtain ⟨x0, n0⟩ := inB_ok PySem.F.excBase_ValueError PySem.W.kxs_ValueError PySem.F.store_ValueError i0 (saysY_i cy 0)
  obtain ⟨x1, n1⟩ := inB_ok PySem.F.excBase_ValueError PySem.W.kxs_ValueError PySem.F.store_ValueError i1 (saysY_i cy 1)
  obtain ⟨x5, n5⟩ := inB_ok PySem.F.excBase_ValueError PySem.W.kxs_ValueError PySem.F.store_ValueError i5 (saysY_i cy 2)
  obtain ⟨x6, n6⟩ := inB_ok PySem.F.excBase_ValueError PySem.W.kxs_ValueError PySem.F.store_ValueError i6 (saysY_i cy 3)
  obtain ⟨x7, n7⟩ := inB_ok PySem.F.excBase_ValueError PySem.W.kxs_ValueError PySem.F.store_ValueError i7 (saysY_i cy 4)
  obtain ⟨x8, n8⟩ := inB_ok PySem.F.excBase_ValueError PySem.W.kxs_ValueError PySem.F.store_ValueError i8 (saysY_i cy 5)
  obtain ⟨x10, n10⟩ := inB_ok PySem.F.excBase_LookupError PySem.W.kxs_LookupError PySem.F.store_LookupError i10 (saysY_i cy 6)
  have one : ∀ i, i < 11 → One K i := fun i hi => one_ok (all11 o3 i hi)
  refine ⟨⟨o2, He.eqO_ok o1, free_of X G c 20, free_of X G c 21, free_of X G c 22, free_of X G c 23, free_of X G c 24, free_of X G c 25, free_of X G c 26⟩, ?_⟩
  exact {
    top := by decide +kernel
    isi := free_of X G c 27
    sup := free_of X G c 28
    tup := free_of X G c 29
    fValueError := free_of X G c 30
    fLookupError := free_of X G c 31
    fKeyError := free_of X G c 32
    fIndexError := free_of X G c 33
    fTypeError := free_of X G c 34
    fArithmeticError := free_of X G c 35
    fRuntimeError := free_of X G c 36
    fAttributeError := free_of X G c 37
    g0 := He.glo_ok X G (c.fact 7 (f := .glo "BadShape") rfl)
    g1 := He.glo_ok X G (c.fact 8 (f := .glo "BadText") rfl)
    g2 := He.glo_ok X G (c.fact 9 (f := .glo "TooGreat") rfl)
    g3 := He.glo_ok X G (c.fact 10 (f := .glo "Bare") rfl)
    g4 := He.glo_ok X G (c.fact 11 (f := .glo "Unbounded") rfl)
    g5 := He.glo_ok X G (c.fact 12 (f := .glo "BadWish") rfl)
    g6 := He.glo_ok X G (c.fact 13 (f := .glo "BadGust") rfl)
    g7 := He.glo_ok X G (c.fact 14 (f := .glo "BadAct") rfl)
    g8 := He.glo_ok X G (c.fact 15 (f := .glo "BadAsk") rfl)
    g9 := He.glo_ok X G (c.fact 16 (f := .glo "NothingDone") rfl)
    g10 := He.glo_ok X G (c.fact 17 (f := .glo "UnknownName") rfl)
    gG := He.glo_ok X G (c.fact 18 (f := .glo "GustError") rfl)
    gM := He.glo_ok X G (c.fact 19 (f := .glo "NameMissing") rfl)
    R := fun i hi => (one i hi).R
    kk := fun i hi => (one i hi).kk
    kG := fun i hi => (one i hi).kG
    kM := fun i hi => (one i hi).kM
    kV := fun i hi => (one i hi).kV
    kL := fun i hi => (one i hi).kL
    k3 := fun i hi => (one i hi).k3
    k4 := fun i hi => (one i hi).k4
    x0 := x0
    n0 := n0
    x1 := x1
    n1 := n1
    x5 := x5
    n5 := n5
    x6 := x6
    n6 := n6
    x7 := x7
    n7 := n7
    x8 := x8
    n8 := n8
    x10 := x10
    n10 := n10
    z2 := z2a
    q2 := z2b
    z3 := z3a
    q3 := z3b
    z4 := z4a
    q4 := z4b
    z9 := z9a
    q9 := z9b
  }
theorem law_of (X : K.In h) (G : h.Ns mainGlobals mg) (o : own K = true) (cy : obsY own facts fns inits K = valY fns inits) {fd : FuncData} (F : FunD K "law" "law" (defArgs sLaw) (defBody sLaw) (defScope sLaw) [] [] (He.fAd K ("law", none)) fd) : FnG PP0 w K mg base L2.CX0 3 (He.fAd K ("law", none)) fd ["script"] (spL K) := by
  obtain ⟨g, xg⟩ := gd_of X G o cy
  have c := saysY_d cy
  have p : ∀ {x : Str} {st : Stmt} (i j : Nat), fns[i]? = some (defD x st) → facts[j]? = some (He.Fa.glo x) → DM.Put K mg x st := fun i j a b => put_of X G c i j a b
  have pk : DPick PP0 w K mg base := ok_pick (p 1 1 rfl rfl) g.len g.max g.int
  exact ok_law F g xg (ok_source (p 0 0 rfl rfl) g.int g.abs) pk (ok_of (p 2 2 rfl rfl) pk g.len) (ok_every (p 3 3 rfl rfl) xg) (ok_kinds (p 4 4 rfl rfl) xg) (ok_bases (p 5 5 rfl rfl) xg)
theorem noT0 {H : Hp} : noT K H = H := by
  funext a
  exact noT_of (by intro z; cases z)
end
end K00
open PySem PySem.W PySem.Calls PyProof.Rows
theorem PySem.Challenge.cw_everygust_k00_errors_holds : PySem.Challenge.rw_everygust_k00_errors.Holds := by
  w_on; o_law
  refine HandSHeadRun.head_imp (r := K00.Rw) (q := view K00.Rw.prog [21]) (H := K00.hk) (ob := K00.ob) (M := 20000) (loose := K00.loose) (d := HandSHeadRun.topDef K00.Rw.prog 21) (kwd := []) K00.ob_eq
    K00.run (by kernel_rfl) (by kernel_rfl) (by kernel_rfl) (by rfl) (by first | assumption | decide +kernel) (by decide +kernel) ⟨rfl, rfl, rfl, rfl, rfl, by decide +kernel⟩ ?hw ?hc
  case hw => w_witness2
  case hc =>
    refine DM.walkG (l := PySem.Challenge.rw_everygust_k00_errors) (n := 63) (k := 3) (x := "script") rfl (by decide) (by kernel_rfl) ⟨rfl, by decide, by decide⟩ ?F
    intro w mg fa h Y G hmg0
    obtain ⟨K, KX, c⟩ := Y
    have hmg : mg ("law" : PySem.Str) = some (.ref fa) := by
      have e : (HandSHeadRun.topDef K00.Rw.prog 21).name = ("law" : PySem.Str) := by kernel_rfl
      rw [← e]
      exact hmg0
    obtain ⟨fd, F⟩ := (EX.saysY_d c).def_ 6 (d := EX.defD "law" K00.sLaw) rfl
    have hf := He.glo_ok KX G ((EX.saysY_d c).fact 6 (f := .glo "law") rfl)
    have e := hmg.symm.trans hf
    cases e
    have b := L2.FunD.bindsA (ps := ["script"]) F (fun _ _ _ _ _ _ us hl => match us, hl with | [_], _ => rfl)
    exact ⟨K, fd, DM.spL K, KX, fun s u => b s [u] rfl, fun H a ns hl hS => ⟨a, ns, rfl, fun p hp => (nomatch hp), by rw [K00.noT0]; exact hS, hl, fun _ => rfl⟩, fun base _ _ => K00.law_of KX G (EX.saysY_own c) c F⟩
end part_K00j
