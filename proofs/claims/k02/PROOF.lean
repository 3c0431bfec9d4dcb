import PyProof.Rows.All
import Wide.All
import OpenK.AllK
import Wide.FinOn
import HandS.ForMost
import HandS.Wide
import HandS.Style
import HandS.Zip
import HandS.IsInst
import PySem.Challenge.RW_digtips_k02_plus_and_minus
set_option Elab.async false
set_option linter.all false
set_option maxRecDepth 100000
set_option maxHeartbeats 4000000
namespace DL
open PySem PySem.Spec PyProof.Rows L2

/-! ## data, without addresses -/
inductive D where
  | non | bl (b : Bool) | int (i : Int) | str (x : Str) | tup (ds : List D) | lst (ds : List D)
  | ins (C : Addr) (ns : List Str) (ds : List D) | scr (ns : List Int)

mutual
def D.flat : D → Bool
  | .non => true
  | .bl _ => true
  | .int _ => true
  | .str _ => true
  | .tup ds => flatL ds
  | .lst _ => false
  | .ins _ _ _ => false
  | .scr _ => false
def flatL : List D → Bool
  | [] => true
  | d :: ds => d.flat && flatL ds
end

/-- a list of the written part -/
def KLst (K : PySem.W.Frag) (a : Addr) (xs : List V) : Prop := ∃ (o : Obj) (its : Array Value) (n : Nat), K.lookup a = some o ∧ o.cls = .type "list" ∧ o.dict = none ∧ o.data = .seq its n ∧ its.size ≤ sizeLine ∧ Vals xs its.toList
mutual
def Rep (K : PySem.W.Frag) (H : Hp) (G : Addr → Prop) : D → V → Prop
  | .non, v => v = .non
  | .bl b, v => v = .bl b
  | .int i, v => v = .int i
  | .str x, v => v = .str x
  | .tup ds, v => ∃ a xs, v = .ref a ∧ SqT K H a xs ∧ RepL K H G ds xs
  | .lst ds, v => ∃ a xs, v = .ref a ∧ H a = some (.lst xs) ∧ G a ∧ RepL K H G ds xs
  | .ins C ns ds, v => ∃ a dx xs, v = .ref a ∧ H a = some (.ins C dx (ns.zip xs)) ∧ G a ∧ ns.length = ds.length ∧ RepL K H G ds xs
  | .scr ns, v => ∃ a, v = .ref a ∧ ((Rd H a (.lst (ns.map V.int)) ∧ G a) ∨ KLst K a (ns.map V.int))
def RepL (K : PySem.W.Frag) (H : Hp) (G : Addr → Prop) : List D → List V → Prop
  | [], xs => xs = []
  | d :: ds, xs => ∃ y ys, xs = y :: ys ∧ Rep K H G d y ∧ RepL K H G ds ys
end

abbrev GT : Addr → Prop := fun _ => True

/-- what stays: everything in G, the tuples -/
structure Stab (G : Addr → Prop) (H H' : Hp) : Prop where
  mt : ∀ a o, G a → H a = some o → H' a = some o
  tp : ∀ a xs, Rd H a (.tup xs) → Rd H' a (.tup xs)
theorem rd_same {H H' : Hp} (s : Same H H') {a : Addr} {u : HO} (h : Rd H a u) : Rd H' a u := by
  rcases h with h | ⟨o, h⟩
  · exact .inl (s _ _ h)
  · exact .inr ⟨o, s _ _ h⟩
theorem Stab.of {G : Addr → Prop} {H H' : Hp} (s : Same H H') : Stab G H H' := ⟨fun a o _ h => s a o h, fun a xs h => rd_same s h⟩
theorem Stab.refl {G : Addr → Prop} {H : Hp} : Stab G H H := .of (Same.refl H)
theorem Stab.trans {G G' : Addr → Prop} {H H1 H2 : Hp} (a : Stab G H H1) (b : Stab G' H1 H2) (g : ∀ x, G x → G' x) : Stab G H H2 :=
  ⟨fun x o gx h => b.mt x o (g x gx) (a.mt x o gx h), fun x xs h => b.tp x xs (a.tp x xs h)⟩
theorem Stab.sqt {K : PySem.W.Frag} {G : Addr → Prop} {H H' : Hp} (s : Stab G H H') {a : Addr} {xs : List V} (h : SqT K H a xs) : SqT K H' a xs := by
  rcases h with h | h
  · exact .inl (s.tp _ _ h)
  · exact .inr h
theorem Stab.rd {G : Addr → Prop} {H H' : Hp} (s : Stab G H H') {a : Addr} (g : G a) {u : HO} (h : Rd H a u) : Rd H' a u := by
  rcases h with h | ⟨o, h⟩
  · exact .inl (s.mt _ _ g h)
  · exact .inr ⟨o, s.mt _ _ g h⟩

section
variable {K : PySem.W.Frag} {H H' : Hp} {G G' : Addr → Prop}
mutual
theorem Rep.stab (s : Stab G H H') (g : ∀ a, G a → G' a) : ∀ (d : D) (v : V), Rep K H G d v → Rep K H' G' d v
  | .non, _, h => h
  | .bl _, _, h => h
  | .int _, _, h => h
  | .str _, _, h => h
  | .tup ds, _, ⟨a, xs, e, h1, h2⟩ => ⟨a, xs, e, s.sqt h1, RepL.stab s g ds xs h2⟩
  | .lst ds, _, ⟨a, xs, e, h1, g1, h2⟩ => ⟨a, xs, e, s.mt _ _ g1 h1, g _ g1, RepL.stab s g ds xs h2⟩
  | .ins C ns ds, _, ⟨a, dx, xs, e, h1, g1, l, h2⟩ => ⟨a, dx, xs, e, s.mt _ _ g1 h1, g _ g1, l, RepL.stab s g ds xs h2⟩
  | .scr ns, _, ⟨a, e, h1⟩ => ⟨a, e, h1.elim (fun q => .inl ⟨s.rd q.2 q.1, g _ q.2⟩) .inr⟩
theorem RepL.stab (s : Stab G H H') (g : ∀ a, G a → G' a) : ∀ (ds : List D) (xs : List V), RepL K H G ds xs → RepL K H' G' ds xs
  | [], _, h => h
  | d :: ds, _, ⟨y, ys, e, h1, h2⟩ => ⟨y, ys, e, Rep.stab s g d y h1, RepL.stab s g ds ys h2⟩
end
mutual
theorem Rep.ofFlat (s : ∀ a xs, SqT K H a xs → SqT K H' a xs) : ∀ (d : D) (v : V), d.flat = true → Rep K H G d v → Rep K H' G' d v
  | .non, _, _, h => h
  | .bl _, _, _, h => h
  | .int _, _, _, h => h
  | .str _, _, _, h => h
  | .tup ds, _, f, ⟨a, xs, e, h1, h2⟩ => ⟨a, xs, e, s _ _ h1, RepL.ofFlat s ds xs f h2⟩
  | .lst ds, _, f, _ => nomatch f
  | .ins C ns ds, _, f, _ => nomatch f
  | .scr ns, _, f, _ => nomatch f
theorem RepL.ofFlat (s : ∀ a xs, SqT K H a xs → SqT K H' a xs) : ∀ (ds : List D) (xs : List V), flatL ds = true → RepL K H G ds xs → RepL K H' G' ds xs
  | [], _, _, h => h
  | d :: ds, _, f, ⟨y, ys, e, h1, h2⟩ =>
    have f' : d.flat = true ∧ flatL ds = true := by
      have q : (d.flat && flatL ds) = true := f
      rw [Bool.and_eq_true] at q
      exact q
    ⟨y, ys, e, Rep.ofFlat s d y f'.1 h1, RepL.ofFlat s ds ys f'.2 h2⟩
end
mutual
theorem Rep.trk : ∀ (d : D) (v : V), Rep K H G d v → Rep K H (fun a => G a ∧ H a ≠ none) d v
  | .non, _, h => h
  | .bl _, _, h => h
  | .int _, _, h => h
  | .str _, _, h => h
  | .tup ds, _, ⟨a, xs, e, h1, h2⟩ => ⟨a, xs, e, h1, RepL.trk ds xs h2⟩
  | .lst ds, _, ⟨a, xs, e, h1, g1, h2⟩ => ⟨a, xs, e, h1, ⟨g1, by rw [h1]; exact fun z => nomatch z⟩, RepL.trk ds xs h2⟩
  | .ins C ns ds, _, ⟨a, dx, xs, e, h1, g1, l, h2⟩ => ⟨a, dx, xs, e, h1, ⟨g1, by rw [h1]; exact fun z => nomatch z⟩, l, RepL.trk ds xs h2⟩
  | .scr ns, _, ⟨a, e, h1⟩ => ⟨a, e, h1.elim (fun q => .inl ⟨q.1, q.2, by
      rcases q.1 with h | ⟨o, h⟩ <;> (rw [h]; exact fun z => nomatch z)⟩) .inr⟩
theorem RepL.trk : ∀ (ds : List D) (xs : List V), RepL K H G ds xs → RepL K H (fun a => G a ∧ H a ≠ none) ds xs
  | [], _, h => h
  | d :: ds, _, ⟨y, ys, e, h1, h2⟩ => ⟨y, ys, e, Rep.trk d y h1, RepL.trk ds ys h2⟩
end
theorem Rep.mono (g : ∀ a, G a → G' a) {d : D} {v : V} (h : Rep K H G d v) : Rep K H G' d v := Rep.stab .refl g d v h
theorem RepL.mono (g : ∀ a, G a → G' a) {ds : List D} {xs : List V} (h : RepL K H G ds xs) : RepL K H G' ds xs := RepL.stab .refl g ds xs h
theorem Rep.same (s : Same H H') {d : D} {v : V} (h : Rep K H G d v) : Rep K H' G d v := Rep.stab (.of s) (fun _ x => x) d v h
theorem RepL.same (s : Same H H') {ds : List D} {xs : List V} (h : RepL K H G ds xs) : RepL K H' G ds xs := RepL.stab (.of s) (fun _ x => x) ds xs h
theorem RepL.length : ∀ {ds : List D} {xs : List V}, RepL K H G ds xs → ds.length = xs.length
  | [], _, h => by rw [show _ = ([] : List V) from h]; rfl
  | d :: ds, _, ⟨y, ys, e, _, h2⟩ => by rw [e, List.length_cons, List.length_cons, RepL.length h2]
theorem RepL.get : ∀ {ds : List D} {xs : List V} {i : Nat} {d : D}, RepL K H G ds xs → ds[i]? = some d → ∃ v, xs[i]? = some v ∧ Rep K H G d v
  | [], _, _, _, _, e => by simp at e
  | d :: ds, _, 0, _, ⟨y, ys, e, h1, h2⟩, q => by subst e; simp at q; subst q; exact ⟨y, rfl, h1⟩
  | d :: ds, _, i + 1, _, ⟨y, ys, e, h1, h2⟩, q => by
    subst e
    obtain ⟨v, a, b⟩ := RepL.get (i := i) h2 (by simpa using q)
    exact ⟨v, by simpa using a, b⟩
theorem RepL.getV : ∀ {ds : List D} {xs : List V} {i : Nat} {v : V}, RepL K H G ds xs → xs[i]? = some v → ∃ d, ds[i]? = some d ∧ Rep K H G d v
  | [], _, _, _, h, e => by rw [show _ = ([] : List V) from h] at e; simp at e
  | d :: ds, _, 0, _, ⟨y, ys, e, h1, h2⟩, q => by subst e; simp at q; subst q; exact ⟨d, rfl, h1⟩
  | d :: ds, _, i + 1, _, ⟨y, ys, e, h1, h2⟩, q => by
    subst e
    obtain ⟨v, a, b⟩ := RepL.getV (i := i) h2 (by simpa using q)
    exact ⟨v, by simpa using a, b⟩
theorem RepL.append : ∀ {ds es : List D} {xs ys : List V}, RepL K H G ds xs → RepL K H G es ys → RepL K H G (ds ++ es) (xs ++ ys)
  | [], _, _, _, h, q => by rw [show _ = ([] : List V) from h]; exact q
  | d :: ds, _, _, _, ⟨y, ys, e, h1, h2⟩, q => by subst e; exact ⟨y, _, rfl, h1, RepL.append h2 q⟩
theorem RepL.one {d : D} {v : V} (h : Rep K H G d v) : RepL K H G [d] [v] := ⟨v, [], rfl, h, rfl⟩
theorem RepL.take : ∀ {ds : List D} {xs : List V} (n : Nat), RepL K H G ds xs → RepL K H G (ds.take n) (xs.take n)
  | _, _, 0, _ => rfl
  | [], _, n + 1, h => by rw [show _ = ([] : List V) from h]; exact rfl
  | d :: ds, _, n + 1, ⟨y, ys, e, h1, h2⟩ => by subst e; exact ⟨y, _, rfl, h1, RepL.take n h2⟩
theorem RepL.drop : ∀ {ds : List D} {xs : List V} (n : Nat), RepL K H G ds xs → RepL K H G (ds.drop n) (xs.drop n)
  | _, _, 0, h => h
  | [], _, n + 1, h => by rw [show _ = ([] : List V) from h]; exact rfl
  | d :: ds, _, n + 1, ⟨y, ys, e, h1, h2⟩ => by subst e; exact RepL.drop n h2
theorem RepL.reverse : ∀ {ds : List D} {xs : List V}, RepL K H G ds xs → RepL K H G ds.reverse xs.reverse
  | [], _, h => by rw [show _ = ([] : List V) from h]; exact rfl
  | d :: ds, _, ⟨y, ys, e, h1, h2⟩ => by
    subst e
    rw [List.reverse_cons, List.reverse_cons]
    exact RepL.append (RepL.reverse h2) (RepL.one h1)
theorem RepL.set : ∀ {ds : List D} {xs : List V} (i : Nat) {d : D} {v : V}, RepL K H G ds xs → Rep K H G d v → RepL K H G (ds.set i d) (xs.set i v)
  | [], _, _, _, _, h, _ => by rw [show _ = ([] : List V) from h]; exact rfl
  | d :: ds, _, 0, _, _, ⟨y, ys, e, h1, h2⟩, q => by subst e; exact ⟨_, _, rfl, q, h2⟩
  | d :: ds, _, i + 1, _, _, ⟨y, ys, e, h1, h2⟩, q => by subst e; exact ⟨_, _, rfl, h1, RepL.set i h2 q⟩
theorem RepL.ints : ∀ {ns : List Int} {xs : List V}, RepL K H G (ns.map D.int) xs → xs = ns.map V.int
  | [], _, h => h
  | n :: ns, _, ⟨y, ys, e, h1, h2⟩ => by rw [e, show y = V.int n from h1, RepL.ints h2]; rfl
theorem RepL.rep {ds : List D} {xs : List V} (h : RepL K H G ds xs) : ∀ k : Nat, RepL K H G (List.replicate k ds).flatten (List.replicate k xs).flatten
  | 0 => rfl
  | k + 1 => by
    rw [List.replicate_succ, List.replicate_succ, List.flatten_cons, List.flatten_cons]
    exact RepL.append h (RepL.rep h k)
end

theorem flatL_append : ∀ (a b : List D), flatL (a ++ b) = (flatL a && flatL b)
  | [], _ => by simp [flatL]
  | d :: a, b => by
    show (d.flat && flatL (a ++ b)) = ((d.flat && flatL a) && flatL b)
    rw [flatL_append a b, Bool.and_assoc]
theorem flatL_all : ∀ (a : List D), flatL a = a.all D.flat
  | [] => rfl
  | d :: a => by
    show (d.flat && flatL a) = _
    rw [flatL_all a]; rfl
@[simp] theorem flatL_ints (ns : List Int) : flatL (ns.map D.int) = true := by
  rw [flatL_all, List.all_map]
  exact List.all_eq_true.mpr fun _ _ => rfl
theorem flatL_map {α : Type} (l : List α) (f : α → D) (h : ∀ x, (f x).flat = true) : flatL (l.map f) = true := by
  rw [flatL_all, List.all_map]
  exact List.all_eq_true.mpr fun x _ => h x

/-! ## modes -/
inductive Md | any | safe | fresh | own
abbrev New (H : Hp) : Addr → Prop := fun a => H a = none
def Vr (K : PySem.W.Frag) (m : Md) (F : Addr → Prop) (H H' : Hp) (x : D) (v : V) : Prop :=
  match m with
  | .any => Rep K H' GT x v
  | .safe => Rep K H' (fun a => F a ∨ H a = none) x v
  | .fresh => Rep K H' (New H) x v
  | .own => ∃ ds p xs, x = .lst ds ∧ v = .ref p ∧ H p = none ∧ H' p = some (.lst xs) ∧ RepL K H' (fun a => F a ∨ (H a = none ∧ a ≠ p)) ds xs
def gOf (m : Md) (F : Addr → Prop) (H : Hp) : Addr → Prop :=
  match m with
  | .any => GT
  | .safe => fun a => F a ∨ H a = none
  | .fresh => New H
  | .own => fun a => F a ∨ H a = none
section
variable {K : PySem.W.Frag} {m : Md} {F F' : Addr → Prop} {H H1 H2 H' : Hp} {x : D} {v : V}
theorem Vr.any (h : Vr K m F H H' x v) : Rep K H' GT x v := by
  cases m with
  | any => exact h
  | safe => exact Rep.mono (fun _ _ => trivial) (show Rep K H' _ x v from h)
  | fresh => exact Rep.mono (fun _ _ => trivial) (show Rep K H' _ x v from h)
  | own =>
    obtain ⟨ds, p, xs, rfl, rfl, _, h2, h3⟩ := h
    exact ⟨p, xs, rfl, h2, trivial, RepL.mono (fun _ _ => trivial) h3⟩
theorem Vr.g (h : Vr K m F H H' x v) : Rep K H' (gOf m F H) x v := by
  cases m with
  | any => exact h
  | safe => exact h
  | fresh => exact h
  | own =>
    obtain ⟨ds, p, xs, rfl, rfl, h1, h2, h3⟩ := h
    exact ⟨p, xs, rfl, h2, .inr h1, RepL.mono (fun _ q => q.elim .inl fun z => .inr z.1) h3⟩
theorem Vr.safe (h : Vr K m F H H' x v) (hm : m ≠ .any) : Vr K .safe F H H' x v := by
  cases m with
  | any => exact absurd rfl hm
  | safe => exact h
  | fresh => exact Rep.mono (fun _ q => .inr q) (show Rep K H' _ x v from h)
  | own => exact h.g
theorem Vr.later (h : Vr K m F H H1 x v) (s : Same H1 H2) : Vr K m F H H2 x v := by
  cases m with
  | any => exact Rep.same s (show Rep K H1 _ x v from h)
  | safe => exact Rep.same s (show Rep K H1 _ x v from h)
  | fresh => exact Rep.same s (show Rep K H1 _ x v from h)
  | own =>
    obtain ⟨ds, p, xs, rfl, rfl, h1, h2, h3⟩ := h
    exact ⟨ds, p, xs, rfl, rfl, h1, s _ _ h2, RepL.same s h3⟩
theorem Vr.sooner (h : Vr K m F H1 H2 x v) (s : Same H H1) : Vr K m F H H2 x v := by
  cases m with
  | any => exact h
  | safe => exact Rep.mono (fun _ q => q.elim .inl fun z => .inr (s.free z)) (show Rep K H2 _ x v from h)
  | fresh => exact Rep.mono (fun _ q => s.free q) (show Rep K H2 _ x v from h)
  | own =>
    obtain ⟨ds, p, xs, rfl, rfl, h1, h2, h3⟩ := h
    exact ⟨ds, p, xs, rfl, rfl, s.free h1, h2, RepL.mono (fun _ q => q.elim .inl fun z => .inr ⟨s.free z.1, z.2⟩) h3⟩
theorem Vr.flat (h : Rep K H' GT x v) (f : x.flat = true) : Vr K .fresh F H H' x v := Rep.ofFlat (fun _ _ z => z) x v f h
end

/-! ## slots -/
inductive SD where
  | no | fz (d : D) | ow (ds : List D)
structure SRel (K : PySem.W.Frag) (F : Addr → Prop) (H : Hp) (σ : L2.St) (ρ : List SD) : Prop where
  len : σ.length = ρ.length
  fz : ∀ (i : Nat) d, ρ[i]? = some (.fz d) → ∃ v, σ[i]? = some (some v) ∧ Rep K H F d v
  ow : ∀ (i : Nat) ds, ρ[i]? = some (.ow ds) → ∃ p xs, σ[i]? = some (some (V.ref p)) ∧ H p = some (.lst xs) ∧ RepL K H F ds xs ∧ ¬ F p
  ap : ∀ (i j : Nat) ds es p, i ≠ j → ρ[i]? = some (.ow ds) → ρ[j]? = some (.ow es) → σ[i]? = some (some (V.ref p)) → σ[j]? = some (some (V.ref p)) → False
  sub : ∀ a, F a → H a ≠ none
structure Ext (F : Addr → Prop) (H : Hp) (F' : Addr → Prop) (H' : Hp) : Prop where
  f : ∀ a, F a → F' a
  s : Stab F H H'
theorem Ext.refl {F : Addr → Prop} {H : Hp} : Ext F H F H := ⟨fun _ x => x, .refl⟩
theorem Ext.trans {F F1 F2 : Addr → Prop} {H H1 H2 : Hp} (a : Ext F H F1 H1) (b : Ext F1 H1 F2 H2) : Ext F H F2 H2 := ⟨fun x q => b.f x (a.f x q), a.s.trans b.s a.f⟩
section
variable {K : PySem.W.Frag} {F F' : Addr → Prop} {H H' : Hp} {σ : L2.St} {ρ : List SD}
/-- the heap has grown, what may be relied on too -/
theorem SRel.grow (R : SRel K F H σ ρ) (s : Same H H') (f : ∀ a, F a → F' a) (b : ∀ a, F' a → F a ∨ (H a = none ∧ H' a ≠ none)) : SRel K F' H' σ ρ where
  len := R.len
  fz := fun i d e => let ⟨v, h1, h2⟩ := R.fz i d e; ⟨v, h1, Rep.stab (.of s) f d v h2⟩
  ow := fun i ds e => by
    obtain ⟨p, xs, h1, h2, h3, h4⟩ := R.ow i ds e
    refine ⟨p, xs, h1, s _ _ h2, RepL.stab (.of s) f ds xs h3, fun z => ?_⟩
    rcases b p z with q | ⟨q, _⟩
    · exact h4 q
    · rw [h2] at q; cases q
  ap := R.ap
  sub := fun a z => by
    rcases b a z with q | ⟨_, q⟩
    · exact fun e => R.sub a q (s.free e)
    · exact q
theorem SRel.same (R : SRel K F H σ ρ) (s : Same H H') : SRel K F H' σ ρ := R.grow s (fun _ x => x) fun _ x => .inl x
theorem SRel.set_fz (R : SRel K F H σ ρ) (i : Nat) {d : D} {v : V} (h : Rep K H F d v) : SRel K F H (σ.set i (some v)) (ρ.set i (.fz d)) where
  len := by rw [List.length_set, List.length_set, R.len]
  fz := fun j e q => by
    by_cases hj : i = j
    · subst hj
      have hl : i < ρ.length := by
        have := (List.getElem?_eq_some_iff.mp q).1
        rwa [List.length_set] at this
      rw [List.getElem?_set_self hl] at q
      cases q
      exact ⟨v, List.getElem?_set_self (by rw [R.len]; exact hl), h⟩
    · rw [List.getElem?_set_ne hj] at q ⊢
      exact R.fz j e q
  ow := fun j e q => by
    by_cases hj : i = j
    · subst hj
      have hl : i < ρ.length := by
        have := (List.getElem?_eq_some_iff.mp q).1
        rwa [List.length_set] at this
      rw [List.getElem?_set_self hl] at q
      cases q
    · rw [List.getElem?_set_ne hj] at q ⊢
      exact R.ow j e q
  ap := fun j k ds es p n q1 q2 => by
    have nj : ∀ (j : Nat) ds, (ρ.set i (SD.fz d))[j]? = some (SD.ow ds) → i ≠ j := fun j ds q e => by
      subst e
      have hl : i < ρ.length := by
        have := (List.getElem?_eq_some_iff.mp q).1
        rwa [List.length_set] at this
      rw [List.getElem?_set_self hl] at q
      cases q
    have n1 := nj _ _ q1
    have n2 := nj _ _ q2
    rw [List.getElem?_set_ne n1] at q1 ⊢
    rw [List.getElem?_set_ne n2] at q2 ⊢
    exact R.ap j k ds es p n q1 q2
  sub := R.sub
theorem SRel.set_ow (R : SRel K F H σ ρ) (i : Nat) {ds : List D} {p : Addr} {xs : List V} (h1 : H p = some (.lst xs)) (h2 : RepL K H F ds xs) (h3 : ¬ F p)
    (h4 : ∀ (j : Nat) es, i ≠ j → ρ[j]? = some (.ow es) → σ[j]? ≠ some (some (V.ref p))) : SRel K F H (σ.set i (some (V.ref p))) (ρ.set i (.ow ds)) where
  len := by rw [List.length_set, List.length_set, R.len]
  fz := fun j e q => by
    by_cases hj : i = j
    · subst hj
      have hl : i < ρ.length := by
        have := (List.getElem?_eq_some_iff.mp q).1
        rwa [List.length_set] at this
      rw [List.getElem?_set_self hl] at q
      cases q
    · rw [List.getElem?_set_ne hj] at q ⊢
      exact R.fz j e q
  ow := fun j e q => by
    by_cases hj : i = j
    · subst hj
      have hl : i < ρ.length := by
        have := (List.getElem?_eq_some_iff.mp q).1
        rwa [List.length_set] at this
      rw [List.getElem?_set_self hl] at q
      cases q
      exact ⟨p, xs, List.getElem?_set_self (by rw [R.len]; exact hl), h1, h2, h3⟩
    · rw [List.getElem?_set_ne hj] at q ⊢
      exact R.ow j e q
  ap := fun j k ds' es p' n q1 q2 r1 r2 => by
    by_cases hj : i = j
    · subst hj
      have hl : i < ρ.length := by
        have := (List.getElem?_eq_some_iff.mp q1).1
        rwa [List.length_set] at this
      rw [List.getElem?_set_self (by rw [R.len]; exact hl)] at r1
      cases r1
      rw [List.getElem?_set_ne n] at q2 r2
      exact h4 k es n q2 r2
    · by_cases hk : i = k
      · subst hk
        have hl : i < ρ.length := by
          have := (List.getElem?_eq_some_iff.mp q2).1
          rwa [List.length_set] at this
        rw [List.getElem?_set_self (by rw [R.len]; exact hl)] at r2
        cases r2
        rw [List.getElem?_set_ne hj] at q1 r1
        exact h4 j ds' hj q1 r1
      · rw [List.getElem?_set_ne hj] at q1 r1
        rw [List.getElem?_set_ne hk] at q2 r2
        exact R.ap j k ds' es p' n q1 q2 r1 r2
  sub := R.sub
theorem SRel.forget (R : SRel K F H σ ρ) (i : Nat) (o : Option V) : SRel K F H (σ.set i o) (ρ.set i .no) where
  len := by rw [List.length_set, List.length_set, R.len]
  fz := fun j e q => by
    by_cases hj : i = j
    · subst hj
      have hl : i < ρ.length := by
        have := (List.getElem?_eq_some_iff.mp q).1
        rwa [List.length_set] at this
      rw [List.getElem?_set_self hl] at q
      cases q
    · rw [List.getElem?_set_ne hj] at q ⊢
      exact R.fz j e q
  ow := fun j e q => by
    by_cases hj : i = j
    · subst hj
      have hl : i < ρ.length := by
        have := (List.getElem?_eq_some_iff.mp q).1
        rwa [List.length_set] at this
      rw [List.getElem?_set_self hl] at q
      cases q
    · rw [List.getElem?_set_ne hj] at q ⊢
      exact R.ow j e q
  ap := fun j k ds es p n q1 q2 => by
    have nj : ∀ (j : Nat) ds, (ρ.set i SD.no)[j]? = some (SD.ow ds) → i ≠ j := fun j ds q e => by
      subst e
      have hl : i < ρ.length := by
        have := (List.getElem?_eq_some_iff.mp q).1
        rwa [List.length_set] at this
      rw [List.getElem?_set_self hl] at q
      cases q
    have n1 := nj _ _ q1
    have n2 := nj _ _ q2
    rw [List.getElem?_set_ne n1] at q1 ⊢
    rw [List.getElem?_set_ne n2] at q2 ⊢
    exact R.ap j k ds es p n q1 q2
  sub := R.sub
def frz1 : SD → SD
  | .ow ds => .fz (.lst ds)
  | s => s
/-- from here on everything is relied on as it stands -/
theorem SRel.freeze (R : SRel K F H σ ρ) : SRel K (fun a => F a ∨ H a ≠ none) H σ (ρ.map frz1) where
  len := by rw [List.length_map, R.len]
  fz := fun i d e => by
    rw [List.getElem?_map] at e
    cases q : ρ[i]? with
    | none => rw [q] at e; cases e
    | some s =>
      rw [q] at e
      have e : frz1 s = .fz d := Option.some.inj e
      cases s with
      | no => cases e
      | fz d' =>
        cases e
        obtain ⟨v, h1, h2⟩ := R.fz i _ q
        exact ⟨v, h1, Rep.mono (fun _ => .inl) h2⟩
      | ow ds =>
        cases e
        obtain ⟨p, xs, h1, h2, h3, h4⟩ := R.ow i _ q
        exact ⟨.ref p, h1, p, xs, rfl, h2, .inr (by rw [h2]; exact fun z => nomatch z), RepL.mono (fun _ => .inl) h3⟩
  ow := fun i ds e => by
    rw [List.getElem?_map] at e
    cases q : ρ[i]? with
    | none => rw [q] at e; cases e
    | some s =>
      rw [q] at e
      have e : frz1 s = .ow ds := Option.some.inj e
      cases s <;> cases e
  ap := fun i j ds es p n e => by
    rw [List.getElem?_map] at e
    cases q : ρ[i]? with
    | none => rw [q] at e; cases e
    | some s =>
      rw [q] at e
      have e : frz1 s = .ow ds := Option.some.inj e
      cases s <;> cases e
  sub := fun a z => z.elim (R.sub a) fun q => q
/-- one list is not changed from here on -/
theorem SRel.freeze1 (R : SRel K F H σ ρ) {i : Nat} {ds : List D} (hi : ρ[i]? = some (.ow ds)) : ∃ p, H p ≠ none ∧ SRel K (fun a => F a ∨ a = p) H σ (ρ.set i (.fz (.lst ds))) := by
  obtain ⟨p, xs, h1, h2, h3, h4⟩ := R.ow i ds hi
  have hl : i < ρ.length := (List.getElem?_eq_some_iff.mp hi).1
  have hp : H p ≠ none := by rw [h2]; exact fun z => nomatch z
  refine ⟨p, hp, by rw [List.length_set, R.len], fun j e q => ?_, fun j e q => ?_, fun j k ds0 es q n q1 q2 => ?_, fun a z => z.elim (R.sub a) fun e => by rw [e]; exact hp⟩
  · by_cases hj : i = j
    · subst hj
      rw [List.getElem?_set_self hl] at q
      cases q
      exact ⟨.ref p, h1, p, xs, rfl, h2, .inr rfl, RepL.mono (fun _ => .inl) h3⟩
    · rw [List.getElem?_set_ne hj] at q
      obtain ⟨v, a, b⟩ := R.fz j e q
      exact ⟨v, a, Rep.mono (fun _ => .inl) b⟩
  · by_cases hj : i = j
    · subst hj
      rw [List.getElem?_set_self hl] at q
      cases q
    · rw [List.getElem?_set_ne hj] at q
      obtain ⟨p', xs', a, b, c, d⟩ := R.ow j e q
      refine ⟨p', xs', a, b, RepL.mono (fun _ => .inl) c, fun z => ?_⟩
      rcases z with z | z
      · exact d z
      · subst z
        exact R.ap i j ds e p' hj hi q h1 a
  · have nj : ∀ (j : Nat) es, (ρ.set i (SD.fz (.lst ds)))[j]? = some (SD.ow es) → i ≠ j := fun j es q e => by
      subst e
      rw [List.getElem?_set_self hl] at q
      cases q
    have n1 := nj _ _ q1
    have n2 := nj _ _ q2
    rw [List.getElem?_set_ne n1] at q1
    rw [List.getElem?_set_ne n2] at q2
    exact R.ap j k _ es q n q1 q2
end
end DL
namespace DL
open PySem PySem.Spec PyProof.Rows L2

/-! ## readings over data -/
abbrev TDE := List SD → (D → Prop) → Prop
abbrev TDA := List SD → (List D → Prop) → Prop
abbrev TDT := List SD → (Bool → Prop) → Prop
def up (K : PySem.W.Frag) (m : Md) (d : TDE) : TE := fun σ H Q => ∃ F ρ Qd, SRel K F H σ ρ ∧ d ρ Qd ∧ ∀ v H' x, Same H H' → Vr K m F H H' x v → Qd x → Q v H'
def upA (K : PySem.W.Frag) (m : Md) (n : Nat) (d : TDA) : TA := fun σ H Q => ∃ F ρ Qd, SRel K F H σ ρ ∧ d ρ Qd ∧ ∀ vs H' xs, Same H H' → RepL K H' (gOf m F H) xs vs → vs.length = n → Qd xs → Q vs H'
def upT (K : PySem.W.Frag) (d : TDT) : TT := fun σ H Q => ∃ F ρ Qd, SRel K F H σ ρ ∧ d ρ Qd ∧ ∀ b H', Same H H' → Qd b → Q b H'
abbrev DE (X : Cx) (e : Expr) (m : Md) (d : TDE) : Prop := PE X e (up X.K m d)
abbrev DA (X : Cx) (es : List Expr) (m : Md) (n : Nat) (d : TDA) : Prop := PA X es (upA X.K m n d)
abbrev DT (X : Cx) (e : Expr) (d : TDT) : Prop := PT X e (upT X.K d)
abbrev DW (X : Cx) (e : Expr) (d : TDT) : Prop := PW X e (upT X.K d)
theorem PE.imp {X : Cx} {e : Expr} {t t' : TE} (h : PE X e t) (i : ∀ σ H Q, t' σ H Q → t σ H Q) : PE X e t' := ⟨fun pins s σ H Q I q => h.run pins s σ H Q I (i σ H Q q)⟩
theorem PA.imp {X : Cx} {e : List Expr} {t t' : TA} (h : PA X e t) (i : ∀ σ H Q, t' σ H Q → t σ H Q) : PA X e t' := ⟨fun pos pins s σ H Q I q => h.run pos pins s σ H Q I (i σ H Q q)⟩
theorem PT.imp {X : Cx} {e : Expr} {t t' : TT} (h : PT X e t) (i : ∀ σ H Q, t' σ H Q → t σ H Q) : PT X e t' := ⟨fun pins s σ H Q I q => h.run pins s σ H Q I (i σ H Q q)⟩
theorem PW.imp {X : Cx} {e : Expr} {t t' : TT} (h : PW X e t) (i : ∀ σ H Q, t' σ H Q → t σ H Q) : PW X e t' := ⟨fun wh pins s σ H Q I q => h.run wh pins s σ H Q I (i σ H Q q)⟩

theorem gOf_sooner {m : Md} {F : Addr → Prop} {H H1 : Hp} (s : Same H H1) {a : Addr} (h : gOf m F H1 a) : gOf m F H a := by
  cases m with
  | any => trivial
  | safe => exact h.elim .inl fun z => .inr (s.free z)
  | fresh => exact s.free h
  | own => exact h.elim .inl fun z => .inr (s.free z)
def Md.le : Md → Md → Bool
  | _, .any => true
  | .any, _ => false
  | _, .safe => true
  | .fresh, .fresh => true
  | _, _ => false
theorem gOf_le {m m' : Md} (h : m.le m' = true) {F : Addr → Prop} {H : Hp} {a : Addr} (g : gOf m F H a) : gOf m' F H a := by
  cases m <;> cases m' <;> first | exact g | trivial | exact .inr g | cases h
def Md.elt : Md → Md
  | .own => .safe
  | m => m

section
variable {X : Cx} {a b e : Expr} {es : List Expr} {pos : Pos} {m ma mb : Md} {da db de : TDE} {dl : TDA} {n : Nat}
/-! ### names, constants -/
def eVar (i : Nat) : TDE := fun ρ Q => match ρ[i]? with
  | some (.fz d) => Q d
  | some (.ow ds) => Q (.lst ds)
  | _ => False
def eVarS (i : Nat) : TDE := fun ρ Q => match ρ[i]? with
  | some (.fz d) => Q d
  | _ => False
theorem de_var (i : Nat) {x : Str} (hN : X.N[i]? = some x := by rfl) (hv : Vis X.env.scope x := by first | exact Or.inl rfl | exact Or.inr (Or.inl rfl) | exact Or.inr (Or.inr rfl)) (hd : (x == ("__debug__" : Str)) = false := by decide)
    (hcd : (x == ("__classdict__" : Str)) = false := by decide) : DE X (.Name x pos) .any (eVar i) := by
  refine PE.imp (pe_var hN hv hd hcd) fun σ H Q ⟨F, ρ, Qd, R, h, k⟩ => ?_
  unfold eVar at h
  split at h
  · rename_i d hd
    obtain ⟨v, e, r⟩ := R.fz i d hd
    exact ⟨v, e, k v H d (.refl H) (Rep.mono (fun _ _ => trivial) r) h⟩
  · rename_i ds hd
    obtain ⟨p, xs, e, h1, h2, h3⟩ := R.ow i ds hd
    exact ⟨_, e, k _ H (.lst ds) (.refl H) (show Rep X.K H GT (.lst ds) (.ref p) from ⟨p, xs, rfl, h1, trivial, RepL.mono (fun _ _ => trivial) h2⟩) h⟩
  · exact h.elim
theorem de_varS (i : Nat) {x : Str} (hN : X.N[i]? = some x := by rfl) (hv : Vis X.env.scope x := by first | exact Or.inl rfl | exact Or.inr (Or.inl rfl) | exact Or.inr (Or.inr rfl)) (hd : (x == ("__debug__" : Str)) = false := by decide)
    (hcd : (x == ("__classdict__" : Str)) = false := by decide) : DE X (.Name x pos) .safe (eVarS i) := by
  refine PE.imp (pe_var hN hv hd hcd) fun σ H Q ⟨F, ρ, Qd, R, h, k⟩ => ?_
  unfold eVarS at h
  split at h
  · rename_i d hd
    obtain ⟨v, e, r⟩ := R.fz i d hd
    exact ⟨v, e, k v H d (.refl H) (Rep.mono (fun _ => .inl) r) h⟩
  · exact h.elim
def eC (d : D) : TDE := fun _ Q => Q d
theorem de_int {i : Int} {j : Nat} : DE X (.Constant (.int i) j pos) .fresh (eC (.int i)) := PE.imp pe_int fun σ H Q ⟨F, ρ, Qd, R, h, k⟩ => k _ H (.int i) (.refl H) rfl h
theorem de_bl {i : Bool} {j : Nat} : DE X (.Constant (.bool i) j pos) .fresh (eC (.bl i)) := PE.imp pe_bl fun σ H Q ⟨F, ρ, Qd, R, h, k⟩ => k _ H (.bl i) (.refl H) rfl h
theorem de_non {j : Nat} : DE X (.Constant .none j pos) .fresh (eC .non) := PE.imp pe_non fun σ H Q ⟨F, ρ, Qd, R, h, k⟩ => k _ H .non (.refl H) rfl h
theorem de_str {i : Str} {j : Nat} : DE X (.Constant (.str i) j pos) .fresh (eC (.str i)) := PE.imp pe_str fun σ H Q ⟨F, ρ, Qd, R, h, k⟩ => k _ H (.str i) (.refl H) rfl h
/-! ### modes -/
def eFlat (d : TDE) : TDE := fun ρ Q => d ρ fun x => x.flat = true ∧ Q x
theorem de_flat (h : DE X e m de) : DE X e .fresh (eFlat de) := PE.imp h fun σ H Q ⟨F, ρ, Qd, R, h, k⟩ => ⟨F, ρ, _, R, h, fun v H' x s r q => k v H' x s (Vr.flat r.any q.1) q.2⟩
theorem de_any (h : DE X e m de) : DE X e .any de := PE.imp h fun σ H Q ⟨F, ρ, Qd, R, h, k⟩ => ⟨F, ρ, _, R, h, fun v H' x s r q => k v H' x s r.any q⟩
theorem de_safe (h : DE X e m de) (hm : m ≠ .any := by exact fun z => nomatch z) : DE X e .safe de := PE.imp h fun σ H Q ⟨F, ρ, Qd, R, h, k⟩ => ⟨F, ρ, _, R, h, fun v H' x s r q => k v H' x s (r.safe hm) q⟩
/-! ### operators -/
def eOp (f : D → D → (D → Prop) → Prop) (da db : TDE) : TDE := fun ρ Q => da ρ fun x => db ρ fun y => f x y Q
def R2D (K : PySem.W.Frag) (r : R2) (f : D → D → (D → Prop) → Prop) : Prop :=
  ∀ (H : Hp) (Q : VK) (Qd : D → Prop) (x y : V) (dx dy : D), Rep K H GT dx x → Rep K H GT dy y → f dx dy Qd → (∀ v H' z, Same H H' → Rep K H' (New H) z v → Qd z → Q v H') → r x y H Q
theorem op_up {r : R2} {f : D → D → (D → Prop) → Prop} {K : PySem.W.Frag} (hr : R2D K r f) : ∀ σ H Q, up K .fresh (eOp f da db) σ H Q → tOp r (up K ma da) (up K mb db) σ H Q :=
  fun σ H Q ⟨F, ρ, Qd, R, h, k⟩ => ⟨F, ρ, _, R, h, fun v H1 x s1 r1 q1 => ⟨F, ρ, _, R.same s1, q1, fun u H2 y s2 r2 q2 =>
    hr H2 Q Qd v u x y (Rep.same s2 r1.any) r2.any q2 fun z H3 w s3 r3 q3 => k z H3 w ((s1.trans s2).trans s3) (Rep.mono (fun _ z => s1.free (s2.free z)) r3) q3⟩⟩
theorem de_op {op : Operator} {r : R2} {f : D → D → (D → Prop) → Prop} (ho : OpR X (binaryOp op) r) (hr : R2D X.K r f) (ha : DE X a ma da) (hb : DE X b mb db) : DE X (.BinOp a op b pos) .fresh (eOp f da db) :=
  PE.imp (pe_op ho ha hb) (op_up hr)
theorem de_cmp {op : CmpOp} {r : R2} {f : D → D → (D → Prop) → Prop} (ho : OpR X (compareOp op) r) (hr : R2D X.K r f) (ha : DE X a ma da) (hb : DE X b mb db) (hm : behindInMarks op b = false) : DE X (.Compare a [op] [b] pos) .fresh (eOp f da db) :=
  PE.imp (pe_cmpR ho ha hb hm) (op_up hr)
/-- a test from an expression that gives a bool -/
def tB (d : TDE) : TDT := fun ρ Q => d ρ fun x => match x with
  | .bl b => Q b
  | _ => False
theorem tB_up {K : PySem.W.Frag} {de : TDE} {m : Md} : ∀ σ H Q, upT K (tB de) σ H Q → tTest (up K m de) σ H Q := fun σ H Q ⟨F, ρ, Qd, R, h, k⟩ => ⟨F, ρ, _, R, h, fun v H' x s r q => by
  cases x <;> first | exact q.elim | skip
  rename_i b
  have e : v = V.bl b := r.any
  exact ⟨b, e, k b H' s q⟩⟩
theorem dt_cmp {op : CmpOp} {r : R2} {f : D → D → (D → Prop) → Prop} (ho : OpR X (compareOp op) r) (hr : R2D X.K r f) (ha : DE X a ma da) (hb : DE X b mb db) (hm : behindInMarks op b = false) : DT X (.Compare a [op] [b] pos) (tB (eOp f da db)) :=
  PT.imp (pt_cmpR ho ha hb hm) fun σ H Q ⟨F, ρ, Qd, R, h, k⟩ => op_up hr σ H (fun x H' => ∃ k, x = .bl k ∧ Q k H') ⟨F, ρ, _, R, h, fun v H' x s r q => by
    cases x <;> first | exact q.elim | skip
    rename_i b
    have e : v = V.bl b := r
    exact ⟨b, e, k b H' s q⟩⟩
theorem dt_val (h : DE X e m de) (hp : ∀ wh, isTrue e X.env wh = (do let v ← wh; standAt e.pos; holding [v] (truthy v)) := by intro _; rfl) : DT X e (tB de) := by
  refine PT.imp (pt_truth h hp) fun σ H Q ⟨F, ρ, Qd, R, h, k⟩ => ⟨F, ρ, _, R, h, fun v H' x s r q => ?_⟩
  cases x <;> first | exact q.elim | skip
  rename_i b
  have e : v = V.bl b := r.any
  subst e
  exact ⟨b, rfl, k b H' s q⟩
end

/-! ## the ints' operators -/
def fI (C : Int → Int → Prop) (g : Int → Int → Int) (x y : D) (Q : D → Prop) : Prop := match x, y with
  | .int i, .int j => C i j ∧ Q (.int (g i j))
  | _, _ => False
def fB (g : Int → Int → Bool) (x y : D) (Q : D → Prop) : Prop := match x, y with
  | .int i, .int j => Q (.bl (g i j))
  | _, _ => False
section
variable {K : PySem.W.Frag}
theorem r2_int {C : Int → Int → Prop} {g : Int → Int → Int} : R2D K (rI C fun i j => .int (g i j)) (fI C g) := fun H Q Qd x y dx dy rx ry h k => by
  cases dx <;> first | exact h.elim | skip
  cases dy <;> first | exact h.elim | skip
  rename_i i j
  have e1 : x = V.int i := rx
  have e2 : y = V.int j := ry
  exact ⟨i, j, e1, e2, h.1, k _ H (.int (g i j)) (.refl H) rfl h.2⟩
def fI0 (g : Int → Int → Int) (x y : D) (Q : D → Prop) : Prop := match x, y with
  | .int i, .int j => Q (.int (g i j))
  | _, _ => False
theorem r2_int0 {g : Int → Int → Int} : R2D K (rI0 fun i j => .int (g i j)) (fI0 g) := fun H Q Qd x y dx dy rx ry h k => by
  cases dx <;> first | exact h.elim | skip
  cases dy <;> first | exact h.elim | skip
  rename_i i j
  have e1 : x = V.int i := rx
  have e2 : y = V.int j := ry
  exact ⟨i, j, e1, e2, k _ H (.int (g i j)) (.refl H) rfl h⟩
theorem r2_bool {g : Int → Int → Bool} : R2D K (rI0 fun i j => .bl (g i j)) (fB g) := fun H Q Qd x y dx dy rx ry h k => by
  cases dx <;> first | exact h.elim | skip
  cases dy <;> first | exact h.elim | skip
  rename_i i j
  have e1 : x = V.int i := rx
  have e2 : y = V.int j := ry
  exact ⟨i, j, e1, e2, k _ H (.bl (g i j)) (.refl H) rfl h⟩
def fSub (x y : D) (Q : D → Prop) : Prop := match x, y with
  | .int i, .int j => Q (.int (i - j))
  | _, _ => False
def fMod (x y : D) (Q : D → Prop) : Prop := match x, y with
  | .int i, .int j => 0 < j ∧ Q (.int (i % j))
  | _, _ => False
def fLt (x y : D) (Q : D → Prop) : Prop := match x, y with
  | .int i, .int j => Q (.bl (decide (i < j)))
  | _, _ => False
def fLe (x y : D) (Q : D → Prop) : Prop := match x, y with
  | .int i, .int j => Q (.bl (decide (i ≤ j)))
  | _, _ => False
def fGt (x y : D) (Q : D → Prop) : Prop := match x, y with
  | .int i, .int j => Q (.bl (decide (j < i)))
  | _, _ => False
def fGe (x y : D) (Q : D → Prop) : Prop := match x, y with
  | .int i, .int j => Q (.bl (decide (j ≤ i)))
  | _, _ => False
theorem r2_sub : R2D K (rI0 fun i j => .int (i - j)) fSub := r2_int0
theorem r2_mod : R2D K (rI (fun _ j => 0 < j) fun i j => .int (i % j)) fMod := r2_int (C := fun _ j => 0 < j) (g := fun i j => i % j)
theorem r2_lt : R2D K (rI0 fun i j => .bl (decide (i < j))) fLt := r2_bool (g := fun i j => decide (i < j))
theorem r2_le : R2D K (rI0 fun i j => .bl (decide (i ≤ j))) fLe := r2_bool (g := fun i j => decide (i ≤ j))
theorem r2_gt : R2D K (rI0 fun i j => .bl (decide (j < i))) fGt := r2_bool (g := fun i j => decide (j < i))
theorem r2_ge : R2D K (rI0 fun i j => .bl (decide (j ≤ i))) fGe := r2_bool (g := fun i j => decide (j ≤ i))
/-- + of ints, of lists of flat things -/
def fAdd (x y : D) (Q : D → Prop) : Prop := match x, y with
  | .int i, .int j => Q (.int (i + j))
  | .lst a, .lst b => flatL a = true ∧ flatL b = true ∧ a.length + b.length ≤ 1000000 ∧ Q (.lst (a ++ b))
  | _, _ => False
theorem mil : (1000000 : Nat) ≤ sizeLine := by rw [sizeLine_eq]; decide
theorem op_addD {X : Cx} : OpR X (binaryOp .Add) (fun x y H Q => rI0 (fun i j => .int (i + j)) x y H Q ∨ rCat x y H Q) := OpR.or op_add op_cat
theorem new_lst {H : Hp} {G : Addr → Prop} {ds : List D} {xs : List V} {p : Addr} (hp : H p = none) (g : G p) (r : RepL K H G ds xs) : Rep K (upd H p (.lst xs)) G (.lst ds) (.ref p) :=
  ⟨p, xs, rfl, upd_same, g, RepL.same (fun b o e => by rw [upd_ne (ne_of_none e hp)]; exact e) r⟩
theorem same_new {H : Hp} {p : Addr} {o : HO} (hp : H p = none) : Same H (upd H p o) := fun b u e => by rw [upd_ne (ne_of_none e hp)]; exact e
theorem r2_add : R2D K (fun x y H Q => rI0 (fun i j => .int (i + j)) x y H Q ∨ rCat x y H Q) fAdd := fun H Q Qd x y dx dy rx ry h k => by
  cases dx with
  | int i =>
    cases dy <;> first | exact h.elim | skip
    rename_i j
    exact .inl ⟨i, j, rx, ry, k _ H (.int (i + j)) (.refl H) rfl h⟩
  | lst a =>
    cases dy <;> first | exact h.elim | skip
    rename_i b
    obtain ⟨p, xs, e1, h1, _, r1⟩ := rx
    obtain ⟨q, ys, e2, h2, _, r2⟩ := ry
    obtain ⟨fa, fb, l, h⟩ := h
    refine .inr ⟨p, q, xs, ys, e1, e2, h1, h2, ?_, fun z hz => ?_⟩
    · rw [← r1.length, ← r2.length]; exact Nat.le_trans l mil
    · refine k _ _ (.lst (a ++ b)) (same_new hz) ?_ h
      exact new_lst (G := New H) hz hz (RepL.ofFlat (fun _ _ z => z) _ _ (by rw [flatL_append, fa, fb]; rfl) (RepL.append r1 r2))
  | _ => exact h.elim
/-- * of ints, list * int -/
def CMulD (i j : Int) : Prop := CMul i j ∨ CMulW i j
def fMul (x y : D) (Q : D → Prop) : Prop := match x, y with
  | .int i, .int j => CMulD i j ∧ Q (.int (i * j))
  | .lst a, .int k => flatL a = true ∧ -1000000 ≤ k ∧ k ≤ 1000000 ∧ a.length * k.toNat ≤ 1000000 ∧ Q (.lst (List.replicate k.toNat a).flatten)
  | _, _ => False
theorem op_mulD {X : Cx} : OpR X (binaryOp .Mult) (fun x y H Q => rI CMulD (fun i j => .int (i * j)) x y H Q ∨ rRep x y H Q) :=
  OpR.or (opI fun _ _ _ _ _ _ _ hc q => mul_int q (hc.elim CMul.ok CMulW.ok)) op_rep
theorem flatL_flatten : ∀ (k : Nat) {a : List D}, flatL a = true → flatL (List.replicate k a).flatten = true
  | 0, _, _ => rfl
  | k + 1, a, h => by rw [List.replicate_succ, List.flatten_cons, flatL_append, h, flatL_flatten k h]; rfl
theorem r2_mul : R2D K (fun x y H Q => rI CMulD (fun i j => .int (i * j)) x y H Q ∨ rRep x y H Q) fMul := fun H Q Qd x y dx dy rx ry h k => by
  cases dx with
  | int i =>
    cases dy <;> first | exact h.elim | skip
    rename_i j
    exact .inl ⟨i, j, rx, ry, h.1, k _ H (.int (i * j)) (.refl H) rfl h.2⟩
  | lst a =>
    cases dy <;> first | exact h.elim | skip
    rename_i j
    obtain ⟨p, xs, e1, h1, _, r1⟩ := rx
    obtain ⟨fa, j0, j1, l, h⟩ := h
    refine .inr ⟨p, j, xs, e1, ry, h1, by omega, by omega, ?_, fun z hz => ?_⟩
    · rw [← r1.length]; exact Nat.le_trans l mil
    · refine k _ _ (.lst _) (same_new hz) ?_ h
      exact new_lst (G := New H) hz hz (RepL.ofFlat (fun _ _ z => z) _ _ (flatL_flatten _ fa) (RepL.rep r1 _))
  | _ => exact h.elim
def CDivD (i j : Int) : Prop := CDiv i j ∨ CDivW i j
def fDiv (x y : D) (Q : D → Prop) : Prop := match x, y with
  | .int i, .int j => CDivD i j ∧ Q (.int (i / j))
  | _, _ => False
theorem r2_div : R2D K (rI CDivD fun i j => .int (i / j)) fDiv := r2_int (g := fun i j => i / j)
theorem op_divD {X : Cx} : OpR X (binaryOp .FloorDiv) (rI CDivD fun i j => .int (i / j)) := fun pins s σ H x y v u Q I rx ry h => by
  obtain ⟨i, j, e1, e2, hc, q⟩ := h
  rcases hc with hc | hc
  · exact op_fdiv pins s σ H x y v u Q I rx ry ⟨i, j, e1, e2, hc, q⟩
  · exact op_fdivW pins s σ H x y v u Q I rx ry ⟨i, j, e1, e2, hc, q⟩
def CPowD (i j : Int) : Prop := 0 ≤ j ∧ (Builtin.Int.intBits i : Int) * j ≤ 2 ^ 27
def fPow (x y : D) (Q : D → Prop) : Prop := match x, y with
  | .int i, .int j => CPowD i j ∧ Q (.int (i ^ j.toNat))
  | _, _ => False
theorem r2_pow : R2D K (rI CPowD fun i j => .int (i ^ j.toNat)) fPow := r2_int (g := fun i j => i ^ j.toNat)
theorem op_powD {X : Cx} : OpR X (binaryOp .Pow) (rI CPowD fun i j => .int (i ^ j.toNat)) := opI fun _ _ _ _ _ _ _ hc q => pow_int hc.1 hc.2 q

instance (i j : Int) : Decidable (CPowD i j) := by unfold CPowD; infer_instance
/-! ## == -/
def ngQ (ng b : Bool) (Q : D → Prop) : Prop := match ng with
  | false => Q (.bl b)
  | true => Q (.bl (!b))
def sc : D → Option V
  | .non => some .non
  | .bl b => some (.bl b)
  | .int i => some (.int i)
  | .str x => some (.str x)
  | _ => none
mutual
def toPy : D → PyData
  | .non => .none
  | .bl b => .bool b
  | .int i => .int i
  | .str x => .str x
  | .tup ds => .tuple (toPyL ds)
  | .lst ds => .list (toPyL ds)
  | .ins _ _ _ => .none
  | .scr _ => .none
def toPyL : List D → List PyData
  | [] => []
  | d :: ds => toPy d :: toPyL ds
end
mutual
def okD : D → Bool
  | .ins _ _ _ => false
  | .scr _ => false
  | .tup ds => okL ds
  | .lst ds => okL ds
  | .non => true
  | .bl _ => true
  | .int _ => true
  | .str _ => true
def okL : List D → Bool
  | [] => true
  | d :: ds => okD d && okL ds
end
section
variable {H : Hp} {G : Addr → Prop}
mutual
theorem dp_of : ∀ (d : D) (v : V), okD d = true → Rep K H G d v → Dp K H v (toPy d)
  | .non, v, _, h => by rw [show v = V.non from h]; exact .non
  | .bl b, v, _, h => by rw [show v = V.bl b from h]; exact .bl b
  | .int i, v, _, h => by rw [show v = V.int i from h]; exact .int i
  | .str x, v, _, h => by rw [show v = V.str x from h]; exact .str x
  | .tup ds, v, o, ⟨a, xs, e, h1, h2⟩ => by subst e; exact .tup h1 (dpAll_of ds xs o h2)
  | .lst ds, v, o, ⟨a, xs, e, h1, _, h2⟩ => by subst e; exact .lst (.of h1) (dpAll_of ds xs o h2)
  | .ins _ _ _, v, o, _ => nomatch o
  | .scr _, v, o, _ => nomatch o
theorem dpAll_of : ∀ (ds : List D) (xs : List V), okL ds = true → RepL K H G ds xs → DpAll K H xs (toPyL ds)
  | [], xs, _, h => by rw [show xs = [] from h]; exact .nil
  | d :: ds, xs, o, ⟨y, ys, e, h1, h2⟩ => by
    have q : (okD d && okL ds) = true := o
    rw [Bool.and_eq_true] at q
    subst e
    exact .cons (dp_of d y q.1 h1) (dpAll_of ds ys q.2 h2)
end
end
theorem sc_of {d : D} {v u : V} {H : Hp} {G : Addr → Prop} (h : Rep K H G d v) (e : sc d = some u) : v = u := by
  cases d <;> first | (cases e; exact h) | cases e
/-- the ints, bools, texts, None; else data -/
def cmpD (x y : D) : Bool := PyData.eqv (toPy x) (toPy y)
def shD (x : D) : Bool := okD x && SeqAt.shaped (toPy x)
def fEq (ng : Bool) (x y : D) (Q : D → Prop) : Prop := match x, y with
  | .int i, .int j => ngQ ng (decide (i = j)) Q
  | .bl i, .bl j => ngQ ng (decide (i = j)) Q
  | .str i, .str j => ngQ ng (decide (i = j)) Q
  | .non, .non => ngQ ng true Q
  | .non, .int _ => ngQ ng false Q
  | .int _, .non => ngQ ng false Q
  | .tup a, .tup b => shD (.tup a) = true ∧ shD (.tup b) = true ∧ ngQ ng (cmpD (.tup a) (.tup b)) Q
  | .lst a, .lst b => shD (.lst a) = true ∧ shD (.lst b) = true ∧ ngQ ng (cmpD (.lst a) (.lst b)) Q
  | .tup a, .int b => shD (.tup a) = true ∧ ngQ ng false Q
  | _, _ => False
theorem op_eqX {X : Cx} (hu : X.A.units + 64 < cLine) : OpR X (compareOp .Eq) (fun x y H Q => rEq x y H Q ∨ rEqD X.K x y H Q) := OpR.or op_eq (op_eqD hu)
theorem op_neX {X : Cx} (hu : X.A.units + 64 < cLine) : OpR X (compareOp .NotEq) (fun x y H Q => rNe x y H Q ∨ rNeD X.K x y H Q) := OpR.or op_ne (op_neD hu)
theorem r2_eq : R2D K (fun x y H Q => rEq x y H Q ∨ rEqD K x y H Q) (fEq false) := fun H Q Qd x y dx dy rx ry h k => by
  have scal2 : ∀ {u w : V}, x = u → y = w → scal u w = true → Qd (.bl (decide (u = w))) → (rEq x y H Q ∨ rEqD K x y H Q) := fun {u w} e1 e2 s q => by
    subst e1; subst e2
    exact .inl ⟨s, k _ H (.bl _) (.refl H) rfl q⟩
  have data2 : shD dx = true → shD dy = true → Qd (.bl (cmpD dx dy)) → (rEq x y H Q ∨ rEqD K x y H Q) := fun h1 h2 q => by
    have q1 : (okD dx && SeqAt.shaped (toPy dx)) = true := h1
    have q2 : (okD dy && SeqAt.shaped (toPy dy)) = true := h2
    rw [Bool.and_eq_true] at q1 q2
    exact .inr ⟨_, _, dp_of dx x q1.1 rx, dp_of dy y q2.1 ry, q1.2, q2.2, k _ H (.bl _) (.refl H) rfl q⟩
  unfold fEq at h
  split at h
  · exact scal2 rx ry rfl (by simp only [ngQ] at h; simpa using h)
  · exact scal2 rx ry rfl (by simp only [ngQ] at h; simpa using h)
  · exact scal2 rx ry rfl (by simp only [ngQ] at h; simpa using h)
  · exact scal2 rx ry rfl (by simp only [ngQ] at h; simpa using h)
  · exact scal2 rx ry rfl (by simp only [ngQ] at h; simpa using h)
  · exact scal2 rx ry rfl (by simp only [ngQ] at h; simpa using h)
  · exact data2 h.1 h.2.1 (by simpa [ngQ] using h.2.2)
  · exact data2 h.1 h.2.1 (by simpa [ngQ] using h.2.2)
  · exact data2 h.1 rfl (by simpa [ngQ, cmpD, toPy, PyData.eqv] using h.2)
  · exact h.elim
theorem r2_ne : R2D K (fun x y H Q => rNe x y H Q ∨ rNeD K x y H Q) (fEq true) := fun H Q Qd x y dx dy rx ry h k => by
  have scal2 : ∀ {u w : V}, x = u → y = w → scal u w = true → Qd (.bl (!decide (u = w))) → (rNe x y H Q ∨ rNeD K x y H Q) := fun {u w} e1 e2 s q => by
    subst e1; subst e2
    exact .inl ⟨s, k _ H (.bl _) (.refl H) rfl q⟩
  have data2 : shD dx = true → shD dy = true → Qd (.bl (!cmpD dx dy)) → (rNe x y H Q ∨ rNeD K x y H Q) := fun h1 h2 q => by
    have q1 : (okD dx && SeqAt.shaped (toPy dx)) = true := h1
    have q2 : (okD dy && SeqAt.shaped (toPy dy)) = true := h2
    rw [Bool.and_eq_true] at q1 q2
    exact .inr ⟨_, _, dp_of dx x q1.1 rx, dp_of dy y q2.1 ry, q1.2, q2.2, k _ H (.bl _) (.refl H) rfl q⟩
  unfold fEq at h
  split at h
  · exact scal2 rx ry rfl (by simp only [ngQ] at h; simpa using h)
  · exact scal2 rx ry rfl (by simp only [ngQ] at h; simpa using h)
  · exact scal2 rx ry rfl (by simp only [ngQ] at h; simpa using h)
  · exact scal2 rx ry rfl (by simp only [ngQ] at h; simpa using h)
  · exact scal2 rx ry rfl (by simp only [ngQ] at h; simpa using h)
  · exact scal2 rx ry rfl (by simp only [ngQ] at h; simpa using h)
  · exact data2 h.1 h.2.1 (by simpa [ngQ] using h.2.2)
  · exact data2 h.1 h.2.1 (by simpa [ngQ] using h.2.2)
  · exact data2 h.1 rfl (by simpa [ngQ, cmpD, toPy, PyData.eqv] using h.2)
  · exact h.elim
/-! ## is None, in -/
def isNon : D → Bool
  | .non => true
  | _ => false
def fIs (ng : Bool) (x y : D) (Q : D → Prop) : Prop := match y with
  | .non => ngQ ng (isNon x) Q
  | _ => False
theorem isNon_of {d : D} {v : V} {H : Hp} {G : Addr → Prop} (h : Rep K H G d v) : decide (v = V.non) = isNon d := by
  cases d with
  | non => rw [show v = V.non from h]; rfl
  | bl b => rw [show v = V.bl b from h]; rfl
  | int i => rw [show v = V.int i from h]; rfl
  | str x => rw [show v = V.str x from h]; rfl
  | tup ds => obtain ⟨a, _, e, _⟩ := h; rw [e]; rfl
  | lst ds => obtain ⟨a, _, e, _⟩ := h; rw [e]; rfl
  | ins C ns ds => obtain ⟨a, _, _, e, _⟩ := h; rw [e]; rfl
  | scr ns => obtain ⟨a, e, _⟩ := h; rw [e]; rfl
theorem r2_is : R2D K (fun x y H Q => y = .non ∧ Q (.bl (decide (x = .non))) H) (fIs false) := fun H Q Qd x y dx dy rx ry h k => by
  cases dy <;> first | exact h.elim | skip
  refine ⟨ry, ?_⟩
  rw [isNon_of rx]
  exact k _ H (.bl _) (.refl H) rfl (by simpa [fIs, ngQ] using h)
theorem r2_isnot : R2D K (fun x y H Q => y = .non ∧ Q (.bl (!decide (x = .non))) H) (fIs true) := fun H Q Qd x y dx dy rx ry h k => by
  cases dy <;> first | exact h.elim | skip
  refine ⟨ry, ?_⟩
  rw [isNon_of rx]
  exact k _ H (.bl _) (.refl H) rfl (by simpa [fIs, ngQ] using h)
def fIn (ng : Bool) (x y : D) (Q : D → Prop) : Prop := match x, y with
  | .int i, .lst ds => ∃ ns : List Int, ds = ns.map D.int ∧ ngQ ng (decide (i ∈ ns)) Q
  | .int i, .tup ds => ∃ ns : List Int, ds = ns.map D.int ∧ ngQ ng (decide (i ∈ ns)) Q
  | _, _ => False
theorem inV_ints (i : Int) : ∀ ns : List Int, inV (.int i) (ns.map V.int) = decide (i ∈ ns)
  | [] => rfl
  | n :: ns => by
    show (eqV (.int n) (.int i) || inV (.int i) (ns.map V.int)) = _
    rw [inV_ints i ns]
    have e : eqV (.int n) (.int i) = decide (n = i) := by
      show (n == i) = _
      rw [Bool.eq_iff_iff]; simp
    rw [e, Bool.eq_iff_iff, Bool.or_eq_true, decide_eq_true_iff, decide_eq_true_iff, decide_eq_true_iff, List.mem_cons]
    exact ⟨fun q => q.elim (fun z => .inl z.symm) .inr, fun q => q.elim (fun z => .inl z.symm) .inr⟩
theorem flat_ints (ns : List Int) : (ns.map V.int).all flatV = true := by
  rw [List.all_map]
  exact List.all_eq_true.mpr fun _ _ => rfl
theorem r2_in (ng : Bool) : R2D K (rIn K ng) (fIn ng) := fun H Q Qd x y dx dy rx ry h k => by
  unfold fIn at h
  split at h
  · obtain ⟨ns, rfl, q⟩ := h
    obtain ⟨p, xs, e, h1, _, r⟩ := ry
    have exs := r.ints
    subst exs
    have ex : x = V.int _ := rx
    refine ⟨p, _, e, .inl (.of h1), by rw [ex]; rfl, flat_ints ns, ?_⟩
    rw [ex, inV_ints]
    cases ng <;> exact k _ H (.bl _) (.refl H) rfl (by simpa [ngQ] using q)
  · obtain ⟨ns, rfl, q⟩ := h
    obtain ⟨p, xs, e, h1, r⟩ := ry
    have exs := r.ints
    subst exs
    have ex : x = V.int _ := rx
    refine ⟨p, _, e, .inr h1, by rw [ex]; rfl, flat_ints ns, ?_⟩
    rw [ex, inV_ints]
    cases ng <;> exact k _ H (.bl _) (.refl H) rfl (by simpa [ngQ] using q)
  · exact h.elim
end
end DL
namespace DL
open PySem PySem.Spec PyProof.Rows L2

section
variable {X : Cx} {a b c e : Expr} {es : List Expr} {pos : Pos} {m ma mb mc : Md} {da db dc de : TDE} {dl : TDA} {n : Nat}
/-! ## arguments, displays -/
def eNil : TDA := fun _ Q => Q []
def eCons (de : TDE) (dl : TDA) : TDA := fun ρ Q => de ρ fun x => dl ρ fun xs => Q (x :: xs)
theorem da_nil {m : Md} : DA X [] m 0 eNil := PA.imp pa_nil fun σ H Q ⟨F, ρ, Qd, R, h, k⟩ => k [] H [] (.refl H) rfl rfl h
theorem da_cons {m' : Md} (he : DE X e m' de) (hr : DA X es m n dl) (hm : m'.le m = true := by rfl) (hs : starEach (e :: es) X.env = (false, eval e X.env) :: starEach es X.env := by rfl) : DA X (e :: es) m (n + 1) (eCons de dl) :=
  PA.imp (pa_cons he hr hs) fun σ H Q ⟨F, ρ, Qd, R, h, k⟩ => ⟨F, ρ, _, R, h, fun v H1 x s1 r1 q1 => ⟨F, ρ, _, R.same s1, q1, fun vs H2 xs s2 r2 l q2 =>
    k (v :: vs) H2 (x :: xs) (s1.trans s2) ⟨v, vs, rfl, Rep.same s2 (Rep.mono (fun _ z => gOf_le hm z) r1.g), RepL.mono (fun _ z => gOf_sooner s1 z) r2⟩ (by rw [List.length_cons, l]) q2⟩⟩
def eTup (dl : TDA) : TDE := fun ρ Q => dl ρ fun xs => Q (.tup xs)
theorem de_tup {x1} (h : DA X es m n dl) (hm : m ≠ .own := by exact fun z => nomatch z) (hn : n ≤ 1000 := by decide) : DE X (.Tuple es x1 pos) m (eTup dl) :=
  PE.imp (pe_tup h) fun σ H Q ⟨F, ρ, Qd, R, h, k⟩ => ⟨F, ρ, _, R, h, fun vs H1 xs s1 r l q => ⟨Nat.le_trans (by rw [l]; exact hn) (Nat.le_trans (by decide) mil), fun p hp => by
    have r2 : RepL X.K (upd H1 p (.tup vs)) (gOf m F H) xs vs := RepL.same (same_new hp) r
    have r3 : Rep X.K (upd H1 p (.tup vs)) (gOf m F H) (.tup xs) (.ref p) := ⟨p, vs, rfl, .of upd_same, r2⟩
    refine k _ _ (.tup xs) (s1.trans (same_new hp)) ?_ q
    cases m with
    | own => exact absurd rfl hm
    | any => exact r3
    | safe => exact r3
    | fresh => exact r3⟩⟩
def eLst (dl : TDA) : TDE := fun ρ Q => dl ρ fun xs => Q (.lst xs)
theorem own_new {K : PySem.W.Frag} {F : Addr → Prop} {H H1 : Hp} {xs : List D} {vs : List V} {p : Addr} (s1 : Same H H1) (hp : H1 p = none) (r : RepL K H1 (fun a => F a ∨ H a = none) xs vs) :
    Vr K .own F H (upd H1 p (.lst vs)) (.lst xs) (.ref p) := by
  refine ⟨xs, p, vs, rfl, rfl, s1.free hp, upd_same, RepL.same (same_new hp) (RepL.mono (fun a z => ?_) r.trk)⟩
  rcases z.1 with q | q
  · exact .inl q
  · exact .inr ⟨q, fun e => z.2 (by rw [e]; exact hp)⟩
theorem de_lstF (h : DA X es .fresh n dl) (hn : n ≤ 1000 := by decide) : DE X (.List es pos) .fresh (eLst dl) :=
  PE.imp (pe_lst h) fun σ H Q ⟨F, ρ, Qd, R, h, k⟩ => ⟨F, ρ, _, R, h, fun vs H1 xs s1 r l q => ⟨Nat.le_trans (by rw [l]; exact hn) (Nat.le_trans (by decide) mil), fun p hp =>
    k _ _ (.lst xs) (s1.trans (same_new hp)) (new_lst (G := New H) hp (s1.free hp) r) q⟩⟩
theorem de_lstS (h : DA X es .safe n dl) (hn : n ≤ 1000 := by decide) : DE X (.List es pos) .own (eLst dl) :=
  PE.imp (pe_lst h) fun σ H Q ⟨F, ρ, Qd, R, h, k⟩ => ⟨F, ρ, _, R, h, fun vs H1 xs s1 r l q => ⟨Nat.le_trans (by rw [l]; exact hn) (Nat.le_trans (by decide) mil), fun p hp =>
    k _ _ (.lst xs) (s1.trans (same_new hp)) (own_new s1 hp r) q⟩⟩
/-- a display of things that are flat -/
def eLstF (dl : TDA) : TDE := fun ρ Q => dl ρ fun xs => flatL xs = true ∧ Q (.lst xs)
theorem de_lst (h : DA X es m n dl) (hn : n ≤ 1000 := by decide) : DE X (.List es pos) .fresh (eLstF dl) :=
  PE.imp (pe_lst h) fun σ H Q ⟨F, ρ, Qd, R, h, k⟩ => ⟨F, ρ, _, R, h, fun vs H1 xs s1 r l q => ⟨Nat.le_trans (by rw [l]; exact hn) (Nat.le_trans (by decide) mil), fun p hp =>
    k _ _ (.lst xs) (s1.trans (same_new hp)) (new_lst (G := New H) hp (s1.free hp) (RepL.ofFlat (fun _ _ z => z) _ _ q.1 r)) q.2⟩⟩

/-! ## unary, subscripts, slices -/
def fNeg (x : D) (Q : D → Prop) : Prop := match x with
  | .int i => Q (.int (-i))
  | _ => False
def eUn (f : D → (D → Prop) → Prop) (de : TDE) : TDE := fun ρ Q => de ρ fun x => f x Q
theorem de_neg (ha : DE X a ma da) : DE X (.UnaryOp .USub a pos) .fresh (eUn fNeg da) := PE.imp (pe_un un_neg ha) fun σ H Q ⟨F, ρ, Qd, R, h, k⟩ => ⟨F, ρ, _, R, h, fun v H' x s r q => by
  cases x <;> first | exact q.elim | skip
  rename_i i
  exact ⟨i, r.any, k _ H' (.int (-i)) s rfl q⟩⟩
def eNot (de : TDE) : TDE := fun ρ Q => de ρ fun x => match x with
  | .bl b => Q (.bl (!b))
  | _ => False
theorem de_not (ha : DE X a ma da) : DE X (.UnaryOp .Not a pos) .fresh (eNot da) := PE.imp (pe_not ha) fun σ H Q ⟨F, ρ, Qd, R, h, k⟩ => ⟨F, ρ, _, R, h, fun v H' x s r q => by
  cases x <;> first | exact q.elim | skip
  rename_i i
  exact ⟨i, r.any, k _ H' (.bl (!i)) s rfl q⟩⟩
theorem ixN_len {n m : Nat} (h : n = m) (i : Int) : ixN n i = ixN m i := by rw [h]
def fIx (x y : D) (Q : D → Prop) : Prop := match x, y with
  | .lst ds, .int i => ∃ d, atI ds i = some d ∧ Q d
  | .tup ds, .int i => ∃ d, atI ds i = some d ∧ Q d
  | .scr ns, .int i => ∃ z, atI ns i = some z ∧ Q (.int z)
  | _, _ => False
theorem atI_rep {K : PySem.W.Frag} {H : Hp} {G : Addr → Prop} {ds : List D} {xs : List V} {i : Int} {d : D} (r : RepL K H G ds xs) (h : atI ds i = some d) : ∃ v, atI xs i = some v ∧ Rep K H G d v := by
  unfold atI at h ⊢
  rw [← r.length]
  cases e : ixN ds.length i with
  | none => rw [e] at h; cases h
  | some j =>
    rw [e] at h
    exact RepL.get r (show ds[j]? = some d from h)
theorem atI_map {α β : Type} {f : α → β} {xs : List α} {i : Int} {x : α} (h : atI xs i = some x) : atI (xs.map f) i = some (f x) := by
  unfold atI at h ⊢
  rw [List.length_map]
  cases e : ixN xs.length i with
  | none => rw [e] at h; cases h
  | some j =>
    rw [e] at h
    show (xs.map f)[j]? = _
    rw [List.getElem?_map, show xs[j]? = some x from h]; rfl
theorem de_ix (ha : DE X a ma da) (hb : DE X b mb db) (hs : PlainIx b := by exact fun _ _ => rfl) : DE X (.Subscript a b pos) ma.elt (eOp fIx da db) :=
  PE.imp (pe_ix ix_seq ha hb hs) fun σ H Q ⟨F, ρ, Qd, R, h, k⟩ => ⟨F, ρ, _, R, h, fun v H1 x s1 r1 q1 => ⟨F, ρ, _, R.same s1, q1, fun u H2 y s2 r2 q2 => by
    have el : ∀ {z w}, Rep X.K H2 (gOf ma F H) z w → Vr X.K ma.elt F H H2 z w := fun {z w} r => by
      cases ma <;> exact r
    have r1' := Rep.same s2 r1.g
    unfold fIx at q2
    split at q2
    · obtain ⟨d, e, q⟩ := q2
      obtain ⟨p, xs, e1, h1, _, r⟩ := r1'
      obtain ⟨w, ew, rw'⟩ := atI_rep r e
      exact .inl ⟨p, xs, _, w, e1, r2.any, .of h1, ew, k w H2 d (s1.trans s2) (el rw') q⟩
    · obtain ⟨d, e, q⟩ := q2
      obtain ⟨p, xs, e1, h1, r⟩ := r1'
      obtain ⟨w, ew, rw'⟩ := atI_rep r e
      exact .inr (.inl ⟨p, xs, _, w, e1, r2.any, h1, ew, k w H2 d (s1.trans s2) (el rw') q⟩)
    · obtain ⟨d, e, q⟩ := q2
      obtain ⟨p, e1, h1⟩ := r1'
      have hq : SqL X.K H2 p (List.map V.int _) := h1.elim (fun z => .inl z.1) .inr
      exact .inl ⟨p, _, _, V.int d, e1, r2.any, hq, atI_map e, k (.int d) H2 (.int d) (s1.trans s2) (el rfl) q⟩
    · exact q2.elim⟩⟩
/-- an optional part of a slice -/
abbrev TDO := List SD → (Option Int → Prop) → Prop
def upO (K : PySem.W.Frag) (d : TDO) : TO := fun σ H Q => ∃ F ρ Qd, SRel K F H σ ρ ∧ d ρ Qd ∧ ∀ o H', Same H H' → Qd o → Q o H'
abbrev DO_ (X : Cx) (e : Option Expr) (d : TDO) : Prop := PO X e (upO X.K d)
theorem PO.imp {X : Cx} {e : Option Expr} {t t' : TO} (h : PO X e t) (i : ∀ σ H Q, t' σ H Q → t σ H Q) : PO X e t' := ⟨fun pins s σ H Q I q => h.run pins s σ H Q I (i σ H Q q)⟩
def oNone : TDO := fun _ Q => Q none
def oSome (d : TDE) : TDO := fun ρ Q => d ρ fun x => match x with
  | .int i => Q (some i)
  | _ => False
theorem do_none : DO_ X none oNone := PO.imp po_none fun σ H Q ⟨F, ρ, Qd, R, h, k⟩ => k none H (.refl H) h
theorem do_some (h : DE X e m de) : DO_ X (some e) (oSome de) := PO.imp (po_some h) fun σ H Q ⟨F, ρ, Qd, R, h, k⟩ => ⟨F, ρ, _, R, h, fun v H' x s r q => by
  cases x <;> first | exact q.elim | skip
  rename_i i
  exact ⟨i, r.any, k (some i) H' s q⟩⟩
def cut {α : Type} (xs : List α) (lo hi : Option Int) : List α := (xs.drop (HT.sIx xs.length 0 lo)).take (HT.sIx xs.length xs.length hi - HT.sIx xs.length 0 lo)
theorem cut_rep {K : PySem.W.Frag} {H : Hp} {G : Addr → Prop} {ds : List D} {xs : List V} (r : RepL K H G ds xs) (lo hi : Option Int) : RepL K H G (cut ds lo hi) (cutV xs lo hi) := by
  unfold cut cutV
  rw [r.length]
  exact RepL.take _ (RepL.drop _ r)
def eCut (fl : Bool) (de : TDE) (dl dh : TDO) : TDE := fun ρ Q => de ρ fun x => dl ρ fun l => dh ρ fun h => match x with
  | .lst ds => (fl = true → flatL ds = true) ∧ Q (.lst (cut ds l h))
  | _ => False
theorem flatL_take : ∀ (n : Nat) (l : List D), flatL l = true → flatL (l.take n) = true
  | 0, _, _ => rfl
  | n + 1, [], _ => rfl
  | n + 1, d :: l, h => by
    have q : (d.flat && flatL l) = true := h
    rw [Bool.and_eq_true] at q
    show (d.flat && flatL (l.take n)) = true
    rw [q.1, flatL_take n l q.2]; rfl
theorem flatL_drop : ∀ (n : Nat) (l : List D), flatL l = true → flatL (l.drop n) = true
  | 0, _, h => h
  | n + 1, [], _ => rfl
  | n + 1, d :: l, h => by
    have q : (d.flat && flatL l) = true := h
    rw [Bool.and_eq_true] at q
    exact flatL_drop n l q.2
theorem flatL_cut {l : List D} (h : flatL l = true) (lo hi : Option Int) : flatL (cut l lo hi) = true := flatL_take _ _ (flatL_drop _ _ h)
theorem flatL_rev {l : List D} (h : flatL l = true) : flatL l.reverse = true := by
  rw [flatL_all] at h ⊢
  rw [List.all_reverse]; exact h
theorem de_cut {lo hi : Option Expr} {dl dh : TDO} {p2 : Pos} (he : DE X e m de) (hl : DO_ X lo dl) (hu : DO_ X hi dh) : DE X (.Subscript e (.Slice lo hi none p2) pos) .fresh (eCut true de dl dh) :=
  PE.imp (pe_slice sl_list he hl hu) fun σ H Q ⟨F, ρ, Qd, R, h, k⟩ => ⟨F, ρ, _, R, h, fun v H1 x s1 r1 q1 => ⟨F, ρ, _, R.same s1, q1, fun l H2 s2 q2 => ⟨F, ρ, _, R.same (s1.trans s2), q2, fun u H3 s3 q3 => by
    cases x <;> first | exact q3.elim | skip
    obtain ⟨p, xs, e1, h1, _, r⟩ := Rep.same (s2.trans s3) r1.any
    exact ⟨p, xs, e1, .of h1, fun z hz => k _ _ (.lst _) (((s1.trans s2).trans s3).trans (same_new hz)) (new_lst (G := New H) hz (s1.free (s2.free (s3.free hz))) (RepL.ofFlat (fun _ _ z => z) _ _ (flatL_cut (q3.1 rfl) _ _) (cut_rep r l u))) q3.2⟩⟩⟩⟩
theorem de_cutS {lo hi : Option Expr} {dl dh : TDO} {p2 : Pos} (he : DE X e m de) (hl : DO_ X lo dl) (hu : DO_ X hi dh) (hm : m ≠ .any := by exact fun z => nomatch z) : DE X (.Subscript e (.Slice lo hi none p2) pos) .own (eCut false de dl dh) :=
  PE.imp (pe_slice sl_list he hl hu) fun σ H Q ⟨F, ρ, Qd, R, h, k⟩ => ⟨F, ρ, _, R, h, fun v H1 x s1 r1 q1 => ⟨F, ρ, _, R.same s1, q1, fun l H2 s2 q2 => ⟨F, ρ, _, R.same (s1.trans s2), q2, fun u H3 s3 q3 => by
    cases x <;> first | exact q3.elim | skip
    obtain ⟨p, xs, e1, h1, _, r⟩ := Rep.same (s2.trans s3) (r1.safe hm)
    exact ⟨p, xs, e1, .of h1, fun z hz => k _ _ (.lst _) (((s1.trans s2).trans s3).trans (same_new hz)) (own_new ((s1.trans s2).trans s3) hz (cut_rep r l u)) q3.2⟩⟩⟩⟩
/-- xs[::-1] -/
def eRev (de : TDE) : TDE := fun ρ Q => de ρ fun x => match x with
  | .lst ds => flatL ds = true ∧ Q (.lst ds.reverse)
  | _ => False
theorem de_rev {k : Nat} {p1 p2 p3 : Pos} (he : DE X e m de) : DE X (.Subscript e (.Slice none none (some (.UnaryOp .USub (.Constant (.int 1) k p1) p2)) p3) pos) .fresh (eRev de) :=
  PE.imp (pe_revL he) fun σ H Q ⟨F, ρ, Qd, R, h, k⟩ => ⟨F, ρ, _, R, h, fun v H1 x s1 r1 q1 => by
    cases x <;> first | exact q1.elim | skip
    obtain ⟨p, xs, e1, h1, _, r⟩ := r1.any
    exact ⟨p, xs, e1, .of h1, fun z hz => k _ _ (.lst _) (s1.trans (same_new hz)) (new_lst (G := New H) hz (s1.free hz) (RepL.ofFlat (fun _ _ z => z) _ _ (flatL_rev q1.1) (RepL.reverse r))) q1.2⟩⟩

/-! ## built-ins -/
def CRD (K : PySem.W.Frag) (r : List V → Hp → VK → Prop) (f : List D → (D → Prop) → Prop) : Prop :=
  ∀ (H : Hp) (Q : VK) (Qd : D → Prop) (vs : List V) (xs : List D), RepL K H GT xs vs → f xs Qd → (∀ v H' z, Same H H' → Rep K H' (New H) z v → Qd z → Q v H') → r vs H Q
def eCall (f : List D → (D → Prop) → Prop) (dl : TDA) : TDE := fun ρ Q => dl ρ fun xs => f xs Q
theorem call_up {K : PySem.W.Frag} {r : List V → Hp → VK → Prop} {f : List D → (D → Prop) → Prop} (hr : CRD K r f) : ∀ σ H Q, up K .fresh (eCall f dl) σ H Q → tCB r (upA K m n dl) σ H Q :=
  fun σ H Q ⟨F, ρ, Qd, R, h, k⟩ => ⟨F, ρ, _, R, h, fun vs H1 xs s1 r1 _ q1 => hr H1 Q Qd vs xs (RepL.mono (fun _ _ => trivial) r1) q1 fun v H2 z s2 r2 q2 => k v H2 z (s1.trans s2) (Rep.mono (fun _ z => s1.free z) r2) q2⟩
theorem de_callB {x : Str} {p : Pos} {id : String} {r : List V → Hp → VK → Prop} {f : List D → (D → Prop) → Prop} (hc : CallR X (.builtin id) r) (hr : CRD X.K r f) (hm : X.mg x = none) (hv : bootBuiltins x = some (.builtin id)) (ha : DA X (e :: es) m n dl)
    (hg : Gl X x := by rfl) (hn : x ≠ "__name__" := by decide) (hdb : (x == ("__debug__" : Str)) = false := by decide)
    (he : starEach (e :: es) X.env = (false, eval e X.env) :: starEach es X.env := by rfl) (hpl : (backTo pos (starEach es X.env)).any (·.1) = false := by rfl) : DE X (.Call (.Name x p) (e :: es) [] pos) .fresh (eCall f dl) :=
  PE.imp (pe_callB hc hg hm hv ha hn hdb he hpl) (call_up hr)
theorem de_callTy {x : Str} {p : Pos} {T : String} {r : List V → Hp → VK → Prop} {f : List D → (D → Prop) → Prop} (hc : CallR X (.type T) r) (hr : CRD X.K r f) (hm : X.mg x = none) (hv : bootBuiltins x = some (.type T)) (ha : DA X (e :: es) m n dl)
    (hg : Gl X x := by rfl) (hn : x ≠ "__name__" := by decide) (hdb : (x == ("__debug__" : Str)) = false := by decide)
    (he : starEach (e :: es) X.env = (false, eval e X.env) :: starEach es X.env := by rfl) (hpl : (backTo pos (starEach es X.env)).any (·.1) = false := by rfl) : DE X (.Call (.Name x p) (e :: es) [] pos) .fresh (eCall f dl) :=
  PE.imp (pe_callTy hc hg hm hv ha hn hdb he hpl) (call_up hr)
end
section
variable {K : PySem.W.Frag}
def fAbs (xs : List D) (Q : D → Prop) : Prop := match xs with
  | [.int i] => Q (.int (if i < 0 then -i else i))
  | _ => False
theorem one_int {H : Hp} {G : Addr → Prop} {i : Int} {vs : List V} (r : RepL K H G [.int i] vs) : vs = [V.int i] := by
  obtain ⟨y, ys, e, h1, h2⟩ := r
  rw [e, show y = V.int i from h1, show ys = [] from h2]
theorem cr_abs : CRD K (fun xs H Q => ∃ i, xs = [.int i] ∧ Q (.int (if i < 0 then -i else i)) H) fAbs := fun H Q Qd vs xs r h k => by
  unfold fAbs at h
  split at h
  · exact ⟨_, one_int r, k _ H (.int _) (.refl H) rfl h⟩
  · exact h.elim
def f2 (g : Int → Int → Int) (xs : List D) (Q : D → Prop) : Prop := match xs with
  | [.int i, .int j] => Q (.int (g i j))
  | _ => False
theorem two_int {H : Hp} {G : Addr → Prop} {i j : Int} {vs : List V} (r : RepL K H G [.int i, .int j] vs) : vs = [V.int i, V.int j] := by
  obtain ⟨y, ys, e, h1, y2, ys2, e2, h2, h3⟩ := r
  rw [e, e2, show y = V.int i from h1, show y2 = V.int j from h2, show ys2 = [] from h3]
theorem cr_2 {g : Int → Int → Int} : CRD K (fun xs H Q => ∃ i j, xs = [.int i, .int j] ∧ Q (.int (g i j)) H) (f2 g) := fun H Q Qd vs xs r h k => by
  unfold f2 at h
  split at h
  · exact ⟨_, _, two_int r, k _ H (.int _) (.refl H) rfl h⟩
  · exact h.elim
def fInt (xs : List D) (Q : D → Prop) : Prop := match xs with
  | [.int i] => Q (.int i)
  | [.bl b] => Q (.int (if b then 1 else 0))
  | _ => False
theorem cr_int : CRD K (fun xs H Q => (∃ i, xs = [.int i] ∧ Q (.int i) H) ∨ ∃ k, xs = [.bl k] ∧ Q (.int (if k then 1 else 0)) H) fInt := fun H Q Qd vs xs r h k => by
  unfold fInt at h
  split at h
  · exact .inl ⟨_, one_int r, k _ H (.int _) (.refl H) rfl h⟩
  · obtain ⟨y, ys, e, h1, h2⟩ := r
    exact .inr ⟨_, by rw [e, show y = V.bl _ from h1, show ys = [] from h2], k _ H (.int _) (.refl H) rfl h⟩
  · exact h.elim
def fLen (xs : List D) (Q : D → Prop) : Prop := match xs with
  | [.lst ds] => Q (.int ds.length)
  | [.tup ds] => Q (.int ds.length)
  | [.scr ns] => Q (.int ns.length)
  | _ => False
theorem cr_len : CRD K (fun xs H Q => ∃ p ys, xs = [.ref p] ∧ (SqL K H p ys ∨ SqT K H p ys) ∧ Q (.int ys.length) H) fLen := fun H Q Qd vs xs r h k => by
  unfold fLen at h
  split at h
  · obtain ⟨y, ys, e, ⟨p, zs, ey, h1, _, r1⟩, h2⟩ := r
    rw [show ys = [] from h2, ey] at e
    exact ⟨p, zs, e, .inl (.of h1), by rw [← r1.length]; exact k _ H (.int _) (.refl H) rfl h⟩
  · obtain ⟨y, ys, e, ⟨p, zs, ey, h1, r1⟩, h2⟩ := r
    rw [show ys = [] from h2, ey] at e
    exact ⟨p, zs, e, .inr h1, by rw [← r1.length]; exact k _ H (.int _) (.refl H) rfl h⟩
  · obtain ⟨y, ys, e, ⟨p, ey, h1⟩, h2⟩ := r
    rw [show ys = [] from h2, ey] at e
    exact ⟨p, _, e, .inl (h1.elim (fun z => .inl z.1) .inr), by rw [List.length_map]; exact k _ H (.int _) (.refl H) rfl h⟩
  · exact h.elim
/-- list(xs) of flat things -/
def fList (xs : List D) (Q : D → Prop) : Prop := match xs with
  | [.lst ds] => flatL ds = true ∧ Q (.lst ds)
  | _ => False
theorem cr_list : CRD K (fun xs H Q => ∃ p ys, xs = [.ref p] ∧ (SqL K H p ys ∨ SqT K H p ys) ∧ ∀ l, H l = none → Q (.ref l) (upd H l (.lst ys))) fList := fun H Q Qd vs xs r h k => by
  unfold fList at h
  split at h
  · obtain ⟨y, ys, e, ⟨p, zs, ey, h1, _, r1⟩, h2⟩ := r
    rw [show ys = [] from h2, ey] at e
    exact ⟨p, zs, e, .inl (.of h1), fun z hz => k _ _ (.lst _) (same_new hz) (new_lst (G := New H) hz hz (RepL.ofFlat (fun _ _ z => z) _ _ h.1 r1)) h.2⟩
  · exact h.elim
def fSum (xs : List D) (Q : D → Prop) : Prop := match xs with
  | [.lst ds] => ∃ ns : List Int, ds = ns.map D.int ∧ Q (.int ns.sum)
  | _ => False
theorem crd_sum : CRD K (rSum K) fSum := fun H Q Qd vs xs r h k => by
  unfold fSum at h
  split at h
  · obtain ⟨ns, rfl, h⟩ := h
    obtain ⟨y, ys, e, ⟨p, zs, ey, h1, _, r1⟩, h2⟩ := r
    rw [show ys = [] from h2, ey] at e
    exact ⟨p, ns, e, .of (by rw [h1, r1.ints]), k _ H (.int _) (.refl H) rfl h⟩
  · exact h.elim
def fSorted (xs : List D) (Q : D → Prop) : Prop := match xs with
  | [.lst ds] => ∃ ns : List Int, ds = ns.map D.int ∧ ns.length < 64 ∧ ∀ ns' : List Int, ns'.Perm ns → ns'.Pairwise (· ≤ ·) → Q (.lst (ns'.map D.int))
  | _ => False
theorem ints_rep {H : Hp} {G : Addr → Prop} : ∀ ns : List Int, RepL K H G (ns.map D.int) (ns.map V.int)
  | [] => rfl
  | n :: ns => ⟨_, _, rfl, rfl, ints_rep ns⟩
theorem crd_sorted : CRD K (rSorted K) fSorted := fun H Q Qd vs xs r h k => by
  unfold fSorted at h
  split at h
  · obtain ⟨ns, rfl, l, h⟩ := h
    obtain ⟨y, ys, e, ⟨p, zs, ey, h1, _, r1⟩, h2⟩ := r
    rw [show ys = [] from h2, ey] at e
    exact ⟨p, ns, e, .of (by rw [h1, r1.ints]), l, fun ns' z pm pw hz => k _ _ (.lst _) (same_new hz) (new_lst (G := New H) hz hz (ints_rep ns')) (h ns' pm pw)⟩
  · exact h.elim
/-! ## isinstance of built-in types -/
inductive BT | int | bool | list | tuple | str
def BT.nm : BT → String
  | .int => "int" | .bool => "bool" | .list => "list" | .tuple => "tuple" | .str => "str"
def tyD : D → Option String
  | .non => some "NoneType"
  | .bl _ => some "bool"
  | .int _ => some "int"
  | .str _ => some "str"
  | .tup _ => some "tuple"
  | .lst _ => some "list"
  | _ => none
def isiC (T : BT) (x : D) (Q : D → Prop) : Prop := match x, T with
  | .bl _, .int => Q (.bl true)
  | .bl _, .bool => Q (.bl true)
  | .int _, .int => Q (.bl true)
  | .str _, .str => Q (.bl true)
  | .tup _, .tuple => Q (.bl true)
  | .lst _, .list => Q (.bl true)
  | .ins _ _ _, _ => False
  | .scr _, _ => False
  | _, _ => Q (.bl false)
theorem isiC_of {T : BT} {x : D} {Q : D → Prop} (h : isiC T x Q) : ∃ t b, tyD x = some t ∧ kitB t T.nm = some b ∧ Q (.bl b) := by
  cases x with
  | non => cases T <;> exact ⟨_, _, rfl, by decide +kernel, h⟩
  | bl b => cases T <;> first | exact ⟨_, true, rfl, by decide +kernel, h⟩ | exact ⟨_, false, rfl, by decide +kernel, h⟩
  | int b => cases T <;> first | exact ⟨_, true, rfl, by decide +kernel, h⟩ | exact ⟨_, false, rfl, by decide +kernel, h⟩
  | str b => cases T <;> first | exact ⟨_, true, rfl, by decide +kernel, h⟩ | exact ⟨_, false, rfl, by decide +kernel, h⟩
  | tup b => cases T <;> first | exact ⟨_, true, rfl, by decide +kernel, h⟩ | exact ⟨_, false, rfl, by decide +kernel, h⟩
  | lst b => cases T <;> first | exact ⟨_, true, rfl, by decide +kernel, h⟩ | exact ⟨_, false, rfl, by decide +kernel, h⟩
  | ins C ns ds => cases T <;> exact h.elim
  | scr ns => cases T <;> exact h.elim
theorem tyx_of {H : Hp} {G : Addr → Prop} {d : D} {v : V} {T : String} (r : Rep K H G d v) (e : tyD d = some T) : TyX K H v (.type T) := by
  cases d with
  | non => cases e; rw [show v = V.non from r]; exact .base .non
  | bl b => cases e; rw [show v = V.bl b from r]; exact .base (.bl b)
  | int b => cases e; rw [show v = V.int b from r]; exact .base (.int b)
  | str b => cases e; rw [show v = V.str b from r]; exact .base (.str b)
  | tup ds =>
    cases e
    obtain ⟨a, xs, ev, h1, _⟩ := r
    rw [ev]
    rcases h1 with (h | ⟨o, h⟩) | ⟨o, _, _, h, hc, _⟩
    · exact .base (.tup h)
    · exact .fTuple h
    · exact .kTuple h hc
  | lst ds =>
    cases e
    obtain ⟨a, xs, ev, h1, _⟩ := r
    rw [ev]
    exact .base (.lst h1)
  | ins C ns ds => cases e
  | scr ns => cases e
end
section
variable {X : Cx} {e : Expr} {pos : Pos} {m : Md} {de : TDE}
def eIsi (T : BT) (de : TDE) : TDE := fun ρ Q => de ρ fun x => isiC T x Q
/-- isinstance(e, T), T a built-in type -/
theorem de_isi {y : Str} {p p2 : Pos} {T : BT} (he : DE X e m de) (hm : X.mg "isinstance" = none) (hm2 : X.mg y = none) (hv : bootBuiltins y = some (.type T.nm)) (hg : Gl X "isinstance" := by rfl) (hg2 : Gl X y := by rfl)
    (hn : y ≠ "__name__" := by decide) (hd : (y == ("__debug__" : Str)) = false := by decide) (hs : starEach [e, .Name y p2] X.env = (false, eval e X.env) :: starEach [.Name y p2] X.env := by rfl)
    (hpl : (backTo pos (starEach [.Name y p2] X.env)).any (·.1) = false := by rfl) : DE X (.Call (.Name "isinstance" p) [e, .Name y p2] [] pos) .fresh (eIsi T de) :=
  PE.imp (pe_callB call_isi hg hm (by decide +kernel) (pa_cons he (pa_cons (pe_bltn (v := .ty T.nm) hg2 hm2 hv rfl hn hd) pa_nil) hs) (by decide) (by decide) hs hpl) fun σ H Q ⟨F, ρ, Qd, R, h, k⟩ => ⟨F, ρ, _, R, h, fun v H1 x s1 r1 q => by
    obtain ⟨t, b, et, ek, q⟩ := isiC_of q
    exact ⟨v, .ty T.nm, .type t, .type T.nm, b, rfl, .ty T.nm, tyx_of r1.any et, kit_ty ek, k _ H1 (.bl b) s1 rfl q⟩⟩
end
end DL
namespace DL
open PySem PySem.Spec PyProof.Rows L2

section
variable {X : Cx} {a b c e : Expr} {es rest : List Expr} {pos : Pos} {m ma mb mc : Md} {da db dc de : TDE} {dl : TDA} {n : Nat} {t u w : TDT}
/-! ## tests -/
structure br (b : Bool) (p q : Prop) : Prop where
  t : b = true → p
  f : b = false → q
theorem br_ite {b : Bool} {p q : Prop} (h : br b p q) : if b = true then p else q := by
  cases b with
  | true => exact h.1 rfl
  | false => exact h.2 rfl

def tAnd (t u : TDT) : TDT := fun ρ Q => t ρ fun b => br b (u ρ Q) (Q false)
def tOr (t u : TDT) : TDT := fun ρ Q => t ρ fun b => br b (Q true) (u ρ Q)
def tNot (t : TDT) : TDT := fun ρ Q => t ρ fun b => Q (!b)
theorem dt_not (h : DT X a t) : DT X (.UnaryOp .Not a pos) (tNot t) := PT.imp (pt_not h) fun σ H Q ⟨F, ρ, Qd, R, h, k⟩ => ⟨F, ρ, _, R, h, fun b H' s q => k (!b) H' s q⟩
theorem dw_and1 (h : DT X a t) : DW X (.BoolOp .And [a] pos) t := pw_and1 h
theorem dw_or1 (h : DT X a t) : DW X (.BoolOp .Or [a] pos) t := pw_or1 h
theorem dw_and (h : DT X a t) (hb : DW X (.BoolOp .And (b :: rest) pos) u) : DW X (.BoolOp .And (a :: b :: rest) pos) (tAnd t u) :=
  PW.imp (pw_and h hb) fun σ H Q ⟨F, ρ, Qd, R, h, k⟩ => ⟨F, ρ, _, R, h, fun b H' s q => by
    cases b with
    | true => exact ⟨F, ρ, Qd, R.same s, q.1 rfl, fun c H2 s2 q2 => k c H2 (s.trans s2) q2⟩
    | false => exact k false H' s (q.2 rfl)⟩
theorem dw_or (h : DT X a t) (hb : DW X (.BoolOp .Or (b :: rest) pos) u) : DW X (.BoolOp .Or (a :: b :: rest) pos) (tOr t u) :=
  PW.imp (pw_or h hb) fun σ H Q ⟨F, ρ, Qd, R, h, k⟩ => ⟨F, ρ, _, R, h, fun b H' s q => by
    cases b with
    | false => exact ⟨F, ρ, Qd, R.same s, q.2 rfl, fun c H2 s2 q2 => k c H2 (s.trans s2) q2⟩
    | true => exact k true H' s (q.1 rfl)⟩
theorem dt_w (h : DW X e t) : DT X e t := PW.pt h
def eAnd (da db : TDE) : TDE := fun ρ Q => da ρ fun x => match x with
  | .bl b => br b (db ρ Q) (Q (.bl false))
  | _ => False
def eOr (da db : TDE) : TDE := fun ρ Q => da ρ fun x => match x with
  | .bl b => br b (Q (.bl true)) (db ρ Q)
  | _ => False
theorem Vr.bl {K : PySem.W.Frag} {F : Addr → Prop} {H H' : Hp} {b : Bool} (hm : m ≠ .own) : Vr K m F H H' (.bl b) (.bl b) := by
  cases m with
  | own => exact absurd rfl hm
  | _ => exact rfl
theorem de_one {op} (h : DE X a m da) : DE X (.BoolOp op [a] pos) m da := pe_one h
theorem de_and (ha : DE X a ma da) (hb : DE X (.BoolOp .And (b :: rest) pos) m db) (hm : m ≠ .own := by exact fun z => nomatch z) : DE X (.BoolOp .And (a :: b :: rest) pos) m (eAnd da db) :=
  PE.imp (pe_and ha hb) fun σ H Q ⟨F, ρ, Qd, R, h, k⟩ => ⟨F, ρ, _, R, h, fun v H1 x s r q => by
    cases x <;> first | exact q.elim | skip
    rename_i b
    refine ⟨b, r.any, ?_⟩
    cases b with
    | true => exact ⟨F, ρ, Qd, R.same s, q.1 rfl, fun v H2 y s2 r2 q2 => k v H2 y (s.trans s2) (r2.sooner s) q2⟩
    | false => exact k _ H1 (.bl false) s (Vr.bl hm) (q.2 rfl)⟩
theorem de_or (ha : DE X a ma da) (hb : DE X (.BoolOp .Or (b :: rest) pos) m db) (hm : m ≠ .own := by exact fun z => nomatch z) : DE X (.BoolOp .Or (a :: b :: rest) pos) m (eOr da db) :=
  PE.imp (pe_or ha hb) fun σ H Q ⟨F, ρ, Qd, R, h, k⟩ => ⟨F, ρ, _, R, h, fun v H1 x s r q => by
    cases x <;> first | exact q.elim | skip
    rename_i b
    refine ⟨b, r.any, ?_⟩
    cases b with
    | false => exact ⟨F, ρ, Qd, R.same s, q.2 rfl, fun v H2 y s2 r2 q2 => k v H2 y (s.trans s2) (r2.sooner s) q2⟩
    | true => exact k _ H1 (.bl true) s (Vr.bl hm) (q.1 rfl)⟩
def eIf (t : TDT) (da db : TDE) : TDE := fun ρ Q => t ρ fun b => br b (da ρ Q) (db ρ Q)
theorem de_ifExp (hc : DT X c t) (ha : DE X a m da) (hb : DE X b m db) : DE X (.IfExp c a b pos) m (eIf t da db) :=
  PE.imp (pe_ifExp hc ha hb) fun σ H Q ⟨F, ρ, Qd, R, h, k⟩ => ⟨F, ρ, _, R, h, fun b H1 s q => by
    cases b with
    | true => exact ⟨F, ρ, Qd, R.same s, q.1 rfl, fun v H2 y s2 r2 q2 => k v H2 y (s.trans s2) (r2.sooner s) q2⟩
    | false => exact ⟨F, ρ, Qd, R.same s, q.2 rfl, fun v H2 y s2 r2 q2 => k v H2 y (s.trans s2) (r2.sooner s) q2⟩⟩
def eChain (f f' : D → D → (D → Prop) → Prop) (da db dc : TDE) : TDE := fun ρ Q => da ρ fun x => db ρ fun y => f x y fun z => match z with
  | .bl k => br k (dc ρ fun w => f' y w Q) (Q (.bl false))
  | _ => False
theorem chain_up {K : PySem.W.Frag} {r r' : R2} {f f' : D → D → (D → Prop) → Prop} (h1 : R2D K r f) (h2 : R2D K r' f') : ∀ σ H Q, up K .fresh (eChain f f' da db dc) σ H Q → tChain r r' (up K ma da) (up K mb db) (up K mc dc) σ H Q :=
  fun σ H Q ⟨F, ρ, Qd, R, h, k⟩ => ⟨F, ρ, _, R, h, fun v H1 x s1 r1 q1 => ⟨F, ρ, _, R.same s1, q1, fun u H2 y s2 r2 q2 =>
    h1 H2 (fun z H3 => ∃ k, z = .bl k ∧ (if k = true then up K mc dc σ H3 fun w' H4 => r' u w' H4 Q else Q (.bl false) H3)) _ v u x y (Rep.same s2 r1.any) r2.any q2 fun z H3 zd s3 r3 q3 => by
      cases zd <;> first | exact q3.elim | skip
      rename_i b
      refine ⟨b, r3, ?_⟩
      have s03 := (s1.trans s2).trans s3
      cases b with
      | false => exact k _ H3 (.bl false) s03 rfl (q3.2 rfl)
      | true => exact ⟨F, ρ, _, R.same s03, q3.1 rfl, fun w' H4 wd s4 r4 q4 => h2 H4 Q Qd u w' y wd (Rep.same (s3.trans s4) r2.any) r4.any q4 fun z' H5 zd' s5 r5 q5 => k z' H5 zd' (s03.trans (s4.trans s5)) (Rep.mono (fun _ z => s03.free (s4.free z)) r5) q5⟩⟩⟩
theorem de_chain {op op' : CmpOp} {r r' : R2} {f f' : D → D → (D → Prop) → Prop} (ho : OpR X (compareOp op) r) (h1 : R2D X.K r f) (ho' : OpR X (compareOp op') r') (h2 : R2D X.K r' f') (ha : DE X a ma da) (hb : DE X b mb db) (hc : DE X c mc dc)
    (hm : lastMarks [op, op'] [b, c] = false := by with_unfolding_all rfl) : DE X (.Compare a [op, op'] [b, c] pos) .fresh (eChain f f' da db dc) := PE.imp (pe_chain ho ho' ha hb hc hm) (chain_up h1 h2)
theorem dt_chain {op op' : CmpOp} {r r' : R2} {f f' : D → D → (D → Prop) → Prop} (ho : OpR X (compareOp op) r) (h1 : R2D X.K r f) (ho' : OpR X (compareOp op') r') (h2 : R2D X.K r' f') (ha : DE X a ma da) (hb : DE X b mb db) (hc : DE X c mc dc)
    (hm : lastMarks [op, op'] [b, c] = false := by with_unfolding_all rfl) : DT X (.Compare a [op, op'] [b, c] pos) (tB (eChain f f' da db dc)) :=
  PT.imp (pt_chain ho ho' ha hb hc hm) fun σ H Q ⟨F, ρ, Qd, R, h, k⟩ => chain_up h1 h2 σ H (fun x H' => ∃ k, x = .bl k ∧ Q k H') ⟨F, ρ, _, R, h, fun v H' x s r q => by
    cases x <;> first | exact q.elim | skip
    rename_i b
    have e : v = V.bl b := r
    exact ⟨b, e, k b H' s q⟩⟩
end

/-! ## defs of the text -/
def gRet (fr : Bool) (H : Hp) : Addr → Prop := match fr with
  | true => New H
  | false => GT
def frM : Bool → Md
  | true => .fresh
  | false => .any
abbrev Pf := List D → (D → Prop) → Prop
def spD (K : PySem.W.Frag) (n : Nat) (fr : Bool) (pf : Pf) : Sp := fun vs H Q _ => ∃ xs Qd, xs.length = n ∧ RepL K H GT xs vs ∧ pf xs Qd ∧ ∀ v H' x, Same H H' → Rep K H' (gRet fr H) x v → Qd x → Q v H'
theorem vr_ret {K : PySem.W.Frag} {fr : Bool} {F : Addr → Prop} {H H1 H' : Hp} {x : D} {v : V} (s : Same H H1) (r : Rep K H' (gRet fr H1) x v) : Vr K (frM fr) F H H' x v := by
  cases fr with
  | true => exact Rep.mono (fun _ z => s.free z) (show Rep K H' (New H1) x v from r)
  | false => exact r
section
variable {X : Cx} {k n : Nat} {f C : Addr} {fd : FuncData} {ps : List Str} {fr : Bool} {pf : Pf} {x m : Str} {p pos apos : Pos} {e o : Expr} {es : List Expr} {dl : TDA} {de : TDE} {mo ml : Md} {nl : Nat}
theorem de_call (Fn : FnOk X.prog X.w X.K X.mg X.base CX0 k f fd ps (spD X.K n fr pf)) (hr : Room k X.A) (hm : X.mg x = some (.ref f)) (hk : PySem.W.keepIn X.K (.ref f) = true) (hb : Binds X.K fd ps [])
    (ha : DA X (e :: es) ml n dl) (hg : Gl X x := by rfl) (hdb : (x == ("__debug__" : Str)) = false := by decide) (he : starEach (e :: es) X.env = (false, eval e X.env) :: starEach es X.env := by rfl) (hpl : (backTo pos (starEach es X.env)).any (·.1) = false := by rfl) :
    DE X (.Call (.Name x p) (e :: es) [] pos) (frM fr) (eCall pf dl) :=
  PE.imp (pe_call Fn hr hg hm hk hb .nil pass0 ha hdb he hpl) fun σ H Q ⟨F, ρ, Qd, R, h, k⟩ => ⟨F, ρ, _, R, h, fun vs H1 xs s1 r1 l q1 =>
    ⟨xs, Qd, by rw [r1.length, l], by rw [List.append_nil]; exact RepL.mono (fun _ _ => trivial) r1, q1, fun v H2 z s2 r2 q2 => k v H2 z (s1.trans s2) (vr_ret s1 r2) q2⟩⟩
def eMeth (C : Addr) (m : Str) (pf : Pf) (de : TDE) (dl : TDA) : TDE := fun ρ Q => de ρ fun x => match x with
  | .ins C' ns ds => C' = C ∧ m ∉ ns ∧ dl ρ fun xs => pf (.ins C' ns ds :: xs) Q
  | _ => False
theorem zip_none {m : Str} : ∀ {ns : List Str} {xs : List V}, m ∉ ns → (ns.zip xs).lookup m = none
  | [], _, _ => rfl
  | _ :: _, [], _ => rfl
  | y :: ns, v :: xs, h => by
    have h1 : ¬ m = y := fun z => h (by rw [z]; exact List.mem_cons_self)
    have h2 : m ∉ ns := fun z => h (List.mem_cons_of_mem _ z)
    have q : (m == y) = false := by simpa using h1
    rw [List.zip_cons_cons, List.lookup_cons, q]
    exact zip_none h2
theorem de_meth {pl : Sem Bool} (he : DE X o mo de) (c : Cls X.K C) (hm : Meth X.K C m f) (Fn : FnOk X.prog X.w X.K X.mg X.base CX0 k f fd ps (spD X.K (n + 1) fr pf)) (hr : Room k X.A) (hb : Binds X.K fd ps []) (ha : DA X (e :: es) ml n dl)
    (hst : starEach (e :: es) X.env = (false, eval e X.env) :: starEach es X.env := by rfl) (hpl : (backTo pos (starEach es X.env)).any (·.1) = false := by rfl)
    (ht : eval (.Call (.Attribute o m apos) (e :: es) [] pos) X.env = (do
      let ov ← eval o X.env
      standAt apos.atName
      let (f, first) ← holding [ov] (getMethod ov m pl)
      callWith pos f first (backTo pos (starEach (e :: es) X.env)) (backToKw pos (keywordEach [] X.env))) := by rfl) :
    DE X (.Call (.Attribute o m apos) (e :: es) [] pos) (frM fr) (eMeth C m pf de dl) :=
  PE.imp (pe_meth he c hm Fn hr hb .nil pass0 ha hst hpl ht) fun σ H Q ⟨F, ρ, Qd, R, h, k⟩ => ⟨F, ρ, _, R, h, fun v H1 x s1 r1 q1 => by
    cases x <;> first | exact q1.elim | skip
    rename_i C' ns ds
    obtain ⟨e1, e2, q1⟩ := q1
    subst e1
    obtain ⟨p, dx, xs, ev, hp, g1, l1, r2⟩ := r1.any
    refine ⟨p, dx, _, ev, hp, zip_none e2, F, ρ, _, R.same s1, q1, fun vs H2 ys s2 r3 l3 q3 => ?_⟩
    have r4 : Rep X.K H2 GT (.ins C' ns ds) v := Rep.same s2 (⟨p, dx, xs, ev, hp, g1, l1, r2⟩ : Rep X.K H1 GT (.ins C' ns ds) v)
    exact ⟨.ins C' ns ds :: ys, Qd, by rw [List.length_cons, r3.length, l3], by rw [List.append_nil]; exact ⟨v, vs, rfl, r4, RepL.mono (fun _ _ => trivial) r3⟩, q3, fun w H3 z s3 r5 q5 => k w H3 z ((s1.trans s2).trans s3) (vr_ret (s1.trans s2) r5) q5⟩⟩
theorem de_meth0 {pl : Sem Bool} (he : DE X o mo de) (c : Cls X.K C) (hm : Meth X.K C m f) (Fn : FnOk X.prog X.w X.K X.mg X.base CX0 k f fd ps (spD X.K 1 fr pf)) (hr : Room k X.A) (hb : Binds X.K fd ps [])
    (ht : eval (.Call (.Attribute o m apos) [] [] pos) X.env = (do
      let ov ← eval o X.env
      standAt apos.atName
      let (f, first) ← holding [ov] (getMethod ov m pl)
      callWith pos f first (backTo pos (starEach [] X.env)) (backToKw pos (keywordEach [] X.env))) := by rfl) :
    DE X (.Call (.Attribute o m apos) [] [] pos) (frM fr) (eMeth C m pf de eNil) :=
  PE.imp (pe_meth0 he c hm Fn hr hb .nil pass0 ht) fun σ H Q ⟨F, ρ, Qd, R, h, k⟩ => ⟨F, ρ, _, R, h, fun v H1 x s1 r1 q1 => by
    cases x <;> first | exact q1.elim | skip
    rename_i C' ns ds
    obtain ⟨e1, e2, q1⟩ := q1
    subst e1
    obtain ⟨p, dx, xs, ev, hp, g1, l1, r2⟩ := r1.any
    refine ⟨p, dx, _, ev, hp, zip_none e2, ?_⟩
    have r4 : Rep X.K H1 GT (.ins C' ns ds) v := ⟨p, dx, xs, ev, hp, g1, l1, r2⟩
    exact ⟨[.ins C' ns ds], Qd, rfl, ⟨v, [], rfl, r4, rfl⟩, q1, fun w H3 z s3 r5 q5 => k w H3 z (s1.trans s3) (vr_ret s1 r5) q5⟩⟩
/-- o.f -/
def eFld (C : Addr) (f : Str) (de : TDE) : TDE := fun ρ Q => de ρ fun x => match x with
  | .ins C' ns ds => C' = C ∧ ∃ d, (ns.zip ds).lookup f = some d ∧ Q d
  | _ => False
theorem zip_some {K : PySem.W.Frag} {H : Hp} {G : Addr → Prop} {f : Str} {d : D} : ∀ {ns : List Str} {ds : List D} {xs : List V}, RepL K H G ds xs → (ns.zip ds).lookup f = some d → ∃ v, (ns.zip xs).lookup f = some v ∧ Rep K H G d v
  | [], _, _, _, e => by cases e
  | _ :: _, [], _, _, e => by cases e
  | y :: ns, d' :: ds, _, ⟨v, xs, ev, r1, r2⟩, e => by
    subst ev
    rw [List.zip_cons_cons, List.lookup_cons] at e ⊢
    cases q : (f == y) with
    | true => rw [q] at e; cases e; exact ⟨v, rfl, r1⟩
    | false => rw [q] at e; exact zip_some r2 e
theorem de_fld {f : Str} (he : DE X e mo de) (c : Cls X.K C) (hn : NoAttr X.K C f) (hb : attributeBase e f X.env (eval e X.env) = eval e X.env := by rfl) : DE X (.Attribute e f pos) mo.elt (eFld C f de) :=
  PE.imp (pe_fld he hb) fun σ H Q ⟨F, ρ, Qd, R, h, k⟩ => ⟨F, ρ, _, R, h, fun v H1 x s1 r1 q1 => by
    cases x <;> first | exact q1.elim | skip
    rename_i C' ns ds
    obtain ⟨e1, d, e2, q1⟩ := q1
    subst e1
    obtain ⟨p, dx, xs, ev, hp, g1, l1, r2⟩ := r1.g
    obtain ⟨w, ew, rw'⟩ := zip_some r2 e2
    refine ⟨p, C', dx, _, w, ev, hp, c, hn, ew, k w H1 d s1 ?_ q1⟩
    cases mo <;> exact rw'⟩
/-- C(..) -/
abbrev Pi := List D → (List Str → List D → Prop) → Prop
def spI (K : PySem.W.Frag) (C : Addr) (n : Nat) (pf : Pi) : Sp := fun vs H Q _ => ∃ x dx ws xs Qd, vs = .ref x :: ws ∧ xs.length = n ∧ RepL K H GT xs ws ∧ H x = some (.ins C dx []) ∧ pf xs Qd ∧
  ∀ H' ns ds us, (∀ a o, a ≠ x → H a = some o → H' a = some o) → H' x = some (.ins C dx (ns.zip us)) → ns.length = ds.length → RepL K H' (New H) ds us → Qd ns ds → Q .non H'
def eMake (C : Addr) (pf : Pi) (dl : TDA) : TDE := fun ρ Q => dl ρ fun xs => pf xs fun ns ds => Q (.ins C ns ds)
theorem de_make {pf : Pi} (M : Mk X.K C f) (Fn : FnOk X.prog X.w X.K X.mg X.base CX0 k f fd ps (spI X.K C n pf)) (hr : Room (k + 1) X.A) (hm : X.mg x = some (.ref C)) (hb : Binds X.K fd ps []) (ha : DA X (e :: es) ml n dl)
    (hg : Gl X x := by rfl) (hdb : (x == ("__debug__" : Str)) = false := by decide) (he : starEach (e :: es) X.env = (false, eval e X.env) :: starEach es X.env := by rfl) (hpl : (backTo pos (starEach es X.env)).any (·.1) = false := by rfl) :
    DE X (.Call (.Name x p) (e :: es) [] pos) .fresh (eMake C pf dl) :=
  PE.imp (pe_make M Fn hr hg hm hb .nil pass0 ha hdb he hpl) fun σ H Q ⟨F, ρ, Qd, R, h, k⟩ => ⟨F, ρ, _, R, h, fun vs H1 xs s1 r1 l q1 => fun x dx nx ndx ne => by
    have s2 : Same H1 (upd (upd H1 dx (.own x)) x (.ins C dx [])) := fun b o e => by
      rw [upd_ne (ne_of_none e nx), upd_ne (ne_of_none e ndx)]; exact e
    refine ⟨x, dx, vs ++ [], xs, _, rfl, by rw [r1.length, l], by rw [List.append_nil]; exact RepL.same s2 (RepL.mono (fun _ _ => trivial) r1), upd_same, q1, fun H2 ns ds us st h2 l2 r2 q2 => ⟨rfl, ?_⟩⟩
    have s3 : Same H1 H2 := fun b o e => st b o (ne_of_none e nx) (s2 b o e)
    refine k _ H2 (.ins C ns ds) (s1.trans s3) ?_ q2
    exact ⟨x, dx, us, rfl, h2, s1.free nx, l2, RepL.mono (fun _ z => s1.free (s2.free z)) r2⟩⟩
end
end DL
namespace DL
open PySem PySem.Spec PyProof.Rows L2

/-! ## statements -/
structure DEnds where
  nx : List SD → Prop
  rt : D → Prop
  bk : List SD → Prop := fun _ => False
  ct : List SD → Prop := fun _ => False
abbrev TDS := DEnds → List SD → Prop
structure Lift (K : PySem.W.Frag) (fr : Bool) (H0 : Hp) (F : Addr → Prop) (H : Hp) (Dd : DEnds) (Dn : Ends) : Prop where
  nx : ∀ F' σ' H' ρ', Ext F H F' H' → SRel K F' H' σ' ρ' → Dd.nx ρ' → Dn.nx σ' H'
  bk : ∀ F' σ' H' ρ', Ext F H F' H' → SRel K F' H' σ' ρ' → Dd.bk ρ' → Dn.bk σ' H'
  ct : ∀ F' σ' H' ρ', Ext F H F' H' → SRel K F' H' σ' ρ' → Dd.ct ρ' → Dn.ct σ' H'
  rt : ∀ F' v H' x, Ext F H F' H' → Rep K H' (gRet fr H0) x v → Dd.rt x → Dn.rt v H'
theorem Lift.step {K : PySem.W.Frag} {fr : Bool} {H0 : Hp} {F F1 : Addr → Prop} {H H1 : Hp} {Dd : DEnds} {Dn : Ends} (L : Lift K fr H0 F H Dd Dn) (e : Ext F H F1 H1) : Lift K fr H0 F1 H1 Dd Dn :=
  ⟨fun F' σ' H' ρ' e' => L.nx F' σ' H' ρ' (e.trans e'), fun F' σ' H' ρ' e' => L.bk F' σ' H' ρ' (e.trans e'), fun F' σ' H' ρ' e' => L.ct F' σ' H' ρ' (e.trans e'), fun F' v H' x e' => L.rt F' v H' x (e.trans e')⟩
def upS (K : PySem.W.Frag) (fr : Bool) (H0 : Hp) (d : TDS) : TS := fun Dn σ H => ∃ F ρ Dd, SRel K F H σ ρ ∧ (∀ a, H0 a ≠ none → F a) ∧ d Dd ρ ∧ Lift K fr H0 F H Dd Dn
abbrev DS (X : Cx) (fr : Bool) (H0 : Hp) (st : Stmt) (d : TDS) : Prop := PS X st (upS X.K fr H0 d)
abbrev DSs (X : Cx) (fr : Bool) (H0 : Hp) (st : List Stmt) (d : TDS) : Prop := PSs X st (upS X.K fr H0 d)
theorem PS.imp {X : Cx} {e : Stmt} {t t' : TS} (h : PS X e t) (i : ∀ Dn σ H, t' Dn σ H → t Dn σ H) : PS X e t' := ⟨fun pins s σ H Q I q => h.run pins s σ H Q I (i Q σ H q)⟩
theorem PSs.imp {X : Cx} {e : List Stmt} {t t' : TS} (h : PSs X e t) (i : ∀ Dn σ H, t' Dn σ H → t Dn σ H) : PSs X e t' := ⟨fun pins s σ H Q I q => h.run pins s σ H Q I (i Q σ H q)⟩
/-- behind an expression: the state, with everything new relied on -/
abbrev grown (F : Addr → Prop) (H H' : Hp) : Addr → Prop := fun a => F a ∨ (H a = none ∧ H' a ≠ none)
theorem Ext.grown {F : Addr → Prop} {H H' : Hp} (s : Same H H') : Ext F H (DL.grown F H H') H' := ⟨fun _ z => .inl z, .of s⟩
theorem Ext.same {F : Addr → Prop} {H H' : Hp} (s : Same H H') : Ext F H F H' := ⟨fun _ z => z, .of s⟩
theorem SRel.grown {K : PySem.W.Frag} {F : Addr → Prop} {H H' : Hp} {σ : L2.St} {ρ : List SD} (R : SRel K F H σ ρ) (s : Same H H') : SRel K (DL.grown F H H') H' σ ρ := R.grow s (fun _ z => .inl z) fun _ z => z
theorem Rep.grown {K : PySem.W.Frag} {F : Addr → Prop} {H H' : Hp} {d : D} {v : V} (r : Rep K H' (fun a => F a ∨ H a = none) d v) : Rep K H' (DL.grown F H H') d v :=
  Rep.mono (fun _ z => z.1.elim .inl fun q => .inr ⟨q, z.2⟩) r.trk
theorem RepL.grown {K : PySem.W.Frag} {F : Addr → Prop} {H H' : Hp} {d : List D} {v : List V} (r : RepL K H' (fun a => F a ∨ H a = none) d v) : RepL K H' (DL.grown F H H') d v :=
  RepL.mono (fun _ z => z.1.elim .inl fun q => .inr ⟨q, z.2⟩) r.trk

section
variable {X : Cx} {fr : Bool} {H0 : Hp} {st : Stmt} {rest : List Stmt} {t u : TDS} {e : Expr} {de : TDE} {m : Md} {pos : Pos}
def dNext : TDS := fun Dd ρ => Dd.nx ρ
def dSeq (t u : TDS) : TDS := fun Dd ρ => t { Dd with nx := u Dd } ρ
theorem dss_nil : DSs X fr H0 [] dNext := PSs.imp pss_nil fun Dn σ H ⟨F, ρ, Dd, R, h0, h, L⟩ => L.nx F σ H ρ .refl R h
theorem dss_cons (h1 : DS X fr H0 st t) (h2 : DSs X fr H0 rest u) : DSs X fr H0 (st :: rest) (dSeq t u) :=
  PSs.imp (pss_cons h1 h2) fun Dn σ H ⟨F, ρ, Dd, R, h0, h, L⟩ => ⟨F, ρ, _, R, h0, h, ⟨fun F' σ' H' ρ' e R' q => ⟨F', ρ', Dd, R', fun a z => e.f a (h0 a z), q, L.step e⟩, L.bk, L.ct, L.rt⟩⟩
theorem dss_one (h1 : DS X fr H0 st t) : DSs X fr H0 [st] t := pss_one h1
def dBreak : TDS := fun Dd ρ => Dd.bk ρ
def dCont : TDS := fun Dd ρ => Dd.ct ρ
theorem ds_pass : DS X fr H0 (.Pass pos) dNext := PS.imp ps_pass fun Dn σ H ⟨F, ρ, Dd, R, h0, h, L⟩ => L.nx F σ H ρ .refl R h
theorem ds_break : DS X fr H0 (.Break pos) dBreak := PS.imp ps_break fun Dn σ H ⟨F, ρ, Dd, R, h0, h, L⟩ => L.bk F σ H ρ .refl R h
theorem ds_continue : DS X fr H0 (.Continue pos) dCont := PS.imp ps_continue fun Dn σ H ⟨F, ρ, Dd, R, h0, h, L⟩ => L.ct F σ H ρ .refl R h
def dNever : TDS := fun _ _ => False
theorem ds_never : DS X fr H0 st dNever := PS.imp ps_never fun Dn σ H ⟨F, ρ, Dd, R, h0, h, L⟩ => h
/-- from here on the list in slot i stays as it is -/
def dFrz (i : Nat) (t : TDS) : TDS := fun Dd ρ => match ρ[i]? with
  | some (.ow ds) => t Dd (ρ.set i (.fz (.lst ds)))
  | _ => t Dd ρ
theorem ds_frz (i : Nat) (h : DS X fr H0 st t) : DS X fr H0 st (dFrz i t) := PS.imp h fun Dn σ H ⟨F, ρ, Dd, R, h0, h, L⟩ => by
  unfold dFrz at h
  split at h
  · rename_i ds hi
    obtain ⟨p, hp, R'⟩ := R.freeze1 hi
    exact ⟨_, _, Dd, R', fun a z => .inl (h0 a z), h, L.step ⟨fun _ z => .inl z, .refl⟩⟩
  · exact ⟨F, ρ, Dd, R, h0, h, L⟩
/-! ### assignment -/
/-- on with the slots ρ -/
structure go (nx : List SD → Prop) (ρ : List SD) : Prop where
  h : nx ρ
theorem go_i {nx : List SD → Prop} {ρ ρ' : List SD} (e : ρ = ρ') (h : nx ρ') : go nx ρ := ⟨by rw [e]; exact h⟩
def asg (m : Md) (i : Nat) (x : D) (nx : List SD → Prop) (ρ : List SD) : Prop :=
  match x with
  | .non => go nx (ρ.set i (.fz .non))
  | .bl b => go nx (ρ.set i (.fz (.bl b)))
  | .int n => go nx (ρ.set i (.fz (.int n)))
  | .str s => go nx (ρ.set i (.fz (.str s)))
  | .lst ds => match m with
    | .any => go nx ((ρ.map frz1).set i (.fz (.lst ds)))
    | .safe => go nx (ρ.set i (.fz (.lst ds)))
    | .own => go nx (ρ.set i (.ow ds))
    | .fresh => (flatL ds = true ∧ go nx (ρ.set i (.ow ds))) ∨ go nx (ρ.set i (.fz (.lst ds)))
  | x => match m with
    | .any => (x.flat = true ∧ go nx (ρ.set i (.fz x))) ∨ go nx ((ρ.map frz1).set i (.fz x))
    | .own => False
    | _ => go nx (ρ.set i (.fz x))
def dSet (m : Md) (i : Nat) (de : TDE) : TDS := fun Dd ρ => de ρ fun x => asg m i x Dd.nx ρ
theorem asg_up {K : PySem.W.Frag} {F : Addr → Prop} {H H' : Hp} {σ : L2.St} {ρ : List SD} {x : D} {v : V} {i : Nat} {nx : List SD → Prop} {Q : Prop} (R : SRel K F H σ ρ) (s : Same H H') (r : Vr K m F H H' x v)
    (h : asg m i x nx ρ) (k : ∀ F' ρ', Ext F H F' H' → SRel K F' H' (σ.set i (some v)) ρ' → nx ρ' → Q) : Q := by
  have fzc : Rep K H' (fun a => F a ∨ H a = none) x v → nx (ρ.set i (.fz x)) → Q := fun r q => k _ _ (.grown s) ((R.grown s).set_fz i r.grown) q
  have owc : ∀ ds p xs, x = .lst ds → v = .ref p → H p = none → H' p = some (.lst xs) → RepL K H' (fun a => F a ∨ (H a = none ∧ a ≠ p)) ds xs → nx (ρ.set i (.ow ds)) → Q := fun ds p xs e1 e2 h1 h2 r3 q => by
    subst e1; subst e2
    refine k (fun a => F a ∨ (H a = none ∧ H' a ≠ none ∧ a ≠ p)) _ ⟨fun _ z => .inl z, .of s⟩ (SRel.set_ow (R.grow s (fun _ z => .inl z) fun a z => z.elim .inl fun w => .inr ⟨w.1, w.2.1⟩) i h2 ?_ ?_ ?_) q
    · exact RepL.mono (fun a z => z.1.elim .inl fun w => .inr ⟨w.1, z.2, w.2⟩) r3.trk
    · rintro (z | z)
      · exact R.sub p z h1
      · exact z.2.2 rfl
    · intro j es hj e1 e2
      obtain ⟨p', xs', a, b, _⟩ := R.ow j es e1
      rw [e2] at a
      cases a
      rw [h1] at b; cases b
  have anyc : nx ((ρ.map frz1).set i (.fz x)) → Q := fun q => by
    have R2 := (R.same s).freeze
    have r2 : Rep K H' (fun a => F a ∨ H' a ≠ none) x v := Rep.mono (fun _ z => .inr z.2) r.any.trk
    exact k _ _ ⟨fun _ z => .inl z, .of s⟩ (R2.set_fz i r2) q
  have flc : x.flat = true → nx (ρ.set i (.fz x)) → Q := fun f q => fzc (Rep.ofFlat (fun _ _ z => z) x v f r.any) q
  unfold asg at h
  split at h
  · exact flc rfl h.h
  · exact flc rfl h.h
  · exact flc rfl h.h
  · exact flc rfl h.h
  · rename_i ds
    cases m with
    | any => exact anyc h.h
    | safe => exact fzc (r.safe (fun z => nomatch z)) h.h
    | own =>
      obtain ⟨ds, p, xs, e1, rfl, h1, h2, h3⟩ := r
      cases e1
      exact owc ds p xs rfl rfl h1 h2 h3 h.h
    | fresh =>
      rcases h with q | q
      · obtain ⟨p, xs, ev, h1, g1, r1⟩ := (show Rep K H' (New H) (.lst ds) v from r)
        exact owc ds p xs rfl ev g1 h1 (RepL.ofFlat (fun _ _ z => z) _ _ q.1 r1) q.2.h
      · exact fzc (r.safe (fun z => nomatch z)) q.h
  · cases m with
    | any =>
      rcases h with ⟨f, q⟩ | q
      · exact flc f q.h
      · exact anyc q.h
    | safe => exact fzc (r.safe (fun z => nomatch z)) h.h
    | own => exact h.elim
    | fresh => exact fzc (r.safe (fun z => nomatch z)) h.h
theorem ds_set {i : Nat} {x : Str} {pos' : Pos} (hN : X.N.Nodup) (he : DE X e m de) (hi : X.N[i]? = some x := by rfl) (hx : Loc X.env.scope x := by first | exact Or.inl rfl | exact Or.inr rfl)
    (hs : swapsWith e (some (.Name x pos')) pos.line X.env = pure false := by rfl) (hf : X.fn x = true ∨ X.env.scope.names.lookup x = some .local := by first | exact .inl rfl | exact .inr rfl) : DS X fr H0 (.Assign [.Name x pos'] e pos) (dSet m i de) :=
  PS.imp (ps_set hN hi hx he hs hf) fun Dn σ H ⟨F, ρ, Dd, R, h0, h, L⟩ => ⟨F, ρ, _, R, h, fun v H' x s r q => asg_up R s r q fun F' ρ' e R' n => L.nx F' _ H' ρ' e R' n⟩
/-- a, b = e1, e2 (flat things) -/
def dPar (i j : Nat) (dl : TDA) : TDS := fun Dd ρ => dl ρ fun xs => match xs with
  | [x, y] => x.flat = true ∧ y.flat = true ∧ go Dd.nx ((ρ.set i (.fz x)).set j (.fz y))
  | _ => False
theorem ds_par {i j n : Nat} {x y : Str} {a b : Expr} {dl : TDA} {px py pt : Pos} {kt k2 pt2} (hc : X.calm = true) (hN : X.N.Nodup) (hij : i ≠ j) (ha : DA X [a, b] m n dl) (hi : X.N[i]? = some x := by rfl) (hj : X.N[j]? = some y := by rfl)
    (hx : X.env.scope.names.lookup x = some .local := by rfl) (hy : X.env.scope.names.lookup y = some .local := by rfl)
    (hw : swappedStores [.Tuple [.Name x px, .Name y py] kt pt] (.Tuple [a, b] k2 pt2) X.env = pure (some [x, y]) := by rfl)
    (hs : swapsWithSole [.Tuple [.Name x px, .Name y py] kt pt] (.Tuple [a, b] k2 pt2) pos.line X.env = pure false := by rfl) :
    DS X fr H0 (.Assign [.Tuple [.Name x px, .Name y py] kt pt] (.Tuple [a, b] k2 pt2) pos) (dPar i j dl) :=
  PS.imp (ps_par hc hN hi hj hij hx hy ha hw hs) fun Dn σ H ⟨F, ρ, Dd, R, h0, h, L⟩ => ⟨F, ρ, _, R, h, fun vs H' xs s r l q => by
    split at q
    · rename_i xd yd
      obtain ⟨v, vs', e1, r1, w, ws, e2, r2, e3⟩ := r
      subst e1; subst e2
      rw [show ws = [] from e3]
      refine ⟨v, w, rfl, L.nx F _ H' _ (.same s) (((R.same s).set_fz i ?_).set_fz j ?_) q.2.2.h⟩
      · exact Rep.ofFlat (fun _ _ z => z) _ _ q.1 r1
      · exact Rep.ofFlat (fun _ _ z => z) _ _ q.2.1 r2
    · exact q.elim⟩
/-! ### targets -/
abbrev TDG := D → List SD → (List SD → Prop) → Prop
def upG (K : PySem.W.Frag) (vs : List Nat) (g : TDG) : TG := fun v σ H Q => ∃ F ρ x Qd, SRel K F H σ ρ ∧ Rep K H F x v ∧ g x ρ Qd ∧ ∀ σ' ρ', SRel K F H σ' ρ' → wipe σ' vs = wipe σ vs → Qd ρ' → Q σ' H
abbrev DG (X : Cx) (tg : Expr) (vs : List Nat) (g : TDG) : Prop := PG X tg (upG X.K vs g)
theorem PG.imp {X : Cx} {e : Expr} {t t' : TG} (h : PG X e t) (i : ∀ v σ H Q, t' v σ H Q → t v σ H Q) : PG X e t' := ⟨fun pins s σ H v u Q I r q => h.run pins s σ H v u Q I r (i v σ H Q q)⟩
def gN (i : Nat) : TDG := fun x ρ Q => go Q (ρ.set i (.fz x))
theorem dg_name {i : Nat} {x : Str} (hN : X.N.Nodup) (hi : X.N[i]? = some x := by rfl) (hx : Loc X.env.scope x := by first | exact Or.inl rfl | exact Or.inr rfl) (hf : X.fn x = true ∨ X.env.scope.names.lookup x = some .local := by first | exact .inl rfl | exact .inr rfl) :
    DG X (.Name x pos) [i] (gN i) := PG.imp (pg_name hN hi hx hf) fun v σ H Q ⟨F, ρ, x, Qd, R, r, h, k⟩ => k _ _ (R.set_fz i r) (by
      show ((σ.set i (some v)).set i none) = σ.set i none
      rw [List.set_set]) h.h
def gN2 (i j : Nat) : TDG := fun x ρ Q => match x with
  | .tup [y, z] => go Q ((ρ.set i (.fz y)).set j (.fz z))
  | _ => False
theorem dg_two {i j : Nat} {x y : Str} {k : Nat} {p1 p2 : Pos} (hc : X.calm = true) (hN : X.N.Nodup) (hij : i ≠ j) (hi : X.N[i]? = some x := by rfl) (hj : X.N[j]? = some y := by rfl) (hx : Loc X.env.scope x := by first | exact Or.inl rfl | exact Or.inr rfl)
    (hy : Loc X.env.scope y := by first | exact Or.inl rfl | exact Or.inr rfl) (hf : X.fn x = true ∨ X.env.scope.names.lookup x = some .local := by first | exact .inl rfl | exact .inr rfl)
    (hf2 : X.fn y = true ∨ X.env.scope.names.lookup y = some .local := by first | exact .inl rfl | exact .inr rfl)
    (hn : (assignEach [.Name x p1, .Name y p2] X.env).length = 2 := by rfl) (hst : (assignEach [.Name x p1, .Name y p2] X.env).findIdx? (·.1) = none := by rfl)
    (hs1 : (assignEach [.Name x p1, .Name y p2] X.env).map (·.2) = assign (.Name x p1) X.env :: (assignEach [.Name y p2] X.env).map (·.2) := by rfl)
    (hs2 : (assignEach [.Name y p2] X.env).map (·.2) = assign (.Name y p2) X.env :: (assignEach [] X.env).map (·.2) := by rfl) : DG X (.Tuple [.Name x p1, .Name y p2] k pos) [j, i] (gN2 i j) :=
  PG.imp (pg_tup hc (pgs_cons (pg_name hN hi hx hf) (pgs_cons (pg_name hN hj hy hf2) pgs_nil hs2) hs1) hn hst) fun v σ H Q ⟨F, ρ, x, Qd, R, r, h, k⟩ => by
    cases x <;> first | exact h.elim | skip
    rename_i ds
    unfold gN2 at h
    split at h
    · rename_i d1 d2 heq
      cases heq
      obtain ⟨a, xs, ev, h1, y1, ys, e1, r1, y2, ys2, e2, r2, e3⟩ := r
      rw [show ys2 = [] from e3] at e2
      subst e2; subst e1
      refine ⟨a, _, ev, h1, rfl, y1, _, rfl, y2, _, rfl, rfl, k _ _ ((R.set_fz i r1).set_fz j r2) ?_ h.h⟩
      show (((σ.set i (some y1)).set j (some y2)).set i none).set j none = (σ.set i none).set j none
      apply List.ext_getElem?
      intro q
      simp only [List.getElem?_set, List.length_set]
      split <;> split <;> first | rfl | (split <;> rfl) | skip
      all_goals simp_all
    · exact h.elim
/-- a, b = e -/
def dSetT (m : Md) (g : TDG) (de : TDE) : TDS := fun Dd ρ => de ρ fun x => match m with
  | .any => (x.flat = true ∧ g x ρ Dd.nx) ∨ g x (ρ.map frz1) Dd.nx
  | _ => g x ρ Dd.nx
theorem ds_setT {tg : Expr} {vs : List Nat} {g : TDG} (he : DE X e m de) (hg : DG X tg vs g) (hs : swapsWithSole [tg] e pos.line X.env = pure false := by rfl) (hw : swappedStores [tg] e X.env = pure none := by rfl)
    (h1 : (assignEach [tg] X.env).map (·.2) = [assign tg X.env] := by rfl) : DS X fr H0 (.Assign [tg] e pos) (dSetT m g de) :=
  PS.imp (ps_asg he hg hs hw h1) fun Dn σ H ⟨F, ρ, Dd, R, h0, h, L⟩ => ⟨F, ρ, _, R, h, fun v H' x s r q => by
    have fzc : Rep X.K H' (fun a => F a ∨ H a = none) x v → g x ρ Dd.nx → upG X.K vs g v σ H' Dn.nx := fun r q =>
      ⟨_, ρ, x, _, R.grown s, r.grown, q, fun σ' ρ' R' _ n => L.nx _ σ' H' ρ' (.grown s) R' n⟩
    cases m with
    | any =>
      rcases q with ⟨f, q⟩ | q
      · exact fzc (Rep.ofFlat (fun _ _ z => z) x v f r.any) q
      · have r2 : Rep X.K H' (fun a => F a ∨ H' a ≠ none) x v := Rep.mono (fun _ z => .inr z.2) r.any.trk
        exact ⟨_, _, x, _, (R.same s).freeze, r2, q, fun σ' ρ' R' _ n => L.nx _ σ' H' ρ' ⟨fun _ z => .inl z, .of s⟩ R' n⟩
    | safe => exact fzc (r.safe (fun z => nomatch z)) q
    | own => exact fzc (r.safe (fun z => nomatch z)) q
    | fresh => exact fzc (r.safe (fun z => nomatch z)) q⟩
/-- x op= e, ints -/
def dAug (g : Int → Int → Int) (i : Nat) (de : TDE) : TDS := fun Dd ρ => match ρ[i]? with
  | some (.fz (.int a)) => de ρ fun x => match x with
    | .int b => go Dd.nx (ρ.set i (.fz (.int (g a b))))
    | _ => False
  | _ => False
theorem ds_aug {i : Nat} {x : Str} {op : Operator} {g : Int → Int → Int} {pos' : Pos} (hN : X.N.Nodup) (he : DE X e m de) (ho : PIp X op (ipI g)) (hi : X.N[i]? = some x := by rfl) (hx : Loc X.env.scope x := by first | exact Or.inl rfl | exact Or.inr rfl)
    (hf : X.fn x = true ∨ X.env.scope.names.lookup x = some .local := by first | exact .inl rfl | exact .inr rfl) : DS X fr H0 (.AugAssign (.Name x pos') op e pos) (dAug g i de) :=
  PS.imp (ps_aug hN hi hx he ho hf) fun Dn σ H ⟨F, ρ, Dd, R, h0, h, L⟩ => by
    unfold dAug at h
    split at h
    · rename_i a hd
      obtain ⟨v, ev, r⟩ := R.fz i _ hd
      have e1 : v = V.int a := r
      subst e1
      refine ⟨_, ev, F, ρ, _, R, h, fun w H' x s r2 q => ?_⟩
      cases x <;> first | exact q.elim | skip
      rename_i b
      exact ⟨a, b, rfl, r2.any, L.nx F _ H' _ (.same s) ((R.same s).set_fz i (d := .int (g a b)) rfl) q.h⟩
    · exact h.elim
/-! ### if, return, expressions -/
def dIf (c : TDT) (t u : TDS) : TDS := fun Dd ρ => c ρ fun b => br b (t Dd ρ) (u Dd ρ)
theorem ds_if {c : Expr} {a b : List Stmt} {tc : TDT} (hc : DT X c tc) (ha : DSs X fr H0 a t) (hb : DSs X fr H0 b u) : DS X fr H0 (.If c a b pos) (dIf tc t u) :=
  PS.imp (ps_if hc ha hb) fun Dn σ H ⟨F, ρ, Dd, R, h0, h, L⟩ => ⟨F, ρ, _, R, h, fun b H' s q => by
    cases b with
    | true => exact ⟨F, ρ, Dd, R.same s, h0, q.1 rfl, L.step (.same s)⟩
    | false => exact ⟨F, ρ, Dd, R.same s, h0, q.2 rfl, L.step (.same s)⟩⟩
def retD (fr : Bool) (m : Md) (x : D) (rt : D → Prop) : Prop := match fr with
  | false => rt x
  | true => match m with
    | .fresh => rt x
    | .own => (match x with
      | .lst ds => flatL ds = true ∧ rt (.lst ds)
      | _ => False)
    | _ => match x with
      | .int n => rt (.int n)
      | .bl b => rt (.bl b)
      | .non => rt .non
      | x => x.flat = true ∧ rt x
def dRet (fr : Bool) (m : Md) (de : TDE) : TDS := fun Dd ρ => de ρ fun x => retD fr m x Dd.rt
theorem ds_ret (he : DE X e m de) : DS X fr H0 (.Return (some e) pos) (dRet fr m de) :=
  PS.imp (ps_ret he) fun Dn σ H ⟨F, ρ, Dd, R, h0, h, L⟩ => ⟨F, ρ, _, R, h, fun v H' x s r q => by
    have old : ∀ a, H a = none → H0 a = none := fun a z => by
      cases e : H0 a with
      | none => rfl
      | some o => exact absurd z (R.sub a (h0 a (by rw [e]; exact fun z => nomatch z)))
    have go : Rep X.K H' (gRet fr H0) x v → Dd.rt x → Dn.rt v H' := L.rt F v H' x (.same s)
    unfold retD at q
    split at q
    · exact go r.any q
    · have fl : x.flat = true → Dd.rt x → Dn.rt v H' := fun f q => go (Rep.ofFlat (fun _ _ z => z) x v f r.any) q
      cases m with
      | fresh => exact go (Rep.mono (fun a z => old a z) (show Rep X.K H' (New H) x v from r)) q
      | own =>
        obtain ⟨ds, p, xs, rfl, rfl, h1, h2, h3⟩ := r
        exact go (show Rep X.K H' (New H0) (.lst ds) (.ref p) from ⟨p, xs, rfl, h2, old p h1, RepL.ofFlat (fun _ _ z => z) _ _ q.1 h3⟩) q.2
      | safe => cases x <;> first | exact fl rfl q | exact fl q.1 q.2
      | any => cases x <;> first | exact fl rfl q | exact fl q.1 q.2⟩
/-- return x -/
def dRetV (fr : Bool) (i : Nat) : TDS := fun Dd ρ => match ρ[i]? with
  | some (.fz x) => (fr = true → x.flat = true) ∧ Dd.rt x
  | some (.ow ds) => (fr = true → flatL ds = true) ∧ Dd.rt (.lst ds)
  | _ => False
theorem ds_retV (i : Nat) {x : Str} {p : Pos} (hN : X.N[i]? = some x := by rfl) (hv : Vis X.env.scope x := by first | exact Or.inl rfl | exact Or.inr (Or.inl rfl) | exact Or.inr (Or.inr rfl)) (hd : (x == ("__debug__" : Str)) = false := by decide)
    (hcd : (x == ("__classdict__" : Str)) = false := by decide) : DS X fr H0 (.Return (some (.Name x p)) pos) (dRetV fr i) :=
  PS.imp (ps_ret (pe_var hN hv hd hcd)) fun Dn σ H ⟨F, ρ, Dd, R, h0, h, L⟩ => by
    unfold dRetV at h
    split at h
    · rename_i x hx
      obtain ⟨v, e, r⟩ := R.fz i x hx
      refine ⟨v, e, L.rt F v H x .refl ?_ h.2⟩
      cases fr with
      | false => exact Rep.mono (fun _ _ => trivial) r
      | true => exact Rep.ofFlat (fun _ _ z => z) x v (h.1 rfl) r
    · rename_i ds hx
      obtain ⟨p, xs, e, h1, r, nf⟩ := R.ow i ds hx
      refine ⟨_, e, L.rt F _ H (.lst ds) .refl ?_ h.2⟩
      cases fr with
      | false => exact ⟨p, xs, rfl, h1, trivial, RepL.mono (fun _ _ => trivial) r⟩
      | true =>
        refine ⟨p, xs, rfl, h1, ?_, RepL.ofFlat (fun _ _ z => z) _ _ (h.1 rfl) r⟩
        show H0 p = none
        cases e2 : H0 p with
        | none => rfl
        | some o => exact absurd (h0 p (by rw [e2]; exact fun z => nomatch z)) nf
    · exact h.elim
def dRetN : TDS := fun Dd _ => Dd.rt .non
theorem ds_retN : DS X fr H0 (.Return none pos) dRetN := PS.imp ps_retN fun Dn σ H ⟨F, ρ, Dd, R, h0, h, L⟩ => L.rt F .non H .non .refl rfl h
def dDrop (de : TDE) : TDS := fun Dd ρ => de ρ fun _ => Dd.nx ρ
theorem ds_expr (he : DE X e m de) (hs : swapsWith e none pos.line X.env = pure false := by rfl) : DS X fr H0 (.Expr e pos) (dDrop de) :=
  PS.imp (ps_expr he hs) fun Dn σ H ⟨F, ρ, Dd, R, h0, h, L⟩ => ⟨F, ρ, _, R, h, fun v H' x s r q => L.nx F σ H' ρ (.same s) (R.same s) q⟩
end
end DL
namespace DL
open PySem PySem.Spec PyProof.Rows L2

/-! ## a list that a slot owns is changed -/
section
variable {K : PySem.W.Frag} {F : Addr → Prop} {H : Hp} {σ : L2.St} {ρ : List SD} {i : Nat} {ds ds' : List D} {p : Addr} {xs xs' : List V}
theorem Stab.upd (nf : ¬ F p) (hp : H p = some (.lst xs)) : Stab F H (upd H p (.lst xs')) where
  mt := fun a o g e => by
    have ne : a ≠ p := fun z => by
      subst z; exact nf g
    rw [upd_ne ne]; exact e
  tp := fun a ys h => by
    rcases h with h | ⟨o, h⟩
    · exact .inl (by rw [upd_ne (ne_of h hp (fun z => nomatch z))]; exact h)
    · exact .inr ⟨o, by rw [upd_ne (ne_of h hp (fun z => nomatch z))]; exact h⟩
theorem SRel.mut (R : SRel K F H σ ρ) (hi : ρ[i]? = some (.ow ds)) (hs : σ[i]? = some (some (V.ref p))) (hp : H p = some (.lst xs)) (nf : ¬ F p) (r : RepL K H F ds' xs') : SRel K F (upd H p (.lst xs')) σ (ρ.set i (.ow ds')) := by
  have st : Stab F H (L2.upd H p (.lst xs')) := Stab.upd nf hp
  have hl : i < ρ.length := (List.getElem?_eq_some_iff.mp hi).1
  have sh : ∀ (j : Nat) es, i ≠ j → (ρ.set i (SD.ow ds'))[j]? = some (SD.ow es) → ρ[j]? = some (.ow es) := fun j es hj q => by
    rwa [List.getElem?_set_ne hj] at q
  refine ⟨by rw [List.length_set, R.len], fun j d q => ?_, fun j es q => ?_, fun j k es es' q n q1 q2 => ?_, fun a z => ?_⟩
  · by_cases hj : i = j
    · subst hj
      rw [List.getElem?_set_self hl] at q
      cases q
    · rw [List.getElem?_set_ne hj] at q
      obtain ⟨v, a, b⟩ := R.fz j d q
      exact ⟨v, a, Rep.stab st (fun _ z => z) d v b⟩
  · by_cases hj : i = j
    · subst hj
      rw [List.getElem?_set_self hl] at q
      cases q
      exact ⟨p, xs', hs, upd_same, RepL.stab st (fun _ z => z) _ _ r, nf⟩
    · have q' := sh j es hj q
      obtain ⟨p', ys, a, b, c, d⟩ := R.ow j es q'
      have np : p' ≠ p := fun z => by
        subst z
        exact R.ap i j _ _ _ hj hi q' hs a
      exact ⟨p', ys, a, by rw [upd_ne np]; exact b, RepL.stab st (fun _ z => z) _ _ c, d⟩
  · have f : ∀ (j : Nat) es, (ρ.set i (SD.ow ds'))[j]? = some (SD.ow es) → ∃ es', ρ[j]? = some (.ow es') := fun j es q => by
      by_cases hj : i = j
      · subst hj; exact ⟨_, hi⟩
      · exact ⟨es, sh j es hj q⟩
    obtain ⟨_, a1⟩ := f j es q1
    obtain ⟨_, a2⟩ := f k es' q2
    exact R.ap j k _ _ q n a1 a2
  · by_cases hb : a = p
    · exact absurd (hb ▸ z) nf
    · rw [upd_ne hb]; exact R.sub a z
end

section
variable {X : Cx} {fr : Bool} {H0 : Hp} {e e2 : Expr} {de de2 : TDE} {dl : TDA} {m m2 : Md} {n : Nat} {pos apos cpos p1 : Pos}
/-- what may be kept in a list -/
def keepOk (m : Md) (x : D) : Prop := match m with
  | .any => x.flat = true
  | _ => True
theorem keep_rep {K : PySem.W.Frag} {F : Addr → Prop} {H H' : Hp} {x : D} {v : V} (r : Vr K m F H H' x v) (k : keepOk m x) : Rep K H' (DL.grown F H H') x v := by
  cases m with
  | any => exact Rep.ofFlat (fun _ _ z => z) x v k r.any
  | safe => exact Rep.grown (r.safe (fun z => nomatch z))
  | fresh => exact Rep.grown (r.safe (fun z => nomatch z))
  | own => exact Rep.grown (r.safe (fun z => nomatch z))
/-- x.append(e) -/
def dApp (i : Nat) (m : Md) (de : TDE) : TDS := fun Dd ρ => match ρ[i]? with
  | some (.ow ds) => de ρ fun x => ds.length < 1000000 ∧ keepOk m x ∧ go Dd.nx (ρ.set i (.ow (ds ++ [x])))
  | _ => False
theorem ds_append (i : Nat) {x : Str} (he : DE X e m de) (hN : X.N[i]? = some x := by rfl) (hv : Vis X.env.scope x := by first | exact Or.inl rfl | exact Or.inr (Or.inl rfl) | exact Or.inr (Or.inr rfl)) (hd : (x == ("__debug__" : Str)) = false := by decide)
    (hcd : (x == ("__classdict__" : Str)) = false := by decide)
    (hbase : attributeBase (.Name x p1) "append" X.env (eval (.Name x p1) X.env) = eval (.Name x p1) X.env := by rfl)
    (hfew : ((backTo cpos (starEach [e] X.env)).all (fun x => !x.1) && (backToKw cpos (keywordEach [] X.env)).all (fun x => x.1.isSome)
      && decide ([e].length + ([] : List Keyword).length + (if ([] : List Keyword).isEmpty then 0 else 1) < 30)) = true := by rfl)
    (hline : (apos.endLine == cpos.line) = true := by rfl) (hs : starEach [e] X.env = (false, eval e X.env) :: starEach [] X.env := by rfl) (hplain : (backTo cpos (starEach [] X.env)).any (·.1) = false := by rfl)
    (hsw : swapsWith (.Call (.Attribute (.Name x p1) "append" apos) [e] [] cpos) none pos.line X.env = pure false := by rfl) :
    DS X fr H0 (.Expr (.Call (.Attribute (.Name x p1) "append" apos) [e] [] cpos) pos) (dApp i m de) :=
  PS.imp (ps_expr (pe_bm PySem.F.plainAttrs_list PySem.F.slot_list_append PySem.F.type_list_append mt_append (pe_var hN hv hd hcd) (pa_cons he pa_nil hs) hbase hfew hline hs hplain) hsw) fun Dn σ H ⟨F, ρ, Dd, R, h0, h, L⟩ => by
    unfold dApp at h
    split at h
    · rename_i ds hi
      obtain ⟨p, xs, es, hp, r, nf⟩ := R.ow i ds hi
      refine ⟨_, es, .inl ⟨rfl, xs, .of hp⟩, F, ρ, _, R, h, fun v H' y s rv q => ?_⟩
      have hp' := s _ _ hp
      have nf' : ¬ DL.grown F H H' p := fun z => z.elim nf fun w => by rw [hp] at w; exact nomatch w.1
      have R' := (R.grown s).mut hi es hp' nf' (RepL.append (RepL.stab (.of s) (fun _ z => .inl z) _ _ r) (RepL.one (keep_rep rv q.2.1)))
      exact ⟨p, xs, v, rfl, rfl, hp', by rw [← r.length]; exact Nat.lt_of_lt_of_le q.1 mil, L.nx _ σ _ _ (.trans (.grown s) ⟨fun _ z => z, Stab.upd nf' hp'⟩) R' q.2.2.h⟩
    · exact h.elim
/-- x.clear(), x.reverse() -/
def dMut (i : Nat) (g : List D → List D) : TDS := fun Dd ρ => match ρ[i]? with
  | some (.ow ds) => go Dd.nx (ρ.set i (.ow (g ds)))
  | _ => False
theorem ds_clear (i : Nat) {x : Str} (hN : X.N[i]? = some x := by rfl) (hv : Vis X.env.scope x := by first | exact Or.inl rfl | exact Or.inr (Or.inl rfl) | exact Or.inr (Or.inr rfl)) (hd : (x == ("__debug__" : Str)) = false := by decide)
    (hcd : (x == ("__classdict__" : Str)) = false := by decide)
    (hbase : attributeBase (.Name x p1) "clear" X.env (eval (.Name x p1) X.env) = eval (.Name x p1) X.env := by rfl) (hline : (apos.endLine == cpos.line) = true := by rfl)
    (hsw : swapsWith (.Call (.Attribute (.Name x p1) "clear" apos) [] [] cpos) none pos.line X.env = pure false := by rfl) :
    DS X fr H0 (.Expr (.Call (.Attribute (.Name x p1) "clear" apos) [] [] cpos) pos) (dMut i fun _ => []) :=
  PS.imp (ps_expr (pe_bm0 PySem.F.plainAttrs_list PySem.F.slot_list_clear PySem.F.type_list_clear mt_clear (pe_var hN hv hd hcd) hbase hline) hsw) fun Dn σ H ⟨F, ρ, Dd, R, h0, h, L⟩ => by
    unfold dMut at h
    split at h
    · rename_i ds hi
      obtain ⟨p, xs, es, hp, r, nf⟩ := R.ow i ds hi
      refine ⟨_, es, .inl ⟨rfl, xs, .of hp⟩, p, xs, rfl, rfl, hp, ?_⟩
      exact L.nx _ σ _ _ ⟨fun _ z => z, Stab.upd nf hp⟩ (R.mut hi es hp nf (ds' := []) rfl) h.h
    · exact h.elim
theorem ds_reverse (i : Nat) {x : Str} (hN : X.N[i]? = some x := by rfl) (hv : Vis X.env.scope x := by first | exact Or.inl rfl | exact Or.inr (Or.inl rfl) | exact Or.inr (Or.inr rfl)) (hd : (x == ("__debug__" : Str)) = false := by decide)
    (hcd : (x == ("__classdict__" : Str)) = false := by decide)
    (hbase : attributeBase (.Name x p1) "reverse" X.env (eval (.Name x p1) X.env) = eval (.Name x p1) X.env := by rfl) (hline : (apos.endLine == cpos.line) = true := by rfl)
    (hsw : swapsWith (.Call (.Attribute (.Name x p1) "reverse" apos) [] [] cpos) none pos.line X.env = pure false := by rfl) :
    DS X fr H0 (.Expr (.Call (.Attribute (.Name x p1) "reverse" apos) [] [] cpos) pos) (dMut i List.reverse) :=
  PS.imp (ps_expr (pe_bm0 PySem.F.plainAttrs_list PySem.F.slot_list_reverse PySem.F.type_list_reverse mt_reverse (pe_var hN hv hd hcd) hbase hline) hsw) fun Dn σ H ⟨F, ρ, Dd, R, h0, h, L⟩ => by
    unfold dMut at h
    split at h
    · rename_i ds hi
      obtain ⟨p, xs, es, hp, r, nf⟩ := R.ow i ds hi
      refine ⟨_, es, .inl ⟨rfl, xs, .of hp⟩, p, xs, rfl, rfl, hp, ?_⟩
      exact L.nx _ σ _ _ ⟨fun _ z => z, Stab.upd nf hp⟩ (R.mut hi es hp nf (RepL.reverse r)) h.h
    · exact h.elim
/-- x[e2] = e -/
def dPut (i : Nat) (m : Md) (de de2 : TDE) : TDS := fun Dd ρ => match ρ[i]? with
  | some (.ow ds) => de ρ fun x => de2 ρ fun y => match y with
    | .int z => ∃ j, ixN ds.length z = some j ∧ keepOk m x ∧ go Dd.nx (ρ.set i (.ow (ds.set j x)))
    | _ => False
  | _ => False
theorem ds_put (i : Nat) {x : Str} {p2 : Pos} (he : DE X e m de) (h2 : DE X e2 m2 de2) (hN : X.N[i]? = some x := by rfl) (hv : Vis X.env.scope x := by first | exact Or.inl rfl | exact Or.inr (Or.inl rfl) | exact Or.inr (Or.inr rfl)) (hd : (x == ("__debug__" : Str)) = false := by decide)
    (hcd : (x == ("__classdict__" : Str)) = false := by decide)
    (ha : ∀ v, assign (.Subscript (.Name x p1) e2 p2) X.env v = (do
      let ov ← holding [v] (eval (.Name x p1) X.env)
      let iv ← holding [v, ov] (eval e2 X.env)
      standAt p2
      holding [v, ov, iv] (setItem ov iv v)
      release [v, ov, iv] []) := by intro _; rfl)
    (hs : swapsWithSole [.Subscript (.Name x p1) e2 p2] e pos.line X.env = pure false := by rfl) (hw : swappedStores [.Subscript (.Name x p1) e2 p2] e X.env = pure none := by rfl)
    (h1 : (assignEach [.Subscript (.Name x p1) e2 p2] X.env).map (·.2) = [assign (.Subscript (.Name x p1) e2 p2) X.env] := by rfl) :
    DS X fr H0 (.Assign [.Subscript (.Name x p1) e2 p2] e pos) (dPut i m de de2) :=
  PS.imp (ps_asg he (pg_sub (pe_var hN hv hd hcd) h2 set_list ha) hs hw h1) fun Dn σ H ⟨F, ρ, Dd, R, h0, h, L⟩ => by
    unfold dPut at h
    split at h
    · rename_i ds hi
      obtain ⟨p, xs, es, hp, r, nf⟩ := R.ow i ds hi
      refine ⟨F, ρ, _, R, h, fun v H' y s rv q => ⟨_, es, F, ρ, _, R.same s, q, fun w H2 z s2 rw' q2 => ?_⟩⟩
      cases z <;> first | exact q2.elim | skip
      rename_i z
      obtain ⟨j, hj, kk, q2⟩ := q2
      have s3 := s.trans s2
      have hp' := s3 _ _ hp
      have nf' : ¬ DL.grown F H H2 p := fun z => z.elim nf fun w => by rw [hp] at w; exact nomatch w.1
      have R' := (R.grown s3).mut hi es hp' nf' (RepL.set j (RepL.stab (.of s3) (fun _ z => .inl z) _ _ r) (keep_rep (rv.later s2) kk))
      exact ⟨p, xs, z, j, rfl, rw'.any, hp', by rw [← r.length]; exact hj, L.nx _ σ _ _ (.trans (.grown s3) ⟨fun _ z => z, Stab.upd nf' hp'⟩) R' q2.h⟩
    · exact h.elim

/-! ## what a loop walks -/
structure Yields (K : PySem.W.Frag) (J : It) (F : Addr → Prop) (H : Hp) (xs : List D) : Prop where
  go : ∀ i H', Stab F H H' → i < xs.length → J.go i H'
  stop : ∀ i H', Stab F H H' → xs.length ≤ i → J.stop i H'
  yld : ∀ i H' v H2, Stab F H H' → i < xs.length → J.yld i H' v H2 → Same H' H2 ∧ ∃ d, xs[i]? = some d ∧ Rep K H2 (fun a => F a ∨ H' a = none) d v
def upI (K : PySem.W.Frag) (d : TDA) : TI := fun σ H R => ∃ F ρ Qd, SRel K F H σ ρ ∧ d ρ Qd ∧ ∀ J H' xs, Same H H' → Yields K J (DL.grown F H H') H' xs → Qd xs → R J H'
abbrev DI (X : Cx) (tg iter : Expr) (d : TDA) : Prop := PI X tg iter (upI X.K d)
theorem PI.imp {X : Cx} {tg e : Expr} {t t' : TI} (h : PI X tg e t) (i : ∀ σ H Q, t' σ H Q → t σ H Q) : PI X tg e t' := ⟨fun pins s σ H Q I q => h.run pins s σ H Q I (i σ H Q q)⟩
/-- a list; not one that its slot may change -/
def iL (de : TDE) : TDA := fun ρ Q => de ρ fun x => match x with
  | .lst ds => Q ds
  | _ => False
theorem di_list {tg : Expr} (he : DE X e m de) (hm : m ≠ .any := by exact fun z => nomatch z) : DI X tg e (iL de) :=
  PI.imp (pi_list he) fun σ H Q ⟨F, ρ, Qd, R, h, k⟩ => ⟨F, ρ, _, R, h, fun v H1 x s r q => by
    cases x <;> first | exact q.elim | skip
    rename_i ds
    obtain ⟨p, xs, ev, hp, g1, rr⟩ := Rep.grown (r.safe hm)
    have at' : ∀ H', Stab (DL.grown F H H1) H1 H' → H' p = some (.lst xs) := fun H' st => st.mt _ _ g1 hp
    refine ⟨p, ev, ⟨xs, .of hp⟩, k _ H1 ds s ⟨fun i H' st hi => ?_, fun i H' st hi => ⟨xs, .of (at' H' st), by rw [← rr.length]; exact hi⟩, fun i H' w H2 st _ y => ?_⟩ q⟩
    · have hi' : i < xs.length := by rw [← rr.length]; exact hi
      exact ⟨xs, xs[i], .of (at' H' st), by simp [hi']⟩
    · obtain ⟨e2, y⟩ := y
      subst e2
      obtain ⟨d, e3, r3⟩ := RepL.getV rr (y xs (.of (at' _ st)))
      exact ⟨.refl _, d, e3, Rep.stab st (fun _ z => .inl z) d w r3⟩⟩
theorem yields_range {K : PySem.W.Frag} {F : Addr → Prop} {H : Hp} {lo c : Int} {n : Nat} {J : It} (hgo : ∀ i H', i < n → J.go i H') (hst : ∀ i H', n ≤ i → J.stop i H') (hlt : ∀ (i : Nat) H' v H2, J.yld i H' v H2 → H2 = H' ∧ v = .int (lo + (i : Nat) * c)) :
    Yields K J F H ((List.range n).map fun i : Nat => D.int (lo + (i : Int) * c)) where
  go := fun i H' _ h => hgo i H' (by simpa using h)
  stop := fun i H' _ h => hst i H' (by simpa using h)
  yld := fun i H' v H2 _ hi y => by
    obtain ⟨e1, e2⟩ := hlt i H' v H2 y
    subst e1; subst e2
    have hi' : i < n := by simpa using hi
    refine ⟨.refl _, .int (lo + (i : Nat) * c), ?_, rfl⟩
    rw [List.getElem?_map, List.getElem?_range hi']; rfl
/-- range(a), range(a, b), range(a, b, c): the ints as data -/
def rangeD (lo c : Int) (n : Nat) : List D := (List.range n).map fun i : Nat => D.int (lo + (i : Int) * c)
def iR1 (dl : TDA) : TDA := fun ρ Q => dl ρ fun xs => match xs with
  | [.int j] => -(2 ^ 62) ≤ j ∧ j < 2 ^ 62 ∧ Q ((List.range j.toNat).map fun i : Nat => D.int (i : Int))
  | _ => False
def iR2 (dl : TDA) : TDA := fun ρ Q => dl ρ fun xs => match xs with
  | [.int i, .int j] => (-(2 ^ 62) ≤ i ∧ i < 2 ^ 62 ∧ -(2 ^ 62) ≤ j ∧ j < 2 ^ 62) ∧ Q ((List.range (j - i).toNat).map fun k : Nat => D.int (i + (k : Int)))
  | _ => False
def iR3 (dl : TDA) : TDA := fun ρ Q => dl ρ fun xs => match xs with
  | [.int i, .int j, .int c] => ∃ n : Nat, RgC i j c n ∧ Q ((List.range n).map fun k : Nat => D.int (i + (k : Int) * c))
  | _ => False
theorem di_range1 {tg a : Expr} {p : Pos} (hm : X.mg "range" = none) (ha : DA X [a] m n dl) (hg : Gl X "range" := by rfl) (hs : starEach [a] X.env = [(false, eval a X.env)] := by rfl) : DI X tg (.Call (.Name "range" p) [a] [] pos) (iR1 dl) :=
  PI.imp (pi_range1 hg hm ha hs) fun σ H Q ⟨F, ρ, Qd, R, h, k⟩ => ⟨F, ρ, _, R, h, fun vs H1 xs s r l q => by
    split at q
    · rename_i j
      refine ⟨_, one_int r, q.1, q.2.1, k _ H1 _ s ?_ q.2.2⟩
      have y : Yields X.K (Itr 0 j.toNat) (DL.grown F H H1) H1 _ := yields_range (J := Itr 0 j.toNat) (lo := 0) (c := 1) (n := j.toNat) (fun i H' h => h) (fun i H' h => h) fun i H' v H2 y => ⟨y.1, by rw [y.2, Int.mul_one]⟩
      have e : (fun i : Nat => D.int (0 + (i : Int) * 1)) = fun i : Nat => D.int (i : Int) := by funext i; rw [Int.mul_one, Int.zero_add]
      rw [e] at y
      exact y
    · exact q.elim⟩
theorem di_range2 {tg a b : Expr} {p : Pos} (hm : X.mg "range" = none) (ha : DA X [a, b] m n dl) (hg : Gl X "range" := by rfl) (hs : starEach [a, b] X.env = [(false, eval a X.env), (false, eval b X.env)] := by rfl) (hs2 : starEach [b] X.env = [(false, eval b X.env)] := by rfl) :
    DI X tg (.Call (.Name "range" p) [a, b] [] pos) (iR2 dl) :=
  PI.imp (pi_range2 hg hm ha hs hs2) fun σ H Q ⟨F, ρ, Qd, R, h, k⟩ => ⟨F, ρ, _, R, h, fun vs H1 xs s r l q => by
    split at q
    · rename_i a0 b0
      refine ⟨_, _, two_int r, q.1, k _ H1 _ s ?_ q.2⟩
      have y : Yields X.K (Itr a0 (b0 - a0).toNat) (DL.grown F H H1) H1 _ := yields_range (J := Itr a0 (b0 - a0).toNat) (lo := a0) (c := 1) (n := (b0 - a0).toNat) (fun i H' h => h) (fun i H' h => h) fun i H' v H2 y => ⟨y.1, by rw [y.2, Int.mul_one]⟩
      have e : ∀ z : Int, (fun i : Nat => D.int (z + (i : Int) * 1)) = fun i : Nat => D.int (z + (i : Int)) := fun z => by funext i; rw [Int.mul_one]
      rw [e] at y
      exact y
    · exact q.elim⟩
theorem di_range3 {tg a b c : Expr} {p : Pos} (hm : X.mg "range" = none) (ha : DA X [a, b, c] m n dl) (hg : Gl X "range" := by rfl)
    (hs : starEach [a, b, c] X.env = (false, eval a X.env) :: starEach [b, c] X.env := by rfl) (hpl : (backTo pos (starEach [b, c] X.env)).any (·.1) = false := by rfl) :
    DI X tg (.Call (.Name "range" p) [a, b, c] [] pos) (iR3 dl) :=
  PI.imp (pi_range3 hg hm ha hs hpl) fun σ H Q ⟨F, ρ, Qd, R, h, k⟩ => ⟨F, ρ, _, R, h, fun vs H1 xs s r l q => by
    split at q
    · obtain ⟨n, hn, q⟩ := q
      obtain ⟨y1, ys1, e1, h1, y2, ys2, e2, h2, y3, ys3, e3, h3, h4⟩ := r
      refine ⟨_, _, _, n, by rw [e1, e2, e3, show y1 = _ from h1, show y2 = _ from h2, show y3 = _ from h3, show ys3 = [] from h4], hn, k _ H1 _ s ?_ q⟩
      exact yields_range (J := Itc _ _ n) (fun i H' h => h) (fun i H' h => h) fun i H' v H2 y => y
    · exact q.elim⟩
/-- enumerate(xs), zip(xs, ys) -/
def iEn (dl : TDA) : TDA := fun ρ Q => dl ρ fun xs => match xs with
  | [.lst ds] => Q (ds.zipIdx.map fun p => D.tup [.int (p.2 : Nat), p.1])
  | _ => False
def iZp (dl : TDA) : TDA := fun ρ Q => dl ρ fun xs => match xs with
  | [.lst ds, .lst es] => Q ((ds.zip es).map fun p => D.tup [p.1, p.2])
  | _ => False
theorem gOf_safe {m : Md} {F : Addr → Prop} {H : Hp} {a : Addr} (hm : m ≠ .any) (g : gOf m F H a) : F a ∨ H a = none := by
  cases m with
  | any => exact absurd rfl hm
  | safe => exact g
  | fresh => exact .inr g
  | own => exact g
theorem tup_new {K : PySem.W.Frag} {H : Hp} {G : Addr → Prop} {ds : List D} {xs : List V} {T : Addr} (hT : H T = none) (r : RepL K H G ds xs) : Rep K (upd H T (.tup xs)) G (.tup ds) (.ref T) :=
  ⟨T, xs, rfl, .of upd_same, RepL.same (same_new hT) r⟩
theorem di_enum {e : Expr} {p tpos : Pos} {elts : List Expr} {kk : Nat} (hm : X.mg "enumerate" = none) (ha : DA X [e] m n dl) (hmo : m ≠ .any := by exact fun z => nomatch z) (hg : Gl X "enumerate" := by rfl) (hs : starEach [e] X.env = [(false, eval e X.env)] := by rfl) :
    DI X (.Tuple elts kk tpos) (.Call (.Name "enumerate" p) [e] [] pos) (iEn dl) :=
  PI.imp (pi_enum hg hm ha hs) fun σ H Q ⟨F, ρ, Qd, R, h, k⟩ => ⟨F, ρ, _, R, h, fun vs H1 xs s r l q => by
    split at q
    · rename_i ds
      obtain ⟨y, ys, ev, rr, e0⟩ := r
      rw [show ys = [] from e0] at ev
      subst ev
      obtain ⟨p, zs, ey, hp, g1, r1⟩ := Rep.grown (Rep.mono (fun a z => gOf_safe hmo z) rr)
      have at' : ∀ H', Stab (DL.grown F H H1) H1 H' → H' p = some (.lst zs) := fun H' st => st.mt _ _ g1 hp
      refine ⟨p, zs, by rw [ey], .of hp, k _ H1 _ s ⟨fun i H' st hi => ?_, fun i H' st hi => ⟨zs, .of (at' H' st), by rw [← r1.length]; simpa using hi⟩, fun i H' w H2 st hi y => ?_⟩ q⟩
      · have hi' : i < zs.length := by rw [← r1.length]; simpa using hi
        exact ⟨zs, zs[i], .of (at' H' st), by simp [hi']⟩
      · obtain ⟨T, x, ew, hT, eH, hx⟩ := y
        subst ew; subst eH
        obtain ⟨d, e3, r3⟩ := RepL.getV r1 (hx zs (.of (at' _ st)))
        refine ⟨same_new hT, .tup [.int (i : Nat), d], ?_, tup_new hT ⟨_, _, rfl, rfl, _, _, rfl, Rep.stab st (fun _ z => .inl z) d x r3, rfl⟩⟩
        rw [List.getElem?_map, List.getElem?_zipIdx, e3]
        simp
    · exact q.elim⟩
theorem di_zip {e e2 : Expr} {p tpos : Pos} {elts : List Expr} {kk : Nat} (hm : X.mg "zip" = none) (ha : DA X [e, e2] m n dl) (hmo : m ≠ .any := by exact fun z => nomatch z) (hg : Gl X "zip" := by rfl)
    (hs : starEach [e, e2] X.env = (false, eval e X.env) :: starEach [e2] X.env := by rfl) (hpl : (backTo pos (starEach [e2] X.env)).any (·.1) = false := by rfl) :
    DI X (.Tuple elts kk tpos) (.Call (.Name "zip" p) [e, e2] [] pos) (iZp dl) :=
  PI.imp (pi_zip hg hm ha hs hpl) fun σ H Q ⟨F, ρ, Qd, R, h, k⟩ => ⟨F, ρ, _, R, h, fun vs H1 xs s r l q => by
    split at q
    · rename_i ds es
      obtain ⟨y, ys, ev, rr, y2, ys2, ev2, rr2, e0⟩ := r
      rw [show ys2 = [] from e0] at ev2
      subst ev2; subst ev
      obtain ⟨p, zs, ey, hp, g1, r1⟩ := Rep.grown (Rep.mono (fun a z => gOf_safe hmo z) rr)
      obtain ⟨p', zs', ey', hp', g1', r1'⟩ := Rep.grown (Rep.mono (fun a z => gOf_safe hmo z) rr2)
      have at' : ∀ H', Stab (DL.grown F H H1) H1 H' → H' p = some (.lst zs) := fun H' st => st.mt _ _ g1 hp
      have at2 : ∀ H', Stab (DL.grown F H H1) H1 H' → H' p' = some (.lst zs') := fun H' st => st.mt _ _ g1' hp'
      have l1 := r1.length
      have l2 := r1'.length
      refine ⟨p, p', zs, zs', by rw [ey, ey'], .of hp, .of hp', k _ H1 _ s ⟨fun i H' st hi => ?_, fun i H' st hi => ⟨zs, zs', .of (at' H' st), .of (at2 H' st), ?_⟩, fun i H' w H2 st hi y => ?_⟩ q⟩
      · rw [List.length_map, List.length_zip] at hi
        have h1 : i < zs.length := by omega
        have h2 : i < zs'.length := by omega
        exact ⟨zs, zs', zs[i], zs'[i], .of (at' H' st), .of (at2 H' st), by simp [h1], by simp [h2]⟩
      · rw [List.length_map, List.length_zip] at hi
        omega
      · obtain ⟨T, x, y, ew, hT, eH, hx, hy⟩ := y
        subst ew; subst eH
        obtain ⟨d, e3, r3⟩ := RepL.getV r1 (hx zs (.of (at' _ st)))
        obtain ⟨d', e3', r3'⟩ := RepL.getV r1' (hy zs' (.of (at2 _ st)))
        refine ⟨same_new hT, .tup [d, d'], ?_, tup_new hT ⟨_, _, rfl, Rep.stab st (fun _ z => .inl z) d x r3, _, _, rfl, Rep.stab st (fun _ z => .inl z) d' y r3', rfl⟩⟩
        have ez : (ds.zip es)[i]? = some (d, d') := List.getElem?_zip_eq_some.mpr ⟨e3, e3'⟩
        rw [List.getElem?_map, ez]
        rfl
    · exact q.elim⟩

/-! ## for -/
/-- over data: an invariant by the turn -/
structure dLoop (g : TDG) (tb : TDS) (xs : List D) (Dd : DEnds) (ρ : List SD) : Prop where
  by_ : ∃ P : Nat → List SD → Prop, P 0 ρ ∧ (∀ (i : Nat) x ρ, xs[i]? = some x → P i ρ → g x ρ fun ρ2 => tb { Dd with nx := P (i + 1), ct := P (i + 1), bk := Dd.nx } ρ2) ∧ ∀ ρ, P xs.length ρ → Dd.nx ρ
theorem loop_by {g : TDG} {tb : TDS} {xs : List D} {Dd : DEnds} {ρ : List SD} (P : Nat → List SD → Prop) (h0 : P 0 ρ) (hs : ∀ (i : Nat) x ρ, xs[i]? = some x → P i ρ → g x ρ fun ρ2 => tb { Dd with nx := P (i + 1), ct := P (i + 1), bk := Dd.nx } ρ2)
    (hd : ∀ ρ, P xs.length ρ → Dd.nx ρ) : dLoop g tb xs Dd ρ := ⟨⟨P, h0, hs, hd⟩⟩
/-- over the image of a list -/
theorem loop_on {α : Type} {l : List α} {f : α → D} {xs : List D} {g : TDG} {tb : TDS} {Dd : DEnds} {ρ : List SD} (e : xs = l.map f) (P : List α → List SD → Prop) (h0 : P [] ρ)
    (hs : ∀ pre x post ρ, l = pre ++ x :: post → P pre ρ → g (f x) ρ fun ρ2 => tb { Dd with nx := P (pre ++ [x]), ct := P (pre ++ [x]), bk := Dd.nx } ρ2) (hd : ∀ ρ, P l ρ → Dd.nx ρ) : dLoop g tb xs Dd ρ := by
  subst e
  refine loop_by (fun i ρ => P (l.take i) ρ) (by simpa using h0) (fun i x ρ hx p => ?_) (fun ρ p => hd ρ (by simpa using p))
  rw [List.getElem?_map] at hx
  cases q : l[i]? with
  | none => rw [q] at hx; cases hx
  | some a =>
    rw [q] at hx
    cases hx
    obtain ⟨hi, ea⟩ := List.getElem?_eq_some_iff.mp q
    have e1 : l.take (i + 1) = l.take i ++ [a] := by rw [List.take_succ, q]; rfl
    have e2 : l = l.take i ++ a :: l.drop (i + 1) := by
      have := List.take_append_drop i l
      rw [List.drop_eq_getElem_cons hi, ea] at this
      exact this.symm
    have := hs (l.take i) a (l.drop (i + 1)) ρ e2 p
    rw [← e1] at this
    exact this
/-- .. turn by turn -/
def loopD (g : TDG) (tb : TDS) : List D → TDS
  | [], Dd, ρ => Dd.nx ρ
  | x :: r, Dd, ρ => g x ρ fun ρ2 => tb { Dd with nx := loopD g tb r Dd, ct := loopD g tb r Dd, bk := Dd.nx } ρ2
theorem dLoop_of {g : TDG} {tb : TDS} {xs : List D} {Dd : DEnds} {ρ : List SD} (h : loopD g tb xs Dd ρ) : dLoop g tb xs Dd ρ := by
  refine loop_by (fun i ρ => loopD g tb (xs.drop i) Dd ρ) (by show loopD g tb (xs.drop 0) Dd ρ; rw [List.drop_zero]; exact h) (fun i x ρ hx p => ?_) (fun ρ p => by
    have p : loopD g tb (xs.drop xs.length) Dd ρ := p
    rw [List.drop_length] at p; exact p)
  have hlt : i < xs.length := (List.getElem?_eq_some_iff.mp hx).1
  have dd : xs.drop i = x :: xs.drop (i + 1) := by
    rw [List.drop_eq_getElem_cons hlt]
    congr 1
    have := List.getElem?_eq_getElem hlt
    rw [this] at hx
    exact Option.some.inj hx
  have p : loopD g tb (xs.drop i) Dd ρ := p
  rw [dd] at p
  exact p
def dFor (di : TDA) (g : TDG) (tb : TDS) : TDS := fun Dd ρ => di ρ fun xs => dLoop g tb xs Dd ρ
theorem ds_for {tg iter : Expr} {body : List Stmt} {di : TDA} {vs : List Nat} {g : TDG} {tb : TDS} (hc : X.calm = true) (hi : DI X tg iter di) (hg : DG X tg vs g) (hb : DSs X fr H0 body tb)
    (hp : PassesOwn (model X.prog X.w) X.A X.env X.xe := by exact PassesOwn.never) (hs : ∀ x, foldedSetIterable iter X.env x = pure x := by intro _; rfl) : DS X fr H0 (.For tg iter body [] pos) (dFor di g tb) :=
  PS.imp (ps_for hp hc hi hg hb hs) fun Dn σ H ⟨F, ρ, Dd, R, h0, h, L⟩ => ⟨F, ρ, _, R, h, fun J H1 xs s y q => by
    obtain ⟨P, p0, step, fin⟩ := q.by_
    have R1 := R.grown s
    refine ⟨fun i m σ' H' => m = xs.length - i ∧ i ≤ xs.length ∧ ∃ F' ρ', Ext (DL.grown F H H1) H1 F' H' ∧ SRel X.K F' H' σ' ρ' ∧ P i ρ', ⟨xs.length, by simp, Nat.zero_le _, _, ρ, .refl, R1, p0⟩, ?_⟩
    rintro i m σ' H' ⟨rfl, hi, F', ρ', ex, R', q⟩
    have L' : Lift X.K fr H0 F' H' Dd Dn := L.step ((Ext.grown s).trans ex)
    by_cases hlt : i < xs.length
    · refine .inr ⟨y.go i H' ex.s hlt, fun σ2 H2 => ∃ F2 ρ2, Ext F' H' F2 H2 ∧ SRel X.K F2 H2 σ2 ρ2 ∧ P (i + 1) ρ2, fun σ2 H2 ⟨F2, ρ2, e2, R2, q2⟩ => ⟨xs.length - (i + 1), by omega, rfl, hlt, F2, ρ2, ex.trans e2, R2, q2⟩, fun x H2 yl => ?_⟩
      obtain ⟨s2, d, ed, rd⟩ := y.yld i H' x H2 ex.s hlt yl
      have q := step i d ρ' ed q
      have ld : Rep X.K H2 (DL.grown F' H' H2) d x := Rep.grown (Rep.mono (fun a z => z.elim (fun w => .inl (ex.f a w)) .inr) rd)
      refine ⟨_, ρ', d, _, R'.grown s2, ld, q, fun σ3 ρ3 R3 _ q3 => ⟨_, ρ3, _, R3, fun a z => .inl (ex.f a (.inl (h0 a z))), q3, ?_⟩⟩
      have e3 : Ext F' H' (DL.grown F' H' H2) H2 := .grown s2
      exact ⟨fun F4 σ4 H4 ρ4 e4 R4 q4 => ⟨F4, ρ4, e3.trans e4, R4, q4⟩, fun F4 σ4 H4 ρ4 e4 R4 q4 => L'.nx F4 σ4 H4 ρ4 (e3.trans e4) R4 q4, fun F4 σ4 H4 ρ4 e4 R4 q4 => ⟨F4, ρ4, e3.trans e4, R4, q4⟩, fun F4 v H4 x e4 r4 q4 => L'.rt F4 v H4 x (e3.trans e4) r4 q4⟩
    · have e : i = xs.length := by omega
      subst e
      exact .inl ⟨y.stop _ H' ex.s (Nat.le_refl _), L'.nx F' σ' H' ρ' .refl R' (fin ρ' q)⟩⟩
/-! ## while -/
structure dWhile (c : TDT) (tb : TDS) (Dd : DEnds) (ρ : List SD) : Prop where
  by_ : ∃ (P : List SD → Prop) (μ : List SD → Nat), P ρ ∧ ∀ ρ, P ρ → c ρ fun b => br b (tb { Dd with nx := fun ρ' => P ρ' ∧ μ ρ' < μ ρ, ct := fun ρ' => P ρ' ∧ μ ρ' < μ ρ, bk := Dd.nx } ρ) (Dd.nx ρ)
theorem while_by {c : TDT} {tb : TDS} {Dd : DEnds} {ρ : List SD} (P : List SD → Prop) (μ : List SD → Nat) (h0 : P ρ)
    (hs : ∀ ρ, P ρ → c ρ fun b => br b (tb { Dd with nx := fun ρ' => P ρ' ∧ μ ρ' < μ ρ, ct := fun ρ' => P ρ' ∧ μ ρ' < μ ρ, bk := Dd.nx } ρ) (Dd.nx ρ)) : dWhile c tb Dd ρ := ⟨⟨P, μ, h0, hs⟩⟩
theorem ds_while {c : Expr} {body : List Stmt} {tc : TDT} {tb : TDS} (hc : DT X c tc) (hb : DSs X fr H0 body tb) (hp : PassesOwn (model X.prog X.w) X.A X.env X.xe := by exact PassesOwn.never) : DS X fr H0 (.While c body [] pos) (dWhile tc tb) :=
  PS.imp (ps_while hp hc hb) fun Dn σ H ⟨F, ρ, Dd, R, h0, h, L⟩ => by
    obtain ⟨P, μ, p0, step⟩ := h.by_
    refine ⟨fun m σ' H' => ∃ F' ρ', Ext F H F' H' ∧ SRel X.K F' H' σ' ρ' ∧ P ρ' ∧ m = μ ρ', ⟨_, F, ρ, .refl, R, p0, rfl⟩, ?_⟩
    rintro m σ' H' ⟨F', ρ', ex, R', p, rfl⟩
    have L' := L.step ex
    refine ⟨F', ρ', _, R', step ρ' p, fun b H2 s q => ?_⟩
    cases b with
    | false => exact L'.nx F' σ' H2 ρ' (.same s) (R'.same s) (q.2 rfl)
    | true =>
      refine ⟨fun σ2 H2 => ∃ F2 ρ2, Ext F' H' F2 H2 ∧ SRel X.K F2 H2 σ2 ρ2 ∧ P ρ2 ∧ μ ρ2 < μ ρ', fun σ2 H3 ⟨F2, ρ2, e2, R2, p2, lt⟩ => ⟨μ ρ2, lt, F2, ρ2, ex.trans e2, R2, p2, rfl⟩, F', ρ', _, R'.same s, fun a z => ex.f a (h0 a z), q.1 rfl, ?_⟩
      have e3 : Ext F' H' F' H2 := .same s
      exact ⟨fun F4 σ4 H4 ρ4 e4 R4 q4 => ⟨F4, ρ4, e3.trans e4, R4, q4⟩, fun F4 σ4 H4 ρ4 e4 R4 q4 => L'.nx F4 σ4 H4 ρ4 (e3.trans e4) R4 q4, fun F4 σ4 H4 ρ4 e4 R4 q4 => ⟨F4, ρ4, e3.trans e4, R4, q4⟩, fun F4 v H4 x e4 r4 q4 => L'.rt F4 v H4 x (e3.trans e4) r4 q4⟩
end
end DL
namespace DL
open PySem PySem.Spec PyProof.Rows L2

/-! ## comprehensions -/
def wipeD (ρ : List SD) : List Nat → List SD
  | [] => ρ
  | v :: vs => (wipeD ρ vs).set v .no
theorem SRel.wipe {K : PySem.W.Frag} {F : Addr → Prop} {H : Hp} {σ : L2.St} {ρ : List SD} (R : SRel K F H σ ρ) : ∀ vs : List Nat, SRel K F H (L2.wipe σ vs) (wipeD ρ vs)
  | [] => R
  | v :: vs => (R.wipe vs).forget v none
structure Lcp (g : TDG) (tt : TDT) (m : Md) (te : TDE) (xs : List D) (ρ : List SD) (Q : D → Prop) : Prop where
  by_ : xs.length ≤ 1000000 ∧ ∃ P : Nat → List D → Prop, P 0 [] ∧ (∀ (i : Nat) x acc, xs[i]? = some x → P i acc → g x ρ fun ρ2 => tt ρ2 fun b => br b (te ρ2 fun y => keepOk m y ∧ P (i + 1) (acc ++ [y])) (P (i + 1) acc)) ∧ ∀ acc, P xs.length acc → Q (.lst acc)
/-- [f a for a in l if p a] -/
theorem lc_on {α : Type} {l : List α} {h : α → D} {xs : List D} {g : TDG} {tt : TDT} {m : Md} {te : TDE} {ρ : List SD} {Q : D → Prop} (e : xs = l.map h) (hl : l.length ≤ 1000000) (p : α → Bool) (f : α → D)
    (hs : ∀ a, a ∈ l → ∀ (Z : D → Prop) (W : Prop), (p a = true → Z (f a)) → (p a = false → W) → g (h a) ρ fun ρ2 => tt ρ2 fun b => br b (te ρ2 fun y => keepOk m y ∧ Z y) W) (hd : Q (.lst ((l.filter p).map f))) : Lcp g tt m te xs ρ Q := by
  subst e
  refine ⟨⟨by rw [List.length_map]; exact hl, fun i acc => acc = ((l.take i).filter p).map f, rfl, fun i x acc hx ea => ?_, fun acc ea => ?_⟩⟩
  · rw [List.getElem?_map] at hx
    cases q : l[i]? with
    | none => rw [q] at hx; cases hx
    | some a =>
      rw [q] at hx
      cases hx
      have e1 : l.take (i + 1) = l.take i ++ [a] := by rw [List.take_succ, q]; rfl
      refine hs a (List.mem_of_getElem? q) _ _ (fun hp => ?_) (fun hp => ?_)
      · show acc ++ [f a] = _
        rw [e1, List.filter_append, List.map_append, ea]
        simp [hp]
      · show acc = _
        rw [e1, List.filter_append, List.map_append, ea]
        simp [hp]
  · rw [ea, List.length_map, List.take_length]
    exact hd
/-- [f a for a in l] -/
theorem lc_map {α : Type} {l : List α} {h : α → D} {xs : List D} {g : TDG} {tt : TDT} {m : Md} {te : TDE} {ρ : List SD} {Q : D → Prop} (e : xs = l.map h) (hl : l.length ≤ 1000000) (f : α → D)
    (hs : ∀ a, a ∈ l → ∀ (Z : D → Prop) (W : Prop), Z (f a) → g (h a) ρ fun ρ2 => tt ρ2 fun b => br b (te ρ2 fun y => keepOk m y ∧ Z y) W) (hd : Q (.lst (l.map f))) : Lcp g tt m te xs ρ Q :=
  lc_on e hl (fun _ => true) f (fun a ha Z W hz _ => hs a ha Z W (hz rfl)) (by
    have : l.filter (fun _ => true) = l := List.filter_eq_self.mpr fun _ _ => rfl
    rw [this]; exact hd)
def eLc (di : TDA) (g : TDG) (tt : TDT) (m : Md) (te : TDE) (vs : List Nat) : TDE := fun ρ Q => di ρ fun xs => Lcp g tt m te xs (wipeD ρ vs) Q
abbrev DTs (X : Cx) (ifs : List Expr) (d : TDT) : Prop := PTs X ifs (upT X.K d)
theorem PTs.imp {X : Cx} {e : List Expr} {t t' : TT} (h : PTs X e t) (i : ∀ σ H Q, t' σ H Q → t σ H Q) : PTs X e t' := ⟨fun pins s σ H Q I q => h.run pins s σ H Q I (i σ H Q q)⟩
def tYesD : TDT := fun _ Q => Q true
theorem dts_nil {X : Cx} : DTs X [] tYesD := PTs.imp pts_nil fun σ H Q ⟨F, ρ, Qd, R, h, k⟩ => k true H (.refl H) h
theorem dts_one {X : Cx} {c : Expr} {t : TDT} (h : DT X c t) : DTs X [c] t := pts_one h
theorem wipe_set (σ : L2.St) (v : Nat) : ∀ vs : List Nat, L2.wipe (σ.set v none) vs = (L2.wipe σ vs).set v none
  | [] => rfl
  | u :: vs => by
    show (L2.wipe (σ.set v none) vs).set u none = ((L2.wipe σ vs).set u none).set v none
    rw [wipe_set σ v vs]
    by_cases h : v = u
    · subst h; rfl
    · exact List.set_comm _ _ h
theorem wipe_idem (σ : L2.St) : ∀ vs : List Nat, L2.wipe (L2.wipe σ vs) vs = L2.wipe σ vs
  | [] => rfl
  | v :: vs => by
    show (L2.wipe ((L2.wipe σ vs).set v none) vs).set v none = (L2.wipe σ vs).set v none
    rw [wipe_set, wipe_idem σ vs, List.set_set]
theorem lc_up {K : PySem.W.Frag} {di : TDA} {vs : List Nat} {g : TDG} {tt : TDT} {te : TDE} {m : Md} {σ : L2.St} {H : Hp} {Q : VK} {F : Addr → Prop} {ρ : List SD} {Qd : D → Prop} (R : SRel K F H σ ρ) (h : eLc di g tt m te vs ρ Qd)
    (k : ∀ v H' x, Same H H' → Vr K .own F H H' x v → Qd x → Q v H') : tLc (upI K di) (upG K vs g) (upT K tt) (up K m te) vs σ H Q := by
  refine ⟨F, ρ, _, R, h, fun J H1 xs s y ⟨⟨ql, P, p0, step, fin⟩⟩ => fun Da hD => ?_⟩
  have hDH : H Da = none := s.free hD
  -- the state while the new list at Da grows
  refine ⟨fun i n H' => n = xs.length - i ∧ i ≤ xs.length ∧ ∃ F' acc ws, Ext (DL.grown F H H1) H1 F' H' ∧ SRel K F' H' (L2.wipe σ vs) (wipeD ρ vs) ∧ H' Da = some (.lst ws) ∧ ¬ F' Da ∧ RepL K H' F' acc ws ∧ acc.length ≤ i ∧ (∀ a, F' a → F a ∨ (H a = none ∧ H' a ≠ none)) ∧ Same H H' ∧
      P i acc, ⟨xs.length, by simp, Nat.zero_le _, DL.grown F H H1, [], [], ⟨fun _ z => z, .of (same_new hD)⟩, ?_, upd_same, ?_, rfl, Nat.le_refl _, ?_, s.trans (same_new hD), ?_⟩, ?_⟩
  · exact (((R.grown s).same (same_new hD)).wipe vs)
  · rintro (z | z)
    · exact R.sub _ z hDH
    · exact z.2 hD
  · rintro a (z | z)
    · exact .inl z
    · exact .inr ⟨z.1, fun e => z.2 ((same_new hD).free e)⟩
  · exact p0
  rintro i n H' ⟨rfl, hi, F', acc, ws, ex, R', hDa, nF, ra, la, fF, sm, q2⟩
  by_cases hlt : i < xs.length
  · refine .inr ⟨y.go i H' ex.s hlt, fun H2 => ∃ F2 acc2 ws2, Ext (DL.grown F H H1) H1 F2 H2 ∧ SRel K F2 H2 (L2.wipe σ vs) (wipeD ρ vs) ∧ H2 Da = some (.lst ws2) ∧ ¬ F2 Da ∧ RepL K H2 F2 acc2 ws2 ∧ acc2.length ≤ i + 1 ∧ (∀ a, F2 a → F a ∨ (H a = none ∧ H2 a ≠ none)) ∧ Same H H2 ∧
      P (i + 1) acc2, fun H2 h2 => ⟨xs.length - (i + 1), by omega, rfl, hlt, h2⟩, fun x H2 yl => ?_⟩
    obtain ⟨s2, d, ed, rd⟩ := y.yld i H' x H2 ex.s hlt yl
    have q2 := step i d acc ed q2
    have ld : Rep K H2 (DL.grown F' H' H2) d x := Rep.grown (Rep.mono (fun a z => z.elim (fun w => .inl (ex.f a w)) .inr) rd)
    refine ⟨_, _, d, _, R'.grown s2, ld, q2, fun σ3 ρ3 R3 hw q3 => ⟨hw.trans (wipe_idem σ vs), _, ρ3, _, R3, q3, fun b H3 s3 q4 => ?_⟩⟩
    have s23 := s2.trans s3
    have fF3 : ∀ H4, Same H' H4 → ∀ a, DL.grown F' H' H4 a → F a ∨ (H a = none ∧ H4 a ≠ none) := fun H4 s4 a z => by
      rcases z with z | z
      · rcases fF a z with w | w
        · exact .inl w
        · exact .inr ⟨w.1, fun e => w.2 (s4.free e)⟩
      · exact .inr ⟨sm.free z.1, z.2⟩
    have nD : ∀ H4, ¬ DL.grown F' H' H4 Da := fun H4 z => z.elim nF fun w => by rw [hDa] at w; exact nomatch w.1
    cases b with
    | false =>
      exact ⟨DL.grown F' H' H3, acc, ws, ex.trans (.grown s23), R'.grown s23, s23 _ _ hDa, nD H3, RepL.stab (.of s23) (fun _ z => .inl z) _ _ ra, Nat.le_succ_of_le la, fF3 H3 s23, sm.trans s23, q4.2 rfl⟩
    | true =>
      refine ⟨DL.grown F' H' H2, ρ3, _, R3.same s3, q4.1 rfl, fun v H4 z s4 rv q5 => ⟨ws, (s23.trans s4) _ _ hDa, ?_, ?_⟩⟩
      · rw [← ra.length]
        exact Nat.lt_of_lt_of_le (Nat.lt_of_le_of_lt la hlt) (Nat.le_trans ql mil)
      · have s24 := s23.trans s4
        have e4 : Ext (DL.grown F H H1) H1 (DL.grown F' H' H4) H4 := ex.trans (.grown s24)
        have hD4 := s24 _ _ hDa
        have st : Stab (DL.grown F' H' H4) H4 (upd H4 Da (.lst (ws ++ [v]))) := Stab.upd (nD H4) hD4
        have rz : Rep K H4 (DL.grown F' H' H4) z v := Rep.mono (fun a w => by
          rcases w with w | w
          · rcases w with w | w
            · exact .inl w
            · exact .inr ⟨w.1, fun e => w.2 (s3.free (s4.free e))⟩
          · refine .inr ⟨?_, w.2⟩
            exact s23.free w.1) (keep_rep rv q5.1)
        have Rw : SRel K (DL.grown F' H' H4) H4 (L2.wipe σ vs) (wipeD ρ vs) := R'.grown s24
        refine ⟨DL.grown F' H' H4, acc ++ [z], ws ++ [v], e4.trans ⟨fun _ z => z, st⟩, ?_, upd_same, nD H4, RepL.stab st (fun _ z => z) _ _ (RepL.append (RepL.stab (.of s24) (fun _ z => .inl z) _ _ ra) (RepL.one rz)), by rw [List.length_append]; simp; exact la, fun a w => ?_, ?_, q5.2⟩
        · -- the slots do not own Da: it is new
          refine ⟨Rw.len, fun j e w => ?_, fun j e w => ?_, Rw.ap, fun a w => ?_⟩
          · obtain ⟨u, h1, h2⟩ := Rw.fz j e w
            exact ⟨u, h1, Rep.stab st (fun _ z => z) _ _ h2⟩
          · obtain ⟨p, us, h1, h2, h3, h4⟩ := Rw.ow j e w
            have np : p ≠ Da := fun z => by
              subst z
              obtain ⟨p0, us0, h1', h2', _⟩ := (R.wipe vs).ow j e w
              rw [h1] at h1'
              cases h1'
              rw [hDH] at h2'; cases h2'
            exact ⟨p, us, h1, by rw [upd_ne np]; exact h2, RepL.stab st (fun _ z => z) _ _ h3, h4⟩
          · by_cases hb : a = Da
            · exact absurd (hb ▸ w) (nD H4)
            · rw [upd_ne hb]; exact Rw.sub a w
        · rcases fF3 H4 s24 a w with z | z
          · exact .inl z
          · refine .inr ⟨z.1, ?_⟩
            by_cases hb : a = Da
            · rw [hb, upd_same]; exact fun e => nomatch e
            · rw [upd_ne hb]; exact z.2
        · intro b o e
          have nb : b ≠ Da := fun z => by subst z; rw [hDH] at e; cases e
          rw [upd_ne nb]
          exact (sm.trans s24) b o e
  · have e : i = xs.length := by omega
    subst e
    refine .inl ⟨y.stop _ H' ex.s (Nat.le_refl _), k _ H' _ sm ⟨acc, Da, ws, rfl, rfl, hDH, hDa, RepL.mono (fun a z => ?_) ra⟩ (fin acc q2)⟩
    rcases fF a z with w | w
    · exact .inl w
    · exact .inr ⟨w.1, fun e => nF (e ▸ z)⟩

section
variable {X : Cx} {fr : Bool} {H0 : Hp} {elt tg iter : Expr} {ifs : List Expr} {scope : Scope} {own : List (Str × Nat)} {pos spos : Pos} {di : TDA} {g : TDG} {tt : TDT} {te : TDE} {m : Md}
theorem de_lc (own : List (Str × Nat)) (hc : X.calm = true) (hN : X.N.Nodup) (hi : DI X tg iter di) (ok : BlkOk X.N X.env.scope scope own)
    (hg : ∀ (s : Shared) (H : Hp) (C : Addr) (cl : List (Str × Addr)) (fp : List Addr), DG (X.blk s H scope (compEnvC scope cl C X.env) fp) tg (own.map (·.2)) g) (ht : ∀ (s : Shared) (H : Hp) (C : Addr) (cl : List (Str × Addr)) (fp : List Addr), DTs (X.blk s H scope (compEnvC scope cl C X.env) fp) ifs tt)
    (he : ∀ (s : Shared) (H : Hp) (C : Addr) (cl : List (Str × Addr)) (fp : List Addr), DE (X.blk s H scope (compEnvC scope cl C X.env) fp) elt m te) (hs : ∀ x, foldedSetIterable iter X.env x = pure x := by intro _; rfl) :
    DE X (.ListComp elt [⟨tg, iter, ifs, 0⟩] scope pos) .own (eLc di g tt m te (own.map (·.2))) :=
  PE.imp (pe_lc hc hN hi ok hg ht he hs) fun σ H Q ⟨F, ρ, Qd, R, h, k⟩ => lc_up R h k
theorem ds_setLc {i : Nat} {y : Str} {py : Pos} (own : List (Str × Nat)) (hc : X.calm = true) (hN : X.N.Nodup) (hi : DI X tg iter di) (ok : BlkOk X.N X.env.scope scope own)
    (hg : ∀ (s : Shared) (H : Hp) (C : Addr) (cl : List (Str × Addr)) (fp : List Addr), DG (X.blk s H scope (compEnvC scope cl C X.env) fp) tg (own.map (·.2)) g) (ht : ∀ (s : Shared) (H : Hp) (C : Addr) (cl : List (Str × Addr)) (fp : List Addr), DTs (X.blk s H scope (compEnvC scope cl C X.env) fp) ifs tt)
    (he : ∀ (s : Shared) (H : Hp) (C : Addr) (cl : List (Str × Addr)) (fp : List Addr), DE (X.blk s H scope (compEnvC scope cl C X.env) fp) elt m te)
    (hy : X.N[i]? = some y := by rfl) (hyl : X.env.scope.names.lookup y = some .local := by rfl)
    (hsw : swapsWith (.ListComp elt [⟨tg, iter, ifs, 0⟩] scope pos) (some (.Name y py)) spos.line X.env = pure true := by exact sw_true rfl rfl rfl (by decide +kernel)) (hs : ∀ x, foldedSetIterable iter X.env x = pure x := by intro _; rfl) :
    DS X fr H0 (.Assign [.Name y py] (.ListComp elt [⟨tg, iter, ifs, 0⟩] scope pos) spos) (dSet .own i (eLc di g tt m te (own.map (·.2)))) :=
  PS.imp (ps_setLc hc hN hy hyl hsw hi ok hg ht he hs) fun Dn σ H ⟨F, ρ, Dd, R, h0, h, L⟩ => lc_up R h fun v H' x s r q => asg_up R s r q fun F' ρ' e R' n => L.nx F' _ H' ρ' e R' n
end

/-! ## a def keeps its promise -/
def startD (n : Nat) (xs : List D) : List SD := xs.map SD.fz ++ List.replicate (n - xs.length) .no
theorem start_rel {K : PySem.W.Frag} {H : Hp} {N : List Str} {xs : List D} {vs : List V} (r : RepL K H GT xs vs) : SRel K (fun a => H a ≠ none) H (L2.start N vs) (startD N.length xs) := by
  have l := r.length
  have r' : RepL K H (fun a => H a ≠ none) xs vs := RepL.mono (fun _ z => z.2) r.trk
  have get : ∀ (i : Nat) s, (startD N.length xs)[i]? = some s → s = .no ∨ ∃ d, xs[i]? = some d ∧ s = .fz d := fun i s e => by
    unfold startD at e
    by_cases hi : i < xs.length
    · rw [List.getElem?_append_left (by simpa using hi), List.getElem?_map] at e
      cases q : xs[i]? with
      | none => rw [q] at e; cases e
      | some d => rw [q] at e; exact .inr ⟨d, rfl, (Option.some.inj e).symm⟩
    · rw [List.getElem?_append_right (by simpa using hi), List.getElem?_replicate] at e
      split at e
      · exact .inl (Option.some.inj e).symm
      · cases e
  refine ⟨?_, fun i d e => ?_, fun i ds e => ?_, fun i j ds es p _ e => ?_, fun a z => z⟩
  · unfold L2.start startD
    simp [l]
  · rcases get i _ e with z | ⟨d', q, z⟩
    · cases z
    · cases z
      obtain ⟨v, a, b⟩ := RepL.get r' q
      refine ⟨v, ?_, b⟩
      unfold L2.start
      have hi : i < vs.length := (List.getElem?_eq_some_iff.mp a).1
      rw [List.getElem?_append_left (by simpa using hi), List.getElem?_map, a]; rfl
  · rcases get i _ e with z | ⟨d', _, z⟩ <;> cases z
  · rcases get i _ e with z | ⟨d', _, z⟩ <;> cases z
section
variable {P : Program} {w : World} {K : PySem.W.Frag} {mg : Str → Option Value} {base : Heap}
/-- THE RULE for a def: its body's term, and the reading over data -/
theorem fun_okD {x qual : Str} {st : Stmt} {f : Addr} {fd : FuncData} {N ps : List Str} {k n : Nat} {fr : Bool} {pf : Pf} {t : TDS} (F : Fun K x qual st f fd) (S : FnScope N ps (defScope st)) (hn : ps.length = n)
    (hbody : ∀ (cdv : Value) (A : Around) (outer : List Env) (s : Shared) (H : Hp) (E : XK), Room k (A.deeper (envOfC qual (defScope st) s.heap.objs.size f cdv)) →
      DSs (cxOf CX0 P w K mg base N qual (defScope st) f cdv A outer s H E).nox fr H (defBody st) t)
    (rd : ∀ xs Q, xs.length = n → pf xs Q → t { nx := fun _ => Q .non, rt := Q } (startD N.length xs)) : FnOk P w K mg base CX0 (k + 1) f fd ps (spD K n fr pf) := by
  refine F.ok S (fun vs H Q E ⟨xs, Qd, l, r, _⟩ => by rw [← r.length, l, hn]) (fun cdv A outer s H vs Q E hr ⟨xs, Qd, l, r, h, q⟩ => ⟨_, hbody cdv A outer s H E hr, ?_⟩)
  refine ⟨fun a => H a ≠ none, _, _, start_rel r, fun a z => z, rd xs Qd l h, ⟨fun F' σ' H' ρ' e R' n => ?_, fun _ _ _ _ _ _ z => z.elim, fun _ _ _ _ _ _ z => z.elim, fun F' v H' x e r' n => ?_⟩⟩
  · exact q .non H' .non (fun a o z => e.s.mt a o (by rw [z]; exact fun w => nomatch w) z) rfl n
  · exact q v H' x (fun a o z => e.s.mt a o (by rw [z]; exact fun w => nomatch w) z) r' n
end

/-! ## steps of a reading -/
theorem br_t {p q : Prop} (h : p) : br true p q := ⟨fun _ => h, fun e => Bool.noConfusion e⟩
theorem br_f {p q : Prop} (h : q) : br false p q := ⟨fun e => Bool.noConfusion e, fun _ => h⟩
theorem br_nt {p q : Prop} (h : q) : br (!true) p q := br_f h
theorem br_nf {p q : Prop} (h : p) : br (!false) p q := br_t h
theorem br_i {b : Bool} {p q : Prop} (h1 : b = true → p) (h2 : b = false → q) : br b p q := ⟨h1, h2⟩
theorem br_d {c p q : Prop} [Decidable c] (h1 : c → p) (h2 : ¬ c → q) : br (decide c) p q := ⟨fun e => h1 (of_decide_eq_true e), fun e => h2 (of_decide_eq_false e)⟩
theorem br_n {c p q : Prop} [Decidable c] (h1 : ¬ c → p) (h2 : c → q) : br (!decide c) p q := ⟨fun e => h1 (by simpa using e), fun e => h2 (by simpa using e)⟩
theorem mul_small {i j : Int} (h : -(2 ^ 64) < i ∧ i < 2 ^ 64) : CMulD i j := .inl (.inl h)
theorem mul_small' {i j : Int} (h : -(2 ^ 64) < j ∧ j < 2 ^ 64) : CMulD i j := .inl (.inr h)
theorem mul_wide {i j : Int} {a b : Nat} (ha : i.natAbs < 2 ^ a) (hb : j.natAbs < 2 ^ b) (h0 : 0 < a) (h1 : 0 < b) (h : a + b ≤ 1000000) : CMulD i j := .inr (wide_mul ha hb h0 h1 h)
theorem div_small {i j : Int} (h : 0 < j ∧ j < 1073741824) : CDivD i j := .inl h
theorem div_wide {i j : Int} {b : Nat} (h : 0 < j) (hb : j.natAbs < 2 ^ b) (h0 : 0 < b) (h9 : b ≤ 9000) : CDivD i j := .inr (wide_div h hb h0 h9)

/-! ## the law -/
def pfLaw : Pf := fun xs Q => ∃ ns : List Int, xs = [.scr ns] ∧ ns.length ≤ 63 ∧ Q (.bl true)
theorem law_sp {K : PySem.W.Frag} {H : Hp} {a : Addr} {ns : List Int} {E : XK} (hl : ns.length ≤ 63) (hS : SqL K H a (ns.map V.int)) : spD K 1 true pfLaw [.ref a] H (fun v _ => v = .bl true) E := by
  refine ⟨[.scr ns], fun d => d = .bl true, rfl, ⟨_, [], rfl, ⟨a, rfl, ?_⟩, rfl⟩, ⟨ns, rfl, hl, rfl⟩, fun v H' x _ r e => by subst e; exact r⟩
  rcases hS with h | h
  · exact .inl ⟨h, trivial⟩
  · exact .inr h
theorem walkD {l : PySem.W.OpenLaw} {kk : Nat} {x : Str} {q : Program} {loose : List Str} {XP : (Str → Option Value) → Heap → Prop} {YP : World → Heap → Prop} {d : DefRec} {K : Params → PySem.W.Frag} (hn : l.most = some 63) (hdf : d.params.defaults = []) (hr : Room kk callerA)
    (hY : ∀ (w : World) (h : Heap), YP w h → (K w.params).In h)
    (F : ∀ (w : World) (mg : Str → Option Value) (fa : Addr) (h : Heap), (K w.params).In h → h.Ns mainGlobals mg → mg d.name = some (.ref fa) →
      ∃ fd : FuncData, (∀ (s : Shared) (u : Value), BindsTo s fd ⟨[u], []⟩ [(x, u)]) ∧ ∀ base : Heap, (K w.params).In base → base.Ns mainGlobals mg → FnOk l.prog w (K w.params) mg base CX0 kk fa fd [x] (spD (K w.params) 1 true pfLaw)) :
    PySem.W.WalkO q loose XP YP l.row.toRowW d [] (fun f vs => PySem.call f vs) :=
  L2.walk_of (n := 63) (k := kk) (x := x) (CX := fun _ => CX0) (sp := fun w => spD (K w.params) 1 true pfLaw) hn (by decide) hdf hr hY F (fun _ _ a ns hl _ hS => law_sp hl hS) fun _ _ _ _ _ z => z
end DL
namespace My
open PySem PySem.Spec PyProof.Rows L2 DL
theorem bits_lim {x l : Int} {n : Nat} (h0 : -l ≤ x) (h1 : x ≤ l) (h2 : l < 2 ^ n) : x.natAbs < 2 ^ n := by
  have : (x.natAbs : Int) < 2 ^ n := by omega
  exact_mod_cast this
theorem bits_up {x : Int} {a b : Nat} (h : x.natAbs < 2 ^ a) (hab : a ≤ b) : x.natAbs < 2 ^ b := Nat.lt_of_lt_of_le h (Nat.pow_le_pow_right (by decide) hab)
theorem bits_mul {x y : Int} {a b c : Nat} (h : x.natAbs < 2 ^ a) (h' : y.natAbs < 2 ^ b) (hc : a + b ≤ c) : (x * y).natAbs < 2 ^ c := Nat.lt_of_lt_of_le (wide_lt h h') (Nat.pow_le_pow_right (by decide) hc)
theorem bits_add {x y : Int} {a c : Nat} (h : x.natAbs < 2 ^ a) (h' : y.natAbs < 2 ^ a) (hc : a + 1 ≤ c) : (x + y).natAbs < 2 ^ c := by
  have e : 2 ^ (a + 1) = 2 ^ a + 2 ^ a := by rw [Nat.pow_succ]; omega
  have := Nat.pow_le_pow_right (show 0 < 2 by decide) hc
  omega
theorem bits_sub {x y : Int} {a c : Nat} (h : x.natAbs < 2 ^ a) (h' : y.natAbs < 2 ^ a) (hc : a + 1 ≤ c) : (x - y).natAbs < 2 ^ c := by
  have e : 2 ^ (a + 1) = 2 ^ a + 2 ^ a := by rw [Nat.pow_succ]; omega
  have := Nat.pow_le_pow_right (show 0 < 2 by decide) hc
  omega
theorem bits_neg {x : Int} {a : Nat} (h : x.natAbs < 2 ^ a) : (-x).natAbs < 2 ^ a := by rw [Int.natAbs_neg]; exact h
theorem bits_small {x : Int} {a : Nat} (h : x.natAbs < 2 ^ 64) (ha : 64 ≤ a) : x.natAbs < 2 ^ a := bits_up h ha
theorem mulw {x y : Int} {a b : Nat} (h : x.natAbs < 2 ^ a) (h' : y.natAbs < 2 ^ b) (h0 : 0 < a := by decide) (h1 : 0 < b := by decide) (h2 : a + b ≤ 1000000 := by decide) : CMulD x y := mul_wide h h' h0 h1 h2
theorem cmp_self2 {a b : Int} : cmpD (.tup [.int a, .int b]) (.tup [.int a, .int b]) = true := by simp [cmpD, toPy, toPyL, PyData.eqv, PyData.eqvAll]
theorem cmp2 {a b c d : Int} : cmpD (.tup [.int a, .int b]) (.tup [.int c, .int d]) = (decide (a = c) && decide (b = d)) := by
  simp only [cmpD, toPy, toPyL, PyData.eqv, PyData.eqvAll, Bool.and_true]
  rw [Bool.eq_iff_iff]; simp
theorem gcd_step {x y : Int} (hx : 0 ≤ x) (hy : 0 ≤ y) : Int.gcd y (x % y) = Int.gcd x y := by
  obtain ⟨m, rfl⟩ := Int.eq_ofNat_of_zero_le hx
  obtain ⟨n, rfl⟩ := Int.eq_ofNat_of_zero_le hy
  rw [← Int.natCast_emod]
  show Nat.gcd n (m % n) = Nat.gcd m n
  rw [Nat.gcd_comm m n, Nat.gcd_rec n m, Nat.gcd_comm]
structure Bits (n : Nat) (x : Int) : Prop where
  h : x.natAbs < 2 ^ n
theorem Bits.lim {x l : Int} {n : Nat} (h0 : -l ≤ x) (h1 : x ≤ l) (h2 : l < 2 ^ n) : Bits n x := ⟨bits_lim h0 h1 h2⟩
theorem Bits.up {x : Int} {a b : Nat} (h : Bits a x) (hab : a ≤ b) : Bits b x := ⟨bits_up h.1 hab⟩
theorem Bits.mul {x y : Int} {a b : Nat} (h : Bits a x) (h' : Bits b y) : Bits (a + b) (x * y) := ⟨bits_mul h.1 h'.1 (Nat.le_refl _)⟩
theorem Bits.add {x y : Int} {a : Nat} (h : Bits a x) (h' : Bits a y) : Bits (a + 1) (x + y) := ⟨bits_add h.1 h'.1 (Nat.le_refl _)⟩
theorem Bits.sub {x y : Int} {a : Nat} (h : Bits a x) (h' : Bits a y) : Bits (a + 1) (x - y) := ⟨bits_sub h.1 h'.1 (Nat.le_refl _)⟩
theorem Bits.neg {x : Int} {a : Nat} (h : Bits a x) : Bits a (-x) := ⟨bits_neg h.1⟩
theorem Bits.small {x : Int} (h : x.natAbs < 2 ^ 64) : Bits 64 x := ⟨h⟩
theorem mulB {x y : Int} {a b : Nat} (h : Bits a x) (h' : Bits b y) (h0 : 0 < a := by decide) (h1 : 0 < b := by decide) (h2 : a + b ≤ 1000000 := by decide) : CMulD x y := mul_wide h.1 h'.1 h0 h1 h2
local macro_rules | `(tactic| walk_at "ds") => `(tactic| (first | (with_reducible assumption) | exact mulB (by with_reducible assumption) (by with_reducible assumption) (by decide +kernel) (by decide +kernel) (by decide +kernel) | exact Bits.up (by with_reducible assumption) (by decide +kernel) | with_reducible rfl | omega | exact mul_wide (by with_reducible assumption) (by with_reducible assumption) (by decide +kernel) (by decide +kernel) (by decide +kernel) | exact mul_small (by omega) | exact mul_small' (by omega) | exact div_small (by omega) | exact trivial | rfl | decide | with_unfolding_all rfl))
local macro_rules | `(tactic| walk_at "dset") => `(tactic| (simp only [startD, List.map_cons, List.map_nil, List.length_cons, List.length_nil, List.replicate_succ, List.replicate_zero, List.nil_append, List.cons_append, List.set_cons_succ, List.set_cons_zero, frz1] <;> with_unfolding_all rfl))
local macro_rules | `(tactic| walk_at "d") => `(tactic| ((conv => whnf); (first
  | with_reducible refine go_i (by walk_at "dset") ?_ | with_reducible refine br_t ?_ | with_reducible refine br_f ?_ | with_reducible refine br_nt ?_ | with_reducible refine br_nf ?_ | ((with_reducible refine br_d (fun hh => ?_) (fun hh => ?_)) <;> try (first | (exfalso; omega) | (exfalso; exact hh rfl))) | ((with_reducible refine br_n (fun hh => ?_) (fun hh => ?_)) <;> try (first | (exfalso; omega) | (exfalso; exact hh rfl)))
  | ((with_reducible refine And.intro ?_ ?_); focus (walk_at "ds")) | ((with_reducible refine Or.inl (And.intro ?_ ?_)); focus (walk_at "ds")) | with_reducible refine Exists.intro _ (And.intro (by with_unfolding_all rfl) ?_))))
def top (i : Nat) : Stmt := PySem.Challenge.pw_digtips_k02_plus_and_minus.main.body.getD i (.Pass ⟨0, 0, 0, 0⟩)
abbrev s_u_law_draws : Stmt := top 10
abbrev N_u_law_draws : List Str := ["_law_cell_here", "_law_count", "_law_row", "_law_rest", "_law_k", "_law_mixed"]
theorem sc_u_law_draws : FnScope N_u_law_draws ["_law_cell_here", "_law_count"] (defScope s_u_law_draws) := ⟨rfl, rfl, rfl, by decide +kernel, rfl, by decide +kernel, by decide +kernel⟩
abbrev s_u_law_cell : Stmt := top 9
abbrev N_u_law_cell : List Str := ["_law_script", "_law_k"]
theorem sc_u_law_cell : FnScope N_u_law_cell ["_law_script", "_law_k"] (defScope s_u_law_cell) := ⟨rfl, rfl, rfl, by decide +kernel, rfl, by decide +kernel, by decide +kernel⟩
abbrev s_u_law_number : Stmt := top 11
abbrev N_u_law_number : List Str := ["_law_script", "_law_place", "_law_limit", "_law_cell_here", "_law_draws_here", "_law_size"]
theorem sc_u_law_number : FnScope N_u_law_number ["_law_script", "_law_place", "_law_limit"] (defScope s_u_law_number) := ⟨rfl, rfl, rfl, by decide +kernel, rfl, by decide +kernel, by decide +kernel⟩
abbrev s_u_law_widened : Stmt := top 16
abbrev N_u_law_widened : List Str := ["_law_ratio", "_law_factor"]
theorem sc_u_law_widened : FnScope N_u_law_widened ["_law_ratio", "_law_factor"] (defScope s_u_law_widened) := ⟨rfl, rfl, rfl, by decide +kernel, rfl, by decide +kernel, by decide +kernel⟩
abbrev s_gcd : Stmt := top 4
abbrev N_gcd : List Str := ["first", "second"]
theorem sc_gcd : FnScope N_gcd ["first", "second"] (defScope s_gcd) := ⟨rfl, rfl, rfl, by decide +kernel, rfl, by decide +kernel, by decide +kernel⟩
abbrev s_lowest : Stmt := top 5
abbrev N_lowest : List Str := ["top", "bottom", "common"]
theorem sc_lowest : FnScope N_lowest ["top", "bottom"] (defScope s_lowest) := ⟨rfl, rfl, rfl, by decide +kernel, rfl, by decide +kernel, by decide +kernel⟩
abbrev s_plus : Stmt := top 6
abbrev N_plus : List Str := ["first", "second"]
theorem sc_plus : FnScope N_plus ["first", "second"] (defScope s_plus) := ⟨rfl, rfl, rfl, by decide +kernel, rfl, by decide +kernel, by decide +kernel⟩
abbrev s_u_law_same : Stmt := top 15
abbrev N_u_law_same : List Str := ["_law_one", "_law_two"]
theorem sc_u_law_same : FnScope N_u_law_same ["_law_one", "_law_two"] (defScope s_u_law_same) := ⟨rfl, rfl, rfl, by decide +kernel, rfl, by decide +kernel, by decide +kernel⟩
abbrev s_u_law_is_integer : Stmt := top 12
abbrev N_u_law_is_integer : List Str := ["_law_x"]
theorem sc_u_law_is_integer : FnScope N_u_law_is_integer ["_law_x"] (defScope s_u_law_is_integer) := ⟨rfl, rfl, rfl, by decide +kernel, rfl, by decide +kernel, by decide +kernel⟩
abbrev s_u_law_gcd : Stmt := top 13
abbrev N_u_law_gcd : List Str := ["_law_first", "_law_second", "_law_k", "_law_rest"]
theorem sc_u_law_gcd : FnScope N_u_law_gcd ["_law_first", "_law_second"] (defScope s_u_law_gcd) := ⟨rfl, rfl, rfl, by decide +kernel, rfl, by decide +kernel, by decide +kernel⟩
abbrev s_u_law_is_ratio : Stmt := top 14
abbrev N_u_law_is_ratio : List Str := ["_law_x"]
theorem sc_u_law_is_ratio : FnScope N_u_law_is_ratio ["_law_x"] (defScope s_u_law_is_ratio) := ⟨rfl, rfl, rfl, by decide +kernel, rfl, by decide +kernel, by decide +kernel⟩
abbrev s_u_law_is_due : Stmt := top 17
abbrev N_u_law_is_due : List Str := ["_law_told", "_law_top", "_law_bottom"]
theorem sc_u_law_is_due : FnScope N_u_law_is_due ["_law_told", "_law_top", "_law_bottom"] (defScope s_u_law_is_due) := ⟨rfl, rfl, rfl, by decide +kernel, rfl, by decide +kernel, by decide +kernel⟩
abbrev s_minus : Stmt := top 7
abbrev N_minus : List Str := ["first", "second"]
theorem sc_minus : FnScope N_minus ["first", "second"] (defScope s_minus) := ⟨rfl, rfl, rfl, by decide +kernel, rfl, by decide +kernel, by decide +kernel⟩
abbrev s_law : Stmt := top 18
abbrev N_law : List Str := ["_law_script", "_law_limit", "_law_draws_here", "_law_one", "_law_two", "_law_kind", "_law_first", "_law_second", "_law_other", "_law_left", "_law_right", "_law_bottom", "_law_told"]
theorem sc_law : FnScope N_law ["_law_script"] (defScope s_law) := ⟨rfl, rfl, rfl, by decide +kernel, rfl, by decide +kernel, by decide +kernel⟩
structure Tx (K : PySem.W.Frag) (mg : Str → Option Value) where
  n_abs : mg "abs" = none
  n_bool : mg "bool" = none
  n_int : mg "int" = none
  n_isinstance : mg "isinstance" = none
  n_len : mg "len" = none
  n_min : mg "min" = none
  n_range : mg "range" = none
  n_tuple : mg "tuple" = none
  f_u_law_draws : Addr
  d_u_law_draws : FuncData
  F_u_law_draws : Fun K "_law_draws" "_law_draws" s_u_law_draws f_u_law_draws d_u_law_draws
  b_u_law_draws : Binds K d_u_law_draws ["_law_cell_here", "_law_count"] []
  g_u_law_draws : mg "_law_draws" = some (.ref f_u_law_draws)
  f_u_law_cell : Addr
  d_u_law_cell : FuncData
  F_u_law_cell : Fun K "_law_cell" "_law_cell" s_u_law_cell f_u_law_cell d_u_law_cell
  b_u_law_cell : Binds K d_u_law_cell ["_law_script", "_law_k"] []
  g_u_law_cell : mg "_law_cell" = some (.ref f_u_law_cell)
  f_u_law_number : Addr
  d_u_law_number : FuncData
  F_u_law_number : Fun K "_law_number" "_law_number" s_u_law_number f_u_law_number d_u_law_number
  b_u_law_number : Binds K d_u_law_number ["_law_script", "_law_place", "_law_limit"] []
  g_u_law_number : mg "_law_number" = some (.ref f_u_law_number)
  f_u_law_widened : Addr
  d_u_law_widened : FuncData
  F_u_law_widened : Fun K "_law_widened" "_law_widened" s_u_law_widened f_u_law_widened d_u_law_widened
  b_u_law_widened : Binds K d_u_law_widened ["_law_ratio", "_law_factor"] []
  g_u_law_widened : mg "_law_widened" = some (.ref f_u_law_widened)
  f_gcd : Addr
  d_gcd : FuncData
  F_gcd : Fun K "gcd" "gcd" s_gcd f_gcd d_gcd
  b_gcd : Binds K d_gcd ["first", "second"] []
  g_gcd : mg "gcd" = some (.ref f_gcd)
  f_lowest : Addr
  d_lowest : FuncData
  F_lowest : Fun K "lowest" "lowest" s_lowest f_lowest d_lowest
  b_lowest : Binds K d_lowest ["top", "bottom"] []
  g_lowest : mg "lowest" = some (.ref f_lowest)
  f_plus : Addr
  d_plus : FuncData
  F_plus : Fun K "plus" "plus" s_plus f_plus d_plus
  b_plus : Binds K d_plus ["first", "second"] []
  g_plus : mg "plus" = some (.ref f_plus)
  f_u_law_same : Addr
  d_u_law_same : FuncData
  F_u_law_same : Fun K "_law_same" "_law_same" s_u_law_same f_u_law_same d_u_law_same
  b_u_law_same : Binds K d_u_law_same ["_law_one", "_law_two"] []
  g_u_law_same : mg "_law_same" = some (.ref f_u_law_same)
  f_u_law_is_integer : Addr
  d_u_law_is_integer : FuncData
  F_u_law_is_integer : Fun K "_law_is_integer" "_law_is_integer" s_u_law_is_integer f_u_law_is_integer d_u_law_is_integer
  b_u_law_is_integer : Binds K d_u_law_is_integer ["_law_x"] []
  g_u_law_is_integer : mg "_law_is_integer" = some (.ref f_u_law_is_integer)
  f_u_law_gcd : Addr
  d_u_law_gcd : FuncData
  F_u_law_gcd : Fun K "_law_gcd" "_law_gcd" s_u_law_gcd f_u_law_gcd d_u_law_gcd
  b_u_law_gcd : Binds K d_u_law_gcd ["_law_first", "_law_second"] []
  g_u_law_gcd : mg "_law_gcd" = some (.ref f_u_law_gcd)
  f_u_law_is_ratio : Addr
  d_u_law_is_ratio : FuncData
  F_u_law_is_ratio : Fun K "_law_is_ratio" "_law_is_ratio" s_u_law_is_ratio f_u_law_is_ratio d_u_law_is_ratio
  b_u_law_is_ratio : Binds K d_u_law_is_ratio ["_law_x"] []
  g_u_law_is_ratio : mg "_law_is_ratio" = some (.ref f_u_law_is_ratio)
  f_u_law_is_due : Addr
  d_u_law_is_due : FuncData
  F_u_law_is_due : Fun K "_law_is_due" "_law_is_due" s_u_law_is_due f_u_law_is_due d_u_law_is_due
  b_u_law_is_due : Binds K d_u_law_is_due ["_law_told", "_law_top", "_law_bottom"] []
  g_u_law_is_due : mg "_law_is_due" = some (.ref f_u_law_is_due)
  f_minus : Addr
  d_minus : FuncData
  F_minus : Fun K "minus" "minus" s_minus f_minus d_minus
  b_minus : Binds K d_minus ["first", "second"] []
  g_minus : mg "minus" = some (.ref f_minus)
section
variable {P : Program} {w : World} {K : PySem.W.Frag} {mg : Str → Option Value} {base : Heap}
/-! _law_draws -/
def DrawsOk (ds : List Int) (n : Nat) : Prop := ds.length = n ∧ ∀ d ∈ ds, 0 ≤ d ∧ d < 2 ^ 28
theorem DrawsOk.cons {ds : List Int} {n : Nat} (h : DrawsOk ds (n + 1)) : ∃ d r, ds = d :: r ∧ 0 ≤ d ∧ d < 2 ^ 28 ∧ DrawsOk r n := by
  obtain ⟨hl, hd⟩ := h
  cases ds with
  | nil => cases hl
  | cons d r => exact ⟨d, r, rfl, (hd d List.mem_cons_self).1, (hd d List.mem_cons_self).2, by simpa using hl, fun x hx => hd x (List.mem_cons_of_mem _ hx)⟩
theorem DrawsOk.nil {ds : List Int} (h : DrawsOk ds 0) : ds = [] := List.length_eq_zero_iff.mp h.1
theorem atI_ints {zs : List Int} {i : Int} {l : List D} {P : D → Prop} (e : l = zs.map D.int) (h0 : 0 ≤ i) (h1 : i < zs.length) (h : ∀ z, z ∈ zs → P (.int z)) : ∃ d, atI l i = some d ∧ P d := by
  subst e
  obtain ⟨j, rfl⟩ : ∃ j : Nat, i = j := ⟨i.toNat, by omega⟩
  have hj : j < zs.length := by omega
  exact ⟨_, atI_nat (by rw [List.getElem?_map, List.getElem?_eq_getElem hj]; rfl), h _ (List.getElem_mem hj)⟩
def pf_u_law_draws : Pf := fun xs Q => match xs with
  | [.int _, .int n] => (0 ≤ n ∧ n ≤ 1000) ∧ ∀ ds : List Int, DrawsOk ds n.toNat → Q (.lst (ds.map D.int))
  | _ => False
theorem ok_u_law_draws (T : Tx K mg) : FnOk P w K mg base CX0 1 T.f_u_law_draws T.d_u_law_draws ["_law_cell_here", "_law_count"] (spD K 2 true pf_u_law_draws) := by
  have nd : N_u_law_draws.Nodup := sc_u_law_draws.nd
  refine fun_okD (k := 0) T.F_u_law_draws sc_u_law_draws rfl (fun cdv A outer s H E hr =>
      (dss_cons (ds_set (i := 2) nd (de_lst (da_nil (m := .any))))
      (dss_cons (ds_frz 0 (ds_set (i := 3) nd (de_varS 0)))
      (dss_cons (ds_for rfl (di_range1 T.n_range (da_cons (de_var 1) (da_nil (m := .any)))) (dg_name (i := 4) nd)
      (dss_one (ds_if (dt_w (dw_and (dt_cmp op_ge r2_ge (de_var 0) (de_op op_powD r2_pow de_int de_int) (nomark _)) (dw_and1 (dt_cmp op_gt r2_gt (de_var 3) de_int (nomark _)))))
      (dss_cons (ds_append 2 (de_op op_mod r2_mod (de_callTy call_int1 cr_int T.n_int (by decide +kernel) (da_cons (de_var 3) (da_nil (m := .any)))) de_int))
      (dss_one (ds_set (i := 3) nd (de_op op_divD r2_div (de_var 3) de_int))))
      (dss_cons (ds_set (i := 5) nd (de_op op_mod r2_mod (de_callTy call_int1 cr_int T.n_int (by decide +kernel) (da_cons (de_op op_addD r2_add (de_op op_addD r2_add (de_var 0) (de_op op_mulD r2_mul de_int (de_var 4))) de_int) (da_nil (m := .any)))) de_int))
      (dss_cons (ds_set (i := 5) nd (de_op op_mod r2_mod (de_callTy call_int1 cr_int T.n_int (by decide +kernel) (da_cons (de_op op_mulD r2_mul (de_var 5) (de_op op_addD r2_add (de_var 5) de_int)) (da_nil (m := .any)))) de_int))
      (dss_cons (ds_set (i := 5) nd (de_op op_mod r2_mod (de_callTy call_int1 cr_int T.n_int (by decide +kernel) (da_cons (de_op op_addD r2_add (de_op op_mulD r2_mul (de_var 5) (de_op op_addD r2_add (de_var 5) de_int)) (de_op op_mulD r2_mul de_int (de_var 4))) (da_nil (m := .any)))) de_int))
      (dss_one (ds_append 2 (de_op op_divD r2_div (de_var 5) de_int)))))))))
      (dss_one (ds_retV 2)))))) ?_
  intro xs Q hl h
  clear hl
  unfold pf_u_law_draws at h
  split at h
  · rename_i c n
    obtain ⟨⟨n0, hn⟩, q⟩ := h
    obtain ⟨n, rfl⟩ : ∃ j : Nat, n = j := ⟨n.toNat, by omega⟩
    rw [Int.toNat_natCast] at q
    refine ⟨rfl, Or.inl ⟨rfl, ?_⟩⟩
    repeat' walk_at "d"
    refine loop_on (l := List.range n) (f := fun i : Nat => D.int (i : Int)) (by simp) (fun pre ρ => ∃ ds : List Int, ∃ rest : Int, ∃ a b, ρ = [.fz (.int c), .fz (.int n), .ow (ds.map D.int), .fz (.int rest), a, b] ∧ DrawsOk ds pre.length) ?_ ?_ ?_
    · exact ⟨[], c, _, _, rfl, rfl, fun d h => nomatch h⟩
    · rintro pre i post ρ hl ⟨ds, rest, a, b, rfl, hd⟩
      have hlen : pre.length < n := by
        have := congrArg List.length hl
        simp at this; omega
      have more : ∀ z : Int, 0 ≤ z → z < 2 ^ 28 → DrawsOk (ds ++ [z]) (pre ++ [i]).length := fun z h0 h1 => by
        refine ⟨by rw [List.length_append, List.length_append, hd.1]; rfl, fun d h => ?_⟩
        rcases List.mem_append.mp h with h | h
        · exact hd.2 d h
        · rw [List.mem_singleton.mp h]; exact ⟨h0, h1⟩
      have len : (ds.map D.int).length < 1000000 := by rw [List.length_map, hd.1]; omega
      have md : ∀ (z m : Int), 0 < m → 0 ≤ z % m ∧ z % m < m := fun z m h => ⟨Int.emod_nonneg _ (by omega), Int.emod_lt_of_pos _ h⟩
      have app : ∀ z : Int, ds.map D.int ++ [D.int z] = (ds ++ [z]).map D.int := fun z => by rw [List.map_append]; rfl
      repeat' walk_at "d"
      · exact ⟨ds ++ [rest % 1048576], rest / 1048576, _, _, by rw [← app], more _ (md _ _ (by decide)).1 (Int.lt_trans (md _ _ (by decide)).2 (by decide))⟩
      all_goals (refine ⟨ds ++ [_], rest, _, _, by rw [← app], more _ ?_ ?_⟩ <;> omega)
    · rintro ρ ⟨ds, rest, a, b, rfl, hd⟩
      refine ⟨fun _ => flatL_ints ds, q ds ?_⟩
      rwa [List.length_range] at hd
  · exact h.elim
/-! _law_cell -/
def cell (ns : List Int) (k : Int) : Int := ns.getD k.toNat 0
def pf_u_law_cell : Pf := fun xs Q => match xs with
  | [.scr ns, .int k] => 0 ≤ k ∧ Q (.int (cell ns k))
  | _ => False
theorem ok_u_law_cell (T : Tx K mg) : FnOk P w K mg base CX0 1 T.f_u_law_cell T.d_u_law_cell ["_law_script", "_law_k"] (spD K 2 true pf_u_law_cell) := by
  have nd : N_u_law_cell.Nodup := sc_u_law_cell.nd
  refine fun_okD (k := 0) T.F_u_law_cell sc_u_law_cell rfl (fun cdv A outer s H E hr =>
      (dss_cons (ds_if (dt_cmp op_lt r2_lt (de_var 1) (de_callB call_len_seq cr_len T.n_len (by decide +kernel) (da_cons (de_var 0) (da_nil (m := .any)))) (nomark _))
      (dss_one (ds_ret (de_ix (de_var 0) (de_var 1))))
      dss_nil)
      (dss_one (ds_ret de_int)))) ?_
  intro xs Q hl h
  clear hl
  unfold pf_u_law_cell at h
  split at h
  · rename_i ns k
    obtain ⟨h0, q⟩ := h
    obtain ⟨k, rfl⟩ : ∃ j : Nat, k = j := ⟨k.toNat, by omega⟩
    refine ⟨fun hb => ?_, fun hb => ?_⟩
    · have hk : k < ns.length := by simpa using hb
      refine ⟨_, atI_nat (List.getElem?_eq_getElem hk), ?_⟩
      have e : cell ns k = ns[k] := by simp [cell, List.getD, hk]
      rw [e] at q
      exact q
    · have hk : ¬ k < ns.length := by simpa using hb
      have e : cell ns k = 0 := by
        have : ns[k]? = none := List.getElem?_eq_none (by omega)
        simp [cell, List.getD, this]
      rw [e] at q
      exact q
  · exact h.elim
/-! _law_number -/
def pf_u_law_number : Pf := fun xs Q => match xs with
  | [.scr _, .int k, .int l] => (0 ≤ k ∧ k ≤ 100) ∧ 0 ≤ l ∧ ∀ r : Int, -l ≤ r → r ≤ l → Q (.int r)
  | _ => False
theorem ok_u_law_number (T : Tx K mg) : FnOk P w K mg base CX0 2 T.f_u_law_number T.d_u_law_number ["_law_script", "_law_place", "_law_limit"] (spD K 3 true pf_u_law_number) := by
  have nd : N_u_law_number.Nodup := sc_u_law_number.nd
  refine fun_okD (k := 1) T.F_u_law_number sc_u_law_number rfl (fun cdv A outer s H E hr =>
      (dss_cons (ds_set (i := 3) nd (de_call (ok_u_law_cell T) (hr.mono (by decide)) T.g_u_law_cell T.F_u_law_cell.kp T.b_u_law_cell (da_cons (de_var 0) (da_cons (de_var 1) (da_nil (m := .any))))))
      (dss_cons (ds_if (dt_cmp op_ge r2_ge (de_var 3) (de_op op_powD r2_pow de_int de_int) (nomark _))
      (dss_one (ds_ret (de_op op_sub r2_sub (de_op op_mod r2_mod (de_callTy call_int1 cr_int T.n_int (by decide +kernel) (da_cons (de_var 3) (da_nil (m := .any)))) (de_op op_addD r2_add (de_op op_mulD r2_mul de_int (de_var 2)) de_int)) (de_var 2))))
      dss_nil)
      (dss_cons (ds_set (i := 4) nd (de_call (ok_u_law_draws T) (hr.mono (by decide)) T.g_u_law_draws T.F_u_law_draws.kp T.b_u_law_draws (da_cons (de_op op_addD r2_add (de_var 3) (de_op op_mulD r2_mul de_int (de_var 1))) (da_cons de_int (da_nil (m := .any))))))
      (dss_cons (ds_set (i := 5) nd (de_callB (call_min2 rfl) cr_2 T.n_min (by decide +kernel) (da_cons (de_callTy call_int1 cr_int T.n_int (by decide +kernel) (da_cons (de_var 2) (da_nil (m := .any)))) (da_cons (de_ix (de_lst (da_cons de_int (da_cons de_int (da_cons (de_op op_powD r2_pow de_int de_int) (da_cons (de_op op_powD r2_pow de_int de_int) (da_nil (m := .any))))))) (de_op op_mod r2_mod (de_callTy call_int1 cr_int T.n_int (by decide +kernel) (da_cons (de_ix (de_var 4) de_int) (da_nil (m := .any)))) de_int)) (da_nil (m := .any))))))
      (dss_one (ds_ret (de_op op_sub r2_sub (de_op op_mod r2_mod (de_callTy call_int1 cr_int T.n_int (by decide +kernel) (da_cons (de_op op_addD r2_add (de_op op_mulD r2_mul (de_ix (de_var 4) de_int) (de_op op_powD r2_pow de_int de_int)) (de_ix (de_var 4) de_int)) (da_nil (m := .any)))) (de_op op_addD r2_add (de_op op_mulD r2_mul de_int (de_var 5)) de_int)) (de_var 5))))))))) ?_
  intro xs Q hl h
  clear hl
  unfold pf_u_law_number at h
  split at h
  · rename_i ns k l
    obtain ⟨⟨hk0, hk⟩, hl, q⟩ := h
    repeat' walk_at "d"
    · refine q _ ?_ ?_
      · have := Int.emod_nonneg (cell ns k) (show 2 * l + 1 ≠ 0 by omega); omega
      · have := Int.emod_lt_of_pos (cell ns k) (show 0 < 2 * l + 1 by omega); omega
    · intro ds hd
      obtain ⟨a, r, rfl, a0, a1, hd⟩ := hd.cons
      obtain ⟨b, r, rfl, b0, b1, hd⟩ := hd.cons
      obtain ⟨c, r, rfl, c0, c1, hd⟩ := hd.cons
      obtain rfl := hd.nil
      repeat' walk_at "d"
      refine atI_ints (zs := [2, 20, 10 ^ 9, 10 ^ 17]) rfl (Int.emod_nonneg _ (by decide)) (Int.emod_lt_of_pos _ (by decide)) fun z hz => ?_
      have hz0 : 0 ≤ z := by
        simp at hz; omega
      have hs : 0 ≤ (if z < l then z else l) ∧ (if z < l then z else l) ≤ l := by split <;> omega
      repeat' walk_at "d"
      refine q _ ?_ ?_
      · have := Int.emod_nonneg (b * 10 ^ Int.toNat 9 + c) (show 2 * (if z < l then z else l) + 1 ≠ 0 by omega); omega
      · have := Int.emod_lt_of_pos (b * 10 ^ Int.toNat 9 + c) (show 0 < 2 * (if z < l then z else l) + 1 by omega); omega
  · exact h.elim
/-! _law_widened -/
def pf_u_law_widened : Pf := fun xs Q => match xs with
  | [.tup [.int a, .int b], .int c] => CMulD a c ∧ CMulD b c ∧ Q (.tup [.int (a * c), .int (b * c)])
  | _ => False
theorem ok_u_law_widened (T : Tx K mg) : FnOk P w K mg base CX0 1 T.f_u_law_widened T.d_u_law_widened ["_law_ratio", "_law_factor"] (spD K 2 true pf_u_law_widened) := by
  have nd : N_u_law_widened.Nodup := sc_u_law_widened.nd
  refine fun_okD (k := 0) T.F_u_law_widened sc_u_law_widened rfl (fun cdv A outer s H E hr =>
      (dss_one (ds_ret (de_tup (da_cons (de_op op_mulD r2_mul (de_ix (de_var 0) de_int) (de_var 1)) (da_cons (de_op op_mulD r2_mul (de_ix (de_var 0) de_int) (de_var 1)) (da_nil (m := .any)))))))) ?_
  intro xs Q hl h
  clear hl
  unfold pf_u_law_widened at h
  split at h
  · exact ⟨_, rfl, h.1, _, rfl, h.2.1, rfl, h.2.2⟩
  · exact h.elim
/-! gcd -/
def pf_gcd : Pf := fun xs Q => match xs with
  | [.int a, .int b] => Q (.int (Int.gcd a b))
  | _ => False
theorem ok_gcd (T : Tx K mg) : FnOk P w K mg base CX0 1 T.f_gcd T.d_gcd ["first", "second"] (spD K 2 true pf_gcd) := by
  have nd : N_gcd.Nodup := sc_gcd.nd
  refine fun_okD (k := 0) T.F_gcd sc_gcd rfl (fun cdv A outer s H E hr =>
      (dss_cons (ds_par (i := 0) (j := 1) rfl nd (by decide) (da_cons (de_callB call_abs cr_abs T.n_abs (by decide +kernel) (da_cons (de_var 0) (da_nil (m := .any)))) (da_cons (de_callB call_abs cr_abs T.n_abs (by decide +kernel) (da_cons (de_var 1) (da_nil (m := .any)))) (da_nil (m := .any)))))
      (dss_cons (ds_while (dt_cmp op_gt r2_gt (de_var 1) de_int (nomark _))
      (dss_one (ds_par (i := 0) (j := 1) rfl nd (by decide) (da_cons (de_var 1) (da_cons (de_op op_mod r2_mod (de_var 0) (de_var 1)) (da_nil (m := .any)))))))
      (dss_one (ds_retV 0))))) ?_
  intro xs Q hl h
  clear hl
  unfold pf_gcd at h
  split at h
  · rename_i a b
    repeat' walk_at "d"
    refine while_by (fun ρ => ∃ x y : Int, ρ = [.fz (.int x), .fz (.int y)] ∧ 0 ≤ x ∧ 0 ≤ y ∧ Int.gcd x y = Int.gcd a b) (fun ρ => match ρ with
      | [_, .fz (.int y)] => y.toNat
      | _ => 0) ⟨_, _, rfl, by split <;> omega, by split <;> omega, ?_⟩ ?_
    · have e : ∀ z : Int, (if z < 0 then -z else z) = (z.natAbs : Int) := fun z => by split <;> omega
      rw [e, e]
      simp [Int.gcd]
    · rintro ρ ⟨x, y, rfl, hx, hy, e⟩
      repeat' walk_at "d"
      · refine ⟨⟨y, x % y, rfl, hy, Int.emod_nonneg _ (by omega), ?_⟩, ?_⟩
        · rw [← e, gcd_step hx hy]
        · show (x % y).toNat < y.toNat
          have := Int.emod_lt_of_pos x (show 0 < y by omega)
          omega
      · have y0 : y = 0 := by omega
        subst y0
        have ex : x = (Int.gcd a b : Int) := by
          rw [← e]; simp; omega
        refine ⟨fun _ => rfl, ?_⟩
        rw [← ex] at h
        exact h
  · exact h.elim
/-! lowest -/
def lowT (t b : Int) : Int := (if b < 0 then -t else t) / (Int.gcd t b : Int)
def lowB (t b : Int) : Int := (b.natAbs : Int) / (Int.gcd t b : Int)
theorem low_gcd_pos {t b : Int} (h : b ≠ 0) : 0 < (Int.gcd t b : Int) := by
  have : 0 < Int.gcd t b := Int.gcd_pos_of_ne_zero_right _ h
  omega
theorem lowB_mul {t b : Int} : lowB t b * Int.gcd t b = b.natAbs := by
  unfold lowB
  exact Int.ediv_mul_cancel (Int.dvd_natAbs.mpr (Int.gcd_dvd_right _ _))
theorem lowT_mul {t b : Int} : lowT t b * Int.gcd t b = if b < 0 then -t else t := by
  unfold lowT
  refine Int.ediv_mul_cancel ?_
  split
  · exact Int.dvd_neg.mpr (Int.gcd_dvd_left _ _)
  · exact Int.gcd_dvd_left _ _
theorem lowB_pos {t b : Int} (h : b ≠ 0) : 0 < lowB t b := by
  have h1 := low_gcd_pos (t := t) h
  have h2 := lowB_mul (t := t) (b := b)
  have h3 : 0 < (b.natAbs : Int) := by omega
  rw [← h2] at h3
  exact Int.pos_of_mul_pos_left h3 h1
theorem low_val {t b : Int} (h : b ≠ 0) : lowT t b * b = t * lowB t b := by
  have h1 := low_gcd_pos (t := t) h
  have e1 := lowT_mul (t := t) (b := b)
  have e2 := lowB_mul (t := t) (b := b)
  refine Int.eq_of_mul_eq_mul_right (a := (Int.gcd t b : Int)) (by omega) ?_
  have q : lowT t b * b * Int.gcd t b = (lowT t b * Int.gcd t b) * b := by rw [Int.mul_assoc, Int.mul_comm b, ← Int.mul_assoc]
  have q2 : t * lowB t b * Int.gcd t b = t * (lowB t b * Int.gcd t b) := by rw [Int.mul_assoc]
  rw [q, q2, e1, e2]
  split
  · have : (b.natAbs : Int) = -b := by omega
    rw [this, Int.mul_neg, Int.neg_mul]
  · have : (b.natAbs : Int) = b := by omega
    rw [this]
theorem low_coprime {t b : Int} (h : b ≠ 0) : Int.gcd (lowT t b) (lowB t b) = 1 := by
  have h1 := low_gcd_pos (t := t) h
  have e1 := lowT_mul (t := t) (b := b)
  have e2 := lowB_mul (t := t) (b := b)
  have q : Int.gcd (lowT t b * Int.gcd t b) (lowB t b * Int.gcd t b) = Int.gcd t b := by
    rw [e1, e2]
    split <;> simp [Int.gcd]
  rw [Int.gcd_mul_right] at q
  have h2 : 0 < Int.gcd t b := by omega
  have : Int.gcd (lowT t b) (lowB t b) * Int.gcd t b = 1 * Int.gcd t b := by simpa using q
  exact Nat.eq_of_mul_eq_mul_right h2 this
theorem lowB_le {t b : Int} (h : b ≠ 0) : (lowB t b).natAbs ≤ b.natAbs := by
  have h1 := low_gcd_pos (t := t) h
  have e2 := lowB_mul (t := t) (b := b)
  have : lowB t b * 1 ≤ lowB t b * Int.gcd t b := Int.mul_le_mul_of_nonneg_left (by omega) (Int.le_of_lt (lowB_pos h))
  have := lowB_pos (t := t) h
  omega
theorem lowT_le {t b : Int} (h : b ≠ 0) : (lowT t b).natAbs ≤ t.natAbs := by
  have h1 := low_gcd_pos (t := t) h
  have e1 := lowT_mul (t := t) (b := b)
  have e : (lowT t b).natAbs * Int.gcd t b = t.natAbs := by
    have := congrArg Int.natAbs e1
    rw [Int.natAbs_mul] at this
    rw [show ((Int.gcd t b : Nat) : Int).natAbs = Int.gcd t b from rfl] at this
    rw [this]
    split <;> omega
  have h2 : 0 < Int.gcd t b := by omega
  rw [← e]
  exact Nat.le_mul_of_pos_right _ h2
theorem lowT_bits {t b : Int} {n : Nat} (h : b ≠ 0) (ht : t.natAbs < 2 ^ n) : (lowT t b).natAbs < 2 ^ n := Nat.lt_of_le_of_lt (lowT_le h) ht
theorem lowB_bits {t b : Int} {n : Nat} (h : b ≠ 0) (hb : b.natAbs < 2 ^ n) : (lowB t b).natAbs < 2 ^ n := Nat.lt_of_le_of_lt (lowB_le h) hb
theorem gcd_bits {t b : Int} {n : Nat} (h : b ≠ 0) (hb : b.natAbs < 2 ^ n) : (Int.gcd t b : Int).natAbs < 2 ^ n := by
  refine Nat.lt_of_le_of_lt ?_ hb
  have : Int.gcd t b ∣ b.natAbs := Nat.gcd_dvd_right _ _
  exact Nat.le_of_dvd (by omega) this
theorem low_due {x y X Y : Int} {n : Nat} (h : y ≠ 0) (hx : Bits n x) (hy : Bits n y) (e : X * y = x * Y) :
    0 < lowB x y ∧ Bits n (lowB x y) ∧ Bits n (lowT x y) ∧ Int.gcd (lowT x y) (lowB x y) = 1 ∧ lowT x y * Y = X * lowB x y := by
  refine ⟨lowB_pos h, ⟨lowB_bits h hy.1⟩, ⟨lowT_bits h hx.1⟩, low_coprime h, ?_⟩
  refine Int.eq_of_mul_eq_mul_right h ?_
  have := low_val (t := x) h
  calc lowT x y * Y * y = (lowT x y * y) * Y := by rw [Int.mul_assoc, Int.mul_comm Y, ← Int.mul_assoc]
    _ = x * lowB x y * Y := by rw [this]
    _ = (x * Y) * lowB x y := by rw [Int.mul_assoc, Int.mul_comm _ Y, ← Int.mul_assoc]
    _ = X * y * lowB x y := by rw [e]
    _ = X * lowB x y * y := by rw [Int.mul_assoc, Int.mul_comm y, ← Int.mul_assoc]
def pf_lowest : Pf := fun xs Q => match xs with
  | [.int t, .int b] => b ≠ 0 ∧ Bits 9000 b ∧ Q (.tup [.int (lowT t b), .int (lowB t b)])
  | _ => False
theorem ok_lowest (T : Tx K mg) : FnOk P w K mg base CX0 2 T.f_lowest T.d_lowest ["top", "bottom"] (spD K 2 true pf_lowest) := by
  have nd : N_lowest.Nodup := sc_lowest.nd
  refine fun_okD (k := 1) T.F_lowest sc_lowest rfl (fun cdv A outer s H E hr =>
      (dss_cons (ds_if (dt_cmp (op_eqX hr.units) r2_eq (de_var 1) de_int (nomark _))
      (dss_one ds_never)
      dss_nil)
      (dss_cons (ds_if (dt_cmp op_lt r2_lt (de_var 1) de_int (nomark _))
      (dss_one (ds_par (i := 0) (j := 1) rfl nd (by decide) (da_cons (de_neg (de_var 0)) (da_cons (de_neg (de_var 1)) (da_nil (m := .any))))))
      dss_nil)
      (dss_cons (ds_set (i := 2) nd (de_call (ok_gcd T) (hr.mono (by decide)) T.g_gcd T.F_gcd.kp T.b_gcd (da_cons (de_var 0) (da_cons (de_var 1) (da_nil (m := .any))))))
      (dss_one (ds_ret (de_tup (da_cons (de_op op_divD r2_div (de_var 0) (de_var 2)) (da_cons (de_op op_divD r2_div (de_var 1) (de_var 2)) (da_nil (m := .any))))))))))) ?_
  intro xs Q hl h
  clear hl
  unfold pf_lowest at h
  split at h
  · rename_i t b
    obtain ⟨hb, hb2, q⟩ := h
    have g0 := low_gcd_pos (t := t) hb
    have dv : CDivD (if b < 0 then -t else t) (Int.gcd t b) := div_wide g0 (gcd_bits hb hb2.1) (by decide) (by decide)
    have dv2 : CDivD b.natAbs (Int.gcd t b) := div_wide g0 (gcd_bits hb hb2.1) (by decide) (by decide)
    repeat' walk_at "d"
    · have e : Int.gcd (-t) (-b) = Int.gcd t b := by simp
      rw [e] 
      have hn : b < 0 := by assumption
      have e2 : (b.natAbs : Int) = -b := by omega
      rw [if_pos hn] at dv
      rw [e2] at dv2
      unfold lowT lowB at q
      rw [if_pos hn, e2] at q
      exact ⟨dv, dv2, rfl, q⟩
    · have hn : ¬ b < 0 := by assumption
      have e2 : (b.natAbs : Int) = b := by omega
      rw [if_neg hn] at dv
      rw [e2] at dv2
      unfold lowT lowB at q
      rw [if_neg hn, e2] at q
      exact ⟨dv, dv2, rfl, q⟩
  · exact h.elim
/-! plus -/
def pf_plus : Pf := fun xs Q => match xs with
  | [.tup [.int a, .int b], .tup [.int c, .int d]] => CMulD a d ∧ CMulD c b ∧ CMulD b d ∧ b * d ≠ 0 ∧ Bits 9000 (b * d) ∧ Q (.tup [.int (lowT (a * d + c * b) (b * d)), .int (lowB (a * d + c * b) (b * d))])
  | _ => False
theorem ok_plus (T : Tx K mg) : FnOk P w K mg base CX0 3 T.f_plus T.d_plus ["first", "second"] (spD K 2 true pf_plus) := by
  have nd : N_plus.Nodup := sc_plus.nd
  refine fun_okD (k := 2) T.F_plus sc_plus rfl (fun cdv A outer s H E hr =>
      (dss_one (ds_ret (de_call (ok_lowest T) (hr.mono (by decide)) T.g_lowest T.F_lowest.kp T.b_lowest (da_cons (de_op op_addD r2_add (de_op op_mulD r2_mul (de_ix (de_var 0) de_int) (de_ix (de_var 1) de_int)) (de_op op_mulD r2_mul (de_ix (de_var 1) de_int) (de_ix (de_var 0) de_int))) (da_cons (de_op op_mulD r2_mul (de_ix (de_var 0) de_int) (de_ix (de_var 1) de_int)) (da_nil (m := .any)))))))) ?_
  intro xs Q hl h
  clear hl
  unfold pf_plus at h
  split at h
  · obtain ⟨h1, h2, h3, h4, h5, q⟩ := h
    repeat' walk_at "d"
    exact q
  · exact h.elim
/-! _law_same -/
def pf_u_law_same : Pf := fun xs Q => match xs with
  | [.tup [.int a, .int b], .tup [.int c, .int d]] => CMulD a d ∧ CMulD c b ∧ Q (.bl (decide (a * d = c * b)))
  | _ => False
theorem ok_u_law_same (T : Tx K mg) : FnOk P w K mg base CX0 1 T.f_u_law_same T.d_u_law_same ["_law_one", "_law_two"] (spD K 2 true pf_u_law_same) := by
  have nd : N_u_law_same.Nodup := sc_u_law_same.nd
  refine fun_okD (k := 0) T.F_u_law_same sc_u_law_same rfl (fun cdv A outer s H E hr =>
      (dss_one (ds_ret (de_cmp (op_eqX hr.units) r2_eq (de_op op_mulD r2_mul (de_ix (de_var 0) de_int) (de_ix (de_var 1) de_int)) (de_op op_mulD r2_mul (de_ix (de_var 1) de_int) (de_ix (de_var 0) de_int)) (nomark _))))) ?_
  intro xs Q hl h
  clear hl
  unfold pf_u_law_same at h
  split at h
  · obtain ⟨h1, h2, q⟩ := h
    repeat' walk_at "d"
    exact q
  · exact h.elim
/-! _law_is_integer -/
def pf_u_law_is_integer : Pf := fun xs Q => match xs with
  | [.int _] => Q (.bl true)
  | [.bl _] => Q (.bl false)
  | [.non] => Q (.bl false)
  | _ => False
theorem ok_u_law_is_integer (T : Tx K mg) : FnOk P w K mg base CX0 1 T.f_u_law_is_integer T.d_u_law_is_integer ["_law_x"] (spD K 1 true pf_u_law_is_integer) := by
  have nd : N_u_law_is_integer.Nodup := sc_u_law_is_integer.nd
  refine fun_okD (k := 0) T.F_u_law_is_integer sc_u_law_is_integer rfl (fun cdv A outer s H E hr =>
      (dss_one (ds_ret (de_and (de_isi (T := .int) (de_var 0) T.n_isinstance T.n_int (by decide +kernel)) (de_one (de_not (de_isi (T := .bool) (de_var 0) T.n_isinstance T.n_bool (by decide +kernel)))))))) ?_
  intro xs Q hl h
  clear hl
  unfold pf_u_law_is_integer at h
  split at h
  · exact br_t h
  · exact br_t h
  · exact br_f h
  · exact h.elim
/-! _law_gcd -/
def GcdAt (N i : Nat) (a b : Int) : Prop := if i % 2 = 0 then b < 2 ^ (N - i / 2) else (b < a ∧ a < 2 ^ (N - i / 2))
theorem half_mod {a b : Int} (h0 : 0 < b) (h : b < a) : 2 * (a % b) < a := by
  have e := Int.emod_add_mul_ediv a b
  have h1 := Int.emod_lt_of_pos a h0
  have h2 : 1 ≤ a / b := by
    have := Int.ediv_le_ediv h0 (Int.le_of_lt h)
    rwa [Int.ediv_self (by omega)] at this
  have h3 : b * 1 ≤ b * (a / b) := Int.mul_le_mul_of_nonneg_left h2 (by omega)
  omega
theorem GcdAt.step {N i : Nat} {a b : Int} (h : GcdAt N i a b) (h0 : 0 < b) (hi : i / 2 < N) : GcdAt N (i + 1) b (a % b) := by
  unfold GcdAt at h ⊢
  have hm := Int.emod_lt_of_pos a h0
  by_cases c : i % 2 = 0
  · rw [if_pos c] at h
    rw [if_neg (by omega)]
    have : (i + 1) / 2 = i / 2 := by omega
    rw [this]
    exact ⟨hm, h⟩
  · rw [if_neg c] at h
    rw [if_pos (by omega)]
    have e : (i + 1) / 2 = i / 2 + 1 := by omega
    rw [e]
    have hh := half_mod h0 h.1
    have e2 : N - i / 2 = (N - (i / 2 + 1)) + 1 := by omega
    have h2 := h.2
    rw [e2, Int.pow_succ] at h2
    omega
def pf_u_law_gcd : Pf := fun xs Q => match xs with
  | [.int a, .int b] => 0 ≤ a ∧ 0 ≤ b ∧ Bits 4400 b ∧ Q (.int (Int.gcd a b))
  | _ => False
theorem ok_u_law_gcd (T : Tx K mg) : FnOk P w K mg base CX0 1 T.f_u_law_gcd T.d_u_law_gcd ["_law_first", "_law_second"] (spD K 2 true pf_u_law_gcd) := by
  have nd : N_u_law_gcd.Nodup := sc_u_law_gcd.nd
  refine fun_okD (k := 0) T.F_u_law_gcd sc_u_law_gcd rfl (fun cdv A outer s H E hr =>
      (dss_cons (ds_for rfl (di_range1 T.n_range (da_cons de_int (da_nil (m := .any)))) (dg_name (i := 2) nd)
      (dss_cons (ds_if (dt_cmp (op_eqX hr.units) r2_eq (de_var 1) de_int (nomark _))
      (dss_one (ds_retV 0))
      dss_nil)
      (dss_cons (ds_set (i := 3) nd (de_op op_mod r2_mod (de_callTy call_int1 cr_int T.n_int (by decide +kernel) (da_cons (de_var 0) (da_nil (m := .any)))) (de_var 1)))
      (dss_cons (ds_frz 1 (ds_set (i := 0) nd (de_varS 1)))
      (dss_one (ds_frz 3 (ds_set (i := 1) nd (de_varS 3))))))))
      (dss_one (ds_retV 0)))) ?_
  intro xs Q hl h
  clear hl
  unfold pf_u_law_gcd at h
  split at h
  · rename_i a b
    obtain ⟨a0, b0, hb, q⟩ := h
    repeat' walk_at "d"
    refine loop_on (l := List.range 9000) (f := fun i : Nat => D.int (i : Int)) rfl (fun pre ρ => ∃ x y : Int, ∃ u v, ρ = [.fz (.int x), .fz (.int y), u, v] ∧ 0 ≤ x ∧ 0 ≤ y ∧ Int.gcd x y = Int.gcd a b ∧ (GcdAt 4400 pre.length x y ∨ y = 0)) ?_ ?_ ?_
    · refine ⟨a, b, _, _, rfl, a0, b0, rfl, .inl ?_⟩
      show b < 2 ^ (4400 - 0 / 2)
      have : (b.natAbs : Int) < 2 ^ 4400 := by exact_mod_cast hb.1
      omega
    · rintro pre i post ρ hl ⟨x, y, u, v, rfl, hx, hy, e, g⟩
      repeat' walk_at "d"
      · have y0 : y = 0 := by assumption
        subst y0
        have ex : x = (Int.gcd a b : Int) := by
          rw [← e]; simp; omega
        rw [← ex] at q
        exact ⟨fun _ => rfl, q⟩
      · have y0 : ¬ y = 0 := by assumption
        refine ⟨y, x % y, _, _, rfl, hy, Int.emod_nonneg _ y0, ?_, ?_⟩
        · rw [← e, gcd_step hx hy]
        · have g : GcdAt 4400 pre.length x y := g.resolve_right y0
          rw [List.length_append, List.length_singleton]
          by_cases c : pre.length / 2 < 4400
          · exact .inl (g.step (by omega) c)
          · exfalso
            unfold GcdAt at g
            have e0 : 4400 - pre.length / 2 = 0 := by omega
            rw [e0] at g
            split at g <;> omega
    · rintro ρ ⟨x, y, u, v, rfl, hx, hy, e, g⟩
      have y0 : y = 0 := by
        rcases g with g | g
        · rw [List.length_range] at g
          have g : y < 2 ^ (4400 - 9000 / 2) := g
          have e0 : 4400 - 9000 / 2 = 0 := by decide
          rw [e0] at g
          omega
        · exact g
      subst y0
      have ex : x = (Int.gcd a b : Int) := by
        rw [← e]; simp; omega
      rw [← ex] at q
      exact ⟨fun _ => rfl, q⟩
  · exact h.elim
/-! _law_is_ratio -/
def pf_u_law_is_ratio : Pf := fun xs Q => match xs with
  | [.tup [.int t, .int b]] => 0 < b ∧ Bits 4400 b ∧ Int.gcd t b = 1 ∧ Q (.bl true)
  | _ => False
theorem ok_u_law_is_ratio (T : Tx K mg) : FnOk P w K mg base CX0 2 T.f_u_law_is_ratio T.d_u_law_is_ratio ["_law_x"] (spD K 1 true pf_u_law_is_ratio) := by
  have nd : N_u_law_is_ratio.Nodup := sc_u_law_is_ratio.nd
  refine fun_okD (k := 1) T.F_u_law_is_ratio sc_u_law_is_ratio rfl (fun cdv A outer s H E hr =>
      (dss_cons (ds_if (dt_w (dw_or (dt_not (dt_val (de_isi (T := .tuple) (de_var 0) T.n_isinstance T.n_tuple (by decide +kernel)))) (dw_or1 (dt_cmp (op_neX hr.units) r2_ne (de_callB call_len_seq cr_len T.n_len (by decide +kernel) (da_cons (de_var 0) (da_nil (m := .any)))) de_int (nomark _)))))
      (dss_one (ds_ret de_bl))
      dss_nil)
      (dss_cons (ds_if (dt_w (dw_or (dt_not (dt_val (de_call (ok_u_law_is_integer T) (hr.mono (by decide)) T.g_u_law_is_integer T.F_u_law_is_integer.kp T.b_u_law_is_integer (da_cons (de_ix (de_var 0) de_int) (da_nil (m := .any)))))) (dw_or (dt_not (dt_val (de_call (ok_u_law_is_integer T) (hr.mono (by decide)) T.g_u_law_is_integer T.F_u_law_is_integer.kp T.b_u_law_is_integer (da_cons (de_ix (de_var 0) de_int) (da_nil (m := .any)))))) (dw_or1 (dt_cmp op_lt r2_lt (de_ix (de_var 0) de_int) de_int (nomark _))))))
      (dss_one (ds_ret de_bl))
      dss_nil)
      (dss_one (ds_ret (de_cmp (op_eqX hr.units) r2_eq (de_call (ok_u_law_gcd T) (hr.mono (by decide)) T.g_u_law_gcd T.F_u_law_gcd.kp T.b_u_law_gcd (da_cons (de_callB call_abs cr_abs T.n_abs (by decide +kernel) (da_cons (de_ix (de_var 0) de_int) (da_nil (m := .any)))) (da_cons (de_ix (de_var 0) de_int) (da_nil (m := .any))))) de_int (nomark _))))))) ?_
  intro xs Q hl h
  clear hl
  unfold pf_u_law_is_ratio at h
  split at h
  · rename_i t b
    obtain ⟨b0, hb, g, q⟩ := h
    have g' : Int.gcd (if t < 0 then -t else t) b = 1 := by
      rw [← g]; split <;> simp
    have a0 : 0 ≤ (if t < 0 then -t else t) := by split <;> omega
    repeat' walk_at "d"
    show Q (.bl (decide (((Int.gcd (if t < 0 then -t else t) b : Nat) : Int) = 1)))
    rw [g']
    exact q
  · exact h.elim
/-! _law_is_due -/
def pf_u_law_is_due : Pf := fun xs Q => match xs with
  | [.tup [.int a, .int b], .int c, .int d] => 0 < b ∧ Bits 4400 b ∧ Int.gcd a b = 1 ∧ CMulD a d ∧ CMulD c b ∧ a * d = c * b ∧ Q (.bl true)
  | _ => False
theorem ok_u_law_is_due (T : Tx K mg) : FnOk P w K mg base CX0 3 T.f_u_law_is_due T.d_u_law_is_due ["_law_told", "_law_top", "_law_bottom"] (spD K 3 true pf_u_law_is_due) := by
  have nd : N_u_law_is_due.Nodup := sc_u_law_is_due.nd
  refine fun_okD (k := 2) T.F_u_law_is_due sc_u_law_is_due rfl (fun cdv A outer s H E hr =>
      (dss_one (ds_ret (de_and (de_call (ok_u_law_is_ratio T) (hr.mono (by decide)) T.g_u_law_is_ratio T.F_u_law_is_ratio.kp T.b_u_law_is_ratio (da_cons (de_var 0) (da_nil (m := .any)))) (de_one (de_call (ok_u_law_same T) (hr.mono (by decide)) T.g_u_law_same T.F_u_law_same.kp T.b_u_law_same (da_cons (de_var 0) (da_cons (de_tup (da_cons (de_var 1) (da_cons (de_var 2) (da_nil (m := .any))))) (da_nil (m := .any)))))))))) ?_
  intro xs Q hl h
  clear hl
  unfold pf_u_law_is_due at h
  split at h
  · obtain ⟨h1, h2, h3, h4, h5, h6, q⟩ := h
    repeat' walk_at "d"
    show Q (.bl (decide (_ = _)))
    rw [decide_eq_true h6]
    exact q
  · exact h.elim
/-! minus -/
def pf_minus : Pf := fun xs Q => match xs with
  | [.tup [.int a, .int b], .tup [.int c, .int d]] => CMulD a d ∧ CMulD c b ∧ CMulD b d ∧ b * d ≠ 0 ∧ Bits 9000 (b * d) ∧ Q (.tup [.int (lowT (a * d - c * b) (b * d)), .int (lowB (a * d - c * b) (b * d))])
  | _ => False
theorem ok_minus (T : Tx K mg) : FnOk P w K mg base CX0 3 T.f_minus T.d_minus ["first", "second"] (spD K 2 true pf_minus) := by
  have nd : N_minus.Nodup := sc_minus.nd
  refine fun_okD (k := 2) T.F_minus sc_minus rfl (fun cdv A outer s H E hr =>
      (dss_one (ds_ret (de_call (ok_lowest T) (hr.mono (by decide)) T.g_lowest T.F_lowest.kp T.b_lowest (da_cons (de_op op_sub r2_sub (de_op op_mulD r2_mul (de_ix (de_var 0) de_int) (de_ix (de_var 1) de_int)) (de_op op_mulD r2_mul (de_ix (de_var 1) de_int) (de_ix (de_var 0) de_int))) (da_cons (de_op op_mulD r2_mul (de_ix (de_var 0) de_int) (de_ix (de_var 1) de_int)) (da_nil (m := .any)))))))) ?_
  intro xs Q hl h
  clear hl
  unfold pf_minus at h
  split at h
  · obtain ⟨h1, h2, h3, h4, h5, q⟩ := h
    repeat' walk_at "d"
    exact q
  · exact h.elim
/-! law -/
structure Good (A B C D E F : Int) : Prop where
  a : Bits 1500 A
  b : Bits 1500 B
  c : Bits 1500 C
  d : Bits 1500 D
  e : Bits 1500 E
  f : Bits 1500 F
  pb : 0 < B
  pd : 0 < D
  pf : 0 < F
  s : A * F = E * B
theorem ok_law {f : Addr} {fd : FuncData} (F : Fun K "law" "law" s_law f fd) (T : Tx K mg) : FnOk P w K mg base CX0 4 f fd ["_law_script"] (spD K 1 true pfLaw) := by
  have nd : N_law.Nodup := sc_law.nd
  refine fun_okD (k := 3) F sc_law rfl (fun cdv A outer s H E hr =>
      (dss_cons (ds_set (i := 1) nd (de_op op_powD r2_pow (de_op op_powD r2_pow de_int de_int) de_int))
      (dss_cons (ds_set (i := 2) nd (de_call (ok_u_law_draws T) (hr.mono (by decide)) T.g_u_law_draws T.F_u_law_draws.kp T.b_u_law_draws (da_cons (de_call (ok_u_law_cell T) (hr.mono (by decide)) T.g_u_law_cell T.F_u_law_cell.kp T.b_u_law_cell (da_cons (de_var 0) (da_cons de_int (da_nil (m := .any))))) (da_cons de_int (da_nil (m := .any))))))
      (dss_cons (ds_set (i := 3) nd (de_tup (da_cons (de_call (ok_u_law_number T) (hr.mono (by decide)) T.g_u_law_number T.F_u_law_number.kp T.b_u_law_number (da_cons (de_var 0) (da_cons de_int (da_cons (de_var 1) (da_nil (m := .any)))))) (da_cons (de_op op_addD r2_add de_int (de_callB call_abs cr_abs T.n_abs (by decide +kernel) (da_cons (de_call (ok_u_law_number T) (hr.mono (by decide)) T.g_u_law_number T.F_u_law_number.kp T.b_u_law_number (da_cons (de_var 0) (da_cons de_int (da_cons (de_op op_sub r2_sub (de_var 1) de_int) (da_nil (m := .any)))))) (da_nil (m := .any))))) (da_nil (m := .any))))))
      (dss_cons (ds_set (i := 4) nd (de_tup (da_cons (de_call (ok_u_law_number T) (hr.mono (by decide)) T.g_u_law_number T.F_u_law_number.kp T.b_u_law_number (da_cons (de_var 0) (da_cons de_int (da_cons (de_var 1) (da_nil (m := .any)))))) (da_cons (de_op op_addD r2_add de_int (de_callB call_abs cr_abs T.n_abs (by decide +kernel) (da_cons (de_call (ok_u_law_number T) (hr.mono (by decide)) T.g_u_law_number T.F_u_law_number.kp T.b_u_law_number (da_cons (de_var 0) (da_cons de_int (da_cons (de_op op_sub r2_sub (de_var 1) de_int) (da_nil (m := .any)))))) (da_nil (m := .any))))) (da_nil (m := .any))))))
      (dss_cons (ds_set (i := 5) nd (de_op op_mod r2_mod (de_callTy call_int1 cr_int T.n_int (by decide +kernel) (da_cons (de_ix (de_var 2) de_int) (da_nil (m := .any)))) de_int))
      (dss_cons (ds_if (dt_cmp (op_eqX hr.units) r2_eq (de_var 5) de_int (nomark _))
      (dss_one (ds_set (i := 4) nd (de_tup (da_cons (de_neg (de_ix (de_var 3) de_int)) (da_cons (de_ix (de_var 3) de_int) (da_nil (m := .any)))))))
      dss_nil)
      (dss_cons (ds_if (dt_cmp (op_eqX hr.units) r2_eq (de_var 5) de_int (nomark _))
      (dss_one (ds_frz 3 (ds_set (i := 4) nd (de_varS 3))))
      dss_nil)
      (dss_cons (ds_if (dt_cmp (op_eqX hr.units) r2_eq (de_var 5) de_int (nomark _))
      (dss_one (ds_set (i := 4) nd (de_tup (da_cons (de_ix (de_var 4) de_int) (da_cons (de_ix (de_var 3) de_int) (da_nil (m := .any)))))))
      dss_nil)
      (dss_cons (ds_set (i := 6) nd (de_call (ok_u_law_widened T) (hr.mono (by decide)) T.g_u_law_widened T.F_u_law_widened.kp T.b_u_law_widened (da_cons (de_var 3) (da_cons (de_op op_addD r2_add de_int (de_op op_mod r2_mod (de_callTy call_int1 cr_int T.n_int (by decide +kernel) (da_cons (de_ix (de_var 2) de_int) (da_nil (m := .any)))) de_int)) (da_nil (m := .any))))))
      (dss_cons (ds_set (i := 7) nd (de_call (ok_u_law_widened T) (hr.mono (by decide)) T.g_u_law_widened T.F_u_law_widened.kp T.b_u_law_widened (da_cons (de_var 4) (da_cons (de_op op_addD r2_add de_int (de_op op_mod r2_mod (de_callTy call_int1 cr_int T.n_int (by decide +kernel) (da_cons (de_ix (de_var 2) de_int) (da_nil (m := .any)))) de_int)) (da_nil (m := .any))))))
      (dss_cons (ds_set (i := 8) nd (de_call (ok_u_law_widened T) (hr.mono (by decide)) T.g_u_law_widened T.F_u_law_widened.kp T.b_u_law_widened (da_cons (de_var 3) (da_cons (de_op op_addD r2_add de_int (de_op op_mod r2_mod (de_callTy call_int1 cr_int T.n_int (by decide +kernel) (da_cons (de_ix (de_var 2) de_int) (da_nil (m := .any)))) de_int)) (da_nil (m := .any))))))
      (dss_cons (ds_set (i := 9) nd (de_op op_mulD r2_mul (de_ix (de_var 6) de_int) (de_ix (de_var 7) de_int)))
      (dss_cons (ds_set (i := 10) nd (de_op op_mulD r2_mul (de_ix (de_var 7) de_int) (de_ix (de_var 6) de_int)))
      (dss_cons (ds_set (i := 11) nd (de_op op_mulD r2_mul (de_ix (de_var 6) de_int) (de_ix (de_var 7) de_int)))
      (dss_cons (ds_set (i := 12) nd (de_call (ok_plus T) (hr.mono (by decide)) T.g_plus T.F_plus.kp T.b_plus (da_cons (de_var 6) (da_cons (de_var 7) (da_nil (m := .any))))))
      (dss_cons (ds_if (dt_not (dt_val (de_call (ok_u_law_is_due T) (hr.mono (by decide)) T.g_u_law_is_due T.F_u_law_is_due.kp T.b_u_law_is_due (da_cons (de_var 12) (da_cons (de_op op_addD r2_add (de_var 9) (de_var 10)) (da_cons (de_var 11) (da_nil (m := .any))))))))
      (dss_one (ds_ret de_bl))
      dss_nil)
      (dss_cons (ds_if (dt_not (dt_val (de_call (ok_u_law_is_due T) (hr.mono (by decide)) T.g_u_law_is_due T.F_u_law_is_due.kp T.b_u_law_is_due (da_cons (de_call (ok_plus T) (hr.mono (by decide)) T.g_plus T.F_plus.kp T.b_plus (da_cons (de_var 7) (da_cons (de_var 6) (da_nil (m := .any))))) (da_cons (de_op op_addD r2_add (de_var 9) (de_var 10)) (da_cons (de_var 11) (da_nil (m := .any))))))))
      (dss_one (ds_ret de_bl))
      dss_nil)
      (dss_cons (ds_if (dt_not (dt_val (de_call (ok_u_law_is_due T) (hr.mono (by decide)) T.g_u_law_is_due T.F_u_law_is_due.kp T.b_u_law_is_due (da_cons (de_call (ok_minus T) (hr.mono (by decide)) T.g_minus T.F_minus.kp T.b_minus (da_cons (de_var 6) (da_cons (de_var 7) (da_nil (m := .any))))) (da_cons (de_op op_sub r2_sub (de_var 9) (de_var 10)) (da_cons (de_var 11) (da_nil (m := .any))))))))
      (dss_one (ds_ret de_bl))
      dss_nil)
      (dss_cons (ds_if (dt_not (dt_val (de_call (ok_u_law_is_due T) (hr.mono (by decide)) T.g_u_law_is_due T.F_u_law_is_due.kp T.b_u_law_is_due (da_cons (de_call (ok_minus T) (hr.mono (by decide)) T.g_minus T.F_minus.kp T.b_minus (da_cons (de_var 7) (da_cons (de_var 6) (da_nil (m := .any))))) (da_cons (de_op op_sub r2_sub (de_var 10) (de_var 9)) (da_cons (de_var 11) (da_nil (m := .any))))))))
      (dss_one (ds_ret de_bl))
      dss_nil)
      (dss_cons (ds_if (dt_not (dt_val (de_call (ok_u_law_is_due T) (hr.mono (by decide)) T.g_u_law_is_due T.F_u_law_is_due.kp T.b_u_law_is_due (da_cons (de_call (ok_minus T) (hr.mono (by decide)) T.g_minus T.F_minus.kp T.b_minus (da_cons (de_var 6) (da_cons (de_var 8) (da_nil (m := .any))))) (da_cons de_int (da_cons de_int (da_nil (m := .any))))))))
      (dss_one (ds_ret de_bl))
      dss_nil)
      (dss_cons (ds_if (dt_not (dt_val (de_call (ok_u_law_is_due T) (hr.mono (by decide)) T.g_u_law_is_due T.F_u_law_is_due.kp T.b_u_law_is_due (da_cons (de_call (ok_plus T) (hr.mono (by decide)) T.g_plus T.F_plus.kp T.b_plus (da_cons (de_var 6) (da_cons (de_tup (da_cons (de_neg (de_ix (de_var 8) de_int)) (da_cons (de_ix (de_var 8) de_int) (da_nil (m := .any))))) (da_nil (m := .any))))) (da_cons de_int (da_cons de_int (da_nil (m := .any))))))))
      (dss_one (ds_ret de_bl))
      dss_nil)
      (dss_one (ds_ret (de_cmp (op_eqX hr.units) r2_eq (de_call (ok_plus T) (hr.mono (by decide)) T.g_plus T.F_plus.kp T.b_plus (da_cons (de_var 6) (da_cons (de_var 7) (da_nil (m := .any))))) (de_var 12) (nomark _)))))))))))))))))))))))))) ?_
  rintro xs Q - ⟨ns, rfl, hns, q⟩
  repeat' walk_at "d"
  intro ds hd
  obtain ⟨a, r, rfl, a0, a1, hd⟩ := hd.cons
  obtain ⟨m1, r, rfl, b0, b1, hd⟩ := hd.cons
  obtain ⟨m2, r, rfl, c0, c1, hd⟩ := hd.cons
  obtain ⟨m3, r, rfl, d0, d1, hd⟩ := hd.cons
  obtain rfl := hd.nil
  repeat' walk_at "d"
  intro t t0 t1
  repeat' walk_at "d"
  intro u u0 u1
  repeat' walk_at "d"
  intro v v0 v1
  repeat' walk_at "d"
  intro w' w0 w1
  have L : ((10 : Int) ^ Int.toNat 50) ^ Int.toNat 8 < 2 ^ 1399 := by decide +kernel
  have ht : Bits 1400 t := Bits.lim t0 t1 (by decide +kernel)
  have hv : Bits 1400 v := Bits.lim v0 v1 (by decide +kernel)
  have hu : Bits 1400 (1 + if u < 0 then -u else u) := by
    refine Bits.lim (l := 2 ^ 1399) ?_ ?_ (by decide +kernel) <;> split <;> omega
  have pu : 0 < 1 + if u < 0 then -u else u := by split <;> omega
  have hw : Bits 1400 (1 + if w' < 0 then -w' else w') := by
    refine Bits.lim (l := 2 ^ 1399) ?_ ?_ (by decide +kernel) <;> split <;> omega
  have pw : 0 < 1 + if w' < 0 then -w' else w' := by split <;> omega
  generalize (1 + if u < 0 then -u else u) = U at *
  have hn : Bits 1400 (-t) := ht.neg
  have mm : ∀ m : Int, Bits 64 (1 + m % 9) ∧ 0 < 1 + m % 9 := fun m => ⟨.small (by omega), by omega⟩
  obtain ⟨M1, p1⟩ := mm m1
  obtain ⟨M2, p2⟩ := mm m2
  obtain ⟨M3, p3⟩ := mm m3
  have core : ∀ c d : Int, Bits 1400 c → Bits 1400 d → 0 < d → ∀ A B C D E F : Int, A = t * (1 + m1 % 9) → B = U * (1 + m1 % 9) → C = c * (1 + m2 % 9) → D = d * (1 + m2 % 9) → E = t * (1 + m3 % 9) → F = U * (1 + m3 % 9) → Good A B C D E F := by
    rintro c d hc hd pd A B C D E F rfl rfl rfl rfl rfl rfl
    refine ⟨(ht.mul M1).up (by decide), (hu.mul M1).up (by decide), (hc.mul M2).up (by decide), (hd.mul M2).up (by decide), (ht.mul M3).up (by decide), (hu.mul M3).up (by decide), Int.mul_pos pu p1, Int.mul_pos pd p2, Int.mul_pos pu p3, ?_⟩
    simp only [Int.mul_left_comm, Int.mul_comm]
  repeat' walk_at "d"
  have g := core (-t) U hn hu pu _ _ _ _ _ _ rfl rfl rfl rfl rfl rfl
  generalize -t * (1 + m2 % 9) = C at *
  generalize U * (1 + m2 % 9) = D at *
  rotate_left
  have g := core (t) U ht hu pu _ _ _ _ _ _ rfl rfl rfl rfl rfl rfl
  generalize t * (1 + m2 % 9) = C at *
  generalize U * (1 + m2 % 9) = D at *
  rotate_left
  have g := core (v) U hv hu pu _ _ _ _ _ _ rfl rfl rfl rfl rfl rfl
  generalize v * (1 + m2 % 9) = C at *
  generalize U * (1 + m2 % 9) = D at *
  rotate_left
  have g := core v (1 + if w' < 0 then -w' else w') hv hw pw _ _ _ _ _ _ rfl rfl rfl rfl rfl rfl
  generalize v * (1 + m2 % 9) = C at *
  generalize (1 + if w' < 0 then -w' else w') * (1 + m2 % 9) = D at *
  rotate_left
  all_goals (
    clear core
    generalize t * (1 + m1 % 9) = A at *
    generalize U * (1 + m1 % 9) = B at *
    generalize t * (1 + m3 % 9) = E at *
    generalize U * (1 + m3 % 9) = F at *
    obtain ⟨ga, gb, gc, gd, ge, gf, pb, pd, pf, s⟩ := g
    have nbd : B * D ≠ 0 := Int.ne_of_gt (Int.mul_pos pb pd)
    have ndb : D * B ≠ 0 := Int.ne_of_gt (Int.mul_pos pd pb)
    have nbf : B * F ≠ 0 := Int.ne_of_gt (Int.mul_pos pb pf)
    have bad := ga.mul gd
    have bcb := gc.mul gb
    have bbd : Bits 3001 (B * D) := (gb.mul gd).up (by decide)
    have bdb : Bits 3001 (D * B) := (gd.mul gb).up (by decide)
    have bbf : Bits 3001 (B * F) := (gb.mul gf).up (by decide)
    have baf := ga.mul gf
    have beb := ge.mul gb
    have bng := ge.neg
    have bnb := bng.mul gb
    have bs1 : Bits 3001 (A * D + C * B) := bad.add bcb
    have bs2 : Bits 3001 (C * B + A * D) := bcb.add bad
    have bs3 : Bits 3001 (A * D - C * B) := bad.sub bcb
    have bs4 : Bits 3001 (C * B - A * D) := bcb.sub bad
    have bs5 : Bits 3001 (A * F - E * B) := baf.sub beb
    have bs6 : Bits 3001 (A * F + -E * B) := baf.add bnb
    have s5 : A * F - E * B = 0 := by omega
    have s6 : A * F + -E * B = 0 := by rw [Int.neg_mul]; omega
    obtain ⟨d1, d2, d3, d4, d5⟩ := low_due (X := A * D + C * B) (Y := B * D) nbd bs1 bbd rfl
    obtain ⟨e1, e2, e3, e4, e5⟩ := low_due (X := A * D + C * B) (Y := B * D) ndb bs2 bdb (by rw [Int.add_comm, Int.mul_comm D B])
    obtain ⟨f1, f2, f3, f4, f5⟩ := low_due (X := A * D - C * B) (Y := B * D) nbd bs3 bbd rfl
    obtain ⟨g1, g2, g3, g4, g5⟩ := low_due (X := C * B - A * D) (Y := B * D) ndb bs4 bdb (by rw [Int.mul_comm D B])
    obtain ⟨h1, h2, h3, h4, h5⟩ := low_due (X := 0) (Y := 1) nbf bs5 bbf (by rw [s5, Int.zero_mul, Int.zero_mul])
    obtain ⟨k1, k2, k3, k4, k5⟩ := low_due (X := 0) (Y := 1) nbf bs6 bbf (by rw [s6, Int.zero_mul, Int.zero_mul])
    have z0 : Bits 1 0 := ⟨by decide⟩
    have z1 : Bits 1 1 := ⟨by decide⟩
    repeat' walk_at "d"
    rw [cmp_self2]
    exact q)
end
theorem all_mk {P : Program} {w : World} {K : PySem.W.Frag} {h : Heap} {mg : Str → Option Value} {fa : Addr} (X : K.In h) (G : h.Ns mainGlobals mg) (hfa : mg "law" = some (.ref fa))
    {f_u_law_draws : Addr} {oc_u_law_draws kV_u_law_draws dc_u_law_draws pm_u_law_draws cd_u_law_draws ct_u_law_draws : Value} {od_u_law_draws an_u_law_draws : Option Addr} {sl_u_law_draws : Array (Option Value)}
    {f_u_law_cell : Addr} {oc_u_law_cell kV_u_law_cell dc_u_law_cell pm_u_law_cell cd_u_law_cell ct_u_law_cell : Value} {od_u_law_cell an_u_law_cell : Option Addr} {sl_u_law_cell : Array (Option Value)}
    {f_u_law_number : Addr} {oc_u_law_number kV_u_law_number dc_u_law_number pm_u_law_number cd_u_law_number ct_u_law_number : Value} {od_u_law_number an_u_law_number : Option Addr} {sl_u_law_number : Array (Option Value)}
    {f_u_law_widened : Addr} {oc_u_law_widened kV_u_law_widened dc_u_law_widened pm_u_law_widened cd_u_law_widened ct_u_law_widened : Value} {od_u_law_widened an_u_law_widened : Option Addr} {sl_u_law_widened : Array (Option Value)}
    {f_gcd : Addr} {oc_gcd kV_gcd dc_gcd pm_gcd cd_gcd ct_gcd : Value} {od_gcd an_gcd : Option Addr} {sl_gcd : Array (Option Value)}
    {f_lowest : Addr} {oc_lowest kV_lowest dc_lowest pm_lowest cd_lowest ct_lowest : Value} {od_lowest an_lowest : Option Addr} {sl_lowest : Array (Option Value)}
    {f_plus : Addr} {oc_plus kV_plus dc_plus pm_plus cd_plus ct_plus : Value} {od_plus an_plus : Option Addr} {sl_plus : Array (Option Value)}
    {f_u_law_same : Addr} {oc_u_law_same kV_u_law_same dc_u_law_same pm_u_law_same cd_u_law_same ct_u_law_same : Value} {od_u_law_same an_u_law_same : Option Addr} {sl_u_law_same : Array (Option Value)}
    {f_u_law_is_integer : Addr} {oc_u_law_is_integer kV_u_law_is_integer dc_u_law_is_integer pm_u_law_is_integer cd_u_law_is_integer ct_u_law_is_integer : Value} {od_u_law_is_integer an_u_law_is_integer : Option Addr} {sl_u_law_is_integer : Array (Option Value)}
    {f_u_law_gcd : Addr} {oc_u_law_gcd kV_u_law_gcd dc_u_law_gcd pm_u_law_gcd cd_u_law_gcd ct_u_law_gcd : Value} {od_u_law_gcd an_u_law_gcd : Option Addr} {sl_u_law_gcd : Array (Option Value)}
    {f_u_law_is_ratio : Addr} {oc_u_law_is_ratio kV_u_law_is_ratio dc_u_law_is_ratio pm_u_law_is_ratio cd_u_law_is_ratio ct_u_law_is_ratio : Value} {od_u_law_is_ratio an_u_law_is_ratio : Option Addr} {sl_u_law_is_ratio : Array (Option Value)}
    {f_u_law_is_due : Addr} {oc_u_law_is_due kV_u_law_is_due dc_u_law_is_due pm_u_law_is_due cd_u_law_is_due ct_u_law_is_due : Value} {od_u_law_is_due an_u_law_is_due : Option Addr} {sl_u_law_is_due : Array (Option Value)}
    {f_minus : Addr} {oc_minus kV_minus dc_minus pm_minus cd_minus ct_minus : Value} {od_minus an_minus : Option Addr} {sl_minus : Array (Option Value)}
    {f_law : Addr} {oc_law kV_law dc_law pm_law cd_law ct_law : Value} {od_law an_law : Option Addr} {sl_law : Array (Option Value)}
    (z_abs : PySem.W.nsIn K mainGlobals "abs" = some none)
    (z_bool : PySem.W.nsIn K mainGlobals "bool" = some none)
    (z_int : PySem.W.nsIn K mainGlobals "int" = some none)
    (z_isinstance : PySem.W.nsIn K mainGlobals "isinstance" = some none)
    (z_len : PySem.W.nsIn K mainGlobals "len" = some none)
    (z_min : PySem.W.nsIn K mainGlobals "min" = some none)
    (z_range : PySem.W.nsIn K mainGlobals "range" = some none)
    (z_tuple : PySem.W.nsIn K mainGlobals "tuple" = some none)
    (a_u_law_draws : PySem.W.nsIn K mainGlobals "_law_draws" = some (some (.ref f_u_law_draws)))
    (l_u_law_draws : K.lookup f_u_law_draws = some ⟨oc_u_law_draws, od_u_law_draws, .func (PySem.W.fnOf "_law_draws" "_law_draws" (defArgs s_u_law_draws) (defBody s_u_law_draws) (defScope s_u_law_draws) .none kV_u_law_draws dc_u_law_draws pm_u_law_draws an_u_law_draws cd_u_law_draws ct_u_law_draws), sl_u_law_draws⟩)
    (c_u_law_draws : PySem.W.codeIn K cd_u_law_draws "_law_draws" = true)
    (k_u_law_draws : PySem.W.keepIn K (.ref f_u_law_draws) = true)
    (a_u_law_cell : PySem.W.nsIn K mainGlobals "_law_cell" = some (some (.ref f_u_law_cell)))
    (l_u_law_cell : K.lookup f_u_law_cell = some ⟨oc_u_law_cell, od_u_law_cell, .func (PySem.W.fnOf "_law_cell" "_law_cell" (defArgs s_u_law_cell) (defBody s_u_law_cell) (defScope s_u_law_cell) .none kV_u_law_cell dc_u_law_cell pm_u_law_cell an_u_law_cell cd_u_law_cell ct_u_law_cell), sl_u_law_cell⟩)
    (c_u_law_cell : PySem.W.codeIn K cd_u_law_cell "_law_cell" = true)
    (k_u_law_cell : PySem.W.keepIn K (.ref f_u_law_cell) = true)
    (a_u_law_number : PySem.W.nsIn K mainGlobals "_law_number" = some (some (.ref f_u_law_number)))
    (l_u_law_number : K.lookup f_u_law_number = some ⟨oc_u_law_number, od_u_law_number, .func (PySem.W.fnOf "_law_number" "_law_number" (defArgs s_u_law_number) (defBody s_u_law_number) (defScope s_u_law_number) .none kV_u_law_number dc_u_law_number pm_u_law_number an_u_law_number cd_u_law_number ct_u_law_number), sl_u_law_number⟩)
    (c_u_law_number : PySem.W.codeIn K cd_u_law_number "_law_number" = true)
    (k_u_law_number : PySem.W.keepIn K (.ref f_u_law_number) = true)
    (a_u_law_widened : PySem.W.nsIn K mainGlobals "_law_widened" = some (some (.ref f_u_law_widened)))
    (l_u_law_widened : K.lookup f_u_law_widened = some ⟨oc_u_law_widened, od_u_law_widened, .func (PySem.W.fnOf "_law_widened" "_law_widened" (defArgs s_u_law_widened) (defBody s_u_law_widened) (defScope s_u_law_widened) .none kV_u_law_widened dc_u_law_widened pm_u_law_widened an_u_law_widened cd_u_law_widened ct_u_law_widened), sl_u_law_widened⟩)
    (c_u_law_widened : PySem.W.codeIn K cd_u_law_widened "_law_widened" = true)
    (k_u_law_widened : PySem.W.keepIn K (.ref f_u_law_widened) = true)
    (a_gcd : PySem.W.nsIn K mainGlobals "gcd" = some (some (.ref f_gcd)))
    (l_gcd : K.lookup f_gcd = some ⟨oc_gcd, od_gcd, .func (PySem.W.fnOf "gcd" "gcd" (defArgs s_gcd) (defBody s_gcd) (defScope s_gcd) .none kV_gcd dc_gcd pm_gcd an_gcd cd_gcd ct_gcd), sl_gcd⟩)
    (c_gcd : PySem.W.codeIn K cd_gcd "gcd" = true)
    (k_gcd : PySem.W.keepIn K (.ref f_gcd) = true)
    (a_lowest : PySem.W.nsIn K mainGlobals "lowest" = some (some (.ref f_lowest)))
    (l_lowest : K.lookup f_lowest = some ⟨oc_lowest, od_lowest, .func (PySem.W.fnOf "lowest" "lowest" (defArgs s_lowest) (defBody s_lowest) (defScope s_lowest) .none kV_lowest dc_lowest pm_lowest an_lowest cd_lowest ct_lowest), sl_lowest⟩)
    (c_lowest : PySem.W.codeIn K cd_lowest "lowest" = true)
    (k_lowest : PySem.W.keepIn K (.ref f_lowest) = true)
    (a_plus : PySem.W.nsIn K mainGlobals "plus" = some (some (.ref f_plus)))
    (l_plus : K.lookup f_plus = some ⟨oc_plus, od_plus, .func (PySem.W.fnOf "plus" "plus" (defArgs s_plus) (defBody s_plus) (defScope s_plus) .none kV_plus dc_plus pm_plus an_plus cd_plus ct_plus), sl_plus⟩)
    (c_plus : PySem.W.codeIn K cd_plus "plus" = true)
    (k_plus : PySem.W.keepIn K (.ref f_plus) = true)
    (a_u_law_same : PySem.W.nsIn K mainGlobals "_law_same" = some (some (.ref f_u_law_same)))
    (l_u_law_same : K.lookup f_u_law_same = some ⟨oc_u_law_same, od_u_law_same, .func (PySem.W.fnOf "_law_same" "_law_same" (defArgs s_u_law_same) (defBody s_u_law_same) (defScope s_u_law_same) .none kV_u_law_same dc_u_law_same pm_u_law_same an_u_law_same cd_u_law_same ct_u_law_same), sl_u_law_same⟩)
    (c_u_law_same : PySem.W.codeIn K cd_u_law_same "_law_same" = true)
    (k_u_law_same : PySem.W.keepIn K (.ref f_u_law_same) = true)
    (a_u_law_is_integer : PySem.W.nsIn K mainGlobals "_law_is_integer" = some (some (.ref f_u_law_is_integer)))
    (l_u_law_is_integer : K.lookup f_u_law_is_integer = some ⟨oc_u_law_is_integer, od_u_law_is_integer, .func (PySem.W.fnOf "_law_is_integer" "_law_is_integer" (defArgs s_u_law_is_integer) (defBody s_u_law_is_integer) (defScope s_u_law_is_integer) .none kV_u_law_is_integer dc_u_law_is_integer pm_u_law_is_integer an_u_law_is_integer cd_u_law_is_integer ct_u_law_is_integer), sl_u_law_is_integer⟩)
    (c_u_law_is_integer : PySem.W.codeIn K cd_u_law_is_integer "_law_is_integer" = true)
    (k_u_law_is_integer : PySem.W.keepIn K (.ref f_u_law_is_integer) = true)
    (a_u_law_gcd : PySem.W.nsIn K mainGlobals "_law_gcd" = some (some (.ref f_u_law_gcd)))
    (l_u_law_gcd : K.lookup f_u_law_gcd = some ⟨oc_u_law_gcd, od_u_law_gcd, .func (PySem.W.fnOf "_law_gcd" "_law_gcd" (defArgs s_u_law_gcd) (defBody s_u_law_gcd) (defScope s_u_law_gcd) .none kV_u_law_gcd dc_u_law_gcd pm_u_law_gcd an_u_law_gcd cd_u_law_gcd ct_u_law_gcd), sl_u_law_gcd⟩)
    (c_u_law_gcd : PySem.W.codeIn K cd_u_law_gcd "_law_gcd" = true)
    (k_u_law_gcd : PySem.W.keepIn K (.ref f_u_law_gcd) = true)
    (a_u_law_is_ratio : PySem.W.nsIn K mainGlobals "_law_is_ratio" = some (some (.ref f_u_law_is_ratio)))
    (l_u_law_is_ratio : K.lookup f_u_law_is_ratio = some ⟨oc_u_law_is_ratio, od_u_law_is_ratio, .func (PySem.W.fnOf "_law_is_ratio" "_law_is_ratio" (defArgs s_u_law_is_ratio) (defBody s_u_law_is_ratio) (defScope s_u_law_is_ratio) .none kV_u_law_is_ratio dc_u_law_is_ratio pm_u_law_is_ratio an_u_law_is_ratio cd_u_law_is_ratio ct_u_law_is_ratio), sl_u_law_is_ratio⟩)
    (c_u_law_is_ratio : PySem.W.codeIn K cd_u_law_is_ratio "_law_is_ratio" = true)
    (k_u_law_is_ratio : PySem.W.keepIn K (.ref f_u_law_is_ratio) = true)
    (a_u_law_is_due : PySem.W.nsIn K mainGlobals "_law_is_due" = some (some (.ref f_u_law_is_due)))
    (l_u_law_is_due : K.lookup f_u_law_is_due = some ⟨oc_u_law_is_due, od_u_law_is_due, .func (PySem.W.fnOf "_law_is_due" "_law_is_due" (defArgs s_u_law_is_due) (defBody s_u_law_is_due) (defScope s_u_law_is_due) .none kV_u_law_is_due dc_u_law_is_due pm_u_law_is_due an_u_law_is_due cd_u_law_is_due ct_u_law_is_due), sl_u_law_is_due⟩)
    (c_u_law_is_due : PySem.W.codeIn K cd_u_law_is_due "_law_is_due" = true)
    (k_u_law_is_due : PySem.W.keepIn K (.ref f_u_law_is_due) = true)
    (a_minus : PySem.W.nsIn K mainGlobals "minus" = some (some (.ref f_minus)))
    (l_minus : K.lookup f_minus = some ⟨oc_minus, od_minus, .func (PySem.W.fnOf "minus" "minus" (defArgs s_minus) (defBody s_minus) (defScope s_minus) .none kV_minus dc_minus pm_minus an_minus cd_minus ct_minus), sl_minus⟩)
    (c_minus : PySem.W.codeIn K cd_minus "minus" = true)
    (k_minus : PySem.W.keepIn K (.ref f_minus) = true)
    (a_law : PySem.W.nsIn K mainGlobals "law" = some (some (.ref f_law)))
    (l_law : K.lookup f_law = some ⟨oc_law, od_law, .func (PySem.W.fnOf "law" "law" (defArgs s_law) (defBody s_law) (defScope s_law) .none kV_law dc_law pm_law an_law cd_law ct_law), sl_law⟩)
    (c_law : PySem.W.codeIn K cd_law "law" = true)
    (k_law : PySem.W.keepIn K (.ref f_law) = true)
    : ∃ fd : FuncData, (∀ (s : Shared) (v : Value), BindsTo s fd ⟨[v], []⟩ [("_law_script", v)]) ∧ ∀ base : Heap, K.In base → base.Ns mainGlobals mg → FnOk P w K mg base CX0 4 fa fd ["_law_script"] (spD K 1 true pfLaw) := by
  have e := hfa.symm.trans (PySem.W.mg_of X G a_law)
  cases e
  have F_u_law_draws := fun_mk (st := s_u_law_draws) l_u_law_draws c_u_law_draws k_u_law_draws
  have b_u_law_draws := F_u_law_draws.binds (ps := ["_law_cell_here", "_law_count"]) fun _ _ _ _ _ _ us hl => match us, hl with | [_, _], _ => rfl
  have F_u_law_cell := fun_mk (st := s_u_law_cell) l_u_law_cell c_u_law_cell k_u_law_cell
  have b_u_law_cell := F_u_law_cell.binds (ps := ["_law_script", "_law_k"]) fun _ _ _ _ _ _ us hl => match us, hl with | [_, _], _ => rfl
  have F_u_law_number := fun_mk (st := s_u_law_number) l_u_law_number c_u_law_number k_u_law_number
  have b_u_law_number := F_u_law_number.binds (ps := ["_law_script", "_law_place", "_law_limit"]) fun _ _ _ _ _ _ us hl => match us, hl with | [_, _, _], _ => rfl
  have F_u_law_widened := fun_mk (st := s_u_law_widened) l_u_law_widened c_u_law_widened k_u_law_widened
  have b_u_law_widened := F_u_law_widened.binds (ps := ["_law_ratio", "_law_factor"]) fun _ _ _ _ _ _ us hl => match us, hl with | [_, _], _ => rfl
  have F_gcd := fun_mk (st := s_gcd) l_gcd c_gcd k_gcd
  have b_gcd := F_gcd.binds (ps := ["first", "second"]) fun _ _ _ _ _ _ us hl => match us, hl with | [_, _], _ => rfl
  have F_lowest := fun_mk (st := s_lowest) l_lowest c_lowest k_lowest
  have b_lowest := F_lowest.binds (ps := ["top", "bottom"]) fun _ _ _ _ _ _ us hl => match us, hl with | [_, _], _ => rfl
  have F_plus := fun_mk (st := s_plus) l_plus c_plus k_plus
  have b_plus := F_plus.binds (ps := ["first", "second"]) fun _ _ _ _ _ _ us hl => match us, hl with | [_, _], _ => rfl
  have F_u_law_same := fun_mk (st := s_u_law_same) l_u_law_same c_u_law_same k_u_law_same
  have b_u_law_same := F_u_law_same.binds (ps := ["_law_one", "_law_two"]) fun _ _ _ _ _ _ us hl => match us, hl with | [_, _], _ => rfl
  have F_u_law_is_integer := fun_mk (st := s_u_law_is_integer) l_u_law_is_integer c_u_law_is_integer k_u_law_is_integer
  have b_u_law_is_integer := F_u_law_is_integer.binds (ps := ["_law_x"]) fun _ _ _ _ _ _ us hl => match us, hl with | [_], _ => rfl
  have F_u_law_gcd := fun_mk (st := s_u_law_gcd) l_u_law_gcd c_u_law_gcd k_u_law_gcd
  have b_u_law_gcd := F_u_law_gcd.binds (ps := ["_law_first", "_law_second"]) fun _ _ _ _ _ _ us hl => match us, hl with | [_, _], _ => rfl
  have F_u_law_is_ratio := fun_mk (st := s_u_law_is_ratio) l_u_law_is_ratio c_u_law_is_ratio k_u_law_is_ratio
  have b_u_law_is_ratio := F_u_law_is_ratio.binds (ps := ["_law_x"]) fun _ _ _ _ _ _ us hl => match us, hl with | [_], _ => rfl
  have F_u_law_is_due := fun_mk (st := s_u_law_is_due) l_u_law_is_due c_u_law_is_due k_u_law_is_due
  have b_u_law_is_due := F_u_law_is_due.binds (ps := ["_law_told", "_law_top", "_law_bottom"]) fun _ _ _ _ _ _ us hl => match us, hl with | [_, _, _], _ => rfl
  have F_minus := fun_mk (st := s_minus) l_minus c_minus k_minus
  have b_minus := F_minus.binds (ps := ["first", "second"]) fun _ _ _ _ _ _ us hl => match us, hl with | [_, _], _ => rfl
  have F_law := fun_mk (st := s_law) l_law c_law k_law
  exact ⟨_, fun s v => .of_eq rfl, fun base _ _ => ok_law F_law ({
    f_u_law_draws := f_u_law_draws
    d_u_law_draws := _
    F_u_law_draws := F_u_law_draws
    b_u_law_draws := b_u_law_draws
    g_u_law_draws := PySem.W.mg_of X G a_u_law_draws
    f_u_law_cell := f_u_law_cell
    d_u_law_cell := _
    F_u_law_cell := F_u_law_cell
    b_u_law_cell := b_u_law_cell
    g_u_law_cell := PySem.W.mg_of X G a_u_law_cell
    f_u_law_number := f_u_law_number
    d_u_law_number := _
    F_u_law_number := F_u_law_number
    b_u_law_number := b_u_law_number
    g_u_law_number := PySem.W.mg_of X G a_u_law_number
    f_u_law_widened := f_u_law_widened
    d_u_law_widened := _
    F_u_law_widened := F_u_law_widened
    b_u_law_widened := b_u_law_widened
    g_u_law_widened := PySem.W.mg_of X G a_u_law_widened
    f_gcd := f_gcd
    d_gcd := _
    F_gcd := F_gcd
    b_gcd := b_gcd
    g_gcd := PySem.W.mg_of X G a_gcd
    f_lowest := f_lowest
    d_lowest := _
    F_lowest := F_lowest
    b_lowest := b_lowest
    g_lowest := PySem.W.mg_of X G a_lowest
    f_plus := f_plus
    d_plus := _
    F_plus := F_plus
    b_plus := b_plus
    g_plus := PySem.W.mg_of X G a_plus
    f_u_law_same := f_u_law_same
    d_u_law_same := _
    F_u_law_same := F_u_law_same
    b_u_law_same := b_u_law_same
    g_u_law_same := PySem.W.mg_of X G a_u_law_same
    f_u_law_is_integer := f_u_law_is_integer
    d_u_law_is_integer := _
    F_u_law_is_integer := F_u_law_is_integer
    b_u_law_is_integer := b_u_law_is_integer
    g_u_law_is_integer := PySem.W.mg_of X G a_u_law_is_integer
    f_u_law_gcd := f_u_law_gcd
    d_u_law_gcd := _
    F_u_law_gcd := F_u_law_gcd
    b_u_law_gcd := b_u_law_gcd
    g_u_law_gcd := PySem.W.mg_of X G a_u_law_gcd
    f_u_law_is_ratio := f_u_law_is_ratio
    d_u_law_is_ratio := _
    F_u_law_is_ratio := F_u_law_is_ratio
    b_u_law_is_ratio := b_u_law_is_ratio
    g_u_law_is_ratio := PySem.W.mg_of X G a_u_law_is_ratio
    f_u_law_is_due := f_u_law_is_due
    d_u_law_is_due := _
    F_u_law_is_due := F_u_law_is_due
    b_u_law_is_due := b_u_law_is_due
    g_u_law_is_due := PySem.W.mg_of X G a_u_law_is_due
    f_minus := f_minus
    d_minus := _
    F_minus := F_minus
    b_minus := b_minus
    g_minus := PySem.W.mg_of X G a_minus
    n_abs := PySem.W.mg_none_of X G z_abs
    n_bool := PySem.W.mg_none_of X G z_bool
    n_int := PySem.W.mg_none_of X G z_int
    n_isinstance := PySem.W.mg_none_of X G z_isinstance
    n_len := PySem.W.mg_none_of X G z_len
    n_min := PySem.W.mg_none_of X G z_min
    n_range := PySem.W.mg_none_of X G z_range
    n_tuple := PySem.W.mg_none_of X G z_tuple } : Tx K mg)⟩
end My
open PySem PySem.W PyProof.Rows in
set_option maxRecDepth 100000 in
set_option maxHeartbeats 0 in
theorem PySem.Challenge.cw_digtips_k02_plus_and_minus_holds : PySem.Challenge.rw_digtips_k02_plus_and_minus.Holds := by
  w_on; o_law; k_head; (case hw => w_witness2)
  k_fill
  refine DL.walkD (l := PySem.Challenge.rw_digtips_k02_plus_and_minus) (x := "_law_script") (kk := 4) rfl rfl ⟨rfl, by decide, by decide⟩ (fun w h Y => PySem.W.kIn_of Y) ?F
  case F =>
    intro w mg fa h KX G hmg
    refine' My.all_mk KX G hmg ?z_abs ?z_bool ?z_int ?z_isinstance ?z_len ?z_min ?z_range ?z_tuple ?a_u_law_draws ?l_u_law_draws ?c_u_law_draws ?k_u_law_draws ?a_u_law_cell ?l_u_law_cell ?c_u_law_cell ?k_u_law_cell ?a_u_law_number ?l_u_law_number ?c_u_law_number ?k_u_law_number ?a_u_law_widened ?l_u_law_widened ?c_u_law_widened ?k_u_law_widened ?a_gcd ?l_gcd ?c_gcd ?k_gcd ?a_lowest ?l_lowest ?c_lowest ?k_lowest ?a_plus ?l_plus ?c_plus ?k_plus ?a_u_law_same ?l_u_law_same ?c_u_law_same ?k_u_law_same ?a_u_law_is_integer ?l_u_law_is_integer ?c_u_law_is_integer ?k_u_law_is_integer ?a_u_law_gcd ?l_u_law_gcd ?c_u_law_gcd ?k_u_law_gcd ?a_u_law_is_ratio ?l_u_law_is_ratio ?c_u_law_is_ratio ?k_u_law_is_ratio ?a_u_law_is_due ?l_u_law_is_due ?c_u_law_is_due ?k_u_law_is_due ?a_minus ?l_minus ?c_minus ?k_minus ?a_law ?l_law ?c_law ?k_law
    (case z_abs => k_is)
    (case z_bool => k_is)
    (case z_int => k_is)
    (case z_isinstance => k_is)
    (case z_len => k_is)
    (case z_min => k_is)
    (case z_range => k_is)
    (case z_tuple => k_is)
    (case a_u_law_draws => k_is)
    (case l_u_law_draws => k_is)
    (case c_u_law_draws => k_is)
    (case k_u_law_draws => k_is)
    (case a_u_law_cell => k_is)
    (case l_u_law_cell => k_is)
    (case c_u_law_cell => k_is)
    (case k_u_law_cell => k_is)
    (case a_u_law_number => k_is)
    (case l_u_law_number => k_is)
    (case c_u_law_number => k_is)
    (case k_u_law_number => k_is)
    (case a_u_law_widened => k_is)
    (case l_u_law_widened => k_is)
    (case c_u_law_widened => k_is)
    (case k_u_law_widened => k_is)
    (case a_gcd => k_is)
    (case l_gcd => k_is)
    (case c_gcd => k_is)
    (case k_gcd => k_is)
    (case a_lowest => k_is)
    (case l_lowest => k_is)
    (case c_lowest => k_is)
    (case k_lowest => k_is)
    (case a_plus => k_is)
    (case l_plus => k_is)
    (case c_plus => k_is)
    (case k_plus => k_is)
    (case a_u_law_same => k_is)
    (case l_u_law_same => k_is)
    (case c_u_law_same => k_is)
    (case k_u_law_same => k_is)
    (case a_u_law_is_integer => k_is)
    (case l_u_law_is_integer => k_is)
    (case c_u_law_is_integer => k_is)
    (case k_u_law_is_integer => k_is)
    (case a_u_law_gcd => k_is)
    (case l_u_law_gcd => k_is)
    (case c_u_law_gcd => k_is)
    (case k_u_law_gcd => k_is)
    (case a_u_law_is_ratio => k_is)
    (case l_u_law_is_ratio => k_is)
    (case c_u_law_is_ratio => k_is)
    (case k_u_law_is_ratio => k_is)
    (case a_u_law_is_due => k_is)
    (case l_u_law_is_due => k_is)
    (case c_u_law_is_due => k_is)
    (case k_u_law_is_due => k_is)
    (case a_minus => k_is)
    (case l_minus => k_is)
    (case c_minus => k_is)
    (case k_minus => k_is)
    (case a_law => k_is)
    (case l_law => k_is)
    (case c_law => k_is)
    (case k_law => k_is)

