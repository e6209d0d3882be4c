import PyProof.Rows.All
import Wide.All
import OpenK.AllK
import Wide.FinOn
import HandS.ForMost
import HandS.IsInst
import HandS.TupAny
import HandS.Deep
import HandS.Style
import HandS.Wide
import HandS.Zip
import PySem.Challenge.RW_mayrest_k01_path_forms
set_option Elab.async false
set_option linter.all false
set_option maxRecDepth 100000
set_option autoImplicit false

namespace DL
open PySem PySem.Spec PyProof.Rows L2

/-! plain data, and how a value of the heap stands for it -/
inductive D where
  | none
  | bool (b : Bool)
  | int (i : Int)
  | str (x : Str)
  | tup (xs : List D)
  | lst (xs : List D)
  | dct (ks : List Key) (xs : List D)
  | obj (C : Addr) (ns : List Str) (xs : List D)
  | any (v : V)

mutual
def Rp (K : PySem.W.Frag) (H : Hp) : D → V → Prop
  | .none, v => v = .non
  | .bool b, v => v = .bl b
  | .int i, v => v = .int i
  | .str x, v => v = .str x
  | .tup ds, v => ∃ a vs, v = .ref a ∧ H a = some (.tup vs) ∧ RpA K H ds vs
  | .lst ds, v => ∃ a vs, v = .ref a ∧ H a = some (.lst vs) ∧ RpA K H ds vs
  | .dct ks ds, v => ∃ a vs, v = .ref a ∧ H a = some (.dK (ks.zip vs)) ∧ ks.length = vs.length ∧ RpA K H ds vs
  | .obj C ns ds, v => ∃ a dx vs, v = .ref a ∧ H a = some (.ins C dx (ns.zip vs)) ∧ H dx = some (.own a) ∧ ns.length = vs.length ∧ RpA K H ds vs
  | .any w, v => v = w
def RpA (K : PySem.W.Frag) (H : Hp) : List D → List V → Prop
  | [], vs => vs = []
  | d :: ds, vs => ∃ v r, vs = v :: r ∧ Rp K H d v ∧ RpA K H ds r
end

section
variable {K : PySem.W.Frag} {H H' : Hp}
theorem sqT_mono {a : Addr} {xs : List V} (e : Same H H') (h : SqT K H a xs) : SqT K H' a xs := by
  rcases h with (h | ⟨o, h⟩) | h
  · exact .inl (.inl (e _ _ h))
  · exact .inl (.inr ⟨o, e _ _ h⟩)
  · exact .inr h
mutual
theorem Rp.mono (e : Same H H') : ∀ (d : D) (v : V), Rp K H d v → Rp K H' d v
  | .none, _, h => h
  | .bool _, _, h => h
  | .int _, _, h => h
  | .str _, _, h => h
  | .tup ds, _, ⟨a, vs, h1, h2, h3⟩ => ⟨a, vs, h1, e _ _ h2, RpA.mono e ds vs h3⟩
  | .lst ds, _, ⟨a, vs, h1, h2, h3⟩ => ⟨a, vs, h1, e _ _ h2, RpA.mono e ds vs h3⟩
  | .dct ks ds, _, ⟨a, vs, h1, h2, h3, h4⟩ => ⟨a, vs, h1, e _ _ h2, h3, RpA.mono e ds vs h4⟩
  | .obj C ns ds, _, ⟨a, dx, vs, h1, h2, h3, h4, h5⟩ => ⟨a, dx, vs, h1, e _ _ h2, e _ _ h3, h4, RpA.mono e ds vs h5⟩
  | .any _, _, h => h
theorem RpA.mono (e : Same H H') : ∀ (ds : List D) (vs : List V), RpA K H ds vs → RpA K H' ds vs
  | [], _, h => h
  | d :: ds, _, ⟨v, r, h1, h2, h3⟩ => ⟨v, r, h1, Rp.mono e d v h2, RpA.mono e ds r h3⟩
end
theorem RpA.length : ∀ {ds : List D} {vs : List V}, RpA K H ds vs → ds.length = vs.length
  | [], _, h => by cases h; rfl
  | _ :: _, _, ⟨_, _, h1, _, h3⟩ => by subst h1; simp [RpA.length h3]
theorem RpA.get : ∀ {ds : List D} {vs : List V} {i : Nat} {d : D}, RpA K H ds vs → ds[i]? = some d → ∃ v, vs[i]? = some v ∧ Rp K H d v
  | [], _, _, _, _, e => by simp at e
  | d :: ds, _, 0, _, ⟨v, r, h1, h2, h3⟩, e => by simp at e; subst e; subst h1; exact ⟨v, rfl, h2⟩
  | d :: ds, _, i + 1, _, ⟨v, r, h1, h2, h3⟩, e => by subst h1; simpa using RpA.get h3 (by simpa using e)
theorem RpA.getV : ∀ {ds : List D} {vs : List V} {i : Nat} {v : V}, RpA K H ds vs → vs[i]? = some v → ∃ d, ds[i]? = some d ∧ Rp K H d v
  | [], _, _, _, h, e => by cases h; simp at e
  | d :: ds, _, 0, _, ⟨v, r, h1, h2, h3⟩, e => by subst h1; simp at e; subst e; exact ⟨d, rfl, h2⟩
  | d :: ds, _, i + 1, _, ⟨v, r, h1, h2, h3⟩, e => by subst h1; simpa using RpA.getV h3 (by simpa using e)
theorem RpA.append : ∀ {ds es : List D} {vs ws : List V}, RpA K H ds vs → RpA K H es ws → RpA K H (ds ++ es) (vs ++ ws)
  | [], _, _, _, h, q => by cases h; exact q
  | d :: ds, _, _, _, ⟨v, r, h1, h2, h3⟩, q => by subst h1; exact ⟨v, r ++ _, rfl, h2, RpA.append h3 q⟩
theorem RpA.take : ∀ {ds : List D} {vs : List V} (n : Nat), RpA K H ds vs → RpA K H (ds.take n) (vs.take n)
  | _, _, 0, _ => rfl
  | [], _, _ + 1, h => by cases h; rfl
  | _ :: _, _, n + 1, ⟨v, r, h1, h2, h3⟩ => by subst h1; exact ⟨v, _, rfl, h2, RpA.take n h3⟩
theorem RpA.drop : ∀ {ds : List D} {vs : List V} (n : Nat), RpA K H ds vs → RpA K H (ds.drop n) (vs.drop n)
  | _, _, 0, h => h
  | [], _, _ + 1, h => by cases h; rfl
  | _ :: _, _, n + 1, ⟨v, r, h1, h2, h3⟩ => by subst h1; exact RpA.drop n h3
theorem RpA.one {d : D} {v : V} (h : Rp K H d v) : RpA K H [d] [v] := ⟨v, [], rfl, h, rfl⟩
theorem RpA.set : ∀ {ds : List D} {vs : List V} {d : D} {v : V} (n : Nat), RpA K H ds vs → Rp K H d v → RpA K H (ds.set n d) (vs.set n v)
  | [], _, _, _, _, h, _ => by cases h; rfl
  | _ :: _, _, _, _, 0, ⟨v, r, h1, h2, h3⟩, q => by subst h1; exact ⟨_, _, rfl, q, h3⟩
  | _ :: _, _, _, _, n + 1, ⟨v, r, h1, h2, h3⟩, q => by subst h1; exact ⟨_, _, rfl, h2, RpA.set n h3 q⟩
theorem RpA.reverse : ∀ {ds : List D} {vs : List V}, RpA K H ds vs → RpA K H ds.reverse vs.reverse
  | [], _, h => by cases h; rfl
  | d :: ds, _, ⟨v, r, h1, h2, h3⟩ => by subst h1; rw [List.reverse_cons, List.reverse_cons]; exact RpA.append (RpA.reverse h3) (RpA.one h2)
theorem RpA.map {α : Type} {f : α → D} {g : α → V} (h : ∀ x, Rp K H (f x) (g x)) : ∀ l : List α, RpA K H (l.map f) (l.map g)
  | [] => rfl
  | x :: l => ⟨_, _, rfl, h x, RpA.map h l⟩
theorem RpA.ints : ∀ {l : List Int} {vs : List V}, RpA K H (l.map D.int) vs → vs = l.map V.int
  | [], _, h => h
  | x :: l, _, ⟨v, r, h1, h2, h3⟩ => by subst h1; cases h2; rw [RpA.ints h3]; rfl
theorem RpA.strs : ∀ {l : List Str} {vs : List V}, RpA K H (l.map D.str) vs → vs = l.map V.str
  | [], _, h => h
  | x :: l, _, ⟨v, r, h1, h2, h3⟩ => by subst h1; cases h2; rw [RpA.strs h3]; rfl
theorem RpA.bools : ∀ {l : List Bool} {vs : List V}, RpA K H (l.map D.bool) vs → vs = l.map V.bl
  | [], _, h => h
  | x :: l, _, ⟨v, r, h1, h2, h3⟩ => by subst h1; cases h2; rw [RpA.bools h3]; rfl
end

/-! data without lists and dicts -/
mutual
def D.flat : D → Bool
  | .none => true
  | .bool _ => true
  | .int _ => true
  | .str _ => true
  | .tup ds => flatA ds
  | .lst _ => false
  | .dct _ _ => false
  | .obj _ _ ds => flatA ds
  | .any _ => true
def flatA : List D → Bool
  | [] => true
  | d :: ds => d.flat && flatA ds
end
def isLD : HO → Bool
  | .lst _ => true
  | .dK _ => true
  | .dT _ => true
  | _ => false
section
variable {K : PySem.W.Frag} {H H' : Hp}
mutual
theorem Rp.flat (e : ∀ a o, H a = some o → isLD o = false → H' a = some o) : ∀ (d : D) (v : V), d.flat = true → Rp K H d v → Rp K H' d v
  | .none, _, _, h => h
  | .bool _, _, _, h => h
  | .int _, _, _, h => h
  | .str _, _, _, h => h
  | .tup ds, _, f, ⟨a, vs, h1, h2, h3⟩ => ⟨a, vs, h1, e _ _ h2 rfl, RpA.flat e ds vs f h3⟩
  | .lst ds, _, f, _ => by cases f
  | .dct ks ds, _, f, _ => by cases f
  | .obj C ns ds, _, f, ⟨a, dx, vs, h1, h2, h3, h4, h5⟩ => ⟨a, dx, vs, h1, e _ _ h2 rfl, e _ _ h3 rfl, h4, RpA.flat e ds vs f h5⟩
  | .any _, _, _, h => h
theorem RpA.flat (e : ∀ a o, H a = some o → isLD o = false → H' a = some o) : ∀ (ds : List D) (vs : List V), flatA ds = true → RpA K H ds vs → RpA K H' ds vs
  | [], _, _, h => h
  | d :: ds, _, f, ⟨v, r, h1, h2, h3⟩ => by
    have f' : d.flat = true ∧ flatA ds = true := Bool.and_eq_true_iff.mp f
    exact ⟨v, r, h1, Rp.flat e d v f'.1 h2, RpA.flat e ds r f'.2 h3⟩
end
end

/-! the deck of draws -/
structure Dk where
  a : Addr
  b : Addr
  c : Addr
def Dk.has (g : Option Dk) (x : Addr) : Prop := match g with
  | none => False
  | some k => x = k.a ∨ x = k.b ∨ x = k.c
structure DkAt (k : Dk) (H : Hp) (f : Nat) : Prop where
  ab : k.a ≠ k.b
  ac : k.a ≠ k.c
  bc : k.b ≠ k.c
  at_ : ∃ (n : Int) (xs ys : List Int), H k.a = some (.lst [.ref k.b, .ref k.c, .int n]) ∧ H k.b = some (.lst (xs.map V.int)) ∧ H k.c = some (.lst (ys.map V.int)) ∧
    (∀ x ∈ xs, 0 ≤ x) ∧ (∀ y ∈ ys, 0 ≤ y) ∧ 0 < ys.length ∧ 0 ≤ n ∧ n + f ≤ 1000000000000
def DkOk (g : Option Dk) (H Hs : Hp) (f : Nat) : Prop := match g with
  | none => True
  | some k => DkAt k H f ∧ Hs k.a = none ∧ Hs k.b = none ∧ Hs k.c = none

/-! from a heap and its shared part to later ones -/
structure Stp (g : Option Dk) (H Hs H' Hs' : Hp) : Prop where
  sub : Same Hs' H'
  ext : Same Hs Hs'
  keep : ∀ a o, H a = some o → ¬ Dk.has g a → H' a = some o
  there : ∀ a o, H a = some o → ∃ o', H' a = some o'
  new : ∀ a o, H a = some o → Hs a = none → Hs' a = none
theorem Stp.refl {g : Option Dk} {H Hs : Hp} (h : Same Hs H) : Stp g H Hs H Hs := ⟨h, Same.refl _, fun _ _ h _ => h, fun _ o h => ⟨o, h⟩, fun _ _ _ h => h⟩
theorem Stp.trans {g : Option Dk} {H Hs H1 Hs1 H2 Hs2 : Hp} (p : Stp g H Hs H1 Hs1) (q : Stp g H1 Hs1 H2 Hs2) : Stp g H Hs H2 Hs2 where
  sub := q.sub
  ext := p.ext.trans q.ext
  keep := fun a o h n => q.keep a o (p.keep a o h n) n
  there := fun a o h => by
    obtain ⟨o', h'⟩ := p.there a o h
    exact q.there a o' h'
  new := fun a o h n => by
    obtain ⟨o', h'⟩ := p.there a o h
    exact q.new a o' h' (p.new a o h n)
/-- a new object, shared -/
theorem Stp.alloc {g : Option Dk} {H Hs : Hp} {p : Addr} {o : HO} (s : Same Hs H) (hp : H p = none) : Stp g H Hs (upd H p o) (upd Hs p o) where
  sub := fun a u h => by
    by_cases e : a = p
    · subst e; rw [upd_same] at h ⊢; exact h
    · rw [upd_ne e] at h ⊢; exact s a u h
  ext := fun a u h => by
    have : a ≠ p := fun e => by subst e; rw [s a u h] at hp; cases hp
    rw [upd_ne this]; exact h
  keep := fun a u h _ => by rw [upd_ne (ne_of_none h hp)]; exact h
  there := fun a u h => ⟨u, by rw [upd_ne (ne_of_none h hp)]; exact h⟩
  new := fun a u h n => by rw [upd_ne (ne_of_none h hp)]; exact n
/-- a new object, not shared -/
theorem Stp.lay {g : Option Dk} {H Hs : Hp} {p : Addr} {o : HO} (s : Same Hs H) (hp : H p = none) : Stp g H Hs (upd H p o) Hs where
  sub := fun a u h => by
    have : a ≠ p := fun e => by subst e; rw [s a u h] at hp; cases hp
    rw [upd_ne this]; exact s a u h
  ext := Same.refl _
  keep := fun a u h _ => by rw [upd_ne (ne_of_none h hp)]; exact h
  there := fun a u h => ⟨u, by rw [upd_ne (ne_of_none h hp)]; exact h⟩
  new := fun a u h n => n
/-- an object that stands is shared from now on -/
theorem Stp.share {g : Option Dk} {H Hs H' Hs' : Hp} {p : Addr} {o : HO} (s : Stp g H Hs H' Hs') (h0 : H p = none) (h1 : H' p = some o) (h2 : Hs' p = none) : Stp g H Hs H' (upd Hs' p o) where
  sub := fun a u h => by
    by_cases e : a = p
    · subst e; rw [upd_same] at h; cases h; exact h1
    · rw [upd_ne e] at h; exact s.sub a u h
  ext := fun a u h => by
    have q := s.ext a u h
    rw [upd_ne (ne_of_none q h2)]; exact q
  keep := s.keep
  there := s.there
  new := fun a u h n => by rw [upd_ne (ne_of_none h h0)]; exact s.new a u h n
theorem DkOk.step {g : Option Dk} {H Hs H' Hs' : Hp} {f : Nat} (h : DkOk g H Hs f) (k : ∀ a o, H a = some o → H' a = some o) (n : ∀ a o, H a = some o → Hs a = none → Hs' a = none) : DkOk g H' Hs' f := by
  cases g with
  | none => trivial
  | some d =>
    obtain ⟨⟨e1, e2, e3, n', xs, ys, h1, h2, h3, h4⟩, n1, n2, n3⟩ := h
    exact ⟨⟨e1, e2, e3, n', xs, ys, k _ _ h1, k _ _ h2, k _ _ h3, h4⟩, n _ _ h1 n1, n _ _ h2 n2, n _ _ h3 n3⟩
theorem DkOk.stp {g : Option Dk} {H Hs H' Hs' : Hp} {f : Nat} (h : DkOk g H Hs f) (s : Stp none H Hs H' Hs') : DkOk g H' Hs' f := h.step (fun a o e => s.keep a o e id) s.new
theorem Stp.gen {g : Option Dk} {H Hs H' Hs' : Hp} (s : Stp none H Hs H' Hs') : Stp g H Hs H' Hs' := ⟨s.sub, s.ext, fun a o h _ => s.keep a o h id, s.there, s.new⟩
end DL

namespace DL
open PySem PySem.Spec PyProof.Rows L2

/-! slots -/
inductive Sl where
  | no
  | sh (d : D)
  | ow (xs : List D)
  | od (ks : List Key) (xs : List D)
def Sl.d : Sl → Option D
  | .no => none
  | .sh d => some d
  | .ow xs => some (.lst xs)
  | .od ks xs => some (.dct ks xs)
abbrev Sg := List Sl
structure SlOk (K : PySem.W.Frag) (Hs : Hp) (r : Sg) (st : L2.St) : Prop where
  len : r.length = st.length
  get : ∀ (i : Nat) (s : Sl) (d : D), r[i]? = some s → s.d = some d → ∃ v, st[i]? = some (some v) ∧ Rp K Hs d v
theorem SlOk.mono {K : PySem.W.Frag} {Hs Hs' : Hp} {r : Sg} {st : L2.St} (h : SlOk K Hs r st) (e : Same Hs Hs') : SlOk K Hs' r st :=
  ⟨h.len, fun i s d h1 h2 => by
    obtain ⟨v, h3, h4⟩ := h.get i s d h1 h2
    exact ⟨v, h3, h4.mono e⟩⟩
theorem SlOk.set {K : PySem.W.Frag} {Hs : Hp} {r : Sg} {st : L2.St} (h : SlOk K Hs r st) (j : Nat) {d : D} {v : V} (hv : Rp K Hs d v) : SlOk K Hs (r.set j (.sh d)) (st.set j (some v)) :=
  ⟨by simp [h.len], fun i s e h1 h2 => by
    by_cases hij : j = i
    · subst hij
      by_cases hl : j < r.length
      · rw [List.getElem?_set_self hl] at h1
        cases h1
        cases h2
        exact ⟨v, List.getElem?_set_self (h.len ▸ hl), hv⟩
      · rw [List.getElem?_eq_none (by simpa using hl)] at h1
        cases h1
    · rw [List.getElem?_set_ne hij] at h1
      rw [List.getElem?_set_ne hij]
      exact h.get i s e h1 h2⟩
abbrev QD := D → Nat → Prop
abbrev DT := Option Dk → Sg → Nat → QD → Prop
abbrev DTT := Option Dk → Sg → Nat → (Bool → Nat → Prop) → Prop
abbrev DTA := Option Dk → Sg → Nat → (List D → Nat → Prop) → Prop
structure At (K : PySem.W.Frag) (g : Option Dk) (r : Sg) (f : Nat) (st : L2.St) (H Hs : Hp) : Prop where
  sub : Same Hs H
  dk : DkOk g H Hs f
  sl : SlOk K Hs r st
theorem At.step {K : PySem.W.Frag} {g : Option Dk} {r : Sg} {f f' : Nat} {st : L2.St} {H Hs H' Hs' : Hp} (a : At K g r f st H Hs) (s : Stp g H Hs H' Hs') (k : DkOk g H' Hs' f') : At K g r f' st H' Hs' :=
  ⟨s.sub, k, a.sl.mono s.ext⟩
def Snd (K : PySem.W.Frag) (t : TE) (dl : DT) : Prop := ∀ (g : Option Dk) (r : Sg) (f : Nat) (st : L2.St) (H Hs : Hp) (Q : VK) (Q' : QD), At K g r f st H Hs →
  (∀ d f' v H' Hs', Stp g H Hs H' Hs' → DkOk g H' Hs' f' → Rp K Hs' d v → Q' d f' → Q v H') → dl g r f Q' → t st H Q
def SndT (K : PySem.W.Frag) (t : TT) (dl : DTT) : Prop := ∀ (g : Option Dk) (r : Sg) (f : Nat) (st : L2.St) (H Hs : Hp) (Q : Bool → Hp → Prop) (Q' : Bool → Nat → Prop), At K g r f st H Hs →
  (∀ b f' H' Hs', Stp g H Hs H' Hs' → DkOk g H' Hs' f' → Q' b f' → Q b H') → dl g r f Q' → t st H Q
def SndA (K : PySem.W.Frag) (t : TA) (dl : DTA) : Prop := ∀ (g : Option Dk) (r : Sg) (f : Nat) (st : L2.St) (H Hs : Hp) (Q : List V → Hp → Prop) (Q' : List D → Nat → Prop), At K g r f st H Hs →
  (∀ ds f' vs H' Hs', Stp g H Hs H' Hs' → DkOk g H' Hs' f' → RpA K Hs' ds vs → Q' ds f' → Q vs H') → dl g r f Q' → t st H Q
/-- a list that is new -/
def SndL (K : PySem.W.Frag) (t : TE) (dl : DTA) : Prop := ∀ (g : Option Dk) (r : Sg) (f : Nat) (st : L2.St) (H Hs : Hp) (Q : VK) (Q' : List D → Nat → Prop), At K g r f st H Hs →
  (∀ ds f' p vs H' Hs', Stp g H Hs H' Hs' → DkOk g H' Hs' f' → H p = none → Hs' p = none → H' p = some (.lst vs) → RpA K Hs' ds vs → Q' ds f' → Q (.ref p) H') → dl g r f Q' → t st H Q
/-! the widest reading that data allow -/
def tOf (K : PySem.W.Frag) (dl : DT) : TE := fun st H Q => ∃ g r f Hs Q', At K g r f st H Hs ∧ (∀ d f' v H' Hs', Stp g H Hs H' Hs' → DkOk g H' Hs' f' → Rp K Hs' d v → Q' d f' → Q v H') ∧ dl g r f Q'
def tOfT (K : PySem.W.Frag) (dl : DTT) : TT := fun st H Q => ∃ g r f Hs Q', At K g r f st H Hs ∧ (∀ b f' H' Hs', Stp g H Hs H' Hs' → DkOk g H' Hs' f' → Q' b f' → Q b H') ∧ dl g r f Q'
def tOfA (K : PySem.W.Frag) (dl : DTA) : TA := fun st H Q => ∃ g r f Hs Q', At K g r f st H Hs ∧ (∀ ds f' vs H' Hs', Stp g H Hs H' Hs' → DkOk g H' Hs' f' → RpA K Hs' ds vs → Q' ds f' → Q vs H') ∧ dl g r f Q'
def tOfL (K : PySem.W.Frag) (dl : DTA) : TE := fun st H Q => ∃ g r f Hs Q', At K g r f st H Hs ∧ (∀ ds f' p vs H' Hs', Stp g H Hs H' Hs' → DkOk g H' Hs' f' → H p = none → Hs' p = none → H' p = some (.lst vs) → RpA K Hs' ds vs → Q' ds f' → Q (.ref p) H') ∧ dl g r f Q'
structure DE (X : Cx) (e : Expr) (dl : DT) : Prop where
  pe : PE X e (tOf X.K dl)
structure DP (X : Cx) (e : Expr) (dl : DTT) : Prop where
  pt : PT X e (tOfT X.K dl)
structure DW (X : Cx) (e : Expr) (dl : DTT) : Prop where
  pw : PW X e (tOfT X.K dl)
structure DA (X : Cx) (es : List Expr) (dl : DTA) : Prop where
  pa : PA X es (tOfA X.K dl)
structure DL' (X : Cx) (e : Expr) (dl : DTA) : Prop where
  pe : PE X e (tOfL X.K dl)
theorem DE.sn {X : Cx} {e : Expr} {dl : DT} (_ : DE X e dl) : Snd X.K (tOf X.K dl) dl := fun g r f st H Hs Q Q' a hq hd => ⟨g, r, f, Hs, Q', a, hq, hd⟩
theorem DP.sn {X : Cx} {e : Expr} {dl : DTT} (_ : DP X e dl) : SndT X.K (tOfT X.K dl) dl := fun g r f st H Hs Q Q' a hq hd => ⟨g, r, f, Hs, Q', a, hq, hd⟩
theorem DW.sn {X : Cx} {e : Expr} {dl : DTT} (_ : DW X e dl) : SndT X.K (tOfT X.K dl) dl := fun g r f st H Hs Q Q' a hq hd => ⟨g, r, f, Hs, Q', a, hq, hd⟩
theorem DA.sn {X : Cx} {es : List Expr} {dl : DTA} (_ : DA X es dl) : SndA X.K (tOfA X.K dl) dl := fun g r f st H Hs Q Q' a hq hd => ⟨g, r, f, Hs, Q', a, hq, hd⟩
theorem DL'.sn {X : Cx} {e : Expr} {dl : DTA} (_ : DL' X e dl) : SndL X.K (tOfL X.K dl) dl := fun g r f st H Hs Q Q' a hq hd => ⟨g, r, f, Hs, Q', a, hq, hd⟩
theorem DE.mk' {X : Cx} {e : Expr} {t : TE} {dl : DT} (p : PE X e t) (s : Snd X.K t dl) : DE X e dl := ⟨⟨fun pins sh st H Q I ⟨g, r, f, Hs, Q', a, hq, hd⟩ => p.run pins sh st H Q I (s g r f st H Hs Q Q' a hq hd)⟩⟩
theorem DP.mk' {X : Cx} {e : Expr} {t : TT} {dl : DTT} (p : PT X e t) (s : SndT X.K t dl) : DP X e dl := ⟨⟨fun pins sh st H Q I ⟨g, r, f, Hs, Q', a, hq, hd⟩ => p.run pins sh st H Q I (s g r f st H Hs Q Q' a hq hd)⟩⟩
theorem DW.mk' {X : Cx} {e : Expr} {t : TT} {dl : DTT} (p : PW X e t) (s : SndT X.K t dl) : DW X e dl := ⟨⟨fun whole pins sh st H Q I ⟨g, r, f, Hs, Q', a, hq, hd⟩ => p.run whole pins sh st H Q I (s g r f st H Hs Q Q' a hq hd)⟩⟩
theorem DA.mk' {X : Cx} {es : List Expr} {t : TA} {dl : DTA} (p : PA X es t) (s : SndA X.K t dl) : DA X es dl := ⟨⟨fun pos pins sh st H Q I ⟨g, r, f, Hs, Q', a, hq, hd⟩ => p.run pos pins sh st H Q I (s g r f st H Hs Q Q' a hq hd)⟩⟩
theorem DL'.mk' {X : Cx} {e : Expr} {t : TE} {dl : DTA} (p : PE X e t) (s : SndL X.K t dl) : DL' X e dl := ⟨⟨fun pins sh st H Q I ⟨g, r, f, Hs, Q', a, hq, hd⟩ => p.run pins sh st H Q I (s g r f st H Hs Q Q' a hq hd)⟩⟩
def dOfL (dl : DTA) : DT := fun g r f Q => dl g r f fun ds f' => Q (.lst ds) f'
theorem DkOk.share {g : Option Dk} {H Hs : Hp} {f : Nat} {p : Addr} {o : HO} (h : DkOk g H Hs f) (n : ¬ Dk.has g p) : DkOk g H (upd Hs p o) f := by
  cases g with
  | none => trivial
  | some k =>
    obtain ⟨h0, h1, h2, h3⟩ := h
    refine ⟨h0, ?_, ?_, ?_⟩
    · rw [upd_ne fun e => n (.inl e.symm)]; exact h1
    · rw [upd_ne fun e => n (.inr (.inl e.symm))]; exact h2
    · rw [upd_ne fun e => n (.inr (.inr e.symm))]; exact h3
theorem DkOk.out {g : Option Dk} {H Hs : Hp} {f : Nat} {p : Addr} (h : DkOk g H Hs f) (n : H p = none) : ¬ Dk.has g p := by
  cases g with
  | none => exact id
  | some k =>
    obtain ⟨⟨_, _, _, _, _, _, h1, h2, h3, _⟩, _⟩ := h
    rintro (e | e | e)
    · rw [e, h1] at n; cases n
    · rw [e, h2] at n; cases n
    · rw [e, h3] at n; cases n
theorem DkOk.mut {g : Option Dk} {H Hs : Hp} {f : Nat} {p : Addr} {o : HO} (h : DkOk g H Hs f) (n : ¬ Dk.has g p) : DkOk g (upd H p o) Hs f := by
  cases g with
  | none => trivial
  | some k =>
    obtain ⟨⟨e1, e2, e3, n', xs, ys, h1, h2, h3, h4⟩, q⟩ := h
    refine ⟨⟨e1, e2, e3, n', xs, ys, ?_, ?_, ?_, h4⟩, q⟩
    · rw [upd_ne fun e => n (.inl e.symm)]; exact h1
    · rw [upd_ne fun e => n (.inr (.inl e.symm))]; exact h2
    · rw [upd_ne fun e => n (.inr (.inr e.symm))]; exact h3
theorem Stp.mut {g : Option Dk} {H Hs H' Hs' : Hp} {p : Addr} {o : HO} (s : Stp g H Hs H' Hs') (h0 : H p = none) (h2 : Hs' p = none) : Stp g H Hs (upd H' p o) Hs' where
  sub := fun a u h => by rw [upd_ne (ne_of_none h h2)]; exact s.sub a u h
  ext := s.ext
  keep := fun a u h n => by rw [upd_ne (ne_of_none h h0)]; exact s.keep a u h n
  there := fun a u h => by rw [upd_ne (ne_of_none h h0)]; exact s.there a u h
  new := s.new
section
variable {X : Cx} {K : PySem.W.Frag}
theorem SndL.e {t : TE} {dl : DTA} (h : SndL K t dl) : Snd K t (dOfL dl) := fun g r f st H Hs Q Q' a hq hd =>
  h g r f st H Hs Q _ a (fun ds f' p vs H' Hs' s k h0 h1 h2 hr q => hq (.lst ds) f' (.ref p) H' _ (s.share h0 h2 h1) (k.share (a.dk.out h0)) ⟨p, vs, rfl, upd_same, hr.mono (fun b u e => by rw [upd_ne (ne_of_none e h1)]; exact e)⟩ q) hd
theorem DL'.e {e : Expr} {dl : DTA} (h : DL' X e dl) : DE X e (dOfL dl) := .mk' (h.pe) (h.sn.e)

/-! names, constants -/
def dVar (i : Nat) : DT := fun _ r f Q => match r[i]? with
  | some s => match s.d with
    | some d => Q d f
    | none => False
  | none => False
theorem snd_var (i : Nat) : Snd K (tVar i) (dVar i) := fun g r f st H Hs Q Q' a hq hd => by
  unfold dVar at hd
  split at hd
  · next s e =>
    split at hd
    · next d e2 =>
      obtain ⟨v, h1, h2⟩ := a.sl.get i s d e e2
      exact ⟨v, h1, hq d f v H Hs (Stp.refl a.sub) a.dk h2 hd⟩
    · exact hd.elim
  · exact hd.elim
def dC (d : D) : DT := fun _ _ f Q => Q d f
theorem snd_c {d : D} {v : V} (h : ∀ H, Rp K H d v) : Snd K (tC v) (dC d) := fun g r f st H Hs Q Q' a hq hd => hq d f v H Hs (Stp.refl a.sub) a.dk (h Hs) hd
theorem de_v (i : Nat) {x : Str} {pos : Pos} (hN : X.N[i]? = some x := by rfl) (hv : Vis X.env.scope x := by first | exact Or.inl rfl | exact Or.inr (Or.inl rfl) | exact Or.inr (Or.inr rfl)) (hd : (x == ("__debug__" : Str)) = false := by decide)
    (hcd : (x == ("__classdict__" : Str)) = false := by decide) : DE X (.Name x pos) (dVar i) := .mk' (pe_var hN hv hd hcd) (snd_var i)
theorem de_int {i : Int} {j pos} : DE X (.Constant (.int i) j pos) (dC (.int i)) := .mk' (pe_int) (snd_c fun _ => rfl)
theorem de_bl {b : Bool} {j pos} : DE X (.Constant (.bool b) j pos) (dC (.bool b)) := .mk' (pe_bl) (snd_c fun _ => rfl)
theorem de_non {j pos} : DE X (.Constant .none j pos) (dC .none) := .mk' (pe_non) (snd_c fun _ => rfl)
theorem de_str {x : Str} {j pos} : DE X (.Constant (.str x) j pos) (dC (.str x)) := .mk' (pe_str) (snd_c fun _ => rfl)
theorem de_glob {x : Str} {v : V} {u : Value} {pos : Pos} {d : D} (hg : Gl X x) (hm : X.mg x = some u) (r : RelV v u) (hr : ∀ H, Rp X.K H d v) (hd : (x == ("__debug__" : Str)) = false := by decide) : DE X (.Name x pos) (dC d) := .mk' (pe_glob hg hm r hd) (snd_c hr)
theorem de_bltn {x : Str} {v : V} {u : Value} {pos : Pos} (hg : Gl X x) (hm : X.mg x = none) (hv : bootBuiltins x = some u) (r : RelV v u) (hn : x ≠ "__name__" := by decide) (hd : (x == ("__debug__" : Str)) = false := by decide) :
    DE X (.Name x pos) (dC (.any v)) := .mk' (pe_bltn hg hm hv r hn hd) (snd_c fun _ => rfl)

/-! operators by values -/
abbrev O2 := D → D → (D → Prop) → Prop
def SndR (K : PySem.W.Frag) (r : R2) (op : O2) : Prop := ∀ (H Hs : Hp) (x y : D) (vx vy : V) (Q : VK) (Q' : D → Prop), Same Hs H → Rp K Hs x vx → Rp K Hs y vy →
  (∀ z v H' Hs', Stp none H Hs H' Hs' → Rp K Hs' z v → Q' z → Q v H') → op x y Q' → r vx vy H Q
def dOp (op : O2) (a b : DT) : DT := fun g r f Q => a g r f fun x f1 => b g r f1 fun y f2 => op x y fun z => Q z f2
theorem snd_op {r : R2} {op : O2} {ta tb : TE} {a b : DT} (hr : SndR K r op) (ha : Snd K ta a) (hb : Snd K tb b) : Snd K (tOp r ta tb) (dOp op a b) := fun g ro f st H Hs Q Q' A hq hd =>
  ha g ro f st H Hs _ _ A (fun x f1 vx H1 Hs1 s1 k1 r1 q1 => hb g ro f1 st H1 Hs1 _ _ (A.step s1 k1) (fun y f2 vy H2 Hs2 s2 k2 r2 q2 =>
    hr H2 Hs2 x y vx vy Q _ s2.sub (r1.mono s2.ext) r2 (fun z v H3 Hs3 s3 r3 q3 => hq z f2 v H3 Hs3 ((s1.trans s2).trans s3.gen) (k2.stp s3) r3 q3) q2) q1) hd
theorem SndR.or {r r' : R2} {op op' : O2} (h : SndR K r op) (h' : SndR K r' op') : SndR K (fun x y H Q => r x y H Q ∨ r' x y H Q) (fun x y Q => op x y Q ∨ op' x y Q) := fun H Hs x y vx vy Q Q' s rx ry hq hd => by
  rcases hd with hd | hd
  · exact .inl (h H Hs x y vx vy Q Q' s rx ry hq hd)
  · exact .inr (h' H Hs x y vx vy Q Q' s rx ry hq hd)
theorem SndR.weak {r : R2} {op op' : O2} (h : SndR K r op) (w : ∀ x y Q, op' x y Q → op x y Q) : SndR K r op' := fun H Hs x y vx vy Q Q' s rx ry hq hd => h H Hs x y vx vy Q Q' s rx ry hq (w x y Q' hd)
theorem de_op {a b : Expr} {op : Operator} {pos : Pos} {r : R2} {o : O2} {da db : DT} (ho : OpR X (binaryOp op) r) (hr : SndR X.K r o) (ha : DE X a da) (hb : DE X b db) : DE X (.BinOp a op b pos) (dOp o da db) := .mk' (pe_op ho ha.pe hb.pe) (snd_op hr ha.sn hb.sn)
theorem de_cmp {a b : Expr} {op : CmpOp} {pos : Pos} {r : R2} {o : O2} {da db : DT} (ho : OpR X (compareOp op) r) (hr : SndR X.K r o) (ha : DE X a da) (hb : DE X b db) (hm : behindInMarks op b = false) : DE X (.Compare a [op] [b] pos) (dOp o da db) := .mk' (pe_cmpR ho ha.pe hb.pe hm) (snd_op hr ha.sn hb.sn)
def dTest (a : DT) : DTT := fun g r f Q => a g r f fun x f1 => match x with
  | .bool b => Q b f1
  | _ => False
theorem snd_test {ta : TE} {a : DT} (ha : Snd K ta a) : SndT K (tTest ta) (dTest a) := fun g ro f st H Hs Q Q' A hq hd =>
  ha g ro f st H Hs _ _ A (fun x f1 v H1 Hs1 s1 k1 r1 q1 => by
    cases x with
    | bool b => exact ⟨b, r1, hq b f1 H1 Hs1 s1 k1 q1⟩
    | _ => exact q1.elim) hd
theorem snd_B {ta : TE} {a : DT} (ha : Snd K ta a) : SndT K (tB ta) (dTest a) := fun g ro f st H Hs Q Q' A hq hd =>
  ha g ro f st H Hs _ _ A (fun x f1 v H1 Hs1 s1 k1 r1 q1 => by
    cases x with
    | bool b => exact ⟨b, r1, hq b f1 H1 Hs1 s1 k1 q1⟩
    | _ => exact q1.elim) hd
theorem dp_cmp {a b : Expr} {op : CmpOp} {pos : Pos} {r : R2} {o : O2} {da db : DT} (ho : OpR X (compareOp op) r) (hr : SndR X.K r o) (ha : DE X a da) (hb : DE X b db) (hm : behindInMarks op b = false) : DP X (.Compare a [op] [b] pos) (dTest (dOp o da db)) :=
  .mk' (pt_cmpR ho ha.pe hb.pe hm) (snd_test (snd_op hr ha.sn hb.sn))
theorem dp_val {e : Expr} {d : DT} (h : DE X e d) (he : ∀ whole, isTrue e X.env whole = (do let v ← whole; standAt e.pos; holding [v] (truthy v)) := by intro _; rfl) : DP X e (dTest d) := .mk' (pt_val h.pe he) (snd_B h.sn)
def dChain (o o' : O2) (a b c : DT) : DT := fun g r f Q => a g r f fun x f1 => b g r f1 fun y f2 => o x y fun z => match z with
  | .bool k => if k = true then c g r f2 fun w f3 => o' y w fun z' => Q z' f3 else Q (.bool false) f2
  | _ => False
end
end DL

namespace DL
open PySem PySem.Spec PyProof.Rows L2

section
variable {X : Cx} {K : PySem.W.Frag}
theorem snd_chain {r r' : R2} {o o' : O2} {ta tb tc : TE} {a b c : DT} (hr : SndR K r o) (hr' : SndR K r' o') (ha : Snd K ta a) (hb : Snd K tb b) (hc : Snd K tc c) : Snd K (tChain r r' ta tb tc) (dChain o o' a b c) := fun g ro f st H Hs Q Q' A hq hd =>
  ha g ro f st H Hs _ _ A (fun x f1 vx H1 Hs1 s1 k1 r1 q1 => hb g ro f1 st H1 Hs1 _ _ (A.step s1 k1) (fun y f2 vy H2 Hs2 s2 k2 r2 q2 =>
    hr H2 Hs2 x y vx vy _ _ s2.sub (r1.mono s2.ext) r2 (fun z v H3 Hs3 s3 r3 q3 => by
      cases z with
      | bool k =>
        refine ⟨k, r3, ?_⟩
        cases k with
        | true =>
          rw [if_pos rfl]
          replace q3 : c g ro f2 fun w f3 => o' y w fun z' => Q' z' f3 := q3
          have A3 := (A.step s1 k1).step s2 k2 |>.step s3.gen (k2.stp s3)
          exact hc g ro f2 st H3 Hs3 _ _ A3 (fun w f3 vw H4 Hs4 s4 k4 r4 q4 => hr' H4 Hs4 y w vy vw _ _ s4.sub ((r2.mono s3.ext).mono s4.ext) r4 (fun z v H5 Hs5 s5 r5 q5 =>
            hq z f3 v H5 Hs5 ((((s1.trans s2).trans s3.gen).trans s4).trans s5.gen) (k4.stp s5) r5 q5) q4) q3
        | false =>
          rw [if_neg Bool.false_ne_true]
          exact hq (.bool false) f2 (.bl false) H3 Hs3 ((s1.trans s2).trans s3.gen) (k2.stp s3) rfl q3
      | _ => exact q3.elim) q2) q1) hd
theorem de_chain {a b c : Expr} {op op' : CmpOp} {pos : Pos} {r r' : R2} {o o' : O2} {da db dc : DT} (ho : OpR X (compareOp op) r) (ho' : OpR X (compareOp op') r') (hr : SndR X.K r o) (hr' : SndR X.K r' o')
    (ha : DE X a da) (hb : DE X b db) (hc : DE X c dc) (hm : lastMarks [op, op'] [b, c] = false := by with_unfolding_all rfl) : DE X (.Compare a [op, op'] [b, c] pos) (dChain o o' da db dc) :=
  .mk' (pe_chain ho ho' ha.pe hb.pe hc.pe hm) (snd_chain hr hr' ha.sn hb.sn hc.sn)
theorem dp_chain {a b c : Expr} {op op' : CmpOp} {pos : Pos} {r r' : R2} {o o' : O2} {da db dc : DT} (ho : OpR X (compareOp op) r) (ho' : OpR X (compareOp op') r') (hr : SndR X.K r o) (hr' : SndR X.K r' o')
    (ha : DE X a da) (hb : DE X b db) (hc : DE X c dc) (hm : lastMarks [op, op'] [b, c] = false := by with_unfolding_all rfl) : DP X (.Compare a [op, op'] [b, c] pos) (dTest (dChain o o' da db dc)) :=
  .mk' (pt_chain ho ho' ha.pe hb.pe hc.pe hm) (snd_test (snd_chain hr hr' ha.sn hb.sn hc.sn))

/-! and, or, not, if -/
def dAnd (a b : DTT) : DTT := fun g r f Q => a g r f fun c f1 => if c = true then b g r f1 Q else Q false f1
def dOr (a b : DTT) : DTT := fun g r f Q => a g r f fun c f1 => if c = true then Q true f1 else b g r f1 Q
def dNot (a : DTT) : DTT := fun g r f Q => a g r f fun c f1 => Q (!c) f1
theorem snd_and {t u : TT} {a b : DTT} (ha : SndT K t a) (hb : SndT K u b) : SndT K (tAnd t u) (dAnd a b) := fun g ro f st H Hs Q Q' A hq hd =>
  ha g ro f st H Hs _ _ A (fun c f1 H1 Hs1 s1 k1 q1 => by
    cases c with
    | true => exact hb g ro f1 st H1 Hs1 _ _ (A.step s1 k1) (fun d f2 H2 Hs2 s2 k2 q2 => hq d f2 H2 Hs2 (s1.trans s2) k2 q2) q1
    | false => exact hq false f1 H1 Hs1 s1 k1 q1) hd
theorem snd_or {t u : TT} {a b : DTT} (ha : SndT K t a) (hb : SndT K u b) : SndT K (tOr t u) (dOr a b) := fun g ro f st H Hs Q Q' A hq hd =>
  ha g ro f st H Hs _ _ A (fun c f1 H1 Hs1 s1 k1 q1 => by
    cases c with
    | false => exact hb g ro f1 st H1 Hs1 _ _ (A.step s1 k1) (fun d f2 H2 Hs2 s2 k2 q2 => hq d f2 H2 Hs2 (s1.trans s2) k2 q2) q1
    | true => exact hq true f1 H1 Hs1 s1 k1 q1) hd
theorem snd_not {t : TT} {a : DTT} (ha : SndT K t a) : SndT K (tNot t) (dNot a) := fun g ro f st H Hs Q Q' A hq hd =>
  ha g ro f st H Hs _ _ A (fun c f1 H1 Hs1 s1 k1 q1 => hq (!c) f1 H1 Hs1 s1 k1 q1) hd
theorem dw_and1 {a : Expr} {pos : Pos} {d : DTT} (h : DP X a d) : DW X (.BoolOp .And [a] pos) d := .mk' (pw_and1 h.pt) (h.sn)
theorem dw_or1 {a : Expr} {pos : Pos} {d : DTT} (h : DP X a d) : DW X (.BoolOp .Or [a] pos) d := .mk' (pw_or1 h.pt) (h.sn)
theorem dw_and {a b : Expr} {rest : List Expr} {pos : Pos} {d e : DTT} (h : DP X a d) (h' : DW X (.BoolOp .And (b :: rest) pos) e) : DW X (.BoolOp .And (a :: b :: rest) pos) (dAnd d e) := .mk' (pw_and h.pt h'.pw) (snd_and h.sn h'.sn)
theorem dw_or {a b : Expr} {rest : List Expr} {pos : Pos} {d e : DTT} (h : DP X a d) (h' : DW X (.BoolOp .Or (b :: rest) pos) e) : DW X (.BoolOp .Or (a :: b :: rest) pos) (dOr d e) := .mk' (pw_or h.pt h'.pw) (snd_or h.sn h'.sn)
theorem DW.p {a : Expr} {d : DTT} (h : DW X a d) : DP X a d := .mk' (h.pw.pt) (h.sn)
theorem dp_not {a : Expr} {pos : Pos} {d : DTT} (h : DP X a d) : DP X (.UnaryOp .Not a pos) (dNot d) := .mk' (pt_not h.pt) (snd_not h.sn)
def dAndV (a b : DT) : DT := fun g r f Q => a g r f fun x f1 => match x with
  | .bool c => if c = true then b g r f1 Q else Q (.bool false) f1
  | _ => False
def dOrV (a b : DT) : DT := fun g r f Q => a g r f fun x f1 => match x with
  | .bool c => if c = true then Q (.bool true) f1 else b g r f1 Q
  | _ => False
def dNotV (a : DT) : DT := fun g r f Q => a g r f fun x f1 => match x with
  | .bool c => Q (.bool (!c)) f1
  | _ => False
theorem snd_andV {t u : TE} {a b : DT} (ha : Snd K t a) (hb : Snd K u b) : Snd K (tAndV t u) (dAndV a b) := fun g ro f st H Hs Q Q' A hq hd =>
  ha g ro f st H Hs _ _ A (fun x f1 v H1 Hs1 s1 k1 r1 q1 => by
    cases x with
    | bool c =>
      refine ⟨c, r1, ?_⟩
      cases c with
      | true => exact hb g ro f1 st H1 Hs1 _ _ (A.step s1 k1) (fun d f2 v H2 Hs2 s2 k2 r2 q2 => hq d f2 v H2 Hs2 (s1.trans s2) k2 r2 q2) q1
      | false => exact hq (.bool false) f1 _ H1 Hs1 s1 k1 rfl q1
    | _ => exact q1.elim) hd
theorem snd_orV {t u : TE} {a b : DT} (ha : Snd K t a) (hb : Snd K u b) : Snd K (tOrV t u) (dOrV a b) := fun g ro f st H Hs Q Q' A hq hd =>
  ha g ro f st H Hs _ _ A (fun x f1 v H1 Hs1 s1 k1 r1 q1 => by
    cases x with
    | bool c =>
      refine ⟨c, r1, ?_⟩
      cases c with
      | false => exact hb g ro f1 st H1 Hs1 _ _ (A.step s1 k1) (fun d f2 v H2 Hs2 s2 k2 r2 q2 => hq d f2 v H2 Hs2 (s1.trans s2) k2 r2 q2) q1
      | true => exact hq (.bool true) f1 _ H1 Hs1 s1 k1 rfl q1
    | _ => exact q1.elim) hd
theorem snd_notV {t : TE} {a : DT} (ha : Snd K t a) : Snd K (tNotV t) (dNotV a) := fun g ro f st H Hs Q Q' A hq hd =>
  ha g ro f st H Hs _ _ A (fun x f1 v H1 Hs1 s1 k1 r1 q1 => by
    cases x with
    | bool c => exact ⟨c, r1, hq (.bool (!c)) f1 _ H1 Hs1 s1 k1 rfl q1⟩
    | _ => exact q1.elim) hd
theorem de_one {a : Expr} {op} {pos : Pos} {d : DT} (h : DE X a d) : DE X (.BoolOp op [a] pos) d := .mk' (pe_one h.pe) (h.sn)
theorem de_and {a b : Expr} {rest : List Expr} {pos : Pos} {d e : DT} (h : DE X a d) (h' : DE X (.BoolOp .And (b :: rest) pos) e) : DE X (.BoolOp .And (a :: b :: rest) pos) (dAndV d e) := .mk' (pe_and h.pe h'.pe) (snd_andV h.sn h'.sn)
theorem de_or {a b : Expr} {rest : List Expr} {pos : Pos} {d e : DT} (h : DE X a d) (h' : DE X (.BoolOp .Or (b :: rest) pos) e) : DE X (.BoolOp .Or (a :: b :: rest) pos) (dOrV d e) := .mk' (pe_or h.pe h'.pe) (snd_orV h.sn h'.sn)
theorem de_not {a : Expr} {pos : Pos} {d : DT} (h : DE X a d) : DE X (.UnaryOp .Not a pos) (dNotV d) := .mk' (pe_not h.pe) (snd_notV h.sn)
def dIf (c : DTT) (a b : DT) : DT := fun g r f Q => c g r f fun k f1 => if k = true then a g r f1 Q else b g r f1 Q
theorem snd_if {tc : TT} {ta tb : TE} {c : DTT} {a b : DT} (hc : SndT K tc c) (ha : Snd K ta a) (hb : Snd K tb b) : Snd K (tIf tc ta tb) (dIf c a b) := fun g ro f st H Hs Q Q' A hq hd =>
  hc g ro f st H Hs _ _ A (fun k f1 H1 Hs1 s1 k1 q1 => by
    cases k with
    | true => exact ha g ro f1 st H1 Hs1 _ _ (A.step s1 k1) (fun d f2 v H2 Hs2 s2 k2 r2 q2 => hq d f2 v H2 Hs2 (s1.trans s2) k2 r2 q2) q1
    | false => exact hb g ro f1 st H1 Hs1 _ _ (A.step s1 k1) (fun d f2 v H2 Hs2 s2 k2 r2 q2 => hq d f2 v H2 Hs2 (s1.trans s2) k2 r2 q2) q1) hd
theorem de_ifExp {c a b : Expr} {pos : Pos} {dc : DTT} {da db : DT} (hc : DP X c dc) (ha : DE X a da) (hb : DE X b db) : DE X (.IfExp c a b pos) (dIf dc da db) := .mk' (pe_ifExp hc.pt ha.pe hb.pe) (snd_if hc.sn ha.sn hb.sn)

/-! argument lists, displays -/
def dNil : DTA := fun _ _ f Q => Q [] f
def dCons (a : DT) (t : DTA) : DTA := fun g r f Q => a g r f fun x f1 => t g r f1 fun xs f2 => Q (x :: xs) f2
theorem snd_nil : SndA K tNil dNil := fun g ro f st H Hs Q Q' A hq hd => hq [] f [] H Hs (Stp.refl A.sub) A.dk rfl hd
theorem snd_cons {ta : TE} {t : TA} {a : DT} {d : DTA} (ha : Snd K ta a) (ht : SndA K t d) : SndA K (tCons ta t) (dCons a d) := fun g ro f st H Hs Q Q' A hq hd =>
  ha g ro f st H Hs _ _ A (fun x f1 v H1 Hs1 s1 k1 r1 q1 => ht g ro f1 st H1 Hs1 _ _ (A.step s1 k1) (fun ds f2 vs H2 Hs2 s2 k2 r2 q2 =>
    hq (x :: ds) f2 (v :: vs) H2 Hs2 (s1.trans s2) k2 ⟨v, vs, rfl, r1.mono s2.ext, r2⟩ q2) q1) hd
theorem da_nil : DA X [] dNil := .mk' (pa_nil) (snd_nil)
theorem da_cons {e : Expr} {es : List Expr} {d : DT} {dl : DTA} (h : DE X e d) (h' : DA X es dl) (hs : starEach (e :: es) X.env = (false, eval e X.env) :: starEach es X.env := by rfl) : DA X (e :: es) (dCons d dl) := .mk' (pa_cons h.pe h'.pa hs) (snd_cons h.sn h'.sn)
def lim : Nat := 1000000
theorem lim_le {n : Nat} (h : n ≤ lim) : n ≤ sizeLine := Nat.le_trans h (by decide)
theorem lim_lt {n : Nat} (h : n ≤ lim) : n < sizeLine := Nat.lt_of_le_of_lt h (by decide)
def dTup (t : DTA) : DT := fun g r f Q => t g r f fun ds f1 => ds.length ≤ lim ∧ Q (.tup ds) f1
theorem RpA.le {H : Hp} {ds : List D} {vs : List V} (h : RpA K H ds vs) (l : ds.length ≤ lim) : vs.length ≤ sizeLine := by rw [← h.length]; exact lim_le l
theorem RpA.lt {H : Hp} {ds : List D} {vs : List V} (h : RpA K H ds vs) (l : ds.length ≤ lim) : vs.length < sizeLine := by rw [← h.length]; exact lim_lt l
theorem rp_tup {H : Hp} {p : Addr} {ds : List D} {vs : List V} (hr : RpA K H ds vs) (hn : H p = none) : Rp K (upd H p (.tup vs)) (.tup ds) (.ref p) :=
  ⟨p, vs, rfl, upd_same, hr.mono fun b u e => by rw [upd_ne (ne_of_none e hn)]; exact e⟩
theorem rp_lst {H : Hp} {p : Addr} {ds : List D} {vs : List V} (hr : RpA K H ds vs) (hn : H p = none) : Rp K (upd H p (.lst vs)) (.lst ds) (.ref p) :=
  ⟨p, vs, rfl, upd_same, hr.mono fun b u e => by rw [upd_ne (ne_of_none e hn)]; exact e⟩
theorem same_none {H Hs : Hp} {p : Addr} (s : Same Hs H) (h : H p = none) : Hs p = none := by
  cases e : Hs p with
  | none => rfl
  | some o => rw [s p o e] at h; cases h
theorem snd_tup {t : TA} {d : DTA} (h : SndA K t d) : Snd K (tTup t) (dTup d) := fun g ro f st H Hs Q Q' A hq hd =>
  h g ro f st H Hs _ _ A (fun ds f1 vs H1 Hs1 s1 k1 r1 q1 => ⟨r1.le q1.1, fun p hp => by
    have al : Stp none H1 Hs1 (upd H1 p (.tup vs)) (upd Hs1 p (.tup vs)) := Stp.alloc s1.sub hp
    exact hq (.tup ds) f1 (.ref p) _ _ (s1.trans al.gen) (k1.stp al) (rp_tup r1 (same_none s1.sub hp)) q1.2⟩) hd
theorem de_tup {es : List Expr} {x1} {pos : Pos} {d : DTA} (h : DA X es d) : DE X (.Tuple es x1 pos) (dTup d) := .mk' (pe_tup h.pa) (snd_tup h.sn)
def dLst (t : DTA) : DTA := fun g r f Q => t g r f fun ds f1 => ds.length ≤ lim ∧ Q ds f1
theorem snd_lst {t : TA} {d : DTA} (h : SndA K t d) : SndL K (tLst t) (dLst d) := fun g ro f st H Hs Q Q' A hq hd =>
  h g ro f st H Hs _ _ A (fun ds f1 vs H1 Hs1 s1 k1 r1 q1 => ⟨r1.le q1.1, fun p hp => by
    have al : Stp none H1 Hs1 (upd H1 p (.lst vs)) Hs1 := Stp.lay s1.sub hp
    refine hq ds f1 p vs _ _ (s1.trans al.gen) (k1.stp al) ?_ (same_none s1.sub hp) upd_same r1 q1.2
    cases e : H p with
    | none => rfl
    | some o =>
      obtain ⟨o', e'⟩ := s1.there p o e
      rw [e'] at hp; cases hp⟩) hd
theorem dl_lst {es : List Expr} {pos : Pos} {d : DTA} (h : DA X es d) : DL' X (.List es pos) (dLst d) := .mk' (pe_lst h.pa) (snd_lst h.sn)

/-! plain results -/
theorem SndR.pure {r : R2} {op : O2} (h : ∀ H Hs x y vx vy (Q : VK) (Q' : D → Prop), Same Hs H → Rp K Hs x vx → Rp K Hs y vy → (∀ z v, Rp K Hs z v → Q' z → Q v H) → op x y Q' → r vx vy H Q) : SndR K r op := fun H Hs x y vx vy Q Q' s rx ry hq hd =>
  h H Hs x y vx vy Q Q' s rx ry (fun z v rz q => hq z v H Hs (Stp.refl s) rz q) hd
def oI0 (g : Int → Int → D) : O2 := fun x y Q => match x, y with
  | .int i, .int j => Q (g i j)
  | _, _ => False
def oI (C : Int → Int → Prop) (g : Int → Int → D) : O2 := fun x y Q => match x, y with
  | .int i, .int j => C i j ∧ Q (g i j)
  | _, _ => False
theorem sr_I0 {g : Int → Int → V} {g' : Int → Int → D} (hg : ∀ i j H, Rp K H (g' i j) (g i j)) : SndR K (rI0 g) (oI0 g') := SndR.pure fun H Hs x y vx vy Q Q' s rx ry hq hd => by
  cases x <;> try exact hd.elim
  cases y <;> try exact hd.elim
  exact ⟨_, _, rx, ry, hq _ _ (hg _ _ _) hd⟩
theorem sr_I {C : Int → Int → Prop} {g : Int → Int → V} {g' : Int → Int → D} (hg : ∀ i j H, Rp K H (g' i j) (g i j)) : SndR K (rI C g) (oI C g') := SndR.pure fun H Hs x y vx vy Q Q' s rx ry hq hd => by
  cases x <;> try exact hd.elim
  cases y <;> try exact hd.elim
  exact ⟨_, _, rx, ry, hd.1, hq _ _ (hg _ _ _) hd.2⟩
def oAddS : O2 := fun x y Q => match x, y with
  | .str i, .str j => i.length + j.length ≤ lim ∧ Q (.str (i ++ j))
  | _, _ => False
theorem sr_addS : SndR K (fun x y H Q => ∃ i j, x = .str i ∧ y = .str j ∧ i.length + j.length ≤ sizeLine ∧ Q (.str (i ++ j)) H) oAddS := SndR.pure fun H Hs x y vx vy Q Q' s rx ry hq hd => by
  cases x <;> try exact hd.elim
  cases y <;> try exact hd.elim
  exact ⟨_, _, rx, ry, lim_le hd.1, hq (.str _) _ rfl hd.2⟩
def oCat : O2 := fun x y Q => match x, y with
  | .lst i, .lst j => i.length + j.length ≤ lim ∧ Q (.lst (i ++ j))
  | _, _ => False
theorem sr_cat : SndR K rCat oCat := fun H Hs x y vx vy Q Q' s rx ry hq hd => by
  cases x <;> try exact hd.elim
  cases y <;> try exact hd.elim
  obtain ⟨a, vs, rfl, h1, h2⟩ := rx
  obtain ⟨b, ws, rfl, h3, h4⟩ := ry
  refine ⟨a, b, vs, ws, rfl, rfl, s _ _ h1, s _ _ h3, ?_, fun p hp => ?_⟩
  · rw [← h2.length, ← h4.length]; exact lim_le hd.1
  · exact hq _ _ _ _ (Stp.alloc s hp) (rp_lst (h2.append h4) (same_none s hp)) hd.2
def oCatT : O2 := fun x y Q => match x, y with
  | .tup i, .tup j => i.length + j.length ≤ lim ∧ Q (.tup (i ++ j))
  | _, _ => False
theorem sr_catT : SndR K (rCatA K) oCatT := fun H Hs x y vx vy Q Q' s rx ry hq hd => by
  cases x <;> try exact hd.elim
  cases y <;> try exact hd.elim
  obtain ⟨a, vs, rfl, h1, h2⟩ := rx
  obtain ⟨b, ws, rfl, h3, h4⟩ := ry
  refine ⟨a, b, vs, ws, rfl, rfl, SqT.of (s _ _ h1), SqT.of (s _ _ h3), ?_, fun e => ?_, fun _ e => ?_, fun _ _ p hp => ?_⟩
  · rw [← h2.length, ← h4.length]; exact lim_le hd.1
  · have := h2.append h4
    rw [e] at this
    exact hq (.tup _) _ _ _ (Stp.refl s) ⟨b, ws, rfl, h3, this⟩ hd.2
  · have := h2.append h4
    rw [e, List.append_nil] at this
    exact hq (.tup _) _ _ _ (Stp.refl s) ⟨a, vs, rfl, h1, this⟩ hd.2
  · exact hq _ _ _ _ (Stp.alloc s hp) (rp_tup (h2.append h4) (same_none s hp)) hd.2
/-- x + y of any of the four kinds -/
def oAdd : O2 := fun x y Q => match x, y with
  | .int i, .int j => Q (.int (i + j))
  | .str i, .str j => i.length + j.length ≤ lim ∧ Q (.str (i ++ j))
  | .lst i, .lst j => i.length + j.length ≤ lim ∧ Q (.lst (i ++ j))
  | .tup i, .tup j => i.length + j.length ≤ lim ∧ Q (.tup (i ++ j))
  | _, _ => False
def rAddA (K : PySem.W.Frag) : R2 := fun x y H Q => rI0 (fun i j => .int (i + j)) x y H Q ∨ ((∃ i j, x = .str i ∧ y = .str j ∧ i.length + j.length ≤ sizeLine ∧ Q (.str (i ++ j)) H) ∨ (rCat x y H Q ∨ rCatA K x y H Q))
theorem op_addA : OpR X (binaryOp .Add) (rAddA X.K) := op_add.or (op_add_str.or (op_cat.or op_catA))
theorem sr_add : SndR K (rAddA K) oAdd := ((sr_I0 (g' := fun i j => .int (i + j)) fun _ _ _ => rfl).or (sr_addS.or (sr_cat.or sr_catT))).weak fun x y Q h => by
  cases x <;> cases y <;> first | exact h.elim | exact .inl h | exact .inr (.inl h) | exact .inr (.inr (.inl h)) | exact .inr (.inr (.inr h))
theorem de_add {a b : Expr} {pos : Pos} {da db : DT} (ha : DE X a da) (hb : DE X b db) : DE X (.BinOp a .Add b pos) (dOp oAdd da db) := de_op op_addA sr_add ha hb
theorem de_sub {a b : Expr} {pos : Pos} {da db : DT} (ha : DE X a da) (hb : DE X b db) : DE X (.BinOp a .Sub b pos) (dOp (oI0 fun i j => .int (i - j)) da db) := de_op op_sub (sr_I0 fun _ _ _ => rfl) ha hb
theorem de_mul {a b : Expr} {pos : Pos} {da db : DT} (ha : DE X a da) (hb : DE X b db) : DE X (.BinOp a .Mult b pos) (dOp (oI CMul fun i j => .int (i * j)) da db) := de_op op_mul (sr_I fun _ _ _ => rfl) ha hb
theorem de_mod {a b : Expr} {pos : Pos} {da db : DT} (ha : DE X a da) (hb : DE X b db) : DE X (.BinOp a .Mod b pos) (dOp (oI (fun _ j => 0 < j) fun i j => .int (i % j)) da db) := de_op op_mod (sr_I fun _ _ _ => rfl) ha hb
theorem de_fdiv {a b : Expr} {pos : Pos} {da db : DT} (ha : DE X a da) (hb : DE X b db) : DE X (.BinOp a .FloorDiv b pos) (dOp (oI CDiv fun i j => .int (i / j)) da db) := de_op op_fdiv (sr_I fun _ _ _ => rfl) ha hb
theorem de_pow {a b : Expr} {pos : Pos} {da db : DT} (ha : DE X a da) (hb : DE X b db) : DE X (.BinOp a .Pow b pos) (dOp (oI CPow fun i j => .int (i ^ j.toNat)) da db) := de_op op_pow (sr_I fun _ _ _ => rfl) ha hb
def dNeg (a : DT) : DT := fun g r f Q => a g r f fun x f1 => match x with
  | .int i => Q (.int (-i)) f1
  | _ => False
theorem de_neg {a : Expr} {pos : Pos} {d : DT} (h : DE X a d) : DE X (.UnaryOp .USub a pos) (dNeg d) := .mk' (pe_un un_neg h.pe) (fun g ro f st H Hs Q Q' A hq hd =>
  h.sn g ro f st H Hs _ _ A (fun x f1 v H1 Hs1 s1 k1 r1 q1 => by
    cases x <;> try exact q1.elim
    exact ⟨_, r1, hq (.int (-_)) f1 _ H1 Hs1 s1 k1 rfl q1⟩) hd)

/-! == and != -/
mutual
def D.py : D → PyData
  | .none => .none
  | .bool b => .bool b
  | .int i => .int i
  | .str x => .str x
  | .tup ds => .tuple (pyA ds)
  | .lst ds => .list (pyA ds)
  | .dct _ _ => .dict []
  | .obj _ _ _ => .dict []
  | .any _ => .dict []
def pyA : List D → List PyData
  | [] => []
  | d :: ds => d.py :: pyA ds
end
mutual
theorem Rp.dp {H : Hp} : ∀ (d : D) (v : V), Rp K H d v → d.py.canLay0 = true → Dp K H v d.py
  | .none, _, h, _ => by cases h; exact .non
  | .bool _, _, h, _ => by cases h; exact .bl _
  | .int _, _, h, _ => by cases h; exact .int _
  | .str _, _, h, _ => by cases h; exact .str _
  | .tup ds, _, ⟨a, vs, h1, h2, h3⟩, c => by cases h1; exact .tup (SqT.of h2) (RpA.dp ds vs h3 c)
  | .lst ds, _, ⟨a, vs, h1, h2, h3⟩, c => by cases h1; exact .lst (SqL.of h2) (RpA.dp ds vs h3 c)
  | .dct _ _, _, _, c => by simp [D.py, PyData.canLay0] at c
  | .obj _ _ _, _, _, c => by simp [D.py, PyData.canLay0] at c
  | .any _, _, _, c => by simp [D.py, PyData.canLay0] at c
theorem RpA.dp {H : Hp} : ∀ (ds : List D) (vs : List V), RpA K H ds vs → PyData.canLayAll0 (pyA ds) = true → DpAll K H vs (pyA ds)
  | [], _, h, _ => by cases h; exact .nil
  | d :: ds, _, ⟨v, r, h1, h2, h3⟩, c => by
    have c' : d.py.canLay0 = true ∧ PyData.canLayAll0 (pyA ds) = true := Bool.and_eq_true_iff.mp c
    cases h1
    exact .cons (Rp.dp d v h2 c'.1) (RpA.dp ds r h3 c'.2)
end
theorem Rp.dpS {H : Hp} {d : D} {v : V} (h : Rp K H d v) (c : SeqAt.shaped d.py = true) : Dp K H v d.py := h.dp d v (Bool.and_eq_true_iff.mp c).1
theorem dp_mono {H H' : Hp} (e : Same H H') {v : V} {d : PyData} (h : Dp K H v d) : Dp K H' v d := by
  refine Dp.rec (motive_1 := fun v d _ => Dp K H' v d) (motive_2 := fun vs ds _ => DpAll K H' vs ds) .non .bl .int .str ?_ ?_ .nil ?_ h
  · intro a xs ds h1 _ h2; exact .lst (e.seq h1) h2
  · intro a xs ds h1 _ h2; exact .tup (sqT_mono e h1) h2
  · intro v vs d ds _ _ h1 h2; exact .cons h1 h2
def xb (neg b : Bool) : Bool := match neg with
  | true => !b
  | false => b
def seq : D → D → Option Bool
  | .none, .none => some true
  | .none, .int _ => some false
  | .none, .bool _ => some false
  | .none, .str _ => some false
  | .int _, .none => some false
  | .bool _, .none => some false
  | .str _, .none => some false
  | .int a, .int b => some (decide (a = b))
  | .bool a, .bool b => some (decide (a = b))
  | .str a, .str b => some (decide (a = b))
  | .int _, .str _ => some false
  | .str _, .int _ => some false
  | .bool _, .str _ => some false
  | .str _, .bool _ => some false
  | _, _ => Option.none
def oEq (neg : Bool) : O2 := fun x y Q => match seq x y with
  | some b => Q (.bool (xb neg b))
  | Option.none => SeqAt.shaped x.py = true ∧ SeqAt.shaped y.py = true ∧ Q (.bool (xb neg (PyData.eqv x.py y.py)))
theorem seq_eqv : ∀ (x y : D) (b : Bool), seq x y = some b → PyData.eqv x.py y.py = b := by
  have es : ∀ a b : Str, (a == b) = decide (a = b) := fun a b => Bool.beq_eq_decide_eq a b
  intro x y b h
  cases x <;> cases y <;> simp only [seq, Option.some.injEq, reduceCtorEq] at h <;> subst h <;> simp [D.py, PyData.eqv]
  all_goals first | exact es _ _ | exact Bool.beq_eq_decide_eq _ _
theorem oEq_data {x y : D} {neg : Bool} {Q : D → Prop} (hx : SeqAt.shaped x.py = true) (hy : SeqAt.shaped y.py = true) (h : Q (.bool (xb neg (PyData.eqv x.py y.py)))) : oEq neg x y Q := by
  unfold oEq
  split
  · next b e => rw [seq_eqv x y b e] at h; exact h
  · exact ⟨hx, hy, h⟩
theorem sr_eqD : SndR K (rEqD K) (fun x y Q => SeqAt.shaped x.py = true ∧ SeqAt.shaped y.py = true ∧ Q (.bool (PyData.eqv x.py y.py))) := SndR.pure fun H Hs x y vx vy Q Q' s rx ry hq hd =>
  ⟨x.py, y.py, dp_mono s (rx.dpS hd.1), dp_mono s (ry.dpS hd.2.1), hd.1, hd.2.1, hq (.bool _) _ rfl hd.2.2⟩
theorem sr_neD : SndR K (rNeD K) (fun x y Q => SeqAt.shaped x.py = true ∧ SeqAt.shaped y.py = true ∧ Q (.bool (!PyData.eqv x.py y.py))) := SndR.pure fun H Hs x y vx vy Q Q' s rx ry hq hd =>
  ⟨x.py, y.py, dp_mono s (rx.dpS hd.1), dp_mono s (ry.dpS hd.2.1), hd.1, hd.2.1, hq (.bool _) _ rfl hd.2.2⟩
theorem seq_V {H : Hp} : ∀ (x y : D) (vx vy : V) (b : Bool), Rp K H x vx → Rp K H y vy → seq x y = some b → scal vx vy = true ∧ decide (vx = vy) = b := by
  intro x y vx vy b rx ry h
  cases x <;> cases y <;> simp only [seq, Option.some.injEq, reduceCtorEq] at h <;> subst h <;> cases rx <;> cases ry <;> simp [scal]
theorem sr_eqS : SndR K rEq (fun x y Q => ∃ b, seq x y = some b ∧ Q (.bool b)) := SndR.pure fun H Hs x y vx vy Q Q' s rx ry hq hd => by
  obtain ⟨b, e, h⟩ := hd
  obtain ⟨h1, h2⟩ := seq_V x y vx vy b rx ry e
  exact ⟨h1, hq (.bool b) _ (by rw [h2]; rfl) h⟩
theorem sr_neS : SndR K rNe (fun x y Q => ∃ b, seq x y = some b ∧ Q (.bool (!b))) := SndR.pure fun H Hs x y vx vy Q Q' s rx ry hq hd => by
  obtain ⟨b, e, h⟩ := hd
  obtain ⟨h1, h2⟩ := seq_V x y vx vy b rx ry e
  exact ⟨h1, hq (.bool (!b)) _ (by rw [h2]; rfl) h⟩
def rEqA (K : PySem.W.Frag) : R2 := fun x y H Q => rEq x y H Q ∨ rEqD K x y H Q
def rNeA (K : PySem.W.Frag) : R2 := fun x y H Q => rNe x y H Q ∨ rNeD K x y H Q
theorem sr_eq : SndR K (rEqA K) (oEq false) := (sr_eqS.or sr_eqD).weak fun x y Q h => by
  unfold oEq at h
  simp only [xb] at h
  split at h
  · next b e => exact .inl ⟨b, e, h⟩
  · exact .inr h
theorem sr_ne : SndR K (rNeA K) (oEq true) := (sr_neS.or sr_neD).weak fun x y Q h => by
  unfold oEq at h
  simp only [xb] at h
  split at h
  · next b e => exact .inl ⟨b, e, h⟩
  · exact .inr h
theorem de_eq {a b : Expr} {pos : Pos} {da db : DT} (hu : X.A.units + 64 < cLine) (ha : DE X a da) (hb : DE X b db) : DE X (.Compare a [.Eq] [b] pos) (dOp (oEq false) da db) := de_cmp (op_eq.or (op_eqD hu)) sr_eq ha hb (nomark _)
theorem de_ne {a b : Expr} {pos : Pos} {da db : DT} (hu : X.A.units + 64 < cLine) (ha : DE X a da) (hb : DE X b db) : DE X (.Compare a [.NotEq] [b] pos) (dOp (oEq true) da db) := de_cmp (op_ne.or (op_neD hu)) sr_ne ha hb (nomark _)
theorem dp_eq {a b : Expr} {pos : Pos} {da db : DT} (hu : X.A.units + 64 < cLine) (ha : DE X a da) (hb : DE X b db) : DP X (.Compare a [.Eq] [b] pos) (dTest (dOp (oEq false) da db)) := dp_cmp (op_eq.or (op_eqD hu)) sr_eq ha hb (nomark _)
theorem dp_ne {a b : Expr} {pos : Pos} {da db : DT} (hu : X.A.units + 64 < cLine) (ha : DE X a da) (hb : DE X b db) : DP X (.Compare a [.NotEq] [b] pos) (dTest (dOp (oEq true) da db)) := dp_cmp (op_ne.or (op_neD hu)) sr_ne ha hb (nomark _)

/-! < <= > >= of numbers -/
theorem de_lt {a b : Expr} {pos : Pos} {da db : DT} (ha : DE X a da) (hb : DE X b db) : DE X (.Compare a [.Lt] [b] pos) (dOp (oI0 fun i j => .bool (decide (i < j))) da db) := de_cmp op_lt (sr_I0 fun _ _ _ => rfl) ha hb (nomark _)
theorem de_le {a b : Expr} {pos : Pos} {da db : DT} (ha : DE X a da) (hb : DE X b db) : DE X (.Compare a [.LtE] [b] pos) (dOp (oI0 fun i j => .bool (decide (i ≤ j))) da db) := de_cmp op_le (sr_I0 fun _ _ _ => rfl) ha hb (nomark _)
theorem de_gt {a b : Expr} {pos : Pos} {da db : DT} (ha : DE X a da) (hb : DE X b db) : DE X (.Compare a [.Gt] [b] pos) (dOp (oI0 fun i j => .bool (decide (j < i))) da db) := de_cmp op_gt (sr_I0 fun _ _ _ => rfl) ha hb (nomark _)
theorem de_ge {a b : Expr} {pos : Pos} {da db : DT} (ha : DE X a da) (hb : DE X b db) : DE X (.Compare a [.GtE] [b] pos) (dOp (oI0 fun i j => .bool (decide (j ≤ i))) da db) := de_cmp op_ge (sr_I0 fun _ _ _ => rfl) ha hb (nomark _)
theorem dp_lt {a b : Expr} {pos : Pos} {da db : DT} (ha : DE X a da) (hb : DE X b db) : DP X (.Compare a [.Lt] [b] pos) (dTest (dOp (oI0 fun i j => .bool (decide (i < j))) da db)) := dp_cmp op_lt (sr_I0 fun _ _ _ => rfl) ha hb (nomark _)
theorem dp_le {a b : Expr} {pos : Pos} {da db : DT} (ha : DE X a da) (hb : DE X b db) : DP X (.Compare a [.LtE] [b] pos) (dTest (dOp (oI0 fun i j => .bool (decide (i ≤ j))) da db)) := dp_cmp op_le (sr_I0 fun _ _ _ => rfl) ha hb (nomark _)
theorem dp_gt {a b : Expr} {pos : Pos} {da db : DT} (ha : DE X a da) (hb : DE X b db) : DP X (.Compare a [.Gt] [b] pos) (dTest (dOp (oI0 fun i j => .bool (decide (j < i))) da db)) := dp_cmp op_gt (sr_I0 fun _ _ _ => rfl) ha hb (nomark _)
theorem dp_ge {a b : Expr} {pos : Pos} {da db : DT} (ha : DE X a da) (hb : DE X b db) : DP X (.Compare a [.GtE] [b] pos) (dTest (dOp (oI0 fun i j => .bool (decide (j ≤ i))) da db)) := dp_cmp op_ge (sr_I0 fun _ _ _ => rfl) ha hb (nomark _)
/-- a <= b <= c of numbers -/
theorem de_lele {a b c : Expr} {pos : Pos} {da db dc : DT} (ha : DE X a da) (hb : DE X b db) (hc : DE X c dc) (hm : lastMarks [CmpOp.LtE, CmpOp.LtE] [b, c] = false := by with_unfolding_all rfl) : DE X (.Compare a [.LtE, .LtE] [b, c] pos) (dChain (oI0 fun i j => .bool (decide (i ≤ j))) (oI0 fun i j => .bool (decide (i ≤ j))) da db dc) := de_chain op_le op_le (sr_I0 fun _ _ _ => rfl) (sr_I0 fun _ _ _ => rfl) ha hb hc hm
theorem dp_lele {a b c : Expr} {pos : Pos} {da db dc : DT} (ha : DE X a da) (hb : DE X b db) (hc : DE X c dc) (hm : lastMarks [CmpOp.LtE, CmpOp.LtE] [b, c] = false := by with_unfolding_all rfl) : DP X (.Compare a [.LtE, .LtE] [b, c] pos) (dTest (dChain (oI0 fun i j => .bool (decide (i ≤ j))) (oI0 fun i j => .bool (decide (i ≤ j))) da db dc)) := dp_chain op_le op_le (sr_I0 fun _ _ _ => rfl) (sr_I0 fun _ _ _ => rfl) ha hb hc hm

/-! is None -/
def D.isN : D → Bool
  | .none => true
  | .any v => decide (v = .non)
  | _ => false
def oIsN (neg : Bool) : O2 := fun x y Q => match y with
  | .none => Q (.bool (xb neg x.isN))
  | _ => False
theorem isN_V {H : Hp} : ∀ (x : D) (v : V), Rp K H x v → decide (v = .non) = x.isN := by
  intro x v h
  cases x <;> try (cases h; rfl)
  · obtain ⟨a, vs, rfl, _⟩ := h; rfl
  · obtain ⟨a, vs, rfl, _⟩ := h; rfl
  · obtain ⟨a, vs, rfl, _⟩ := h; rfl
  · obtain ⟨a, dx, vs, rfl, _⟩ := h; rfl
theorem sr_isN : SndR K (fun x y H Q => y = .non ∧ Q (.bl (decide (x = .non))) H) (oIsN false) := SndR.pure fun H Hs x y vx vy Q Q' s rx ry hq hd => by
  cases y <;> try exact hd.elim
  refine ⟨ry, ?_⟩
  rw [isN_V _ _ rx]
  exact hq (.bool _) _ rfl (by simpa [oIsN, xb] using hd)
theorem sr_notN : SndR K (fun x y H Q => y = .non ∧ Q (.bl (!decide (x = .non))) H) (oIsN true) := SndR.pure fun H Hs x y vx vy Q Q' s rx ry hq hd => by
  cases y <;> try exact hd.elim
  refine ⟨ry, ?_⟩
  rw [isN_V _ _ rx]
  exact hq (.bool _) _ rfl (by simpa [oIsN, xb] using hd)
theorem de_isN {a b : Expr} {pos : Pos} {da db : DT} (ha : DE X a da) (hb : DE X b db) : DE X (.Compare a [.Is] [b] pos) (dOp (oIsN false) da db) := de_cmp op_isN sr_isN ha hb (nomark _)
theorem de_notN {a b : Expr} {pos : Pos} {da db : DT} (ha : DE X a da) (hb : DE X b db) : DE X (.Compare a [.IsNot] [b] pos) (dOp (oIsN true) da db) := de_cmp op_notN sr_notN ha hb (nomark _)
theorem dp_isN {a b : Expr} {pos : Pos} {da db : DT} (ha : DE X a da) (hb : DE X b db) : DP X (.Compare a [.Is] [b] pos) (dTest (dOp (oIsN false) da db)) := dp_cmp op_isN sr_isN ha hb (nomark _)
theorem dp_notN {a b : Expr} {pos : Pos} {da db : DT} (ha : DE X a da) (hb : DE X b db) : DP X (.Compare a [.IsNot] [b] pos) (dTest (dOp (oIsN true) da db)) := dp_cmp op_notN sr_notN ha hb (nomark _)
end
end DL

namespace DL
open PySem PySem.Spec PyProof.Rows L2

section
variable {X : Cx} {K : PySem.W.Frag}
/-! calls of built-ins by values -/
abbrev OA := List D → (D → Prop) → Prop
def SndC (K : PySem.W.Frag) (r : List V → Hp → VK → Prop) (op : OA) : Prop := ∀ (H Hs : Hp) (ds : List D) (vs : List V) (Q : VK) (Q' : D → Prop), Same Hs H → RpA K Hs ds vs →
  (∀ z v H' Hs', Stp none H Hs H' Hs' → Rp K Hs' z v → Q' z → Q v H') → op ds Q' → r vs H Q
def dCB (op : OA) (t : DTA) : DT := fun g r f Q => t g r f fun ds f1 => op ds fun z => Q z f1
theorem snd_cb {r : List V → Hp → VK → Prop} {op : OA} {t : TA} {d : DTA} (hr : SndC K r op) (ht : SndA K t d) : Snd K (tCB r t) (dCB op d) := fun g ro f st H Hs Q Q' A hq hd =>
  ht g ro f st H Hs _ _ A (fun ds f1 vs H1 Hs1 s1 k1 r1 q1 => hr H1 Hs1 ds vs Q _ s1.sub r1 (fun z v H2 Hs2 s2 r2 q2 => hq z f1 v H2 Hs2 (s1.trans s2.gen) (k1.stp s2) r2 q2) q1) hd
theorem SndC.or {r r' : List V → Hp → VK → Prop} {op op' : OA} (h : SndC K r op) (h' : SndC K r' op') : SndC K (fun xs H Q => r xs H Q ∨ r' xs H Q) (fun xs Q => op xs Q ∨ op' xs Q) := fun H Hs ds vs Q Q' s rx hq hd => by
  rcases hd with hd | hd
  · exact .inl (h H Hs ds vs Q Q' s rx hq hd)
  · exact .inr (h' H Hs ds vs Q Q' s rx hq hd)
theorem SndC.weak {r : List V → Hp → VK → Prop} {op op' : OA} (h : SndC K r op) (w : ∀ ds Q, op' ds Q → op ds Q) : SndC K r op' := fun H Hs ds vs Q Q' s rx hq hd => h H Hs ds vs Q Q' s rx hq (w ds Q' hd)
theorem SndC.pure {r : List V → Hp → VK → Prop} {op : OA} (h : ∀ H Hs ds vs (Q : VK) (Q' : D → Prop), Same Hs H → RpA K Hs ds vs → (∀ z v, Rp K Hs z v → Q' z → Q v H) → op ds Q' → r vs H Q) : SndC K r op := fun H Hs ds vs Q Q' s rx hq hd =>
  h H Hs ds vs Q Q' s rx (fun z v rz q => hq z v H Hs (Stp.refl s) rz q) hd
theorem de_callB {x : Str} {id : String} {p pos : Pos} {e : Expr} {es : List Expr} {d : DTA} {r : List V → Hp → VK → Prop} {op : OA} (hc : CallR X (.builtin id) r) (hr : SndC X.K r op) (hg : Gl X x) (hm : X.mg x = none) (hv : bootBuiltins x = some (.builtin id)) (ha : DA X (e :: es) d)
    (hn : x ≠ "__name__" := by decide) (hdb : (x == ("__debug__" : Str)) = false := by decide) (hs : starEach (e :: es) X.env = (false, eval e X.env) :: starEach es X.env := by rfl)
    (hpl : (backTo pos (starEach es X.env)).any (·.1) = false := by rfl) : DE X (.Call (.Name x p) (e :: es) [] pos) (dCB op d) :=
  .mk' (pe_callB hc hg hm hv ha.pa hn hdb hs hpl) (snd_cb hr ha.sn)
theorem de_callTy {x : Str} {T : String} {p pos : Pos} {e : Expr} {es : List Expr} {d : DTA} {r : List V → Hp → VK → Prop} {op : OA} (hc : CallR X (.type T) r) (hr : SndC X.K r op) (hg : Gl X x) (hm : X.mg x = none) (hv : bootBuiltins x = some (.type T)) (ha : DA X (e :: es) d)
    (hn : x ≠ "__name__" := by decide) (hdb : (x == ("__debug__" : Str)) = false := by decide) (hs : starEach (e :: es) X.env = (false, eval e X.env) :: starEach es X.env := by rfl)
    (hpl : (backTo pos (starEach es X.env)).any (·.1) = false := by rfl) : DE X (.Call (.Name x p) (e :: es) [] pos) (dCB op d) :=
  .mk' (pe_callTy hc hg hm hv ha.pa hn hdb hs hpl) (snd_cb hr ha.sn)
/-- len -/
def oLen : OA := fun ds Q => match ds with
  | [.str x] => x.length ≤ lim ∧ Q (.int x.length)
  | [.lst xs] => Q (.int xs.length)
  | [.tup xs] => Q (.int xs.length)
  | _ => False
theorem rpA1 {H : Hp} {d : D} {vs : List V} (h : RpA K H [d] vs) : ∃ v, vs = [v] ∧ Rp K H d v := by
  obtain ⟨v, r, h1, h2, h3⟩ := h
  cases h3
  exact ⟨v, h1, h2⟩
theorem rpA2 {H : Hp} {d e : D} {vs : List V} (h : RpA K H [d, e] vs) : ∃ v w, vs = [v, w] ∧ Rp K H d v ∧ Rp K H e w := by
  obtain ⟨v, r, h1, h2, h3⟩ := h
  obtain ⟨w, rfl, h4⟩ := rpA1 h3
  exact ⟨v, w, h1, h2, h4⟩
theorem sc_len : SndC K (fun xs H Q => ∃ x n, xs = [x] ∧ LenV K x H n ∧ Q (.int n) H) oLen := SndC.pure fun H Hs ds vs Q Q' s rx hq hd => by
  unfold oLen at hd
  split at hd
  · obtain ⟨v, rfl, h⟩ := rpA1 rx
    cases h
    exact ⟨_, _, rfl, ⟨lim_le hd.1, rfl⟩, hq (.int _) _ rfl hd.2⟩
  · obtain ⟨v, rfl, a, vs, rfl, h1, h2⟩ := rpA1 rx
    exact ⟨_, _, rfl, .inl ⟨vs, SqL.of (s _ _ h1), rfl⟩, hq (.int _) _ (by rw [h2.length]; rfl) hd⟩
  · obtain ⟨v, rfl, a, vs, rfl, h1, h2⟩ := rpA1 rx
    exact ⟨_, _, rfl, .inr ⟨vs, SqT.of (s _ _ h1), rfl⟩, hq (.int _) _ (by rw [h2.length]; rfl) hd⟩
  · exact hd.elim
theorem de_len {p pos : Pos} {e : Expr} {d : DTA} (hm : X.mg "len" = none) (ha : DA X [e] d) (hg : Gl X "len" := by rfl) (hs : starEach [e] X.env = [(false, eval e X.env)] := by rfl) : DE X (.Call (.Name "len" p) [e] [] pos) (dCB oLen d) :=
  de_callB call_len sc_len hg hm PySem.boot_len ha (by decide) (by decide) hs (by rfl)
/-- all, any -/
def oAll (all : Bool) : OA := fun ds Q => match ds with
  | [.lst xs] => ∃ bs : List Bool, xs = bs.map D.bool ∧ Q (.bool (if all then bs.all id else bs.any id))
  | _ => False
theorem sc_all : SndC K (rAll K) (oAll true) := SndC.pure fun H Hs ds vs Q Q' s rx hq hd => by
  unfold oAll at hd
  split at hd
  · obtain ⟨bs, rfl, q⟩ := hd
    obtain ⟨v, rfl, a, vs, rfl, h1, h2⟩ := rpA1 rx
    have e := h2.bools
    subst e
    exact ⟨a, bs, rfl, SqL.of (s _ _ h1), hq (.bool _) _ rfl q⟩
  · exact hd.elim
theorem sc_any : SndC K (rAny K) (oAll false) := SndC.pure fun H Hs ds vs Q Q' s rx hq hd => by
  unfold oAll at hd
  split at hd
  · obtain ⟨bs, rfl, q⟩ := hd
    obtain ⟨v, rfl, a, vs, rfl, h1, h2⟩ := rpA1 rx
    have e := h2.bools
    subst e
    exact ⟨a, bs, rfl, SqL.of (s _ _ h1), hq (.bool _) _ rfl q⟩
  · exact hd.elim
/-- min(m, n), max(m, n) -/
def oMin2 : OA := fun ds Q => match ds with
  | [.int i, .int j] => Q (.int (if j < i then j else i))
  | _ => False
theorem sc_min2 : SndC K (fun xs H Q => ∃ i j, xs = [.int i, .int j] ∧ Q (.int (if j < i then j else i)) H) oMin2 := SndC.pure fun H Hs ds vs Q Q' s rx hq hd => by
  unfold oMin2 at hd
  split at hd
  · obtain ⟨v, w, rfl, h1, h2⟩ := rpA2 rx
    cases h1
    cases h2
    exact ⟨_, _, rfl, hq (.int _) _ rfl hd⟩
  · exact hd.elim
def oMax2 : OA := fun ds Q => match ds with
  | [.int i, .int j] => Q (.int (if j > i then j else i))
  | _ => False
theorem sc_max2 : SndC K (fun xs H Q => ∃ i j, xs = [.int i, .int j] ∧ Q (.int (if j > i then j else i)) H) oMax2 := SndC.pure fun H Hs ds vs Q Q' s rx hq hd => by
  unfold oMax2 at hd
  split at hd
  · obtain ⟨v, w, rfl, h1, h2⟩ := rpA2 rx
    cases h1
    cases h2
    exact ⟨_, _, rfl, hq (.int _) _ rfl hd⟩
  · exact hd.elim
/-- int(n) -/
def oInt : OA := fun ds Q => match ds with
  | [.int i] => Q (.int i)
  | [.bool b] => Q (.int (if b then 1 else 0))
  | _ => False
theorem sc_int : SndC K (fun xs H Q => (∃ i, xs = [.int i] ∧ Q (.int i) H) ∨ ∃ k, xs = [.bl k] ∧ Q (.int (if k then 1 else 0)) H) oInt := SndC.pure fun H Hs ds vs Q Q' s rx hq hd => by
  unfold oInt at hd
  split at hd
  · obtain ⟨v, rfl, h1⟩ := rpA1 rx
    cases h1
    exact .inl ⟨_, rfl, hq (.int _) _ rfl hd⟩
  · obtain ⟨v, rfl, h1⟩ := rpA1 rx
    cases h1
    exact .inr ⟨_, rfl, hq (.int _) _ rfl hd⟩
  · exact hd.elim
/-- tuple(xs) -/
def oTuple : OA := fun ds Q => match ds with
  | [.lst xs] => Q (.tup xs)
  | [.tup xs] => Q (.tup xs)
  | _ => False
theorem sc_tuple : SndC K (fun xs H Q => ∃ p ys, xs = [.ref p] ∧ ((SqL K H p ys ∧ ∀ l, H l = none → Q (.ref l) (upd H l (.tup ys))) ∨ (SqT K H p ys ∧ Q (.ref p) H))) oTuple := fun H Hs ds vs Q Q' s rx hq hd => by
  unfold oTuple at hd
  split at hd
  · obtain ⟨v, rfl, a, vs, rfl, h1, h2⟩ := rpA1 rx
    exact ⟨a, vs, rfl, .inl ⟨SqL.of (s _ _ h1), fun l hl => hq (.tup _) _ _ _ (Stp.alloc s hl) (rp_tup h2 (same_none s hl)) hd⟩⟩
  · obtain ⟨v, rfl, a, vs, rfl, h1, h2⟩ := rpA1 rx
    exact ⟨a, vs, rfl, .inr ⟨SqT.of (s _ _ h1), hq (.tup _) _ _ _ (Stp.refl s) ⟨a, vs, rfl, h1, h2⟩ hd⟩⟩
  · exact hd.elim
/-- isinstance(x, T), T built in; (T1, T2) -/
def D.tyN : D → Option String
  | .none => some "NoneType"
  | .bool _ => some "bool"
  | .int _ => some "int"
  | .str _ => some "str"
  | .tup _ => some "tuple"
  | .lst _ => some "list"
  | .dct _ _ => some "dict"
  | _ => Option.none
theorem tyN_ok {H : Hp} {d : D} {v : V} {n : String} (h : Rp K H d v) (e : d.tyN = some n) : TyX K H v (.type n) := by
  cases d <;> simp only [D.tyN, Option.some.injEq, reduceCtorEq] at e <;> subst e
  · cases h; exact .base .non
  · cases h; exact .base (.bl _)
  · cases h; exact .base (.int _)
  · cases h; exact .base (.str _)
  · obtain ⟨a, vs, rfl, h1, _⟩ := h
    exact .base (.tup h1)
  · obtain ⟨a, vs, rfl, h1, _⟩ := h; exact .base (.lst h1)
  · obtain ⟨a, vs, rfl, h1, _⟩ := h; exact .base (.dK h1)
def oIsi : OA := fun ds Q => match ds with
  | [x, .any (.ty n)] => ∃ t b, x.tyN = some t ∧ kitB t n = some b ∧ Q (.bool b)
  | _ => False
theorem sc_isi : SndC K (rIsi K) oIsi := SndC.pure fun H Hs ds vs Q Q' s rx hq hd => by
  unfold oIsi at hd
  split at hd
  · obtain ⟨t, b, h1, h2, h3⟩ := hd
    obtain ⟨v, w, rfl, h4, h5⟩ := rpA2 rx
    cases h5
    exact ⟨v, _, _, _, b, rfl, .ty _, tyN_ok (h4.mono s) h1, kit_ty h2, hq (.bool _) _ rfl h3⟩
  · exact hd.elim
theorem de_isi {p pos : Pos} {e e2 : Expr} {d : DTA} (hm : X.mg "isinstance" = none) (ha : DA X [e, e2] d) (hg : Gl X "isinstance" := by rfl) (hs : starEach [e, e2] X.env = (false, eval e X.env) :: starEach [e2] X.env := by rfl)
    (hpl : (backTo pos (starEach [e2] X.env)).any (·.1) = false := by rfl) : DE X (.Call (.Name "isinstance" p) [e, e2] [] pos) (dCB oIsi d) :=
  de_callB call_isi sc_isi hg hm (by decide +kernel) ha (by decide) (by decide) hs hpl

/-! methods of texts -/
abbrev OM := D → List D → (D → Prop) → Prop
def SndM (K : PySem.W.Frag) (r : V → List V → Hp → VK → Prop) (op : OM) : Prop := ∀ (H Hs : Hp) (x : D) (vx : V) (ds : List D) (vs : List V) (Q : VK) (Q' : D → Prop), Same Hs H → Rp K Hs x vx → RpA K Hs ds vs →
  (∀ z v H' Hs', Stp none H Hs H' Hs' → Rp K Hs' z v → Q' z → Q v H') → op x ds Q' → r vx vs H Q
def D.isStr : D → Prop
  | .str _ => True
  | _ => False
def dM0 (op : OM) (o : DT) : DT := fun g r f Q => o g r f fun x f1 => x.isStr ∧ op x [] fun z => Q z f1
def dM1 (op : OM) (o e : DT) : DT := fun g r f Q => o g r f fun x f1 => x.isStr ∧ e g r f1 fun y f2 => op x [y] fun z => Q z f2
theorem isStr_V {H : Hp} {d : D} {v : V} (h : Rp K H d v) (i : d.isStr) : ∃ a, v = .str a := by
  cases d <;> first | exact i.elim | exact ⟨_, h⟩
theorem snd_m0 {r : V → List V → Hp → VK → Prop} {op : OM} {to : TE} {o : DT} (hr : SndM K r op) (ho : Snd K to o) : Snd K (tM0 r to) (dM0 op o) := fun g ro f st H Hs Q Q' A hq hd =>
  ho g ro f st H Hs _ _ A (fun x f1 vx H1 Hs1 s1 k1 r1 q1 => ⟨isStr_V r1 q1.1, hr H1 Hs1 x vx [] [] Q _ s1.sub r1 rfl (fun z v H2 Hs2 s2 r2 q2 => hq z f1 v H2 Hs2 (s1.trans s2.gen) (k1.stp s2) r2 q2) q1.2⟩) hd
theorem snd_m1 {r : V → List V → Hp → VK → Prop} {op : OM} {to te : TE} {o e : DT} (hr : SndM K r op) (ho : Snd K to o) (he : Snd K te e) : Snd K (tM1 r to te) (dM1 op o e) := fun g ro f st H Hs Q Q' A hq hd =>
  ho g ro f st H Hs _ _ A (fun x f1 vx H1 Hs1 s1 k1 r1 q1 => ⟨isStr_V r1 q1.1, he g ro f1 st H1 Hs1 _ _ (A.step s1 k1) (fun y f2 vy H2 Hs2 s2 k2 r2 q2 =>
    hr H2 Hs2 x vx [y] [vy] Q _ s2.sub (r1.mono s2.ext) (RpA.one r2) (fun z v H3 Hs3 s3 r3 q3 => hq z f2 v H3 Hs3 ((s1.trans s2).trans s3.gen) (k2.stp s3) r3 q3) q2) q1.2⟩) hd
def oStarts : OM := fun x ds Q => match x, ds with
  | .str a, [.str b] => Q (.bool (Txt.startswith a b))
  | _, _ => False
theorem sm_starts : SndM K (fun x xs H Q => ∃ a b, x = .str a ∧ xs = [.str b] ∧ Q (.bl (Txt.startswith a b)) H) oStarts := fun H Hs x vx ds vs Q Q' s rx rs hq hd => by
  unfold oStarts at hd
  split at hd
  · obtain ⟨v, rfl, h⟩ := rpA1 rs
    cases h
    exact ⟨_, _, rx, rfl, hq (.bool _) _ _ _ (Stp.refl s) rfl hd⟩
  · exact hd.elim
theorem de_starts {o e : Expr} {apos pos : Pos} {d d2 : DT} (ho : DE X o d) (he : DE X e d2) (hs : starEach [e] X.env = [(false, eval e X.env)] := by rfl) (hbase : attributeBase o "startswith" X.env (eval o X.env) = eval o X.env := by rfl) (hline : (apos.endLine == pos.line) = true := by rfl) :
    DE X (.Call (.Attribute o "startswith" apos) [e] [] pos) (dM1 oStarts d d2) := .mk' (pe_m1 F.slot_str_startswith F.type_str_startswith mt_startswith ho.pe he.pe hs hbase hline) (snd_m1 sm_starts ho.sn he.sn)
def oUpper : OM := fun x ds Q => match x, ds with
  | .str a, [] => a.length ≤ lim ∧ Q (.str (Txt.upper a))
  | _, _ => False
theorem sm_upper : SndM K (fun x xs H Q => ∃ a, x = .str a ∧ xs = [] ∧ a.length ≤ 5592405 ∧ Q (.str (Txt.upper a)) H) oUpper := fun H Hs x vx ds vs Q Q' s rx rs hq hd => by
  unfold oUpper at hd
  split at hd
  · exact ⟨_, rx, rs, Nat.le_trans hd.1 (by decide), hq (.str _) _ _ _ (Stp.refl s) rfl hd.2⟩
  · exact hd.elim
theorem de_upper {o : Expr} {apos pos : Pos} {d : DT} (ho : DE X o d) (hbase : attributeBase o "upper" X.env (eval o X.env) = eval o X.env := by rfl) (hline : (apos.endLine == pos.line) = true := by rfl) :
    DE X (.Call (.Attribute o "upper" apos) [] [] pos) (dM0 oUpper d) := .mk' (pe_upper ho.pe hbase hline) (snd_m0 sm_upper ho.sn)
def oJoin : OM := fun x ds Q => match x, ds with
  | .str a, [.lst xs] => ∃ ys : List Str, xs = ys.map D.str ∧ (ys.map (·.length)).sum + ys.length * a.length ≤ 16777216 ∧ Q (.str (Txt.join a ys))
  | .str a, [.tup xs] => ∃ ys : List Str, xs = ys.map D.str ∧ (ys.map (·.length)).sum + ys.length * a.length ≤ 16777216 ∧ Q (.str (Txt.join a ys))
  | _, _ => False
theorem RpA.strs' {H : Hp} {l : List Str} {vs : List V} (h : RpA K H (l.map D.str) vs) : vs = l.map V.str := h.strs
theorem sm_join : SndM K (fun x xs H Q => ∃ a p, ∃ ys : List Str, x = .str a ∧ xs = [.ref p] ∧ (SqL K H p (ys.map V.str) ∨ SqT K H p (ys.map V.str)) ∧ (ys.map (·.length)).sum + ys.length * a.length ≤ 16777216 ∧ Q (.str (Txt.join a ys)) H) oJoin := fun H Hs x vx ds vs Q Q' s rx rs hq hd => by
  unfold oJoin at hd
  split at hd
  · obtain ⟨ys, rfl, h1, h2⟩ := hd
    obtain ⟨v, rfl, a, vs, rfl, h3, h4⟩ := rpA1 rs
    have e := h4.strs
    subst e
    exact ⟨_, a, ys, rx, rfl, .inl (SqL.of (s _ _ h3)), h1, hq (.str _) _ _ _ (Stp.refl s) rfl h2⟩
  · obtain ⟨ys, rfl, h1, h2⟩ := hd
    obtain ⟨v, rfl, a, vs, rfl, h3, h4⟩ := rpA1 rs
    have e := h4.strs
    subst e
    exact ⟨_, a, ys, rx, rfl, .inr (SqT.of (s _ _ h3)), h1, hq (.str _) _ _ _ (Stp.refl s) rfl h2⟩
  · exact hd.elim
theorem de_join {o e : Expr} {apos pos : Pos} {d d2 : DT} (ho : DE X o d) (he : DE X e d2) (hs : starEach [e] X.env = [(false, eval e X.env)] := by rfl) (hbase : attributeBase o "join" X.env (eval o X.env) = eval o X.env := by rfl) (hline : (apos.endLine == pos.line) = true := by rfl) :
    DE X (.Call (.Attribute o "join" apos) [e] [] pos) (dM1 oJoin d d2) :=
  .mk' (pe_join ho.pe he.pe hs hbase hline) (snd_m1 sm_join ho.sn he.sn)
/-- x.split(sep): a new list -/
def dSplit (o e : DT) : DTA := fun g r f Q => o g r f fun x f1 => match x with
  | .str a => e g r f1 fun y f2 => match y with
    | .str b => (b.length == 0) = false ∧ a.length ≤ lim ∧ Q ((Txt.split a b).map D.str) f2
    | _ => False
  | _ => False
theorem dl_split {o e : Expr} {apos pos : Pos} {d d2 : DT} (ho : DE X o d) (he : DE X e d2) (hs : starEach [e] X.env = [(false, eval e X.env)] := by rfl) (hbase : attributeBase o "split" X.env (eval o X.env) = eval o X.env := by rfl) (hline : (apos.endLine == pos.line) = true := by rfl) :
    DL' X (.Call (.Attribute o "split" apos) [e] [] pos) (dSplit d d2) :=
  .mk' (pe_split ho.pe he.pe hs hbase hline) (fun g ro f st H Hs Q Q' A hq hd =>
    ho.sn g ro f st H Hs _ _ A (fun x f1 vx H1 Hs1 s1 k1 r1 q1 => by
      cases x <;> try exact q1.elim
      next a =>
      refine ⟨⟨a, r1⟩, he.sn g ro f1 st H1 Hs1 _ _ (A.step s1 k1) (fun y f2 vy H2 Hs2 s2 k2 r2 q2 => ?_) q1⟩
      cases y <;> try exact q2.elim
      next b =>
      cases r1
      cases r2
      refine ⟨a, b, rfl, rfl, q2.1, Nat.le_trans (Nat.add_le_add_right q2.2.1 2) (by decide), fun p hp => ?_⟩
      have al : Stp none H2 Hs2 (upd H2 p (.lst ((Txt.split a b).map V.str))) Hs2 := Stp.lay s2.sub hp
      refine hq _ f2 p _ _ _ ((s1.trans s2).trans al.gen) (k2.stp al) ?_ (same_none s2.sub hp) upd_same (RpA.map (f := D.str) (g := V.str) (fun _ => rfl) _) q2.2.2
      cases e : H p with
      | none => rfl
      | some o =>
        obtain ⟨o', e'⟩ := (s1.trans s2).there p o e
        rw [e'] at hp; cases hp) hd)
end
end DL

namespace DL
open PySem PySem.Spec PyProof.Rows L2

section
variable {X : Cx} {K : PySem.W.Frag}
/-! items and slices -/
def oIx : O2 := fun x y Q => match x, y with
  | .lst xs, .int i => ∃ d, atI xs i = some d ∧ Q d
  | .tup xs, .int i => ∃ d, atI xs i = some d ∧ Q d
  | .str z, .int i => z.length ≤ lim ∧ ∃ c, atI z.cps.toList i = some c ∧ Q (.str ⟨#[c]⟩)
  | _, _ => False
theorem atI_rp {H : Hp} {ds : List D} {vs : List V} {i : Int} {d : D} (h : RpA K H ds vs) (e : atI ds i = some d) : ∃ v, atI vs i = some v ∧ Rp K H d v := by
  unfold atI at e ⊢
  rw [h.length] at e
  cases e2 : ixN vs.length i with
  | none => rw [e2] at e; cases e
  | some j =>
    rw [e2] at e
    obtain ⟨v, h1, h2⟩ := h.get (i := j) (d := d) e
    exact ⟨v, h1, h2⟩
theorem sr_ix : SndR K (rIx K) oIx := SndR.pure fun H Hs x y vx vy Q Q' s rx ry hq hd => by
  unfold oIx at hd
  split at hd
  · obtain ⟨d, e, q⟩ := hd
    obtain ⟨a, vs, rfl, h1, h2⟩ := rx
    obtain ⟨v, h3, h4⟩ := atI_rp h2 e
    exact .inl ⟨a, vs, _, v, rfl, ry, SqL.of (s _ _ h1), h3, hq d v h4 q⟩
  · obtain ⟨d, e, q⟩ := hd
    obtain ⟨a, vs, rfl, h1, h2⟩ := rx
    obtain ⟨v, h3, h4⟩ := atI_rp h2 e
    exact .inr (.inl ⟨a, vs, _, v, rfl, ry, SqT.of (s _ _ h1), h3, hq d v h4 q⟩)
  · obtain ⟨hz, c, e, q⟩ := hd
    exact .inr (.inr ⟨_, _, c, rx, ry, lim_le hz, e, hq (.str _) _ rfl q⟩)
  · exact hd.elim
theorem de_ix {a b : Expr} {pos : Pos} {da db : DT} (ha : DE X a da) (hb : DE X b db) (hs : PlainIx b := by exact fun _ _ => rfl) : DE X (.Subscript a b pos) (dOp oIx da db) := .mk' (pe_ix ix_seq ha.pe hb.pe hs) (snd_op sr_ix ha.sn hb.sn)
abbrev DTO := Option Dk → Sg → Nat → (Option Int → Nat → Prop) → Prop
def SndO (K : PySem.W.Frag) (t : TO) (dl : DTO) : Prop := ∀ (g : Option Dk) (r : Sg) (f : Nat) (st : L2.St) (H Hs : Hp) (Q : Option Int → Hp → Prop) (Q' : Option Int → Nat → Prop), At K g r f st H Hs →
  (∀ b f' H' Hs', Stp g H Hs H' Hs' → DkOk g H' Hs' f' → Q' b f' → Q b H') → dl g r f Q' → t st H Q
def tOfO (K : PySem.W.Frag) (dl : DTO) : TO := fun st H Q => ∃ g r f Hs Q', At K g r f st H Hs ∧ (∀ b f' H' Hs', Stp g H Hs H' Hs' → DkOk g H' Hs' f' → Q' b f' → Q b H') ∧ dl g r f Q'
structure DO (X : Cx) (e : Option Expr) (dl : DTO) : Prop where
  po : PO X e (tOfO X.K dl)
theorem DO.sn {e : Option Expr} {dl : DTO} (_ : DO X e dl) : SndO X.K (tOfO X.K dl) dl := fun g r f st H Hs Q Q' a hq hd => ⟨g, r, f, Hs, Q', a, hq, hd⟩
theorem DO.mk' {e : Option Expr} {t : TO} {dl : DTO} (p : PO X e t) (s : SndO X.K t dl) : DO X e dl := ⟨⟨fun pins sh st H Q I ⟨g, r, f, Hs, Q', a, hq, hd⟩ => p.run pins sh st H Q I (s g r f st H Hs Q Q' a hq hd)⟩⟩
theorem do_none : DO X none (fun _ _ f Q => Q none f) := .mk' (po_none) (fun g ro f st H Hs Q Q' A hq hd => hq none f H Hs (Stp.refl A.sub) A.dk hd)
def dPart (d : DT) : DTO := fun g r f Q => d g r f fun x f1 => match x with
  | .int i => Q (some i) f1
  | _ => False
theorem do_some {e : Expr} {d : DT} (h : DE X e d) : DO X (some e) (dPart d) := .mk' (po_some h.pe) (fun g ro f st H Hs Q Q' A hq hd =>
  h.sn g ro f st H Hs _ _ A (fun x f1 v H1 Hs1 s1 k1 r1 q1 => by
    cases x <;> try exact q1.elim
    exact ⟨_, r1, hq _ f1 H1 Hs1 s1 k1 q1⟩) hd)
def cutD (xs : List D) (lo hi : Option Int) : List D := (xs.drop (HT.sIx xs.length 0 lo)).take (HT.sIx xs.length xs.length hi - HT.sIx xs.length 0 lo)
theorem cut_rp {H : Hp} {ds : List D} {vs : List V} {lo hi : Option Int} (h : RpA K H ds vs) : RpA K H (cutD ds lo hi) (cutV vs lo hi) := by
  unfold cutD cutV
  rw [h.length]
  exact (h.drop _).take _
abbrev O3 := D → Option Int → Option Int → (D → Prop) → Prop
def oSl : O3 := fun x lo hi Q => match x with
  | .lst xs => Q (.lst (cutD xs lo hi))
  | .tup xs => Q (.tup (cutD xs lo hi))
  | .str z => z.length ≤ lim ∧ Q (.str (cutS z lo hi))
  | _ => False
def rSl (K : PySem.W.Frag) : V → Option Int → Option Int → Hp → VK → Prop := fun x lo hi H Q => rSlL K x lo hi H Q ∨ (rSlA K x lo hi H Q ∨ rSlS x lo hi H Q)
theorem cutD_whole {xs : List D} {lo hi : Option Int} (h : HT.sIx xs.length 0 lo = 0 ∧ HT.sIx xs.length xs.length hi = xs.length) : cutD xs lo hi = xs := by
  unfold cutD
  rw [h.1, h.2]
  simp
theorem sl_all : SlR X (rSl X.K) := sl_list.or (sl_tupA.or sl_str)
def dSl (a : DT) (lo hi : DTO) : DT := fun g r f Q => a g r f fun x f1 => lo g r f1 fun i f2 => hi g r f2 fun j f3 => oSl x i j fun z => Q z f3
theorem sr_sl {H Hs : Hp} {x : D} {vx : V} {lo hi : Option Int} {Q : VK} {Q' : D → Prop} (s : Same Hs H) (rx : Rp K Hs x vx) (hq : ∀ z v H' Hs', Stp none H Hs H' Hs' → Rp K Hs' z v → Q' z → Q v H') (hd : oSl x lo hi Q') : rSl K vx lo hi H Q := by
  cases x <;> try exact hd.elim
  · exact .inr (.inr ⟨_, rx, lim_le hd.1, hq (.str _) _ _ _ (Stp.refl s) rfl hd.2⟩)
  · obtain ⟨a, vs, rfl, h1, h2⟩ := rx
    refine .inr (.inl ⟨a, vs, rfl, SqT.of (s _ _ h1), fun e => ?_, fun e p hp => ?_⟩)
    · rw [← h2.length] at e
      exact hq (.tup _) _ _ _ (Stp.refl s) ⟨a, vs, rfl, h1, by rw [cutD_whole e]; exact h2⟩ hd
    · exact hq (.tup _) _ _ _ (Stp.alloc s hp) (rp_tup (cut_rp h2) (same_none s hp)) hd
  · obtain ⟨a, vs, rfl, h1, h2⟩ := rx
    exact .inl ⟨a, vs, rfl, SqL.of (s _ _ h1), fun p hp => hq (.lst _) _ _ _ (Stp.alloc s hp) (rp_lst (cut_rp h2) (same_none s hp)) hd⟩
theorem de_sl {e : Expr} {lo hi : Option Expr} {p2 pos : Pos} {d : DT} {dl dh : DTO} (he : DE X e d) (hl : DO X lo dl) (hh : DO X hi dh) : DE X (.Subscript e (.Slice lo hi none p2) pos) (dSl d dl dh) :=
  .mk' (pe_slice sl_all he.pe hl.po hh.po) (fun g ro f st H Hs Q Q' A hq hd =>
    he.sn g ro f st H Hs _ _ A (fun x f1 v H1 Hs1 s1 k1 r1 q1 => hl.sn g ro f1 st H1 Hs1 _ _ (A.step s1 k1) (fun i f2 H2 Hs2 s2 k2 q2 =>
      hh.sn g ro f2 st H2 Hs2 _ _ ((A.step s1 k1).step s2 k2) (fun j f3 H3 Hs3 s3 k3 q3 =>
        sr_sl s3.sub ((r1.mono s2.ext).mono s3.ext) (fun z v H4 Hs4 s4 r4 q4 => hq z f3 v H4 Hs4 (((s1.trans s2).trans s3).trans s4.gen) (k3.stp s4) r4 q4) q3) q2) q1) hd)
/-- xs[::-1] of a list -/
def dRev (a : DT) : DTA := fun g r f Q => a g r f fun x f1 => match x with
  | .lst xs => Q xs.reverse f1
  | _ => False
theorem none_back {g : Option Dk} {H Hs H' Hs' : Hp} {p : Addr} (s : Stp g H Hs H' Hs') (h : H' p = none) : H p = none := by
  cases e : H p with
  | none => rfl
  | some o =>
    obtain ⟨o', e'⟩ := s.there p o e
    rw [e'] at h; cases h
theorem dl_rev {e : Expr} {d : DT} {k : Nat} {p1 p2 p3 pos : Pos} (he : DE X e d) : DL' X (.Subscript e (.Slice none none (some (.UnaryOp .USub (.Constant (.int 1) k p1) p2)) p3) pos) (dRev d) :=
  .mk' (pe_revL he.pe) (fun g ro f st H Hs Q Q' A hq hd =>
    he.sn g ro f st H Hs _ _ A (fun x f1 v H1 Hs1 s1 k1 r1 q1 => by
      cases x <;> try exact q1.elim
      obtain ⟨a, vs, rfl, h1, h2⟩ := r1
      refine ⟨a, vs, rfl, SqL.of (s1.sub _ _ h1), fun p hp => ?_⟩
      have al : Stp none H1 Hs1 (upd H1 p (.lst vs.reverse)) Hs1 := Stp.lay s1.sub hp
      exact hq _ f1 p _ _ _ (s1.trans al.gen) (k1.stp al) (none_back s1 hp) (same_none s1.sub hp) upd_same h2.reverse q1) hd)

/-! calls of defs -/
abbrev DSp := Option Dk → List D → Nat → QD → Prop
def spOf (K : PySem.W.Frag) (S : DSp) : Sp := fun vs H Q _ => ∃ (g : Option Dk) (Hs : Hp) (ds : List D) (f : Nat) (Q' : QD), Same Hs H ∧ DkOk g H Hs f ∧ RpA K Hs ds vs ∧ S g ds f Q' ∧
  ∀ d f' v H' Hs', Stp g H Hs H' Hs' → DkOk g H' Hs' f' → Rp K Hs' d v → Q' d f' → Q v H'
def dCall (S : DSp) (t : DTA) : DT := fun g r f Q => t g r f fun ds f1 => S g ds f1 Q
theorem snd_call {S : DSp} {E : XK} {t : TA} {d : DTA} (ht : SndA K t d) : Snd K (tCall (spOf K S) [] E t) (dCall S d) := fun g ro f st H Hs Q Q' A hq hd =>
  ht g ro f st H Hs _ _ A (fun ds f1 vs H1 Hs1 s1 k1 r1 q1 => by
    show spOf K S (vs ++ []) H1 Q E
    rw [List.append_nil]
    exact ⟨g, Hs1, ds, f1, Q', s1.sub, k1, r1, q1, fun d f' v H' Hs' s2 k2 r2 q2 => hq d f' v H' Hs' (s1.trans s2) k2 r2 q2⟩) hd
theorem de_call {x : Str} {f : Addr} {fd : FuncData} {ps : List Str} {k : Nat} {S : DSp} {p pos : Pos} {e : Expr} {es : List Expr} {d : DTA} (F : FnOk X.prog X.w X.K X.mg X.base CX0 k f fd ps (spOf X.K S)) (hr : Room k X.A) (hm : X.mg x = some (.ref f)) (hk : PySem.W.keepIn X.K (.ref f) = true) (hb : Binds X.K fd ps [])
    (ha : DA X (e :: es) d) (hg : Gl X x := by rfl) (hdb : (x == ("__debug__" : Str)) = false := by decide) (hs : starEach (e :: es) X.env = (false, eval e X.env) :: starEach es X.env := by rfl)
    (hpl : (backTo pos (starEach es X.env)).any (·.1) = false := by rfl) : DE X (.Call (.Name x p) (e :: es) [] pos) (dCall S d) :=
  .mk' (pe_call F hr hg hm hk hb .nil pass0 ha.pa hdb hs hpl) (snd_call ha.sn)

/-! what is walked -/
structure Walks (K : PySem.W.Frag) (J : It) (Hb : Hp) (ds : List D) : Prop where
  go : ∀ (i : Nat) (d : D) (H Hs : Hp), Same Hb Hs → Same Hs H → ds[i]? = some d → J.go i H ∧ ∀ x H', J.yld i H x H' → ∃ Hs', Stp none H Hs H' Hs' ∧ Rp K Hs' d x
  stop : ∀ H, Same Hb H → J.stop ds.length H
def SndI (K : PySem.W.Frag) (wi : TI) (dl : DTA) : Prop := ∀ (g : Option Dk) (r : Sg) (f : Nat) (st : L2.St) (H Hs : Hp) (R : It → Hp → Prop) (Q' : List D → Nat → Prop), At K g r f st H Hs →
  (∀ ds f' J H' Hs', Stp g H Hs H' Hs' → DkOk g H' Hs' f' → Walks K J Hs' ds → Q' ds f' → R J H') → dl g r f Q' → wi st H R
def tOfI (K : PySem.W.Frag) (dl : DTA) : TI := fun st H R => ∃ g r f Hs Q', At K g r f st H Hs ∧ (∀ ds f' J H' Hs', Stp g H Hs H' Hs' → DkOk g H' Hs' f' → Walks K J Hs' ds → Q' ds f' → R J H') ∧ dl g r f Q'
structure DI (X : Cx) (tg e : Expr) (dl : DTA) : Prop where
  pi : PI X tg e (tOfI X.K dl)
theorem DI.sn {tg e : Expr} {dl : DTA} (_ : DI X tg e dl) : SndI X.K (tOfI X.K dl) dl := fun g r f st H Hs Q Q' a hq hd => ⟨g, r, f, Hs, Q', a, hq, hd⟩
theorem DI.mk' {tg e : Expr} {wi : TI} {dl : DTA} (p : PI X tg e wi) (s : SndI X.K wi dl) : DI X tg e dl := ⟨⟨fun pins sh st H R I ⟨g, r, f, Hs, Q', a, hq, hd⟩ => p.run pins sh st H R I (s g r f st H Hs R Q' a hq hd)⟩⟩
/-- a list, a tuple, a text -/
def iSeq (K : PySem.W.Frag) (tl : TE) : TI := fun st H R => tl st H fun x H1 => (∃ a, x = .ref a ∧ (((∃ xs, SqL K H1 a xs) ∧ R (Itl K a) H1) ∨ ((∃ xs, SqT K H1 a xs) ∧ R (Itt K a) H1))) ∨ ∃ z, x = .str z ∧ R (Its z) H1
theorem pi_seq {tg l : Expr} {tl : TE} (hl : PE X l tl) : PI X tg l (iSeq X.K tl) := by
  refine ⟨fun pins s st H R I h => ?_⟩
  refine thn (hl.run pins s st H _ I h) fun v s1 ⟨x, H1, I1, r1, q1⟩ => ?_
  rcases q1 with ⟨a, e, (⟨⟨xs, hq⟩, q⟩ | ⟨⟨xs, hq⟩, q⟩)⟩ | ⟨z, e, q⟩
  · subst e
    cases r1
    obtain ⟨its, rv, p, hz⟩ := I1.list hq
    refine wpAny_pyIter_list p.isList ?_
    refine ⟨s1.heap.objs.size, [s1.heap.objs.size], _, _, H1, rfl, I1.kept (t' := s1.toks) fun b o e => Heap.get?_push_of_some _ e, turn_list a _, ⟨_, Heap.get?_push_size _ rfl, rfl, rfl⟩, fun b hb => ?_, q⟩
    have e : b = s1.heap.objs.size := by simpa using hb
    subst e
    exact I1.fpOk (Nat.le_refl _) (I1.hok.fresh (Nat.le_refl _))
  · subst e
    cases r1
    obtain ⟨its, rv, p, hz⟩ := I1.tuple hq
    refine wpAny_pyIter_tuple (show s1.heap.IsTuple a its.toArray from p) ?_
    refine ⟨s1.heap.objs.size, [s1.heap.objs.size], _, _, H1, rfl, I1.kept (t' := s1.toks) fun b o e => Heap.get?_push_of_some _ e, turn_tuple a _, ⟨_, Heap.get?_push_size _ rfl, rfl, rfl⟩, fun b hb => ?_, q⟩
    have e : b = s1.heap.objs.size := by simpa using hb
    subst e
    exact I1.fpOk (Nat.le_refl _) (I1.hok.fresh (Nat.le_refl _))
  · subst e
    obtain ⟨t, rfl⟩ := r1
    cases ha : z.cps.all (· < 128)
    · exact wpAny_pyIter_wide ha (pi_one (tk := s1.toks) I1 _ (turn_str _ z t "str_iterator" (.inr rfl)) ⟨_, Heap.get?_push_size _ rfl, rfl, rfl⟩ q)
    · exact wpAny_pyIter_ascii ha (pi_one (tk := s1.toks) I1 _ (turn_str _ z t "str_ascii_iterator" (.inl rfl)) ⟨_, Heap.get?_push_size _ rfl, rfl, rfl⟩ q)
def signs (z : Str) : List D := z.cps.toList.map fun c => .str ⟨#[c]⟩
def dSeq' (d : DT) : DTA := fun g r f Q => d g r f fun x f1 => match x with
  | .lst xs => Q xs f1
  | .tup xs => Q xs f1
  | .str z => Q (signs z) f1
  | _ => False
theorem walks_list {Hb : Hp} {a : Addr} {vs : List V} {ds : List D} (h1 : Hb a = some (.lst vs)) (h2 : RpA K Hb ds vs) : Walks K (Itl K a) Hb ds where
  go := fun i d H Hs s1 s2 e => by
    obtain ⟨v, hv, hr⟩ := h2.get e
    have q : SqL K H a vs := SqL.of (s2 _ _ (s1 _ _ h1))
    refine ⟨⟨vs, v, q, hv⟩, ?_⟩
    rintro x H' ⟨rfl, hx⟩
    have := hx vs q
    rw [hv] at this
    cases this
    exact ⟨Hs, Stp.refl s2, hr.mono s1⟩
  stop := fun H s => ⟨vs, SqL.of (s _ _ h1), by rw [h2.length]; exact Nat.le_refl _⟩
theorem walks_tup {Hb : Hp} {a : Addr} {vs : List V} {ds : List D} (h1 : SqT K Hb a vs) (h2 : RpA K Hb ds vs) : Walks K (Itt K a) Hb ds where
  go := fun i d H Hs s1 s2 e => by
    obtain ⟨v, hv, hr⟩ := h2.get e
    have q : SqT K H a vs := sqT_mono s2 (sqT_mono s1 h1)
    refine ⟨⟨vs, v, q, hv⟩, ?_⟩
    rintro x H' ⟨rfl, hx⟩
    have := hx vs q
    rw [hv] at this
    cases this
    exact ⟨Hs, Stp.refl s2, hr.mono s1⟩
  stop := fun H s => ⟨vs, sqT_mono s h1, by rw [h2.length]; exact Nat.le_refl _⟩
theorem walks_str {Hb : Hp} {z : Str} : Walks K (Its z) Hb (signs z) where
  go := fun i d H Hs s1 s2 e => by
    unfold signs at e
    rw [List.getElem?_map] at e
    cases ec : z.cps.toList[i]? with
    | none => rw [ec] at e; cases e
    | some c =>
      rw [ec] at e
      cases e
      have hl : i < z.cps.size := by
        have := List.getElem?_eq_some_iff.mp ec
        simpa using this.1
      refine ⟨hl, ?_⟩
      rintro x H' ⟨rfl, c', hc, rfl⟩
      have : c' = c := by
        rw [Array.getElem?_toList] at ec
        rw [hc] at ec
        exact Option.some.inj ec
      subst this
      exact ⟨Hs, Stp.refl s2, rfl⟩
  stop := fun H s => by
    show z.cps.size ≤ (signs z).length
    unfold signs
    simp
theorem di_seq {tg l : Expr} {d : DT} (h : DE X l d) : DI X tg l (dSeq' d) := .mk' (pi_seq h.pe) (fun g ro f st H Hs R Q' A hq hd =>
  h.sn g ro f st H Hs _ _ A (fun x f1 v H1 Hs1 s1 k1 r1 q1 => by
    cases x <;> try exact q1.elim
    · exact .inr ⟨_, r1, hq _ f1 _ H1 Hs1 s1 k1 walks_str q1⟩
    · obtain ⟨a, vs, rfl, h1, h2⟩ := r1
      exact .inl ⟨a, rfl, .inr ⟨⟨vs, SqT.of (s1.sub _ _ h1)⟩, hq _ f1 _ H1 Hs1 s1 k1 (walks_tup (SqT.of h1) h2) q1⟩⟩
    · obtain ⟨a, vs, rfl, h1, h2⟩ := r1
      exact .inl ⟨a, rfl, .inl ⟨⟨vs, SqL.of (s1.sub _ _ h1)⟩, hq _ f1 _ H1 Hs1 s1 k1 (walks_list h1 h2) q1⟩⟩) hd)
def intsD (lo : Int) (n : Nat) : List D := (List.range n).map fun (i : Nat) => D.int (lo + (i : Int))
theorem walks_range {Hb : Hp} {lo : Int} {n : Nat} : Walks K (Itr lo n) Hb (intsD lo n) where
  go := fun i d H Hs s1 s2 e => by
    unfold intsD at e
    rw [List.getElem?_map] at e
    by_cases hl : i < n
    · rw [List.getElem?_range hl] at e
      cases e
      refine ⟨hl, ?_⟩
      rintro x H' ⟨rfl, rfl⟩
      exact ⟨Hs, Stp.refl s2, rfl⟩
    · rw [List.getElem?_eq_none (by simpa using hl)] at e
      cases e
  stop := fun H s => by
    show n ≤ (intsD lo n).length
    unfold intsD
    simp
def dRng1 (t : DTA) : DTA := fun g r f Q => t g r f fun ds f1 => match ds with
  | [.int j] => -(2 ^ 62) ≤ j ∧ j < 2 ^ 62 ∧ Q (intsD 0 j.toNat) f1
  | _ => False
theorem di_range1 {tg a : Expr} {d : DTA} {p pos : Pos} (hm : X.mg "range" = none) (ha : DA X [a] d) (hg : Gl X "range" := by rfl) (hs : starEach [a] X.env = [(false, eval a X.env)] := by rfl) : DI X tg (.Call (.Name "range" p) [a] [] pos) (dRng1 d) :=
  .mk' (pi_range1 hg hm ha.pa hs) (fun g ro f st H Hs R Q' A hq hd =>
    ha.sn g ro f st H Hs _ _ A (fun ds f1 vs H1 Hs1 s1 k1 r1 q1 => by
      split at q1
      · obtain ⟨v, rfl, h⟩ := rpA1 r1
        cases h
        exact ⟨_, rfl, q1.1, q1.2.1, hq _ f1 _ H1 Hs1 s1 k1 walks_range q1.2.2⟩
      · exact q1.elim) hd)
def dRng2 (t : DTA) : DTA := fun g r f Q => t g r f fun ds f1 => match ds with
  | [.int i, .int j] => (-(2 ^ 62) ≤ i ∧ i < 2 ^ 62 ∧ -(2 ^ 62) ≤ j ∧ j < 2 ^ 62) ∧ Q (intsD i (j - i).toNat) f1
  | _ => False
theorem di_range2 {tg a b : Expr} {d : DTA} {p pos : Pos} (hm : X.mg "range" = none) (ha : DA X [a, b] d) (hg : Gl X "range" := by rfl) (hs : starEach [a, b] X.env = [(false, eval a X.env), (false, eval b X.env)] := by rfl) (hs2 : starEach [b] X.env = [(false, eval b X.env)] := by rfl) : DI X tg (.Call (.Name "range" p) [a, b] [] pos) (dRng2 d) :=
  .mk' (pi_range2 hg hm ha.pa hs hs2) (fun g ro f st H Hs R Q' A hq hd =>
    ha.sn g ro f st H Hs _ _ A (fun ds f1 vs H1 Hs1 s1 k1 r1 q1 => by
      split at q1
      · obtain ⟨v, w, rfl, h, h'⟩ := rpA2 r1
        cases h
        cases h'
        exact ⟨_, _, rfl, q1.1, hq _ f1 _ H1 Hs1 s1 k1 walks_range q1.2⟩
      · exact q1.elim) hd)
end
end DL

namespace DL
open PySem PySem.Spec PyProof.Rows L2

/-! targets -/
abbrev TgF := D → Option (List (Nat × D))
def setsR (r : Sg) : List (Nat × D) → Sg
  | [] => r
  | (i, d) :: l => setsR (r.set i (.sh d)) l
def setsV (st : L2.St) : List Nat → List V → L2.St
  | i :: is, v :: vs => setsV (st.set i (some v)) is vs
  | _, _ => st
section
variable {X : Cx} {K : PySem.W.Frag}
theorem SlOk.sets {Hs : Hp} : ∀ {l : List (Nat × D)} {vs : List V} {r : Sg} {st : L2.St}, SlOk K Hs r st → RpA K Hs (l.map (·.2)) vs → SlOk K Hs (setsR r l) (setsV st (l.map (·.1)) vs)
  | [], _, _, _, h, _ => by
    have e : ∀ (st : L2.St) (vs : List V), setsV st [] vs = st := fun st vs => by cases vs <;> rfl
    show SlOk K Hs _ (setsV _ [] _)
    rw [e]
    exact h
  | (i, d) :: l, _, r, st, h, ⟨v, vr, h1, h2, h3⟩ => by
    subst h1
    show SlOk K Hs (setsR (r.set i (.sh d)) l) (setsV (st.set i (some v)) (l.map (·.1)) vr)
    exact SlOk.sets (SlOk.set h i h2) h3
theorem wipe_set {st : L2.St} {i : Nat} {x : Option V} : ∀ {vs : List Nat}, i ∈ vs → wipe (st.set i x) vs = wipe st vs
  | v :: vs, h => by
    unfold wipe
    by_cases e : i ∈ vs
    · rw [wipe_set e]
    · have hv : i = v := by
        rcases List.mem_cons.mp h with h | h
        · exact h
        · exact absurd h e
      subst hv
      have : ∀ (vs : List Nat), i ∉ vs → wipe (st.set i x) vs = (wipe st vs).set i x := by
        intro vs
        induction vs with
        | nil => intro _; rfl
        | cons w ws ih =>
          intro hn
          have h1 : i ≠ w := fun e => hn (by simp [e])
          have h2 : i ∉ ws := fun e => hn (by simp [e])
          unfold wipe
          rw [ih h2, List.set_comm _ _ h1]
      rw [this vs e, List.set_set]
theorem wipe_sets {ws : List Nat} : ∀ {is : List Nat} {vs : List V} {st : L2.St}, (∀ i ∈ is, i ∈ ws) → wipe (setsV st is vs) ws = wipe st ws
  | [], _, _, _ => by unfold setsV; rfl
  | _ :: _, [], _, _ => by unfold setsV; rfl
  | i :: is, v :: vs, st, h => by
    unfold setsV
    rw [wipe_sets (fun j hj => h j (by simp [hj])), wipe_set (h i (by simp))]
theorem wipe_idem {st : L2.St} : ∀ {vs : List Nat} (ws : List Nat), (∀ i ∈ vs, i ∈ ws) → L2.wipe (L2.wipe st vs) ws = L2.wipe st ws
  | [], _, _ => rfl
  | v :: vs, ws, h => by
    show L2.wipe ((L2.wipe st vs).set v none) ws = _
    rw [wipe_set (h v (by simp)), wipe_idem ws fun i hi => h i (by simp [hi])]
theorem wipe_wipe_sets {vs is : List Nat} {us : List V} {st : L2.St} (h : ∀ i ∈ is, i ∈ vs) : L2.wipe (setsV (L2.wipe st vs) is us) vs = L2.wipe st vs := by
  rw [wipe_sets h, wipe_idem vs fun _ h => h]
def SndG (K : PySem.W.Frag) (is : List Nat) (g : TG) (t : TgF) : Prop := (∀ d l, t d = some l → l.map (·.1) = is) ∧ ∀ (H Hs : Hp) (st : L2.St) (d : D) (v : V) (Q : L2.St → Hp → Prop) (l : List (Nat × D)), Same Hs H → Rp K Hs d v → t d = some l →
  (∀ vs, RpA K Hs (l.map (·.2)) vs → Q (setsV st is vs) H) → g v st H Q
def gOf (K : PySem.W.Frag) (is : List Nat) (t : TgF) : TG := fun v st H Q => ∃ Hs d l, Same Hs H ∧ Rp K Hs d v ∧ t d = some l ∧ ∀ vs, RpA K Hs (l.map (·.2)) vs → Q (setsV st is vs) H
structure DG (X : Cx) (tg : Expr) (is : List Nat) (t : TgF) : Prop where
  pg : PG X tg (gOf X.K is t)
  ix : ∀ d l, t d = some l → l.map (·.1) = is
theorem DG.sn {tg : Expr} {is : List Nat} {t : TgF} (h : DG X tg is t) : SndG X.K is (gOf X.K is t) t := ⟨h.ix, fun H Hs st d v Q l s hr e hq => ⟨Hs, d, l, s, hr, e, hq⟩⟩
theorem DG.mk' {tg : Expr} {is : List Nat} {g : TG} {t : TgF} (p : PG X tg g) (s : SndG X.K is g t) : DG X tg is t := ⟨⟨fun pins sh st H v u Q I r ⟨Hs, d, l, h1, h2, h3, h4⟩ => p.run pins sh st H v u Q I r (s.2 H Hs st d v Q l h1 h2 h3 h4)⟩, s.1⟩
def tgN (i : Nat) : TgF := fun d => some [(i, d)]
theorem sg_name (i : Nat) : SndG K [i] (gName i) (tgN i) := ⟨fun d l e => by cases e; rfl, fun H Hs st d v Q l s rx e h => by
  cases e
  exact h [v] (RpA.one rx)⟩
theorem dg_name {i : Nat} {x : Str} {pos : Pos} (hN : X.N.Nodup) (hi : X.N[i]? = some x := by rfl) (hx : Loc X.env.scope x := by first | exact Or.inl rfl | exact Or.inr rfl) (hf : X.fn x = true ∨ X.env.scope.names.lookup x = some .local := by first | exact .inl rfl | exact .inr rfl | assumption) : DG X (.Name x pos) [i] (tgN i) := .mk' (pg_name hN hi hx hf) (sg_name i)
def tgT : List TgF → List D → Option (List (Nat × D))
  | [], [] => some []
  | t :: ts, d :: ds => (t d).bind fun l => (tgT ts ds).map fun m => l ++ m
  | _, _ => none
def tgTup (ts : List TgF) : TgF := fun d => match d with
  | .tup ds => tgT ts ds
  | _ => none
def SndGs (K : PySem.W.Frag) (is : List Nat) (g : TGs) (ts : List TgF) : Prop := (∀ ds l, tgT ts ds = some l → l.map (·.1) = is) ∧ ∀ (H Hs : Hp) (st : L2.St) (ds : List D) (vs : List V) (Q : L2.St → Hp → Prop) (l : List (Nat × D)), Same Hs H → RpA K Hs ds vs → tgT ts ds = some l →
  (∀ ws, RpA K Hs (l.map (·.2)) ws → Q (setsV st is ws) H) → g vs st H Q
def gOfs (K : PySem.W.Frag) (is : List Nat) (ts : List TgF) : TGs := fun vs st H Q => ∃ Hs ds l, Same Hs H ∧ RpA K Hs ds vs ∧ tgT ts ds = some l ∧ ∀ ws, RpA K Hs (l.map (·.2)) ws → Q (setsV st is ws) H
structure DGs (X : Cx) (tgs : List Expr) (is : List Nat) (ts : List TgF) : Prop where
  pg : PGs X tgs (gOfs X.K is ts)
  ix : ∀ ds l, tgT ts ds = some l → l.map (·.1) = is
theorem DGs.sn {tgs : List Expr} {is : List Nat} {ts : List TgF} (h : DGs X tgs is ts) : SndGs X.K is (gOfs X.K is ts) ts := ⟨h.ix, fun H Hs st ds vs Q l s hr e hq => ⟨Hs, ds, l, s, hr, e, hq⟩⟩
theorem DGs.mk' {tgs : List Expr} {is : List Nat} {g : TGs} {ts : List TgF} (p : PGs X tgs g) (s : SndGs X.K is g ts) : DGs X tgs is ts := ⟨⟨fun pins sh st H vs us Q I r ⟨Hs, ds, l, h1, h2, h3, h4⟩ => p.run pins sh st H vs us Q I r (s.2 H Hs st ds vs Q l h1 h2 h3 h4)⟩, s.1⟩
theorem setsV_append : ∀ (is js : List Nat) (vs ws : List V) (st : L2.St), is.length = vs.length → setsV st (is ++ js) (vs ++ ws) = setsV (setsV st is vs) js ws
  | [], js, vs, ws, st, h => by cases vs with
    | nil => rfl
    | cons v r => simp at h
  | i :: is, js, [], ws, st, h => by simp at h
  | i :: is, js, v :: vs, ws, st, h => by
    show setsV (st.set i (some v)) (is ++ js) (vs ++ ws) = _
    rw [setsV_append is js vs ws _ (by simpa using h)]
    rfl
theorem RpA.split {H : Hp} : ∀ {a b : List D} {vs : List V}, RpA K H (a ++ b) vs → ∃ p q, vs = p ++ q ∧ RpA K H a p ∧ RpA K H b q
  | [], _, vs, h => ⟨[], vs, rfl, rfl, h⟩
  | d :: a, b, _, ⟨v, r, h1, h2, h3⟩ => by
    subst h1
    obtain ⟨p, q, rfl, h4, h5⟩ := RpA.split h3
    exact ⟨v :: p, q, rfl, ⟨v, p, rfl, h2, h4⟩, h5⟩
theorem sgs_nil : SndGs K [] gNil [] := by
  refine ⟨fun ds l e => ?_, fun H Hs st ds vs Q l s rx e h => ?_⟩
  · cases ds with
    | nil => cases e; rfl
    | cons _ _ => cases e
  · cases ds with
    | nil => cases e; cases rx; exact ⟨rfl, h [] rfl⟩
    | cons _ _ => cases e
theorem sgs_cons {is js : List Nat} {g : TG} {u : TGs} {t : TgF} {ts : List TgF} (h1 : SndG K is g t) (h2 : SndGs K js u ts) : SndGs K (is ++ js) (gCons g u) (t :: ts) := by
  refine ⟨fun ds l e => ?_, fun H Hs st ds vs Q l s rx e h => ?_⟩
  · cases ds with
    | nil => cases e
    | cons d ds =>
      simp only [tgT] at e
      cases e1 : t d with
      | none => rw [e1] at e; cases e
      | some l1 =>
        rw [e1] at e
        cases e2 : tgT ts ds with
        | none => rw [e2] at e; cases e
        | some l2 =>
          rw [e2] at e
          cases e
          rw [List.map_append, h1.1 d l1 e1, h2.1 ds l2 e2]
  · cases ds with
    | nil => cases e
    | cons d ds =>
      simp only [tgT] at e
      cases e1 : t d with
      | none => rw [e1] at e; cases e
      | some l1 =>
        rw [e1] at e
        cases e2 : tgT ts ds with
        | none => rw [e2] at e; cases e
        | some l2 =>
          rw [e2] at e
          cases e
          obtain ⟨v, r, rfl, q1, q2⟩ := rx
          refine ⟨v, r, rfl, h1.2 H Hs st d v _ l1 s q1 e1 fun ws1 hw1 => h2.2 H Hs _ ds r Q l2 s q2 e2 fun ws2 hw2 => ?_⟩
          have hh := h (ws1 ++ ws2) (by rw [List.map_append]; exact hw1.append hw2)
          rw [setsV_append _ _ _ _ _ (by rw [← h1.1 d l1 e1, ← hw1.length]; simp)] at hh
          exact hh
theorem sg_tup {is : List Nat} {g : TGs} {ts : List TgF} {n : Nat} (h : SndGs K is g ts) (hn : ∀ ds l, tgT ts ds = some l → ds.length = n) : SndG K is (gTup K n g) (tgTup ts) := ⟨fun d l e => by
    cases d <;> first | (cases e; done) | exact h.1 _ l e, fun H Hs st d v Q l s rx e q => by
  cases d <;> try (cases e; done)
  obtain ⟨a, vs, rfl, h1, h2⟩ := rx
  exact ⟨a, vs, rfl, SqT.of (s _ _ h1), by rw [← h2.length]; exact hn _ l e, h.2 H Hs st _ vs Q l s h2 e q⟩⟩
theorem tgT_len : ∀ {ts : List TgF} {ds : List D} {l : List (Nat × D)}, tgT ts ds = some l → ds.length = ts.length
  | [], [], _, _ => rfl
  | [], _ :: _, _, e => by cases e
  | _ :: _, [], _, e => by cases e
  | t :: ts, d :: ds, l, e => by
    simp only [tgT] at e
    cases e1 : t d with
    | none => rw [e1] at e; cases e
    | some l1 =>
      rw [e1] at e
      cases e2 : tgT ts ds with
      | none => rw [e2] at e; cases e
      | some l2 => simp [tgT_len e2]
theorem dgs_nil : DGs X [] [] [] := .mk' (pgs_nil) (sgs_nil)
theorem dgs_cons {e : Expr} {es : List Expr} {is js : List Nat} {t : TgF} {ts : List TgF} (h1 : DG X e is t) (h2 : DGs X es js ts)
    (hs : (assignEach (e :: es) X.env).map (·.2) = assign e X.env :: (assignEach es X.env).map (·.2) := by rfl) : DGs X (e :: es) (is ++ js) (t :: ts) := .mk' (pgs_cons h1.pg h2.pg hs) (sgs_cons h1.sn h2.sn)
theorem dg_tup {es : List Expr} {k n : Nat} {pos : Pos} {is : List Nat} {ts : List TgF} (hc : X.calm = true) (h : DGs X es is ts) (hn : (assignEach es X.env).length = n := by rfl) (hst : (assignEach es X.env).findIdx? (·.1) = none := by rfl) (hl : ts.length = n := by rfl) :
    DG X (.Tuple es k pos) is (tgTup ts) := .mk' (pg_tup hc h.pg hn hst) (sg_tup h.sn fun ds l e => by rw [tgT_len e, hl])

/-! comprehensions -/
def wipeR (r : Sg) : List Nat → Sg
  | [] => r
  | v :: vs => (wipeR r vs).set v .no
theorem wipeR_len (r : Sg) : ∀ vs : List Nat, (wipeR r vs).length = r.length
  | [] => rfl
  | v :: vs => by unfold wipeR; rw [List.length_set, wipeR_len r vs]
theorem SlOk.wipe {Hs : Hp} {r : Sg} {st : L2.St} (h : SlOk K Hs r st) : ∀ vs : List Nat, SlOk K Hs (wipeR r vs) (L2.wipe st vs)
  | [] => h
  | v :: vs => by
    have ih := SlOk.wipe h vs
    refine ⟨by unfold wipeR L2.wipe; simp [ih.len], fun i s d h1 h2 => ?_⟩
    unfold wipeR at h1
    unfold L2.wipe
    by_cases e : v = i
    · subst e
      by_cases hl : v < (wipeR r vs).length
      · rw [List.getElem?_set_self hl] at h1
        cases h1
        cases h2
      · rw [List.getElem?_eq_none (by simpa using hl)] at h1
        cases h1
    · rw [List.getElem?_set_ne e] at h1
      rw [List.getElem?_set_ne e]
      exact ih.get i s d h1 h2
def dLcGo (g : Option Dk) (t : TgF) (c : DTT) (e : DT) (r : Sg) : List D → List D → Nat → (List D → Nat → Prop) → Prop
  | [], acc, f, Q => Q acc f
  | d :: ds, acc, f, Q => match t d with
    | none => False
    | some l => c g (setsR r l) f fun b f1 => if b = true then e g (setsR r l) f1 fun y f2 => dLcGo g t c e r ds (acc ++ [y]) f2 Q else dLcGo g t c e r ds acc f1 Q
def dLc (i : DTA) (t : TgF) (c : DTT) (e : DT) (vs : List Nat) : DTA := fun g r f Q => i g r f fun ds f1 => ds.length ≤ lim ∧ dLcGo g t c e (wipeR r vs) ds [] f1 Q
structure DTs (X : Cx) (ifs : List Expr) (d : DTT) : Prop where
  pt : PTs X ifs (tOfT X.K d)
theorem DTs.sn {ifs : List Expr} {dl : DTT} (_ : DTs X ifs dl) : SndT X.K (tOfT X.K dl) dl := fun g r f st H Hs Q Q' a hq hd => ⟨g, r, f, Hs, Q', a, hq, hd⟩
theorem DTs.mk' {ifs : List Expr} {t : TT} {dl : DTT} (p : PTs X ifs t) (s : SndT X.K t dl) : DTs X ifs dl := ⟨⟨fun pins sh st H Q I ⟨g, r, f, Hs, Q', a, hq, hd⟩ => p.run pins sh st H Q I (s g r f st H Hs Q Q' a hq hd)⟩⟩
def dYes : DTT := fun _ _ f Q => Q true f
theorem dts_nil : DTs X [] dYes := .mk' (pts_nil) (fun g r f st H Hs Q Q' A hq hd => hq true f H Hs (Stp.refl A.sub) A.dk hd)
theorem dts_one {c : Expr} {d : DTT} (h : DP X c d) : DTs X [c] d := .mk' (pts_one h.pt) (h.sn)
theorem snd_lc {wi : TI} {gt : TG} {tt : TT} {te : TE} {vs is : List Nat} {i : DTA} {t : TgF} {c : DTT} {e : DT} (hi : SndI K wi i) (hg : SndG K is gt t) (hc : SndT K tt c) (he : Snd K te e) (hs : ∀ j ∈ is, j ∈ vs) : SndL K (tLc wi gt tt te vs) (dLc i t c e vs) := by
  intro g r f st H Hs Q Q' A hq hd
  refine hi g r f st H Hs _ _ A (fun ds f1 J H1 Hs1 s1 k1 wk q1 => ?_) hd
  intro D hD
  have hDs : Hs1 D = none := same_none s1.sub hD
  have hDk : ¬ Dk.has g D := k1.out hD
  refine ⟨fun i m H2 => m = ds.length - i ∧ i ≤ ds.length ∧ ∃ f2 Hs2 acc ws, Stp g H1 Hs1 H2 Hs2 ∧ DkOk g H2 Hs2 f2 ∧ Hs2 D = none ∧ H2 D = some (.lst ws) ∧ RpA K Hs2 acc ws ∧ acc.length ≤ i ∧ dLcGo g t c e (wipeR r vs) (ds.drop i) acc f2 Q', ⟨ds.length, rfl, Nat.zero_le _, f1, Hs1, [], [], ?_, ?_, hDs, upd_same, rfl, Nat.le_refl _, q1.2⟩, ?_⟩
  · exact (Stp.lay s1.sub hD : Stp none H1 Hs1 (upd H1 D (.lst [])) Hs1).gen
  · exact k1.mut hDk
  rintro i m H2 ⟨rfl, hil, f2, Hs2, acc, ws, s2, k2, n2, e2, r2, l2, q2⟩
  by_cases hlt : i < ds.length
  · have hgd : ds[i]? = some ds[i] := List.getElem?_eq_getElem hlt
    have hdr : ds.drop i = ds[i] :: ds.drop (i + 1) := List.drop_eq_getElem_cons hlt
    rw [hdr] at q2
    obtain ⟨hgo, hy⟩ := wk.go i _ H2 Hs2 s2.ext s2.sub hgd
    refine .inr ⟨hgo, fun H3 => i + 1 ≤ ds.length ∧ ∃ f2 Hs2 acc ws, Stp g H1 Hs1 H3 Hs2 ∧ DkOk g H3 Hs2 f2 ∧ Hs2 D = none ∧ H3 D = some (.lst ws) ∧ RpA K Hs2 acc ws ∧ acc.length ≤ i + 1 ∧ dLcGo g t c e (wipeR r vs) (ds.drop (i + 1)) acc f2 Q', fun H3 h3 => ⟨_, by omega, rfl, h3⟩, fun x H3 hx => ?_⟩
    obtain ⟨Hs3, s3, r3⟩ := hy x H3 hx
    simp only [dLcGo] at q2
    cases et : t ds[i] with
    | none => rw [et] at q2; exact q2.elim
    | some l =>
      rw [et] at q2
      replace q2 : c g (setsR (wipeR r vs) l) f2 fun b f1 => if b = true then e g (setsR (wipeR r vs) l) f1 fun y f2 => dLcGo g t c e (wipeR r vs) (ds.drop (i + 1)) (acc ++ [y]) f2 Q' else dLcGo g t c e (wipeR r vs) (ds.drop (i + 1)) acc f1 Q' := q2
      have sl0 : SlOk K Hs3 (wipeR r vs) (L2.wipe st vs) := (((A.sl.mono s1.ext).mono s2.ext).mono s3.ext).wipe vs
      refine hg.2 H3 Hs3 _ _ x _ l s3.sub r3 et fun us hus => ⟨wipe_wipe_sets hs, ?_⟩
      have A3 : At K g (setsR (wipeR r vs) l) f2 (setsV (L2.wipe st vs) is us) H3 Hs3 := ⟨s3.sub, k2.stp s3, by
        have := SlOk.sets sl0 hus
        rw [hg.1 _ l et] at this
        exact this⟩
      refine hc g _ f2 _ H3 Hs3 _ _ A3 (fun b f4 H4 Hs4 s4 k4 q4 => ?_) q2
      have t4 : Stp g H1 Hs1 H4 Hs4 := (s2.trans s3.gen).trans s4
      have keepD : ∀ {H5 Hs5 : Hp}, Stp g H1 Hs1 H5 Hs5 → True := fun _ => trivial
      have n3 : Hs3 D = none := s3.new D _ e2 n2
      have e3 : H3 D = some (.lst ws) := s3.keep D _ e2 id
      have n4 : Hs4 D = none := s4.new D _ e3 n3
      have e4 : H4 D = some (.lst ws) := s4.keep D _ e3 hDk
      cases b with
      | false =>
        rw [if_neg Bool.false_ne_true]
        exact ⟨hlt, f4, Hs4, acc, ws, t4, k4, n4, e4, (r2.mono s3.ext).mono s4.ext, by omega, q4⟩
      | true =>
        rw [if_pos rfl]
        refine he g _ f4 _ H4 Hs4 _ _ (A3.step s4 k4) (fun y f5 v H5 Hs5 s5 k5 r5 q5 => ?_) q4
        have n5 : Hs5 D = none := s5.new D _ e4 n4
        have e5 : H5 D = some (.lst ws) := s5.keep D _ e4 hDk
        have r5' : RpA K Hs5 acc ws := ((r2.mono s3.ext).mono s4.ext).mono s5.ext
        refine ⟨ws, e5, ?_, hlt, f5, Hs5, acc ++ [y], ws ++ [v], (t4.trans s5).mut hD n5, k5.mut hDk, n5, upd_same, r5'.append (RpA.one r5), by simp; omega, q5⟩
        rw [← r5'.length]
        have := q1.1
        exact lim_lt (by omega)
  · have ei : i = ds.length := by omega
    subst ei
    rw [List.drop_length] at q2
    refine .inl ⟨wk.stop H2 (fun a o h => s2.sub a o (s2.ext a o h)), ?_⟩
    exact hq acc f2 D ws H2 Hs2 (s1.trans s2) k2 (none_back s1 hD) n2 e2 r2 q2
theorem dl_lc {elt tg iter : Expr} {ifs : List Expr} {scope : Scope} {own : List (Str × Nat)} {pos : Pos} {is : List Nat} {i : DTA} {t : TgF} {c : DTT} {e : DT} (hc : X.calm = true) (hN : X.N.Nodup) (hi : DI X tg iter i) (ok : BlkOk X.N X.env.scope scope own)
    (hg : ∀ (s : Shared) (H : Hp) (C : Addr) (cl : List (Str × Addr)) (fp : List Addr), DG (X.blk s H scope (compEnvC scope cl C X.env) fp) tg is t) (ht : ∀ (s : Shared) (H : Hp) (C : Addr) (cl : List (Str × Addr)) (fp : List Addr), DTs (X.blk s H scope (compEnvC scope cl C X.env) fp) ifs c)
    (he : ∀ (s : Shared) (H : Hp) (C : Addr) (cl : List (Str × Addr)) (fp : List Addr), DE (X.blk s H scope (compEnvC scope cl C X.env) fp) elt e) (hs : ∀ x, foldedSetIterable iter X.env x = pure x := by intro _; rfl) (hsub : ∀ j ∈ is, j ∈ own.map (·.2) := by decide) :
    DL' X (.ListComp elt [⟨tg, iter, ifs, 0⟩] scope pos) (dLc i t c e (own.map (·.2))) := by
  refine DL'.mk' (pe_lc (g := gOf X.K is t) (tt := tOfT X.K c) (te := tOf X.K e) hc hN hi.pi ok (fun s H C cl fp => (hg s H C cl fp).pg) (fun s H C cl fp => (ht s H C cl fp).pt) (fun s H C cl fp => (he s H C cl fp).pe) hs) ?_
  intro g r f st H Hs Q Q' A
  exact snd_lc hi.sn (hg X.s_0 H 0 [] []).sn (ht X.s_0 H 0 [] []).sn (he X.s_0 H 0 [] []).sn hsub g r f st H Hs Q Q' A
end
end DL

namespace DL
open PySem PySem.Spec PyProof.Rows L2

/-! statements: slots that own a list or a dict -/
def Sl.own : Sl → Bool
  | .ow _ => true
  | .od _ _ => true
  | _ => false
def OwAt (K : PySem.W.Frag) (H Hs : Hp) (a : Addr) : Sl → Prop
  | .ow xs => ∃ vs, H a = some (.lst vs) ∧ RpA K Hs xs vs
  | .od ks xs => ∃ vs, H a = some (.dK (ks.zip vs)) ∧ ks.length = vs.length ∧ RpA K Hs xs vs
  | _ => False
structure SIn (K : PySem.W.Frag) (g : Option Dk) (H0 Hs0 : Hp) (r : Sg) (f : Nat) (st : L2.St) (H Hs : Hp) : Prop where
  len : r.length = st.length
  dk0 : ∃ f0, DkOk g H0 Hs0 f0
  dk : DkOk g H Hs f
  stp : Stp g H0 Hs0 H Hs
  sh : ∀ (i : Nat) (d : D), r[i]? = some (.sh d) → ∃ v, st[i]? = some (some v) ∧ Rp K Hs d v
  ow : ∀ (i : Nat) (s : Sl), r[i]? = some s → s.own = true → ∃ a, st[i]? = some (some (.ref a)) ∧ Hs a = none ∧ H0 a = none ∧ OwAt K H Hs a s
  inj : ∀ (i j : Nat) (s u : Sl) (a : Addr), r[i]? = some s → r[j]? = some u → s.own = true → u.own = true → st[i]? = some (some (.ref a)) → st[j]? = some (some (.ref a)) → i = j
def SOk (K : PySem.W.Frag) (g : Option Dk) (H0 Hs0 : Hp) (r : Sg) (f : Nat) (st : L2.St) (H : Hp) : Prop := ∃ Hs, SIn K g H0 Hs0 r f st H Hs
structure DEnds where
  nx : Sg → Nat → Prop
  rt : QD
  bk : Sg → Nat → Prop := fun _ _ => False
  ct : Sg → Nat → Prop := fun _ _ => False
abbrev DTS := Option Dk → Sg → Nat → DEnds → Prop
structure EndsOk (K : PySem.W.Frag) (g : Option Dk) (H0 Hs0 : Hp) (E : DEnds) (D : Ends) : Prop where
  nx : ∀ r f st H, SOk K g H0 Hs0 r f st H → E.nx r f → D.nx st H
  rt : ∀ d f v H Hs, Stp g H0 Hs0 H Hs → DkOk g H Hs f → Rp K Hs d v → E.rt d f → D.rt v H
  bk : ∀ r f st H, SOk K g H0 Hs0 r f st H → E.bk r f → D.bk st H
  ct : ∀ r f st H, SOk K g H0 Hs0 r f st H → E.ct r f → D.ct st H
def SndS (K : PySem.W.Frag) (t : TS) (dl : DTS) : Prop := ∀ (g : Option Dk) (H0 Hs0 : Hp) (r : Sg) (f : Nat) (st : L2.St) (H : Hp) (D : Ends) (E : DEnds), SOk K g H0 Hs0 r f st H → EndsOk K g H0 Hs0 E D → dl g r f E → t D st H
def sOf (K : PySem.W.Frag) (dl : DTS) : TS := fun D st H => ∃ g H0 Hs0 r f E, SOk K g H0 Hs0 r f st H ∧ EndsOk K g H0 Hs0 E D ∧ dl g r f E
structure DS (X : Cx) (st : Stmt) (dl : DTS) : Prop where
  ps : PS X st (sOf X.K dl)
structure DSs (X : Cx) (st : List Stmt) (dl : DTS) : Prop where
  ps : PSs X st (sOf X.K dl)
theorem DS.sn {X : Cx} {st : Stmt} {dl : DTS} (_ : DS X st dl) : SndS X.K (sOf X.K dl) dl := fun g H0 Hs0 r f st H D E s e h => ⟨g, H0, Hs0, r, f, E, s, e, h⟩
theorem DSs.sn {X : Cx} {st : List Stmt} {dl : DTS} (_ : DSs X st dl) : SndS X.K (sOf X.K dl) dl := fun g H0 Hs0 r f st H D E s e h => ⟨g, H0, Hs0, r, f, E, s, e, h⟩
theorem DS.mk' {X : Cx} {st : Stmt} {t : TS} {dl : DTS} (p : PS X st t) (s : SndS X.K t dl) : DS X st dl := ⟨⟨fun pins sh st H D I ⟨g, H0, Hs0, r, f, E, h1, h2, h3⟩ => p.run pins sh st H D I (s g H0 Hs0 r f st H D E h1 h2 h3)⟩⟩
theorem DSs.mk' {X : Cx} {st : List Stmt} {t : TS} {dl : DTS} (p : PSs X st t) (s : SndS X.K t dl) : DSs X st dl := ⟨⟨fun pins sh st H D I ⟨g, H0, Hs0, r, f, E, h1, h2, h3⟩ => p.run pins sh st H D I (s g H0 Hs0 r f st H D E h1 h2 h3)⟩⟩
/-- the addresses that slots own -/
def Owned (r : Sg) (st : L2.St) (a : Addr) : Prop := ∃ (i : Nat) (s : Sl), r[i]? = some s ∧ s.own = true ∧ st[i]? = some (some (.ref a))
open Classical in
noncomputable def plus (r : Sg) (st : L2.St) (H Hs : Hp) : Hp := fun a => if Owned r st a then H a else Hs a
open Classical in
noncomputable def minus (r : Sg) (st : L2.St) (Hs : Hp) : Hp := fun a => if Owned r st a then none else Hs a
section
variable {X : Cx} {K : PySem.W.Frag} {g : Option Dk} {H0 Hs0 : Hp} {r : Sg} {f f' : Nat} {st : L2.St} {H Hs H' Hs' : Hp}
theorem plus_in {a : Addr} (h : Owned r st a) : plus r st H Hs a = H a := if_pos h
theorem plus_out {a : Addr} (h : ¬ Owned r st a) : plus r st H Hs a = Hs a := if_neg h
theorem minus_in {a : Addr} (h : Owned r st a) : minus r st Hs a = none := if_pos h
theorem minus_out {a : Addr} (h : ¬ Owned r st a) : minus r st Hs a = Hs a := if_neg h
theorem SIn.owned (s : SIn K g H0 Hs0 r f st H Hs) {a : Addr} (h : Owned r st a) : Hs a = none ∧ H0 a = none ∧ ∃ sl, sl.own = true ∧ OwAt K H Hs a sl := by
  obtain ⟨i, sl, h1, h2, h3⟩ := h
  obtain ⟨b, e, h4, h5, h6⟩ := s.ow i sl h1 h2
  rw [h3] at e
  cases e
  exact ⟨h4, h5, sl, h2, h6⟩
theorem OwAt.ld {a : Addr} {sl : Sl} (h : OwAt K H Hs a sl) : ∃ o, H a = some o ∧ isLD o = true := by
  cases sl with
  | ow xs => obtain ⟨vs, h1, _⟩ := h; exact ⟨_, h1, rfl⟩
  | od ks xs => obtain ⟨vs, h1, _⟩ := h; exact ⟨_, h1, rfl⟩
  | _ => exact h.elim
theorem SIn.plusSub (s : SIn K g H0 Hs0 r f st H Hs) : Same (plus r st H Hs) H := fun a o h => by
  by_cases e : Owned r st a
  · rw [plus_in e] at h; exact h
  · rw [plus_out e] at h; exact s.stp.sub a o h
theorem SIn.plusExt (s : SIn K g H0 Hs0 r f st H Hs) : Same Hs (plus r st H Hs) := fun a o h => by
  by_cases e : Owned r st a
  · rw [(s.owned e).1] at h; cases h
  · rw [plus_out e]; exact h
theorem SIn.notDk (s : SIn K g H0 Hs0 r f st H Hs) {a : Addr} (h : Owned r st a) : ¬ Dk.has g a := by
  obtain ⟨f0, k⟩ := s.dk0
  exact k.out (s.owned h).2.1
theorem SIn.plusDk (s : SIn K g H0 Hs0 r f st H Hs) : DkOk g H (plus r st H Hs) f := by
  have k := s.dk
  cases g with
  | none => trivial
  | some d =>
    obtain ⟨k0, n1, n2, n3⟩ := k
    refine ⟨k0, ?_, ?_, ?_⟩
    · rw [plus_out fun e => s.notDk e (.inl rfl)]; exact n1
    · rw [plus_out fun e => s.notDk e (.inr (.inl rfl))]; exact n2
    · rw [plus_out fun e => s.notDk e (.inr (.inr rfl))]; exact n3
/-- the state with all slots to be read -/
theorem SIn.at (s : SIn K g H0 Hs0 r f st H Hs) : At K g r f st H (plus r st H Hs) := ⟨s.plusSub, s.plusDk, s.len, fun i sl d h1 h2 => by
  cases sl with
  | no => cases h2
  | sh e =>
    cases h2
    obtain ⟨v, h3, h4⟩ := s.sh i _ h1
    exact ⟨v, h3, h4.mono s.plusExt⟩
  | ow xs =>
    cases h2
    obtain ⟨a, h3, h4, h5, vs, h6, h7⟩ := s.ow i _ h1 rfl
    exact ⟨.ref a, h3, a, vs, rfl, by rw [plus_in ⟨i, _, h1, rfl, h3⟩]; exact h6, h7.mono s.plusExt⟩
  | od ks xs =>
    cases h2
    obtain ⟨a, h3, h4, h5, vs, h6, h7, h8⟩ := s.ow i _ h1 rfl
    exact ⟨.ref a, h3, a, vs, rfl, by rw [plus_in ⟨i, _, h1, rfl, h3⟩]; exact h6, h7, h8.mono s.plusExt⟩⟩
/-- the slots that own are hidden -/
def hide (r : Sg) : Sg := r.map fun s => if s.own then .no else s
theorem hide_get {i : Nat} : (hide r)[i]? = (r[i]?).map fun s => if s.own then .no else s := by unfold hide; rw [List.getElem?_map]
theorem SIn.atHid (s : SIn K g H0 Hs0 r f st H Hs) : At K g (hide r) f st H Hs := ⟨s.stp.sub, s.dk, by unfold hide; rw [List.length_map]; exact s.len, fun i sl d h1 h2 => by
  rw [hide_get] at h1
  cases e : r[i]? with
  | none => rw [e] at h1; cases h1
  | some u =>
    rw [e] at h1
    cases u with
    | no => cases h1; cases h2
    | sh d' => cases h1; cases h2; exact s.sh i _ e
    | ow xs => cases h1; cases h2
    | od ks xs => cases h1; cases h2⟩
/-- behind an expression: the shared part without what slots own -/
theorem SIn.after (s : SIn K g H0 Hs0 r f st H Hs) (p : Stp g H (plus r st H Hs) H' Hs') (k : DkOk g H' Hs' f') : SIn K g H0 Hs0 r f' st H' (minus r st Hs') := by
  have ext : Same Hs (minus r st Hs') := fun a o h => by
    have no : ¬ Owned r st a := fun e => by rw [(s.owned e).1] at h; cases h
    rw [minus_out no]
    exact p.ext a o (s.plusExt a o h)
  have keepO : ∀ a, Owned r st a → H' a = H a := fun a e => by
    obtain ⟨_, _, sl, _, q⟩ := s.owned e
    obtain ⟨o, ho, _⟩ := q.ld
    rw [ho]
    exact p.keep a o ho (s.notDk e)
  refine ⟨s.len, s.dk0, ?_, ⟨?_, s.stp.ext.trans ext, fun a o h n => p.keep a o (s.stp.keep a o h n) n, fun a o h => ?_, fun a o h n => ?_⟩, fun i d h => ?_, fun i sl h1 h2 => ?_, s.inj⟩
  · cases g with
    | none => trivial
    | some d =>
      obtain ⟨k0, n1, n2, n3⟩ := k
      refine ⟨k0, ?_, ?_, ?_⟩
      · rw [minus_out fun e => s.notDk e (.inl rfl)]; exact n1
      · rw [minus_out fun e => s.notDk e (.inr (.inl rfl))]; exact n2
      · rw [minus_out fun e => s.notDk e (.inr (.inr rfl))]; exact n3
  · intro a o h
    by_cases e : Owned r st a
    · rw [minus_in e] at h; cases h
    · rw [minus_out e] at h; exact p.sub a o h
  · obtain ⟨o', h'⟩ := s.stp.there a o h
    exact p.there a o' h'
  · by_cases e : Owned r st a
    · exact minus_in e
    · rw [minus_out e]
      obtain ⟨o', h'⟩ := s.stp.there a o h
      refine p.new a o' h' ?_
      rw [plus_out e]
      exact s.stp.new a o h n
  · obtain ⟨v, h3, h4⟩ := s.sh i d h
    exact ⟨v, h3, h4.mono ext⟩
  · obtain ⟨a, h3, h4, h5, h6⟩ := s.ow i sl h1 h2
    have e : Owned r st a := ⟨i, sl, h1, h2, h3⟩
    refine ⟨a, h3, minus_in e, h5, ?_⟩
    cases sl with
    | ow xs => obtain ⟨vs, q1, q2⟩ := h6; exact ⟨vs, by rw [keepO a e]; exact q1, q2.mono ext⟩
    | od ks xs => obtain ⟨vs, q1, q2, q3⟩ := h6; exact ⟨vs, by rw [keepO a e]; exact q1, q2, q3.mono ext⟩
    | _ => exact h6.elim
theorem SIn.afterHid (s : SIn K g H0 Hs0 r f st H Hs) (p : Stp g H Hs H' Hs') (k : DkOk g H' Hs' f') : SIn K g H0 Hs0 r f' st H' Hs' := by
  have keepO : ∀ a, Owned r st a → H' a = H a := fun a e => by
    obtain ⟨_, _, sl, _, q⟩ := s.owned e
    obtain ⟨o, ho, _⟩ := q.ld
    rw [ho]
    exact p.keep a o ho (s.notDk e)
  refine ⟨s.len, s.dk0, k, s.stp.trans p, fun i d h => ?_, fun i sl h1 h2 => ?_, s.inj⟩
  · obtain ⟨v, h3, h4⟩ := s.sh i d h
    exact ⟨v, h3, h4.mono p.ext⟩
  · obtain ⟨a, h3, h4, h5, h6⟩ := s.ow i sl h1 h2
    have e : Owned r st a := ⟨i, sl, h1, h2, h3⟩
    obtain ⟨o, ho, _⟩ := h6.ld
    refine ⟨a, h3, p.new a o ho h4, h5, ?_⟩
    cases sl with
    | ow xs => obtain ⟨vs, q1, q2⟩ := h6; exact ⟨vs, by rw [keepO a e]; exact q1, q2.mono p.ext⟩
    | od ks xs => obtain ⟨vs, q1, q2, q3⟩ := h6; exact ⟨vs, by rw [keepO a e]; exact q1, q2, q3.mono p.ext⟩
    | _ => exact h6.elim
theorem SIn.flatV (s : SIn K g H0 Hs0 r f st H Hs) (p : Stp g H (plus r st H Hs) H' Hs') {d : D} {v : V} (fl : d.flat = true) (h : Rp K Hs' d v) : Rp K (minus r st Hs') d v :=
  h.flat (fun a o e l => by
    by_cases q : Owned r st a
    · obtain ⟨_, _, sl, _, w⟩ := s.owned q
      obtain ⟨o', ho, ld⟩ := w.ld
      have := p.keep a o' ho (s.notDk q)
      rw [p.sub a o e] at this
      cases this
      rw [ld] at l
      cases l
    · rw [minus_out q]; exact e) d v fl
/-- a slot is stored -/
theorem SIn.set (s : SIn K g H0 Hs0 r f st H Hs) (i : Nat) {d : D} {v : V} (h : Rp K Hs d v) : SIn K g H0 Hs0 (r.set i (.sh d)) f (st.set i (some v)) H Hs := by
  have low : ∀ (j : Nat) (u : Sl), (r.set i (.sh d))[j]? = some u → (j = i ∧ u = .sh d ∧ i < r.length) ∨ (j ≠ i ∧ r[j]? = some u) := fun j u e => by
    by_cases q : i = j
    · subst q
      by_cases hl : i < r.length
      · rw [List.getElem?_set_self hl] at e
        cases e
        exact .inl ⟨rfl, rfl, hl⟩
      · rw [List.getElem?_eq_none (by simpa using hl)] at e
        cases e
    · rw [List.getElem?_set_ne q] at e
      exact .inr ⟨fun z => q z.symm, e⟩
  refine ⟨by simp [s.len], s.dk0, s.dk, s.stp, fun j e hj => ?_, fun j u hj ho => ?_, fun j l u w a hj hl ho ho' h1 h2 => ?_⟩
  · rcases low j _ hj with ⟨rfl, q, hl⟩ | ⟨hne, q⟩
    · cases q
      exact ⟨v, List.getElem?_set_self (s.len ▸ hl), h⟩
    · rw [List.getElem?_set_ne (fun z => hne z.symm)]
      exact s.sh j e q
  · rcases low j u hj with ⟨rfl, q, hl⟩ | ⟨hne, q⟩
    · subst q; cases ho
    · rw [List.getElem?_set_ne (fun z => hne z.symm)]
      exact s.ow j u q ho
  · rcases low j u hj with ⟨rfl, q, hl'⟩ | ⟨hne, q⟩
    · subst q; cases ho
    · rcases low l w hl with ⟨rfl, q', hl'⟩ | ⟨hne', q'⟩
      · subst q'; cases ho'
      · rw [List.getElem?_set_ne (fun z => hne z.symm)] at h1
        rw [List.getElem?_set_ne (fun z => hne' z.symm)] at h2
        exact s.inj j l u w a q q' ho ho' h1 h2
theorem SIn.sets : ∀ {l : List (Nat × D)} {vs : List V} {r : Sg} {st : L2.St}, SIn K g H0 Hs0 r f st H Hs → RpA K Hs (l.map (·.2)) vs → SIn K g H0 Hs0 (setsR r l) f (setsV st (l.map (·.1)) vs) H Hs
  | [], _, _, _, h, _ => by
    have e : ∀ (st : L2.St) (vs : List V), setsV st [] vs = st := fun st vs => by cases vs <;> rfl
    show SIn K g H0 Hs0 _ f (setsV _ [] _) H Hs
    rw [e]
    exact h
  | (i, d) :: l, _, r, st, h, ⟨v, vr, h1, h2, h3⟩ => by
    subst h1
    show SIn K g H0 Hs0 (setsR (r.set i (.sh d)) l) f (setsV (st.set i (some v)) (l.map (·.1)) vr) H Hs
    exact SIn.sets (SIn.set h i h2) h3
/-- an object that is new belongs to a slot -/
theorem SIn.setOwn (s : SIn K g H0 Hs0 r f st H Hs) (i : Nat) {a : Addr} {u : Sl} (hu : u.own = true) (n0 : H0 a = none) (n1 : Hs a = none) (no : ∀ j s, j ≠ i → r[j]? = some s → s.own = true → st[j]? ≠ some (some (.ref a))) (h : OwAt K H Hs a u) :
    SIn K g H0 Hs0 (r.set i u) f (st.set i (some (.ref a))) H Hs := by
  have low : ∀ (j : Nat) (w : Sl), (r.set i u)[j]? = some w → (j = i ∧ w = u ∧ i < r.length) ∨ (j ≠ i ∧ r[j]? = some w) := fun j w e => by
    by_cases q : i = j
    · subst q
      by_cases hl : i < r.length
      · rw [List.getElem?_set_self hl] at e
        cases e
        exact .inl ⟨rfl, rfl, hl⟩
      · rw [List.getElem?_eq_none (by simpa using hl)] at e
        cases e
    · rw [List.getElem?_set_ne q] at e
      exact .inr ⟨fun z => q z.symm, e⟩
  have self : ∀ {l : Nat}, l < r.length → (st.set l (some (.ref a)))[l]? = some (some (V.ref a)) := fun hl => List.getElem?_set_self (s.len ▸ hl)
  refine ⟨by simp [s.len], s.dk0, s.dk, s.stp, fun j e hj => ?_, fun j w hj ho => ?_, fun j l w w' b hj hl ho ho' h1 h2 => ?_⟩
  · rcases low j _ hj with ⟨rfl, q, hl⟩ | ⟨hne, q⟩
    · rw [← q] at hu; cases hu
    · rw [List.getElem?_set_ne (fun z => hne z.symm)]
      exact s.sh j e q
  · rcases low j w hj with ⟨rfl, q, hl⟩ | ⟨hne, q⟩
    · subst q
      exact ⟨a, self hl, n1, n0, h⟩
    · rw [List.getElem?_set_ne (fun z => hne z.symm)]
      exact s.ow j w q ho
  · rcases low j w hj with ⟨rfl, q, hl1⟩ | ⟨hne, q⟩
    · rcases low l w' hl with ⟨rfl, q', hl2⟩ | ⟨hne', q'⟩
      · rfl
      · rw [self hl1] at h1
        cases h1
        rw [List.getElem?_set_ne (fun z => hne' z.symm)] at h2
        exact absurd h2 (no l w' hne' q' ho')
    · rw [List.getElem?_set_ne (fun z => hne z.symm)] at h1
      rcases low l w' hl with ⟨rfl, q', hl2⟩ | ⟨hne', q'⟩
      · rw [self hl2] at h2
        cases h2
        exact absurd h1 (no j w hne q ho)
      · rw [List.getElem?_set_ne (fun z => hne' z.symm)] at h2
        exact s.inj j l w w' b q q' ho ho' h1 h2
/-- an owned object is changed -/
theorem SIn.mutOwn (s : SIn K g H0 Hs0 r f st H Hs) {i : Nat} {a : Addr} {w u : Sl} {o : HO} (hw : r[i]? = some w) (how : w.own = true) (hst : st[i]? = some (some (.ref a))) (hu : u.own = true) (h : OwAt K (upd H a o) Hs a u) :
    SIn K g H0 Hs0 (r.set i u) f st (upd H a o) Hs := by
  have ho : Owned r st a := ⟨i, w, hw, how, hst⟩
  obtain ⟨n1, n0, _⟩ := s.owned ho
  have hil : i < r.length := (List.getElem?_eq_some_iff.mp hw).1
  have low : ∀ (j : Nat) (w : Sl), (r.set i u)[j]? = some w → (j = i ∧ w = u) ∨ (j ≠ i ∧ r[j]? = some w) := fun j w e => by
    by_cases q : i = j
    · subst q
      rw [List.getElem?_set_self hil] at e
      cases e
      exact .inl ⟨rfl, rfl⟩
    · rw [List.getElem?_set_ne q] at e
      exact .inr ⟨fun z => q z.symm, e⟩
  refine ⟨by simp [s.len], s.dk0, s.dk.mut (s.notDk ho), s.stp.mut n0 n1, fun j e hj => ?_, fun j w' hj ho' => ?_, fun j l x y b hj hl ho1 ho2 h1 h2 => ?_⟩
  · rcases low j _ hj with ⟨rfl, q⟩ | ⟨hne, q⟩
    · rw [← q] at hu; cases hu
    · exact s.sh j e q
  · rcases low j w' hj with ⟨rfl, q⟩ | ⟨hne, q⟩
    · subst q
      exact ⟨a, hst, n1, n0, h⟩
    · obtain ⟨b, h3, h4, h5, h6⟩ := s.ow j w' q ho'
      have hab : b ≠ a := fun e => by
        subst e
        exact hne (s.inj j i w' w b q hw ho' how h3 hst)
      refine ⟨b, h3, h4, h5, ?_⟩
      cases w' with
      | ow xs => obtain ⟨vs, q1, q2⟩ := h6; exact ⟨vs, by rw [upd_ne hab]; exact q1, q2⟩
      | od ks xs => obtain ⟨vs, q1, q2⟩ := h6; exact ⟨vs, by rw [upd_ne hab]; exact q1, q2⟩
      | _ => exact h6.elim
  · have hx : ∃ x', r[j]? = some x' ∧ x'.own = true := by
      rcases low j x hj with ⟨rfl, _⟩ | ⟨_, q⟩
      · exact ⟨w, hw, how⟩
      · exact ⟨x, q, ho1⟩
    have hy : ∃ x', r[l]? = some x' ∧ x'.own = true := by
      rcases low l y hl with ⟨rfl, _⟩ | ⟨_, q⟩
      · exact ⟨w, hw, how⟩
      · exact ⟨y, q, ho2⟩
    obtain ⟨x', hx1, hx2⟩ := hx
    obtain ⟨y', hy1, hy2⟩ := hy
    exact s.inj j l x' y' b hx1 hy1 hx2 hy2 h1 h2
/-- what a slot owns is shared from now on -/
def frz1 : Sl → Sl
  | .ow xs => .sh (.lst xs)
  | .od ks xs => .sh (.dct ks xs)
  | s => s
def frz (r : Sg) (l : List Nat) : Sg := l.foldl (fun r i => match r[i]? with | some s => r.set i (frz1 s) | none => r) r
theorem SIn.frz1 (s : SIn K g H0 Hs0 r f st H Hs) {i : Nat} {w : Sl} (hw : r[i]? = some w) : ∃ Hs', SIn K g H0 Hs0 (r.set i (frz1 w)) f st H Hs' := by
  have same : ∀ w', w = w' → (r.set i w') = r := fun w' e => by
    subst e
    obtain ⟨hl, e⟩ := List.getElem?_eq_some_iff.mp hw
    rw [← e, List.set_getElem_self]
  by_cases how : w.own = true
  · obtain ⟨a, hst, n1, n0, hat⟩ := s.ow i w hw how
    obtain ⟨o, ho, ld⟩ := hat.ld
    have own : Owned r st a := ⟨i, w, hw, how, hst⟩
    have ext : Same Hs (upd Hs a o) := fun b u e => by rw [upd_ne (ne_of_none e n1)]; exact e
    have hil : i < r.length := (List.getElem?_eq_some_iff.mp hw).1
    have hd : ∃ d, DL.frz1 w = .sh d ∧ Rp K (upd Hs a o) d (.ref a) := by
      cases w with
      | ow xs =>
        obtain ⟨vs, q1, q2⟩ := hat
        rw [q1] at ho; cases ho
        exact ⟨_, rfl, a, vs, rfl, upd_same, q2.mono ext⟩
      | od ks xs =>
        obtain ⟨vs, q1, q2, q3⟩ := hat
        rw [q1] at ho; cases ho
        exact ⟨_, rfl, a, vs, rfl, upd_same, q2, q3.mono ext⟩
      | _ => cases how
    obtain ⟨d, ed, hd⟩ := hd
    rw [ed]
    have low : ∀ (j : Nat) (w' : Sl), (r.set i (.sh d))[j]? = some w' → (j = i ∧ w' = .sh d) ∨ (j ≠ i ∧ r[j]? = some w') := fun j w' e => by
      by_cases q : i = j
      · subst q
        rw [List.getElem?_set_self hil] at e
        cases e
        exact .inl ⟨rfl, rfl⟩
      · rw [List.getElem?_set_ne q] at e
        exact .inr ⟨fun z => q z.symm, e⟩
    refine ⟨upd Hs a o, by simp [s.len], s.dk0, s.dk.share (s.notDk own), s.stp.share n0 ho n1, fun j e hj => ?_, fun j w' hj ho' => ?_, fun j l x y b hj hl ho1 ho2 h1 h2 => ?_⟩
    · rcases low j _ hj with ⟨rfl, q⟩ | ⟨hne, q⟩
      · cases q
        exact ⟨.ref a, hst, hd⟩
      · obtain ⟨v, h3, h4⟩ := s.sh j e q
        exact ⟨v, h3, h4.mono ext⟩
    · rcases low j w' hj with ⟨rfl, q⟩ | ⟨hne, q⟩
      · subst q; cases ho'
      · obtain ⟨b, h3, h4, h5, h6⟩ := s.ow j w' q ho'
        have hab : b ≠ a := fun e => by
          subst e
          exact hne (s.inj j i w' w b q hw ho' how h3 hst)
        refine ⟨b, h3, by rw [upd_ne hab]; exact h4, h5, ?_⟩
        cases w' with
        | ow xs => obtain ⟨vs, q1, q2⟩ := h6; exact ⟨vs, q1, q2.mono ext⟩
        | od ks xs => obtain ⟨vs, q1, q2, q3⟩ := h6; exact ⟨vs, q1, q2, q3.mono ext⟩
        | _ => exact h6.elim
    · rcases low j x hj with ⟨rfl, q⟩ | ⟨_, q⟩
      · subst q; cases ho1
      · rcases low l y hl with ⟨rfl, q'⟩ | ⟨_, q'⟩
        · subst q'; cases ho2
        · exact s.inj j l x y b q q' ho1 ho2 h1 h2
  · have : DL.frz1 w = w := by cases w <;> first | rfl | exact absurd rfl how
    rw [this, same w rfl]
    exact ⟨Hs, s⟩
theorem SIn.frz : ∀ (l : List Nat) {r : Sg} {Hs : Hp}, SIn K g H0 Hs0 r f st H Hs → ∃ Hs', SIn K g H0 Hs0 (frz r l) f st H Hs'
  | [], _, _, s => ⟨_, s⟩
  | i :: l, r, Hs, s => by
    show ∃ Hs', SIn K g H0 Hs0 (DL.frz (match r[i]? with | some s => r.set i (DL.frz1 s) | none => r) l) f st H Hs'
    cases e : r[i]? with
    | none => exact SIn.frz l s
    | some w =>
      obtain ⟨Hs1, s1⟩ := s.frz1 e
      exact SIn.frz l s1
end
end DL

namespace DL
open PySem PySem.Spec PyProof.Rows L2

section
variable {X : Cx} {K : PySem.W.Frag}
theorem SIn.stpPlus {g : Option Dk} {H0 Hs0 : Hp} {r : Sg} {f : Nat} {st : L2.St} {H Hs : Hp} (s : SIn K g H0 Hs0 r f st H Hs) : Stp g H0 Hs0 H (plus r st H Hs) where
  sub := s.plusSub
  ext := s.stp.ext.trans s.plusExt
  keep := s.stp.keep
  there := s.stp.there
  new := fun a o h n => by
    have no : ¬ Owned r st a := fun e => by rw [(s.owned e).2.1] at h; cases h
    rw [plus_out no]
    exact s.stp.new a o h n
theorem SIn.afterExt {g : Option Dk} {H0 Hs0 : Hp} {r : Sg} {f : Nat} {st : L2.St} {H Hs H' Hs' : Hp} (s : SIn K g H0 Hs0 r f st H Hs) (p : Stp g H (plus r st H Hs) H' Hs') : Same Hs (minus r st Hs') := fun a o h => by
  have no : ¬ Owned r st a := fun e => by rw [(s.owned e).1] at h; cases h
  rw [minus_out no]
  exact p.ext a o (s.plusExt a o h)
/-! another base: what is shared now is to stay -/
def mix (Hb H0 : Hp) : Hp := fun a => match Hb a with
  | some o => some o
  | none => H0 a
theorem mix_some {Hb H0 : Hp} {a : Addr} {o : HO} (h : Hb a = some o) : mix Hb H0 a = some o := by unfold mix; rw [h]
theorem mix_none {Hb H0 : Hp} {a : Addr} (h : Hb a = none) : mix Hb H0 a = H0 a := by unfold mix; rw [h]
theorem Stp.unmix {g : Option Dk} {H0 Hs0 H1 Hb H Hs : Hp} (p : Stp g H0 Hs0 H1 Hb) (q : Stp g (mix Hb H0) Hb H Hs) : Stp g H0 Hs0 H Hs where
  sub := q.sub
  ext := p.ext.trans q.ext
  keep := fun a o h n => by
    cases e : Hb a with
    | none => exact q.keep a o (by rw [mix_none e]; exact h) n
    | some o' =>
      have e1 := p.keep a o h n
      rw [p.sub a o' e] at e1
      cases e1
      exact q.keep a o (mix_some e) n
  there := fun a o h => by
    cases e : Hb a with
    | none => exact q.there a o (by rw [mix_none e]; exact h)
    | some o' => exact q.there a o' (mix_some e)
  new := fun a o h n => by
    have nb := p.new a o h n
    exact q.new a o (by rw [mix_none nb]; exact h) nb
theorem SIn.rebase {g : Option Dk} {H0 Hs0 Hb : Hp} {r : Sg} {f : Nat} {st : L2.St} {H Hs : Hp} (s : SIn K g H0 Hs0 r f st H Hs) (h1 : Same Hs0 Hb) (h2 : Same Hb Hs) : SIn K g (mix Hb H0) Hb r f st H Hs where
  len := s.len
  dk0 := by
    obtain ⟨f0, k⟩ := s.dk0
    refine ⟨f0, ?_⟩
    have kk := s.dk
    cases g with
    | none => trivial
    | some d =>
      obtain ⟨_, m1, m2, m3⟩ := kk
      have n1 := same_none h2 m1
      have n2 := same_none h2 m2
      have n3 := same_none h2 m3
      obtain ⟨⟨e1, e2, e3, n', xs, ys, k1, k2, k3, k4⟩, _⟩ := k
      exact ⟨⟨e1, e2, e3, n', xs, ys, by rw [mix_none n1]; exact k1, by rw [mix_none n2]; exact k2, by rw [mix_none n3]; exact k3, k4⟩, n1, n2, n3⟩
  dk := s.dk
  stp := by
    refine ⟨s.stp.sub, h2, fun a o h n => ?_, fun a o h => ?_, fun a o h n => ?_⟩
    · cases e : Hb a with
      | none => rw [mix_none e] at h; exact s.stp.keep a o h n
      | some o' => rw [mix_some e] at h; cases h; exact s.stp.sub a o (h2 a o e)
    · cases e : Hb a with
      | none => rw [mix_none e] at h; exact s.stp.there a o h
      | some o' => exact ⟨o', s.stp.sub a o' (h2 a o' e)⟩
    · rw [mix_none n] at h
      exact s.stp.new a o h (same_none h1 n)
  sh := s.sh
  ow := fun i sl hi ho => by
    obtain ⟨a, q1, q2, q3, q4⟩ := s.ow i sl hi ho
    exact ⟨a, q1, q2, by rw [mix_none (same_none h2 q2)]; exact q3, q4⟩
  inj := s.inj
theorem SIn.unbase {g : Option Dk} {H0 Hs0 H1 Hb : Hp} {r : Sg} {f : Nat} {st : L2.St} {H Hs : Hp} (p : Stp g H0 Hs0 H1 Hb) (k : ∃ f0, DkOk g H0 Hs0 f0) (s : SIn K g (mix Hb H0) Hb r f st H Hs) : SIn K g H0 Hs0 r f st H Hs where
  len := s.len
  dk0 := k
  dk := s.dk
  stp := p.unmix s.stp
  sh := s.sh
  ow := fun i sl hi ho => by
    obtain ⟨a, q1, q2, q3, q4⟩ := s.ow i sl hi ho
    exact ⟨a, q1, q2, by rw [mix_none (same_none s.stp.ext q2)] at q3; exact q3, q4⟩
  inj := s.inj
/-- an expression's value, flat with all slots in sight (true), or any with the owning slots hidden (false) -/
def evM (m : Bool) (dl : DT) : DT := fun g r f Q => match m with
  | true => dl g r f fun d f' => d.flat = true ∧ Q d f'
  | false => dl g (hide r) f Q
theorem snd_evM {t : TE} {dl : DT} (h : Snd K t dl) {m : Bool} {g : Option Dk} {H0 Hs0 : Hp} {r : Sg} {f : Nat} {st : L2.St} {H Hs : Hp} {Q : VK} {Q' : QD} (s : SIn K g H0 Hs0 r f st H Hs)
    (hq : ∀ d f' v H' Hs', SIn K g H0 Hs0 r f' st H' Hs' → Same Hs Hs' → Rp K Hs' d v → Q' d f' → Q v H') (hd : evM m dl g r f Q') : t st H Q := by
  cases m with
  | true => exact h g r f st H _ Q _ s.at (fun d f' v H' Hs' p k hr q => hq d f' v H' _ (s.after p k) (s.afterExt p) (s.flatV p q.1 hr) q.2) hd
  | false => exact h g (hide r) f st H _ Q Q' s.atHid (fun d f' v H' Hs' p k hr q => hq d f' v H' _ (s.afterHid p k) p.ext hr q) hd
/-- a new list's items, flat with all slots in sight, or any with the owning slots hidden -/
def evL (m : Bool) (dl : DTA) : DTA := fun g r f Q => match m with
  | true => dl g r f fun ds f' => flatA ds = true ∧ Q ds f'
  | false => dl g (hide r) f Q
theorem Stp.none0 {g : Option Dk} {H Hs H' Hs' : Hp} (s : Stp g H Hs H' Hs') {p : Addr} (h : H' p = none) : H p = none := none_back s h
theorem snd_evL {t : TE} {dl : DTA} (h : SndL K t dl) {m : Bool} {g : Option Dk} {H0 Hs0 : Hp} {r : Sg} {f : Nat} {st : L2.St} {H Hs : Hp} {Q : VK} {Q' : List D → Nat → Prop} (s : SIn K g H0 Hs0 r f st H Hs)
    (hq : ∀ ds f' p vs H' Hs', SIn K g H0 Hs0 r f' st H' Hs' → H p = none → Hs' p = none → H0 p = none → H' p = some (.lst vs) → RpA K Hs' ds vs → (∀ (j : Nat) (sl : Sl), r[j]? = some sl → sl.own = true → st[j]? ≠ some (some (.ref p))) → Q' ds f' → Q (.ref p) H') (hd : evL m dl g r f Q') : t st H Q := by
  have notO : ∀ p, H p = none → ∀ (j : Nat) (sl : Sl), r[j]? = some sl → sl.own = true → st[j]? ≠ some (some (.ref p)) := fun p hp j sl h1 h2 h3 => by
    obtain ⟨a, e, _, _, q⟩ := s.ow j sl h1 h2
    rw [h3] at e
    cases e
    obtain ⟨o, ho, _⟩ := q.ld
    rw [hp] at ho; cases ho
  cases m with
  | true => exact h g r f st H _ Q _ s.at (fun ds f' p vs H' Hs' sp k n0 n1 e hr q => by
      have no : ¬ Owned r st p := fun ⟨j, sl, h1, h2, h3⟩ => notO p n0 j sl h1 h2 h3
      refine hq ds f' p vs H' _ (s.after sp k) n0 (by rw [minus_out no]; exact n1) (s.stp.none0 n0) e ?_ (notO p n0) q.2
      exact hr.flat (fun a o e l => by
        by_cases w : Owned r st a
        · obtain ⟨_, _, sl, _, u⟩ := s.owned w
          obtain ⟨o', ho, ld⟩ := u.ld
          have := sp.keep a o' ho (s.notDk w)
          rw [sp.sub a o e] at this
          cases this
          rw [ld] at l
          cases l
        · rw [minus_out w]; exact e) ds vs q.1) hd
  | false => exact h g (hide r) f st H _ Q Q' s.atHid (fun ds f' p vs H' Hs' sp k n0 n1 e hr q => hq ds f' p vs H' _ (s.afterHid sp k) n0 n1 (s.stp.none0 n0) e hr (notO p n0) q) hd

/-! blocks -/
def sNext : DTS := fun _ r f E => E.nx r f
def sSeq (a b : DTS) : DTS := fun g r f E => a g r f { E with nx := fun r' f' => b g r' f' E }
theorem dss_nil : DSs X [] sNext := .mk' (pss_nil) (fun g H0 Hs0 r f st H D E s e h => e.nx r f st H s h)
theorem dss_one {st : Stmt} {d : DTS} (h : DS X st d) : DSs X [st] d := .mk' (pss_one h.ps) (h.sn)
theorem dss_cons {st : Stmt} {rest : List Stmt} {d e : DTS} (h1 : DS X st d) (h2 : DSs X rest e) : DSs X (st :: rest) (sSeq d e) := .mk' (pss_cons h1.ps h2.ps) (fun g H0 Hs0 r f st H D E s e h =>
  h1.sn g H0 Hs0 r f st H _ { E with nx := fun r' f' => _ } s ⟨fun r' f' st' H' s' h' => h2.sn g H0 Hs0 r' f' st' H' D E s' e h', e.rt, e.bk, e.ct⟩ h)
def sNever : DTS := fun _ _ _ _ => False
theorem ds_never {st : Stmt} : DS X st sNever := .mk' (ps_never) (fun _ _ _ _ _ _ _ _ _ _ _ h => h)
theorem dss_never {sts : List Stmt} : DSs X sts sNever := .mk' (pss_never) (fun _ _ _ _ _ _ _ _ _ _ _ h => h)
theorem ds_pass {pos : Pos} : DS X (.Pass pos) sNext := .mk' (ps_pass) (fun g H0 Hs0 r f st H D E s e h => e.nx r f st H s h)
def sBreak : DTS := fun _ r f E => E.bk r f
def sCont : DTS := fun _ r f E => E.ct r f
theorem ds_break {pos : Pos} : DS X (.Break pos) sBreak := .mk' (ps_break) (fun g H0 Hs0 r f st H D E s e h => e.bk r f st H s h)
theorem ds_continue {pos : Pos} : DS X (.Continue pos) sCont := .mk' (ps_continue) (fun g H0 Hs0 r f st H D E s e h => e.ct r f st H s h)
theorem ds_doc {x : Str} {j : Nat} {pos pos' : Pos} : DS X (.Expr (.Constant (.str x) j pos) pos') sNext := .mk' (ps_doc) (fun g H0 Hs0 r f st H D E s e h => e.nx r f st H s h)
def sIf (c : DTT) (a b : DTS) : DTS := fun g r f E => c g r f fun k f1 => if k = true then a g r f1 E else b g r f1 E
theorem ds_if {c : Expr} {a b : List Stmt} {pos : Pos} {dc : DTT} {d e : DTS} (hc : DP X c dc) (ha : DSs X a d) (hb : DSs X b e) : DS X (.If c a b pos) (sIf dc d e) := .mk' (ps_if hc.pt ha.ps hb.ps) (fun g H0 Hs0 r f st H D E s e h => by
  obtain ⟨Hs, s⟩ := s
  refine hc.sn g r f st H _ _ _ s.at (fun k f1 H1 Hs1 s1 k1 q1 => ?_) h
  cases k with
  | true => exact ha.sn g H0 Hs0 r f1 st H1 D E ⟨_, s.after s1 k1⟩ e q1
  | false => exact hb.sn g H0 Hs0 r f1 st H1 D E ⟨_, s.after s1 k1⟩ e q1)
def sRet (dl : DT) : DTS := fun g r f E => dl g r f E.rt
theorem ds_ret {e : Expr} {pos : Pos} {d : DT} (h : DE X e d) : DS X (.Return (some e) pos) (sRet d) := .mk' (ps_ret h.pe) (fun g H0 Hs0 r f st H D E s e hd => by
  obtain ⟨Hs, s⟩ := s
  exact h.sn g r f st H _ _ _ s.at (fun d f1 v H1 Hs1 s1 k1 r1 q1 => e.rt d f1 v H1 Hs1 (s.stpPlus.trans s1) k1 r1 q1) hd)
def sDrop (dl : DT) : DTS := fun g r f E => dl g r f fun _ f' => E.nx r f'
theorem ds_expr {e : Expr} {pos : Pos} {d : DT} (h : DE X e d) (hs : swapsWith e none pos.line X.env = pure false := by rfl) : DS X (.Expr e pos) (sDrop d) := .mk' (ps_expr h.pe hs) (fun g H0 Hs0 r f st H D E s e hd => by
  obtain ⟨Hs, s⟩ := s
  exact h.sn g r f st H _ _ _ s.at (fun d f1 v H1 Hs1 s1 k1 r1 q1 => e.nx r f1 st H1 ⟨_, s.after s1 k1⟩ q1) hd)

/-! assignments -/
def sSet (m : Bool) (i : Nat) (dl : DT) : DTS := fun g r f E => evM m dl g r f fun d f' => E.nx (r.set i (.sh d)) f'
theorem snd_set {m : Bool} {i : Nat} {t : TE} {d : DT} (h : Snd K t d) : SndS K (tAsg t (gName i)) (sSet m i d) := fun g H0 Hs0 r f st H D E s e hd => by
  obtain ⟨Hs, s⟩ := s
  exact snd_evM h s (fun d f' v H' Hs' s' _ hr q => e.nx _ f' _ H' ⟨_, s'.set i hr⟩ q) hd
theorem ds_set (m : Bool) {i : Nat} {x : Str} {e : Expr} {pos pos' : Pos} {d : DT} (hN : X.N.Nodup) (h : DE X e d) (hi : X.N[i]? = some x := by rfl) (hx : Loc X.env.scope x := by first | exact Or.inl rfl | exact Or.inr rfl)
    (hs : swapsWith e (some (.Name x pos')) pos.line X.env = pure false := by rfl) (hf : X.fn x = true ∨ X.env.scope.names.lookup x = some .local := by first | exact .inl rfl | exact .inr rfl | assumption) :
    DS X (.Assign [.Name x pos'] e pos) (sSet m i d) := .mk' (ps_set hN hi hx h.pe hs hf) (snd_set h.sn)
def sSetL (m : Bool) (i : Nat) (dl : DTA) : DTS := fun g r f E => evL m dl g r f fun ds f' => E.nx (r.set i (.ow ds)) f'
theorem snd_setL {m : Bool} {i : Nat} {t : TE} {d : DTA} (h : SndL K t d) : SndS K (tAsg t (gName i)) (sSetL m i d) := fun g H0 Hs0 r f st H D E s e hd => by
  obtain ⟨Hs, s⟩ := s
  exact snd_evL h s (fun ds f' p vs H' Hs' s' n n1 n0 hp hr no q => e.nx _ f' _ H' ⟨_, s'.setOwn i (u := .ow ds) rfl n0 n1 (fun j sl _ h1 h2 => no j sl h1 h2) ⟨vs, hp, hr⟩⟩ q) hd
theorem ds_setL (m : Bool) {i : Nat} {x : Str} {e : Expr} {pos pos' : Pos} {d : DTA} (hN : X.N.Nodup) (h : DL' X e d) (hi : X.N[i]? = some x := by rfl) (hx : Loc X.env.scope x := by first | exact Or.inl rfl | exact Or.inr rfl)
    (hs : swapsWith e (some (.Name x pos')) pos.line X.env = pure false := by rfl) (hf : X.fn x = true ∨ X.env.scope.names.lookup x = some .local := by first | exact .inl rfl | exact .inr rfl | assumption) :
    DS X (.Assign [.Name x pos'] e pos) (sSetL m i d) := .mk' (ps_set hN hi hx h.pe hs hf) (snd_setL h.sn)
/-- y = [..] on one line -/
theorem ds_setLc {i : Nat} {y : Str} {py : Pos} {elt tg iter : Expr} {ifs : List Expr} {scope : Scope} {own : List (Str × Nat)} {pos spos : Pos} {is : List Nat} {di : DTA} {t : TgF} {c : DTT} {e : DT} {dl : DTS} (hN : X.N.Nodup) (hi : DI X tg iter di) (ok : BlkOk X.N X.env.scope scope own)
    (hg : ∀ (s : Shared) (H : Hp) (C : Addr) (cl : List (Str × Addr)) (fp : List Addr), DG (X.blk s H scope (compEnvC scope cl C X.env) fp) tg is t) (ht : ∀ (s : Shared) (H : Hp) (C : Addr) (cl : List (Str × Addr)) (fp : List Addr), DTs (X.blk s H scope (compEnvC scope cl C X.env) fp) ifs c)
    (he : ∀ (s : Shared) (H : Hp) (C : Addr) (cl : List (Str × Addr)) (fp : List Addr), DE (X.blk s H scope (compEnvC scope cl C X.env) fp) elt e)
    (hsn : ∀ (K : PySem.W.Frag) (t' : TE), SndL K t' (dLc di t c e (own.map (·.2))) → SndS K (tAsg t' (gName i)) dl)
    (hy : X.N[i]? = some y := by rfl) (hyl : X.env.scope.names.lookup y = some .local := by rfl) (hc : X.calm = true := by rfl)
    (hsw : swapsWith (.ListComp elt [⟨tg, iter, ifs, 0⟩] scope pos) (some (.Name y py)) spos.line X.env = pure true := by exact sw_true rfl rfl rfl (by decide +kernel)) (hs : ∀ x, foldedSetIterable iter X.env x = pure x := by intro _; rfl) (hsub : ∀ j ∈ is, j ∈ own.map (·.2) := by decide) :
    DS X (.Assign [.Name y py] (.ListComp elt [⟨tg, iter, ifs, 0⟩] scope pos) spos) dl :=
  DS.mk' (ps_setLc (g := gOf X.K is t) (tt := tOfT X.K c) (te := tOf X.K e) hc hN hy hyl hsw hi.pi ok (fun s H C cl fp => (hg s H C cl fp).pg) (fun s H C cl fp => (ht s H C cl fp).pt) (fun s H C cl fp => (he s H C cl fp).pe) hs)
    (hsn X.K _ (snd_lc hi.sn (hg X.s_0 (fun _ => none) 0 [] []).sn (ht X.s_0 (fun _ => none) 0 [] []).sn (he X.s_0 (fun _ => none) 0 [] []).sn hsub))
/-- target = value: a tuple taken apart -/
def sAsg (m : Bool) (dl : DT) (t : TgF) : DTS := fun g r f E => evM m dl g r f fun d f' => match t d with
  | some l => E.nx (setsR r l) f'
  | none => False
theorem ds_asg (m : Bool) {tg e : Expr} {pos : Pos} {is : List Nat} {d : DT} {t : TgF} (h : DE X e d) (hg : DG X tg is t) (hs : swapsWithSole [tg] e pos.line X.env = pure false := by rfl) (hw : swappedStores [tg] e X.env = pure none := by rfl) (h1 : (assignEach [tg] X.env).map (·.2) = [assign tg X.env] := by rfl) : DS X (.Assign [tg] e pos) (sAsg m d t) :=
  .mk' (ps_asg h.pe hg.pg hs hw h1) (fun g H0 Hs0 r f st H D E s e hd => by
    obtain ⟨Hs, s⟩ := s
    refine snd_evM h.sn s (fun d f' v H' Hs' s' _ hr q => ?_) hd
    cases et : t d with
    | none => rw [et] at q; exact q.elim
    | some l =>
      rw [et] at q
      refine hg.sn.2 H' Hs' st d v _ l s'.stp.sub hr et fun vs hv => ?_
      have s2 := s'.sets hv
      rw [hg.sn.1 d l et] at s2
      exact e.nx _ f' _ H' ⟨_, s2⟩ q)
/-- a, b = e1, e2 -/
def sPar (m : Bool) (i j : Nat) (a b : DT) : DTS := fun g r f E => evM m a g r f fun x f1 => evM m b g r f1 fun y f2 => E.nx ((r.set i (.sh x)).set j (.sh y)) f2
theorem ds_par (m : Bool) {i j : Nat} {x y : Str} {a b : Expr} {da db : DT} {px py pt : Pos} {kt k2 : Nat} {pt2 pos : Pos} (hN : X.N.Nodup) (ha : DE X a da) (hb : DE X b db) (hc : X.calm = true := by rfl) (hi : X.N[i]? = some x := by rfl) (hj : X.N[j]? = some y := by rfl) (hij : i ≠ j := by decide)
    (hx : X.env.scope.names.lookup x = some .local := by rfl) (hy : X.env.scope.names.lookup y = some .local := by rfl) (hst : starEach [a, b] X.env = (false, eval a X.env) :: starEach [b] X.env := by rfl) (hst2 : starEach [b] X.env = [(false, eval b X.env)] := by rfl)
    (hw : swappedStores [.Tuple [.Name x px, .Name y py] kt pt] (.Tuple [a, b] k2 pt2) X.env = pure (some [x, y]) := by rfl)
    (hs : swapsWithSole [.Tuple [.Name x px, .Name y py] kt pt] (.Tuple [a, b] k2 pt2) pos.line X.env = pure false := by rfl) :
    DS X (.Assign [.Tuple [.Name x px, .Name y py] kt pt] (.Tuple [a, b] k2 pt2) pos) (sPar m i j da db) := DS.mk' (ps_par hc hN hi hj hij hx hy (pa_cons ha.pe (pa_cons hb.pe pa_nil hst2) hst) hw hs) (fun g H0 Hs0 r f st H D E s e hd => by
  obtain ⟨Hs, s⟩ := s
  refine snd_evM ha.sn s (fun x f1 v H1 Hs1 s1 _ r1 q1 => ?_) hd
  refine snd_evM hb.sn s1 (fun y f2 w H2 Hs2 s2 e2 r2 q2 => ?_) q1
  exact ⟨v, w, rfl, e.nx _ f2 _ H2 ⟨_, (s2.set i (r1.mono e2)).set j r2⟩ q2⟩)

/-! loops -/
def dForGo (g : Option Dk) (t : TgF) (body : DTS) (E : DEnds) : List D → Sg → Nat → Prop
  | [], r, f => E.nx r f
  | d :: ds, r, f => match t d with
    | none => False
    | some l => body g (setsR r l) f { E with nx := fun r' f' => dForGo g t body E ds r' f', ct := fun r' f' => dForGo g t body E ds r' f', bk := E.nx }
def sFor (fz : List Nat) (i : DTA) (t : TgF) (body : DTS) : DTS := fun g r f E => i g (hide (frz r fz)) f fun ds f1 => dForGo g t body E ds (frz r fz) f1
theorem snd_for {fz : List Nat} {wi : TI} {gt : TG} {tb : TS} {is : List Nat} {i : DTA} {t : TgF} {body : DTS} (hi : SndI K wi i) (hg : SndG K is gt t) (hb : SndS K tb body) : SndS K (tFor wi gt tb) (sFor fz i t body) := fun g H0 Hs0 r f st H D E s e hd => by
  obtain ⟨Hs, s⟩ := s
  obtain ⟨Hs, s⟩ := s.frz fz
  refine hi g _ f st H Hs _ _ s.atHid (fun ds f1 J H1 Hs1 s1 k1 wk q1 => ?_) hd
  have sb := s.afterHid s1 k1
  refine ⟨fun i m st2 H2 => m = ds.length - i ∧ i ≤ ds.length ∧ ∃ r2 f2 Hs2, SIn K g H0 Hs0 r2 f2 st2 H2 Hs2 ∧ Same Hs1 Hs2 ∧ dForGo g t body E (ds.drop i) r2 f2, ⟨ds.length, rfl, Nat.zero_le _, _, f1, Hs1, sb, Same.refl _, q1⟩, ?_⟩
  rintro i m st2 H2 ⟨rfl, hil, r2, f2, Hs2, s2, e2, q2⟩
  by_cases hlt : i < ds.length
  · have hgd : ds[i]? = some ds[i] := List.getElem?_eq_getElem hlt
    have hdr : ds.drop i = ds[i] :: ds.drop (i + 1) := List.drop_eq_getElem_cons hlt
    rw [hdr] at q2
    obtain ⟨hgo, hy⟩ := wk.go i _ H2 Hs2 e2 s2.stp.sub hgd
    refine .inr ⟨hgo, fun st3 H3 => i + 1 ≤ ds.length ∧ ∃ r2 f2 Hs2, SIn K g H0 Hs0 r2 f2 st3 H3 Hs2 ∧ Same Hs1 Hs2 ∧ dForGo g t body E (ds.drop (i + 1)) r2 f2, fun st3 H3 h3 => ⟨_, by omega, rfl, h3⟩, fun x H3 hx => ?_⟩
    obtain ⟨Hs3, s3, r3⟩ := hy x H3 hx
    simp only [dForGo] at q2
    cases et : t ds[i] with
    | none => rw [et] at q2; exact q2.elim
    | some l =>
      rw [et] at q2
      replace q2 : body g (setsR r2 l) f2 { E with nx := fun r' f' => dForGo g t body E (ds.drop (i + 1)) r' f', ct := fun r' f' => dForGo g t body E (ds.drop (i + 1)) r' f', bk := E.nx } := q2
      have s2' := s2.afterHid s3.gen (s2.dk.stp s3)
      refine hg.2 H3 Hs3 _ _ x _ l s3.sub r3 et fun us hus => ?_
      have s4 := s2'.sets hus
      rw [hg.1 _ l et] at s4
      have s5 := s4.rebase sb.stp.ext (e2.trans s3.ext)
      refine hb g _ _ _ f2 _ H3 _ { E with nx := fun r' f' => dForGo g t body E (ds.drop (i + 1)) r' f', ct := fun r' f' => dForGo g t body E (ds.drop (i + 1)) r' f', bk := E.nx } ⟨_, s5⟩ ⟨fun r' f' st' H' q h => ?_, fun d f' v H' Hs' p k hr h => e.rt d f' v H' Hs' (sb.stp.unmix p) k hr h, fun r' f' st' H' q h => ?_, fun r' f' st' H' q h => ?_⟩ q2
      · obtain ⟨Hs6, q⟩ := q
        exact ⟨hlt, r', f', Hs6, q.unbase sb.stp s.dk0, q.stp.ext, h⟩
      · obtain ⟨Hs6, q⟩ := q
        exact e.nx r' f' st' H' ⟨_, q.unbase sb.stp s.dk0⟩ h
      · obtain ⟨Hs6, q⟩ := q
        exact ⟨hlt, r', f', Hs6, q.unbase sb.stp s.dk0, q.stp.ext, h⟩
  · have ei : i = ds.length := by omega
    subst ei
    rw [List.drop_length] at q2
    exact .inl ⟨wk.stop H2 (fun a o h => s2.stp.sub a o (e2 a o h)), e.nx r2 f2 st2 H2 ⟨_, s2⟩ q2⟩
theorem ds_for (fz : List Nat) {tg iter : Expr} {body : List Stmt} {pos : Pos} {is : List Nat} {i : DTA} {t : TgF} {db : DTS} (hp : PassesOwn (model X.prog X.w) X.A X.env X.xe) (hi : DI X tg iter i) (hg : DG X tg is t) (hb : DSs X body db) (hc : X.calm = true := by rfl)
    (hs : ∀ x, foldedSetIterable iter X.env x = pure x := by intro _; rfl) : DS X (.For tg iter body [] pos) (sFor fz i t db) := .mk' (ps_for hp hc hi.pi hg.pg hb.ps hs) (snd_for hi.sn hg.sn hb.sn)
def dWhileN (g : Option Dk) (c : DTT) (body : DTS) (E : DEnds) : Nat → Sg → Nat → Prop
  | 0, _, _ => False
  | n + 1, r, f => c g r f fun b f1 => if b = true then body g r f1 { E with nx := fun r' f' => dWhileN g c body E n r' f', ct := fun r' f' => dWhileN g c body E n r' f', bk := E.nx } else E.nx r f1
def sWhile (c : DTT) (body : DTS) : DTS := fun g r f E => ∃ n, dWhileN g c body E n r f
theorem snd_while {tc : TT} {tb : TS} {c : DTT} {body : DTS} (hc : SndT K tc c) (hb : SndS K tb body) : SndS K (tWhile tc tb) (sWhile c body) := fun g H0 Hs0 r f st H D E s e hd => by
  obtain ⟨n, hd⟩ := hd
  refine ⟨fun m st2 H2 => ∃ r2 f2, SOk K g H0 Hs0 r2 f2 st2 H2 ∧ dWhileN g c body E m r2 f2, ⟨n, r, f, s, hd⟩, ?_⟩
  rintro m st2 H2 ⟨r2, f2, ⟨Hs2, s2⟩, q2⟩
  cases m with
  | zero => exact q2.elim
  | succ m =>
    refine hc g r2 f2 st2 H2 _ _ _ s2.at (fun b f3 H3 Hs3 s3 k3 q3 => ?_) q2
    have s4 := s2.after s3 k3
    cases b with
    | false => exact e.nx r2 f3 st2 H3 ⟨_, s4⟩ q3
    | true =>
      rw [if_pos rfl]
      rw [if_pos rfl] at q3
      refine ⟨fun st4 H4 => ∃ r4 f4, SOk K g H0 Hs0 r4 f4 st4 H4 ∧ dWhileN g c body E m r4 f4, fun st4 H4 h4 => ⟨m, Nat.lt_succ_self m, h4⟩, ?_⟩
      exact hb g H0 Hs0 r2 f3 st2 H3 _ { E with nx := fun r' f' => dWhileN g c body E m r' f', ct := fun r' f' => dWhileN g c body E m r' f', bk := E.nx } ⟨_, s4⟩ ⟨fun r' f' st' H' q h => ⟨r', f', q, h⟩, e.rt, e.nx, fun r' f' st' H' q h => ⟨r', f', q, h⟩⟩ q3
theorem ds_while {c : Expr} {body : List Stmt} {pos : Pos} {dc : DTT} {db : DTS} (hp : PassesOwn (model X.prog X.w) X.A X.env X.xe) (hc : DP X c dc) (hb : DSs X body db) : DS X (.While c body [] pos) (sWhile dc db) := .mk' (ps_while hp hc.pt hb.ps) (snd_while hc.sn hb.sn)

/-! stores into what a slot owns -/
def sApp (m : Bool) (i : Nat) (dl : DT) : DTS := fun g r f E => ∃ xs, r[i]? = some (.ow xs) ∧ evM m dl g r f fun d f' => xs.length ≤ lim ∧ E.nx (r.set i (.ow (xs ++ [d]))) f'
theorem snd_app {m : Bool} {i : Nat} {t : TE} {d : DT} (h : Snd K t d) : SndS K (tDrop (tBM K "list" rAppend (tVar i) (tCons t tNil))) (sApp m i d) := fun g H0 Hs0 r f st H D E s e hd => by
  obtain ⟨Hs, s⟩ := s
  obtain ⟨xs, hx, hd⟩ := hd
  obtain ⟨a, ha, n1, n0, vs, hv, hr⟩ := s.ow i _ hx rfl
  refine ⟨.ref a, ha, .inl ⟨rfl, vs, SqL.of hv⟩, ?_⟩
  refine snd_evM h s (fun d f' v H' Hs' s' _ hr' q => ?_) hd
  obtain ⟨hl, q⟩ := q
  obtain ⟨a', ha', n1', n0', vs', hv', hr2⟩ := s'.ow i _ hx rfl
  rw [ha] at ha'
  cases ha'
  exact ⟨a, vs', v, rfl, rfl, hv', hr2.lt hl, e.nx _ f' st _ ⟨_, s'.mutOwn (u := .ow (xs ++ [d])) hx rfl ha rfl ⟨vs' ++ [v], upd_same, hr2.append (RpA.one hr')⟩⟩ q⟩
theorem ds_app (m : Bool) {i : Nat} {x : Str} {e : Expr} {px apos cpos pos : Pos} {d : DT} (h : DE X e d) (hN : X.N[i]? = some x := by rfl) (hv : Vis X.env.scope x := by first | exact Or.inl rfl | exact Or.inr (Or.inl rfl) | exact Or.inr (Or.inr rfl)) (hd : (x == ("__debug__" : Str)) = false := by decide)
    (hcd : (x == ("__classdict__" : Str)) = false := by decide) (hP : ∀ t : TE, PE X (.Name x px) (tVar i) → PA X [e] (tCons t tNil) → PE X (.Call (.Attribute (.Name x px) "append" apos) [e] [] cpos) (tBM X.K "list" rAppend (tVar i) (tCons t tNil)) := by
      exact fun t a b => pe_bm PySem.F.plainAttrs_list PySem.F.slot_list_append PySem.F.type_list_append mt_append a b)
    (hs : swapsWith (.Call (.Attribute (.Name x px) "append" apos) [e] [] cpos) none pos.line X.env = pure false := by rfl) (hst : starEach [e] X.env = [(false, eval e X.env)] := by rfl) :
    DS X (.Expr (.Call (.Attribute (.Name x px) "append" apos) [e] [] cpos) pos) (sApp m i d) :=
  DS.mk' (ps_expr (hP _ (pe_var hN hv hd hcd) (pa_cons h.pe pa_nil hst)) hs) (snd_app h.sn)
/-- xs[k] = e -/
def sSetIx (m : Bool) (i : Nat) (dk dl : DT) : DTS := fun g r f E => ∃ xs, r[i]? = some (.ow xs) ∧ evM m dl g r f fun d f1 => dk g r f1 fun k f2 => match k with
  | .int k => ∃ j, ixN xs.length k = some j ∧ E.nx (r.set i (.ow (xs.set j d))) f2
  | _ => False
theorem snd_setIx {m : Bool} {i : Nat} {tk t : TE} {dk d : DT} (hk : Snd K tk dk) (h : Snd K t d) : SndS K (tAsg t (gSub (tVar i) tk rSetL)) (sSetIx m i dk d) := fun g H0 Hs0 r f st H D E s e hd => by
  obtain ⟨Hs, s⟩ := s
  obtain ⟨xs, hx, hd⟩ := hd
  obtain ⟨a, ha, n1, n0, vs, hv, hr⟩ := s.ow i _ hx rfl
  refine snd_evM h s (fun d f' v H' Hs' s' _ hr' q => ?_) hd
  refine ⟨.ref a, ha, ?_⟩
  refine hk g r f' st H' _ _ _ s'.at (fun k f2 w H2 Hs2 s2 k2 r2 q2 => ?_) q
  have s3 := s'.after s2 k2
  cases k <;> try exact q2.elim
  obtain ⟨j, hj, q2⟩ := q2
  obtain ⟨a', ha', n1', n0', vs', hv', hr2⟩ := s3.ow i _ hx rfl
  rw [ha] at ha'
  cases ha'
  exact ⟨a, vs', _, j, rfl, r2, hv', by rw [← hr2.length]; exact hj, e.nx _ f2 st _ ⟨_, s3.mutOwn (u := .ow (xs.set j d)) hx rfl ha rfl ⟨vs'.set j v, upd_same, hr2.set j (hr'.mono (s'.afterExt s2))⟩⟩ q2⟩
theorem ds_setIx (m : Bool) {i : Nat} {x : Str} {e k : Expr} {px spos pos : Pos} {dk d : DT} (hk : DE X k dk) (h : DE X e d) (hN : X.N[i]? = some x := by rfl) (hv : Vis X.env.scope x := by first | exact Or.inl rfl | exact Or.inr (Or.inl rfl) | exact Or.inr (Or.inr rfl)) (hd : (x == ("__debug__" : Str)) = false := by decide)
    (hcd : (x == ("__classdict__" : Str)) = false := by decide)
    (ha : ∀ v, assign (.Subscript (.Name x px) k spos) X.env v = (do
      let ov ← holding [v] (eval (.Name x px) X.env)
      let iv ← holding [v, ov] (eval k X.env)
      standAt spos
      holding [v, ov, iv] (setItem ov iv v)
      release [v, ov, iv] []) := by intro _; rfl)
    (hs : swapsWithSole [.Subscript (.Name x px) k spos] e pos.line X.env = pure false := by rfl) (hw : swappedStores [.Subscript (.Name x px) k spos] e X.env = pure none := by rfl) (h1 : (assignEach [.Subscript (.Name x px) k spos] X.env).map (·.2) = [assign (.Subscript (.Name x px) k spos) X.env] := by rfl) :
    DS X (.Assign [.Subscript (.Name x px) k spos] e pos) (sSetIx m i dk d) :=
  .mk' (ps_asg h.pe (pg_sub (pe_var hN hv hd hcd) hk.pe set_list ha) hs hw h1) (snd_setIx hk.sn h.sn)

/-! a def -/
def startR (n : Nat) (ds : List D) : Sg := ds.map .sh ++ List.replicate (n - ds.length) .no
theorem start_in {g : Option Dk} {H Hs : Hp} {f : Nat} {ds : List D} {vs : List V} {N : List Str} (hs : Same Hs H) (hk : DkOk g H Hs f) (hr : RpA K Hs ds vs) : SIn K g H Hs (startR N.length ds) f (L2.start N vs) H Hs := by
  refine ⟨by simp [startR, L2.start, hr.length], ⟨f, hk⟩, hk, Stp.refl hs, fun i d h => ?_, fun i s h ho => ?_, fun i j s u a h1 h2 ho => ?_⟩
  · unfold startR at h
    unfold L2.start
    by_cases hl : i < ds.length
    · rw [List.getElem?_append_left (by simpa using hl), List.getElem?_map] at h
      rw [List.getElem?_append_left (by simpa [← hr.length] using hl), List.getElem?_map]
      rw [List.getElem?_eq_getElem hl] at h
      cases h
      obtain ⟨v, h1, h2⟩ := hr.get (List.getElem?_eq_getElem hl)
      exact ⟨v, by rw [h1]; rfl, h2⟩
    · rw [List.getElem?_append_right (by simpa using hl)] at h
      rw [List.getElem?_replicate] at h
      split at h
      · cases h
      · cases h
  all_goals
    exfalso
    have : ∀ (i : Nat) (s : Sl), (startR N.length ds)[i]? = some s → s.own = false := fun i s h => by
      have := List.mem_of_getElem? h
      unfold startR at this
      rcases List.mem_append.mp this with h | h
      · obtain ⟨d, _, rfl⟩ := List.mem_map.mp h
        rfl
      · rw [(List.mem_replicate.mp h).2]
        rfl
  · rw [this i s h] at ho; cases ho
  · rw [this i s h1] at ho; cases ho
variable {P : Program} {w : World} {mg : Str → Option Value} {base : Heap}
theorem dfn {x qual : Str} {st : Stmt} {f : Addr} {fd : FuncData} {N ps : List Str} {k : Nat} {S : DSp} {dl : DTS} (F : Fun K x qual st f fd) (sc : FnScope N ps (defScope st)) (len : ∀ g ds n Q, S g ds n Q → ds.length = ps.length)
    (hb : ∀ (cdv : Value) (A : Around) (outer : List Env) (s : Shared) (H : Hp) (E : XK), Room k (A.deeper (envOfC qual (defScope st) s.heap.objs.size f cdv)) → DSs (cxOf CX0 P w K mg base N qual (defScope st) f cdv A outer s H E).nox (defBody st) dl)
    (h : ∀ g ds n Q, S g ds n Q → dl g (startR N.length ds) n { nx := fun _ n => Q .none n, rt := Q }) : FnOk P w K mg base CX0 (k + 1) f fd ps (spOf K S) := by
  refine F.ok sc (fun vs H Q E h => ?_) (fun cdv A outer s H vs Q E hr hsp => ?_)
  · obtain ⟨g, Hs, ds, n, Q', h1, h2, h3, h4, h5⟩ := h
    rw [← h3.length]
    exact len g ds n Q' h4
  · obtain ⟨g, Hs, ds, n, Q', h1, h2, h3, h4, h5⟩ := hsp
    refine ⟨sOf K dl, (hb cdv A outer s H E hr).ps, ?_⟩
    refine (hb cdv A outer s H E hr).sn g H Hs _ n _ H _ { nx := fun _ n => Q' .none n, rt := Q' } ⟨Hs, start_in h1 h2 h3⟩ ⟨fun r f st H' q h => ?_, fun d f v H' Hs' p k hr h => h5 d f v H' Hs' p k hr h, fun _ _ _ _ _ h => h, fun _ _ _ _ _ h => h⟩ (h g ds n Q' h4)
    obtain ⟨Hs', q⟩ := q
    exact h5 .none f .non H' Hs' q.stp q.dk rfl h
end
end DL

namespace DL
open PySem PySem.Spec PyProof.Rows L2

/-! a def as its callers see it -/
def Df (K : PySem.W.Frag) (mg : Str → Option Value) (x : Str) (st : Stmt) : Prop := ∃ f fd, Fun K x x st f fd ∧ mg x = some (.ref f)
def Cal (P : Program) (w : World) (K : PySem.W.Frag) (mg : Str → Option Value) (base : Heap) (k : Nat) (x : Str) (ps : List Str) (S : DSp) : Prop :=
  ∃ f fd, FnOk P w K mg base CX0 k f fd ps (spOf K S) ∧ PySem.W.keepIn K (.ref f) = true ∧ Binds K fd ps [] ∧ mg x = some (.ref f)
section
variable {X : Cx} {K : PySem.W.Frag}
theorem de_callC {x : Str} {ps : List Str} {k : Nat} {S : DSp} {p pos : Pos} {e : Expr} {es : List Expr} {d : DTA} (c : Cal X.prog X.w X.K X.mg X.base k x ps S) (hr : Room k X.A)
    (ha : DA X (e :: es) d) (hg : Gl X x := by rfl) (hdb : (x == ("__debug__" : Str)) = false := by decide) (hs : starEach (e :: es) X.env = (false, eval e X.env) :: starEach es X.env := by rfl)
    (hpl : (backTo pos (starEach es X.env)).any (·.1) = false := by rfl) : DE X (.Call (.Name x p) (e :: es) [] pos) (dCall S d) := by
  obtain ⟨f, fd, F, hk, hb, hm⟩ := c
  exact .mk' (pe_call F hr hg hm hk hb .nil pass0 ha.pa hdb hs hpl) (snd_call ha.sn)
theorem de_never {e : Expr} : DE X e (fun _ _ _ _ => False) := .mk' (⟨fun _ _ _ _ _ _ h => h.elim⟩) (fun _ _ _ _ _ _ _ _ _ _ h => h)
theorem cal_none {P : Program} {w : World} {mg : Str → Option Value} {base : Heap} {x : Str} {st : Stmt} {ps : List Str} (d : Df K mg x st) (hb : ∀ f fd, Fun K x x st f fd → Binds K fd ps []) (sc : ∃ N, FnScope N ps (defScope st)) : Cal P w K mg base 1 x ps (fun _ _ _ _ => False) := by
  obtain ⟨f, fd, F, m⟩ := d
  obtain ⟨N, sc⟩ := sc
  refine ⟨f, fd, F.ok sc (fun vs H Q E h => ?_) (fun cdv A outer s H vs Q E hr h => ?_), F.kp, hb f fd F, m⟩
  · obtain ⟨_, _, _, _, _, _, _, _, h, _⟩ := h; exact h.elim
  · obtain ⟨_, _, _, _, _, _, _, _, h, _⟩ := h; exact h.elim
/-- isinstance(x, (T1, T2, ..)) -/
def oIsiT : OA := fun ds Q => match ds with
  | [x, .tup cs] => ∃ (t : String) (ns : List String) (b : Bool), x.tyN = some t ∧ cs = ns.map (fun n => .any (.ty n)) ∧ ns.foldr (fun n r => (kitB t n).bind fun c => if c then some true else r) (some false) = some b ∧ Q (.bool b)
  | _ => False
theorem cls_all {H : Hp} : ∀ {ns : List String} {vs : List V}, RpA K H (ns.map fun n => D.any (.ty n)) vs → Paired ClsV vs (ns.map Value.type)
  | [], _, h => by cases h; exact .nil
  | n :: ns, _, ⟨v, r, h1, h2, h3⟩ => by subst h1; cases h2; exact .cons (.ty n) (cls_all h3)
theorem kit_any {t : String} : ∀ {ns : List String} {b : Bool}, ns.foldr (fun n r => (kitB t n).bind fun c => if c then some true else r) (some false) = some b → PySem.W.kitAny K (.type t) (ns.map Value.type) = some b
  | [], b, h => by cases h; rfl
  | n :: ns, b, h => by
    simp only [List.foldr_cons] at h
    cases e : kitB t n with
    | none => rw [e] at h; cases h
    | some c =>
      rw [e] at h
      refine kitAny_cons (kit_ty e) (fun hc => ?_) (fun hc => ?_)
      · subst hc; exact kit_any (by simpa using h)
      · subst hc; simpa using h.symm
theorem sc_isiT : SndC K (rIsiT K) oIsiT := SndC.pure fun H Hs ds vs Q Q' s rx hq hd => by
  unfold oIsiT at hd
  split at hd
  · obtain ⟨t, ns, b, h1, rfl, h2, h3⟩ := hd
    obtain ⟨v, w, rfl, h4, a, vs, rfl, h5, h6⟩ := rpA2 rx
    exact ⟨v, a, vs, _, _, b, rfl, s _ _ h5, cls_all h6, tyN_ok (h4.mono s) h1, kit_any h2, hq (.bool _) _ rfl h3⟩
  · exact hd.elim
theorem de_isiT {p pos : Pos} {e e2 : Expr} {d : DTA} (hm : X.mg "isinstance" = none) (ha : DA X [e, e2] d) (hg : Gl X "isinstance" := by rfl) (hs : starEach [e, e2] X.env = (false, eval e X.env) :: starEach [e2] X.env := by rfl)
    (hpl : (backTo pos (starEach [e2] X.env)).any (·.1) = false := by rfl) : DE X (.Call (.Name "isinstance" p) [e, e2] [] pos) (dCB oIsiT d) :=
  de_callB call_isiT sc_isiT hg hm (by decide +kernel) ha (by decide) (by decide) hs hpl

/-! loops over plain data -/
theorem dLcGo_each {P : D → Prop} {g : Option Dk} {t : TgF} {e : DT} {r : Sg} (c : Nat) {Q : List D → Nat → Prop} : ∀ (ds acc : List D) (f : Nat), ds.length * c ≤ f →
    (∀ d ∈ ds, ∃ l, t d = some l ∧ ∀ (f : Nat) (Q : QD), c ≤ f → (∀ y f', P y → f ≤ f' + c → Q y f') → e g (setsR r l) f Q) →
    (∀ ys f', ys.length = ds.length → (∀ y ∈ ys, P y) → f ≤ f' + ds.length * c → Q (acc ++ ys) f') → dLcGo g t dYes e r ds acc f Q
  | [], acc, f, hf, he, hq => by
    have := hq [] f rfl (by simp) (by simp)
    rw [List.append_nil] at this
    exact this
  | d :: ds, acc, f, hf, he, hq => by
    obtain ⟨l, hl, h⟩ := he d (by simp)
    have hlen : (d :: ds).length * c = c + ds.length * c := by rw [List.length_cons, Nat.add_mul, Nat.one_mul, Nat.add_comm]
    rw [hlen] at hf
    simp only [dLcGo, hl, dYes, if_true]
    refine h f _ (by omega) fun y f' hy hf' => dLcGo_each c ds (acc ++ [y]) f' (by omega) (fun d' hd' => he d' (by simp [hd'])) fun ys f'' h1 h2 h3 => ?_
    have := hq (y :: ys) f'' (by simp [h1]) (fun z hz => by
      rcases List.mem_cons.mp hz with e | e
      · rw [e]; exact hy
      · exact h2 z e) (by rw [hlen]; omega)
    rw [List.append_assoc]
    exact this
theorem dLcGo_pure {g : Option Dk} {t : TgF} {c : DTT} {e : DT} {r : Sg} (b : D → Bool) (y : D → D) {Q : List D → Nat → Prop} : ∀ (ds acc : List D) (f : Nat),
    (∀ d ∈ ds, ∃ l, t d = some l ∧ (∀ (f : Nat) (Q : Bool → Nat → Prop), Q (b d) f → c g (setsR r l) f Q) ∧ (b d = true → ∀ (f : Nat) (Q : QD), Q (y d) f → e g (setsR r l) f Q)) →
    Q (acc ++ (ds.filter b).map y) f → dLcGo g t c e r ds acc f Q
  | [], acc, f, he, hq => by
    rw [List.filter_nil, List.map_nil, List.append_nil] at hq
    exact hq
  | d :: ds, acc, f, he, hq => by
    obtain ⟨l, hl, h1, h2⟩ := he d (by simp)
    simp only [dLcGo, hl]
    refine h1 f _ ?_
    cases hb : b d with
    | true =>
      rw [if_pos rfl]
      refine h2 hb f _ (dLcGo_pure b y ds (acc ++ [y d]) f (fun d' hd' => he d' (by simp [hd'])) ?_)
      rw [List.filter_cons, hb, if_pos rfl, List.map_cons] at hq
      rw [List.append_assoc]
      exact hq
    | false =>
      rw [if_neg Bool.false_ne_true]
      refine dLcGo_pure b y ds acc f (fun d' hd' => he d' (by simp [hd'])) ?_
      rw [List.filter_cons, hb, if_neg Bool.false_ne_true] at hq
      exact hq
theorem dFor_inv {g : Option Dk} {t : TgF} {body : DTS} {E : DEnds} (I : List D → Sg → Nat → Prop) : ∀ (ds : List D) (r : Sg) (f : Nat),
    (∀ d rest r f (N : Sg → Nat → Prop), I (d :: rest) r f → (∀ r' f', I rest r' f' → N r' f') → ∃ l, t d = some l ∧ body g (setsR r l) f { E with nx := N, ct := N, bk := E.nx }) →
    (∀ r f, I [] r f → E.nx r f) → I ds r f → dForGo g t body E ds r f
  | [], r, f, _, h0, h => h0 r f h
  | d :: ds, r, f, hs, h0, h => by
    obtain ⟨l, hl, hb⟩ := hs d ds r f (fun r' f' => dForGo g t body E ds r' f') h (fun r' f' h' => dFor_inv I ds r' f' hs h0 h')
    simp only [dForGo, hl]
    exact hb
end

/-! the law's own def -/
def spLaw (K : PySem.W.Frag) : Sp := fun vs H Q _ => ∃ (a : Addr) (ns : List Int), vs = [.ref a] ∧ SqL K H a (ns.map V.int) ∧ ns.length ≤ 63 ∧ ∀ H', Q (.bl true) H'
def spDeck (K : PySem.W.Frag) : Sp := fun vs H Q _ => ∃ (a : Addr) (ns : List Int), vs = [.ref a] ∧ SqL K H a (ns.map V.int) ∧ ns.length ≤ 63 ∧
  ∀ (H' : Hp) (k : Dk), Same H H' → H k.a = none → H k.b = none → H k.c = none → DkAt k H' 1000000000000 → Q (.ref k.a) H'
def startLaw (n : Nat) (k : Dk) : Sg := .no :: .sh (.any (.ref k.a)) :: List.replicate (n - 2) .no
theorem dlaw {P : Program} {w : World} {K : PySem.W.Frag} {mg : Str → Option Value} {base : Heap} {x qual y : Str} {s0 : Stmt} {rest : List Stmt} {st : Stmt} {f : Addr} {fd : FuncData} {N : List Str} {k : Nat} {dl : DTS} (F : Fun K x qual st f fd) (sc : FnScope N [y] (defScope st)) (hN : 2 ≤ N.length) (hbody : defBody st = s0 :: rest)
    (hb : ∀ (cdv : Value) (A : Around) (outer : List Env) (s : Shared) (H : Hp) (E : XK), Room k (A.deeper (envOfC qual (defScope st) s.heap.objs.size f cdv)) → PS (cxOf CX0 P w K mg base N qual (defScope st) f cdv A outer s H E).nox s0 (tAsg (tCall (spDeck K) [] E0 (tCons (tVar 0) tNil)) (gName 1)) ∧ DSs (cxOf CX0 P w K mg base N qual (defScope st) f cdv A outer s H E).nox rest dl)
    (h : ∀ dk : Dk, dl (some dk) (startLaw N.length dk) 1000000000000 { nx := fun _ _ => False, rt := fun d _ => d = .bool true }) : FnOk P w K mg base CX0 (k + 1) f fd [y] (spLaw K) := by
  refine F.ok sc (fun vs H Q E h => ?_) (fun cdv A outer s H vs Q E hr hsp => ?_)
  · obtain ⟨a, ns, rfl, _⟩ := h
    rfl
  · obtain ⟨a, ns, rfl, hS, hlen, q⟩ := hsp
    obtain ⟨h1, h2⟩ := hb cdv A outer s H E hr
    refine ⟨tSeq _ (sOf K dl), by rw [hbody]; exact pss_cons h1 h2.ps, ?_⟩
    obtain ⟨n, hn⟩ : ∃ n, N.length = n + 2 := ⟨N.length - 2, by omega⟩
    have e0 : L2.start N [V.ref a] = some (.ref a) :: none :: List.replicate n none := by
      unfold L2.start
      rw [hn]
      rfl
    refine ⟨.ref a, by rw [e0]; rfl, a, ns, rfl, hS, hlen, fun H' dk same n1 n2 n3 hd => ?_⟩
    refine h2.sn (some dk) H' (fun _ => none) (startLaw N.length dk) 1000000000000 _ H' _ { nx := fun _ _ => False, rt := fun d _ => d = .bool true } ⟨fun _ => none, ?_⟩ ⟨fun _ _ _ _ _ h => h.elim, fun d f v H2 Hs2 _ _ hr h => ?_, fun _ _ _ _ _ h => h.elim, fun _ _ _ _ _ h => h.elim⟩ (h dk)
    · have sub : Same (fun _ => none) H' := fun a o h => nomatch h
      refine ⟨?_, ⟨_, hd, rfl, rfl, rfl⟩, ⟨hd, rfl, rfl, rfl⟩, Stp.refl sub, fun i d hi => ?_, fun i sl hi ho => ?_, fun i j sl u b hi hj ho => ?_⟩
      · rw [e0, hn]; simp [startLaw]
      · rw [e0]
        unfold startLaw at hi
        match i, hi with
        | 0, hi => cases hi
        | 1, hi => cases hi; exact ⟨.ref dk.a, rfl, rfl⟩
        | i + 2, hi =>
          have hi : (List.replicate (N.length - 2) Sl.no)[i]? = some (.sh d) := hi
          rw [List.getElem?_replicate] at hi
          split at hi <;> cases hi
      all_goals
        exfalso
        have : ∀ (i : Nat) (s : Sl), (startLaw N.length dk)[i]? = some s → s.own = false := fun i s h => by
          have := List.mem_of_getElem? h
          unfold startLaw at this
          rcases List.mem_cons.mp this with h | h
          · rw [h]; rfl
          · rcases List.mem_cons.mp h with h | h
            · rw [h]; rfl
            · rw [(List.mem_replicate.mp h).2]; rfl
        rw [this i sl hi] at ho
        cases ho
    · subst h
      cases hr
      exact q H2
end DL

namespace DL
open PySem PySem.Spec PyProof.Rows L2

/-! texts as lists of codes; names between dots -/
abbrev cd (s : Str) : List Nat := TL.tl s
def sp : List Nat → List (List Nat)
  | [] => [[]]
  | c :: r => if c = 46 then [] :: sp r else match sp r with
    | [] => [[c]]
    | h :: t => (c :: h) :: t
theorem sp_ne : ∀ l : List Nat, sp l ≠ []
  | [] => by simp [sp]
  | c :: r => by
    unfold sp
    split
    · simp
    · split <;> simp
theorem spl_sp : ∀ (l acc : List Nat), TL.spl [46] 0 acc l = match sp l with
    | [] => [acc]
    | h :: t => (acc ++ h) :: t
  | [], acc => by rw [TL.spl_nil]; simp [sp]
  | c :: r, acc => by
    by_cases h : c = 46
    · subst h
      have hp : TL.pre [46] (46 :: r) = true := TL.pre_self [46] r
      rw [TL.spl_hit hp]
      have := spl_sp r []
      unfold sp
      rw [if_pos rfl]
      simp only [List.length_singleton, Nat.sub_self, List.append_nil]
      rw [this]
      cases e : sp r with
      | nil => exact absurd e (sp_ne r)
      | cons h t => simp
    · rw [TL.spl_miss (TL.pre_of_head [] r h), spl_sp r (acc ++ [c])]
      rw [sp, if_neg h]
      cases e : sp r with
      | nil => exact absurd e (sp_ne r)
      | cons h t => simp
theorem split_cd (x : Str) : (Txt.split x ".").map cd = sp (cd x) := by
  have := TL.split_spl x "." (by decide +kernel) (TL.kind_ok (by decide +kernel))
  rw [show TL.tl (Str.ofString ".") = [46] from by decide +kernel, spl_sp] at this
  rw [this]
  cases e : sp (cd x) with
  | nil => exact absurd e (sp_ne _)
  | cons h t => rfl
def jn : List (List Nat) → List Nat
  | [] => []
  | [a] => a
  | a :: b :: r => a ++ 46 :: jn (b :: r)
theorem joinL_jn : ∀ l : List (List Nat), TL.joinL [46] l = jn l
  | [] => rfl
  | [a] => rfl
  | a :: b :: r => by
    have := joinL_jn (b :: r)
    show a ++ ([46] ++ TL.joinL [46] (b :: r)) = a ++ 46 :: jn (b :: r)
    rw [this]
    rfl
theorem jn_sp : ∀ l : List Nat, jn (sp l) = l
  | [] => rfl
  | c :: r => by
    have ih := jn_sp r
    unfold sp
    split
    · next h =>
      subst h
      cases e : sp r with
      | nil => exact absurd e (sp_ne r)
      | cons h t =>
        rw [e] at ih
        show [] ++ 46 :: jn (h :: t) = 46 :: r
        rw [ih]
        rfl
    · cases e : sp r with
      | nil => exact absurd e (sp_ne r)
      | cons h t =>
        rw [e] at ih
        cases t with
        | nil => show c :: h = c :: r; rw [← ih]; rfl
        | cons b t => show (c :: h) ++ 46 :: jn (b :: t) = c :: r; rw [← ih]; rfl
theorem sp_free : ∀ (l n : List Nat), n ∈ sp l → 46 ∉ n
  | [], n, h => by simp [sp] at h; simp [h]
  | c :: r, n, h => by
    unfold sp at h
    split at h
    · rcases List.mem_cons.mp h with e | e
      · simp [e]
      · exact sp_free r n e
    · next hc =>
      cases e : sp r with
      | nil => exact absurd e (sp_ne r)
      | cons hd t =>
        rw [e] at h
        rcases List.mem_cons.mp h with e' | e'
        · subst e'
          have := sp_free r hd (by rw [e]; simp)
          simp only [List.mem_cons, not_or]
          exact ⟨fun z => hc z.symm, this⟩
        · exact sp_free r n (by rw [e]; simp [e'])
theorem sp_mem : ∀ (l n : List Nat) (c : Nat), n ∈ sp l → c ∈ n → c ∈ l
  | [], n, c, h, hc => by simp [sp] at h; simp [h] at hc
  | a :: r, n, c, h, hc => by
    unfold sp at h
    split at h
    · rcases List.mem_cons.mp h with e | e
      · simp [e] at hc
      · exact List.mem_cons_of_mem _ (sp_mem r n c e hc)
    · cases e : sp r with
      | nil => exact absurd e (sp_ne r)
      | cons hd t =>
        rw [e] at h
        rcases List.mem_cons.mp h with e' | e'
        · subst e'
          rcases List.mem_cons.mp hc with z | z
          · simp [z]
          · exact List.mem_cons_of_mem _ (sp_mem r hd c (by rw [e]; simp) z)
        · exact List.mem_cons_of_mem _ (sp_mem r n c (by rw [e]; simp [e']) hc)
theorem sp_one : ∀ {a : List Nat}, 46 ∉ a → sp a = [a]
  | [], _ => rfl
  | c :: r, h => by
    have hc : c ≠ 46 := fun e => h (by simp [e])
    have hr : 46 ∉ r := fun e => h (by simp [e])
    unfold sp
    rw [if_neg hc, sp_one hr]
theorem sp_app : ∀ (a r : List Nat), sp (a ++ 46 :: r) = sp a ++ sp r
  | [], r => by
    show sp (46 :: r) = [[]] ++ sp r
    rw [show sp (46 :: r) = if (46 : Nat) = 46 then [] :: sp r else _ from rfl, if_pos rfl]
    rfl
  | c :: a, r => by
    have ih := sp_app a r
    show sp (c :: (a ++ 46 :: r)) = _
    rw [sp, sp]
    by_cases h : c = 46
    · rw [if_pos h, if_pos h, ih]; rfl
    · rw [if_neg h, if_neg h, ih]
      cases e : sp a with
      | nil => exact absurd e (sp_ne a)
      | cons hd t => rfl
theorem jn_app : ∀ (a b : List (List Nat)), a ≠ [] → b ≠ [] → jn (a ++ b) = jn a ++ 46 :: jn b
  | [], _, h, _ => absurd rfl h
  | [x], [], _, h => absurd rfl h
  | [x], b :: r, _, _ => rfl
  | x :: y :: a, b, _, hb => by
    have := jn_app (y :: a) b (by simp) hb
    show x ++ 46 :: jn ((y :: a) ++ b) = (x ++ 46 :: jn (y :: a)) ++ 46 :: jn b
    rw [this]
    simp
theorem sp_jn : ∀ {l : List (List Nat)}, l ≠ [] → (∀ n ∈ l, 46 ∉ n) → sp (jn l) = l
  | [], h, _ => absurd rfl h
  | [a], _, h => sp_one (h a (by simp))
  | a :: b :: r, _, h => by
    show sp (a ++ 46 :: jn (b :: r)) = _
    rw [sp_app, sp_one (h a (by simp)), sp_jn (by simp) fun n hn => h n (by simp [hn])]
    rfl
theorem sp_inj {a b : List Nat} (h : sp a = sp b) : a = b := by rw [← jn_sp a, h, jn_sp]
/-- covering, by codes -/
theorem cov_iff (p o : List Nat) : (sp o).take (sp p).length = sp p ↔ o = p ∨ (p ++ [46]).isPrefixOf o = true := by
  constructor
  · intro h
    have e : sp o = sp p ++ (sp o).drop (sp p).length := by rw [← h, List.length_take]; rw [show min (sp p).length (sp o).length = (sp p).length from by have := congrArg List.length h; rw [List.length_take] at this; exact this]; rw [List.take_append_drop]
    by_cases hr : (sp o).drop (sp p).length = []
    · rw [hr, List.append_nil] at e
      exact .inl (sp_inj e)
    · right
      have := congrArg jn e
      rw [jn_sp, jn_app _ _ (sp_ne p) hr, jn_sp] at this
      rw [this, List.isPrefixOf_iff_prefix]
      exact ⟨jn ((sp o).drop (sp p).length), by simp⟩
  · rintro (h | h)
    · rw [h, List.take_length]
    · rw [List.isPrefixOf_iff_prefix] at h
      obtain ⟨r, rfl⟩ := h
      rw [List.append_assoc]
      show List.take _ (sp (p ++ 46 :: r)) = _
      rw [sp_app, List.take_left']
      rfl
theorem starts_cd (x y : Str) : Txt.startswith x y = (cd y).isPrefixOf (cd x) := by
  have hx : x.length = (cd x).length := TL.len_tl x
  have hy : y.length = (cd y).length := TL.len_tl y
  unfold Txt.startswith Builtin.Str.subAt
  rw [Bool.eq_iff_iff, Bool.and_eq_true, decide_eq_true_iff, List.isPrefixOf_iff_prefix, beq_iff_eq]
  constructor
  · rintro ⟨_, h⟩
    have e := congrArg Array.toList h
    rw [Array.toList_extract] at e
    simp only [Nat.zero_add, List.extract_eq_drop_take, List.drop_zero, Nat.sub_zero] at e
    exact ⟨(cd x).drop y.length, by show y.cps.toList ++ _ = _; rw [← e]; exact List.take_append_drop _ _⟩
  · rintro ⟨r, h⟩
    have hl := congrArg List.length h
    rw [List.length_append] at hl
    refine ⟨by omega, ?_⟩
    apply Array.toList_inj.mp
    rw [Array.toList_extract]
    simp only [Nat.zero_add, List.extract_eq_drop_take, List.drop_zero, Nat.sub_zero]
    show List.take y.length (cd x) = cd y
    rw [← h, hy, List.take_left']
    rfl
/-- path covers other -/
def cov (p o : Str) : Bool := decide (o = p) || Txt.startswith o (p ++ ".")
theorem cov_take (p o : Str) : cov p o = decide ((Txt.split o ".").take (Txt.split p ".").length = Txt.split p ".") := by
  have e1 := split_cd p
  have e2 := split_cd o
  have hl : (Txt.split p ".").length = (sp (cd p)).length := by rw [← e1, List.length_map]
  unfold cov
  rw [Bool.eq_iff_iff, Bool.or_eq_true, decide_eq_true_iff, decide_eq_true_iff, starts_cd, show cd (p ++ ".") = cd p ++ cd "." from TL.tl_append p ".", show cd (Str.ofString ".") = [46] from by decide +kernel]
  constructor
  · intro h
    have := (cov_iff (cd p) (cd o)).mpr (h.imp (fun e => by rw [e]) id)
    apply TL.map_tl_inj
    rw [List.map_take, hl]
    show List.take _ ((Txt.split o ".").map cd) = (Txt.split p ".").map cd
    rw [e1, e2]
    exact this
  · intro h
    have := congrArg (List.map cd) h
    rw [List.map_take, hl, e1, e2] at this
    exact ((cov_iff (cd p) (cd o)).mp this).imp (fun e => TL.ext_tl e) id

/-! plain texts -/
def asc (s : Str) : Prop := ∀ c ∈ cd s, c < 128
theorem asc_ok {s : Str} (h : asc s) : PyData.strOk s = true := by
  unfold PyData.strOk
  rw [Array.all_eq_true_iff_forall_mem]
  intro c hc
  have := h c (by simpa [cd, TL.tl] using hc)
  exact decide_eq_true (by omega)
theorem pyA_strs : ∀ l : List Str, pyA (l.map D.str) = l.map PyData.str
  | [] => rfl
  | x :: l => by show PyData.str x :: pyA (l.map D.str) = _; rw [pyA_strs l]; rfl
theorem lay_strs : ∀ {l : List Str}, (∀ s ∈ l, asc s) → PyData.canLayAll0 (l.map PyData.str) = true
  | [], _ => rfl
  | x :: l, h => Bool.and_eq_true_iff.mpr ⟨asc_ok (h x (by simp)), lay_strs fun s hs => h s (by simp [hs])⟩
theorem depth_strs : ∀ l : List Str, PyData.depthAll (l.map PyData.str) = 0
  | [] => rfl
  | x :: l => by show max 0 (PyData.depthAll (l.map PyData.str)) = 0; rw [depth_strs l]; rfl
theorem eqvAll_strs : ∀ l m : List Str, PyData.eqvAll (l.map PyData.str) (m.map PyData.str) = decide (l = m)
  | [], [] => rfl
  | [], _ :: _ => rfl
  | _ :: _, [] => rfl
  | x :: l, y :: m => by
    show ((x == y) && PyData.eqvAll (l.map PyData.str) (m.map PyData.str)) = _
    rw [eqvAll_strs l m, Bool.eq_iff_iff]
    simp
theorem shaped_strs {l : List Str} (h : ∀ s ∈ l, asc s) : SeqAt.shaped (D.lst (l.map D.str)).py = true := by
  show (PyData.canLayAll0 (pyA (l.map D.str)) && decide (PyData.depthAll (pyA (l.map D.str)) + 1 ≤ 64)) = true
  rw [pyA_strs, lay_strs h, depth_strs]
  rfl
theorem shaped_strsT {l : List Str} (h : ∀ s ∈ l, asc s) : SeqAt.shaped (D.tup (l.map D.str)).py = true := shaped_strs h
theorem oEq_lst {l m : List Str} {neg : Bool} {Q : D → Prop} (hl : ∀ s ∈ l, asc s) (hm : ∀ s ∈ m, asc s) (h : Q (.bool (xb neg (decide (l = m))))) : oEq neg (.lst (l.map D.str)) (.lst (m.map D.str)) Q := by
  refine oEq_data (shaped_strs hl) (shaped_strs hm) ?_
  show Q (.bool (xb neg (PyData.eqvAll (pyA (l.map D.str)) (pyA (m.map D.str)))))
  rw [pyA_strs, pyA_strs, eqvAll_strs]
  exact h
theorem oEq_tup {l m : List Str} {neg : Bool} {Q : D → Prop} (hl : ∀ s ∈ l, asc s) (hm : ∀ s ∈ m, asc s) (h : Q (.bool (xb neg (decide (l = m))))) : oEq neg (.tup (l.map D.str)) (.tup (m.map D.str)) Q := by
  refine oEq_data (shaped_strsT hl) (shaped_strsT hm) ?_
  show Q (.bool (xb neg (PyData.eqvAll (pyA (l.map D.str)) (pyA (m.map D.str)))))
  rw [pyA_strs, pyA_strs, eqvAll_strs]
  exact h
theorem asc_split {s : Str} (h : asc s) : ∀ x ∈ Txt.split s ".", asc x := fun x hx c hc => by
  have : cd x ∈ sp (cd s) := by rw [← split_cd]; exact List.mem_map_of_mem hx
  exact h c (sp_mem _ _ c this hc)
theorem cutD_take (xs : List D) (n : Nat) : cutD xs none (some (n : Int)) = xs.take n := by
  unfold cutD
  rw [HT.sIx_none, HT.sIx_nat]
  simp only [List.drop_zero, Nat.sub_zero]
  rw [← List.take_eq_take_min]
section
variable {K : PySem.W.Frag}
theorem shaped_ints (l : List Int) : SeqAt.shaped (.list (l.map PyData.int)) = true := by
  have h1 : PyData.canLayAll0 (l.map PyData.int) = true := by
    induction l with
    | nil => rfl
    | cons x l ih => exact Bool.and_eq_true_iff.mpr ⟨rfl, ih⟩
  have h2 : PyData.depthAll (l.map PyData.int) = 0 := by
    clear h1
    induction l with
    | nil => rfl
    | cons x l ih =>
      show max 0 (PyData.depthAll (l.map PyData.int)) = 0
      rw [ih]
      rfl
  unfold SeqAt.shaped
  show (PyData.canLayAll0 (l.map PyData.int) && decide (PyData.depthAll (l.map PyData.int) + 1 ≤ 64)) = true
  rw [h1, h2]
  rfl
theorem dp_ints {H : Hp} {a : Addr} {l : List Int} (h : H a = some (.lst (l.map V.int))) : Dp K H (.ref a) (.list (l.map PyData.int)) := by
  refine .lst (SqL.of h) ?_
  clear h
  induction l with
  | nil => exact .nil
  | cons x l ih => exact .cons (.int x) ih
theorem lo64 {x : Int} (h : 0 ≤ x) : -(2 ^ 64) < x := by omega
theorem hi64 {x : Int} (h : x < 2147483647) : x < 2 ^ 64 := by omega
theorem ix0 (n : Nat) : ixN (n + 1) 0 = some 0 := by
  unfold ixN
  rw [if_pos (by decide), if_pos (by omega)]
  rfl
theorem atI0 {α : Type} {x : α} {l : List α} : atI (x :: l) 0 = some x := atI_nat (j := 0) rfl
theorem same_upd {H : Hp} {p : Addr} {o : HO} (h : H p = none) : Same H (upd H p o) := fun b x e => by
  rw [upd_ne (ne_of_none e h)]
  exact e
end
end DL
namespace DL
open PySem PySem.Spec PyProof.Rows L2
/-! names and paths -/
def isName (s : Str) : Prop := 1 ≤ s.length ∧ s.length ≤ 8 ∧ ∀ c ∈ cd s, 97 ≤ c ∧ c ≤ 122
def PathN (m : Nat) (s : Str) : Prop := ∃ ns : List Str, 1 ≤ ns.length ∧ ns.length ≤ m ∧ (∀ n ∈ ns, isName n) ∧ s = Txt.join "." ns
theorem cd_join (ns : List Str) : cd (Txt.join "." ns) = jn (ns.map cd) := by
  rw [TL.join_eq]
  show TL.tl (Str.join "." ns) = _
  rw [TL.tl_join, show TL.tl (Str.ofString ".") = [46] from by decide +kernel, joinL_jn]
theorem jn_len : ∀ {l : List (List Nat)}, (∀ n ∈ l, n.length ≤ 8) → (jn l).length ≤ 9 * l.length
  | [], _ => Nat.zero_le _
  | [a], h => by have := h a (by simp); simp only [jn, List.length_singleton]; omega
  | a :: b :: r, h => by
    have ih := jn_len (l := b :: r) fun n hn => h n (by simp [hn])
    have := h a (by simp)
    simp only [jn, List.length_append, List.length_cons] at ih ⊢
    omega
theorem jn_mem {c : Nat} : ∀ {l : List (List Nat)}, c ∈ jn l → c = 46 ∨ ∃ n ∈ l, c ∈ n
  | [], h => by simp [jn] at h
  | [a], h => .inr ⟨a, by simp, h⟩
  | a :: b :: r, h => by
    have h : c ∈ a ++ 46 :: jn (b :: r) := h
    rcases List.mem_append.mp h with h | h
    · exact .inr ⟨a, by simp, h⟩
    · rcases List.mem_cons.mp h with h | h
      · exact .inl h
      · rcases jn_mem (l := b :: r) h with h | ⟨n, h1, h2⟩
        · exact .inl h
        · exact .inr ⟨n, by simp [h1], h2⟩
theorem isName.asc {s : Str} (h : isName s) : asc s := fun c hc => by have := h.2.2 c hc; omega
theorem isName.cdl {s : Str} (h : isName s) : (cd s).length ≤ 8 := by have := h.2.1; rw [TL.len_tl] at this; exact this
theorem PathN.mono {m n : Nat} {s : Str} (h : PathN m s) (e : m ≤ n) : PathN n s := by
  obtain ⟨ns, h1, h2, h3, h4⟩ := h
  exact ⟨ns, h1, by omega, h3, h4⟩
theorem PathN.len {m : Nat} {s : Str} (h : PathN m s) : s.length ≤ 9 * m := by
  obtain ⟨ns, h1, h2, h3, rfl⟩ := h
  have : (cd (Txt.join "." ns)).length ≤ 9 * (ns.map cd).length := by
    rw [cd_join]
    exact jn_len fun n hn => by
      obtain ⟨s, hs, rfl⟩ := List.mem_map.mp hn
      exact (h3 s hs).cdl
  rw [List.length_map] at this
  rw [TL.len_tl]
  show (cd (Txt.join "." ns)).length ≤ 9 * m
  omega
theorem PathN.asc {m : Nat} {s : Str} (h : PathN m s) : asc s := by
  obtain ⟨ns, h1, h2, h3, rfl⟩ := h
  intro c hc
  rw [cd_join] at hc
  rcases jn_mem hc with e | ⟨n, hn, e⟩
  · omega
  · obtain ⟨s, hs, rfl⟩ := List.mem_map.mp hn
    exact (h3 s hs).asc c e
theorem join_names (ns : List Str) (h : ∀ n ∈ ns, n.length ≤ 1000) (hl : ns.length ≤ 1000) (a : Str) (ha : a.length ≤ 8) : (ns.map (·.length)).sum + ns.length * a.length ≤ 16777216 := by
  have : ∀ ns : List Str, (∀ n ∈ ns, n.length ≤ 1000) → (ns.map (·.length)).sum ≤ 1000 * ns.length := by
    intro ns
    induction ns with
    | nil => intro _; exact Nat.le_refl _
    | cons x l ih =>
      intro h
      have h1 := h x (by simp)
      have h2 := ih fun n hn => h n (by simp [hn])
      simp only [List.map_cons, List.sum_cons, List.length_cons]
      omega
  have h1 := this ns h
  have h2 : ns.length * a.length ≤ ns.length * 8 := Nat.mul_le_mul_left _ ha
  omega
theorem strs_of {P : Str → Prop} : ∀ {ys : List D}, (∀ y ∈ ys, ∃ s, y = .str s ∧ P s) → ∃ l : List Str, ys = l.map D.str ∧ ∀ s ∈ l, P s
  | [], _ => ⟨[], rfl, by simp⟩
  | y :: ys, h => by
    obtain ⟨s, rfl, hs⟩ := h y (by simp)
    obtain ⟨l, rfl, hl⟩ := strs_of fun z hz => h z (List.mem_cons_of_mem _ hz)
    exact ⟨s :: l, rfl, fun x hx => by
      rcases List.mem_cons.mp hx with e | e
      · rw [e]; exact hs
      · exact hl x e⟩
theorem atI_mem {α : Type} {xs : List α} {r : Int} (h0 : 0 ≤ r) (h1 : r < xs.length) : ∃ d, atI xs r = some d ∧ d ∈ xs := by
  have hl : r.toNat < xs.length := by omega
  have := atI_nat (xs := xs) (j := r.toNat) (v := xs[r.toNat]) (List.getElem?_eq_getElem hl)
  rw [Int.toNat_of_nonneg h0] at this
  exact ⟨_, this, List.getElem_mem hl⟩
theorem join_nil_cd (ns : List Str) : cd (Txt.join "" ns) = (ns.map cd).flatten := by
  rw [TL.join_eq]
  show TL.tl (Str.join "" ns) = _
  rw [TL.tl_join, show TL.tl (Str.ofString "") = [] from by decide +kernel]
  have : ∀ l : List (List Nat), TL.joinL [] l = l.flatten := by
    intro l
    induction l with
    | nil => rfl
    | cons a l ih =>
      cases l with
      | nil => simp [TL.joinL]
      | cons b l => show a ++ ([] ++ TL.joinL [] (b :: l)) = _; rw [ih]; rfl
  exact this _
/-- texts of one small letter each, glued -/
theorem letters_name (ns : List Str) (h : ∀ n ∈ ns, ∃ c, cd n = [c] ∧ 97 ≤ c ∧ c ≤ 122) (h1 : 1 ≤ ns.length) (h2 : ns.length ≤ 8) : isName (Txt.join "" ns) := by
  have e : ∀ ns : List Str, (∀ n ∈ ns, ∃ c, cd n = [c] ∧ 97 ≤ c ∧ c ≤ 122) → ((ns.map cd).flatten).length = ns.length ∧ ∀ c ∈ (ns.map cd).flatten, 97 ≤ c ∧ c ≤ 122 := by
    intro ns
    induction ns with
    | nil => intro _; simp
    | cons x l ih =>
      intro h
      obtain ⟨c, hc, hb⟩ := h x (by simp)
      obtain ⟨i1, i2⟩ := ih fun n hn => h n (by simp [hn])
      rw [List.map_cons, List.flatten_cons, hc]
      refine ⟨by simp only [List.length_append, List.length_cons, List.length_nil, i1]; omega, fun d hd => ?_⟩
      rcases List.mem_append.mp hd with e | e
      · rw [List.mem_singleton.mp e]; exact hb
      · exact i2 d e
  obtain ⟨i1, i2⟩ := e ns h
  have hl : (Txt.join "" ns).length = ns.length := by rw [TL.len_tl]; show (cd (Txt.join "" ns)).length = _; rw [join_nil_cd, i1]
  refine ⟨by omega, by omega, fun c hc => ?_⟩
  rw [join_nil_cd] at hc
  exact i2 c hc
theorem letters_at {r : Int} (h0 : 0 ≤ r) (h1 : r < 26) : ∃ c, atI (Str.ofString "abcdefghijklmnopqrstuvwxyz").cps.toList r = some c ∧ 97 ≤ c ∧ c ≤ 122 := by
  obtain ⟨c, hc, hm⟩ := atI_mem (xs := (Str.ofString "abcdefghijklmnopqrstuvwxyz").cps.toList) h0 (by rw [show (Str.ofString "abcdefghijklmnopqrstuvwxyz").cps.toList.length = 26 from by decide +kernel]; exact h1)
  have : ∀ c ∈ (Str.ofString "abcdefghijklmnopqrstuvwxyz").cps.toList, 97 ≤ c ∧ c ≤ 122 := by decide +kernel
  exact ⟨c, hc, this c hm⟩
theorem intsD_len (lo : Int) (n : Nat) : (intsD lo n).length = n := by unfold intsD; simp
end DL

namespace DL
open PySem PySem.Spec PyProof.Rows L2
section
variable {X : Cx} {K : PySem.W.Frag}
/-! zip of two lists, of two tuples -/
def zipD (xs ys : List D) : List D := (xs.zip ys).map fun p => .tup [p.1, p.2]
theorem zipD_get {xs ys : List D} {i : Nat} {d : D} (h : (zipD xs ys)[i]? = some d) : ∃ x y, xs[i]? = some x ∧ ys[i]? = some y ∧ d = .tup [x, y] := by
  unfold zipD at h
  rw [List.getElem?_map] at h
  cases e : (xs.zip ys)[i]? with
  | none => rw [e] at h; cases h
  | some p =>
    rw [e] at h
    cases h
    obtain ⟨h1, h2⟩ := List.getElem?_zip_eq_some.mp e
    exact ⟨p.1, p.2, h1, h2, rfl⟩
theorem zipD_len (xs ys : List D) : (zipD xs ys).length = min xs.length ys.length := by unfold zipD; rw [List.length_map, List.length_zip]
def dZip (t : DTA) : DTA := fun g r f Q => t g r f fun ds f1 => match ds with
  | [.lst xs, .lst ys] => Q (zipD xs ys) f1
  | [.tup xs, .tup ys] => Q (zipD xs ys) f1
  | _ => False
theorem pair_stp {H Hs : Hp} {T : Addr} {x y : V} {dx dy : D} (s : Same Hs H) (hT : H T = none) (h1 : Rp K Hs dx x) (h2 : Rp K Hs dy y) : ∃ Hs', Stp none H Hs (upd H T (.tup [x, y])) Hs' ∧ Rp K Hs' (.tup [dx, dy]) (.ref T) :=
  ⟨upd Hs T (.tup [x, y]), Stp.alloc s hT, rp_tup ⟨x, [y], rfl, h1, RpA.one h2⟩ (same_none s hT)⟩
theorem walks_zipL {Hb : Hp} {a b : Addr} {vs ws : List V} {ds es : List D} (h1 : Hb a = some (.lst vs)) (h2 : RpA K Hb ds vs) (h3 : Hb b = some (.lst ws)) (h4 : RpA K Hb es ws) : Walks K (Itz K a b) Hb (zipD ds es) where
  go := fun i d H Hs s1 s2 e => by
    obtain ⟨x, y, ex, ey, rfl⟩ := zipD_get e
    obtain ⟨v, hv, hr⟩ := h2.get ex
    obtain ⟨u, hu, hq⟩ := h4.get ey
    have q1 : SqL K H a vs := SqL.of (s2 _ _ (s1 _ _ h1))
    have q2 : SqL K H b ws := SqL.of (s2 _ _ (s1 _ _ h3))
    refine ⟨⟨vs, ws, v, u, q1, q2, hv, hu⟩, ?_⟩
    rintro z H' ⟨T, x', y', rfl, hT, rfl, hx, hy⟩
    have e1 := hx vs q1
    have e2 := hy ws q2
    rw [hv] at e1; rw [hu] at e2
    cases e1; cases e2
    exact pair_stp s2 hT (hr.mono s1) (hq.mono s1)
  stop := fun H s => ⟨vs, ws, SqL.of (s _ _ h1), SqL.of (s _ _ h3), by
    have := zipD_len ds es
    rw [h2.length, h4.length] at this
    omega⟩
theorem walks_zipT {Hb : Hp} {a b : Addr} {vs ws : List V} {ds es : List D} (h1 : Hb a = some (.tup vs)) (h2 : RpA K Hb ds vs) (h3 : Hb b = some (.tup ws)) (h4 : RpA K Hb es ws) : Walks K (RZ.ItzT K a b) Hb (zipD ds es) where
  go := fun i d H Hs s1 s2 e => by
    obtain ⟨x, y, ex, ey, rfl⟩ := zipD_get e
    obtain ⟨v, hv, hr⟩ := h2.get ex
    obtain ⟨u, hu, hq⟩ := h4.get ey
    have q1 : SqT K H a vs := SqT.of (s2 _ _ (s1 _ _ h1))
    have q2 : SqT K H b ws := SqT.of (s2 _ _ (s1 _ _ h3))
    refine ⟨⟨vs, ws, v, u, q1, q2, hv, hu⟩, ?_⟩
    rintro z H' ⟨T, x', y', rfl, hT, rfl, hx, hy⟩
    have e1 := hx vs q1
    have e2 := hy ws q2
    rw [hv] at e1; rw [hu] at e2
    cases e1; cases e2
    exact pair_stp s2 hT (hr.mono s1) (hq.mono s1)
  stop := fun H s => ⟨vs, ws, SqT.of (s _ _ h1), SqT.of (s _ _ h3), by
    have := zipD_len ds es
    rw [h2.length, h4.length] at this
    omega⟩
theorem di_zip {e e2 : Expr} {d : DTA} {p pos tpos : Pos} {elts : List Expr} {kk : Nat} (hm : X.mg "zip" = none) (ha : DA X [e, e2] d) (hg : Gl X "zip" := by rfl)
    (hs : starEach [e, e2] X.env = (false, eval e X.env) :: starEach [e2] X.env := by rfl) (hpl : (backTo pos (starEach [e2] X.env)).any (·.1) = false := by rfl) :
    DI X (.Tuple elts kk tpos) (.Call (.Name "zip" p) [e, e2] [] pos) (dZip d) := DI.mk' (RZ.pi_zipA hg hm ha.pa hs hpl) fun g ro f st H Hs R Q' A hq hd =>
  ha.sn g ro f st H Hs _ _ A (fun ds f1 vs H1 Hs1 s1 k1 r1 q1 => by
    split at q1
    · obtain ⟨v, w, rfl, h, h'⟩ := rpA2 r1
      obtain ⟨a, vs, rfl, h1, h2⟩ := h
      obtain ⟨b, ws, rfl, h3, h4⟩ := h'
      exact ⟨a, b, vs, ws, rfl, .inl ⟨SqL.of (s1.sub _ _ h1), SqL.of (s1.sub _ _ h3), hq _ f1 _ H1 Hs1 s1 k1 (walks_zipL h1 h2 h3 h4) q1⟩⟩
    · obtain ⟨v, w, rfl, h, h'⟩ := rpA2 r1
      obtain ⟨a, vs, rfl, h1, h2⟩ := h
      obtain ⟨b, ws, rfl, h3, h4⟩ := h'
      exact ⟨a, b, vs, ws, rfl, .inr ⟨SqT.of (s1.sub _ _ h1), SqT.of (s1.sub _ _ h3), hq _ f1 _ H1 Hs1 s1 k1 (walks_zipT h1 h2 h3 h4) q1⟩⟩
    · exact q1.elim) hd
end

def D.isTup : D → Bool
  | .tup _ => true
  | _ => false
def D.isLst : D → Bool
  | .lst _ => true
  | _ => false
def D.isSt : D → Bool
  | .str _ => true
  | _ => false
def D.isBl : D → Bool
  | .bool _ => true
  | _ => false
def D.isIn : D → Bool
  | .int _ => true
  | .bool _ => true
  | _ => false
/-! data that are told apart sign by sign -/
mutual
def deqD : D → D → Bool
  | .none, .none => true
  | .bool a, .bool b => decide (a = b)
  | .int a, .int b => decide (a = b)
  | .str a, .str b => decide (a = b)
  | .tup xs, .tup ys => deqA xs ys
  | .lst xs, .lst ys => deqA xs ys
  | _, _ => false
def deqA : List D → List D → Bool
  | [], [] => true
  | x :: xs, y :: ys => deqD x y && deqA xs ys
  | _, _ => false
end
def zeq : D → Bool
  | .tup [a, b] => deqD a b
  | _ => false
mutual
/-- no objects within; dicts as they are -/
def D.tyd : D → Bool
  | .tup xs => tydA xs
  | .lst xs => tydA xs
  | .obj _ _ _ => false
  | .any _ => false
  | _ => true
def tydA : List D → Bool
  | [] => true
  | x :: xs => x.tyd && tydA xs
end
mutual
def D.plain : D → Bool
  | .tup xs => decide (xs.length ≤ 100000) && plainA xs
  | .lst xs => decide (xs.length ≤ 100000) && plainA xs
  | .dct _ _ => false
  | .obj _ _ _ => false
  | .any _ => false
  | _ => true
def plainA : List D → Bool
  | [] => true
  | x :: xs => x.plain && plainA xs
end
mutual
def D.dep : D → Nat
  | .tup xs => depA xs + 1
  | .lst xs => depA xs + 1
  | _ => 0
def depA : List D → Nat
  | [] => 0
  | x :: xs => max x.dep (depA xs)
end
mutual
theorem D.plain_tyd : ∀ {x : D}, x.plain = true → x.tyd = true
  | .none, _ => rfl
  | .bool _, _ => rfl
  | .int _, _ => rfl
  | .str _, _ => rfl
  | .tup xs, h => plainA_tyd (xs := xs) (Bool.and_eq_true_iff.mp h).2
  | .lst xs, h => plainA_tyd (xs := xs) (Bool.and_eq_true_iff.mp h).2
  | .dct _ _, h => by cases h
  | .obj _ _ _, h => by cases h
  | .any _, h => by cases h
theorem plainA_tyd : ∀ {xs : List D}, plainA xs = true → tydA xs = true
  | [], _ => rfl
  | x :: xs, h => by
    have h : (x.plain && plainA xs) = true := h
    rw [Bool.and_eq_true] at h
    show (x.tyd && tydA xs) = true
    rw [D.plain_tyd h.1, plainA_tyd h.2]
    rfl
end
theorem tydA_mem : ∀ {xs : List D} {x : D}, tydA xs = true → x ∈ xs → x.tyd = true
  | y :: ys, x, h, hx => by
    have h : (y.tyd && tydA ys) = true := h
    rw [Bool.and_eq_true] at h
    rcases List.mem_cons.mp hx with e | e
    · rw [e]; exact h.1
    · exact tydA_mem h.2 e
theorem plainA_mem : ∀ {xs : List D} {x : D}, plainA xs = true → x ∈ xs → x.plain = true
  | y :: ys, x, h, hx => by
    have h : (y.plain && plainA ys) = true := h
    rw [Bool.and_eq_true] at h
    rcases List.mem_cons.mp hx with e | e
    · rw [e]; exact h.1
    · exact plainA_mem h.2 e
theorem depA_mem : ∀ {xs : List D} {x : D}, x ∈ xs → x.dep ≤ depA xs
  | y :: ys, x, hx => by
    show x.dep ≤ max y.dep (depA ys)
    rcases List.mem_cons.mp hx with e | e
    · rw [e]; exact Nat.le_max_left _ _
    · exact Nat.le_trans (depA_mem e) (Nat.le_max_right _ _)
theorem deqA_len : ∀ {xs ys : List D}, xs.length ≠ ys.length → deqA xs ys = false
  | [], [], h => absurd rfl h
  | [], _ :: _, _ => rfl
  | _ :: _, [], _ => rfl
  | x :: xs, y :: ys, h => by
    show (deqD x y && deqA xs ys) = false
    rw [deqA_len fun e => h (by simp [e]), Bool.and_false]
theorem deqA_all : ∀ {xs ys : List D}, xs.length = ys.length → deqA xs ys = (xs.zip ys).all fun p => deqD p.1 p.2
  | [], [], _ => rfl
  | [], _ :: _, h => by simp at h
  | _ :: _, [], h => by simp at h
  | x :: xs, y :: ys, h => by
    show (deqD x y && deqA xs ys) = _
    rw [deqA_all (by simpa using h), List.zip_cons_cons, List.all_cons]
mutual
theorem deqD_refl : ∀ x : D, x.plain = true → deqD x x = true
  | .none, _ => rfl
  | .bool _, _ => decide_eq_true rfl
  | .int _, _ => decide_eq_true rfl
  | .str _, _ => decide_eq_true rfl
  | .tup xs, h => deqA_refl xs (Bool.and_eq_true_iff.mp h).2
  | .lst xs, h => deqA_refl xs (Bool.and_eq_true_iff.mp h).2
  | .dct _ _, h => by cases h
  | .obj _ _ _, h => by cases h
  | .any _, h => by cases h
theorem deqA_refl : ∀ xs : List D, plainA xs = true → deqA xs xs = true
  | [], _ => rfl
  | x :: xs, h => by
    have h : (x.plain && plainA xs) = true := h
    rw [Bool.and_eq_true] at h
    show (deqD x x && deqA xs xs) = true
    rw [deqD_refl x h.1, deqA_refl xs h.2]
    rfl
end
end DL

namespace DL
open PySem PySem.Spec PyProof.Rows L2
section
variable {X : Cx} {K : PySem.W.Frag}
/-! x.rpartition(sep) -/
def rRpart : V → List V → Hp → VK → Prop := fun x xs H Q => ∃ a b, x = .str a ∧ xs = [.str b] ∧ (b.length == 0) = false ∧ a.length ≤ sizeLine ∧
    ∀ p, H p = none → Q (.ref p) (upd H p (.tup [.str (Txt.rpartition a b).1, .str (Txt.rpartition a b).2.1, .str (Txt.rpartition a b).2.2]))
theorem mt_rpart : MtR X "str.rpartition" rRpart := by
  intro pins s st H x xs v us Q I rx rs h
  obtain ⟨a, b, rfl, rfl, hb, hz, h⟩ := h
  obtain ⟨t, rfl⟩ := rx
  cases rs with
  | cons r1 rs =>
    cases rs
    obtain ⟨u, rfl⟩ := r1
    refine call_meets F.slot_str_rpartition (typeIs_str _ _ _) F.entry_str_rpartition (F.args_str_rpartition_2 _ _) (meets_str_rpartition a b t u hb hz) ?_
    unfold Txt.rpartition at h
    revert h
    cases Builtin.Str.lastOccurrence a b 0 a.length with
    | none => intro h; exact laid_parts I h
    | some i => intro h; exact laid_parts I h
def oRpart : OM := fun x ds Q => match x, ds with
  | .str a, [.str b] => (b.length == 0) = false ∧ a.length ≤ lim ∧ Q (.tup [.str (Txt.rpartition a b).1, .str (Txt.rpartition a b).2.1, .str (Txt.rpartition a b).2.2])
  | _, _ => False
theorem sm_rpart : SndM K rRpart oRpart := fun H Hs x vx ds vs Q Q' s rx rs hq hd => by
  unfold oRpart at hd
  split at hd
  · obtain ⟨v, rfl, h⟩ := rpA1 rs
    cases h
    refine ⟨_, _, rx, rfl, hd.1, lim_le hd.2.1, fun p hp => hq (.tup _) _ _ _ (Stp.alloc s hp) (rp_tup ?_ (same_none s hp)) hd.2.2⟩
    exact ⟨_, _, rfl, rfl, _, _, rfl, rfl, _, _, rfl, rfl, rfl⟩
  · exact hd.elim
theorem de_rpart {o e : Expr} {apos pos : Pos} {d d2 : DT} (ho : DE X o d) (he : DE X e d2) (hs : starEach [e] X.env = [(false, eval e X.env)] := by rfl) (hbase : attributeBase o "rpartition" X.env (eval o X.env) = eval o X.env := by rfl) (hline : (apos.endLine == pos.line) = true := by rfl) :
    DE X (.Call (.Attribute o "rpartition" apos) [e] [] pos) (dM1 oRpart d d2) := .mk' (pe_m1 F.slot_str_rpartition F.type_str_rpartition mt_rpart ho.pe he.pe hs hbase hline) (snd_m1 sm_rpart ho.sn he.sn)
end
theorem pre_dot (l : List Nat) : TL.pre [46] l = true ↔ ∃ r, l = 46 :: r := by
  unfold TL.pre
  rw [beq_iff_eq]
  cases l with
  | nil => simp
  | cons c r => simp
theorem rpart_cases (x : Str) : (Txt.rpartition x "." = (Str.empty, Str.empty, x) ∧ 46 ∉ cd x) ∨ ∃ i, cd x = (cd x).take i ++ 46 :: (cd x).drop (i + 1) ∧ 46 ∉ (cd x).drop (i + 1) ∧ cd (Txt.rpartition x ".").1 = (cd x).take i ∧ cd (Txt.rpartition x ".").2.2 = (cd x).drop (i + 1) := by
  have hd : TL.tl (Str.ofString ".") = [46] := by decide +kernel
  have hne : TL.tl (Str.ofString ".") ≠ [] := by rw [hd]; simp
  have at_ : ∀ i, PySem.StrLaws.At x "." x.length i ↔ ∃ r, (cd x).drop i = 46 :: r := fun i => by
    rw [TL.at_iff hne i, hd]
    exact pre_dot _
  have mem : ∀ k, 46 ∈ (cd x).drop k → ∃ j, k ≤ j ∧ PySem.StrLaws.At x "." x.length j := fun k h => by
    obtain ⟨j, hj, e⟩ := List.getElem_of_mem h
    rw [List.getElem_drop] at e
    have hj' : k + j < (cd x).length := by rw [List.length_drop] at hj; omega
    exact ⟨k + j, Nat.le_add_right _ _, (at_ _).mpr ⟨_, by rw [List.drop_eq_getElem_cons hj', e]⟩⟩
  rcases PySem.StrLaws.last_spec x "." with ⟨h1, h2⟩ | ⟨i, h1, h2, h3⟩
  · left
    refine ⟨by unfold Txt.rpartition; rw [h1], fun h => ?_⟩
    obtain ⟨j, _, hj⟩ := mem 0 (by simpa using h)
    exact h2 j hj
  · right
    obtain ⟨r, hr⟩ := (at_ i).mp h2
    have hil : i < (cd x).length := by
      have := congrArg List.length hr
      rw [List.length_drop, List.length_cons] at this
      omega
    have e46 : (cd x)[i] = 46 := by
      rw [List.drop_eq_getElem_cons hil] at hr
      exact (List.cons.inj hr).1
    refine ⟨i, ?_, fun h => ?_, ?_, ?_⟩
    · conv => lhs; rw [← List.take_append_drop i (cd x), List.drop_eq_getElem_cons hil, e46]
    · obtain ⟨j, hj, ha⟩ := mem (i + 1) h
      exact h3 j (by omega) ha
    · unfold Txt.rpartition
      rw [h1]
      show TL.tl (Builtin.Str.strSub x 0 i) = _
      rw [TL.tl_strSub]
      simp
    · unfold Txt.rpartition
      rw [h1]
      show TL.tl (Builtin.Str.strSub x (i + 1) x.length) = _
      rw [TL.tl_strSub_end]
/-- the names of a text, and what rpartition tells of them -/
theorem rpart_names (x : Str) : (Txt.rpartition x ".").1 = (if (Txt.split x ".").length ≤ 1 then Str.empty else Txt.join "." (Txt.split x ".").dropLast) ∧ ∃ ns, Txt.split x "." = ns ++ [(Txt.rpartition x ".").2.2] := by
  have e := split_cd x
  rcases rpart_cases x with ⟨h1, h2⟩ | ⟨i, h1, h2, h3, h4⟩
  · rw [sp_one h2] at e
    have : Txt.split x "." = [x] := TL.map_tl_inj e
    rw [this, h1]
    exact ⟨rfl, [], rfl⟩
  · rw [h1, sp_app, sp_one h2] at e
    have hne := sp_ne ((cd x).take i)
    have hlen : 2 ≤ (Txt.split x ".").length := by
      have := congrArg List.length e
      rw [List.length_map, List.length_append, List.length_singleton] at this
      have : (sp ((cd x).take i)).length ≠ 0 := fun z => hne (List.length_eq_zero_iff.mp z)
      omega
    have hn : Txt.split x "." ≠ [] := fun z => by rw [z] at hlen; simp at hlen
    have hdl : (Txt.split x ".").dropLast.map cd = sp ((cd x).take i) := by
      rw [List.map_dropLast, e, List.dropLast_concat]
    have hlast : cd ((Txt.split x ".").getLast hn) = (cd x).drop (i + 1) := by
      have h5 : ((Txt.split x ".").map cd).getLast (by simpa using hn) = (cd x).drop (i + 1) := by
        simp only [e, List.getLast_append, List.getLast_singleton]; simp
      rw [List.getLast_map] at h5
      exact h5
    refine ⟨?_, (Txt.split x ".").dropLast, ?_⟩
    · rw [if_neg (by omega)]
      apply TL.ext_tl
      show cd _ = cd _
      rw [h3, cd_join, hdl, jn_sp]
    · conv => lhs; rw [← List.dropLast_concat_getLast hn]
      congr 2
      apply TL.ext_tl
      show cd _ = cd _
      rw [hlast, h4]
theorem split_join_names {ns : List Str} (h0 : ns ≠ []) (h : ∀ n ∈ ns, isName n) : Txt.split (Txt.join "." ns) "." = ns := by
  apply TL.map_tl_inj
  show List.map cd _ = List.map cd _
  rw [split_cd, cd_join, sp_jn (by simpa using h0)]
  intro n hn hm
  obtain ⟨s, hs, rfl⟩ := List.mem_map.mp hn
  have := (h s hs).2.2 46 hm
  omega
theorem join_snoc (ns : List Str) (n : Str) (h : ns ≠ []) : Txt.join "." ns ++ "." ++ n = Txt.join "." (ns ++ [n]) := by
  apply TL.ext_tl
  show cd _ = cd _
  rw [cd_join, List.map_append, List.map_singleton, jn_app _ _ (by simpa using h) (by simp)]
  show TL.tl _ = _
  rw [TL.tl_append, TL.tl_append, show TL.tl (Str.ofString ".") = [46] from by decide +kernel]
  show cd (Txt.join "." ns) ++ [46] ++ cd n = _
  rw [cd_join]
  simp [jn]
theorem cutD_init (xs : List D) : cutD xs none (some (-1)) = xs.dropLast := by
  unfold cutD HT.sIx
  rw [List.dropLast_eq_take]
  simp only [List.drop_zero, Nat.sub_zero]
  congr 1
  split <;> omega
end DL

namespace DL
open PySem PySem.Spec PyProof.Rows L2
section
variable {X : Cx} {K : PySem.W.Frag}
/-! x in y -/
def rInT (K : PySem.W.Frag) (neg : Bool) : R2 := fun x y H Q => ∃ d ds, Dp K H x d ∧ Dp K H y (.tuple ds) ∧ SeqAt.shaped d = true ∧ SeqAt.shaped (.tuple ds) = true ∧ Q (.bl (xb neg (ds.any fun z => PyData.eqv z d))) H
theorem op_inT (hu : X.A.units + 65 < cLine) : OpR X (compareOp .In) (rInT X.K false) := by
  intro pins s st H x y v u Q I rx ry h
  obtain ⟨d, ds, hd, he, sd, se, q⟩ := h
  obtain ⟨as, r1⟩ := Dp.reads I d x v hd rx
  obtain ⟨bs, r2⟩ := Dp.reads I (.tuple ds) y u he ry
  exact SeqAt.in_tuple_reads r2 r1 (SeqAt.canLay_of_shaped se) (SeqAt.canLay_of_shaped sd) (room_in_shaped sd hu) ⟨.bl _, H, I, rfl, q⟩
theorem op_notInT (hu : X.A.units + 65 < cLine) : OpR X (compareOp .NotIn) (rInT X.K true) := by
  intro pins s st H x y v u Q I rx ry h
  obtain ⟨d, ds, hd, he, sd, se, q⟩ := h
  obtain ⟨as, r1⟩ := Dp.reads I d x v hd rx
  obtain ⟨bs, r2⟩ := Dp.reads I (.tuple ds) y u he ry
  exact SeqAt.notIn_tuple_reads r2 r1 (SeqAt.canLay_of_shaped se) (SeqAt.canLay_of_shaped sd) (room_in_shaped sd hu) ⟨.bl _, H, I, rfl, q⟩
def rSign (neg : Bool) : R2 := fun x y H Q => ∃ (c : Nat) (z : Str), x = .str ⟨#[c]⟩ ∧ y = .str z ∧ Q (.bl (xb neg (decide (c ∈ z.cps.toList)))) H
def rInA (K : PySem.W.Frag) : R2 := fun x y H Q => rSign false x y H Q ∨ (rInD K x y H Q ∨ rInT K false x y H Q)
def rNotInA (K : PySem.W.Frag) : R2 := fun x y H Q => rSign true x y H Q ∨ (rNotInD K x y H Q ∨ rInT K true x y H Q)
theorem op_inA (hu : X.A.units + 65 < cLine) : OpR X (compareOp .In) (rInA X.K) := (show OpR X (compareOp .In) (rSign false) from op_in_sign).or ((op_inD hu).or (op_inT hu))
theorem op_notInA (hu : X.A.units + 65 < cLine) : OpR X (compareOp .NotIn) (rNotInA X.K) := (show OpR X (compareOp .NotIn) (rSign true) from op_notIn_sign).or ((op_notInD hu).or (op_notInT hu))
def oIn (neg : Bool) : O2 := fun x y Q => match y with
  | .str z => ∃ c : Nat, x = .str ⟨#[c]⟩ ∧ Q (.bool (xb neg (decide (c ∈ z.cps.toList))))
  | .lst ys => SeqAt.shaped x.py = true ∧ SeqAt.shaped (.list (pyA ys)) = true ∧ Q (.bool (xb neg ((pyA ys).any fun z => PyData.eqv z x.py)))
  | .tup ys => SeqAt.shaped x.py = true ∧ SeqAt.shaped (.tuple (pyA ys)) = true ∧ Q (.bool (xb neg ((pyA ys).any fun z => PyData.eqv z x.py)))
  | _ => False
theorem sr_in : SndR K (rInA K) (oIn false) := SndR.pure fun H Hs x y vx vy Q Q' s rx ry hq hd => by
  cases y <;> try exact hd.elim
  · obtain ⟨c, rfl, h⟩ := hd
    exact .inl ⟨c, _, rx, ry, hq (.bool _) _ rfl h⟩
  · next ys => exact .inr (.inr ⟨x.py, pyA ys, dp_mono s (rx.dpS hd.1), dp_mono s (Rp.dpS (d := .tup ys) ry hd.2.1), hd.1, hd.2.1, hq (.bool _) _ rfl hd.2.2⟩)
  · next ys => exact .inr (.inl ⟨x.py, pyA ys, dp_mono s (rx.dpS hd.1), dp_mono s (Rp.dpS (d := .lst ys) ry hd.2.1), hd.1, hd.2.1, hq (.bool _) _ rfl hd.2.2⟩)
theorem sr_notIn : SndR K (rNotInA K) (oIn true) := SndR.pure fun H Hs x y vx vy Q Q' s rx ry hq hd => by
  cases y <;> try exact hd.elim
  · obtain ⟨c, rfl, h⟩ := hd
    exact .inl ⟨c, _, rx, ry, hq (.bool _) _ rfl h⟩
  · next ys => exact .inr (.inr ⟨x.py, pyA ys, dp_mono s (rx.dpS hd.1), dp_mono s (Rp.dpS (d := .tup ys) ry hd.2.1), hd.1, hd.2.1, hq (.bool _) _ rfl hd.2.2⟩)
  · next ys => exact .inr (.inl ⟨x.py, pyA ys, dp_mono s (rx.dpS hd.1), dp_mono s (Rp.dpS (d := .lst ys) ry hd.2.1), hd.1, hd.2.1, hq (.bool _) _ rfl hd.2.2⟩)
theorem room65 {k : Nat} {A : Around} (r : Room k A) : A.units + 65 < cLine := by have := r.un; omega
theorem de_in {k : Nat} {a b : Expr} {pos : Pos} {da db : DT} (hr : Room k X.A) (ha : DE X a da) (hb : DE X b db) (hm : behindInMarks .In b = false := by rfl) : DE X (.Compare a [.In] [b] pos) (dOp (oIn false) da db) := de_cmp (op_inA (room65 hr)) sr_in ha hb hm
theorem de_notIn {k : Nat} {a b : Expr} {pos : Pos} {da db : DT} (hr : Room k X.A) (ha : DE X a da) (hb : DE X b db) (hm : behindInMarks .NotIn b = false := by rfl) : DE X (.Compare a [.NotIn] [b] pos) (dOp (oIn true) da db) := de_cmp (op_notInA (room65 hr)) sr_notIn ha hb hm
theorem dp_in {k : Nat} {a b : Expr} {pos : Pos} {da db : DT} (hr : Room k X.A) (ha : DE X a da) (hb : DE X b db) (hm : behindInMarks .In b = false := by rfl) : DP X (.Compare a [.In] [b] pos) (dTest (dOp (oIn false) da db)) := dp_cmp (op_inA (room65 hr)) sr_in ha hb hm
theorem dp_notIn {k : Nat} {a b : Expr} {pos : Pos} {da db : DT} (hr : Room k X.A) (ha : DE X a da) (hb : DE X b db) (hm : behindInMarks .NotIn b = false := by rfl) : DP X (.Compare a [.NotIn] [b] pos) (dTest (dOp (oIn true) da db)) := dp_cmp (op_notInA (room65 hr)) sr_notIn ha hb hm

/-! text * number -/
def CMulS (x : Str) (n : Int) : Prop := 0 ≤ n ∧ n ≤ 100000 ∧ x.length * n.toNat ≤ lim
theorem CMulS.ok {x : Str} {n : Int} (h : CMulS x n) : MulOk x n := by
  obtain ⟨h0, h1, h2⟩ := h
  refine ⟨?_, fun a b c => ?_, fun a b => ?_⟩
  · rw [decide_eq_false (by omega), decide_eq_false (by omega)]; rfl
  · have h3 : (x.length : Int) ≤ (2 ^ 63 - 1) / n := by
      rw [Int.le_ediv_iff_mul_le (by omega)]
      have e : (x.length : Int) * n = ((x.length * n.toNat : Nat) : Int) := by rw [Int.natCast_mul, Int.toNat_of_nonneg h0]
      rw [e]
      have : lim = 1000000 := rfl
      omega
    omega
  · unfold Builtin.Str.tooLong
    exact decide_eq_false (by have := lim_le h2; omega)
def oMulS : O2 := fun x y Q => match x, y with
  | .str x, .int n => CMulS x n ∧ Q (.str (Txt.mul x n))
  | _, _ => False
def rMulS : R2 := fun x y H Q => ∃ z n, x = .str z ∧ y = .int n ∧ MulOk z n ∧ Q (.str (Txt.mul z n)) H
theorem op_mulS : OpR X (binaryOp .Mult) rMulS := by
  intro pins s st H x y v u Q I rx ry h
  obtain ⟨z, n, rfl, rfl, hok, q⟩ := h
  obtain ⟨t, rfl⟩ := rx
  obtain ⟨t', rfl⟩ := ry
  exact PySem.SB.mul hok fun tk k => ⟨.str _, H, I.tok k, ⟨tk, rfl⟩, q⟩
theorem sr_mulS : SndR K rMulS oMulS := SndR.pure fun H Hs x y vx vy Q Q' s rx ry hq hd => by
  cases x <;> try exact hd.elim
  cases y <;> try exact hd.elim
  exact ⟨_, _, rx, ry, hd.1.ok, hq (.str _) _ rfl hd.2⟩
theorem de_mulS {a b : Expr} {pos : Pos} {da db : DT} (ha : DE X a da) (hb : DE X b db) : DE X (.BinOp a .Mult b pos) (dOp oMulS da db) := de_op op_mulS sr_mulS ha hb

/-! {} and {k: v} -/
def dDict0 : DT := fun _ _ f Q => Q (.dct [] []) f
theorem de_dict0 {pos : Pos} : DE X (.Dict [] [] pos) dDict0 := .mk' (pe_dnewK) (fun g ro f st H Hs Q Q' A hq hd p hp => by
  have al : Stp none H Hs (upd H p (.dK [])) (upd Hs p (.dK [])) := Stp.alloc A.sub hp
  exact hq (.dct [] []) f _ _ _ al.gen (A.dk.stp al) ⟨p, [], rfl, upd_same, rfl, rfl⟩ hd)
def dDict1 (k v : DT) : DT := fun g r f Q => k g r f fun x f1 => v g r f1 fun y f2 => match x with
  | .str s => Q (.dct [.inr s] [y]) f2
  | _ => False
theorem de_dict1 {k v : Expr} {pos : Pos} {dk dv : DT} (hk : DE X k dk) (hv : DE X v dv) : DE X (.Dict [some k] [v] pos) (dDict1 dk dv) := .mk' (pe_disp (pps_cons hk.pe hv.pe pps_nil) (by rfl) (by rfl) (fun z => by cases z) (show 1 ≤ 15 by decide)) (fun g ro f st H Hs Q Q' A hq hd p hp => by
  have al : Stp none H Hs (upd H p (.dK [])) Hs := Stp.lay A.sub hp
  have nk := A.dk.out hp
  have A0 : At X.K g ro f st (upd H p (.dK [])) Hs := ⟨al.sub, A.dk.stp al, A.sl⟩
  refine hk.sn g ro f st _ Hs _ _ A0 (fun x f1 vx H1 Hs1 s1 k1 r1 q1 => hv.sn g ro f1 st H1 Hs1 _ _ (A0.step s1 k1) (fun y f2 vy H2 Hs2 s2 k2 r2 q2 => ?_) q1) hd
  cases x <;> try exact q2.elim
  next sx =>
  have st2 := (al.gen.trans s1).trans s2
  have e1 : H1 p = some (.dK []) := s1.keep p _ upd_same nk
  have e2 : H2 p = some (.dK []) := s2.keep p _ e1 nk
  have n0 : Hs p = none := same_none A.sub hp
  have n1 : Hs1 p = none := s1.new p _ upd_same n0
  have n2 : Hs2 p = none := s2.new p _ e1 n1
  refine ⟨e2, [(.inr sx, vy)], by rw [show vx = V.str sx from r1]; rfl, (by decide : 1 ≤ 15), ?_⟩
  have st3 : Stp g H Hs (upd H2 p (.dK [(.inr sx, vy)])) Hs2 := st2.mut hp n2
  have st4 := st3.share hp upd_same n2
  refine hq (.dct [.inr sx] [y]) f2 (.ref p) _ _ st4 ((k2.mut nk).share nk) ⟨p, [vy], rfl, upd_same, rfl, RpA.one (r2.mono fun b u e => ?_)⟩ q2
  rw [upd_ne (ne_of_none e n2)]
  exact e)
end
end DL

namespace DL
open PySem PySem.Spec PyProof.Rows L2
def topS (i : Nat) : Stmt := PySem.Challenge.pw_mayrest_k01_path_forms.main.body.getD i (.Pass ⟨0, 0, 0, 0⟩)
section
variable {P : Program} {w : World} {K : PySem.W.Frag} {mg : Str → Option Value} {base : Heap}
/-! _law_says -/
abbrev s__law_says : Stmt := topS 9
theorem sc__law_says : FnScope ["_law_found", "_law_due"] ["_law_found", "_law_due"] (defScope s__law_says) := ⟨rfl, rfl, rfl, by decide +kernel, rfl, by decide +kernel, by decide +kernel⟩
def Sp__law_says : DSp := fun _ ds f Q => ∃ a b : Bool, ds = [.bool a, .bool b] ∧ Q (.bool (decide (a = b))) f
theorem ok__law_says (d : Df K mg "_law_says" s__law_says) (m_bool : mg "bool" = none) (m_isinstance : mg "isinstance" = none) : Cal P w K mg base 1 "_law_says" ["_law_found", "_law_due"] Sp__law_says := by
  obtain ⟨f, fd, F, m⟩ := d
  refine ⟨f, fd, dfn (k := 0) (S := Sp__law_says) F sc__law_says ?len (fun cdv A outer s H E hr => (dss_one (ds_ret (de_and (de_isi m_isinstance (da_cons (de_v 0) (da_cons (de_bltn (v := .ty "bool") (u := .type "bool") (by rfl) m_bool (by decide +kernel) rfl) da_nil))) (de_one (de_eq hr.units (de_v 0) (de_v 1))))))) ?h, F.kp, F.binds fun _ _ _ _ _ _ us hl => match us, hl with | [_, _], _ => rfl, m⟩
  case len =>
    intro g ds n Q h; obtain ⟨_, _, rfl, _⟩ := h; rfl
  case h =>
    intro g ds n Q h
    obtain ⟨a, b, rfl, q⟩ := h
    exact ⟨"bool", true, rfl, by decide +kernel, q⟩
/-! is_name -/
abbrev s_is_name : Stmt := topS 4
theorem sc_is_name : FnScope ["value", "sign"] ["value"] (defScope s_is_name) := ⟨rfl, rfl, rfl, by decide +kernel, rfl, by decide +kernel, by decide +kernel⟩
def letL : List Nat := (Str.ofString "abcdefghijklmnopqrstuvwxyz").cps.toList
def nmB (s : Str) : Bool := decide (1 ≤ s.length) && decide (s.length ≤ 8) && (cd s).all fun c => decide (c ∈ letL)
def Sp_is_name : DSp := fun _ ds f Q => ∃ s : Str, ds = [.str s] ∧ s.length ≤ 100000 ∧ Q (.bool (nmB s)) f
theorem ok_is_name (d : Df K mg "is_name" s_is_name) (m_all : mg "all" = none) (m_len : mg "len" = none) (m_str : mg "str" = none) (m_isinstance : mg "isinstance" = none) (g_LETTERS : ∃ t, mg "LETTERS" = some (.str "abcdefghijklmnopqrstuvwxyz" t)) (g_MAX_LETTERS : ∃ t, mg "MAX_LETTERS" = some (.int 8 t)) : Cal P w K mg base 1 "is_name" ["value"] Sp_is_name := by
  obtain ⟨f, fd, F, m⟩ := d
  refine ⟨f, fd, dfn (k := 0) (S := Sp_is_name) F sc_is_name ?len (fun cdv A outer s H E hr => (dss_one (ds_ret (de_and (de_isi m_isinstance (da_cons (de_v 0) (da_cons (de_bltn (v := .ty "str") (u := .type "str") (by rfl) m_str (by decide +kernel) rfl) da_nil))) (de_and (de_lele de_int (de_len m_len (da_cons (de_v 0) da_nil)) (de_glob (v := .int 8) (d := .int 8) (by rfl) g_MAX_LETTERS.choose_spec ⟨_, rfl⟩ (fun _ => rfl))) (de_one (de_callB (cr_all rfl) sc_all (by rfl) m_all (by decide +kernel) (da_cons (dl_lc (own := [("sign", 1)]) rfl sc_is_name.nd (di_seq (de_v 0)) (blkOk_by (own := [("sign", 1)]) (N := ["value", "sign"]) (sc := defScope s_is_name) (by decide +kernel)) (fun _ _ _ _ _ => dg_name (i := 1) sc_is_name.nd) (fun _ _ _ _ _ => dts_nil) (fun _ _ _ _ _ => (de_in hr (de_v 1) (de_glob (v := .str "abcdefghijklmnopqrstuvwxyz") (d := .str "abcdefghijklmnopqrstuvwxyz") (by rfl) g_LETTERS.choose_spec ⟨_, rfl⟩ (fun _ => rfl))))).e da_nil)))))))) ?h, F.kp, F.binds fun _ _ _ _ _ _ us hl => match us, hl with | [_], _ => rfl, m⟩
  case len =>
    intro g ds n Q h; obtain ⟨_, rfl, _⟩ := h; rfl
  case h =>
    intro g ds n Q h
    obtain ⟨s, rfl, hl, q⟩ := h
    refine ⟨"str", true, rfl, by decide +kernel, Nat.le_trans hl (by decide), ?_⟩
    unfold nmB at q
    show if decide ((1 : Int) ≤ (s.length : Int)) = true then _ else _
    by_cases h1 : 1 ≤ s.length
    · rw [decide_eq_true (by omega : (1 : Int) ≤ s.length)]
      rw [decide_eq_true h1, Bool.true_and] at q
      show if decide ((s.length : Int) ≤ 8) = true then _ else _
      by_cases h2 : s.length ≤ 8
      · rw [decide_eq_true (by omega : (s.length : Int) ≤ 8)]
        rw [decide_eq_true h2, Bool.true_and] at q
        refine ⟨?_, ?_⟩
        · unfold signs; rw [List.length_map]; rw [TL.len_tl] at h2; exact Nat.le_trans h2 (by decide)
        refine dLcGo_pure (fun _ => true) (fun d => match d with | .str z => .bool ((cd z).all fun c => decide (c ∈ letL)) | _ => .none) _ _ _ (fun d hd => ?_) ?_
        · unfold signs at hd
          obtain ⟨c, hc, rfl⟩ := List.mem_map.mp hd
          refine ⟨_, rfl, fun f Q h => h, fun _ f Q h => ⟨c, rfl, ?_⟩⟩
          have : ((cd (⟨#[c]⟩ : Str)).all fun c => decide (c ∈ letL)) = decide (c ∈ letL) := by show ([c].all fun c => decide (c ∈ letL)) = _; simp
          have h : Q (.bool ((cd (⟨#[c]⟩ : Str)).all fun c => decide (c ∈ letL))) f := h
          rw [this] at h
          exact h
        · refine ⟨(cd s).map fun c => decide (c ∈ letL), ?_, ?_⟩
          · rw [List.filter_eq_self.mpr (fun _ _ => rfl), List.nil_append]
            unfold signs
            rw [List.map_map, List.map_map]
            apply List.map_congr_left
            intro c _
            show D.bool ((cd (⟨#[c]⟩ : Str)).all fun c => decide (c ∈ letL)) = D.bool (decide (c ∈ letL))
            congr 1
            show ([c].all fun c => decide (c ∈ letL)) = _
            simp
          · rw [show (((cd s).map fun c => decide (c ∈ letL)).all id) = (cd s).all fun c => decide (c ∈ letL) from by rw [List.all_map]; rfl]
            exact q
      · rw [decide_eq_false (by omega : ¬ (s.length : Int) ≤ 8)]
        rw [decide_eq_false h2, Bool.false_and] at q
        exact q
    · rw [decide_eq_false (by omega : ¬ (1 : Int) ≤ s.length)]
      rw [decide_eq_false h1, Bool.false_and, Bool.false_and] at q
      exact q
/-! is_path -/
abbrev s_is_path : Stmt := topS 5
theorem sc_is_path : FnScope ["value", "names", "name"] ["value"] (defScope s_is_path) := ⟨rfl, rfl, rfl, by decide +kernel, rfl, by decide +kernel, by decide +kernel⟩
def pathB (s : Str) : Bool := decide ((Txt.split s ".").length ≤ 6) && (Txt.split s ".").all nmB
def isPathD : D → Bool
  | .str s => pathB s
  | _ => false
def Sp_is_path : DSp := fun _ ds f Q => ∃ x : D, ds = [x] ∧ x.tyd = true ∧ (∀ s, x = .str s → s.length ≤ 100000) ∧ Q (.bool (isPathD x)) f
theorem tyd_isi {x : D} (h : x.tyd = true) : ∃ t, x.tyN = some t ∧ kitB t "str" = some x.isSt := by
  cases x <;> first
    | (cases h; done)
    | (refine ⟨_, rfl, ?_⟩; simp only [D.isSt]; decide +kernel)
theorem split_len (s : Str) : (Txt.split s ".").length ≤ s.length + 1 := by
  have h := split_cd s
  have e : (Txt.split s ".").length = (sp (cd s)).length := by rw [← h, List.length_map]
  have : ∀ l : List Nat, (sp l).length ≤ l.length + 1 := by
    intro l
    induction l with
    | nil => exact Nat.le_refl _
    | cons c r ih =>
      unfold sp
      split
      · simp only [List.length_cons]; omega
      · cases e : sp r with
        | nil => simp
        | cons a t => rw [e] at ih; simp only [List.length_cons] at ih ⊢; omega
  rw [e, TL.len_tl]
  exact this _
theorem split_part_len {s x : Str} (h : x ∈ Txt.split s ".") : x.length ≤ s.length := by
  have hm : cd x ∈ sp (cd s) := by rw [← split_cd]; exact List.mem_map_of_mem h
  have : ∀ (l n : List Nat), n ∈ sp l → n.length ≤ l.length := by
    intro l
    induction l with
    | nil => intro n hn; simp [sp] at hn; simp [hn]
    | cons c r ih =>
      intro n hn
      unfold sp at hn
      split at hn
      · rcases List.mem_cons.mp hn with e | e
        · simp [e]
        · have := ih n e; simp only [List.length_cons]; omega
      · cases e : sp r with
        | nil => exact absurd e (sp_ne r)
        | cons a t =>
          rw [e] at hn ih
          rcases List.mem_cons.mp hn with e' | e'
          · subst e'; have := ih a (by simp); simp only [List.length_cons]; omega
          · have := ih n (by simp [e']); simp only [List.length_cons]; omega
  rw [TL.len_tl, TL.len_tl]
  exact this _ _ hm
theorem ok_is_path (d : Df K mg "is_path" s_is_path) (m_all : mg "all" = none) (m_len : mg "len" = none) (m_str : mg "str" = none) (m_isinstance : mg "isinstance" = none) (g_MAX_NAMES : ∃ t, mg "MAX_NAMES" = some (.int 6 t)) (c_is_name : Cal P w K mg base 1 "is_name" ["value"] Sp_is_name) : Cal P w K mg base 2 "is_path" ["value"] Sp_is_path := by
  obtain ⟨f, fd, F, m⟩ := d
  refine ⟨f, fd, dfn (k := 1) (S := Sp_is_path) F sc_is_path ?len (fun cdv A outer s H E hr => (dss_cons (ds_if (dp_not (dp_val (de_isi m_isinstance (da_cons (de_v 0) (da_cons (de_bltn (v := .ty "str") (u := .type "str") (by rfl) m_str (by decide +kernel) rfl) da_nil))))) (dss_one (ds_ret de_bl)) dss_nil)
      (dss_cons (ds_set false (i := 1) sc_is_path.nd (dl_split (de_v 0) de_str).e)
      (dss_one (ds_ret (de_and (de_le (de_len m_len (da_cons (de_v 1) da_nil)) (de_glob (v := .int 6) (d := .int 6) (by rfl) g_MAX_NAMES.choose_spec ⟨_, rfl⟩ (fun _ => rfl))) (de_one (de_callB (cr_all rfl) sc_all (by rfl) m_all (by decide +kernel) (da_cons (dl_lc (own := [("name", 2)]) rfl sc_is_path.nd (di_seq (de_v 1)) (blkOk_by (own := [("name", 2)]) (N := ["value", "names", "name"]) (sc := defScope s_is_path) (by decide +kernel)) (fun _ _ _ _ _ => dg_name (i := 2) sc_is_path.nd) (fun _ _ _ _ _ => dts_nil) (fun _ _ _ _ _ => (de_callC c_is_name (hr.mono (by decide)) (da_cons (de_v 2) da_nil)))).e da_nil))))))))) ?h, F.kp, F.binds fun _ _ _ _ _ _ us hl => match us, hl with | [_], _ => rfl, m⟩
  case len =>
    intro g ds n Q h; obtain ⟨_, rfl, _⟩ := h; rfl
  case h =>
    intro g ds n Q h
    obtain ⟨x, rfl, hx, hl, q⟩ := h
    obtain ⟨t, ht, hk⟩ := tyd_isi hx
    refine ⟨t, _, ht, hk, ?_⟩
    cases x with
    | str s =>
      have hs := hl s rfl
      refine ⟨by decide +kernel, Nat.le_trans hs (by decide), ?_⟩
      show if decide ((((Txt.split s ".").map D.str).length : Int) ≤ 6) = true then _ else _
      rw [List.length_map]
      have q : Q (.bool (decide ((Txt.split s ".").length ≤ 6) && (Txt.split s ".").all nmB)) n := q
      by_cases h6 : (Txt.split s ".").length ≤ 6
      · rw [decide_eq_true (by omega : ((Txt.split s ".").length : Int) ≤ 6)]
        rw [decide_eq_true h6, Bool.true_and] at q
        refine ⟨by rw [List.length_map]; exact Nat.le_trans h6 (by decide), ?_⟩
        refine dLcGo_pure (fun _ => true) (fun d => match d with | .str z => .bool (nmB z) | _ => .none) _ _ _ (fun d hd => ?_) ?_
        · obtain ⟨z, hz, rfl⟩ := List.mem_map.mp hd
          exact ⟨_, rfl, fun f Q h => h, fun _ f Q h => ⟨z, rfl, Nat.le_trans (split_part_len hz) hs, h⟩⟩
        · refine ⟨(Txt.split s ".").map nmB, ?_, ?_⟩
          · rw [List.filter_eq_self.mpr (fun _ _ => rfl), List.nil_append, List.map_map, List.map_map]; rfl
          · rw [show (((Txt.split s ".").map nmB).all id) = (Txt.split s ".").all nmB from by rw [List.all_map]; rfl]
            exact q
      · rw [decide_eq_false (by omega : ¬ ((Txt.split s ".").length : Int) ≤ 6)]
        rw [decide_eq_false h6, Bool.false_and] at q
        exact q
    | obj _ _ _ => cases hx
    | any _ => cases hx
    | _ => exact q
/-! _law_is_path -/
abbrev s__law_is_path : Stmt := topS 10
theorem sc__law_is_path : FnScope ["_law_value", "_law_names", "_law_wrong", "_law_name", "_law_sign"] ["_law_value"] (defScope s__law_is_path) := ⟨rfl, rfl, rfl, by decide +kernel, rfl, by decide +kernel, by decide +kernel⟩
def letB (s : Str) : Bool := (cd s).all fun c => decide (c ∈ letL)
def lenB (s : Str) : Bool := decide (1 ≤ s.length) && decide (s.length ≤ 8)
theorem nmB_eq (s : Str) : nmB s = (lenB s && letB s) := rfl
def Sp__law_is_path : DSp := fun _ ds f Q => ∃ x : D, ds = [x] ∧ x.tyd = true ∧ (∀ s, x = .str s → s.length ≤ 5000 ∧ asc s) ∧ Q (.bool (isPathD x)) f
theorem sum_split (s : Str) : ((Txt.split s ".").map Str.length).sum ≤ s.length := by
  have e : (Txt.split s ".").map Str.length = (sp (cd s)).map List.length := by
    rw [← split_cd, List.map_map]
    apply List.map_congr_left
    intro x _
    exact TL.len_tl x
  rw [e, TL.len_tl]
  have : ∀ l : List Nat, ((sp l).map List.length).sum ≤ l.length := by
    intro l
    induction l with
    | nil => simp [sp]
    | cons c r ih =>
      unfold sp
      split
      · simp only [List.map_cons, List.sum_cons, List.length_nil, List.length_cons]; omega
      · cases e : sp r with
        | nil => exact absurd e (sp_ne r)
        | cons a t => rw [e] at ih; simp only [List.map_cons, List.sum_cons, List.length_cons] at ih ⊢; omega
  exact this _
theorem all_split (l : List Str) : (decide (l.filter (fun s => !lenB s) = []) && l.all letB) = l.all nmB := by
  induction l with
  | nil => rfl
  | cons a l ih =>
    rw [List.all_cons, List.all_cons, nmB_eq, ← ih, List.filter_cons]
    cases lenB a with
    | true => simp only [Bool.not_true, Bool.false_eq_true, if_false, Bool.true_and]; rw [← Bool.and_assoc, ← Bool.and_assoc, Bool.and_comm (letB a)]
    | false => simp
theorem filter_strs (ps : List Str) (p : Str → Bool) (q : D → Bool) (h : ∀ s, q (.str s) = p s) : (ps.map D.str).filter q = (ps.filter p).map D.str := by
  rw [List.filter_map]
  congr 1
  apply List.filter_congr
  intro s _
  exact h s
theorem ok__law_is_path (d : Df K mg "_law_is_path" s__law_is_path) (m_len : mg "len" = none) (m_str : mg "str" = none) (m_isinstance : mg "isinstance" = none) : Cal P w K mg base 1 "_law_is_path" ["_law_value"] Sp__law_is_path := by
  obtain ⟨f, fd, F, m⟩ := d
  refine ⟨f, fd, dfn (k := 0) (S := Sp__law_is_path) F sc__law_is_path ?len (fun cdv A outer s H E hr => (dss_cons (ds_if (dp_not (dp_val (de_isi m_isinstance (da_cons (de_v 0) (da_cons (de_bltn (v := .ty "str") (u := .type "str") (by rfl) m_str (by decide +kernel) rfl) da_nil))))) (dss_one (ds_ret de_bl)) dss_nil)
      (dss_cons (ds_set false (i := 1) sc__law_is_path.nd (dl_split (de_v 0) de_str).e)
      (dss_cons (ds_setLc (i := 2) (own := [("_law_name", 3)]) sc__law_is_path.nd (di_seq (de_v 1)) (blkOk_by (own := [("_law_name", 3)]) (N := ["_law_value", "_law_names", "_law_wrong", "_law_name", "_law_sign"]) (sc := defScope s__law_is_path) (by decide +kernel)) (fun _ _ _ _ _ => dg_name (i := 3) sc__law_is_path.nd) (fun _ _ _ _ _ => dts_one (dp_not (dp_lele de_int (de_len m_len (da_cons (de_v 3) da_nil)) de_int))) (fun _ _ _ _ _ => (de_v 3)) (fun _ _ h => snd_set (m := false) (i := 2) h.e))
      (dss_cons (ds_for [] PassesOwn.never (di_seq (de_v 1)) (dg_name (i := 3) sc__law_is_path.nd) (dss_one (ds_set false (i := 2) sc__law_is_path.nd (de_add (de_v 2) (dl_lc (own := [("_law_sign", 4)]) rfl sc__law_is_path.nd (di_seq (de_v 3)) (blkOk_by (own := [("_law_sign", 4)]) (N := ["_law_value", "_law_names", "_law_wrong", "_law_name", "_law_sign"]) (sc := defScope s__law_is_path) (by decide +kernel)) (fun _ _ _ _ _ => dg_name (i := 4) sc__law_is_path.nd) (fun _ _ _ _ _ => dts_one (dp_notIn hr (de_v 4) de_str)) (fun _ _ _ _ _ => (de_v 4))).e))))
      (dss_one (ds_ret (de_and (de_le (de_len m_len (da_cons (de_v 1) da_nil)) de_int) (de_one (de_eq hr.units (de_v 2) (dl_lst da_nil).e)))))))))) ?h, F.kp, F.binds fun _ _ _ _ _ _ us hl => match us, hl with | [_], _ => rfl, m⟩
  case len =>
    intro g ds n Q h; obtain ⟨_, rfl, _⟩ := h; rfl
  case h =>
    intro g ds n Q h
    obtain ⟨x, rfl, hx, hl, q⟩ := h
    obtain ⟨t, ht, hk⟩ := tyd_isi hx
    refine ⟨t, _, ht, hk, ?_⟩
    cases x with
    | str s =>
      obtain ⟨hs, ha⟩ := hl s rfl
      refine ⟨by decide +kernel, Nat.le_trans hs (by decide), ?_⟩
      have hL : (Txt.split s ".").length ≤ 5001 := Nat.le_trans (split_len s) (by omega)
      refine ⟨by rw [List.length_map]; exact Nat.le_trans hL (by decide), ?_⟩
      refine dLcGo_pure (fun d => match d with | .str z => !lenB z | _ => false) id _ _ _ (fun d hd => ?_) ?_
      · obtain ⟨z, hz, rfl⟩ := List.mem_map.mp hd
        refine ⟨_, rfl, fun f Q h => ?_, fun _ f Q h => h⟩
        have hzl : z.length ≤ 5000 := Nat.le_trans (split_part_len hz) hs
        refine ⟨Nat.le_trans hzl (by decide), ?_⟩
        have h : Q (!lenB z) f := h
        unfold lenB at h
        show if decide ((1 : Int) ≤ (z.length : Int)) = true then _ else _
        by_cases h1 : 1 ≤ z.length
        · rw [decide_eq_true (by omega : (1 : Int) ≤ z.length)]
          rw [decide_eq_true h1, Bool.true_and] at h
          refine iteT ?_
          rw [show decide (z.length ≤ 8) = decide ((z.length : Int) ≤ 8) from by congr 1; apply propext; omega] at h
          exact h
        · rw [decide_eq_false (by omega : ¬ (1 : Int) ≤ z.length)]
          rw [decide_eq_false h1, Bool.false_and] at h
          exact iteF h
      · rw [List.map_id, List.nil_append, filter_strs _ (fun s => !lenB s) _ (fun s => rfl)]
        have hall := all_split (Txt.split s ".")
        have hsum := sum_split s
        refine dFor_inv (fun rest r f => f = n ∧ ∃ (ms ws : List Str) (a b c : Sl), rest = ms.map D.str ∧ r = [a, .sh (.lst ((Txt.split s ".").map D.str)), .sh (.lst (ws.map D.str)), b, c] ∧ (∀ m ∈ ms, m ∈ Txt.split s ".") ∧ (∀ m ∈ ws, asc m) ∧ ws.length + (ms.map Str.length).sum ≤ 10001 ∧ (decide (ws = []) && ms.all letB) = (Txt.split s ".").all nmB) _ _ _ ?_ ?_ ⟨rfl, Txt.split s ".", _, _, _, _, rfl, rfl, fun _ h => h, fun m hm => asc_split ha m (List.mem_filter.mp hm).1, ?_, hall⟩
        · rintro d rest r f N ⟨rfl, ms, ws, a, b, c, hms, rfl, hsub, hasc, hlen, hgood⟩ hN
          match ms, hms with
          | m :: ms, hms =>
          obtain ⟨rfl, rfl⟩ := List.cons.inj hms
          refine ⟨_, rfl, ?_⟩
          have hm : m ∈ Txt.split s "." := hsub m (by simp)
          have hma := asc_split ha m hm
          refine ⟨?_, ?_⟩
          · unfold signs; rw [List.length_map]; have := split_part_len hm; rw [TL.len_tl m] at this; exact Nat.le_trans this (Nat.le_trans hs (by decide))
          refine dLcGo_pure (fun d => match d with | .str z => !letB z | _ => false) id _ _ _ (fun d hd => ?_) ?_
          · unfold signs at hd
            obtain ⟨c, hc, rfl⟩ := List.mem_map.mp hd
            refine ⟨_, rfl, fun f Q h => ⟨c, rfl, ?_⟩, fun _ f Q h => h⟩
            have h : Q (!([c].all fun c => decide (c ∈ letL))) f := h
            have : ([c].all fun c => decide (c ∈ letL)) = decide (c ∈ letL) := by simp
            rw [this] at h
            exact h
          · rw [List.map_id, List.nil_append]
            have es : signs m = ((cd m).map fun c => (⟨#[c]⟩ : Str)).map D.str := by unfold signs; rw [List.map_map]; rfl
            rw [es, filter_strs _ (fun s => !letB s) _ (fun s => rfl)]
            have hfl : (((cd m).map fun c => (⟨#[c]⟩ : Str)).filter fun s => !letB s).length ≤ m.length := by
              refine Nat.le_trans (List.length_filter_le _ _) ?_
              rw [List.length_map, TL.len_tl]
              exact Nat.le_refl _
            rw [List.map_cons, List.sum_cons] at hlen
            refine ⟨?_, ?_⟩
            · rw [List.length_map, List.length_map]
              exact Nat.le_trans (by omega : _ ≤ 10001) (by decide)
            refine hN _ _ ⟨rfl, ms, ws ++ (((cd m).map fun c => (⟨#[c]⟩ : Str)).filter fun s => !letB s), _, _, _, rfl, by rw [List.map_append]; rfl, fun m' h' => hsub m' (by simp [h']), ?_, ?_, ?_⟩
            · intro w hw
              rcases List.mem_append.mp hw with h | h
              · exact hasc w h
              · obtain ⟨c, hc, rfl⟩ := List.mem_map.mp (List.mem_filter.mp h).1
                intro c' hc'
                have : c' ∈ [c] := hc'
                rw [List.mem_singleton.mp this]
                exact hma c hc
            · rw [List.length_append]; omega
            · rw [← hgood, List.all_cons, ← Bool.and_assoc]
              congr 1
              have e2 : decide ((((cd m).map fun c => (⟨#[c]⟩ : Str)).filter fun s => !letB s) = []) = letB m := by
                rw [Bool.eq_iff_iff, decide_eq_true_iff, List.filter_eq_nil_iff]
                unfold letB
                rw [List.all_eq_true]
                constructor
                · intro h c hc
                  have := h ⟨#[c]⟩ (List.mem_map_of_mem hc)
                  simpa [cd, TL.tl] using this
                · intro h z hz
                  obtain ⟨c, hc, rfl⟩ := List.mem_map.mp hz
                  have := h c hc
                  simpa [cd, TL.tl] using this
              rw [← e2]
              rw [Bool.eq_iff_iff]
              simp
        · rintro r f ⟨rfl, ms, ws, a, b, c, hms, rfl, hsub, hasc, hlen, hgood⟩
          obtain rfl : ms = [] := by
            match ms, hms with
            | [], _ => rfl
          rw [List.all_nil, Bool.and_true] at hgood
          show if decide ((((Txt.split s ".").map D.str).length : Int) ≤ 6) = true then _ else _
          rw [List.length_map]
          have q : Q (.bool (decide ((Txt.split s ".").length ≤ 6) && (Txt.split s ".").all nmB)) f := q
          by_cases h6 : (Txt.split s ".").length ≤ 6
          · rw [decide_eq_true (by omega : ((Txt.split s ".").length : Int) ≤ 6)]
            rw [decide_eq_true h6, Bool.true_and, ← hgood] at q
            refine iteT ⟨by decide, ?_⟩
            show oEq false (.lst (ws.map D.str)) (.lst (([] : List Str).map D.str)) (fun z => Q z f)
            exact oEq_lst (m := []) hasc (by simp) q
          · rw [decide_eq_false (by omega : ¬ ((Txt.split s ".").length : Int) ≤ 6)]
            rw [decide_eq_false h6, Bool.false_and] at q
            exact iteF q
        · have := List.length_filter_le (fun s => !lenB s) (Txt.split s ".")
          omega
    | obj _ _ _ => cases hx
    | any _ => cases hx
    | _ => exact q
abbrev s__law_next : Stmt := topS 8
theorem sc__law_next : FnScope ["_law_deck_here", "_law_many", "_law_rest", "_law_turn", "_law_number", "_law_mixed"] ["_law_deck_here", "_law_many"] (defScope s__law_next) := ⟨rfl, rfl, rfl, by decide +kernel, rfl, by decide +kernel, by decide +kernel⟩
def Sp__law_next : DSp := fun g ds f Q => ∃ (k : Dk) (m : Int) (f' : Nat), g = some k ∧ ds = [.any (.ref k.a), .int m] ∧ 0 < m ∧ m < 1000000000 ∧ f = f' + 1 ∧ ∀ r : Int, 0 ≤ r → r < m → Q (.int r) f'
theorem ok__law_next (d : Df K mg "_law_next" s__law_next) (m_len : mg "len" = none) (m_int : mg "int" = none) : Cal P w K mg base 1 "_law_next" ["_law_deck_here", "_law_many"] Sp__law_next := by
  obtain ⟨f, fd, F, mm⟩ := d
  refine ⟨f, fd, ?_, F.kp, F.binds fun _ _ _ _ _ _ us hl => match us, hl with | [_, _], _ => rfl, mm⟩
  refine F.ok sc__law_next (fun vs H Q E h => ?_) (fun cdv A outer s H vs Q E hr h => ?_)
  · obtain ⟨g, Hs, ds, n, Q', h1, h2, h3, ⟨k', m, f', e1, e2, _⟩, h5⟩ := h
    subst e2
    rw [← h3.length]
    rfl
  · obtain ⟨g, Hs, ds, n, Q', h1, h2, h3, ⟨k', m, f', e1, e2, m0, m1, e3, h4⟩, h5⟩ := h
    subst e1 e2 e3
    obtain ⟨v1, v2, rfl, r1, r2⟩ := rpA2 h3
    cases r1
    cases r2
    have dk0 := h2
    obtain ⟨⟨nab, nac, nbc, n, xs, ys, ha, hb, hc, px, py, py0, n0, nf⟩, na, nb, nc⟩ := h2
    refine ⟨_, pss_cons (ps_while PassesOwn.never (pt_cmpR (op_neD hr.units) (pe_ix ix_list (pv 0) pe_int (fun _ _ => rfl)) (pe_lst pa_nil) (nomark _))
        (pss_cons (ps_set (i := 2) sc__law_next.nd rfl (.inl rfl) (pe_ix ix_list (pe_ix ix_list (pv 0) pe_int (fun _ _ => rfl)) pe_int (fun _ _ => rfl)))
        (pss_cons (ps_if (pt_cmpR op_gt (pv 2) pe_int (nomark _))
          (pss_cons (ps_asg (pe_op op_fdivW (pv 2) (pv 1)) (pg_sub (pe_ix ix_list (pv 0) pe_int (fun _ _ => rfl)) pe_int set_list))
          (pss_one (ps_ret (pe_op op_mod (pe_callTy call_int1 (by rfl) m_int PyProof.Rows.boot_int (pa_cons (pv 2) pa_nil)) (pv 1))))) pss_nil)
        (pss_one (ps_expr (pe_bm PySem.F.plainAttrs_list PySem.F.slot_list_pop PySem.F.type_list_pop mt_popAt (pe_ix ix_list (pv 0) pe_int (fun _ _ => rfl)) (pa_cons pe_int pa_nil)))))))
      (pss_cons (ps_asg (pe_op op_add (pe_ix ix_list (pv 0) pe_int (fun _ _ => rfl)) pe_int) (pg_sub (pv 0) pe_int set_list))
      (pss_cons (ps_set (i := 3) sc__law_next.nd rfl (.inl rfl) (pe_ix ix_list (pv 0) pe_int (fun _ _ => rfl)))
      (pss_cons (ps_set (i := 4) sc__law_next.nd rfl (.inl rfl) (pe_op op_mod (pe_callTy call_int1 (by rfl) m_int PyProof.Rows.boot_int (pa_cons (pe_ix ix_list (pe_ix ix_list (pv 0) pe_int (fun _ _ => rfl))
          (pe_op op_mod (pe_callTy call_int1 (by rfl) m_int PyProof.Rows.boot_int (pa_cons (pv 3) pa_nil)) (pe_callB call_len_seq (by rfl) m_len PySem.boot_len (pa_cons (pe_ix ix_list (pv 0) pe_int (fun _ _ => rfl)) pa_nil))) (fun _ _ => rfl)) pa_nil)) pe_int))
      (pss_cons (ps_set (i := 5) sc__law_next.nd rfl (.inl rfl) (pe_op op_mod (pe_callTy call_int1 (by rfl) m_int PyProof.Rows.boot_int (pa_cons (pe_op op_add (pe_op op_add (pe_op op_mul (pv 4) (pe_op op_add pe_int (pe_op op_mul pe_int (pv 3)))) (pe_op op_mul (pe_op op_mul pe_int (pv 3)) (pv 3))) pe_int) pa_nil)) pe_int))
      (pss_one (ps_ret (pe_op op_mod (pe_op op_fdiv (pe_op op_mod (pe_callTy call_int1 (by rfl) m_int PyProof.Rows.boot_int (pa_cons (pe_op op_mul (pv 5) (pv 5)) pa_nil)) pe_int) pe_int) (pv 1)))))))), ?_⟩
    -- what stays: nothing but the deck's three lists changes
    have fin : ∀ (H3 : Hp) (n3 : Int) (x3 : List Int) (f3 : Nat) (d : D) (v : V), H3 k'.a = some (.lst [.ref k'.b, .ref k'.c, .int n3]) → H3 k'.b = some (.lst (x3.map V.int)) → H3 k'.c = some (.lst (ys.map V.int)) → (∀ x ∈ x3, (0 : Int) ≤ x) → 0 ≤ n3 → n3 + (f3 : Int) ≤ 1000000000000 →
        (∀ b o, b ≠ k'.a → b ≠ k'.b → H b = some o → H3 b = some o) → Rp K Hs d v → Q' d f3 → Q v H3 := by
      intro H3 n3 x3 f3 d v g1 g2 g3 g4 g5 g6 g7 g8 g9
      refine h5 d f3 v H3 Hs ⟨fun b o e => ?_, Same.refl _, fun b o e n => ?_, fun b o e => ?_, fun _ _ _ h => h⟩ ⟨⟨nab, nac, nbc, n3, x3, ys, g1, g2, g3, g4, py, py0, g5, g6⟩, na, nb, nc⟩ g8 g9
      · refine g7 b o (fun z => ?_) (fun z => ?_) (h1 b o e)
        · subst z; rw [na] at e; cases e
        · subst z; rw [nb] at e; cases e
      · exact g7 b o (fun z => n (.inl z)) (fun z => n (.inr (.inl z))) e
      · by_cases z : b = k'.a
        · exact ⟨_, z ▸ g1⟩
        · by_cases z' : b = k'.b
          · exact ⟨_, z' ▸ g2⟩
          · exact ⟨o, g7 b o z z' e⟩
    -- the while
    refine ⟨fun mm st H2 => ∃ y2 zs, mm = zs.length ∧ st = [some (.ref k'.a), some (.int m), y2, none, none, none] ∧ (∀ x ∈ zs, (0 : Int) ≤ x) ∧ H2 k'.a = some (.lst [.ref k'.b, .ref k'.c, .int n]) ∧ H2 k'.b = some (.lst (zs.map V.int)) ∧ H2 k'.c = some (.lst (ys.map V.int)) ∧ ∀ b o, b ≠ k'.a → b ≠ k'.b → H b = some o → H2 b = some o,
      ⟨xs.length, none, xs, rfl, rfl, px, ha, hb, hc, fun _ _ _ _ h => h⟩, ?_⟩
    rintro mm st H2 ⟨y2, zs, rfl, rfl, pz, ea, eb, ec, kp⟩
    refine ⟨.ref k'.a, rfl, k'.a, _, 0, _, rfl, rfl, SqL.of ea, atI0, Nat.zero_le _, fun p hp => ?_⟩
    have epb : k'.b ≠ p := ne_of_none eb hp
    have epa : k'.a ≠ p := ne_of_none ea hp
    have epc : k'.c ≠ p := ne_of_none ec hp
    refine ⟨.list (zs.map PyData.int), .list (([] : List Int).map PyData.int), dp_ints (by rw [upd_ne epb]; exact eb), dp_ints (l := []) upd_same, shaped_ints _, shaped_ints [], ?_⟩
    have ea' : upd H2 p (.lst []) k'.a = some (.lst [.ref k'.b, .ref k'.c, .int n]) := by rw [upd_ne epa]; exact ea
    have eb' : upd H2 p (.lst []) k'.b = some (.lst (zs.map V.int)) := by rw [upd_ne epb]; exact eb
    have ec' : upd H2 p (.lst []) k'.c = some (.lst (ys.map V.int)) := by rw [upd_ne epc]; exact ec
    have kp' : ∀ b o, b ≠ k'.a → b ≠ k'.b → H b = some o → upd H2 p (.lst []) b = some o := fun b o e1 e2 e => by
      have q := kp b o e1 e2 e
      rw [upd_ne (ne_of_none q hp)]
      exact q
    generalize upd H2 p (.lst []) = H3 at ea' eb' ec' kp' ⊢
    cases zs with
    | nil =>
      refine ⟨false, rfl, ?_⟩
      refine iteF ?_
      refine ⟨.ref k'.a, rfl, k'.a, _, 2, _, rfl, rfl, SqL.of ea', rfl, n, 1, rfl, rfl, .ref k'.a, rfl, k'.a, _, 2, 2, rfl, rfl, ea', rfl, ?_⟩
      generalize hH4 : upd H3 k'.a (.lst ([V.ref k'.b, V.ref k'.c, V.int n].set 2 (V.int (n + 1)))) = H4
      have fa : H4 k'.a = some (.lst [.ref k'.b, .ref k'.c, .int (n + 1)]) := by rw [← hH4, upd_same]; rfl
      have fb : H4 k'.b = some (.lst (([] : List Int).map V.int)) := by rw [← hH4, upd_ne (Ne.symm nab)]; exact eb'
      have fc : H4 k'.c = some (.lst (ys.map V.int)) := by rw [← hH4, upd_ne (Ne.symm nac)]; exact ec'
      have keep : ∀ b o, b ≠ k'.a → b ≠ k'.b → H b = some o → H4 b = some o := fun b o e1 e2 e => by
        rw [← hH4, upd_ne e1]
        exact kp' b o e1 e2 e
      -- turn
      refine ⟨.ref k'.a, rfl, k'.a, _, 2, _, rfl, rfl, SqL.of fa, rfl, ?_⟩
      have hz : (0 : Int) ≤ (n + 1) % (ys.length : Int) ∧ (n + 1) % (ys.length : Int) < ys.length := ⟨Int.emod_nonneg _ (by omega), Int.emod_lt_of_pos _ (by omega)⟩
      have hj : ((n + 1) % (ys.length : Int)).toNat < ys.length := by omega
      -- number
      refine ⟨.ref k'.a, rfl, k'.a, _, 1, _, rfl, rfl, SqL.of fa, rfl, .int (n + 1), rfl, .inl ⟨n + 1, rfl, ?_⟩⟩
      refine ⟨.ref k'.a, rfl, k'.a, _, 1, _, rfl, rfl, SqL.of fa, rfl, k'.c, ys.map V.int, rfl, .inl (SqL.of fc), n + 1, _, rfl, rfl, ?_, ?_⟩
      · rw [List.length_map]; show (0 : Int) < (ys.length : Int); omega
      refine ⟨k'.c, ys.map V.int, _, .int (ys[((n + 1) % (ys.length : Int)).toNat]'hj), rfl, rfl, SqL.of fc, ?_, .inl ⟨_, rfl, ?_⟩⟩
      · rw [List.length_map]
        have := atI_nat (xs := ys.map V.int) (j := ((n + 1) % (ys.length : Int)).toNat) (v := .int (ys[((n + 1) % (ys.length : Int)).toNat]'hj)) (by rw [List.getElem?_map, List.getElem?_eq_getElem hj]; rfl)
        rw [Int.toNat_of_nonneg hz.1] at this
        exact this
      refine ⟨_, _, rfl, rfl, by show (0 : Int) < 2147483647; decide, ?_⟩
      have num0 := Int.emod_nonneg (ys[((n + 1) % (ys.length : Int)).toNat]'hj) (show (2147483647 : Int) ≠ 0 by decide)
      have num1 := Int.emod_lt_of_pos (ys[((n + 1) % (ys.length : Int)).toNat]'hj) (show (0 : Int) < 2147483647 by decide)
      -- mixed
      refine ⟨_, rfl, .int (n + 1), rfl, 69621, n + 1, rfl, rfl, .inl ⟨by decide, by decide⟩, 48271, _, rfl, rfl, _, _, rfl, rfl, .inl ⟨lo64 num0, hi64 num1⟩, .int (n + 1), rfl, 40692, n + 1, rfl, rfl, .inl ⟨by decide, by decide⟩, .int (n + 1), rfl, _, n + 1, rfl, rfl, .inr ⟨by omega, by omega⟩, _, _, rfl, rfl, _, 11, rfl, rfl, .inl ⟨_, rfl, _, _, rfl, rfl, by show (0 : Int) < 2147483629; decide, ?_⟩⟩
      have mix0 : ∀ x : Int, 0 ≤ x % 2147483629 := fun x => Int.emod_nonneg x (by decide)
      have mix1 : ∀ x : Int, x % 2147483629 < 2147483647 := fun x => Int.lt_trans (Int.emod_lt_of_pos x (by decide)) (by decide)
      refine ⟨_, rfl, _, rfl, _, _, rfl, rfl, .inl ⟨lo64 (mix0 _), hi64 (mix1 _)⟩, .inl ⟨_, rfl, _, _, rfl, rfl, by show (0 : Int) < 2147483587; decide, _, _, rfl, rfl, ⟨by decide, by decide⟩, .int m, rfl, _, m, rfl, rfl, m0, ?_⟩⟩
      exact fin H4 (n + 1) [] f' (.int _) _ fa fb fc (by simp) (by omega) (by omega) keep rfl (h4 _ (Int.emod_nonneg _ (by omega)) (Int.emod_lt_of_pos _ m0))
    | cons z zs =>
      refine ⟨true, rfl, ?_⟩
      refine iteT ?_
      have pz0 : 0 ≤ z := pz z (by simp)
      refine ⟨fun st4 H4 => ∃ y2, st4 = [some (.ref k'.a), some (.int m), y2, none, none, none] ∧ H4 = upd H3 k'.b (.lst (zs.map V.int)), ?_, ?_⟩
      · rintro st4 H4 ⟨y3, rfl, rfl⟩
        refine ⟨zs.length, Nat.lt_succ_self _, y3, zs, rfl, rfl, fun x hx => pz x (by simp [hx]), by rw [upd_ne nab]; exact ea', upd_same, by rw [upd_ne (Ne.symm nbc)]; exact ec', fun b o e1 e2 e => by rw [upd_ne e2]; exact kp' b o e1 e2 e⟩
      refine ⟨.ref k'.a, rfl, k'.a, _, 0, _, rfl, rfl, SqL.of ea', atI0, k'.b, _, 0, _, rfl, rfl, SqL.of eb', atI0, ?_⟩
      refine ⟨.int z, rfl, z, 0, rfl, rfl, _, rfl, ite2 (fun c => ?_) (fun c => ?_)⟩
      · -- a digit of a great cell
        refine ⟨.int z, rfl, .int m, rfl, z, m, rfl, rfl, wide_div (b := 40) m0 (by omega) (by decide) (by decide), ?_⟩
        refine ⟨.ref k'.a, rfl, k'.a, _, 0, _, rfl, rfl, SqL.of ea', atI0, k'.b, _, 0, 0, rfl, rfl, eb', ix0 _, ?_⟩
        refine ⟨.int z, rfl, .inl ⟨z, rfl, .int m, rfl, z, m, rfl, rfl, m0, ?_⟩⟩
        refine fin _ n ((z / m) :: zs) f' (.int _) _ (by rw [upd_ne nab]; exact ea') upd_same (by rw [upd_ne (Ne.symm nbc)]; exact ec') ?_ n0 (by omega) (fun b o e1 e2 e => by rw [upd_ne e2]; exact kp' b o e1 e2 e) rfl (h4 _ (Int.emod_nonneg _ (by omega)) (Int.emod_lt_of_pos _ m0))
        intro x hx
        rcases List.mem_cons.mp hx with e | e
        · rw [e]; exact Int.ediv_nonneg pz0 (by omega)
        · exact pz x (by simp [e])
      · refine ⟨.ref k'.a, rfl, k'.a, _, 0, _, rfl, rfl, SqL.of ea', atI0, .inl ⟨rfl, _, SqL.of eb'⟩, k'.b, _, 0, 0, _, rfl, rfl, eb', by decide, by decide, ?_, rfl, ?_⟩
        · exact (ixN_seq (ix0 _)).1
        · exact ⟨_, rfl, rfl⟩


/-! _law_bent -/
abbrev s__law_bent : Stmt := topS 13
theorem sc__law_bent : FnScope ["_law_deck_here", "_law_text_here", "_law_signs", "_law_turn", "_law_kind", "_law_at", "_law_sign"] ["_law_deck_here", "_law_text_here"] (defScope s__law_bent) := ⟨rfl, rfl, rfl, by decide +kernel, rfl, by decide +kernel, by decide +kernel⟩
def Sp__law_bent : DSp := fun g ds f Q => ∃ (k : Dk) (t : Str), g = some k ∧ ds = [.any (.ref k.a), .str t] ∧ asc t ∧ t.length ≤ 100 ∧ 10 ≤ f ∧ ∀ s f', asc s → s.length ≤ 1000 → f ≤ f' + 10 → Q (.str s) f'
def sgS : Str := Str.ofString " !\"#$&'()*+,-./0123456789:;<=>?@ABCDEFGHIJKLMNOPQRSTUVWXYZ[\\]^_abcdefghijklmnopqrstuvwxyz{|}~\n\t"
theorem sg_asc : ∀ c ∈ sgS.cps.toList, c < 128 := by decide +kernel
theorem cutS_sub (a : Str) (lo hi : Option Int) : (cutS a lo hi).length ≤ a.length ∧ ∀ c ∈ cd (cutS a lo hi), c ∈ cd a := by
  have e : cd (cutS a lo hi) = ((a.cps.toList.drop (HT.sIx a.length 0 lo)).take (HT.sIx a.length a.length hi - HT.sIx a.length 0 lo)) := rfl
  refine ⟨?_, fun c hc => ?_⟩
  · rw [TL.len_tl, TL.len_tl]
    show (cd (cutS a lo hi)).length ≤ _
    rw [e, List.length_take, List.length_drop]
    show _ ≤ a.cps.toList.length
    omega
  · rw [e] at hc
    exact List.mem_of_mem_drop (List.mem_of_mem_take hc)
theorem app_len (a b : Str) : (a ++ b).length = a.length + b.length := by rw [TL.len_tl, TL.tl_append, List.length_append, ← TL.len_tl, ← TL.len_tl]
theorem asc_app {a b : Str} (ha : asc a) (hb : asc b) : asc (a ++ b) := fun c hc => by
  have hc : c ∈ TL.tl (a ++ b) := hc
  rw [TL.tl_append] at hc
  rcases List.mem_append.mp hc with h | h
  · exact ha c h
  · exact hb c h
theorem asc_cut {a : Str} (h : asc a) (lo hi : Option Int) : asc (cutS a lo hi) := fun c hc => h c ((cutS_sub a lo hi).2 c hc)
theorem ok__law_bent (d : Df K mg "_law_bent" s__law_bent) (m_range : mg "range" = none) (m_len : mg "len" = none) (c__law_next : Cal P w K mg base 1 "_law_next" ["_law_deck_here", "_law_many"] Sp__law_next) : Cal P w K mg base 2 "_law_bent" ["_law_deck_here", "_law_text_here"] Sp__law_bent := by
  obtain ⟨f, fd, F, m⟩ := d
  refine ⟨f, fd, dfn (k := 1) (S := Sp__law_bent) F sc__law_bent ?len (fun cdv A outer s H E hr => (dss_cons (ds_set false (i := 2) sc__law_bent.nd de_str)
      (dss_cons (ds_for [] PassesOwn.never (di_range1 m_range (da_cons (de_add de_int (de_callC c__law_next (hr.mono (by decide)) (da_cons (de_v 0) (da_cons de_int da_nil)))) da_nil)) (dg_name (i := 3) sc__law_bent.nd) (dss_cons (ds_par false (i := 4) (j := 5) sc__law_bent.nd (de_callC c__law_next (hr.mono (by decide)) (da_cons (de_v 0) (da_cons de_int da_nil))) (de_callC c__law_next (hr.mono (by decide)) (da_cons (de_v 0) (da_cons (de_add (de_len m_len (da_cons (de_v 1) da_nil)) de_int) da_nil))))
      (dss_cons (ds_set false (i := 6) sc__law_bent.nd (de_ix (de_v 2) (de_callC c__law_next (hr.mono (by decide)) (da_cons (de_v 0) (da_cons (de_len m_len (da_cons (de_v 2) da_nil)) da_nil)))))
      (dss_one (ds_set false (i := 1) sc__law_bent.nd (de_ix (dl_lst (da_cons (de_add (de_add (de_sl (de_v 1) do_none (do_some (de_v 5))) (de_v 6)) (de_sl (de_v 1) (do_some (de_v 5)) do_none)) (da_cons (de_add (de_add (de_sl (de_v 1) do_none (do_some (de_v 5))) (de_v 6)) (de_sl (de_v 1) (do_some (de_add (de_v 5) de_int)) do_none)) (da_cons (de_add (de_sl (de_v 1) do_none (do_some (de_v 5))) (de_sl (de_v 1) (do_some (de_add (de_v 5) de_int)) do_none)) da_nil)))).e (de_v 4)))))))
      (dss_one (ds_ret (de_v 1)))))) ?h, F.kp, F.binds fun _ _ _ _ _ _ us hl => match us, hl with | [_, _], _ => rfl, m⟩
  case len =>
    intro g ds n Q h; obtain ⟨_, _, _, rfl, _⟩ := h; rfl
  case h =>
    intro g ds n Q h
    obtain ⟨k, t, rfl, rfl, hta, htl, hf, q⟩ := h
    obtain ⟨f1, rfl⟩ : ∃ f1, n = f1 + 1 := ⟨n - 1, by omega⟩
    refine ⟨k, 3, f1, rfl, rfl, by decide, by decide, rfl, fun r h0 h1 => ?_⟩
    refine ⟨by omega, by omega, ?_⟩
    refine dFor_inv (fun rest r f => ∃ (t : Str) (a b c d : Sl), r = [.sh (.any (.ref k.a)), .sh (.str t), .sh (.str sgS), a, b, c, d] ∧ asc t ∧ (t.length + 1) * 2 ^ rest.length ≤ 808 ∧ rest.length ≤ 3 ∧ f1 ≤ f + 3 * (3 - rest.length)) _ _ _ ?_ ?_ ⟨t, _, _, _, _, rfl, hta, ?_, by rw [intsD_len]; omega, by rw [intsD_len]; omega⟩
    · rintro d rest r f N ⟨t, a, b, c, d, rfl, hta, hlen, hr3, hff⟩ hN
      rw [List.length_cons, Nat.pow_succ] at hlen
      rw [List.length_cons] at hr3 hff
      have h2 : 1 ≤ 2 ^ rest.length := Nat.one_le_two_pow
      have htl : t.length ≤ 403 := by
        have : (t.length + 1) * 2 ≤ 808 := Nat.le_trans (Nat.mul_le_mul_left _ (by omega)) hlen
        omega
      refine ⟨_, rfl, ?_⟩
      obtain ⟨f2, rfl⟩ : ∃ f2, f = f2 + 3 := ⟨f - 3, by omega⟩
      refine ⟨k, 3, f2 + 2, rfl, rfl, by decide, by decide, rfl, fun kd k0 k1 => ?_⟩
      refine ⟨Nat.le_trans htl (by decide), k, (t.length : Int) + 1, f2 + 1, rfl, rfl, by omega, by omega, rfl, fun at' a0 a1 => ?_⟩
      refine ⟨by decide +kernel, k, (sgS.length : Int), f2, rfl, rfl, by decide +kernel, by decide +kernel, rfl, fun sg s0 s1 => ?_⟩
      obtain ⟨sc, hsc, hsm⟩ := atI_mem (xs := sgS.cps.toList) s0 (by exact s1)
      have hsa : asc (⟨#[sc]⟩ : Str) := fun c hc => by
        have : c ∈ [sc] := hc
        rw [List.mem_singleton.mp this]
        exact sg_asc sc hsm
      have hs1 : (⟨#[sc]⟩ : Str).length = 1 := rfl
      refine ⟨by decide +kernel, sc, hsc, ?_⟩
      have T : t.length ≤ lim := Nat.le_trans htl (by decide)
      obtain ⟨c1, _⟩ := cutS_sub t none (some at')
      obtain ⟨c2, _⟩ := cutS_sub t (some at') none
      obtain ⟨c3, _⟩ := cutS_sub t (some (at' + 1)) none
      have B : 808 ≤ lim := by decide
      have L1 : (cutS t none (some at') ++ (⟨#[sc]⟩ : Str)).length = (cutS t none (some at')).length + 1 := app_len _ _
      refine ⟨T, by rw [hs1]; omega, T, by rw [L1]; omega, T, by rw [hs1]; omega, T, by rw [L1]; omega, T, T, by omega, show 3 ≤ lim by decide, ?_⟩
      obtain ⟨d, hd, hm⟩ := atI_mem (xs := [D.str (cutS t none (some at') ++ (⟨#[sc]⟩ : Str) ++ cutS t (some at') none), D.str (cutS t none (some at') ++ (⟨#[sc]⟩ : Str) ++ cutS t (some (at' + 1)) none), D.str (cutS t none (some at') ++ cutS t (some (at' + 1)) none)]) k0 k1
      refine ⟨d, hd, ?_⟩
      obtain ⟨u, rfl, ua, ul⟩ : ∃ u, d = .str u ∧ asc u ∧ u.length ≤ 2 * t.length + 1 := by
        simp only [List.mem_cons, List.not_mem_nil, or_false] at hm
        rcases hm with rfl | rfl | rfl
        · exact ⟨_, rfl, asc_app (asc_app (asc_cut hta _ _) hsa) (asc_cut hta _ _), by rw [app_len, app_len, hs1]; omega⟩
        · exact ⟨_, rfl, asc_app (asc_app (asc_cut hta _ _) hsa) (asc_cut hta _ _), by rw [app_len, app_len, hs1]; omega⟩
        · exact ⟨_, rfl, asc_app (asc_cut hta _ _) (asc_cut hta _ _), by rw [app_len]; omega⟩
      refine hN _ _ ⟨u, _, _, _, _, rfl, ua, ?_, by omega, by omega⟩
      refine Nat.le_trans (Nat.mul_le_mul_right _ (by omega : u.length + 1 ≤ (t.length + 1) * 2)) ?_
      rw [Nat.mul_assoc, Nat.mul_comm 2]
      exact hlen
    · rintro r f ⟨t, a, b, c, d, rfl, hta, hlen, hr3, hff⟩
      rw [List.length_nil, Nat.pow_zero, Nat.mul_one] at hlen
      rw [List.length_nil] at hff
      exact q _ _ hta (by omega) (by omega)
    · rw [intsD_len]
      have : 2 ^ (1 + r).toNat ≤ 2 ^ 3 := Nat.pow_le_pow_right (by decide) (by omega)
      exact Nat.le_trans (Nat.mul_le_mul (by omega : t.length + 1 ≤ 101) this) (by decide)
/-! _law_odd -/
abbrev s__law_odd : Stmt := topS 11
theorem sc__law_odd : FnScope ["_law_deck_here", "_law_path", "_law_some"] ["_law_deck_here", "_law_path"] (defScope s__law_odd) := ⟨rfl, rfl, rfl, by decide +kernel, rfl, by decide +kernel, by decide +kernel⟩
def okV (x : D) : Prop := x.tyd = true ∧ ∀ s, x = .str s → s.length ≤ 5000 ∧ asc s
def Sp__law_odd : DSp := fun g ds f Q => ∃ (k : Dk) (t : Str), g = some k ∧ ds = [.any (.ref k.a), .str t] ∧ asc t ∧ t.length ≤ 100 ∧ 1 ≤ f ∧ ∀ v f', okV v → f ≤ f' + 1 → Q v f'
theorem okV_str {s : Str} (h1 : s.length ≤ 5000) (h2 : asc s) : okV (.str s) := ⟨rfl, fun z e => by cases e; exact ⟨h1, h2⟩⟩
theorem okV_no {x : D} (h : x.tyd = true) (h2 : x.isSt = false) : okV x := ⟨h, fun z e => by subst e; cases h2⟩
instance (s : Str) : Decidable (asc s) := by unfold asc; infer_instance
theorem asc_upper {s : Str} (h : asc s) : asc (Txt.upper s) ∧ (Txt.upper s).length = s.length := by
  rw [upper_ascii h]
  refine ⟨fun c hc => ?_, ?_⟩
  · have hc : c ∈ (s.cps.map up1).toList := hc
    rw [Array.toList_map] at hc
    obtain ⟨d, hd, rfl⟩ := List.mem_map.mp hc
    have := h d hd
    unfold up1
    split <;> omega
  · show (s.cps.map up1).size = s.cps.size
    rw [Array.size_map]
theorem ok__law_odd (d : Df K mg "_law_odd" s__law_odd) (m_len : mg "len" = none) (c__law_next : Cal P w K mg base 1 "_law_next" ["_law_deck_here", "_law_many"] Sp__law_next) : Cal P w K mg base 2 "_law_odd" ["_law_deck_here", "_law_path"] Sp__law_odd := by
  obtain ⟨f, fd, F, m⟩ := d
  refine ⟨f, fd, dfn (k := 1) (S := Sp__law_odd) F sc__law_odd ?len (fun cdv A outer s H E hr => (dss_cons (ds_set false (i := 2) sc__law_odd.nd (dl_lst (da_cons de_non (da_cons de_bl (da_cons de_bl (da_cons de_int (da_cons de_int (da_cons (de_neg de_int) (da_cons (de_pow de_int de_int) (da_cons de_str (da_cons de_str (da_cons de_str (da_cons de_str (da_cons de_str (da_cons de_str (da_cons de_str (da_cons de_str (da_cons de_str (da_cons de_str da_nil)))))))))))))))))).e)
      (dss_cons (ds_set false (i := 2) sc__law_odd.nd (de_add (de_v 2) (dl_lst (da_cons de_str (da_cons (de_tup da_nil) (da_cons (dl_lst da_nil).e (da_cons de_dict0 (da_cons (de_tup (da_cons (de_v 1) da_nil)) (da_cons (dl_lst (da_cons (de_v 1) da_nil)).e (da_cons (de_dict1 (de_v 1) (de_v 1)) (da_cons (de_tup (da_cons (de_v 1) (da_cons (de_v 1) da_nil))) (da_cons (de_tup (da_cons (de_v 1) (da_cons (de_v 1) (da_cons (de_v 1) da_nil)))) da_nil)))))))))).e))
      (dss_cons (ds_set false (i := 2) sc__law_odd.nd (de_add (de_v 2) (dl_lst (da_cons (de_add (de_v 1) de_str) (da_cons (de_add (de_v 1) de_str) (da_cons (de_upper (de_v 1)) (da_cons (de_add (de_v 1) de_str) (da_cons (dl_lst (da_cons (de_v 1) (da_cons (de_v 1) da_nil))).e (da_cons (de_tup (da_cons de_str (da_cons (dl_lst da_nil).e (da_cons de_dict0 da_nil)))) (da_cons (de_tup (da_cons (de_tup (da_cons (de_v 1) (da_cons (de_v 1) da_nil))) da_nil)) da_nil)))))))).e))
      (dss_one (ds_ret (de_ix (de_v 2) (de_callC c__law_next (hr.mono (by decide)) (da_cons (de_v 0) (da_cons (de_len m_len (da_cons (de_v 2) da_nil)) da_nil)))))))))) ?h, F.kp, F.binds fun _ _ _ _ _ _ us hl => match us, hl with | [_, _], _ => rfl, m⟩
  case len =>
    intro g ds n Q h; obtain ⟨_, _, _, rfl, _⟩ := h; rfl
  case h =>
    intro g ds n Q h
    obtain ⟨k, t, rfl, rfl, hta, htl, hf, q⟩ := h
    obtain ⟨f1, rfl⟩ : ∃ f1, n = f1 + 1 := ⟨n - 1, by omega⟩
    have T : t.length ≤ lim := Nat.le_trans htl (by decide)
    have T1 : t.length + 1 ≤ lim := Nat.le_trans (Nat.add_le_add_right htl 1) (by decide)
    have z : ∀ n : Nat, n ≤ 1000 → n ≤ lim := fun n h => Nat.le_trans h (by decide)
    have zz : ∀ {α : Type} (l : List α), l.length ≤ 1000 → l.length ≤ lim := fun l h => z _ h
    refine ⟨⟨by decide, by decide, by decide⟩, by decide, ?_⟩
    refine ⟨by decide, by decide, show 1 ≤ lim by decide, show 1 ≤ lim by decide, show 2 ≤ lim by decide, show 3 ≤ lim by decide, show 9 ≤ lim by decide, show 17 + 9 ≤ lim by decide, ?_⟩
    refine ⟨T1, T1, trivial, T, T1, show 2 ≤ lim by decide, by decide, by decide, show 2 ≤ lim by decide, show 1 ≤ lim by decide, show 7 ≤ lim by decide, show 26 + 7 ≤ lim by decide, ?_⟩
    refine ⟨k, 33, f1, rfl, rfl, by decide, by decide, rfl, fun r r0 r1 => ?_⟩
    obtain ⟨u1, u2⟩ := asc_upper hta
    have K1 : ∀ (s : Str) (h : (decide (s.length ≤ 5000) && decide (asc s)) = true), okV (.str s) := fun s h => by
      have := Bool.and_eq_true_iff.mp h
      exact okV_str (of_decide_eq_true this.1) (of_decide_eq_true this.2)
    have K2 : ∀ c : Str, c.length ≤ 1 → asc c → okV (.str (t ++ c)) := fun c h1 h2 => okV_str (by rw [app_len]; omega) (asc_app hta h2)
    obtain ⟨d, hd, hm⟩ := atI_mem (xs := ([D.none, .bool true, .bool false, .int 0, .int 1, .int (-1), .int (10 ^ (30 : Int).toNat), .str "", .str ".", .str "A", .str "a.", .str ".a", .str "a..b", .str "a b", .str "abcdefghi", .str "a\n", .str " a"] ++ [D.str "a.b.c.d.e.f.g", .tup [], .lst [], .dct [] [], .tup [.str t], .lst [.str t], .dct [.inr t] [.str t], .tup [.str t, .str t], .tup [.str t, .str t, .str t]]) ++ [D.str (t ++ Str.ofString "."), .str (t ++ Str.ofString "\n"), .str (Txt.upper t), .str (t ++ Str.ofString "-"), .lst [.str t, .str t], .tup [.str "a", .lst [], .dct [] []], .tup [.tup [.str t, .str t]]]) r0 r1
    refine ⟨d, hd, q d f1 ?_ (by omega)⟩
    simp only [List.cons_append, List.nil_append, List.mem_cons, List.not_mem_nil, or_false] at hm
    rcases hm with rfl | rfl | rfl | rfl | rfl | rfl | rfl | rfl | rfl | rfl | rfl | rfl | rfl | rfl | rfl | rfl | rfl | rfl | rfl | rfl | rfl | rfl | rfl | rfl | rfl | rfl | rfl | rfl | rfl | rfl | rfl | rfl | rfl
    all_goals first
      | exact okV_no rfl rfl
      | exact K2 _ (by decide +kernel) (by decide +kernel)
      | exact okV_str (by omega) u1
      | exact K1 _ (by decide +kernel)
/-! _law_text -/
abbrev s__law_text : Stmt := topS 12
theorem sc__law_text : FnScope ["_law_deck_here", "_law_letters", "_law_found", "_law_name", "_law_many", "_law_k"] ["_law_deck_here"] (defScope s__law_text) := ⟨rfl, rfl, rfl, by decide +kernel, rfl, by decide +kernel, by decide +kernel⟩
def Sp__law_text : DSp := fun g ds f Q => ∃ k : Dk, g = some k ∧ ds = [.any (.ref k.a)] ∧ 71 ≤ f ∧ ∀ s f', asc s → s.length ≤ 70 → f ≤ f' + 71 → Q (.str s) f'
theorem jn_len' {m : Nat} : ∀ {l : List (List Nat)}, (∀ n ∈ l, n.length ≤ m) → (jn l).length ≤ (m + 1) * l.length
  | [], _ => Nat.zero_le _
  | [a], h => by have := h a (by simp); simp only [jn, List.length_singleton]; omega
  | a :: b :: r, h => by
    have ih := jn_len' (l := b :: r) fun n hn => h n (by simp [hn])
    have := h a (by simp)
    rw [List.length_cons, Nat.mul_add]
    simp only [jn, List.length_append, List.length_cons] at ih ⊢
    omega
theorem low_join (ns : List Str) (h : ∀ n ∈ ns, ∃ c, cd n = [c] ∧ 97 ≤ c ∧ c ≤ 122) : (Txt.join "" ns).length = ns.length ∧ asc (Txt.join "" ns) := by
  have e : ∀ ns : List Str, (∀ n ∈ ns, ∃ c, cd n = [c] ∧ 97 ≤ c ∧ c ≤ 122) → ((ns.map cd).flatten).length = ns.length ∧ ∀ c ∈ (ns.map cd).flatten, 97 ≤ c ∧ c ≤ 122 := by
    intro ns
    induction ns with
    | nil => intro _; simp
    | cons x l ih =>
      intro h
      obtain ⟨c, hc, hb⟩ := h x (by simp)
      obtain ⟨i1, i2⟩ := ih fun n hn => h n (by simp [hn])
      rw [List.map_cons, List.flatten_cons, hc]
      refine ⟨by simp only [List.length_append, List.length_cons, List.length_nil, i1]; omega, fun d hd => ?_⟩
      rcases List.mem_append.mp hd with e | e
      · rw [List.mem_singleton.mp e]; exact hb
      · exact i2 d e
  obtain ⟨i1, i2⟩ := e ns h
  refine ⟨by rw [TL.len_tl]; show (cd (Txt.join "" ns)).length = _; rw [join_nil_cd, i1], fun c hc => ?_⟩
  rw [join_nil_cd] at hc
  have := i2 c hc
  omega
theorem ok__law_text (d : Df K mg "_law_text" s__law_text) (m_range : mg "range" = none) (c__law_next : Cal P w K mg base 1 "_law_next" ["_law_deck_here", "_law_many"] Sp__law_next) : Cal P w K mg base 2 "_law_text" ["_law_deck_here"] Sp__law_text := by
  obtain ⟨f, fd, F, m⟩ := d
  refine ⟨f, fd, dfn (k := 1) (S := Sp__law_text) F sc__law_text ?len (fun cdv A outer s H E hr => (dss_cons (ds_set false (i := 1) sc__law_text.nd de_str)
      (dss_cons (ds_setL false (i := 2) sc__law_text.nd (dl_lst da_nil))
      (dss_cons (ds_for [] PassesOwn.never (di_range1 m_range (da_cons (de_ix (dl_lst (da_cons de_int (da_cons de_int (da_cons de_int (da_cons de_int (da_cons de_int (da_cons de_int (da_cons de_int (da_cons de_int (da_cons de_int (da_cons de_int da_nil))))))))))).e (de_callC c__law_next (hr.mono (by decide)) (da_cons (de_v 0) (da_cons de_int da_nil)))) da_nil)) (dg_name (i := 3) sc__law_text.nd) (dss_cons (ds_set false (i := 4) sc__law_text.nd (de_ix (dl_lst (da_cons de_int (da_cons de_int (da_cons de_int (da_cons de_int (da_cons de_int (da_cons de_int (da_cons de_int (da_cons de_int (da_cons de_int (da_cons de_int (da_cons de_int (da_cons de_int (da_cons de_int (da_cons de_int da_nil))))))))))))))).e (de_callC c__law_next (hr.mono (by decide)) (da_cons (de_v 0) (da_cons de_int da_nil)))))
      (dss_one (ds_app false (i := 2) (de_join de_str (dl_lc (own := [("_law_k", 5)]) rfl sc__law_text.nd (di_range1 m_range (da_cons (de_v 4) da_nil)) (blkOk_by (own := [("_law_k", 5)]) (N := ["_law_deck_here", "_law_letters", "_law_found", "_law_name", "_law_many", "_law_k"]) (sc := defScope s__law_text) (by decide +kernel)) (fun _ _ _ _ _ => dg_name (i := 5) sc__law_text.nd) (fun _ _ _ _ _ => dts_nil) (fun _ _ _ _ _ => (de_ix (de_v 1) (de_callC c__law_next (hr.mono (by decide)) (da_cons (de_v 0) (da_cons de_int da_nil)))))).e)))))
      (dss_one (ds_ret (de_join de_str (de_v 2)))))))) ?h, F.kp, F.binds fun _ _ _ _ _ _ us hl => match us, hl with | [_], _ => rfl, m⟩
  case len =>
    intro g ds n Q h; obtain ⟨_, _, rfl, _⟩ := h; rfl
  case h =>
    intro g ds n Q h
    obtain ⟨k, rfl, rfl, hf, q⟩ := h
    obtain ⟨f1, rfl⟩ : ∃ f1, n = f1 + 1 := ⟨n - 1, by omega⟩
    refine ⟨by decide, by decide, k, 10, f1, rfl, rfl, by decide, by decide, rfl, fun r h0 h1 => ?_⟩
    obtain ⟨d, hd, hm⟩ := atI_mem (xs := [D.int 1, .int 2, .int 3, .int 6, .int 4, .int 7, .int 5, .int 0, .int 6, .int 2]) h0 h1
    refine ⟨d, hd, ?_⟩
    obtain ⟨v, rfl, v0, v1⟩ : ∃ v : Int, d = .int v ∧ 0 ≤ v ∧ v ≤ 7 := by
      simp only [List.mem_cons, List.not_mem_nil, or_false] at hm
      rcases hm with rfl | rfl | rfl | rfl | rfl | rfl | rfl | rfl | rfl | rfl <;> exact ⟨_, rfl, by decide, by decide⟩
    refine ⟨by omega, by omega, ?_⟩
    refine dFor_inv (fun rest r f => ∃ (ws : List Str) (a b c : Sl), r = [.sh (.any (.ref k.a)), .sh (.str "abcdefghijklmnopqrstuvwxyz"), .ow (ws.map D.str), a, b, c] ∧ (∀ w ∈ ws, asc w ∧ w.length ≤ 9) ∧ ws.length + rest.length ≤ 7 ∧ f1 + 1 ≤ f + 1 + 10 * ws.length) _ _ _ ?_ ?_ ⟨[], _, _, _, rfl, by simp, by rw [intsD_len]; simp; omega, by simp⟩
    · rintro d rest r f N ⟨ws, a, b, c, rfl, hws, hlen, hff⟩ hN
      rw [List.length_cons] at hlen
      refine ⟨_, rfl, ?_⟩
      obtain ⟨f2, rfl⟩ : ∃ f2, f = f2 + 1 := ⟨f - 1, by omega⟩
      refine ⟨by decide, k, 14, f2, rfl, rfl, by decide, by decide, rfl, fun r h0 h1 => ?_⟩
      obtain ⟨d, hd, hm⟩ := atI_mem (xs := [D.int 1, .int 2, .int 8, .int 3, .int 8, .int 5, .int 7, .int 1, .int 4, .int 6, .int 8, .int 2, .int 0, .int 9]) h0 h1
      refine ⟨d, hd, ?_⟩
      obtain ⟨v, rfl, v0, v1⟩ : ∃ v : Int, d = .int v ∧ 0 ≤ v ∧ v ≤ 9 := by
        simp only [List.mem_cons, List.not_mem_nil, or_false] at hm
        rcases hm with rfl | rfl | rfl | rfl | rfl | rfl | rfl | rfl | rfl | rfl | rfl | rfl | rfl | rfl <;> exact ⟨_, rfl, by decide, by decide⟩
      refine ⟨ws.map D.str, rfl, trivial, by omega, by omega, by rw [intsD_len]; exact Nat.le_trans (by omega : v.toNat ≤ 9) (by decide), ?_⟩
      refine dLcGo_each (P := fun y => ∃ s, y = .str s ∧ ∃ c, cd s = [c] ∧ 97 ≤ c ∧ c ≤ 122) 1 _ _ _ (by rw [intsD_len]; omega) (fun d _ => ⟨_, rfl, fun f Q hf hq => ?_⟩) (fun ys f' hl hy hf' => ?_)
      · obtain ⟨f2, rfl⟩ : ∃ f2, f = f2 + 1 := ⟨f - 1, by omega⟩
        refine ⟨k, 26, f2, rfl, rfl, by decide, by decide, rfl, fun r h0 h1 => ?_⟩
        obtain ⟨c, hc, hb⟩ := letters_at h0 h1
        exact ⟨by decide +kernel, c, hc, hq _ _ ⟨_, rfl, c, rfl, hb⟩ (Nat.le_refl _)⟩
      · rw [intsD_len] at hl hf'
        obtain ⟨l, rfl, hl2⟩ := strs_of hy
        rw [List.length_map] at hl
        obtain ⟨j1, j2⟩ := low_join l hl2
        refine ⟨l, rfl, join_names l (fun n hn => ?_) (by omega) _ (by decide +kernel), ?_, ?_⟩
        · obtain ⟨c, hc, _⟩ := hl2 n hn
          rw [TL.len_tl]
          show (cd n).length ≤ 1000
          rw [hc]
          exact (by decide : 1 ≤ 1000)
        · rw [List.length_map]; exact Nat.le_trans (by omega : ws.length ≤ 7) (by decide)
        · refine hN _ _ ⟨ws ++ [Txt.join "" l], _, _, _, by rw [List.map_append]; rfl, fun w hw => ?_, by rw [List.length_append]; simp; omega, by rw [List.length_append]; simp; omega⟩
          rcases List.mem_append.mp hw with h | h
          · exact hws w h
          · rw [List.mem_singleton.mp h]; exact ⟨j2, by omega⟩
    · rintro r f ⟨ws, a, b, c, rfl, hws, hlen, hff⟩
      rw [List.length_nil] at hlen
      refine ⟨trivial, ws, rfl, join_names ws (fun n hn => Nat.le_trans (hws n hn).2 (by decide)) (by omega) _ (by decide +kernel), q _ _ (fun c hc => ?_) ?_ (by omega)⟩
      · rw [cd_join] at hc
        rcases jn_mem hc with e | ⟨n, hn, e⟩
        · omega
        · obtain ⟨s, hs, rfl⟩ := List.mem_map.mp hn
          exact (hws s hs).1 c e
      · rw [TL.len_tl]
        show (cd (Txt.join "." ws)).length ≤ 70
        rw [cd_join]
        have := jn_len' (m := 9) (l := ws.map cd) fun n hn => by
          obtain ⟨s, hs, rfl⟩ := List.mem_map.mp hn
          have := (hws s hs).2
          rw [TL.len_tl] at this
          exact this
        rw [List.length_map] at this
        omega
abbrev s__law_deck : Stmt := topS 7
theorem sc__law_deck : FnScope ["_law_script", "_law_cells", "_law_number"] ["_law_script"] (defScope s__law_deck) := ⟨rfl, rfl, rfl, by decide +kernel, rfl, by decide +kernel, by decide +kernel⟩
def CalD (P : Program) (w : World) (K : PySem.W.Frag) (mg : Str → Option Value) (base : Heap) : Prop :=
  ∃ f fd, FnOk P w K mg base CX0 1 f fd ["_law_script"] (spDeck K) ∧ PySem.W.keepIn K (.ref f) = true ∧ Binds K fd ["_law_script"] [] ∧ mg "_law_deck" = some (.ref f)
theorem ok__law_deck (d : Df K mg "_law_deck" s__law_deck) (m_len : mg "len" = none) (m_abs : mg "abs" = none) : CalD P w K mg base := by
  obtain ⟨f, fd, F, mm⟩ := d
  refine ⟨f, fd, ?_, F.kp, F.binds fun _ _ _ _ _ _ us hl => match us, hl with | [_], _ => rfl, mm⟩
  refine F.ok sc__law_deck (fun vs H Q E h => ?_) (fun cdv A outer s H vs Q E hr h => ?_)
  · obtain ⟨a, ns, rfl, _⟩ := h
    rfl
  · obtain ⟨a, ns, rfl, hS, hlen, q⟩ := h
    refine ⟨_, pss_cons (ps_setLc (i := 1) (own := [("_law_number", 2)]) (g := gName 2) (tt := tYes) rfl sc__law_deck.nd rfl rfl (sw_true rfl rfl rfl (by decide +kernel)) (pi_list (pv 0)) (blkOk_by (N := ["_law_script", "_law_cells", "_law_number"]) (sc := defScope s__law_deck) (by decide +kernel))
        (fun _ _ _ _ _ => pg_name (i := 2) sc__law_deck.nd rfl (Or.inl rfl)) (fun _ _ _ _ _ => pts_nil) (fun _ _ _ _ _ => pe_callB call_abs (by rfl) m_abs (by decide +kernel) (pa_cons (pv 2) pa_nil)))
      (pss_one (ps_ret (pe_lst (pa_cons (pe_lc (own := [("_law_number", 2)]) (g := gName 2) rfl sc__law_deck.nd (pi_list (pv 1)) (blkOk_by (N := ["_law_script", "_law_cells", "_law_number"]) (sc := defScope s__law_deck) (by decide +kernel))
          (fun _ _ _ _ _ => pg_name (i := 2) sc__law_deck.nd rfl (Or.inl rfl)) (fun _ _ _ _ _ => pts_one (pt_cmpR op_ge (pv 2) (pe_op op_pow pe_int pe_int) (nomark _))) (fun _ _ _ _ _ => pv 2))
        (pa_cons (pe_op op_cat (pv 1) (pe_lst (pa_cons (pe_op op_add (pe_callB call_len_seq (by rfl) m_len PySem.boot_len (pa_cons (pv 1) pa_nil)) pe_int) pa_nil)))
        (pa_cons pe_int pa_nil)))))), ?_⟩
    -- cells
    refine ⟨.ref a, rfl, a, rfl, ⟨_, hS⟩, fun D hD => ?_⟩
    have ab : ∀ i : Int, (if i < 0 then -i else i) = (i.natAbs : Int) := fun i => by split <;> omega
    refine lc_list (K := K) (a := a) (xs := ns.map V.int) (fun i H2 => Same H H2 ∧ H2 D = some (.lst (((ns.take i).map fun n => (n.natAbs : Int)).map V.int))) ⟨same_upd hD, upd_same⟩ (fun i H2 _ h2 => h2.1.seq hS) (fun i x H2 hx h2 => ?_) (fun H1 h1 => ?_)
    · obtain ⟨s2, e2⟩ := h2
      have hil : i < ns.length := by
        have := (List.getElem?_eq_some_iff.mp hx).1
        simpa using this
      rw [List.getElem?_map, List.getElem?_eq_getElem hil] at hx
      cases hx
      refine ⟨rfl, ?_⟩
      unfold tYes
      refine iteT ?_
      refine ⟨.int ns[i], rfl, ns[i], rfl, _, e2, ?_, ?_, ?_⟩
      · rw [List.length_map, List.length_map, List.length_take]
        exact lim_lt (Nat.le_trans (Nat.min_le_left _ _) (Nat.le_trans (Nat.le_of_lt hil) (Nat.le_trans hlen (by decide))))
      · intro b o e
        rw [upd_ne (ne_of_none e hD)]
        exact s2 b o e
      · rw [upd_same, ab, List.take_add_one, List.getElem?_eq_getElem hil, List.map_append, List.map_append]
        rfl
    obtain ⟨s1, e1⟩ := h1
    rw [List.length_map, List.take_length] at e1
    generalize hcs : (ns.map fun n => (n.natAbs : Int)) = cs at e1
    have hcl : cs.length = ns.length := by rw [← hcs, List.length_map]
    have hcp : ∀ x ∈ cs, 0 ≤ x := fun x hx => by
      rw [← hcs] at hx
      obtain ⟨n, _, rfl⟩ := List.mem_map.mp hx
      exact Int.natCast_nonneg _
    -- the great ones
    refine ⟨.ref D, rfl, D, rfl, ⟨_, SqL.of e1⟩, fun B hB => ?_⟩
    have nDB : D ≠ B := ne_of_none e1 hB
    refine lc_list (K := K) (a := D) (xs := cs.map V.int) (fun i H2 => Same H1 H2 ∧ ∃ zs : List Int, H2 B = some (.lst (zs.map V.int)) ∧ zs.length ≤ i ∧ ∀ z ∈ zs, 0 ≤ z) ⟨same_upd hB, [], upd_same, Nat.le_refl _, by simp⟩ (fun i H2 _ h2 => SqL.of (h2.1 _ _ e1)) (fun i x H2 hx h2 => ?_) (fun H2 h2 => ?_)
    · obtain ⟨s2, zs, e2, l2, p2⟩ := h2
      have hil : i < cs.length := by
        have := (List.getElem?_eq_some_iff.mp hx).1
        simpa using this
      rw [List.getElem?_map, List.getElem?_eq_getElem hil] at hx
      cases hx
      refine ⟨rfl, .int cs[i], rfl, 10, 18, rfl, rfl, ⟨by decide, by decide, by decide⟩, cs[i], _, rfl, rfl, _, rfl, ite2 (fun _ => ?_) (fun _ => ?_)⟩
      · refine ⟨.int cs[i], rfl, zs.map V.int, e2, ?_, fun b o e => ?_, zs ++ [cs[i]], ?_, ?_, ?_⟩
        · rw [List.length_map]
          exact lim_lt (Nat.le_trans l2 (Nat.le_trans (Nat.le_of_lt hil) (by rw [hcl]; exact Nat.le_trans hlen (by decide))))
        · rw [upd_ne (ne_of_none e hB)]
          exact s2 b o e
        · rw [upd_same, List.map_append]; rfl
        · simp; omega
        · intro z hz
          rcases List.mem_append.mp hz with h | h
          · exact p2 z h
          · rw [List.mem_singleton.mp h]; exact hcp _ (List.getElem_mem hil)
      · exact ⟨s2, zs, e2, Nat.le_trans l2 (Nat.le_succ i), p2⟩
    obtain ⟨s2, zs, e2, l2, p2⟩ := h2
    have f1 : H2 D = some (.lst (cs.map V.int)) := s2 _ _ e1
    -- cells + [len(cells) + 3]
    refine ⟨.ref D, rfl, .ref D, rfl, D, cs.map V.int, rfl, .inl (SqL.of f1), _, 3, rfl, rfl, by show 1 ≤ sizeLine; decide, fun T hT => ?_⟩
    have nDT : D ≠ T := ne_of_none f1 hT
    have nBT : B ≠ T := ne_of_none e2 hT
    refine ⟨D, T, _, _, rfl, rfl, by rw [upd_ne nDT]; exact f1, upd_same, ?_, fun C hC => ?_⟩
    · rw [List.length_map]
      show cs.length + 1 ≤ sizeLine
      rw [hcl]
      exact lim_le (Nat.le_trans (Nat.succ_le_succ hlen) (by decide))
    have nBC : B ≠ C := fun e => by
      rw [← e, upd_ne nBT, e2] at hC
      cases hC
    refine ⟨by show 3 ≤ sizeLine; decide, fun p hp => ?_⟩
    have gB : upd (upd H2 T (.lst [V.int (((cs.map V.int).length : Int) + 3)])) C (.lst (cs.map V.int ++ [V.int (((cs.map V.int).length : Int) + 3)])) B = some (.lst (zs.map V.int)) := by
      rw [upd_ne nBC, upd_ne nBT]
      exact e2
    have nBp : B ≠ p := ne_of_none gB hp
    have nCp : C ≠ p := ne_of_none upd_same hp
    have sT : Same H2 (upd H2 T (.lst [V.int (((cs.map V.int).length : Int) + 3)])) := same_upd hT
    have sC := same_upd (o := .lst (cs.map V.int ++ [V.int (((cs.map V.int).length : Int) + 3)])) hC
    have sp := same_upd (o := .lst [V.ref B, V.ref C, V.int 0]) hp
    have all := (((s1.trans s2).trans sT).trans sC).trans sp
    have h0 : ∀ {b : Addr} {H' : Hp}, Same H H' → H' b = none → H b = none := fun s h => s.free h
    refine q _ ⟨p, B, C⟩ all ?_ ?_ ?_ ⟨fun e => nBp e.symm, fun e => nCp e.symm, nBC, 0, zs, cs ++ [((cs.length : Int) + 3)], upd_same, ?_, ?_, p2, ?_, ?_, by decide, by decide⟩
    · exact h0 (((s1.trans s2).trans sT).trans sC) hp
    · exact h0 s1 hB
    · exact h0 ((s1.trans s2).trans sT) hC
    · rw [upd_ne nBp]; exact gB
    · rw [upd_ne nCp, upd_same, List.length_map, List.map_append]; rfl
    · intro y hy
      rcases List.mem_append.mp hy with h | h
      · exact hcp y h
      · rw [List.mem_singleton.mp h]; omega
    · simp

/-! law -/
abbrev s_law : Stmt := topS 14
theorem sc_law : FnScope ["_law_script", "_law_deck_here", "_law_tried", "_law_turn", "_law_value", "_law_text_here"] ["_law_script"] (defScope s_law) := ⟨rfl, rfl, rfl, by decide +kernel, rfl, by decide +kernel, by decide +kernel⟩
def w6 : Str := Txt.mul "abcdefgh." 5 ++ Str.ofString "abcdefgh"
def w7 : Str := Txt.mul "abcdefgh." 6 ++ Str.ofString "a"
def w2k : Str := Txt.mul "a" 2000
def w9h : Str := Txt.mul "a." 900 ++ Str.ofString "a"
theorem okw : okV (.str w6) ∧ okV (.str w7) ∧ okV (.str w2k) ∧ okV (.str w9h) := ⟨okV_str (by decide +kernel) (by decide +kernel), okV_str (by decide +kernel) (by decide +kernel), okV_str (by decide +kernel) (by decide +kernel), okV_str (by decide +kernel) (by decide +kernel)⟩
theorem okf : ∀ z ∈ [D.str "", .str "a", .str w6, .str w7, .str "abcdefghi", .str w2k, .str w9h], okV z := by
  intro z hz
  obtain ⟨a, b, c, d⟩ := okw
  simp only [List.mem_cons, List.not_mem_nil, or_false] at hz
  rcases hz with rfl | rfl | rfl | rfl | rfl | rfl | rfl
  · exact okV_str (by decide +kernel) (by decide +kernel)
  · exact okV_str (by decide +kernel) (by decide +kernel)
  · exact a
  · exact b
  · exact okV_str (by decide +kernel) (by decide +kernel)
  · exact c
  · exact d
theorem ok_law {f : Addr} {fd : FuncData} (F : Fun K "law" "law" s_law f fd) (c__law_deck : CalD P w K mg base) (m_range : mg "range" = none) (c__law_says : Cal P w K mg base 1 "_law_says" ["_law_found", "_law_due"] Sp__law_says) (c__law_is_path : Cal P w K mg base 1 "_law_is_path" ["_law_value"] Sp__law_is_path) (c_is_path : Cal P w K mg base 2 "is_path" ["value"] Sp_is_path) (c__law_odd : Cal P w K mg base 2 "_law_odd" ["_law_deck_here", "_law_path"] Sp__law_odd) (c__law_bent : Cal P w K mg base 2 "_law_bent" ["_law_deck_here", "_law_text_here"] Sp__law_bent) (c__law_text : Cal P w K mg base 2 "_law_text" ["_law_deck_here"] Sp__law_text) : FnOk P w K mg base CX0 3 f fd ["_law_script"] (spLaw K) := by
  obtain ⟨fD, fdD, GD, kD, bD, mD⟩ := c__law_deck
  refine dlaw F sc_law (by decide) rfl (fun cdv A outer s H E hr => ⟨ps_set (i := 1) sc_law.nd rfl (.inl rfl) (pe_call GD (hr.mono (by decide)) (by rfl) mD kD bD .nil pass0 (pa_cons (pv 0) pa_nil)), (dss_cons (ds_set false (i := 2) sc_law.nd (dl_lst (da_cons de_str (da_cons de_str (da_cons (de_add (de_mulS de_str de_int) de_str) (da_cons (de_add (de_mulS de_str de_int) de_str) (da_cons de_str (da_cons (de_mulS de_str de_int) (da_cons (de_add (de_mulS de_str de_int) de_str) da_nil)))))))).e)
      (dss_cons (ds_for [] PassesOwn.never (di_range1 m_range (da_cons de_int da_nil)) (dg_name (i := 3) sc_law.nd) (dss_cons (ds_set false (i := 5) sc_law.nd (de_callC c__law_text (hr.mono (by decide)) (da_cons (de_v 1) da_nil)))
      (dss_one (ds_set false (i := 2) sc_law.nd (de_add (de_v 2) (dl_lst (da_cons (de_v 5) (da_cons (de_add (de_v 5) de_str) (da_cons (de_callC c__law_bent (hr.mono (by decide)) (da_cons (de_v 1) (da_cons (de_v 5) da_nil))) (da_cons (de_callC c__law_odd (hr.mono (by decide)) (da_cons (de_v 1) (da_cons (de_v 5) da_nil))) da_nil))))).e)))))
      (dss_cons (ds_for [] PassesOwn.never (di_seq (de_add (de_v 2) (de_sl (de_v 2) do_none (do_some de_int)))) (dg_name (i := 4) sc_law.nd) (dss_one (ds_if (dp_not (dp_val (de_callC c__law_says (hr.mono (by decide)) (da_cons (de_callC c_is_path (hr.mono (by decide)) (da_cons (de_v 4) da_nil)) (da_cons (de_callC c__law_is_path (hr.mono (by decide)) (da_cons (de_v 4) da_nil)) da_nil))))) (dss_one (ds_ret de_bl)) dss_nil)))
      (dss_one (ds_ret de_bl)))))⟩) ?h
  case h =>
    intro dk
    refine ⟨⟨by decide, by decide, by decide +kernel⟩, by decide +kernel, ⟨by decide, by decide, by decide +kernel⟩, by decide +kernel, ⟨by decide, by decide, by decide +kernel⟩, ⟨by decide, by decide, by decide +kernel⟩, by decide +kernel, by decide, ?_⟩
    refine ⟨by decide, by decide, ?_⟩
    refine dFor_inv (fun rest r f => ∃ (ts : List D) (a b c d : Sl), r = [a, .sh (.any (.ref dk.a)), .sh (.lst ts), b, c, d] ∧ (∀ z ∈ ts, okV z) ∧ ts.length + 4 * rest.length ≤ 27 ∧ 100 * rest.length ≤ f) _ _ _ ?_ ?_ ⟨_, _, _, _, _, rfl, okf, by rw [intsD_len]; decide, by rw [intsD_len]; decide⟩
    · rintro d0 rest r f N ⟨ts, a, b, c, d, rfl, hts, hl, hf⟩ hN
      rw [List.length_cons] at hl hf
      refine ⟨_, rfl, dk, rfl, rfl, by omega, fun s f1 hsa hsl hf1 => ?_⟩
      refine ⟨Nat.le_trans (Nat.add_le_add_right hsl 1) (by decide), dk, s, rfl, rfl, hsa, by omega, by omega, fun b f2 hba hbl hf2 => ?_⟩
      refine ⟨dk, s, rfl, rfl, hsa, by omega, by omega, fun v f3 hv hf3 => ?_⟩
      refine ⟨show 4 ≤ lim by decide, Nat.le_trans (by show ts.length + 4 ≤ 27; omega) (by decide), hN _ _ ⟨_, _, _, _, _, rfl, fun z hz => ?_, by rw [List.length_append]; show ts.length + 4 + 4 * rest.length ≤ 27; omega, by omega⟩⟩
      rcases List.mem_append.mp hz with h | h
      · exact hts z h
      · simp only [List.mem_cons, List.not_mem_nil, or_false] at h
        rcases h with rfl | rfl | rfl | rfl
        · exact okV_str (by omega) hsa
        · exact okV_str (by rw [app_len]; show s.length + 1 ≤ 5000; omega) (asc_app hsa (by decide +kernel))
        · exact okV_str (by omega) hba
        · exact hv
    · rintro r f ⟨ts, a, b, c, d, rfl, hts, hl, hf⟩
      rw [List.length_nil] at hl
      have e3 : cutD ts none (some 3) = ts.take 3 := cutD_take ts 3
      refine ⟨?_, ?_⟩
      · rw [e3, List.length_take]; exact Nat.le_trans (by omega : _ ≤ 30) (by decide)
      refine dFor_inv (fun rest r f => ∃ (a b c d e h : Sl), r = [a, b, c, d, e, h] ∧ (∀ z ∈ rest, okV z)) _ _ _ ?_ (fun r f _ => rfl) ⟨_, _, _, _, _, _, rfl, fun z hz => ?_⟩
      · rintro z rest r f N ⟨a, b, c, d, e, h, rfl, hz⟩ hN
        obtain ⟨z1, z2⟩ := hz z (by simp)
        refine ⟨_, rfl, z, rfl, z1, fun s e => Nat.le_trans (z2 s e).1 (by decide), z, rfl, z1, z2, _, _, rfl, ?_⟩
        rw [decide_eq_true rfl]
        exact hN _ _ ⟨_, _, _, _, _, _, rfl, fun z hz' => hz z (by simp [hz'])⟩
      · rw [e3] at hz
        rcases List.mem_append.mp hz with h | h
        · exact hts z h
        · exact hts z (List.mem_of_mem_take h)
end
theorem all_mk {l : PySem.W.OpenLaw} {w : World} {K : PySem.W.Frag} {h : Heap} {mg : Str → Option Value} {fa : Addr} (X : K.In h) (G : h.Ns mainGlobals mg) (hfa : mg "law" = some (.ref fa))
    {f0 : Addr} {od0 an0 : Option Addr} {sl0 : Array (Option Value)} {oc0 kV0 dc0 pm0 cd0 ct0 : Value}
    (a0 : PySem.W.nsIn K mainGlobals "_law_says" = some (some (.ref f0))) (l0 : K.lookup f0 = some ⟨oc0, od0, .func (PySem.W.fnOf "_law_says" "_law_says" (defArgs s__law_says) (defBody s__law_says) (defScope s__law_says) .none kV0 dc0 pm0 an0 cd0 ct0), sl0⟩) (c0 : PySem.W.codeIn K cd0 "_law_says" = true) (k0 : PySem.W.keepIn K (.ref f0) = true)
    {f1 : Addr} {od1 an1 : Option Addr} {sl1 : Array (Option Value)} {oc1 kV1 dc1 pm1 cd1 ct1 : Value}
    (a1 : PySem.W.nsIn K mainGlobals "is_name" = some (some (.ref f1))) (l1 : K.lookup f1 = some ⟨oc1, od1, .func (PySem.W.fnOf "is_name" "is_name" (defArgs s_is_name) (defBody s_is_name) (defScope s_is_name) .none kV1 dc1 pm1 an1 cd1 ct1), sl1⟩) (c1 : PySem.W.codeIn K cd1 "is_name" = true) (k1 : PySem.W.keepIn K (.ref f1) = true)
    {f2 : Addr} {od2 an2 : Option Addr} {sl2 : Array (Option Value)} {oc2 kV2 dc2 pm2 cd2 ct2 : Value}
    (a2 : PySem.W.nsIn K mainGlobals "is_path" = some (some (.ref f2))) (l2 : K.lookup f2 = some ⟨oc2, od2, .func (PySem.W.fnOf "is_path" "is_path" (defArgs s_is_path) (defBody s_is_path) (defScope s_is_path) .none kV2 dc2 pm2 an2 cd2 ct2), sl2⟩) (c2 : PySem.W.codeIn K cd2 "is_path" = true) (k2 : PySem.W.keepIn K (.ref f2) = true)
    {f3 : Addr} {od3 an3 : Option Addr} {sl3 : Array (Option Value)} {oc3 kV3 dc3 pm3 cd3 ct3 : Value}
    (a3 : PySem.W.nsIn K mainGlobals "_law_is_path" = some (some (.ref f3))) (l3 : K.lookup f3 = some ⟨oc3, od3, .func (PySem.W.fnOf "_law_is_path" "_law_is_path" (defArgs s__law_is_path) (defBody s__law_is_path) (defScope s__law_is_path) .none kV3 dc3 pm3 an3 cd3 ct3), sl3⟩) (c3 : PySem.W.codeIn K cd3 "_law_is_path" = true) (k3 : PySem.W.keepIn K (.ref f3) = true)
    {f4 : Addr} {od4 an4 : Option Addr} {sl4 : Array (Option Value)} {oc4 kV4 dc4 pm4 cd4 ct4 : Value}
    (a4 : PySem.W.nsIn K mainGlobals "_law_next" = some (some (.ref f4))) (l4 : K.lookup f4 = some ⟨oc4, od4, .func (PySem.W.fnOf "_law_next" "_law_next" (defArgs s__law_next) (defBody s__law_next) (defScope s__law_next) .none kV4 dc4 pm4 an4 cd4 ct4), sl4⟩) (c4 : PySem.W.codeIn K cd4 "_law_next" = true) (k4 : PySem.W.keepIn K (.ref f4) = true)
    {f5 : Addr} {od5 an5 : Option Addr} {sl5 : Array (Option Value)} {oc5 kV5 dc5 pm5 cd5 ct5 : Value}
    (a5 : PySem.W.nsIn K mainGlobals "_law_bent" = some (some (.ref f5))) (l5 : K.lookup f5 = some ⟨oc5, od5, .func (PySem.W.fnOf "_law_bent" "_law_bent" (defArgs s__law_bent) (defBody s__law_bent) (defScope s__law_bent) .none kV5 dc5 pm5 an5 cd5 ct5), sl5⟩) (c5 : PySem.W.codeIn K cd5 "_law_bent" = true) (k5 : PySem.W.keepIn K (.ref f5) = true)
    {f6 : Addr} {od6 an6 : Option Addr} {sl6 : Array (Option Value)} {oc6 kV6 dc6 pm6 cd6 ct6 : Value}
    (a6 : PySem.W.nsIn K mainGlobals "_law_odd" = some (some (.ref f6))) (l6 : K.lookup f6 = some ⟨oc6, od6, .func (PySem.W.fnOf "_law_odd" "_law_odd" (defArgs s__law_odd) (defBody s__law_odd) (defScope s__law_odd) .none kV6 dc6 pm6 an6 cd6 ct6), sl6⟩) (c6 : PySem.W.codeIn K cd6 "_law_odd" = true) (k6 : PySem.W.keepIn K (.ref f6) = true)
    {f7 : Addr} {od7 an7 : Option Addr} {sl7 : Array (Option Value)} {oc7 kV7 dc7 pm7 cd7 ct7 : Value}
    (a7 : PySem.W.nsIn K mainGlobals "_law_text" = some (some (.ref f7))) (l7 : K.lookup f7 = some ⟨oc7, od7, .func (PySem.W.fnOf "_law_text" "_law_text" (defArgs s__law_text) (defBody s__law_text) (defScope s__law_text) .none kV7 dc7 pm7 an7 cd7 ct7), sl7⟩) (c7 : PySem.W.codeIn K cd7 "_law_text" = true) (k7 : PySem.W.keepIn K (.ref f7) = true)
    {f8 : Addr} {od8 an8 : Option Addr} {sl8 : Array (Option Value)} {oc8 kV8 dc8 pm8 cd8 ct8 : Value}
    (a8 : PySem.W.nsIn K mainGlobals "_law_deck" = some (some (.ref f8))) (l8 : K.lookup f8 = some ⟨oc8, od8, .func (PySem.W.fnOf "_law_deck" "_law_deck" (defArgs s__law_deck) (defBody s__law_deck) (defScope s__law_deck) .none kV8 dc8 pm8 an8 cd8 ct8), sl8⟩) (c8 : PySem.W.codeIn K cd8 "_law_deck" = true) (k8 : PySem.W.keepIn K (.ref f8) = true)
    {f9 : Addr} {od9 an9 : Option Addr} {sl9 : Array (Option Value)} {oc9 kV9 dc9 pm9 cd9 ct9 : Value}
    (a9 : PySem.W.nsIn K mainGlobals "law" = some (some (.ref f9))) (l9 : K.lookup f9 = some ⟨oc9, od9, .func (PySem.W.fnOf "law" "law" (defArgs s_law) (defBody s_law) (defScope s_law) .none kV9 dc9 pm9 an9 cd9 ct9), sl9⟩) (c9 : PySem.W.codeIn K cd9 "law" = true) (k9 : PySem.W.keepIn K (.ref f9) = true)
    (z_bool : PySem.W.nsIn K mainGlobals "bool" = some none)
    (z_isinstance : PySem.W.nsIn K mainGlobals "isinstance" = some none)
    (z_all : PySem.W.nsIn K mainGlobals "all" = some none)
    (z_len : PySem.W.nsIn K mainGlobals "len" = some none)
    (z_str : PySem.W.nsIn K mainGlobals "str" = some none)
    (z_int : PySem.W.nsIn K mainGlobals "int" = some none)
    (z_range : PySem.W.nsIn K mainGlobals "range" = some none)
    (z_abs : PySem.W.nsIn K mainGlobals "abs" = some none)
    {tk_LETTERS : Tok} (y_LETTERS : PySem.W.nsIn K mainGlobals "LETTERS" = some (some (.str "abcdefghijklmnopqrstuvwxyz" tk_LETTERS)))
    {tk_MAX_LETTERS : Tok} (y_MAX_LETTERS : PySem.W.nsIn K mainGlobals "MAX_LETTERS" = some (some (.int 8 tk_MAX_LETTERS)))
    {tk_MAX_NAMES : Tok} (y_MAX_NAMES : PySem.W.nsIn K mainGlobals "MAX_NAMES" = some (some (.int 6 tk_MAX_NAMES))) :
    ∃ fd : FuncData, (∀ (s : Shared) (v : Value), BindsTo s fd ⟨[v], []⟩ [("_law_script", v)]) ∧ ∀ base : Heap, K.In base → base.Ns mainGlobals mg → FnOk l.prog w K mg base CX0 3 fa fd ["_law_script"] (spLaw K) := by
  have e := hfa.symm.trans (PySem.W.mg_of X G a9)
  cases e
  have m_bool := PySem.W.mg_none_of X G z_bool
  have m_isinstance := PySem.W.mg_none_of X G z_isinstance
  have m_all := PySem.W.mg_none_of X G z_all
  have m_len := PySem.W.mg_none_of X G z_len
  have m_str := PySem.W.mg_none_of X G z_str
  have m_int := PySem.W.mg_none_of X G z_int
  have m_range := PySem.W.mg_none_of X G z_range
  have m_abs := PySem.W.mg_none_of X G z_abs
  have g_LETTERS : ∃ t, mg "LETTERS" = some (.str "abcdefghijklmnopqrstuvwxyz" t) := ⟨_, PySem.W.mg_of X G y_LETTERS⟩
  have g_MAX_LETTERS : ∃ t, mg "MAX_LETTERS" = some (.int 8 t) := ⟨_, PySem.W.mg_of X G y_MAX_LETTERS⟩
  have g_MAX_NAMES : ∃ t, mg "MAX_NAMES" = some (.int 6 t) := ⟨_, PySem.W.mg_of X G y_MAX_NAMES⟩
  refine ⟨PySem.W.fnOf "law" "law" (defArgs s_law) (defBody s_law) (defScope s_law) .none kV9 dc9 pm9 an9 cd9 ct9, fun s v => .of_eq rfl, fun base _ _ => ?_⟩
  have d__law_says : Df K mg "_law_says" s__law_says := ⟨_, _, fun_mk l0 c0 k0, PySem.W.mg_of X G a0⟩
  have d_is_name : Df K mg "is_name" s_is_name := ⟨_, _, fun_mk l1 c1 k1, PySem.W.mg_of X G a1⟩
  have d_is_path : Df K mg "is_path" s_is_path := ⟨_, _, fun_mk l2 c2 k2, PySem.W.mg_of X G a2⟩
  have d__law_is_path : Df K mg "_law_is_path" s__law_is_path := ⟨_, _, fun_mk l3 c3 k3, PySem.W.mg_of X G a3⟩
  have d__law_next : Df K mg "_law_next" s__law_next := ⟨_, _, fun_mk l4 c4 k4, PySem.W.mg_of X G a4⟩
  have d__law_bent : Df K mg "_law_bent" s__law_bent := ⟨_, _, fun_mk l5 c5 k5, PySem.W.mg_of X G a5⟩
  have d__law_odd : Df K mg "_law_odd" s__law_odd := ⟨_, _, fun_mk l6 c6 k6, PySem.W.mg_of X G a6⟩
  have d__law_text : Df K mg "_law_text" s__law_text := ⟨_, _, fun_mk l7 c7 k7, PySem.W.mg_of X G a7⟩
  have d__law_deck : Df K mg "_law_deck" s__law_deck := ⟨_, _, fun_mk l8 c8 k8, PySem.W.mg_of X G a8⟩
  have c__law_says := ok__law_says (P := l.prog) (w := w) (base := base) d__law_says m_bool m_isinstance
  have c_is_name := ok_is_name (P := l.prog) (w := w) (base := base) d_is_name m_all m_len m_str m_isinstance g_LETTERS g_MAX_LETTERS
  have c_is_path := ok_is_path (P := l.prog) (w := w) (base := base) d_is_path m_all m_len m_str m_isinstance g_MAX_NAMES c_is_name
  have c__law_is_path := ok__law_is_path (P := l.prog) (w := w) (base := base) d__law_is_path m_len m_str m_isinstance
  have c__law_next := ok__law_next (P := l.prog) (w := w) (base := base) d__law_next m_len m_int
  have c__law_bent := ok__law_bent (P := l.prog) (w := w) (base := base) d__law_bent m_range m_len c__law_next
  have c__law_odd := ok__law_odd (P := l.prog) (w := w) (base := base) d__law_odd m_len c__law_next
  have c__law_text := ok__law_text (P := l.prog) (w := w) (base := base) d__law_text m_range c__law_next
  have c__law_deck := ok__law_deck (P := l.prog) (w := w) (base := base) d__law_deck m_len m_abs
  exact ok_law (fun_mk l9 c9 k9) c__law_deck m_range c__law_says c__law_is_path c_is_path c__law_odd c__law_bent c__law_text
end DL
open PySem PySem.W PyProof.Rows
set_option maxHeartbeats 0 in
theorem PySem.Challenge.cw_mayrest_k01_path_forms_holds : PySem.Challenge.rw_mayrest_k01_path_forms.Holds := by
  w_on; o_law; k_head; (case hw => w_witness2)
  k_fill
  refine L2.walk_of (l := PySem.Challenge.rw_mayrest_k01_path_forms) (n := 63) (k := 3) (x := "_law_script") (CX := fun _ => L2.CX0) (sp := fun w => DL.spLaw _) rfl (by decide) rfl ⟨rfl, by decide, by decide⟩ (fun w h Y => PySem.W.kIn_of Y) ?F (fun _ _ a ns hl _ hS => ⟨a, ns, rfl, hS, hl, fun _ => rfl⟩) (fun _ _ _ _ _ h => h)
  case F =>
    intro w mg fa h KX G hmg
    refine' DL.all_mk KX G hmg ?a0 ?l0 ?c0 ?k0 ?a1 ?l1 ?c1 ?k1 ?a2 ?l2 ?c2 ?k2 ?a3 ?l3 ?c3 ?k3 ?a4 ?l4 ?c4 ?k4 ?a5 ?l5 ?c5 ?k5 ?a6 ?l6 ?c6 ?k6 ?a7 ?l7 ?c7 ?k7 ?a8 ?l8 ?c8 ?k8 ?a9 ?l9 ?c9 ?k9 ?z_bool ?z_isinstance ?z_all ?z_len ?z_str ?z_int ?z_range ?z_abs ?y_LETTERS ?y_MAX_LETTERS ?y_MAX_NAMES
    (case a0 => k_is); (case l0 => k_is); (case c0 => k_is); (case k0 => k_is); (case a1 => k_is); (case l1 => k_is); (case c1 => k_is); (case k1 => k_is); (case a2 => k_is); (case l2 => k_is); (case c2 => k_is); (case k2 => k_is); (case a3 => k_is); (case l3 => k_is); (case c3 => k_is); (case k3 => k_is); (case a4 => k_is); (case l4 => k_is); (case c4 => k_is); (case k4 => k_is); (case a5 => k_is); (case l5 => k_is); (case c5 => k_is); (case k5 => k_is); (case a6 => k_is); (case l6 => k_is); (case c6 => k_is); (case k6 => k_is); (case a7 => k_is); (case l7 => k_is); (case c7 => k_is); (case k7 => k_is); (case a8 => k_is); (case l8 => k_is); (case c8 => k_is); (case k8 => k_is); (case a9 => k_is); (case l9 => k_is); (case c9 => k_is); (case k9 => k_is); (case z_bool => k_is); (case z_isinstance => k_is); (case z_all => k_is); (case z_len => k_is); (case z_str => k_is); (case z_int => k_is); (case z_range => k_is); (case z_abs => k_is); (case y_LETTERS => k_is); (case y_MAX_LETTERS => k_is); (case y_MAX_NAMES => k_is)

