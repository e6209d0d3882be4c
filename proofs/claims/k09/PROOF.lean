import PyProof.Rows.All
import HandS.Exc
import Wide.All
import OpenK.AllK
import Wide.FinOn
import HandS.ForMost
import HandS.IsInst
import HandS.TupAny
import HandS.Deep
import HandS.Style
import HandS.Wide
import HandS.Zip
import HandS.Property
import HandS.More
import HandS.Small
import KE.SortData
import KE.KDictSum
import KE.GoesMore
import KE.GoesEnum
import HandS.Set
import HandS.SetFor
import HandS.Strs
import KE.KCallOwn
import HandS.FStr
import HandS.NoneIn
import KE.KEqNest
import PyProof.EqKinds
import HandS.DictComp
import HandS.MakeKwOnly
import KE.DataMinMax
import HandS.TupLe
import KE.KDictZip
import HandS.Star
import HandS.ClsMeth
import HandS.CallLocal
import HandS.ExcInit
import HandS.ExcOwn
import HandS.TryOnly
import HandS.ExcField
import HandS.ExcIs
import HandS.ExcValue
import KE.KExcIs
import PyProof.ReprRoads
import PyProof.StrLawsRepr
import PyProof.ReprLen
import HandS.StrMore
import PyProof.NeKinds
import KE.KStateDown
import HandS.Head0
import HandS.Head1
import HandS.Head2
import HandS.HeadEnd
import HandS.HeadHook1
import HandS.HeadHook2
import HandS.HeadHook3
import HandS.HeadNt
import PyProof.ListStr
import HandS.Flow
import PyProof.ListNew
import PySem.Challenge.RW_mayrest_k09_programs_of_uses
set_option Elab.async false
set_option linter.all false
set_option maxRecDepth 100000
set_option autoImplicit false
namespace DL
open PySem PySem.Spec PyProof.Rows L2
/-! plain data, and how a value of the heap stands for it -/
inductive D where
  | none
  | bool (b : Bool)
  | int (i : Int)
  | str (x : Str)
  | tup (xs : List D)
  | lst (xs : List D)
  | dct (ks : List Key) (xs : List D)
  | obj (c : Str) (ns : List Str) (xs : List D)
  | exn (c : Str) (ns : List Str) (xs : List D)
  | any (v : V)
/-- an exception that was caught, at a -/
def ExK (C dd a : Addr) : HO := .ext fun h => ∃ (oe : Obj) (vs : Array Value), h.get? a = some oe ∧ oe.cls = .ref C ∧ oe.dict = some dd ∧ oe.data = .fields vs
/-- a tuple of the state, or of the text -/
def TpAt (K : PySem.W.Frag) (H : Hp) (a : Addr) (xs : List V) : Prop := H a = some (.tup xs) ∨ ∃ (o : Obj) (its : Array Value) (n : Nat), K.lookup a = some o ∧ o.cls = .type "tuple" ∧ o.data = .seq its n ∧ its.size ≤ sizeLine ∧ Vals xs its.toList
section
variable {K : PySem.W.Frag} {H H' : Hp} {a : Addr} {xs : List V}
theorem TpAt.mono (e : Same H H') (h : TpAt K H a xs) : TpAt K H' a xs := h.imp (e _ _) id
theorem TpAt.sq (h : TpAt K H a xs) : SqT K H a xs := h.imp .inl id
theorem tp_sq (e : Same H H') (h : TpAt K H a xs) : SqT K H' a xs := (h.mono e).sq
theorem sqT_mono (e : Same H H') (h : SqT K H a xs) : SqT K H' a xs := by
  rcases h with (h | ⟨o, h⟩) | h
  · exact .inl (.inl (e _ _ h))
  · exact .inl (.inr ⟨o, e _ _ h⟩)
  · exact .inr h
end
mutual
def Rp (K : PySem.W.Frag) (H : Hp) : D → V → Prop
  | .none, v => v = .non
  | .bool b, v => v = .bl b
  | .int i, v => v = .int i
  | .str x, v => v = .str x
  | .tup ds, v => ∃ a vs, v = .ref a ∧ TpAt K H a vs ∧ RpA K H ds vs
  | .lst ds, v => ∃ a vs, v = .ref a ∧ H a = some (.lst vs) ∧ RpA K H ds vs
  | .dct ks ds, v => ∃ a vs, v = .ref a ∧ H a = some (.dK (ks.zip vs)) ∧ ks.length = vs.length ∧ RpA K H ds vs
  | .obj c ns ds, v => ∃ C a dx vs, PySem.W.nsIn K mainGlobals c = some (some (.ref C)) ∧ v = .ref a ∧ H a = some (.ins C dx (ns.zip vs)) ∧ H dx = some (.own a) ∧ ns.length = vs.length ∧ RpA K H ds vs
  | .exn c ns ds, v => ∃ C a dd vs, PySem.W.nsIn K mainGlobals c = some (some (.ref C)) ∧ v = .ref a ∧ H a = some (ExK C dd a) ∧ H dd = some (.xd (ns.zip vs)) ∧ ns.length = vs.length ∧ RpA K H ds vs
  | .any w, v => v = w
def RpA (K : PySem.W.Frag) (H : Hp) : List D → List V → Prop
  | [], vs => vs = []
  | d :: ds, vs => ∃ v r, vs = v :: r ∧ Rp K H d v ∧ RpA K H ds r
end
section
variable {K : PySem.W.Frag} {H H' : Hp}
mutual
theorem Rp.mono (e : Same H H') : ∀ (d : D) (v : V), Rp K H d v → Rp K H' d v
  | .none, _, h => h
  | .bool _, _, h => h
  | .int _, _, h => h
  | .str _, _, h => h
  | .tup ds, _, ⟨a, vs, h1, h2, h3⟩ => ⟨a, vs, h1, h2.mono e, RpA.mono e ds vs h3⟩
  | .lst ds, _, ⟨a, vs, h1, h2, h3⟩ => ⟨a, vs, h1, e _ _ h2, RpA.mono e ds vs h3⟩
  | .dct ks ds, _, ⟨a, vs, h1, h2, h3, h4⟩ => ⟨a, vs, h1, e _ _ h2, h3, RpA.mono e ds vs h4⟩
  | .obj c ns ds, _, ⟨C, a, dx, vs, h0, h1, h2, h3, h4, h5⟩ => ⟨C, a, dx, vs, h0, h1, e _ _ h2, e _ _ h3, h4, RpA.mono e ds vs h5⟩
  | .exn c ns ds, _, ⟨C, a, dx, vs, h0, h1, h2, h3, h4, h5⟩ => ⟨C, a, dx, vs, h0, h1, e _ _ h2, e _ _ h3, h4, RpA.mono e ds vs h5⟩
  | .any _, _, h => h
theorem RpA.mono (e : Same H H') : ∀ (ds : List D) (vs : List V), RpA K H ds vs → RpA K H' ds vs
  | [], _, h => h
  | d :: ds, _, ⟨v, r, h1, h2, h3⟩ => ⟨v, r, h1, Rp.mono e d v h2, RpA.mono e ds r h3⟩
end
theorem RpA.length : ∀ {ds : List D} {vs : List V}, RpA K H ds vs → ds.length = vs.length
  | [], _, h => by cases h; rfl
  | _ :: _, _, ⟨_, _, h1, _, h3⟩ => by subst h1; simp [RpA.length h3]
theorem RpA.get : ∀ {ds : List D} {vs : List V} {i : Nat} {d : D}, RpA K H ds vs → ds[i]? = some d → ∃ v, vs[i]? = some v ∧ Rp K H d v
  | [], _, _, _, _, e => by simp at e
  | d :: ds, _, 0, _, ⟨v, r, h1, h2, h3⟩, e => by simp at e; subst e; subst h1; exact ⟨v, rfl, h2⟩
  | d :: ds, _, i + 1, _, ⟨v, r, h1, h2, h3⟩, e => by subst h1; simpa using RpA.get h3 (by simpa using e)
theorem RpA.append : ∀ {ds es : List D} {vs ws : List V}, RpA K H ds vs → RpA K H es ws → RpA K H (ds ++ es) (vs ++ ws)
  | [], _, _, _, h, q => by cases h; exact q
  | d :: ds, _, _, _, ⟨v, r, h1, h2, h3⟩, q => by subst h1; exact ⟨v, r ++ _, rfl, h2, RpA.append h3 q⟩
theorem RpA.take : ∀ {ds : List D} {vs : List V} (n : Nat), RpA K H ds vs → RpA K H (ds.take n) (vs.take n)
  | _, _, 0, _ => rfl
  | [], _, _ + 1, h => by cases h; rfl
  | _ :: _, _, n + 1, ⟨v, r, h1, h2, h3⟩ => by subst h1; exact ⟨v, _, rfl, h2, RpA.take n h3⟩
theorem RpA.drop : ∀ {ds : List D} {vs : List V} (n : Nat), RpA K H ds vs → RpA K H (ds.drop n) (vs.drop n)
  | _, _, 0, h => h
  | [], _, _ + 1, h => by cases h; rfl
  | _ :: _, _, n + 1, ⟨v, r, h1, h2, h3⟩ => by subst h1; exact RpA.drop n h3
theorem RpA.one {d : D} {v : V} (h : Rp K H d v) : RpA K H [d] [v] := ⟨v, [], rfl, h, rfl⟩
theorem RpA.set : ∀ {ds : List D} {vs : List V} {d : D} {v : V} (n : Nat), RpA K H ds vs → Rp K H d v → RpA K H (ds.set n d) (vs.set n v)
  | [], _, _, _, _, h, _ => by cases h; rfl
  | _ :: _, _, _, _, 0, ⟨v, r, h1, h2, h3⟩, q => by subst h1; exact ⟨_, _, rfl, q, h3⟩
  | _ :: _, _, _, _, n + 1, ⟨v, r, h1, h2, h3⟩, q => by subst h1; exact ⟨_, _, rfl, h2, RpA.set n h3 q⟩
theorem RpA.map {α : Type} {f : α → D} {g : α → V} (h : ∀ x, Rp K H (f x) (g x)) : ∀ l : List α, RpA K H (l.map f) (l.map g)
  | [] => rfl
  | x :: l => ⟨_, _, rfl, h x, RpA.map h l⟩
theorem RpA.strs : ∀ {l : List Str} {vs : List V}, RpA K H (l.map D.str) vs → vs = l.map V.str
  | [], _, h => h
  | x :: l, _, ⟨v, r, h1, h2, h3⟩ => by subst h1; cases h2; rw [RpA.strs h3]; rfl
theorem RpA.bools : ∀ {l : List Bool} {vs : List V}, RpA K H (l.map D.bool) vs → vs = l.map V.bl
  | [], _, h => h
  | x :: l, _, ⟨v, r, h1, h2, h3⟩ => by subst h1; cases h2; rw [RpA.bools h3]; rfl
end
/-! data without lists and dicts -/
mutual
def D.flat : D → Bool
  | .none => true
  | .bool _ => true
  | .int _ => true
  | .str _ => true
  | .tup ds => flatA ds
  | .lst _ => false
  | .dct _ _ => false
  | .obj _ _ _ => false
  | .exn _ _ _ => false
  | .any _ => true
def flatA : List D → Bool
  | [] => true
  | d :: ds => d.flat && flatA ds
end
def isLD : HO → Bool
  | .lst _ => true
  | .dK _ => true
  | .dT _ => true
  | .ins _ _ _ => true
  | _ => false
section
variable {K : PySem.W.Frag} {H H' : Hp}
mutual
theorem Rp.flat (e : ∀ a o, H a = some o → isLD o = false → H' a = some o) : ∀ (d : D) (v : V), d.flat = true → Rp K H d v → Rp K H' d v
  | .none, _, _, h => h
  | .bool _, _, _, h => h
  | .int _, _, _, h => h
  | .str _, _, _, h => h
  | .tup ds, _, f, ⟨a, vs, h1, h2, h3⟩ => ⟨a, vs, h1, h2.imp (fun h => e _ _ h rfl) id, RpA.flat e ds vs f h3⟩
  | .lst ds, _, f, _ => by cases f
  | .dct ks ds, _, f, _ => by cases f
  | .obj _ _ _, _, f, _ => by cases f
  | .exn _ _ _, _, f, _ => by cases f
  | .any _, _, _, h => h
theorem RpA.flat (e : ∀ a o, H a = some o → isLD o = false → H' a = some o) : ∀ (ds : List D) (vs : List V), flatA ds = true → RpA K H ds vs → RpA K H' ds vs
  | [], _, _, h => h
  | d :: ds, _, f, ⟨v, r, h1, h2, h3⟩ => by
    have f' : d.flat = true ∧ flatA ds = true := Bool.and_eq_true_iff.mp f
    exact ⟨v, r, h1, Rp.flat e d v f'.1 h2, RpA.flat e ds r f'.2 h3⟩
end
end
/-! the deck of draws -/
structure Dk where
  a : Addr
  b : Addr
  c : Addr
def Dk.has (g : Option Dk) (x : Addr) : Prop := match g with
  | none => False
  | some k => x = k.a ∨ x = k.b ∨ x = k.c
structure DkAt (k : Dk) (H : Hp) (f : Nat) : Prop where
  ab : k.a ≠ k.b
  ac : k.a ≠ k.c
  bc : k.b ≠ k.c
  at_ : ∃ (n : Int) (xs ys : List Int), H k.a = some (.lst [.ref k.b, .ref k.c, .int n]) ∧ H k.b = some (.lst (xs.map V.int)) ∧ H k.c = some (.lst (ys.map V.int)) ∧
    (∀ x ∈ xs, 0 ≤ x) ∧ (∀ y ∈ ys, 0 ≤ y) ∧ 0 < ys.length ∧ 0 ≤ n ∧ n + f ≤ 1000000000000
def DkOk (g : Option Dk) (H Hs : Hp) (f : Nat) : Prop := match g with
  | none => True
  | some k => DkAt k H f ∧ Hs k.a = none ∧ Hs k.b = none ∧ Hs k.c = none
/-! from a heap and its shared part to later ones -/
structure Stp (g : Option Dk) (H Hs H' Hs' : Hp) : Prop where
  sub : Same Hs' H'
  ext : Same Hs Hs'
  keep : ∀ a o, H a = some o → ¬ Dk.has g a → H' a = some o
  there : ∀ a o, H a = some o → ∃ o', H' a = some o'
  new : ∀ a o, H a = some o → Hs a = none → Hs' a = none
theorem Stp.refl {g : Option Dk} {H Hs : Hp} (h : Same Hs H) : Stp g H Hs H Hs := ⟨h, Same.refl _, fun _ _ h _ => h, fun _ o h => ⟨o, h⟩, fun _ _ _ h => h⟩
theorem Stp.trans {g : Option Dk} {H Hs H1 Hs1 H2 Hs2 : Hp} (p : Stp g H Hs H1 Hs1) (q : Stp g H1 Hs1 H2 Hs2) : Stp g H Hs H2 Hs2 where
  sub := q.sub
  ext := p.ext.trans q.ext
  keep := fun a o h n => q.keep a o (p.keep a o h n) n
  there := fun a o h => by
    obtain ⟨o', h'⟩ := p.there a o h
    exact q.there a o' h'
  new := fun a o h n => by
    obtain ⟨o', h'⟩ := p.there a o h
    exact q.new a o' h' (p.new a o h n)
/-- a new object, shared -/
theorem Stp.alloc {g : Option Dk} {H Hs : Hp} {p : Addr} {o : HO} (s : Same Hs H) (hp : H p = none) : Stp g H Hs (upd H p o) (upd Hs p o) where
  sub := fun a u h => by
    by_cases e : a = p
    · subst e; rw [upd_same] at h ⊢; exact h
    · rw [upd_ne e] at h ⊢; exact s a u h
  ext := fun a u h => by
    have : a ≠ p := fun e => by subst e; rw [s a u h] at hp; cases hp
    rw [upd_ne this]; exact h
  keep := fun a u h _ => by rw [upd_ne (ne_of_none h hp)]; exact h
  there := fun a u h => ⟨u, by rw [upd_ne (ne_of_none h hp)]; exact h⟩
  new := fun a u h n => by rw [upd_ne (ne_of_none h hp)]; exact n
/-- a new object, not shared -/
theorem Stp.lay {g : Option Dk} {H Hs : Hp} {p : Addr} {o : HO} (s : Same Hs H) (hp : H p = none) : Stp g H Hs (upd H p o) Hs where
  sub := fun a u h => by
    have : a ≠ p := fun e => by subst e; rw [s a u h] at hp; cases hp
    rw [upd_ne this]; exact s a u h
  ext := Same.refl _
  keep := fun a u h _ => by rw [upd_ne (ne_of_none h hp)]; exact h
  there := fun a u h => ⟨u, by rw [upd_ne (ne_of_none h hp)]; exact h⟩
  new := fun a u h n => n
/-- an object that stands is shared from now on -/
theorem Stp.share {g : Option Dk} {H Hs H' Hs' : Hp} {p : Addr} {o : HO} (s : Stp g H Hs H' Hs') (h0 : H p = none) (h1 : H' p = some o) (h2 : Hs' p = none) : Stp g H Hs H' (upd Hs' p o) where
  sub := fun a u h => by
    by_cases e : a = p
    · subst e; rw [upd_same] at h; cases h; exact h1
    · rw [upd_ne e] at h; exact s.sub a u h
  ext := fun a u h => by
    have q := s.ext a u h
    rw [upd_ne (ne_of_none q h2)]; exact q
  keep := s.keep
  there := s.there
  new := fun a u h n => by rw [upd_ne (ne_of_none h h0)]; exact s.new a u h n
theorem DkOk.step {g : Option Dk} {H Hs H' Hs' : Hp} {f : Nat} (h : DkOk g H Hs f) (k : ∀ a o, H a = some o → H' a = some o) (n : ∀ a o, H a = some o → Hs a = none → Hs' a = none) : DkOk g H' Hs' f := by
  cases g with
  | none => trivial
  | some d =>
    obtain ⟨⟨e1, e2, e3, n', xs, ys, h1, h2, h3, h4⟩, n1, n2, n3⟩ := h
    exact ⟨⟨e1, e2, e3, n', xs, ys, k _ _ h1, k _ _ h2, k _ _ h3, h4⟩, n _ _ h1 n1, n _ _ h2 n2, n _ _ h3 n3⟩
theorem DkOk.stp {g : Option Dk} {H Hs H' Hs' : Hp} {f : Nat} (h : DkOk g H Hs f) (s : Stp none H Hs H' Hs') : DkOk g H' Hs' f := h.step (fun a o e => s.keep a o e id) s.new
theorem Stp.gen {g : Option Dk} {H Hs H' Hs' : Hp} (s : Stp none H Hs H' Hs') : Stp g H Hs H' Hs' := ⟨s.sub, s.ext, fun a o h _ => s.keep a o h id, s.there, s.new⟩
end DL
namespace DL
open PySem PySem.Spec PyProof.Rows L2
/-! slots -/
inductive Sl where
  | no
  | sh (d : D)
  | ow (xs : List D)
  | od (ks : List Key) (xs : List D)
  | oi (a : Addr) (c : Str) (ns : List Str) (xs : List D)
def Sl.d : Sl → Option D
  | .no => none
  | .sh d => some d
  | .ow xs => some (.lst xs)
  | .od ks xs => some (.dct ks xs)
  | .oi _ _ _ _ => none
abbrev Sg := List Sl
structure SlOk (K : PySem.W.Frag) (Hs : Hp) (r : Sg) (st : L2.St) : Prop where
  len : r.length = st.length
  get : ∀ (i : Nat) (s : Sl) (d : D), r[i]? = some s → s.d = some d → ∃ v, st[i]? = some (some v) ∧ Rp K Hs d v
theorem SlOk.mono {K : PySem.W.Frag} {Hs Hs' : Hp} {r : Sg} {st : L2.St} (h : SlOk K Hs r st) (e : Same Hs Hs') : SlOk K Hs' r st :=
  ⟨h.len, fun i s d h1 h2 => by
    obtain ⟨v, h3, h4⟩ := h.get i s d h1 h2
    exact ⟨v, h3, h4.mono e⟩⟩
theorem SlOk.set {K : PySem.W.Frag} {Hs : Hp} {r : Sg} {st : L2.St} (h : SlOk K Hs r st) (j : Nat) {d : D} {v : V} (hv : Rp K Hs d v) : SlOk K Hs (r.set j (.sh d)) (st.set j (some v)) :=
  ⟨by simp [h.len], fun i s e h1 h2 => by
    by_cases hij : j = i
    · subst hij
      by_cases hl : j < r.length
      · rw [List.getElem?_set_self hl] at h1
        cases h1
        cases h2
        exact ⟨v, List.getElem?_set_self (h.len ▸ hl), hv⟩
      · rw [List.getElem?_eq_none (by simpa using hl)] at h1
        cases h1
    · rw [List.getElem?_set_ne hij] at h1
      rw [List.getElem?_set_ne hij]
      exact h.get i s e h1 h2⟩
abbrev QD := D → Nat → Prop
abbrev DT := Option Dk → Sg → Nat → QD → Prop
abbrev DTT := Option Dk → Sg → Nat → (Bool → Nat → Prop) → Prop
abbrev DTA := Option Dk → Sg → Nat → (List D → Nat → Prop) → Prop
structure At (K : PySem.W.Frag) (g : Option Dk) (r : Sg) (f : Nat) (st : L2.St) (H Hs : Hp) : Prop where
  sub : Same Hs H
  dk : DkOk g H Hs f
  sl : SlOk K Hs r st
theorem At.step {K : PySem.W.Frag} {g : Option Dk} {r : Sg} {f f' : Nat} {st : L2.St} {H Hs H' Hs' : Hp} (a : At K g r f st H Hs) (s : Stp g H Hs H' Hs') (k : DkOk g H' Hs' f') : At K g r f' st H' Hs' :=
  ⟨s.sub, k, a.sl.mono s.ext⟩
def Snd (K : PySem.W.Frag) (t : TE) (dl : DT) : Prop := ∀ (g : Option Dk) (r : Sg) (f : Nat) (st : L2.St) (H Hs : Hp) (Q : VK) (Q' : QD), At K g r f st H Hs →
  (∀ d f' v H' Hs', Stp g H Hs H' Hs' → DkOk g H' Hs' f' → Rp K Hs' d v → Q' d f' → Q v H') → dl g r f Q' → t st H Q
def SndT (K : PySem.W.Frag) (t : TT) (dl : DTT) : Prop := ∀ (g : Option Dk) (r : Sg) (f : Nat) (st : L2.St) (H Hs : Hp) (Q : Bool → Hp → Prop) (Q' : Bool → Nat → Prop), At K g r f st H Hs →
  (∀ b f' H' Hs', Stp g H Hs H' Hs' → DkOk g H' Hs' f' → Q' b f' → Q b H') → dl g r f Q' → t st H Q
def SndA (K : PySem.W.Frag) (t : TA) (dl : DTA) : Prop := ∀ (g : Option Dk) (r : Sg) (f : Nat) (st : L2.St) (H Hs : Hp) (Q : List V → Hp → Prop) (Q' : List D → Nat → Prop), At K g r f st H Hs →
  (∀ ds f' vs H' Hs', Stp g H Hs H' Hs' → DkOk g H' Hs' f' → RpA K Hs' ds vs → Q' ds f' → Q vs H') → dl g r f Q' → t st H Q
/-- a list that is new -/
def SndL (K : PySem.W.Frag) (t : TE) (dl : DTA) : Prop := ∀ (g : Option Dk) (r : Sg) (f : Nat) (st : L2.St) (H Hs : Hp) (Q : VK) (Q' : List D → Nat → Prop), At K g r f st H Hs →
  (∀ ds f' p vs H' Hs', Stp g H Hs H' Hs' → DkOk g H' Hs' f' → H p = none → Hs' p = none → H' p = some (.lst vs) → RpA K Hs' ds vs → Q' ds f' → Q (.ref p) H') → dl g r f Q' → t st H Q
/-! the widest reading that data allow -/
def tOf (K : PySem.W.Frag) (dl : DT) : TE := fun st H Q => ∃ g r f Hs Q', At K g r f st H Hs ∧ (∀ d f' v H' Hs', Stp g H Hs H' Hs' → DkOk g H' Hs' f' → Rp K Hs' d v → Q' d f' → Q v H') ∧ dl g r f Q'
def tOfT (K : PySem.W.Frag) (dl : DTT) : TT := fun st H Q => ∃ g r f Hs Q', At K g r f st H Hs ∧ (∀ b f' H' Hs', Stp g H Hs H' Hs' → DkOk g H' Hs' f' → Q' b f' → Q b H') ∧ dl g r f Q'
def tOfA (K : PySem.W.Frag) (dl : DTA) : TA := fun st H Q => ∃ g r f Hs Q', At K g r f st H Hs ∧ (∀ ds f' vs H' Hs', Stp g H Hs H' Hs' → DkOk g H' Hs' f' → RpA K Hs' ds vs → Q' ds f' → Q vs H') ∧ dl g r f Q'
def tOfL (K : PySem.W.Frag) (dl : DTA) : TE := fun st H Q => ∃ g r f Hs Q', At K g r f st H Hs ∧ (∀ ds f' p vs H' Hs', Stp g H Hs H' Hs' → DkOk g H' Hs' f' → H p = none → Hs' p = none → H' p = some (.lst vs) → RpA K Hs' ds vs → Q' ds f' → Q (.ref p) H') ∧ dl g r f Q'
structure DE (X : Cx) (e : Expr) (dl : DT) : Prop where
  pe : PE X e (tOf X.K dl)
structure DP (X : Cx) (e : Expr) (dl : DTT) : Prop where
  pt : PT X e (tOfT X.K dl)
structure DW (X : Cx) (e : Expr) (dl : DTT) : Prop where
  pw : PW X e (tOfT X.K dl)
structure DA (X : Cx) (es : List Expr) (dl : DTA) : Prop where
  pa : PA X es (tOfA X.K dl)
structure DL' (X : Cx) (e : Expr) (dl : DTA) : Prop where
  pe : PE X e (tOfL X.K dl)
theorem DE.sn {X : Cx} {e : Expr} {dl : DT} (_ : DE X e dl) : Snd X.K (tOf X.K dl) dl := fun g r f st H Hs Q Q' a hq hd => ⟨g, r, f, Hs, Q', a, hq, hd⟩
theorem DP.sn {X : Cx} {e : Expr} {dl : DTT} (_ : DP X e dl) : SndT X.K (tOfT X.K dl) dl := fun g r f st H Hs Q Q' a hq hd => ⟨g, r, f, Hs, Q', a, hq, hd⟩
theorem DW.sn {X : Cx} {e : Expr} {dl : DTT} (_ : DW X e dl) : SndT X.K (tOfT X.K dl) dl := fun g r f st H Hs Q Q' a hq hd => ⟨g, r, f, Hs, Q', a, hq, hd⟩
theorem DA.sn {X : Cx} {es : List Expr} {dl : DTA} (_ : DA X es dl) : SndA X.K (tOfA X.K dl) dl := fun g r f st H Hs Q Q' a hq hd => ⟨g, r, f, Hs, Q', a, hq, hd⟩
theorem DL'.sn {X : Cx} {e : Expr} {dl : DTA} (_ : DL' X e dl) : SndL X.K (tOfL X.K dl) dl := fun g r f st H Hs Q Q' a hq hd => ⟨g, r, f, Hs, Q', a, hq, hd⟩
theorem DE.mk' {X : Cx} {e : Expr} {t : TE} {dl : DT} (p : PE X e t) (s : Snd X.K t dl) : DE X e dl := ⟨⟨fun pins sh st H Q I ⟨g, r, f, Hs, Q', a, hq, hd⟩ => p.run pins sh st H Q I (s g r f st H Hs Q Q' a hq hd)⟩⟩
theorem DP.mk' {X : Cx} {e : Expr} {t : TT} {dl : DTT} (p : PT X e t) (s : SndT X.K t dl) : DP X e dl := ⟨⟨fun pins sh st H Q I ⟨g, r, f, Hs, Q', a, hq, hd⟩ => p.run pins sh st H Q I (s g r f st H Hs Q Q' a hq hd)⟩⟩
theorem DW.mk' {X : Cx} {e : Expr} {t : TT} {dl : DTT} (p : PW X e t) (s : SndT X.K t dl) : DW X e dl := ⟨⟨fun whole pins sh st H Q I ⟨g, r, f, Hs, Q', a, hq, hd⟩ => p.run whole pins sh st H Q I (s g r f st H Hs Q Q' a hq hd)⟩⟩
theorem DA.mk' {X : Cx} {es : List Expr} {t : TA} {dl : DTA} (p : PA X es t) (s : SndA X.K t dl) : DA X es dl := ⟨⟨fun pos pins sh st H Q I ⟨g, r, f, Hs, Q', a, hq, hd⟩ => p.run pos pins sh st H Q I (s g r f st H Hs Q Q' a hq hd)⟩⟩
theorem DL'.mk' {X : Cx} {e : Expr} {t : TE} {dl : DTA} (p : PE X e t) (s : SndL X.K t dl) : DL' X e dl := ⟨⟨fun pins sh st H Q I ⟨g, r, f, Hs, Q', a, hq, hd⟩ => p.run pins sh st H Q I (s g r f st H Hs Q Q' a hq hd)⟩⟩
def dOfL (dl : DTA) : DT := fun g r f Q => dl g r f fun ds f' => Q (.lst ds) f'
theorem DkOk.share {g : Option Dk} {H Hs : Hp} {f : Nat} {p : Addr} {o : HO} (h : DkOk g H Hs f) (n : ¬ Dk.has g p) : DkOk g H (upd Hs p o) f := by
  cases g with
  | none => trivial
  | some k =>
    obtain ⟨h0, h1, h2, h3⟩ := h
    refine ⟨h0, ?_, ?_, ?_⟩
    · rw [upd_ne fun e => n (.inl e.symm)]; exact h1
    · rw [upd_ne fun e => n (.inr (.inl e.symm))]; exact h2
    · rw [upd_ne fun e => n (.inr (.inr e.symm))]; exact h3
theorem DkOk.out {g : Option Dk} {H Hs : Hp} {f : Nat} {p : Addr} (h : DkOk g H Hs f) (n : H p = none) : ¬ Dk.has g p := by
  cases g with
  | none => exact id
  | some k =>
    obtain ⟨⟨_, _, _, _, _, _, h1, h2, h3, _⟩, _⟩ := h
    rintro (e | e | e)
    · rw [e, h1] at n; cases n
    · rw [e, h2] at n; cases n
    · rw [e, h3] at n; cases n
theorem DkOk.mut {g : Option Dk} {H Hs : Hp} {f : Nat} {p : Addr} {o : HO} (h : DkOk g H Hs f) (n : ¬ Dk.has g p) : DkOk g (upd H p o) Hs f := by
  cases g with
  | none => trivial
  | some k =>
    obtain ⟨⟨e1, e2, e3, n', xs, ys, h1, h2, h3, h4⟩, q⟩ := h
    refine ⟨⟨e1, e2, e3, n', xs, ys, ?_, ?_, ?_, h4⟩, q⟩
    · rw [upd_ne fun e => n (.inl e.symm)]; exact h1
    · rw [upd_ne fun e => n (.inr (.inl e.symm))]; exact h2
    · rw [upd_ne fun e => n (.inr (.inr e.symm))]; exact h3
theorem Stp.mut {g : Option Dk} {H Hs H' Hs' : Hp} {p : Addr} {o : HO} (s : Stp g H Hs H' Hs') (h0 : H p = none) (h2 : Hs' p = none) : Stp g H Hs (upd H' p o) Hs' where
  sub := fun a u h => by rw [upd_ne (ne_of_none h h2)]; exact s.sub a u h
  ext := s.ext
  keep := fun a u h n => by rw [upd_ne (ne_of_none h h0)]; exact s.keep a u h n
  there := fun a u h => by rw [upd_ne (ne_of_none h h0)]; exact s.there a u h
  new := s.new
section
variable {X : Cx} {K : PySem.W.Frag}
theorem SndL.e {t : TE} {dl : DTA} (h : SndL K t dl) : Snd K t (dOfL dl) := fun g r f st H Hs Q Q' a hq hd =>
  h g r f st H Hs Q _ a (fun ds f' p vs H' Hs' s k h0 h1 h2 hr q => hq (.lst ds) f' (.ref p) H' _ (s.share h0 h2 h1) (k.share (a.dk.out h0)) ⟨p, vs, rfl, upd_same, hr.mono (fun b u e => by rw [upd_ne (ne_of_none e h1)]; exact e)⟩ q) hd
theorem DL'.e {e : Expr} {dl : DTA} (h : DL' X e dl) : DE X e (dOfL dl) := .mk' (h.pe) (h.sn.e)
/-! names, constants -/
def dVar (i : Nat) : DT := fun _ r f Q => match r[i]? with
  | some s => match s.d with
    | some d => Q d f
    | none => False
  | none => False
theorem snd_var (i : Nat) : Snd K (tVar i) (dVar i) := fun g r f st H Hs Q Q' a hq hd => by
  unfold dVar at hd
  split at hd
  · next s e =>
    split at hd
    · next d e2 =>
      obtain ⟨v, h1, h2⟩ := a.sl.get i s d e e2
      exact ⟨v, h1, hq d f v H Hs (Stp.refl a.sub) a.dk h2 hd⟩
    · exact hd.elim
  · exact hd.elim
def dC (d : D) : DT := fun _ _ f Q => Q d f
theorem snd_c {d : D} {v : V} (h : ∀ H, Rp K H d v) : Snd K (tC v) (dC d) := fun g r f st H Hs Q Q' a hq hd => hq d f v H Hs (Stp.refl a.sub) a.dk (h Hs) hd
theorem de_v (i : Nat) {x : Str} {pos : Pos} (hN : X.N[i]? = some x := by rfl) (hv : Vis X.env.scope x := by first | exact Or.inl rfl | exact Or.inr (Or.inl rfl) | exact Or.inr (Or.inr rfl)) (hd : (x == ("__debug__" : Str)) = false := by decide)
    (hcd : (x == ("__classdict__" : Str)) = false := by decide) : DE X (.Name x pos) (dVar i) := .mk' (pe_var hN hv hd hcd) (snd_var i)
theorem de_int {i : Int} {j pos} : DE X (.Constant (.int i) j pos) (dC (.int i)) := .mk' (pe_int) (snd_c fun _ => rfl)
theorem de_bl {b : Bool} {j pos} : DE X (.Constant (.bool b) j pos) (dC (.bool b)) := .mk' (pe_bl) (snd_c fun _ => rfl)
theorem de_non {j pos} : DE X (.Constant .none j pos) (dC .none) := .mk' (pe_non) (snd_c fun _ => rfl)
theorem de_str {x : Str} {j pos} : DE X (.Constant (.str x) j pos) (dC (.str x)) := .mk' (pe_str) (snd_c fun _ => rfl)
theorem de_glob {x : Str} {v : V} {u : Value} {pos : Pos} {d : D} (hg : Gl X x) (hm : X.mg x = some u) (r : RelV v u) (hr : ∀ H, Rp X.K H d v) (hd : (x == ("__debug__" : Str)) = false := by decide) : DE X (.Name x pos) (dC d) := .mk' (pe_glob hg hm r hd) (snd_c hr)
theorem de_bltn {x : Str} {v : V} {u : Value} {pos : Pos} (hg : Gl X x) (hm : X.mg x = none) (hv : bootBuiltins x = some u) (r : RelV v u) (hn : x ≠ "__name__" := by decide) (hd : (x == ("__debug__" : Str)) = false := by decide) :
    DE X (.Name x pos) (dC (.any v)) := .mk' (pe_bltn hg hm hv r hn hd) (snd_c fun _ => rfl)
/-! operators by values -/
abbrev O2 := D → D → (D → Prop) → Prop
def SndR (K : PySem.W.Frag) (r : R2) (op : O2) : Prop := ∀ (H Hs : Hp) (x y : D) (vx vy : V) (Q : VK) (Q' : D → Prop), Same Hs H → Rp K Hs x vx → Rp K Hs y vy →
  (∀ z v H' Hs', Stp none H Hs H' Hs' → Rp K Hs' z v → Q' z → Q v H') → op x y Q' → r vx vy H Q
def dOp (op : O2) (a b : DT) : DT := fun g r f Q => a g r f fun x f1 => b g r f1 fun y f2 => op x y fun z => Q z f2
theorem snd_op {r : R2} {op : O2} {ta tb : TE} {a b : DT} (hr : SndR K r op) (ha : Snd K ta a) (hb : Snd K tb b) : Snd K (tOp r ta tb) (dOp op a b) := fun g ro f st H Hs Q Q' A hq hd =>
  ha g ro f st H Hs _ _ A (fun x f1 vx H1 Hs1 s1 k1 r1 q1 => hb g ro f1 st H1 Hs1 _ _ (A.step s1 k1) (fun y f2 vy H2 Hs2 s2 k2 r2 q2 =>
    hr H2 Hs2 x y vx vy Q _ s2.sub (r1.mono s2.ext) r2 (fun z v H3 Hs3 s3 r3 q3 => hq z f2 v H3 Hs3 ((s1.trans s2).trans s3.gen) (k2.stp s3) r3 q3) q2) q1) hd
theorem SndR.or {r r' : R2} {op op' : O2} (h : SndR K r op) (h' : SndR K r' op') : SndR K (fun x y H Q => r x y H Q ∨ r' x y H Q) (fun x y Q => op x y Q ∨ op' x y Q) := fun H Hs x y vx vy Q Q' s rx ry hq hd => by
  rcases hd with hd | hd
  · exact .inl (h H Hs x y vx vy Q Q' s rx ry hq hd)
  · exact .inr (h' H Hs x y vx vy Q Q' s rx ry hq hd)
theorem SndR.weak {r : R2} {op op' : O2} (h : SndR K r op) (w : ∀ x y Q, op' x y Q → op x y Q) : SndR K r op' := fun H Hs x y vx vy Q Q' s rx ry hq hd => h H Hs x y vx vy Q Q' s rx ry hq (w x y Q' hd)
theorem de_op {a b : Expr} {op : Operator} {pos : Pos} {r : R2} {o : O2} {da db : DT} (ho : OpR X (binaryOp op) r) (hr : SndR X.K r o) (ha : DE X a da) (hb : DE X b db) : DE X (.BinOp a op b pos) (dOp o da db) := .mk' (pe_op ho ha.pe hb.pe) (snd_op hr ha.sn hb.sn)
theorem de_cmp {a b : Expr} {op : CmpOp} {pos : Pos} {r : R2} {o : O2} {da db : DT} (ho : OpR X (compareOp op) r) (hr : SndR X.K r o) (ha : DE X a da) (hb : DE X b db) (hm : behindInMarks op b = false) : DE X (.Compare a [op] [b] pos) (dOp o da db) := .mk' (pe_cmpR ho ha.pe hb.pe hm) (snd_op hr ha.sn hb.sn)
def dTest (a : DT) : DTT := fun g r f Q => a g r f fun x f1 => match x with
  | .bool b => Q b f1
  | _ => False
theorem snd_test {ta : TE} {a : DT} (ha : Snd K ta a) : SndT K (tTest ta) (dTest a) := fun g ro f st H Hs Q Q' A hq hd =>
  ha g ro f st H Hs _ _ A (fun x f1 v H1 Hs1 s1 k1 r1 q1 => by
    cases x with
    | bool b => exact ⟨b, r1, hq b f1 H1 Hs1 s1 k1 q1⟩
    | _ => exact q1.elim) hd
theorem snd_B {ta : TE} {a : DT} (ha : Snd K ta a) : SndT K (tB ta) (dTest a) := fun g ro f st H Hs Q Q' A hq hd =>
  ha g ro f st H Hs _ _ A (fun x f1 v H1 Hs1 s1 k1 r1 q1 => by
    cases x with
    | bool b => exact ⟨b, r1, hq b f1 H1 Hs1 s1 k1 q1⟩
    | _ => exact q1.elim) hd
theorem dp_cmp {a b : Expr} {op : CmpOp} {pos : Pos} {r : R2} {o : O2} {da db : DT} (ho : OpR X (compareOp op) r) (hr : SndR X.K r o) (ha : DE X a da) (hb : DE X b db) (hm : behindInMarks op b = false) : DP X (.Compare a [op] [b] pos) (dTest (dOp o da db)) :=
  .mk' (pt_cmpR ho ha.pe hb.pe hm) (snd_test (snd_op hr ha.sn hb.sn))
theorem dp_val {e : Expr} {d : DT} (h : DE X e d) (he : ∀ whole, isTrue e X.env whole = (do let v ← whole; standAt e.pos; holding [v] (truthy v)) := by intro _; rfl) : DP X e (dTest d) := .mk' (pt_val h.pe he) (snd_B h.sn)
def dChain (o o' : O2) (a b c : DT) : DT := fun g r f Q => a g r f fun x f1 => b g r f1 fun y f2 => o x y fun z => match z with
  | .bool k => if k = true then c g r f2 fun w f3 => o' y w fun z' => Q z' f3 else Q (.bool false) f2
  | _ => False
end
end DL
namespace DL
open PySem PySem.Spec PyProof.Rows L2
section
variable {X : Cx} {K : PySem.W.Frag}
theorem snd_chain {r r' : R2} {o o' : O2} {ta tb tc : TE} {a b c : DT} (hr : SndR K r o) (hr' : SndR K r' o') (ha : Snd K ta a) (hb : Snd K tb b) (hc : Snd K tc c) : Snd K (tChain r r' ta tb tc) (dChain o o' a b c) := fun g ro f st H Hs Q Q' A hq hd =>
  ha g ro f st H Hs _ _ A (fun x f1 vx H1 Hs1 s1 k1 r1 q1 => hb g ro f1 st H1 Hs1 _ _ (A.step s1 k1) (fun y f2 vy H2 Hs2 s2 k2 r2 q2 =>
    hr H2 Hs2 x y vx vy _ _ s2.sub (r1.mono s2.ext) r2 (fun z v H3 Hs3 s3 r3 q3 => by
      cases z with
      | bool k =>
        refine ⟨k, r3, ?_⟩
        cases k with
        | true =>
          rw [if_pos rfl]
          replace q3 : c g ro f2 fun w f3 => o' y w fun z' => Q' z' f3 := q3
          have A3 := (A.step s1 k1).step s2 k2 |>.step s3.gen (k2.stp s3)
          exact hc g ro f2 st H3 Hs3 _ _ A3 (fun w f3 vw H4 Hs4 s4 k4 r4 q4 => hr' H4 Hs4 y w vy vw _ _ s4.sub ((r2.mono s3.ext).mono s4.ext) r4 (fun z v H5 Hs5 s5 r5 q5 =>
            hq z f3 v H5 Hs5 ((((s1.trans s2).trans s3.gen).trans s4).trans s5.gen) (k4.stp s5) r5 q5) q4) q3
        | false =>
          rw [if_neg Bool.false_ne_true]
          exact hq (.bool false) f2 (.bl false) H3 Hs3 ((s1.trans s2).trans s3.gen) (k2.stp s3) rfl q3
      | _ => exact q3.elim) q2) q1) hd
theorem de_chain {a b c : Expr} {op op' : CmpOp} {pos : Pos} {r r' : R2} {o o' : O2} {da db dc : DT} (ho : OpR X (compareOp op) r) (ho' : OpR X (compareOp op') r') (hr : SndR X.K r o) (hr' : SndR X.K r' o')
    (ha : DE X a da) (hb : DE X b db) (hc : DE X c dc) (hm : lastMarks [op, op'] [b, c] = false := by with_unfolding_all rfl) : DE X (.Compare a [op, op'] [b, c] pos) (dChain o o' da db dc) :=
  .mk' (pe_chain ho ho' ha.pe hb.pe hc.pe hm) (snd_chain hr hr' ha.sn hb.sn hc.sn)
theorem dp_chain {a b c : Expr} {op op' : CmpOp} {pos : Pos} {r r' : R2} {o o' : O2} {da db dc : DT} (ho : OpR X (compareOp op) r) (ho' : OpR X (compareOp op') r') (hr : SndR X.K r o) (hr' : SndR X.K r' o')
    (ha : DE X a da) (hb : DE X b db) (hc : DE X c dc) (hm : lastMarks [op, op'] [b, c] = false := by with_unfolding_all rfl) : DP X (.Compare a [op, op'] [b, c] pos) (dTest (dChain o o' da db dc)) :=
  .mk' (pt_chain ho ho' ha.pe hb.pe hc.pe hm) (snd_test (snd_chain hr hr' ha.sn hb.sn hc.sn))
/-! and, or, not, if -/
def dAnd (a b : DTT) : DTT := fun g r f Q => a g r f fun c f1 => if c = true then b g r f1 Q else Q false f1
def dOr (a b : DTT) : DTT := fun g r f Q => a g r f fun c f1 => if c = true then Q true f1 else b g r f1 Q
def dNot (a : DTT) : DTT := fun g r f Q => a g r f fun c f1 => Q (!c) f1
theorem snd_and {t u : TT} {a b : DTT} (ha : SndT K t a) (hb : SndT K u b) : SndT K (tAnd t u) (dAnd a b) := fun g ro f st H Hs Q Q' A hq hd =>
  ha g ro f st H Hs _ _ A (fun c f1 H1 Hs1 s1 k1 q1 => by
    cases c with
    | true => exact hb g ro f1 st H1 Hs1 _ _ (A.step s1 k1) (fun d f2 H2 Hs2 s2 k2 q2 => hq d f2 H2 Hs2 (s1.trans s2) k2 q2) q1
    | false => exact hq false f1 H1 Hs1 s1 k1 q1) hd
theorem snd_or {t u : TT} {a b : DTT} (ha : SndT K t a) (hb : SndT K u b) : SndT K (tOr t u) (dOr a b) := fun g ro f st H Hs Q Q' A hq hd =>
  ha g ro f st H Hs _ _ A (fun c f1 H1 Hs1 s1 k1 q1 => by
    cases c with
    | false => exact hb g ro f1 st H1 Hs1 _ _ (A.step s1 k1) (fun d f2 H2 Hs2 s2 k2 q2 => hq d f2 H2 Hs2 (s1.trans s2) k2 q2) q1
    | true => exact hq true f1 H1 Hs1 s1 k1 q1) hd
theorem snd_not {t : TT} {a : DTT} (ha : SndT K t a) : SndT K (tNot t) (dNot a) := fun g ro f st H Hs Q Q' A hq hd =>
  ha g ro f st H Hs _ _ A (fun c f1 H1 Hs1 s1 k1 q1 => hq (!c) f1 H1 Hs1 s1 k1 q1) hd
theorem dw_and1 {a : Expr} {pos : Pos} {d : DTT} (h : DP X a d) : DW X (.BoolOp .And [a] pos) d := .mk' (pw_and1 h.pt) (h.sn)
theorem dw_or1 {a : Expr} {pos : Pos} {d : DTT} (h : DP X a d) : DW X (.BoolOp .Or [a] pos) d := .mk' (pw_or1 h.pt) (h.sn)
theorem dw_and {a b : Expr} {rest : List Expr} {pos : Pos} {d e : DTT} (h : DP X a d) (h' : DW X (.BoolOp .And (b :: rest) pos) e) : DW X (.BoolOp .And (a :: b :: rest) pos) (dAnd d e) := .mk' (pw_and h.pt h'.pw) (snd_and h.sn h'.sn)
theorem dw_or {a b : Expr} {rest : List Expr} {pos : Pos} {d e : DTT} (h : DP X a d) (h' : DW X (.BoolOp .Or (b :: rest) pos) e) : DW X (.BoolOp .Or (a :: b :: rest) pos) (dOr d e) := .mk' (pw_or h.pt h'.pw) (snd_or h.sn h'.sn)
theorem DW.p {a : Expr} {d : DTT} (h : DW X a d) : DP X a d := .mk' (h.pw.pt) (h.sn)
theorem dp_not {a : Expr} {pos : Pos} {d : DTT} (h : DP X a d) : DP X (.UnaryOp .Not a pos) (dNot d) := .mk' (pt_not h.pt) (snd_not h.sn)
def dAndV (a b : DT) : DT := fun g r f Q => a g r f fun x f1 => match x with
  | .bool c => if c = true then b g r f1 Q else Q (.bool false) f1
  | _ => False
def dOrV (a b : DT) : DT := fun g r f Q => a g r f fun x f1 => match x with
  | .bool c => if c = true then Q (.bool true) f1 else b g r f1 Q
  | _ => False
theorem snd_andV {t u : TE} {a b : DT} (ha : Snd K t a) (hb : Snd K u b) : Snd K (tAndV t u) (dAndV a b) := fun g ro f st H Hs Q Q' A hq hd =>
  ha g ro f st H Hs _ _ A (fun x f1 v H1 Hs1 s1 k1 r1 q1 => by
    cases x with
    | bool c =>
      refine ⟨c, r1, ?_⟩
      cases c with
      | true => exact hb g ro f1 st H1 Hs1 _ _ (A.step s1 k1) (fun d f2 v H2 Hs2 s2 k2 r2 q2 => hq d f2 v H2 Hs2 (s1.trans s2) k2 r2 q2) q1
      | false => exact hq (.bool false) f1 _ H1 Hs1 s1 k1 rfl q1
    | _ => exact q1.elim) hd
theorem snd_orV {t u : TE} {a b : DT} (ha : Snd K t a) (hb : Snd K u b) : Snd K (tOrV t u) (dOrV a b) := fun g ro f st H Hs Q Q' A hq hd =>
  ha g ro f st H Hs _ _ A (fun x f1 v H1 Hs1 s1 k1 r1 q1 => by
    cases x with
    | bool c =>
      refine ⟨c, r1, ?_⟩
      cases c with
      | false => exact hb g ro f1 st H1 Hs1 _ _ (A.step s1 k1) (fun d f2 v H2 Hs2 s2 k2 r2 q2 => hq d f2 v H2 Hs2 (s1.trans s2) k2 r2 q2) q1
      | true => exact hq (.bool true) f1 _ H1 Hs1 s1 k1 rfl q1
    | _ => exact q1.elim) hd
theorem de_one {a : Expr} {op} {pos : Pos} {d : DT} (h : DE X a d) : DE X (.BoolOp op [a] pos) d := .mk' (pe_one h.pe) (h.sn)
theorem de_and {a b : Expr} {rest : List Expr} {pos : Pos} {d e : DT} (h : DE X a d) (h' : DE X (.BoolOp .And (b :: rest) pos) e) : DE X (.BoolOp .And (a :: b :: rest) pos) (dAndV d e) := .mk' (pe_and h.pe h'.pe) (snd_andV h.sn h'.sn)
theorem de_or {a b : Expr} {rest : List Expr} {pos : Pos} {d e : DT} (h : DE X a d) (h' : DE X (.BoolOp .Or (b :: rest) pos) e) : DE X (.BoolOp .Or (a :: b :: rest) pos) (dOrV d e) := .mk' (pe_or h.pe h'.pe) (snd_orV h.sn h'.sn)
/-! argument lists, displays -/
def dNil : DTA := fun _ _ f Q => Q [] f
def dCons (a : DT) (t : DTA) : DTA := fun g r f Q => a g r f fun x f1 => t g r f1 fun xs f2 => Q (x :: xs) f2
theorem snd_nil : SndA K tNil dNil := fun g ro f st H Hs Q Q' A hq hd => hq [] f [] H Hs (Stp.refl A.sub) A.dk rfl hd
theorem snd_cons {ta : TE} {t : TA} {a : DT} {d : DTA} (ha : Snd K ta a) (ht : SndA K t d) : SndA K (tCons ta t) (dCons a d) := fun g ro f st H Hs Q Q' A hq hd =>
  ha g ro f st H Hs _ _ A (fun x f1 v H1 Hs1 s1 k1 r1 q1 => ht g ro f1 st H1 Hs1 _ _ (A.step s1 k1) (fun ds f2 vs H2 Hs2 s2 k2 r2 q2 =>
    hq (x :: ds) f2 (v :: vs) H2 Hs2 (s1.trans s2) k2 ⟨v, vs, rfl, r1.mono s2.ext, r2⟩ q2) q1) hd
theorem da_nil : DA X [] dNil := .mk' (pa_nil) (snd_nil)
theorem da_cons {e : Expr} {es : List Expr} {d : DT} {dl : DTA} (h : DE X e d) (h' : DA X es dl) (hs : starEach (e :: es) X.env = (false, eval e X.env) :: starEach es X.env := by rfl) : DA X (e :: es) (dCons d dl) := .mk' (pa_cons h.pe h'.pa hs) (snd_cons h.sn h'.sn)
def lim : Nat := 1000000
theorem lim_le {n : Nat} (h : n ≤ lim) : n ≤ sizeLine := Nat.le_trans h (by decide)
theorem lim_lt {n : Nat} (h : n ≤ lim) : n < sizeLine := Nat.lt_of_le_of_lt h (by decide)
def dTup (t : DTA) : DT := fun g r f Q => t g r f fun ds f1 => ds.length ≤ lim ∧ Q (.tup ds) f1
theorem RpA.le {H : Hp} {ds : List D} {vs : List V} (h : RpA K H ds vs) (l : ds.length ≤ lim) : vs.length ≤ sizeLine := by rw [← h.length]; exact lim_le l
theorem RpA.lt {H : Hp} {ds : List D} {vs : List V} (h : RpA K H ds vs) (l : ds.length ≤ lim) : vs.length < sizeLine := by rw [← h.length]; exact lim_lt l
theorem rp_tup {H : Hp} {p : Addr} {ds : List D} {vs : List V} (hr : RpA K H ds vs) (hn : H p = none) : Rp K (upd H p (.tup vs)) (.tup ds) (.ref p) :=
  ⟨p, vs, rfl, .inl upd_same, hr.mono fun b u e => by rw [upd_ne (ne_of_none e hn)]; exact e⟩
theorem rp_lst {H : Hp} {p : Addr} {ds : List D} {vs : List V} (hr : RpA K H ds vs) (hn : H p = none) : Rp K (upd H p (.lst vs)) (.lst ds) (.ref p) :=
  ⟨p, vs, rfl, upd_same, hr.mono fun b u e => by rw [upd_ne (ne_of_none e hn)]; exact e⟩
theorem same_none {H Hs : Hp} {p : Addr} (s : Same Hs H) (h : H p = none) : Hs p = none := by
  cases e : Hs p with
  | none => rfl
  | some o => rw [s p o e] at h; cases h
theorem snd_tup {t : TA} {d : DTA} (h : SndA K t d) : Snd K (tTup t) (dTup d) := fun g ro f st H Hs Q Q' A hq hd =>
  h g ro f st H Hs _ _ A (fun ds f1 vs H1 Hs1 s1 k1 r1 q1 => ⟨r1.le q1.1, fun p hp => by
    have al : Stp none H1 Hs1 (upd H1 p (.tup vs)) (upd Hs1 p (.tup vs)) := Stp.alloc s1.sub hp
    exact hq (.tup ds) f1 (.ref p) _ _ (s1.trans al.gen) (k1.stp al) (rp_tup r1 (same_none s1.sub hp)) q1.2⟩) hd
theorem de_tup {es : List Expr} {x1} {pos : Pos} {d : DTA} (h : DA X es d) : DE X (.Tuple es x1 pos) (dTup d) := .mk' (pe_tup h.pa) (snd_tup h.sn)
def dLst (t : DTA) : DTA := fun g r f Q => t g r f fun ds f1 => ds.length ≤ lim ∧ Q ds f1
theorem snd_lst {t : TA} {d : DTA} (h : SndA K t d) : SndL K (tLst t) (dLst d) := fun g ro f st H Hs Q Q' A hq hd =>
  h g ro f st H Hs _ _ A (fun ds f1 vs H1 Hs1 s1 k1 r1 q1 => ⟨r1.le q1.1, fun p hp => by
    have al : Stp none H1 Hs1 (upd H1 p (.lst vs)) Hs1 := Stp.lay s1.sub hp
    refine hq ds f1 p vs _ _ (s1.trans al.gen) (k1.stp al) ?_ (same_none s1.sub hp) upd_same r1 q1.2
    cases e : H p with
    | none => rfl
    | some o =>
      obtain ⟨o', e'⟩ := s1.there p o e
      rw [e'] at hp; cases hp⟩) hd
theorem dl_lst {es : List Expr} {pos : Pos} {d : DTA} (h : DA X es d) : DL' X (.List es pos) (dLst d) := .mk' (pe_lst h.pa) (snd_lst h.sn)
/-! plain results -/
theorem SndR.pure {r : R2} {op : O2} (h : ∀ H Hs x y vx vy (Q : VK) (Q' : D → Prop), Same Hs H → Rp K Hs x vx → Rp K Hs y vy → (∀ z v, Rp K Hs z v → Q' z → Q v H) → op x y Q' → r vx vy H Q) : SndR K r op := fun H Hs x y vx vy Q Q' s rx ry hq hd =>
  h H Hs x y vx vy Q Q' s rx ry (fun z v rz q => hq z v H Hs (Stp.refl s) rz q) hd
def oI0 (g : Int → Int → D) : O2 := fun x y Q => match x, y with
  | .int i, .int j => Q (g i j)
  | _, _ => False
def oI (C : Int → Int → Prop) (g : Int → Int → D) : O2 := fun x y Q => match x, y with
  | .int i, .int j => C i j ∧ Q (g i j)
  | _, _ => False
theorem sr_I0 {g : Int → Int → V} {g' : Int → Int → D} (hg : ∀ i j H, Rp K H (g' i j) (g i j)) : SndR K (rI0 g) (oI0 g') := SndR.pure fun H Hs x y vx vy Q Q' s rx ry hq hd => by
  cases x <;> try exact hd.elim
  cases y <;> try exact hd.elim
  exact ⟨_, _, rx, ry, hq _ _ (hg _ _ _) hd⟩
theorem sr_I {C : Int → Int → Prop} {g : Int → Int → V} {g' : Int → Int → D} (hg : ∀ i j H, Rp K H (g' i j) (g i j)) : SndR K (rI C g) (oI C g') := SndR.pure fun H Hs x y vx vy Q Q' s rx ry hq hd => by
  cases x <;> try exact hd.elim
  cases y <;> try exact hd.elim
  exact ⟨_, _, rx, ry, hd.1, hq _ _ (hg _ _ _) hd.2⟩
def oAddS : O2 := fun x y Q => match x, y with
  | .str i, .str j => i.length + j.length ≤ lim ∧ Q (.str (i ++ j))
  | _, _ => False
theorem sr_addS : SndR K (fun x y H Q => ∃ i j, x = .str i ∧ y = .str j ∧ i.length + j.length ≤ sizeLine ∧ Q (.str (i ++ j)) H) oAddS := SndR.pure fun H Hs x y vx vy Q Q' s rx ry hq hd => by
  cases x <;> try exact hd.elim
  cases y <;> try exact hd.elim
  exact ⟨_, _, rx, ry, lim_le hd.1, hq (.str _) _ rfl hd.2⟩
def oCat : O2 := fun x y Q => match x, y with
  | .lst i, .lst j => i.length + j.length ≤ lim ∧ Q (.lst (i ++ j))
  | _, _ => False
theorem sr_cat : SndR K rCat oCat := fun H Hs x y vx vy Q Q' s rx ry hq hd => by
  cases x <;> try exact hd.elim
  cases y <;> try exact hd.elim
  obtain ⟨a, vs, rfl, h1, h2⟩ := rx
  obtain ⟨b, ws, rfl, h3, h4⟩ := ry
  refine ⟨a, b, vs, ws, rfl, rfl, s _ _ h1, s _ _ h3, ?_, fun p hp => ?_⟩
  · rw [← h2.length, ← h4.length]; exact lim_le hd.1
  · exact hq _ _ _ _ (Stp.alloc s hp) (rp_lst (h2.append h4) (same_none s hp)) hd.2
def oCatT : O2 := fun x y Q => match x, y with
  | .tup i, .tup j => i.length + j.length ≤ lim ∧ Q (.tup (i ++ j))
  | _, _ => False
theorem sr_catT : SndR K (rCatA K) oCatT := fun H Hs x y vx vy Q Q' s rx ry hq hd => by
  cases x <;> try exact hd.elim
  cases y <;> try exact hd.elim
  obtain ⟨a, vs, rfl, h1, h2⟩ := rx
  obtain ⟨b, ws, rfl, h3, h4⟩ := ry
  refine ⟨a, b, vs, ws, rfl, rfl, (tp_sq s h1), (tp_sq s h3), ?_, fun e => ?_, fun _ e => ?_, fun _ _ p hp => ?_⟩
  · rw [← h2.length, ← h4.length]; exact lim_le hd.1
  · have := h2.append h4
    rw [e] at this
    exact hq (.tup _) _ _ _ (Stp.refl s) ⟨b, ws, rfl, h3, this⟩ hd.2
  · have := h2.append h4
    rw [e, List.append_nil] at this
    exact hq (.tup _) _ _ _ (Stp.refl s) ⟨a, vs, rfl, h1, this⟩ hd.2
  · exact hq _ _ _ _ (Stp.alloc s hp) (rp_tup (h2.append h4) (same_none s hp)) hd.2
/-- x + y of any of the four kinds -/
def oAdd : O2 := fun x y Q => match x, y with
  | .int i, .int j => Q (.int (i + j))
  | .str i, .str j => i.length + j.length ≤ lim ∧ Q (.str (i ++ j))
  | .lst i, .lst j => i.length + j.length ≤ lim ∧ Q (.lst (i ++ j))
  | .tup i, .tup j => i.length + j.length ≤ lim ∧ Q (.tup (i ++ j))
  | _, _ => False
def rAddA (K : PySem.W.Frag) : R2 := fun x y H Q => rI0 (fun i j => .int (i + j)) x y H Q ∨ ((∃ i j, x = .str i ∧ y = .str j ∧ i.length + j.length ≤ sizeLine ∧ Q (.str (i ++ j)) H) ∨ (rCat x y H Q ∨ rCatA K x y H Q))
theorem op_addA : OpR X (binaryOp .Add) (rAddA X.K) := op_add.or (op_add_str.or (op_cat.or op_catA))
theorem sr_add : SndR K (rAddA K) oAdd := ((sr_I0 (g' := fun i j => .int (i + j)) fun _ _ _ => rfl).or (sr_addS.or (sr_cat.or sr_catT))).weak fun x y Q h => by
  cases x <;> cases y <;> first | exact h.elim | exact .inl h | exact .inr (.inl h) | exact .inr (.inr (.inl h)) | exact .inr (.inr (.inr h))
theorem de_add {a b : Expr} {pos : Pos} {da db : DT} (ha : DE X a da) (hb : DE X b db) : DE X (.BinOp a .Add b pos) (dOp oAdd da db) := de_op op_addA sr_add ha hb
theorem de_sub {a b : Expr} {pos : Pos} {da db : DT} (ha : DE X a da) (hb : DE X b db) : DE X (.BinOp a .Sub b pos) (dOp (oI0 fun i j => .int (i - j)) da db) := de_op op_sub (sr_I0 fun _ _ _ => rfl) ha hb
theorem de_mul {a b : Expr} {pos : Pos} {da db : DT} (ha : DE X a da) (hb : DE X b db) : DE X (.BinOp a .Mult b pos) (dOp (oI CMul fun i j => .int (i * j)) da db) := de_op op_mul (sr_I fun _ _ _ => rfl) ha hb
theorem de_pow {a b : Expr} {pos : Pos} {da db : DT} (ha : DE X a da) (hb : DE X b db) : DE X (.BinOp a .Pow b pos) (dOp (oI CPow fun i j => .int (i ^ j.toNat)) da db) := de_op op_pow (sr_I fun _ _ _ => rfl) ha hb
def dNeg (a : DT) : DT := fun g r f Q => a g r f fun x f1 => match x with
  | .int i => Q (.int (-i)) f1
  | _ => False
theorem de_neg {a : Expr} {pos : Pos} {d : DT} (h : DE X a d) : DE X (.UnaryOp .USub a pos) (dNeg d) := .mk' (pe_un un_neg h.pe) (fun g ro f st H Hs Q Q' A hq hd =>
  h.sn g ro f st H Hs _ _ A (fun x f1 v H1 Hs1 s1 k1 r1 q1 => by
    cases x <;> try exact q1.elim
    exact ⟨_, r1, hq (.int (-_)) f1 _ H1 Hs1 s1 k1 rfl q1⟩) hd)
/-! == and != -/
mutual
def D.py : D → PyData
  | .none => .none
  | .bool b => .bool b
  | .int i => .int i
  | .str x => .str x
  | .tup ds => .tuple (pyA ds)
  | .lst ds => .list (pyA ds)
  | .dct _ _ => .dict []
  | .obj _ _ _ => .dict []
  | .exn _ _ _ => .dict []
  | .any _ => .dict []
def pyA : List D → List PyData
  | [] => []
  | d :: ds => d.py :: pyA ds
end
mutual
theorem Rp.dp {H : Hp} : ∀ (d : D) (v : V), Rp K H d v → d.py.canLay0 = true → Dp K H v d.py
  | .none, _, h, _ => by cases h; exact .non
  | .bool _, _, h, _ => by cases h; exact .bl _
  | .int _, _, h, _ => by cases h; exact .int _
  | .str _, _, h, _ => by cases h; exact .str _
  | .tup ds, _, ⟨a, vs, h1, h2, h3⟩, c => by cases h1; exact .tup h2.sq (RpA.dp ds vs h3 c)
  | .lst ds, _, ⟨a, vs, h1, h2, h3⟩, c => by cases h1; exact .lst (SqL.of h2) (RpA.dp ds vs h3 c)
  | .dct _ _, _, _, c => by simp [D.py, PyData.canLay0] at c
  | .obj _ _ _, _, _, c => by simp [D.py, PyData.canLay0] at c
  | .exn _ _ _, _, _, c => by simp [D.py, PyData.canLay0] at c
  | .any _, _, _, c => by simp [D.py, PyData.canLay0] at c
theorem RpA.dp {H : Hp} : ∀ (ds : List D) (vs : List V), RpA K H ds vs → PyData.canLayAll0 (pyA ds) = true → DpAll K H vs (pyA ds)
  | [], _, h, _ => by cases h; exact .nil
  | d :: ds, _, ⟨v, r, h1, h2, h3⟩, c => by
    have c' : d.py.canLay0 = true ∧ PyData.canLayAll0 (pyA ds) = true := Bool.and_eq_true_iff.mp c
    cases h1
    exact .cons (Rp.dp d v h2 c'.1) (RpA.dp ds r h3 c'.2)
end
theorem Rp.dpS {H : Hp} {d : D} {v : V} (h : Rp K H d v) (c : SeqAt.shaped d.py = true) : Dp K H v d.py := h.dp d v (Bool.and_eq_true_iff.mp c).1
theorem dp_mono {H H' : Hp} (e : Same H H') {v : V} {d : PyData} (h : Dp K H v d) : Dp K H' v d := by
  refine Dp.rec (motive_1 := fun v d _ => Dp K H' v d) (motive_2 := fun vs ds _ => DpAll K H' vs ds) .non .bl .int .str ?_ ?_ .nil ?_ h
  · intro a xs ds h1 _ h2; exact .lst (e.seq h1) h2
  · intro a xs ds h1 _ h2; exact .tup (sqT_mono e h1) h2
  · intro v vs d ds _ _ h1 h2; exact .cons h1 h2
def xb (neg b : Bool) : Bool := match neg with
  | true => !b
  | false => b
def seq : D → D → Option Bool
  | .none, .none => some true
  | .none, .int _ => some false
  | .none, .bool _ => some false
  | .none, .str _ => some false
  | .int _, .none => some false
  | .bool _, .none => some false
  | .str _, .none => some false
  | .int a, .int b => some (decide (a = b))
  | .bool a, .bool b => some (decide (a = b))
  | .str a, .str b => some (decide (a = b))
  | .int _, .str _ => some false
  | .str _, .int _ => some false
  | .bool _, .str _ => some false
  | .str _, .bool _ => some false
  | _, _ => Option.none
def oEq (neg : Bool) : O2 := fun x y Q => match seq x y with
  | some b => Q (.bool (xb neg b))
  | Option.none => SeqAt.shaped x.py = true ∧ SeqAt.shaped y.py = true ∧ Q (.bool (xb neg (PyData.eqv x.py y.py)))
theorem seq_eqv : ∀ (x y : D) (b : Bool), seq x y = some b → PyData.eqv x.py y.py = b := by
  have es : ∀ a b : Str, (a == b) = decide (a = b) := fun a b => Bool.beq_eq_decide_eq a b
  intro x y b h
  cases x <;> cases y <;> simp only [seq, Option.some.injEq, reduceCtorEq] at h <;> subst h <;> simp [D.py, PyData.eqv]
  all_goals first | exact es _ _ | exact Bool.beq_eq_decide_eq _ _
theorem oEq_data {x y : D} {neg : Bool} {Q : D → Prop} (hx : SeqAt.shaped x.py = true) (hy : SeqAt.shaped y.py = true) (h : Q (.bool (xb neg (PyData.eqv x.py y.py)))) : oEq neg x y Q := by
  unfold oEq
  split
  · next b e => rw [seq_eqv x y b e] at h; exact h
  · exact ⟨hx, hy, h⟩
theorem sr_eqD : SndR K (rEqD K) (fun x y Q => SeqAt.shaped x.py = true ∧ SeqAt.shaped y.py = true ∧ Q (.bool (PyData.eqv x.py y.py))) := SndR.pure fun H Hs x y vx vy Q Q' s rx ry hq hd =>
  ⟨x.py, y.py, dp_mono s (rx.dpS hd.1), dp_mono s (ry.dpS hd.2.1), hd.1, hd.2.1, hq (.bool _) _ rfl hd.2.2⟩
theorem sr_neD : SndR K (rNeD K) (fun x y Q => SeqAt.shaped x.py = true ∧ SeqAt.shaped y.py = true ∧ Q (.bool (!PyData.eqv x.py y.py))) := SndR.pure fun H Hs x y vx vy Q Q' s rx ry hq hd =>
  ⟨x.py, y.py, dp_mono s (rx.dpS hd.1), dp_mono s (ry.dpS hd.2.1), hd.1, hd.2.1, hq (.bool _) _ rfl hd.2.2⟩
theorem seq_V {H : Hp} : ∀ (x y : D) (vx vy : V) (b : Bool), Rp K H x vx → Rp K H y vy → seq x y = some b → scal vx vy = true ∧ decide (vx = vy) = b := by
  intro x y vx vy b rx ry h
  cases x <;> cases y <;> simp only [seq, Option.some.injEq, reduceCtorEq] at h <;> subst h <;> cases rx <;> cases ry <;> simp [scal]
theorem sr_eqS : SndR K rEq (fun x y Q => ∃ b, seq x y = some b ∧ Q (.bool b)) := SndR.pure fun H Hs x y vx vy Q Q' s rx ry hq hd => by
  obtain ⟨b, e, h⟩ := hd
  obtain ⟨h1, h2⟩ := seq_V x y vx vy b rx ry e
  exact ⟨h1, hq (.bool b) _ (by rw [h2]; rfl) h⟩
theorem sr_neS : SndR K rNe (fun x y Q => ∃ b, seq x y = some b ∧ Q (.bool (!b))) := SndR.pure fun H Hs x y vx vy Q Q' s rx ry hq hd => by
  obtain ⟨b, e, h⟩ := hd
  obtain ⟨h1, h2⟩ := seq_V x y vx vy b rx ry e
  exact ⟨h1, hq (.bool (!b)) _ (by rw [h2]; rfl) h⟩
def rEqA (K : PySem.W.Frag) : R2 := fun x y H Q => rEq x y H Q ∨ rEqD K x y H Q
def rNeA (K : PySem.W.Frag) : R2 := fun x y H Q => rNe x y H Q ∨ rNeD K x y H Q
theorem sr_eq : SndR K (rEqA K) (oEq false) := (sr_eqS.or sr_eqD).weak fun x y Q h => by
  unfold oEq at h
  simp only [xb] at h
  split at h
  · next b e => exact .inl ⟨b, e, h⟩
  · exact .inr h
theorem sr_ne : SndR K (rNeA K) (oEq true) := (sr_neS.or sr_neD).weak fun x y Q h => by
  unfold oEq at h
  simp only [xb] at h
  split at h
  · next b e => exact .inl ⟨b, e, h⟩
  · exact .inr h
theorem de_eq {a b : Expr} {pos : Pos} {da db : DT} (hu : X.A.units + 64 < cLine) (ha : DE X a da) (hb : DE X b db) : DE X (.Compare a [.Eq] [b] pos) (dOp (oEq false) da db) := de_cmp (op_eq.or (op_eqD hu)) sr_eq ha hb (nomark _)
theorem de_ne {a b : Expr} {pos : Pos} {da db : DT} (hu : X.A.units + 64 < cLine) (ha : DE X a da) (hb : DE X b db) : DE X (.Compare a [.NotEq] [b] pos) (dOp (oEq true) da db) := de_cmp (op_ne.or (op_neD hu)) sr_ne ha hb (nomark _)
theorem dp_eq {a b : Expr} {pos : Pos} {da db : DT} (hu : X.A.units + 64 < cLine) (ha : DE X a da) (hb : DE X b db) : DP X (.Compare a [.Eq] [b] pos) (dTest (dOp (oEq false) da db)) := dp_cmp (op_eq.or (op_eqD hu)) sr_eq ha hb (nomark _)
theorem dp_ne {a b : Expr} {pos : Pos} {da db : DT} (hu : X.A.units + 64 < cLine) (ha : DE X a da) (hb : DE X b db) : DP X (.Compare a [.NotEq] [b] pos) (dTest (dOp (oEq true) da db)) := dp_cmp (op_ne.or (op_neD hu)) sr_ne ha hb (nomark _)
/-! < <= > >= of numbers -/
theorem de_le {a b : Expr} {pos : Pos} {da db : DT} (ha : DE X a da) (hb : DE X b db) : DE X (.Compare a [.LtE] [b] pos) (dOp (oI0 fun i j => .bool (decide (i ≤ j))) da db) := de_cmp op_le (sr_I0 fun _ _ _ => rfl) ha hb (nomark _)
theorem dp_lt {a b : Expr} {pos : Pos} {da db : DT} (ha : DE X a da) (hb : DE X b db) : DP X (.Compare a [.Lt] [b] pos) (dTest (dOp (oI0 fun i j => .bool (decide (i < j))) da db)) := dp_cmp op_lt (sr_I0 fun _ _ _ => rfl) ha hb (nomark _)
theorem dp_gt {a b : Expr} {pos : Pos} {da db : DT} (ha : DE X a da) (hb : DE X b db) : DP X (.Compare a [.Gt] [b] pos) (dTest (dOp (oI0 fun i j => .bool (decide (j < i))) da db)) := dp_cmp op_gt (sr_I0 fun _ _ _ => rfl) ha hb (nomark _)
/-- a <= b <= c of numbers -/
theorem de_lele {a b c : Expr} {pos : Pos} {da db dc : DT} (ha : DE X a da) (hb : DE X b db) (hc : DE X c dc) (hm : lastMarks [CmpOp.LtE, CmpOp.LtE] [b, c] = false := by with_unfolding_all rfl) : DE X (.Compare a [.LtE, .LtE] [b, c] pos) (dChain (oI0 fun i j => .bool (decide (i ≤ j))) (oI0 fun i j => .bool (decide (i ≤ j))) da db dc) := de_chain op_le op_le (sr_I0 fun _ _ _ => rfl) (sr_I0 fun _ _ _ => rfl) ha hb hc hm
theorem dp_lele {a b c : Expr} {pos : Pos} {da db dc : DT} (ha : DE X a da) (hb : DE X b db) (hc : DE X c dc) (hm : lastMarks [CmpOp.LtE, CmpOp.LtE] [b, c] = false := by with_unfolding_all rfl) : DP X (.Compare a [.LtE, .LtE] [b, c] pos) (dTest (dChain (oI0 fun i j => .bool (decide (i ≤ j))) (oI0 fun i j => .bool (decide (i ≤ j))) da db dc)) := dp_chain op_le op_le (sr_I0 fun _ _ _ => rfl) (sr_I0 fun _ _ _ => rfl) ha hb hc hm
/-! is None -/
def D.isN : D → Bool
  | .none => true
  | .any v => decide (v = .non)
  | _ => false
def oIsN (neg : Bool) : O2 := fun x y Q => match y with
  | .none => Q (.bool (xb neg x.isN))
  | _ => False
theorem isN_V {H : Hp} : ∀ (x : D) (v : V), Rp K H x v → decide (v = .non) = x.isN := by
  intro x v h
  cases x <;> try (cases h; rfl)
  · obtain ⟨a, vs, rfl, _⟩ := h; rfl
  · obtain ⟨a, vs, rfl, _⟩ := h; rfl
  · obtain ⟨a, vs, rfl, _⟩ := h; rfl
  · obtain ⟨C, a, dx, vs, _, rfl, _⟩ := h; rfl
  · obtain ⟨C, a, dx, vs, _, rfl, _⟩ := h; rfl
theorem sr_isN : SndR K (fun x y H Q => y = .non ∧ Q (.bl (decide (x = .non))) H) (oIsN false) := SndR.pure fun H Hs x y vx vy Q Q' s rx ry hq hd => by
  cases y <;> try exact hd.elim
  refine ⟨ry, ?_⟩
  rw [isN_V _ _ rx]
  exact hq (.bool _) _ rfl (by simpa [oIsN, xb] using hd)
theorem sr_notN : SndR K (fun x y H Q => y = .non ∧ Q (.bl (!decide (x = .non))) H) (oIsN true) := SndR.pure fun H Hs x y vx vy Q Q' s rx ry hq hd => by
  cases y <;> try exact hd.elim
  refine ⟨ry, ?_⟩
  rw [isN_V _ _ rx]
  exact hq (.bool _) _ rfl (by simpa [oIsN, xb] using hd)
theorem de_isN {a b : Expr} {pos : Pos} {da db : DT} (ha : DE X a da) (hb : DE X b db) : DE X (.Compare a [.Is] [b] pos) (dOp (oIsN false) da db) := de_cmp op_isN sr_isN ha hb (nomark _)
theorem dp_isN {a b : Expr} {pos : Pos} {da db : DT} (ha : DE X a da) (hb : DE X b db) : DP X (.Compare a [.Is] [b] pos) (dTest (dOp (oIsN false) da db)) := dp_cmp op_isN sr_isN ha hb (nomark _)
theorem dp_notN {a b : Expr} {pos : Pos} {da db : DT} (ha : DE X a da) (hb : DE X b db) : DP X (.Compare a [.IsNot] [b] pos) (dTest (dOp (oIsN true) da db)) := dp_cmp op_notN sr_notN ha hb (nomark _)
end
end DL
namespace DL
open PySem PySem.Spec PyProof.Rows L2
section
variable {X : Cx} {K : PySem.W.Frag}
/-! calls of built-ins by values -/
abbrev OA := List D → (D → Prop) → Prop
def SndC (K : PySem.W.Frag) (r : List V → Hp → VK → Prop) (op : OA) : Prop := ∀ (H Hs : Hp) (ds : List D) (vs : List V) (Q : VK) (Q' : D → Prop), Same Hs H → RpA K Hs ds vs →
  (∀ z v H' Hs', Stp none H Hs H' Hs' → Rp K Hs' z v → Q' z → Q v H') → op ds Q' → r vs H Q
def dCB (op : OA) (t : DTA) : DT := fun g r f Q => t g r f fun ds f1 => op ds fun z => Q z f1
theorem snd_cb {r : List V → Hp → VK → Prop} {op : OA} {t : TA} {d : DTA} (hr : SndC K r op) (ht : SndA K t d) : Snd K (tCB r t) (dCB op d) := fun g ro f st H Hs Q Q' A hq hd =>
  ht g ro f st H Hs _ _ A (fun ds f1 vs H1 Hs1 s1 k1 r1 q1 => hr H1 Hs1 ds vs Q _ s1.sub r1 (fun z v H2 Hs2 s2 r2 q2 => hq z f1 v H2 Hs2 (s1.trans s2.gen) (k1.stp s2) r2 q2) q1) hd
theorem SndC.or {r r' : List V → Hp → VK → Prop} {op op' : OA} (h : SndC K r op) (h' : SndC K r' op') : SndC K (fun xs H Q => r xs H Q ∨ r' xs H Q) (fun xs Q => op xs Q ∨ op' xs Q) := fun H Hs ds vs Q Q' s rx hq hd => by
  rcases hd with hd | hd
  · exact .inl (h H Hs ds vs Q Q' s rx hq hd)
  · exact .inr (h' H Hs ds vs Q Q' s rx hq hd)
theorem SndC.weak {r : List V → Hp → VK → Prop} {op op' : OA} (h : SndC K r op) (w : ∀ ds Q, op' ds Q → op ds Q) : SndC K r op' := fun H Hs ds vs Q Q' s rx hq hd => h H Hs ds vs Q Q' s rx hq (w ds Q' hd)
theorem SndC.pure {r : List V → Hp → VK → Prop} {op : OA} (h : ∀ H Hs ds vs (Q : VK) (Q' : D → Prop), Same Hs H → RpA K Hs ds vs → (∀ z v, Rp K Hs z v → Q' z → Q v H) → op ds Q' → r vs H Q) : SndC K r op := fun H Hs ds vs Q Q' s rx hq hd =>
  h H Hs ds vs Q Q' s rx (fun z v rz q => hq z v H Hs (Stp.refl s) rz q) hd
theorem de_callB {x : Str} {id : String} {p pos : Pos} {e : Expr} {es : List Expr} {d : DTA} {r : List V → Hp → VK → Prop} {op : OA} (hc : CallR X (.builtin id) r) (hr : SndC X.K r op) (hg : Gl X x) (hm : X.mg x = none) (hv : bootBuiltins x = some (.builtin id)) (ha : DA X (e :: es) d)
    (hn : x ≠ "__name__" := by decide) (hdb : (x == ("__debug__" : Str)) = false := by decide) (hs : starEach (e :: es) X.env = (false, eval e X.env) :: starEach es X.env := by rfl)
    (hpl : (backTo pos (starEach es X.env)).any (·.1) = false := by rfl) : DE X (.Call (.Name x p) (e :: es) [] pos) (dCB op d) :=
  .mk' (pe_callB hc hg hm hv ha.pa hn hdb hs hpl) (snd_cb hr ha.sn)
theorem de_callTy {x : Str} {T : String} {p pos : Pos} {e : Expr} {es : List Expr} {d : DTA} {r : List V → Hp → VK → Prop} {op : OA} (hc : CallR X (.type T) r) (hr : SndC X.K r op) (hg : Gl X x) (hm : X.mg x = none) (hv : bootBuiltins x = some (.type T)) (ha : DA X (e :: es) d)
    (hn : x ≠ "__name__" := by decide) (hdb : (x == ("__debug__" : Str)) = false := by decide) (hs : starEach (e :: es) X.env = (false, eval e X.env) :: starEach es X.env := by rfl)
    (hpl : (backTo pos (starEach es X.env)).any (·.1) = false := by rfl) : DE X (.Call (.Name x p) (e :: es) [] pos) (dCB op d) :=
  .mk' (pe_callTy hc hg hm hv ha.pa hn hdb hs hpl) (snd_cb hr ha.sn)
/-- len -/
def oLen : OA := fun ds Q => match ds with
  | [.str x] => x.length ≤ lim ∧ Q (.int x.length)
  | [.lst xs] => Q (.int xs.length)
  | [.tup xs] => Q (.int xs.length)
  | _ => False
theorem rpA1 {H : Hp} {d : D} {vs : List V} (h : RpA K H [d] vs) : ∃ v, vs = [v] ∧ Rp K H d v := by
  obtain ⟨v, r, h1, h2, h3⟩ := h
  cases h3
  exact ⟨v, h1, h2⟩
theorem rpA2 {H : Hp} {d e : D} {vs : List V} (h : RpA K H [d, e] vs) : ∃ v w, vs = [v, w] ∧ Rp K H d v ∧ Rp K H e w := by
  obtain ⟨v, r, h1, h2, h3⟩ := h
  obtain ⟨w, rfl, h4⟩ := rpA1 h3
  exact ⟨v, w, h1, h2, h4⟩
theorem sc_len : SndC K (fun xs H Q => ∃ x n, xs = [x] ∧ LenV K x H n ∧ Q (.int n) H) oLen := SndC.pure fun H Hs ds vs Q Q' s rx hq hd => by
  unfold oLen at hd
  split at hd
  · obtain ⟨v, rfl, h⟩ := rpA1 rx
    cases h
    exact ⟨_, _, rfl, ⟨lim_le hd.1, rfl⟩, hq (.int _) _ rfl hd.2⟩
  · obtain ⟨v, rfl, a, vs, rfl, h1, h2⟩ := rpA1 rx
    exact ⟨_, _, rfl, .inl ⟨vs, SqL.of (s _ _ h1), rfl⟩, hq (.int _) _ (by rw [h2.length]; rfl) hd⟩
  · obtain ⟨v, rfl, a, vs, rfl, h1, h2⟩ := rpA1 rx
    exact ⟨_, _, rfl, .inr ⟨vs, (tp_sq s h1), rfl⟩, hq (.int _) _ (by rw [h2.length]; rfl) hd⟩
  · exact hd.elim
theorem de_len {p pos : Pos} {e : Expr} {d : DTA} (hm : X.mg "len" = none) (ha : DA X [e] d) (hg : Gl X "len" := by rfl) (hs : starEach [e] X.env = [(false, eval e X.env)] := by rfl) : DE X (.Call (.Name "len" p) [e] [] pos) (dCB oLen d) :=
  de_callB call_len sc_len hg hm PySem.boot_len ha (by decide) (by decide) hs (by rfl)
/-- all, any -/
def oAll (all : Bool) : OA := fun ds Q => match ds with
  | [.lst xs] => ∃ bs : List Bool, xs = bs.map D.bool ∧ Q (.bool (if all then bs.all id else bs.any id))
  | _ => False
theorem sc_all : SndC K (rAll K) (oAll true) := SndC.pure fun H Hs ds vs Q Q' s rx hq hd => by
  unfold oAll at hd
  split at hd
  · obtain ⟨bs, rfl, q⟩ := hd
    obtain ⟨v, rfl, a, vs, rfl, h1, h2⟩ := rpA1 rx
    have e := h2.bools
    subst e
    exact ⟨a, bs, rfl, SqL.of (s _ _ h1), hq (.bool _) _ rfl q⟩
  · exact hd.elim
/-- min(m, n), max(m, n) -/
def oMin2 : OA := fun ds Q => match ds with
  | [.int i, .int j] => Q (.int (if j < i then j else i))
  | _ => False
theorem sc_min2 : SndC K (fun xs H Q => ∃ i j, xs = [.int i, .int j] ∧ Q (.int (if j < i then j else i)) H) oMin2 := SndC.pure fun H Hs ds vs Q Q' s rx hq hd => by
  unfold oMin2 at hd
  split at hd
  · obtain ⟨v, w, rfl, h1, h2⟩ := rpA2 rx
    cases h1
    cases h2
    exact ⟨_, _, rfl, hq (.int _) _ rfl hd⟩
  · exact hd.elim
/-- tuple(xs) -/
def oTuple : OA := fun ds Q => match ds with
  | [.lst xs] => Q (.tup xs)
  | [.tup xs] => Q (.tup xs)
  | _ => False
theorem sc_tuple : SndC K (fun xs H Q => ∃ p ys, xs = [.ref p] ∧ ((SqL K H p ys ∧ ∀ l, H l = none → Q (.ref l) (upd H l (.tup ys))) ∨ (SqT K H p ys ∧ Q (.ref p) H))) oTuple := fun H Hs ds vs Q Q' s rx hq hd => by
  unfold oTuple at hd
  split at hd
  · obtain ⟨v, rfl, a, vs, rfl, h1, h2⟩ := rpA1 rx
    exact ⟨a, vs, rfl, .inl ⟨SqL.of (s _ _ h1), fun l hl => hq (.tup _) _ _ _ (Stp.alloc s hl) (rp_tup h2 (same_none s hl)) hd⟩⟩
  · obtain ⟨v, rfl, a, vs, rfl, h1, h2⟩ := rpA1 rx
    exact ⟨a, vs, rfl, .inr ⟨(tp_sq s h1), hq (.tup _) _ _ _ (Stp.refl s) ⟨a, vs, rfl, h1, h2⟩ hd⟩⟩
  · exact hd.elim
/-- isinstance(x, T), T built in; (T1, T2) -/
def D.tyN : D → Option String
  | .none => some "NoneType"
  | .bool _ => some "bool"
  | .int _ => some "int"
  | .str _ => some "str"
  | .tup _ => some "tuple"
  | .lst _ => some "list"
  | .dct _ _ => some "dict"
  | _ => Option.none
theorem tyT {H : Hp} {a : Addr} {vs : List V} (h : SqT K H a vs) : TyX K H (.ref a) (.type "tuple") := by
  rcases h with (h | ⟨o, h⟩) | ⟨o, its, n, h1, h2, _⟩
  · exact .base (.tup h)
  · exact .fTuple h
  · exact .kTuple h1 h2
theorem tyN_ok {H : Hp} {d : D} {v : V} {n : String} (h : Rp K H d v) (e : d.tyN = some n) : TyX K H v (.type n) := by
  cases d <;> simp only [D.tyN, Option.some.injEq, reduceCtorEq] at e <;> subst e
  · cases h; exact .base .non
  · cases h; exact .base (.bl _)
  · cases h; exact .base (.int _)
  · cases h; exact .base (.str _)
  · obtain ⟨a, vs, rfl, h1, _⟩ := h
    exact tyT h1.sq
  · obtain ⟨a, vs, rfl, h1, _⟩ := h; exact .base (.lst h1)
  · obtain ⟨a, vs, rfl, h1, _⟩ := h; exact .base (.dK h1)
def oIsi : OA := fun ds Q => match ds with
  | [x, .any (.ty n)] => ∃ t b, x.tyN = some t ∧ kitB t n = some b ∧ Q (.bool b)
  | _ => False
theorem sc_isi : SndC K (rIsi K) oIsi := SndC.pure fun H Hs ds vs Q Q' s rx hq hd => by
  unfold oIsi at hd
  split at hd
  · obtain ⟨t, b, h1, h2, h3⟩ := hd
    obtain ⟨v, w, rfl, h4, h5⟩ := rpA2 rx
    cases h5
    exact ⟨v, _, _, _, b, rfl, .ty _, tyN_ok (h4.mono s) h1, kit_ty h2, hq (.bool _) _ rfl h3⟩
  · exact hd.elim
theorem de_isi {p pos : Pos} {e e2 : Expr} {d : DTA} (hm : X.mg "isinstance" = none) (ha : DA X [e, e2] d) (hg : Gl X "isinstance" := by rfl) (hs : starEach [e, e2] X.env = (false, eval e X.env) :: starEach [e2] X.env := by rfl)
    (hpl : (backTo pos (starEach [e2] X.env)).any (·.1) = false := by rfl) : DE X (.Call (.Name "isinstance" p) [e, e2] [] pos) (dCB oIsi d) :=
  de_callB call_isi sc_isi hg hm (by decide +kernel) ha (by decide) (by decide) hs hpl
/-! methods of texts -/
abbrev OM := D → List D → (D → Prop) → Prop
def SndM (K : PySem.W.Frag) (r : V → List V → Hp → VK → Prop) (op : OM) : Prop := ∀ (H Hs : Hp) (x : D) (vx : V) (ds : List D) (vs : List V) (Q : VK) (Q' : D → Prop), Same Hs H → Rp K Hs x vx → RpA K Hs ds vs →
  (∀ z v H' Hs', Stp none H Hs H' Hs' → Rp K Hs' z v → Q' z → Q v H') → op x ds Q' → r vx vs H Q
def D.isStr : D → Prop
  | .str _ => True
  | _ => False
def dM0 (op : OM) (o : DT) : DT := fun g r f Q => o g r f fun x f1 => x.isStr ∧ op x [] fun z => Q z f1
def dM1 (op : OM) (o e : DT) : DT := fun g r f Q => o g r f fun x f1 => x.isStr ∧ e g r f1 fun y f2 => op x [y] fun z => Q z f2
theorem isStr_V {H : Hp} {d : D} {v : V} (h : Rp K H d v) (i : d.isStr) : ∃ a, v = .str a := by
  cases d <;> first | exact i.elim | exact ⟨_, h⟩
theorem snd_m0 {r : V → List V → Hp → VK → Prop} {op : OM} {to : TE} {o : DT} (hr : SndM K r op) (ho : Snd K to o) : Snd K (tM0 r to) (dM0 op o) := fun g ro f st H Hs Q Q' A hq hd =>
  ho g ro f st H Hs _ _ A (fun x f1 vx H1 Hs1 s1 k1 r1 q1 => ⟨isStr_V r1 q1.1, hr H1 Hs1 x vx [] [] Q _ s1.sub r1 rfl (fun z v H2 Hs2 s2 r2 q2 => hq z f1 v H2 Hs2 (s1.trans s2.gen) (k1.stp s2) r2 q2) q1.2⟩) hd
theorem snd_m1 {r : V → List V → Hp → VK → Prop} {op : OM} {to te : TE} {o e : DT} (hr : SndM K r op) (ho : Snd K to o) (he : Snd K te e) : Snd K (tM1 r to te) (dM1 op o e) := fun g ro f st H Hs Q Q' A hq hd =>
  ho g ro f st H Hs _ _ A (fun x f1 vx H1 Hs1 s1 k1 r1 q1 => ⟨isStr_V r1 q1.1, he g ro f1 st H1 Hs1 _ _ (A.step s1 k1) (fun y f2 vy H2 Hs2 s2 k2 r2 q2 =>
    hr H2 Hs2 x vx [y] [vy] Q _ s2.sub (r1.mono s2.ext) (RpA.one r2) (fun z v H3 Hs3 s3 r3 q3 => hq z f2 v H3 Hs3 ((s1.trans s2).trans s3.gen) (k2.stp s3) r3 q3) q2) q1.2⟩) hd
def oStarts : OM := fun x ds Q => match x, ds with
  | .str a, [.str b] => Q (.bool (Txt.startswith a b))
  | _, _ => False
theorem sm_starts : SndM K (fun x xs H Q => ∃ a b, x = .str a ∧ xs = [.str b] ∧ Q (.bl (Txt.startswith a b)) H) oStarts := fun H Hs x vx ds vs Q Q' s rx rs hq hd => by
  unfold oStarts at hd
  split at hd
  · obtain ⟨v, rfl, h⟩ := rpA1 rs
    cases h
    exact ⟨_, _, rx, rfl, hq (.bool _) _ _ _ (Stp.refl s) rfl hd⟩
  · exact hd.elim
theorem de_starts {o e : Expr} {apos pos : Pos} {d d2 : DT} (ho : DE X o d) (he : DE X e d2) (hs : starEach [e] X.env = [(false, eval e X.env)] := by rfl) (hbase : attributeBase o "startswith" X.env (eval o X.env) = eval o X.env := by rfl) (hline : (apos.endLine == pos.line) = true := by rfl) :
    DE X (.Call (.Attribute o "startswith" apos) [e] [] pos) (dM1 oStarts d d2) := .mk' (pe_m1 F.slot_str_startswith F.type_str_startswith mt_startswith ho.pe he.pe hs hbase hline) (snd_m1 sm_starts ho.sn he.sn)
def oUpper : OM := fun x ds Q => match x, ds with
  | .str a, [] => a.length ≤ lim ∧ Q (.str (Txt.upper a))
  | _, _ => False
theorem sm_upper : SndM K (fun x xs H Q => ∃ a, x = .str a ∧ xs = [] ∧ a.length ≤ 5592405 ∧ Q (.str (Txt.upper a)) H) oUpper := fun H Hs x vx ds vs Q Q' s rx rs hq hd => by
  unfold oUpper at hd
  split at hd
  · exact ⟨_, rx, rs, Nat.le_trans hd.1 (by decide), hq (.str _) _ _ _ (Stp.refl s) rfl hd.2⟩
  · exact hd.elim
theorem de_upper {o : Expr} {apos pos : Pos} {d : DT} (ho : DE X o d) (hbase : attributeBase o "upper" X.env (eval o X.env) = eval o X.env := by rfl) (hline : (apos.endLine == pos.line) = true := by rfl) :
    DE X (.Call (.Attribute o "upper" apos) [] [] pos) (dM0 oUpper d) := .mk' (pe_upper ho.pe hbase hline) (snd_m0 sm_upper ho.sn)
def oJoin : OM := fun x ds Q => match x, ds with
  | .str a, [.lst xs] => ∃ ys : List Str, xs = ys.map D.str ∧ (ys.map (·.length)).sum + ys.length * a.length ≤ 16777216 ∧ Q (.str (Txt.join a ys))
  | .str a, [.tup xs] => ∃ ys : List Str, xs = ys.map D.str ∧ (ys.map (·.length)).sum + ys.length * a.length ≤ 16777216 ∧ Q (.str (Txt.join a ys))
  | _, _ => False
theorem sm_join : SndM K (fun x xs H Q => ∃ a p, ∃ ys : List Str, x = .str a ∧ xs = [.ref p] ∧ (SqL K H p (ys.map V.str) ∨ SqT K H p (ys.map V.str)) ∧ (ys.map (·.length)).sum + ys.length * a.length ≤ 16777216 ∧ Q (.str (Txt.join a ys)) H) oJoin := fun H Hs x vx ds vs Q Q' s rx rs hq hd => by
  unfold oJoin at hd
  split at hd
  · obtain ⟨ys, rfl, h1, h2⟩ := hd
    obtain ⟨v, rfl, a, vs, rfl, h3, h4⟩ := rpA1 rs
    have e := h4.strs
    subst e
    exact ⟨_, a, ys, rx, rfl, .inl (SqL.of (s _ _ h3)), h1, hq (.str _) _ _ _ (Stp.refl s) rfl h2⟩
  · obtain ⟨ys, rfl, h1, h2⟩ := hd
    obtain ⟨v, rfl, a, vs, rfl, h3, h4⟩ := rpA1 rs
    have e := h4.strs
    subst e
    exact ⟨_, a, ys, rx, rfl, .inr ((tp_sq s h3)), h1, hq (.str _) _ _ _ (Stp.refl s) rfl h2⟩
  · exact hd.elim
theorem de_join {o e : Expr} {apos pos : Pos} {d d2 : DT} (ho : DE X o d) (he : DE X e d2) (hs : starEach [e] X.env = [(false, eval e X.env)] := by rfl) (hbase : attributeBase o "join" X.env (eval o X.env) = eval o X.env := by rfl) (hline : (apos.endLine == pos.line) = true := by rfl) :
    DE X (.Call (.Attribute o "join" apos) [e] [] pos) (dM1 oJoin d d2) :=
  .mk' (pe_join ho.pe he.pe hs hbase hline) (snd_m1 sm_join ho.sn he.sn)
/-- x.split(sep): a new list -/
def dSplit (o e : DT) : DTA := fun g r f Q => o g r f fun x f1 => match x with
  | .str a => e g r f1 fun y f2 => match y with
    | .str b => (b.length == 0) = false ∧ a.length ≤ lim ∧ Q ((Txt.split a b).map D.str) f2
    | _ => False
  | _ => False
theorem dl_split {o e : Expr} {apos pos : Pos} {d d2 : DT} (ho : DE X o d) (he : DE X e d2) (hs : starEach [e] X.env = [(false, eval e X.env)] := by rfl) (hbase : attributeBase o "split" X.env (eval o X.env) = eval o X.env := by rfl) (hline : (apos.endLine == pos.line) = true := by rfl) :
    DL' X (.Call (.Attribute o "split" apos) [e] [] pos) (dSplit d d2) :=
  .mk' (pe_split ho.pe he.pe hs hbase hline) (fun g ro f st H Hs Q Q' A hq hd =>
    ho.sn g ro f st H Hs _ _ A (fun x f1 vx H1 Hs1 s1 k1 r1 q1 => by
      cases x <;> try exact q1.elim
      next a =>
      refine ⟨⟨a, r1⟩, he.sn g ro f1 st H1 Hs1 _ _ (A.step s1 k1) (fun y f2 vy H2 Hs2 s2 k2 r2 q2 => ?_) q1⟩
      cases y <;> try exact q2.elim
      next b =>
      cases r1
      cases r2
      refine ⟨a, b, rfl, rfl, q2.1, Nat.le_trans (Nat.add_le_add_right q2.2.1 2) (by decide), fun p hp => ?_⟩
      have al : Stp none H2 Hs2 (upd H2 p (.lst ((Txt.split a b).map V.str))) Hs2 := Stp.lay s2.sub hp
      refine hq _ f2 p _ _ _ ((s1.trans s2).trans al.gen) (k2.stp al) ?_ (same_none s2.sub hp) upd_same (RpA.map (f := D.str) (g := V.str) (fun _ => rfl) _) q2.2.2
      cases e : H p with
      | none => rfl
      | some o =>
        obtain ⟨o', e'⟩ := (s1.trans s2).there p o e
        rw [e'] at hp; cases hp) hd)
end
end DL
namespace DL
open PySem PySem.Spec PyProof.Rows L2
section
variable {X : Cx} {K : PySem.W.Frag}
/-! items and slices -/
def oIx : O2 := fun x y Q => match x, y with
  | .lst xs, .int i => ∃ d, atI xs i = some d ∧ Q d
  | .tup xs, .int i => ∃ d, atI xs i = some d ∧ Q d
  | .str z, .int i => z.length ≤ lim ∧ ∃ c, atI z.cps.toList i = some c ∧ Q (.str ⟨#[c]⟩)
  | _, _ => False
theorem atI_rp {H : Hp} {ds : List D} {vs : List V} {i : Int} {d : D} (h : RpA K H ds vs) (e : atI ds i = some d) : ∃ v, atI vs i = some v ∧ Rp K H d v := by
  unfold atI at e ⊢
  rw [h.length] at e
  cases e2 : ixN vs.length i with
  | none => rw [e2] at e; cases e
  | some j =>
    rw [e2] at e
    obtain ⟨v, h1, h2⟩ := h.get (i := j) (d := d) e
    exact ⟨v, h1, h2⟩
theorem sr_ix : SndR K (rIx K) oIx := SndR.pure fun H Hs x y vx vy Q Q' s rx ry hq hd => by
  unfold oIx at hd
  split at hd
  · obtain ⟨d, e, q⟩ := hd
    obtain ⟨a, vs, rfl, h1, h2⟩ := rx
    obtain ⟨v, h3, h4⟩ := atI_rp h2 e
    exact .inl ⟨a, vs, _, v, rfl, ry, SqL.of (s _ _ h1), h3, hq d v h4 q⟩
  · obtain ⟨d, e, q⟩ := hd
    obtain ⟨a, vs, rfl, h1, h2⟩ := rx
    obtain ⟨v, h3, h4⟩ := atI_rp h2 e
    exact .inr (.inl ⟨a, vs, _, v, rfl, ry, (tp_sq s h1), h3, hq d v h4 q⟩)
  · obtain ⟨hz, c, e, q⟩ := hd
    exact .inr (.inr ⟨_, _, c, rx, ry, lim_le hz, e, hq (.str _) _ rfl q⟩)
  · exact hd.elim
theorem de_ix {a b : Expr} {pos : Pos} {da db : DT} (ha : DE X a da) (hb : DE X b db) (hs : PlainIx b := by exact fun _ _ => rfl) : DE X (.Subscript a b pos) (dOp oIx da db) := .mk' (pe_ix ix_seq ha.pe hb.pe hs) (snd_op sr_ix ha.sn hb.sn)
abbrev DTO := Option Dk → Sg → Nat → (Option Int → Nat → Prop) → Prop
def SndO (K : PySem.W.Frag) (t : TO) (dl : DTO) : Prop := ∀ (g : Option Dk) (r : Sg) (f : Nat) (st : L2.St) (H Hs : Hp) (Q : Option Int → Hp → Prop) (Q' : Option Int → Nat → Prop), At K g r f st H Hs →
  (∀ b f' H' Hs', Stp g H Hs H' Hs' → DkOk g H' Hs' f' → Q' b f' → Q b H') → dl g r f Q' → t st H Q
def tOfO (K : PySem.W.Frag) (dl : DTO) : TO := fun st H Q => ∃ g r f Hs Q', At K g r f st H Hs ∧ (∀ b f' H' Hs', Stp g H Hs H' Hs' → DkOk g H' Hs' f' → Q' b f' → Q b H') ∧ dl g r f Q'
structure DO (X : Cx) (e : Option Expr) (dl : DTO) : Prop where
  po : PO X e (tOfO X.K dl)
theorem DO.sn {e : Option Expr} {dl : DTO} (_ : DO X e dl) : SndO X.K (tOfO X.K dl) dl := fun g r f st H Hs Q Q' a hq hd => ⟨g, r, f, Hs, Q', a, hq, hd⟩
theorem DO.mk' {e : Option Expr} {t : TO} {dl : DTO} (p : PO X e t) (s : SndO X.K t dl) : DO X e dl := ⟨⟨fun pins sh st H Q I ⟨g, r, f, Hs, Q', a, hq, hd⟩ => p.run pins sh st H Q I (s g r f st H Hs Q Q' a hq hd)⟩⟩
theorem do_none : DO X none (fun _ _ f Q => Q none f) := .mk' (po_none) (fun g ro f st H Hs Q Q' A hq hd => hq none f H Hs (Stp.refl A.sub) A.dk hd)
def dPart (d : DT) : DTO := fun g r f Q => d g r f fun x f1 => match x with
  | .int i => Q (some i) f1
  | _ => False
theorem do_some {e : Expr} {d : DT} (h : DE X e d) : DO X (some e) (dPart d) := .mk' (po_some h.pe) (fun g ro f st H Hs Q Q' A hq hd =>
  h.sn g ro f st H Hs _ _ A (fun x f1 v H1 Hs1 s1 k1 r1 q1 => by
    cases x <;> try exact q1.elim
    exact ⟨_, r1, hq _ f1 H1 Hs1 s1 k1 q1⟩) hd)
def cutD (xs : List D) (lo hi : Option Int) : List D := (xs.drop (HT.sIx xs.length 0 lo)).take (HT.sIx xs.length xs.length hi - HT.sIx xs.length 0 lo)
theorem cut_rp {H : Hp} {ds : List D} {vs : List V} {lo hi : Option Int} (h : RpA K H ds vs) : RpA K H (cutD ds lo hi) (cutV vs lo hi) := by
  unfold cutD cutV
  rw [h.length]
  exact (h.drop _).take _
abbrev O3 := D → Option Int → Option Int → (D → Prop) → Prop
def oSl : O3 := fun x lo hi Q => match x with
  | .lst xs => Q (.lst (cutD xs lo hi))
  | .tup xs => Q (.tup (cutD xs lo hi))
  | .str z => z.length ≤ lim ∧ Q (.str (cutS z lo hi))
  | _ => False
def rSl (K : PySem.W.Frag) : V → Option Int → Option Int → Hp → VK → Prop := fun x lo hi H Q => rSlL K x lo hi H Q ∨ (rSlA K x lo hi H Q ∨ rSlS x lo hi H Q)
theorem cutD_whole {xs : List D} {lo hi : Option Int} (h : HT.sIx xs.length 0 lo = 0 ∧ HT.sIx xs.length xs.length hi = xs.length) : cutD xs lo hi = xs := by
  unfold cutD
  rw [h.1, h.2]
  simp
theorem sl_all : SlR X (rSl X.K) := sl_list.or (sl_tupA.or sl_str)
def dSl (a : DT) (lo hi : DTO) : DT := fun g r f Q => a g r f fun x f1 => lo g r f1 fun i f2 => hi g r f2 fun j f3 => oSl x i j fun z => Q z f3
theorem sr_sl {H Hs : Hp} {x : D} {vx : V} {lo hi : Option Int} {Q : VK} {Q' : D → Prop} (s : Same Hs H) (rx : Rp K Hs x vx) (hq : ∀ z v H' Hs', Stp none H Hs H' Hs' → Rp K Hs' z v → Q' z → Q v H') (hd : oSl x lo hi Q') : rSl K vx lo hi H Q := by
  cases x <;> try exact hd.elim
  · exact .inr (.inr ⟨_, rx, lim_le hd.1, hq (.str _) _ _ _ (Stp.refl s) rfl hd.2⟩)
  · obtain ⟨a, vs, rfl, h1, h2⟩ := rx
    refine .inr (.inl ⟨a, vs, rfl, (tp_sq s h1), fun e => ?_, fun e p hp => ?_⟩)
    · rw [← h2.length] at e
      exact hq (.tup _) _ _ _ (Stp.refl s) ⟨a, vs, rfl, h1, by rw [cutD_whole e]; exact h2⟩ hd
    · exact hq (.tup _) _ _ _ (Stp.alloc s hp) (rp_tup (cut_rp h2) (same_none s hp)) hd
  · obtain ⟨a, vs, rfl, h1, h2⟩ := rx
    exact .inl ⟨a, vs, rfl, SqL.of (s _ _ h1), fun p hp => hq (.lst _) _ _ _ (Stp.alloc s hp) (rp_lst (cut_rp h2) (same_none s hp)) hd⟩
theorem de_sl {e : Expr} {lo hi : Option Expr} {p2 pos : Pos} {d : DT} {dl dh : DTO} (he : DE X e d) (hl : DO X lo dl) (hh : DO X hi dh) : DE X (.Subscript e (.Slice lo hi none p2) pos) (dSl d dl dh) :=
  .mk' (pe_slice sl_all he.pe hl.po hh.po) (fun g ro f st H Hs Q Q' A hq hd =>
    he.sn g ro f st H Hs _ _ A (fun x f1 v H1 Hs1 s1 k1 r1 q1 => hl.sn g ro f1 st H1 Hs1 _ _ (A.step s1 k1) (fun i f2 H2 Hs2 s2 k2 q2 =>
      hh.sn g ro f2 st H2 Hs2 _ _ ((A.step s1 k1).step s2 k2) (fun j f3 H3 Hs3 s3 k3 q3 =>
        sr_sl s3.sub ((r1.mono s2.ext).mono s3.ext) (fun z v H4 Hs4 s4 r4 q4 => hq z f3 v H4 Hs4 (((s1.trans s2).trans s3).trans s4.gen) (k3.stp s4) r4 q4) q3) q2) q1) hd)
theorem none_back {g : Option Dk} {H Hs H' Hs' : Hp} {p : Addr} (s : Stp g H Hs H' Hs') (h : H' p = none) : H p = none := by
  cases e : H p with
  | none => rfl
  | some o =>
    obtain ⟨o', e'⟩ := s.there p o e
    rw [e'] at h; cases h
/-! calls of defs -/
abbrev DSp := Option Dk → List D → Nat → QD → Prop
def spOf (K : PySem.W.Frag) (S : DSp) : Sp := fun vs H Q _ => ∃ (g : Option Dk) (Hs : Hp) (ds : List D) (f : Nat) (Q' : QD), Same Hs H ∧ DkOk g H Hs f ∧ RpA K Hs ds vs ∧ S g ds f Q' ∧
  ∀ d f' v H' Hs', Stp g H Hs H' Hs' → DkOk g H' Hs' f' → Rp K Hs' d v → Q' d f' → Q v H'
def dCall (S : DSp) (t : DTA) : DT := fun g r f Q => t g r f fun ds f1 => S g ds f1 Q
theorem snd_call {S : DSp} {E : XK} {t : TA} {d : DTA} (ht : SndA K t d) : Snd K (tCall (spOf K S) [] E t) (dCall S d) := fun g ro f st H Hs Q Q' A hq hd =>
  ht g ro f st H Hs _ _ A (fun ds f1 vs H1 Hs1 s1 k1 r1 q1 => by
    show spOf K S (vs ++ []) H1 Q E
    rw [List.append_nil]
    exact ⟨g, Hs1, ds, f1, Q', s1.sub, k1, r1, q1, fun d f' v H' Hs' s2 k2 r2 q2 => hq d f' v H' Hs' (s1.trans s2) k2 r2 q2⟩) hd
/-! what is walked -/
structure Walks (K : PySem.W.Frag) (J : It) (Hb : Hp) (ds : List D) : Prop where
  go : ∀ (i : Nat) (d : D) (H Hs : Hp), Same Hb Hs → Same Hs H → ds[i]? = some d → J.go i H ∧ ∀ x H', J.yld i H x H' → ∃ Hs', Stp none H Hs H' Hs' ∧ Rp K Hs' d x
  stop : ∀ H, Same Hb H → J.stop ds.length H
def SndI (K : PySem.W.Frag) (wi : TI) (dl : DTA) : Prop := ∀ (g : Option Dk) (r : Sg) (f : Nat) (st : L2.St) (H Hs : Hp) (R : It → Hp → Prop) (Q' : List D → Nat → Prop), At K g r f st H Hs →
  (∀ ds f' J H' Hs', Stp g H Hs H' Hs' → DkOk g H' Hs' f' → Walks K J Hs' ds → Q' ds f' → R J H') → dl g r f Q' → wi st H R
def tOfI (K : PySem.W.Frag) (dl : DTA) : TI := fun st H R => ∃ g r f Hs Q', At K g r f st H Hs ∧ (∀ ds f' J H' Hs', Stp g H Hs H' Hs' → DkOk g H' Hs' f' → Walks K J Hs' ds → Q' ds f' → R J H') ∧ dl g r f Q'
structure DI (X : Cx) (tg e : Expr) (dl : DTA) : Prop where
  pi : PI X tg e (tOfI X.K dl)
theorem DI.sn {tg e : Expr} {dl : DTA} (_ : DI X tg e dl) : SndI X.K (tOfI X.K dl) dl := fun g r f st H Hs Q Q' a hq hd => ⟨g, r, f, Hs, Q', a, hq, hd⟩
theorem DI.mk' {tg e : Expr} {wi : TI} {dl : DTA} (p : PI X tg e wi) (s : SndI X.K wi dl) : DI X tg e dl := ⟨⟨fun pins sh st H R I ⟨g, r, f, Hs, Q', a, hq, hd⟩ => p.run pins sh st H R I (s g r f st H Hs R Q' a hq hd)⟩⟩
/-- a list, a tuple, a text -/
def iSeq (K : PySem.W.Frag) (tl : TE) : TI := fun st H R => tl st H fun x H1 => (∃ a, x = .ref a ∧ (((∃ xs, SqL K H1 a xs) ∧ R (Itl K a) H1) ∨ ((∃ xs, SqT K H1 a xs) ∧ R (Itt K a) H1))) ∨ ∃ z, x = .str z ∧ R (Its z) H1
theorem pi_seq {tg l : Expr} {tl : TE} (hl : PE X l tl) : PI X tg l (iSeq X.K tl) := by
  refine ⟨fun pins s st H R I h => ?_⟩
  refine thn (hl.run pins s st H _ I h) fun v s1 ⟨x, H1, I1, r1, q1⟩ => ?_
  rcases q1 with ⟨a, e, (⟨⟨xs, hq⟩, q⟩ | ⟨⟨xs, hq⟩, q⟩)⟩ | ⟨z, e, q⟩
  · subst e
    cases r1
    obtain ⟨its, rv, p, hz⟩ := I1.list hq
    refine wpAny_pyIter_list p.isList ?_
    refine ⟨s1.heap.objs.size, [s1.heap.objs.size], _, _, H1, rfl, I1.kept (t' := s1.toks) fun b o e => Heap.get?_push_of_some _ e, turn_list a _, ⟨_, Heap.get?_push_size _ rfl, rfl, rfl⟩, fun b hb => ?_, q⟩
    have e : b = s1.heap.objs.size := by simpa using hb
    subst e
    exact I1.fpOk (Nat.le_refl _) (I1.hok.fresh (Nat.le_refl _))
  · subst e
    cases r1
    obtain ⟨its, rv, p, hz⟩ := I1.tuple hq
    refine wpAny_pyIter_tuple (show s1.heap.IsTuple a its.toArray from p) ?_
    refine ⟨s1.heap.objs.size, [s1.heap.objs.size], _, _, H1, rfl, I1.kept (t' := s1.toks) fun b o e => Heap.get?_push_of_some _ e, turn_tuple a _, ⟨_, Heap.get?_push_size _ rfl, rfl, rfl⟩, fun b hb => ?_, q⟩
    have e : b = s1.heap.objs.size := by simpa using hb
    subst e
    exact I1.fpOk (Nat.le_refl _) (I1.hok.fresh (Nat.le_refl _))
  · subst e
    obtain ⟨t, rfl⟩ := r1
    cases ha : z.cps.all (· < 128)
    · exact wpAny_pyIter_wide ha (pi_one (tk := s1.toks) I1 _ (turn_str _ z t "str_iterator" (.inr rfl)) ⟨_, Heap.get?_push_size _ rfl, rfl, rfl⟩ q)
    · exact wpAny_pyIter_ascii ha (pi_one (tk := s1.toks) I1 _ (turn_str _ z t "str_ascii_iterator" (.inl rfl)) ⟨_, Heap.get?_push_size _ rfl, rfl, rfl⟩ q)
def signs (z : Str) : List D := z.cps.toList.map fun c => .str ⟨#[c]⟩
def dSeq' (d : DT) : DTA := fun g r f Q => d g r f fun x f1 => match x with
  | .lst xs => Q xs f1
  | .tup xs => Q xs f1
  | .str z => Q (signs z) f1
  | _ => False
theorem walks_list {Hb : Hp} {a : Addr} {vs : List V} {ds : List D} (h1 : Hb a = some (.lst vs)) (h2 : RpA K Hb ds vs) : Walks K (Itl K a) Hb ds where
  go := fun i d H Hs s1 s2 e => by
    obtain ⟨v, hv, hr⟩ := h2.get e
    have q : SqL K H a vs := SqL.of (s2 _ _ (s1 _ _ h1))
    refine ⟨⟨vs, v, q, hv⟩, ?_⟩
    rintro x H' ⟨rfl, hx⟩
    have := hx vs q
    rw [hv] at this
    cases this
    exact ⟨Hs, Stp.refl s2, hr.mono s1⟩
  stop := fun H s => ⟨vs, SqL.of (s _ _ h1), by rw [h2.length]; exact Nat.le_refl _⟩
theorem walks_tup {Hb : Hp} {a : Addr} {vs : List V} {ds : List D} (h1 : TpAt K Hb a vs) (h2 : RpA K Hb ds vs) : Walks K (Itt K a) Hb ds where
  go := fun i d H Hs s1 s2 e => by
    obtain ⟨v, hv, hr⟩ := h2.get e
    have q : SqT K H a vs := sqT_mono s2 (tp_sq s1 h1)
    refine ⟨⟨vs, v, q, hv⟩, ?_⟩
    rintro x H' ⟨rfl, hx⟩
    have := hx vs q
    rw [hv] at this
    cases this
    exact ⟨Hs, Stp.refl s2, hr.mono s1⟩
  stop := fun H s => ⟨vs, tp_sq s h1, by rw [h2.length]; exact Nat.le_refl _⟩
theorem walks_str {Hb : Hp} {z : Str} : Walks K (Its z) Hb (signs z) where
  go := fun i d H Hs s1 s2 e => by
    unfold signs at e
    rw [List.getElem?_map] at e
    cases ec : z.cps.toList[i]? with
    | none => rw [ec] at e; cases e
    | some c =>
      rw [ec] at e
      cases e
      have hl : i < z.cps.size := by
        have := List.getElem?_eq_some_iff.mp ec
        simpa using this.1
      refine ⟨hl, ?_⟩
      rintro x H' ⟨rfl, c', hc, rfl⟩
      have : c' = c := by
        rw [Array.getElem?_toList] at ec
        rw [hc] at ec
        exact Option.some.inj ec
      subst this
      exact ⟨Hs, Stp.refl s2, rfl⟩
  stop := fun H s => by
    show z.cps.size ≤ (signs z).length
    unfold signs
    simp
theorem di_seq {tg l : Expr} {d : DT} (h : DE X l d) : DI X tg l (dSeq' d) := .mk' (pi_seq h.pe) (fun g ro f st H Hs R Q' A hq hd =>
  h.sn g ro f st H Hs _ _ A (fun x f1 v H1 Hs1 s1 k1 r1 q1 => by
    cases x <;> try exact q1.elim
    · exact .inr ⟨_, r1, hq _ f1 _ H1 Hs1 s1 k1 walks_str q1⟩
    · obtain ⟨a, vs, rfl, h1, h2⟩ := r1
      exact .inl ⟨a, rfl, .inr ⟨⟨vs, (tp_sq s1.sub h1)⟩, hq _ f1 _ H1 Hs1 s1 k1 (walks_tup h1 h2) q1⟩⟩
    · obtain ⟨a, vs, rfl, h1, h2⟩ := r1
      exact .inl ⟨a, rfl, .inl ⟨⟨vs, SqL.of (s1.sub _ _ h1)⟩, hq _ f1 _ H1 Hs1 s1 k1 (walks_list h1 h2) q1⟩⟩) hd)
def intsD (lo : Int) (n : Nat) : List D := (List.range n).map fun (i : Nat) => D.int (lo + (i : Int))
theorem walks_range {Hb : Hp} {lo : Int} {n : Nat} : Walks K (Itr lo n) Hb (intsD lo n) where
  go := fun i d H Hs s1 s2 e => by
    unfold intsD at e
    rw [List.getElem?_map] at e
    by_cases hl : i < n
    · rw [List.getElem?_range hl] at e
      cases e
      refine ⟨hl, ?_⟩
      rintro x H' ⟨rfl, rfl⟩
      exact ⟨Hs, Stp.refl s2, rfl⟩
    · rw [List.getElem?_eq_none (by simpa using hl)] at e
      cases e
  stop := fun H s => by
    show n ≤ (intsD lo n).length
    unfold intsD
    simp
def dRng1 (t : DTA) : DTA := fun g r f Q => t g r f fun ds f1 => match ds with
  | [.int j] => -(2 ^ 62) ≤ j ∧ j < 2 ^ 62 ∧ Q (intsD 0 j.toNat) f1
  | _ => False
theorem di_range1 {tg a : Expr} {d : DTA} {p pos : Pos} (hm : X.mg "range" = none) (ha : DA X [a] d) (hg : Gl X "range" := by rfl) (hs : starEach [a] X.env = [(false, eval a X.env)] := by rfl) : DI X tg (.Call (.Name "range" p) [a] [] pos) (dRng1 d) :=
  .mk' (pi_range1 hg hm ha.pa hs) (fun g ro f st H Hs R Q' A hq hd =>
    ha.sn g ro f st H Hs _ _ A (fun ds f1 vs H1 Hs1 s1 k1 r1 q1 => by
      split at q1
      · obtain ⟨v, rfl, h⟩ := rpA1 r1
        cases h
        exact ⟨_, rfl, q1.1, q1.2.1, hq _ f1 _ H1 Hs1 s1 k1 walks_range q1.2.2⟩
      · exact q1.elim) hd)
def dRng2 (t : DTA) : DTA := fun g r f Q => t g r f fun ds f1 => match ds with
  | [.int i, .int j] => (-(2 ^ 62) ≤ i ∧ i < 2 ^ 62 ∧ -(2 ^ 62) ≤ j ∧ j < 2 ^ 62) ∧ Q (intsD i (j - i).toNat) f1
  | _ => False
theorem di_range2 {tg a b : Expr} {d : DTA} {p pos : Pos} (hm : X.mg "range" = none) (ha : DA X [a, b] d) (hg : Gl X "range" := by rfl) (hs : starEach [a, b] X.env = [(false, eval a X.env), (false, eval b X.env)] := by rfl) (hs2 : starEach [b] X.env = [(false, eval b X.env)] := by rfl) : DI X tg (.Call (.Name "range" p) [a, b] [] pos) (dRng2 d) :=
  .mk' (pi_range2 hg hm ha.pa hs hs2) (fun g ro f st H Hs R Q' A hq hd =>
    ha.sn g ro f st H Hs _ _ A (fun ds f1 vs H1 Hs1 s1 k1 r1 q1 => by
      split at q1
      · obtain ⟨v, w, rfl, h, h'⟩ := rpA2 r1
        cases h
        cases h'
        exact ⟨_, _, rfl, q1.1, hq _ f1 _ H1 Hs1 s1 k1 walks_range q1.2⟩
      · exact q1.elim) hd)
end
end DL
namespace DL
open PySem PySem.Spec PyProof.Rows L2
/-! targets -/
abbrev TgF := D → Option (List (Nat × D))
def setsR (r : Sg) : List (Nat × D) → Sg
  | [] => r
  | (i, d) :: l => setsR (r.set i (.sh d)) l
def setsV (st : L2.St) : List Nat → List V → L2.St
  | i :: is, v :: vs => setsV (st.set i (some v)) is vs
  | _, _ => st
section
variable {X : Cx} {K : PySem.W.Frag}
theorem SlOk.sets {Hs : Hp} : ∀ {l : List (Nat × D)} {vs : List V} {r : Sg} {st : L2.St}, SlOk K Hs r st → RpA K Hs (l.map (·.2)) vs → SlOk K Hs (setsR r l) (setsV st (l.map (·.1)) vs)
  | [], _, _, _, h, _ => by
    have e : ∀ (st : L2.St) (vs : List V), setsV st [] vs = st := fun st vs => by cases vs <;> rfl
    show SlOk K Hs _ (setsV _ [] _)
    rw [e]
    exact h
  | (i, d) :: l, _, r, st, h, ⟨v, vr, h1, h2, h3⟩ => by
    subst h1
    show SlOk K Hs (setsR (r.set i (.sh d)) l) (setsV (st.set i (some v)) (l.map (·.1)) vr)
    exact SlOk.sets (SlOk.set h i h2) h3
theorem wipe_set {st : L2.St} {i : Nat} {x : Option V} : ∀ {vs : List Nat}, i ∈ vs → wipe (st.set i x) vs = wipe st vs
  | v :: vs, h => by
    unfold wipe
    by_cases e : i ∈ vs
    · rw [wipe_set e]
    · have hv : i = v := by
        rcases List.mem_cons.mp h with h | h
        · exact h
        · exact absurd h e
      subst hv
      have : ∀ (vs : List Nat), i ∉ vs → wipe (st.set i x) vs = (wipe st vs).set i x := by
        intro vs
        induction vs with
        | nil => intro _; rfl
        | cons w ws ih =>
          intro hn
          have h1 : i ≠ w := fun e => hn (by simp [e])
          have h2 : i ∉ ws := fun e => hn (by simp [e])
          unfold wipe
          rw [ih h2, List.set_comm _ _ h1]
      rw [this vs e, List.set_set]
theorem wipe_sets {ws : List Nat} : ∀ {is : List Nat} {vs : List V} {st : L2.St}, (∀ i ∈ is, i ∈ ws) → wipe (setsV st is vs) ws = wipe st ws
  | [], _, _, _ => by unfold setsV; rfl
  | _ :: _, [], _, _ => by unfold setsV; rfl
  | i :: is, v :: vs, st, h => by
    unfold setsV
    rw [wipe_sets (fun j hj => h j (by simp [hj])), wipe_set (h i (by simp))]
theorem wipe_idem {st : L2.St} : ∀ {vs : List Nat} (ws : List Nat), (∀ i ∈ vs, i ∈ ws) → L2.wipe (L2.wipe st vs) ws = L2.wipe st ws
  | [], _, _ => rfl
  | v :: vs, ws, h => by
    show L2.wipe ((L2.wipe st vs).set v none) ws = _
    rw [wipe_set (h v (by simp)), wipe_idem ws fun i hi => h i (by simp [hi])]
theorem wipe_wipe_sets {vs is : List Nat} {us : List V} {st : L2.St} (h : ∀ i ∈ is, i ∈ vs) : L2.wipe (setsV (L2.wipe st vs) is us) vs = L2.wipe st vs := by
  rw [wipe_sets h, wipe_idem vs fun _ h => h]
def SndG (K : PySem.W.Frag) (is : List Nat) (g : TG) (t : TgF) : Prop := (∀ d l, t d = some l → l.map (·.1) = is) ∧ ∀ (H Hs : Hp) (st : L2.St) (d : D) (v : V) (Q : L2.St → Hp → Prop) (l : List (Nat × D)), Same Hs H → Rp K Hs d v → t d = some l →
  (∀ vs, RpA K Hs (l.map (·.2)) vs → Q (setsV st is vs) H) → g v st H Q
def gOf (K : PySem.W.Frag) (is : List Nat) (t : TgF) : TG := fun v st H Q => ∃ Hs d l, Same Hs H ∧ Rp K Hs d v ∧ t d = some l ∧ ∀ vs, RpA K Hs (l.map (·.2)) vs → Q (setsV st is vs) H
structure DG (X : Cx) (tg : Expr) (is : List Nat) (t : TgF) : Prop where
  pg : PG X tg (gOf X.K is t)
  ix : ∀ d l, t d = some l → l.map (·.1) = is
theorem DG.sn {tg : Expr} {is : List Nat} {t : TgF} (h : DG X tg is t) : SndG X.K is (gOf X.K is t) t := ⟨h.ix, fun H Hs st d v Q l s hr e hq => ⟨Hs, d, l, s, hr, e, hq⟩⟩
theorem DG.mk' {tg : Expr} {is : List Nat} {g : TG} {t : TgF} (p : PG X tg g) (s : SndG X.K is g t) : DG X tg is t := ⟨⟨fun pins sh st H v u Q I r ⟨Hs, d, l, h1, h2, h3, h4⟩ => p.run pins sh st H v u Q I r (s.2 H Hs st d v Q l h1 h2 h3 h4)⟩, s.1⟩
def tgN (i : Nat) : TgF := fun d => some [(i, d)]
theorem sg_name (i : Nat) : SndG K [i] (gName i) (tgN i) := ⟨fun d l e => by cases e; rfl, fun H Hs st d v Q l s rx e h => by
  cases e
  exact h [v] (RpA.one rx)⟩
theorem dg_name {i : Nat} {x : Str} {pos : Pos} (hN : X.N.Nodup) (hi : X.N[i]? = some x := by rfl) (hx : Loc X.env.scope x := by first | exact Or.inl rfl | exact Or.inr rfl) (hf : X.fn x = true ∨ X.env.scope.names.lookup x = some .local := by first | exact .inl rfl | exact .inr rfl | assumption) : DG X (.Name x pos) [i] (tgN i) := .mk' (pg_name hN hi hx hf) (sg_name i)
def tgT : List TgF → List D → Option (List (Nat × D))
  | [], [] => some []
  | t :: ts, d :: ds => (t d).bind fun l => (tgT ts ds).map fun m => l ++ m
  | _, _ => none
def tgTup (ts : List TgF) : TgF := fun d => match d with
  | .tup ds => tgT ts ds
  | _ => none
def SndGs (K : PySem.W.Frag) (is : List Nat) (g : TGs) (ts : List TgF) : Prop := (∀ ds l, tgT ts ds = some l → l.map (·.1) = is) ∧ ∀ (H Hs : Hp) (st : L2.St) (ds : List D) (vs : List V) (Q : L2.St → Hp → Prop) (l : List (Nat × D)), Same Hs H → RpA K Hs ds vs → tgT ts ds = some l →
  (∀ ws, RpA K Hs (l.map (·.2)) ws → Q (setsV st is ws) H) → g vs st H Q
def gOfs (K : PySem.W.Frag) (is : List Nat) (ts : List TgF) : TGs := fun vs st H Q => ∃ Hs ds l, Same Hs H ∧ RpA K Hs ds vs ∧ tgT ts ds = some l ∧ ∀ ws, RpA K Hs (l.map (·.2)) ws → Q (setsV st is ws) H
structure DGs (X : Cx) (tgs : List Expr) (is : List Nat) (ts : List TgF) : Prop where
  pg : PGs X tgs (gOfs X.K is ts)
  ix : ∀ ds l, tgT ts ds = some l → l.map (·.1) = is
theorem DGs.sn {tgs : List Expr} {is : List Nat} {ts : List TgF} (h : DGs X tgs is ts) : SndGs X.K is (gOfs X.K is ts) ts := ⟨h.ix, fun H Hs st ds vs Q l s hr e hq => ⟨Hs, ds, l, s, hr, e, hq⟩⟩
theorem DGs.mk' {tgs : List Expr} {is : List Nat} {g : TGs} {ts : List TgF} (p : PGs X tgs g) (s : SndGs X.K is g ts) : DGs X tgs is ts := ⟨⟨fun pins sh st H vs us Q I r ⟨Hs, ds, l, h1, h2, h3, h4⟩ => p.run pins sh st H vs us Q I r (s.2 H Hs st ds vs Q l h1 h2 h3 h4)⟩, s.1⟩
theorem setsV_append : ∀ (is js : List Nat) (vs ws : List V) (st : L2.St), is.length = vs.length → setsV st (is ++ js) (vs ++ ws) = setsV (setsV st is vs) js ws
  | [], js, vs, ws, st, h => by cases vs with
    | nil => rfl
    | cons v r => simp at h
  | i :: is, js, [], ws, st, h => by simp at h
  | i :: is, js, v :: vs, ws, st, h => by
    show setsV (st.set i (some v)) (is ++ js) (vs ++ ws) = _
    rw [setsV_append is js vs ws _ (by simpa using h)]
    rfl
theorem RpA.split {H : Hp} : ∀ {a b : List D} {vs : List V}, RpA K H (a ++ b) vs → ∃ p q, vs = p ++ q ∧ RpA K H a p ∧ RpA K H b q
  | [], _, vs, h => ⟨[], vs, rfl, rfl, h⟩
  | d :: a, b, _, ⟨v, r, h1, h2, h3⟩ => by
    subst h1
    obtain ⟨p, q, rfl, h4, h5⟩ := RpA.split h3
    exact ⟨v :: p, q, rfl, ⟨v, p, rfl, h2, h4⟩, h5⟩
theorem sgs_nil : SndGs K [] gNil [] := by
  refine ⟨fun ds l e => ?_, fun H Hs st ds vs Q l s rx e h => ?_⟩
  · cases ds with
    | nil => cases e; rfl
    | cons _ _ => cases e
  · cases ds with
    | nil => cases e; cases rx; exact ⟨rfl, h [] rfl⟩
    | cons _ _ => cases e
theorem sgs_cons {is js : List Nat} {g : TG} {u : TGs} {t : TgF} {ts : List TgF} (h1 : SndG K is g t) (h2 : SndGs K js u ts) : SndGs K (is ++ js) (gCons g u) (t :: ts) := by
  refine ⟨fun ds l e => ?_, fun H Hs st ds vs Q l s rx e h => ?_⟩
  · cases ds with
    | nil => cases e
    | cons d ds =>
      simp only [tgT] at e
      cases e1 : t d with
      | none => rw [e1] at e; cases e
      | some l1 =>
        rw [e1] at e
        cases e2 : tgT ts ds with
        | none => rw [e2] at e; cases e
        | some l2 =>
          rw [e2] at e
          cases e
          rw [List.map_append, h1.1 d l1 e1, h2.1 ds l2 e2]
  · cases ds with
    | nil => cases e
    | cons d ds =>
      simp only [tgT] at e
      cases e1 : t d with
      | none => rw [e1] at e; cases e
      | some l1 =>
        rw [e1] at e
        cases e2 : tgT ts ds with
        | none => rw [e2] at e; cases e
        | some l2 =>
          rw [e2] at e
          cases e
          obtain ⟨v, r, rfl, q1, q2⟩ := rx
          refine ⟨v, r, rfl, h1.2 H Hs st d v _ l1 s q1 e1 fun ws1 hw1 => h2.2 H Hs _ ds r Q l2 s q2 e2 fun ws2 hw2 => ?_⟩
          have hh := h (ws1 ++ ws2) (by rw [List.map_append]; exact hw1.append hw2)
          rw [setsV_append _ _ _ _ _ (by rw [← h1.1 d l1 e1, ← hw1.length]; simp)] at hh
          exact hh
theorem sg_tup {is : List Nat} {g : TGs} {ts : List TgF} {n : Nat} (h : SndGs K is g ts) (hn : ∀ ds l, tgT ts ds = some l → ds.length = n) : SndG K is (gTup K n g) (tgTup ts) := ⟨fun d l e => by
    cases d <;> first | (cases e; done) | exact h.1 _ l e, fun H Hs st d v Q l s rx e q => by
  cases d <;> try (cases e; done)
  obtain ⟨a, vs, rfl, h1, h2⟩ := rx
  exact ⟨a, vs, rfl, (tp_sq s h1), by rw [← h2.length]; exact hn _ l e, h.2 H Hs st _ vs Q l s h2 e q⟩⟩
theorem tgT_len : ∀ {ts : List TgF} {ds : List D} {l : List (Nat × D)}, tgT ts ds = some l → ds.length = ts.length
  | [], [], _, _ => rfl
  | [], _ :: _, _, e => by cases e
  | _ :: _, [], _, e => by cases e
  | t :: ts, d :: ds, l, e => by
    simp only [tgT] at e
    cases e1 : t d with
    | none => rw [e1] at e; cases e
    | some l1 =>
      rw [e1] at e
      cases e2 : tgT ts ds with
      | none => rw [e2] at e; cases e
      | some l2 => simp [tgT_len e2]
theorem dgs_nil : DGs X [] [] [] := .mk' (pgs_nil) (sgs_nil)
theorem dgs_cons {e : Expr} {es : List Expr} {is js : List Nat} {t : TgF} {ts : List TgF} (h1 : DG X e is t) (h2 : DGs X es js ts)
    (hs : (assignEach (e :: es) X.env).map (·.2) = assign e X.env :: (assignEach es X.env).map (·.2) := by rfl) : DGs X (e :: es) (is ++ js) (t :: ts) := .mk' (pgs_cons h1.pg h2.pg hs) (sgs_cons h1.sn h2.sn)
theorem dg_tup {es : List Expr} {k n : Nat} {pos : Pos} {is : List Nat} {ts : List TgF} (hc : X.calm = true) (h : DGs X es is ts) (hn : (assignEach es X.env).length = n := by rfl) (hst : (assignEach es X.env).findIdx? (·.1) = none := by rfl) (hl : ts.length = n := by rfl) :
    DG X (.Tuple es k pos) is (tgTup ts) := .mk' (pg_tup hc h.pg hn hst) (sg_tup h.sn fun ds l e => by rw [tgT_len e, hl])
/-! comprehensions -/
def wipeR (r : Sg) : List Nat → Sg
  | [] => r
  | v :: vs => (wipeR r vs).set v .no
theorem SlOk.wipe {Hs : Hp} {r : Sg} {st : L2.St} (h : SlOk K Hs r st) : ∀ vs : List Nat, SlOk K Hs (wipeR r vs) (L2.wipe st vs)
  | [] => h
  | v :: vs => by
    have ih := SlOk.wipe h vs
    refine ⟨by unfold wipeR L2.wipe; simp [ih.len], fun i s d h1 h2 => ?_⟩
    unfold wipeR at h1
    unfold L2.wipe
    by_cases e : v = i
    · subst e
      by_cases hl : v < (wipeR r vs).length
      · rw [List.getElem?_set_self hl] at h1
        cases h1
        cases h2
      · rw [List.getElem?_eq_none (by simpa using hl)] at h1
        cases h1
    · rw [List.getElem?_set_ne e] at h1
      rw [List.getElem?_set_ne e]
      exact ih.get i s d h1 h2
def dLcGo (g : Option Dk) (t : TgF) (c : DTT) (e : DT) (r : Sg) : List D → List D → Nat → (List D → Nat → Prop) → Prop
  | [], acc, f, Q => Q acc f
  | d :: ds, acc, f, Q => match t d with
    | none => False
    | some l => c g (setsR r l) f fun b f1 => if b = true then e g (setsR r l) f1 fun y f2 => dLcGo g t c e r ds (acc ++ [y]) f2 Q else dLcGo g t c e r ds acc f1 Q
def dLc (i : DTA) (t : TgF) (c : DTT) (e : DT) (vs : List Nat) : DTA := fun g r f Q => i g r f fun ds f1 => ds.length ≤ lim ∧ dLcGo g t c e (wipeR r vs) ds [] f1 Q
structure DTs (X : Cx) (ifs : List Expr) (d : DTT) : Prop where
  pt : PTs X ifs (tOfT X.K d)
theorem DTs.sn {ifs : List Expr} {dl : DTT} (_ : DTs X ifs dl) : SndT X.K (tOfT X.K dl) dl := fun g r f st H Hs Q Q' a hq hd => ⟨g, r, f, Hs, Q', a, hq, hd⟩
theorem DTs.mk' {ifs : List Expr} {t : TT} {dl : DTT} (p : PTs X ifs t) (s : SndT X.K t dl) : DTs X ifs dl := ⟨⟨fun pins sh st H Q I ⟨g, r, f, Hs, Q', a, hq, hd⟩ => p.run pins sh st H Q I (s g r f st H Hs Q Q' a hq hd)⟩⟩
def dYes : DTT := fun _ _ f Q => Q true f
theorem dts_nil : DTs X [] dYes := .mk' (pts_nil) (fun g r f st H Hs Q Q' A hq hd => hq true f H Hs (Stp.refl A.sub) A.dk hd)
theorem dts_one {c : Expr} {d : DTT} (h : DP X c d) : DTs X [c] d := .mk' (pts_one h.pt) (h.sn)
theorem snd_lc {wi : TI} {gt : TG} {tt : TT} {te : TE} {vs is : List Nat} {i : DTA} {t : TgF} {c : DTT} {e : DT} (hi : SndI K wi i) (hg : SndG K is gt t) (hc : SndT K tt c) (he : Snd K te e) (hs : ∀ j ∈ is, j ∈ vs) : SndL K (tLc wi gt tt te vs) (dLc i t c e vs) := by
  intro g r f st H Hs Q Q' A hq hd
  refine hi g r f st H Hs _ _ A (fun ds f1 J H1 Hs1 s1 k1 wk q1 => ?_) hd
  intro D hD
  have hDs : Hs1 D = none := same_none s1.sub hD
  have hDk : ¬ Dk.has g D := k1.out hD
  refine ⟨fun i m H2 => m = ds.length - i ∧ i ≤ ds.length ∧ ∃ f2 Hs2 acc ws, Stp g H1 Hs1 H2 Hs2 ∧ DkOk g H2 Hs2 f2 ∧ Hs2 D = none ∧ H2 D = some (.lst ws) ∧ RpA K Hs2 acc ws ∧ acc.length ≤ i ∧ dLcGo g t c e (wipeR r vs) (ds.drop i) acc f2 Q', ⟨ds.length, rfl, Nat.zero_le _, f1, Hs1, [], [], ?_, ?_, hDs, upd_same, rfl, Nat.le_refl _, q1.2⟩, ?_⟩
  · exact (Stp.lay s1.sub hD : Stp none H1 Hs1 (upd H1 D (.lst [])) Hs1).gen
  · exact k1.mut hDk
  rintro i m H2 ⟨rfl, hil, f2, Hs2, acc, ws, s2, k2, n2, e2, r2, l2, q2⟩
  by_cases hlt : i < ds.length
  · have hgd : ds[i]? = some ds[i] := List.getElem?_eq_getElem hlt
    have hdr : ds.drop i = ds[i] :: ds.drop (i + 1) := List.drop_eq_getElem_cons hlt
    rw [hdr] at q2
    obtain ⟨hgo, hy⟩ := wk.go i _ H2 Hs2 s2.ext s2.sub hgd
    refine .inr ⟨hgo, fun H3 => i + 1 ≤ ds.length ∧ ∃ f2 Hs2 acc ws, Stp g H1 Hs1 H3 Hs2 ∧ DkOk g H3 Hs2 f2 ∧ Hs2 D = none ∧ H3 D = some (.lst ws) ∧ RpA K Hs2 acc ws ∧ acc.length ≤ i + 1 ∧ dLcGo g t c e (wipeR r vs) (ds.drop (i + 1)) acc f2 Q', fun H3 h3 => ⟨_, by omega, rfl, h3⟩, fun x H3 hx => ?_⟩
    obtain ⟨Hs3, s3, r3⟩ := hy x H3 hx
    simp only [dLcGo] at q2
    cases et : t ds[i] with
    | none => rw [et] at q2; exact q2.elim
    | some l =>
      rw [et] at q2
      replace q2 : c g (setsR (wipeR r vs) l) f2 fun b f1 => if b = true then e g (setsR (wipeR r vs) l) f1 fun y f2 => dLcGo g t c e (wipeR r vs) (ds.drop (i + 1)) (acc ++ [y]) f2 Q' else dLcGo g t c e (wipeR r vs) (ds.drop (i + 1)) acc f1 Q' := q2
      have sl0 : SlOk K Hs3 (wipeR r vs) (L2.wipe st vs) := (((A.sl.mono s1.ext).mono s2.ext).mono s3.ext).wipe vs
      refine hg.2 H3 Hs3 _ _ x _ l s3.sub r3 et fun us hus => ⟨wipe_wipe_sets hs, ?_⟩
      have A3 : At K g (setsR (wipeR r vs) l) f2 (setsV (L2.wipe st vs) is us) H3 Hs3 := ⟨s3.sub, k2.stp s3, by
        have := SlOk.sets sl0 hus
        rw [hg.1 _ l et] at this
        exact this⟩
      refine hc g _ f2 _ H3 Hs3 _ _ A3 (fun b f4 H4 Hs4 s4 k4 q4 => ?_) q2
      have t4 : Stp g H1 Hs1 H4 Hs4 := (s2.trans s3.gen).trans s4
      have keepD : ∀ {H5 Hs5 : Hp}, Stp g H1 Hs1 H5 Hs5 → True := fun _ => trivial
      have n3 : Hs3 D = none := s3.new D _ e2 n2
      have e3 : H3 D = some (.lst ws) := s3.keep D _ e2 id
      have n4 : Hs4 D = none := s4.new D _ e3 n3
      have e4 : H4 D = some (.lst ws) := s4.keep D _ e3 hDk
      cases b with
      | false =>
        rw [if_neg Bool.false_ne_true]
        exact ⟨hlt, f4, Hs4, acc, ws, t4, k4, n4, e4, (r2.mono s3.ext).mono s4.ext, by omega, q4⟩
      | true =>
        rw [if_pos rfl]
        refine he g _ f4 _ H4 Hs4 _ _ (A3.step s4 k4) (fun y f5 v H5 Hs5 s5 k5 r5 q5 => ?_) q4
        have n5 : Hs5 D = none := s5.new D _ e4 n4
        have e5 : H5 D = some (.lst ws) := s5.keep D _ e4 hDk
        have r5' : RpA K Hs5 acc ws := ((r2.mono s3.ext).mono s4.ext).mono s5.ext
        refine ⟨ws, e5, ?_, hlt, f5, Hs5, acc ++ [y], ws ++ [v], (t4.trans s5).mut hD n5, k5.mut hDk, n5, upd_same, r5'.append (RpA.one r5), by simp; omega, q5⟩
        rw [← r5'.length]
        have := q1.1
        exact lim_lt (by omega)
  · have ei : i = ds.length := by omega
    subst ei
    rw [List.drop_length] at q2
    refine .inl ⟨wk.stop H2 (fun a o h => s2.sub a o (s2.ext a o h)), ?_⟩
    exact hq acc f2 D ws H2 Hs2 (s1.trans s2) k2 (none_back s1 hD) n2 e2 r2 q2
theorem dl_lc {elt tg iter : Expr} {ifs : List Expr} {scope : Scope} {own : List (Str × Nat)} {pos : Pos} {is : List Nat} {i : DTA} {t : TgF} {c : DTT} {e : DT} (hc : X.calm = true) (hN : X.N.Nodup) (hi : DI X tg iter i) (ok : BlkOk X.N X.env.scope scope own)
    (hg : ∀ (s : Shared) (H : Hp) (C : Addr) (cl : List (Str × Addr)) (fp : List Addr), DG (X.blk s H scope (compEnvC scope cl C X.env) fp) tg is t) (ht : ∀ (s : Shared) (H : Hp) (C : Addr) (cl : List (Str × Addr)) (fp : List Addr), DTs (X.blk s H scope (compEnvC scope cl C X.env) fp) ifs c)
    (he : ∀ (s : Shared) (H : Hp) (C : Addr) (cl : List (Str × Addr)) (fp : List Addr), DE (X.blk s H scope (compEnvC scope cl C X.env) fp) elt e) (hs : ∀ x, foldedSetIterable iter X.env x = pure x := by intro _; rfl) (hsub : ∀ j ∈ is, j ∈ own.map (·.2) := by decide) :
    DL' X (.ListComp elt [⟨tg, iter, ifs, 0⟩] scope pos) (dLc i t c e (own.map (·.2))) := by
  refine DL'.mk' (pe_lc (g := gOf X.K is t) (tt := tOfT X.K c) (te := tOf X.K e) hc hN hi.pi ok (fun s H C cl fp => (hg s H C cl fp).pg) (fun s H C cl fp => (ht s H C cl fp).pt) (fun s H C cl fp => (he s H C cl fp).pe) hs) ?_
  intro g r f st H Hs Q Q' A
  exact snd_lc hi.sn (hg X.s_0 H 0 [] []).sn (ht X.s_0 H 0 [] []).sn (he X.s_0 H 0 [] []).sn hsub g r f st H Hs Q Q' A
end
end DL
namespace DL
open PySem PySem.Spec PyProof.Rows L2
/-! statements: slots that own a list or a dict -/
def Sl.own : Sl → Bool
  | .ow _ => true
  | .od _ _ => true
  | .oi _ _ _ _ => true
  | _ => false
def OwAt (K : PySem.W.Frag) (H0 H Hs : Hp) (a : Addr) : Sl → Prop
  | .ow xs => ∃ vs, H a = some (.lst vs) ∧ RpA K Hs xs vs
  | .od ks xs => ∃ vs, H a = some (.dK (ks.zip vs)) ∧ ks.length = vs.length ∧ RpA K Hs xs vs
  | .oi b c ns xs => b = a ∧ ∃ C dx vs, PySem.W.nsIn K mainGlobals c = some (some (.ref C)) ∧ H a = some (.ins C dx (ns.zip vs)) ∧ H dx = some (.own a) ∧ Hs dx = none ∧ H0 dx = none ∧ ns.length = vs.length ∧ RpA K Hs xs vs
  | _ => False
structure SIn (K : PySem.W.Frag) (g : Option Dk) (H0 Hs0 : Hp) (r : Sg) (f : Nat) (st : L2.St) (H Hs : Hp) : Prop where
  len : r.length = st.length
  dk0 : ∃ f0, DkOk g H0 Hs0 f0
  dk : DkOk g H Hs f
  stp : Stp g H0 Hs0 H Hs
  sh : ∀ (i : Nat) (d : D), r[i]? = some (.sh d) → ∃ v, st[i]? = some (some v) ∧ Rp K Hs d v
  ow : ∀ (i : Nat) (s : Sl), r[i]? = some s → s.own = true → ∃ a, st[i]? = some (some (.ref a)) ∧ Hs a = none ∧ H0 a = none ∧ OwAt K H0 H Hs a s
  inj : ∀ (i j : Nat) (s u : Sl) (a : Addr), r[i]? = some s → r[j]? = some u → s.own = true → u.own = true → st[i]? = some (some (.ref a)) → st[j]? = some (some (.ref a)) → i = j
def SOk (K : PySem.W.Frag) (g : Option Dk) (H0 Hs0 : Hp) (r : Sg) (f : Nat) (st : L2.St) (H : Hp) : Prop := ∃ Hs, SIn K g H0 Hs0 r f st H Hs
/-- an exception of a class of the text: its data, the class and the dict at which it stands -/
def ExR (K : PySem.W.Frag) (H Hs : Hp) : D → Value → Option Addr → Prop
  | .obj c ns xs, cls, d => ∃ C, PySem.W.nsIn K mainGlobals c = some (some (.ref C)) ∧ cls = .ref C ∧ ((ns = [] ∧ xs = [] ∧ d = Option.none) ∨ ∃ dd vs, d = some dd ∧ Hs dd = some (.xd (ns.zip vs)) ∧ ns.length = vs.length ∧ RpA K Hs xs vs)
  | _, _, _ => False
structure DEnds where
  nx : Sg → Nat → Prop
  rt : QD
  bk : Sg → Nat → Prop := fun _ _ => False
  ct : Sg → Nat → Prop := fun _ _ => False
  xc : D → Sg → Nat → Prop := fun _ _ _ => False
/-- what a body wants of exceptions, at the most -/
def wx (X : Cx) : WX := fun cls d st H => Takes X (fun cls' d' st' H' => cls' = cls ∧ d' = d ∧ st' = st ∧ H' = H)
theorem takes_wx (X : Cx) : Takes X (wx X) := fun u s' h => by
  obtain ⟨a, B, sI, pins, st, H, cls, d, e, I, nb, up, sky, na, os, ag, w⟩ := h
  exact w u s' ⟨a, B, sI, pins, st, H, cls, d, e, I, nb, up, sky, na, os, ag, rfl, rfl, rfl, rfl⟩
theorem wx_of {X : Cx} {W : WX} (h : Takes X W) {cls : Value} {d : Option Addr} {st : L2.St} {H : Hp} (w : W cls d st H) : wx X cls d st H := h.imp fun c d' s' H' e => by
  obtain ⟨rfl, rfl, rfl, rfl⟩ := e
  exact w
abbrev DTS := Option Dk → Sg → Nat → DEnds → Prop
structure EndsOk (K : PySem.W.Frag) (W : WX) (g : Option Dk) (H0 Hs0 : Hp) (E : DEnds) (D : Ends) : Prop where
  nx : ∀ r f st H, SOk K g H0 Hs0 r f st H → E.nx r f → D.nx st H
  rt : ∀ d f v H Hs, Stp g H0 Hs0 H Hs → DkOk g H Hs f → Rp K Hs d v → E.rt d f → D.rt v H
  bk : ∀ r f st H, SOk K g H0 Hs0 r f st H → E.bk r f → D.bk st H
  ct : ∀ r f st H, SOk K g H0 Hs0 r f st H → E.ct r f → D.ct st H
  xc : ∀ x r f st H cls d, (∃ Hs, SIn K g H0 Hs0 r f st H Hs ∧ ExR K H Hs x cls d) → E.xc x r f → W cls d st H
def SndS (K : PySem.W.Frag) (W : WX) (t : TS) (dl : DTS) : Prop := ∀ (g : Option Dk) (H0 Hs0 : Hp) (r : Sg) (f : Nat) (st : L2.St) (H : Hp) (D : Ends) (E : DEnds), SOk K g H0 Hs0 r f st H → EndsOk K W g H0 Hs0 E D → dl g r f E → t D st H
def sOf (K : PySem.W.Frag) (W : WX) (dl : DTS) : TS := fun D st H => ∃ g H0 Hs0 r f E, SOk K g H0 Hs0 r f st H ∧ EndsOk K W g H0 Hs0 E D ∧ dl g r f E
structure DS (X : Cx) (st : Stmt) (dl : DTS) : Prop where
  ps : PS X st (sOf X.K (wx X) dl)
structure DSs (X : Cx) (st : List Stmt) (dl : DTS) : Prop where
  ps : PSs X st (sOf X.K (wx X) dl)
theorem DS.sn {X : Cx} {st : Stmt} {dl : DTS} (_ : DS X st dl) : SndS X.K (wx X) (sOf X.K (wx X) dl) dl := fun g H0 Hs0 r f st H D E s e h => ⟨g, H0, Hs0, r, f, E, s, e, h⟩
theorem DSs.sn {X : Cx} {st : List Stmt} {dl : DTS} (_ : DSs X st dl) : SndS X.K (wx X) (sOf X.K (wx X) dl) dl := fun g H0 Hs0 r f st H D E s e h => ⟨g, H0, Hs0, r, f, E, s, e, h⟩
theorem DS.mk' {X : Cx} {st : Stmt} {t : TS} {dl : DTS} (p : PS X st t) (s : SndS X.K (wx X) t dl) : DS X st dl := ⟨⟨fun pins sh st H D I ⟨g, H0, Hs0, r, f, E, h1, h2, h3⟩ => p.run pins sh st H D I (s g H0 Hs0 r f st H D E h1 h2 h3)⟩⟩
theorem DSs.mk' {X : Cx} {st : List Stmt} {t : TS} {dl : DTS} (p : PSs X st t) (s : SndS X.K (wx X) t dl) : DSs X st dl := ⟨⟨fun pins sh st H D I ⟨g, H0, Hs0, r, f, E, h1, h2, h3⟩ => p.run pins sh st H D I (s g H0 Hs0 r f st H D E h1 h2 h3)⟩⟩
/-- the addresses that slots own -/
def Owned (r : Sg) (st : L2.St) (a : Addr) : Prop := ∃ (i : Nat) (s : Sl), r[i]? = some s ∧ s.own = true ∧ st[i]? = some (some (.ref a))
open Classical in
noncomputable def plus (r : Sg) (st : L2.St) (H Hs : Hp) : Hp := fun a => if Owned r st a then H a else Hs a
open Classical in
noncomputable def minus (r : Sg) (st : L2.St) (Hs : Hp) : Hp := fun a => if Owned r st a then none else Hs a
section
variable {X : Cx} {K : PySem.W.Frag} {g : Option Dk} {H0 Hs0 : Hp} {r : Sg} {f f' : Nat} {st : L2.St} {H Hs H' Hs' : Hp}
theorem plus_in {a : Addr} (h : Owned r st a) : plus r st H Hs a = H a := if_pos h
theorem plus_out {a : Addr} (h : ¬ Owned r st a) : plus r st H Hs a = Hs a := if_neg h
theorem minus_in {a : Addr} (h : Owned r st a) : minus r st Hs a = none := if_pos h
theorem minus_out {a : Addr} (h : ¬ Owned r st a) : minus r st Hs a = Hs a := if_neg h
theorem SIn.owned (s : SIn K g H0 Hs0 r f st H Hs) {a : Addr} (h : Owned r st a) : Hs a = none ∧ H0 a = none ∧ ∃ sl, sl.own = true ∧ OwAt K H0 H Hs a sl := by
  obtain ⟨i, sl, h1, h2, h3⟩ := h
  obtain ⟨b, e, h4, h5, h6⟩ := s.ow i sl h1 h2
  rw [h3] at e
  cases e
  exact ⟨h4, h5, sl, h2, h6⟩
theorem OwAt.ld {a : Addr} {sl : Sl} (h : OwAt K H0 H Hs a sl) : ∃ o, H a = some o ∧ isLD o = true := by
  cases sl with
  | ow xs => obtain ⟨vs, h1, _⟩ := h; exact ⟨_, h1, rfl⟩
  | od ks xs => obtain ⟨vs, h1, _⟩ := h; exact ⟨_, h1, rfl⟩
  | oi b c ns xs => obtain ⟨_, C, dx, vs, _, h1, _⟩ := h; exact ⟨_, h1, rfl⟩
  | _ => exact h.elim
theorem SIn.plusSub (s : SIn K g H0 Hs0 r f st H Hs) : Same (plus r st H Hs) H := fun a o h => by
  by_cases e : Owned r st a
  · rw [plus_in e] at h; exact h
  · rw [plus_out e] at h; exact s.stp.sub a o h
theorem SIn.plusExt (s : SIn K g H0 Hs0 r f st H Hs) : Same Hs (plus r st H Hs) := fun a o h => by
  by_cases e : Owned r st a
  · rw [(s.owned e).1] at h; cases h
  · rw [plus_out e]; exact h
theorem SIn.notDk (s : SIn K g H0 Hs0 r f st H Hs) {a : Addr} (h : Owned r st a) : ¬ Dk.has g a := by
  obtain ⟨f0, k⟩ := s.dk0
  exact k.out (s.owned h).2.1
theorem SIn.plusDk (s : SIn K g H0 Hs0 r f st H Hs) : DkOk g H (plus r st H Hs) f := by
  have k := s.dk
  cases g with
  | none => trivial
  | some d =>
    obtain ⟨k0, n1, n2, n3⟩ := k
    refine ⟨k0, ?_, ?_, ?_⟩
    · rw [plus_out fun e => s.notDk e (.inl rfl)]; exact n1
    · rw [plus_out fun e => s.notDk e (.inr (.inl rfl))]; exact n2
    · rw [plus_out fun e => s.notDk e (.inr (.inr rfl))]; exact n3
theorem SIn.notOwnedDx (s : SIn K g H0 Hs0 r f st H Hs) {dx a : Addr} (h : H dx = some (.own a)) : ¬ Owned r st dx := fun e => by
  obtain ⟨_, _, sl, _, q⟩ := s.owned e
  obtain ⟨o, ho, ld⟩ := q.ld
  rw [h] at ho
  cases ho
  cases ld
theorem SIn.dkDx (s : SIn K g H0 Hs0 r f st H Hs) {dx : Addr} (h : H0 dx = none) : ¬ Dk.has g dx := by
  obtain ⟨f0, k⟩ := s.dk0
  exact k.out h
/-- the state with all slots to be read -/
theorem SIn.at (s : SIn K g H0 Hs0 r f st H Hs) : At K g r f st H (plus r st H Hs) := ⟨s.plusSub, s.plusDk, s.len, fun i sl d h1 h2 => by
  cases sl with
  | no => cases h2
  | sh e =>
    cases h2
    obtain ⟨v, h3, h4⟩ := s.sh i _ h1
    exact ⟨v, h3, h4.mono s.plusExt⟩
  | ow xs =>
    cases h2
    obtain ⟨a, h3, h4, h5, vs, h6, h7⟩ := s.ow i _ h1 rfl
    exact ⟨.ref a, h3, a, vs, rfl, by rw [plus_in ⟨i, _, h1, rfl, h3⟩]; exact h6, h7.mono s.plusExt⟩
  | od ks xs =>
    cases h2
    obtain ⟨a, h3, h4, h5, vs, h6, h7, h8⟩ := s.ow i _ h1 rfl
    exact ⟨.ref a, h3, a, vs, rfl, by rw [plus_in ⟨i, _, h1, rfl, h3⟩]; exact h6, h7, h8.mono s.plusExt⟩
  | oi b c ns xs => cases h2⟩
/-- the slots that own are hidden -/
def hide (r : Sg) : Sg := r.map fun s => if s.own then .no else s
theorem hide_get {i : Nat} : (hide r)[i]? = (r[i]?).map fun s => if s.own then .no else s := by unfold hide; rw [List.getElem?_map]
theorem SIn.atHid (s : SIn K g H0 Hs0 r f st H Hs) : At K g (hide r) f st H Hs := ⟨s.stp.sub, s.dk, by unfold hide; rw [List.length_map]; exact s.len, fun i sl d h1 h2 => by
  rw [hide_get] at h1
  cases e : r[i]? with
  | none => rw [e] at h1; cases h1
  | some u =>
    rw [e] at h1
    cases u with
    | no => cases h1; cases h2
    | sh d' => cases h1; cases h2; exact s.sh i _ e
    | ow xs => cases h1; cases h2
    | od ks xs => cases h1; cases h2
    | oi b c ns xs => cases h1; cases h2⟩
/-- behind an expression: the shared part without what slots own -/
theorem SIn.after (s : SIn K g H0 Hs0 r f st H Hs) (p : Stp g H (plus r st H Hs) H' Hs') (k : DkOk g H' Hs' f') : SIn K g H0 Hs0 r f' st H' (minus r st Hs') := by
  have ext : Same Hs (minus r st Hs') := fun a o h => by
    have no : ¬ Owned r st a := fun e => by rw [(s.owned e).1] at h; cases h
    rw [minus_out no]
    exact p.ext a o (s.plusExt a o h)
  have keepO : ∀ a, Owned r st a → H' a = H a := fun a e => by
    obtain ⟨_, _, sl, _, q⟩ := s.owned e
    obtain ⟨o, ho, _⟩ := q.ld
    rw [ho]
    exact p.keep a o ho (s.notDk e)
  refine ⟨s.len, s.dk0, ?_, ⟨?_, s.stp.ext.trans ext, fun a o h n => p.keep a o (s.stp.keep a o h n) n, fun a o h => ?_, fun a o h n => ?_⟩, fun i d h => ?_, fun i sl h1 h2 => ?_, s.inj⟩
  · cases g with
    | none => trivial
    | some d =>
      obtain ⟨k0, n1, n2, n3⟩ := k
      refine ⟨k0, ?_, ?_, ?_⟩
      · rw [minus_out fun e => s.notDk e (.inl rfl)]; exact n1
      · rw [minus_out fun e => s.notDk e (.inr (.inl rfl))]; exact n2
      · rw [minus_out fun e => s.notDk e (.inr (.inr rfl))]; exact n3
  · intro a o h
    by_cases e : Owned r st a
    · rw [minus_in e] at h; cases h
    · rw [minus_out e] at h; exact p.sub a o h
  · obtain ⟨o', h'⟩ := s.stp.there a o h
    exact p.there a o' h'
  · by_cases e : Owned r st a
    · exact minus_in e
    · rw [minus_out e]
      obtain ⟨o', h'⟩ := s.stp.there a o h
      refine p.new a o' h' ?_
      rw [plus_out e]
      exact s.stp.new a o h n
  · obtain ⟨v, h3, h4⟩ := s.sh i d h
    exact ⟨v, h3, h4.mono ext⟩
  · obtain ⟨a, h3, h4, h5, h6⟩ := s.ow i sl h1 h2
    have e : Owned r st a := ⟨i, sl, h1, h2, h3⟩
    refine ⟨a, h3, minus_in e, h5, ?_⟩
    cases sl with
    | ow xs => obtain ⟨vs, q1, q2⟩ := h6; exact ⟨vs, by rw [keepO a e]; exact q1, q2.mono ext⟩
    | od ks xs => obtain ⟨vs, q1, q2, q3⟩ := h6; exact ⟨vs, by rw [keepO a e]; exact q1, q2, q3.mono ext⟩
    | oi b c ns xs =>
      obtain ⟨qa, C, dx, vs, q0, q1, q2, q3, q4, q5, q6⟩ := h6
      have nd := s.notOwnedDx q2
      exact ⟨qa, C, dx, vs, q0, by rw [keepO a e]; exact q1, p.keep dx _ q2 (s.dkDx q4), by rw [minus_out nd]; exact p.new dx _ q2 (by rw [plus_out nd]; exact q3), q4, q5, q6.mono ext⟩
    | _ => exact h6.elim
theorem SIn.afterHid (s : SIn K g H0 Hs0 r f st H Hs) (p : Stp g H Hs H' Hs') (k : DkOk g H' Hs' f') : SIn K g H0 Hs0 r f' st H' Hs' := by
  have keepO : ∀ a, Owned r st a → H' a = H a := fun a e => by
    obtain ⟨_, _, sl, _, q⟩ := s.owned e
    obtain ⟨o, ho, _⟩ := q.ld
    rw [ho]
    exact p.keep a o ho (s.notDk e)
  refine ⟨s.len, s.dk0, k, s.stp.trans p, fun i d h => ?_, fun i sl h1 h2 => ?_, s.inj⟩
  · obtain ⟨v, h3, h4⟩ := s.sh i d h
    exact ⟨v, h3, h4.mono p.ext⟩
  · obtain ⟨a, h3, h4, h5, h6⟩ := s.ow i sl h1 h2
    have e : Owned r st a := ⟨i, sl, h1, h2, h3⟩
    obtain ⟨o, ho, _⟩ := h6.ld
    refine ⟨a, h3, p.new a o ho h4, h5, ?_⟩
    cases sl with
    | ow xs => obtain ⟨vs, q1, q2⟩ := h6; exact ⟨vs, by rw [keepO a e]; exact q1, q2.mono p.ext⟩
    | od ks xs => obtain ⟨vs, q1, q2, q3⟩ := h6; exact ⟨vs, by rw [keepO a e]; exact q1, q2, q3.mono p.ext⟩
    | oi b c ns xs =>
      obtain ⟨qa, C, dx, vs, q0, q1, q2, q3, q4, q5, q6⟩ := h6
      exact ⟨qa, C, dx, vs, q0, by rw [keepO a e]; exact q1, p.keep dx _ q2 (s.dkDx q4), p.new dx _ q2 q3, q4, q5, q6.mono p.ext⟩
    | _ => exact h6.elim
theorem SIn.flatV (s : SIn K g H0 Hs0 r f st H Hs) (p : Stp g H (plus r st H Hs) H' Hs') {d : D} {v : V} (fl : d.flat = true) (h : Rp K Hs' d v) : Rp K (minus r st Hs') d v :=
  h.flat (fun a o e l => by
    by_cases q : Owned r st a
    · obtain ⟨_, _, sl, _, w⟩ := s.owned q
      obtain ⟨o', ho, ld⟩ := w.ld
      have := p.keep a o' ho (s.notDk q)
      rw [p.sub a o e] at this
      cases this
      rw [ld] at l
      cases l
    · rw [minus_out q]; exact e) d v fl
/-- a slot is stored -/
theorem SIn.set (s : SIn K g H0 Hs0 r f st H Hs) (i : Nat) {d : D} {v : V} (h : Rp K Hs d v) : SIn K g H0 Hs0 (r.set i (.sh d)) f (st.set i (some v)) H Hs := by
  have low : ∀ (j : Nat) (u : Sl), (r.set i (.sh d))[j]? = some u → (j = i ∧ u = .sh d ∧ i < r.length) ∨ (j ≠ i ∧ r[j]? = some u) := fun j u e => by
    by_cases q : i = j
    · subst q
      by_cases hl : i < r.length
      · rw [List.getElem?_set_self hl] at e
        cases e
        exact .inl ⟨rfl, rfl, hl⟩
      · rw [List.getElem?_eq_none (by simpa using hl)] at e
        cases e
    · rw [List.getElem?_set_ne q] at e
      exact .inr ⟨fun z => q z.symm, e⟩
  refine ⟨by simp [s.len], s.dk0, s.dk, s.stp, fun j e hj => ?_, fun j u hj ho => ?_, fun j l u w a hj hl ho ho' h1 h2 => ?_⟩
  · rcases low j _ hj with ⟨rfl, q, hl⟩ | ⟨hne, q⟩
    · cases q
      exact ⟨v, List.getElem?_set_self (s.len ▸ hl), h⟩
    · rw [List.getElem?_set_ne (fun z => hne z.symm)]
      exact s.sh j e q
  · rcases low j u hj with ⟨rfl, q, hl⟩ | ⟨hne, q⟩
    · subst q; cases ho
    · rw [List.getElem?_set_ne (fun z => hne z.symm)]
      exact s.ow j u q ho
  · rcases low j u hj with ⟨rfl, q, hl'⟩ | ⟨hne, q⟩
    · subst q; cases ho
    · rcases low l w hl with ⟨rfl, q', hl'⟩ | ⟨hne', q'⟩
      · subst q'; cases ho'
      · rw [List.getElem?_set_ne (fun z => hne z.symm)] at h1
        rw [List.getElem?_set_ne (fun z => hne' z.symm)] at h2
        exact s.inj j l u w a q q' ho ho' h1 h2
theorem SIn.sets : ∀ {l : List (Nat × D)} {vs : List V} {r : Sg} {st : L2.St}, SIn K g H0 Hs0 r f st H Hs → RpA K Hs (l.map (·.2)) vs → SIn K g H0 Hs0 (setsR r l) f (setsV st (l.map (·.1)) vs) H Hs
  | [], _, _, _, h, _ => by
    have e : ∀ (st : L2.St) (vs : List V), setsV st [] vs = st := fun st vs => by cases vs <;> rfl
    show SIn K g H0 Hs0 _ f (setsV _ [] _) H Hs
    rw [e]
    exact h
  | (i, d) :: l, _, r, st, h, ⟨v, vr, h1, h2, h3⟩ => by
    subst h1
    show SIn K g H0 Hs0 (setsR (r.set i (.sh d)) l) f (setsV (st.set i (some v)) (l.map (·.1)) vr) H Hs
    exact SIn.sets (SIn.set h i h2) h3
/-- an object that is new belongs to a slot -/
theorem SIn.setOwn (s : SIn K g H0 Hs0 r f st H Hs) (i : Nat) {a : Addr} {u : Sl} (hu : u.own = true) (n0 : H0 a = none) (n1 : Hs a = none) (no : ∀ j s, j ≠ i → r[j]? = some s → s.own = true → st[j]? ≠ some (some (.ref a))) (h : OwAt K H0 H Hs a u) :
    SIn K g H0 Hs0 (r.set i u) f (st.set i (some (.ref a))) H Hs := by
  have low : ∀ (j : Nat) (w : Sl), (r.set i u)[j]? = some w → (j = i ∧ w = u ∧ i < r.length) ∨ (j ≠ i ∧ r[j]? = some w) := fun j w e => by
    by_cases q : i = j
    · subst q
      by_cases hl : i < r.length
      · rw [List.getElem?_set_self hl] at e
        cases e
        exact .inl ⟨rfl, rfl, hl⟩
      · rw [List.getElem?_eq_none (by simpa using hl)] at e
        cases e
    · rw [List.getElem?_set_ne q] at e
      exact .inr ⟨fun z => q z.symm, e⟩
  have self : ∀ {l : Nat}, l < r.length → (st.set l (some (.ref a)))[l]? = some (some (V.ref a)) := fun hl => List.getElem?_set_self (s.len ▸ hl)
  refine ⟨by simp [s.len], s.dk0, s.dk, s.stp, fun j e hj => ?_, fun j w hj ho => ?_, fun j l w w' b hj hl ho ho' h1 h2 => ?_⟩
  · rcases low j _ hj with ⟨rfl, q, hl⟩ | ⟨hne, q⟩
    · rw [← q] at hu; cases hu
    · rw [List.getElem?_set_ne (fun z => hne z.symm)]
      exact s.sh j e q
  · rcases low j w hj with ⟨rfl, q, hl⟩ | ⟨hne, q⟩
    · subst q
      exact ⟨a, self hl, n1, n0, h⟩
    · rw [List.getElem?_set_ne (fun z => hne z.symm)]
      exact s.ow j w q ho
  · rcases low j w hj with ⟨rfl, q, hl1⟩ | ⟨hne, q⟩
    · rcases low l w' hl with ⟨rfl, q', hl2⟩ | ⟨hne', q'⟩
      · rfl
      · rw [self hl1] at h1
        cases h1
        rw [List.getElem?_set_ne (fun z => hne' z.symm)] at h2
        exact absurd h2 (no l w' hne' q' ho')
    · rw [List.getElem?_set_ne (fun z => hne z.symm)] at h1
      rcases low l w' hl with ⟨rfl, q', hl2⟩ | ⟨hne', q'⟩
      · rw [self hl2] at h2
        cases h2
        exact absurd h1 (no j w hne q ho)
      · rw [List.getElem?_set_ne (fun z => hne' z.symm)] at h2
        exact s.inj j l w w' b q q' ho ho' h1 h2
/-- an owned object is changed -/
theorem SIn.mutOwn (s : SIn K g H0 Hs0 r f st H Hs) {i : Nat} {a : Addr} {w u : Sl} {o : HO} (hw : r[i]? = some w) (how : w.own = true) (hst : st[i]? = some (some (.ref a))) (hu : u.own = true) (h : OwAt K H0 (upd H a o) Hs a u) :
    SIn K g H0 Hs0 (r.set i u) f st (upd H a o) Hs := by
  have ho : Owned r st a := ⟨i, w, hw, how, hst⟩
  obtain ⟨n1, n0, _⟩ := s.owned ho
  have hil : i < r.length := (List.getElem?_eq_some_iff.mp hw).1
  have low : ∀ (j : Nat) (w : Sl), (r.set i u)[j]? = some w → (j = i ∧ w = u) ∨ (j ≠ i ∧ r[j]? = some w) := fun j w e => by
    by_cases q : i = j
    · subst q
      rw [List.getElem?_set_self hil] at e
      cases e
      exact .inl ⟨rfl, rfl⟩
    · rw [List.getElem?_set_ne q] at e
      exact .inr ⟨fun z => q z.symm, e⟩
  refine ⟨by simp [s.len], s.dk0, s.dk.mut (s.notDk ho), s.stp.mut n0 n1, fun j e hj => ?_, fun j w' hj ho' => ?_, fun j l x y b hj hl ho1 ho2 h1 h2 => ?_⟩
  · rcases low j _ hj with ⟨rfl, q⟩ | ⟨hne, q⟩
    · rw [← q] at hu; cases hu
    · exact s.sh j e q
  · rcases low j w' hj with ⟨rfl, q⟩ | ⟨hne, q⟩
    · subst q
      exact ⟨a, hst, n1, n0, h⟩
    · obtain ⟨b, h3, h4, h5, h6⟩ := s.ow j w' q ho'
      have hab : b ≠ a := fun e => by
        subst e
        exact hne (s.inj j i w' w b q hw ho' how h3 hst)
      refine ⟨b, h3, h4, h5, ?_⟩
      cases w' with
      | ow xs => obtain ⟨vs, q1, q2⟩ := h6; exact ⟨vs, by rw [upd_ne hab]; exact q1, q2⟩
      | od ks xs => obtain ⟨vs, q1, q2⟩ := h6; exact ⟨vs, by rw [upd_ne hab]; exact q1, q2⟩
      | oi b c ns xs =>
        obtain ⟨qa, C, dx, vs, q0, q1, q2, q3⟩ := h6
        have hda : dx ≠ a := fun z => s.notOwnedDx q2 (z ▸ ho)
        exact ⟨qa, C, dx, vs, q0, by rw [upd_ne hab]; exact q1, by rw [upd_ne hda]; exact q2, q3⟩
      | _ => exact h6.elim
  · have hx : ∃ x', r[j]? = some x' ∧ x'.own = true := by
      rcases low j x hj with ⟨rfl, _⟩ | ⟨_, q⟩
      · exact ⟨w, hw, how⟩
      · exact ⟨x, q, ho1⟩
    have hy : ∃ x', r[l]? = some x' ∧ x'.own = true := by
      rcases low l y hl with ⟨rfl, _⟩ | ⟨_, q⟩
      · exact ⟨w, hw, how⟩
      · exact ⟨y, q, ho2⟩
    obtain ⟨x', hx1, hx2⟩ := hx
    obtain ⟨y', hy1, hy2⟩ := hy
    exact s.inj j l x' y' b hx1 hy1 hx2 hy2 h1 h2
/-- what a slot owns is shared from now on -/
def frz1 : Sl → Sl
  | .ow xs => .sh (.lst xs)
  | .od ks xs => .sh (.dct ks xs)
  | s => s
def frz (r : Sg) (l : List Nat) : Sg := l.foldl (fun r i => match r[i]? with | some s => r.set i (frz1 s) | none => r) r
theorem SIn.frz1 (s : SIn K g H0 Hs0 r f st H Hs) {i : Nat} {w : Sl} (hw : r[i]? = some w) : ∃ Hs', SIn K g H0 Hs0 (r.set i (frz1 w)) f st H Hs' := by
  have same : ∀ w', w = w' → (r.set i w') = r := fun w' e => by
    subst e
    obtain ⟨hl, e⟩ := List.getElem?_eq_some_iff.mp hw
    rw [← e, List.set_getElem_self]
  by_cases hoi : DL.frz1 w = w
  · rw [hoi, same w rfl]; exact ⟨Hs, s⟩
  by_cases how : w.own = true
  · obtain ⟨a, hst, n1, n0, hat⟩ := s.ow i w hw how
    obtain ⟨o, ho, ld⟩ := hat.ld
    have own : Owned r st a := ⟨i, w, hw, how, hst⟩
    have ext : Same Hs (upd Hs a o) := fun b u e => by rw [upd_ne (ne_of_none e n1)]; exact e
    have hil : i < r.length := (List.getElem?_eq_some_iff.mp hw).1
    have hd : ∃ d, DL.frz1 w = .sh d ∧ Rp K (upd Hs a o) d (.ref a) := by
      cases w with
      | ow xs =>
        obtain ⟨vs, q1, q2⟩ := hat
        rw [q1] at ho; cases ho
        exact ⟨_, rfl, a, vs, rfl, upd_same, q2.mono ext⟩
      | od ks xs =>
        obtain ⟨vs, q1, q2, q3⟩ := hat
        rw [q1] at ho; cases ho
        exact ⟨_, rfl, a, vs, rfl, upd_same, q2, q3.mono ext⟩
      | oi b c ns xs => exact absurd rfl hoi
      | _ => cases how
    obtain ⟨d, ed, hd⟩ := hd
    rw [ed]
    have low : ∀ (j : Nat) (w' : Sl), (r.set i (.sh d))[j]? = some w' → (j = i ∧ w' = .sh d) ∨ (j ≠ i ∧ r[j]? = some w') := fun j w' e => by
      by_cases q : i = j
      · subst q
        rw [List.getElem?_set_self hil] at e
        cases e
        exact .inl ⟨rfl, rfl⟩
      · rw [List.getElem?_set_ne q] at e
        exact .inr ⟨fun z => q z.symm, e⟩
    refine ⟨upd Hs a o, by simp [s.len], s.dk0, s.dk.share (s.notDk own), s.stp.share n0 ho n1, fun j e hj => ?_, fun j w' hj ho' => ?_, fun j l x y b hj hl ho1 ho2 h1 h2 => ?_⟩
    · rcases low j _ hj with ⟨rfl, q⟩ | ⟨hne, q⟩
      · cases q
        exact ⟨.ref a, hst, hd⟩
      · obtain ⟨v, h3, h4⟩ := s.sh j e q
        exact ⟨v, h3, h4.mono ext⟩
    · rcases low j w' hj with ⟨rfl, q⟩ | ⟨hne, q⟩
      · subst q; cases ho'
      · obtain ⟨b, h3, h4, h5, h6⟩ := s.ow j w' q ho'
        have hab : b ≠ a := fun e => by
          subst e
          exact hne (s.inj j i w' w b q hw ho' how h3 hst)
        refine ⟨b, h3, by rw [upd_ne hab]; exact h4, h5, ?_⟩
        cases w' with
        | ow xs => obtain ⟨vs, q1, q2⟩ := h6; exact ⟨vs, q1, q2.mono ext⟩
        | od ks xs => obtain ⟨vs, q1, q2, q3⟩ := h6; exact ⟨vs, q1, q2, q3.mono ext⟩
        | oi b c ns xs =>
          obtain ⟨qa, C, dx, vs, q0, q1, q2, q3, q4, q5, q6⟩ := h6
          have hda : dx ≠ a := fun z => s.notOwnedDx q2 (z ▸ own)
          exact ⟨qa, C, dx, vs, q0, q1, q2, by rw [upd_ne hda]; exact q3, q4, q5, q6.mono ext⟩
        | _ => exact h6.elim
    · rcases low j x hj with ⟨rfl, q⟩ | ⟨_, q⟩
      · subst q; cases ho1
      · rcases low l y hl with ⟨rfl, q'⟩ | ⟨_, q'⟩
        · subst q'; cases ho2
        · exact s.inj j l x y b q q' ho1 ho2 h1 h2
  · have : DL.frz1 w = w := by cases w <;> first | rfl | exact absurd rfl how
    rw [this, same w rfl]
    exact ⟨Hs, s⟩
theorem SIn.frz : ∀ (l : List Nat) {r : Sg} {Hs : Hp}, SIn K g H0 Hs0 r f st H Hs → ∃ Hs', SIn K g H0 Hs0 (frz r l) f st H Hs'
  | [], _, _, s => ⟨_, s⟩
  | i :: l, r, Hs, s => by
    show ∃ Hs', SIn K g H0 Hs0 (DL.frz (match r[i]? with | some s => r.set i (DL.frz1 s) | none => r) l) f st H Hs'
    cases e : r[i]? with
    | none => exact SIn.frz l s
    | some w =>
      obtain ⟨Hs1, s1⟩ := s.frz1 e
      exact SIn.frz l s1
end
end DL
namespace DL
open PySem PySem.Spec PyProof.Rows L2
section
variable {X : Cx} {K : PySem.W.Frag} {W : WX}
theorem SIn.stpPlus {g : Option Dk} {H0 Hs0 : Hp} {r : Sg} {f : Nat} {st : L2.St} {H Hs : Hp} (s : SIn K g H0 Hs0 r f st H Hs) : Stp g H0 Hs0 H (plus r st H Hs) where
  sub := s.plusSub
  ext := s.stp.ext.trans s.plusExt
  keep := s.stp.keep
  there := s.stp.there
  new := fun a o h n => by
    have no : ¬ Owned r st a := fun e => by rw [(s.owned e).2.1] at h; cases h
    rw [plus_out no]
    exact s.stp.new a o h n
theorem SIn.afterExt {g : Option Dk} {H0 Hs0 : Hp} {r : Sg} {f : Nat} {st : L2.St} {H Hs H' Hs' : Hp} (s : SIn K g H0 Hs0 r f st H Hs) (p : Stp g H (plus r st H Hs) H' Hs') : Same Hs (minus r st Hs') := fun a o h => by
  have no : ¬ Owned r st a := fun e => by rw [(s.owned e).1] at h; cases h
  rw [minus_out no]
  exact p.ext a o (s.plusExt a o h)
/-! another base: what is shared now is to stay -/
def mix (Hb H0 : Hp) : Hp := fun a => match Hb a with
  | some o => some o
  | none => H0 a
theorem mix_some {Hb H0 : Hp} {a : Addr} {o : HO} (h : Hb a = some o) : mix Hb H0 a = some o := by unfold mix; rw [h]
theorem mix_none {Hb H0 : Hp} {a : Addr} (h : Hb a = none) : mix Hb H0 a = H0 a := by unfold mix; rw [h]
theorem Stp.unmix {g : Option Dk} {H0 Hs0 H1 Hb H Hs : Hp} (p : Stp g H0 Hs0 H1 Hb) (q : Stp g (mix Hb H0) Hb H Hs) : Stp g H0 Hs0 H Hs where
  sub := q.sub
  ext := p.ext.trans q.ext
  keep := fun a o h n => by
    cases e : Hb a with
    | none => exact q.keep a o (by rw [mix_none e]; exact h) n
    | some o' =>
      have e1 := p.keep a o h n
      rw [p.sub a o' e] at e1
      cases e1
      exact q.keep a o (mix_some e) n
  there := fun a o h => by
    cases e : Hb a with
    | none => exact q.there a o (by rw [mix_none e]; exact h)
    | some o' => exact q.there a o' (mix_some e)
  new := fun a o h n => by
    have nb := p.new a o h n
    exact q.new a o (by rw [mix_none nb]; exact h) nb
theorem OwAt.reb {H0 H0' H Hs : Hp} {a : Addr} {sl : Sl} (e : ∀ dx, H0 dx = none → Hs dx = none → H0' dx = none) (h : OwAt K H0 H Hs a sl) : OwAt K H0' H Hs a sl := by
  cases sl with
  | oi b c ns xs =>
    obtain ⟨qa, C, dx, vs, q0, q1, q2, q3, q4, q5⟩ := h
    exact ⟨qa, C, dx, vs, q0, q1, q2, q3, e dx q4 q3, q5⟩
  | _ => exact h
theorem SIn.rebase {g : Option Dk} {H0 Hs0 Hb : Hp} {r : Sg} {f : Nat} {st : L2.St} {H Hs : Hp} (s : SIn K g H0 Hs0 r f st H Hs) (h1 : Same Hs0 Hb) (h2 : Same Hb Hs) : SIn K g (mix Hb H0) Hb r f st H Hs where
  len := s.len
  dk0 := by
    obtain ⟨f0, k⟩ := s.dk0
    refine ⟨f0, ?_⟩
    have kk := s.dk
    cases g with
    | none => trivial
    | some d =>
      obtain ⟨_, m1, m2, m3⟩ := kk
      have n1 := same_none h2 m1
      have n2 := same_none h2 m2
      have n3 := same_none h2 m3
      obtain ⟨⟨e1, e2, e3, n', xs, ys, k1, k2, k3, k4⟩, _⟩ := k
      exact ⟨⟨e1, e2, e3, n', xs, ys, by rw [mix_none n1]; exact k1, by rw [mix_none n2]; exact k2, by rw [mix_none n3]; exact k3, k4⟩, n1, n2, n3⟩
  dk := s.dk
  stp := by
    refine ⟨s.stp.sub, h2, fun a o h n => ?_, fun a o h => ?_, fun a o h n => ?_⟩
    · cases e : Hb a with
      | none => rw [mix_none e] at h; exact s.stp.keep a o h n
      | some o' => rw [mix_some e] at h; cases h; exact s.stp.sub a o (h2 a o e)
    · cases e : Hb a with
      | none => rw [mix_none e] at h; exact s.stp.there a o h
      | some o' => exact ⟨o', s.stp.sub a o' (h2 a o' e)⟩
    · rw [mix_none n] at h
      exact s.stp.new a o h (same_none h1 n)
  sh := s.sh
  ow := fun i sl hi ho => by
    obtain ⟨a, q1, q2, q3, q4⟩ := s.ow i sl hi ho
    exact ⟨a, q1, q2, by rw [mix_none (same_none h2 q2)]; exact q3, q4.reb fun dx z1 z2 => by rw [mix_none (same_none h2 z2)]; exact z1⟩
  inj := s.inj
theorem SIn.unbase {g : Option Dk} {H0 Hs0 H1 Hb : Hp} {r : Sg} {f : Nat} {st : L2.St} {H Hs : Hp} (p : Stp g H0 Hs0 H1 Hb) (k : ∃ f0, DkOk g H0 Hs0 f0) (s : SIn K g (mix Hb H0) Hb r f st H Hs) : SIn K g H0 Hs0 r f st H Hs where
  len := s.len
  dk0 := k
  dk := s.dk
  stp := p.unmix s.stp
  sh := s.sh
  ow := fun i sl hi ho => by
    obtain ⟨a, q1, q2, q3, q4⟩ := s.ow i sl hi ho
    exact ⟨a, q1, q2, by rw [mix_none (same_none s.stp.ext q2)] at q3; exact q3, q4.reb fun dx z1 z2 => by rw [mix_none (same_none s.stp.ext z2)] at z1; exact z1⟩
  inj := s.inj
/-- an expression's value, flat with all slots in sight (true), or any with the owning slots hidden (false) -/
def evM (m : Bool) (dl : DT) : DT := fun g r f Q => match m with
  | true => dl g r f fun d f' => d.flat = true ∧ Q d f'
  | false => dl g (hide r) f Q
theorem snd_evM {t : TE} {dl : DT} (h : Snd K t dl) {m : Bool} {g : Option Dk} {H0 Hs0 : Hp} {r : Sg} {f : Nat} {st : L2.St} {H Hs : Hp} {Q : VK} {Q' : QD} (s : SIn K g H0 Hs0 r f st H Hs)
    (hq : ∀ d f' v H' Hs', SIn K g H0 Hs0 r f' st H' Hs' → Same Hs Hs' → Rp K Hs' d v → Q' d f' → Q v H') (hd : evM m dl g r f Q') : t st H Q := by
  cases m with
  | true => exact h g r f st H _ Q _ s.at (fun d f' v H' Hs' p k hr q => hq d f' v H' _ (s.after p k) (s.afterExt p) (s.flatV p q.1 hr) q.2) hd
  | false => exact h g (hide r) f st H _ Q Q' s.atHid (fun d f' v H' Hs' p k hr q => hq d f' v H' _ (s.afterHid p k) p.ext hr q) hd
/-- a new list's items, flat with all slots in sight, or any with the owning slots hidden -/
def evL (m : Bool) (dl : DTA) : DTA := fun g r f Q => match m with
  | true => dl g r f fun ds f' => flatA ds = true ∧ Q ds f'
  | false => dl g (hide r) f Q
theorem Stp.none0 {g : Option Dk} {H Hs H' Hs' : Hp} (s : Stp g H Hs H' Hs') {p : Addr} (h : H' p = none) : H p = none := none_back s h
theorem snd_evL {t : TE} {dl : DTA} (h : SndL K t dl) {m : Bool} {g : Option Dk} {H0 Hs0 : Hp} {r : Sg} {f : Nat} {st : L2.St} {H Hs : Hp} {Q : VK} {Q' : List D → Nat → Prop} (s : SIn K g H0 Hs0 r f st H Hs)
    (hq : ∀ ds f' p vs H' Hs', SIn K g H0 Hs0 r f' st H' Hs' → H p = none → Hs' p = none → H0 p = none → H' p = some (.lst vs) → RpA K Hs' ds vs → (∀ (j : Nat) (sl : Sl), r[j]? = some sl → sl.own = true → st[j]? ≠ some (some (.ref p))) → Q' ds f' → Q (.ref p) H') (hd : evL m dl g r f Q') : t st H Q := by
  have notO : ∀ p, H p = none → ∀ (j : Nat) (sl : Sl), r[j]? = some sl → sl.own = true → st[j]? ≠ some (some (.ref p)) := fun p hp j sl h1 h2 h3 => by
    obtain ⟨a, e, _, _, q⟩ := s.ow j sl h1 h2
    rw [h3] at e
    cases e
    obtain ⟨o, ho, _⟩ := q.ld
    rw [hp] at ho; cases ho
  cases m with
  | true => exact h g r f st H _ Q _ s.at (fun ds f' p vs H' Hs' sp k n0 n1 e hr q => by
      have no : ¬ Owned r st p := fun ⟨j, sl, h1, h2, h3⟩ => notO p n0 j sl h1 h2 h3
      refine hq ds f' p vs H' _ (s.after sp k) n0 (by rw [minus_out no]; exact n1) (s.stp.none0 n0) e ?_ (notO p n0) q.2
      exact hr.flat (fun a o e l => by
        by_cases w : Owned r st a
        · obtain ⟨_, _, sl, _, u⟩ := s.owned w
          obtain ⟨o', ho, ld⟩ := u.ld
          have := sp.keep a o' ho (s.notDk w)
          rw [sp.sub a o e] at this
          cases this
          rw [ld] at l
          cases l
        · rw [minus_out w]; exact e) ds vs q.1) hd
  | false => exact h g (hide r) f st H _ Q Q' s.atHid (fun ds f' p vs H' Hs' sp k n0 n1 e hr q => hq ds f' p vs H' _ (s.afterHid sp k) n0 n1 (s.stp.none0 n0) e hr (notO p n0) q) hd
/-! blocks -/
def sNext : DTS := fun _ r f E => E.nx r f
def sSeq (a b : DTS) : DTS := fun g r f E => a g r f { E with nx := fun r' f' => b g r' f' E }
theorem dss_nil : DSs X [] sNext := .mk' (pss_nil) (fun g H0 Hs0 r f st H D E s e h => e.nx r f st H s h)
theorem dss_one {st : Stmt} {d : DTS} (h : DS X st d) : DSs X [st] d := .mk' (pss_one h.ps) (h.sn)
theorem dss_cons {st : Stmt} {rest : List Stmt} {d e : DTS} (h1 : DS X st d) (h2 : DSs X rest e) : DSs X (st :: rest) (sSeq d e) := .mk' (pss_cons h1.ps h2.ps) (fun g H0 Hs0 r f st H D E s e h =>
  h1.sn g H0 Hs0 r f st H _ { E with nx := fun r' f' => _ } s ⟨fun r' f' st' H' s' h' => h2.sn g H0 Hs0 r' f' st' H' D E s' e h', e.rt, e.bk, e.ct, e.xc⟩ h)
def sNever : DTS := fun _ _ _ _ => False
theorem ds_never {st : Stmt} : DS X st sNever := .mk' (ps_never) (fun _ _ _ _ _ _ _ _ _ _ _ h => h)
def sIf (c : DTT) (a b : DTS) : DTS := fun g r f E => c g r f fun k f1 => if k = true then a g r f1 E else b g r f1 E
theorem ds_if {c : Expr} {a b : List Stmt} {pos : Pos} {dc : DTT} {d e : DTS} (hc : DP X c dc) (ha : DSs X a d) (hb : DSs X b e) : DS X (.If c a b pos) (sIf dc d e) := .mk' (ps_if hc.pt ha.ps hb.ps) (fun g H0 Hs0 r f st H D E s e h => by
  obtain ⟨Hs, s⟩ := s
  refine hc.sn g r f st H _ _ _ s.at (fun k f1 H1 Hs1 s1 k1 q1 => ?_) h
  cases k with
  | true => exact ha.sn g H0 Hs0 r f1 st H1 D E ⟨_, s.after s1 k1⟩ e q1
  | false => exact hb.sn g H0 Hs0 r f1 st H1 D E ⟨_, s.after s1 k1⟩ e q1)
def sRet (dl : DT) : DTS := fun g r f E => dl g r f E.rt
theorem ds_ret {e : Expr} {pos : Pos} {d : DT} (h : DE X e d) : DS X (.Return (some e) pos) (sRet d) := .mk' (ps_ret h.pe) (fun g H0 Hs0 r f st H D E s e hd => by
  obtain ⟨Hs, s⟩ := s
  exact h.sn g r f st H _ _ _ s.at (fun d f1 v H1 Hs1 s1 k1 r1 q1 => e.rt d f1 v H1 Hs1 (s.stpPlus.trans s1) k1 r1 q1) hd)
/-! assignments -/
def sSet (m : Bool) (i : Nat) (dl : DT) : DTS := fun g r f E => evM m dl g r f fun d f' => E.nx (r.set i (.sh d)) f'
theorem snd_set {m : Bool} {i : Nat} {t : TE} {d : DT} (h : Snd K t d) : SndS K W (tAsg t (gName i)) (sSet m i d) := fun g H0 Hs0 r f st H D E s e hd => by
  obtain ⟨Hs, s⟩ := s
  exact snd_evM h s (fun d f' v H' Hs' s' _ hr q => e.nx _ f' _ H' ⟨_, s'.set i hr⟩ q) hd
theorem ds_set (m : Bool) {i : Nat} {x : Str} {e : Expr} {pos pos' : Pos} {d : DT} (hN : X.N.Nodup) (h : DE X e d) (hi : X.N[i]? = some x := by rfl) (hx : Loc X.env.scope x := by first | exact Or.inl rfl | exact Or.inr rfl)
    (hs : swapsWith e (some (.Name x pos')) pos.line X.env = pure false := by rfl) (hf : X.fn x = true ∨ X.env.scope.names.lookup x = some .local := by first | exact .inl rfl | exact .inr rfl | assumption) :
    DS X (.Assign [.Name x pos'] e pos) (sSet m i d) := .mk' (ps_set hN hi hx h.pe hs hf) (snd_set h.sn)
def sSetL (m : Bool) (i : Nat) (dl : DTA) : DTS := fun g r f E => evL m dl g r f fun ds f' => E.nx (r.set i (.ow ds)) f'
theorem snd_setL {m : Bool} {i : Nat} {t : TE} {d : DTA} (h : SndL K t d) : SndS K W (tAsg t (gName i)) (sSetL m i d) := fun g H0 Hs0 r f st H D E s e hd => by
  obtain ⟨Hs, s⟩ := s
  exact snd_evL h s (fun ds f' p vs H' Hs' s' n n1 n0 hp hr no q => e.nx _ f' _ H' ⟨_, s'.setOwn i (u := .ow ds) rfl n0 n1 (fun j sl _ h1 h2 => no j sl h1 h2) ⟨vs, hp, hr⟩⟩ q) hd
theorem ds_setL (m : Bool) {i : Nat} {x : Str} {e : Expr} {pos pos' : Pos} {d : DTA} (hN : X.N.Nodup) (h : DL' X e d) (hi : X.N[i]? = some x := by rfl) (hx : Loc X.env.scope x := by first | exact Or.inl rfl | exact Or.inr rfl)
    (hs : swapsWith e (some (.Name x pos')) pos.line X.env = pure false := by rfl) (hf : X.fn x = true ∨ X.env.scope.names.lookup x = some .local := by first | exact .inl rfl | exact .inr rfl | assumption) :
    DS X (.Assign [.Name x pos'] e pos) (sSetL m i d) := .mk' (ps_set hN hi hx h.pe hs hf) (snd_setL h.sn)
/-- y = [..] on one line -/
theorem ds_setLc {i : Nat} {y : Str} {py : Pos} {elt tg iter : Expr} {ifs : List Expr} {scope : Scope} {own : List (Str × Nat)} {pos spos : Pos} {is : List Nat} {di : DTA} {t : TgF} {c : DTT} {e : DT} {dl : DTS} (hN : X.N.Nodup) (hi : DI X tg iter di) (ok : BlkOk X.N X.env.scope scope own)
    (hg : ∀ (s : Shared) (H : Hp) (C : Addr) (cl : List (Str × Addr)) (fp : List Addr), DG (X.blk s H scope (compEnvC scope cl C X.env) fp) tg is t) (ht : ∀ (s : Shared) (H : Hp) (C : Addr) (cl : List (Str × Addr)) (fp : List Addr), DTs (X.blk s H scope (compEnvC scope cl C X.env) fp) ifs c)
    (he : ∀ (s : Shared) (H : Hp) (C : Addr) (cl : List (Str × Addr)) (fp : List Addr), DE (X.blk s H scope (compEnvC scope cl C X.env) fp) elt e)
    (hsn : ∀ (K : PySem.W.Frag) (W : WX) (t' : TE), SndL K t' (dLc di t c e (own.map (·.2))) → SndS K W (tAsg t' (gName i)) dl)
    (hy : X.N[i]? = some y := by rfl) (hyl : X.env.scope.names.lookup y = some .local := by rfl) (hc : X.calm = true := by rfl)
    (hsw : swapsWith (.ListComp elt [⟨tg, iter, ifs, 0⟩] scope pos) (some (.Name y py)) spos.line X.env = pure true := by exact sw_true rfl rfl rfl (by decide +kernel)) (hs : ∀ x, foldedSetIterable iter X.env x = pure x := by intro _; rfl) (hsub : ∀ j ∈ is, j ∈ own.map (·.2) := by decide) :
    DS X (.Assign [.Name y py] (.ListComp elt [⟨tg, iter, ifs, 0⟩] scope pos) spos) dl :=
  DS.mk' (ps_setLc (g := gOf X.K is t) (tt := tOfT X.K c) (te := tOf X.K e) hc hN hy hyl hsw hi.pi ok (fun s H C cl fp => (hg s H C cl fp).pg) (fun s H C cl fp => (ht s H C cl fp).pt) (fun s H C cl fp => (he s H C cl fp).pe) hs)
    (hsn X.K _ _ (snd_lc hi.sn (hg X.s_0 (fun _ => none) 0 [] []).sn (ht X.s_0 (fun _ => none) 0 [] []).sn (he X.s_0 (fun _ => none) 0 [] []).sn hsub))
/-- target = value: a tuple taken apart -/
def sAsg (m : Bool) (dl : DT) (t : TgF) : DTS := fun g r f E => evM m dl g r f fun d f' => match t d with
  | some l => E.nx (setsR r l) f'
  | none => False
theorem ds_asg (m : Bool) {tg e : Expr} {pos : Pos} {is : List Nat} {d : DT} {t : TgF} (h : DE X e d) (hg : DG X tg is t) (hs : swapsWithSole [tg] e pos.line X.env = pure false := by rfl) (hw : swappedStores [tg] e X.env = pure none := by rfl) (h1 : (assignEach [tg] X.env).map (·.2) = [assign tg X.env] := by rfl) : DS X (.Assign [tg] e pos) (sAsg m d t) :=
  .mk' (ps_asg h.pe hg.pg hs hw h1) (fun g H0 Hs0 r f st H D E s e hd => by
    obtain ⟨Hs, s⟩ := s
    refine snd_evM h.sn s (fun d f' v H' Hs' s' _ hr q => ?_) hd
    cases et : t d with
    | none => rw [et] at q; exact q.elim
    | some l =>
      rw [et] at q
      refine hg.sn.2 H' Hs' st d v _ l s'.stp.sub hr et fun vs hv => ?_
      have s2 := s'.sets hv
      rw [hg.sn.1 d l et] at s2
      exact e.nx _ f' _ H' ⟨_, s2⟩ q)
/-- a, b = e1, e2 -/
def sPar (m : Bool) (i j : Nat) (a b : DT) : DTS := fun g r f E => evM m a g r f fun x f1 => evM m b g r f1 fun y f2 => E.nx ((r.set i (.sh x)).set j (.sh y)) f2
theorem ds_par (m : Bool) {i j : Nat} {x y : Str} {a b : Expr} {da db : DT} {px py pt : Pos} {kt k2 : Nat} {pt2 pos : Pos} (hN : X.N.Nodup) (ha : DE X a da) (hb : DE X b db) (hc : X.calm = true := by rfl) (hi : X.N[i]? = some x := by rfl) (hj : X.N[j]? = some y := by rfl) (hij : i ≠ j := by decide)
    (hx : X.env.scope.names.lookup x = some .local := by rfl) (hy : X.env.scope.names.lookup y = some .local := by rfl) (hst : starEach [a, b] X.env = (false, eval a X.env) :: starEach [b] X.env := by rfl) (hst2 : starEach [b] X.env = [(false, eval b X.env)] := by rfl)
    (hw : swappedStores [.Tuple [.Name x px, .Name y py] kt pt] (.Tuple [a, b] k2 pt2) X.env = pure (some [x, y]) := by rfl)
    (hs : swapsWithSole [.Tuple [.Name x px, .Name y py] kt pt] (.Tuple [a, b] k2 pt2) pos.line X.env = pure false := by rfl) :
    DS X (.Assign [.Tuple [.Name x px, .Name y py] kt pt] (.Tuple [a, b] k2 pt2) pos) (sPar m i j da db) := DS.mk' (ps_par hc hN hi hj hij hx hy (pa_cons ha.pe (pa_cons hb.pe pa_nil hst2) hst) hw hs) (fun g H0 Hs0 r f st H D E s e hd => by
  obtain ⟨Hs, s⟩ := s
  refine snd_evM ha.sn s (fun x f1 v H1 Hs1 s1 _ r1 q1 => ?_) hd
  refine snd_evM hb.sn s1 (fun y f2 w H2 Hs2 s2 e2 r2 q2 => ?_) q1
  exact ⟨v, w, rfl, e.nx _ f2 _ H2 ⟨_, (s2.set i (r1.mono e2)).set j r2⟩ q2⟩)
/-! loops -/
def dForGo (g : Option Dk) (t : TgF) (body : DTS) (E : DEnds) : List D → Sg → Nat → Prop
  | [], r, f => E.nx r f
  | d :: ds, r, f => match t d with
    | none => False
    | some l => body g (setsR r l) f { E with nx := fun r' f' => dForGo g t body E ds r' f', ct := fun r' f' => dForGo g t body E ds r' f', bk := E.nx }
def sFor (fz : List Nat) (i : DTA) (t : TgF) (body : DTS) : DTS := fun g r f E => i g (hide (frz r fz)) f fun ds f1 => dForGo g t body E ds (frz r fz) f1
theorem snd_for {fz : List Nat} {wi : TI} {gt : TG} {tb : TS} {is : List Nat} {i : DTA} {t : TgF} {body : DTS} (hi : SndI K wi i) (hg : SndG K is gt t) (hb : SndS K W tb body) : SndS K W (tFor wi gt tb) (sFor fz i t body) := fun g H0 Hs0 r f st H D E s e hd => by
  obtain ⟨Hs, s⟩ := s
  obtain ⟨Hs, s⟩ := s.frz fz
  refine hi g _ f st H Hs _ _ s.atHid (fun ds f1 J H1 Hs1 s1 k1 wk q1 => ?_) hd
  have sb := s.afterHid s1 k1
  refine ⟨fun i m st2 H2 => m = ds.length - i ∧ i ≤ ds.length ∧ ∃ r2 f2 Hs2, SIn K g H0 Hs0 r2 f2 st2 H2 Hs2 ∧ Same Hs1 Hs2 ∧ dForGo g t body E (ds.drop i) r2 f2, ⟨ds.length, rfl, Nat.zero_le _, _, f1, Hs1, sb, Same.refl _, q1⟩, ?_⟩
  rintro i m st2 H2 ⟨rfl, hil, r2, f2, Hs2, s2, e2, q2⟩
  by_cases hlt : i < ds.length
  · have hgd : ds[i]? = some ds[i] := List.getElem?_eq_getElem hlt
    have hdr : ds.drop i = ds[i] :: ds.drop (i + 1) := List.drop_eq_getElem_cons hlt
    rw [hdr] at q2
    obtain ⟨hgo, hy⟩ := wk.go i _ H2 Hs2 e2 s2.stp.sub hgd
    refine .inr ⟨hgo, fun st3 H3 => i + 1 ≤ ds.length ∧ ∃ r2 f2 Hs2, SIn K g H0 Hs0 r2 f2 st3 H3 Hs2 ∧ Same Hs1 Hs2 ∧ dForGo g t body E (ds.drop (i + 1)) r2 f2, fun st3 H3 h3 => ⟨_, by omega, rfl, h3⟩, fun x H3 hx => ?_⟩
    obtain ⟨Hs3, s3, r3⟩ := hy x H3 hx
    simp only [dForGo] at q2
    cases et : t ds[i] with
    | none => rw [et] at q2; exact q2.elim
    | some l =>
      rw [et] at q2
      replace q2 : body g (setsR r2 l) f2 { E with nx := fun r' f' => dForGo g t body E (ds.drop (i + 1)) r' f', ct := fun r' f' => dForGo g t body E (ds.drop (i + 1)) r' f', bk := E.nx } := q2
      have s2' := s2.afterHid s3.gen (s2.dk.stp s3)
      refine hg.2 H3 Hs3 _ _ x _ l s3.sub r3 et fun us hus => ?_
      have s4 := s2'.sets hus
      rw [hg.1 _ l et] at s4
      have s5 := s4.rebase sb.stp.ext (e2.trans s3.ext)
      refine hb g _ _ _ f2 _ H3 _ { E with nx := fun r' f' => dForGo g t body E (ds.drop (i + 1)) r' f', ct := fun r' f' => dForGo g t body E (ds.drop (i + 1)) r' f', bk := E.nx } ⟨_, s5⟩ ⟨fun r' f' st' H' q h => ?_, fun d f' v H' Hs' p k hr h => e.rt d f' v H' Hs' (sb.stp.unmix p) k hr h, fun r' f' st' H' q h => ?_, fun r' f' st' H' q h => ?_, fun x' r' f' st' H' cls d' q h => ?_⟩ q2
      · obtain ⟨Hs6, q⟩ := q
        exact ⟨hlt, r', f', Hs6, q.unbase sb.stp s.dk0, q.stp.ext, h⟩
      · obtain ⟨Hs6, q⟩ := q
        exact e.nx r' f' st' H' ⟨_, q.unbase sb.stp s.dk0⟩ h
      · obtain ⟨Hs6, q⟩ := q
        exact ⟨hlt, r', f', Hs6, q.unbase sb.stp s.dk0, q.stp.ext, h⟩
      · obtain ⟨Hs6, q, q'⟩ := q
        exact e.xc x' r' f' st' H' cls d' ⟨_, q.unbase sb.stp s.dk0, q'⟩ h
  · have ei : i = ds.length := by omega
    subst ei
    rw [List.drop_length] at q2
    exact .inl ⟨wk.stop H2 (fun a o h => s2.stp.sub a o (e2 a o h)), e.nx r2 f2 st2 H2 ⟨_, s2⟩ q2⟩
theorem ds_for (fz : List Nat) {tg iter : Expr} {body : List Stmt} {pos : Pos} {is : List Nat} {i : DTA} {t : TgF} {db : DTS} (hp : PassesOwn (model X.prog X.w) X.A X.env X.xe) (hi : DI X tg iter i) (hg : DG X tg is t) (hb : DSs X body db) (hc : X.calm = true := by rfl)
    (hs : ∀ x, foldedSetIterable iter X.env x = pure x := by intro _; rfl) : DS X (.For tg iter body [] pos) (sFor fz i t db) := .mk' (ps_for hp hc hi.pi hg.pg hb.ps hs) (snd_for hi.sn hg.sn hb.sn)
/-! stores into what a slot owns -/
def sApp (m : Bool) (i : Nat) (dl : DT) : DTS := fun g r f E => ∃ xs, r[i]? = some (.ow xs) ∧ evM m dl g r f fun d f' => xs.length ≤ lim ∧ E.nx (r.set i (.ow (xs ++ [d]))) f'
theorem snd_app {m : Bool} {i : Nat} {t : TE} {d : DT} (h : Snd K t d) : SndS K W (tDrop (tBM K "list" rAppend (tVar i) (tCons t tNil))) (sApp m i d) := fun g H0 Hs0 r f st H D E s e hd => by
  obtain ⟨Hs, s⟩ := s
  obtain ⟨xs, hx, hd⟩ := hd
  obtain ⟨a, ha, n1, n0, vs, hv, hr⟩ := s.ow i _ hx rfl
  refine ⟨.ref a, ha, .inl ⟨rfl, vs, SqL.of hv⟩, ?_⟩
  refine snd_evM h s (fun d f' v H' Hs' s' _ hr' q => ?_) hd
  obtain ⟨hl, q⟩ := q
  obtain ⟨a', ha', n1', n0', vs', hv', hr2⟩ := s'.ow i _ hx rfl
  rw [ha] at ha'
  cases ha'
  exact ⟨a, vs', v, rfl, rfl, hv', hr2.lt hl, e.nx _ f' st _ ⟨_, s'.mutOwn (u := .ow (xs ++ [d])) hx rfl ha rfl ⟨vs' ++ [v], upd_same, hr2.append (RpA.one hr')⟩⟩ q⟩
theorem ds_app (m : Bool) {i : Nat} {x : Str} {e : Expr} {px apos cpos pos : Pos} {d : DT} (h : DE X e d) (hN : X.N[i]? = some x := by rfl) (hv : Vis X.env.scope x := by first | exact Or.inl rfl | exact Or.inr (Or.inl rfl) | exact Or.inr (Or.inr rfl)) (hd : (x == ("__debug__" : Str)) = false := by decide)
    (hcd : (x == ("__classdict__" : Str)) = false := by decide) (hP : ∀ t : TE, PE X (.Name x px) (tVar i) → PA X [e] (tCons t tNil) → PE X (.Call (.Attribute (.Name x px) "append" apos) [e] [] cpos) (tBM X.K "list" rAppend (tVar i) (tCons t tNil)) := by
      exact fun t a b => pe_bm PySem.F.plainAttrs_list PySem.F.slot_list_append PySem.F.type_list_append mt_append a b)
    (hs : swapsWith (.Call (.Attribute (.Name x px) "append" apos) [e] [] cpos) none pos.line X.env = pure false := by rfl) (hst : starEach [e] X.env = [(false, eval e X.env)] := by rfl) :
    DS X (.Expr (.Call (.Attribute (.Name x px) "append" apos) [e] [] cpos) pos) (sApp m i d) :=
  DS.mk' (ps_expr (hP _ (pe_var hN hv hd hcd) (pa_cons h.pe pa_nil hst)) hs) (snd_app h.sn)
/-- xs[k] = e -/
def sSetIx (m : Bool) (i : Nat) (dk dl : DT) : DTS := fun g r f E => ∃ xs, r[i]? = some (.ow xs) ∧ evM m dl g r f fun d f1 => dk g r f1 fun k f2 => match k with
  | .int k => ∃ j, ixN xs.length k = some j ∧ E.nx (r.set i (.ow (xs.set j d))) f2
  | _ => False
theorem snd_setIx {m : Bool} {i : Nat} {tk t : TE} {dk d : DT} (hk : Snd K tk dk) (h : Snd K t d) : SndS K W (tAsg t (gSub (tVar i) tk rSetL)) (sSetIx m i dk d) := fun g H0 Hs0 r f st H D E s e hd => by
  obtain ⟨Hs, s⟩ := s
  obtain ⟨xs, hx, hd⟩ := hd
  obtain ⟨a, ha, n1, n0, vs, hv, hr⟩ := s.ow i _ hx rfl
  refine snd_evM h s (fun d f' v H' Hs' s' _ hr' q => ?_) hd
  refine ⟨.ref a, ha, ?_⟩
  refine hk g r f' st H' _ _ _ s'.at (fun k f2 w H2 Hs2 s2 k2 r2 q2 => ?_) q
  have s3 := s'.after s2 k2
  cases k <;> try exact q2.elim
  obtain ⟨j, hj, q2⟩ := q2
  obtain ⟨a', ha', n1', n0', vs', hv', hr2⟩ := s3.ow i _ hx rfl
  rw [ha] at ha'
  cases ha'
  exact ⟨a, vs', _, j, rfl, r2, hv', by rw [← hr2.length]; exact hj, e.nx _ f2 st _ ⟨_, s3.mutOwn (u := .ow (xs.set j d)) hx rfl ha rfl ⟨vs'.set j v, upd_same, hr2.set j (hr'.mono (s'.afterExt s2))⟩⟩ q2⟩
theorem ds_setIx (m : Bool) {i : Nat} {x : Str} {e k : Expr} {px spos pos : Pos} {dk d : DT} (hk : DE X k dk) (h : DE X e d) (hN : X.N[i]? = some x := by rfl) (hv : Vis X.env.scope x := by first | exact Or.inl rfl | exact Or.inr (Or.inl rfl) | exact Or.inr (Or.inr rfl)) (hd : (x == ("__debug__" : Str)) = false := by decide)
    (hcd : (x == ("__classdict__" : Str)) = false := by decide)
    (ha : ∀ v, assign (.Subscript (.Name x px) k spos) X.env v = (do
      let ov ← holding [v] (eval (.Name x px) X.env)
      let iv ← holding [v, ov] (eval k X.env)
      standAt spos
      holding [v, ov, iv] (setItem ov iv v)
      release [v, ov, iv] []) := by intro _; rfl)
    (hs : swapsWithSole [.Subscript (.Name x px) k spos] e pos.line X.env = pure false := by rfl) (hw : swappedStores [.Subscript (.Name x px) k spos] e X.env = pure none := by rfl) (h1 : (assignEach [.Subscript (.Name x px) k spos] X.env).map (·.2) = [assign (.Subscript (.Name x px) k spos) X.env] := by rfl) :
    DS X (.Assign [.Subscript (.Name x px) k spos] e pos) (sSetIx m i dk d) :=
  .mk' (ps_asg h.pe (pg_sub (pe_var hN hv hd hcd) hk.pe set_list ha) hs hw h1) (snd_setIx hk.sn h.sn)
/-! a def -/
def startR (n : Nat) (ds : List D) : Sg := ds.map .sh ++ List.replicate (n - ds.length) .no
theorem start_in {g : Option Dk} {H Hs : Hp} {f : Nat} {ds : List D} {vs : List V} {N : List Str} (hs : Same Hs H) (hk : DkOk g H Hs f) (hr : RpA K Hs ds vs) : SIn K g H Hs (startR N.length ds) f (L2.start N vs) H Hs := by
  refine ⟨by simp [startR, L2.start, hr.length], ⟨f, hk⟩, hk, Stp.refl hs, fun i d h => ?_, fun i s h ho => ?_, fun i j s u a h1 h2 ho => ?_⟩
  · unfold startR at h
    unfold L2.start
    by_cases hl : i < ds.length
    · rw [List.getElem?_append_left (by simpa using hl), List.getElem?_map] at h
      rw [List.getElem?_append_left (by simpa [← hr.length] using hl), List.getElem?_map]
      rw [List.getElem?_eq_getElem hl] at h
      cases h
      obtain ⟨v, h1, h2⟩ := hr.get (List.getElem?_eq_getElem hl)
      exact ⟨v, by rw [h1]; rfl, h2⟩
    · rw [List.getElem?_append_right (by simpa using hl)] at h
      rw [List.getElem?_replicate] at h
      split at h
      · cases h
      · cases h
  all_goals
    exfalso
    have : ∀ (i : Nat) (s : Sl), (startR N.length ds)[i]? = some s → s.own = false := fun i s h => by
      have := List.mem_of_getElem? h
      unfold startR at this
      rcases List.mem_append.mp this with h | h
      · obtain ⟨d, _, rfl⟩ := List.mem_map.mp h
        rfl
      · rw [(List.mem_replicate.mp h).2]
        rfl
  · rw [this i s h] at ho; cases ho
  · rw [this i s h1] at ho; cases ho
variable {P : Program} {w : World} {mg : Str → Option Value} {base : Heap}
theorem dfn {x qual : Str} {st : Stmt} {f : Addr} {fd : FuncData} {N ps : List Str} {k : Nat} {S : DSp} {dl : DTS} (F : Fun K x qual st f fd) (sc : FnScope N ps (defScope st)) (len : ∀ g ds n Q, S g ds n Q → ds.length = ps.length)
    (hb : ∀ (cdv : Value) (A : Around) (outer : List Env) (s : Shared) (H : Hp) (E : XK), Room k (A.deeper (envOfC qual (defScope st) s.heap.objs.size f cdv)) → DSs (cxOf CX0 P w K mg base N qual (defScope st) f cdv A outer s H E).nox (defBody st) dl)
    (h : ∀ g ds n Q, S g ds n Q → dl g (startR N.length ds) n { nx := fun _ n => Q .none n, rt := Q }) : FnOk P w K mg base CX0 (k + 1) f fd ps (spOf K S) := by
  refine F.ok sc (fun vs H Q E h => ?_) (fun cdv A outer s H vs Q E hr hsp => ?_)
  · obtain ⟨g, Hs, ds, n, Q', h1, h2, h3, h4, h5⟩ := h
    rw [← h3.length]
    exact len g ds n Q' h4
  · obtain ⟨g, Hs, ds, n, Q', h1, h2, h3, h4, h5⟩ := hsp
    refine ⟨_, (hb cdv A outer s H E hr).ps, ?_⟩
    refine (hb cdv A outer s H E hr).sn g H Hs _ n _ H _ { nx := fun _ n => Q' .none n, rt := Q' } ⟨Hs, start_in h1 h2 h3⟩ ⟨fun r f st H' q h => ?_, fun d f v H' Hs' p k hr h => h5 d f v H' Hs' p k hr h, fun _ _ _ _ _ h => h, fun _ _ _ _ _ h => h, fun _ _ _ _ _ _ _ _ h => h.elim⟩ (h g ds n Q' h4)
    obtain ⟨Hs', q⟩ := q
    exact h5 .none f .non H' Hs' q.stp q.dk rfl h
end
end DL
namespace DL
open PySem PySem.Spec PyProof.Rows L2
/-! a def as its callers see it -/
def Df (K : PySem.W.Frag) (mg : Str → Option Value) (x : Str) (st : Stmt) : Prop := ∃ f fd, Fun K x x st f fd ∧ mg x = some (.ref f)
def Cal (P : Program) (w : World) (K : PySem.W.Frag) (mg : Str → Option Value) (base : Heap) (k : Nat) (x : Str) (ps : List Str) (S : DSp) : Prop :=
  ∃ f fd, FnOk P w K mg base CX0 k f fd ps (spOf K S) ∧ PySem.W.keepIn K (.ref f) = true ∧ Binds K fd ps [] ∧ mg x = some (.ref f)
section
variable {X : Cx} {K : PySem.W.Frag} {W : WX}
theorem de_callC {x : Str} {ps : List Str} {k : Nat} {S : DSp} {p pos : Pos} {e : Expr} {es : List Expr} {d : DTA} (c : Cal X.prog X.w X.K X.mg X.base k x ps S) (hr : Room k X.A)
    (ha : DA X (e :: es) d) (hg : Gl X x := by rfl) (hdb : (x == ("__debug__" : Str)) = false := by decide) (hs : starEach (e :: es) X.env = (false, eval e X.env) :: starEach es X.env := by rfl)
    (hpl : (backTo pos (starEach es X.env)).any (·.1) = false := by rfl) : DE X (.Call (.Name x p) (e :: es) [] pos) (dCall S d) := by
  obtain ⟨f, fd, F, hk, hb, hm⟩ := c
  exact .mk' (pe_call F hr hg hm hk hb .nil pass0 ha.pa hdb hs hpl) (snd_call ha.sn)
theorem cal_none {P : Program} {w : World} {mg : Str → Option Value} {base : Heap} {x : Str} {st : Stmt} {ps : List Str} (d : Df K mg x st) (hb : ∀ f fd, Fun K x x st f fd → Binds K fd ps []) (sc : ∃ N, FnScope N ps (defScope st)) : Cal P w K mg base 1 x ps (fun _ _ _ _ => False) := by
  obtain ⟨f, fd, F, m⟩ := d
  obtain ⟨N, sc⟩ := sc
  refine ⟨f, fd, F.ok sc (fun vs H Q E h => ?_) (fun cdv A outer s H vs Q E hr h => ?_), F.kp, hb f fd F, m⟩
  · obtain ⟨_, _, _, _, _, _, _, _, h, _⟩ := h; exact h.elim
  · obtain ⟨_, _, _, _, _, _, _, _, h, _⟩ := h; exact h.elim
/-- isinstance(x, (T1, T2, ..)) -/
def oIsiT : OA := fun ds Q => match ds with
  | [x, .tup cs] => ∃ (t : String) (ns : List String) (b : Bool), x.tyN = some t ∧ cs = ns.map (fun n => .any (.ty n)) ∧ ns.foldr (fun n r => (kitB t n).bind fun c => if c then some true else r) (some false) = some b ∧ Q (.bool b)
  | _ => False
theorem cls_all {H : Hp} : ∀ {ns : List String} {vs : List V}, RpA K H (ns.map fun n => D.any (.ty n)) vs → Paired ClsV vs (ns.map Value.type)
  | [], _, h => by cases h; exact .nil
  | n :: ns, _, ⟨v, r, h1, h2, h3⟩ => by subst h1; cases h2; exact .cons (.ty n) (cls_all h3)
theorem kit_any {t : String} : ∀ {ns : List String} {b : Bool}, ns.foldr (fun n r => (kitB t n).bind fun c => if c then some true else r) (some false) = some b → PySem.W.kitAny K (.type t) (ns.map Value.type) = some b
  | [], b, h => by cases h; rfl
  | n :: ns, b, h => by
    simp only [List.foldr_cons] at h
    cases e : kitB t n with
    | none => rw [e] at h; cases h
    | some c =>
      rw [e] at h
      refine kitAny_cons (kit_ty e) (fun hc => ?_) (fun hc => ?_)
      · subst hc; exact kit_any (by simpa using h)
      · subst hc; simpa using h.symm
def rIsiU (K : PySem.W.Frag) : List V → Hp → VK → Prop := fun xs H Q => ∃ (x : V) (tp : Addr) (cs : List V) (t : Value) (ws : List Value) (b : Bool), xs = [x, .ref tp] ∧ SqT K H tp cs ∧ Paired ClsV cs ws ∧ TyX K H x t ∧ PySem.W.kitAny K t ws = some b ∧ Q (.bl b) H
theorem call_isiU : CallR X (.builtin "isinstance") (rIsiU X.K) := fun pins s st H xs us Q I r h => by
  obtain ⟨x, tp, cs, t, ws, b, rfl, hT, k, ty, e, q⟩ := h
  obtain ⟨u1, u2, rfl, r1, r2⟩ := vals2 r
  cases (show u2 = Value.ref tp from r2)
  obtain ⟨PP, Z, p, hx⟩ := kit_of I r1 ty
  obtain ⟨its, rv, ⟨o, h1, h2, n, h3⟩, _⟩ := I.tuple hT
  have e3 := ClsV.all k rv
  subst e3
  cases o
  cases h2
  cases h3
  exact PySem.W.kia_tup Z I.kIn p h1 e hx fun tk => ⟨.bl b, H, I.tok tk, rfl, q⟩
theorem sc_isiT : SndC K (rIsiU K) oIsiT := SndC.pure fun H Hs ds vs Q Q' s rx hq hd => by
  unfold oIsiT at hd
  split at hd
  · obtain ⟨t, ns, b, h1, rfl, h2, h3⟩ := hd
    obtain ⟨v, w, rfl, h4, a, vs, rfl, h5, h6⟩ := rpA2 rx
    exact ⟨v, a, vs, _, _, b, rfl, (tp_sq s h5), cls_all h6, tyN_ok (h4.mono s) h1, kit_any h2, hq (.bool _) _ rfl h3⟩
  · exact hd.elim
theorem de_isiT {p pos : Pos} {e e2 : Expr} {d : DTA} (hm : X.mg "isinstance" = none) (ha : DA X [e, e2] d) (hg : Gl X "isinstance" := by rfl) (hs : starEach [e, e2] X.env = (false, eval e X.env) :: starEach [e2] X.env := by rfl)
    (hpl : (backTo pos (starEach [e2] X.env)).any (·.1) = false := by rfl) : DE X (.Call (.Name "isinstance" p) [e, e2] [] pos) (dCB oIsiT d) :=
  de_callB call_isiU sc_isiT hg hm (by decide +kernel) ha (by decide) (by decide) hs hpl
/-! loops over plain data -/
theorem dLcGo_each {P : D → Prop} {g : Option Dk} {t : TgF} {e : DT} {r : Sg} (c : Nat) {Q : List D → Nat → Prop} : ∀ (ds acc : List D) (f : Nat), ds.length * c ≤ f →
    (∀ d ∈ ds, ∃ l, t d = some l ∧ ∀ (f : Nat) (Q : QD), c ≤ f → (∀ y f', P y → f ≤ f' + c → Q y f') → e g (setsR r l) f Q) →
    (∀ ys f', ys.length = ds.length → (∀ y ∈ ys, P y) → f ≤ f' + ds.length * c → Q (acc ++ ys) f') → dLcGo g t dYes e r ds acc f Q
  | [], acc, f, hf, he, hq => by
    have := hq [] f rfl (by simp) (by simp)
    rw [List.append_nil] at this
    exact this
  | d :: ds, acc, f, hf, he, hq => by
    obtain ⟨l, hl, h⟩ := he d (by simp)
    have hlen : (d :: ds).length * c = c + ds.length * c := by rw [List.length_cons, Nat.add_mul, Nat.one_mul, Nat.add_comm]
    rw [hlen] at hf
    simp only [dLcGo, hl, dYes, if_true]
    refine h f _ (by omega) fun y f' hy hf' => dLcGo_each c ds (acc ++ [y]) f' (by omega) (fun d' hd' => he d' (by simp [hd'])) fun ys f'' h1 h2 h3 => ?_
    have := hq (y :: ys) f'' (by simp [h1]) (fun z hz => by
      rcases List.mem_cons.mp hz with e | e
      · rw [e]; exact hy
      · exact h2 z e) (by rw [hlen]; omega)
    rw [List.append_assoc]
    exact this
theorem dLcGo_pure {g : Option Dk} {t : TgF} {c : DTT} {e : DT} {r : Sg} (b : D → Bool) (y : D → D) {Q : List D → Nat → Prop} : ∀ (ds acc : List D) (f : Nat),
    (∀ d ∈ ds, ∃ l, t d = some l ∧ (∀ (f : Nat) (Q : Bool → Nat → Prop), Q (b d) f → c g (setsR r l) f Q) ∧ (b d = true → ∀ (f : Nat) (Q : QD), Q (y d) f → e g (setsR r l) f Q)) →
    Q (acc ++ (ds.filter b).map y) f → dLcGo g t c e r ds acc f Q
  | [], acc, f, he, hq => by
    rw [List.filter_nil, List.map_nil, List.append_nil] at hq
    exact hq
  | d :: ds, acc, f, he, hq => by
    obtain ⟨l, hl, h1, h2⟩ := he d (by simp)
    simp only [dLcGo, hl]
    refine h1 f _ ?_
    cases hb : b d with
    | true =>
      rw [if_pos rfl]
      refine h2 hb f _ (dLcGo_pure b y ds (acc ++ [y d]) f (fun d' hd' => he d' (by simp [hd'])) ?_)
      rw [List.filter_cons, hb, if_pos rfl, List.map_cons] at hq
      rw [List.append_assoc]
      exact hq
    | false =>
      rw [if_neg Bool.false_ne_true]
      refine dLcGo_pure b y ds acc f (fun d' hd' => he d' (by simp [hd'])) ?_
      rw [List.filter_cons, hb, if_neg Bool.false_ne_true] at hq
      exact hq
theorem dFor_inv {g : Option Dk} {t : TgF} {body : DTS} {E : DEnds} (I : List D → Sg → Nat → Prop) : ∀ (ds : List D) (r : Sg) (f : Nat),
    (∀ d rest r f (N : Sg → Nat → Prop), I (d :: rest) r f → (∀ r' f', I rest r' f' → N r' f') → ∃ l, t d = some l ∧ body g (setsR r l) f { E with nx := N, ct := N, bk := E.nx }) →
    (∀ r f, I [] r f → E.nx r f) → I ds r f → dForGo g t body E ds r f
  | [], r, f, _, h0, h => h0 r f h
  | d :: ds, r, f, hs, h0, h => by
    obtain ⟨l, hl, hb⟩ := hs d ds r f (fun r' f' => dForGo g t body E ds r' f') h (fun r' f' h' => dFor_inv I ds r' f' hs h0 h')
    simp only [dForGo, hl]
    exact hb
end
/-! the law's own def -/
def spLaw (K : PySem.W.Frag) : Sp := fun vs H Q _ => ∃ (a : Addr) (ns : List Int), vs = [.ref a] ∧ SqL K H a (ns.map V.int) ∧ ns.length ≤ 63 ∧ ∀ H', Q (.bl true) H'
def spDeck (K : PySem.W.Frag) : Sp := fun vs H Q _ => ∃ (a : Addr) (ns : List Int), vs = [.ref a] ∧ SqL K H a (ns.map V.int) ∧ ns.length ≤ 63 ∧
  ∀ (H' : Hp) (k : Dk), Same H H' → H k.a = none → H k.b = none → H k.c = none → DkAt k H' 1000000000000 → Q (.ref k.a) H'
def startLaw (n : Nat) (k : Dk) : Sg := .no :: .sh (.any (.ref k.a)) :: List.replicate (n - 2) .no
end DL
namespace DL
open PySem PySem.Spec PyProof.Rows L2
/-! texts as lists of codes; names between dots -/
abbrev cd (s : Str) : List Nat := TL.tl s
def sp : List Nat → List (List Nat)
  | [] => [[]]
  | c :: r => if c = 46 then [] :: sp r else match sp r with
    | [] => [[c]]
    | h :: t => (c :: h) :: t
theorem sp_ne : ∀ l : List Nat, sp l ≠ []
  | [] => by simp [sp]
  | c :: r => by
    unfold sp
    split
    · simp
    · split <;> simp
theorem spl_sp : ∀ (l acc : List Nat), TL.spl [46] 0 acc l = match sp l with
    | [] => [acc]
    | h :: t => (acc ++ h) :: t
  | [], acc => by rw [TL.spl_nil]; simp [sp]
  | c :: r, acc => by
    by_cases h : c = 46
    · subst h
      have hp : TL.pre [46] (46 :: r) = true := TL.pre_self [46] r
      rw [TL.spl_hit hp]
      have := spl_sp r []
      unfold sp
      rw [if_pos rfl]
      simp only [List.length_singleton, Nat.sub_self, List.append_nil]
      rw [this]
      cases e : sp r with
      | nil => exact absurd e (sp_ne r)
      | cons h t => simp
    · rw [TL.spl_miss (TL.pre_of_head [] r h), spl_sp r (acc ++ [c])]
      rw [sp, if_neg h]
      cases e : sp r with
      | nil => exact absurd e (sp_ne r)
      | cons h t => simp
theorem split_cd (x : Str) : (Txt.split x ".").map cd = sp (cd x) := by
  have := TL.split_spl x "." (by decide +kernel) (TL.kind_ok (by decide +kernel))
  rw [show TL.tl (Str.ofString ".") = [46] from by decide +kernel, spl_sp] at this
  rw [this]
  cases e : sp (cd x) with
  | nil => exact absurd e (sp_ne _)
  | cons h t => rfl
def jn : List (List Nat) → List Nat
  | [] => []
  | [a] => a
  | a :: b :: r => a ++ 46 :: jn (b :: r)
theorem joinL_jn : ∀ l : List (List Nat), TL.joinL [46] l = jn l
  | [] => rfl
  | [a] => rfl
  | a :: b :: r => by
    have := joinL_jn (b :: r)
    show a ++ ([46] ++ TL.joinL [46] (b :: r)) = a ++ 46 :: jn (b :: r)
    rw [this]
    rfl
theorem jn_sp : ∀ l : List Nat, jn (sp l) = l
  | [] => rfl
  | c :: r => by
    have ih := jn_sp r
    unfold sp
    split
    · next h =>
      subst h
      cases e : sp r with
      | nil => exact absurd e (sp_ne r)
      | cons h t =>
        rw [e] at ih
        show [] ++ 46 :: jn (h :: t) = 46 :: r
        rw [ih]
        rfl
    · cases e : sp r with
      | nil => exact absurd e (sp_ne r)
      | cons h t =>
        rw [e] at ih
        cases t with
        | nil => show c :: h = c :: r; rw [← ih]; rfl
        | cons b t => show (c :: h) ++ 46 :: jn (b :: t) = c :: r; rw [← ih]; rfl
theorem sp_mem : ∀ (l n : List Nat) (c : Nat), n ∈ sp l → c ∈ n → c ∈ l
  | [], n, c, h, hc => by simp [sp] at h; simp [h] at hc
  | a :: r, n, c, h, hc => by
    unfold sp at h
    split at h
    · rcases List.mem_cons.mp h with e | e
      · simp [e] at hc
      · exact List.mem_cons_of_mem _ (sp_mem r n c e hc)
    · cases e : sp r with
      | nil => exact absurd e (sp_ne r)
      | cons hd t =>
        rw [e] at h
        rcases List.mem_cons.mp h with e' | e'
        · subst e'
          rcases List.mem_cons.mp hc with z | z
          · simp [z]
          · exact List.mem_cons_of_mem _ (sp_mem r hd c (by rw [e]; simp) z)
        · exact List.mem_cons_of_mem _ (sp_mem r n c (by rw [e]; simp [e']) hc)
theorem sp_one : ∀ {a : List Nat}, 46 ∉ a → sp a = [a]
  | [], _ => rfl
  | c :: r, h => by
    have hc : c ≠ 46 := fun e => h (by simp [e])
    have hr : 46 ∉ r := fun e => h (by simp [e])
    unfold sp
    rw [if_neg hc, sp_one hr]
theorem sp_app : ∀ (a r : List Nat), sp (a ++ 46 :: r) = sp a ++ sp r
  | [], r => by
    show sp (46 :: r) = [[]] ++ sp r
    rw [show sp (46 :: r) = if (46 : Nat) = 46 then [] :: sp r else _ from rfl, if_pos rfl]
    rfl
  | c :: a, r => by
    have ih := sp_app a r
    show sp (c :: (a ++ 46 :: r)) = _
    rw [sp, sp]
    by_cases h : c = 46
    · rw [if_pos h, if_pos h, ih]; rfl
    · rw [if_neg h, if_neg h, ih]
      cases e : sp a with
      | nil => exact absurd e (sp_ne a)
      | cons hd t => rfl
theorem jn_app : ∀ (a b : List (List Nat)), a ≠ [] → b ≠ [] → jn (a ++ b) = jn a ++ 46 :: jn b
  | [], _, h, _ => absurd rfl h
  | [x], [], _, h => absurd rfl h
  | [x], b :: r, _, _ => rfl
  | x :: y :: a, b, _, hb => by
    have := jn_app (y :: a) b (by simp) hb
    show x ++ 46 :: jn ((y :: a) ++ b) = (x ++ 46 :: jn (y :: a)) ++ 46 :: jn b
    rw [this]
    simp
theorem sp_jn : ∀ {l : List (List Nat)}, l ≠ [] → (∀ n ∈ l, 46 ∉ n) → sp (jn l) = l
  | [], h, _ => absurd rfl h
  | [a], _, h => sp_one (h a (by simp))
  | a :: b :: r, _, h => by
    show sp (a ++ 46 :: jn (b :: r)) = _
    rw [sp_app, sp_one (h a (by simp)), sp_jn (by simp) fun n hn => h n (by simp [hn])]
    rfl
theorem sp_inj {a b : List Nat} (h : sp a = sp b) : a = b := by rw [← jn_sp a, h, jn_sp]
/-- covering, by codes -/
theorem cov_iff (p o : List Nat) : (sp o).take (sp p).length = sp p ↔ o = p ∨ (p ++ [46]).isPrefixOf o = true := by
  constructor
  · intro h
    have e : sp o = sp p ++ (sp o).drop (sp p).length := by rw [← h, List.length_take]; rw [show min (sp p).length (sp o).length = (sp p).length from by have := congrArg List.length h; rw [List.length_take] at this; exact this]; rw [List.take_append_drop]
    by_cases hr : (sp o).drop (sp p).length = []
    · rw [hr, List.append_nil] at e
      exact .inl (sp_inj e)
    · right
      have := congrArg jn e
      rw [jn_sp, jn_app _ _ (sp_ne p) hr, jn_sp] at this
      rw [this, List.isPrefixOf_iff_prefix]
      exact ⟨jn ((sp o).drop (sp p).length), by simp⟩
  · rintro (h | h)
    · rw [h, List.take_length]
    · rw [List.isPrefixOf_iff_prefix] at h
      obtain ⟨r, rfl⟩ := h
      rw [List.append_assoc]
      show List.take _ (sp (p ++ 46 :: r)) = _
      rw [sp_app, List.take_left']
      rfl
theorem starts_cd (x y : Str) : Txt.startswith x y = (cd y).isPrefixOf (cd x) := by
  have hx : x.length = (cd x).length := TL.len_tl x
  have hy : y.length = (cd y).length := TL.len_tl y
  unfold Txt.startswith Builtin.Str.subAt
  rw [Bool.eq_iff_iff, Bool.and_eq_true, decide_eq_true_iff, List.isPrefixOf_iff_prefix, beq_iff_eq]
  constructor
  · rintro ⟨_, h⟩
    have e := congrArg Array.toList h
    rw [Array.toList_extract] at e
    simp only [Nat.zero_add, List.extract_eq_drop_take, List.drop_zero, Nat.sub_zero] at e
    exact ⟨(cd x).drop y.length, by show y.cps.toList ++ _ = _; rw [← e]; exact List.take_append_drop _ _⟩
  · rintro ⟨r, h⟩
    have hl := congrArg List.length h
    rw [List.length_append] at hl
    refine ⟨by omega, ?_⟩
    apply Array.toList_inj.mp
    rw [Array.toList_extract]
    simp only [Nat.zero_add, List.extract_eq_drop_take, List.drop_zero, Nat.sub_zero]
    show List.take y.length (cd x) = cd y
    rw [← h, hy, List.take_left']
    rfl
/-- path covers other -/
def cov (p o : Str) : Bool := decide (o = p) || Txt.startswith o (p ++ ".")
theorem cov_take (p o : Str) : cov p o = decide ((Txt.split o ".").take (Txt.split p ".").length = Txt.split p ".") := by
  have e1 := split_cd p
  have e2 := split_cd o
  have hl : (Txt.split p ".").length = (sp (cd p)).length := by rw [← e1, List.length_map]
  unfold cov
  rw [Bool.eq_iff_iff, Bool.or_eq_true, decide_eq_true_iff, decide_eq_true_iff, starts_cd, show cd (p ++ ".") = cd p ++ cd "." from TL.tl_append p ".", show cd (Str.ofString ".") = [46] from by decide +kernel]
  constructor
  · intro h
    have := (cov_iff (cd p) (cd o)).mpr (h.imp (fun e => by rw [e]) id)
    apply TL.map_tl_inj
    rw [List.map_take, hl]
    show List.take _ ((Txt.split o ".").map cd) = (Txt.split p ".").map cd
    rw [e1, e2]
    exact this
  · intro h
    have := congrArg (List.map cd) h
    rw [List.map_take, hl, e1, e2] at this
    exact ((cov_iff (cd p) (cd o)).mp this).imp (fun e => TL.ext_tl e) id
/-! plain texts -/
def asc (s : Str) : Prop := ∀ c ∈ cd s, c < 128
theorem asc_ok {s : Str} (h : asc s) : PyData.strOk s = true := by
  unfold PyData.strOk
  rw [Array.all_eq_true_iff_forall_mem]
  intro c hc
  have := h c (by simpa [cd, TL.tl] using hc)
  exact decide_eq_true (by omega)
theorem pyA_strs : ∀ l : List Str, pyA (l.map D.str) = l.map PyData.str
  | [] => rfl
  | x :: l => by show PyData.str x :: pyA (l.map D.str) = _; rw [pyA_strs l]; rfl
theorem lay_strs : ∀ {l : List Str}, (∀ s ∈ l, asc s) → PyData.canLayAll0 (l.map PyData.str) = true
  | [], _ => rfl
  | x :: l, h => Bool.and_eq_true_iff.mpr ⟨asc_ok (h x (by simp)), lay_strs fun s hs => h s (by simp [hs])⟩
theorem depth_strs : ∀ l : List Str, PyData.depthAll (l.map PyData.str) = 0
  | [] => rfl
  | x :: l => by show max 0 (PyData.depthAll (l.map PyData.str)) = 0; rw [depth_strs l]; rfl
theorem eqvAll_strs : ∀ l m : List Str, PyData.eqvAll (l.map PyData.str) (m.map PyData.str) = decide (l = m)
  | [], [] => rfl
  | [], _ :: _ => rfl
  | _ :: _, [] => rfl
  | x :: l, y :: m => by
    show ((x == y) && PyData.eqvAll (l.map PyData.str) (m.map PyData.str)) = _
    rw [eqvAll_strs l m, Bool.eq_iff_iff]
    simp
theorem shaped_strs {l : List Str} (h : ∀ s ∈ l, asc s) : SeqAt.shaped (D.lst (l.map D.str)).py = true := by
  show (PyData.canLayAll0 (pyA (l.map D.str)) && decide (PyData.depthAll (pyA (l.map D.str)) + 1 ≤ 64)) = true
  rw [pyA_strs, lay_strs h, depth_strs]
  rfl
theorem shaped_strsT {l : List Str} (h : ∀ s ∈ l, asc s) : SeqAt.shaped (D.tup (l.map D.str)).py = true := shaped_strs h
theorem oEq_lst {l m : List Str} {neg : Bool} {Q : D → Prop} (hl : ∀ s ∈ l, asc s) (hm : ∀ s ∈ m, asc s) (h : Q (.bool (xb neg (decide (l = m))))) : oEq neg (.lst (l.map D.str)) (.lst (m.map D.str)) Q := by
  refine oEq_data (shaped_strs hl) (shaped_strs hm) ?_
  show Q (.bool (xb neg (PyData.eqvAll (pyA (l.map D.str)) (pyA (m.map D.str)))))
  rw [pyA_strs, pyA_strs, eqvAll_strs]
  exact h
theorem asc_split {s : Str} (h : asc s) : ∀ x ∈ Txt.split s ".", asc x := fun x hx c hc => by
  have : cd x ∈ sp (cd s) := by rw [← split_cd]; exact List.mem_map_of_mem hx
  exact h c (sp_mem _ _ c this hc)
theorem cutD_take (xs : List D) (n : Nat) : cutD xs none (some (n : Int)) = xs.take n := by
  unfold cutD
  rw [HT.sIx_none, HT.sIx_nat]
  simp only [List.drop_zero, Nat.sub_zero]
  rw [← List.take_eq_take_min]
section
variable {K : PySem.W.Frag}
theorem shaped_ints (l : List Int) : SeqAt.shaped (.list (l.map PyData.int)) = true := by
  have h1 : PyData.canLayAll0 (l.map PyData.int) = true := by
    induction l with
    | nil => rfl
    | cons x l ih => exact Bool.and_eq_true_iff.mpr ⟨rfl, ih⟩
  have h2 : PyData.depthAll (l.map PyData.int) = 0 := by
    clear h1
    induction l with
    | nil => rfl
    | cons x l ih =>
      show max 0 (PyData.depthAll (l.map PyData.int)) = 0
      rw [ih]
      rfl
  unfold SeqAt.shaped
  show (PyData.canLayAll0 (l.map PyData.int) && decide (PyData.depthAll (l.map PyData.int) + 1 ≤ 64)) = true
  rw [h1, h2]
  rfl
theorem dp_ints {H : Hp} {a : Addr} {l : List Int} (h : H a = some (.lst (l.map V.int))) : Dp K H (.ref a) (.list (l.map PyData.int)) := by
  refine .lst (SqL.of h) ?_
  clear h
  induction l with
  | nil => exact .nil
  | cons x l ih => exact .cons (.int x) ih
theorem lo64 {x : Int} (h : 0 ≤ x) : -(2 ^ 64) < x := by omega
theorem hi64 {x : Int} (h : x < 2147483647) : x < 2 ^ 64 := by omega
theorem ix0 (n : Nat) : ixN (n + 1) 0 = some 0 := by
  unfold ixN
  rw [if_pos (by decide), if_pos (by omega)]
  rfl
theorem atI0 {α : Type} {x : α} {l : List α} : atI (x :: l) 0 = some x := atI_nat (j := 0) rfl
theorem same_upd {H : Hp} {p : Addr} {o : HO} (h : H p = none) : Same H (upd H p o) := fun b x e => by
  rw [upd_ne (ne_of_none e h)]
  exact e
end
end DL
namespace DL
open PySem PySem.Spec PyProof.Rows L2
/-! names and paths -/
def isName (s : Str) : Prop := 1 ≤ s.length ∧ s.length ≤ 8 ∧ ∀ c ∈ cd s, 97 ≤ c ∧ c ≤ 122
def PathN (m : Nat) (s : Str) : Prop := ∃ ns : List Str, 1 ≤ ns.length ∧ ns.length ≤ m ∧ (∀ n ∈ ns, isName n) ∧ s = Txt.join "." ns
theorem cd_join (ns : List Str) : cd (Txt.join "." ns) = jn (ns.map cd) := by
  rw [TL.join_eq]
  show TL.tl (Str.join "." ns) = _
  rw [TL.tl_join, show TL.tl (Str.ofString ".") = [46] from by decide +kernel, joinL_jn]
theorem jn_len : ∀ {l : List (List Nat)}, (∀ n ∈ l, n.length ≤ 8) → (jn l).length ≤ 9 * l.length
  | [], _ => Nat.zero_le _
  | [a], h => by have := h a (by simp); simp only [jn, List.length_singleton]; omega
  | a :: b :: r, h => by
    have ih := jn_len (l := b :: r) fun n hn => h n (by simp [hn])
    have := h a (by simp)
    simp only [jn, List.length_append, List.length_cons] at ih ⊢
    omega
theorem jn_mem {c : Nat} : ∀ {l : List (List Nat)}, c ∈ jn l → c = 46 ∨ ∃ n ∈ l, c ∈ n
  | [], h => by simp [jn] at h
  | [a], h => .inr ⟨a, by simp, h⟩
  | a :: b :: r, h => by
    have h : c ∈ a ++ 46 :: jn (b :: r) := h
    rcases List.mem_append.mp h with h | h
    · exact .inr ⟨a, by simp, h⟩
    · rcases List.mem_cons.mp h with h | h
      · exact .inl h
      · rcases jn_mem (l := b :: r) h with h | ⟨n, h1, h2⟩
        · exact .inl h
        · exact .inr ⟨n, by simp [h1], h2⟩
theorem isName.asc {s : Str} (h : isName s) : asc s := fun c hc => by have := h.2.2 c hc; omega
theorem isName.cdl {s : Str} (h : isName s) : (cd s).length ≤ 8 := by have := h.2.1; rw [TL.len_tl] at this; exact this
theorem PathN.mono {m n : Nat} {s : Str} (h : PathN m s) (e : m ≤ n) : PathN n s := by
  obtain ⟨ns, h1, h2, h3, h4⟩ := h
  exact ⟨ns, h1, by omega, h3, h4⟩
theorem PathN.len {m : Nat} {s : Str} (h : PathN m s) : s.length ≤ 9 * m := by
  obtain ⟨ns, h1, h2, h3, rfl⟩ := h
  have : (cd (Txt.join "." ns)).length ≤ 9 * (ns.map cd).length := by
    rw [cd_join]
    exact jn_len fun n hn => by
      obtain ⟨s, hs, rfl⟩ := List.mem_map.mp hn
      exact (h3 s hs).cdl
  rw [List.length_map] at this
  rw [TL.len_tl]
  show (cd (Txt.join "." ns)).length ≤ 9 * m
  omega
theorem PathN.asc {m : Nat} {s : Str} (h : PathN m s) : asc s := by
  obtain ⟨ns, h1, h2, h3, rfl⟩ := h
  intro c hc
  rw [cd_join] at hc
  rcases jn_mem hc with e | ⟨n, hn, e⟩
  · omega
  · obtain ⟨s, hs, rfl⟩ := List.mem_map.mp hn
    exact (h3 s hs).asc c e
theorem join_names (ns : List Str) (h : ∀ n ∈ ns, n.length ≤ 1000) (hl : ns.length ≤ 1000) (a : Str) (ha : a.length ≤ 8) : (ns.map (·.length)).sum + ns.length * a.length ≤ 16777216 := by
  have : ∀ ns : List Str, (∀ n ∈ ns, n.length ≤ 1000) → (ns.map (·.length)).sum ≤ 1000 * ns.length := by
    intro ns
    induction ns with
    | nil => intro _; exact Nat.le_refl _
    | cons x l ih =>
      intro h
      have h1 := h x (by simp)
      have h2 := ih fun n hn => h n (by simp [hn])
      simp only [List.map_cons, List.sum_cons, List.length_cons]
      omega
  have h1 := this ns h
  have h2 : ns.length * a.length ≤ ns.length * 8 := Nat.mul_le_mul_left _ ha
  omega
theorem strs_of {P : Str → Prop} : ∀ {ys : List D}, (∀ y ∈ ys, ∃ s, y = .str s ∧ P s) → ∃ l : List Str, ys = l.map D.str ∧ ∀ s ∈ l, P s
  | [], _ => ⟨[], rfl, by simp⟩
  | y :: ys, h => by
    obtain ⟨s, rfl, hs⟩ := h y (by simp)
    obtain ⟨l, rfl, hl⟩ := strs_of fun z hz => h z (List.mem_cons_of_mem _ hz)
    exact ⟨s :: l, rfl, fun x hx => by
      rcases List.mem_cons.mp hx with e | e
      · rw [e]; exact hs
      · exact hl x e⟩
theorem atI_mem {α : Type} {xs : List α} {r : Int} (h0 : 0 ≤ r) (h1 : r < xs.length) : ∃ d, atI xs r = some d ∧ d ∈ xs := by
  have hl : r.toNat < xs.length := by omega
  have := atI_nat (xs := xs) (j := r.toNat) (v := xs[r.toNat]) (List.getElem?_eq_getElem hl)
  rw [Int.toNat_of_nonneg h0] at this
  exact ⟨_, this, List.getElem_mem hl⟩
theorem join_nil_cd (ns : List Str) : cd (Txt.join "" ns) = (ns.map cd).flatten := by
  rw [TL.join_eq]
  show TL.tl (Str.join "" ns) = _
  rw [TL.tl_join, show TL.tl (Str.ofString "") = [] from by decide +kernel]
  have : ∀ l : List (List Nat), TL.joinL [] l = l.flatten := by
    intro l
    induction l with
    | nil => rfl
    | cons a l ih =>
      cases l with
      | nil => simp [TL.joinL]
      | cons b l => show a ++ ([] ++ TL.joinL [] (b :: l)) = _; rw [ih]; rfl
  exact this _
/-- texts of one small letter each, glued -/
theorem letters_name (ns : List Str) (h : ∀ n ∈ ns, ∃ c, cd n = [c] ∧ 97 ≤ c ∧ c ≤ 122) (h1 : 1 ≤ ns.length) (h2 : ns.length ≤ 8) : isName (Txt.join "" ns) := by
  have e : ∀ ns : List Str, (∀ n ∈ ns, ∃ c, cd n = [c] ∧ 97 ≤ c ∧ c ≤ 122) → ((ns.map cd).flatten).length = ns.length ∧ ∀ c ∈ (ns.map cd).flatten, 97 ≤ c ∧ c ≤ 122 := by
    intro ns
    induction ns with
    | nil => intro _; simp
    | cons x l ih =>
      intro h
      obtain ⟨c, hc, hb⟩ := h x (by simp)
      obtain ⟨i1, i2⟩ := ih fun n hn => h n (by simp [hn])
      rw [List.map_cons, List.flatten_cons, hc]
      refine ⟨by simp only [List.length_append, List.length_cons, List.length_nil, i1]; omega, fun d hd => ?_⟩
      rcases List.mem_append.mp hd with e | e
      · rw [List.mem_singleton.mp e]; exact hb
      · exact i2 d e
  obtain ⟨i1, i2⟩ := e ns h
  have hl : (Txt.join "" ns).length = ns.length := by rw [TL.len_tl]; show (cd (Txt.join "" ns)).length = _; rw [join_nil_cd, i1]
  refine ⟨by omega, by omega, fun c hc => ?_⟩
  rw [join_nil_cd] at hc
  exact i2 c hc
theorem letters_at {r : Int} (h0 : 0 ≤ r) (h1 : r < 26) : ∃ c, atI (Str.ofString "abcdefghijklmnopqrstuvwxyz").cps.toList r = some c ∧ 97 ≤ c ∧ c ≤ 122 := by
  obtain ⟨c, hc, hm⟩ := atI_mem (xs := (Str.ofString "abcdefghijklmnopqrstuvwxyz").cps.toList) h0 (by rw [show (Str.ofString "abcdefghijklmnopqrstuvwxyz").cps.toList.length = 26 from by decide +kernel]; exact h1)
  have : ∀ c ∈ (Str.ofString "abcdefghijklmnopqrstuvwxyz").cps.toList, 97 ≤ c ∧ c ≤ 122 := by decide +kernel
  exact ⟨c, hc, this c hm⟩
theorem intsD_len (lo : Int) (n : Nat) : (intsD lo n).length = n := by unfold intsD; simp
end DL
namespace DL
open PySem PySem.Spec PyProof.Rows L2
section
variable {X : Cx} {K : PySem.W.Frag}
/-! zip of two lists, of two tuples -/
def zipD (xs ys : List D) : List D := (xs.zip ys).map fun p => .tup [p.1, p.2]
theorem zipD_get {xs ys : List D} {i : Nat} {d : D} (h : (zipD xs ys)[i]? = some d) : ∃ x y, xs[i]? = some x ∧ ys[i]? = some y ∧ d = .tup [x, y] := by
  unfold zipD at h
  rw [List.getElem?_map] at h
  cases e : (xs.zip ys)[i]? with
  | none => rw [e] at h; cases h
  | some p =>
    rw [e] at h
    cases h
    obtain ⟨h1, h2⟩ := List.getElem?_zip_eq_some.mp e
    exact ⟨p.1, p.2, h1, h2, rfl⟩
theorem zipD_len (xs ys : List D) : (zipD xs ys).length = min xs.length ys.length := by unfold zipD; rw [List.length_map, List.length_zip]
def dZip (t : DTA) : DTA := fun g r f Q => t g r f fun ds f1 => match ds with
  | [.lst xs, .lst ys] => Q (zipD xs ys) f1
  | [.tup xs, .tup ys] => Q (zipD xs ys) f1
  | _ => False
theorem pair_stp {H Hs : Hp} {T : Addr} {x y : V} {dx dy : D} (s : Same Hs H) (hT : H T = none) (h1 : Rp K Hs dx x) (h2 : Rp K Hs dy y) : ∃ Hs', Stp none H Hs (upd H T (.tup [x, y])) Hs' ∧ Rp K Hs' (.tup [dx, dy]) (.ref T) :=
  ⟨upd Hs T (.tup [x, y]), Stp.alloc s hT, rp_tup ⟨x, [y], rfl, h1, RpA.one h2⟩ (same_none s hT)⟩
theorem walks_zipL {Hb : Hp} {a b : Addr} {vs ws : List V} {ds es : List D} (h1 : Hb a = some (.lst vs)) (h2 : RpA K Hb ds vs) (h3 : Hb b = some (.lst ws)) (h4 : RpA K Hb es ws) : Walks K (Itz K a b) Hb (zipD ds es) where
  go := fun i d H Hs s1 s2 e => by
    obtain ⟨x, y, ex, ey, rfl⟩ := zipD_get e
    obtain ⟨v, hv, hr⟩ := h2.get ex
    obtain ⟨u, hu, hq⟩ := h4.get ey
    have q1 : SqL K H a vs := SqL.of (s2 _ _ (s1 _ _ h1))
    have q2 : SqL K H b ws := SqL.of (s2 _ _ (s1 _ _ h3))
    refine ⟨⟨vs, ws, v, u, q1, q2, hv, hu⟩, ?_⟩
    rintro z H' ⟨T, x', y', rfl, hT, rfl, hx, hy⟩
    have e1 := hx vs q1
    have e2 := hy ws q2
    rw [hv] at e1; rw [hu] at e2
    cases e1; cases e2
    exact pair_stp s2 hT (hr.mono s1) (hq.mono s1)
  stop := fun H s => ⟨vs, ws, SqL.of (s _ _ h1), SqL.of (s _ _ h3), by
    have := zipD_len ds es
    rw [h2.length, h4.length] at this
    omega⟩
theorem walks_zipT {Hb : Hp} {a b : Addr} {vs ws : List V} {ds es : List D} (h1 : TpAt K Hb a vs) (h2 : RpA K Hb ds vs) (h3 : TpAt K Hb b ws) (h4 : RpA K Hb es ws) : Walks K (RZ.ItzT K a b) Hb (zipD ds es) where
  go := fun i d H Hs s1 s2 e => by
    obtain ⟨x, y, ex, ey, rfl⟩ := zipD_get e
    obtain ⟨v, hv, hr⟩ := h2.get ex
    obtain ⟨u, hu, hq⟩ := h4.get ey
    have q1 : SqT K H a vs := (tp_sq (s1.trans s2) h1)
    have q2 : SqT K H b ws := (tp_sq (s1.trans s2) h3)
    refine ⟨⟨vs, ws, v, u, q1, q2, hv, hu⟩, ?_⟩
    rintro z H' ⟨T, x', y', rfl, hT, rfl, hx, hy⟩
    have e1 := hx vs q1
    have e2 := hy ws q2
    rw [hv] at e1; rw [hu] at e2
    cases e1; cases e2
    exact pair_stp s2 hT (hr.mono s1) (hq.mono s1)
  stop := fun H s => ⟨vs, ws, (tp_sq s h1), (tp_sq s h3), by
    have := zipD_len ds es
    rw [h2.length, h4.length] at this
    omega⟩
theorem di_zip {e e2 : Expr} {d : DTA} {p pos tpos : Pos} {elts : List Expr} {kk : Nat} (hm : X.mg "zip" = none) (ha : DA X [e, e2] d) (hg : Gl X "zip" := by rfl)
    (hs : starEach [e, e2] X.env = (false, eval e X.env) :: starEach [e2] X.env := by rfl) (hpl : (backTo pos (starEach [e2] X.env)).any (·.1) = false := by rfl) :
    DI X (.Tuple elts kk tpos) (.Call (.Name "zip" p) [e, e2] [] pos) (dZip d) := DI.mk' (RZ.pi_zipA hg hm ha.pa hs hpl) fun g ro f st H Hs R Q' A hq hd =>
  ha.sn g ro f st H Hs _ _ A (fun ds f1 vs H1 Hs1 s1 k1 r1 q1 => by
    split at q1
    · obtain ⟨v, w, rfl, h, h'⟩ := rpA2 r1
      obtain ⟨a, vs, rfl, h1, h2⟩ := h
      obtain ⟨b, ws, rfl, h3, h4⟩ := h'
      exact ⟨a, b, vs, ws, rfl, .inl ⟨SqL.of (s1.sub _ _ h1), SqL.of (s1.sub _ _ h3), hq _ f1 _ H1 Hs1 s1 k1 (walks_zipL h1 h2 h3 h4) q1⟩⟩
    · obtain ⟨v, w, rfl, h, h'⟩ := rpA2 r1
      obtain ⟨a, vs, rfl, h1, h2⟩ := h
      obtain ⟨b, ws, rfl, h3, h4⟩ := h'
      exact ⟨a, b, vs, ws, rfl, .inr ⟨(tp_sq s1.sub h1), (tp_sq s1.sub h3), hq _ f1 _ H1 Hs1 s1 k1 (walks_zipT h1 h2 h3 h4) q1⟩⟩
    · exact q1.elim) hd
end
def D.isTup : D → Bool
  | .tup _ => true
  | _ => false
def D.isLst : D → Bool
  | .lst _ => true
  | _ => false
def D.isSt : D → Bool
  | .str _ => true
  | _ => false
def D.isBl : D → Bool
  | .bool _ => true
  | _ => false
def D.isIn : D → Bool
  | .int _ => true
  | .bool _ => true
  | _ => false
/-! data that are told apart sign by sign -/
mutual
def deqD : D → D → Bool
  | .none, .none => true
  | .bool a, .bool b => decide (a = b)
  | .int a, .int b => decide (a = b)
  | .str a, .str b => decide (a = b)
  | .tup xs, .tup ys => deqA xs ys
  | .lst xs, .lst ys => deqA xs ys
  | _, _ => false
def deqA : List D → List D → Bool
  | [], [] => true
  | x :: xs, y :: ys => deqD x y && deqA xs ys
  | _, _ => false
end
def zeq : D → Bool
  | .tup [a, b] => deqD a b
  | _ => false
mutual
/-- no objects within; dicts as they are -/
def D.tyd : D → Bool
  | .tup xs => tydA xs
  | .lst xs => tydA xs
  | .obj _ _ _ => false
  | .exn _ _ _ => false
  | .any _ => false
  | _ => true
def tydA : List D → Bool
  | [] => true
  | x :: xs => x.tyd && tydA xs
end
mutual
def D.plain : D → Bool
  | .tup xs => decide (xs.length ≤ 100000) && plainA xs
  | .lst xs => decide (xs.length ≤ 100000) && plainA xs
  | .dct _ _ => false
  | .obj _ _ _ => false
  | .exn _ _ _ => false
  | .any _ => false
  | _ => true
def plainA : List D → Bool
  | [] => true
  | x :: xs => x.plain && plainA xs
end
mutual
def D.dep : D → Nat
  | .tup xs => depA xs + 1
  | .lst xs => depA xs + 1
  | _ => 0
def depA : List D → Nat
  | [] => 0
  | x :: xs => max x.dep (depA xs)
end
mutual
theorem D.plain_tyd : ∀ {x : D}, x.plain = true → x.tyd = true
  | .none, _ => rfl
  | .bool _, _ => rfl
  | .int _, _ => rfl
  | .str _, _ => rfl
  | .tup xs, h => plainA_tyd (xs := xs) (Bool.and_eq_true_iff.mp h).2
  | .lst xs, h => plainA_tyd (xs := xs) (Bool.and_eq_true_iff.mp h).2
  | .dct _ _, h => by cases h
  | .obj _ _ _, h => by cases h
  | .exn _ _ _, h => by cases h
  | .any _, h => by cases h
theorem plainA_tyd : ∀ {xs : List D}, plainA xs = true → tydA xs = true
  | [], _ => rfl
  | x :: xs, h => by
    have h : (x.plain && plainA xs) = true := h
    rw [Bool.and_eq_true] at h
    show (x.tyd && tydA xs) = true
    rw [D.plain_tyd h.1, plainA_tyd h.2]
    rfl
end
theorem tydA_mem : ∀ {xs : List D} {x : D}, tydA xs = true → x ∈ xs → x.tyd = true
  | y :: ys, x, h, hx => by
    have h : (y.tyd && tydA ys) = true := h
    rw [Bool.and_eq_true] at h
    rcases List.mem_cons.mp hx with e | e
    · rw [e]; exact h.1
    · exact tydA_mem h.2 e
theorem plainA_mem : ∀ {xs : List D} {x : D}, plainA xs = true → x ∈ xs → x.plain = true
  | y :: ys, x, h, hx => by
    have h : (y.plain && plainA ys) = true := h
    rw [Bool.and_eq_true] at h
    rcases List.mem_cons.mp hx with e | e
    · rw [e]; exact h.1
    · exact plainA_mem h.2 e
theorem depA_mem : ∀ {xs : List D} {x : D}, x ∈ xs → x.dep ≤ depA xs
  | y :: ys, x, hx => by
    show x.dep ≤ max y.dep (depA ys)
    rcases List.mem_cons.mp hx with e | e
    · rw [e]; exact Nat.le_max_left _ _
    · exact Nat.le_trans (depA_mem e) (Nat.le_max_right _ _)
theorem deqA_len : ∀ {xs ys : List D}, xs.length ≠ ys.length → deqA xs ys = false
  | [], [], h => absurd rfl h
  | [], _ :: _, _ => rfl
  | _ :: _, [], _ => rfl
  | x :: xs, y :: ys, h => by
    show (deqD x y && deqA xs ys) = false
    rw [deqA_len fun e => h (by simp [e]), Bool.and_false]
theorem deqA_all : ∀ {xs ys : List D}, xs.length = ys.length → deqA xs ys = (xs.zip ys).all fun p => deqD p.1 p.2
  | [], [], _ => rfl
  | [], _ :: _, h => by simp at h
  | _ :: _, [], h => by simp at h
  | x :: xs, y :: ys, h => by
    show (deqD x y && deqA xs ys) = _
    rw [deqA_all (by simpa using h), List.zip_cons_cons, List.all_cons]
mutual
theorem deqD_refl : ∀ x : D, x.plain = true → deqD x x = true
  | .none, _ => rfl
  | .bool _, _ => decide_eq_true rfl
  | .int _, _ => decide_eq_true rfl
  | .str _, _ => decide_eq_true rfl
  | .tup xs, h => deqA_refl xs (Bool.and_eq_true_iff.mp h).2
  | .lst xs, h => deqA_refl xs (Bool.and_eq_true_iff.mp h).2
  | .dct _ _, h => by cases h
  | .obj _ _ _, h => by cases h
  | .exn _ _ _, h => by cases h
  | .any _, h => by cases h
theorem deqA_refl : ∀ xs : List D, plainA xs = true → deqA xs xs = true
  | [], _ => rfl
  | x :: xs, h => by
    have h : (x.plain && plainA xs) = true := h
    rw [Bool.and_eq_true] at h
    show (deqD x x && deqA xs xs) = true
    rw [deqD_refl x h.1, deqA_refl xs h.2]
    rfl
end
end DL
namespace DL
open PySem PySem.Spec PyProof.Rows L2
theorem split_join_names {ns : List Str} (h0 : ns ≠ []) (h : ∀ n ∈ ns, isName n) : Txt.split (Txt.join "." ns) "." = ns := by
  apply TL.map_tl_inj
  show List.map cd _ = List.map cd _
  rw [split_cd, cd_join, sp_jn (by simpa using h0)]
  intro n hn hm
  obtain ⟨s, hs, rfl⟩ := List.mem_map.mp hn
  have := (h s hs).2.2 46 hm
  omega
end DL
namespace DL
open PySem PySem.Spec PyProof.Rows L2
section
variable {X : Cx} {K : PySem.W.Frag}
/-! x in y -/
def rInT (K : PySem.W.Frag) (neg : Bool) : R2 := fun x y H Q => ∃ d ds, Dp K H x d ∧ Dp K H y (.tuple ds) ∧ SeqAt.shaped d = true ∧ SeqAt.shaped (.tuple ds) = true ∧ Q (.bl (xb neg (ds.any fun z => PyData.eqv z d))) H
theorem op_inT (hu : X.A.units + 65 < cLine) : OpR X (compareOp .In) (rInT X.K false) := by
  intro pins s st H x y v u Q I rx ry h
  obtain ⟨d, ds, hd, he, sd, se, q⟩ := h
  obtain ⟨as, r1⟩ := Dp.reads I d x v hd rx
  obtain ⟨bs, r2⟩ := Dp.reads I (.tuple ds) y u he ry
  exact SeqAt.in_tuple_reads r2 r1 (SeqAt.canLay_of_shaped se) (SeqAt.canLay_of_shaped sd) (room_in_shaped sd hu) ⟨.bl _, H, I, rfl, q⟩
theorem op_notInT (hu : X.A.units + 65 < cLine) : OpR X (compareOp .NotIn) (rInT X.K true) := by
  intro pins s st H x y v u Q I rx ry h
  obtain ⟨d, ds, hd, he, sd, se, q⟩ := h
  obtain ⟨as, r1⟩ := Dp.reads I d x v hd rx
  obtain ⟨bs, r2⟩ := Dp.reads I (.tuple ds) y u he ry
  exact SeqAt.notIn_tuple_reads r2 r1 (SeqAt.canLay_of_shaped se) (SeqAt.canLay_of_shaped sd) (room_in_shaped sd hu) ⟨.bl _, H, I, rfl, q⟩
def rSign (neg : Bool) : R2 := fun x y H Q => ∃ (c : Nat) (z : Str), x = .str ⟨#[c]⟩ ∧ y = .str z ∧ Q (.bl (xb neg (decide (c ∈ z.cps.toList)))) H
def rInA (K : PySem.W.Frag) : R2 := fun x y H Q => rSign false x y H Q ∨ (rInD K x y H Q ∨ rInT K false x y H Q)
def rNotInA (K : PySem.W.Frag) : R2 := fun x y H Q => rSign true x y H Q ∨ (rNotInD K x y H Q ∨ rInT K true x y H Q)
theorem op_inA (hu : X.A.units + 65 < cLine) : OpR X (compareOp .In) (rInA X.K) := (show OpR X (compareOp .In) (rSign false) from op_in_sign).or ((op_inD hu).or (op_inT hu))
theorem op_notInA (hu : X.A.units + 65 < cLine) : OpR X (compareOp .NotIn) (rNotInA X.K) := (show OpR X (compareOp .NotIn) (rSign true) from op_notIn_sign).or ((op_notInD hu).or (op_notInT hu))
def oIn (neg : Bool) : O2 := fun x y Q => match y with
  | .str z => ∃ c : Nat, x = .str ⟨#[c]⟩ ∧ Q (.bool (xb neg (decide (c ∈ z.cps.toList))))
  | .lst ys => SeqAt.shaped x.py = true ∧ SeqAt.shaped (.list (pyA ys)) = true ∧ Q (.bool (xb neg ((pyA ys).any fun z => PyData.eqv z x.py)))
  | .tup ys => SeqAt.shaped x.py = true ∧ SeqAt.shaped (.tuple (pyA ys)) = true ∧ Q (.bool (xb neg ((pyA ys).any fun z => PyData.eqv z x.py)))
  | _ => False
theorem sr_in : SndR K (rInA K) (oIn false) := SndR.pure fun H Hs x y vx vy Q Q' s rx ry hq hd => by
  cases y <;> try exact hd.elim
  · obtain ⟨c, rfl, h⟩ := hd
    exact .inl ⟨c, _, rx, ry, hq (.bool _) _ rfl h⟩
  · next ys => exact .inr (.inr ⟨x.py, pyA ys, dp_mono s (rx.dpS hd.1), dp_mono s (Rp.dpS (d := .tup ys) ry hd.2.1), hd.1, hd.2.1, hq (.bool _) _ rfl hd.2.2⟩)
  · next ys => exact .inr (.inl ⟨x.py, pyA ys, dp_mono s (rx.dpS hd.1), dp_mono s (Rp.dpS (d := .lst ys) ry hd.2.1), hd.1, hd.2.1, hq (.bool _) _ rfl hd.2.2⟩)
theorem sr_notIn : SndR K (rNotInA K) (oIn true) := SndR.pure fun H Hs x y vx vy Q Q' s rx ry hq hd => by
  cases y <;> try exact hd.elim
  · obtain ⟨c, rfl, h⟩ := hd
    exact .inl ⟨c, _, rx, ry, hq (.bool _) _ rfl h⟩
  · next ys => exact .inr (.inr ⟨x.py, pyA ys, dp_mono s (rx.dpS hd.1), dp_mono s (Rp.dpS (d := .tup ys) ry hd.2.1), hd.1, hd.2.1, hq (.bool _) _ rfl hd.2.2⟩)
  · next ys => exact .inr (.inl ⟨x.py, pyA ys, dp_mono s (rx.dpS hd.1), dp_mono s (Rp.dpS (d := .lst ys) ry hd.2.1), hd.1, hd.2.1, hq (.bool _) _ rfl hd.2.2⟩)
theorem room65 {k : Nat} {A : Around} (r : Room k A) : A.units + 65 < cLine := by have := r.un; omega
theorem de_in {k : Nat} {a b : Expr} {pos : Pos} {da db : DT} (hr : Room k X.A) (ha : DE X a da) (hb : DE X b db) (hm : behindInMarks .In b = false := by rfl) : DE X (.Compare a [.In] [b] pos) (dOp (oIn false) da db) := de_cmp (op_inA (room65 hr)) sr_in ha hb hm
theorem dp_in {k : Nat} {a b : Expr} {pos : Pos} {da db : DT} (hr : Room k X.A) (ha : DE X a da) (hb : DE X b db) (hm : behindInMarks .In b = false := by rfl) : DP X (.Compare a [.In] [b] pos) (dTest (dOp (oIn false) da db)) := dp_cmp (op_inA (room65 hr)) sr_in ha hb hm
theorem dp_notIn {k : Nat} {a b : Expr} {pos : Pos} {da db : DT} (hr : Room k X.A) (ha : DE X a da) (hb : DE X b db) (hm : behindInMarks .NotIn b = false := by rfl) : DP X (.Compare a [.NotIn] [b] pos) (dTest (dOp (oIn true) da db)) := dp_cmp (op_notInA (room65 hr)) sr_notIn ha hb hm
/-! text * number -/
def CMulS (x : Str) (n : Int) : Prop := 0 ≤ n ∧ n ≤ 100000 ∧ x.length * n.toNat ≤ lim
theorem CMulS.ok {x : Str} {n : Int} (h : CMulS x n) : MulOk x n := by
  obtain ⟨h0, h1, h2⟩ := h
  refine ⟨?_, fun a b c => ?_, fun a b => ?_⟩
  · rw [decide_eq_false (by omega), decide_eq_false (by omega)]; rfl
  · have h3 : (x.length : Int) ≤ (2 ^ 63 - 1) / n := by
      rw [Int.le_ediv_iff_mul_le (by omega)]
      have e : (x.length : Int) * n = ((x.length * n.toNat : Nat) : Int) := by rw [Int.natCast_mul, Int.toNat_of_nonneg h0]
      rw [e]
      have : lim = 1000000 := rfl
      omega
    omega
  · unfold Builtin.Str.tooLong
    exact decide_eq_false (by have := lim_le h2; omega)
/-! {} and {k: v} -/
def dDict0 : DT := fun _ _ f Q => Q (.dct [] []) f
theorem de_dict0 {pos : Pos} : DE X (.Dict [] [] pos) dDict0 := .mk' (pe_dnewK) (fun g ro f st H Hs Q Q' A hq hd p hp => by
  have al : Stp none H Hs (upd H p (.dK [])) (upd Hs p (.dK [])) := Stp.alloc A.sub hp
  exact hq (.dct [] []) f _ _ _ al.gen (A.dk.stp al) ⟨p, [], rfl, upd_same, rfl, rfl⟩ hd)
def dDict1 (k v : DT) : DT := fun g r f Q => k g r f fun x f1 => v g r f1 fun y f2 => match x with
  | .str s => Q (.dct [.inr s] [y]) f2
  | _ => False
theorem de_dict1 {k v : Expr} {pos : Pos} {dk dv : DT} (hk : DE X k dk) (hv : DE X v dv) : DE X (.Dict [some k] [v] pos) (dDict1 dk dv) := .mk' (pe_disp (pps_cons hk.pe hv.pe pps_nil) (by rfl) (by rfl) (fun z => by cases z) (show 1 ≤ 15 by decide)) (fun g ro f st H Hs Q Q' A hq hd p hp => by
  have al : Stp none H Hs (upd H p (.dK [])) Hs := Stp.lay A.sub hp
  have nk := A.dk.out hp
  have A0 : At X.K g ro f st (upd H p (.dK [])) Hs := ⟨al.sub, A.dk.stp al, A.sl⟩
  refine hk.sn g ro f st _ Hs _ _ A0 (fun x f1 vx H1 Hs1 s1 k1 r1 q1 => hv.sn g ro f1 st H1 Hs1 _ _ (A0.step s1 k1) (fun y f2 vy H2 Hs2 s2 k2 r2 q2 => ?_) q1) hd
  cases x <;> try exact q2.elim
  next sx =>
  have st2 := (al.gen.trans s1).trans s2
  have e1 : H1 p = some (.dK []) := s1.keep p _ upd_same nk
  have e2 : H2 p = some (.dK []) := s2.keep p _ e1 nk
  have n0 : Hs p = none := same_none A.sub hp
  have n1 : Hs1 p = none := s1.new p _ upd_same n0
  have n2 : Hs2 p = none := s2.new p _ e1 n1
  refine ⟨e2, [(.inr sx, vy)], by rw [show vx = V.str sx from r1]; rfl, (by decide : 1 ≤ 15), ?_⟩
  have st3 : Stp g H Hs (upd H2 p (.dK [(.inr sx, vy)])) Hs2 := st2.mut hp n2
  have st4 := st3.share hp upd_same n2
  refine hq (.dct [.inr sx] [y]) f2 (.ref p) _ _ st4 ((k2.mut nk).share nk) ⟨p, [vy], rfl, upd_same, rfl, RpA.one (r2.mono fun b u e => ?_)⟩ q2
  rw [upd_ne (ne_of_none e n2)]
  exact e)
end
end DL
namespace DL
open PySem PySem.Spec PyProof.Rows L2
/-! instances of own classes -/
structure KC (K : PySem.W.Frag) (c : Str) (C : Addr) : Prop where
  ns : PySem.W.nsIn K mainGlobals c = some (some (.ref C))
  cls : Cls K C
theorem KC.uniq {K : PySem.W.Frag} {c : Str} {C C' : Addr} (k : KC K c C) (h : PySem.W.nsIn K mainGlobals c = some (some (.ref C'))) : C' = C := by
  have := k.ns
  rw [h] at this
  cases this
  rfl
section
variable {X : Cx} {K : PySem.W.Frag} {W : WX}
theorem lookup_zip {H : Hp} {f : Str} {y : D} : ∀ {ns : List Str} {xs : List D} {vs : List V}, RpA K H xs vs → (ns.zip xs).lookup f = some y → ∃ v, (ns.zip vs).lookup f = some v ∧ Rp K H y v
  | [], _, _, _, h => by simp at h
  | _ :: _, [], _, _, h => by simp at h
  | n :: ns, x :: xs, _, ⟨v, r, h1, h2, h3⟩, h => by
    subst h1
    rw [List.zip_cons_cons, List.lookup_cons] at h ⊢
    cases e : f == n with
    | true => rw [e] at h; cases h; exact ⟨v, rfl, h2⟩
    | false => rw [e] at h; exact lookup_zip h3 h
theorem lookup_zip_none {f : Str} : ∀ {ns : List Str} {vs : List V}, f ∉ ns → (ns.zip vs).lookup f = none
  | [], _, _ => by simp
  | _ :: _, [], _ => by simp
  | n :: ns, v :: vs, h => by
    rw [List.zip_cons_cons, List.lookup_cons]
    have : (f == n) = false := beq_eq_false_iff_ne.mpr fun e => h (by simp [e])
    rw [this]
    exact lookup_zip_none fun e => h (by simp [e])
theorem putF_new {f : Str} {v : V} : ∀ {ns : List Str} {vs : List V}, ns.length = vs.length → f ∉ ns → putF f v (ns.zip vs) = (ns ++ [f]).zip (vs ++ [v])
  | [], [], _, _ => rfl
  | n :: ns, w :: vs, hl, h => by
    have e : n ≠ f := fun e => h (by simp [e])
    show (if n = f then _ else _) = _
    rw [if_neg e]
    show (n, w) :: putF f v (ns.zip vs) = _
    rw [putF_new (by simpa using hl) fun e => h (by simp [e])]
    rfl
/-! e.f -/
def dFld (c f : Str) (dl : DT) : DT := fun g r n Q => dl g r n fun d n1 => match d with
  | .obj c' ns xs => c' = c ∧ ∃ y, (ns.zip xs).lookup f = some y ∧ Q y n1
  | _ => False
theorem snd_fld {c f : Str} {C : Addr} {t : TE} {d : DT} (k : KC K c C) (n : NoAttr K C f) (h : Snd K t d) : Snd K (tFld K t f) (dFld c f d) := fun g r fu st H Hs Q Q' A hq hd =>
  h g r fu st H Hs _ _ A (fun x f1 v H1 Hs1 s1 k1 r1 q1 => by
    cases x <;> try exact q1.elim
    obtain ⟨rfl, y, hy, q1⟩ := q1
    obtain ⟨C', a, dx, vs, h0, rfl, h2, h3, h4, h5⟩ := r1
    cases k.uniq h0
    obtain ⟨w, hw, rw'⟩ := lookup_zip h5 hy
    exact ⟨a, C, dx, _, w, rfl, s1.sub _ _ h2, k.cls, n, hw, hq y f1 w H1 Hs1 s1 k1 rw' q1⟩) hd
theorem de_fld {c f : Str} {C : Addr} {e : Expr} {pos : Pos} {d : DT} (k : KC X.K c C) (n : NoAttr X.K C f) (h : DE X e d) (hb : attributeBase e f X.env (eval e X.env) = eval e X.env := by rfl) : DE X (.Attribute e f pos) (dFld c f d) :=
  .mk' (pe_fld h.pe hb) (snd_fld k n h.sn)
/-! self.f = e under __init__ -/
def sFldO (m : Bool) (i : Nat) (c f : Str) (dl : DT) : DTS := fun g r n E => ∃ a ns xs, r[i]? = some (.oi a c ns xs) ∧ f ∉ ns ∧ ns.length < 900 ∧ evM m dl g r n fun d n' => E.nx (r.set i (.oi a c (ns ++ [f]) (xs ++ [d]))) n'
theorem snd_fldO {m : Bool} {i : Nat} {c f : Str} {C : Addr} {t : TE} {d : DT} (k : KC K c C) (n : NoAttr K C f) (h : Snd K t d) : SndS K W (sFld K (tVar i) t f) (sFldO m i c f d) := fun g H0 Hs0 r fu st H D E s e hd => by
  obtain ⟨Hs, s⟩ := s
  obtain ⟨a, ns, xs, hx, hf, hl, hd⟩ := hd
  refine snd_evM h s (fun d f' v H' Hs' s' _ hr q => ?_) hd
  obtain ⟨_, ha, n1, n0, rfl, C', dx, vs, h0, q1, q2, q3, q4, q5, q6⟩ := s'.ow i _ hx rfl
  cases k.uniq h0
  have ho : Owned r st a := ⟨i, _, hx, rfl, ha⟩
  have hne : dx ≠ a := fun z => s'.notOwnedDx q2 (z ▸ ho)
  refine ⟨.ref a, ha, a, C, dx, ns.zip vs, rfl, q1, k.cls, n, ?_, e.nx _ f' st _ ⟨Hs', ?_⟩ q⟩
  · rw [List.length_zip]; omega
  · refine s'.mutOwn (u := .oi a c (ns ++ [f]) (xs ++ [d])) hx rfl ha rfl ⟨rfl, C, dx, vs ++ [v], h0, ?_, by rw [upd_ne hne]; exact q2, q3, q4, by simp [q5], q6.append (RpA.one hr)⟩
    rw [upd_same, putF_new q5 hf]
theorem ds_fldO (m : Bool) {i : Nat} {c f x : Str} {C : Addr} {e : Expr} {px apos pos : Pos} {d : DT} (k : KC X.K c C) (n : NoAttr X.K C f) (h : DE X e d) (hN : X.N[i]? = some x := by rfl) (hv : Vis X.env.scope x := by first | exact Or.inl rfl | exact Or.inr (Or.inl rfl) | exact Or.inr (Or.inr rfl)) (hd : (x == ("__debug__" : Str)) = false := by decide)
    (hcd : (x == ("__classdict__" : Str)) = false := by decide) (hs : swapsWith e (some (.Attribute (.Name x px) f apos)) pos.line X.env = pure false := by rfl) : DS X (.Assign [.Attribute (.Name x px) f apos] e pos) (sFldO m i c f d) :=
  .mk' (ps_fld (pe_var hN hv hd hcd) h.pe hs) (snd_fldO k n h.sn)
/-! C(..) -/
/-- the instance under __init__ is shared -/
theorem SIn.shareO {g : Option Dk} {H0 Hs0 : Hp} {r : Sg} {f : Nat} {st : L2.St} {H Hs : Hp} (s : SIn K g H0 Hs0 r f st H Hs) {i : Nat} {c : Str} {ns : List Str} {xs : List D} {a : Addr} (hi : r[i]? = some (.oi a c ns xs)) :
    ∃ Hs', Stp g H0 Hs0 H Hs' ∧ DkOk g H Hs' f ∧ Rp K Hs' (.obj c ns xs) (.ref a) := by
  obtain ⟨_, ha, n1, n0, rfl, C, dx, vs, h0, q1, q2, q3, q4, q5, q6⟩ := s.ow i _ hi rfl
  have ho : Owned r st a := ⟨i, _, hi, rfl, ha⟩
  have hne : dx ≠ a := fun z => s.notOwnedDx q2 (z ▸ ho)
  have na : (upd Hs dx (.own a)) a = none := by rw [upd_ne fun z => hne z.symm]; exact n1
  refine ⟨upd (upd Hs dx (.own a)) a (.ins C dx (ns.zip vs)), (s.stp.share q4 q2 q3).share n0 q1 na, (s.dk.share (s.dkDx q4)).share (s.notDk ho), C, a, dx, vs, h0, rfl, upd_same, by rw [upd_ne hne, upd_same], q5, q6.mono fun b u e => ?_⟩
  rw [upd_ne (ne_of_none e n1), upd_ne (ne_of_none e q3)]
  exact e
/-! a def __init__ -/
def startI (n : Nat) (a : Addr) (c : Str) (ds : List D) : Sg := .oi a c [] [] :: (ds.map .sh ++ List.replicate (n - ds.length) .no)
variable {P : Program} {w : World} {mg : Str → Option Value} {base : Heap}
end
/-! methods, properties, in -/
def CalM (P : Program) (w : World) (K : PySem.W.Frag) (mg : Str → Option Value) (base : Heap) (k : Nat) (c m : Str) (ps : List Str) (S : DSp) : Prop :=
  ∃ C f fd, KC K c C ∧ Meth K C m f ∧ FnOk P w K mg base CX0 k f fd ps (spOf K S) ∧ Binds K fd ps []
def CalP (P : Program) (w : World) (K : PySem.W.Frag) (mg : Str → Option Value) (base : Heap) (k : Nat) (c m : Str) (ps : List Str) (S : DSp) : Prop :=
  ∃ C p f fd, KC K c C ∧ PropOf K C m p f ∧ FnOk P w K mg base CX0 k f fd ps (spOf K S) ∧ Binds K fd ps []
section
variable {X : Cx} {K : PySem.W.Frag} {W : WX}
def dMeth (c m : Str) (S : DSp) (o : DT) (t : DTA) : DT := fun g r n Q => o g r n fun d n1 => match d with
  | .obj c' ns xs => c' = c ∧ m ∉ ns ∧ t g r n1 fun ds n2 => S g (.obj c' ns xs :: ds) n2 Q
  | _ => False
theorem snd_meth {c m : Str} {C : Addr} {S : DSp} {E : XK} {to : TE} {t : TA} {o : DT} {d : DTA} (k : KC K c C) (ho : Snd K to o) (ht : SndA K t d) : Snd K (tMeth C m (spOf K S) [] E to t) (dMeth c m S o d) := fun g ro f st H Hs Q Q' A hq hd =>
  ho g ro f st H Hs _ _ A (fun x f1 v H1 Hs1 s1 k1 r1 q1 => by
    cases x <;> try exact q1.elim
    next c' ns xs =>
    obtain ⟨rfl, hm, q1⟩ := q1
    have r0 := r1
    obtain ⟨C', a, dx, vs, h0, rfl, h2, h3, h4, h5⟩ := r1
    cases k.uniq h0
    refine ⟨a, dx, _, rfl, s1.sub _ _ h2, lookup_zip_none hm, ht g ro f1 st H1 Hs1 _ _ (A.step s1 k1) (fun ds f2 us H2 Hs2 s2 k2 r2 q2 => ?_) q1⟩
    show spOf K S (.ref a :: (us ++ [])) H2 Q E
    rw [List.append_nil]
    exact ⟨g, Hs2, .obj c' ns xs :: ds, f2, Q', s2.sub, k2, ⟨_, _, rfl, r0.mono s2.ext, r2⟩, q2, fun d f' v H' Hs' s3 k3 r3 q3 => hq d f' v H' Hs' ((s1.trans s2).trans s3) k3 r3 q3⟩) hd
theorem de_meth {c m : Str} {k : Nat} {ps : List Str} {S : DSp} {o : Expr} {apos pos : Pos} {e : Expr} {es : List Expr} {d : DT} {da : DTA} (cm : CalM X.prog X.w X.K X.mg X.base k c m ps S) (hr : Room k X.A) (ho : DE X o d) (ha : DA X (e :: es) da)
    (hst : starEach (e :: es) X.env = (false, eval e X.env) :: starEach es X.env := by rfl) (hpl : (backTo pos (starEach es X.env)).any (·.1) = false := by rfl) {pl : Sem Bool}
    (ht : eval (.Call (.Attribute o m apos) (e :: es) [] pos) X.env = (do
      let ov ← eval o X.env
      standAt apos.atName
      let (f, first) ← holding [ov] (getMethod ov m pl)
      callWith pos f first (backTo pos (starEach (e :: es) X.env)) (backToKw pos (keywordEach [] X.env))) := by rfl) : DE X (.Call (.Attribute o m apos) (e :: es) [] pos) (dMeth c m S d da) := by
  obtain ⟨C, f, fd, kc, M, F, hb⟩ := cm
  exact .mk' (pe_meth (pl := pl) ho.pe kc.cls M F hr hb .nil pass0 ha.pa hst hpl ht) (snd_meth kc ho.sn ha.sn)
def dProp (c : Str) (S : DSp) (o : DT) : DT := fun g r n Q => o g r n fun d n1 => match d with
  | .obj c' ns xs => c' = c ∧ S g [.obj c' ns xs] n1 Q
  | _ => False
theorem snd_prop {c : Str} {C : Addr} {S : DSp} {E : XK} {to : TE} {o : DT} (k : KC K c C) (ho : Snd K to o) : Snd K (tProp C (spOf K S) [] E to) (dProp c S o) := fun g ro f st H Hs Q Q' A hq hd =>
  ho g ro f st H Hs _ _ A (fun x f1 v H1 Hs1 s1 k1 r1 q1 => by
    cases x <;> try exact q1.elim
    next c' ns xs =>
    obtain ⟨rfl, q1⟩ := q1
    have r0 := r1
    obtain ⟨C', a, dx, vs, h0, rfl, h2, h3, h4, h5⟩ := r1
    cases k.uniq h0
    exact ⟨a, dx, _, rfl, s1.sub _ _ h2, g, Hs1, [.obj c' ns xs], f1, Q', s1.sub, k1, RpA.one r0, q1, fun d f' v H' Hs' s3 k3 r3 q3 => hq d f' v H' Hs' (s1.trans s3) k3 r3 q3⟩) hd
theorem de_prop {c m : Str} {k : Nat} {ps : List Str} {S : DSp} {o : Expr} {pos : Pos} {d : DT} (cp : CalP X.prog X.w X.K X.mg X.base k c m ps S) (hr : Room (k + 1) X.A) (ho : DE X o d) (hb' : attributeBase o m X.env (eval o X.env) = eval o X.env := by rfl) : DE X (.Attribute o m pos) (dProp c S d) := by
  obtain ⟨C, p, f, fd, kc, M, F, hb⟩ := cp
  exact .mk' (pe_prop ho.pe kc.cls M F hr hb .nil pass0 hb') (snd_prop kc ho.sn)
/-! x in o, by the class's own __contains__ -/
def rInO (C : Addr) (sp : Sp) (neg : Bool) : R2 := fun x y H Q => ∃ a dx fs, y = .ref a ∧ H a = some (.ins C dx fs) ∧ sp [.ref a, x] H (fun v H' => ∃ b, v = .bl b ∧ Q (.bl (xb neg b)) H') E0
theorem contains_own {C f : Addr} {k : Nat} {fd : FuncData} {ps : List Str} {sp : Sp} (M : Meth X.K C "__contains__" f) (F : FnOk X.prog X.w X.K X.mg X.base CX0 k f fd ps sp) (hr : Room k X.A) (hb : Binds X.K fd ps []) {pins : List (Addr × Obj)} {s : Shared} {st : L2.St} {H : Hp} {x : V} {v : Value} {a dx : Addr} {fs : List (Str × V)} {Q : Bool → Shared → Prop}
    (I : Inv X pins st H s) (rx : RelV x v) (ea : H a = some (.ins C dx fs)) {Q0 : Bool → Hp → Prop} (h : sp [.ref a, x] H (fun v H' => ∃ b, v = .bl b ∧ Q0 b H') E0) (hq : ∀ b H' s', Inv X pins st H' s' → Q0 b H' → Q b s') :
    wpAny (model X.prog X.w) X.A (contains (.ref a) v) Q X.xe s := by
  obtain ⟨mA, O, _⟩ := ins_get I.hok ea
  obtain ⟨od, J, _⟩ := O.look
  unfold contains
  refine wpAny_holding (wpAny_bind (wpAny_bind (J.type.here ((PySem.W.looks_findIn I.kIn M.at_).here ?_))))
  rw [if_neg (by simp)]
  refine wpAny_bind (PySem.W.unlessNone_K I.kIn J M.at_ M.fn (thn (run_fn (vs := [.ref a, x]) F hr hb .nil pass0 I (.cons rfl (.cons rx .nil)) h) fun u s1 ⟨w, H1, I1, r1, b, hb', q⟩ => ?_))
  subst hb'
  cases (show u = Value.bool b from r1)
  exact wpAny_truthy_bool (hq b H1 s1 I1 q)
theorem op_inO {C f : Addr} {k : Nat} {fd : FuncData} {ps : List Str} {sp : Sp} (M : Meth X.K C "__contains__" f) (F : FnOk X.prog X.w X.K X.mg X.base CX0 k f fd ps sp) (hr : Room k X.A) (hb : Binds X.K fd ps []) : OpR X (compareOp .In) (rInO C sp false) := by
  intro pins s st H x y v u Q I rx ry h
  obtain ⟨a, dx, fs, rfl, ea, h⟩ := h
  cases (show u = Value.ref a from ry)
  exact wpAny_bind (contains_own M F hr hb I rx ea h fun b H' s' I' q => wpAny_pure ⟨.bl b, H', I', rfl, q⟩)
def oInO (c : Str) (S : DSp) (neg : Bool) : O2 := fun x y Q => match y with
  | .obj c' ns xs => c' = c ∧ S none [.obj c' ns xs, x] 0 (fun z _ => ∃ b, z = .bool b ∧ Q (.bool (xb neg b)))
  | _ => False
theorem sr_inO {c : Str} {C : Addr} {S : DSp} {neg : Bool} (k : KC K c C) : SndR K (rInO C (spOf K S) neg) (oInO c S neg) := fun H Hs x y vx vy Q Q' s rx ry hq hd => by
  cases y <;> try exact hd.elim
  next c' ns xs =>
  obtain ⟨rfl, q⟩ := hd
  have r0 := ry
  obtain ⟨C', a, dx, vs, h0, rfl, h2, h3, h4, h5⟩ := ry
  cases k.uniq h0
  refine ⟨a, dx, _, rfl, s _ _ h2, none, Hs, [.obj c' ns xs, x], 0, _, s, trivial, ⟨_, _, rfl, r0, RpA.one rx⟩, q, fun d f' v H' Hs' p k r q => ?_⟩
  obtain ⟨b, rfl, q⟩ := q
  exact ⟨b, r, hq (.bool _) (.bl _) H' Hs' p rfl q⟩
theorem de_inO {c : Str} {k : Nat} {ps : List Str} {S : DSp} {a b : Expr} {pos : Pos} {da db : DT} (cm : CalM X.prog X.w X.K X.mg X.base k c "__contains__" ps S) (hr : Room k X.A) (ha : DE X a da) (hb : DE X b db) (hm : behindInMarks .In b = false := by rfl) :
    DE X (.Compare a [.In] [b] pos) (dOp (oInO c S false) da db) := by
  obtain ⟨C, f, fd, kc, M, F, hb'⟩ := cm
  exact de_cmp (op_inO M F hr hb') (sr_inO kc) ha hb hm
/-! isinstance with instances of own classes among the values -/
structure KTy (K : PySem.W.Frag) (C : Addr) : Prop where
  ha : PySem.W.findIn K (.ref C) "__class__" = some (some (.builtin "object.__class__"))
  hn : PySem.W.specialIn K (.builtin "object.__class__") "__get__" = some (some (.builtin "getset_descriptor.__get__"))
  htk : PySem.W.takesIn K (.builtin "object.__class__") = some true
  hm : PySem.W.mroIn K C (.type "object") = some true
end
end DL
namespace DL
open PySem PySem.Spec PyProof.Rows L2
/-! sorted(..) of data that can be compared: a list, a tuple, a dict's keys -/
section
variable {prog : Program} {w : World} {A : Around} {E : Value → Shared → Prop} {s : Shared}
theorem collect_tup {l : Addr} {vs : List Value} {Q : List Value → Shared → Prop} (hl : IsTup s.heap l vs.toArray)
    (h : Q vs { s with heap := (s.heap.push (seqObj "list" #[] 0)).update s.heap.objs.size (Obj.mapSeq (· ++ vs.toArray)) }) (hsz : vs.length ≤ sizeLine) :
    wpAny (model prog w) A (collect (.ref l)) Q E s := by
  obtain ⟨o, ho, hc, n, hd⟩ := id hl
  unfold collect
  refine wpAny_bind (wpAny_runValue (codeAny_builtin entry_proto_collect' ?_))
  show wpAny _ _ (do again (.builtin "list.__iadd__" ⟨[← newList [], .ref l], []⟩)) _ _ s
  refine wpAny_bind (wpAny_newList (wpAny_pure ⟨Code.quiet_builtin _ (by decide +kernel), codeAny_builtin entry_list_iadd' ?_⟩))
  show wpAny _ _ (Builtin.List.listExtendWith (.ref s.heap.objs.size) (.ref l) (.ref s.heap.objs.size)) _ _ { s with heap := s.heap.push (seqObj "list" #[] 0) }
  unfold Builtin.List.listExtendWith
  have ho' : (s.heap.push (seqObj "list" #[] 0)).get? l = some o := Heap.get?_push_of_some _ ho
  refine wpAny_bind (wpAny_typeOf (T := "tuple") ⟨o, ho', hc⟩ ?_)
  have ht : (Value.type "tuple" == Value.type "tuple") = true := by rfl
  rw [if_pos (by rw [ht]; simp)]
  refine wpAny_bind (listItems_at ho' hd ?_)
  refine wpAny_bind (listItems_at (xs := #[]) (n := 0) (Heap.get?_push_size _ rfl) rfl ?_)
  rw [if_neg (by simp)]
  refine wpAny_bind (listUpdate_at (xs := #[]) (n := 0) (Heap.get?_push_size _ rfl) rfl ?_ (Nat.zero_le _) (by show (#[] ++ vs.toArray).size ≤ sizeLine + 1; simp only [Array.size_append, List.size_toArray, List.length_nil]; omega))
  refine wpAny_pure ?_
  show wpAny (model prog w) A (do
      let o ← load s.heap.objs.size
      match o.data with
      | .seq xs _ => pure xs.toList
      | _ => unsupported "internal:collect") Q E { s with heap := (s.heap.push (seqObj "list" #[] 0)).update s.heap.objs.size (Obj.mapSeq (· ++ vs.toArray)) }
  refine wpAny_bind (wpAny_load (get?_update_seq (Heap.get?_push_size _ rfl) _) ?_)
  show wpAny _ _ (pure ((#[] : Array Value) ++ vs.toArray).toList) Q E _
  rw [show ((#[] : Array Value) ++ vs.toArray).toList = vs by simp]
  exact wpAny_pure h
theorem copied_old {h : Heap} {vs : List Value} {b : Addr} {o : Obj} (e : h.get? b = some o) : ((h.push (seqObj "list" #[] 0)).update h.objs.size (Obj.mapSeq (· ++ vs.toArray))).get? b = some o := by
  rw [Heap.get?_update_ne _ _ _ _ (Nat.ne_of_lt (Heap.lt_size e))]
  exact Heap.get?_push_of_some _ e
end
mutual
theorem reads_lt {h : Heap} : ∀ {v : Value} {d : PyData} {as : List Addr}, Reads h v d as → ∀ x ∈ as, x < h.objs.size
  | _, _, _, .none, x, hx => by cases hx
  | _, _, _, .bool b, x, hx => by cases hx
  | _, _, _, .int i t, x, hx => by cases hx
  | _, _, _, .str y t, x, hx => by cases hx
  | _, _, _, .list h1 h2 h3 h4, x, hx => by
    rcases List.mem_cons.mp hx with rfl | hx
    · exact Heap.lt_size h1
    · exact readsA_lt h4 x hx
  | _, _, _, .tuple h1 h2 h3 h4, x, hx => readsA_lt h4 x hx
  | _, _, _, .dict h1 h2 h3 h4 h5, x, hx => by
    rcases List.mem_append.mp hx with hx | hx
    · rcases List.mem_cons.mp hx with rfl | hx
      · exact Heap.lt_size h1
      · exact readsA_lt h4 x hx
    · exact readsA_lt h5 x hx
theorem readsA_lt {h : Heap} : ∀ {vs : List Value} {ds : List PyData} {as : List Addr}, ReadsAll h vs ds as → ∀ x ∈ as, x < h.objs.size
  | _, _, _, .nil, x, hx => by cases hx
  | _, _, _, .cons h1 h2, x, hx => by
    rcases List.mem_append.mp hx with hx | hx
    · exact reads_lt h1 x hx
    · exact readsA_lt h2 x hx
end
def Src (K : PySem.W.Frag) (H : Hp) (a : Addr) (xs : List V) : Prop := SqL K H a xs ∨ SqT K H a xs ∨ ∃ kvs : List (Key × V), Rd H a (.dK kvs) ∧ xs = kvs.map fun kv => kV kv.1
section
variable {X : Cx} {pins : List (Addr × Obj)} {st : L2.St} {H : Hp} {s : Shared}
theorem collect_src {a : Addr} {xs : List V} {A : Around} {R : List Value → Shared → Prop} {E : Value → Shared → Prop} (I : Inv X pins st H s) (hc : A.handled = none) (h : Src X.K H a xs) (hl : xs.length ≤ sizeLine)
    (q : ∀ (h' : Heap) (tk : Nat) (us : List Value), (∀ b o, s.heap.get? b = some o → h'.get? b = some o) → Vals xs us → R us { s with heap := h', toks := tk }) : wpAny (model X.prog X.w) A (collect (.ref a)) R E s := by
  rcases h with h | h | ⟨kvs, h, rfl⟩
  · obtain ⟨its, rv, hp, hz⟩ := I.list h
    exact collect_list hp.isList (q _ _ its (fun b o e => copied_old e) rv) (by rw [← rv.length]; exact hz)
  · obtain ⟨its, rv, hp, hz⟩ := I.tuple h
    exact collect_tup hp (q _ _ its (fun b o e => copied_old e) rv) (by rw [← rv.length]; exact hz)
  · obtain ⟨z, lo, vs, rel, dd⟩ := dk_rd I.hok h
    obtain ⟨ep, hat⟩ := dd.dictAt
    have ek : (kvs.map fun kv => kV kv.1) = vs.map fun p => kV p.1 := by
      have e := congrArg (List.map kV) rel.keys
      rw [List.map_map, List.map_map] at e
      exact e
    refine PySem.W.kdu_collect (PySem.W.kdl_dict (knd := mixKind X.prog X.w) (kvs := vs) (ep := ep) lo) hc hat (by rw [← rel.length]; exact z) fun h' tk acc hk hacc => ?_
    refine q h' tk acc.toList hk ?_
    rw [ek]
    refine keys_at (by rw [Array.length_toList, hacc.1]) fun j v e => ?_
    exact hacc.2 j v (by rw [← Array.getElem?_toList]; exact e)
def rSortA (K : PySem.W.Frag) : List V → Hp → VK → Prop := fun vs H Q => ∃ (a : Addr) (bs : List (V × PyData)), vs = [.ref a] ∧ Src K H a (bs.map (·.1)) ∧ bs.length ≤ lim ∧ (∀ b ∈ bs, Dp K H b.1 b.2) ∧ PySem.W.AllAlike (bs.map (·.2)) ∧ PySem.W.Sortable (bs.map (·.2)) ∧ (∀ b ∈ bs, b.2.depth ≤ 30) ∧
  ∀ p, H p = none → Q (.ref p) (upd H p (.lst ((bs.mergeSort (PySem.W.dataLe false (·.2))).map (·.1))))
theorem each_vals : ∀ {bs : List (V × PyData)} {us : List Value}, Vals (bs.map (·.1)) us → PySem.W.EachIs (fun v (b : V × PyData) => RelV b.1 v) us bs
  | [], _, h => by cases h; exact .nil
  | b :: bs, _, h => by
    rw [List.map_cons] at h
    cases h with
    | cons r t => exact .cons r (each_vals t)
theorem vals_each : ∀ {bs : List (V × PyData)} {us : List Value}, PySem.W.EachIs (fun v (b : V × PyData) => RelV b.1 v) us bs → Vals (bs.map (·.1)) us
  | [], _, h => by cases h; exact .nil
  | b :: bs, _, h => by
    cases h with
    | cons r t => exact .cons r (vals_each t)
theorem cr_sortA (hc : X.calm = true) (hu : X.A.units + 64 < cLine) : CallR X (.builtin "sorted") (rSortA X.K) := by
  intro pins s st H vs us Q I r h
  obtain ⟨a, bs, rfl, hs, hl, hdp, hal, hk, hde, q⟩ := h
  rw [Vals.ref1 r]
  refine Calls.call_function_entry PyProof.Rows.kind_sorted PyProof.Rows.plain_sorted PyProof.Rows.entry_sorted (PyProof.Rows.args_sorted1 _) ?_
  unfold Builtin.«sorted»
  refine wpAny_bind (m := checkCount "sorted" 1 1 _) (wpAny_pure ?_)
  have hL : bs.length ≤ sizeLine := lim_le hl
  refine wpAny_bind (collect_src (A := X.A.in1) I (I.ok.hd hc) hs (by rw [List.length_map]; exact hL) fun h' tk ws keep rv => ?_)
  have I1 : Inv X pins st H { s with heap := h', toks := tk } := I.kept keep
  have hwl : ws.length = bs.length := by rw [← rv.length, List.length_map]
  refine wpAny_bind (wpAny_newList ?_ (by rw [hwl]; exact hL))
  have hoL : (h'.push (seqObj "list" ws.toArray 0)).get? h'.objs.size = some (seqObj "list" ws.toArray 0) := Heap.get?_push_size _ rfl
  show wpAny _ _ _ _ _ { s with heap := h'.push (seqObj "list" ws.toArray 0), toks := tk }
  have e := each_vals rv
  have er : PySem.W.EachIs (fun v (b : V × PyData) => ∃ as, Reads (h'.push (seqObj "list" ws.toArray 0)) v b.2 as ∧ h'.objs.size ∉ as) ws bs := by
    refine (PySem.W.each_mem e).mono fun v b ⟨rb, hb⟩ => ?_
    obtain ⟨as, ra⟩ := Dp.reads I1 b.2 b.1 v (hdp b hb) rb
    refine ⟨as, PyProof.Rows.Reads.keeps (fun _ _ z => Heap.get?_push_of_some _ z) ra, fun z => ?_⟩
    exact Nat.lt_irrefl _ (reads_lt ra _ z)
  refine wpAny_bind (wpAny_holding (PySem.W.list_sort_data (A := X.A.in1) (s := { s with heap := h'.push (seqObj "list" ws.toArray 0), toks := tk }) hoL e er hal hk hL (fun b hb => ?_) fun out ho hout => ?_))
  · have := hde b hb
    show X.A.units + 1 + 1 + b.2.depth < cLine
    omega
  · obtain ⟨e', he'⟩ := PyProof.Rows.sortedHeap_at (vs := ws) (out := out.toArray) hoL
    have hv := vals_each hout
    have hlen : ((bs.mergeSort (PySem.W.dataLe false (·.2))).map (·.1)).length ≤ sizeLine := by rw [List.length_map, List.length_mergeSort]; exact hL
    refine wpAny_pure ⟨_, rfl, .ref h'.objs.size, upd H h'.objs.size (.lst _), I1.laid (t' := tk) (fun b u e => ?_) (Nat.le_refl _)
      (show ObjOk X.prog X.w _ _ _ (.lst _) from ⟨hlen, out, e', hv, he'⟩), rfl, q _ (I1.hok.fresh (Nat.le_refl _))⟩
    have hb : b < h'.objs.size := Heap.lt_size e
    rw [PyProof.Rows.sortedHeap_old (Nat.ne_of_lt hb) (by rw [size_push']; exact Nat.lt_succ_of_lt hb)]
    exact Heap.get?_push_of_some _ e
variable {K : PySem.W.Frag}
def sortD (xs : List D) : List D := xs.mergeSort (PySem.W.dataLe false D.py)
structure Sorts (xs : List D) : Prop where
  len : xs.length ≤ lim
  lay : PyData.canLayAll0 (pyA xs) = true
  al : PySem.W.AllAlike (xs.map D.py)
  so : PySem.W.Sortable (xs.map D.py)
  dep : ∀ x ∈ xs, x.py.depth ≤ 30
def keyD : Key → D
  | .inl i => .int i
  | .inr x => .str x
def oSorted : OA := fun ds Q => match ds with
  | [.lst xs] => Sorts xs ∧ Q (.lst (sortD xs))
  | [.tup xs] => Sorts xs ∧ Q (.lst (sortD xs))
  | [.dct ks _] => Sorts (ks.map keyD) ∧ Q (.lst (sortD (ks.map keyD)))
  | _ => False
theorem RpA.zip_snd {H : Hp} : ∀ {ds : List D} {vs : List V}, RpA K H ds vs → (vs.zip (ds.map D.py)).map (·.1) = vs ∧ (vs.zip (ds.map D.py)).map (·.2) = ds.map D.py ∧ (vs.zip ds).map (fun p => (p.1, p.2.py)) = vs.zip (ds.map D.py) ∧ (vs.zip ds).map (·.2) = ds
  | [], _, h => by cases h; exact ⟨rfl, rfl, rfl, rfl⟩
  | d :: ds, _, ⟨v, r, h1, h2, h3⟩ => by
    subst h1
    obtain ⟨e1, e2, e3, e4⟩ := RpA.zip_snd h3
    simp [e1, e2, e3, e4]
theorem RpA.zip_rp {H : Hp} : ∀ {ds : List D} {vs : List V}, RpA K H ds vs → ∀ p ∈ vs.zip ds, Rp K H p.2 p.1
  | [], _, h, p, hp => by cases h; simp at hp
  | d :: ds, _, ⟨v, r, h1, h2, h3⟩, p, hp => by
    subst h1
    rw [List.zip_cons_cons] at hp
    rcases List.mem_cons.mp hp with rfl | hp
    · exact h2
    · exact RpA.zip_rp h3 p hp
theorem RpA.of_pairs {H : Hp} : ∀ (l : List (V × D)), (∀ p ∈ l, Rp K H p.2 p.1) → RpA K H (l.map (·.2)) (l.map (·.1))
  | [], _ => rfl
  | p :: l, h => ⟨_, _, rfl, h p (by simp), RpA.of_pairs l fun q hq => h q (by simp [hq])⟩
theorem lay_mem {xs : List D} (h : PyData.canLayAll0 (pyA xs) = true) : ∀ x ∈ xs, x.py.canLay0 = true := by
  induction xs with
  | nil => intro x hx; cases hx
  | cons y ys ih =>
    intro x hx
    have h' : y.py.canLay0 = true ∧ PyData.canLayAll0 (pyA ys) = true := Bool.and_eq_true_iff.mp h
    rcases List.mem_cons.mp hx with rfl | hx
    · exact h'.1
    · exact ih h'.2 x hx
theorem sort_core {H Hs : Hp} {xs : List D} {vs : List V} {a : Addr} {Q : VK} {Q' : D → Prop} (s : Same Hs H) (rx : RpA K Hs xs vs) (hs : Sorts xs) (src : Src K H a vs)
    (hq : ∀ z v H' Hs', Stp none H Hs H' Hs' → Rp K Hs' z v → Q' z → Q v H') (q : Q' (.lst (sortD xs))) : rSortA K [.ref a] H Q := by
  obtain ⟨e1, e2, e3, e4⟩ := rx.zip_snd
  have hlen := rx.length
  refine ⟨a, vs.zip (xs.map D.py), rfl, by rw [e1]; exact src, ?_, fun b hb => ?_, by rw [e2]; exact hs.al, by rw [e2]; exact hs.so, fun b hb => ?_, fun p hp => ?_⟩
  · rw [List.length_zip, List.length_map, hlen, Nat.min_self, ← hlen]; exact hs.len
  · rw [← e3] at hb
    obtain ⟨p, hp, rfl⟩ := List.mem_map.mp hb
    have hd : p.2 ∈ xs := by rw [← e4]; exact List.mem_map_of_mem hp
    exact dp_mono s ((rx.zip_rp p hp).dp _ _ (lay_mem hs.lay _ hd))
  · have : b.2 ∈ xs.map D.py := by rw [← e2]; exact List.mem_map_of_mem hb
    obtain ⟨x, hx, e⟩ := List.mem_map.mp this
    rw [← e]
    exact hs.dep x hx
  · have m1 : ((vs.zip xs).mergeSort (fun p q => PySem.W.dataLe false D.py p.2 q.2)).map (fun p => (p.1, p.2.py)) = (vs.zip (xs.map D.py)).mergeSort (PySem.W.dataLe false (·.2)) := by
      rw [← e3]
      exact List.map_mergeSort fun _ _ _ _ => rfl
    have m2 : ((vs.zip xs).mergeSort (fun p q => PySem.W.dataLe false D.py p.2 q.2)).map (·.2) = sortD xs := by
      unfold sortD
      conv => rhs; rw [← e4]
      exact List.map_mergeSort fun _ _ _ _ => rfl
    rw [← m1, List.map_map]
    have al : Stp none H Hs (upd H p (.lst (List.map ((fun x : V × PyData => x.1) ∘ fun p : V × D => (p.1, p.2.py)) ((vs.zip xs).mergeSort (fun p q => PySem.W.dataLe false D.py p.2 q.2))))) (upd Hs p (.lst (List.map ((fun x : V × PyData => x.1) ∘ fun p : V × D => (p.1, p.2.py)) ((vs.zip xs).mergeSort (fun p q => PySem.W.dataLe false D.py p.2 q.2))))) := Stp.alloc s hp
    refine hq (.lst (sortD xs)) _ _ _ al ⟨p, _, rfl, upd_same, ?_⟩ q
    rw [← m2]
    refine (RpA.of_pairs _ fun q hq => ?_).mono al.ext
    exact rx.zip_rp q ((List.mergeSort_perm _ _).mem_iff.mp hq)
theorem keys_rp {H : Hp} : ∀ ks : List Key, RpA K H (ks.map keyD) (ks.map kV)
  | [] => rfl
  | k :: ks => ⟨_, _, rfl, by cases k <;> rfl, keys_rp ks⟩
theorem sc_sorted : SndC K (rSortA K) oSorted := fun H Hs ds vs Q Q' s rx hq hd => by
  unfold oSorted at hd
  split at hd
  · next xs =>
    obtain ⟨v, r, rfl, ⟨a, us, rfl, h1, h2⟩, h3⟩ := rx
    cases h3
    exact sort_core s h2 hd.1 (.inl (SqL.of (s _ _ h1))) hq hd.2
  · next xs =>
    obtain ⟨v, r, rfl, ⟨a, us, rfl, h1, h2⟩, h3⟩ := rx
    cases h3
    exact sort_core s h2 hd.1 (.inr (.inl (tp_sq s h1))) hq hd.2
  · next ks xs =>
    obtain ⟨v, r, rfl, ⟨a, us, rfl, h1, h2, h3⟩, h4⟩ := rx
    cases h4
    refine sort_core s (keys_rp ks) hd.1 (.inr (.inr ⟨ks.zip us, .inl (s _ _ h1), ?_⟩)) hq hd.2
    have : ∀ (ks : List Key) (us : List V), ks.length = us.length → ks.map kV = (ks.zip us).map fun kv => kV kv.1 := by
      intro ks
      induction ks with
      | nil => intro us _; rfl
      | cons k ks ih =>
        intro us hl
        cases us with
        | nil => simp at hl
        | cons u us => simp only [List.zip_cons_cons, List.map_cons]; rw [← ih us (by simpa using hl)]
    exact this ks us h2
  · exact hd.elim
theorem de_sorted {k : Nat} {p pos : Pos} {e : Expr} {d : DTA} (hr : Room k X.A) (hm : X.mg "sorted" = none) (ha : DA X [e] d) (hc : X.calm = true := by rfl) (hg : Gl X "sorted" := by rfl) (hs : starEach [e] X.env = (false, eval e X.env) :: starEach [] X.env := by rfl)
    (hpl : (backTo pos (starEach [] X.env)).any (·.1) = false := by rfl) : DE X (.Call (.Name "sorted" p) [e] [] pos) (dCB oSorted d) :=
  de_callB (cr_sortA hc hr.units) sc_sorted hg hm (by decide +kernel) ha (by decide) (by decide) hs hpl
end
end DL
namespace PySem
open Sem (wp)
open AutoSeq1 (wpAny_loadPart')
set_option maxHeartbeats 1000000 in
theorem meets_enumerate_newT (l : Addr) (items : Array Value) (n : Nat) (dct : Option Addr) (sl : Array (Option Value)) :
    Meets (Builtin.«enumerate.__new__» ⟨[.type "enumerate", .ref l], []⟩) (fun _ R s => s.heap.get? l = some { cls := .type "tuple", dict := dct, data := .seq items n, slots := sl } ∧
      R (.ok (.ret (.ref (s.heap.push { cls := .type "tuple_iterator", data := .fields #[.ref l, .int 0 0] }).objs.size)))
        { s with heap := (s.heap.push { cls := .type "tuple_iterator", data := .fields #[.ref l, .int 0 0] }).push { cls := .type "enumerate", data := .fields #[.none, .bool false, .ref s.heap.objs.size, rawInt 0, .none, .none] } }) :=
  .of_wp fun prog w A R s h => by
    obtain ⟨hp, g, d, tk, os⟩ := s; obtain ⟨hl, h⟩ := h
    have hsub := sub_enumerate
    have hL : Heap.IsTuple (Shared.heap ⟨hp, g, d, tk, os⟩) l items := ⟨_, hl, rfl, n, rfl⟩
    wp_walk using wpAny_loadPart' hl
    refine wpAny_stack_any fun st => wpAny_pure ?_
    split
    · rename_i c _ _ _ _ _
      cases (c == Value.type "enumerate")
      · wp_walk using wpAny_loadPart' hl, wpAny_pyIter_tuple hL
        exact ⟨_, rfl, h⟩
      · wp_walk using wpAny_loadPart' hl, wpAny_pyIter_tuple hL
        exact ⟨_, rfl, h⟩
    · wp_walk using wpAny_loadPart' hl, wpAny_pyIter_tuple hL
      exact ⟨_, rfl, h⟩
section
variable {prog : Program} {w : World} {A : Around} {E : Value → Shared → Prop} {s : Shared}
theorem call_enumerate_tuple {l : Addr} {items : Array Value} {Q : Value → Shared → Prop} (hL : s.heap.IsTuple l items)
    (h : ∀ h', IsEnum h' (s.heap.objs.size + 1) s.heap.objs.size 0 .none → h'.IsTupleIter s.heap.objs.size l 0 → h'.objs.size = s.heap.objs.size + 2 →
      (∀ b o, s.heap.get? b = some o → h'.get? b = some o) → Q (.ref (s.heap.objs.size + 1)) { s with heap := h' }) :
    wpAny (model prog w) A (call (.type "enumerate") [.ref l]) Q E s := by
  obtain ⟨⟨c, dct, dt, sl⟩, hl, hc, n, hd⟩ := hL
  replace hc : c = .type "tuple" := hc
  replace hd : dt = .seq items n := hd
  subst hc hd
  refine callType_new F.called_enumerate (by decide) (F.typeCall_enumerate_1 _) (F.newCall_enumerate_1 _) (fun obj => F.args_object_init_2 obj _) F.entry_enumerate_new
    (meets_enumerate_newT l items n dct sl) ⟨hl, ?_⟩
  have hz : (s.heap.push { cls := .type "tuple_iterator", data := .fields #[.ref l, .int 0 0] }).objs.size = s.heap.objs.size + 1 := Heap.size_push ..
  show _ ∧ _
  rw [hz]
  have he : IsEnum ((s.heap.push { cls := .type "tuple_iterator", data := .fields #[.ref l, .int 0 0] }).push
      { cls := .type "enumerate", data := .fields #[.none, .bool false, .ref s.heap.objs.size, rawInt 0, .none, .none] }) (s.heap.objs.size + 1) s.heap.objs.size 0 .none := by
    have := Heap.get?_push_size (s.heap.push { cls := .type "tuple_iterator", data := .fields #[.ref l, .int 0 0] })
      (o := { cls := .type "enumerate", data := .fields #[.none, .bool false, .ref s.heap.objs.size, rawInt 0, .none, .none] }) rfl
    rw [hz] at this; exact this
  refine ⟨⟨_, he, rfl⟩, h _ he ⟨_, Heap.get?_push_of_some _ (Heap.get?_push_size _ rfl), rfl, rfl⟩ (by rw [Heap.size_push, hz]) fun b o x => Heap.get?_push_of_some _ (Heap.get?_push_of_some _ x)⟩
theorem wpAny_pyNext_enumT_end {e it l : Addr} {i : Nat} {items : Array Value} {old : Value} {Q : Option Value → Shared → Prop} (hh : A.handled = none)
    (he : IsEnum s.heap e it i old) (hit : s.heap.IsTupleIter it l i) (hl : s.heap.IsTuple l items) (hx : items[i]? = none)
    (hQ : ∀ h', Heap.ExtBut it s.heap h' → Q none { s with heap := h' }) : wpAny (model prog w) A (pyNext (.ref e)) Q E s := by
  have hT : s.TypeIs (.ref e) "enumerate" := ⟨_, he, rfl⟩
  unfold pyNext
  refine wpAny_bind (wpAny_attempt (wpAny_callSpecial?_slot (name := Str.ofString "__next__") hT F.slot_enumerate_next
    (wpAny_call_entry F.slot_enumerate_next hT F.entry_enumerate_next ?_ (F.args_enumerate_next_1 _))))
  show wpAny _ _ (field (.ref e) 2 >>= _) _ _ _
  refine wpAny_bind (wpAny_field he rfl (x := .ref it) rfl ?_)
  refine wpAny_bind (wpAny_nextOf_tuple_end hh hit hl hx fun h' x he' hx' => ?_)
  obtain ⟨o, ho, hc⟩ := hx'
  refine wpAny_bind (wpAny_isInstance (T := "StopIteration") (b := true) ⟨o, ho, hc⟩ isSubtype_stop ?_)
  exact wpAny_pure (hQ _ he')
end
end PySem
namespace DL
open PySem PySem.Spec PyProof.Rows L2
def IteT (K : PySem.W.Frag) (a : Addr) : It :=
  ⟨fun i H => ∃ (xs : List V) (x : V), SqT K H a xs ∧ xs[i]? = some x, fun i H v H' => ∃ T x, v = .ref T ∧ H T = none ∧ H' = upd H T (.tup [.int (i : Nat), x]) ∧ ∀ xs, SqT K H a xs → xs[i]? = some x, fun i H => ∃ xs : List V, SqT K H a xs ∧ xs.length ≤ i⟩
theorem cls_ne {h : Heap} {a b : Addr} {o p : Obj} {x y : String} (h1 : h.get? a = some o) (h2 : h.get? b = some p) (c1 : o.cls = .type x) (c2 : p.cls = .type y) (n : x ≠ y) : a ≠ b := fun e => by
  subst e
  rw [h1] at h2
  cases h2
  rw [c1] at c2
  cases c2
  exact n rfl
theorem turn_enumT {P : Program} {w : World} {K : PySem.W.Frag} {elts : List Expr} {kk : Nat} {tpos : Pos} (a e it : Addr) :
    Turn P w K (.Tuple elts kk tpos) (IteT K a) [e, it] e (fun i h => (∃ old, IsEnum h e it ((i : Nat) : Int) old) ∧ h.IsTupleIter it a i ∧ e ≠ it) where
  mem := by simp
  obj := fun i h st b hb => by
    obtain ⟨⟨old, he⟩, ⟨o, ho, hc, hd⟩, _⟩ := st
    have e' : b = e ∨ b = it := by simpa using hb
    rcases e' with z | z
    · rw [z]; exact ⟨_, he, fun v q => nomatch q⟩
    · rw [z]; exact ⟨o, ho, fun v q => by rw [hd] at q; cases q⟩
  keep := fun i h h' st k => let ⟨⟨old, he⟩, hi, hne⟩ := st; ⟨⟨old, k e (by simp) _ he⟩, hi.at fun o q => k it (by simp) o q, hne⟩
  item := by
    intro X hP hw hK hc i pins s st H E I hf stt hg
    subst hP hw hK
    obtain ⟨⟨old, he⟩, hit, hne⟩ := stt
    obtain ⟨xs, x, hq, hx⟩ := hg
    obtain ⟨its, rv, p, hz⟩ := I.tuple hq
    obtain ⟨u, hu, ru⟩ := rv.get hx
    have hel : e < s.heap.objs.size := Heap.lt_size he
    have hil : it < s.heap.objs.size := by obtain ⟨_, q, _⟩ := hit; exact Heap.lt_size q
    have ht : s.heap.IsTuple a its.toArray := p
    obtain ⟨ot, hot, hct, nt, hdt⟩ := id p
    obtain ⟨oi, hoi, hci, hdi⟩ := id hit
    have n1 : a ≠ it := cls_ne hot hoi hct hci (by decide)
    have n2 : e ≠ a := cls_ne he hot rfl hct (by decide)
    have D := Draws.tuple (prog := X.prog) (w := X.w) (A := X.A.in1) (I.ok.hd hc) it a n1 its.toArray
    have hlt : i < its.toArray.size := by
      have := (List.getElem?_eq_some_iff.mp hu).1
      simpa using this
    refine wpAny_pyNext_enum_itemD D he ⟨hit, ht⟩ hlt hne (by simp [hne, n2]) fun x' h' tk hP' ho st' hT hsz hk => ?_
    have ex : x' = u := by
      have e1 : its.toArray[i]? = some u := by simpa using hu
      rw [hP'] at e1
      exact Option.some.inj e1
    subst ex
    refine ⟨_, rfl, wpAny_letOwnedTupleGo_enum (s := { s with heap := h', toks := tk + 1 }) ho fun h'' he' sb => ?_⟩
    have hT2 : h''.get? s.heap.objs.size = some { cls := .type "tuple", data := .seq #[.int i tk, x'] } := (sb.2 _ (Nat.ne_of_gt hel)).trans hT
    have new : ObjOk X.prog X.w (upd H s.heap.objs.size (.tup [.int (i : Nat), x])) h'' s.heap.objs.size (.tup [.int (i : Nat), x]) :=
      ⟨by show 2 ≤ sizeLine; decide, [.int i tk, x'], .cons ⟨_, rfl⟩ (.cons ru .nil), ⟨_, hT2, rfl, _, rfl⟩⟩
    have I1 : Inv X pins st (upd H s.heap.objs.size (.tup [.int (i : Nat), x])) { s with heap := h'', toks := tk + 1 } :=
      I.turnedNew (ch := [e, it]) (fun b ob hb q => (sb.2 b (fun z => hb (by simp [z]))).trans (hk b ob (fun z => hb (by simp [z])) (fun z => hb (by simp [z])) q)) hf (Nat.le_refl _) new
    refine ⟨.ref s.heap.objs.size, _, I1, rfl, ⟨_, x, rfl, I.hok.fresh (Nat.le_refl _), rfl, fun ys hy => by rw [I.tuple_inj hy hq]; exact hx⟩, ⟨⟨x', ?_⟩, st'.1.at fun o q => (sb.2 it (Ne.symm hne)).trans q, hne⟩, fun b hb => ?_⟩
    · have e1 : ((i + 1 : Nat) : Int) = (i : Int) + 1 := by omega
      rw [e1]; exact he'
    · have hb' : b < s.heap.objs.size := by
        have e' : b = e ∨ b = it := by simpa using hb
        rcases e' with z | z
        · rw [z]; exact hel
        · rw [z]; exact hil
      rw [upd_ne (Nat.ne_of_lt hb')]
      exact (hf b hb).1
  done := by
    intro X hP hw hK hc i pins s st H E I hf stt hg
    subst hP hw hK
    obtain ⟨⟨old, he⟩, hit, hne⟩ := stt
    obtain ⟨xs, hq, hx⟩ := hg
    obtain ⟨its, rv, p, hz⟩ := I.tuple hq
    obtain ⟨f0, f1, f2, f3, f4, f5⟩ := hf it (by simp)
    have hl := rv.length
    exact wpAny_pyNext_enumT_end (I.ok.hd hc) he hit p (by simp; omega) fun h' eb => ⟨rfl, I.turned (t' := s.toks) (fun b o hb q => eb b o hb q) f0 f1 f3 f4 f5⟩
  self := fun A i s Q E st h => let ⟨⟨_, he⟩, _⟩ := st; wpAny_pyIter_enum he h
def iEnumA (K : PySem.W.Frag) (ta : TA) : TI := fun st H R => ta st H fun vs H1 => ∃ a xs, vs = [.ref a] ∧ ((SqL K H1 a xs ∧ R (Ite K a) H1) ∨ (SqT K H1 a xs ∧ R (IteT K a) H1))
theorem pi_enumA {X : Cx} {e : Expr} {ta : TA} {p pos tpos : Pos} {elts : List Expr} {kk : Nat} (hg : Gl X "enumerate") (hm : X.mg "enumerate" = none) (ha : PA X [e] ta) (hs : starEach [e] X.env = [(false, eval e X.env)] := by rfl) :
    PI X (.Tuple elts kk tpos) (.Call (.Name "enumerate" p) [e] [] pos) (iEnumA X.K ta) := by
  refine ⟨fun pins s st H R I h => ?_⟩
  refine Call_ (ld_blt I hg hm boot_enumerate (PyProof.Rows.callWith_type1 (thn (ha.run pos pins s st H _ I h) fun us s1 ⟨vs, H1, I1, r1, q1⟩ => ?_) hs rfl))
  obtain ⟨a, xs, ex, q⟩ := q1
  subst ex
  cases r1 with
  | cons r rr =>
    cases rr
    cases r
    rcases q with ⟨hq, q⟩ | ⟨hq, q⟩
    · obtain ⟨its, rv, p', hz⟩ := I1.list hq
      refine call_enumerate_list p'.isList fun h' he hit hsz hk => wpAny_pyIter_enum he ?_
      have I2 : Inv X pins st H1 { s1 with heap := h' } := I1.kept (t' := s1.toks) hk
      refine ⟨s1.heap.objs.size + 1, [s1.heap.objs.size + 1, s1.heap.objs.size], _, _, H1, rfl, I2, turn_enum a (s1.heap.objs.size + 1) s1.heap.objs.size, ⟨⟨.none, he⟩, hit, Nat.succ_ne_self _⟩, fun b hb => ?_, q⟩
      have e' : b = s1.heap.objs.size + 1 ∨ b = s1.heap.objs.size := by simpa using hb
      have hle : s1.heap.objs.size ≤ b := by
        rcases e' with z | z
        · rw [z]; exact Nat.le_add_right _ _
        · rw [z]; exact Nat.le_refl _
      exact I1.fpOk hle (I1.hok.fresh hle)
    · obtain ⟨its, rv, p', hz⟩ := I1.tuple hq
      refine call_enumerate_tuple p' fun h' he hit hsz hk => wpAny_pyIter_enum he ?_
      have I2 : Inv X pins st H1 { s1 with heap := h' } := I1.kept (t' := s1.toks) hk
      refine ⟨s1.heap.objs.size + 1, [s1.heap.objs.size + 1, s1.heap.objs.size], _, _, H1, rfl, I2, turn_enumT a (s1.heap.objs.size + 1) s1.heap.objs.size, ⟨⟨.none, he⟩, hit, Nat.succ_ne_self _⟩, fun b hb => ?_, q⟩
      have e' : b = s1.heap.objs.size + 1 ∨ b = s1.heap.objs.size := by simpa using hb
      have hle : s1.heap.objs.size ≤ b := by
        rcases e' with z | z
        · rw [z]; exact Nat.le_add_right _ _
        · rw [z]; exact Nat.le_refl _
      exact I1.fpOk hle (I1.hok.fresh hle)
section
variable {X : Cx} {K : PySem.W.Frag}
def enumD (xs : List D) : List D := xs.mapIdx fun i x => .tup [.int i, x]
theorem enumD_get {xs : List D} {i : Nat} {d : D} (h : (enumD xs)[i]? = some d) : ∃ x, xs[i]? = some x ∧ d = .tup [.int i, x] := by
  unfold enumD at h
  rw [List.getElem?_mapIdx] at h
  cases e : xs[i]? with
  | none => rw [e] at h; cases h
  | some x => rw [e] at h; cases h; exact ⟨x, rfl, rfl⟩
theorem enumD_len (xs : List D) : (enumD xs).length = xs.length := by unfold enumD; rw [List.length_mapIdx]
def dEnum (t : DTA) : DTA := fun g r f Q => t g r f fun ds f1 => match ds with
  | [.lst xs] => Q (enumD xs) f1
  | [.tup xs] => Q (enumD xs) f1
  | _ => False
theorem walks_enumL {Hb : Hp} {a : Addr} {vs : List V} {ds : List D} (h1 : Hb a = some (.lst vs)) (h2 : RpA K Hb ds vs) : Walks K (Ite K a) Hb (enumD ds) where
  go := fun i d H Hs s1 s2 e => by
    obtain ⟨x, ex, rfl⟩ := enumD_get e
    obtain ⟨v, hv, hr⟩ := h2.get ex
    have q1 : SqL K H a vs := SqL.of (s2 _ _ (s1 _ _ h1))
    refine ⟨⟨vs, v, q1, hv⟩, ?_⟩
    rintro z H' ⟨T, x', rfl, hT, rfl, hx⟩
    have e1 := hx vs q1
    rw [hv] at e1
    cases e1
    exact pair_stp s2 hT rfl (hr.mono s1)
  stop := fun H s => ⟨vs, SqL.of (s _ _ h1), by rw [enumD_len, h2.length]; exact Nat.le_refl _⟩
theorem walks_enumT {Hb : Hp} {a : Addr} {vs : List V} {ds : List D} (h1 : TpAt K Hb a vs) (h2 : RpA K Hb ds vs) : Walks K (IteT K a) Hb (enumD ds) where
  go := fun i d H Hs s1 s2 e => by
    obtain ⟨x, ex, rfl⟩ := enumD_get e
    obtain ⟨v, hv, hr⟩ := h2.get ex
    have q1 : SqT K H a vs := (tp_sq (s1.trans s2) h1)
    refine ⟨⟨vs, v, q1, hv⟩, ?_⟩
    rintro z H' ⟨T, x', rfl, hT, rfl, hx⟩
    have e1 := hx vs q1
    rw [hv] at e1
    cases e1
    exact pair_stp s2 hT rfl (hr.mono s1)
  stop := fun H s => ⟨vs, (tp_sq s h1), by rw [enumD_len, h2.length]; exact Nat.le_refl _⟩
theorem di_enum {e : Expr} {d : DTA} {p pos tpos : Pos} {elts : List Expr} {kk : Nat} (hm : X.mg "enumerate" = none) (ha : DA X [e] d) (hg : Gl X "enumerate" := by rfl)
    (hs : starEach [e] X.env = [(false, eval e X.env)] := by rfl) : DI X (.Tuple elts kk tpos) (.Call (.Name "enumerate" p) [e] [] pos) (dEnum d) := DI.mk' (pi_enumA hg hm ha.pa hs) fun g ro f st H Hs R Q' A hq hd =>
  ha.sn g ro f st H Hs _ _ A (fun ds f1 vs H1 Hs1 s1 k1 r1 q1 => by
    split at q1
    · obtain ⟨v, r, rfl, ⟨a, us, rfl, h1, h2⟩, h3⟩ := r1
      cases h3
      exact ⟨a, us, rfl, .inl ⟨SqL.of (s1.sub _ _ h1), hq _ f1 _ H1 Hs1 s1 k1 (walks_enumL h1 h2) q1⟩⟩
    · obtain ⟨v, r, rfl, ⟨a, us, rfl, h1, h2⟩, h3⟩ := r1
      cases h3
      exact ⟨a, us, rfl, .inr ⟨(tp_sq s1.sub h1), hq _ f1 _ H1 Hs1 s1 k1 (walks_enumT h1 h2) q1⟩⟩
    · exact q1.elim) hd
end
end DL
namespace DL
open PySem PySem.Spec PyProof.Rows L2
/-! dicts that a slot owns -/
def D.key : D → Option Key
  | .int i => some (.inl i)
  | .str x => some (.inr x)
  | _ => Option.none
instance decKey (k : Key) (ks : List Key) : Decidable (k ∈ ks) := @List.instDecidableMemOfLawfulBEq Key instBEqOfDecidableEq inferInstance k ks
def putKs (ks : List Key) (k : Key) : List Key := if k ∈ ks then ks else ks ++ [k]
def putXs (ks : List Key) (xs : List D) (k : Key) (d : D) : List D := if k ∈ ks then (ks.zip xs).map fun p => if p.1 = k then d else p.2 else xs ++ [d]
section
variable {X : Cx} {K : PySem.W.Frag} {W : WX}
theorem key_v {H : Hp} {d : D} {v : V} {k : Key} (h : Rp K H d v) (e : d.key = some k) : v = kV k := by
  cases d <;> simp only [D.key, reduceCtorEq, Option.some.injEq] at e <;> subst e <;> cases h <;> rfl
theorem any_zip {k : Key} : ∀ {ks : List Key} {vs : List V}, ks.length = vs.length → ((ks.zip vs).any fun kv => decide (kv.1 = k)) = decide (k ∈ ks)
  | [], _, _ => by simp
  | _ :: _, [], h => by simp at h
  | a :: ks, v :: vs, h => by
    rw [List.zip_cons_cons, List.any_cons, any_zip (by simpa using h)]
    by_cases e : a = k
    · simp [e]
    · simp [e, Ne.symm e]
theorem put_zip {k : Key} {v : V} : ∀ {ks : List Key} {vs : List V}, ks.length = vs.length → (ks.zip vs).map (fun kv => if kv.1 = k then (kv.1, v) else kv) = ks.zip ((ks.zip vs).map fun kv => if kv.1 = k then v else kv.2)
  | [], _, _ => by simp
  | _ :: _, [], h => by simp at h
  | a :: ks, w :: vs, h => by
    simp only [List.zip_cons_cons, List.map_cons]
    rw [put_zip (by simpa using h)]
    by_cases e : a = k <;> simp [e]
theorem putXs_rp {H : Hp} {k : Key} {d : D} {v : V} (hd : Rp K H d v) : ∀ {ks : List Key} {xs : List D} {vs : List V}, RpA K H xs vs → RpA K H ((ks.zip xs).map fun p => if p.1 = k then d else p.2) ((ks.zip vs).map fun p => if p.1 = k then v else p.2)
  | [], _, _, _ => by simp [RpA]
  | _ :: _, [], _, h => by cases h; simp [RpA]
  | a :: ks, x :: xs, _, ⟨w, r, h1, h2, h3⟩ => by
    subst h1
    simp only [List.zip_cons_cons, List.map_cons]
    refine ⟨_, _, rfl, ?_, putXs_rp hd h3⟩
    by_cases e : a = k
    · rw [if_pos e, if_pos e]; exact hd
    · rw [if_neg e, if_neg e]; exact h2
theorem put_rp {H : Hp} {ks : List Key} {xs : List D} {vs : List V} {k : Key} {d : D} {v : V} (hl : ks.length = vs.length) (h : RpA K H xs vs) (hd : Rp K H d v) :
    ∃ vs', putK (ks.zip vs) k v = (putKs ks k).zip vs' ∧ (putKs ks k).length = vs'.length ∧ RpA K H (putXs ks xs k d) vs' := by
  unfold putK putKs putXs
  rw [any_zip hl]
  by_cases e : k ∈ ks
  · rw [decide_eq_true e, if_pos rfl, if_pos e, if_pos e]
    refine ⟨_, put_zip hl, ?_, putXs_rp hd h⟩
    rw [List.length_map, List.length_zip, hl, Nat.min_self]
  · rw [decide_eq_false e, if_neg Bool.false_ne_true, if_neg e, if_neg e]
    refine ⟨vs ++ [v], ?_, by simp [hl], h.append (RpA.one hd)⟩
    rw [List.zip_append hl]
    rfl
def sSetD0 (i : Nat) : DTS := fun _ r f E => E.nx (r.set i (.od [] [])) f
theorem ds_setD0 {i : Nat} {x : Str} {dpos pos pos' : Pos} (hN : X.N.Nodup) (hi : X.N[i]? = some x := by rfl) (hx : Loc X.env.scope x := by first | exact Or.inl rfl | exact Or.inr rfl)
    (hs : swapsWith (.Dict [] [] dpos) (some (.Name x pos')) pos.line X.env = pure false := by rfl) (hf : X.fn x = true ∨ X.env.scope.names.lookup x = some .local := by first | exact .inl rfl | exact .inr rfl | assumption) :
    DS X (.Assign [.Name x pos'] (.Dict [] [] dpos) pos) (sSetD0 i) := .mk' (ps_set hN hi hx pe_dnewK hs hf) fun g H0 Hs0 r f st H D E s e hd => by
  obtain ⟨Hs, s⟩ := s
  intro p hp
  have lay : Stp g H Hs (upd H p (.dK [])) Hs := Stp.lay s.stp.sub hp
  have s1 := s.afterHid lay (s.dk.mut (s.dk.out hp))
  refine e.nx _ f _ _ ⟨_, s1.setOwn i (u := .od [] []) rfl (s.stp.none0 hp) (same_none s.stp.sub hp) (fun j sl _ h1 h2 h3 => ?_) ⟨[], upd_same, rfl, rfl⟩⟩ hd
  obtain ⟨a, e', _, _, q⟩ := s.ow j sl h1 h2
  rw [h3] at e'
  cases e'
  obtain ⟨o, ho, _⟩ := q.ld
  rw [hp] at ho
  cases ho
def sSetKey (m : Bool) (i : Nat) (dk dl : DT) : DTS := fun g r f E => ∃ ks xs, r[i]? = some (.od ks xs) ∧ evM m dl g r f fun d f1 => dk g r f1 fun k f2 => ∃ key, k.key = some key ∧ ks.length ≤ lim ∧ E.nx (r.set i (.od (putKs ks key) (putXs ks xs key d))) f2
theorem snd_setKey {m : Bool} {i : Nat} {tk t : TE} {dk d : DT} (hk : Snd K tk dk) (h : Snd K t d) : SndS K W (tAsg t (gSub (tVar i) tk rSetD)) (sSetKey m i dk d) := fun g H0 Hs0 r f st H D E s e hd => by
  obtain ⟨Hs, s⟩ := s
  obtain ⟨ks, xs, hx, hd⟩ := hd
  obtain ⟨a, ha, n1, n0, vs, hv, hl, hr⟩ := s.ow i _ hx rfl
  refine snd_evM h s (fun d f' v H' Hs' s' _ hr' q => ?_) hd
  refine ⟨.ref a, ha, ?_⟩
  refine hk g r f' st H' _ _ _ s'.at (fun k f2 w H2 Hs2 s2 k2 r2 q2 => ?_) q
  have s3 := s'.after s2 k2
  obtain ⟨key, hkey, hlim, q2⟩ := q2
  obtain ⟨a', ha', n1', n0', vs', hv', hl', hr2⟩ := s3.ow i _ hx rfl
  rw [ha] at ha'
  cases ha'
  rw [key_v r2 hkey]
  obtain ⟨us, e1, e2, e3⟩ := put_rp (k := key) hl' hr2 (hr'.mono (s'.afterExt s2))
  refine ⟨a, _, rfl, DPut.k hv' ?_, e.nx _ f2 st _ ⟨_, s3.mutOwn (u := .od (putKs ks key) (putXs ks xs key d)) hx rfl ha rfl ⟨us, by rw [upd_same, e1], e2, e3⟩⟩ q2⟩
  rw [List.length_zip]
  exact Nat.lt_of_le_of_lt (Nat.min_le_left _ _) (lim_lt hlim)
theorem ds_setKey (m : Bool) {k' : Nat} {i : Nat} {x : Str} {e k : Expr} {px spos pos : Pos} {dk d : DT} (hr : Room k' X.A) (hk : DE X k dk) (h : DE X e d) (hN : X.N[i]? = some x := by rfl) (hv : Vis X.env.scope x := by first | exact Or.inl rfl | exact Or.inr (Or.inl rfl) | exact Or.inr (Or.inr rfl)) (hd : (x == ("__debug__" : Str)) = false := by decide)
    (hcd : (x == ("__classdict__" : Str)) = false := by decide)
    (ha : ∀ v, assign (.Subscript (.Name x px) k spos) X.env v = (do
      let ov ← holding [v] (eval (.Name x px) X.env)
      let iv ← holding [v, ov] (eval k X.env)
      standAt spos
      holding [v, ov, iv] (setItem ov iv v)
      release [v, ov, iv] []) := by intro _; rfl)
    (hs : swapsWithSole [.Subscript (.Name x px) k spos] e pos.line X.env = pure false := by rfl) (hw : swappedStores [.Subscript (.Name x px) k spos] e X.env = pure none := by rfl) (h1 : (assignEach [.Subscript (.Name x px) k spos] X.env).map (·.2) = [assign (.Subscript (.Name x px) k spos) X.env] := by rfl) :
    DS X (.Assign [.Subscript (.Name x px) k spos] e pos) (sSetKey m i dk d) :=
  .mk' (ps_asg h.pe (pg_sub (pe_var hN hv hd hcd) hk.pe (set_dict (hu_of hr)) ha) hs hw h1) (snd_setKey hk.sn h.sn)
end
end DL
namespace DL
open PySem PySem.Spec PyProof.Rows L2
section
variable {X : Cx} {K : PySem.W.Frag}
/-! t[::-1] -/
/-! list(xs) -/
def oList : OA := fun ds Q => match ds with
  | [.lst xs] => Q (.lst xs)
  | [.tup xs] => Q (.lst xs)
  | _ => False
theorem sc_list : SndC K (fun xs H Q => ∃ p ys, xs = [.ref p] ∧ (SqL K H p ys ∨ SqT K H p ys) ∧ ∀ l, H l = none → Q (.ref l) (upd H l (.lst ys))) oList := fun H Hs ds vs Q Q' s rx hq hd => by
  unfold oList at hd
  split at hd
  · obtain ⟨v, rfl, a, vs, rfl, h1, h2⟩ := rpA1 rx
    refine ⟨a, vs, rfl, .inl (SqL.of (s _ _ h1)), fun l hl => ?_⟩
    have al : Stp none H Hs (upd H l (.lst vs)) (upd Hs l (.lst vs)) := Stp.alloc s hl
    exact hq (.lst _) _ _ _ al ⟨l, vs, rfl, upd_same, h2.mono al.ext⟩ hd
  · obtain ⟨v, rfl, a, vs, rfl, h1, h2⟩ := rpA1 rx
    refine ⟨a, vs, rfl, .inr ((tp_sq s h1)), fun l hl => ?_⟩
    have al : Stp none H Hs (upd H l (.lst vs)) (upd Hs l (.lst vs)) := Stp.alloc s hl
    exact hq (.lst _) _ _ _ al ⟨l, vs, rfl, upd_same, h2.mono al.ext⟩ hd
  · exact hd.elim
/-! isinstance(x, T), instances of one own class among the values -/
structure KO (K : PySem.W.Frag) (c : Str) (C : Addr) : Prop where
  kc : KC K c C
  ty : KTy K C
  tup : PySem.W.subIn K (.ref C) (.type "tuple") = some false
  str : PySem.W.subIn K (.ref C) (.type "str") = some false
theorem KO.one {c : Str} {C : Addr} (k : KO K c C) : PySem.W.kitOne K (.ref C) (.type "tuple") = some false ∧ PySem.W.kitOne K (.ref C) (.type "str") = some false := by
  unfold PySem.W.kitOne PySem.W.kitCls
  have h1 : (Value.ref C == Value.type "tuple") = false := rfl
  have h2 : (Value.ref C == Value.type "str") = false := rfl
  rw [h1, h2, if_neg Bool.false_ne_true, if_neg Bool.false_ne_true]
  show (if PySem.W.kitMeta "tuple" = true then PySem.W.subIn K (.ref C) (.type "tuple") else none) = _ ∧ (if PySem.W.kitMeta "str" = true then PySem.W.subIn K (.ref C) (.type "str") else none) = _
  rw [if_pos (by decide +kernel), if_pos (by decide +kernel)]
  exact ⟨k.tup, k.str⟩
def oIsiO (c : Str) : OA := fun ds Q => match ds with
  | [.obj c' _ _, .any (.ty n)] => c' = c ∧ (n = "tuple" ∨ n = "str") ∧ Q (.bool false)
  | [x, .any (.ty n)] => ∃ t b, x.tyN = some t ∧ kitB t n = some b ∧ Q (.bool b)
  | _ => False
theorem sc_isiO {c : Str} {C : Addr} (k : KO K c C) : SndC K (rIsi K) (oIsiO c) := SndC.pure fun H Hs ds vs Q Q' s rx hq hd => by
  unfold oIsiO at hd
  split at hd
  · obtain ⟨rfl, hn, q⟩ := hd
    obtain ⟨v, w, rfl, h4, h5⟩ := rpA2 rx
    cases h5
    obtain ⟨C', a, dx, us, h0, rfl, h2, h3, h6⟩ := h4
    cases k.kc.uniq h0
    refine ⟨.ref a, _, .ref C, _, false, rfl, .ty _, .base (.ins (s _ _ h2) k.kc.cls k.ty.ha k.ty.hn k.ty.htk k.ty.hm), ?_, hq (.bool _) _ rfl q⟩
    rcases hn with rfl | rfl
    · exact k.one.1
    · exact k.one.2
  · obtain ⟨t, b, h1, h2, h3⟩ := hd
    obtain ⟨v, w, rfl, h4, h5⟩ := rpA2 rx
    cases h5
    exact ⟨v, _, _, _, b, rfl, .ty _, tyN_ok (h4.mono s) h1, kit_ty h2, hq (.bool _) _ rfl h3⟩
  · exact hd.elim
theorem de_isiO {c : Str} {C : Addr} {p pos : Pos} {e e2 : Expr} {d : DTA} (k : KO X.K c C) (hm : X.mg "isinstance" = none) (ha : DA X [e, e2] d) (hg : Gl X "isinstance" := by rfl) (hs : starEach [e, e2] X.env = (false, eval e X.env) :: starEach [e2] X.env := by rfl)
    (hpl : (backTo pos (starEach [e2] X.env)).any (·.1) = false := by rfl) : DE X (.Call (.Name "isinstance" p) [e, e2] [] pos) (dCB (oIsiO c) d) :=
  de_callB call_isi (sc_isiO k) hg hm (by decide +kernel) ha (by decide) (by decide) hs hpl
end
end DL
namespace DL
open PySem PySem.Spec PyProof.Rows L2
/-! texts: length and signs -/
theorem app_len (a b : Str) : (a ++ b).length = a.length + b.length := by rw [TL.len_tl, TL.tl_append, List.length_append, ← TL.len_tl, ← TL.len_tl]
theorem asc_app {a b : Str} (ha : asc a) (hb : asc b) : asc (a ++ b) := fun c hc => by
  have hc : c ∈ TL.tl (a ++ b) := hc
  rw [TL.tl_append] at hc
  rcases List.mem_append.mp hc with h | h
  · exact ha c h
  · exact hb c h
instance decAsc (s : Str) : Decidable (asc s) := by unfold asc; infer_instance
theorem asc_upper {s : Str} (h : asc s) : asc (Txt.upper s) ∧ (Txt.upper s).length = s.length := by
  rw [upper_ascii h]
  refine ⟨fun c hc => ?_, ?_⟩
  · have hc : c ∈ (s.cps.map up1).toList := hc
    rw [Array.toList_map] at hc
    obtain ⟨d, hd, rfl⟩ := List.mem_map.mp hc
    have := h d hd
    unfold up1
    split <;> omega
  · show (s.cps.map up1).size = s.cps.size
    rw [Array.size_map]
theorem filter_strs (ps : List Str) (p : Str → Bool) (q : D → Bool) (h : ∀ s, q (.str s) = p s) : (ps.map D.str).filter q = (ps.filter p).map D.str := by
  rw [List.filter_map]
  congr 1
  apply List.filter_congr
  intro s _
  exact h s
/-! pairs of texts -/
abbrev Us := Str × Str
def pairD (u : Us) : D := .tup [.str u.1, .str u.2]
def pairP (u : Us) : PyData := .tuple [.str u.1, .str u.2]
theorem pairD_inj {u v : Us} (h : pairD u = pairD v) : u = v := by
  unfold pairD at h
  injection h with h
  injection h with h1 h2
  injection h1 with h1
  injection h2 with h2
  injection h2 with h2
  exact Prod.ext h1 h2
theorem pyA_pairs : ∀ l : List Us, pyA (l.map pairD) = l.map pairP
  | [] => rfl
  | x :: l => by show (pairD x).py :: pyA (l.map pairD) = _; rw [pyA_pairs l]; rfl
def ascU (u : Us) : Prop := asc u.1 ∧ asc u.2
theorem lay_pair {u : Us} (h : ascU u) : (pairP u).canLay0 = true := by
  show (PyData.strOk u.1 && (PyData.strOk u.2 && true)) = true
  rw [asc_ok h.1, asc_ok h.2]
  rfl
theorem lay_pairs : ∀ {l : List Us}, (∀ s ∈ l, ascU s) → PyData.canLayAll0 (l.map pairP) = true
  | [], _ => rfl
  | x :: l, h => Bool.and_eq_true_iff.mpr ⟨lay_pair (h x (by simp)), lay_pairs fun s hs => h s (by simp [hs])⟩
theorem depth_pairs : ∀ l : List Us, PyData.depthAll (l.map pairP) ≤ 1
  | [] => Nat.zero_le _
  | x :: l => by
    show max 1 (PyData.depthAll (l.map pairP)) ≤ 1
    have := depth_pairs l
    omega
theorem eqv_pair (u v : Us) : PyData.eqv (pairP u) (pairP v) = decide (u = v) := by
  show ((u.1 == v.1) && ((u.2 == v.2) && true)) = _
  rw [Bool.eq_iff_iff]
  simp [Prod.ext_iff]
theorem shaped_pairs {l : List Us} (h : ∀ s ∈ l, ascU s) : SeqAt.shaped (.list (l.map pairP)) = true := by
  show (PyData.canLayAll0 (l.map pairP) && decide (PyData.depthAll (l.map pairP) + 1 ≤ 64)) = true
  rw [lay_pairs h, decide_eq_true (by have := depth_pairs l; omega)]
  rfl
theorem shaped_pairsT {l : List Us} (h : ∀ s ∈ l, ascU s) : SeqAt.shaped (.tuple (l.map pairP)) = true := shaped_pairs h
theorem shaped_pair {u : Us} (h : ascU u) : SeqAt.shaped (pairP u) = true := by
  show ((pairP u).canLay0 && decide (1 ≤ 64)) = true
  rw [lay_pair h]
  rfl
theorem shaped_str {s : Str} (h : asc s) : SeqAt.shaped (.str s) = true := by
  show (PyData.strOk s && decide (0 ≤ 64)) = true
  rw [asc_ok h]
  rfl
/-! in, ==, of rows of texts and of pairs -/
theorem any_strs (l : List Str) (x : Str) : ((l.map PyData.str).any fun z => PyData.eqv z (.str x)) = decide (x ∈ l) := by
  rw [List.any_map, Bool.eq_iff_iff, List.any_eq_true, decide_eq_true_iff]
  constructor
  · rintro ⟨y, hy, e⟩
    have : (y == x) = true := e
    rw [← beq_iff_eq.mp this]
    exact hy
  · intro h
    exact ⟨x, h, (beq_self_eq_true x : (x == x) = true)⟩
theorem any_pairs (l : List Us) (x : Us) : ((l.map pairP).any fun z => PyData.eqv z (pairP x)) = decide (x ∈ l) := by
  rw [List.any_map, Bool.eq_iff_iff, List.any_eq_true, decide_eq_true_iff]
  constructor
  · rintro ⟨y, hy, e⟩
    have e : PyData.eqv (pairP y) (pairP x) = true := e
    rw [eqv_pair] at e
    rw [← of_decide_eq_true e]
    exact hy
  · intro h
    refine ⟨x, h, ?_⟩
    show PyData.eqv (pairP x) (pairP x) = true
    rw [eqv_pair]
    exact decide_eq_true rfl
/-! sorting them -/
def leS (a b : Str) : Bool := PySem.W.dataLe false D.py (.str a) (.str b)
@[irreducible] def sortS (l : List Str) : List Str := l.mergeSort leS
def leU (a b : Us) : Bool := PySem.W.dataLe false D.py (pairD a) (pairD b)
@[irreducible] def sortU (l : List Us) : List Us := l.mergeSort leU
theorem sortD_strs (l : List Str) : sortD (l.map D.str) = (sortS l).map D.str := by
  unfold sortD sortS
  rw [List.map_mergeSort (r := leS) (s := PySem.W.dataLe false D.py) (f := D.str) fun _ _ _ _ => rfl]
theorem sortD_pairs (l : List Us) : sortD (l.map pairD) = (sortU l).map pairD := by
  unfold sortD sortU
  rw [List.map_mergeSort (r := leU) (s := PySem.W.dataLe false D.py) (f := pairD) fun _ _ _ _ => rfl]
theorem sortS_perm (l : List Str) : (sortS l).Perm l := by unfold sortS; exact List.mergeSort_perm _ _
theorem sortU_perm (l : List Us) : (sortU l).Perm l := by unfold sortU; exact List.mergeSort_perm _ _
theorem mem_sortS {l : List Str} {x : Str} : x ∈ sortS l ↔ x ∈ l := (sortS_perm l).mem_iff
theorem mem_sortU {l : List Us} {x : Us} : x ∈ sortU l ↔ x ∈ l := (sortU_perm l).mem_iff
theorem sorts_strs {l : List Str} (hl : l.length ≤ lim) (h : ∀ s ∈ l, asc s) : Sorts (l.map D.str) where
  len := by rw [List.length_map]; exact hl
  lay := by rw [pyA_strs]; exact lay_strs h
  al := by rw [List.map_map]; exact PySem.W.AllAlike.of fun _ _ => rfl
  so := by rw [List.map_map]; exact PySem.W.Sortable.others fun b => ⟨fun e => by simp [D.py] at e, fun xs e => by simp [D.py] at e⟩
  dep := fun x hx => by
    obtain ⟨s, _, rfl⟩ := List.mem_map.mp hx
    exact Nat.zero_le _
theorem sorts_pairs {l : List Us} (hl : l.length ≤ lim) (h : ∀ s ∈ l, ascU s) : Sorts (l.map pairD) where
  len := by rw [List.length_map]; exact hl
  lay := by rw [pyA_pairs]; exact lay_pairs h
  al := by rw [List.map_map]; exact PySem.W.AllAlike.of fun _ _ => rfl
  so := by rw [List.map_map]; exact PySem.W.Sortable.tuples fun b => ⟨_, _, rfl⟩
  dep := fun x hx => by
    obtain ⟨s, _, rfl⟩ := List.mem_map.mp hx
    show 1 ≤ 30
    decide
end DL
namespace DL
open PySem PySem.Spec PyProof.Rows L2
/-! sets of texts: the members in the order in which they came -/
def putS (ks : List Str) (x : Str) : List Str := if x ∈ ks then ks else ks ++ [x]
theorem putS_nodup {ks : List Str} {x : Str} (h : ks.Nodup) : (putS ks x).Nodup := by
  unfold putS
  by_cases hx : x ∈ ks
  · rw [if_pos hx]; exact h
  · rw [if_neg hx, List.nodup_append]
    refine ⟨h, by simp, fun a ha b hb e => ?_⟩
    rw [List.mem_singleton.mp hb] at e
    exact hx (e ▸ ha)
theorem putS_mem {ks : List Str} {x y : Str} : y ∈ putS ks x ↔ y ∈ ks ∨ y = x := by
  unfold putS
  by_cases hx : x ∈ ks
  · rw [if_pos hx]
    exact ⟨.inl, fun h => h.elim id fun e => e ▸ hx⟩
  · rw [if_neg hx]; simp
theorem putS_len (ks : List Str) (x : Str) : (putS ks x).length ≤ ks.length + 1 := by
  unfold putS
  split
  · omega
  · simp
@[irreducible] def ded (l : List Str) : List Str := l.foldl putS []
theorem ded_snoc (l : List Str) (x : Str) : ded (l ++ [x]) = putS (ded l) x := by unfold ded; rw [List.foldl_append]; rfl
theorem ded_all (l : List Str) : (ded l).Nodup ∧ (ded l).length ≤ l.length ∧ ∀ x, x ∈ ded l ↔ x ∈ l := by
  have : ∀ (n : Nat) (l : List Str), l.length = n → (ded l).Nodup ∧ (ded l).length ≤ l.length ∧ ∀ x, x ∈ ded l ↔ x ∈ l := by
    intro n
    induction n with
    | zero =>
      intro l hl
      obtain rfl : l = [] := List.length_eq_zero_iff.mp hl
      unfold ded
      exact ⟨List.nodup_nil, Nat.le_refl _, fun x => Iff.rfl⟩
    | succ n ih =>
      intro l hl
      have hne : l ≠ [] := fun z => by rw [z] at hl; simp at hl
      have e := List.dropLast_concat_getLast hne
      have hd : l.dropLast.length = n := by rw [List.length_dropLast, hl]; rfl
      obtain ⟨i1, i2, i3⟩ := ih _ hd
      rw [← e, ded_snoc]
      refine ⟨putS_nodup i1, ?_, fun x => ?_⟩
      · have := putS_len (ded l.dropLast) (l.getLast hne)
        rw [List.length_append, List.length_singleton]
        omega
      · rw [putS_mem, i3, List.mem_append, List.mem_singleton]
  exact this _ l rfl
theorem ded_nodup (l : List Str) : (ded l).Nodup := (ded_all l).1
theorem ded_mem {l : List Str} {x : Str} : x ∈ ded l ↔ x ∈ l := (ded_all l).2.2 x
theorem ded_len (l : List Str) : (ded l).length ≤ l.length := (ded_all l).2.1
def txtOf (e : Int × Value) : Str := match e.2 with
  | .str k _ => k
  | _ => Str.empty
def TxtRow (P : Program) (w : World) (e : Int × Value) : Prop := ∃ k tk, e.2 = Value.str k tk ∧ e.1 = (PySem.strKind P w).hash k
/-- the set of the texts ks at a -/
def SetZ (P : Program) (w : World) (h : Heap) (a : Addr) (ks : List Str) : Prop :=
  ∃ o rows ep t, h.get? a = some o ∧ o.ExactSet ∧ o.data = .set rows ep t ∧ (∀ e ∈ rows.toList, TxtRow P w e) ∧ (rows.toList.map txtOf).Perm ks ∧ ks.Nodup ∧ ks.length < scanBound ∧ t.fits rows.size = true ∧ Ris t.place.toList ∧
    (w.params.followText "set-order" = true ∨ t.led = true)
section
variable {P : Program} {w : World} {A : Around} {E : Value → Shared → Prop} {s : Shared} {a : Addr} {ks : List Str}
theorem SetZ.at {h h' : Heap} (R : SetZ P w h a ks) (k : ∀ o, h.get? a = some o → h'.get? a = some o) : SetZ P w h' a ks := by
  obtain ⟨o, rows, ep, t, ho, rest⟩ := R
  exact ⟨o, rows, ep, t, k o ho, rest⟩
theorem txt_elems {l : List (Int × Value)} (g : ∀ e ∈ l, TxtRow P w e) : ElemsOf (PySem.strKind P w) l := fun e he => by
  obtain ⟨k, tk, e1, e2⟩ := g e he
  refine ⟨⟨k, ?_, e2⟩, ?_⟩
  · rw [e1]; exact strKind_is P w k tk
  · rw [e1]; rfl
theorem txt_is {e : Int × Value} (g : TxtRow P w e) (k : Str) : (PySem.strKind P w).is k e.2 = true ↔ txtOf e = k := by
  obtain ⟨k0, tk, e1, e2⟩ := g
  unfold txtOf
  rw [e1]
  constructor
  · intro h
    exact (PySem.strKind P w).inj _ _ _ (strKind_is P w k0 tk) h
  · rintro rfl
    exact strKind_is P w k0 tk
theorem rows_size {rows : Array (Int × Value)} (p : (rows.toList.map txtOf).Perm ks) : rows.size = ks.length := by
  have := p.length_eq
  rw [List.length_map, Array.length_toList] at this
  exact this
/-- the last steps of an addition -/
theorem setZ_tail {gv : Bool → Sem Unit} (hgv : ∀ (b : Bool) (s1 : Shared) (Q' : Unit → Shared → Prop), Q' () s1 → wpAny (model P w) A (gv b) Q' E s1)
    {o : Obj} {rows : Array (Int × Value)} {ep : Nat} {t : SetTable} (ho : s.heap.get? a = some o) (hex : o.ExactSet) (hd : o.data = .set rows ep t)
    {rows1 : Array (Int × Value)} {t2 : SetTable} {ks1 : List Str} (g1 : ∀ e ∈ rows1.toList, TxtRow P w e) (p1 : (rows1.toList.map txtOf).Perm ks1) (nd1 : ks1.Nodup)
    (hb1 : ks1.length < scanBound) (hf2 : t2.fits rows1.size = true) (hr : Ris t2.place.toList) (hl : w.params.followText "set-order" = true ∨ t2.led = true) {was : Bool} {R : Option Bool → Shared → Prop}
    (hR : ∀ h', Heap.SameBut a s.heap h' → SetZ P w h' a ks1 → R (some true) { s with heap := h' }) :
    wpAny (model P w) A (do
        storeSet a rows1 t2
        if (!was && t2.tooFull) = true then do
            gv (relayAll t2 rows1 (SetTable.grown rows1.size)).2.2
            storeSet a (relayAll t2 rows1 (SetTable.grown rows1.size)).1 (relayAll t2 rows1 (SetTable.grown rows1.size)).2.1
            pure (some true)
          else pure (some true)) R E s := by
  have sz1 : rows1.size < scanBound := by rw [rows_size p1]; exact hb1
  refine wpAny_bind (wpAny_storeSet_of ho hd ?_ (fits_of_scanBound sz1))
  have at1 := store_at (es' := rows1) (t' := t2) ho hd
  have sb := Heap.SameBut.update s.heap a (Obj.putSet rows1 t2)
  split
  · have pm := relayAll_perm t2 rows1 (SetTable.grown rows1.size)
    have hf3 := relayAll_fits t2 rows1 (SetTable.grown rows1.size)
    have hr3 := relayAll_ris t2 rows1 (SetTable.grown rows1.size)
    have hl3 := relayAll_led t2 rows1 (SetTable.grown rows1.size)
    generalize relayAll t2 rows1 (SetTable.grown rows1.size) = Z at pm hf3 hr3 hl3 ⊢
    obtain ⟨rows2, t3, gave⟩ := Z
    dsimp only at pm hf3 hr3 hl3 ⊢
    have p2 : (rows2.toList.map txtOf).Perm ks1 := (pm.map txtOf).trans p1
    have sz2 : rows2.size < scanBound := by rw [rows_size p2]; exact hb1
    refine wpAny_bind (hgv _ _ _ ?_)
    refine wpAny_bind (wpAny_storeSet_of at1 rfl ?_ (fits_of_scanBound sz2))
    have at2 := store_at (es' := rows2) (t' := t3) at1 rfl
    refine wpAny_pure (hR _ (sb.trans (Heap.SameBut.update _ a _)) ?_)
    refine ⟨_, rows2, _, t3, at2, hex, rfl, fun e he => g1 e (pm.mem_iff.mp he), p2, nd1, hb1, hf3, hr3, ?_⟩
    rcases hl with z | z
    · exact .inl z
    · exact .inr (hl3.trans z)
  · exact wpAny_pure (hR _ sb ⟨_, rows1, _, t2, at1, hex, rfl, g1, p1, nd1, hb1, hf2, hr, hl⟩)
/-- a text is put in -/
theorem setZ_add {k : Str} {tk : Tok} {Q : Bool → Shared → Prop} (R : SetZ P w s.heap a ks) (room : ks.length + 1 < scanBound)
    (hQ : ∀ h' b, Heap.SameBut a s.heap h' → SetZ P w h' a (putS ks k) → Q b { s with heap := h' }) :
    wpAny (model P w) A (setAddHashed a (.str k tk) ((PySem.strKind P w).hash k)) Q E s := by
  obtain ⟨o, rows, ep, t, ho, hex, hd, g, pm0, nd, hb, hf, hr, hl⟩ := R
  have sz : rows.size < scanBound := by rw [rows_size pm0]; exact hb
  have key : (PySem.strKind P w).is k (.str k tk) = true := strKind_is P w k tk
  have scn : (Value.str k tk).scannable = true := rfl
  have els : ElemsOf (PySem.strKind P w) rows.toList := txt_elems g
  unfold setAddHashed setAddHashedIn
  refine wpAny_holding (wpAny_bind (wpAny_setState_of ho hd hf ?_))
  dsimp only
  rw [byScan_of scn sz els]
  simp only [↓reduceIte]
  unfold setAddByScan
  refine wpAny_bind ?_
  refine wpAny_bind (wpAny_rule ?_)
  refine wpAny_bind (wpAny_setScan_of key ho hd hf els ?_)
  have mem : ∀ x, x ∈ ks ↔ ∃ e ∈ rows.toList, (PySem.strKind P w).is x e.2 = true := fun x => by
    rw [← pm0.mem_iff, List.mem_map]
    constructor
    · rintro ⟨e, he, q⟩
      exact ⟨e, he, (txt_is (g e he) x).2 q⟩
    · rintro ⟨e, he, q⟩
      exact ⟨e, he, (txt_is (g e he) x).1 q⟩
  cases fi : List.findIdx? (fun e => (PySem.strKind P w).is k e.2) rows.toList with
  | some j =>
    dsimp only
    obtain ⟨hj, pj, _⟩ := List.findIdx?_eq_some_iff_getElem.mp fi
    have hk : k ∈ ks := (mem k).2 ⟨rows.toList[j], List.getElem_mem hj, pj⟩
    refine wpAny_pure (wpAny_pure ?_)
    refine hQ s.heap _ (Heap.SameBut.refl a s.heap) ?_
    unfold putS
    rw [if_pos hk]
    exact ⟨o, rows, ep, t, ho, hex, hd, g, pm0, nd, hb, hf, hr, hl⟩
  | none =>
    dsimp only
    have hk : k ∉ ks := fun z => by
      obtain ⟨e, he, q⟩ := (mem k).1 z
      have c := List.findIdx?_eq_none_iff.mp fi e he
      rw [q] at c
      cases c
    have gw : ∀ (b : Bool) {s1 : Shared} {Q' : Unit → Shared → Prop}, Q' () s1 → wpAny (model P w) A (match b with | true => rule "set.scan.the-table-gave-way" | false => pure ()) Q' E s1 := fun b s1 Q' q => by
      cases b
      · exact wpAny_pure q
      · exact wpAny_rule q
    have pm := layNew_perm t rows ((PySem.strKind P w).hash k) (.str k tk)
    have hf1 := layNew_fits t rows ((PySem.strKind P w).hash k) (.str k tk)
    have hr1 := layNew_ris t rows ((PySem.strKind P w).hash k) (.str k tk) hr
    have hl1 := layNew_led t rows ((PySem.strKind P w).hash k) (.str k tk)
    generalize layNew t rows ((PySem.strKind P w).hash k) (.str k tk) = Z at pm hf1 hr1 hl1 ⊢
    obtain ⟨rows1, t1, was, gave⟩ := Z
    dsimp only at pm hf1 hr1 hl1 ⊢
    rw [Array.toList_push] at pm
    have g1 : ∀ e ∈ rows1.toList, TxtRow P w e := fun e he => by
      rcases List.mem_append.mp (pm.mem_iff.mp he) with z | z
      · exact g e z
      · rw [List.mem_singleton.mp z]; exact ⟨k, tk, rfl, rfl⟩
    have pk : (rows1.toList.map txtOf).Perm (ks ++ [k]) := by
      have q := pm.map txtOf
      rw [List.map_append] at q
      exact q.trans (pm0.append_right _)
    have ep1 : putS ks k = ks ++ [k] := by unfold putS; rw [if_neg hk]
    have nd1 : (ks ++ [k]).Nodup := by rw [← ep1]; exact putS_nodup nd
    have hb1 : (ks ++ [k]).length < scanBound := by rw [List.length_append]; exact room
    have led : w.params.followText "set-order" = true ∨ t1.led = true := by
      rcases hl with z | z
      · exact .inl z
      · exact .inr (hl1.trans z)
    have fin : ∀ h' b, Heap.SameBut a s.heap h' → SetZ P w h' a (ks ++ [k]) → Q b { s with heap := h' } := fun h' b sb r => hQ h' b sb (by rw [ep1]; exact r)
    refine wpAny_bind (gw _ ?_)
    split
    · refine wpAny_bind ?_
      rw [hashByValue_scannable 8 scn]
      refine wpAny_pure ?_
      refine setZ_tail ?_ ho hex hd g1 pk nd1 hb1 ?_ ?_ ?_ ?_
      · intro b s1 Q' q
        cases b
        · exact wpAny_pure q
        · exact wpAny_rule q
      · first | (split <;> first | exact hf1 | exact SetTable.fits_plain_off hf1) | exact hf1
      · first | (split <;> exact hr1) | exact hr1
      · first | (split <;> exact led) | exact led
      · intro h' sb r
        dsimp only
        exact wpAny_pure (fin h' _ sb r)
    · refine wpAny_bind (wpAny_pure ?_)
      simp only [↓reduceIte]
      refine setZ_tail ?_ ho hex hd g1 pk nd1 hb1 hf1 hr1 led ?_
      · intro b s1 Q' q
        cases b
        · exact wpAny_pure q
        · exact wpAny_rule q
      · intro h' sb r
        dsimp only
        exact wpAny_pure (fin h' _ sb r)
/-- the texts of a walk are put in, one behind the other -/
theorem setZ_loop {I : Addr} {fp wr : List Addr} {G : Array GenState → Array GenState → Prop} {n : Nat} {Pv : Nat → Value → Prop} {St : Nat → Shared → Prop} {R : Result → Shared → Prop}
    (W : WalksS P w A.in1 I fp wr G n Pv St) (S : Addr) (hSf : S ∉ fp) (xs : List Str) (hn : n = xs.length) (hb : xs.length + 1 < scanBound) (hval : ∀ i v, Pv i v → ∃ k t, xs[i]? = some k ∧ v = .str k t) :
    ∀ (m i : Nat) (s : Shared), n - i = m → i ≤ n → St i s → SetZ P w s.heap S (ded (xs.take i)) →
      (∀ s', Moved (S :: wr) G s s' → SetZ P w s'.heap S (ded xs) → R (.ok (.ret .none)) s') →
      codeAny (model P w) A (.builtin "set.update.loop" ⟨[.ref S, .ref I], []⟩) R s := by
  have out : S ∉ wr := fun h => hSf (W.sub _ h)
  have sub : ∀ b ∈ wr, b ∈ S :: wr := fun b hb => List.mem_cons_of_mem _ hb
  intro m
  induction m with
  | zero =>
    intro i s hm hi st hS hR
    obtain rfl : i = n := by omega
    refine codeAny_builtin F.entry_set_update_loop ?_
    rw [Around.under_plainId F.plain_set_update_loop _]
    show wpAny _ A.in1 (pyNext (.ref I) >>= _) _ _ s
    refine wpAny_bind (W.done s _ _ st fun s' mv => ?_)
    show wpAny _ A.in1 (ret Value.none) _ _ s'
    rw [List.take_of_length_le (by omega)] at hS
    exact wpAny_pure (hR s' (mv.mono sub) (hS.at fun o e => mv.heap S o out e))
  | succ m ih =>
    intro i s hm hi st hS hR
    have lt : i < n := by omega
    refine codeAny_builtin F.entry_set_update_loop ?_
    rw [Around.under_plainId F.plain_set_update_loop _]
    show wpAny _ A.in1 (pyNext (.ref I) >>= _) _ _ s
    refine wpAny_bind (W.item i s _ _ lt st fun v s' hP st' mv => ?_)
    obtain ⟨z, t, hz, rfl⟩ := hval i v hP
    have hS' : SetZ P w s'.heap S (ded (xs.take i)) := hS.at fun o e => mv.heap S o out e
    show wpAny _ A.in1 (holding [Value.str z t] (setAdd S (.str z t)) >>= _) _ _ s'
    refine wpAny_bind (wpAny_holding ?_)
    unfold setAdd
    refine wpAny_holding ?_
    refine wpAny_bind ((PySem.strKind P w).pyHash (k := z) (strKind_is _ _ _ _) ?_)
    have few : (ded (xs.take i)).length + 1 < scanBound := by
      have q := ded_len (xs.take i)
      rw [List.length_take] at q
      omega
    refine setZ_add (s := { s' with toks := s'.toks + 1 }) hS' few fun h' b sb hS2 => ?_
    have hS3 : SetZ P w h' S (ded (xs.take (i + 1))) := by
      rw [List.take_add_one, hz]
      show SetZ P w h' S (ded (xs.take i ++ [z]))
      rw [ded_snoc]
      exact hS2
    refine wpAny_pure ⟨plainId_quiet F.plain_set_update_loop _, ih (i + 1) _ (by omega) lt (W.frame _ s' _ _ st' (Nat.le_succ _) fun c hc o e => ?_) hS3 fun s2 mv2 hS4 => ?_⟩
    · rw [sb.2 c (fun z : c = S => hSf (z ▸ hc))]; exact e
    · refine hR s2 (Moved.trans W.gtrans ((mv.mono sub).then_heap (Nat.le_succ _) fun c o hc e => ?_) mv2) hS4
      rw [sb.2 c (fun z : c = S => hc (by rw [z]; exact List.mem_cons_self))]; exact e
theorem setZ_fresh {h : Heap} (ho : h.get? a = some { cls := .type "set", dict := none, data := .set #[] 0 (.fresh 0 0 (!w.params.followText "set-order")) }) : SetZ P w h a [] :=
  ⟨_, #[], 0, _, ho, ⟨rfl, rfl, rfl⟩, rfl, (fun e he => by simp at he), List.Perm.nil, List.nodup_nil, by decide, by rfl, List.Pairwise.nil, by
    show _ ∨ (!w.params.followText "set-order") = true
    cases w.params.followText "set-order"
    · exact .inr rfl
    · exact .inl rfl⟩
set_option maxRecDepth 100000 in
set_option maxHeartbeats 3200000 in
theorem call_setZ_list {l : Addr} {items : Array Value} (xs : List Str) {Q : Value → Shared → Prop} (hh : A.handled = none) (hl : s.heap.IsList l items) (sz : items.size = xs.length) (hval : ∀ (i : Nat) (v : Value), items[i]? = some v → ∃ k t, xs[i]? = some k ∧ v = .str k t)
    (hb : xs.length + 1 < scanBound) (hQ : ∀ (h' : Heap) (tk : Nat), SetZ P w h' s.heap.objs.size (ded xs) → (∀ b o, s.heap.get? b = some o → h'.get? b = some o) → Q (.ref s.heap.objs.size) { s with heap := h', toks := tk }) :
    wpAny (model P w) A (call (.type "set") [.ref l]) Q E s := by
  obtain ⟨c0, tl0, mro0⟩ := F.called_set.mro
  have made0 := F.called_set.made
  have sub0 := F.called_set.sub
  refine wpAny_call (codeAny_of_tree ?_)
  show wpAny _ _ (callAny (.type "set") _) _ _ _
  refine wpAny_pure ⟨Code.quiet_builtin _ (by decide +kernel), codeAny_builtin F.entry_type_call ?_⟩
  rw [Around.under_plain (weight_type_call_type "set" [.ref l] []) rfl]
  have nt := F.called_set.notType
  have cc := F.called_set.canCreate
  have tc := F.typeCall_set_1 (.ref l)
  repeat (any_goals (first | assumption | wp_step))
  refine codeAny_mono (code_set_led1 (.ref l) (E := E) (Q₁ := fun v s1 => v = .ref s.heap.objs.size ∧ s1 = { s with heap := s.heap.push { cls := .type "set", dict := none, data := .set #[] 0 (.fresh 0 0 (!w.params.followText "set-order")) } }) ⟨rfl, rfl⟩) fun r s1 hr => ?_
  cases r with
  | error e => exact hr
  | ok fl =>
    cases fl with
    | ret v =>
      obtain ⟨rfl, rfl⟩ := hr
      have hS : (s.heap.push { cls := .type "set", dict := none, data := .set #[] 0 (.fresh 0 0 (!w.params.followText "set-order")) }).get? s.heap.objs.size = some { cls := .type "set", dict := none, data := .set #[] 0 (.fresh 0 0 (!w.params.followText "set-order")) } := Heap.get?_push_size _ rfl
      have hT : Shared.TypeIs { s with heap := s.heap.push { cls := .type "set", dict := none, data := .set #[] 0 (.fresh 0 0 (!w.params.followText "set-order")) } } (.ref s.heap.objs.size) "set" := ⟨_, hS, rfl⟩
      have li := F.called_set.init.lookup
      have bi := F.called_set.init.bind (.ref s.heap.objs.size)
      repeat (any_goals (first | assumption | wp_step))
      refine codeAny_mono (codeAny_call_builtin (R := wants (fun r s2 => r = .none ∧ ∃ h' tk, s2 = { s with heap := h', toks := tk } ∧ SetZ P w h' s.heap.objs.size (ded xs) ∧
          (∀ b o, s.heap.get? b = some o → h'.get? b = some o)) E) F.called_set.init.plain F.entry_set_init (check_set_init_1 hT ?_)) fun r2 s2 hr2 => ?_
      · obtain ⟨ol, hol, hcl, nl, hdl⟩ := hl
        obtain ⟨ocls, odict, odata, oslots⟩ := ol
        simp only at hcl hdl
        subst hcl; subst hdl
        have hol' : (s.heap.push { cls := .type "set", dict := none, data := .set #[] 0 (.fresh 0 0 (!w.params.followText "set-order")) }).get? l = some { cls := .type "list", dict := odict, data := .seq items nl, slots := oslots } := Heap.get?_push_of_some _ hol
        have u1 := F.sub_list_set
        have u2 := F.sub_list_frozenset
        have u3 : (Value.type "list" == Value.type "dict") = false := by decide
        have hl1 : (s.heap.push { cls := .type "set", dict := none, data := .set #[] 0 (.fresh 0 0 (!w.params.followText "set-order")) }).IsList l items := ⟨_, hol', rfl, nl, rfl⟩
        unfold Builtin.«set.__init__» noKeywords Builtin.Frozenset.updateFrom
        generalize hPI : pyIter = PI
        wp_walk
        subst hPI
        refine wpAny_pyIter_list hl1 ?_
        refine wpAny_bind (wpAny_runValue ?_)
        have below : l < s.heap.objs.size := Heap.lt_size hol
        have calm3 : A.in1.in1.in1.handled = none := by simp [hh]
        have neI : l ≠ (s.heap.push { cls := .type "set", dict := none, data := .set #[] 0 (.fresh 0 0 (!w.params.followText "set-order")) }).objs.size := by rw [Heap.size_push]; exact Nat.ne_of_lt (Nat.lt_succ_of_lt below)
        have nf : s.heap.objs.size ∉ [(s.heap.push { cls := .type "set", dict := none, data := .set #[] 0 (.fresh 0 0 (!w.params.followText "set-order")) }).objs.size, l] := by
          rw [Heap.size_push]
          simp only [List.mem_cons, List.not_mem_nil, or_false, not_or]
          exact ⟨Nat.ne_of_lt (Nat.lt_succ_self _), Nat.ne_of_gt below⟩
        refine setZ_loop ((Walks.list calm3 _ l neI items).toS) s.heap.objs.size nf xs sz hb hval (items.size - 0) 0 _ (by omega) (Nat.zero_le _) ⟨⟨_, Heap.get?_push_size _ rfl, rfl, rfl⟩, (hl1.push _)⟩ ?start ?done
        case start =>
          rw [List.take_zero, show ded [] = [] by unfold ded; rfl]
          refine setZ_fresh ?_
          exact Heap.get?_push_of_some _ hS
        case done =>
          intro s' mv hS'
          obtain ⟨h', g2, d2, tk2, os2⟩ := s'
          obtain rfl : g2 = s.gens := mv.gens
          obtain rfl : d2 = s.drawn := mv.drawn
          obtain rfl : os2 = s.os := mv.os
          show wpAny _ _ _ _ _ _
          refine wpAny_pure ?_
          show wpAny _ _ (ret Value.none) _ _ _
          refine wpAny_pure ⟨rfl, h', tk2, rfl, hS', fun b o e => ?_⟩
          have lb : b < s.heap.objs.size := Heap.lt_size e
          refine mv.heap b o ?_ (Heap.get?_push_of_some _ (Heap.get?_push_of_some _ e))
          rw [Heap.size_push]
          simp only [List.mem_cons, List.not_mem_nil, or_false, not_or]
          exact ⟨Nat.ne_of_lt lb, Nat.ne_of_lt (Nat.lt_succ_of_lt lb)⟩
      · cases r2 with
        | error e => exact hr2
        | ok fl2 =>
          cases fl2 with
          | ret r =>
            obtain ⟨rfl, h', tk, rfl, hS', keep⟩ := hr2
            repeat (any_goals (first | assumption | wp_step))
            exact hQ _ _ hS' keep
          | _ => exact hr2.elim
    | _ => exact hr.elim
set_option maxRecDepth 100000 in
set_option maxHeartbeats 3200000 in
theorem call_setZ_tuple {l : Addr} {items : Array Value} (xs : List Str) {Q : Value → Shared → Prop} (hh : A.handled = none) (hl : s.heap.IsTuple l items) (sz : items.size = xs.length) (hval : ∀ (i : Nat) (v : Value), items[i]? = some v → ∃ k t, xs[i]? = some k ∧ v = .str k t)
    (hb : xs.length + 1 < scanBound) (hQ : ∀ (h' : Heap) (tk : Nat), SetZ P w h' s.heap.objs.size (ded xs) → (∀ b o, s.heap.get? b = some o → h'.get? b = some o) → Q (.ref s.heap.objs.size) { s with heap := h', toks := tk }) :
    wpAny (model P w) A (call (.type "set") [.ref l]) Q E s := by
  obtain ⟨c0, tl0, mro0⟩ := F.called_set.mro
  have made0 := F.called_set.made
  have sub0 := F.called_set.sub
  refine wpAny_call (codeAny_of_tree ?_)
  show wpAny _ _ (callAny (.type "set") _) _ _ _
  refine wpAny_pure ⟨Code.quiet_builtin _ (by decide +kernel), codeAny_builtin F.entry_type_call ?_⟩
  rw [Around.under_plain (weight_type_call_type "set" [.ref l] []) rfl]
  have nt := F.called_set.notType
  have cc := F.called_set.canCreate
  have tc := F.typeCall_set_1 (.ref l)
  repeat (any_goals (first | assumption | wp_step))
  refine codeAny_mono (code_set_led1 (.ref l) (E := E) (Q₁ := fun v s1 => v = .ref s.heap.objs.size ∧ s1 = { s with heap := s.heap.push { cls := .type "set", dict := none, data := .set #[] 0 (.fresh 0 0 (!w.params.followText "set-order")) } }) ⟨rfl, rfl⟩) fun r s1 hr => ?_
  cases r with
  | error e => exact hr
  | ok fl =>
    cases fl with
    | ret v =>
      obtain ⟨rfl, rfl⟩ := hr
      have hS : (s.heap.push { cls := .type "set", dict := none, data := .set #[] 0 (.fresh 0 0 (!w.params.followText "set-order")) }).get? s.heap.objs.size = some { cls := .type "set", dict := none, data := .set #[] 0 (.fresh 0 0 (!w.params.followText "set-order")) } := Heap.get?_push_size _ rfl
      have hT : Shared.TypeIs { s with heap := s.heap.push { cls := .type "set", dict := none, data := .set #[] 0 (.fresh 0 0 (!w.params.followText "set-order")) } } (.ref s.heap.objs.size) "set" := ⟨_, hS, rfl⟩
      have li := F.called_set.init.lookup
      have bi := F.called_set.init.bind (.ref s.heap.objs.size)
      repeat (any_goals (first | assumption | wp_step))
      refine codeAny_mono (codeAny_call_builtin (R := wants (fun r s2 => r = .none ∧ ∃ h' tk, s2 = { s with heap := h', toks := tk } ∧ SetZ P w h' s.heap.objs.size (ded xs) ∧
          (∀ b o, s.heap.get? b = some o → h'.get? b = some o)) E) F.called_set.init.plain F.entry_set_init (check_set_init_1 hT ?_)) fun r2 s2 hr2 => ?_
      · obtain ⟨ol, hol, hcl, nl, hdl⟩ := hl
        obtain ⟨ocls, odict, odata, oslots⟩ := ol
        simp only at hcl hdl
        subst hcl; subst hdl
        have hol' : (s.heap.push { cls := .type "set", dict := none, data := .set #[] 0 (.fresh 0 0 (!w.params.followText "set-order")) }).get? l = some { cls := .type "tuple", dict := odict, data := .seq items nl, slots := oslots } := Heap.get?_push_of_some _ hol
        have u1 := F.sub_tuple_set
        have u2 := F.sub_tuple_frozenset
        have u3 : (Value.type "tuple" == Value.type "dict") = false := by decide
        have hl1 : (s.heap.push { cls := .type "set", dict := none, data := .set #[] 0 (.fresh 0 0 (!w.params.followText "set-order")) }).IsTuple l items := ⟨_, hol', rfl, nl, rfl⟩
        unfold Builtin.«set.__init__» noKeywords Builtin.Frozenset.updateFrom
        generalize hPI : pyIter = PI
        wp_walk
        subst hPI
        refine wpAny_pyIter_tuple hl1 ?_
        refine wpAny_bind (wpAny_runValue ?_)
        have below : l < s.heap.objs.size := Heap.lt_size hol
        have calm3 : A.in1.in1.in1.handled = none := by simp [hh]
        have neI : l ≠ (s.heap.push { cls := .type "set", dict := none, data := .set #[] 0 (.fresh 0 0 (!w.params.followText "set-order")) }).objs.size := by rw [Heap.size_push]; exact Nat.ne_of_lt (Nat.lt_succ_of_lt below)
        have nf : s.heap.objs.size ∉ [(s.heap.push { cls := .type "set", dict := none, data := .set #[] 0 (.fresh 0 0 (!w.params.followText "set-order")) }).objs.size, l] := by
          rw [Heap.size_push]
          simp only [List.mem_cons, List.not_mem_nil, or_false, not_or]
          exact ⟨Nat.ne_of_lt (Nat.lt_succ_self _), Nat.ne_of_gt below⟩
        refine setZ_loop ((Walks.tuple calm3 _ l neI items).toS) s.heap.objs.size nf xs sz hb hval (items.size - 0) 0 _ (by omega) (Nat.zero_le _) ⟨⟨_, Heap.get?_push_size _ rfl, rfl, rfl⟩, (hl1.push _)⟩ ?start ?done
        case start =>
          rw [List.take_zero, show ded [] = [] by unfold ded; rfl]
          refine setZ_fresh ?_
          exact Heap.get?_push_of_some _ hS
        case done =>
          intro s' mv hS'
          obtain ⟨h', g2, d2, tk2, os2⟩ := s'
          obtain rfl : g2 = s.gens := mv.gens
          obtain rfl : d2 = s.drawn := mv.drawn
          obtain rfl : os2 = s.os := mv.os
          show wpAny _ _ _ _ _ _
          refine wpAny_pure ?_
          show wpAny _ _ (ret Value.none) _ _ _
          refine wpAny_pure ⟨rfl, h', tk2, rfl, hS', fun b o e => ?_⟩
          have lb : b < s.heap.objs.size := Heap.lt_size e
          refine mv.heap b o ?_ (Heap.get?_push_of_some _ (Heap.get?_push_of_some _ e))
          rw [Heap.size_push]
          simp only [List.mem_cons, List.not_mem_nil, or_false, not_or]
          exact ⟨Nat.ne_of_lt lb, Nat.ne_of_lt (Nat.lt_succ_of_lt lb)⟩
      · cases r2 with
        | error e => exact hr2
        | ok fl2 =>
          cases fl2 with
          | ret r =>
            obtain ⟨rfl, h', tk, rfl, hS', keep⟩ := hr2
            repeat (any_goals (first | assumption | wp_step))
            exact hQ _ _ hS' keep
          | _ => exact hr2.elim
    | _ => exact hr.elim
end
end DL
namespace DL
open PySem PySem.Spec PyProof.Rows L2
/-! the order of texts and of pairs of texts -/
theorem leS_eq (a b : Str) : leS a b = decide (a.cps.toList ≤ b.cps.toList) := congrFun (congrFun (PySem.W.dataLe_str (fun x : Str => x)) a) b
theorem leS_trans (a b c : Str) (h1 : leS a b = true) (h2 : leS b c = true) : leS a c = true := by
  rw [leS_eq, decide_eq_true_iff] at *
  exact List.le_trans h1 h2
theorem leS_total (a b : Str) : (leS a b || leS b a) = true := by
  rw [leS_eq, leS_eq, Bool.or_eq_true, decide_eq_true_iff, decide_eq_true_iff]
  exact List.le_total _ _
theorem str_ext {a b : Str} (h : a.cps.toList = b.cps.toList) : a = b := by
  cases a; cases b; congr 1; exact Array.toList_inj.mp h
theorem leS_antisymm {a b : Str} (h1 : leS a b = true) (h2 : leS b a = true) : a = b := by
  rw [leS_eq, decide_eq_true_iff] at *
  exact str_ext (List.le_antisymm h1 h2)
theorem sortS_sorted (l : List Str) : (sortS l).Pairwise fun a b => leS a b = true := by unfold sortS; exact List.pairwise_mergeSort leS_trans leS_total l
theorem sortS_eq {l m : List Str} (h : l.Perm m) : sortS l = sortS m :=
  (((sortS_perm l).trans h).trans (sortS_perm m).symm).eq_of_pairwise (fun a b _ _ h1 h2 => leS_antisymm h1 h2) (sortS_sorted l) (sortS_sorted m)
theorem perm_of_nodup {α : Type} [DecidableEq α] {l m : List α} (h1 : l.Nodup) (h2 : m.Nodup) (h : ∀ x, x ∈ l ↔ x ∈ m) : l.Perm m := by
  induction l generalizing m with
  | nil =>
    have : m = [] := by
      cases m with
      | nil => rfl
      | cons x r => exact absurd ((h x).mpr (by simp)) (by simp)
    rw [this]
  | cons x l ih =>
    obtain ⟨hx, hl⟩ := List.nodup_cons.mp h1
    have hm : x ∈ m := (h x).mp (by simp)
    refine (List.Perm.cons x (ih hl (h2.erase x) fun y => ?_)).trans (List.perm_cons_erase hm).symm
    rw [h2.mem_erase_iff, ← h y, List.mem_cons]
    constructor
    · intro hy
      exact ⟨fun e => hx (e ▸ hy), .inr hy⟩
    · rintro ⟨n, e | e⟩
      · exact absurd e n
      · exact e
theorem sortS_ext {l m : List Str} (h1 : l.Nodup) (h2 : m.Nodup) (h : ∀ x, x ∈ l ↔ x ∈ m) : sortS l = sortS m := sortS_eq (perm_of_nodup h1 h2 h)
theorem sortS_len (l : List Str) : (sortS l).length = l.length := (sortS_perm l).length_eq
theorem sortU_len (l : List Us) : (sortU l).length = l.length := (sortU_perm l).length_eq
/-! len(set(e)), sorted(set(e)) of texts -/
def tSortZ (K : PySem.W.Frag) (ta : TE) : TE := fun st H Q => ta st H fun x H1 => ∃ (l : Addr) (xs : List Str), x = .ref l ∧ (SqL K H1 l (xs.map V.str) ∨ SqT K H1 l (xs.map V.str)) ∧ xs.length ≤ 4000 ∧ (∀ s ∈ xs, asc s) ∧
  ∀ p, H1 p = none → Q (.ref p) (upd H1 p (.lst ((sortS (ded xs)).map V.str)))
section
variable {X : Cx} {pins : List (Addr × Obj)} {st : L2.St} {H : Hp} {s : Shared}
theorem vals_at {xs : List Str} {us : List Value} (r : Vals (xs.map V.str) us) (i : Nat) (v : Value) (h : us.toArray[i]? = some v) : ∃ k t, xs[i]? = some k ∧ v = .str k t := by
  rw [List.getElem?_toArray] at h
  have hl : us.length = xs.length := by rw [← r.length, List.length_map]
  have hi : i < xs.length := by rw [← hl]; exact (List.getElem?_eq_some_iff.mp h).1
  obtain ⟨u, hu, t, ht⟩ := r.get (i := i) (x := .str xs[i]) (by simp [hi])
  rw [h] at hu
  cases hu
  exact ⟨xs[i], t, List.getElem?_eq_getElem hi, ht⟩
theorem set_of {l : Addr} {xs : List Str} {Q : Value → Shared → Prop} {E : Value → Shared → Prop} (I : Inv X pins st H s) (hc : X.calm = true) (hq : SqL X.K H l (xs.map V.str) ∨ SqT X.K H l (xs.map V.str)) (hb : xs.length ≤ 4000)
    (h : ∀ (h' : Heap) (tk : Nat), SetZ X.prog X.w h' s.heap.objs.size (ded xs) → Inv X pins st H { s with heap := h', toks := tk } → s.heap.objs.size < h'.objs.size → Q (.ref s.heap.objs.size) { s with heap := h', toks := tk }) :
    wpAny (model X.prog X.w) X.A (call (.type "set") [.ref l]) Q E s := by
  have hb' : xs.length + 1 < scanBound := by unfold scanBound; omega
  have fin : ∀ (h' : Heap) (tk : Nat), SetZ X.prog X.w h' s.heap.objs.size (ded xs) → (∀ b o, s.heap.get? b = some o → h'.get? b = some o) → Q (.ref s.heap.objs.size) { s with heap := h', toks := tk } := fun h' tk hS k => by
    refine h h' tk hS (I.kept k) ?_
    obtain ⟨o, _, _, _, ho, _⟩ := hS
    exact Heap.lt_size ho
  rcases hq with hq | hq
  · obtain ⟨its, r, pl, hz⟩ := I.list hq
    exact call_setZ_list xs (I.ok.hd hc) pl.isList (by rw [List.size_toArray, ← r.length, List.length_map]) (vals_at r) hb' fin
  · obtain ⟨its, r, pl, hz⟩ := I.tuple hq
    exact call_setZ_tuple xs (I.ok.hd hc) pl (by rw [List.size_toArray, ← r.length, List.length_map]) (vals_at r) hb' fin
theorem vals_strs : ∀ (us : List Value), (∀ u ∈ us, ∃ k tk, u = Value.str k tk) → ∃ ks : List Str, Vals (ks.map V.str) us ∧ us.map (fun u => txtOf (0, u)) = ks
  | [], _ => ⟨[], .nil, rfl⟩
  | u :: us, h => by
    obtain ⟨k, tk, rfl⟩ := h u (by simp)
    obtain ⟨ks, h1, h2⟩ := vals_strs us fun x hx => h x (by simp [hx])
    exact ⟨k :: ks, .cons ⟨tk, rfl⟩ h1, by rw [List.map_cons, h2]; rfl⟩
theorem sorted_setZ {a : Addr} {ks : List Str} {Q : VK} (I : Inv X pins st H s) (hc : X.calm = true) (hu : X.A.units + 64 < cLine) (R : SetZ X.prog X.w s.heap a ks) (hasc : ∀ k ∈ ks, asc k)
    (hq : ∀ p, H p = none → Q (.ref p) (upd H p (.lst ((sortS ks).map V.str)))) : wpAny (model X.prog X.w) X.A (call (.builtin "sorted") [.ref a]) (EP X pins st Q) X.xe s := by
  obtain ⟨o, rows, ep, t, ho, hex, hd, g, pm, nd, hb, hf, hr, hl⟩ := R
  have sz := rows_size pm
  have few : ks.length ≤ 4096 := by unfold scanBound at hb; omega
  have hL : ks.length ≤ sizeLine := Nat.le_trans few (by decide)
  refine Calls.call_function_entry PyProof.Rows.kind_sorted PyProof.Rows.plain_sorted PyProof.Rows.entry_sorted (PyProof.Rows.args_sorted1 _) ?_
  unfold Builtin.«sorted»
  refine wpAny_bind (m := checkCount "sorted" 1 1 _) (wpAny_pure ?_)
  refine wpAny_bind (collect_set (A := X.A.in1) (I.ok.hd hc) ⟨o, ho, hex.1, hd⟩ hf (by rw [sz]; exact hb) hr hl fun s1 ws keep grow eg eo pw => ?_)
  have hw : ∀ u ∈ ws, ∃ k tk, u = Value.str k tk := fun u hu' => by
    obtain ⟨e, he, rfl⟩ := List.mem_map.mp (pw.mem_iff.mp hu')
    obtain ⟨k, tk, e1, _⟩ := g e he
    exact ⟨k, tk, e1⟩
  obtain ⟨zs, rv, ez⟩ := vals_strs ws hw
  have pz : zs.Perm ks := by
    rw [← ez]
    refine (pw.map _).trans ?_
    rw [List.map_map]
    exact pm
  have hzl : zs.length = ks.length := pz.length_eq
  have hwl : ws.length = zs.length := by rw [← ez, List.length_map]
  have I1 : Inv X pins st H { s with heap := s1.heap, gens := s1.gens, drawn := s1.drawn, toks := s1.toks } :=
    I.call (ch := []) (Un.kept keep) (I.hok.kept keep) (by rw [eg]; exact I.bare) (fun _ z => nomatch z)
  have es : s1 = { s with heap := s1.heap, gens := s1.gens, drawn := s1.drawn, toks := s1.toks } := by
    cases s1
    cases s
    cases eo
    rfl
  generalize hbs : (zs.map fun k => (V.str k, PyData.str k)) = bs
  have hb1 : bs.map (·.1) = zs.map V.str := by rw [← hbs, List.map_map]; rfl
  have hb2 : bs.map (·.2) = zs.map PyData.str := by rw [← hbs, List.map_map]; rfl
  have hbl : bs.length = zs.length := by rw [← hbs, List.length_map]
  rw [← hb1] at rv
  refine wpAny_bind (wpAny_newList ?_ (by rw [hwl, hzl]; exact hL))
  have hoL : (s1.heap.push (seqObj "list" ws.toArray 0)).get? s1.heap.objs.size = some (seqObj "list" ws.toArray 0) := Heap.get?_push_size _ rfl
  have e := each_vals rv
  have er : PySem.W.EachIs (fun v (b : V × PyData) => ∃ as, Reads (s1.heap.push (seqObj "list" ws.toArray 0)) v b.2 as ∧ s1.heap.objs.size ∉ as) ws bs := by
    refine (PySem.W.each_mem e).mono fun v b ⟨rb, hb⟩ => ?_
    rw [← hbs] at hb
    obtain ⟨k, _, rfl⟩ := List.mem_map.mp hb
    obtain ⟨tk, rfl⟩ := rb
    exact ⟨[], .str k tk, by simp⟩
  refine wpAny_bind (wpAny_holding (PySem.W.list_sort_data (A := X.A.in1) (s := { s1 with heap := s1.heap.push (seqObj "list" ws.toArray 0) }) hoL e er ?_ ?_ (by rw [hbl, hzl]; exact hL) (fun b hb => ?_) fun out hol hout => ?_))
  · rw [hb2]; exact PySem.W.AllAlike.of fun _ _ => rfl
  · rw [hb2]; exact PySem.W.Sortable.others fun b => ⟨fun e => by simp at e, fun xs e => by simp at e⟩
  · rw [← hbs] at hb
    obtain ⟨k, _, rfl⟩ := List.mem_map.mp hb
    show X.A.units + 1 + 1 + 0 < cLine
    omega
  · obtain ⟨c, hcc⟩ := PyProof.Rows.sortedHeap_at (vs := ws) (out := out.toArray) hoL
    have hv := vals_each hout
    have em : (bs.mergeSort (PySem.W.dataLe false (·.2))).map (·.1) = (sortS ks).map V.str := by
      rw [← sortS_eq pz, ← hbs]
      unfold sortS
      rw [← List.map_mergeSort (r := leS) (s := PySem.W.dataLe false (·.2)) (f := fun k => (V.str k, PyData.str k)) fun _ _ _ _ => rfl, List.map_map]
      rfl
    rw [em] at hv
    have hlen : ((sortS ks).map V.str).length ≤ sizeLine := by rw [List.length_map, sortS_len]; exact hL
    rw [es]
    refine wpAny_pure ⟨_, rfl, .ref s1.heap.objs.size, upd H s1.heap.objs.size (.lst _), I1.laid (t' := s1.toks) (fun b u e => ?_) (Nat.le_refl _)
      (show ObjOk X.prog X.w _ _ _ (.lst _) from ⟨hlen, out, c, hv, hcc⟩), rfl, hq _ (I1.hok.fresh (Nat.le_refl _))⟩
    have hb : b < s1.heap.objs.size := Heap.lt_size e
    rw [PyProof.Rows.sortedHeap_old (Nat.ne_of_lt hb) (by rw [size_push']; exact Nat.lt_succ_of_lt hb)]
    exact Heap.get?_push_of_some _ e
theorem pe_sortZ {a : Expr} {ta : TE} {p p2 q pos : Pos} (hg : Gl X "sorted") (hm : X.mg "sorted" = none) (hg2 : Gl X "set") (hm2 : X.mg "set" = none) (ha : PE X a ta) (hc : X.calm = true) (hu : X.A.units + 64 < cLine)
    (na : starEach [a] X.env = (false, eval a X.env) :: starEach [] X.env) : PE X (.Call (.Name "sorted" p) [.Call (.Name "set" p2) [a] [] q] [] pos) (tSortZ X.K ta) := by
  refine ⟨fun pins s st H Q I h => ?_⟩
  refine Call_ (ld_blt I hg hm (show bootBuiltins "sorted" = some (.builtin "sorted") by decide +kernel) ?_)
  refine PyProof.Rows.callWith_builtin1 (PyProof.Rows.args_cons ?_ rfl) rfl rfl
  refine Call_ (ld_blt I hg2 hm2 PyProof.Rows.boot_set ?_)
  refine PyProof.Rows.callWith_type1 (PyProof.Rows.args_cons (thn (ha.run pins s st H _ I h) fun v s1 ⟨x, H1, I1, r1, l, xs, e, hq, hb, hasc, q1⟩ => PyProof.Rows.args_nil ?_) na) na rfl
  subst e
  cases r1
  refine set_of I1 hc hq hb fun h' tk hS I2 _ => ?_
  refine PyProof.Rows.args_nil ?_
  exact sorted_setZ I2 hc hu hS (fun k hk => hasc k (ded_mem.mp hk)) q1
variable {K : PySem.W.Frag}
def dSortZ (d : DT) : DT := fun g r f Q => d g r f fun x f1 => ∃ xs : List Str, (x = .lst (xs.map D.str) ∨ x = .tup (xs.map D.str)) ∧ xs.length ≤ 4000 ∧ (∀ s ∈ xs, asc s) ∧ Q (.lst ((sortS (ded xs)).map D.str)) f1
theorem rp_seqZ {H : Hp} {x : D} {v : V} {xs : List Str} (h : Rp K H x v) (e : x = .lst (xs.map D.str) ∨ x = .tup (xs.map D.str)) : ∃ l, v = .ref l ∧ (SqL K H l (xs.map V.str) ∨ SqT K H l (xs.map V.str)) := by
  rcases e with rfl | rfl
  · obtain ⟨a, vs, rfl, h1, h2⟩ := h
    rw [h2.strs] at h1
    exact ⟨a, rfl, .inl (SqL.of h1)⟩
  · obtain ⟨a, vs, rfl, h1, h2⟩ := h
    rw [h2.strs] at h1
    exact ⟨a, rfl, .inr h1.sq⟩
theorem sqZ_mono {H Hs : Hp} (s : Same Hs H) {l : Addr} {ws : List V} (h : SqL K Hs l ws ∨ SqT K Hs l ws) : SqL K H l ws ∨ SqT K H l ws := by
  rcases h with h | h
  · exact .inl (s.seq h)
  · exact .inr (sqT_mono s h)
theorem RpA.ofStrs {H : Hp} : ∀ l : List Str, RpA K H (l.map D.str) (l.map V.str)
  | [] => rfl
  | x :: l => ⟨_, _, rfl, rfl, RpA.ofStrs l⟩
theorem de_sortZ {k : Nat} {a : Expr} {d : DT} {p p2 q pos : Pos} (hr : Room k X.A) (hm : X.mg "sorted" = none) (hm2 : X.mg "set" = none) (ha : DE X a d) (hg : Gl X "sorted" := by rfl) (hg2 : Gl X "set" := by rfl) (hc : X.calm = true := by rfl)
    (na : starEach [a] X.env = (false, eval a X.env) :: starEach [] X.env := by rfl) : DE X (.Call (.Name "sorted" p) [.Call (.Name "set" p2) [a] [] q] [] pos) (dSortZ d) :=
  .mk' (pe_sortZ hg hm hg2 hm2 ha.pe hc hr.units na) fun g r f st H Hs Q Q' A hq hd => ha.sn g r f st H Hs _ _ A (fun x f1 v H1 Hs1 s1 k1 r1 ⟨xs, e, hl, hasc, q1⟩ => by
    obtain ⟨l, rfl, hs⟩ := rp_seqZ r1 e
    refine ⟨l, xs, rfl, sqZ_mono s1.sub hs, hl, hasc, fun p hp => ?_⟩
    have al : Stp none H1 Hs1 (upd H1 p (.lst ((sortS (ded xs)).map V.str))) (upd Hs1 p (.lst ((sortS (ded xs)).map V.str))) := Stp.alloc s1.sub hp
    exact hq (.lst _) f1 (.ref p) _ _ (s1.trans al.gen) (k1.stp al) (rp_lst (RpA.ofStrs _) (same_none s1.sub hp)) q1) hd
end
end DL
namespace DL
open PySem PySem.Spec PyProof.Rows L2
/-! f-strings of texts and numbers -/
/-! comprehensions over typed data -/
theorem lcT {α β : Type} (em : α → D) (em' : β → D) (b : α → Bool) (y : α → β) {g : Option Dk} {t : TgF} {c : DTT} {e : DT} {r : Sg} {Q : List D → Nat → Prop} : ∀ (xs : List α) (acc : List D) (f : Nat),
    (∀ x ∈ xs, ∃ l, t (em x) = some l ∧ (∀ (f : Nat) (Q : Bool → Nat → Prop), Q (b x) f → c g (setsR r l) f Q) ∧ (b x = true → ∀ (f : Nat) (Q : QD), Q (em' (y x)) f → e g (setsR r l) f Q)) →
    Q (acc ++ ((xs.filter b).map y).map em') f → dLcGo g t c e r (xs.map em) acc f Q
  | [], acc, f, _, hq => by
    rw [List.filter_nil, List.map_nil, List.map_nil, List.append_nil] at hq
    exact hq
  | x :: xs, acc, f, he, hq => by
    obtain ⟨l, hl, h1, h2⟩ := he x (by simp)
    simp only [List.map_cons, dLcGo, hl]
    refine h1 f _ ?_
    cases hb : b x with
    | true =>
      rw [if_pos rfl]
      refine h2 hb f _ (lcT em em' b y xs (acc ++ [em' (y x)]) f (fun x' hx' => he x' (by simp [hx'])) ?_)
      rw [List.filter_cons, hb, if_pos rfl, List.map_cons, List.map_cons] at hq
      rw [List.append_assoc]
      exact hq
    | false =>
      rw [if_neg Bool.false_ne_true]
      refine lcT em em' b y xs acc f (fun x' hx' => he x' (by simp [hx'])) ?_
      rw [List.filter_cons, hb, if_neg Bool.false_ne_true] at hq
      exact hq
/-- [x for x in xs if b(x)] -/
theorem lcF {α : Type} (em : α → D) (b : α → Bool) {g : Option Dk} {t : TgF} {c : DTT} {e : DT} {r : Sg} {Q : List D → Nat → Prop} (xs : List α) (f : Nat)
    (h : ∀ x ∈ xs, ∃ l, t (em x) = some l ∧ (∀ (f : Nat) (Q : Bool → Nat → Prop), Q (b x) f → c g (setsR r l) f Q) ∧ (b x = true → ∀ (f : Nat) (Q : QD), Q (em x) f → e g (setsR r l) f Q))
    (q : Q ((xs.filter b).map em) f) : dLcGo g t c e r (xs.map em) [] f Q := by
  refine lcT em em b id xs [] f h ?_
  rw [List.map_id, List.nil_append]
  exact q
/-- [y(x) for x in xs] -/
theorem lcM {α β : Type} (em : α → D) (em' : β → D) (y : α → β) {g : Option Dk} {t : TgF} {e : DT} {r : Sg} {Q : List D → Nat → Prop} (xs : List α) (f : Nat)
    (h : ∀ x ∈ xs, ∃ l, t (em x) = some l ∧ ∀ (f : Nat) (Q : QD), Q (em' (y x)) f → e g (setsR r l) f Q)
    (q : Q ((xs.map y).map em') f) : dLcGo g t dYes e r (xs.map em) [] f Q := by
  refine lcT em em' (fun _ => true) y xs [] f (fun x hx => ?_) ?_
  · obtain ⟨l, h1, h2⟩ := h x hx
    exact ⟨l, h1, fun f Q q => q, fun _ f Q q => h2 f Q q⟩
  · rw [List.filter_eq_self.mpr (fun _ _ => rfl), List.nil_append]
    exact q
theorem fil_nil {α : Type} (xs : List α) (b : α → Bool) : (xs.filter b = []) ↔ ∀ x ∈ xs, b x = false := by
  rw [List.filter_eq_nil_iff]
  constructor
  · intro h x hx
    exact Bool.eq_false_iff.mpr (h x hx)
  · intro h x hx
    rw [h x hx]
    exact Bool.false_ne_true
/-- a loop over numbers -/
theorem dFor_range {g : Option Dk} {t : TgF} {body : DTS} {E : DEnds} (I : Nat → Sg → Nat → Prop) (lo : Int) : ∀ (n : Nat) (r : Sg) (f : Nat),
    (∀ i r f (N : Sg → Nat → Prop), i < n → I i r f → (∀ r' f', I (i + 1) r' f' → N r' f') → ∃ l, t (.int (lo + i)) = some l ∧ body g (setsR r l) f { E with nx := N, ct := N, bk := E.nx }) →
    (∀ r f, I n r f → E.nx r f) → I 0 r f → dForGo g t body E (intsD lo n) r f := by
  intro n r f hs h0 h
  refine dFor_inv (fun rest r f => ∃ i, i ≤ n ∧ rest = (intsD lo n).drop i ∧ I i r f) _ _ _ ?_ ?_ ⟨0, Nat.zero_le _, rfl, h⟩
  · rintro d rest r f N ⟨i, hi, hr, hI⟩ hN
    have hlt : i < n := by
      by_cases e : i < n
      · exact e
      · rw [List.drop_of_length_le (by rw [intsD_len]; omega)] at hr
        cases hr
    have hd : (intsD lo n)[i]? = some (.int (lo + i)) := by
      unfold intsD
      rw [List.getElem?_map, List.getElem?_range hlt]
      rfl
    have hdr : (intsD lo n).drop i = .int (lo + i) :: (intsD lo n).drop (i + 1) := by
      obtain ⟨h1, h2⟩ := List.getElem?_eq_some_iff.mp hd
      rw [List.drop_eq_getElem_cons h1, h2]
    rw [hdr] at hr
    obtain ⟨rfl, rfl⟩ := List.cons.inj hr
    exact hs i r f N hlt hI fun r' f' h' => hN r' f' ⟨i + 1, by omega, rfl, h'⟩
  · rintro r f ⟨i, hi, hr, hI⟩
    have : i = n := by
      by_cases e : i < n
      · have hl := congrArg List.length hr
        rw [List.length_drop, intsD_len, List.length_nil] at hl
        omega
      · omega
    subst this
    exact h0 r f hI
/-- a loop over typed data, the part that is done told -/
theorem dFor_list {α : Type} (em : α → D) {g : Option Dk} {t : TgF} {body : DTS} {E : DEnds} (I : List α → List α → Sg → Nat → Prop) (xs : List α) (r : Sg) (f : Nat)
    (hs : ∀ done x rest r f (N : Sg → Nat → Prop), xs = done ++ x :: rest → I done (x :: rest) r f → (∀ r' f', I (done ++ [x]) rest r' f' → N r' f') → ∃ l, t (em x) = some l ∧ body g (setsR r l) f { E with nx := N, ct := N, bk := E.nx })
    (h0 : ∀ r f, I xs [] r f → E.nx r f) (h : I [] xs r f) : dForGo g t body E (xs.map em) r f := by
  refine dFor_inv (fun rest r f => ∃ done rest', xs = done ++ rest' ∧ rest = rest'.map em ∧ I done rest' r f) _ _ _ ?_ ?_ ⟨[], xs, rfl, rfl, h⟩
  · rintro d rest r f N ⟨done, rest', hx, hr, hI⟩ hN
    match rest', hr with
    | x :: rest', hr =>
      obtain ⟨rfl, rfl⟩ := List.cons.inj hr
      exact hs done x rest' r f N hx hI fun r' f' h' => hN r' f' ⟨done ++ [x], rest', by rw [hx]; simp, rfl, h'⟩
  · rintro r f ⟨done, rest', hx, hr, hI⟩
    obtain rfl : rest' = [] := by
      match rest', hr with
      | [], _ => rfl
    rw [List.append_nil] at hx
    subst hx
    exact h0 r f hI
/-! one of two numbers, by a draw -/
theorem L1 {n : Nat} (h : n ≤ 100000) : n ≤ lim := Nat.le_trans h (by decide)
/-! in, told piece by piece -/
theorem shpST {l : List Str} (h : ∀ s ∈ l, asc s) : SeqAt.shaped (.tuple (pyA (l.map D.str))) = true := shaped_strs h
theorem shpUT {l : List Us} (h : ∀ s ∈ l, ascU s) : SeqAt.shaped (.tuple (pyA (l.map pairD))) = true := by rw [pyA_pairs]; exact shaped_pairsT h
theorem anyS (l : List Str) (x : Str) : ((pyA (l.map D.str)).any fun z => PyData.eqv z (.str x)) = decide (x ∈ l) := by rw [pyA_strs]; exact any_strs l x
theorem anyU (l : List Us) (x : Us) : ((pyA (l.map pairD)).any fun z => PyData.eqv z (pairP x)) = decide (x ∈ l) := by rw [pyA_pairs]; exact any_pairs l x
theorem anyU' (l : List Us) (x y : Str) : ((pyA (l.map pairD)).any fun z => PyData.eqv z (D.tup [.str x, .str y]).py) = decide ((x, y) ∈ l) := anyU l (x, y)
theorem anyS' (l : List Str) (x : Str) : ((pyA (l.map D.str)).any fun z => PyData.eqv z (D.str x).py) = decide (x ∈ l) := anyS l x
/-! plain rows of texts and pairs -/
theorem plainA_of {α : Type} (em : α → D) (n : Nat) : ∀ l : List α, (∀ x ∈ l, (em x).plain = true ∧ (em x).dep ≤ n) → plainA (l.map em) = true ∧ depA (l.map em) ≤ n
  | [], _ => ⟨rfl, Nat.zero_le _⟩
  | x :: l, h => by
    obtain ⟨h1, h2⟩ := plainA_of em n l fun y hy => h y (by simp [hy])
    obtain ⟨h3, h4⟩ := h x (by simp)
    refine ⟨?_, ?_⟩
    · show ((em x).plain && plainA (l.map em)) = true
      rw [h1, h3]; rfl
    · exact Nat.max_le.mpr ⟨h4, h2⟩
theorem plT {α : Type} {em : α → D} {n : Nat} {l : List α} (hl : l.length ≤ 100000) (h : ∀ x ∈ l, (em x).plain = true ∧ (em x).dep ≤ n) : (D.tup (l.map em)).plain = true ∧ (D.tup (l.map em)).dep ≤ n + 1 := by
  obtain ⟨h1, h2⟩ := plainA_of em n l h
  refine ⟨?_, Nat.succ_le_succ h2⟩
  show (decide ((l.map em).length ≤ 100000) && plainA (l.map em)) = true
  rw [h1, List.length_map, decide_eq_true hl]; rfl
theorem plST {l : List Str} (hl : l.length ≤ 100000) : (D.tup (l.map D.str)).plain = true ∧ (D.tup (l.map D.str)).dep ≤ 1 := plT (n := 0) hl fun _ _ => ⟨rfl, Nat.le_refl _⟩
theorem plUT {l : List Us} (hl : l.length ≤ 100000) : (D.tup (l.map pairD)).plain = true ∧ (D.tup (l.map pairD)).dep ≤ 2 := plT (n := 1) hl fun _ _ => ⟨rfl, Nat.le_refl _⟩
/-- [y(i) for i in range(lo, lo + n)] -/
theorem lcR {β : Type} (em' : β → D) (y : Nat → β) {g : Option Dk} {t : TgF} {e : DT} {r : Sg} {Q : List D → Nat → Prop} (lo : Int) (n : Nat) (f : Nat)
    (h : ∀ i < n, ∃ l, t (.int (lo + i)) = some l ∧ ∀ (f : Nat) (Q : QD), Q (em' (y i)) f → e g (setsR r l) f Q)
    (q : Q (((List.range n).map y).map em') f) : dLcGo g t dYes e r (intsD lo n) [] f Q :=
  lcM (fun i : Nat => D.int (lo + i)) em' y (List.range n) f (fun i hi => h i (List.mem_range.mp hi)) q
theorem cutD_takeS (l : List Str) (n : Nat) : cutD (l.map D.str) none (some (n : Int)) = (l.take n).map D.str := by rw [cutD_take, List.map_take]
theorem eqvL_nil (xs : List D) : PyData.eqv (D.lst xs).py (D.lst []).py = decide (xs = []) := by
  cases xs with
  | nil => rfl
  | cons x l => rw [decide_eq_false (by simp)]; rfl
end DL
namespace DL
open PySem PySem.Spec PyProof.Rows L2
/-! a list taken apart -/
/-! a choice by draws -/
/-! shapes -/
def Shp (n : Nat) (d : D) : Prop := d.py.canLay0 = true ∧ d.py.depth ≤ n
theorem Shp.of {n : Nat} {d : D} (h : Shp n d) (hn : n ≤ 64) : SeqAt.shaped d.py = true := by
  unfold SeqAt.shaped
  rw [h.1, decide_eq_true (Nat.le_trans h.2 hn)]
  rfl
theorem Shp.mono {n m : Nat} {d : D} (h : Shp n d) (e : n ≤ m) : Shp m d := ⟨h.1, Nat.le_trans h.2 e⟩
theorem nodup_sub_len {α : Type} [DecidableEq α] : ∀ {l m : List α}, l.Nodup → (∀ x ∈ l, x ∈ m) → l.length ≤ m.length
  | [], _, _, _ => Nat.zero_le _
  | x :: l, m, hn, hs => by
    obtain ⟨h1, h2⟩ := List.nodup_cons.mp hn
    have hx : x ∈ m := hs x (by simp)
    have ih := nodup_sub_len (m := m.erase x) h2 fun y hy => (List.mem_erase_of_ne (fun e : y = x => h1 (e ▸ hy))).2 (hs y (by simp [hy]))
    rw [List.length_erase_of_mem hx] at ih
    have : 0 < m.length := List.length_pos_of_mem hx
    rw [List.length_cons]
    omega
theorem plI {n : Nat} {xs : List D} (hl : xs.length ≤ 100000) (h : ∀ x ∈ xs, x.plain = true ∧ x.dep ≤ n) : (D.tup xs).plain = true ∧ (D.tup xs).dep ≤ n + 1 := by
  have := plT (em := fun x : D => x) (n := n) (l := xs) hl h
  rw [List.map_id'] at this
  exact this
theorem pl2 {n : Nat} {a b : D} (ha : a.plain = true ∧ a.dep ≤ n) (hb : b.plain = true ∧ b.dep ≤ n) : (D.tup [a, b]).plain = true ∧ (D.tup [a, b]).dep ≤ n + 1 := plI (show 2 ≤ 100000 by decide) fun x hx => by
  simp only [List.mem_cons, List.not_mem_nil, or_false] at hx
  rcases hx with rfl | rfl
  · exact ha
  · exact hb
end DL
namespace PySem.SeqAt
open AutoSeq1 (wpAny_loadPart')
open MeetsSeq MeetsSeq2 MeetsSeq3 SeqRoads2
end PySem.SeqAt
namespace DL
open PySem PySem.Spec PyProof.Rows L2
/-! values with plain texts alone -/
def keyOk : Key → Bool
  | .inl _ => true
  | .inr s => decide (asc s) && decide (s.length ≤ 5000)
mutual
def D.good : D → Bool
  | .str s => decide (asc s) && decide (s.length ≤ 5000)
  | .tup xs => goodA xs
  | .lst xs => goodA xs
  | .dct ks xs => ks.all keyOk && goodA xs
  | .obj _ _ _ => false
  | .exn _ _ _ => false
  | .any _ => false
  | _ => true
def goodA : List D → Bool
  | [] => true
  | x :: xs => x.good && goodA xs
end
mutual
theorem D.good_tyd : ∀ {x : D}, x.good = true → x.tyd = true
  | .none, _ => rfl
  | .bool _, _ => rfl
  | .int _, _ => rfl
  | .str _, _ => rfl
  | .tup xs, h => goodA_tyd (xs := xs) h
  | .lst xs, h => goodA_tyd (xs := xs) h
  | .dct _ _, _ => rfl
  | .obj _ _ _, h => by cases h
  | .exn _ _ _, h => by cases h
  | .any _, h => by cases h
theorem goodA_tyd : ∀ {xs : List D}, goodA xs = true → tydA xs = true
  | [], _ => rfl
  | x :: xs, h => by
    have h' : x.good = true ∧ goodA xs = true := Bool.and_eq_true_iff.mp h
    show (x.tyd && tydA xs) = true
    rw [D.good_tyd h'.1, goodA_tyd h'.2]; rfl
end
theorem goodA_mem : ∀ {xs : List D} {x : D}, goodA xs = true → x ∈ xs → x.good = true
  | y :: ys, x, h, hx => by
    have h' : y.good = true ∧ goodA ys = true := Bool.and_eq_true_iff.mp h
    rcases List.mem_cons.mp hx with rfl | hx
    · exact h'.1
    · exact goodA_mem h'.2 hx
theorem goodA_of : ∀ {xs : List D}, (∀ x ∈ xs, x.good = true) → goodA xs = true
  | [], _ => rfl
  | x :: xs, h => by
    show (x.good && goodA xs) = true
    rw [h x (by simp), goodA_of fun y hy => h y (List.mem_cons_of_mem x hy)]; rfl
theorem good_str {s : Str} (h : asc s) (hl : s.length ≤ 5000) : (D.str s).good = true := by
  show (decide (asc s) && decide (s.length ≤ 5000)) = true
  rw [decide_eq_true h, decide_eq_true hl]; rfl
theorem good_strI {s : Str} (h : (D.str s).good = true) : asc s ∧ s.length ≤ 5000 := by
  have := Bool.and_eq_true_iff.mp h
  exact ⟨of_decide_eq_true this.1, of_decide_eq_true this.2⟩
theorem good_strs {l : List Str} (h : ∀ s ∈ l, asc s ∧ s.length ≤ 5000) : goodA (l.map D.str) = true := goodA_of fun x hx => by
  obtain ⟨s, hs, rfl⟩ := List.mem_map.mp hx
  exact good_str (h s hs).1 (h s hs).2
/-! glued names -/
theorem join_split (s : Str) : Txt.join "." (Txt.split s ".") = s := by
  have h : cd (Txt.join "." (Txt.split s ".")) = cd s := by rw [cd_join, split_cd, jn_sp]
  exact str_ext h
theorem split_ne (s : Str) : Txt.split s "." ≠ [] := fun z => sp_ne (cd s) (by rw [← split_cd, z]; rfl)
theorem split_pos (s : Str) : 0 < (Txt.split s ".").length := List.length_pos_iff.mpr (split_ne s)
end DL
namespace DL
open PySem PySem.Spec PyProof.Rows L2
section
variable {X : Cx} {K : PySem.W.Frag} {W : WX}
/-! {k: v for ..} -/
/-! a dict of lists of texts in the making -/
structure DLs (H : Hp) (D : Addr) (ks : List Str) (ps : List Addr) (c : Str → List Str) (H2 : Hp) : Prop where
  same : Same H H2
  d0 : H D = none
  len : ks.length = ps.length
  dk : H2 D = some (.dK ((ks.map Sum.inr).zip (ps.map V.ref)))
  p0 : ∀ p ∈ ps, H p = none ∧ p ≠ D
  at_ : ∀ (i : Nat) (m : Str) (p : Addr), ks[i]? = some m → ps[i]? = some p → H2 p = some (.lst ((c m).map V.str))
  nd : ps.Nodup
theorem DLs.mono {H : Hp} {D : Addr} {ks : List Str} {ps : List Addr} {c : Str → List Str} {H2 H3 : Hp} (h : DLs H D ks ps c H2) (e : Same H2 H3) : DLs H D ks ps c H3 :=
  ⟨h.same.trans e, h.d0, h.len, e _ _ h.dk, h.p0, fun i m p a b => e _ _ (h.at_ i m p a b), h.nd⟩
theorem DLs.start {H : Hp} {D : Addr} {c : Str → List Str} (h : H D = none) : DLs H D [] [] c (upd H D (.dK [])) :=
  ⟨same_upd h, h, rfl, upd_same, fun p hp => by simp at hp, fun i m p a b => by simp at a, List.nodup_nil⟩
open Classical in
noncomputable def shr (H2 Hs : Hp) (D : Addr) (ps : List Addr) : Hp := fun b => if b = D ∨ b ∈ ps then H2 b else Hs b
/-! while, by a number that falls -/
/-! where uses lead -/
inductive Rch (us : List Us) (s : Str) : Str → Prop where
  | refl : Rch us s s
  | step {a b : Str} : Rch us s a → (a, b) ∈ us → Rch us s b
theorem Rch.mem {us : List Us} {s m : Str} {ms : List Str} (hs : s ∈ ms) (hu : ∀ u ∈ us, u.2 ∈ ms) (h : Rch us s m) : m ∈ ms := by
  cases h with
  | refl => exact hs
  | step _ h => exact hu _ h
theorem mem_inr {m : Str} {ms : List Str} : (Sum.inr m : Key) ∈ ms.map (Sum.inr : Str → Key) ↔ m ∈ ms := by
  rw [List.mem_map]
  exact ⟨fun ⟨x, hx, e⟩ => by cases e; exact hx, fun h => ⟨m, h, rfl⟩⟩
theorem flatA_strs : ∀ l : List Str, flatA (l.map DL.D.str) = true
  | [] => rfl
  | _ :: l => flatA_strs l
theorem map_key (l : List Str) : (l.map (Sum.inr : Str → Key)).map keyD = l.map DL.D.str := by rw [List.map_map]; rfl
end
end DL
namespace DL
open PySem PySem.Spec PyProof.Rows L2
section
variable {X : Cx} {K : PySem.W.Frag} {W : WX}
/-! list * number -/
theorem RpA.rep {H : Hp} {ds : List D} {vs : List V} (h : RpA K H ds vs) : ∀ n : Nat, RpA K H (List.replicate n ds).flatten (List.replicate n vs).flatten
  | 0 => rfl
  | n + 1 => by
    rw [List.replicate_succ, List.replicate_succ, List.flatten_cons, List.flatten_cons]
    exact h.append (h.rep n)
/-! what slots own is shared ahead of a statement -/
def sFrz (l : List Nat) (dl : DTS) : DTS := fun g r f E => dl g (frz r l) f E
theorem ds_frz (l : List Nat) {st : Stmt} {d : DTS} (h : DS X st d) : DS X st (sFrz l d) := .mk' h.ps fun g H0 Hs0 r f st H D E s e hd => by
  obtain ⟨Hs, s⟩ := s
  exact h.sn g H0 Hs0 _ f st H D E (s.frz l) e hd
/-! a, b = [..], [..], a cell among them: both own -/
/-! xs.append(ys.pop(e)) -/
theorem RpA.erase {H : Hp} : ∀ {ds : List D} {vs : List V} (n : Nat), RpA K H ds vs → RpA K H (ds.eraseIdx n) (vs.eraseIdx n)
  | [], _, _, h => by cases h; rfl
  | _ :: _, _, 0, ⟨v, r, h1, h2, h3⟩ => by subst h1; exact h3
  | _ :: _, _, n + 1, ⟨v, r, h1, h2, h3⟩ => by subst h1; exact ⟨v, _, rfl, h2, RpA.erase n h3⟩
end
end DL
namespace DL
open PySem PySem.Spec PyProof.Rows L2
/-! for x in zip(a, b) of two tuples, with one name: the pair that was given out before may be there still or not -/
abbrev ZpV (h : Heap) (z ti tz : Addr) (v : Value) (b : Bool) : Prop :=
  h.get? z = some { cls := .type "zip", dict := none, data := .fields #[v, .bool b, .bool false, .ref ti, .ref tz], slots := #[] }
section
variable {prog : Program} {w : World} {A : Around} {E : Value → Shared → Prop} {s : Shared} {z ti tz i1 i2 l1 l2 T : Addr} {k1 k2 : Nat} {xs ys : Array Value} {x y v p q : Value} {b : Bool}
/-- the mark: nothing, or an address -/
def Mrk (v : Value) : Prop := v = .none ∨ ∃ T : Addr, v = rawInt T
end
end DL
namespace DL
open PySem PySem.Spec PyProof.Rows L2
/-! expressions that may raise -/
abbrev XD := D → Nat → Prop
abbrev DTX := Option Dk → Sg → Nat → QD → XD → Prop
abbrev DSpX := Option Dk → List D → Nat → QD → XD → Prop
def SndX (K : PySem.W.Frag) (W : WX) (t : TE) (dl : DTX) : Prop := ∀ (g : Option Dk) (r : Sg) (f : Nat) (st : L2.St) (H Hs : Hp) (Q : VK) (Q' : QD) (E' : XD), At K g r f st H Hs →
  (∀ d f' v H' Hs', Stp g H Hs H' Hs' → DkOk g H' Hs' f' → Rp K Hs' d v → Q' d f' → Q v H') →
  (∀ x f' cls d H' Hs', Stp g H Hs H' Hs' → DkOk g H' Hs' f' → ExR K H' Hs' x cls d → E' x f' → W cls d st H') → dl g r f Q' E' → t st H Q
def tOfX (K : PySem.W.Frag) (W : WX) (dl : DTX) : TE := fun st H Q => ∃ g r f Hs Q' E', At K g r f st H Hs ∧ (∀ d f' v H' Hs', Stp g H Hs H' Hs' → DkOk g H' Hs' f' → Rp K Hs' d v → Q' d f' → Q v H') ∧
  (∀ x f' cls d H' Hs', Stp g H Hs H' Hs' → DkOk g H' Hs' f' → ExR K H' Hs' x cls d → E' x f' → W cls d st H') ∧ dl g r f Q' E'
structure DEX (X : Cx) (e : Expr) (dl : DTX) : Prop where
  pe : PE X e (tOfX X.K (wx X) dl)
theorem DEX.sn {X : Cx} {e : Expr} {dl : DTX} (_ : DEX X e dl) : SndX X.K (wx X) (tOfX X.K (wx X) dl) dl := fun g r f st H Hs Q Q' E' a h1 h2 hd => ⟨g, r, f, Hs, Q', E', a, h1, h2, hd⟩
theorem DEX.mk' {X : Cx} {e : Expr} {t : TE} {dl : DTX} (p : PE X e t) (s : SndX X.K (wx X) t dl) : DEX X e dl := ⟨⟨fun pins sh st H Q I h => by
  obtain ⟨g, r, f, Hs, Q', E', a, h1, h2, hd⟩ := h
  exact p.run pins sh st H Q I (s g r f st H Hs Q Q' E' a h1 h2 hd)⟩⟩
/-- a def that may raise -/
def spX (K : PySem.W.Frag) (S : DSpX) : Sp := fun vs H Q E => ∃ (g : Option Dk) (Hs : Hp) (ds : List D) (f : Nat) (Q' : QD) (E' : XD), Same Hs H ∧ DkOk g H Hs f ∧ RpA K Hs ds vs ∧ S g ds f Q' E' ∧
  (∀ d f' v H' Hs', Stp g H Hs H' Hs' → DkOk g H' Hs' f' → Rp K Hs' d v → Q' d f' → Q v H') ∧
  ∀ x f' cls d H' Hs', Stp g H Hs H' Hs' → DkOk g H' Hs' f' → ExR K H' Hs' x cls d → E' x f' → E cls d H'
section
variable {X : Cx} {K : PySem.W.Frag} {W : WX}
def dCallX (S : DSpX) (t : DTA) : DTX := fun g r f Q E => t g r f fun ds f1 => S g ds f1 Q E
theorem snd_callX {S : DSpX} {t : TA} {d : DTA} (ht : SndA K t d) : SndX K W (tCallS (spX K S) (WE W) t) (dCallX S d) := fun g ro f st H Hs Q Q' E' A h1 h2 hd =>
  ht g ro f st H Hs _ _ A (fun ds f1 vs H1 Hs1 s1 k1 r1 q1 => ⟨g, Hs1, ds, f1, Q', E', s1.sub, k1, r1, q1,
    fun d f' v H' Hs' s2 k2 r2 q2 => h1 d f' v H' Hs' (s1.trans s2) k2 r2 q2, fun x f' cls d H' Hs' s2 k2 r2 q2 => h2 x f' cls d H' Hs' (s1.trans s2) k2 r2 q2⟩) hd
def CalX (P : Program) (w : World) (K : PySem.W.Frag) (mg : Str → Option Value) (base : Heap) (k : Nat) (x : Str) (ps : List Str) (S : DSpX) : Prop :=
  ∃ f fd, FnOk P w K mg base (L2.CX P w) k f fd ps (spX K S) ∧ PySem.W.keepIn K (.ref f) = true ∧ Binds K fd ps [] ∧ mg x = some (.ref f)
theorem dex_call {x : Str} {ps : List Str} {k : Nat} {S : DSpX} {p pos : Pos} {e : Expr} {es : List Expr} {d : DTA} (c : CalX X.prog X.w X.K X.mg X.base k x ps S) (hr : Room k X.A) (ha : DA X (e :: es) d) (hg : Gl X x := by rfl) (hdb : (x == ("__debug__" : Str)) = false := by decide)
    (he : starEach (e :: es) X.env = (false, eval e X.env) :: starEach es X.env := by rfl) (hpl : (backTo pos (starEach es X.env)).any (·.1) = false := by rfl) : DEX X (.Call (.Name x p) (e :: es) [] pos) (dCallX S d) := by
  obtain ⟨f, fd, F, hk, hb, hm⟩ := c
  exact .mk' (pe_callS F hr hg hm hk hb (fun st => passAt (takes_wx X) st) ha.pa hdb he hpl) (snd_callX ha.sn)
/-! statements of them -/
def sSetX (i : Nat) (dl : DTX) : DTS := fun g r f E => dl g (hide r) f (fun d f' => E.nx (r.set i (.sh d)) f') fun x f' => E.xc x r f'
theorem snd_setX {i : Nat} {t : TE} {d : DTX} (h : SndX K W t d) : SndS K W (tAsg t (gName i)) (sSetX i d) := fun g H0 Hs0 r f st H D E s e hd => by
  obtain ⟨Hs, s⟩ := s
  exact h g (hide r) f st H Hs _ _ _ s.atHid (fun d f' v H' Hs' p k hr q => e.nx _ f' _ H' ⟨_, (s.afterHid p k).set i hr⟩ q) (fun x f' cls d H' Hs' p k hx q => e.xc x r f' st H' cls d ⟨_, s.afterHid p k, hx⟩ q) hd
theorem ds_setX {i : Nat} {x : Str} {e : Expr} {pos pos' : Pos} {d : DTX} (hN : X.N.Nodup) (h : DEX X e d) (hi : X.N[i]? = some x := by rfl) (hx : Loc X.env.scope x := by first | exact Or.inl rfl | exact Or.inr rfl)
    (hs : swapsWith e (some (.Name x pos')) pos.line X.env = pure false := by rfl) (hf : X.fn x = true ∨ X.env.scope.names.lookup x = some .local := by first | exact .inl rfl | exact .inr rfl | assumption) :
    DS X (.Assign [.Name x pos'] e pos) (sSetX i d) := .mk' (ps_set hN hi hx h.pe hs hf) (snd_setX h.sn)
/-! raise C(e), C a class of the text with one field -/
def spExn (K : PySem.W.Frag) (C : Addr) (fld : Str) : Sp := fun vs H Q _ => ∃ (a : Addr) (y : V), vs = [.ref a, y] ∧ H a = some (exo a C none) ∧ ∀ dx, H dx = none → dx ≠ a → Q .non (upd (upd H dx (exd dx [(fld, y)])) a (exo a C (some dx)))
structure Exn (P : Program) (w : World) (K : PySem.W.Frag) (mg : Str → Option Value) (base : Heap) (k : Nat) (c fld : Str) : Prop where
  ex : ∃ C fI fd ps, OexC K C ∧ PySem.W.findIn K (.ref C) "__init__" = some (some (.ref fI)) ∧ PySem.W.typeIn K (.ref fI) = some (.type "function") ∧ FnOk P w K mg base CX0 k fI fd ps (spExn K C fld) ∧ Binds K fd ps [] ∧ mg c = some (.ref C) ∧ PySem.W.nsIn K mainGlobals c = some (some (.ref C))
def sRaise (c fld : Str) (dl : DT) : DTS := fun g r f E => dl g (hide r) f fun d f' => E.xc (.obj c [fld] [d]) r f'
theorem ds_raise {c fld : Str} {k : Nat} {e : Expr} {d : DT} {p pos pos' : Pos} (x : Exn X.prog X.w X.K X.mg X.base k c fld) (hr : Room (k + 1) X.A) (he : DE X e d) (hc : X.calm = true := by rfl) (hg : Gl X c := by rfl) (hdb : (c == ("__debug__" : Str)) = false := by decide)
    (hs : starEach [e] X.env = (false, eval e X.env) :: starEach [] X.env := by rfl) (hpl : (backTo pos (starEach [] X.env)).any (·.1) = false := by rfl) : DS X (.Raise (some (.Call (.Name c p) [e] [] pos)) none pos') (sRaise c fld d) := by
  obtain ⟨C, fI, fd, ps, T, i1, i2, F, hb, hm, hns⟩ := x.ex
  have ha : DA X [e] (dCons d dNil) := da_cons he da_nil hs
  refine .mk' (ps_raise hc (takes_wx X) (pmk_oex T i1 i2 F hr hb .nil pass0 hg hm ha.pa hdb hs hpl)) fun g H0 Hs0 r f st H D E s e hd => ?_
  obtain ⟨Hs, s⟩ := s
  refine ha.sn g (hide r) f st H Hs _ (fun ds f1 => match ds with
    | [x] => E.xc (.obj c [fld] [x]) r f1
    | _ => False) s.atHid (fun ds f1 vs H1 Hs1 s1 k1 r1 q1 => ?_) hd
  match ds, q1 with
  | [x], q1 =>
    obtain ⟨y, rfl, ry⟩ := rpA1 r1
    refine ⟨by simp, fun a ha' => ⟨a, y, rfl, upd_same, fun dx hdx hne => ?_⟩⟩
    have hd1 : H1 dx = none := by rw [upd_ne hne] at hdx; exact hdx
    refine ⟨rfl, dx, [(fld, y)], upd_same, by rw [upd_ne hne, upd_same], hd1, ?_⟩
    have eH : upd (del (upd (upd (upd H1 a (exo a C none)) dx (exd dx [(fld, y)])) a (exo a C (some dx))) a) dx (.xd [(fld, y)]) = upd H1 dx (.xd [(fld, y)]) := by
      funext b
      by_cases e1 : b = dx
      · rw [e1, upd_same, upd_same]
      · rw [upd_ne e1, upd_ne e1]
        by_cases e2 : b = a
        · rw [e2, del_same, ha']
        · rw [del_ne e2, upd_ne e2, upd_ne e1, upd_ne e2]
    rw [eH]
    have lay : Stp none H1 Hs1 (upd H1 dx (.xd [(fld, y)])) (upd Hs1 dx (.xd [(fld, y)])) := Stp.alloc s1.sub hd1
    exact e.xc (.obj c [fld] [x]) r f1 st _ _ _ ⟨_, s.afterHid (s1.trans lay.gen) (k1.stp lay), C, hns, rfl, .inr ⟨dx, [y], rfl, upd_same, rfl, RpA.one (ry.mono lay.ext)⟩⟩ q1
/-! a op b by the class's own method, which may raise -/
/-! try: body, except C: suite -/
theorem EndsOk.mono {g : Option Dk} {H0 Hs0 : Hp} {E : DEnds} {D : Ends} {W' : WX} (e : EndsOk K W g H0 Hs0 E D) (h : ∀ cls d st H, W cls d st H → W' cls d st H) : EndsOk K W' g H0 Hs0 E D := ⟨e.nx, e.rt, e.bk, e.ct, fun x r f st H cls d q hx => h _ _ _ _ (e.xc x r f st H cls d q hx)⟩
theorem sOf_mono {dl : DTS} {W' : WX} (h : ∀ cls d st H, W cls d st H → W' cls d st H) {D : Ends} {st : L2.St} {H : Hp} (q : sOf K W dl D st H) : sOf K W' dl D st H := by
  obtain ⟨g, H0, Hs0, r, f, E, s, e, q⟩ := q
  exact ⟨g, H0, Hs0, r, f, E, s, e.mono h, q⟩
/-- which exceptions the clause takes, by their names -/
structure Cat (K : PySem.W.Frag) (c : Value) (m : Str → Option Bool) : Prop where
  ok : ∀ (n : Str) (b : Bool) (C : Addr), m n = some b → PySem.W.nsIn K mainGlobals n = some (some (.ref C)) → PySem.W.exmOne K (.ref C) c = some b
end
section
variable {P : Program} {w : World} {K : PySem.W.Frag} {mg : Str → Option Value} {base : Heap}
/-- a def that may raise, by its body -/
theorem dfnX {x qual : Str} {st : Stmt} {f : Addr} {fd : FuncData} {N ps : List Str} {k : Nat} {S : DSpX} {dl : DTS} (F : Fun K x qual st f fd) (sc : FnScope N ps (defScope st)) (len : ∀ g ds n Q E, S g ds n Q E → ds.length = ps.length)
    (hb : ∀ (cdv : Value) (A : Around) (outer : List Env) (s : Shared) (H : Hp) (E : XK), Room k (A.deeper (envOfC qual (defScope st) s.heap.objs.size f cdv)) → DSs (cxOf (L2.CX P w) P w K mg base N qual (defScope st) f cdv A outer s H E) (defBody st) dl)
    (h : ∀ g ds n Q E, S g ds n Q E → dl g (startR N.length ds) n { nx := fun _ n => Q .none n, rt := Q, xc := fun x _ n => E x n }) : FnOk P w K mg base (L2.CX P w) (k + 1) f fd ps (spX K S) := by
  obtain ⟨oc, od, kV, doc, pm, an, cdv, ct, osl, rfl, lk, hcd⟩ := F.ex
  refine fn_of lk hcd sc (fun vs H Q E h => ?_) fun A outer s H vs Q E hr hsp => ?_
  · obtain ⟨g, Hs, ds, n, Q', E', h1, h2, h3, h4, _⟩ := h
    rw [← h3.length]
    exact len g ds n Q' E' h4
  · obtain ⟨g, Hs, ds, n, Q', E', h1, h2, h3, h4, h5, h6⟩ := hsp
    have D := hb cdv A outer s H E hr
    refine ⟨_, D.ps, ?_⟩
    refine D.sn g H Hs _ n _ H _ { nx := fun _ n => Q' .none n, rt := Q', xc := fun x _ n => E' x n } ⟨Hs, start_in h1 h2 h3⟩ ⟨fun r f st H' q h => ?_, fun d f v H' Hs' p k hr h => h5 d f v H' Hs' p k hr h, fun _ _ _ _ _ h => h, fun _ _ _ _ _ h => h, fun x r f st H' cls d q h => ?_⟩ (h g ds n Q' E' h4)
    · obtain ⟨Hs', q⟩ := q
      exact h5 .none f .non H' Hs' q.stp q.dk rfl h
    · obtain ⟨Hs', q, hx⟩ := q
      exact wx_of (takes_of (E := E) rfl rfl rfl rfl) (h6 x f cls d H' Hs' q.stp q.dk hx h)
/-- the __init__ of an exception with one field -/
theorem exn_ok {qual fld : Str} {st : Stmt} {C fI : Addr} {fd : FuncData} (T : OexC K C) (hno : PySem.W.findIn K (.ref C) fld = some none) (F : Fun K "__init__" qual st fI fd) (sc : FnScope ["self", fld] ["self", fld] (defScope st))
    (hb : ∀ (cdv : Value) (A : Around) (outer : List Env) (s : Shared) (H : Hp) (E : XK), PSs (cxOf CX0 P w K mg base ["self", fld] qual (defScope st) fI cdv A outer s H E).nox (defBody st) (tOst K fld (tVar 0) (tVar 1))) :
    FnOk P w K mg base CX0 1 fI fd ["self", fld] (spExn K C fld) := by
  refine F.ok sc (fun vs H Q E h => ?_) (fun cdv A outer s H vs Q E hr hsp => ?_)
  · obtain ⟨a, y, rfl, _⟩ := h
    rfl
  · obtain ⟨a, y, rfl, ea, q⟩ := hsp
    refine ⟨_, hb cdv A outer s H E, ?_⟩
    exact ⟨y, rfl, .ref a, rfl, a, C, rfl, T, hno, .inl ⟨ea, fun dx h1 h2 => q dx h1 h2⟩⟩
end
end DL
namespace DL
open PySem PySem.Spec PyProof.Rows L2
/-! a caught exception that is looked at, kept, and looked at later -/
section
variable {X : Cx} {pins : List (Addr × Obj)} {st : L2.St} {H : Hp} {s : Shared}
/-- an object that is new since the entry is tracked from now on -/
theorem trackX {a : Addr} {o : HO} (I : Inv X pins st H s) (hn : H a = none) (h0 : ∀ ob, X.s_0.heap.get? a = some ob → a ∈ X.ex) (nL : a ≠ X.env.locals) (nC : ∀ x c, X.env.cells.lookup x = some c → c ≠ a) (nP : ∀ p ∈ X.pn ++ pins, p.1 ≠ a)
    (new : ObjOk X.prog X.w (upd H a o) s.heap a o) : Inv X pins st (upd H a o) s where
  ok := I.ok
  os := I.os
  bare := I.bare
  base := ⟨I.base.keep, I.base.slot, fun b ob e n hx => by rw [upd_ne (fun z => hx (by rw [z] at e ⊢; exact h0 ob e))]; exact I.base.free b ob e n hx, I.base.there,
    fun b xs e => by have q := I.base.tups b xs e; rw [upd_ne (ne_of_none q hn)]; exact q, fun b ob u e => by have q := I.base.frzs b ob u e; rw [upd_ne (ne_of_none q hn)]; exact q,
    fun b ps e => by obtain ⟨m, q⟩ := I.base.tbls b ps e; exact ⟨m, by rw [upd_ne (ne_of_none q hn)]; exact q⟩⟩
  loc := I.loc
  cell := I.cell
  free := by rw [upd_ne (Ne.symm nL)]; exact I.free
  freeC := fun x c e => by rw [upd_ne (nC x c e)]; exact I.freeC x c e
  pin := fun p hp => by
    obtain ⟨e1, e2, r⟩ := I.pin p hp
    exact ⟨e1, by rw [upd_ne (nP p hp)]; exact e2, r⟩
  hok := I.hok.laidN (fun b u q => q) hn new
  len := I.len
theorem inSuite {a : Addr} (I : Inv X pins st H s) : Inv (X.suite a (X.pn ++ pins)) [] st H s :=
  ⟨I.ok.suite _ _, I.os, I.bare, I.base, I.loc, I.cell, I.free, I.freeC, fun p hp => I.pin p (by rw [List.append_nil] at hp; exact hp), I.hok, I.len⟩
theorem outSuite {a : Addr} {pn' : List (Addr × Obj)} (I : Inv (X.suite a (X.pn ++ pins)) pn' st H s) (ok : X.Ok) : Inv X pins st H s :=
  ⟨ok, I.os, I.bare, I.base, I.loc, I.cell, I.free, I.freeC, fun p hp => I.pin p (List.mem_append_left _ hp), I.hok, I.len⟩
end
/-- what the clause wishes, where the exception stays tracked -/
def wKp (K : PySem.W.Frag) (c : Value) (i : Nat) (ts : TS) (Wout : WX) (D : Ends) : WX := fun cls d st H => ∃ b, PySem.W.exmOne K cls c = some b ∧
  (b = true → ∃ C dd, cls = .ref C ∧ d = some dd ∧ ∀ a, H a = none → ts { nx := fun st' H' => D.nx (st'.set i none) H', rt := D.rt, bk := fun st' H' => D.bk (st'.set i none) H', ct := fun st' H' => D.ct (st'.set i none) H' } (st.set i (some (.ref a))) (upd H a (ExK C dd a))) ∧
  (b = false → Wout cls d st H)
section
variable {X : Cx} {x n : Str} {c : Value} {i : Nat} {body suite : List Stmt} {b₀ : Stmt} {np pos pos' : Pos} {tb : WX → TS} {ts : TS} {Wout : WX}
/-- the suite begins: the exception is tracked -/
theorem caught_in {a : Addr} {B : Heap} {sI : Shared} {h : Heap} {pins : List (Addr × Obj)} {st : L2.St} {H : Hp} {C dd : Addr} {s' : Shared} (hs : X.stack = X.env :: X.outer) (hf : X.env.frame = some X.env.locals) (J0 : Inv X pins st H sI)
    (nb : ∀ b o, sI.heap.get? b = some o → b ∉ frs X.stack → B.get? b = some o) (J : Inv X pins st H { s' with heap := h }) (fl : HandSPX.FlyingZ B (X.env :: X.outer) a (Zc (.ref C) (some dd)) h) (na : H a = none) :
    Inv X pins st (upd H a (ExK C dd a)) { s' with heap := h } := by
  obtain ⟨oe, vs, he, hz, hd⟩ := fl.there
  have nfr : a ∉ frs (X.env :: X.outer) := fun hm => by
    obtain ⟨_, o', e', hnf⟩ := fl.2.2.1.mem hm
    rw [he] at e'
    cases e'
    exact hnf _ hd
  have gone : sI.heap.get? a = none := by
    cases e : sI.heap.get? a with
    | none => rfl
    | some o =>
      have z := nb a o e (by rw [hs]; exact nfr)
      rw [fl.2.1] at z
      cases z
  refine trackX J na ?_ (fun z => nfr (List.mem_filterMap.mpr ⟨X.env, List.mem_cons_self, by rw [hf, z]⟩)) (fun y c' e z => ?_) (fun p hp z => ?_) ⟨⟨oe, vs, he, hz.1, hz.2, hd⟩, ⟨oe, he⟩, fun _ _ ⟨o, v, q, r⟩ k => ⟨o, v, k o q, r⟩⟩
  · intro o e
    refine Decidable.byContradiction fun hx => ?_
    obtain ⟨o', q⟩ := J0.base.there a o e hx
    rw [gone] at q
    cases q
  · obtain ⟨v, o, q1, q2⟩ := J.cell y c' e
    rw [z] at q1
    have q1' : h.get? a = some o := q1
    rw [he] at q1'
    cases q1'
    rw [hd] at q2
    cases q2
  · have q := (J0.pin p hp).1
    rw [z, gone] at q
    cases q
/-- except x as n, the exception stays tracked -/
theorem ps_try_keep (hs : X.stack = X.env :: X.outer) (hf : X.env.frame = some X.env.locals) (hN : X.N.Nodup) (hi : X.N[i]? = some n) (hln : X.env.kindOf n = some .local) (hc : Names X x c) (tk : Takes X Wout)
    (hb : ∀ (W : WX) (pn : List (Addr × Obj)) (xe : Value → Shared → Prop), Takes (X.tr pn xe) W → PassesOwn (model X.prog X.w) X.A X.env xe → PSs (X.tr pn xe) body (tb W))
    (hsu : ∀ (a : Addr) (pn : List (Addr × Obj)), PSs (X.suite a pn) (b₀ :: suite) ts) :
    PS X (.Try body [.ExceptHandler (some (.Name x np)) (some n) (b₀ :: suite) pos'] [] [] pos) (fun D st H => tb (wKp X.K c i ts Wout D) D st H) := by
  refine ⟨fun pins s st H D I h => wpAny_Try_except ?_⟩
  have ok := I.ok
  have run := (hb (wKp X.K c i ts Wout D) (X.pn ++ pins) (fun e s₁ => wpAny (model X.prog X.w) X.A (noteFrame e X.env) (fun _ s₂ => wpAny (model X.prog X.w) X.A (setFlight e none) (fun _ s₃ =>
    wpAny (model X.prog X.w) X.A (handleBy e X.env [.ExceptHandler (some (.Name x np)) (some n) (b₀ :: suite) pos']) (SP X pins D) X.xe s₃) X.xe s₂) X.xe s₁) ?_ PassesOwn.looking).run [] s st H D (I.toTry _) h
  · refine wpAny_mono run (fun f s1 hsp => ?_) (fun e s1 he => he)
    cases f with
    | next => obtain ⟨st', H', J', q⟩ := hsp; exact wpAny_execs_nil ⟨st', H', J'.ofTry ok, q⟩
    | brk => obtain ⟨st', H', J', q⟩ := hsp; exact ⟨st', H', J'.ofTry ok, q⟩
    | cont => obtain ⟨st', H', J', q⟩ := hsp; exact ⟨st', H', J'.ofTry ok, q⟩
    | ret u => obtain ⟨v, st', H', J', r, q⟩ := hsp; exact ⟨v, st', H', J'.ofTry ok, r, q⟩
  intro u s' xx
  obtain ⟨a, B, sI, pins', st', H', cls, d, rfl, J', nb, up, sky, na, os, ag, b, hb1, hyes, hno⟩ := xx
  have J : Inv X pins st' H' sI := J'.ofTry ok
  show wpAny (model X.prog X.w) X.A (noteFrame (.ref a) X.env) _ _ _
  refine Sky.land Zc.steady (by rw [ok.frames, hs]) hf (by rw [← hs]; exact sky) fun h3 fl3 up3 => ?_
  have land : ∀ {h : Heap}, HandSPX.FlyingZ B (X.env :: X.outer) a (Zc cls d) h → s'.heap.UpToSlots h → Inv X pins st' H' { s' with heap := h } := fun fl up' => J.landed nb fl.1 (up.trans up') os ag
  have J3 := land fl3 up3
  obtain ⟨oe3, vs3, he3, hz3, hd3⟩ := fl3.there
  have T3 : Inv (X.suite a (X.pn ++ pins)) [] st' H' { s' with heap := h3 } := inSuite J3
  refine wpAny_handleBy_cons (codeAny_handlers_test ?_) (by intro q; cases q)
  have LT : PySem.W.Looks (model X.prog X.w) h3 (typeOf (.ref a)) cls := fun A Q E s k q => wpAny_typeOf_ref (k _ _ he3) (by rw [hz3.1]; exact q)
  have test : ∀ {Q : Value → Shared → Prop} {E : Value → Shared → Prop}, Q c { s' with heap := h3 } → wpAny (model X.prog X.w) (X.A.mark (some (.ref a))) (eval (.Name x np) X.env) Q E { s' with heap := h3 } := fun {Q E} q => by
    obtain ⟨hg, hdbg, hm | ⟨hm, hv, hnn⟩⟩ := hc
    · exact ld_glob T3 hg hm q hdbg
    · exact ld_blt T3 hg hm hv q hnn hdbg
  refine test ((PySem.W.exm_one (M := model X.prog X.w) J3.kIn LT hb1).here ?_)
  cases b with
  | false =>
    refine wpAny_handleBy_nil ?_
    obtain ⟨k1, k2, k3, oe, vs, T, oT, ts', he, hz, hd, h1, hr⟩ := id fl3
    unfold PySem.passOn
    refine wpAny_bind (wpAny_field he hd h1 ?_)
    rw [if_neg (show ¬ ((Value.ref T == Value.none) = true) from by simp)]
    have fin : wpAny (model X.prog X.w) X.A (setFlight (.ref a) X.env.frame) (fun _ s4 => wpAny (model X.prog X.w) X.A (throw (.ref a) : Sem Flow) (SP X pins D) X.xe s4) X.xe { s' with heap := h3 } := by
      rw [hf]
      refine HandSPX.setFlight_upZ fl3 fun h4 hh4 up4 => wpAny_throw (tk _ _ ?_)
      exact ⟨a, B, sI, pins, st', H', cls, d, rfl, J, nb, (up.trans up3).trans up4, .inr (.inr (by rw [hs]; exact hh4)), na, os, ag, hno rfl⟩
    first
      | exact wpAny_bind (wpAny_pure (wpAny_bind fin))
      | exact wpAny_bind fin
  | true =>
    obtain ⟨C, dd, rfl, rfl, hts⟩ := hyes rfl
    refine codeAny_handlers_suite_as (HandSPX.lands_againZ fl3 fun h4 fl4 up4 => ?_)
    have J4 := land fl4 (up3.trans up4)
    have S4 : Inv (X.suite a (X.pn ++ pins)) [] st' (upd H' a (ExK C dd a)) { s' with heap := h4 } := inSuite (caught_in hs hf J nb J4 fl4 na)
    refine store_ok (X := X.suite a (X.pn ++ pins)) (v := .ref a) S4 hN hi (.inl hln) rfl (fun s5 S5 => ?_) (.inr hln)
    refine wpAny_mono ((hsu a (X.pn ++ pins)).run [] s5 _ _ _ S5 (hts a na)) (fun f s6 hsp => ?_) (fun _ _ z => False.elim z)
    cases f with
    | next => obtain ⟨st6, H6, S6, q6⟩ := hsp; exact gone_ok (outSuite S6 ok) hN hi hln fun s7 J7 => ⟨_, _, J7, q6⟩
    | brk => obtain ⟨st6, H6, S6, q6⟩ := hsp; exact gone_ok (outSuite S6 ok) hN hi hln fun s7 J7 => ⟨_, _, J7, q6⟩
    | cont => obtain ⟨st6, H6, S6, q6⟩ := hsp; exact gone_ok (outSuite S6 ok) hN hi hln fun s7 J7 => ⟨_, _, J7, q6⟩
    | ret u => obtain ⟨v6, st6, H6, S6, r6, q6⟩ := hsp; exact gone_ok (outSuite S6 ok) hN hi hln fun s7 J7 => ⟨_, _, _, J7, r6, q6⟩
end
section
variable {X : Cx} {K : PySem.W.Frag} {W : WX} {g : Option Dk} {H0 Hs0 : Hp} {r : Sg} {f : Nat} {st : L2.St} {H Hs : Hp}
theorem SIn.unset (s : SIn K g H0 Hs0 r f st H Hs) (i : Nat) : SIn K g H0 Hs0 (r.set i .no) f (st.set i none) H Hs := by
  have ne : ∀ (j : Nat) (u : Sl), (r.set i .no)[j]? = some u → u ≠ .no → j ≠ i ∧ r[j]? = some u := fun j u h hu => by
    by_cases e : j = i
    · subst e
      rw [List.getElem?_set] at h
      split at h
      · split at h
        · cases h; exact absurd rfl hu
        · cases h
      · rename_i z; exact absurd rfl z
    · rw [List.getElem?_set_ne (Ne.symm e)] at h
      exact ⟨e, h⟩
  have own : ∀ u : Sl, u.own = true → u ≠ .no := fun u h z => by rw [z] at h; cases h
  refine ⟨by simp [s.len], s.dk0, s.dk, s.stp, fun j d h => ?_, fun j u h hu => ?_, fun j k u w a h1 h2 h3 h4 h5 h6 => ?_⟩
  · obtain ⟨e, h⟩ := ne j _ h (by simp)
    rw [List.getElem?_set_ne (Ne.symm e)]
    exact s.sh j d h
  · obtain ⟨e, h⟩ := ne j _ h (own u hu)
    rw [List.getElem?_set_ne (Ne.symm e)]
    exact s.ow j u h hu
  · obtain ⟨e1, h1⟩ := ne j _ h1 (own u h3)
    obtain ⟨e2, h2⟩ := ne k _ h2 (own w h4)
    rw [List.getElem?_set_ne (Ne.symm e1)] at h5
    rw [List.getElem?_set_ne (Ne.symm e2)] at h6
    exact s.inj j k u w a h1 h2 h3 h4 h5 h6
/-- try: body, except C as n: suite -/
def sTryA (m : Str → Option Bool) (i : Nat) (body suite : DTS) : DTS := fun g r f E => body g r f { nx := E.nx, rt := E.rt, bk := E.bk, ct := E.ct, xc := fun x r' f' => match x with
  | .obj n ns xs => ∃ b, m n = some b ∧ (b = true → ns ≠ [] ∧ suite g (r'.set i (.sh (.exn n ns xs))) f' { nx := fun r2 f2 => E.nx (r2.set i .no) f2, rt := E.rt, bk := fun r2 f2 => E.bk (r2.set i .no) f2, ct := fun r2 f2 => E.ct (r2.set i .no) f2 }) ∧ (b = false → E.xc x r' f')
  | _ => False }
theorem ds_tryA {n nm : Str} {i : Nat} {c : Value} {m : Str → Option Bool} {body suite : List Stmt} {b₀ : Stmt} {np pos pos' : Pos} {db ds : DTS} (hs : X.stack = X.env :: X.outer) (hf : X.env.frame = some X.env.locals) (hN : X.N.Nodup) (hc : Names X n c) (hm : Cat X.K c m)
    (hb : ∀ (pn : List (Addr × Obj)) (xe : Value → Shared → Prop), PassesOwn (model X.prog X.w) X.A X.env xe → DSs (X.tr pn xe) body db)
    (hsu : ∀ (a : Addr) (pn : List (Addr × Obj)), DSs (X.suite a pn) (b₀ :: suite) ds) (hi : X.N[i]? = some nm := by rfl) (hln : X.env.kindOf nm = some .local := by rfl) :
    DS X (.Try body [.ExceptHandler (some (.Name n np)) (some nm) (b₀ :: suite) pos'] [] [] pos) (sTryA m i db ds) := by
  refine .mk' (ps_try_keep (tb := fun W => sOf X.K W db) (ts := sOf X.K (fun _ _ _ _ => False) ds) hs hf hN hi hln hc (takes_wx X) (fun W pn xe tk po => ⟨fun pins s st H D I h => (hb pn xe po).ps.run pins s st H D I (sOf_mono (fun cls d st H w => wx_of tk w) h)⟩)
    (fun a pn => ⟨fun pins s st H D I h => (hsu a pn).ps.run pins s st H D I (sOf_mono (fun _ _ _ _ w => w.elim) h)⟩)) fun g H0 Hs0 r f st H D E s e hd => ?_
  refine ⟨g, H0, Hs0, r, f, { nx := E.nx, rt := E.rt, bk := E.bk, ct := E.ct, xc := fun x r' f' => match x with
    | .obj n ns xs => ∃ b, m n = some b ∧ (b = true → ns ≠ [] ∧ ds g (r'.set i (.sh (.exn n ns xs))) f' { nx := fun r2 f2 => E.nx (r2.set i .no) f2, rt := E.rt, bk := fun r2 f2 => E.bk (r2.set i .no) f2, ct := fun r2 f2 => E.ct (r2.set i .no) f2 }) ∧ (b = false → E.xc x r' f')
    | _ => False }, s, ⟨e.nx, e.rt, e.bk, e.ct, fun x r' f' st' H' cls d q h => ?_⟩, hd⟩
  obtain ⟨Hs', q, hx⟩ := q
  cases x <;> try exact h.elim
  rename_i n' ns xs
  obtain ⟨b, h1, h2, h3⟩ := h
  have hx' := hx
  obtain ⟨C, q1, rfl, hx2⟩ := hx'
  refine ⟨b, hm.ok n' b C h1 q1, fun hb' => ?_, fun hb' => e.xc _ r' f' st' H' _ d ⟨Hs', q, hx⟩ (h3 hb')⟩
  obtain ⟨hne, h2⟩ := h2 hb'
  rcases hx2 with ⟨z, _⟩ | ⟨dd, vs, rfl, hdd, hl, hv⟩
  · exact absurd z hne
  refine ⟨C, dd, rfl, rfl, fun a ha => ?_⟩
  have al : Stp none H' Hs' (upd H' a (ExK C dd a)) (upd Hs' a (ExK C dd a)) := Stp.alloc q.stp.sub ha
  have ne : dd ≠ a := fun z => by
    have := q.stp.sub _ _ hdd
    rw [z, ha] at this
    cases this
  refine ⟨g, H0, Hs0, r'.set i (.sh (.exn n' ns xs)), f', { nx := fun r2 f2 => E.nx (r2.set i .no) f2, rt := E.rt, bk := fun r2 f2 => E.bk (r2.set i .no) f2, ct := fun r2 f2 => E.ct (r2.set i .no) f2 },
    ⟨_, (q.afterHid al.gen (q.dk.stp al)).set i (d := .exn n' ns xs) (v := .ref a) ⟨C, a, dd, vs, q1, rfl, upd_same, by rw [upd_ne ne]; exact hdd, hl, hv.mono al.ext⟩⟩,
    ⟨fun r f st H ⟨Hs, q⟩ h => e.nx _ f _ H ⟨Hs, q.unset i⟩ h, e.rt, fun r f st H ⟨Hs, q⟩ h => e.bk _ f _ H ⟨Hs, q.unset i⟩ h, fun r f st H ⟨Hs, q⟩ h => e.ct _ f _ H ⟨Hs, q.unset i⟩ h, fun _ _ _ _ _ _ _ _ z => z.elim⟩, h2⟩
/-! its fields -/
structure KX (K : PySem.W.Frag) (c : Str) (C : Addr) : Prop where
  ns : PySem.W.nsIn K mainGlobals c = some (some (.ref C))
  xf : XfC K C
  ha : PySem.W.findIn K (.ref C) "__class__" = some (some (.builtin "object.__class__"))
  hn : PySem.W.specialIn K (.builtin "object.__class__") "__get__" = some (some (.builtin "getset_descriptor.__get__"))
  ht : PySem.W.takesIn K (.builtin "object.__class__") = some true
  hm : PySem.W.mroIn K C (.type "object") = some true
theorem KX.uniq {c : Str} {C C' : Addr} (k : KX K c C) (h : PySem.W.nsIn K mainGlobals c = some (some (.ref C'))) : C' = C := by
  have e := k.ns.symm.trans h
  cases e
  rfl
theorem exk_at {pins : List (Addr × Obj)} {s : Shared} {a C dd : Addr} {fs : List (Str × V)} (I : Inv X pins st H s) (ea : H a = some (ExK C dd a)) (ed : H dd = some (.xd fs)) :
    ∃ (oe od : Obj) (mA : Str → Option Value), PySem.W.InstAt s.heap a oe C (some od) ∧ (∀ f, RelO (fs.lookup f) (mA f)) ∧ (∀ f, PySem.W.lookIn f od = some (mA f)) := by
  obtain ⟨⟨oe, vs, he, hc, hd, hv⟩, _⟩ := (show ObjOk X.prog X.w H s.heap a (ExK C dd a) from I.hok a _ ea)
  obtain ⟨mA, hns, hr⟩ := (show ObjOk X.prog X.w H s.heap dd (.xd fs) from I.hok dd _ ed)
  obtain ⟨od, ho, hl⟩ := lookIn_ns hns
  exact ⟨oe, od, mA, ⟨he, hc, by unfold PySem.W.notCls; rw [hv] <;> rfl, by rw [hd]; exact ho⟩, hr, hl⟩
def tXk (C : Addr) (fld : Str) (te : TE) : TE := fun st H Q => te st H fun x H1 => ∃ a dd fs v, x = .ref a ∧ H1 a = some (ExK C dd a) ∧ H1 dd = some (.xd fs) ∧ fs.lookup fld = some v ∧ Q v H1
theorem pe_xk {C : Addr} {e : Expr} {te : TE} {pos : Pos} {n : Str} (T : XfC X.K C) (hno : PySem.W.findIn X.K (.ref C) n = some none) (he : PE X e te) (hb : attributeBase e n X.env (eval e X.env) = eval e X.env) : PE X (.Attribute e n pos) (tXk C n te) := by
  refine ⟨fun pins s st H Q I h => attr_of hb (thn (he.run pins s st H _ I h) fun u s1 hh => ?_)⟩
  obtain ⟨x, H1, I1, rx, a, dd, fs, v, rfl, ea, ed, l, q⟩ := hh
  obtain rfl : u = Value.ref a := rx
  obtain ⟨oe, od, mA, J, hr, hl⟩ := exk_at I1 ea ed
  obtain ⟨u, hu, ru⟩ := RelO.some_of (v := v) (o := mA n) (by rw [← l]; exact hr n)
  exact HandSPX.exc_get I1.kIn J T.ga T.gg T.exC (PySem.W.findObj_own T.hdC hno rfl (by rw [hl, hu])) (handed_of ru) ⟨v, H1, I1.tok _, ru, q⟩
theorem lookup_rp {n : Str} {y : D} : ∀ {ns : List Str} {xs : List D} {vs : List V}, RpA K Hs xs vs → (ns.zip xs).lookup n = some y → ∃ v, (ns.zip vs).lookup n = some v ∧ Rp K Hs y v
  | [], _, _, _, h => by simp at h
  | _ :: _, [], _, _, h => by simp at h
  | a :: ns, x :: xs, _, ⟨v, r, rfl, h1, h2⟩, h => by
    simp only [List.zip_cons_cons, List.lookup_cons] at h ⊢
    cases e : n == a with
    | true => rw [e] at h; cases h; exact ⟨v, rfl, h1⟩
    | false => rw [e] at h; exact lookup_rp h2 h
def dXf (c fld : Str) (d : DT) : DT := fun g r f Q => d g r f fun x f1 => match x with
  | .exn c' ns xs => c' = c ∧ ∃ y, (ns.zip xs).lookup fld = some y ∧ Q y f1
  | _ => False
theorem de_xf {c fld : Str} {C : Addr} {e : Expr} {d : DT} {pos : Pos} (k : KX X.K c C) (hno : NoAttr X.K C fld) (he : DE X e d) (hb : attributeBase e fld X.env (eval e X.env) = eval e X.env := by rfl) : DE X (.Attribute e fld pos) (dXf c fld d) :=
  .mk' (pe_xk k.xf hno he.pe hb) fun g r f st H Hs Q Q' A hq hd => he.sn g r f st H Hs _ _ A (fun x f1 v H1 Hs1 s1 k1 r1 q1 => by
    cases x <;> try exact q1.elim
    obtain ⟨rfl, y, hy, q1⟩ := q1
    obtain ⟨C', a, dd, vs, h0, rfl, h2, h3, _, h5⟩ := r1
    cases k.uniq h0
    obtain ⟨u, hu, ru⟩ := lookup_rp h5 hy
    exact ⟨a, dd, _, u, rfl, s1.sub _ _ h2, s1.sub _ _ h3, hu, hq y f1 u H1 Hs1 s1 k1 ru q1⟩) hd
/-! isinstance of it, or of None -/
def rIsX (K : PySem.W.Frag) : List V → Hp → VK → Prop := fun xs H Q => ∃ (a dd C : Addr) (c : Str) (fs : List (Str × V)) (z : V) (cv : Value) (b : Bool), xs = [.ref a, z] ∧ H a = some (ExK C dd a) ∧ H dd = some (.xd fs) ∧ KX K c C ∧ ClsV z cv ∧ PySem.W.kitOne K (.ref C) cv = some b ∧ Q (.bl b) H
def rIsXT (K : PySem.W.Frag) : List V → Hp → VK → Prop := fun xs H Q => ∃ (a dd C : Addr) (c : Str) (fs : List (Str × V)) (tp : Addr) (cs : List V) (us : List Value) (b : Bool), xs = [.ref a, .ref tp] ∧ H a = some (ExK C dd a) ∧ H dd = some (.xd fs) ∧ KX K c C ∧ SqT K H tp cs ∧ Paired ClsV cs us ∧ PySem.W.kitAny K (.ref C) us = some b ∧ Q (.bl b) H
theorem KX.cls {c : Str} {C : Addr} (k : KX K c C) : (PySem.W.clsIn K C).isSome = true := by
  obtain ⟨cd, hc, _⟩ := PySem.W.any_some k.xf.hdC
  rw [hc]
  rfl
theorem call_isX : CallR X (.builtin "isinstance") (fun xs H Q => rIsX X.K xs H Q ∨ rIsi X.K xs H Q) := by
  intro pins s st H xs us Q I r h
  rcases h with h | h
  · obtain ⟨a, dd, C, c, fs, z, cv, b, rfl, ea, ed, k, hz, e, q⟩ := h
    obtain ⟨u1, u2, rfl, r1, r2⟩ := vals2 r
    have e2 := hz.eq r2
    subst e2
    cases (show u1 = Value.ref a from r1)
    obtain ⟨oe, od, mA, J, _⟩ := exk_at I ea ed
    exact PySem.W.kia_one (PySem.W.kitx_exc (gt := none) k.cls k.xf.ga k.xf.gg k.xf.exC k.ha k.hn k.ht k.hm) I.kIn J e (fun z => nomatch z) fun tk => ⟨.bl b, H, I.tok tk, rfl, q⟩
  · exact call_isi pins s st H xs us Q I r h
theorem call_isXT : CallR X (.builtin "isinstance") (fun xs H Q => rIsXT X.K xs H Q ∨ rIsiU X.K xs H Q) := by
  intro pins s st H xs us Q I r h
  rcases h with h | h
  · obtain ⟨a, dd, C, c, fs, tp, cs, ws, b, rfl, ea, ed, k, hT, hz, e, q⟩ := h
    obtain ⟨u1, u2, rfl, r1, r2⟩ := vals2 r
    cases (show u1 = Value.ref a from r1)
    cases (show u2 = Value.ref tp from r2)
    obtain ⟨oe, od, mA, J, _⟩ := exk_at I ea ed
    obtain ⟨its, rv, ⟨o, h1, h2, n, h3⟩, _⟩ := I.tuple hT
    have e3 := ClsV.all hz rv
    subst e3
    obtain ⟨oc, od, dt, sl⟩ := o
    simp only at h2 h3
    subst h2 h3
    exact PySem.W.kia_tup (PySem.W.kitx_exc (gt := none) k.cls k.xf.ga k.xf.gg k.xf.exC k.ha k.hn k.ht k.hm) I.kIn J h1 e (fun z => nomatch z) fun tk => ⟨.bl b, H, I.tok tk, rfl, q⟩
  · exact call_isiU pins s st H xs us Q I r h
/-- which of the exceptions are of one of the classes -/
structure IsX (K : PySem.W.Frag) (Cs : List Addr) (m : Str → Option Bool) : Prop where
  ok : ∀ (n : Str) (b : Bool), m n = some b → ∃ C, KX K n C ∧ PySem.W.kitAny K (.ref C) (Cs.map Value.ref) = some b
  no : PySem.W.kitAny K (.type "NoneType") (Cs.map Value.ref) = some false
def oIsX (Cs : List Addr) (m : Str → Option Bool) (x : D) (Q : D → Prop) : Prop := match x with
  | .exn n _ _ => ∃ b, m n = some b ∧ Q (.bool b)
  | .none => Q (.bool false)
  | _ => False
def oIsX1 (C : Addr) (m : Str → Option Bool) : OA := fun ds Q => match ds with
  | [x, .any (.ref C')] => C' = C ∧ oIsX [C] m x Q
  | _ => False
def oIsXT (Cs : List Addr) (m : Str → Option Bool) : OA := fun ds Q => match ds with
  | [x, .tup cs] => cs = Cs.map (fun C => .any (.ref C)) ∧ oIsX Cs m x Q
  | _ => False
theorem kit_one {t : Value} {C : Addr} {b : Bool} (h : PySem.W.kitAny K t [.ref C] = some b) : PySem.W.kitOne K t (.ref C) = some b := by
  unfold PySem.W.kitAny at h
  split at h
  · rename_i e; rw [e]; exact h
  · rename_i e; unfold PySem.W.kitAny at h; rw [e]; exact h
  · cases h
theorem cls_ref {H : Hp} : ∀ {Cs : List Addr} {vs : List V}, RpA K H (Cs.map fun C => D.any (.ref C)) vs → Paired ClsV vs (Cs.map Value.ref)
  | [], _, h => by cases h; exact .nil
  | n :: ns, _, ⟨v, r, h1, h2, h3⟩ => by subst h1; cases h2; exact .cons (.own n) (cls_ref h3)
theorem sc_isX {C : Addr} {m : Str → Option Bool} (F : IsX K [C] m) : SndC K (fun xs H Q => rIsX K xs H Q ∨ rIsi K xs H Q) (oIsX1 C m) := SndC.pure fun H Hs ds vs Q Q' s rx hq hd => by
  unfold oIsX1 at hd
  split at hd
  · obtain ⟨rfl, hd⟩ := hd
    obtain ⟨v, w, rfl, h4, h5⟩ := rpA2 rx
    cases h5
    unfold oIsX at hd
    split at hd
    · obtain ⟨b, hb, hd⟩ := hd
      obtain ⟨C0, k, e⟩ := F.ok _ b hb
      obtain ⟨C', a, dd, us, h0, rfl, h2, h3, _, _⟩ := h4
      cases k.uniq h0
      exact .inl ⟨a, dd, _, _, _, _, _, b, rfl, s _ _ h2, s _ _ h3, k, .own _, kit_one e, hq (.bool _) _ rfl hd⟩
    · exact .inr ⟨v, _, _, _, false, rfl, .own _, tyN_ok (h4.mono s) rfl, kit_one F.no, hq (.bool _) _ rfl hd⟩
    · exact hd.elim
  · exact hd.elim
theorem sc_isXT {Cs : List Addr} {m : Str → Option Bool} (F : IsX K Cs m) : SndC K (fun xs H Q => rIsXT K xs H Q ∨ rIsiU K xs H Q) (oIsXT Cs m) := SndC.pure fun H Hs ds vs Q Q' s rx hq hd => by
  unfold oIsXT at hd
  split at hd
  · obtain ⟨rfl, hd⟩ := hd
    obtain ⟨v, w, rfl, h4, a', ws, rfl, h5, h6⟩ := rpA2 rx
    unfold oIsX at hd
    split at hd
    · obtain ⟨b, hb, hd⟩ := hd
      obtain ⟨C0, k, e⟩ := F.ok _ b hb
      obtain ⟨C', a, dd, us, h0, rfl, h2, h3, _, _⟩ := h4
      cases k.uniq h0
      exact .inl ⟨a, dd, _, _, _, _, _, _, b, rfl, s _ _ h2, s _ _ h3, k, (tp_sq s h5), cls_ref h6, e, hq (.bool _) _ rfl hd⟩
    · exact .inr ⟨v, _, _, _, _, false, rfl, (tp_sq s h5), cls_ref h6, tyN_ok (h4.mono s) rfl, F.no, hq (.bool _) _ rfl hd⟩
    · exact hd.elim
  · exact hd.elim
theorem de_cls {c : Str} {C : Addr} {pos : Pos} (hC : X.mg c = some (.ref C)) (hg : Gl X c := by rfl) (hd : (c == ("__debug__" : Str)) = false := by decide) : DE X (.Name c pos) (dC (.any (.ref C))) := de_glob (v := .ref C) hg hC rfl (fun _ => rfl) hd
theorem de_isX {C : Addr} {m : Str → Option Bool} {p pos : Pos} {e e2 : Expr} {d : DTA} (F : IsX X.K [C] m) (hm : X.mg "isinstance" = none) (ha : DA X [e, e2] d) (hg : Gl X "isinstance" := by rfl) (hs : starEach [e, e2] X.env = (false, eval e X.env) :: starEach [e2] X.env := by rfl)
    (hpl : (backTo pos (starEach [e2] X.env)).any (·.1) = false := by rfl) : DE X (.Call (.Name "isinstance" p) [e, e2] [] pos) (dCB (oIsX1 C m) d) := de_callB call_isX (sc_isX F) hg hm (by decide +kernel) ha (by decide) (by decide) hs hpl
theorem de_isXT {Cs : List Addr} {m : Str → Option Bool} {p pos : Pos} {e e2 : Expr} {d : DTA} (F : IsX X.K Cs m) (hm : X.mg "isinstance" = none) (ha : DA X [e, e2] d) (hg : Gl X "isinstance" := by rfl) (hs : starEach [e, e2] X.env = (false, eval e X.env) :: starEach [e2] X.env := by rfl)
    (hpl : (backTo pos (starEach [e2] X.env)).any (·.1) = false := by rfl) : DE X (.Call (.Name "isinstance" p) [e, e2] [] pos) (dCB (oIsXT Cs m) d) := de_callB call_isXT (sc_isXT F) hg hm (by decide +kernel) ha (by decide) (by decide) hs hpl
/-! small things -/
theorem DEX.e {e : Expr} {dl : DTX} (h : DEX X e dl) : DE X e (fun g r f Q => dl g r f Q fun _ _ => False) := .mk' h.pe fun g r f st H Hs Q Q' A hq hd => ⟨g, r, f, Hs, Q', fun _ _ => False, A, hq, fun _ _ _ _ _ _ _ _ _ z => z.elim, hd⟩
def sRetX (dl : DTX) : DTS := fun g r f E => dl g (hide r) f E.rt fun x f' => E.xc x r f'
theorem ds_retX {e : Expr} {pos : Pos} {d : DTX} (h : DEX X e d) : DS X (.Return (some e) pos) (sRetX d) := .mk' (ps_ret h.pe) (fun g H0 Hs0 r f st H D E s e hd => by
  obtain ⟨Hs, s⟩ := s
  exact h.sn g (hide r) f st H Hs _ _ _ s.atHid (fun d f' v H' Hs' p k hr q => e.rt d f' v H' Hs' (s.stp.trans p) k hr q) (fun x f' cls d H' Hs' p k hx q => e.xc x r f' st H' cls d ⟨_, s.afterHid p k, hx⟩ q) hd)
def tblX (l : List (Str × Bool)) : Str → Option Bool := fun n => l.lookup n
theorem cat_nil {c : Value} : Cat K c (tblX []) := ⟨fun _ _ _ h _ => by cases h⟩
theorem cat_cons {c : Value} {n : Str} {b : Bool} {C : Addr} {l : List (Str × Bool)} (h1 : PySem.W.nsIn K mainGlobals n = some (some (.ref C))) (h2 : PySem.W.exmOne K (.ref C) c = some b) (t : Cat K c (tblX l)) : Cat K c (tblX ((n, b) :: l)) := ⟨fun m b' C' h q => by
  unfold tblX at h
  rw [List.lookup_cons] at h
  cases e : m == n with
  | true =>
    rw [e] at h
    cases h
    cases (beq_iff_eq.mp e)
    have e2 := h1.symm.trans q
    cases e2
    exact h2
  | false => rw [e] at h; exact t.ok m b' C' h q⟩
theorem isx_nil {Cs : List Addr} (h : PySem.W.kitAny K (.type "NoneType") (Cs.map Value.ref) = some false) : IsX K Cs (tblX []) := ⟨(fun _ _ h => nomatch (show (none : Option Bool) = some _ from h)), h⟩
theorem isx_cons {Cs : List Addr} {n : Str} {b : Bool} {C : Addr} {l : List (Str × Bool)} (k : KX K n C) (h2 : PySem.W.kitAny K (.ref C) (Cs.map Value.ref) = some b) (t : IsX K Cs (tblX l)) : IsX K Cs (tblX ((n, b) :: l)) := ⟨fun m b' h => by
  unfold tblX at h
  rw [List.lookup_cons] at h
  cases e : m == n with
  | true =>
    rw [e] at h
    cases h
    cases (beq_iff_eq.mp e)
    exact ⟨C, k, h2⟩
  | false => rw [e] at h; exact t.ok m b' h, t.no⟩
theorem exn_mk {P : Program} {w : World} {mg : Str → Option Value} {base : Heap} {c fld qual : Str} {st : Stmt} {C fI : Addr} {fd : FuncData} (T : OexC K C) (hno : PySem.W.findIn K (.ref C) fld = some none) (F : Fun K "__init__" qual st fI fd) (i1 : PySem.W.findIn K (.ref C) "__init__" = some (some (.ref fI)))
    (i2 : PySem.W.typeIn K (.ref fI) = some (.type "function")) (hns : PySem.W.nsIn K mainGlobals c = some (some (.ref C))) (hm : mg c = some (.ref C)) (sc : FnScope ["self", fld] ["self", fld] (defScope st)) (hb' : Binds K fd ["self", fld] [])
    (hb : ∀ (cdv : Value) (A : Around) (outer : List Env) (s : Shared) (H : Hp) (E : XK), PSs (cxOf CX0 P w K mg base ["self", fld] qual (defScope st) fI cdv A outer s H E).nox (defBody st) (tOst K fld (tVar 0) (tVar 1))) : Exn P w K mg base 1 c fld :=
  ⟨⟨C, fI, fd, _, T, i1, i2, exn_ok T hno F sc hb, hb', hm, hns⟩⟩
end
end DL
namespace DL
open PySem PySem.Spec PyProof.Rows L2
/-! places between statements, at which ways meet: behind the first, the second, .. statement -/
section
variable {g : Option Dk} {r : Sg} {f : Nat} {E : DEnds} {a b c d e h i : DTS}
theorem mid (M : Sg → Nat → Prop) (h2 : ∀ r f, M r f → b g r f E) (h1 : (∀ r f, M r f → b g r f E) → (sSeq a b) g r f E) : (sSeq a b) g r f E := h1 h2
theorem mid2 (M : Sg → Nat → Prop) (h2 : ∀ r f, M r f → c g r f E) (h1 : (∀ r f, M r f → c g r f E) → (sSeq a (sSeq b c)) g r f E) : (sSeq a (sSeq b c)) g r f E := h1 h2
end
/-! isinstance of an own error class, from the answers about the classes -/
end DL
namespace DL
open PySem PySem.Spec PyProof.Rows L2
/-! defs that are called with no repr under way -/
structure FnG (P : Program) (w : World) (K : PySem.W.Frag) (mg : Str → Option Value) (base : Heap) (k : Nat) (f : Addr) (fd : FuncData) (ps : List Str) (sp : Sp) : Prop where
  len : ∀ vs H Q E, sp vs H Q E → vs.length = ps.length
  run : ∀ (A : Around) (outer : List Env) (s : Shared) (H : Hp) (args : Args) (us : List Value) (vs : List V) (Q : VK) (E : XK), Room k A → A.guards = some [] → Env0 P w K mg base A outer s H → BindsTo s fd args (ps.zip us) → Vals vs us → sp vs H Q E →
    codeAny (model P w) A (.call (.ref f) args) (CR CX0 outer P w H s Q E) s
section
variable {P : Program} {w : World} {K : PySem.W.Frag} {mg : Str → Option Value} {base : Heap}
theorem fnG_of {x qual : Str} {st : Stmt} {f : Addr} {fd : FuncData} {N ps : List Str} {k : Nat} {sp : Sp} (F : Fun K x qual st f fd) (S : FnScope N ps (defScope st)) (len : ∀ vs H Q E, sp vs H Q E → vs.length = ps.length)
    (hb : ∀ (cdv : Value) (A : Around) (outer : List Env) (s : Shared) (H : Hp) (vs : List V) (Q : VK) (E : XK), Room k (A.deeper (envOfC qual (defScope st) s.heap.objs.size f cdv)) → A.guards = some [] → sp vs H Q E →
      ∃ t, PSs (cxOf CX0 P w K mg base N qual (defScope st) f cdv A outer s H E).nox (defBody st) t ∧ t { nx := fun _ H' => Q .non H', rt := Q } (L2.start N vs) H) : FnG P w K mg base (k + 1) f fd ps sp := by
  obtain ⟨oc, od, kV, doc, pm, an, cdv, ct, osl, rfl, lk, hcd⟩ := F.ex
  refine ⟨len, fun A outer s H args us vs Q E hr gd e0 hbd r hsp => ?_⟩
  have kIn : K.In s.heap := e0.mod.kin.keeps fun b o e => And.left (e0.bs b o e)
  have nl : s.heap.NoLimit := e0.mod.nolimit.keeps fun b o e => And.left (e0.bs b o e)
  obtain ⟨t, ht, q⟩ := hb cdv A outer s H vs Q E (hr.deeper _) gd hsp
  refine codeAny_call_function hr.depth (kIn _ _ lk) rfl S.co S.gen rfl (PySem.W.codeRec_of kIn hcd) ?_
  refine hbd _ _ _ _ (wpAny_newFunctionEnv_cells S.kind (fun p hp => ?_) fun env he s1 x => ?_)
  · rcases S.par p.1 (List.of_mem_zip (show (p.1, p.2) ∈ ps.zip us from hp)).1 with z | z
    · exact .inl z
    · exact .inr ⟨z, PySem.W.cellsFrom_some _ _ _ (.inl z)⟩
  · subst he
    refine ⟨nl.keeps x.toInCall.keep, codeAny_func (wpAny_mono (ht.nox.run [] s1 (L2.start N vs) H _ (inv_start S hr.hd e0 (len _ _ _ _ hsp) r x) q) (fun fl s' hs => ?_) fun e s' hs => hs)⟩
    cases fl with
    | next => obtain ⟨st', H', J, z⟩ := hs; exact ⟨V.non, H', J.os, J.bare, J.base, J.hok, rfl, z⟩
    | ret u => obtain ⟨v, st', H', J, rv, z⟩ := hs; exact ⟨v, H', J.os, J.bare, J.base, J.hok, rv, z⟩
    | brk => obtain ⟨_, _, _, z⟩ := hs; exact z.elim
    | cont => obtain ⟨_, _, _, z⟩ := hs; exact z.elim
theorem dlawG {x qual y : Str} {s0 : Stmt} {rest : List Stmt} {st : Stmt} {f : Addr} {fd : FuncData} {N : List Str} {k : Nat} {dl : DTS} (F : Fun K x qual st f fd) (sc : FnScope N [y] (defScope st)) (hN : 2 ≤ N.length) (hbody : defBody st = s0 :: rest)
    (hb : ∀ (cdv : Value) (A : Around) (outer : List Env) (s : Shared) (H : Hp) (E : XK), Room k (A.deeper (envOfC qual (defScope st) s.heap.objs.size f cdv)) → (A.deeper (envOfC qual (defScope st) s.heap.objs.size f cdv)).guards = some [] → PS (cxOf CX0 P w K mg base N qual (defScope st) f cdv A outer s H E).nox s0 (tAsg (tCall (spDeck K) [] E0 (tCons (tVar 0) tNil)) (gName 1)) ∧ DSs (cxOf CX0 P w K mg base N qual (defScope st) f cdv A outer s H E).nox rest dl)
    (h : ∀ dk : Dk, dl (some dk) (startLaw N.length dk) 1000000000000 { nx := fun _ _ => False, rt := fun d _ => d = .bool true }) : FnG P w K mg base (k + 1) f fd [y] (spLaw K) := by
  refine fnG_of F sc (fun vs H Q E h => ?_) (fun cdv A outer s H vs Q E hr gd hsp => ?_)
  · obtain ⟨a, ns, rfl, _⟩ := h
    rfl
  · obtain ⟨a, ns, rfl, hS, hlen, q⟩ := hsp
    obtain ⟨h1, h2⟩ := hb cdv A outer s H E hr gd
    refine ⟨tSeq _ (sOf K _ dl), by rw [hbody]; exact pss_cons h1 h2.ps, ?_⟩
    obtain ⟨n, hn⟩ : ∃ n, N.length = n + 2 := ⟨N.length - 2, by omega⟩
    have e0 : L2.start N [V.ref a] = some (.ref a) :: none :: List.replicate n none := by
      unfold L2.start
      rw [hn]
      rfl
    refine ⟨.ref a, by rw [e0]; rfl, a, ns, rfl, hS, hlen, fun H' dk same n1 n2 n3 hd => ?_⟩
    refine h2.sn (some dk) H' (fun _ => none) (startLaw N.length dk) 1000000000000 _ H' _ { nx := fun _ _ => False, rt := fun d _ => d = .bool true } ⟨fun _ => none, ?_⟩ ⟨fun _ _ _ _ _ h => h.elim, fun d f v H2 Hs2 _ _ hr h => ?_, fun _ _ _ _ _ h => h.elim, fun _ _ _ _ _ h => h.elim, fun _ _ _ _ _ _ _ _ h => h.elim⟩ (h dk)
    · have sub : Same (fun _ => none) H' := fun a o h => nomatch h
      refine ⟨?_, ⟨_, hd, rfl, rfl, rfl⟩, ⟨hd, rfl, rfl, rfl⟩, Stp.refl sub, fun i d hi => ?_, fun i sl hi ho => ?_, fun i j sl u b hi hj ho => ?_⟩
      · rw [e0, hn]; simp [startLaw]
      · rw [e0]
        unfold startLaw at hi
        match i, hi with
        | 0, hi => cases hi
        | 1, hi => cases hi; exact ⟨.ref dk.a, rfl, rfl⟩
        | i + 2, hi =>
          have hi : (List.replicate (N.length - 2) Sl.no)[i]? = some (.sh d) := hi
          rw [List.getElem?_replicate] at hi
          split at hi <;> cases hi
      all_goals
        exfalso
        have : ∀ (i : Nat) (s : Sl), (startLaw N.length dk)[i]? = some s → s.own = false := fun i s h => by
          have := List.mem_of_getElem? h
          unfold startLaw at this
          rcases List.mem_cons.mp this with h | h
          · rw [h]; rfl
          · rcases List.mem_cons.mp h with h | h
            · rw [h]; rfl
            · rw [(List.mem_replicate.mp h).2]; rfl
        rw [this i sl hi] at ho
        cases ho
    · subst h
      cases hr
      exact q H2
end
/-! calls of them -/
/-! the end of a law whose def is called with no repr under way -/
theorem law_callG {P : Program} {w : World} {K : PySem.W.Frag} {mg mb : Str → Option Value} {k : Nat} {fa a : Addr} {fd : FuncData} {x : Str} {s₁ : Shared} {vs : List Value} {ns : List Int}
    (kIn : K.In s₁.heap) (hns : s₁.heap.Ns mainGlobals mg) (hb : s₁.heap.Ns builtinsNs mb) (hbb : ∀ x : Str, x ≠ "__name__" → mb x = bootBuiltins x) (nl : s₁.heap.NoLimit) (hg : s₁.gens = #[])
    (ha : s₁.heap.get? a = some { cls := .type "list", data := .seq vs.toArray }) (hi : IntsAre vs ns) (hl : ns.length ≤ 63) (hr : Room k callerA)
    (F : ∀ base : Heap, K.In base → base.Ns mainGlobals mg → FnG P w K mg base k fa fd [x] (spLaw K)) (hbind : ∀ (s : Shared) (u : Value), BindsTo s fd ⟨[u], []⟩ [(x, u)]) :
    codeAny (model P w) callerA (.call (.ref fa) ⟨[.ref a], []⟩) (fun r s' => r = .ok (.ret (.bool true)) ∧ OldK s₁.heap s'.heap ∧ s'.os = s₁.os ∧ AllBare s'.gens) s₁ := by
  have hlz : ns.length ≤ sizeLine := Nat.le_trans hl (by rw [sizeLine_eq]; decide)
  have main : ∀ H : Hp, (∀ b o, H b = some o → b = a ∧ K.lookup a = none ∧ ∃ u, o = .frz { cls := .type "list", data := .seq vs.toArray } u) → SqL K H a (ns.map V.int) → HOk P w H s₁.heap →
      codeAny (model P w) callerA (.call (.ref fa) ⟨[.ref a], []⟩) (fun r s' => r = .ok (.ret (.bool true)) ∧ OldK s₁.heap s'.heap ∧ s'.os = s₁.os ∧ AllBare s'.gens) s₁ := by
    intro H only sq hok
    have nsH : ∀ {b : Addr} {m : Str → Option Value}, s₁.heap.Ns b m → (hidT s₁.heap H).Ns b m := by
      rintro b m ⟨o, es, ep, e, d, z⟩
      refine ⟨o, es, ep, hidT_get e ?_, d, z⟩
      cases q : H b with
      | none => rfl
      | some u =>
        obtain ⟨rfl, _⟩ := only b u q
        rw [ha] at e
        cases e
        exact Data.noConfusion d
    have kb : K.In (hidT s₁.heap H) := fun b o e => hidT_get (kIn b o e) (by
      cases q : H b with
      | none => rfl
      | some u =>
        obtain ⟨rfl, h2, _⟩ := only b u q
        rw [h2] at e
        cases e)
    obtain ⟨mc, hm1, hm2⟩ := nl
    have e0 : Env0 P w K mg (hidT s₁.heap H) callerA [] s₁ H := {
      frames := rfl
      mod := ⟨kb, nsH hns, ⟨mb, nsH hb, hbb⟩, ⟨mc, nsH hm1, hm2⟩⟩
      bs := fun b o e => of_hidT e
      bsz := Nat.le_of_eq (hidT_size _ _)
      funs := trivial
      frf := fun b z => absurd (show b ∈ ([] : List Addr) from z) (by simp)
      hok := hok
      bare := .of_eq hg }
    refine codeAny_mono ((F _ kb (nsH hns)).run callerA [] s₁ H ⟨[.ref a], []⟩ [.ref a] [.ref a] (fun v _ => v = .bl true) (fun _ _ _ => False) hr rfl e0 (hbind s₁ (.ref a)) (.cons rfl .nil) ⟨a, ns, rfl, sq, hl, fun _ => rfl⟩) fun z s' h => ?_
    cases z with
    | error e => exact h.elim
    | ok fl => cases fl with
      | ret u =>
        obtain ⟨v, H', os, bare, un, hok', rv, q⟩ := h
        subst q
        obtain rfl : u = Value.bool true := rv
        refine ⟨rfl, OldK.of_keep fun b o e => ?_, os, bare⟩
        cases q : H b with
        | none => exact un.keep b o e q (fun z => absurd (show b ∈ ([] : List Addr) from z) (by simp)) (by simp)
        | some u =>
          obtain ⟨rfl, _, u', rfl⟩ := only b u q
          rw [ha] at e
          cases e
          exact (hok' b _ (un.frzs b _ _ q)).1
      | _ => exact h.elim
  have rv := vals_ints hi
  cases hk : K.lookup a with
  | some o =>
    have e := kIn a o hk
    rw [ha] at e
    cases e
    refine main (fun _ => none) (fun b o h => nomatch h) (.inr ⟨_, vs.toArray, _, hk, rfl, rfl, rfl, by rw [List.size_toArray, hi.length]; exact hlz, by simpa using rv⟩) fun b o h => nomatch h
  | none =>
    have self : ∀ b o, upd (fun _ => none) a (.frz { cls := .type "list", data := .seq vs.toArray } (.lst (ns.map V.int))) b = some o → b = a ∧ o = .frz { cls := .type "list", data := .seq vs.toArray } (.lst (ns.map V.int)) := fun b o h => by
      by_cases hb : b = a
      · subst hb
        rw [upd_same] at h
        cases h
        exact ⟨rfl, rfl⟩
      · rw [upd_ne hb] at h
        cases h
    refine main (upd (fun _ => none) a (.frz { cls := .type "list", data := .seq vs.toArray } (.lst (ns.map V.int)))) (fun b o h => ?_) (.inl (.inr ⟨_, upd_same⟩)) fun b o h => ?_
    · obtain ⟨rfl, rfl⟩ := self b o h
      exact ⟨rfl, hk, _, rfl⟩
    · obtain ⟨rfl, rfl⟩ := self b o h
      exact ⟨ha, by rw [List.length_map]; exact hlz, vs, _, rv, ha⟩
end DL
namespace DL
open PySem PySem.Spec PyProof.Rows L2
/-! repr -/
def keyP : Key → PyData
  | .inl i => .int i
  | .inr x => .str x
mutual
def D.sh : D → PyData
  | .none => .none
  | .bool b => .bool b
  | .int i => .int i
  | .str x => .str x
  | .tup ds => .tuple (shA ds)
  | .lst ds => .list (shA ds)
  | .dct ks ds => .dict ((ks.map keyP).zip (shA ds))
  | .obj _ _ _ => .none
  | .exn _ _ _ => .none
  | .any _ => .none
def shA : List D → List PyData
  | [] => []
  | d :: ds => d.sh :: shA ds
end
def kOk : Key → Bool
  | .inl i => decide (i.natAbs.log2 < 1920)
  | .inr x => x.cps.toList.all fun c => decide (c < 1114112)
def kWt : Key → Nat
  | .inl _ => 1921
  | .inr x => 10 * x.length + 2
mutual
/-- what may be shown -/
def D.shO : D → Bool
  | .none => true
  | .bool _ => true
  | .int i => decide (i.natAbs.log2 < 1920)
  | .str x => x.cps.toList.all fun c => decide (c < 1114112)
  | .tup ds => shOA ds
  | .lst ds => shOA ds
  | .dct ks ds => ks.all kOk && shOA ds
  | .obj _ _ _ => false
  | .exn _ _ _ => false
  | .any _ => false
def shOA : List D → Bool
  | [] => true
  | d :: ds => d.shO && shOA ds
end
mutual
/-- how long its text is, at the most -/
def D.wt : D → Nat
  | .int _ => 1921
  | .str x => 10 * x.length + 2
  | .tup ds => wtA ds + 3
  | .lst ds => wtA ds + 3
  | .dct ks ds => (ks.map fun k => kWt k + 2).sum + wtA ds + 3
  | _ => 5
def wtA : List D → Nat
  | [] => 0
  | d :: ds => d.wt + 2 + wtA ds
end
mutual
/-- how deep it is -/
def D.dp : D → Nat
  | .tup ds => dpA ds + 1
  | .lst ds => dpA ds + 1
  | .dct _ ds => dpA ds + 1
  | _ => 0
def dpA : List D → Nat
  | [] => 0
  | d :: ds => max d.dp (dpA ds)
end
theorem shA_len : ∀ ds : List D, (shA ds).length = ds.length
  | [] => rfl
  | d :: ds => by show (shA ds).length + 1 = _; rw [shA_len ds]; rfl
/-! lengths -/
theorem cps_of {x : Str} (h : (x.cps.toList.all fun c => decide (c < 1114112)) = true) : (reprText x).length ≤ 10 * x.length + 2 :=
  PySem.StrLaws.reprText_len x fun c hc => Nat.lt_trans (of_decide_eq_true (List.all_eq_true.mp h c hc)) (by decide)
theorem key_len : ∀ k : Key, kOk k = true → (keyP k).shown.length ≤ kWt k
  | .inl i, h => int_text_len_1921 (of_decide_eq_true h)
  | .inr x, h => cps_of h
mutual
theorem D.sh_len : ∀ d : D, d.shO = true → d.sh.shown.length ≤ d.wt
  | .none, _ => by decide
  | .bool b, _ => by cases b <;> decide
  | .int i, h => int_text_len_1921 (of_decide_eq_true h)
  | .str x, h => cps_of h
  | .tup ds, h => by
    have h1 := shA_lens ds h
    have h2 := tupleText_len_le (PyData.shownAll (shA ds))
    rw [PyData.shownAll_length, shA_len] at h2
    show (tupleText (PyData.shownAll (shA ds))).length ≤ wtA ds + 3
    omega
  | .lst ds, h => by
    have h1 := shA_lens ds h
    have h2 := listText_len_le (PyData.shownAll (shA ds))
    rw [PyData.shownAll_length, shA_len] at h2
    show (listText (PyData.shownAll (shA ds))).length ≤ wtA ds + 3
    omega
  | .dct ks ds, h => by
    have h : (ks.all kOk && shOA ds) = true := h
    rw [Bool.and_eq_true] at h
    have h1 := kv_lens ks ds h.1 h.2
    have h2 := dictText_len_le (PyData.shownKv ((ks.map keyP).zip (shA ds)))
    rw [PyData.shownKv_length] at h2
    show (dictText (PyData.shownKv ((ks.map keyP).zip (shA ds)))).length ≤ (ks.map fun k => kWt k + 2).sum + wtA ds + 3
    omega
  | .obj _ _ _, h => by cases h
  | .exn _ _ _, h => by cases h
  | .any _, h => by cases h
theorem shA_lens : ∀ ds : List D, shOA ds = true → ((PyData.shownAll (shA ds)).map (·.length)).sum + 2 * ds.length ≤ wtA ds
  | [], _ => Nat.le_refl _
  | d :: ds, h => by
    have h : (d.shO && shOA ds) = true := h
    rw [Bool.and_eq_true] at h
    have h1 := D.sh_len d h.1
    have h2 := shA_lens ds h.2
    show ((d.sh.shown :: PyData.shownAll (shA ds)).map (·.length)).sum + 2 * (ds.length + 1) ≤ d.wt + 2 + wtA ds
    rw [List.map_cons, List.sum_cons]
    omega
theorem kv_lens : ∀ (ks : List Key) (ds : List D), ks.all kOk = true → shOA ds = true → ((PyData.shownKv ((ks.map keyP).zip (shA ds))).map (·.length)).sum + 2 * ((ks.map keyP).zip (shA ds)).length ≤ (ks.map fun k => kWt k + 2).sum + wtA ds
  | [], ds, _, _ => by show 0 ≤ _; omega
  | k :: ks, [], _, _ => by show 0 ≤ _; omega
  | k :: ks, d :: ds, hk, hd => by
    have hd : (d.shO && shOA ds) = true := hd
    rw [Bool.and_eq_true] at hd
    rw [List.all_cons, Bool.and_eq_true] at hk
    have h1 := D.sh_len d hd.1
    have h2 := key_len k hk.1
    have h3 := kv_lens ks ds hk.2 hd.2
    show ((((keyP k).shown ++ ": " ++ d.sh.shown) :: PyData.shownKv ((ks.map keyP).zip (shA ds))).map (·.length)).sum + 2 * (((ks.map keyP).zip (shA ds)).length + 1) ≤ (kWt k + 2 + (ks.map fun k => kWt k + 2).sum) + (d.wt + 2 + wtA ds)
    rw [List.map_cons, List.sum_cons, strLen_append, strLen_append]
    have e : Str.length (": " : Str) = 2 := by decide
    omega
end
/-! depths -/
mutual
theorem D.sh_depth : ∀ d : D, d.sh.depth ≤ d.dp
  | .none => Nat.le_refl _
  | .bool _ => Nat.le_refl _
  | .int _ => Nat.le_refl _
  | .str _ => Nat.le_refl _
  | .tup ds => Nat.succ_le_succ (shA_depth ds)
  | .lst ds => Nat.succ_le_succ (shA_depth ds)
  | .dct ks ds => Nat.succ_le_succ (kv_depth ks ds)
  | .obj _ _ _ => Nat.le_refl _
  | .exn _ _ _ => Nat.le_refl _
  | .any _ => Nat.le_refl _
theorem shA_depth : ∀ ds : List D, PyData.depthAll (shA ds) ≤ dpA ds
  | [] => Nat.le_refl _
  | d :: ds => by
    have h1 := D.sh_depth d
    have h2 := shA_depth ds
    show max d.sh.depth (PyData.depthAll (shA ds)) ≤ max d.dp (dpA ds)
    omega
theorem kv_depth : ∀ (ks : List Key) (ds : List D), PyData.depthKv ((ks.map keyP).zip (shA ds)) ≤ dpA ds
  | [], ds => Nat.zero_le _
  | _ :: _, [] => Nat.zero_le _
  | k :: ks, d :: ds => by
    have h1 := D.sh_depth d
    have h2 := kv_depth ks ds
    have h3 : (keyP k).depth = 0 := by cases k <;> rfl
    show max (max (keyP k).depth d.sh.depth) (PyData.depthKv ((ks.map keyP).zip (shA ds))) ≤ max d.dp (dpA ds)
    omega
end
/-! what is read in the heap -/
section
variable {P : Program} {w : World} {K : PySem.W.Frag} {H : Hp} {h : Heap}
theorem lst_at {a : Addr} {vs : List V} (ok : HOk P w H h) (e : H a = some (.lst vs)) : ∃ (us : List Value) (n : Nat), Vals vs us ∧ h.get? a = some { cls := .type "list", data := .seq us.toArray n } := (ok a _ e).2
theorem tup_at {a : Addr} {vs : List V} (ok : HOk P w H h) (ki : K.In h) (e : TpAt K H a vs) : ∃ us : List Value, Vals vs us ∧ IsTup h a us.toArray := by
  rcases e with e | ⟨o, its, n, h1, h2, h3, _, h4⟩
  · exact (ok a _ e).2
  · exact ⟨its.toList, h4, o, ki _ _ h1, h2, n, by rw [h3]⟩
theorem kv_at : ∀ {ks : List Key} {vs : List V} {kvs : List (Key × Value)} {l : List DictEntry}, ks.length = vs.length → KV (ks.zip vs) kvs → Pairs (mixKind P w) l kvs → Vals vs (l.map (·.val)) ∧ Paired (fun k u => keyIs k u = true) ks (l.map (·.key))
  | [], [], _, _, _, .nil, .nil => ⟨.nil, .nil⟩
  | [], _ :: _, _, _, hl, _, _ => by simp at hl
  | _ :: _, [], _, _, hl, _, _ => by simp at hl
  | k :: ks, v :: vs, _, _, hl, r, hp => by
    rw [List.zip_cons_cons] at r
    cases r with
    | cons r1 r2 =>
      cases hp with
      | cons p1 p2 p3 =>
        obtain ⟨h1, h2⟩ := kv_at (by simpa using hl) r2 p3
        refine ⟨.cons (by show RelV v (DictEntry.val _); rw [p2]; exact r1.2) h1, .cons ?_ h2⟩
        have e : k = _ := r1.1
        rw [e]
        exact p1
theorem dct_at {a : Addr} {ks : List Key} {vs : List V} (ok : HOk P w H h) (e : H a = some (.dK (ks.zip vs))) (hl : ks.length = vs.length) : (a == sysModules) = false ∧ ∃ (o : Obj) (es : Array DictEntry) (ep : Nat), h.get? a = some o ∧ o.cls = .type "dict" ∧ o.data = .dict es ep ∧ Vals vs (es.toList.map (·.val)) ∧ Paired (fun k u => keyIs k u = true) ks (es.toList.map (·.key)) := by
  obtain ⟨_, hs, kvs, r, o, es, ep, ho, hx, hd, _, hp, _⟩ := ok a _ e
  obtain ⟨h1, h2⟩ := kv_at hl r hp
  exact ⟨hs, o, es, ep, ho, hx.1, hd, h1, h2⟩
theorem keys_at : ∀ {ks : List Key} {us : List Value} (n : Nat) (bs : List Addr), Paired (fun k u => keyIs k u = true) ks us → ks.all kOk = true → (∀ k ∈ ks, kWt k ≤ sizeLine) → (∃ as, ReadsAll h us (ks.map keyP) as) ∧ ReprAllK P w bs h n us (PyData.shownAll (ks.map keyP))
  | [], _, n, bs, .nil, _, _ => ⟨⟨[], .nil⟩, .nil⟩
  | k :: ks, u :: us, n, bs, .cons hk hr, ho, hz => by
    rw [List.all_cons, Bool.and_eq_true] at ho
    obtain ⟨⟨as, h1⟩, h2⟩ := keys_at n bs hr ho.2 fun k hk => hz k (List.mem_cons_of_mem _ hk)
    have hz1 := hz k (List.mem_cons_self ..)
    rcases keyIs_shape hk with ⟨i, t, rfl, rfl⟩ | ⟨x, t, rfl, rfl⟩
    · exact ⟨⟨_, .cons (.int i t) h1⟩, .cons (.of_is (ReprIs.int t (of_decide_eq_true ho.1)) _ _ _) h2⟩
    · exact ⟨⟨_, .cons (.str x t) h1⟩, .cons (.of_is (ReprIs.str x t (Nat.le_trans (cps_of ho.1) hz1)) _ _ _) h2⟩
theorem wtA_mem : ∀ {ds : List D} {d : D}, d ∈ ds → d.wt ≤ wtA ds
  | x :: xs, d, hd => by
    show d.wt ≤ x.wt + 2 + wtA xs
    rcases List.mem_cons.mp hd with e | e
    · rw [e]; omega
    · have := wtA_mem e
      omega
theorem kWt_mem : ∀ {ks : List Key} {k : Key}, k ∈ ks → kWt k ≤ (ks.map fun k => kWt k + 2).sum
  | x :: xs, k, hk => by
    rw [List.map_cons, List.sum_cons]
    rcases List.mem_cons.mp hk with e | e
    · rw [e]; omega
    · have := kWt_mem e
      omega
theorem fst_zip {α β : Type} : ∀ {l : List α} {m : List β}, l.length = m.length → (l.zip m).map (·.1) = l ∧ (l.zip m).map (·.2) = m
  | [], [], _ => ⟨rfl, rfl⟩
  | [], _ :: _, h => by simp at h
  | _ :: _, [], h => by simp at h
  | x :: l, y :: m, h => by
    obtain ⟨h1, h2⟩ := fst_zip (l := l) (m := m) (by simpa using h)
    rw [List.zip_cons_cons, List.map_cons, List.map_cons, h1, h2]
    exact ⟨rfl, rfl⟩
mutual
theorem rpK (ok : HOk P w H h) (ki : K.In h) : ∀ (d : D) (v : V) (u : Value), Rp K H d v → RelV v u → d.shO = true → d.wt ≤ sizeLine → (∃ as, Reads h u d.sh as) ∧ ∃ bs, ReadAtMost h d.sh.depth bs ∧ ReprK P w bs h d.sh.depth u d.sh.shown
  | .none, v, u, r, q, _, _ => by cases r; cases q; exact ⟨⟨_, .none⟩, [], (fun _ z => nomatch z), .of_is ReprIs.none _ _ _⟩
  | .bool b, v, u, r, q, _, _ => by cases r; cases q; exact ⟨⟨_, .bool b⟩, [], (fun _ z => nomatch z), .of_is (ReprIs.bool b) _ _ _⟩
  | .int i, v, u, r, q, ho, _ => by cases r; obtain ⟨t, rfl⟩ := q; exact ⟨⟨_, .int i t⟩, [], (fun _ z => nomatch z), .of_is (ReprIs.int t (of_decide_eq_true ho)) _ _ _⟩
  | .str x, v, u, r, q, ho, hz => by cases r; obtain ⟨t, rfl⟩ := q; exact ⟨⟨_, .str x t⟩, [], (fun _ z => nomatch z), .of_is (ReprIs.str x t (Nat.le_trans (cps_of ho) hz)) _ _ _⟩
  | .tup ds, v, u, ⟨a, vs, hv, ha, hr⟩, q, ho, hz => by
    subst hv
    cases (show u = Value.ref a from q)
    obtain ⟨us, hu, o, h1, h2, n, h3⟩ := tup_at ok ki ha
    obtain ⟨⟨as, r1⟩, bs, hb, hk⟩ := rpKA ok ki ds vs us hr hu ho (Nat.le_trans (Nat.le_add_right _ 3) hz)
    have rd : Reads h (.ref a) (.tuple (shA ds)) as := .tuple h1 h2 h3 (by simpa using r1)
    exact ⟨⟨as, rd⟩, a :: bs, ReadAtMost.cons rd (Nat.le_succ _) hb, ReprK.tuple h1 h2 h3 (not_mem_of_deeper rd (Nat.lt_succ_self _) hb) (by simpa using hk)⟩
  | .lst ds, v, u, ⟨a, vs, hv, ha, hr⟩, q, ho, hz => by
    subst hv
    cases (show u = Value.ref a from q)
    obtain ⟨us, n, hu, h1⟩ := lst_at ok ha
    obtain ⟨⟨as, r1⟩, bs, hb, hk⟩ := rpKA ok ki ds vs us hr hu ho (Nat.le_trans (Nat.le_add_right _ 3) hz)
    have rd : Reads h (.ref a) (.list (shA ds)) (a :: as) := .list h1 rfl rfl (by simpa using r1)
    refine ⟨⟨_, rd⟩, a :: bs, ReadAtMost.cons rd (Nat.le_succ _) hb, ?_⟩
    cases us with
    | nil =>
      cases hu
      have : ds = [] := List.eq_nil_of_length_eq_zero (by have := hr.length; simpa using this)
      subst this
      exact ReprK.listEmpty h1 rfl rfl
    | cons x l => exact ReprK.list h1 rfl rfl (not_mem_of_deeper rd (Nat.lt_succ_self _) hb) (by simpa using hk.length_eq) fun i y e => hk.item i y (by simpa using e)
  | .dct ks ds, v, u, ⟨a, vs, hv, ha, hl, hr⟩, q, ho, hz => by
    subst hv
    cases (show u = Value.ref a from q)
    have ho : (ks.all kOk && shOA ds) = true := ho
    rw [Bool.and_eq_true] at ho
    have hz : (ks.map fun k => kWt k + 2).sum + wtA ds + 3 ≤ sizeLine := hz
    obtain ⟨hs, o, es, ep, h1, h2, h3, hu, hk⟩ := dct_at ok ha hl
    obtain ⟨⟨as, r1⟩, bs, hb, k2⟩ := rpKA ok ki ds vs _ hr hu ho.2 (by omega)
    obtain ⟨⟨as', r2⟩, k1⟩ := keys_at (P := P) (w := w) (h := h) (PyData.depthAll (shA ds)) bs hk ho.1 fun k hk => by have := kWt_mem hk; omega
    have lz : (ks.map keyP).length = (shA ds).length := by rw [List.length_map, shA_len, hr.length, hl]
    obtain ⟨z1, z2⟩ := fst_zip lz
    have rd : Reads h (.ref a) (.dict ((ks.map keyP).zip (shA ds))) (a :: as' ++ as) := .dict h1 h2 h3 (by rw [z1]; exact r2) (by rw [z2]; exact r1)
    have dle : PyData.depthAll (shA ds) ≤ PyData.depthKv ((ks.map keyP).zip (shA ds)) := by
      have := PyData.depthAll_vals_le ((ks.map keyP).zip (shA ds))
      rw [z2] at this
      exact this
    have hb' := hb.mono dle
    refine ⟨⟨_, rd⟩, a :: bs, ReadAtMost.cons rd (Nat.le_succ _) hb', ?_⟩
    have e := ReprEntriesK.of_two es.toList _ _ (k1.more_le (fun b hb => hb) dle) (k2.more_le (fun b hb => hb) dle)
    have := ReprK.dict h1 h2 h3 hs (not_mem_of_deeper rd (Nat.lt_succ_self _) hb') e
    show ReprK P w (a :: bs) h _ _ (dictText (PyData.shownKv ((ks.map keyP).zip (shA ds))))
    rw [PyData.shownKv_eq, z1, z2]
    exact this
  | .obj _ _ _, _, _, _, _, ho, _ => by cases ho
  | .exn _ _ _, _, _, _, _, ho, _ => by cases ho
  | .any _, _, _, _, _, ho, _ => by cases ho
theorem rpKA (ok : HOk P w H h) (ki : K.In h) : ∀ (ds : List D) (vs : List V) (us : List Value), RpA K H ds vs → Vals vs us → shOA ds = true → wtA ds ≤ sizeLine → (∃ as, ReadsAll h us (shA ds) as) ∧ ∃ bs, ReadAtMost h (PyData.depthAll (shA ds)) bs ∧ ReprAllK P w bs h (PyData.depthAll (shA ds)) us (PyData.shownAll (shA ds))
  | [], vs, us, r, q, _, _ => by cases r; cases q; exact ⟨⟨_, .nil⟩, [], (fun _ z => nomatch z), .nil⟩
  | d :: ds, vs, us, ⟨v, vr, hv, r1, r2⟩, q, ho, hz => by
    subst hv
    cases q with
    | cons q1 q2 =>
      have ho : (d.shO && shOA ds) = true := ho
      rw [Bool.and_eq_true] at ho
      have hz : d.wt + 2 + wtA ds ≤ sizeLine := hz
      obtain ⟨⟨as1, a1⟩, b1, hb1, k1⟩ := rpK ok ki d v _ r1 q1 ho.1 (by omega)
      obtain ⟨⟨as2, a2⟩, b2, hb2, k2⟩ := rpKA ok ki ds vr _ r2 q2 ho.2 (by omega)
      refine ⟨⟨_, .cons a1 a2⟩, b1 ++ b2, (hb1.mono (Nat.le_max_left _ _)).append (hb2.mono (Nat.le_max_right _ _)), ?_⟩
      exact .cons ((k1.more fun b hb => List.mem_append_left _ hb).level_le (Nat.le_max_left _ _)) (k2.more_le (fun b hb => List.mem_append_right _ hb) (Nat.le_max_right _ _))
end
/-- repr of what may be shown -/
theorem repr_top {A : Around} {E : Value → Shared → Prop} {s : Shared} {Q : Value → Shared → Prop} (ok : HOk P w H s.heap) (ki : K.In s.heap) (gd : A.guards = some []) (d : D) (v : V) (u : Value) (r : Rp K H d v) (q : RelV v u) (ho : d.shO = true) (hz : d.wt ≤ sizeLine) (hu : A.units + d.dp + 1 < cLine)
    (hQ : ∀ h' t tk, (∀ b o, s.heap.get? b = some o → h'.get? b = some o) → Q (.str d.sh.shown t) { s with heap := h', toks := tk }) : wpAny (model P w) A (call (.builtin "repr") [u]) Q E s := by
  have hlen := Nat.le_trans (D.sh_len d ho) hz
  have hdp := D.sh_depth d
  cases d with
  | none => cases r; cases q; exact PySem.P.repr_of_none (hQ s.heap _ _ fun _ _ e => e)
  | bool b => cases r; cases q; exact PySem.P.repr_of_bool (hQ s.heap _ _ fun _ _ e => e)
  | int i => cases r; obtain ⟨t, rfl⟩ := q; exact PySem.P.repr_of_int (of_decide_eq_true ho) (hQ s.heap _ _ fun _ _ e => e)
  | str x => cases r; obtain ⟨t, rfl⟩ := q; exact PySem.P.repr_of_str (hQ s.heap _ _ fun _ _ e => e) hlen
  | tup ds =>
    obtain ⟨a, vs, rfl, ha, hr⟩ := r
    cases (show u = Value.ref a from q)
    obtain ⟨us, hus, o, h1, h2, n, h3⟩ := tup_at ok ki ha
    obtain ⟨⟨as, r1⟩, bs, hb, hk⟩ := rpKA ok ki ds vs us hr hus ho (Nat.le_trans (Nat.le_add_right _ 3) hz)
    have rd : Reads s.heap (.ref a) (.tuple (shA ds)) as := .tuple h1 h2 h3 (by simpa using r1)
    exact call_repr_slot (by omega) ⟨o, h1, h2⟩ F.slot_tuple_repr (call_tuple_reprK h1 h2 h3 (not_mem_of_deeper rd (Nat.lt_succ_self _) hb) (by simpa using hk) gd (fun b _ => Clear.nil b)
      (by show A.units + 1 + (PyData.depthAll (shA ds) + 1) < cLine; have : PyData.depthAll (shA ds) + 1 ≤ (D.tup ds).dp := hdp; omega) (fun _ _ e => e) (fun h' t tk hk => ⟨_, _, rfl, hQ h' t tk hk⟩) hlen)
  | lst ds =>
    obtain ⟨a, vs, rfl, ha, hr⟩ := r
    cases (show u = Value.ref a from q)
    obtain ⟨us, n, hus, h1⟩ := lst_at ok ha
    obtain ⟨⟨as, r1⟩, bs, hb, hk⟩ := rpKA ok ki ds vs us hr hus ho (Nat.le_trans (Nat.le_add_right _ 3) hz)
    have rd : Reads s.heap (.ref a) (.list (shA ds)) (a :: as) := .list h1 rfl rfl (by simpa using r1)
    refine call_repr_slot (by omega) ⟨_, h1, rfl⟩ F.slot_list_repr.toG ?_
    cases us with
    | nil =>
      cases hus
      have : ds = [] := List.eq_nil_of_length_eq_zero (by have := hr.length; simpa using this)
      subst this
      exact call_list_repr_empty ⟨_, h1, rfl⟩ h1 rfl ⟨_, _, rfl, hQ s.heap _ _ fun _ _ e => e⟩
    | cons x l => exact call_list_reprK h1 rfl rfl (not_mem_of_deeper rd (Nat.lt_succ_self _) hb) (by simpa using hk.length_eq) (fun i y e => hk.item i y (by simpa using e)) gd (fun b _ => Clear.nil b) (by show A.units + 1 + (PyData.depthAll (shA ds) + 1) < cLine; have : PyData.depthAll (shA ds) + 1 ≤ (D.lst ds).dp := hdp; omega) (fun _ _ e => e) (fun h' t tk hk => ⟨_, _, rfl, hQ h' t tk hk⟩) hlen
  | dct ks ds =>
    obtain ⟨a, vs, rfl, ha, hl, hr⟩ := r
    cases (show u = Value.ref a from q)
    have ho : (ks.all kOk && shOA ds) = true := ho
    rw [Bool.and_eq_true] at ho
    have hz : (ks.map fun k => kWt k + 2).sum + wtA ds + 3 ≤ sizeLine := hz
    obtain ⟨hs, o, es, ep, h1, h2, h3, hus, hk⟩ := dct_at ok ha hl
    obtain ⟨⟨as, r1⟩, bs, hb, k2⟩ := rpKA ok ki ds vs _ hr hus ho.2 (by omega)
    obtain ⟨⟨as', r2⟩, k1⟩ := keys_at (P := P) (w := w) (h := s.heap) (PyData.depthAll (shA ds)) bs hk ho.1 fun k hk => by have := kWt_mem hk; omega
    have lz : (ks.map keyP).length = (shA ds).length := by rw [List.length_map, shA_len, hr.length, hl]
    obtain ⟨z1, z2⟩ := fst_zip lz
    have rd : Reads s.heap (.ref a) (.dict ((ks.map keyP).zip (shA ds))) (a :: as' ++ as) := .dict h1 h2 h3 (by rw [z1]; exact r2) (by rw [z2]; exact r1)
    have dle : PyData.depthAll (shA ds) ≤ PyData.depthKv ((ks.map keyP).zip (shA ds)) := by
      have := PyData.depthAll_vals_le ((ks.map keyP).zip (shA ds))
      rw [z2] at this
      exact this
    have hb' := hb.mono dle
    have e := ReprEntriesK.of_two es.toList _ _ (k1.more_le (fun b hb => hb) dle) (k2.more_le (fun b hb => hb) dle)
    have et : (D.dct ks ds).sh.shown = dictText (List.zipWith (fun k v : Str => k ++ ": " ++ v) (PyData.shownAll (ks.map keyP)) (PyData.shownAll (shA ds))) := by
      show dictText (PyData.shownKv ((ks.map keyP).zip (shA ds))) = _
      rw [PyData.shownKv_eq, z1, z2]
    rw [et] at hlen hQ
    exact call_repr_slot (by omega) ⟨o, h1, h2⟩ F.slot_dict_repr (call_dict_reprK h1 h2 h3 hs (not_mem_of_deeper rd (Nat.lt_succ_self _) hb') e gd (fun b _ => Clear.nil b)
      (by show A.units + 1 + (PyData.depthKv ((ks.map keyP).zip (shA ds)) + 1) < cLine; have : PyData.depthKv ((ks.map keyP).zip (shA ds)) + 1 ≤ (D.dct ks ds).dp := hdp; omega) (fun _ _ e => e) (fun h' t tk hk => ⟨_, _, rfl, hQ h' t tk hk⟩) hlen)
  | obj _ _ _ => cases ho
  | exn _ _ _ => cases ho
  | any _ => cases ho
end
@[irreducible] def reprT (d : D) : Str := d.sh.shown
def oRepr : OA := fun ds Q => match ds with
  | [x] => x.shO = true ∧ x.wt ≤ 16777216 ∧ x.dp ≤ 30 ∧ Q (.str (reprT x))
  | _ => False
section
variable {X : Cx}
def rRepr (K : PySem.W.Frag) : List V → Hp → VK → Prop := fun vs H Q => ∃ v d, vs = [v] ∧ Rp K H d v ∧ d.shO = true ∧ d.wt ≤ 16777216 ∧ d.dp ≤ 30 ∧ Q (.str (reprT d)) H
theorem call_repr (gd : X.A.guards = some []) (hu : X.A.units + 64 < cLine) : CallR X (.builtin "repr") (rRepr X.K) := fun pins s st H xs us Q I r h => by
  obtain ⟨v, d, rfl, hr, ho, hz, hd, q⟩ := h
  cases r with
  | cons r1 r2 =>
    cases r2
    refine repr_top I.hok I.kIn gd d v _ hr r1 ho (by rw [sizeLine_eq]; exact hz) (by omega) fun h' t tk hk => ⟨.str (reprT d), H, I.kept hk, ⟨t, ?_⟩, q⟩
    unfold reprT
    rfl
theorem sc_repr {K : PySem.W.Frag} : SndC K (rRepr K) oRepr := fun H Hs ds vs Q Q' s rx hq hd => by
  unfold oRepr at hd
  split at hd
  · obtain ⟨h1, h2, h3, h4⟩ := hd
    obtain ⟨v, rfl, rv⟩ := rpA1 rx
    exact ⟨v, _, rfl, rv.mono s, h1, h2, h3, hq (.str (reprT _)) _ H Hs (Stp.refl s) rfl h4⟩
  · exact hd.elim
theorem de_repr {p pos : Pos} {e : Expr} {d : DTA} (gd : X.A.guards = some []) (hu : X.A.units + 64 < cLine) (hm : X.mg "repr" = none) (ha : DA X [e] d) (hg : Gl X "repr" := by rfl) (hs : starEach [e] X.env = (false, eval e X.env) :: starEach [] X.env := by rfl)
    (hpl : (backTo pos (starEach [] X.env)).any (·.1) = false := by rfl) : DE X (.Call (.Name "repr" p) [e] [] pos) (dCB oRepr d) :=
  de_callB (call_repr gd hu) sc_repr hg hm (by decide +kernel) ha (by decide) (by decide) hs hpl
end
end DL
namespace DL
open PySem PySem.Spec PyProof.Rows L2
/-! dicts of the text, with text keys -/
inductive Ents (K : PySem.W.Frag) : List DictEntry → List (Str × D) → Prop
  | nil : Ents K [] []
  | cons {e : DictEntry} {x : Str} {t : Tok} {d : D} {es : List DictEntry} {tb : List (Str × D)} : e.key = .str x t → (∃ v, RelV v e.val ∧ ∀ H, Rp K H d v) → Ents K es tb → Ents K (e :: es) ((x, d) :: tb)
def GD (K : PySem.W.Frag) (w : World) (mg : Str → Option Value) (x : Str) (tb : List (Str × D)) : Prop := ∃ (a : Addr) (es : Array DictEntry) (n : Nat), mg x = some (.ref a) ∧ KDict K w a es n ∧ Ents K es.toList tb
section
variable {X : Cx} {K : PySem.W.Frag}
theorem DE.weak {e : Expr} {d d' : DT} (h : DE X e d) (w : ∀ g r f Q, d' g r f Q → d g r f Q) : DE X e d' := .mk' h.pe fun g ro f st H Hs Q Q' A hq hd => h.sn g ro f st H Hs Q Q' A hq (w g ro f Q' hd)
theorem DP.weak {e : Expr} {d d' : DTT} (h : DP X e d) (w : ∀ g r f Q, d' g r f Q → d g r f Q) : DP X e d' := .mk' h.pt fun g ro f st H Hs Q Q' A hq hd => h.sn g ro f st H Hs Q Q' A hq (w g ro f Q' hd)
/-! the tables, from what stands in the text -/
end
end DL
namespace DL
open PySem PySem.Spec PyProof.Rows L2
/-! `xs == []` and `xs != []` for a list of any items -/
section
variable {X : Cx} {K : PySem.W.Frag}
def rEqE (K : PySem.W.Frag) (neg : Bool) : R2 := fun x y H Q => ∃ (p q : Addr) (vs : List V), x = .ref p ∧ y = .ref q ∧ SqL K H p vs ∧ SqL K H q [] ∧ Q (.bl (xb neg vs.isEmpty)) H
theorem op_neE (hu : X.A.units + 64 < cLine) : OpR X (compareOp .NotEq) (rEqE X.K true) := by
  intro pins s st H x y v u Q I rx ry h
  obtain ⟨p, q, vs, rfl, rfl, hp, hq, hQ⟩ := h
  cases (show v = Value.ref p from rx)
  cases (show u = Value.ref q from ry)
  obtain ⟨its, r, pl, _⟩ := I.list hp
  obtain ⟨jts, r2, pl2, _⟩ := I.list hq
  cases r2
  have f : ∀ b : Bool, b = !vs.isEmpty → EP X pins st Q (.bool b) s := fun b e => ⟨.bl (!vs.isEmpty), H, I, (show Value.bool b = Value.bool (!vs.isEmpty) by rw [e]), hQ⟩
  cases r with
  | nil => exact SeqAt.RcNeAt.lists (e := fun _ => true) pl.isList pl2.isList rfl (by omega) (fun j h1 _ => absurd h1 (Nat.not_lt_zero _)) _ _ _ _ (f false rfl)
  | cons _ _ => exact SeqAt.RcNeAt.lists_lengths pl.isList pl2.isList (by simp) (by omega) _ _ _ _ (f true rfl)
def oEqE (neg : Bool) : O2 := fun x y Q => ∃ xs, x = .lst xs ∧ y = .lst [] ∧ Q (.bool (xb neg xs.isEmpty))
theorem sr_eqE {neg : Bool} : SndR K (rEqE K neg) (oEqE neg) := SndR.pure fun H Hs x y vx vy Q Q' s rx ry hq hd => by
  obtain ⟨xs, rfl, rfl, q⟩ := hd
  obtain ⟨p, vs, rfl, h1, h2⟩ := rx
  obtain ⟨q', ws, rfl, h3, h4⟩ := ry
  cases h4
  refine ⟨p, q', vs, rfl, rfl, SqL.of (s _ _ h1), SqL.of (s _ _ h3), ?_⟩
  have e : vs.isEmpty = xs.isEmpty := by
    have := h2.length
    cases vs <;> cases xs <;> simp_all
  rw [e]
  exact hq (.bool _) _ rfl q
theorem dp_neE {a b : Expr} {pos : Pos} {da db : DT} (hu : X.A.units + 64 < cLine) (ha : DE X a da) (hb : DE X b db) : DP X (.Compare a [.NotEq] [b] pos) (dTest (dOp (oEqE true) da db)) := dp_cmp (op_neE hu) sr_eqE ha hb (nomark _)
end
end DL
namespace DL
open PySem PySem.Spec PyProof.Rows L2
/-! defs that give a list that nobody else has -/
abbrev DTL := Option Dk → Sg → Nat → (List D → Nat → Prop) → Prop
def NewL (K : PySem.W.Frag) (g : Option Dk) (H Hs : Hp) (Q : VK) (Q' : List D → Nat → Prop) : Prop := ∀ xs f' p us H' Hs', Stp g H Hs H' Hs' → DkOk g H' Hs' f' → H p = none → Hs' p = none → H' p = some (.lst us) → RpA K Hs' xs us → Q' xs f' → Q (.ref p) H'
section
variable {X : Cx} {K : PySem.W.Frag} {W : WX}
/-! bodies that end in such a list -/
def sOfL (K : PySem.W.Frag) (dl : DTL) : TS := fun D st H => ∃ g H0 Hs0 r f E, SOk K g H0 Hs0 r f st H ∧ NewL K g H0 Hs0 D.rt E ∧ dl g r f E
structure DSsL (X : Cx) (sts : List Stmt) (dl : DTL) : Prop where
  ps : PSs X sts (sOfL X.K dl)
theorem DSsL.mk' {sts : List Stmt} {t : TS} {dl : DTL} (p : PSs X sts t) (s : ∀ D st H g H0 Hs0 r f E, SOk X.K g H0 Hs0 r f st H → NewL X.K g H0 Hs0 D.rt E → dl g r f E → t D st H) : DSsL X sts dl :=
  ⟨⟨fun pins sh st H D I ⟨g, H0, Hs0, r, f, E, h1, h2, h3⟩ => p.run pins sh st H D I (s D st H g H0 Hs0 r f E h1 h2 h3)⟩⟩
/-! the same for a pair, its second part such a list -/
abbrev DTP := Option Dk → Sg → Nat → (D → List D → Nat → Prop) → Prop
def NewP (K : PySem.W.Frag) (g : Option Dk) (H Hs : Hp) (Q : VK) (Q' : D → List D → Nat → Prop) : Prop := ∀ d xs f' t v p us H' Hs', Stp g H Hs H' Hs' → DkOk g H' Hs' f' → H p = none → Hs' p = none → H' p = some (.lst us) → H' t = some (.tup [v, .ref p]) → Rp K Hs' d v → RpA K Hs' xs us → Q' d xs f' → Q (.ref t) H'
def sOfP (K : PySem.W.Frag) (dl : DTP) : TS := fun D st H => ∃ g H0 Hs0 r f E, SOk K g H0 Hs0 r f st H ∧ NewP K g H0 Hs0 D.rt E ∧ dl g r f E
structure DSsP (X : Cx) (sts : List Stmt) (dl : DTP) : Prop where
  ps : PSs X sts (sOfP X.K dl)
theorem DSsP.mk' {sts : List Stmt} {t : TS} {dl : DTP} (p : PSs X sts t) (s : ∀ D st H g H0 Hs0 r f E, SOk X.K g H0 Hs0 r f st H → NewP X.K g H0 Hs0 D.rt E → dl g r f E → t D st H) : DSsP X sts dl :=
  ⟨⟨fun pins sh st H D I ⟨g, H0, Hs0, r, f, E, h1, h2, h3⟩ => p.run pins sh st H D I (s D st H g H0 Hs0 r f E h1 h2 h3)⟩⟩
end
end DL
namespace DL
open PySem PySem.Spec PyProof.Rows L2
/-! C(..), whose __init__ may raise -/
section
variable {X : Cx} {CX : CXT} {k : Nat} {f C : Addr} {fd : FuncData} {ps : List Str} {sp : Sp} {E : L2.St → XK} {x : Str} {p pos : Pos} {e : Expr} {es : List Expr} {t : TA}
theorem run_makeS {pins : List (Addr × Obj)} {σ : L2.St} {H : Hp} {s : Shared} {Q : VK} {us : List Value} {vs : List V} (M : Mk X.K C f) (F : FnOk X.prog X.w X.K X.mg X.base CX k f fd ps sp) (hr : Room (k + 1) X.A) (hb : Binds X.K fd ps [])
    (hx : PassesAt CX X σ (E σ)) (I : Inv X pins σ H s) (r : Vals vs us)
    (h : ∀ x dx, H x = none → H dx = none → dx ≠ x → sp (.ref x :: vs) (upd (upd H dx (.own x)) x (.ins C dx [])) (fun v H2 => v = .non ∧ Q (.ref x) H2) (E σ)) :
    wpAny (model X.prog X.w) X.A (call (.ref C) us) (EP X pins σ Q) X.xe s := by
  have hq := h (s.heap.objs.size + 1) s.heap.objs.size (I.hok.fresh (Nat.le_succ _)) (I.hok.fresh (Nat.le_refl _)) (Nat.ne_of_lt (Nat.lt_succ_self _))
  have I2 := Inv.made (C := C) I
  have r2 : Vals (V.ref (s.heap.objs.size + 1) :: vs) (Value.ref (s.heap.objs.size + 1) :: us) := .cons rfl r
  have hl : (Value.ref (s.heap.objs.size + 1) :: us).length = ps.length := by
    have e := r2.length
    rw [F.len _ _ _ _ hq] at e
    exact e.symm
  have b := hb _ (Value.ref (s.heap.objs.size + 1) :: us) I2.kIn (by rw [List.append_nil]; exact hl)
  rw [List.append_nil] at b
  refine wpAny_call (make_map (f := f) I.kIn M.makes M.init (beq_iff_eq.mp M.fn) (codeAny_mono (F.run _ X.stack _ _ ⟨Value.ref (s.heap.objs.size + 1) :: us, []⟩ (Value.ref (s.heap.objs.size + 1) :: us) _ _ (E σ) (hr.make C us [])
    (I2.env0.make C us []) b r2 hq) fun r s' hq' => ?_))
  cases r with
  | error e => exact hx pins _ _ e s' I2 hq'
  | ok fl =>
    cases fl with
    | ret u =>
      obtain ⟨v, H', I3, rv, ev, q3⟩ := I2.after hq'
      subst ev
      exact ⟨rv, ⟨V.ref (s.heap.objs.size + 1), H', I3, rfl, q3⟩⟩
    | next => exact False.elim hq'
    | brk => exact False.elim hq'
    | cont => exact False.elim hq'
def tMakeS (C : Addr) (sp : Sp) (E : L2.St → XK) (t : TA) : TE := fun σ H Q => t σ H fun vs H1 => ∀ x dx, H1 x = none → H1 dx = none → dx ≠ x →
  sp (.ref x :: vs) (upd (upd H1 dx (.own x)) x (.ins C dx [])) (fun v H2 => v = .non ∧ Q (.ref x) H2) (E σ)
end
section
variable {X : Cx} {K : PySem.W.Frag} {W : WX}
def spInitX (K : PySem.W.Frag) (c : Str) (S : DSpX) : Sp := fun vs H Q E => ∃ (C x dx : Addr) (us : List V) (H1 : Hp) (g : Option Dk) (Hs : Hp) (ds : List D) (f : Nat) (Q' : QD) (E' : XD), PySem.W.nsIn K mainGlobals c = some (some (.ref C)) ∧ vs = .ref x :: us ∧
  H = upd (upd H1 dx (.own x)) x (.ins C dx []) ∧ H1 x = none ∧ H1 dx = none ∧ dx ≠ x ∧ Same Hs H1 ∧ DkOk g H1 Hs f ∧ RpA K Hs ds us ∧ S g ds f Q' E' ∧
  (∀ d f' H' Hs', Stp g H1 Hs H' Hs' → DkOk g H' Hs' f' → Rp K Hs' d (.ref x) → Q' d f' → Q .non H') ∧
  ∀ x f' cls d H' Hs', Stp g H1 Hs H' Hs' → DkOk g H' Hs' f' → ExR K H' Hs' x cls d → E' x f' → E cls d H'
structure MkrX (P : Program) (w : World) (K : PySem.W.Frag) (mg : Str → Option Value) (base : Heap) (k : Nat) (c : Str) (ps : List Str) (S : DSpX) : Prop where
  ex : ∃ C f fd, Mk K C f ∧ FnOk P w K mg base (L2.CX P w) k f fd ps (spInitX K c S) ∧ Binds K fd ps [] ∧ PySem.W.nsIn K mainGlobals c = some (some (.ref C)) ∧ mg c = some (.ref C)
theorem snd_makeX {c : Str} {C : Addr} {S : DSpX} {t : TA} {d : DTA} (h0 : PySem.W.nsIn K mainGlobals c = some (some (.ref C))) (ht : SndA K t d) : SndX K W (tMakeS C (spInitX K c S) (WE W) t) (dCallX S d) := fun g ro f st H Hs Q Q' E' A hq he hd =>
  ht g ro f st H Hs _ _ A (fun ds f1 vs H1 Hs1 s1 k1 r1 q1 => fun x dx hx hdx hne =>
    ⟨C, x, dx, vs, H1, g, Hs1, ds, f1, Q', E', h0, rfl, rfl, hx, hdx, hne, s1.sub, k1, r1, q1, fun d f' H' Hs' s2 k2 r2 q2 => ⟨rfl, hq d f' (.ref x) H' Hs' (s1.trans s2) k2 r2 q2⟩,
      fun x f' cls d H' Hs' s2 k2 r2 q2 => he x f' cls d H' Hs' (s1.trans s2) k2 r2 q2⟩) hd
end
section
variable {P : Program} {w : World} {K : PySem.W.Frag} {mg : Str → Option Value} {base : Heap}
theorem dinitX {x qual c : Str} {st : Stmt} {f : Addr} {fd : FuncData} {nm : Str} {N ps : List Str} {k : Nat} {S : DSpX} {dl : DTS} (F : Fun K x qual st f fd) (sc : FnScope (nm :: N) (nm :: ps) (defScope st)) (len : ∀ g ds n Q E, S g ds n Q E → ds.length = ps.length)
    (hb : ∀ (cdv : Value) (A : Around) (outer : List Env) (s : Shared) (H : Hp) (E : XK), Room k (A.deeper (envOfC qual (defScope st) s.heap.objs.size f cdv)) → DSs (cxOf (L2.CX P w) P w K mg base (nm :: N) qual (defScope st) f cdv A outer s H E) (defBody st) dl)
    (h : ∀ a g ds n Q E, S g ds n Q E → dl g (startI N.length a c ds) n { nx := fun r n => ∃ ns xs, r[0]? = some (.oi a c ns xs) ∧ Q (.obj c ns xs) n, rt := fun _ _ => False, xc := fun x _ n => E x n }) : FnOk P w K mg base (L2.CX P w) (k + 1) f fd (nm :: ps) (spInitX K c S) := by
  obtain ⟨oc, od, kV, doc, pm, an, cdv, ct, osl, rfl, lk, hcd⟩ := F.ex
  refine fn_of lk hcd sc (fun vs H Q E h => ?_) fun A outer s H vs Q E hr hsp => ?_
  · obtain ⟨C, x, dx, us, H1, g, Hs, ds, n, Q', E', h0, rfl, _, _, _, _, h1, h2, h3, h4, _⟩ := h
    show us.length + 1 = ps.length + 1
    rw [← h3.length, len g ds n Q' E' h4]
  · obtain ⟨C, x, dx, us, H1, g, Hs, ds, n, Q', E', h0, rfl, rfl, hx, hdx, hne, h1, h2, h3, h4, h5, h6⟩ := hsp
    have D := hb cdv A outer s (upd (upd H1 dx (.own x)) x (.ins C dx [])) E hr
    refine ⟨_, D.ps, ?_⟩
    have l1 : Stp g H1 Hs (upd H1 dx (.own x)) Hs := Stp.lay h1 hdx
    have hx1 : upd H1 dx (.own x) x = none := by rw [upd_ne fun z => hne z.symm]; exact hx
    have l2 : Stp g H1 Hs (upd (upd H1 dx (.own x)) x (.ins C dx [])) Hs := l1.trans (Stp.lay l1.sub hx1)
    have nx' := h2.out hx
    have ndx := h2.out hdx
    have hsx : Hs x = none := same_none h1 hx
    have hsdx : Hs dx = none := same_none h1 hdx
    have S0 : SIn K g H1 Hs (startR N.length ds) n (L2.start N us) H1 Hs := start_in h1 h2 h3
    have no : ∀ (i : Nat) (s : Sl), (startR N.length ds)[i]? = some s → s.own = false := fun i s h => by
      have := List.mem_of_getElem? h
      unfold startR at this
      rcases List.mem_append.mp this with h | h
      · obtain ⟨d, _, rfl⟩ := List.mem_map.mp h
        rfl
      · rw [(List.mem_replicate.mp h).2]
        rfl
    have st0 : L2.start (nm :: N) (.ref x :: us) = some (.ref x) :: L2.start N us := by
      unfold L2.start
      simp
    have SI : SIn K g H1 Hs (startI N.length x c ds) n (L2.start (nm :: N) (.ref x :: us)) (upd (upd H1 dx (.own x)) x (.ins C dx [])) Hs := by
      rw [st0]
      refine ⟨by show (startR N.length ds).length + 1 = (L2.start N us).length + 1; rw [S0.len], ⟨n, h2⟩, (h2.mut ndx).mut nx', l2, fun i d hi => ?_, fun i sl hi ho => ?_, fun i j sl u b hi hj ho ho' h1' h2' => ?_⟩
      · cases i with
        | zero => cases hi
        | succ i => exact S0.sh i d hi
      · cases i with
        | zero =>
          cases hi
          exact ⟨x, rfl, hsx, hx, rfl, C, dx, [], h0, upd_same, by rw [upd_ne hne, upd_same], hsdx, hdx, rfl, rfl⟩
        | succ i => rw [no i sl hi] at ho; cases ho
      · cases i with
        | zero =>
          cases j with
          | zero => rfl
          | succ j => rw [no j u hj] at ho'; cases ho'
        | succ i => rw [no i sl hi] at ho; cases ho
    refine D.sn g H1 Hs _ n _ _ _ { nx := fun r n => ∃ ns xs, r[0]? = some (.oi x c ns xs) ∧ Q' (.obj c ns xs) n, rt := fun _ _ => False, xc := fun x _ n => E' x n } ⟨Hs, SI⟩ ⟨fun r f st H' q h => ?_, fun d f v H' Hs' p k hr h => h.elim, fun _ _ _ _ _ h => h, fun _ _ _ _ _ h => h, fun x r f st H' cls d q h => ?_⟩ (h x g ds n Q' E' h4)
    · obtain ⟨Hs', q⟩ := q
      obtain ⟨ns, xs, e, h⟩ := h
      obtain ⟨Hs2, p, kk, rr⟩ := q.shareO e
      exact h5 _ f H' Hs2 p kk rr h
    · obtain ⟨Hs', q, hx⟩ := q
      exact wx_of (takes_of (E := E) rfl rfl rfl rfl) (h6 x f cls d H' Hs' q.stp q.dk hx h)
end
/-! isinstance of an error of the text, or of None, with a class of the language -/
/-! == where two empty dicts may meet -/
section
variable {X : Cx} {K : PySem.W.Frag}
def rEqDc : R2 := fun x y H Q => ∃ a b kvs, x = .ref a ∧ y = .ref b ∧ H a = some (.dK kvs) ∧ H b = some (.dK kvs) ∧ (kvs.map (·.1)).Nodup ∧ (∀ p ∈ kvs, flatB p.2 = true) ∧ Q (.bl true) H
theorem sr_eqDc : SndR K rEqDc (fun x y Q => x = .dct [] [] ∧ y = .dct [] [] ∧ Q (.bool true)) := SndR.pure fun H Hs x y vx vy Q Q' s rx ry hq hd => by
  obtain ⟨rfl, rfl, q⟩ := hd
  obtain ⟨a, vs, rfl, h1, h2, h3⟩ := rx
  obtain ⟨b, ws, rfl, h4, h5, h6⟩ := ry
  exact ⟨a, b, [], rfl, rfl, s _ _ h1, s _ _ h4, List.nodup_nil, fun p hp => (nomatch hp), hq (.bool true) _ rfl q⟩
def oEqZ : O2 := fun x y Q => (x = .dct [] [] ∧ y = .dct [] [] ∧ Q (.bool true)) ∨ oEq false x y Q
theorem sr_eqZ : SndR K (fun x y H Q => rEqDc x y H Q ∨ rEqA K x y H Q) oEqZ := (sr_eqDc.or sr_eq).weak fun x y Q h => h
theorem dp_eqZ {a b : Expr} {pos : Pos} {da db : DT} (hu : X.A.units + 64 < cLine) (ha : DE X a da) (hb : DE X b db) : DP X (.Compare a [.Eq] [b] pos) (dTest (dOp oEqZ da db)) := dp_cmp ((L2.op_eq_dict (by omega)).or (op_eq.or (op_eqD hu))) sr_eqZ ha hb (nomark _)
end
end DL
namespace DL
open PySem PySem.Spec PyProof.Rows L2
/-! a list of lists of texts in the making -/
structure LLs (H0 : Hp) (D : Addr) (ps : List Addr) (rows : List (List Str)) (H2 : Hp) : Prop where
  d0 : H0 D = none
  len : rows.length = ps.length
  dl : H2 D = some (.lst (ps.map V.ref))
  p0 : ∀ p ∈ ps, H0 p = none ∧ p ≠ D
  at_ : ∀ (i : Nat) (r : List Str) (p : Addr), rows[i]? = some r → ps[i]? = some p → H2 p = some (.lst (r.map V.str))
  nd : ps.Nodup
/-- with the shared part beside it -/
structure LLi (g : Option Dk) (H0 Hs0 : Hp) (D : Addr) (ps : List Addr) (rows : List (List Str)) (f : Nat) (H Hs : Hp) : Prop where
  l : LLs H0 D ps rows H
  stp : Stp g H0 Hs0 H Hs
  dk : DkOk g H Hs f
  out : ∀ b, b = D ∨ b ∈ ps → Hs b = none ∧ ¬ Dk.has g b
open Classical in
noncomputable def del (Hs : Hp) (D : Addr) (ps : List Addr) : Hp := fun b => if b = D ∨ b ∈ ps then none else Hs b
section
variable {K : PySem.W.Frag} {g : Option Dk} {H0 Hs0 : Hp} {D : Addr} {ps : List Addr} {rows : List (List Str)} {f f' : Nat} {H Hs H' Hs' : Hp}
theorem shr_in {b : Addr} (h : b = D ∨ b ∈ ps) : shr H Hs D ps b = H b := if_pos h
theorem shr_out {b : Addr} (h : ¬ (b = D ∨ b ∈ ps)) : shr H Hs D ps b = Hs b := if_neg h
theorem del_in {b : Addr} (h : b = D ∨ b ∈ ps) : del Hs D ps b = none := if_pos h
theorem del_out {b : Addr} (h : ¬ (b = D ∨ b ∈ ps)) : del Hs D ps b = Hs b := if_neg h
theorem LLs.n0 (h : LLs H0 D ps rows H) {b : Addr} (hb : b = D ∨ b ∈ ps) : H0 b = none := hb.elim (fun e => e ▸ h.d0) fun e => (h.p0 b e).1
theorem LLi.sub (h : LLi g H0 Hs0 D ps rows f H Hs) : Same (shr H Hs D ps) H := fun b o e => by
  by_cases hb : b = D ∨ b ∈ ps
  · rw [shr_in hb] at e; exact e
  · rw [shr_out hb] at e; exact h.stp.sub b o e
theorem LLi.ext (h : LLi g H0 Hs0 D ps rows f H Hs) : Same Hs (shr H Hs D ps) := fun b o e => by
  have hb : ¬ (b = D ∨ b ∈ ps) := fun hb => by rw [(h.out b hb).1] at e; cases e
  rw [shr_out hb]; exact e
theorem LLi.sh (h : LLi g H0 Hs0 D ps rows f H Hs) : Stp g H0 Hs0 H (shr H Hs D ps) where
  sub := h.sub
  ext := h.stp.ext.trans h.ext
  keep := h.stp.keep
  there := h.stp.there
  new := fun b o e n => by
    have hb : ¬ (b = D ∨ b ∈ ps) := fun hb => by rw [h.l.n0 hb] at e; cases e
    rw [shr_out hb]; exact h.stp.new b o e n
/-- after an expression that saw it -/
theorem LLi.un (h : LLi g H0 Hs0 D ps rows f H Hs) (s0 : Same Hs0 H0) (s : Stp g H (shr H Hs D ps) H' Hs') (k : DkOk g H' Hs' f') : LLi g H0 Hs0 D ps rows f' H' (del Hs' D ps) ∧ Same Hs (del Hs' D ps) := by
  have st := h.sh.trans s
  have kp : ∀ b, b = D ∨ b ∈ ps → ∀ o, H b = some o → H' b = some o := fun b hb o e => s.keep b o e (h.out b hb).2
  refine ⟨⟨⟨h.l.d0, h.l.len, kp D (.inl rfl) _ h.l.dl, h.l.p0, fun i r p a b => kp p (.inr (List.mem_of_getElem? b)) _ (h.l.at_ i r p a b), h.l.nd⟩, ⟨fun b o e => ?_, fun b o e => ?_, st.keep, st.there, fun b o e n => ?_⟩, ?_, fun b hb => ⟨del_in hb, (h.out b hb).2⟩⟩, fun b o e => ?_⟩
  · by_cases hb : b = D ∨ b ∈ ps
    · rw [del_in hb] at e; cases e
    · rw [del_out hb] at e; exact st.sub b o e
  · have hb : ¬ (b = D ∨ b ∈ ps) := fun hb => by have := s0 b o e; rw [h.l.n0 hb] at this; cases this
    rw [del_out hb]; exact st.ext b o e
  · by_cases hb : b = D ∨ b ∈ ps
    · exact del_in hb
    · rw [del_out hb]; exact st.new b o e n
  · cases g with
    | none => trivial
    | some d =>
      obtain ⟨q0, q1, q2, q3⟩ := k
      have nn : ∀ b, Hs' b = none → del Hs' D ps b = none := fun b e => by
        by_cases hb : b = D ∨ b ∈ ps
        · exact del_in hb
        · rw [del_out hb]; exact e
      exact ⟨q0, nn _ q1, nn _ q2, nn _ q3⟩
  · have hb : ¬ (b = D ∨ b ∈ ps) := fun hb => by rw [(h.out b hb).1] at e; cases e
    rw [del_out hb]
    exact s.ext b o (h.ext b o e)
theorem LLi.step (h : LLi g H0 Hs0 D ps rows f H Hs) (s : Stp g H Hs H' Hs') (k : DkOk g H' Hs' f') : LLi g H0 Hs0 D ps rows f' H' Hs' := by
  have kp : ∀ b, b = D ∨ b ∈ ps → ∀ o, H b = some o → H' b = some o := fun b hb o e => s.keep b o e (h.out b hb).2
  have ex : ∀ b, b = D ∨ b ∈ ps → ∃ o, H b = some o := fun b hb => by
    rcases hb with rfl | hb
    · exact ⟨_, h.l.dl⟩
    · obtain ⟨i, hi, e⟩ := List.getElem_of_mem hb
      have hr : i < rows.length := by rw [h.l.len]; exact hi
      exact ⟨_, h.l.at_ i rows[i] b (List.getElem?_eq_getElem hr) (by rw [List.getElem?_eq_getElem hi, e])⟩
  refine ⟨⟨h.l.d0, h.l.len, kp D (.inl rfl) _ h.l.dl, h.l.p0, fun i r p a b => kp p (.inr (List.mem_of_getElem? b)) _ (h.l.at_ i r p a b), h.l.nd⟩, h.stp.trans s, k, fun b hb => ?_⟩
  obtain ⟨o, e⟩ := ex b hb
  exact ⟨s.new b o e (h.out b hb).1, (h.out b hb).2⟩
theorem LLi.start {f0 : Nat} (s0 : Same Hs0 H0) (k0 : DkOk g H0 Hs0 f0) {H Hs : Hp} (st : Stp g H0 Hs0 H Hs) (k : DkOk g H Hs f) {p D : Addr} {x : Str} (hp : H p = none) (hD : upd H p (.lst [V.str x]) D = none) :
    LLi g H0 Hs0 D [p] [[x]] f (upd (upd H p (.lst [V.str x])) D (.lst [V.ref p])) Hs := by
  have pD : p ≠ D := fun e => by subst e; rw [upd_same] at hD; cases hD
  have hD' : H D = none := by rwa [upd_ne (fun e => pD e.symm)] at hD
  have p0 := none_back st hp
  have d0 := none_back st hD'
  have h1 : (upd (upd H p (.lst [V.str x])) D (.lst [V.ref p])) p = some (.lst [V.str x]) := by rw [upd_ne pD, upd_same]
  refine ⟨⟨d0, rfl, upd_same, fun q hq => ?_, fun i r q a b => ?_, by simp⟩, (st.mut p0 (same_none st.sub hp)).mut d0 (same_none st.sub hD'), (k.mut (k0.out p0)).mut (k0.out d0), fun b hb => ?_⟩
  · rw [List.mem_singleton.mp hq]; exact ⟨p0, pD⟩
  · cases i with
    | zero => cases a; cases b; exact h1
    | succ i => simp at a
  · rcases hb with rfl | hb
    · exact ⟨same_none st.sub hD', k0.out d0⟩
    · rw [List.mem_singleton.mp hb]; exact ⟨same_none st.sub hp, k0.out p0⟩
end
theorem nxt {g : Option Dk} {r : Sg} {f : Nat} {E : DEnds} (h : E.nx r f) : sNext g r f E := h
section
variable {K : PySem.W.Frag} {Hs : Hp}
theorem SlOk.nil : SlOk K Hs [] [] := ⟨rfl, fun i s d h => by simp at h⟩
theorem SlOk.sh {r : Sg} {st : L2.St} {d : D} {v : V} (hv : Rp K Hs d v) (h : SlOk K Hs r st) : SlOk K Hs (.sh d :: r) (some v :: st) :=
  ⟨by rw [List.length_cons, List.length_cons, h.len], fun i s e h1 h2 => by
    cases i with
    | zero => cases h1; cases h2; exact ⟨v, rfl, hv⟩
    | succ i => exact h.get i s e (by simpa using h1) h2⟩
theorem SlOk.no {r : Sg} {st : L2.St} {o : Option V} (h : SlOk K Hs r st) : SlOk K Hs (.no :: r) (o :: st) :=
  ⟨by rw [List.length_cons, List.length_cons, h.len], fun i s e h1 h2 => by
    cases i with
    | zero => cases h1; cases h2
    | succ i => exact h.get i s e (by simpa using h1) h2⟩
end
end DL
namespace DL
open PySem PySem.Spec PyProof.Rows L2
/-! the top by one run: what is looked at, as truth values over a part of the heap -/
abbrev FrB : Type := PySem.W.Frag → Bool
abbrev AlY : Type := He.AlD × List (Option (List (Option (Str × Int))))
def obsY (ex : List FrB) (fn : List He5.DefA) (ts : List He.Tab) (K : PySem.W.Frag) : AlY :=
  (((ex.all fun f => f K) && fn.all fun d => d.ok K, fn.map fun d => He5.fnA K (d.at_ K)), ts.map fun t => He.dicW K (t.1 K))
def valY (fn : List He5.DefA) (ts : List He.Tab) (w : World) : AlY := ((true, fn.map He5.DefA.val), ts.map fun t => some (He.keysIn w.params t.2))
def SaysY (ex : List FrB) (fn : List He5.DefA) (ts : List He.Tab) (w : World) (K : PySem.W.Frag) : Prop := obsY ex fn ts K = valY fn ts w
/-! what the main names reach in n steps, each address once; the seen ones are the bits of a number -/
noncomputable def putY {β : Type} (l : List Addr) : Nat → List Addr → (Nat → List Addr → β) → β :=
  List.rec (motive := fun _ => Nat → List Addr → (Nat → List Addr → β) → β) (fun m acc k => k m acc)
    (fun a _ ih m acc k => HandSHeadRun.frNat a fun a => Bool.rec (motive := fun _ => β) (HandSHeadRun.frNat (Nat.lor m (Nat.shiftLeft 1 a)) fun m => ih m (a :: acc) k) (ih m acc k) (Nat.beq (Nat.land (Nat.shiftRight m a) 1) 1)) l
noncomputable def growY {β : Type} (g : Addr → Option Obj) (l : List Addr) : Nat → List Addr → (Nat → List Addr → β) → β :=
  List.rec (motive := fun _ => Nat → List Addr → (Nat → List Addr → β) → β) (fun m acc k => k m acc)
    (fun a _ ih m acc k => Option.rec (motive := fun _ => β) (ih m acc k) (fun o => putY (He.refsD o) m acc fun m acc => ih m acc k) (g a)) l
noncomputable def asY (g : Addr → Option Obj) (n : Nat) : List Addr → Nat → List Addr :=
  Nat.rec (motive := fun _ => List Addr → Nat → List Addr) (fun fr _ => fr) (fun _ ih fr m => fr ++ growY g fr m [] fun m new => ih new m) n
noncomputable def obsYG (n : Nat) (ex : List FrB) (fn : List He5.DefA) (ts : List He.Tab) (g : Addr → Option Obj) : AlY := obsY ex fn ts (He.frG g (asY g n [mainGlobals] 0 ++ [cStatics]))
noncomputable def hookY (n : Nat) (ex : List FrB) (fn : List He5.DefA) (ts : List He.Tab) : PySem.W.Hook where
  α := AlY
  obs := fun s => obsYG n ex fn ts s.heap.get?
  val := fun w => valY fn ts w
  says := fun w h => ∃ K : PySem.W.Frag, K.In h ∧ SaysY ex fn ts w K
  of := fun _ _ e => ⟨_, He.frG_in, e⟩
  keeps := fun _ _ _ ⟨K, hK, c⟩ k => ⟨K, PySem.W.Frag.In.keeps hK k, c⟩
theorem obsYG_eq {n : Nat} {ex : List FrB} {fn : List He5.DefA} {ts : List He.Tab} {g : Addr → Option Obj} {s : Shared} (h : ∀ a, g a = s.heap.get? a) : obsYG n ex fn ts g = (hookY n ex fn ts).obs s := by
  have e : g = s.heap.get? := funext h
  rw [e] <;> rfl
section
variable {ex : List FrB} {fn : List He5.DefA} {ts : List He.Tab} {w : World} {K : PySem.W.Frag}
theorem SaysY.fact (c : SaysY ex fn ts w K) (i : Nat) {f : FrB} (h : ex[i]? = some f := by rfl) : f K = true := by
  have c1 : ((ex.all fun f => f K) && fn.all fun d => d.ok K) = true := congrArg (fun z : AlY => z.1.1) c
  rw [Bool.and_eq_true] at c1
  exact List.all_eq_true.mp c1.1 f (List.mem_of_getElem? h)
theorem SaysY.def_ (c : SaysY ex fn ts w K) (i : Nat) {d : He5.DefA} (h : fn[i]? = some d := by rfl) : ∃ fd, FunD K d.name d.qual d.params d.body d.scope (d.dvs K) (d.kws K) (d.at_ K) fd := by
  have c1 : ((ex.all fun f => f K) && fn.all fun d => d.ok K) = true := congrArg (fun z : AlY => z.1.1) c
  rw [Bool.and_eq_true] at c1
  have e : fn.map (fun d => He5.fnA K (d.at_ K)) = fn.map He5.DefA.val := congrArg (fun z : AlY => z.1.2) c
  have e2 : (fn.map fun d => He5.fnA K (d.at_ K))[i]? = (fn.map He5.DefA.val)[i]? := by rw [e]
  rw [List.getElem?_map, List.getElem?_map, h] at e2
  exact He5.DefA.funD (Option.some.inj e2) (List.all_eq_true.mp c1.2 d (List.mem_of_getElem? h))
/-! what stands in the records -/
theorem raw_fn {x q : Str} {st : Stmt} {f : Addr} {fd : FuncData} {kws : List (Str × V)} (F : FunD K x q (defArgs st) (defBody st) (defScope st) [] kws f fd) :
    ∃ (oc : Value) (od : Option Addr) (kV dc pm : Value) (an : Option Addr) (cd ct : Value) (sl : Array (Option Value)), K.lookup f = some ⟨oc, od, .func (PySem.W.fnOf x q (defArgs st) (defBody st) (defScope st) .none kV dc pm an cd ct), sl⟩ ∧ PySem.W.codeIn K cd q = true ∧ PySem.W.keepIn K (.ref f) = true := by
  obtain ⟨oc, od, dV, kV, doc, pm, an, cdv, ct, osl, e, l, c, hd, _⟩ := F.ex
  rcases hd with ⟨_, e2⟩ | ⟨e2, _⟩
  · subst e2
    subst e
    exact ⟨oc, od, kV, doc, pm, an, cdv, ct, osl, l, c, F.kp⟩
  · exact absurd rfl e2
/-- the address, and the rest, of a record that wraps -/
def rcA (K : PySem.W.Frag) (p : Addr) (T : String) : Addr := match PySem.W.recIn K p T with
  | some (.ref a :: _) => a
  | _ => 0
def rcR (K : PySem.W.Frag) (p : Addr) (T : String) : List Value := match PySem.W.recIn K p T with
  | some (_ :: r) => r
  | _ => []
def tkOf (K : PySem.W.Frag) (x : Str) : Tok := match PySem.W.nsIn K mainGlobals x with
  | some (some (.int _ t)) => t
  | some (some (.str _ t)) => t
  | _ => default
/-- a class of errors with an __init__ of its own -/
def oexB (K : PySem.W.Frag) (C : Addr) : Bool := match K.lookup C with
  | some ⟨.type c, _, .cls cd, sl⟩ => decide (c = "type") && (cd.hasDict && (!cd.hasDel && (match cd.mro, sl.toList with
    | .ref C' :: bm, [_, _, _, _, some (.builtin n), _] => decide (C' = C) && (decide (n = "ValueError.__new__") && PySem.HandSPX.refsVE bm)
    | _, _ => false)))
  | _ => false
theorem oex_of {C : Addr} (h : oexB K C = true) : ∃ nm q N bs bm sn sub ab col dd k0 k1 k2 k3 k5, K.lookup C = some (excClassObj nm q C N bs bm true sn sub ab col dd k0 k1 k2 k3 k5 "ValueError.__new__") ∧ PySem.HandSPX.refsVE bm = true := by
  unfold oexB at h
  split at h
  · next c dd cd sl ho =>
    rw [Bool.and_eq_true, Bool.and_eq_true, Bool.and_eq_true, decide_eq_true_iff, Bool.not_eq_true'] at h
    obtain ⟨rfl, h2, h3, h⟩ := h
    split at h
    · next C' bm k0 k1 k2 k3 n k5 hm hs =>
      rw [Bool.and_eq_true, Bool.and_eq_true, decide_eq_true_iff, decide_eq_true_iff] at h
      obtain ⟨rfl, rfl, h4⟩ := h
      obtain ⟨nm, bs, mro, ns, qn, hd, sn, sub, ab, col, del⟩ := cd
      dsimp only at hm h2 h3
      subst hm h2 h3
      obtain ⟨l⟩ := sl
      simp only at hs
      subst hs
      exact ⟨nm, qn, ns, bs, bm, sn, sub, ab, col, dd, k0, k1, k2, k3, k5, ho, h4⟩
    · cases h
  · cases h
/-! dicts of the text -/
end
theorem walk_ofYG {l : PySem.W.OpenLaw} {k : Nat} {q : Program} {loose : List Str} {XP : (Str → Option Value) → Heap → Prop} {ex : List FrB} {fn : List He5.DefA} {ts : List He.Tab} {d : DefRec} {x : Str}
    (hn : l.most = some 63) (hdf : d.params.defaults = []) (hr : Room k callerA)
    (F : ∀ (w : World) (mg : Str → Option Value) (fa : Addr) (h : Heap) (K : PySem.W.Frag), K.In h → SaysY ex fn ts w K → h.Ns mainGlobals mg → mg d.name = some (.ref fa) →
      ∃ fd : FuncData, (∀ (s : Shared) (u : Value), BindsTo s fd ⟨[u], []⟩ [(x, u)]) ∧ ∀ base : Heap, K.In base → base.Ns mainGlobals mg → FnG l.prog w K mg base k fa fd [x] (spLaw K)) :
    PySem.W.WalkO q loose XP (fun w h => ∃ K : PySem.W.Frag, K.In h ∧ SaysY ex fn ts w K) l.row.toRowW d [] (fun f vs => PySem.call f vs) :=
  Att.attach_call hn hdf fun w s₀ s₁ mg mb fa o pm cd doc a vs ns G Y ho hd hcd hmg hobj hints hlen hg => by
    obtain ⟨K, KX, c⟩ := Y
    obtain ⟨fd, hb, hF⟩ := F w mg fa _ K KX c G.T.g hmg
    exact law_callG KX G.T.g G.T.b G.T.builtins G.T.nolimit hg hobj hints hlen hr hF hb
end DL
namespace PySem.SeqAt
open AutoSeq1 (wpAny_loadPart')
open MeetsSeq MeetsSeq2 MeetsSeq3 SeqRoads2
end PySem.SeqAt
namespace DL
open PySem PySem.Spec PyProof.Rows L2
/-! any plain value in a tuple or a list of pairs of texts -/
section
variable {X : Cx} {K : PySem.W.Frag} {pins : List (Addr × Obj)} {st : L2.St} {H Hs : Hp} {s : Shared}
/-- the value is the pair u -/
def IsU (s : Shared) (y : Value) (u : Us) : Prop := ∃ (p : Addr) (ta tb : Tok), y = .ref p ∧ s.heap.IsTuple p #[.str u.1 ta, .str u.2 tb]
theorem isTup_fun {h : Heap} {p : Addr} {a b : Array Value} (h1 : h.IsTuple p a) (h2 : h.IsTuple p b) : a = b := by
  obtain ⟨o, ho, _, n, hd⟩ := h1
  obtain ⟨o2, ho2, _, n2, hd2⟩ := h2
  rw [ho] at ho2
  cases ho2
  rw [hd] at hd2
  cases hd2
  rfl
theorem IsU.uniq {y : Value} {u w : Us} (h1 : IsU s y u) (h2 : IsU s y w) : u = w := by
  obtain ⟨p, ta, tb, rfl, t1⟩ := h1
  obtain ⟨p2, ta2, tb2, e, t2⟩ := h2
  cases e
  have e := isTup_fun t1 t2
  have e := congrArg Array.toList e
  simp only [List.cons.injEq, Value.str.injEq] at e
  exact Prod.ext e.1.1 e.2.1.1
end
end DL
namespace DL
open PySem PySem.Spec PyProof.Rows L2
/-! list(zip(a, b)) of two lists -/
section
variable {prog : Program} {w : World} {A : Around} {E : Value → Shared → Prop} {s : Shared} {R : Result → Shared → Prop} {z ti tz i1 i2 l1 l2 S : Addr} {xs ys : Array Value} {n : Nat}
def ZSt (z ti tz i1 i2 l1 l2 : Addr) (xs ys : Array Value) (h : Heap) (i : Nat) : Prop :=
  (∃ v b, ZpV h z ti tz v b ∧ Mrk v) ∧ IsPair h ti (.ref i1) (.ref i2) ∧ (∃ x y, IsPair h tz x y) ∧ h.IsListIter i1 l1 i ∧ h.IsListIter i2 l2 i ∧ h.IsList l1 xs ∧ h.IsList l2 ys
/-- the pairs that were given out -/
def ZAcc (S : Addr) (xs ys : Array Value) (h : Heap) (acc : Array Value) (i : Nat) : Prop :=
  ∃ Ts : List Addr, acc = (Ts.map Value.ref).toArray ∧ Ts.length = i ∧ Ts.Nodup ∧ ∀ (j : Nat) (T : Addr), Ts[j]? = some T → S < T ∧ ∃ x y : Value, xs[j]? = some x ∧ ys[j]? = some y ∧ IsPair h T x y
theorem isList_keep {h h' : Heap} {a : Addr} {its : Array Value} (hl : h.IsList a its) (k : ∀ o, h.get? a = some o → h'.get? a = some o) : h'.IsList a its := by
  obtain ⟨o, ho, r⟩ := hl
  exact ⟨o, k o ho, r⟩
theorem ZSt.keep {h h' : Heap} {i : Nat} (st : ZSt z ti tz i1 i2 l1 l2 xs ys h i) (k : ∀ b ∈ [z, ti, tz, i1, i2, l1, l2], ∀ o, h.get? b = some o → h'.get? b = some o) : ZSt z ti tz i1 i2 l1 l2 xs ys h' i := by
  obtain ⟨⟨v, b, hz, hm⟩, hti, ⟨x, y, htz⟩, h1, h2, hl1, hl2⟩ := st
  exact ⟨⟨v, b, k z (by simp) _ hz, hm⟩, k ti (by simp) _ hti, ⟨x, y, k tz (by simp) _ htz⟩, h1.at fun o q => k i1 (by simp) o q, h2.at fun o q => k i2 (by simp) o q, isList_keep hl1 fun o q => k l1 (by simp) o q, isList_keep hl2 fun o q => k l2 (by simp) o q⟩
theorem ZAcc.keep {h h' : Heap} {i : Nat} {acc : Array Value} (st : ZAcc S xs ys h acc i) (k : ∀ b, S < b → ∀ o, h.get? b = some o → h'.get? b = some o) : ZAcc S xs ys h' acc i := by
  obtain ⟨Ts, h1, h2, h3, h4⟩ := st
  refine ⟨Ts, h1, h2, h3, fun j T hj => ?_⟩
  obtain ⟨q1, x, y, q2, q3, q4⟩ := h4 j T hj
  exact ⟨q1, x, y, q2, q3, k T q1 _ q4⟩
theorem ZAcc.size {h : Heap} {i : Nat} {acc : Array Value} (st : ZAcc S xs ys h acc i) : acc.size = i := by
  obtain ⟨Ts, h1, h2, _⟩ := st
  rw [h1, List.size_toArray, List.length_map, h2]
end
end DL
namespace DL
open PySem PySem.Spec PyProof.Rows L2
/-! class methods with a star parameter that may raise: C.m(a, b, ..); cls(a, b) whose __init__ may raise -/
def withCX (C : Addr) (S : DSpX) : DSpX := fun g ds f Q E => ∃ xs : List D, ds = [.any (.ref C), .tup xs] ∧ S g [.tup xs] f Q E
def spClsX (K : PySem.W.Frag) (C : Addr) (S : DSpX) : Sp := fun vs H Q E => ∃ ws rest, vs = ws ++ rest ∧ ws.length = 1 ∧ rest.length ≤ sizeLine ∧ ∀ p, H p = Option.none → spX K (withCX C S) (ws ++ [V.ref p]) (upd H p (.tup rest)) Q E
structure CalCX (P : Program) (w : World) (K : PySem.W.Frag) (mg : Str → Option Value) (base : Heap) (k : Nat) (c m : Str) (S : DSpX) : Prop where
  ex : ∃ C mc p g, mg c = some (.ref C) ∧ ClX.CRead K C mc ∧ ClX.CMet K C mc m p g ∧ FnR P w K mg base (L2.CX P w) k g (spClsX K C S)
section
variable {X : Cx} {pins : List (Addr × Obj)} {σ : L2.St} {H : Hp} {s : Shared} {C g p : Addr} {m : Str} {mc : Value} {o e : Expr} {es : List Expr} {ta : TE} {t : TA} {apos pos : Pos} {pl : Sem Bool}
theorem run_cmS {CX : CXT} {k : Nat} {q : Addr} {sp : Sp} {E : L2.St → XK} {Q : VK} {us : List Value} {vs : List V} (F : FnR X.prog X.w X.K X.mg X.base CX k g sp) (hr : Room k X.A) (hx : PassesAt CX X σ (E σ)) (I : Inv X ((q, PySem.W.methodObj (.ref g) (.ref C)) :: pins) σ H s)
    (r : Vals vs us) (h : sp (.ref C :: vs) H Q (E σ)) : wpAny (model X.prog X.w) X.A (call (.ref q) us) (EP X pins σ Q) X.xe s := by
  have z : wpAny (model X.prog X.w) X.A (call (.ref q) us) (EP X ((q, PySem.W.methodObj (.ref g) (.ref C)) :: pins) σ Q) X.xe s := by
    refine wpAny_call (PySem.W.method_call (ClX.pin_at I) (codeAny_mono (F X.A X.stack s H (.ref C :: us) (.ref C :: vs) Q (E σ) hr I.env0 (.cons rfl r) h) fun r s' hq => ?_))
    cases r with
    | error e => exact hx _ H s e s' I hq
    | ok fl =>
      cases fl with
      | ret u => exact I.after hq
      | next => exact False.elim hq
      | brk => exact False.elim hq
      | cont => exact False.elim hq
  exact thn z fun _ _ y => ClX.unpinE y
def tCMethS (C : Addr) (sp : Sp) (E : L2.St → XK) (ta : TE) (t : TA) : TE := fun σ H Q => ta σ H fun x H1 => x = .ref C ∧ t σ H1 fun vs H2 => sp (.ref C :: vs) H2 Q (E σ)
theorem pe_cmethS {CX : CXT} {k : Nat} {sp : Sp} {E : L2.St → XK} (he : PE X o ta) (r : ClX.CRead X.K C mc) (c : ClX.CMet X.K C mc m p g) (F : FnR X.prog X.w X.K X.mg X.base CX k g sp) (hr : Room k X.A) (hx : ∀ σ, PassesAt CX X σ (E σ)) (ha : PA X (e :: es) t)
    (hst : starEach (e :: es) X.env = (false, eval e X.env) :: starEach es X.env := by rfl) (hpl : (backTo pos (starEach es X.env)).any (·.1) = false := by rfl)
    (ht : eval (.Call (.Attribute o m apos) (e :: es) [] pos) X.env = (do
      let ov ← eval o X.env
      standAt apos.atName
      let (f, first) ← holding [ov] (getMethod ov m pl)
      callWith pos f first (backTo pos (starEach (e :: es) X.env)) (backToKw pos (keywordEach [] X.env))) := by rfl) :
    PE X (.Call (.Attribute o m apos) (e :: es) [] pos) (tCMethS C sp E ta t) := by
  refine ⟨fun pins s σ H Q I h => ?_⟩
  refine PySem.W.methodCall_KW (pl := pl) (thn (he.run pins s σ H _ I h) fun u s1 ⟨x, H1, I1, rx, ex, q⟩ => ?_) ht
  subst ex
  obtain rfl : u = Value.ref C := rx
  refine ClX.getmethcm_ok I1 r c fun s2 I2 => ?_
  refine ClX.callwith_cm I2 (ClX.base_none I1 (Nat.le_refl _)) c.fi (thn (ha.run pos _ s2 σ H1 _ I2 q) fun us s3 ⟨vs, H2, I3, rv, q2⟩ => ⟨⟨ClX.pin_at I3, I3.kIn⟩, ?_⟩) hst hpl
  exact run_cmS F hr (hx σ) I3 rv q2
theorem pe_cmethS0 {CX : CXT} {k : Nat} {sp : Sp} {E : L2.St → XK} (he : PE X o ta) (r : ClX.CRead X.K C mc) (c : ClX.CMet X.K C mc m p g) (F : FnR X.prog X.w X.K X.mg X.base CX k g sp) (hr : Room k X.A) (hx : ∀ σ, PassesAt CX X σ (E σ))
    (ht : eval (.Call (.Attribute o m apos) [] [] pos) X.env = (do
      let ov ← eval o X.env
      standAt apos.atName
      let (f, first) ← holding [ov] (getMethod ov m pl)
      callWith pos f first (backTo pos (starEach [] X.env)) (backToKw pos (keywordEach [] X.env))) := by rfl) :
    PE X (.Call (.Attribute o m apos) [] [] pos) (tCMethS C sp E ta tNil) := by
  refine ⟨fun pins s σ H Q I h => ?_⟩
  refine PySem.W.methodCall_KW (pl := pl) (thn (he.run pins s σ H _ I h) fun u s1 ⟨x, H1, I1, rx, ex, q⟩ => ?_) ht
  subst ex
  obtain rfl : u = Value.ref C := rx
  refine ClX.getmethcm_ok I1 r c fun s2 I2 => ?_
  refine PySem.W.callWith_M0 (K := X.K) (first := []) ⟨ClX.pin_at I2, I2.kIn⟩ c.fi ?_
  exact run_cmS (us := []) F hr (hx σ) I2 .nil q
end
section
variable {X : Cx} {K : PySem.W.Frag} {W : WX}
def dCallCMX (S : DSpX) (t : DTA) : DTX := fun g r f Q E => t g r f fun ds f1 => ds.length ≤ lim ∧ S g [.tup ds] f1 Q E
theorem snd_cmX {C : Addr} {S : DSpX} {t : TA} {d : DTA} (ht : SndA K t d) : SndX K W (tCMethS C (spClsX K C S) (WE W) (tC (.ref C)) t) (dCallCMX S d) := fun g ro f st H Hs Q Q' E' A hq he hd => by
  refine ⟨rfl, ?_⟩
  refine ht g ro f st H Hs _ _ A (fun ds f1 vs H1 Hs1 s1 k1 r1 q1 => ?_) hd
  obtain ⟨hl, q1⟩ := q1
  refine ⟨[.ref C], vs, rfl, rfl, by rw [← r1.length]; exact lim_le hl, fun p hp => ?_⟩
  have al : Stp none H1 Hs1 (upd H1 p (.tup vs)) (upd Hs1 p (.tup vs)) := Stp.alloc s1.sub hp
  refine ⟨g, upd Hs1 p (.tup vs), [.any (.ref C), .tup ds], f1, Q', E', al.sub, k1.stp al, ⟨_, _, rfl, rfl, RpA.one (rp_tup r1 (same_none s1.sub hp))⟩, ⟨ds, rfl, q1⟩, fun d f' v H' Hs' s2 k2 r2 q2 => ?_, fun x f' cls d H' Hs' s2 k2 r2 q2 => ?_⟩
  · exact hq d f' v H' Hs' ((s1.trans al.gen).trans s2) k2 r2 q2
  · exact he x f' cls d H' Hs' ((s1.trans al.gen).trans s2) k2 r2 q2
theorem dex_callCM {c m : Str} {k : Nat} {S : DSpX} {p0 apos pos : Pos} {e : Expr} {es : List Expr} {d : DTA} {pl : Sem Bool} (q : CalCX X.prog X.w X.K X.mg X.base k c m S) (hr : Room k X.A) (ha : DA X (e :: es) d) (hg : Gl X c := by rfl) (hdb : (c == ("__debug__" : Str)) = false := by decide)
    (hst : starEach (e :: es) X.env = (false, eval e X.env) :: starEach es X.env := by rfl) (hpl : (backTo pos (starEach es X.env)).any (·.1) = false := by rfl)
    (ht : eval (.Call (.Attribute (.Name c p0) m apos) (e :: es) [] pos) X.env = (do
      let ov ← eval (.Name c p0) X.env
      standAt apos.atName
      let (f, first) ← holding [ov] (getMethod ov m pl)
      callWith pos f first (backTo pos (starEach (e :: es) X.env)) (backToKw pos (keywordEach [] X.env))) := by rfl) :
    DEX X (.Call (.Attribute (.Name c p0) m apos) (e :: es) [] pos) (dCallCMX S d) := by
  obtain ⟨C, mc, p, g, hm, r, cm, F⟩ := q.ex
  exact .mk' (pe_cmethS (pl := pl) (pe_glob (v := .ref C) hg hm rfl hdb) r cm F hr (fun st => passAt (takes_wx X) st) ha.pa hst hpl ht) (snd_cmX ha.sn)
theorem dex_callCM0 {c m : Str} {k : Nat} {S : DSpX} {p0 apos pos : Pos} {pl : Sem Bool} (q : CalCX X.prog X.w X.K X.mg X.base k c m S) (hr : Room k X.A) (hg : Gl X c := by rfl) (hdb : (c == ("__debug__" : Str)) = false := by decide)
    (ht : eval (.Call (.Attribute (.Name c p0) m apos) [] [] pos) X.env = (do
      let ov ← eval (.Name c p0) X.env
      standAt apos.atName
      let (f, first) ← holding [ov] (getMethod ov m pl)
      callWith pos f first (backTo pos (starEach [] X.env)) (backToKw pos (keywordEach [] X.env))) := by rfl) :
    DEX X (.Call (.Attribute (.Name c p0) m apos) [] [] pos) (dCallCMX S dNil) := by
  obtain ⟨C, mc, p, g, hm, r, cm, F⟩ := q.ex
  exact .mk' (pe_cmethS0 (pl := pl) (pe_glob (v := .ref C) hg hm rfl hdb) r cm F hr (fun st => passAt (takes_wx X) st) ht) (snd_cmX snd_nil)
/-! cls(a, b), cls a parameter -/
def dMakeLX (i : Nat) (C : Addr) (S : DSpX) (t : DTA) : DTX := fun g r f Q E => r[i]? = some (.sh (.any (.ref C))) ∧ t g r f fun ds f1 => S g ds f1 Q E
def tMakeLS (i : Nat) (C : Addr) (sp : Sp) (E : L2.St → XK) (t : TA) : TE := fun st H Q => st[i]? = some (some (.ref C)) ∧ tMakeS C sp E t st H Q
theorem pe_makeLS {CX : CXT} {k i : Nat} {f C : Addr} {fd : FuncData} {ps : List Str} {sp : Sp} {E : L2.St → XK} {x : Str} {p pos : Pos} {e : Expr} {es : List Expr} {t : TA} (M : Mk X.K C f) (F : FnOk X.prog X.w X.K X.mg X.base CX k f fd ps sp) (hr : Room (k + 1) X.A) (hN : X.N[i]? = some x) (hv : Vis X.env.scope x) (hb : Binds X.K fd ps []) (hx : ∀ σ, PassesAt CX X σ (E σ))
    (ha : PA X (e :: es) t) (hdb : (x == ("__debug__" : Str)) = false := by decide) (hcd : (x == ("__classdict__" : Str)) = false := by decide) (he : starEach (e :: es) X.env = (false, eval e X.env) :: starEach es X.env := by rfl) (hpl : (backTo pos (starEach es X.env)).any (·.1) = false := by rfl) :
    PE X (.Call (.Name x p) (e :: es) [] pos) (tMakeLS i C sp E t) := by
  refine ⟨fun pins s st H Q I h => ?_⟩
  obtain ⟨hs, ht⟩ := h
  refine wpAny_Call_Name_kw (thn ((pe_var (pos := p) hN hv hdb hcd).run pins s st H (fun v H1 => v = .ref C ∧ H1 = H) I ⟨.ref C, hs, rfl, rfl⟩) fun u s1 h1 => ?_)
  obtain ⟨v, H1, I1, r1, rfl, rfl⟩ := h1
  cases r1
  refine PySem.W.callWith_K (h₀ := X.base) I.ok.mod.kin M.kp (thn (ha.run pos pins s1 st _ _ I1 ht) fun us s2 h2 => ?_) he hpl
  obtain ⟨vs, H2, I2, r, q⟩ := h2
  exact ⟨I2.kIn, run_makeS M F hr hb (hx st) I2 r q⟩
theorem dex_makeL {i : Nat} {c x : Str} {C : Addr} {ps : List Str} {k : Nat} {S : DSpX} {p pos : Pos} {e : Expr} {es : List Expr} {d : DTA} (m : MkrX X.prog X.w X.K X.mg X.base k c ps S) (kc : KC X.K c C) (hr : Room (k + 1) X.A)
    (ha : DA X (e :: es) d) (hN : X.N[i]? = some x := by rfl) (hv : Vis X.env.scope x := by first | exact Or.inl rfl | exact Or.inr (Or.inl rfl) | exact Or.inr (Or.inr rfl)) (hdb : (x == ("__debug__" : Str)) = false := by decide) (hcd : (x == ("__classdict__" : Str)) = false := by decide)
    (hs : starEach (e :: es) X.env = (false, eval e X.env) :: starEach es X.env := by rfl) (hpl : (backTo pos (starEach es X.env)).any (·.1) = false := by rfl) : DEX X (.Call (.Name x p) (e :: es) [] pos) (dMakeLX i C S d) := by
  obtain ⟨C', f, fd, M, F, hb, h0, hm⟩ := m.ex
  have e1 := h0.symm.trans kc.ns
  obtain rfl : C' = C := by simpa using e1
  refine .mk' (pe_makeLS M F hr hN hv hb (fun st => passAt (takes_wx X) st) ha.pa hdb hcd hs hpl) fun g ro f st H Hs Q Q' E' A hq he hd => ?_
  obtain ⟨h1, h2⟩ := hd
  obtain ⟨v, hv1, hv2⟩ := A.sl.get i _ _ h1 rfl
  cases hv2
  exact ⟨hv1, snd_makeX h0 ha.sn g ro f st H Hs Q Q' E' A hq he h2⟩
end
section
variable {P : Program} {w : World} {K : PySem.W.Frag} {mg : Str → Option Value} {base : Heap}
theorem dfnCX {x qual : Str} {st : Stmt} {f : Addr} {fd : FuncData} {N : List Str} {p1 pv : Str} {k : Nat} {C : Addr} {S : DSpX} {dl : DTS} (F : Fun K x qual st f fd) (sc : FnScope N [p1, pv] (defScope st))
    (hb0 : ∀ (kV doc pm : Value) (an : Option Addr) (cdv ct : Value) (a : Value), bindArgs (PySem.W.fnOf x qual (defArgs st) (defBody st) (defScope st) .none kV doc pm an cdv ct) ⟨[a], []⟩ = (newTuple [] >>= fun t => pure [(p1, a), (pv, t)]))
    (hb1 : ∀ (kV doc pm : Value) (an : Option Addr) (cdv ct : Value) (a r : Value) (rs : List Value), bindArgs (PySem.W.fnOf x qual (defArgs st) (defBody st) (defScope st) .none kV doc pm an cdv ct) ⟨a :: r :: rs, []⟩ = (newTuple (r :: rs) >>= fun t => pure [(p1, a), (pv, t)]))
    (hb : ∀ (cdv : Value) (A : Around) (outer : List Env) (s : Shared) (H : Hp) (E : XK), Room k (A.deeper (envOfC qual (defScope st) s.heap.objs.size f cdv)) → DSs (cxOf (L2.CX P w) P w K mg base N qual (defScope st) f cdv A outer s H E) (defBody st) dl)
    (h : ∀ g xs n Q E, S g [.tup xs] n Q E → dl g (startR N.length [.any (.ref C), .tup xs]) n { nx := fun _ n => Q .none n, rt := Q, xc := fun x _ n => E x n }) : FnR P w K mg base (L2.CX P w) (k + 1) f (spClsX K C S) := by
  obtain ⟨oc, od, kV, doc, pm, an, cdv, ct, osl, rfl, lk, hcd⟩ := F.ex
  refine StX.fn_star (ps := [p1]) (pv := pv) (sp := spX K (withCX C S)) lk hcd sc StX.cxUp (StX.bind_star1 (B := fun us => bindArgs (PySem.W.fnOf x qual (defArgs st) (defBody st) (defScope st) .none kV doc pm an cdv ct) ⟨us, []⟩) (hb0 kV doc pm an cdv ct) (hb1 kV doc pm an cdv ct)) fun A outer s H vs Q E hr hsp => ?_
  obtain ⟨g, Hs, ds, n, Q', E', h1, h2, h3, ⟨xs, rfl, h4⟩, h5, h6⟩ := hsp
  have D := hb cdv A outer s H E hr
  refine ⟨_, D.ps, ?_⟩
  refine D.sn g H Hs _ n _ H _ { nx := fun _ n => Q' .none n, rt := Q', xc := fun x _ n => E' x n } ⟨Hs, start_in h1 h2 h3⟩ ⟨fun r f st H' q h => ?_, fun d f v H' Hs' p k hr h => h5 d f v H' Hs' p k hr h, fun _ _ _ _ _ h => h, fun _ _ _ _ _ h => h, fun x r f st H' cls d q h => ?_⟩ (h g xs n Q' E' h4)
  · obtain ⟨Hs', q⟩ := q
    exact h5 .none f .non H' Hs' q.stp q.dk rfl h
  · obtain ⟨Hs', q, hx⟩ := q
    exact wx_of (takes_of (E := E) rfl rfl rfl rfl) (h6 x f cls d H' Hs' q.stp q.dk hx h)
end
end DL
namespace DL
open PySem PySem.Spec PyProof.Rows L2
/-! for the head by one run: a class method, from a fact as Bool -/
theorem cls_ok {x : Option PySem.W.CFound} {p0 C0 : Addr} (h : (match x with | some (.get (.builtin b) (.ref p) .none (.ref C)) => decide (b = "classmethod.__get__") && (decide (p = p0) && decide (C = C0)) | _ => false) = true) : x = some (.get (.builtin "classmethod.__get__") (.ref p0) .none (.ref C0)) := by
  split at h
  · rw [Bool.and_eq_true, Bool.and_eq_true] at h
    obtain ⟨h1, h2, h3⟩ := h
    rw [of_decide_eq_true h1, of_decide_eq_true h2, of_decide_eq_true h3]
  · cases h
end DL
namespace DL
open PySem PySem.Spec PyProof.Rows L2
/-! xs.append(xs[e]), xs owned, its items any -/
section
variable {X : Cx} {K : PySem.W.Frag} {W : WX}
def sAppIx (i : Nat) (de : DT) : DTS := fun g r f E => ∃ xs, r[i]? = some (.ow xs) ∧ de g r f fun d f' => match d with
  | .int k => ∃ y, atI xs k = some y ∧ xs.length ≤ lim ∧ E.nx (r.set i (.ow (xs ++ [y]))) f'
  | _ => False
theorem snd_appIx {i : Nat} {te : TE} {de : DT} (h : Snd K te de) : SndS K W (tDrop (tBM K "list" rAppend (tVar i) (tCons (tOp (rIx K) (tVar i) te) tNil))) (sAppIx i de) := fun g H0 Hs0 r f st H D E s e hd => by
  obtain ⟨Hs, s⟩ := s
  obtain ⟨xs, hi, hd⟩ := hd
  obtain ⟨a, ha, n1, n0, vs, hv, hr⟩ := s.ow i _ hi rfl
  refine ⟨.ref a, ha, .inl ⟨rfl, vs, SqL.of hv⟩, .ref a, ha, ?_⟩
  refine h g r f st H _ _ _ s.at (fun d f' v H' Hs' t' k' hr' q => ?_) hd
  have s' := s.after t' k'
  cases d <;> try exact q.elim
  cases hr'
  obtain ⟨y, hy, hxl, q⟩ := q
  obtain ⟨a', ha', n1', n0', vs', hv', hr2⟩ := s'.ow i _ hi rfl
  rw [ha] at ha'
  cases ha'
  obtain ⟨w, hw, rw'⟩ := atI_rp hr2 hy
  refine .inl ⟨_, _, _, _, rfl, rfl, SqL.of hv', hw, ?_⟩
  exact ⟨a, vs', w, rfl, rfl, hv', hr2.lt hxl, e.nx _ f' st _ ⟨_, s'.mutOwn (u := .ow (xs ++ [y])) hi rfl ha rfl ⟨vs' ++ [w], upd_same, hr2.append (RpA.one rw')⟩⟩ q⟩
theorem ds_appIx {i : Nat} {x : Str} {e : Expr} {px px2 ipos apos cpos pos : Pos} {d : DT} (h : DE X e d) (hN : X.N[i]? = some x := by rfl) (hv : Vis X.env.scope x := by first | exact Or.inl rfl | exact Or.inr (Or.inl rfl) | exact Or.inr (Or.inr rfl)) (hd : (x == ("__debug__" : Str)) = false := by decide)
    (hcd : (x == ("__classdict__" : Str)) = false := by decide) (hs2 : PlainIx e := by exact fun _ _ => rfl) (hP : ∀ t : TE, PE X (.Name x px) (tVar i) → PA X [.Subscript (.Name x px2) e ipos] (tCons t tNil) → PE X (.Call (.Attribute (.Name x px) "append" apos) [.Subscript (.Name x px2) e ipos] [] cpos) (tBM X.K "list" rAppend (tVar i) (tCons t tNil)) := by
      exact fun t a b => pe_bm PySem.F.plainAttrs_list PySem.F.slot_list_append PySem.F.type_list_append mt_append a b)
    (hs : swapsWith (.Call (.Attribute (.Name x px) "append" apos) [.Subscript (.Name x px2) e ipos] [] cpos) none pos.line X.env = pure false := by rfl) (hst : starEach [.Subscript (.Name x px2) e ipos] X.env = [(false, eval (.Subscript (.Name x px2) e ipos) X.env)] := by rfl) :
    DS X (.Expr (.Call (.Attribute (.Name x px) "append" apos) [.Subscript (.Name x px2) e ipos] [] cpos) pos) (sAppIx i d) :=
  DS.mk' (ps_expr (hP _ (pe_var hN hv hd hcd) (pa_cons (pe_ix ix_seq (pe_var hN hv hd hcd) h.pe hs2) pa_nil hst)) hs) (snd_appIx h.sn)
end
end DL
namespace DL
open PySem PySem.Spec PyProof.Rows L2
def topS (i : Nat) : Stmt := PySem.Challenge.pw_mayrest_k09_programs_of_uses.main.body.getD i (.Pass ⟨0, 0, 0, 0⟩)
def clsS (i j : Nat) : Stmt := match topS i with
  | .ClassDef _ _ _ b _ _ _ _ _ _ _ => b.getD j (.Pass ⟨0, 0, 0, 0⟩)
  | s => s
section
variable {P : Program} {w : World} {K : PySem.W.Frag} {mg : Str → Option Value} {base : Heap}
abbrev s__law_next : Stmt := topS 27
theorem sc__law_next : FnScope ["_law_deck_here", "_law_many_here", "_law_rest", "_law_turn", "_law_number", "_law_mixed"] ["_law_deck_here", "_law_many_here"] (defScope s__law_next) := ⟨rfl, rfl, rfl, by decide +kernel, rfl, by decide +kernel, by decide +kernel⟩
def Sp__law_next : DSp := fun g ds f Q => ∃ (k : Dk) (m : Int) (f' : Nat), g = some k ∧ ds = [.any (.ref k.a), .int m] ∧ 0 < m ∧ m < 1000000000 ∧ f = f' + 1 ∧ ∀ r : Int, 0 ≤ r → r < m → Q (.int r) f'
theorem ok__law_next (d : Df K mg "_law_next" s__law_next) (m_len : mg "len" = none) (m_int : mg "int" = none) : Cal P w K mg base 1 "_law_next" ["_law_deck_here", "_law_many_here"] Sp__law_next := by
  obtain ⟨f, fd, F, mm⟩ := d
  refine ⟨f, fd, ?_, F.kp, F.binds fun _ _ _ _ _ _ us hl => match us, hl with | [_, _], _ => rfl, mm⟩
  refine F.ok sc__law_next (fun vs H Q E h => ?_) (fun cdv A outer s H vs Q E hr h => ?_)
  · obtain ⟨g, Hs, ds, n, Q', h1, h2, h3, ⟨k', m, f', e1, e2, _⟩, h5⟩ := h
    subst e2
    rw [← h3.length]
    rfl
  · obtain ⟨g, Hs, ds, n, Q', h1, h2, h3, ⟨k', m, f', e1, e2, m0, m1, e3, h4⟩, h5⟩ := h
    subst e1 e2 e3
    obtain ⟨v1, v2, rfl, r1, r2⟩ := rpA2 h3
    cases r1
    cases r2
    have dk0 := h2
    obtain ⟨⟨nab, nac, nbc, n, xs, ys, ha, hb, hc, px, py, py0, n0, nf⟩, na, nb, nc⟩ := h2
    refine ⟨_, pss_cons (ps_while PassesOwn.never (pt_cmpR (op_neD hr.units) (pe_ix ix_list (pv 0) pe_int (fun _ _ => rfl)) (pe_lst pa_nil) (nomark _))
        (pss_cons (ps_set (i := 2) sc__law_next.nd rfl (.inl rfl) (pe_ix ix_list (pe_ix ix_list (pv 0) pe_int (fun _ _ => rfl)) pe_int (fun _ _ => rfl)))
        (pss_cons (ps_if (pt_cmpR op_gt (pv 2) pe_int (nomark _))
          (pss_cons (ps_asg (pe_op op_fdivW (pv 2) (pv 1)) (pg_sub (pe_ix ix_list (pv 0) pe_int (fun _ _ => rfl)) pe_int set_list))
          (pss_one (ps_ret (pe_op op_mod (pe_callTy call_int1 (by rfl) m_int PyProof.Rows.boot_int (pa_cons (pv 2) pa_nil)) (pv 1))))) pss_nil)
        (pss_one (ps_expr (pe_bm PySem.F.plainAttrs_list PySem.F.slot_list_pop PySem.F.type_list_pop mt_popAt (pe_ix ix_list (pv 0) pe_int (fun _ _ => rfl)) (pa_cons pe_int pa_nil)))))))
      (pss_cons (ps_asg (pe_op op_add (pe_ix ix_list (pv 0) pe_int (fun _ _ => rfl)) pe_int) (pg_sub (pv 0) pe_int set_list))
      (pss_cons (ps_set (i := 3) sc__law_next.nd rfl (.inl rfl) (pe_ix ix_list (pv 0) pe_int (fun _ _ => rfl)))
      (pss_cons (ps_set (i := 4) sc__law_next.nd rfl (.inl rfl) (pe_op op_mod (pe_callTy call_int1 (by rfl) m_int PyProof.Rows.boot_int (pa_cons (pe_ix ix_list (pe_ix ix_list (pv 0) pe_int (fun _ _ => rfl))
          (pe_op op_mod (pe_callTy call_int1 (by rfl) m_int PyProof.Rows.boot_int (pa_cons (pv 3) pa_nil)) (pe_callB call_len_seq (by rfl) m_len PySem.boot_len (pa_cons (pe_ix ix_list (pv 0) pe_int (fun _ _ => rfl)) pa_nil))) (fun _ _ => rfl)) pa_nil)) pe_int))
      (pss_cons (ps_set (i := 5) sc__law_next.nd rfl (.inl rfl) (pe_op op_mod (pe_callTy call_int1 (by rfl) m_int PyProof.Rows.boot_int (pa_cons (pe_op op_add (pe_op op_add (pe_op op_mul (pv 4) (pe_op op_add pe_int (pe_op op_mul pe_int (pv 3)))) (pe_op op_mul (pe_op op_mul pe_int (pv 3)) (pv 3))) pe_int) pa_nil)) pe_int))
      (pss_one (ps_ret (pe_op op_mod (pe_op op_fdiv (pe_op op_mod (pe_callTy call_int1 (by rfl) m_int PyProof.Rows.boot_int (pa_cons (pe_op op_mul (pv 5) (pv 5)) pa_nil)) pe_int) pe_int) (pv 1)))))))), ?_⟩
    -- what stays: nothing but the deck's three lists changes
    have fin : ∀ (H3 : Hp) (n3 : Int) (x3 : List Int) (f3 : Nat) (d : D) (v : V), H3 k'.a = some (.lst [.ref k'.b, .ref k'.c, .int n3]) → H3 k'.b = some (.lst (x3.map V.int)) → H3 k'.c = some (.lst (ys.map V.int)) → (∀ x ∈ x3, (0 : Int) ≤ x) → 0 ≤ n3 → n3 + (f3 : Int) ≤ 1000000000000 →
        (∀ b o, b ≠ k'.a → b ≠ k'.b → H b = some o → H3 b = some o) → Rp K Hs d v → Q' d f3 → Q v H3 := by
      intro H3 n3 x3 f3 d v g1 g2 g3 g4 g5 g6 g7 g8 g9
      refine h5 d f3 v H3 Hs ⟨fun b o e => ?_, Same.refl _, fun b o e n => ?_, fun b o e => ?_, fun _ _ _ h => h⟩ ⟨⟨nab, nac, nbc, n3, x3, ys, g1, g2, g3, g4, py, py0, g5, g6⟩, na, nb, nc⟩ g8 g9
      · refine g7 b o (fun z => ?_) (fun z => ?_) (h1 b o e)
        · subst z; rw [na] at e; cases e
        · subst z; rw [nb] at e; cases e
      · exact g7 b o (fun z => n (.inl z)) (fun z => n (.inr (.inl z))) e
      · by_cases z : b = k'.a
        · exact ⟨_, z ▸ g1⟩
        · by_cases z' : b = k'.b
          · exact ⟨_, z' ▸ g2⟩
          · exact ⟨o, g7 b o z z' e⟩
    -- the while
    refine ⟨fun mm st H2 => ∃ y2 zs, mm = zs.length ∧ st = [some (.ref k'.a), some (.int m), y2, none, none, none] ∧ (∀ x ∈ zs, (0 : Int) ≤ x) ∧ H2 k'.a = some (.lst [.ref k'.b, .ref k'.c, .int n]) ∧ H2 k'.b = some (.lst (zs.map V.int)) ∧ H2 k'.c = some (.lst (ys.map V.int)) ∧ ∀ b o, b ≠ k'.a → b ≠ k'.b → H b = some o → H2 b = some o,
      ⟨xs.length, none, xs, rfl, rfl, px, ha, hb, hc, fun _ _ _ _ h => h⟩, ?_⟩
    rintro mm st H2 ⟨y2, zs, rfl, rfl, pz, ea, eb, ec, kp⟩
    refine ⟨.ref k'.a, rfl, k'.a, _, 0, _, rfl, rfl, SqL.of ea, atI0, Nat.zero_le _, fun p hp => ?_⟩
    have epb : k'.b ≠ p := ne_of_none eb hp
    have epa : k'.a ≠ p := ne_of_none ea hp
    have epc : k'.c ≠ p := ne_of_none ec hp
    refine ⟨.list (zs.map PyData.int), .list (([] : List Int).map PyData.int), dp_ints (by rw [upd_ne epb]; exact eb), dp_ints (l := []) upd_same, shaped_ints _, shaped_ints [], ?_⟩
    have ea' : upd H2 p (.lst []) k'.a = some (.lst [.ref k'.b, .ref k'.c, .int n]) := by rw [upd_ne epa]; exact ea
    have eb' : upd H2 p (.lst []) k'.b = some (.lst (zs.map V.int)) := by rw [upd_ne epb]; exact eb
    have ec' : upd H2 p (.lst []) k'.c = some (.lst (ys.map V.int)) := by rw [upd_ne epc]; exact ec
    have kp' : ∀ b o, b ≠ k'.a → b ≠ k'.b → H b = some o → upd H2 p (.lst []) b = some o := fun b o e1 e2 e => by
      have q := kp b o e1 e2 e
      rw [upd_ne (ne_of_none q hp)]
      exact q
    generalize upd H2 p (.lst []) = H3 at ea' eb' ec' kp' ⊢
    cases zs with
    | nil =>
      refine ⟨false, rfl, ?_⟩
      refine iteF ?_
      refine ⟨.ref k'.a, rfl, k'.a, _, 2, _, rfl, rfl, SqL.of ea', rfl, n, 1, rfl, rfl, .ref k'.a, rfl, k'.a, _, 2, 2, rfl, rfl, ea', rfl, ?_⟩
      generalize hH4 : upd H3 k'.a (.lst ([V.ref k'.b, V.ref k'.c, V.int n].set 2 (V.int (n + 1)))) = H4
      have fa : H4 k'.a = some (.lst [.ref k'.b, .ref k'.c, .int (n + 1)]) := by rw [← hH4, upd_same]; rfl
      have fb : H4 k'.b = some (.lst (([] : List Int).map V.int)) := by rw [← hH4, upd_ne (Ne.symm nab)]; exact eb'
      have fc : H4 k'.c = some (.lst (ys.map V.int)) := by rw [← hH4, upd_ne (Ne.symm nac)]; exact ec'
      have keep : ∀ b o, b ≠ k'.a → b ≠ k'.b → H b = some o → H4 b = some o := fun b o e1 e2 e => by
        rw [← hH4, upd_ne e1]
        exact kp' b o e1 e2 e
      -- turn
      refine ⟨.ref k'.a, rfl, k'.a, _, 2, _, rfl, rfl, SqL.of fa, rfl, ?_⟩
      have hz : (0 : Int) ≤ (n + 1) % (ys.length : Int) ∧ (n + 1) % (ys.length : Int) < ys.length := ⟨Int.emod_nonneg _ (by omega), Int.emod_lt_of_pos _ (by omega)⟩
      have hj : ((n + 1) % (ys.length : Int)).toNat < ys.length := by omega
      -- number
      refine ⟨.ref k'.a, rfl, k'.a, _, 1, _, rfl, rfl, SqL.of fa, rfl, .int (n + 1), rfl, .inl ⟨n + 1, rfl, ?_⟩⟩
      refine ⟨.ref k'.a, rfl, k'.a, _, 1, _, rfl, rfl, SqL.of fa, rfl, k'.c, ys.map V.int, rfl, .inl (SqL.of fc), n + 1, _, rfl, rfl, ?_, ?_⟩
      · rw [List.length_map]; show (0 : Int) < (ys.length : Int); omega
      refine ⟨k'.c, ys.map V.int, _, .int (ys[((n + 1) % (ys.length : Int)).toNat]'hj), rfl, rfl, SqL.of fc, ?_, .inl ⟨_, rfl, ?_⟩⟩
      · rw [List.length_map]
        have := atI_nat (xs := ys.map V.int) (j := ((n + 1) % (ys.length : Int)).toNat) (v := .int (ys[((n + 1) % (ys.length : Int)).toNat]'hj)) (by rw [List.getElem?_map, List.getElem?_eq_getElem hj]; rfl)
        rw [Int.toNat_of_nonneg hz.1] at this
        exact this
      refine ⟨_, _, rfl, rfl, by show (0 : Int) < 2147483647; decide, ?_⟩
      have num0 := Int.emod_nonneg (ys[((n + 1) % (ys.length : Int)).toNat]'hj) (show (2147483647 : Int) ≠ 0 by decide)
      have num1 := Int.emod_lt_of_pos (ys[((n + 1) % (ys.length : Int)).toNat]'hj) (show (0 : Int) < 2147483647 by decide)
      -- mixed
      refine ⟨_, rfl, .int (n + 1), rfl, 69621, n + 1, rfl, rfl, .inl ⟨by decide, by decide⟩, 48271, _, rfl, rfl, _, _, rfl, rfl, .inl ⟨lo64 num0, hi64 num1⟩, .int (n + 1), rfl, 40692, n + 1, rfl, rfl, .inl ⟨by decide, by decide⟩, .int (n + 1), rfl, _, n + 1, rfl, rfl, .inr ⟨by omega, by omega⟩, _, _, rfl, rfl, _, 11, rfl, rfl, .inl ⟨_, rfl, _, _, rfl, rfl, by show (0 : Int) < 2147483629; decide, ?_⟩⟩
      have mix0 : ∀ x : Int, 0 ≤ x % 2147483629 := fun x => Int.emod_nonneg x (by decide)
      have mix1 : ∀ x : Int, x % 2147483629 < 2147483647 := fun x => Int.lt_trans (Int.emod_lt_of_pos x (by decide)) (by decide)
      refine ⟨_, rfl, _, rfl, _, _, rfl, rfl, .inl ⟨lo64 (mix0 _), hi64 (mix1 _)⟩, .inl ⟨_, rfl, _, _, rfl, rfl, by show (0 : Int) < 2147483587; decide, _, _, rfl, rfl, ⟨by decide, by decide⟩, .int m, rfl, _, m, rfl, rfl, m0, ?_⟩⟩
      exact fin H4 (n + 1) [] f' (.int _) _ fa fb fc (by simp) (by omega) (by omega) keep rfl (h4 _ (Int.emod_nonneg _ (by omega)) (Int.emod_lt_of_pos _ m0))
    | cons z zs =>
      refine ⟨true, rfl, ?_⟩
      refine iteT ?_
      have pz0 : 0 ≤ z := pz z (by simp)
      refine ⟨fun st4 H4 => ∃ y2, st4 = [some (.ref k'.a), some (.int m), y2, none, none, none] ∧ H4 = upd H3 k'.b (.lst (zs.map V.int)), ?_, ?_⟩
      · rintro st4 H4 ⟨y3, rfl, rfl⟩
        refine ⟨zs.length, Nat.lt_succ_self _, y3, zs, rfl, rfl, fun x hx => pz x (by simp [hx]), by rw [upd_ne nab]; exact ea', upd_same, by rw [upd_ne (Ne.symm nbc)]; exact ec', fun b o e1 e2 e => by rw [upd_ne e2]; exact kp' b o e1 e2 e⟩
      refine ⟨.ref k'.a, rfl, k'.a, _, 0, _, rfl, rfl, SqL.of ea', atI0, k'.b, _, 0, _, rfl, rfl, SqL.of eb', atI0, ?_⟩
      refine ⟨.int z, rfl, z, 0, rfl, rfl, _, rfl, ite2 (fun c => ?_) (fun c => ?_)⟩
      · -- a digit of a great cell
        refine ⟨.int z, rfl, .int m, rfl, z, m, rfl, rfl, wide_div (b := 40) m0 (by omega) (by decide) (by decide), ?_⟩
        refine ⟨.ref k'.a, rfl, k'.a, _, 0, _, rfl, rfl, SqL.of ea', atI0, k'.b, _, 0, 0, rfl, rfl, eb', ix0 _, ?_⟩
        refine ⟨.int z, rfl, .inl ⟨z, rfl, .int m, rfl, z, m, rfl, rfl, m0, ?_⟩⟩
        refine fin _ n ((z / m) :: zs) f' (.int _) _ (by rw [upd_ne nab]; exact ea') upd_same (by rw [upd_ne (Ne.symm nbc)]; exact ec') ?_ n0 (by omega) (fun b o e1 e2 e => by rw [upd_ne e2]; exact kp' b o e1 e2 e) rfl (h4 _ (Int.emod_nonneg _ (by omega)) (Int.emod_lt_of_pos _ m0))
        intro x hx
        rcases List.mem_cons.mp hx with e | e
        · rw [e]; exact Int.ediv_nonneg pz0 (by omega)
        · exact pz x (by simp [e])
      · refine ⟨.ref k'.a, rfl, k'.a, _, 0, _, rfl, rfl, SqL.of ea', atI0, .inl ⟨rfl, _, SqL.of eb'⟩, k'.b, _, 0, 0, _, rfl, rfl, eb', by decide, by decide, ?_, rfl, ?_⟩
        · exact (ixN_seq (ix0 _)).1
        · exact ⟨_, rfl, rfl⟩
/-! _law_name -/
abbrev s__law_name : Stmt := topS 28
theorem sc__law_name : FnScope ["_law_deck_here", "_law_letters", "_law_many_here", "_law_k"] ["_law_deck_here"] (defScope s__law_name) := ⟨rfl, rfl, rfl, by decide +kernel, rfl, by decide +kernel, by decide +kernel⟩
def Sp__law_name : DSp := fun g ds f Q => ∃ k : Dk, g = some k ∧ ds = [.any (.ref k.a)] ∧ 9 ≤ f ∧ ∀ s f', isName s → f ≤ f' + 9 → Q (.str s) f'
set_option maxHeartbeats 2000000 in
theorem ok__law_name (d : Df K mg "_law_name" s__law_name) (m_range : mg "range" = none) (c__law_next : Cal P w K mg base 1 "_law_next" ["_law_deck_here", "_law_many_here"] Sp__law_next) : Cal P w K mg base 2 "_law_name" ["_law_deck_here"] Sp__law_name := by
  obtain ⟨f, fd, F, m⟩ := d
  refine ⟨f, fd, dfn (k := 1) (S := Sp__law_name) F sc__law_name ?len (fun cdv A outer s H E hr => (dss_cons (ds_set false (i := 1) sc__law_name.nd de_str)
      (dss_cons (ds_set false (i := 2) sc__law_name.nd (de_ix (dl_lst (da_cons de_int (da_cons de_int (da_cons de_int (da_cons de_int (da_cons de_int (da_cons de_int (da_cons de_int (da_cons de_int da_nil))))))))).e (de_callC c__law_next (hr.mono (by decide)) (da_cons (de_v 0) (da_cons de_int da_nil)))))
      (dss_one (ds_ret (de_join de_str (dl_lc (own := [("_law_k", 3)]) rfl sc__law_name.nd (di_range1 m_range (da_cons (de_v 2) da_nil)) (blkOk_by (own := [("_law_k", 3)]) (N := ["_law_deck_here", "_law_letters", "_law_many_here", "_law_k"]) (sc := defScope s__law_name) (by decide +kernel)) (fun _ _ _ _ _ => dg_name (i := 3) sc__law_name.nd) (fun _ _ _ _ _ => dts_nil) (fun _ _ _ _ _ => (de_ix (de_v 1) (de_callC c__law_next (hr.mono (by decide)) (da_cons (de_v 0) (da_cons de_int da_nil)))))).e)))))) ?h, F.kp, F.binds fun _ _ _ _ _ _ us hl => match us, hl with | [_], _ => rfl, m⟩
  case len =>
    intro g ds n Q h; obtain ⟨_, _, rfl, _⟩ := h; rfl
  case h =>
    intro g ds n Q h
    obtain ⟨k, rfl, rfl, hf, q⟩ := h
    obtain ⟨f1, rfl⟩ : ∃ f1, n = f1 + 1 := ⟨n - 1, by omega⟩
    refine ⟨by decide, k, 8, f1, rfl, rfl, by decide, by decide, rfl, fun r h0 h1 => ?_⟩
    obtain ⟨d, hd, hm⟩ := atI_mem (xs := [D.int 1, .int 2, .int 3, .int 8, .int 4, .int 1, .int 6, .int 2]) h0 h1
    refine ⟨d, hd, ?_⟩
    obtain ⟨v, rfl, v0, v1⟩ : ∃ v : Int, d = .int v ∧ 1 ≤ v ∧ v ≤ 8 := by
      simp only [List.mem_cons, List.not_mem_nil, or_false] at hm
      rcases hm with rfl | rfl | rfl | rfl | rfl | rfl | rfl | rfl <;> exact ⟨_, rfl, by decide, by decide⟩
    refine ⟨trivial, by omega, by omega, by rw [intsD_len]; exact Nat.le_trans (by omega : v.toNat ≤ 8) (by decide), ?_⟩
    refine dLcGo_each (P := fun y => ∃ s, y = .str s ∧ ∃ c, cd s = [c] ∧ 97 ≤ c ∧ c ≤ 122) 1 _ _ _ (by rw [intsD_len]; omega) (fun d _ => ⟨_, rfl, fun f Q hf hq => ?_⟩) (fun ys f' hl hy hf' => ?_)
    · obtain ⟨f2, rfl⟩ : ∃ f2, f = f2 + 1 := ⟨f - 1, by omega⟩
      refine ⟨k, 26, f2, rfl, rfl, by decide, by decide, rfl, fun r h0 h1 => ?_⟩
      obtain ⟨c, hc, hb⟩ := letters_at h0 h1
      exact ⟨by decide +kernel, c, hc, hq _ _ ⟨_, rfl, c, rfl, hb⟩ (Nat.le_refl _)⟩
    · rw [intsD_len] at hl hf'
      obtain ⟨l, rfl, hl2⟩ := strs_of hy
      rw [List.length_map] at hl
      refine ⟨l, rfl, join_names l (fun n hn => ?_) (by omega) _ (by decide +kernel), q _ _ (letters_name l hl2 (by omega) (by omega)) (by omega)⟩
      obtain ⟨c, hc, _⟩ := hl2 n hn
      rw [TL.len_tl]
      show (cd n).length ≤ 1000
      rw [hc]
      exact (by decide : 1 ≤ 1000)
/-! _law_pool -/
abbrev s__law_pool : Stmt := topS 29
theorem sc__law_pool : FnScope ["_law_deck_here", "_law_many_here", "_law_found", "_law_k"] ["_law_deck_here", "_law_many_here"] (defScope s__law_pool) := ⟨rfl, rfl, rfl, by decide +kernel, rfl, by decide +kernel, by decide +kernel⟩
def Sp__law_pool : DSp := fun g ds f Q => ∃ (k : Dk) (m : Nat), g = some k ∧ ds = [.any (.ref k.a), .int m] ∧ 2 ≤ m ∧ m ≤ 20 ∧ 9 * m + 1 ≤ f ∧ ∀ (l : List Str) f', l.length = m → (∀ s ∈ l, isName s) → f ≤ f' + (9 * m + 1) → Q (.lst (l.map D.str)) f'
set_option maxHeartbeats 2000000 in
theorem ok__law_pool (d : Df K mg "_law_pool" s__law_pool) (m_len : mg "len" = none) (m_range : mg "range" = none) (c__law_next : Cal P w K mg base 1 "_law_next" ["_law_deck_here", "_law_many_here"] Sp__law_next) (c__law_name : Cal P w K mg base 2 "_law_name" ["_law_deck_here"] Sp__law_name) : Cal P w K mg base 3 "_law_pool" ["_law_deck_here", "_law_many_here"] Sp__law_pool := by
  obtain ⟨f, fd, F, m⟩ := d
  refine ⟨f, fd, dfn (k := 2) (S := Sp__law_pool) F sc__law_pool ?len (fun cdv A outer s H E hr => (dss_cons (ds_setLc (i := 2) (own := [("_law_k", 3)]) sc__law_pool.nd (di_range1 m_range (da_cons (de_v 1) da_nil)) (blkOk_by (own := [("_law_k", 3)]) (N := ["_law_deck_here", "_law_many_here", "_law_found", "_law_k"]) (sc := defScope s__law_pool) (by decide +kernel)) (fun _ _ _ _ _ => dg_name (i := 3) sc__law_pool.nd) (fun _ _ _ _ _ => dts_nil) (fun _ _ _ _ _ => (de_callC c__law_name (hr.mono (by decide)) (da_cons (de_v 0) da_nil))) (fun _ _ _ h => snd_setL (m := false) (i := 2) h))
      (dss_cons (ds_if (dp_lt (de_len m_len (da_cons (de_ix (de_v 2) de_int) da_nil)) de_int) (dss_one (ds_setIx true (i := 2) de_int (de_add (de_ix (de_v 2) de_int) (de_ix de_str (de_callC c__law_next (hr.mono (by decide)) (da_cons (de_v 0) (da_cons de_int da_nil))))))) (dss_one (ds_setIx true (i := 2) de_int (de_sl (de_ix (de_v 2) de_int) do_none (do_some de_int)))))
      (dss_one (ds_ret (de_v 2)))))) ?h, F.kp, F.binds fun _ _ _ _ _ _ us hl => match us, hl with | [_, _], _ => rfl, m⟩
  case len =>
    intro g ds n Q h; obtain ⟨_, _, _, rfl, _⟩ := h; rfl
  case h =>
    intro g ds n Q h
    obtain ⟨k, m, rfl, rfl, hm0, hm1, hf, q⟩ := h
    refine ⟨by omega, by omega, by rw [intsD_len]; exact Nat.le_trans (by omega : (m : Int).toNat ≤ 20) (by decide), ?_⟩
    refine dLcGo_each (P := fun y => ∃ s, y = .str s ∧ isName s) 9 _ _ _ (by rw [intsD_len]; omega) (fun d _ => ⟨_, rfl, fun f Q hf hq => ⟨k, rfl, rfl, hf, fun s f' hs hf' => hq _ _ ⟨s, rfl, hs⟩ hf'⟩⟩) (fun ys f' hl hy hf' => ?_)
    rw [intsD_len] at hl hf'
    obtain ⟨l, rfl, hl2⟩ := strs_of hy
    rw [List.length_map] at hl
    obtain ⟨a, b, t, rfl⟩ : ∃ a b t, l = a :: b :: t := by
      match l, hl with
      | a :: b :: t, _ => exact ⟨a, b, t, rfl⟩
      | [], hl => simp at hl; omega
      | [a], hl => simp at hl; omega
    have ha : isName a := hl2 a (by simp)
    have hal : a.length ≤ lim := Nat.le_trans ha.2.1 (by decide)
    have ix1 : ixN ((D.str a :: D.str b :: t.map D.str).length) 1 = some 1 := by
      unfold ixN
      rw [if_pos (by decide), if_pos (by simp only [List.length_cons]; omega)]
      rfl
    have done : ∀ (x : Str) (f'' : Nat), isName x → n ≤ f'' + (9 * m + 1) → Q (.lst ((a :: x :: t).map D.str)) f'' := fun x f'' hx hf'' => q (a :: x :: t) f'' (by simpa using hl) (fun s hs => by
      simp only [List.mem_cons] at hs
      rcases hs with rfl | rfl | hs
      · exact ha
      · exact hx
      · exact hl2 s (by simp [hs])) hf''
    refine ⟨.str a, atI0, hal, ?_⟩
    show if decide ((a.length : Int) < 8) = true then _ else _
    by_cases hc : (a.length : Int) < 8
    · rw [decide_eq_true hc]
      refine iteT ?_
      obtain ⟨f2, rfl⟩ : ∃ f2, f' = f2 + 1 := ⟨f' - 1, by omega⟩
      refine ⟨_, rfl, .str a, atI0, k, 26, f2, rfl, rfl, by decide, by decide, rfl, fun r h0 h1 => ?_⟩
      obtain ⟨c, hcc, hb⟩ := letters_at h0 h1
      refine ⟨by decide +kernel, c, hcc, Nat.le_trans (by show a.length + 1 ≤ 9; omega) (by decide : 9 ≤ lim), rfl, 1, ix1, ?_⟩
      refine done (a ++ ⟨#[c]⟩) f2 ⟨?_, ?_, fun d hd => ?_⟩ (by omega)
      · rw [TL.len_tl, TL.tl_append, List.length_append]; have := ha.1; rw [TL.len_tl] at this; omega
      · rw [TL.len_tl, TL.tl_append, List.length_append]; rw [TL.len_tl] at hc; show (TL.tl a).length + 1 ≤ 8; omega
      · have hd : d ∈ TL.tl (a ++ ⟨#[c]⟩) := hd
        rw [TL.tl_append] at hd
        rcases List.mem_append.mp hd with e | e
        · exact ha.2.2 d e
        · rw [List.mem_singleton.mp e]; exact hb
    · rw [decide_eq_false hc]
      refine iteF ?_
      refine ⟨_, rfl, .str a, atI0, hal, rfl, 1, ix1, ?_⟩
      have e8 : a.length = 8 := by have := ha.2.1; omega
      have ec : cd (cutS a none (some 7)) = (cd a).take 7 := by
        show ((a.cps.toList.drop (HT.sIx a.length 0 none)).take (HT.sIx a.length a.length (some 7) - HT.sIx a.length 0 none)) = _
        rw [HT.sIx_none, show HT.sIx a.length a.length (some 7) = min 7 a.length from HT.sIx_nat a.length a.length 7, e8]
        rfl
      have el : (cutS a none (some 7)).length = 7 := by
        rw [TL.len_tl]
        show (cd (cutS a none (some 7))).length = 7
        rw [ec, List.length_take]
        rw [TL.len_tl] at e8
        show min 7 (TL.tl a).length = 7
        omega
      refine done (cutS a none (some 7)) f' ⟨by omega, by omega, fun d hd => ?_⟩ (by omega)
      rw [ec] at hd
      exact ha.2.2 d (List.mem_of_mem_take hd)
/-! is_pair -/
abbrev s_is_pair : Stmt := topS 19
theorem sc_is_pair : FnScope ["value"] ["value"] (defScope s_is_pair) := ⟨rfl, rfl, rfl, by decide +kernel, rfl, by decide +kernel, by decide +kernel⟩
def isPrg : D → Bool
  | .obj c _ _ => decide (c = "Program")
  | _ => false
def okO (x : D) : Prop := x.tyd = true ∨ isPrg x = true
def strNe : D → D → Bool
  | .str a, .str b => decide (a ≠ b)
  | _, _ => false
def pairL : List D → Bool
  | [] => false
  | a :: r => match r with
    | [] => false
    | b :: r2 => match r2 with
      | [] => strNe a b
      | _ :: _ => false
def pairB : D → Bool
  | .tup xs => pairL xs
  | _ => false
def Sp_is_pair : DSp := fun _ ds f Q => ∃ x : D, ds = [x] ∧ okO x ∧ Q (.bool (pairB x)) f
set_option maxHeartbeats 2000000 in
theorem ok_is_pair (d : Df K mg "is_pair" s_is_pair) (m_str : mg "str" = none) (m_isinstance : mg "isinstance" = none) (m_len : mg "len" = none) (m_tuple : mg "tuple" = none) {C_Program : Addr} (o_Program : KO K "Program" C_Program) : Cal P w K mg base 1 "is_pair" ["value"] Sp_is_pair := by
  obtain ⟨f, fd, F, m⟩ := d
  refine ⟨f, fd, dfn (k := 0) (S := Sp_is_pair) F sc_is_pair ?len (fun cdv A outer s H E hr => (dss_cons (ds_if (DW.p (dw_or (dp_not (dp_val (de_isiO o_Program m_isinstance (da_cons (de_v 0) (da_cons (de_bltn (v := .ty "tuple") (u := .type "tuple") (by rfl) m_tuple (by decide +kernel) rfl) da_nil))))) (dw_or1 (dp_ne hr.units (de_len m_len (da_cons (de_v 0) da_nil)) de_int)))) (dss_one (ds_ret de_bl)) dss_nil)
      (dss_one (ds_ret (de_and (de_isiO o_Program m_isinstance (da_cons (de_ix (de_v 0) de_int) (da_cons (de_bltn (v := .ty "str") (u := .type "str") (by rfl) m_str (by decide +kernel) rfl) da_nil))) (de_and (de_isiO o_Program m_isinstance (da_cons (de_ix (de_v 0) de_int) (da_cons (de_bltn (v := .ty "str") (u := .type "str") (by rfl) m_str (by decide +kernel) rfl) da_nil))) (de_one (de_ne hr.units (de_ix (de_v 0) de_int) (de_ix (de_v 0) de_int))))))))) ?h, F.kp, F.binds fun _ _ _ _ _ _ us hl => match us, hl with | [_], _ => rfl, m⟩
  case len =>
    intro g ds n Q h; obtain ⟨_, rfl, _⟩ := h; rfl
  case h =>
    intro g ds n Q h
    obtain ⟨x, rfl, hx, q⟩ := h
    cases x with
    | tup xs =>
      have hxs : tydA xs = true := by
        rcases hx with h | h
        · exact h
        · cases h
      refine ⟨"tuple", true, rfl, by decide +kernel, ?_⟩
      match xs, hxs, q with
      | [], _, q => exact q
      | [_], _, q => exact q
      | [a, b], hxs, q =>
        have h2 : a.tyd = true ∧ b.tyd = true := by
          have := Bool.and_eq_true_iff.mp hxs
          exact ⟨this.1, (Bool.and_eq_true_iff.mp this.2).1⟩
        refine ⟨a, atI0, ?_⟩
        cases a with
        | str sa =>
          refine ⟨"str", true, rfl, by decide +kernel, b, atI_nat (j := 1) rfl, ?_⟩
          cases b with
          | str sb =>
            refine ⟨"str", true, rfl, by decide +kernel, .str sa, atI0, .str sb, atI_nat (j := 1) rfl, ?_⟩
            have q : Q (.bool (decide (sa ≠ sb))) n := q
            have e : decide (sa ≠ sb) = !decide (sa = sb) := by by_cases h : sa = sb <;> simp [h]
            rw [e] at q
            exact q
          | any v => cases h2.2
          | obj _ _ _ => cases h2.2
          | exn _ _ _ => cases h2.2
          | _ => exact ⟨_, false, rfl, by decide +kernel, q⟩
        | any v => cases h2.1
        | obj _ _ _ => cases h2.1
        | exn _ _ _ => cases h2.1
        | _ => exact ⟨_, false, rfl, by decide +kernel, q⟩
      | a :: b :: c :: l, _, q =>
        have e : (!decide (((a :: b :: c :: l).length : Int) = 2)) = true := by
          rw [decide_eq_false (by simp only [List.length_cons]; omega)]
          rfl
        refine iteF ?_
        exact q
    | any v =>
      rcases hx with h | h
      · cases h
      · cases h
    | exn _ _ _ =>
      rcases hx with h | h
      · cases h
      · cases h
    | obj c ns xs =>
      rcases hx with h | h
      · cases h
      · exact ⟨of_decide_eq_true h, .inl rfl, q⟩
    | _ => exact ⟨_, false, rfl, by decide +kernel, q⟩
/-! is_name -/
abbrev s_is_name : Stmt := topS 13
theorem sc_is_name : FnScope ["value", "sign"] ["value"] (defScope s_is_name) := ⟨rfl, rfl, rfl, by decide +kernel, rfl, by decide +kernel, by decide +kernel⟩
def letL : List Nat := (Str.ofString "abcdefghijklmnopqrstuvwxyz").cps.toList
def nmB (s : Str) : Bool := decide (1 ≤ s.length) && decide (s.length ≤ 8) && (cd s).all fun c => decide (c ∈ letL)
def Sp_is_name : DSp := fun _ ds f Q => ∃ s : Str, ds = [.str s] ∧ s.length ≤ 100000 ∧ Q (.bool (nmB s)) f
set_option maxHeartbeats 2000000 in
theorem ok_is_name (d : Df K mg "is_name" s_is_name) (m_all : mg "all" = none) (m_len : mg "len" = none) (m_str : mg "str" = none) (m_isinstance : mg "isinstance" = none) (g_LETTERS : ∃ t, mg "LETTERS" = some (.str "abcdefghijklmnopqrstuvwxyz" t)) (g_MAX_LETTERS : ∃ t, mg "MAX_LETTERS" = some (.int 8 t)) : Cal P w K mg base 1 "is_name" ["value"] Sp_is_name := by
  obtain ⟨f, fd, F, m⟩ := d
  refine ⟨f, fd, dfn (k := 0) (S := Sp_is_name) F sc_is_name ?len (fun cdv A outer s H E hr => (dss_one (ds_ret (de_and (de_isi m_isinstance (da_cons (de_v 0) (da_cons (de_bltn (v := .ty "str") (u := .type "str") (by rfl) m_str (by decide +kernel) rfl) da_nil))) (de_and (de_lele de_int (de_len m_len (da_cons (de_v 0) da_nil)) (de_glob (v := .int 8) (d := .int 8) (by rfl) g_MAX_LETTERS.choose_spec ⟨_, rfl⟩ (fun _ => rfl))) (de_one (de_callB (cr_all rfl) sc_all (by rfl) m_all (by decide +kernel) (da_cons (dl_lc (own := [("sign", 1)]) rfl sc_is_name.nd (di_seq (de_v 0)) (blkOk_by (own := [("sign", 1)]) (N := ["value", "sign"]) (sc := defScope s_is_name) (by decide +kernel)) (fun _ _ _ _ _ => dg_name (i := 1) sc_is_name.nd) (fun _ _ _ _ _ => dts_nil) (fun _ _ _ _ _ => (de_in hr (de_v 1) (de_glob (v := .str "abcdefghijklmnopqrstuvwxyz") (d := .str "abcdefghijklmnopqrstuvwxyz") (by rfl) g_LETTERS.choose_spec ⟨_, rfl⟩ (fun _ => rfl))))).e da_nil)))))))) ?h, F.kp, F.binds fun _ _ _ _ _ _ us hl => match us, hl with | [_], _ => rfl, m⟩
  case len =>
    intro g ds n Q h; obtain ⟨_, rfl, _⟩ := h; rfl
  case h =>
    intro g ds n Q h
    obtain ⟨s, rfl, hl, q⟩ := h
    refine ⟨"str", true, rfl, by decide +kernel, Nat.le_trans hl (by decide), ?_⟩
    unfold nmB at q
    show if decide ((1 : Int) ≤ (s.length : Int)) = true then _ else _
    by_cases h1 : 1 ≤ s.length
    · rw [decide_eq_true (by omega : (1 : Int) ≤ s.length)]
      rw [decide_eq_true h1, Bool.true_and] at q
      show if decide ((s.length : Int) ≤ 8) = true then _ else _
      by_cases h2 : s.length ≤ 8
      · rw [decide_eq_true (by omega : (s.length : Int) ≤ 8)]
        rw [decide_eq_true h2, Bool.true_and] at q
        refine ⟨?_, ?_⟩
        · unfold signs; rw [List.length_map]; rw [TL.len_tl] at h2; exact Nat.le_trans h2 (by decide)
        refine dLcGo_pure (fun _ => true) (fun d => match d with | .str z => .bool ((cd z).all fun c => decide (c ∈ letL)) | _ => .none) _ _ _ (fun d hd => ?_) ?_
        · unfold signs at hd
          obtain ⟨c, hc, rfl⟩ := List.mem_map.mp hd
          refine ⟨_, rfl, fun f Q h => h, fun _ f Q h => ⟨c, rfl, ?_⟩⟩
          have : ((cd (⟨#[c]⟩ : Str)).all fun c => decide (c ∈ letL)) = decide (c ∈ letL) := by show ([c].all fun c => decide (c ∈ letL)) = _; simp
          have h : Q (.bool ((cd (⟨#[c]⟩ : Str)).all fun c => decide (c ∈ letL))) f := h
          rw [this] at h
          exact h
        · refine ⟨(cd s).map fun c => decide (c ∈ letL), ?_, ?_⟩
          · rw [List.filter_eq_self.mpr (fun _ _ => rfl), List.nil_append]
            unfold signs
            rw [List.map_map, List.map_map]
            apply List.map_congr_left
            intro c _
            show D.bool ((cd (⟨#[c]⟩ : Str)).all fun c => decide (c ∈ letL)) = D.bool (decide (c ∈ letL))
            congr 1
            show ([c].all fun c => decide (c ∈ letL)) = _
            simp
          · rw [show (((cd s).map fun c => decide (c ∈ letL)).all id) = (cd s).all fun c => decide (c ∈ letL) from by rw [List.all_map]; rfl]
            exact q
      · rw [decide_eq_false (by omega : ¬ (s.length : Int) ≤ 8)]
        rw [decide_eq_false h2, Bool.false_and] at q
        exact q
    · rw [decide_eq_false (by omega : ¬ (1 : Int) ≤ s.length)]
      rw [decide_eq_false h1, Bool.false_and, Bool.false_and] at q
      exact q
/-! is_path -/
abbrev s_is_path : Stmt := topS 14
theorem sc_is_path : FnScope ["value", "names", "name"] ["value"] (defScope s_is_path) := ⟨rfl, rfl, rfl, by decide +kernel, rfl, by decide +kernel, by decide +kernel⟩
def pathB (s : Str) : Bool := decide ((Txt.split s ".").length ≤ 6) && (Txt.split s ".").all nmB
def isPathD : D → Bool
  | .str s => pathB s
  | _ => false
def Sp_is_path : DSp := fun _ ds f Q => ∃ x : D, ds = [x] ∧ x.tyd = true ∧ (∀ s, x = .str s → s.length ≤ 100000) ∧ Q (.bool (isPathD x)) f
theorem tyd_isi {x : D} (h : x.tyd = true) : ∃ t, x.tyN = some t ∧ kitB t "str" = some x.isSt := by
  cases x <;> first
    | (cases h; done)
    | (refine ⟨_, rfl, ?_⟩; simp only [D.isSt]; decide +kernel)
theorem split_len (s : Str) : (Txt.split s ".").length ≤ s.length + 1 := by
  have h := split_cd s
  have e : (Txt.split s ".").length = (sp (cd s)).length := by rw [← h, List.length_map]
  have : ∀ l : List Nat, (sp l).length ≤ l.length + 1 := by
    intro l
    induction l with
    | nil => exact Nat.le_refl _
    | cons c r ih =>
      unfold sp
      split
      · simp only [List.length_cons]; omega
      · cases e : sp r with
        | nil => simp
        | cons a t => rw [e] at ih; simp only [List.length_cons] at ih ⊢; omega
  rw [e, TL.len_tl]
  exact this _
theorem split_part_len {s x : Str} (h : x ∈ Txt.split s ".") : x.length ≤ s.length := by
  have hm : cd x ∈ sp (cd s) := by rw [← split_cd]; exact List.mem_map_of_mem h
  have : ∀ (l n : List Nat), n ∈ sp l → n.length ≤ l.length := by
    intro l
    induction l with
    | nil => intro n hn; simp [sp] at hn; simp [hn]
    | cons c r ih =>
      intro n hn
      unfold sp at hn
      split at hn
      · rcases List.mem_cons.mp hn with e | e
        · simp [e]
        · have := ih n e; simp only [List.length_cons]; omega
      · cases e : sp r with
        | nil => exact absurd e (sp_ne r)
        | cons a t =>
          rw [e] at hn ih
          rcases List.mem_cons.mp hn with e' | e'
          · subst e'; have := ih a (by simp); simp only [List.length_cons]; omega
          · have := ih n (by simp [e']); simp only [List.length_cons]; omega
  rw [TL.len_tl, TL.len_tl]
  exact this _ _ hm
set_option maxHeartbeats 2000000 in
theorem ok_is_path (d : Df K mg "is_path" s_is_path) (m_all : mg "all" = none) (m_len : mg "len" = none) (m_str : mg "str" = none) (m_isinstance : mg "isinstance" = none) (g_MAX_NAMES : ∃ t, mg "MAX_NAMES" = some (.int 6 t)) (c_is_name : Cal P w K mg base 1 "is_name" ["value"] Sp_is_name) : Cal P w K mg base 2 "is_path" ["value"] Sp_is_path := by
  obtain ⟨f, fd, F, m⟩ := d
  refine ⟨f, fd, dfn (k := 1) (S := Sp_is_path) F sc_is_path ?len (fun cdv A outer s H E hr => (dss_cons (ds_if (dp_not (dp_val (de_isi m_isinstance (da_cons (de_v 0) (da_cons (de_bltn (v := .ty "str") (u := .type "str") (by rfl) m_str (by decide +kernel) rfl) da_nil))))) (dss_one (ds_ret de_bl)) dss_nil)
      (dss_cons (ds_set false (i := 1) sc_is_path.nd (dl_split (de_v 0) de_str).e)
      (dss_one (ds_ret (de_and (de_le (de_len m_len (da_cons (de_v 1) da_nil)) (de_glob (v := .int 6) (d := .int 6) (by rfl) g_MAX_NAMES.choose_spec ⟨_, rfl⟩ (fun _ => rfl))) (de_one (de_callB (cr_all rfl) sc_all (by rfl) m_all (by decide +kernel) (da_cons (dl_lc (own := [("name", 2)]) rfl sc_is_path.nd (di_seq (de_v 1)) (blkOk_by (own := [("name", 2)]) (N := ["value", "names", "name"]) (sc := defScope s_is_path) (by decide +kernel)) (fun _ _ _ _ _ => dg_name (i := 2) sc_is_path.nd) (fun _ _ _ _ _ => dts_nil) (fun _ _ _ _ _ => (de_callC c_is_name (hr.mono (by decide)) (da_cons (de_v 2) da_nil)))).e da_nil))))))))) ?h, F.kp, F.binds fun _ _ _ _ _ _ us hl => match us, hl with | [_], _ => rfl, m⟩
  case len =>
    intro g ds n Q h; obtain ⟨_, rfl, _⟩ := h; rfl
  case h =>
    intro g ds n Q h
    obtain ⟨x, rfl, hx, hl, q⟩ := h
    obtain ⟨t, ht, hk⟩ := tyd_isi hx
    refine ⟨t, _, ht, hk, ?_⟩
    cases x with
    | str s =>
      have hs := hl s rfl
      refine ⟨by decide +kernel, Nat.le_trans hs (by decide), ?_⟩
      show if decide ((((Txt.split s ".").map D.str).length : Int) ≤ 6) = true then _ else _
      rw [List.length_map]
      have q : Q (.bool (decide ((Txt.split s ".").length ≤ 6) && (Txt.split s ".").all nmB)) n := q
      by_cases h6 : (Txt.split s ".").length ≤ 6
      · rw [decide_eq_true (by omega : ((Txt.split s ".").length : Int) ≤ 6)]
        rw [decide_eq_true h6, Bool.true_and] at q
        refine ⟨by rw [List.length_map]; exact Nat.le_trans h6 (by decide), ?_⟩
        refine dLcGo_pure (fun _ => true) (fun d => match d with | .str z => .bool (nmB z) | _ => .none) _ _ _ (fun d hd => ?_) ?_
        · obtain ⟨z, hz, rfl⟩ := List.mem_map.mp hd
          exact ⟨_, rfl, fun f Q h => h, fun _ f Q h => ⟨z, rfl, Nat.le_trans (split_part_len hz) hs, h⟩⟩
        · refine ⟨(Txt.split s ".").map nmB, ?_, ?_⟩
          · rw [List.filter_eq_self.mpr (fun _ _ => rfl), List.nil_append, List.map_map, List.map_map]; rfl
          · rw [show (((Txt.split s ".").map nmB).all id) = (Txt.split s ".").all nmB from by rw [List.all_map]; rfl]
            exact q
      · rw [decide_eq_false (by omega : ¬ ((Txt.split s ".").length : Int) ≤ 6)]
        rw [decide_eq_false h6, Bool.false_and] at q
        exact q
    | obj _ _ _ => cases hx
    | any _ => cases hx
    | _ => exact q
/-! covers -/
abbrev s_covers : Stmt := topS 15
theorem sc_covers : FnScope ["path", "other"] ["path", "other"] (defScope s_covers) := ⟨rfl, rfl, rfl, by decide +kernel, rfl, by decide +kernel, by decide +kernel⟩
def Sp_covers : DSp := fun _ ds f Q => ∃ p o : Str, ds = [.str p, .str o] ∧ p.length ≤ 100000 ∧ Q (.bool (cov p o)) f
set_option maxHeartbeats 2000000 in
theorem ok_covers (d : Df K mg "covers" s_covers) : Cal P w K mg base 1 "covers" ["path", "other"] Sp_covers := by
  obtain ⟨f, fd, F, m⟩ := d
  refine ⟨f, fd, dfn (k := 0) (S := Sp_covers) F sc_covers ?len (fun cdv A outer s H E hr => (dss_one (ds_ret (de_or (de_eq hr.units (de_v 1) (de_v 0)) (de_one (de_starts (de_v 1) (de_add (de_v 0) de_str))))))) ?h, F.kp, F.binds fun _ _ _ _ _ _ us hl => match us, hl with | [_, _], _ => rfl, m⟩
  case len =>
    intro g ds n Q h; obtain ⟨_, _, rfl, _⟩ := h; rfl
  case h =>
    intro g ds n Q h
    obtain ⟨p, o, rfl, hl, q⟩ := h
    unfold cov at q
    show if decide (o = p) = true then Q (.bool true) n else _
    cases e : decide (o = p) with
    | true => rw [e] at q; exact q
    | false =>
      rw [e] at q
      refine iteF ⟨trivial, ?_, q⟩
      exact Nat.le_trans (Nat.add_le_add_right hl 1) (by decide)
/-! overlap -/
abbrev s_overlap : Stmt := topS 16
theorem sc_overlap : FnScope ["path", "other"] ["path", "other"] (defScope s_overlap) := ⟨rfl, rfl, rfl, by decide +kernel, rfl, by decide +kernel, by decide +kernel⟩
def Sp_overlap : DSp := fun _ ds f Q => ∃ p o : Str, ds = [.str p, .str o] ∧ p.length ≤ 100000 ∧ o.length ≤ 100000 ∧ Q (.bool (cov p o || cov o p)) f
set_option maxHeartbeats 2000000 in
theorem ok_overlap (d : Df K mg "overlap" s_overlap) (c_covers : Cal P w K mg base 1 "covers" ["path", "other"] Sp_covers) : Cal P w K mg base 2 "overlap" ["path", "other"] Sp_overlap := by
  obtain ⟨f, fd, F, m⟩ := d
  refine ⟨f, fd, dfn (k := 1) (S := Sp_overlap) F sc_overlap ?len (fun cdv A outer s H E hr => (dss_one (ds_ret (de_or (de_callC c_covers (hr.mono (by decide)) (da_cons (de_v 0) (da_cons (de_v 1) da_nil))) (de_one (de_callC c_covers (hr.mono (by decide)) (da_cons (de_v 1) (da_cons (de_v 0) da_nil)))))))) ?h, F.kp, F.binds fun _ _ _ _ _ _ us hl => match us, hl with | [_, _], _ => rfl, m⟩
  case len =>
    intro g ds n Q h; obtain ⟨_, _, rfl, _⟩ := h; rfl
  case h =>
    intro g ds n Q h
    obtain ⟨p, o, rfl, h1, h2, q⟩ := h
    refine ⟨p, o, rfl, h1, ?_⟩
    cases e : cov p o with
    | true => rw [e] at q; exact q
    | false =>
      rw [e] at q
      exact ⟨o, p, rfl, h2, q⟩
/-! first_overlap -/
abbrev s_first_overlap : Stmt := topS 17
theorem sc_first_overlap : FnScope ["paths", "others", "path", "other"] ["paths", "others"] (defScope s_first_overlap) := ⟨rfl, rfl, rfl, by decide +kernel, rfl, by decide +kernel, by decide +kernel⟩
def ovl (p o : Str) : Bool := cov p o || cov o p
def firstOv (ps os : List Str) : D := match ps.find? fun p => os.any (ovl p) with
  | some p => .str p
  | none => .none
def short (l : List Str) : Prop := l.length ≤ 1000 ∧ ∀ s ∈ l, s.length ≤ 10000 ∧ asc s
def Sp_first_overlap : DSp := fun _ ds f Q => ∃ ps os : List Str, ds = [.tup (ps.map D.str), .tup (os.map D.str)] ∧ short ps ∧ short os ∧ Q (firstOv ps os) f
theorem any_filter (os : List Str) (b : Str → Bool) : decide (os.filter b = []) = !os.any b := by
  induction os with
  | nil => rfl
  | cons x l ih =>
    rw [List.filter_cons, List.any_cons]
    cases b x with
    | true => simp
    | false => simpa using ih
set_option maxHeartbeats 2000000 in
theorem ok_first_overlap (d : Df K mg "first_overlap" s_first_overlap) (c_overlap : Cal P w K mg base 2 "overlap" ["path", "other"] Sp_overlap) : Cal P w K mg base 3 "first_overlap" ["paths", "others"] Sp_first_overlap := by
  obtain ⟨f, fd, F, m⟩ := d
  refine ⟨f, fd, dfn (k := 2) (S := Sp_first_overlap) F sc_first_overlap ?len (fun cdv A outer s H E hr => (dss_cons (ds_for [] PassesOwn.never (di_seq (de_v 0)) (dg_name (i := 2) sc_first_overlap.nd) (dss_one (ds_if (dp_ne hr.units (dl_lc (own := [("other", 3)]) rfl sc_first_overlap.nd (di_seq (de_v 1)) (blkOk_by (own := [("other", 3)]) (N := ["paths", "others", "path", "other"]) (sc := defScope s_first_overlap) (by decide +kernel)) (fun _ _ _ _ _ => dg_name (i := 3) sc_first_overlap.nd) (fun _ _ _ _ _ => dts_one (dp_val (de_callC c_overlap (hr.mono (by decide)) (da_cons (de_v 2) (da_cons (de_v 3) da_nil))))) (fun _ _ _ _ _ => (de_v 3))).e (dl_lst da_nil).e) (dss_one (ds_ret (de_v 2))) dss_nil)))
      (dss_one (ds_ret de_non)))) ?h, F.kp, F.binds fun _ _ _ _ _ _ us hl => match us, hl with | [_, _], _ => rfl, m⟩
  case len =>
    intro g ds n Q h; obtain ⟨_, _, rfl, _⟩ := h; rfl
  case h =>
    intro g ds n Q h
    obtain ⟨ps, os, rfl, hp, ho, q⟩ := h
    refine dFor_inv (fun rest r f => f = n ∧ ∃ (ms : List Str) (a c e : Sl), rest = ms.map D.str ∧ r = [a, .sh (.tup (os.map D.str)), c, e] ∧ (∀ m ∈ ms, m ∈ ps) ∧ firstOv ms os = firstOv ps os) _ _ _ ?_ ?_ ⟨rfl, ps, _, _, _, rfl, rfl, fun _ h => h, rfl⟩
    · rintro d rest r f N ⟨rfl, ms, a, c, e, hms, rfl, hsub, heq⟩ hN
      match ms, hms with
      | m :: ms, hms =>
      obtain ⟨rfl, rfl⟩ := List.cons.inj hms
      refine ⟨_, rfl, ?_⟩
      have hm := hp.2 m (hsub m (by simp))
      refine ⟨by rw [List.length_map]; exact Nat.le_trans ho.1 (by decide), ?_⟩
      refine dLcGo_pure (fun d => match d with | .str z => ovl m z | _ => false) id _ _ _ (fun d hd => ?_) ?_
      · obtain ⟨z, hz, rfl⟩ := List.mem_map.mp hd
        have hz' := ho.2 z hz
        exact ⟨_, rfl, fun f Q h => ⟨m, z, rfl, Nat.le_trans hm.1 (by decide), Nat.le_trans hz'.1 (by decide), h⟩, fun _ f Q h => h⟩
      · rw [List.map_id, List.nil_append, filter_strs _ (ovl m) _ (fun s => rfl)]
        refine ⟨by decide, ?_⟩
        show oEq true (.lst ((os.filter (ovl m)).map D.str)) (.lst (([] : List Str).map D.str)) _
        refine oEq_lst (m := []) (fun s hs => (ho.2 s (List.mem_filter.mp hs).1).2) (by simp) ?_
        show if (!decide (os.filter (ovl m) = [])) = true then _ else _
        rw [any_filter, Bool.not_not]
        unfold firstOv at heq
        rw [List.find?_cons] at heq
        cases hb : os.any (ovl m) with
        | true =>
          rw [hb] at heq
          have : firstOv ps os = .str m := heq.symm
          rw [this] at q
          exact q
        | false =>
          rw [hb] at heq
          exact hN _ _ ⟨rfl, ms, _, _, _, rfl, rfl, fun m' h' => hsub m' (by simp [h']), heq⟩
    · rintro r f ⟨rfl, ms, a, c, e, hms, rfl, hsub, heq⟩
      obtain rfl : ms = [] := by
        match ms, hms with
        | [], _ => rfl
      rw [← heq] at q
      exact q
/-! modules_error -/
abbrev s_modules_error : Stmt := topS 20
theorem sc_modules_error : FnScope ["modules", "index", "path"] ["modules"] (defScope s_modules_error) := ⟨rfl, rfl, rfl, by decide +kernel, rfl, by decide +kernel, by decide +kernel⟩
structure PVm (ms : List Str) : Prop where
  len : ms.length ≤ 24
  path : ∀ m ∈ ms, PathN 6 m
  apart : ms.Pairwise fun a b => ovl b a = false
theorem isName_nmB {s : Str} (h : isName s) : nmB s = true := by
  unfold nmB
  rw [decide_eq_true h.1, decide_eq_true h.2.1]
  show (cd s).all _ = true
  rw [List.all_eq_true]
  intro c hc
  have hb := h.2.2 c hc
  have : ∀ c : Nat, 97 ≤ c → c ≤ 122 → c ∈ letL := by
    intro c h1 h2
    have h3 : c < 123 := by omega
    revert h1 h2
    have : ∀ c < 123, 97 ≤ c → c ≤ 122 → c ∈ letL := by decide +kernel
    exact this c h3
  exact decide_eq_true (this c hb.1 hb.2)
theorem PathN.splits {m : Nat} {x : Str} (h : PathN m x) : 1 ≤ (Txt.split x ".").length ∧ (Txt.split x ".").length ≤ m ∧ (∀ n ∈ Txt.split x ".", isName n) ∧ Txt.join "." (Txt.split x ".") = x := by
  obtain ⟨ns, n1, n2, n3, rfl⟩ := h
  rw [split_join_names (fun z => by rw [z] at n1; simp at n1) n3]
  exact ⟨n1, n2, n3, rfl⟩
theorem PathN.pathB {x : Str} (h : PathN 6 x) : pathB x = true := by
  obtain ⟨h1, h2, h3, h4⟩ := h.splits
  unfold DL.pathB
  rw [decide_eq_true h2, Bool.true_and, List.all_eq_true]
  exact fun n hn => isName_nmB (h3 n hn)
theorem PVm.perm {l m : List Str} (h : PVm m) (p : l.Perm m) : PVm l where
  len := by rw [p.length_eq]; exact h.len
  path := fun s hs => h.path s (p.mem_iff.mp hs)
  apart := h.apart.perm p.symm fun {a b} e => by
    unfold ovl at e ⊢
    rw [Bool.or_comm]
    exact e
theorem PVm.sub {l m : List Str} (h : PVm m) (p : l.Sublist m) : PVm l := ⟨Nat.le_trans p.length_le h.len, fun s hs => h.path s (p.subset hs), h.apart.sublist p⟩
theorem ovl_self (m : Str) : ovl m m = true := by
  unfold ovl cov
  rw [decide_eq_true (rfl : m = m)]
  rfl
theorem PVm.nd {m : List Str} (h : PVm m) : m.Nodup := h.apart.imp fun {a b} e z => by
  rw [z, ovl_self] at e
  cases e
theorem PVm.asc {m : List Str} (h : PVm m) : ∀ s ∈ m, asc s := fun s hs => (h.path s hs).asc
theorem nmB_isName {s : Str} (h : nmB s = true) : isName s := by
  unfold nmB at h
  rw [Bool.and_eq_true, Bool.and_eq_true] at h
  refine ⟨of_decide_eq_true h.1.1, of_decide_eq_true h.1.2, fun c hc => ?_⟩
  have h2 := of_decide_eq_true (List.all_eq_true.mp h.2 c hc)
  have : ∀ c ∈ letL, 97 ≤ c ∧ c ≤ 122 := by decide +kernel
  exact this c h2
theorem pathB_PathN {s : Str} (h : pathB s = true) : PathN 6 s := by
  unfold pathB at h
  rw [Bool.and_eq_true, decide_eq_true_iff, List.all_eq_true] at h
  exact ⟨Txt.split s ".", split_pos s, h.1, fun n hn => nmB_isName (h.2 n hn), (join_split s).symm⟩
def stx : D → Str
  | .str s => s
  | _ => ""
def err2 (i : Nat) (s : Str) : D := .tup [.int i, .str s]
def mGo : List Str → List D → D
  | _, [] => .none
  | done, x :: r => if isPathD x = true then (if done.any (ovl (stx x)) = true then err2 done.length "overlap" else mGo (done ++ [stx x]) r) else err2 done.length "path"
theorem mGo_cons (done : List Str) (x : D) (r : List D) : mGo done (x :: r) = if isPathD x = true then (if done.any (ovl (stx x)) = true then err2 done.length "overlap" else mGo (done ++ [stx x]) r) else err2 done.length "path" := rfl
def modErr : D → D
  | .tup xs => if xs.length ≤ 24 then mGo [] xs else .tup [.none, .str "modules"]
  | _ => .tup [.none, .str "modules"]
theorem isPathD_str {x : D} (h : isPathD x = true) : ∃ s, x = .str s ∧ PathN 6 s := by
  cases x with
  | str s => exact ⟨s, rfl, pathB_PathN h⟩
  | _ => cases h
theorem gd_isT {x : D} (h : x.good = true) : ∃ t, x.tyN = some t ∧ kitB t "tuple" = some x.isTup := by
  cases x <;> first
    | (cases h; done)
    | (refine ⟨_, rfl, ?_⟩; simp only [D.isTup]; decide +kernel)
def Sp_modules_error : DSp := fun _ ds f Q => ∃ x : D, ds = [x] ∧ x.good = true ∧ (∀ xs, x = .tup xs → xs.length ≤ 100000) ∧ Q (modErr x) f
set_option maxHeartbeats 2000000 in
theorem ok_modules_error (d : Df K mg "modules_error" s_modules_error) (m_enumerate : mg "enumerate" = none) (m_len : mg "len" = none) (m_tuple : mg "tuple" = none) (m_isinstance : mg "isinstance" = none) (g_MAX_MODULES : ∃ t, mg "MAX_MODULES" = some (.int 24 t)) (c_first_overlap : Cal P w K mg base 3 "first_overlap" ["paths", "others"] Sp_first_overlap) (c_is_path : Cal P w K mg base 2 "is_path" ["value"] Sp_is_path) : Cal P w K mg base 4 "modules_error" ["modules"] Sp_modules_error := by
  obtain ⟨f, fd, F, m⟩ := d
  refine ⟨f, fd, dfn (k := 3) (S := Sp_modules_error) F sc_modules_error ?len (fun cdv A outer s H E hr => (dss_cons (ds_if (DW.p (dw_or (dp_not (dp_val (de_isi m_isinstance (da_cons (de_v 0) (da_cons (de_bltn (v := .ty "tuple") (u := .type "tuple") (by rfl) m_tuple (by decide +kernel) rfl) da_nil))))) (dw_or1 (dp_gt (de_len m_len (da_cons (de_v 0) da_nil)) (de_glob (v := .int 24) (d := .int 24) (by rfl) g_MAX_MODULES.choose_spec ⟨_, rfl⟩ (fun _ => rfl)))))) (dss_one (ds_ret (de_tup (da_cons de_non (da_cons de_str da_nil))))) dss_nil)
      (dss_cons (ds_for [] PassesOwn.never (di_enum m_enumerate (da_cons (de_v 0) da_nil)) (dg_tup rfl (dgs_cons (dg_name (i := 1) sc_modules_error.nd) (dgs_cons (dg_name (i := 2) sc_modules_error.nd) dgs_nil))) (dss_cons (ds_if (dp_not (dp_val (de_callC c_is_path (hr.mono (by decide)) (da_cons (de_v 2) da_nil)))) (dss_one (ds_ret (de_tup (da_cons (de_v 1) (da_cons de_str da_nil))))) dss_nil)
      (dss_one (ds_if (dp_notN (de_callC c_first_overlap (hr.mono (by decide)) (da_cons (de_tup (da_cons (de_v 2) da_nil)) (da_cons (de_sl (de_v 0) do_none (do_some (de_v 1))) da_nil))) de_non) (dss_one (ds_ret (de_tup (da_cons (de_v 1) (da_cons de_str da_nil))))) dss_nil))))
      (dss_one (ds_ret de_non))))) ?h, F.kp, F.binds fun _ _ _ _ _ _ us hl => match us, hl with | [_], _ => rfl, m⟩
  case len =>
    intro g ds n Q h; obtain ⟨_, rfl, _⟩ := h; rfl
  case h =>
    intro g ds n Q h
    obtain ⟨x, rfl, hx, hl, q⟩ := h
    obtain ⟨t, ht, hk⟩ := gd_isT hx
    refine ⟨t, _, ht, hk, ?_⟩
    cases x with
    | tup xs =>
      have q : Q (if xs.length ≤ 24 then mGo [] xs else .tup [.none, .str "modules"]) n := q
      show if decide (((xs.length : Int)) > 24) = true then _ else _
      by_cases h24 : xs.length ≤ 24
      · rw [if_pos h24] at q
        rw [decide_eq_false (by omega)]
        refine iteF ?_
        refine dFor_inv (fun rest r f => f = n ∧ ∃ (done : List Str) (rx : List D) (a c : Sl), xs = done.map D.str ++ rx ∧ rest = (enumD xs).drop done.length ∧ r = [.sh (.tup xs), a, c] ∧ (∀ s ∈ done, PathN 6 s) ∧ mGo done rx = mGo [] xs) _ _ _ ?_ ?_ ⟨rfl, [], xs, _, _, rfl, rfl, rfl, by simp, rfl⟩
        · rintro d rest r f N ⟨rfl, done, rx, a, c, ex, hr, rfl, hd, hm⟩ hN
          have hh : (enumD xs)[done.length]? = some d := by
            have := congrArg List.head? hr
            rw [List.head?_drop] at this
            exact this.symm
          obtain ⟨y, hy, rfl⟩ := enumD_get hh
          have hy2 : xs[done.length]? = rx[0]? := by
            rw [ex, List.getElem?_append_right (by rw [List.length_map]; omega), List.length_map, Nat.sub_self]
          cases rx with
          | nil => rw [hy2] at hy; cases hy
          | cons x rx =>
            obtain rfl : x = y := by rw [hy2] at hy; exact Option.some.inj hy
            have hxg : x.good = true := goodA_mem hx (by rw [ex]; simp)
            refine ⟨_, rfl, x, rfl, D.good_tyd hxg, fun s e => ?_, ?_⟩
            · subst e
              exact Nat.le_trans (good_strI hxg).2 (by decide)
            · show if (!isPathD x) = true then _ else _
              rw [mGo_cons] at hm
              cases hp : isPathD x with
              | false =>
                rw [hp, if_neg Bool.false_ne_true] at hm
                refine iteT ⟨show 2 ≤ lim by decide, ?_⟩
                rw [← hm] at q
                exact q
              | true =>
                rw [hp, if_pos rfl] at hm
                obtain ⟨s, rfl, hs⟩ := isPathD_str hp
                have et : cutD xs none (some (done.length : Int)) = done.map D.str := by
                  rw [cutD_take, ex, List.take_append_of_le_length (by rw [List.length_map]; omega), List.take_of_length_le (by rw [List.length_map]; omega)]
                have dl : done.length ≤ 24 := by
                  have := congrArg List.length ex
                  rw [List.length_append, List.length_map] at this
                  omega
                refine iteF ⟨show 1 ≤ lim by decide, [s], done, ?_, ⟨show 1 ≤ 1000 by decide, fun z hz => by rw [List.mem_singleton.mp hz]; exact ⟨Nat.le_trans hs.len (by decide), hs.asc⟩⟩, ⟨by omega, fun z hz => ⟨Nat.le_trans (hd z hz).len (by decide), (hd z hz).asc⟩⟩, ?_⟩
                · show [D.tup [D.str s], D.tup (cutD xs none (some (done.length : Int)))] = _
                  rw [et]
                  rfl
                · have hm : (if done.any (ovl s) = true then err2 done.length "overlap" else mGo (done ++ [s]) rx) = mGo [] xs := hm
                  unfold firstOv
                  rw [List.find?_cons]
                  cases ho : done.any (ovl s) with
                  | true =>
                    rw [ho, if_pos rfl] at hm
                    rw [← hm] at q
                    exact ⟨show 2 ≤ lim by decide, q⟩
                  | false =>
                    rw [ho, if_neg Bool.false_ne_true] at hm
                    refine hN _ _ ⟨rfl, done ++ [s], rx, _, _, by rw [ex]; simp, ?_, rfl, fun z hz => ?_, hm⟩
                    · rw [List.length_append, List.length_singleton, ← List.tail_drop, ← hr]
                      rfl
                    · rcases List.mem_append.mp hz with h | h
                      · exact hd z h
                      · rw [List.mem_singleton.mp h]; exact hs
        · rintro r f ⟨rfl, done, rx, a, c, ex, hr, rfl, hd, hm⟩
          have : rx = [] := by
            have h1 := congrArg List.length hr
            rw [List.length_drop, enumD_len] at h1
            have h2 := congrArg List.length ex
            rw [List.length_append, List.length_map] at h2
            have h1 : 0 = xs.length - done.length := h1
            exact List.length_eq_zero_iff.mp (by omega)
          subst this
          rw [← hm] at q
          exact q
      · rw [if_neg h24] at q
        rw [decide_eq_true (by omega)]
        exact iteT ⟨show 2 ≤ lim by decide, q⟩
    | obj _ _ _ => cases hx
    | exn _ _ _ => cases hx
    | any _ => cases hx
    | _ => exact ⟨show 2 ≤ lim by decide, q⟩
/-! uses_error -/
abbrev s_uses_error : Stmt := topS 21
theorem sc_uses_error : FnScope ["modules", "uses", "index", "use"] ["modules", "uses"] (defScope s_uses_error) := ⟨rfl, rfl, rfl, by decide +kernel, rfl, by decide +kernel, by decide +kernel⟩
structure PVu (ms : List Str) (us : List Us) : Prop where
  len : us.length ≤ 200
  mem : ∀ u ∈ us, u.1 ∈ ms ∧ u.2 ∈ ms ∧ u.1 ≠ u.2
  nd : us.Nodup
theorem PVu.asc {ms : List Str} {us : List Us} (hm : PVm ms) (h : PVu ms us) : ∀ u ∈ us, ascU u := fun u hu => ⟨(hm.path _ (h.mem u hu).1).asc, (hm.path _ (h.mem u hu).2.1).asc⟩
theorem PVu.perm {l m : List Str} {us vs : List Us} (h : PVu m us) (p : l.Perm m) (q : vs.Perm us) : PVu l vs where
  len := by rw [q.length_eq]; exact h.len
  mem := fun u hu => by
    obtain ⟨h1, h2, h3⟩ := h.mem u (q.mem_iff.mp hu)
    exact ⟨p.mem_iff.mpr h1, p.mem_iff.mpr h2, h3⟩
  nd := q.nodup_iff.mpr h.nd
theorem PVu.sub {m : List Str} {us vs : List Us} (h : PVu m us) (p : vs.Sublist us) : PVu m vs := ⟨Nat.le_trans p.length_le h.len, fun u hu => h.mem u (p.subset hu), h.nd.sublist p⟩
theorem mGo_none : ∀ (r : List D) (done : List Str), mGo done r = .none → ∃ rs : List Str, r = rs.map D.str ∧ (∀ s ∈ rs, PathN 6 s) ∧ (rs.Pairwise fun a b => ovl b a = false) ∧ ∀ s ∈ rs, ∀ d ∈ done, ovl s d = false
  | [], _, _ => ⟨[], rfl, by simp, .nil, by simp⟩
  | x :: r, done, h => by
    rw [mGo_cons] at h
    split at h
    · next hp =>
      obtain ⟨s, rfl, hs⟩ := isPathD_str hp
      split at h
      · cases h
      · next ho =>
        obtain ⟨rs, rfl, h1, h2, h3⟩ := mGo_none r _ h
        have ho : done.any (ovl s) = false := by
          cases hb : done.any (ovl s) with
          | false => rfl
          | true => exact absurd hb ho
        refine ⟨s :: rs, rfl, fun z hz => ?_, List.pairwise_cons.mpr ⟨fun z hz => h3 z hz s (by simp [stx]), h2⟩, fun z hz d hd => ?_⟩
        · rcases List.mem_cons.mp hz with rfl | e
          · exact hs
          · exact h1 z e
        · rcases List.mem_cons.mp hz with rfl | e
          · exact List.any_eq_false.mp ho d hd |> fun q => by simpa using q
          · exact h3 z e d (List.mem_append_left _ hd)
    · cases h
theorem modErr_none {x : D} (h : modErr x = .none) : ∃ ms : List Str, x = .tup (ms.map D.str) ∧ PVm ms := by
  cases x with
  | tup xs =>
    have h : (if xs.length ≤ 24 then mGo [] xs else .tup [.none, .str "modules"]) = D.none := h
    split at h
    · next hl =>
      obtain ⟨rs, rfl, h1, h2, _⟩ := mGo_none xs [] h
      exact ⟨rs, rfl, by rw [List.length_map] at hl; exact hl, h1, h2⟩
    · cases h
  | _ => cases h
def toU : D → Us
  | .tup [.str a, .str b] => (a, b)
  | _ => ("", "")
theorem pairB_pair {x : D} (h : pairB x = true) : ∃ u : Us, x = pairD u ∧ u.1 ≠ u.2 := by
  cases x with
  | tup xs =>
    match xs, h with
    | [a, b], h =>
      have h : strNe a b = true := h
      cases a with
      | str sa =>
        cases b with
        | str sb => exact ⟨(sa, sb), rfl, of_decide_eq_true h⟩
        | _ => cases h
      | _ => cases h
  | _ => cases h
theorem toU_pair (u : Us) : toU (pairD u) = u := rfl
def uB (ms : List Str) (x : D) : Bool := pairB x && (decide ((toU x).1 ∈ ms) && decide ((toU x).2 ∈ ms))
def uGo (ms : List Str) : List Us → List D → D
  | _, [] => .none
  | done, x :: r => if uB ms x = true then (if toU x ∈ done then err2 done.length "again" else uGo ms (done ++ [toU x]) r) else err2 done.length "use"
theorem uGo_cons (ms : List Str) (done : List Us) (x : D) (r : List D) : uGo ms done (x :: r) = if uB ms x = true then (if toU x ∈ done then err2 done.length "again" else uGo ms (done ++ [toU x]) r) else err2 done.length "use" := rfl
def useErr (ms : List Str) : D → D
  | .tup xs => if xs.length ≤ 200 then uGo ms [] xs else .tup [.none, .str "uses"]
  | _ => .tup [.none, .str "uses"]
theorem uB_pair {ms : List Str} {x : D} (h : uB ms x = true) : ∃ u : Us, x = pairD u ∧ u.1 ≠ u.2 ∧ u.1 ∈ ms ∧ u.2 ∈ ms := by
  unfold uB at h
  rw [Bool.and_eq_true, Bool.and_eq_true] at h
  obtain ⟨u, rfl, hu⟩ := pairB_pair h.1
  exact ⟨u, rfl, hu, of_decide_eq_true h.2.1, of_decide_eq_true h.2.2⟩
theorem uGo_none {ms : List Str} : ∀ (r : List D) (done : List Us), uGo ms done r = .none → ∃ us : List Us, r = us.map pairD ∧ (∀ u ∈ us, u.1 ∈ ms ∧ u.2 ∈ ms ∧ u.1 ≠ u.2) ∧ us.Nodup ∧ ∀ u ∈ us, u ∉ done
  | [], _, _ => ⟨[], rfl, by simp, .nil, by simp⟩
  | x :: r, done, h => by
    rw [uGo_cons] at h
    split at h
    · next hp =>
      obtain ⟨u, rfl, hu, hu1, hu2⟩ := uB_pair hp
      split at h
      · cases h
      · next ho =>
        obtain ⟨us, rfl, h1, h2, h3⟩ := uGo_none r _ h
        have ho : u ∉ done := ho
        refine ⟨u :: us, rfl, fun z hz => ?_, List.nodup_cons.mpr ⟨fun hz => h3 u hz (by simp [toU_pair]), h2⟩, fun z hz hd => ?_⟩
        · rcases List.mem_cons.mp hz with rfl | e
          · exact ⟨hu1, hu2, hu⟩
          · exact h1 z e
        · rcases List.mem_cons.mp hz with rfl | e
          · exact ho hd
          · exact h3 z e (List.mem_append_left _ hd)
    · cases h
theorem useErr_none {ms : List Str} {x : D} (h : useErr ms x = .none) : ∃ us : List Us, x = .tup (us.map pairD) ∧ PVu ms us := by
  cases x with
  | tup xs =>
    have h : (if xs.length ≤ 200 then uGo ms [] xs else .tup [.none, .str "uses"]) = D.none := h
    split at h
    · next hl =>
      obtain ⟨us, rfl, h1, h2, _⟩ := uGo_none xs [] h
      exact ⟨us, rfl, by rw [List.length_map] at hl; exact hl, h1, h2⟩
    · cases h
  | _ => cases h
def Sp_uses_error : DSp := fun _ ds f Q => ∃ (ms : List Str) (x : D), ds = [.tup (ms.map D.str), x] ∧ PVm ms ∧ x.good = true ∧ Q (useErr ms x) f
set_option maxHeartbeats 2000000 in
theorem ok_uses_error (d : Df K mg "uses_error" s_uses_error) (m_enumerate : mg "enumerate" = none) (m_len : mg "len" = none) (m_tuple : mg "tuple" = none) (m_isinstance : mg "isinstance" = none) (g_MAX_USES : ∃ t, mg "MAX_USES" = some (.int 200 t)) (c_is_pair : Cal P w K mg base 1 "is_pair" ["value"] Sp_is_pair) : Cal P w K mg base 2 "uses_error" ["modules", "uses"] Sp_uses_error := by
  obtain ⟨f, fd, F, m⟩ := d
  refine ⟨f, fd, dfn (k := 1) (S := Sp_uses_error) F sc_uses_error ?len (fun cdv A outer s H E hr => (dss_cons (ds_if (DW.p (dw_or (dp_not (dp_val (de_isi m_isinstance (da_cons (de_v 1) (da_cons (de_bltn (v := .ty "tuple") (u := .type "tuple") (by rfl) m_tuple (by decide +kernel) rfl) da_nil))))) (dw_or1 (dp_gt (de_len m_len (da_cons (de_v 1) da_nil)) (de_glob (v := .int 200) (d := .int 200) (by rfl) g_MAX_USES.choose_spec ⟨_, rfl⟩ (fun _ => rfl)))))) (dss_one (ds_ret (de_tup (da_cons de_non (da_cons de_str da_nil))))) dss_nil)
      (dss_cons (ds_for [] PassesOwn.never (di_enum m_enumerate (da_cons (de_v 1) da_nil)) (dg_tup rfl (dgs_cons (dg_name (i := 2) sc_uses_error.nd) (dgs_cons (dg_name (i := 3) sc_uses_error.nd) dgs_nil))) (dss_cons (ds_if (DW.p (dw_or (dp_not (dp_val (de_callC c_is_pair (hr.mono (by decide)) (da_cons (de_v 3) da_nil)))) (dw_or (dp_notIn hr (de_ix (de_v 3) de_int) (de_v 0)) (dw_or1 (dp_notIn hr (de_ix (de_v 3) de_int) (de_v 0)))))) (dss_one (ds_ret (de_tup (da_cons (de_v 2) (da_cons de_str da_nil))))) dss_nil)
      (dss_one (ds_if (dp_in hr (de_v 3) (de_sl (de_v 1) do_none (do_some (de_v 2)))) (dss_one (ds_ret (de_tup (da_cons (de_v 2) (da_cons de_str da_nil))))) dss_nil))))
      (dss_one (ds_ret de_non))))) ?h, F.kp, F.binds fun _ _ _ _ _ _ us hl => match us, hl with | [_, _], _ => rfl, m⟩
  case len =>
    intro g ds n Q h; obtain ⟨_, _, rfl, _⟩ := h; rfl
  case h =>
    intro g ds n Q h
    obtain ⟨ms, x, rfl, hm, hx, q⟩ := h
    obtain ⟨t, ht, hk⟩ := gd_isT hx
    refine ⟨t, _, ht, hk, ?_⟩
    have hms : ∀ s ∈ ms, asc s := fun s hs => (hm.path s hs).asc
    cases x with
    | tup xs =>
      have q : Q (if xs.length ≤ 200 then uGo ms [] xs else .tup [.none, .str "uses"]) n := q
      show if decide (((xs.length : Int)) > 200) = true then _ else _
      by_cases h24 : xs.length ≤ 200
      · rw [if_pos h24] at q
        rw [decide_eq_false (by omega)]
        refine iteF ?_
        refine dFor_inv (fun rest r f => f = n ∧ ∃ (done : List Us) (rx : List D) (a c : Sl), xs = done.map pairD ++ rx ∧ rest = (enumD xs).drop done.length ∧ r = [.sh (.tup (ms.map D.str)), .sh (.tup xs), a, c] ∧ (∀ u ∈ done, u.1 ∈ ms ∧ u.2 ∈ ms) ∧ uGo ms done rx = uGo ms [] xs) _ _ _ ?_ ?_ ⟨rfl, [], xs, _, _, rfl, rfl, rfl, by simp, rfl⟩
        · rintro d rest r f N ⟨rfl, done, rx, a, c, ex, hr, rfl, hd, hm2⟩ hN
          have hh : (enumD xs)[done.length]? = some d := by
            have := congrArg List.head? hr
            rw [List.head?_drop] at this
            exact this.symm
          obtain ⟨y, hy, rfl⟩ := enumD_get hh
          have hy2 : xs[done.length]? = rx[0]? := by
            rw [ex, List.getElem?_append_right (by rw [List.length_map]; omega), List.length_map, Nat.sub_self]
          cases rx with
          | nil => rw [hy2] at hy; cases hy
          | cons x rx =>
            obtain rfl : x = y := by rw [hy2] at hy; exact Option.some.inj hy
            have hxg : x.good = true := goodA_mem hx (by rw [ex]; simp)
            refine ⟨_, rfl, x, rfl, .inl (D.good_tyd hxg), ?_⟩
            rw [uGo_cons] at hm2
            have bad : uB ms x = false → Q (err2 done.length "use") f := fun h => by
              rw [h, if_neg Bool.false_ne_true] at hm2
              rw [← hm2] at q
              exact q
            cases hp : pairB x with
            | false => exact ⟨show 2 ≤ lim by decide, bad (by unfold uB; rw [hp]; rfl)⟩
            | true =>
              obtain ⟨u, rfl, hu⟩ := pairB_pair hp
              have ha := hxg
              have a1 : asc u.1 := (good_strI (goodA_mem hxg (by simp : D.str u.1 ∈ [D.str u.1, D.str u.2]))).1
              have a2 : asc u.2 := (good_strI (goodA_mem hxg (by simp : D.str u.2 ∈ [D.str u.1, D.str u.2]))).1
              have eb : uB ms (pairD u) = (decide (u.1 ∈ ms) && decide (u.2 ∈ ms)) := by unfold uB; rw [hp]; rfl
              refine ⟨.str u.1, atI0, shaped_str a1, shaped_strsT hms, ?_⟩
              have e1 : ((pyA (ms.map D.str)).any fun z => PyData.eqv z (D.str u.1).py) = decide (u.1 ∈ ms) := by rw [pyA_strs]; exact any_strs ms u.1
              have e2 : ((pyA (ms.map D.str)).any fun z => PyData.eqv z (D.str u.2).py) = decide (u.2 ∈ ms) := by rw [pyA_strs]; exact any_strs ms u.2
              rw [e1]
              cases h1 : decide (u.1 ∈ ms) with
              | false => exact ⟨show 2 ≤ lim by decide, bad (by rw [eb, h1]; rfl)⟩
              | true =>
                refine ⟨.str u.2, atI_nat (j := 1) rfl, shaped_str a2, shaped_strsT hms, ?_⟩
                rw [e2]
                cases h2 : decide (u.2 ∈ ms) with
                | false => exact ⟨show 2 ≤ lim by decide, bad (by rw [eb, h1, h2]; rfl)⟩
                | true =>
                  rw [eb, h1, h2, show (true && true) = true from rfl, if_pos rfl, toU_pair] at hm2
                  have et : cutD xs none (some (done.length : Int)) = done.map pairD := by
                    rw [cutD_take, ex, List.take_append_of_le_length (by rw [List.length_map]; omega), List.take_of_length_le (by rw [List.length_map]; omega)]
                  have hta : ∀ s ∈ done, ascU s := fun s hs => ⟨hms _ (hd s hs).1, hms _ (hd s hs).2⟩
                  have e3 : ((pyA (cutD xs none (some (done.length : Int)))).any fun z => PyData.eqv z (pairD u).py) = decide (u ∈ done) := by rw [et, pyA_pairs]; exact any_pairs _ u
                  refine ⟨shaped_pair ⟨a1, a2⟩, by rw [et, pyA_pairs]; exact shaped_pairsT hta, ?_⟩
                  rw [e3]
                  by_cases ho : u ∈ done
                  · rw [if_pos ho] at hm2
                    rw [← hm2] at q
                    rw [decide_eq_true ho]
                    exact ⟨show 2 ≤ lim by decide, q⟩
                  · rw [if_neg ho] at hm2
                    rw [decide_eq_false ho]
                    refine hN _ _ ⟨rfl, done ++ [u], rx, _, _, by rw [ex]; simp, ?_, rfl, fun z hz => ?_, hm2⟩
                    · rw [List.length_append, List.length_singleton, ← List.tail_drop, ← hr]
                      rfl
                    · rcases List.mem_append.mp hz with h | h
                      · exact hd z h
                      · rw [List.mem_singleton.mp h]; exact ⟨of_decide_eq_true h1, of_decide_eq_true h2⟩
        · rintro r f ⟨rfl, done, rx, a, c, ex, hr, rfl, hd, hm2⟩
          have : rx = [] := by
            have h1 := congrArg List.length hr
            rw [List.length_drop, enumD_len] at h1
            have h2 := congrArg List.length ex
            rw [List.length_append, List.length_map] at h2
            have h1 : 0 = xs.length - done.length := h1
            exact List.length_eq_zero_iff.mp (by omega)
          subst this
          rw [← hm2] at q
          exact q
      · rw [if_neg h24] at q
        rw [decide_eq_true (by omega)]
        exact iteT ⟨show 2 ≤ lim by decide, q⟩
    | obj _ _ _ => cases hx
    | exn _ _ _ => cases hx
    | any _ => cases hx
    | _ => exact ⟨show 2 ≤ lim by decide, q⟩
/-! program_error -/
abbrev s_program_error : Stmt := topS 22
theorem sc_program_error : FnScope ["modules", "uses", "error"] ["modules", "uses"] (defScope s_program_error) := ⟨rfl, rfl, rfl, by decide +kernel, rfl, by decide +kernel, by decide +kernel⟩
def msOf : D → List Str
  | .tup xs => xs.map stx
  | _ => []
theorem msOf_tup (ms : List Str) : msOf (.tup (ms.map D.str)) = ms := by
  show (ms.map D.str).map stx = ms
  rw [List.map_map]
  exact List.map_id _
def pErr (x y : D) : D := match modErr x with
  | .none => useErr (msOf x) y
  | e => e
def Sp_program_error : DSp := fun _ ds f Q => ∃ (x y : D), ds = [x, y] ∧ x.good = true ∧ y.good = true ∧ (∀ xs, x = .tup xs → xs.length ≤ 100000) ∧ Q (pErr x y) f
theorem pErr_none {x y : D} (h : pErr x y = .none) : ∃ (ms : List Str) (us : List Us), x = .tup (ms.map D.str) ∧ y = .tup (us.map pairD) ∧ PVm ms ∧ PVu ms us := by
  unfold pErr at h
  split at h
  · next hm =>
    obtain ⟨ms, rfl, h1⟩ := modErr_none hm
    rw [msOf_tup] at h
    obtain ⟨us, rfl, h2⟩ := useErr_none h
    exact ⟨ms, us, rfl, rfl, h1, h2⟩
  · next hn => exact absurd h hn
theorem modErr_ok {x : D} : modErr x = .none ∨ ∃ l, modErr x = .tup l := by
  have go : ∀ (r : List D) (done : List Str), mGo done r = .none ∨ ∃ l, mGo done r = .tup l := by
    intro r
    induction r with
    | nil => exact fun _ => .inl rfl
    | cons x r ih =>
      intro done
      rw [mGo_cons]
      split
      · split
        · exact .inr ⟨_, rfl⟩
        · exact ih _
      · exact .inr ⟨_, rfl⟩
  cases x with
  | tup xs =>
    show (if xs.length ≤ 24 then mGo [] xs else .tup [.none, .str "modules"]) = D.none ∨ ∃ l, (if xs.length ≤ 24 then mGo [] xs else .tup [.none, .str "modules"]) = D.tup l
    split
    · exact go _ _
    · exact .inr ⟨_, rfl⟩
  | _ => exact .inr ⟨_, rfl⟩
theorem useErr_ok {ms : List Str} {x : D} : useErr ms x = .none ∨ ∃ l, useErr ms x = .tup l := by
  have go : ∀ (r : List D) (done : List Us), uGo ms done r = .none ∨ ∃ l, uGo ms done r = .tup l := by
    intro r
    induction r with
    | nil => exact fun _ => .inl rfl
    | cons x r ih =>
      intro done
      rw [uGo_cons]
      split
      · split
        · exact .inr ⟨_, rfl⟩
        · exact ih _
      · exact .inr ⟨_, rfl⟩
  cases x with
  | tup xs =>
    show (if xs.length ≤ 200 then uGo ms [] xs else .tup [.none, .str "uses"]) = D.none ∨ ∃ l, (if xs.length ≤ 200 then uGo ms [] xs else .tup [.none, .str "uses"]) = D.tup l
    split
    · exact go _ _
    · exact .inr ⟨_, rfl⟩
  | _ => exact .inr ⟨_, rfl⟩
theorem pErr_ok (x y : D) : pErr x y = .none ∨ ∃ l, pErr x y = .tup l := by
  unfold pErr
  rcases modErr_ok (x := x) with h | ⟨l, h⟩
  · rw [h]; exact useErr_ok
  · rw [h]; exact .inr ⟨l, rfl⟩
set_option maxHeartbeats 2000000 in
theorem ok_program_error (d : Df K mg "program_error" s_program_error) (c_uses_error : Cal P w K mg base 2 "uses_error" ["modules", "uses"] Sp_uses_error) (c_modules_error : Cal P w K mg base 4 "modules_error" ["modules"] Sp_modules_error) : Cal P w K mg base 5 "program_error" ["modules", "uses"] Sp_program_error := by
  obtain ⟨f, fd, F, m⟩ := d
  refine ⟨f, fd, dfn (k := 4) (S := Sp_program_error) F sc_program_error ?len (fun cdv A outer s H E hr => (dss_cons (ds_set false (i := 2) sc_program_error.nd (de_callC c_modules_error (hr.mono (by decide)) (da_cons (de_v 0) da_nil)))
      (dss_cons (ds_if (dp_isN (de_v 2) de_non) (dss_one (ds_set false (i := 2) sc_program_error.nd (de_callC c_uses_error (hr.mono (by decide)) (da_cons (de_v 0) (da_cons (de_v 1) da_nil))))) dss_nil)
      (dss_one (ds_ret (de_v 2)))))) ?h, F.kp, F.binds fun _ _ _ _ _ _ us hl => match us, hl with | [_, _], _ => rfl, m⟩
  case len =>
    intro g ds n Q h; obtain ⟨_, _, rfl, _⟩ := h; rfl
  case h =>
    intro g ds n Q h
    obtain ⟨x, y, rfl, hx, hy, hl, q⟩ := h
    refine ⟨x, rfl, hx, hl, ?_⟩
    unfold pErr at q
    rcases modErr_ok (x := x) with hm | ⟨l, hm⟩
    · rw [hm] at q ⊢
      obtain ⟨ms, rfl, h1⟩ := modErr_none hm
      rw [msOf_tup] at q
      exact ⟨ms, y, rfl, h1, hy, q⟩
    · rw [hm] at q ⊢
      exact q
/-! values that may be shown -/
theorem lcFd (b : D → Bool) {g : Option Dk} {t : TgF} {c : DTT} {e : DT} {r : Sg} {Q : List D → Nat → Prop} (xs : List D) (f : Nat)
    (h : ∀ x ∈ xs, ∃ l, t x = some l ∧ (∀ (f : Nat) (Q : Bool → Nat → Prop), Q (b x) f → c g (setsR r l) f Q) ∧ (b x = true → ∀ (f : Nat) (Q : QD), Q x f → e g (setsR r l) f Q)) (q : Q (xs.filter b) f) : dLcGo g t c e r xs [] f Q := by
  have := lcF (fun d : D => d) b xs f h (by rw [List.map_id'' (fun _ => rfl)]; exact q)
  rwa [List.map_id'' (fun _ => rfl)] at this
/-! _law_is_use -/
abbrev s__law_is_use : Stmt := topS 36
theorem sc__law_is_use : FnScope ["_law_modules", "_law_value", "_law_one"] ["_law_modules", "_law_value"] (defScope s__law_is_use) := ⟨rfl, rfl, rfl, by decide +kernel, rfl, by decide +kernel, by decide +kernel⟩
def lay30 (x : D) : Prop := x.py.canLay0 = true ∧ x.py.depth ≤ 30
def zok (x : D) : Prop := ∀ a b, x = .tup [a, b] → (a = .dct [] [] ∧ b = .dct [] []) ∨ (lay30 a ∧ lay30 b)
def inMs (ms : List Str) (x : D) : Bool := x.isSt && decide (stx x ∈ ms)
theorem lay_shaped {x : D} (h : lay30 x) : SeqAt.shaped x.py = true := by
  unfold SeqAt.shaped
  rw [h.1, decide_eq_true (Nat.le_trans h.2 (by decide))]; rfl
theorem lay_list {l : List D} (h : ∀ x ∈ l, lay30 x) : SeqAt.shaped (D.lst l).py = true := by
  have h1 : ∀ l : List D, (∀ x ∈ l, lay30 x) → PyData.canLayAll0 (pyA l) = true ∧ PyData.depthAll (pyA l) ≤ 30 := by
    intro l
    induction l with
    | nil => exact fun _ => ⟨rfl, Nat.zero_le _⟩
    | cons x l ih =>
      intro h
      obtain ⟨i1, i2⟩ := ih fun y hy => h y (by simp [hy])
      obtain ⟨x1, x2⟩ := h x (by simp)
      refine ⟨?_, Nat.max_le.mpr ⟨x2, i2⟩⟩
      show (x.py.canLay0 && PyData.canLayAll0 (pyA l)) = true
      rw [x1, i1]; rfl
  obtain ⟨i1, i2⟩ := h1 l h
  unfold SeqAt.shaped
  show (PyData.canLayAll0 (pyA l) && decide (PyData.depth (.list (pyA l)) ≤ 64)) = true
  rw [i1]
  show (true && decide (PyData.depthAll (pyA l) + 1 ≤ 64)) = true
  rw [decide_eq_true (by omega)]; rfl
def Sp__law_is_use : DSp := fun _ ds f Q => ∃ (ms : List Str) (x : D), ds = [.tup (ms.map D.str), x] ∧ PVm ms ∧ x.good = true ∧ zok x ∧ Q (.bool (uB ms x)) f
set_option maxHeartbeats 2000000 in
theorem ok__law_is_use (d : Df K mg "_law_is_use" s__law_is_use) (m_str : mg "str" = none) (m_isinstance : mg "isinstance" = none) (m_list : mg "list" = none) (m_len : mg "len" = none) (m_tuple : mg "tuple" = none) : Cal P w K mg base 1 "_law_is_use" ["_law_modules", "_law_value"] Sp__law_is_use := by
  obtain ⟨f, fd, F, m⟩ := d
  refine ⟨f, fd, dfn (k := 0) (S := Sp__law_is_use) F sc__law_is_use ?len (fun cdv A outer s H E hr => (dss_cons (ds_if (DW.p (dw_or (dp_not (dp_val (de_isi m_isinstance (da_cons (de_v 1) (da_cons (de_bltn (v := .ty "tuple") (u := .type "tuple") (by rfl) m_tuple (by decide +kernel) rfl) da_nil))))) (dw_or (dp_ne hr.units (de_len m_len (da_cons (de_v 1) da_nil)) de_int) (dw_or1 (dp_eqZ hr.units (de_ix (de_v 1) de_int) (de_ix (de_v 1) de_int)))))) (dss_one (ds_ret de_bl)) dss_nil)
      (dss_one (ds_ret (de_eq hr.units (dl_lc (own := [("_law_one", 2)]) rfl sc__law_is_use.nd (di_seq (de_v 1)) (blkOk_by (own := [("_law_one", 2)]) (N := ["_law_modules", "_law_value", "_law_one"]) (sc := defScope s__law_is_use) (by decide +kernel)) (fun _ _ _ _ _ => dg_name (i := 2) sc__law_is_use.nd) (fun _ _ _ _ _ => dts_one (DW.p (dw_and (dp_val (de_isi m_isinstance (da_cons (de_v 2) (da_cons (de_bltn (v := .ty "str") (u := .type "str") (by rfl) m_str (by decide +kernel) rfl) da_nil)))) (dw_and1 (dp_in hr (de_v 2) (de_v 0)))))) (fun _ _ _ _ _ => (de_v 2))).e (de_callTy call_list_of sc_list (by rfl) m_list (by decide +kernel) (da_cons (de_v 1) da_nil))))))) ?h, F.kp, F.binds fun _ _ _ _ _ _ us hl => match us, hl with | [_, _], _ => rfl, m⟩
  case len =>
    intro g ds n Q h; obtain ⟨_, _, rfl, _⟩ := h; rfl
  case h =>
    intro g ds n Q h
    obtain ⟨ms, x, rfl, hm, hx, hz, q⟩ := h
    obtain ⟨t, ht, hk⟩ := gd_isT hx
    refine ⟨t, _, ht, hk, ?_⟩
    have hms : ∀ s ∈ ms, asc s := fun s hs => (hm.path s hs).asc
    cases x with
    | tup xs =>
      match xs, hx, hz, q with
      | [], _, _, q => exact q
      | [_], _, _, q => exact q
      | a :: b :: c :: l, _, _, q =>
        first
          | exact q
          | (refine iteT ?_; exact q)
          | (refine iteF ?_; exact q)
      | [a, b], hx, hz, q =>
        refine ⟨a, atI0, b, atI_nat (j := 1) rfl, ?_⟩
        rcases hz a b rfl with ⟨rfl, rfl⟩ | ⟨la, lb⟩
        · exact .inl ⟨rfl, rfl, q⟩
        · refine .inr (oEq_data (lay_shaped la) (lay_shaped lb) ?_)
          have ga := goodA_mem hx (by simp : a ∈ [a, b])
          have gb := goodA_mem hx (by simp : b ∈ [a, b])
          cases hE : PyData.eqv a.py b.py with
          | true =>
            have hu : uB ms (.tup [a, b]) = false := by
              cases hu : uB ms (.tup [a, b]) with
              | false => rfl
              | true =>
                obtain ⟨u, e, hne, _⟩ := uB_pair hu
                obtain ⟨rfl, rfl⟩ : a = .str u.1 ∧ b = .str u.2 := by simpa [pairD] using e
                have hE : (u.1 == u.2) = true := hE
                exact absurd (by simpa using hE) hne
            rw [hu] at q
            exact q
          | false =>
            refine ⟨show 2 ≤ lim by decide, ?_⟩
            refine lcFd (inMs ms) [a, b] _ (fun v hv => ⟨_, rfl, fun f Q q => ?_, fun _ f Q q => q⟩) ?_
            · have gv := goodA_mem hx hv
              obtain ⟨tv, hv1, hv2⟩ := tyd_isi (D.good_tyd gv)
              refine ⟨tv, _, hv1, hv2, ?_⟩
              cases v with
              | str s =>
                refine ⟨shaped_str (good_strI gv).1, shaped_strsT hms, ?_⟩
                rw [anyS']
                exact q
              | _ => exact q
            · have lab : ∀ x ∈ [a, b], lay30 x := fun x hx => by
                rcases List.mem_cons.mp hx with rfl | h
                · exact la
                · rw [List.mem_singleton.mp h]; exact lb
              refine ⟨lay_list fun x hx => lab x (List.mem_filter.mp hx).1, lay_list lab, ?_⟩
              have key : PyData.eqv (D.lst ([a, b].filter (inMs ms))).py (D.lst [a, b]).py = uB ms (.tup [a, b]) := by
                have ub : uB ms (.tup [a, b]) = true → inMs ms a = true ∧ inMs ms b = true := fun h => by
                  obtain ⟨u, e, _, h1, h2⟩ := uB_pair h
                  obtain ⟨rfl, rfl⟩ : a = .str u.1 ∧ b = .str u.2 := by simpa [pairD] using e
                  exact ⟨decide_eq_true h1, decide_eq_true h2⟩
                have no : inMs ms a = false ∨ inMs ms b = false → uB ms (.tup [a, b]) = false := fun h => by
                  cases hu : uB ms (.tup [a, b]) with
                  | false => rfl
                  | true =>
                    obtain ⟨h1, h2⟩ := ub hu
                    rcases h with h | h
                    · rw [h] at h1; cases h1
                    · rw [h] at h2; cases h2
                cases fa : inMs ms a with
                | false =>
                  rw [no (.inl fa)]
                  cases fb : inMs ms b with
                  | false =>
                    rw [show [a, b].filter (inMs ms) = [] by simp [fa, fb]]
                    simp [D.py, pyA, PyData.eqv, PyData.eqvAll]
                  | true =>
                    rw [show [a, b].filter (inMs ms) = [b] by simp [fa, fb]]
                    simp [D.py, pyA, PyData.eqv, PyData.eqvAll]
                | true =>
                  cases fb : inMs ms b with
                  | false =>
                    rw [no (.inr fb), show [a, b].filter (inMs ms) = [a] by simp [fa, fb]]
                    simp [D.py, pyA, PyData.eqv, PyData.eqvAll]
                  | true =>
                    rw [show [a, b].filter (inMs ms) = [a, b] by simp [fa, fb]]
                    unfold inMs at fa fb
                    rw [Bool.and_eq_true] at fa fb
                    cases a with
                    | str sa =>
                      cases b with
                      | str sb =>
                        have e1 : uB ms (.tup [.str sa, .str sb]) = true := by
                          have hE : (sa == sb) = false := hE
                          have hne : sa ≠ sb := by simpa using hE
                          have f1 : decide (sa ∈ ms) = true := fa.2
                          have f2 : decide (sb ∈ ms) = true := fb.2
                          show (decide (sa ≠ sb) && (decide (sa ∈ ms) && decide (sb ∈ ms))) = true
                          rw [f1, f2, decide_eq_true hne]; rfl
                        rw [e1]
                        simp [D.py, pyA, PyData.eqv, PyData.eqvAll]
                      | _ => cases fb.1
                    | _ => cases fa.1
              rw [key]
              exact q
    | obj _ _ _ => cases hx
    | exn _ _ _ => cases hx
    | any _ => cases hx
    | _ => exact q
/-! values of bounded parts -/
def big : Nat := 10 ^ 40
def kInn (s : Nat) : Key → Bool
  | .inl _ => false
  | .inr x => decide (asc x) && decide (x.length ≤ s)
mutual
def D.inn (s m : Nat) : D → Bool
  | .none => true
  | .bool _ => true
  | .int i => decide (i.natAbs ≤ big + m)
  | .str x => decide (asc x) && decide (x.length ≤ s)
  | .tup xs => innA s m xs
  | .lst xs => innA s m xs
  | .dct ks xs => ks.all (kInn s) && innA s m xs
  | .obj _ _ _ => false
  | .exn _ _ _ => false
  | .any _ => false
def innA (s m : Nat) : List D → Bool
  | [] => true
  | x :: xs => x.inn s m && innA s m xs
end
theorem innA_iff {s m : Nat} : ∀ {xs : List D}, innA s m xs = true ↔ ∀ x ∈ xs, x.inn s m = true
  | [] => ⟨fun _ _ h => (nomatch h), fun _ => rfl⟩
  | x :: xs => by
    show (x.inn s m && innA s m xs) = true ↔ _
    rw [Bool.and_eq_true, innA_iff]
    exact ⟨fun h y hy => (List.mem_cons.mp hy).elim (fun e => e ▸ h.1) (h.2 y), fun h => ⟨h x (by simp), fun y hy => h y (by simp [hy])⟩⟩
theorem kInn_ok {s : Nat} (hs : s ≤ 5000) : ∀ k : Key, kInn s k = true → keyOk k = true
  | .inl _, h => by cases h
  | .inr x, h => by
    have h : (decide (asc x) && decide (x.length ≤ s)) = true := h
    rw [Bool.and_eq_true, decide_eq_true_iff, decide_eq_true_iff] at h
    show (decide (asc x) && decide (x.length ≤ 5000)) = true
    rw [decide_eq_true h.1, decide_eq_true (Nat.le_trans h.2 hs)]; rfl
theorem asc_cps {s : Str} (h : asc s) : (s.cps.toList.all fun c => decide (c < 1114112)) = true :=
  List.all_eq_true.mpr fun c hc => decide_eq_true (Nat.lt_trans (h c hc) (by decide))
theorem kInn_sh {s : Nat} : ∀ k : Key, kInn s k = true → kOk k = true
  | .inl _, h => by cases h
  | .inr x, h => by
    have h : (decide (asc x) && decide (x.length ≤ s)) = true := h
    rw [Bool.and_eq_true, decide_eq_true_iff, decide_eq_true_iff] at h
    exact asc_cps h.1
mutual
theorem D.inn_good {s m : Nat} (hs : s ≤ 5000) : ∀ d : D, d.inn s m = true → d.good = true
  | .none, _ => rfl
  | .bool _, _ => rfl
  | .int _, _ => rfl
  | .str x, h => kInn_ok hs (.inr x) h
  | .tup xs, h => innA_good hs xs h
  | .lst xs, h => innA_good hs xs h
  | .dct ks xs, h => by
    have h : (ks.all (kInn s) && innA s m xs) = true := h
    rw [Bool.and_eq_true] at h
    show (ks.all keyOk && goodA xs) = true
    rw [innA_good hs xs h.2, Bool.and_true, List.all_eq_true]
    exact fun k hk => kInn_ok hs k (List.all_eq_true.mp h.1 k hk)
  | .obj _ _ _, h => by cases h
  | .exn _ _ _, h => by cases h
  | .any _, h => by cases h
theorem innA_good {s m : Nat} (hs : s ≤ 5000) : ∀ ds : List D, innA s m ds = true → goodA ds = true
  | [], _ => rfl
  | x :: xs, h => by
    have h : (x.inn s m && innA s m xs) = true := h
    rw [Bool.and_eq_true] at h
    show (x.good && goodA xs) = true
    rw [D.inn_good hs x h.1, innA_good hs xs h.2]; rfl
end
theorem log2_big {n m : Nat} (h : n ≤ big + m) (hm : m ≤ 1000000) : n.log2 < 1920 := by
  by_cases e : n = 0
  · subst e; decide
  · rw [Nat.log2_lt e]
    exact Nat.lt_of_le_of_lt (Nat.le_trans h (Nat.add_le_add_left hm _)) (by decide +kernel : big + 1000000 < 2 ^ 1920)
mutual
theorem D.inn_sh {s m : Nat} (hm : m ≤ 1000000) : ∀ d : D, d.inn s m = true → d.shO = true
  | .none, _ => rfl
  | .bool _, _ => rfl
  | .int i, h => decide_eq_true (log2_big (of_decide_eq_true h) hm)
  | .str x, h => kInn_sh (.inr x) h
  | .tup xs, h => innA_sh hm xs h
  | .lst xs, h => innA_sh hm xs h
  | .dct ks xs, h => by
    have h : (ks.all (kInn s) && innA s m xs) = true := h
    rw [Bool.and_eq_true] at h
    show (ks.all kOk && shOA xs) = true
    rw [innA_sh hm xs h.2, Bool.and_true, List.all_eq_true]
    exact fun k hk => kInn_sh k (List.all_eq_true.mp h.1 k hk)
  | .obj _ _ _, h => by cases h
  | .exn _ _ _, h => by cases h
  | .any _, h => by cases h
theorem innA_sh {s m : Nat} (hm : m ≤ 1000000) : ∀ ds : List D, innA s m ds = true → shOA ds = true
  | [], _ => rfl
  | x :: xs, h => by
    have h : (x.inn s m && innA s m xs) = true := h
    rw [Bool.and_eq_true] at h
    show (x.shO && shOA xs) = true
    rw [D.inn_sh hm x h.1, innA_sh hm xs h.2]; rfl
end
theorem str_inn {x : Str} {s m : Nat} (h1 : asc x) (h2 : x.length ≤ s) : (D.str x).inn s m = true := by
  show (decide (asc x) && decide (x.length ≤ s)) = true
  rw [decide_eq_true h1, decide_eq_true h2]; rfl
theorem dpA_le {p : Nat} : ∀ {xs : List D}, (∀ x ∈ xs, x.dp ≤ p) → dpA xs ≤ p
  | [], _ => Nat.zero_le _
  | x :: xs, h => by
    have h1 := h x (by simp)
    have h2 := dpA_le (xs := xs) fun y hy => h y (List.mem_cons_of_mem x hy)
    show max x.dp (dpA xs) ≤ p
    omega
theorem dpA_mem : ∀ {xs : List D} {x : D}, x ∈ xs → x.dp ≤ dpA xs
  | y :: xs, x, h => by
    show x.dp ≤ max y.dp (dpA xs)
    rcases List.mem_cons.mp h with rfl | h
    · omega
    · have := dpA_mem h; omega
theorem wtA_le {w : Nat} : ∀ {xs : List D}, (∀ x ∈ xs, x.wt ≤ w) → wtA xs ≤ (w + 2) * xs.length
  | [], _ => Nat.zero_le _
  | x :: xs, h => by
    have h1 := h x (by simp)
    have h2 := wtA_le (xs := xs) fun y hy => h y (List.mem_cons_of_mem x hy)
    show x.wt + 2 + wtA xs ≤ (w + 2) * (xs.length + 1)
    rw [Nat.mul_add]
    omega
structure Ev (x : D) : Prop where
  i : x.inn 200 0 = true
  w : x.wt ≤ 3000
  p : x.dp ≤ 4
  z : zok x
structure Od (x : D) : Prop where
  e : Ev x
  t : ∀ xs, x = .tup xs → xs.length ≤ 3 ∧ ∀ v ∈ xs, Ev v
def evB (x : D) : Bool := x.inn 200 0 && (decide (x.wt ≤ 3000) && decide (x.dp ≤ 4))
theorem Ev.of {x : D} (h : evB x = true) (z : zok x) : Ev x := by
  unfold evB at h
  rw [Bool.and_eq_true, Bool.and_eq_true] at h
  exact ⟨h.1, of_decide_eq_true h.2.1, of_decide_eq_true h.2.2, z⟩
theorem zok_no {x : D} (h : x.isTup = false) : zok x := fun a b e => by rw [e] at h; cases h
theorem Od.no {x : D} (h : evB x = true) (ht : x.isTup = false) : Od x := ⟨Ev.of h (zok_no ht), fun xs e => by rw [e] at ht; cases ht⟩
theorem ev_str {s : Str} (h1 : asc s) (h2 : s.length ≤ 200) : Ev (.str s) := ⟨str_inn h1 h2, by show 10 * s.length + 2 ≤ 3000; omega, Nat.zero_le _, zok_no rfl⟩
theorem od_str {s : Str} (h1 : asc s) (h2 : s.length ≤ 200) : Od (.str s) := ⟨ev_str h1 h2, fun xs e => by cases e⟩
theorem ev_tup {l : List D} (hi : ∀ x ∈ l, x.inn 200 0 = true) (hw : wtA l ≤ 2990) (hp : dpA l ≤ 3) (hz : zok (.tup l)) : Ev (.tup l) :=
  ⟨innA_iff.mpr hi, by show wtA l + 3 ≤ 3000; omega, by show dpA l + 1 ≤ 4; omega, hz⟩
theorem od_tup {l : List D} (hl : l.length ≤ 3) (hi : ∀ x ∈ l, x.inn 200 0 = true) (hw : wtA l ≤ 2990) (hp : dpA l ≤ 3) (hz : zok (.tup l)) (he : ∀ x ∈ l, zok x) : Od (.tup l) := by
  refine ⟨ev_tup hi hw hp hz, fun xs e => ?_⟩
  cases e
  refine ⟨hl, fun v hv => ⟨hi v hv, ?_, ?_, he v hv⟩⟩
  · have := wtA_mem hv; omega
  · have := dpA_mem hv; omega
theorem od_lst {l : List D} (hi : ∀ x ∈ l, x.inn 200 0 = true) (hw : wtA l ≤ 2990) (hp : dpA l ≤ 3) : Od (.lst l) :=
  ⟨⟨innA_iff.mpr hi, by show wtA l + 3 ≤ 3000; omega, by show dpA l + 1 ≤ 4; omega, zok_no rfl⟩, fun xs e => by cases e⟩
theorem lay30_str {s : Str} (h : asc s) : lay30 (.str s) := ⟨(Bool.and_eq_true_iff.mp (shaped_str h)).1, Nat.zero_le _⟩
theorem zok_two {a b : D} (h1 : lay30 a) (h2 : lay30 b) : zok (.tup [a, b]) := fun x y e => by cases e; exact .inr ⟨h1, h2⟩
/-! the program of some uses -/
def useP (x : D) : Bool := pairB x && (isPathD (.str (toU x).1) && isPathD (.str (toU x).2))
theorem useP_pair {x : D} (h : useP x = true) : ∃ u : Us, x = pairD u ∧ u.1 ≠ u.2 ∧ PathN 6 u.1 ∧ PathN 6 u.2 := by
  unfold useP at h
  rw [Bool.and_eq_true, Bool.and_eq_true] at h
  obtain ⟨u, rfl, hu⟩ := pairB_pair h.1
  obtain ⟨s, e, hs⟩ := isPathD_str h.2.1
  obtain ⟨t, e2, ht⟩ := isPathD_str h.2.2
  cases e
  cases e2
  exact ⟨u, rfl, hu, hs, ht⟩
def badAt : List D → Nat → Option Nat
  | [], _ => none
  | x :: r, i => if useP x = true then badAt r (i + 1) else some i
theorem badAt_none : ∀ {xs : List D} {i : Nat}, badAt xs i = none → ∃ us : List Us, xs = us.map pairD ∧ ∀ u ∈ us, u.1 ≠ u.2 ∧ PathN 6 u.1 ∧ PathN 6 u.2
  | [], _, _ => ⟨[], rfl, by simp⟩
  | x :: r, i, h => by
    unfold badAt at h
    split at h
    · next hx =>
      obtain ⟨u, rfl, hu⟩ := useP_pair hx
      obtain ⟨us, rfl, hus⟩ := badAt_none h
      exact ⟨u :: us, rfl, fun v hv => (List.mem_cons.mp hv).elim (fun e => e ▸ hu) (hus v)⟩
    · cases h
def allp (us : List Us) : List Str := us.flatMap fun u => [u.1, u.2]
def msU (us : List Us) : List Str := sortS (ded (allp us))
def mErr (us : List Us) : D := pErr (.tup ((msU us).map D.str)) (.tup (us.map pairD))
def dueD (xs : List D) : D := match badAt xs 0 with
  | some i => .tup [.str "BadUse", .int i]
  | none => match mErr (xs.map toU) with
    | .none => .tup [.tup ((msU (xs.map toU)).map D.str), .tup ((sortU (xs.map toU)).map pairD)]
    | e => .tup [.str "BadProgram", e]
theorem toU_pairs (us : List Us) : (us.map pairD).map toU = us := by
  rw [List.map_map]
  exact List.map_id _
theorem allp_snoc (us : List Us) (u : Us) : allp (us ++ [u]) = allp us ++ [u.1] ++ [u.2] := by
  unfold allp
  rw [List.flatMap_append]
  simp
theorem allp_len (us : List Us) : (allp us).length = 2 * us.length := by
  induction us with
  | nil => rfl
  | cons u us ih =>
    show ([u.1, u.2] ++ allp us).length = _
    rw [List.length_append, ih, List.length_cons, List.length_cons, List.length_cons, List.length_nil]
    omega
theorem allp_mem {us : List Us} {s : Str} (h : s ∈ allp us) : ∃ u ∈ us, s = u.1 ∨ s = u.2 := by
  obtain ⟨u, hu, hs⟩ := List.mem_flatMap.mp h
  exact ⟨u, hu, by simpa using hs⟩
theorem putKs_put (ks : List Str) (x : Str) : putKs (ks.map Sum.inr) (.inr x) = (putS ks x).map Sum.inr := by
  unfold putKs putS
  by_cases h : x ∈ ks
  · rw [if_pos (mem_inr.mpr h), if_pos h]
  · rw [if_neg (fun z => h (mem_inr.mp z)), if_neg h, List.map_append]
    rfl
/-! parts_of -/
abbrev s_parts_of : Stmt := topS 23
theorem sc_parts_of : FnScope ["modules", "found", "module", "names", "many"] ["modules"] (defScope s_parts_of) := ⟨rfl, rfl, rfl, by decide +kernel, rfl, by decide +kernel, by decide +kernel⟩
def isPart (ms : List Str) (x : Str) : Prop := ∃ m ∈ ms, ∃ k, 1 ≤ k ∧ k ≤ (Txt.split m ".").length ∧ x = Txt.join "." ((Txt.split m ".").take k)
structure Parts (ms ks : List Str) : Prop where
  nd : ks.Nodup
  mem : ∀ x, x ∈ ks ↔ isPart ms x
theorem Parts.perm {l m ks : List Str} (h : Parts l ks) (p : l.Perm m) : Parts m ks :=
  ⟨h.nd, fun x => (h.mem x).trans ⟨fun ⟨a, b, c⟩ => ⟨a, p.mem_iff.mp b, c⟩, fun ⟨a, b, c⟩ => ⟨a, p.mem_iff.mpr b, c⟩⟩⟩
def Sp_parts_of : DSp := fun _ ds f Q => ∃ ms : List Str, ds = [.tup (ms.map D.str)] ∧ PVm ms ∧ ∀ ks, Parts ms ks → Q (.tup ((sortS ks).map D.str)) f
theorem join_take {m : Str} {k : Nat} (h : PathN 6 m) (h1 : 1 ≤ k) : PathN 6 (Txt.join "." ((Txt.split m ".").take k)) := by
  obtain ⟨s1, s2, s3, s4⟩ := h.splits
  refine ⟨_, by rw [List.length_take]; omega, by rw [List.length_take]; omega, fun n hn => s3 n (List.mem_of_mem_take hn), rfl⟩
theorem intsD_cons (lo : Int) (n : Nat) : intsD lo (n + 1) = .int lo :: intsD (lo + 1) n := by
  unfold intsD
  rw [List.range_succ_eq_map, List.map_cons, List.map_map]
  refine congr (congrArg _ (by simp)) ?_
  apply List.map_congr_left
  intro i _
  show D.int _ = D.int _
  congr 1
  show lo + ((i + 1 : Nat) : Int) = lo + 1 + (i : Int)
  omega
theorem putKs_strs (ks : List Str) (x : Str) : putKs (ks.map Sum.inr) (.inr x) = (putS ks x).map Sum.inr := by
  unfold putKs putS
  have e : (Sum.inr x : Key) ∈ ks.map Sum.inr ↔ x ∈ ks := by
    constructor
    · intro h
      obtain ⟨y, hy, e⟩ := List.mem_map.mp h
      cases e
      exact hy
    · exact List.mem_map_of_mem
  by_cases h : x ∈ ks
  · rw [if_pos (e.mpr h), if_pos h]
  · rw [if_neg fun z => h (e.mp z), if_neg h, List.map_append]
    rfl
theorem isPart.pathG {ms : List Str} {x : Str} (hm : ∀ m ∈ ms, PathN 6 m) (h : isPart ms x) : PathN 6 x := by
  obtain ⟨m, hmm, k, h1, h2, rfl⟩ := h
  exact join_take (hm m hmm) h1
theorem isPart.path {ms : List Str} {x : Str} (hm : PVm ms) (h : isPart ms x) : PathN 6 x := h.pathG hm.path
theorem Parts.len {ms ks : List Str} (hm : ∀ m ∈ ms, PathN 6 m) (h : Parts ms ks) : ks.length ≤ 6 * ms.length := by
  have hsub : ∀ x ∈ ks, x ∈ ms.flatMap (fun m => (List.range 6).map fun k => Txt.join "." ((Txt.split m ".").take (k + 1))) := fun x hx => by
    obtain ⟨m, h1, k, h2, h3, h4⟩ := (h.mem x).mp hx
    have := (hm m h1).splits.2.1
    refine List.mem_flatMap.mpr ⟨m, h1, List.mem_map.mpr ⟨k - 1, List.mem_range.mpr (by omega), ?_⟩⟩
    rw [h4, show k - 1 + 1 = k by omega]
  refine Nat.le_trans (nodup_sub_len h.nd hsub) ?_
  rw [List.length_flatMap]
  have : ∀ l : List Str, (l.map fun m => ((List.range 6).map fun k => Txt.join "." ((Txt.split m ".").take (k + 1))).length).sum = 6 * l.length := by
    intro l
    induction l with
    | nil => rfl
    | cons x l ih => rw [List.map_cons, List.sum_cons, ih, List.length_map, List.length_range, List.length_cons]; omega
  rw [this]
  exact Nat.le_refl _
set_option maxHeartbeats 2000000 in
theorem ok_parts_of (d : Df K mg "parts_of" s_parts_of) (m_sorted : mg "sorted" = none) (m_tuple : mg "tuple" = none) (m_range : mg "range" = none) (m_len : mg "len" = none) : Cal P w K mg base 1 "parts_of" ["modules"] Sp_parts_of := by
  obtain ⟨f, fd, F, m⟩ := d
  refine ⟨f, fd, dfn (k := 0) (S := Sp_parts_of) F sc_parts_of ?len (fun cdv A outer s H E hr => (dss_cons (ds_setD0 (i := 1) sc_parts_of.nd)
      (dss_cons (ds_for [] PassesOwn.never (di_seq (de_v 0)) (dg_name (i := 2) sc_parts_of.nd) (dss_cons (ds_set false (i := 3) sc_parts_of.nd (dl_split (de_v 2) de_str).e)
      (dss_one (ds_for [] PassesOwn.never (di_range2 m_range (da_cons de_int (da_cons (de_add (de_len m_len (da_cons (de_v 3) da_nil)) de_int) da_nil))) (dg_name (i := 4) sc_parts_of.nd) (dss_one (ds_setKey false hr (i := 1) (de_join de_str (de_sl (de_v 3) do_none (do_some (de_v 4)))) de_bl))))))
      (dss_one (ds_ret (de_callTy call_tuple_of sc_tuple (by rfl) m_tuple (by decide +kernel) (da_cons (de_sorted hr m_sorted (da_cons (de_v 1) da_nil)) da_nil))))))) ?h, F.kp, F.binds fun _ _ _ _ _ _ us hl => match us, hl with | [_], _ => rfl, m⟩
  case len =>
    intro g ds n Q h; obtain ⟨_, rfl, _⟩ := h; rfl
  case h =>
    intro g ds n Q h
    obtain ⟨ms, rfl, hm, q⟩ := h
    refine dFor_inv (fun rest r f => f = n ∧ ∃ (done rest' : List Str) (ks : List Str) (xs : List D) (a b c : Sl), rest = rest'.map D.str ∧ ms = done ++ rest' ∧ r = [.sh (.tup (ms.map D.str)), .od (ks.map Sum.inr) xs, a, b, c] ∧ Parts done ks ∧ ks.length ≤ 6 * done.length) _ _ _ ?_ ?_ ⟨rfl, [], ms, [], [], _, _, _, rfl, rfl, rfl, ⟨List.nodup_nil, fun x => ⟨fun h => by simp at h, fun ⟨_, h, _⟩ => by simp at h⟩⟩, by simp⟩
    · rintro d rest r n0 N ⟨en0, done, rest', ks, xs, a, b, c, hr, hms, rfl, hp, hl⟩ hN
      match rest', hr with
      | m :: rest', hr =>
      obtain ⟨rfl, rfl⟩ := List.cons.inj hr
      have hmm : m ∈ ms := by rw [hms]; simp
      have hpath := hm.path m hmm
      obtain ⟨s1, s2, s3, s4⟩ := hpath.splits
      refine ⟨_, rfl, by decide +kernel, Nat.le_trans hpath.len (by decide), ?_⟩
      refine ⟨?rng, ?_⟩
      case rng => simp only [List.length_map]; omega
      refine dFor_inv (fun rest2 r f => f = n0 ∧ ∃ (j : Nat) (ks2 : List Str) (xs2 : List D) (c : Sl), rest2 = intsD (1 + (j : Int)) ((Txt.split m ".").length - j) ∧ j ≤ (Txt.split m ".").length ∧ r = [.sh (.tup (ms.map D.str)), .od (ks2.map Sum.inr) xs2, .sh (.str m), .sh (.lst ((Txt.split m ".").map D.str)), c] ∧ ks2.Nodup ∧ (∀ x, x ∈ ks2 ↔ isPart done x ∨ ∃ k, 1 ≤ k ∧ k ≤ j ∧ x = Txt.join "." ((Txt.split m ".").take k)) ∧ ks2.length ≤ 6 * done.length + j) _ _ _ ?_ ?_ ⟨rfl, 0, ks, xs, _, ?_, Nat.zero_le _, rfl, hp.nd, fun x => ?_, by omega⟩
      · rintro d2 rest2 r f N2 ⟨rfl, j, ks2, xs2, c2, hr2, hj, rfl, nd2, mem2, len2⟩ hN2
        obtain ⟨t, ht⟩ : ∃ t, (Txt.split m ".").length - j = t + 1 := by
          cases e : (Txt.split m ".").length - j with
          | zero => rw [e] at hr2; cases hr2
          | succ t => exact ⟨t, rfl⟩
        rw [ht, intsD_cons] at hr2
        obtain ⟨rfl, rfl⟩ := List.cons.inj hr2
        have hdl : done.length ≤ 24 := by have := hm.len; rw [hms, List.length_append] at this; omega
        have ej : (1 + (j : Int)) = ((j + 1 : Nat) : Int) := by omega
        have et : cutD ((Txt.split m ".").map D.str) none (some (1 + (j : Int))) = ((Txt.split m ".").take (j + 1)).map D.str := by rw [ej, cutD_take, List.map_take]
        refine ⟨_, rfl, ks2.map Sum.inr, xs2, rfl, trivial, (Txt.split m ".").take (j + 1), et, join_names _ (fun n hn => Nat.le_trans (s3 n (List.mem_of_mem_take hn)).2.1 (by decide)) (by rw [List.length_take]; omega) _ (by decide +kernel), _, rfl, by rw [List.length_map]; exact Nat.le_trans (by omega : ks2.length ≤ 200) (by decide), ?_⟩
        rw [putKs_strs]
        refine hN2 _ _ ⟨rfl, j + 1, putS ks2 (Txt.join "." ((Txt.split m ".").take (j + 1))), _, _, ?_, by omega, rfl, putS_nodup nd2, fun x => ?_, ?_⟩
        · rw [show (Txt.split m ".").length - (j + 1) = t by omega, show (1 + ((j + 1 : Nat) : Int)) = 1 + (j : Int) + 1 by omega]
        · rw [putS_mem, mem2 x]
          constructor
          · rintro ((h | ⟨k, h1, h2, h3⟩) | h)
            · exact .inl h
            · exact .inr ⟨k, h1, by omega, h3⟩
            · exact .inr ⟨j + 1, by omega, by omega, h⟩
          · rintro (h | ⟨k, h1, h2, h3⟩)
            · exact .inl (.inl h)
            · by_cases hk : k = j + 1
              · subst hk; exact .inr h3
              · exact .inl (.inr ⟨k, h1, by omega, h3⟩)
        · have := putS_len ks2 (Txt.join "." ((Txt.split m ".").take (j + 1)))
          omega
      · rintro r f ⟨rfl, j, ks2, xs2, c2, hr2, hj, rfl, nd2, mem2, len2⟩
        have hjl : j = (Txt.split m ".").length := by
          cases e : (Txt.split m ".").length - j with
          | zero => omega
          | succ t => rw [e, intsD_cons] at hr2; cases hr2
        subst hjl
        refine hN _ _ ⟨en0, done ++ [m], rest', ks2, xs2, _, _, _, rfl, by rw [hms]; simp, rfl, ⟨nd2, fun x => ?_⟩, by rw [List.length_append]; simp; omega⟩
        rw [mem2 x]
        constructor
        · rintro (⟨m', h1, h2⟩ | ⟨k, h1, h2, h3⟩)
          · exact ⟨m', by simp [h1], h2⟩
          · exact ⟨m, by simp, k, h1, h2, h3⟩
        · rintro ⟨m', h1, k, h2, h3, h4⟩
          rcases List.mem_append.mp h1 with h | h
          · exact .inl ⟨m', h, k, h2, h3, h4⟩
          · rw [List.mem_singleton.mp h] at h3 h4
            exact .inr ⟨k, h2, h3, h4⟩
      · show intsD 1 (((((Txt.split m ".").map D.str).length : Int) + 1) - 1).toNat = _
        rw [List.length_map]
        congr 1
        omega
      · rw [hp.mem x]
        constructor
        · exact .inl
        · rintro (h | ⟨k, h1, h2, _⟩)
          · exact h
          · omega
    · rintro r f ⟨rfl, done, rest', ks, xs, a, b, c, hr, hms, rfl, hp, hl⟩
      obtain rfl : rest' = [] := by
        match rest', hr with
        | [], _ => rfl
      rw [List.append_nil] at hms
      subst hms
      have hk : (ks.map Sum.inr).map keyD = ks.map D.str := by rw [List.map_map]; rfl
      refine ⟨?_, ?_⟩
      · rw [hk]
        exact sorts_strs (Nat.le_trans hl (Nat.le_trans (Nat.mul_le_mul_left 6 hm.len) (by decide))) fun s hs => ((hp.mem s).mp hs).path hm |>.asc
      · rw [hk, sortD_strs]
        exact q ks hp
abbrev s_x_BadProgram : Stmt := clsS 6 0
theorem sc_x_BadProgram : FnScope ["self", "error"] ["self", "error"] (defScope s_x_BadProgram) := ⟨rfl, rfl, rfl, by decide +kernel, rfl, by decide +kernel, by decide +kernel⟩
theorem ok_x_BadProgram {C fI : Addr} {fd : FuncData} (T : OexC K C) (hno : PySem.W.findIn K (.ref C) "error" = some none) (F : Fun K "__init__" "BadProgram.__init__" s_x_BadProgram fI fd) (i1 : PySem.W.findIn K (.ref C) "__init__" = some (some (.ref fI))) (i2 : PySem.W.typeIn K (.ref fI) = some (.type "function")) (hns : PySem.W.nsIn K mainGlobals "BadProgram" = some (some (.ref C))) (hm : mg "BadProgram" = some (.ref C)) : Exn P w K mg base 1 "BadProgram" "error" :=
  exn_mk T hno F i1 i2 hns hm sc_x_BadProgram (F.binds fun _ _ _ _ _ _ us hl => match us, hl with | [_, _], _ => rfl) (fun cdv A outer s H E => pss_one (ps_ost (pv 0) (pv 1)))
/-! Program.__init__ -/
abbrev s_Program___init__ : Stmt := clsS 24 0
theorem sc_Program___init__ : FnScope ["self", "modules", "uses", "error"] ["self", "modules", "uses"] (defScope s_Program___init__) := ⟨rfl, rfl, rfl, by decide +kernel, rfl, by decide +kernel, by decide +kernel⟩
def prgD (ms : List Str) (us : List Us) (ks : List Str) : D := .obj "Program" ["places", "links", "heads"] [.tup ((sortS ms).map D.str), .tup ((sortU us).map pairD), .tup ((sortS ks).map D.str)]
structure PGd (ms : List Str) (us : List Us) (ks : List Str) : Prop where
  m : PVm ms
  u : PVu ms us
  k : Parts ms ks
theorem PGd.au {ms : List Str} {us : List Us} {ks : List Str} (h : PGd ms us ks) : ∀ u ∈ us, ascU u := h.u.asc h.m
theorem PGd.ak {ms : List Str} {us : List Us} {ks : List Str} (h : PGd ms us ks) : ∀ k ∈ ks, asc k := fun k hk => (((h.k.mem k).mp hk).path h.m).asc
def Sp_Program___init__ : DSpX := fun _ ds f Q E => ∃ (x y : D), ds = [x, y] ∧ x.good = true ∧ y.good = true ∧ (∀ xs, x = .tup xs → xs.length ≤ 100000) ∧ (pErr x y ≠ .none → E (.obj "BadProgram" ["error"] [pErr x y]) f) ∧
  ∀ (ms : List Str) (us : List Us) (ks : List Str), x = .tup (ms.map D.str) → y = .tup (us.map pairD) → pErr x y = .none → PGd ms us ks → Q (prgD ms us ks) f
set_option maxHeartbeats 2000000 in
theorem ok_Program___init__ (m_sorted : mg "sorted" = none) (m_tuple : mg "tuple" = none) {C_Program : Addr} (k_Program : KC K "Program" C_Program) (n_Program_heads : NoAttr K C_Program "heads") (n_Program_links : NoAttr K C_Program "links") (n_Program_places : NoAttr K C_Program "places") (x_BadProgram : Exn P w K mg base 1 "BadProgram" "error") (c_parts_of : Cal P w K mg base 1 "parts_of" ["modules"] Sp_parts_of) (c_program_error : Cal P w K mg base 5 "program_error" ["modules", "uses"] Sp_program_error) (mg_Program : mg "Program" = some (.ref C_Program)) (d : ∃ f fd, Fun K "__init__" "Program.__init__" s_Program___init__ f fd ∧ Mk K C_Program f) : MkrX P w K mg base 6 "Program" ["self", "modules", "uses"] Sp_Program___init__ := by
  obtain ⟨f, fd, F, M⟩ := d
  refine ⟨C_Program, f, fd, M, dinitX (k := 5) (S := Sp_Program___init__) (c := "Program") F sc_Program___init__ ?len (fun cdv A outer s H E hr => (dss_cons (ds_set false (i := 3) sc_Program___init__.nd (de_callC c_program_error (hr.mono (by decide)) (da_cons (de_v 1) (da_cons (de_v 2) da_nil))))
      (dss_cons (ds_if (dp_notN (de_v 3) de_non) (dss_one (ds_raise x_BadProgram (hr.mono (by decide)) (de_v 3))) dss_nil)
      (dss_cons (ds_fldO false (i := 0) k_Program n_Program_places (de_callTy call_tuple_of sc_tuple (by rfl) m_tuple (by decide +kernel) (da_cons (de_sorted hr m_sorted (da_cons (de_v 1) da_nil)) da_nil)))
      (dss_cons (ds_fldO false (i := 0) k_Program n_Program_links (de_callTy call_tuple_of sc_tuple (by rfl) m_tuple (by decide +kernel) (da_cons (de_sorted hr m_sorted (da_cons (de_v 2) da_nil)) da_nil)))
      (dss_one (ds_fldO false (i := 0) k_Program n_Program_heads (de_callC c_parts_of (hr.mono (by decide)) (da_cons (de_v 1) da_nil))))))))) ?h, F.binds fun _ _ _ _ _ _ us hl => match us, hl with | [_, _, _], _ => rfl, k_Program.ns, mg_Program⟩
  case len =>
    intro g ds n Q E h; obtain ⟨_, _, rfl, _⟩ := h; rfl
  case h =>
    intro a g ds n Q E h
    obtain ⟨x, y, rfl, hx, hy, hl, qe, q⟩ := h
    refine ⟨x, y, rfl, hx, hy, hl, ?_⟩
    rcases pErr_ok x y with he | ⟨l, he⟩
    · rw [he]
      obtain ⟨ms, us, rfl, rfl, hm, hv⟩ := pErr_none he
      have hs1 : Sorts (ms.map D.str) := sorts_strs (Nat.le_trans hm.len (by decide)) fun s hs => (hm.path s hs).asc
      have hs2 : Sorts (us.map pairD) := sorts_pairs (Nat.le_trans hv.len (by decide)) (hv.asc hm)
      refine ⟨a, [], [], rfl, by decide, by decide, hs1, ?_⟩
      refine ⟨a, ["places"], _, rfl, by decide, by decide, hs2, ?_⟩
      refine ⟨a, ["places", "links"], _, rfl, by decide, by decide, ms, rfl, hm, fun ks hk => ?_⟩
      refine ⟨["places", "links", "heads"], _, rfl, ?_⟩
      have := q ms us ks rfl rfl he ⟨hm, hv, hk⟩
      unfold prgD at this
      rw [← sortD_strs ms, ← sortD_pairs us] at this
      exact this
    · rw [he] at qe ⊢
      exact qe (fun z => by cases z)
abbrev s_x_BadUse : Stmt := clsS 7 0
theorem sc_x_BadUse : FnScope ["self", "index"] ["self", "index"] (defScope s_x_BadUse) := ⟨rfl, rfl, rfl, by decide +kernel, rfl, by decide +kernel, by decide +kernel⟩
theorem ok_x_BadUse {C fI : Addr} {fd : FuncData} (T : OexC K C) (hno : PySem.W.findIn K (.ref C) "index" = some none) (F : Fun K "__init__" "BadUse.__init__" s_x_BadUse fI fd) (i1 : PySem.W.findIn K (.ref C) "__init__" = some (some (.ref fI))) (i2 : PySem.W.typeIn K (.ref fI) = some (.type "function")) (hns : PySem.W.nsIn K mainGlobals "BadUse" = some (some (.ref C))) (hm : mg "BadUse" = some (.ref C)) : Exn P w K mg base 1 "BadUse" "index" :=
  exn_mk T hno F i1 i2 hns hm sc_x_BadUse (F.binds fun _ _ _ _ _ _ us hl => match us, hl with | [_, _], _ => rfl) (fun cdv A outer s H E => pss_one (ps_ost (pv 0) (pv 1)))
/-! Program.of -/
abbrev s_Program_of : Stmt := clsS 24 4
theorem sc_Program_of : FnScope ["cls", "uses", "found", "index", "use"] ["cls", "uses"] (defScope s_Program_of) := ⟨rfl, rfl, rfl, by decide +kernel, rfl, by decide +kernel, by decide +kernel⟩
def Sp_Program_of : DSpX := fun _ ds f Q E => ∃ xs : List D, ds = [.tup xs] ∧ xs.length ≤ 100 ∧ (∀ x ∈ xs, x.good = true) ∧ (∀ i, badAt xs 0 = some i → E (.obj "BadUse" ["index"] [.int (i : Nat)]) f) ∧
  ∀ us : List Us, xs = us.map pairD → badAt xs 0 = none → (mErr us ≠ .none → E (.obj "BadProgram" ["error"] [mErr us]) f) ∧ ∀ ks, mErr us = .none → PGd (msU us) us ks → Q (prgD (msU us) us ks) f
set_option maxHeartbeats 2000000 in
theorem ok_Program_of (m_sorted : mg "sorted" = none) (m_tuple : mg "tuple" = none) (m_enumerate : mg "enumerate" = none) {C_Program : Addr} (k_Program : KC K "Program" C_Program) (x_BadUse : Exn P w K mg base 1 "BadUse" "index") (c_Program___init__ : MkrX P w K mg base 6 "Program" ["self", "modules", "uses"] Sp_Program___init__) (c_is_path : Cal P w K mg base 2 "is_path" ["value"] Sp_is_path) (c_is_pair : Cal P w K mg base 1 "is_pair" ["value"] Sp_is_pair) (mg_Program : mg "Program" = some (.ref C_Program)) (d : ∃ f fd mc p, Fun K "of" "Program.of" s_Program_of f fd ∧ ClX.CRead K C_Program mc ∧ ClX.CMet K C_Program mc "of" p f) : CalCX P w K mg base 8 "Program" "of" Sp_Program_of := by
  obtain ⟨f, fd, mc, p, F, R, M⟩ := d
  refine ⟨⟨C_Program, mc, p, f, mg_Program, R, M, dfnCX (k := 7) (S := Sp_Program_of) (C := C_Program) F sc_Program_of (fun _ _ _ _ _ _ _ => rfl) (fun _ _ _ _ _ _ _ _ _ => rfl) (fun cdv A outer s H E hr => (dss_cons (ds_setD0 (i := 2) sc_Program_of.nd)
      (dss_cons (ds_for [] (passes_of rfl) (di_enum m_enumerate (da_cons (de_v 1) da_nil)) (dg_tup rfl (dgs_cons (dg_name (i := 3) sc_Program_of.nd) (dgs_cons (dg_name (i := 4) sc_Program_of.nd) dgs_nil))) (dss_cons (ds_if (DW.p (dw_or (dp_not (dp_val (de_callC c_is_pair (hr.mono (by decide)) (da_cons (de_v 4) da_nil)))) (dw_or (dp_not (dp_val (de_callC c_is_path (hr.mono (by decide)) (da_cons (de_ix (de_v 4) de_int) da_nil)))) (dw_or1 (dp_not (dp_val (de_callC c_is_path (hr.mono (by decide)) (da_cons (de_ix (de_v 4) de_int) da_nil)))))))) (dss_one (ds_raise x_BadUse (hr.mono (by decide)) (de_v 3))) dss_nil)
      (dss_cons (ds_setKey false hr (i := 2) (de_ix (de_v 4) de_int) de_bl)
      (dss_one (ds_setKey false hr (i := 2) (de_ix (de_v 4) de_int) de_bl)))))
      (dss_one (ds_frz [2] (ds_retX (dex_makeL (i := 0) c_Program___init__ k_Program (hr.mono (by decide)) (da_cons (de_callTy call_tuple_of sc_tuple (by rfl) m_tuple (by decide +kernel) (da_cons (de_sorted hr m_sorted (da_cons (de_v 2) da_nil)) da_nil)) (da_cons (de_v 1) da_nil))))))))) ?h⟩⟩
  case h =>
    intro g xs n Q E h
    obtain ⟨xs', e, hl, hg, qb, q⟩ := h
    obtain rfl : xs = xs' := by simpa using e
    refine dFor_inv (fun rest r f => f = n ∧ ∃ (us : List Us) (rx ys : List D) (a b : Sl), xs = us.map pairD ++ rx ∧ rest = (enumD xs).drop us.length ∧ r = [.sh (.any (.ref C_Program)), .sh (.tup xs), .od ((ded (allp us)).map Sum.inr) ys, a, b] ∧ (∀ u ∈ us, u.1 ≠ u.2 ∧ PathN 6 u.1 ∧ PathN 6 u.2) ∧ badAt rx us.length = badAt xs 0) _ _ _ ?_ ?_ ⟨rfl, [], xs, [], _, _, rfl, rfl, by rw [show ded (allp []) = [] from by unfold ded; rfl]; rfl, by simp, rfl⟩
    · rintro d rest r f N ⟨rfl, done, rx, ys, a, b, ex, hr, rfl, hd, hb⟩ hN
      have hh : (enumD xs)[done.length]? = some d := by
        have := congrArg List.head? hr
        rw [List.head?_drop] at this
        exact this.symm
      obtain ⟨y, hy, rfl⟩ := enumD_get hh
      have hy2 : xs[done.length]? = rx[0]? := by
        rw [ex, List.getElem?_append_right (by rw [List.length_map]; omega), List.length_map, Nat.sub_self]
      cases rx with
      | nil => rw [hy2] at hy; cases hy
      | cons x rx =>
        obtain rfl : x = y := by rw [hy2] at hy; exact Option.some.inj hy
        have hxg : x.good = true := hg x (by rw [ex]; simp)
        have hb0 : (if useP x = true then badAt rx (done.length + 1) else some done.length) = badAt xs 0 := hb
        have hbad : useP x = false → E (.obj "BadUse" ["index"] [.int (done.length : Nat)]) f := fun h => by
          rw [h, if_neg Bool.false_ne_true] at hb0
          exact qb _ hb0.symm
        refine ⟨_, rfl, x, rfl, .inl (D.good_tyd hxg), ?_⟩
        cases hp : pairB x with
        | false =>
          exact hbad (by unfold useP; rw [hp]; rfl)
        | true =>
          obtain ⟨u, rfl, hu⟩ := pairB_pair hp
          have g1 : D.good (.str u.1) = true := goodA_mem (show D.good (.tup [.str u.1, .str u.2]) = true from hxg) (by simp)
          have g2 : D.good (.str u.2) = true := goodA_mem (show D.good (.tup [.str u.1, .str u.2]) = true from hxg) (by simp)
          have l1 : ∀ s, D.str u.1 = .str s → s.length ≤ 100000 := fun s e => by cases e; exact Nat.le_trans (good_strI g1).2 (by decide)
          have l2 : ∀ s, D.str u.2 = .str s → s.length ≤ 100000 := fun s e => by cases e; exact Nat.le_trans (good_strI g2).2 (by decide)
          have eu : useP (pairD u) = (isPathD (.str u.1) && isPathD (.str u.2)) := by unfold useP; rw [hp]; rfl
          refine ⟨_, atI0, .str u.1, rfl, D.good_tyd g1, l1, ?_⟩
          cases h1 : isPathD (.str u.1) with
          | false => exact hbad (by rw [eu, h1]; rfl)
          | true =>
            refine ⟨_, atI_nat (j := 1) rfl, .str u.2, rfl, D.good_tyd g2, l2, ?_⟩
            cases h2 : isPathD (.str u.2) with
            | false => exact hbad (by rw [eu, h1, h2]; rfl)
            | true =>
              obtain ⟨s1, e1, p1⟩ := isPathD_str h1
              cases e1
              obtain ⟨s2, e2, p2⟩ := isPathD_str h2
              cases e2
              rw [eu, h1, h2, if_pos (show (true && true) = true from rfl)] at hb0
              have hdl : (done.map pairD ++ pairD u :: rx).length ≤ 100 := ex ▸ hl
              have hdl : done.length ≤ 100 := by
                rw [List.length_append, List.length_map] at hdl
                omega
              have k1 : (ded (allp done)).length ≤ 200 := Nat.le_trans (ded_len _) (by rw [allp_len]; omega)
              refine ⟨_, _, rfl, _, atI0, .inr u.1, rfl, by rw [List.length_map]; exact Nat.le_trans k1 (by decide), ?_⟩
              rw [putKs_put]
              refine ⟨_, _, rfl, _, atI_nat (j := 1) rfl, .inr u.2, rfl, by rw [List.length_map, ← ded_snoc]; exact Nat.le_trans (ded_len _) (by rw [List.length_append, allp_len, List.length_singleton]; exact Nat.le_trans (show _ ≤ 201 by omega) (by decide)), ?_⟩
              rw [putKs_put, ← ded_snoc, ← ded_snoc, ← allp_snoc]
              refine hN _ _ ⟨rfl, done ++ [u], rx, _, _, _, by rw [ex]; simp, ?_, rfl, fun v hv => ?_, ?_⟩
              · rw [List.length_append, List.length_singleton, ← List.tail_drop, ← hr]
                rfl
              · rcases List.mem_append.mp hv with h | h
                · exact hd v h
                · rw [List.mem_singleton.mp h]
                  exact ⟨hu, p1, p2⟩
              · rw [List.length_append, List.length_singleton]
                exact hb0
    · rintro r f ⟨rfl, done, rx, ys, a, b, ex, hr, rfl, hd, hb⟩
      have hrx : rx = [] := by
        have h1 := congrArg List.length hr
        rw [List.length_drop, enumD_len] at h1
        have h2 := congrArg List.length ex
        rw [List.length_append, List.length_map] at h2
        have h1 : 0 = xs.length - done.length := h1
        exact List.length_eq_zero_iff.mp (by omega)
      subst hrx
      rw [List.append_nil] at ex
      subst ex
      have hb1 : badAt (done.map pairD) 0 = none := hb.symm
      have hdl : done.length ≤ 100 := by rw [List.length_map] at hl; exact hl
      have q2 := q done rfl hb1
      refine ⟨rfl, ?_⟩
      show Sorts (((ded (allp done)).map (Sum.inr : Str → Key)).map keyD) ∧ _
      rw [map_key, sortD_strs]
      have hp6 : ∀ m ∈ ded (allp done), PathN 6 m := fun m hm => by
        obtain ⟨u, hu, e⟩ := allp_mem (ded_mem.mp hm)
        rcases e with e | e
        · rw [e]; exact (hd u hu).2.1
        · rw [e]; exact (hd u hu).2.2
      have k1 : (ded (allp done)).length ≤ 200 := Nat.le_trans (ded_len _) (by rw [allp_len]; omega)
      refine ⟨sorts_strs (Nat.le_trans k1 (by decide)) (fun m hm => (hp6 m hm).asc), ?_⟩
      have gms : D.good (.tup ((msU done).map D.str)) = true := good_strs fun s hs => ⟨(hp6 s (mem_sortS.mp hs)).asc, Nat.le_trans (hp6 s (mem_sortS.mp hs)).len (by decide)⟩
      refine ⟨.tup ((msU done).map D.str), .tup (done.map pairD), rfl, gms, goodA_of hg, fun ys e => ?_, fun he => q2.1 he, fun ms us ks e1 e2 he hk => ?_⟩
      · cases e
        rw [List.length_map]
        unfold msU
        rw [sortS_len]
        exact Nat.le_trans k1 (by decide)
      · have e3 : ms = msU done := (List.map_inj_right (f := D.str) (fun a b e => by cases e; rfl)).mp (D.tup.inj e1).symm
        have e4 : us = done := (List.map_inj_right (f := pairD) (fun a b e => pairD_inj e)).mp (D.tup.inj e2).symm
        subst e3 e4
        exact q2.2 ks he hk
/-! _law_of -/
abbrev s__law_of : Stmt := topS 39
theorem sc__law_of : FnScope ["_law_some"] ["_law_some"] (defScope s__law_of) := ⟨rfl, rfl, rfl, by decide +kernel, rfl, by decide +kernel, by decide +kernel⟩
def Sp__law_of : DSpX := fun _ ds f Q E => ∃ xs : List D, ds = [.lst xs] ∧ (xs.length ≤ 5 ∨ xs.length = 13) ∧ (∀ x ∈ xs, x.good = true) ∧ (∀ i, badAt xs 0 = some i → E (.obj "BadUse" ["index"] [.int (i : Nat)]) f) ∧
  ∀ us : List Us, xs = us.map pairD → badAt xs 0 = none → (mErr us ≠ .none → E (.obj "BadProgram" ["error"] [mErr us]) f) ∧ ∀ ks, mErr us = .none → PGd (msU us) us ks → Q (prgD (msU us) us ks) f
set_option maxHeartbeats 2000000 in
theorem ok__law_of (d : Df K mg "_law_of" s__law_of) (m_len : mg "len" = none) (c_Program_of : CalCX P w K mg base 8 "Program" "of" Sp_Program_of) : CalX P w K mg base 9 "_law_of" ["_law_some"] Sp__law_of := by
  obtain ⟨f, fd, F, m⟩ := d
  refine ⟨f, fd, dfnX (k := 8) (S := Sp__law_of) F sc__law_of ?len (fun cdv A outer s H E hr => (dss_cons (ds_if (dp_eq hr.units (de_len m_len (da_cons (de_v 0) da_nil)) de_int) (dss_one (ds_retX (dex_callCM0 c_Program_of (hr.mono (by decide))))) dss_nil)
      (dss_cons (ds_if (dp_eq hr.units (de_len m_len (da_cons (de_v 0) da_nil)) de_int) (dss_one (ds_retX (dex_callCM c_Program_of (hr.mono (by decide)) (da_cons (de_ix (de_v 0) de_int) da_nil)))) dss_nil)
      (dss_cons (ds_if (dp_eq hr.units (de_len m_len (da_cons (de_v 0) da_nil)) de_int) (dss_one (ds_retX (dex_callCM c_Program_of (hr.mono (by decide)) (da_cons (de_ix (de_v 0) de_int) (da_cons (de_ix (de_v 0) de_int) da_nil))))) dss_nil)
      (dss_cons (ds_if (dp_eq hr.units (de_len m_len (da_cons (de_v 0) da_nil)) de_int) (dss_one (ds_retX (dex_callCM c_Program_of (hr.mono (by decide)) (da_cons (de_ix (de_v 0) de_int) (da_cons (de_ix (de_v 0) de_int) (da_cons (de_ix (de_v 0) de_int) da_nil)))))) dss_nil)
      (dss_cons (ds_if (dp_eq hr.units (de_len m_len (da_cons (de_v 0) da_nil)) de_int) (dss_one (ds_retX (dex_callCM c_Program_of (hr.mono (by decide)) (da_cons (de_ix (de_v 0) de_int) (da_cons (de_ix (de_v 0) de_int) (da_cons (de_ix (de_v 0) de_int) (da_cons (de_ix (de_v 0) de_int) da_nil))))))) dss_nil)
      (dss_cons (ds_if (dp_eq hr.units (de_len m_len (da_cons (de_v 0) da_nil)) de_int) (dss_one (ds_retX (dex_callCM c_Program_of (hr.mono (by decide)) (da_cons (de_ix (de_v 0) de_int) (da_cons (de_ix (de_v 0) de_int) (da_cons (de_ix (de_v 0) de_int) (da_cons (de_ix (de_v 0) de_int) (da_cons (de_ix (de_v 0) de_int) da_nil)))))))) dss_nil)
      (dss_one (ds_retX (dex_callCM c_Program_of (hr.mono (by decide)) (da_cons (de_ix (de_v 0) de_int) (da_cons (de_ix (de_v 0) de_int) (da_cons (de_ix (de_v 0) de_int) (da_cons (de_ix (de_v 0) de_int) (da_cons (de_ix (de_v 0) de_int) (da_cons (de_ix (de_v 0) de_int) (da_cons (de_ix (de_v 0) de_int) (da_cons (de_ix (de_v 0) de_int) (da_cons (de_ix (de_v 0) de_int) (da_cons (de_ix (de_v 0) de_int) (da_cons (de_ix (de_v 0) de_int) (da_cons (de_ix (de_v 0) de_int) (da_cons (de_ix (de_v 0) de_int) da_nil))))))))))))))))))))))) ?h, F.kp, F.binds fun _ _ _ _ _ _ us hl => match us, hl with | [_], _ => rfl, m⟩
  case len =>
    intro g ds n Q E h; obtain ⟨_, rfl, _⟩ := h; rfl
  case h =>
    intro g ds n Q E h
    obtain ⟨xs, rfl, hl, hg, qb, q⟩ := h
    have fin : xs.length ≤ lim ∧ Sp_Program_of g [.tup xs] n Q (fun x f' => E x f') := ⟨Nat.le_trans (show xs.length ≤ 13 by omega) (by decide), xs, rfl, by omega, hg, qb, q⟩
    rcases xs with _ | ⟨a, _ | ⟨b, _ | ⟨c, _ | ⟨d, _ | ⟨e, _ | ⟨x6, xs⟩⟩⟩⟩⟩⟩
    · exact fin
    · exact ⟨a, rfl, fin⟩
    · exact ⟨a, rfl, b, rfl, fin⟩
    · exact ⟨a, rfl, b, rfl, c, rfl, fin⟩
    · exact ⟨a, rfl, b, rfl, c, rfl, d, rfl, fin⟩
    · exact ⟨a, rfl, b, rfl, c, rfl, d, rfl, e, rfl, fin⟩
    · obtain ⟨x7, x8, x9, y0, y1, y2, y3, rfl⟩ : ∃ x7 x8 x9 y0 y1 y2 y3, xs = [x7, x8, x9, y0, y1, y2, y3] := by
        rcases xs with _ | ⟨x7, _ | ⟨x8, _ | ⟨x9, _ | ⟨y0, _ | ⟨y1, _ | ⟨y2, _ | ⟨y3, _ | ⟨y4, xs⟩⟩⟩⟩⟩⟩⟩⟩
        all_goals first
          | exact ⟨_, _, _, _, _, _, _, rfl⟩
          | (exfalso; simp only [List.length_cons, List.length_nil] at hl; omega)
      exact ⟨a, rfl, b, rfl, c, rfl, d, rfl, e, rfl, x6, rfl, x7, rfl, x8, rfl, x9, rfl, y0, rfl, y1, rfl, y2, rfl, y3, rfl, fin⟩
/-! Program.__contains__ -/
abbrev s_Program___contains__ : Stmt := clsS 24 6
theorem sc_Program___contains__ : FnScope ["self", "value"] ["self", "value"] (defScope s_Program___contains__) := ⟨rfl, rfl, rfl, by decide +kernel, rfl, by decide +kernel, by decide +kernel⟩
def Sp_Program___contains__ : DSp := fun _ ds f Q => ∃ (ms : List Str) (us : List Us) (ks : List Str) (x : D), ds = [prgD ms us ks, x] ∧ (∀ k ∈ ks, asc k) ∧ (∀ u ∈ us, ascU u) ∧ okO x ∧
  (∀ s, x = .str s → asc s ∧ Q (.bool (decide (s ∈ ks))) f) ∧ (∀ a b, x = .tup [.str a, .str b] → ascU (a, b) ∧ (a = b → (a, b) ∉ us) ∧ Q (.bool (decide ((a, b) ∈ us))) f) ∧ (x.isSt = false → (∀ a b, x ≠ .tup [.str a, .str b]) → Q (.bool false) f)
theorem pairB_inv {x : D} (h : pairB x = true) : ∃ a b, x = .tup [.str a, .str b] ∧ a ≠ b := by
  cases x <;> try (cases h; done)
  next xs =>
  match xs, h with
  | [], h => cases h
  | [_], h => cases h
  | [a, b], h =>
    cases a <;> try (cases h; done)
    cases b <;> try (cases h; done)
    exact ⟨_, _, rfl, of_decide_eq_true h⟩
  | _ :: _ :: _ :: _, h => cases h
set_option maxHeartbeats 2000000 in
theorem ok_Program___contains__ (m_str : mg "str" = none) (m_isinstance : mg "isinstance" = none) {C_Program : Addr} (k_Program : KC K "Program" C_Program) (n_Program_links : NoAttr K C_Program "links") (o_Program : KO K "Program" C_Program) (n_Program_heads : NoAttr K C_Program "heads") (c_is_pair : Cal P w K mg base 1 "is_pair" ["value"] Sp_is_pair) (d : ∃ f fd, Fun K "__contains__" "Program.__contains__" s_Program___contains__ f fd ∧ Meth K C_Program "__contains__" f) : CalM P w K mg base 2 "Program" "__contains__" ["self", "value"] Sp_Program___contains__ := by
  obtain ⟨f, fd, F, M⟩ := d
  refine ⟨C_Program, f, fd, k_Program, M, dfn (k := 1) (S := Sp_Program___contains__) F sc_Program___contains__ ?len (fun cdv A outer s H E hr => (dss_cons (ds_if (dp_val (de_isiO o_Program m_isinstance (da_cons (de_v 1) (da_cons (de_bltn (v := .ty "str") (u := .type "str") (by rfl) m_str (by decide +kernel) rfl) da_nil)))) (dss_one (ds_ret (de_in hr (de_v 1) (de_fld k_Program n_Program_heads (de_v 0))))) dss_nil)
      (dss_one (ds_ret (de_and (de_callC c_is_pair (hr.mono (by decide)) (da_cons (de_v 1) da_nil)) (de_one (de_in hr (de_v 1) (de_fld k_Program n_Program_links (de_v 0))))))))) ?h, F.binds fun _ _ _ _ _ _ us hl => match us, hl with | [_, _], _ => rfl⟩
  case len =>
    intro g ds n Q h; obtain ⟨_, _, _, _, rfl, _⟩ := h; rfl
  case h =>
    intro g ds n Q h
    obtain ⟨ms, us, ks, x, rfl, ak, au, hx, q1, q2, q3⟩ := h
    have tail : x.isSt = false → (if pairB x = true then (∃ y, (["places", "links", "heads"].zip [D.tup ((sortS ms).map D.str), .tup ((sortU us).map pairD), .tup ((sortS ks).map D.str)]).lookup "links" = some y ∧ oIn false x y fun z => Q z n) else Q (.bool false) n) := fun hs => by
      cases hp : pairB x with
      | true =>
        obtain ⟨a, b, rfl, hne⟩ := pairB_inv hp
        obtain ⟨h1, _, h2⟩ := q2 a b rfl
        refine iteT ⟨_, rfl, shaped_pair (u := (a, b)) h1, shpUT (fun u hu => au u (mem_sortU.mp hu)), ?_⟩
        rw [anyU', show decide ((a, b) ∈ sortU us) = decide ((a, b) ∈ us) from by rw [Bool.eq_iff_iff, decide_eq_true_iff, decide_eq_true_iff, mem_sortU]]
        exact h2
      | false =>
        refine iteF ?_
        by_cases hab : ∃ a b, x = .tup [.str a, .str b]
        · obtain ⟨a, b, rfl⟩ := hab
          obtain ⟨h1, h2, h3⟩ := q2 a b rfl
          have e : a = b := Classical.byContradiction fun z => by
            have : pairB (.tup [.str a, .str b]) = true := decide_eq_true z
            rw [this] at hp
            cases hp
          rw [decide_eq_false (h2 e)] at h3
          exact h3
        · exact q3 hs fun a b e => hab ⟨a, b, e⟩
    have tl : x.isSt = false → dAndV (dCall Sp_is_pair (dCons (dVar 1) dNil)) (dOp (oIn false) (dVar 1) (dFld "Program" "links" (dVar 0))) g [.sh (prgD ms us ks), .sh x] n Q := fun hs => by
      refine ⟨x, rfl, hx, ?_⟩
      have t := tail hs
      show if pairB x = true then _ else _
      cases hp : pairB x with
      | true => rw [hp] at t; exact ⟨rfl, t⟩
      | false => rw [hp] at t; exact t
    cases x with
    | str s =>
      obtain ⟨h1, h2⟩ := q1 s rfl
      refine ⟨"str", true, rfl, by decide +kernel, rfl, _, rfl, shaped_str h1, shpST (fun k hk => ak k (mem_sortS.mp hk)), ?_⟩
      rw [anyS', show decide (s ∈ sortS ks) = decide (s ∈ ks) from by rw [Bool.eq_iff_iff, decide_eq_true_iff, decide_eq_true_iff, mem_sortS]]
      exact h2
    | any v =>
      rcases hx with h | h <;> cases h
    | exn _ _ _ =>
      rcases hx with h | h <;> cases h
    | obj c ns xs =>
      rcases hx with h | h
      · cases h
      · exact ⟨of_decide_eq_true h, .inr rfl, tl rfl⟩
    | _ => exact ⟨_, false, rfl, by decide +kernel, tl rfl⟩
/-! _law_beginnings -/
abbrev s__law_beginnings : Stmt := topS 42
theorem sc__law_beginnings : FnScope ["_law_modules", "_law_found", "_law_module", "_law_names", "_law_many_here"] ["_law_modules"] (defScope s__law_beginnings) := ⟨rfl, rfl, rfl, by decide +kernel, rfl, by decide +kernel, by decide +kernel⟩
def Sp__law_beginnings : DSp := fun _ ds f Q => ∃ ms : List Str, (ds = [.lst (ms.map D.str)] ∨ ds = [.tup (ms.map D.str)]) ∧ ms.length ≤ 50 ∧ (∀ m ∈ ms, PathN 6 m) ∧ ∀ ks, Parts ms ks → Q (.tup ((sortS ks).map D.str)) f
set_option maxHeartbeats 2000000 in
theorem ok__law_beginnings (d : Df K mg "_law_beginnings" s__law_beginnings) (m_sorted : mg "sorted" = none) (m_set : mg "set" = none) (m_tuple : mg "tuple" = none) (m_range : mg "range" = none) (m_len : mg "len" = none) : Cal P w K mg base 1 "_law_beginnings" ["_law_modules"] Sp__law_beginnings := by
  obtain ⟨f, fd, F, m⟩ := d
  refine ⟨f, fd, dfn (k := 0) (S := Sp__law_beginnings) F sc__law_beginnings ?len (fun cdv A outer s H E hr => (dss_cons (ds_set false (i := 1) sc__law_beginnings.nd (dl_lst da_nil).e)
      (dss_cons (ds_for [] PassesOwn.never (di_seq (de_v 0)) (dg_name (i := 2) sc__law_beginnings.nd) (dss_cons (ds_set false (i := 3) sc__law_beginnings.nd (dl_split (de_v 2) de_str).e)
      (dss_one (ds_set false (i := 1) sc__law_beginnings.nd (de_add (de_v 1) (dl_lc (own := [("_law_many_here", 4)]) rfl sc__law_beginnings.nd (di_range1 m_range (da_cons (de_len m_len (da_cons (de_v 3) da_nil)) da_nil)) (blkOk_by (own := [("_law_many_here", 4)]) (N := ["_law_modules", "_law_found", "_law_module", "_law_names", "_law_many_here"]) (sc := defScope s__law_beginnings) (by decide +kernel)) (fun _ _ _ _ _ => dg_name (i := 4) sc__law_beginnings.nd) (fun _ _ _ _ _ => dts_nil) (fun _ _ _ _ _ => (de_join de_str (de_sl (de_v 3) do_none (do_some (de_add (de_v 4) de_int)))))).e)))))
      (dss_one (ds_ret (de_callTy call_tuple_of sc_tuple (by rfl) m_tuple (by decide +kernel) (da_cons (de_sortZ hr m_sorted m_set (de_v 1)) da_nil))))))) ?h, F.kp, F.binds fun _ _ _ _ _ _ us hl => match us, hl with | [_], _ => rfl, m⟩
  case len =>
    intro g ds n Q h; obtain ⟨_, rfl | rfl, _⟩ := h <;> rfl
  case h =>
    intro g ds n Q h
    obtain ⟨ms, hds, hl50, hm, q⟩ := h
    obtain ⟨x0, hx0, rfl⟩ : ∃ x0, (x0 = .lst (ms.map D.str) ∨ x0 = .tup (ms.map D.str)) ∧ ds = [x0] := by
      rcases hds with rfl | rfl
      · exact ⟨_, .inl rfl, rfl⟩
      · exact ⟨_, .inr rfl, rfl⟩
    refine ⟨show 0 ≤ lim by decide, ?_⟩
    have walk : ∀ (Q' : List D → Nat → Prop), Q' (ms.map D.str) n → dSeq' (dVar 0) g (hide (frz ((startR 5 [x0]).set 1 (.sh (.lst []))) [])) n Q' := fun Q' h => by
      rcases hx0 with rfl | rfl <;> exact h
    refine walk _ ?_
    refine dFor_list D.str (fun done rest r f => f = n ∧ ∃ (l : List Str) (a b c : Sl), r = [.sh x0, .sh (.lst (l.map D.str)), a, b, c] ∧ (∀ x, x ∈ l ↔ isPart done x) ∧ l.length ≤ 6 * done.length) ms _ _ ?_ ?_ ⟨rfl, [], _, _, _, rfl, fun x => ⟨fun h => by simp at h, fun ⟨_, h, _⟩ => by simp at h⟩, Nat.le_refl _⟩
    · rintro done m rest r f N hms ⟨rfl, l, a, b, c, rfl, hl, hlen⟩ hN
      have hmm : m ∈ ms := by rw [hms]; simp
      have hdl : done.length < 50 := by have := hl50; rw [hms, List.length_append, List.length_cons] at this; omega
      have hpath := hm m hmm
      obtain ⟨s1, s2, s3, s4⟩ := hpath.splits
      refine ⟨_, rfl, by decide +kernel, Nat.le_trans hpath.len (by decide), ?_⟩
      refine ⟨by rw [List.length_map]; omega, by rw [List.length_map]; omega, by rw [intsD_len, List.length_map]; exact L1 (by omega), ?_⟩
      rw [List.length_map, show (((Txt.split m ".").length : Int)).toNat = (Txt.split m ".").length from rfl]
      refine lcR D.str (fun i => Txt.join "." ((Txt.split m ".").take (i + 1))) 0 _ _ (fun i hi => ⟨_, rfl, fun f Q h => ?_⟩) ?_
      · have ej : ((0 : Int) + (i : Int) + 1) = ((i + 1 : Nat) : Int) := by omega
        refine ⟨trivial, (Txt.split m ".").take (i + 1), ?_, join_names _ (fun n hn => Nat.le_trans (s3 n (List.mem_of_mem_take hn)).2.1 (by decide)) (by rw [List.length_take]; omega) _ (by decide +kernel), h⟩
        show cutD ((Txt.split m ".").map D.str) none (some ((0 : Int) + (i : Int) + 1)) = _
        rw [ej, cutD_takeS]
      · generalize hps : (List.range (Txt.split m ".").length).map (fun i => Txt.join "." ((Txt.split m ".").take (i + 1))) = ps
        have hpl : ps.length ≤ 6 := by rw [← hps, List.length_map, List.length_range]; exact s2
        refine ⟨by rw [List.length_map, List.length_map]; exact L1 (by omega), ?_⟩
        refine hN _ _ ⟨rfl, l ++ ps, _, _, _, by rw [← List.map_append]; rfl, fun x => ?_, by rw [List.length_append, List.length_append]; simp; omega⟩
        rw [List.mem_append, hl x, ← hps, List.mem_map]
        constructor
        · rintro (⟨m', h1, h2⟩ | ⟨i, hi, rfl⟩)
          · exact ⟨m', by simp [h1], h2⟩
          · exact ⟨m, by simp, i + 1, by omega, by have := List.mem_range.mp hi; omega, rfl⟩
        · rintro ⟨m', h1, k, h2, h3, h4⟩
          rcases List.mem_append.mp h1 with h | h
          · exact .inl ⟨m', h, k, h2, h3, h4⟩
          · rw [List.mem_singleton.mp h] at h3 h4
            exact .inr ⟨k - 1, List.mem_range.mpr (by omega), by rw [h4]; congr 2; omega⟩
    · rintro r f ⟨rfl, l, a, b, c, rfl, hl, hlen⟩
      refine ⟨l, .inl rfl, by omega, fun s hs => (((hl s).mp hs).pathG hm).asc, ?_⟩
      exact q (ded l) ⟨ded_nodup l, fun x => ded_mem.trans (hl x)⟩
abbrev s__law_same : Stmt := topS 35
theorem sc__law_same : FnScope ["_law_found", "_law_due_here", "_law_one", "_law_other"] ["_law_found", "_law_due_here"] (defScope s__law_same) := ⟨rfl, rfl, rfl, by decide +kernel, rfl, by decide +kernel, by decide +kernel⟩
def SpSame : Nat → DSp
  | 0 => fun _ _ _ _ => False
  | n + 1 => fun _ ds f Q => ∃ x y : D, ds = [x, y] ∧ x.tyd = true ∧ y.plain = true ∧ y.dep ≤ n ∧ Q (.bool (deqD x y)) f
def Sp__law_same : DSp := SpSame 8
structure Tys (x : D) (tn : String) : Prop where
  t : x.tyN = some tn
  tup : kitB tn "tuple" = some x.isTup
  lst : kitB tn "list" = some x.isLst
  str : kitB tn "str" = some x.isSt
  bl : kitB tn "bool" = some x.isBl
  int : kitB tn "int" = some x.isIn
  tl : ["tuple", "list"].foldr (fun n r => (kitB tn n).bind fun c => if c then some true else r) (some false) = some (x.isTup || x.isLst)
theorem tys_of {x : D} (h : x.tyd = true) : ∃ t, Tys x t := by
  cases x <;> first
    | (cases h; done)
    | (refine ⟨_, rfl, ?_, ?_, ?_, ?_, ?_, ?_⟩ <;> simp only [D.isTup, D.isLst, D.isSt, D.isBl, D.isIn, Bool.or_false, Bool.or_true] <;> decide +kernel)
theorem ok__law_same_step {n k : Nat} (d : Df K mg "_law_same" s__law_same) (m_int : mg "int" = none) (m_isinstance : mg "isinstance" = none) (m_bool : mg "bool" = none) (m_str : mg "str" = none) (m_list : mg "list" = none) (m_tuple : mg "tuple" = none) (m_zip : mg "zip" = none) (m_all : mg "all" = none) (m_len : mg "len" = none) (c__law_same : Cal P w K mg base k "_law_same" ["_law_found", "_law_due_here"] (SpSame n)) : Cal P w K mg base (k + 1) "_law_same" ["_law_found", "_law_due_here"] (SpSame (n + 1)) := by
  obtain ⟨f, fd, F, m⟩ := d
  refine ⟨f, fd, dfn (k := k) (S := SpSame (n + 1)) F sc__law_same ?len (fun cdv A outer s H E hr => (dss_cons (ds_if (dp_val (de_isiT m_isinstance (da_cons (de_v 1) (da_cons (de_tup (da_cons (de_bltn (v := .ty "tuple") (u := .type "tuple") (by rfl) m_tuple (by decide +kernel) rfl) (da_cons (de_bltn (v := .ty "list") (u := .type "list") (by rfl) m_list (by decide +kernel) rfl) da_nil))) da_nil)))) (dss_cons (ds_if (DW.p (dw_or (dp_ne hr.units (de_isi m_isinstance (da_cons (de_v 1) (da_cons (de_bltn (v := .ty "tuple") (u := .type "tuple") (by rfl) m_tuple (by decide +kernel) rfl) da_nil))) (de_isi m_isinstance (da_cons (de_v 0) (da_cons (de_bltn (v := .ty "tuple") (u := .type "tuple") (by rfl) m_tuple (by decide +kernel) rfl) da_nil)))) (dw_or1 (dp_ne hr.units (de_isi m_isinstance (da_cons (de_v 1) (da_cons (de_bltn (v := .ty "list") (u := .type "list") (by rfl) m_list (by decide +kernel) rfl) da_nil))) (de_isi m_isinstance (da_cons (de_v 0) (da_cons (de_bltn (v := .ty "list") (u := .type "list") (by rfl) m_list (by decide +kernel) rfl) da_nil))))))) (dss_one (ds_ret de_bl)) dss_nil)
      (dss_one (ds_ret (de_and (de_eq hr.units (de_len m_len (da_cons (de_v 0) da_nil)) (de_len m_len (da_cons (de_v 1) da_nil))) (de_one (de_callB (cr_all rfl) sc_all (by rfl) m_all (by decide +kernel) (da_cons (dl_lc (own := [("_law_one", 2), ("_law_other", 3)]) rfl sc__law_same.nd (di_zip m_zip (da_cons (de_v 0) (da_cons (de_v 1) da_nil))) (blkOk_by (own := [("_law_one", 2), ("_law_other", 3)]) (N := ["_law_found", "_law_due_here", "_law_one", "_law_other"]) (sc := defScope s__law_same) (by decide +kernel)) (fun _ _ _ _ _ => dg_tup rfl (dgs_cons (dg_name (i := 2) sc__law_same.nd) (dgs_cons (dg_name (i := 3) sc__law_same.nd) dgs_nil))) (fun _ _ _ _ _ => dts_nil) (fun _ _ _ _ _ => (de_callC c__law_same hr (da_cons (de_v 2) (da_cons (de_v 3) da_nil))))).e da_nil))))))) dss_nil)
      (dss_cons (ds_if (dp_isN (de_v 1) de_non) (dss_one (ds_ret (de_isN (de_v 0) de_non))) dss_nil)
      (dss_cons (ds_if (dp_val (de_isi m_isinstance (da_cons (de_v 1) (da_cons (de_bltn (v := .ty "str") (u := .type "str") (by rfl) m_str (by decide +kernel) rfl) da_nil)))) (dss_one (ds_ret (de_and (de_isi m_isinstance (da_cons (de_v 0) (da_cons (de_bltn (v := .ty "str") (u := .type "str") (by rfl) m_str (by decide +kernel) rfl) da_nil))) (de_one (de_eq hr.units (de_v 0) (de_v 1)))))) dss_nil)
      (dss_cons (ds_if (DW.p (dw_or (dp_val (de_isi m_isinstance (da_cons (de_v 1) (da_cons (de_bltn (v := .ty "bool") (u := .type "bool") (by rfl) m_bool (by decide +kernel) rfl) da_nil)))) (dw_or1 (dp_val (de_isi m_isinstance (da_cons (de_v 0) (da_cons (de_bltn (v := .ty "bool") (u := .type "bool") (by rfl) m_bool (by decide +kernel) rfl) da_nil))))))) (dss_one (ds_ret (de_and (de_isi m_isinstance (da_cons (de_v 0) (da_cons (de_bltn (v := .ty "bool") (u := .type "bool") (by rfl) m_bool (by decide +kernel) rfl) da_nil))) (de_and (de_isi m_isinstance (da_cons (de_v 1) (da_cons (de_bltn (v := .ty "bool") (u := .type "bool") (by rfl) m_bool (by decide +kernel) rfl) da_nil))) (de_one (de_eq hr.units (de_v 0) (de_v 1))))))) dss_nil)
      (dss_cons (ds_if (dp_val (de_isi m_isinstance (da_cons (de_v 1) (da_cons (de_bltn (v := .ty "int") (u := .type "int") (by rfl) m_int (by decide +kernel) rfl) da_nil)))) (dss_one (ds_ret (de_and (de_isi m_isinstance (da_cons (de_v 0) (da_cons (de_bltn (v := .ty "int") (u := .type "int") (by rfl) m_int (by decide +kernel) rfl) da_nil))) (de_one (de_eq hr.units (de_v 0) (de_v 1)))))) dss_nil)
      (dss_one ds_never))))))) ?h, F.kp, F.binds fun _ _ _ _ _ _ us hl => match us, hl with | [_, _], _ => rfl, m⟩
  case len => intro g ds n Q h; obtain ⟨_, _, rfl, _⟩ := h; rfl
  case h =>
    intro g ds f0 Q h
    obtain ⟨x, y, rfl, hx, hy, hd, q⟩ := h
    have hyt : y.tyd = true := D.plain_tyd hy
    obtain ⟨ty, Ty⟩ := tys_of hyt
    obtain ⟨tx, Tx⟩ := tys_of hx
    refine ⟨by decide, ty, ["tuple", "list"], y.isTup || y.isLst, Ty.t, rfl, Ty.tl, ?_⟩
    have eqB : ∀ (a b : Bool) (Q : D → Prop), Q (.bool (!decide (a = b))) → oEq true (.bool a) (.bool b) Q := fun a b Q h => h
    have seqc : ∀ (xs ys : List D), tydA xs = true → plainA ys = true → depA ys + 1 ≤ n → ∀ (F : D → Nat → Prop), F (.bool (deqA xs ys)) f0 → ∀ (zs : List D) (acc : List Bool), (∀ z ∈ zs, ∃ a b, z = .tup [a, b] ∧ a ∈ xs ∧ b ∈ ys) →
        ∀ (r : Sg) (Q' : List D → Nat → Prop), r.length = 4 → Q' ((acc ++ zs.map zeq).map D.bool) f0 →
        dLcGo g (tgTup [tgN 2, tgN 3]) dYes (dCall (SpSame n) (dCons (dVar 2) (dCons (dVar 3) dNil))) r zs (acc.map D.bool) f0 Q' := by
      intro xs ys hxs hys hdp F hF zs
      induction zs with
      | nil => intro acc _ r Q' _ h; rw [List.map_nil, List.append_nil] at h; exact h
      | cons z zs ih =>
        intro acc hz r Q' hr h
        obtain ⟨a, b, rfl, ha, hb⟩ := hz z (by simp)
        obtain ⟨r0, r1, r2, r3, rfl⟩ : ∃ r0 r1 r2 r3, r = [r0, r1, r2, r3] := by
          match r, hr with
          | [r0, r1, r2, r3], _ => exact ⟨r0, r1, r2, r3, rfl⟩
        have step : SpSame n g [a, b] f0 fun y f2 => dLcGo g (tgTup [tgN 2, tgN 3]) dYes (dCall (SpSame n) (dCons (dVar 2) (dCons (dVar 3) dNil))) [r0, r1, r2, r3] zs (acc.map D.bool ++ [y]) f2 Q' := by
          cases n with
          | zero => omega
          | succ n =>
            refine ⟨a, b, rfl, tydA_mem hxs ha, plainA_mem hys hb, Nat.le_trans (depA_mem hb) (by omega), ?_⟩
            have := ih (acc ++ [deqD a b]) (fun z hz' => hz z (by simp [hz'])) [r0, r1, r2, r3] Q' rfl (by rw [List.append_assoc]; exact h)
            rw [List.map_append] at this
            exact this
        exact step
    have zmem : ∀ (xs ys : List D), ∀ z ∈ zipD xs ys, ∃ a b, z = .tup [a, b] ∧ a ∈ xs ∧ b ∈ ys := fun xs ys z hz => by
      unfold zipD at hz
      obtain ⟨p, hp, rfl⟩ := List.mem_map.mp hz
      exact ⟨p.1, p.2, rfl, (List.of_mem_zip hp).1, (List.of_mem_zip hp).2⟩
    have zall : ∀ (xs ys : List D), xs.length = ys.length → ((zipD xs ys).map zeq).all id = deqA xs ys := fun xs ys h => by
      rw [deqA_all h]
      unfold zipD
      rw [List.map_map, List.all_map]
      rfl
    have fin : ∀ (xs ys : List D) (x y : D), tydA xs = true → plainA ys = true → depA ys + 1 ≤ n → ys.length ≤ 100000 → xs.length = ys.length → Q (.bool (deqA xs ys)) f0 →
        ((zipD xs ys).length ≤ lim ∧ dLcGo g (tgTup [tgN 2, tgN 3]) dYes (dCall (SpSame n) (dCons (dVar 2) (dCons (dVar 3) dNil))) [.sh x, .sh y, .no, .no] (zipD xs ys) [] f0 fun ds f1 => oAll true [.lst ds] fun z => Q z f1) := by
      intro xs ys x y h1 h2 h3 h4 h5 h6
      refine ⟨by rw [zipD_len]; exact Nat.le_trans (Nat.min_le_right _ _) (Nat.le_trans h4 (by decide)), ?_⟩
      refine seqc xs ys h1 h2 h3 Q h6 (zipD xs ys) [] (zmem xs ys) _ _ rfl ?_
      exact ⟨_, rfl, by rw [List.nil_append, zall xs ys h5]; exact h6⟩
    cases y with
    | none =>
      cases x <;> first | (cases hx; done) | exact q
    | str b =>
      cases x <;> first
        | (cases hx; done)
        | exact ⟨_, _, Ty.t, Ty.str, _, _, Tx.t, Tx.str, q⟩
    | bool b =>
      cases x <;> first
        | (cases hx; done)
        | exact ⟨_, _, Ty.t, Ty.str, _, _, Ty.t, Ty.bl, _, _, Tx.t, Tx.bl, q⟩
        | exact ⟨_, _, Ty.t, Ty.str, _, _, Ty.t, Ty.bl, _, _, Tx.t, Tx.bl, _, _, Ty.t, Ty.bl, q⟩
    | int b =>
      cases x <;> first
        | (cases hx; done)
        | exact ⟨_, _, Ty.t, Ty.str, _, _, Ty.t, Ty.bl, _, _, Tx.t, Tx.bl, _, _, Ty.t, Ty.int, _, _, Tx.t, Tx.int, q⟩
        | exact ⟨_, _, Ty.t, Ty.str, _, _, Ty.t, Ty.bl, _, _, Tx.t, Tx.bl, _, _, Tx.t, Tx.bl, _, _, Ty.t, Ty.bl, q⟩
    | tup ys =>
      have hp := Bool.and_eq_true_iff.mp hy
      cases x with
      | tup xs =>
        refine ⟨_, _, Ty.t, Ty.tup, _, _, Tx.t, Tx.tup, _, _, Ty.t, Ty.lst, _, _, Tx.t, Tx.lst, ?_⟩
        show if decide ((xs.length : Int) = (ys.length : Int)) = true then _ else _
        by_cases hl : (xs.length : Int) = (ys.length : Int)
        · rw [decide_eq_true hl]
          exact iteT (fin xs ys _ _ hx hp.2 hd (of_decide_eq_true hp.1) (by omega) q)
        · rw [decide_eq_false hl]
          refine iteF ?_
          have := deqA_len (xs := xs) (ys := ys) (fun e => hl (by rw [e]))
          rw [show deqD (.tup xs) (.tup ys) = deqA xs ys from rfl, this] at q
          exact q
      | obj _ _ _ => cases hx
      | exn _ _ _ => cases hx
      | any _ => cases hx
      | _ => exact ⟨_, _, Ty.t, Ty.tup, _, _, Tx.t, Tx.tup, q⟩
    | lst ys =>
      have hp := Bool.and_eq_true_iff.mp hy
      cases x with
      | lst xs =>
        refine ⟨_, _, Ty.t, Ty.tup, _, _, Tx.t, Tx.tup, _, _, Ty.t, Ty.lst, _, _, Tx.t, Tx.lst, ?_⟩
        show if decide ((xs.length : Int) = (ys.length : Int)) = true then _ else _
        by_cases hl : (xs.length : Int) = (ys.length : Int)
        · rw [decide_eq_true hl]
          exact iteT (fin xs ys _ _ hx hp.2 hd (of_decide_eq_true hp.1) (by omega) q)
        · rw [decide_eq_false hl]
          refine iteF ?_
          have := deqA_len (xs := xs) (ys := ys) (fun e => hl (by rw [e]))
          rw [show deqD (.lst xs) (.lst ys) = deqA xs ys from rfl, this] at q
          exact q
      | tup xs => exact ⟨_, _, Ty.t, Ty.tup, _, _, Tx.t, Tx.tup, q⟩
      | obj _ _ _ => cases hx
      | exn _ _ _ => cases hx
      | any _ => cases hx
      | _ => exact ⟨_, _, Ty.t, Ty.tup, _, _, Tx.t, Tx.tup, _, _, Ty.t, Ty.lst, _, _, Tx.t, Tx.lst, q⟩
    | _ => cases hy
end
section
variable {P : Program} {w : World} {K : PySem.W.Frag} {mg : Str → Option Value} {base : Heap}
theorem ok__law_same (d : Df K mg "_law_same" s__law_same) (m_int : mg "int" = none) (m_isinstance : mg "isinstance" = none) (m_bool : mg "bool" = none) (m_str : mg "str" = none) (m_list : mg "list" = none) (m_tuple : mg "tuple" = none) (m_zip : mg "zip" = none) (m_all : mg "all" = none) (m_len : mg "len" = none) : Cal P w K mg base 9 "_law_same" ["_law_found", "_law_due_here"] Sp__law_same := by
  have all : ∀ n, Cal P w K mg base (n + 1) "_law_same" ["_law_found", "_law_due_here"] (SpSame n) := by
    intro n
    induction n with
    | zero => exact cal_none d (fun f fd F => F.binds fun _ _ _ _ _ _ us hl => match us, hl with | [_, _], _ => rfl) ⟨_, sc__law_same⟩
    | succ n ih => exact ok__law_same_step d m_int m_isinstance m_bool m_str m_list m_tuple m_zip m_all m_len ih
  exact all 8
/-! Program.parts -/
abbrev s_Program_parts : Stmt := clsS 24 3
theorem sc_Program_parts : FnScope ["self"] ["self"] (defScope s_Program_parts) := ⟨rfl, rfl, rfl, by decide +kernel, rfl, by decide +kernel, by decide +kernel⟩
def Sp_Program_parts : DSp := fun _ ds f Q => ∃ (ms : List Str) (us : List Us) (ks : List Str), ds = [prgD ms us ks] ∧ Q (.tup ((sortS ks).map D.str)) f
set_option maxHeartbeats 2000000 in
theorem ok_Program_parts {C_Program : Addr} (k_Program : KC K "Program" C_Program) (n_Program_heads : NoAttr K C_Program "heads") (d : ∃ p f fd, Fun K "parts" "Program.parts" s_Program_parts f fd ∧ PropOf K C_Program "parts" p f) : CalP P w K mg base 1 "Program" "parts" ["self"] Sp_Program_parts := by
  obtain ⟨p, f, fd, F, M⟩ := d
  refine ⟨C_Program, p, f, fd, k_Program, M, dfn (k := 0) (S := Sp_Program_parts) F sc_Program_parts ?len (fun cdv A outer s H E hr => (dss_one (ds_ret (de_fld k_Program n_Program_heads (de_v 0))))) ?h, F.binds fun _ _ _ _ _ _ us hl => match us, hl with | [_], _ => rfl⟩
  case len =>
    intro g ds n Q h; obtain ⟨_, _, _, rfl, _⟩ := h; rfl
  case h =>
    intro g ds n Q h
    obtain ⟨ms, us, ks, rfl, q⟩ := h
    exact ⟨rfl, _, rfl, q⟩
/-! Program.modules -/
abbrev s_Program_modules : Stmt := clsS 24 1
theorem sc_Program_modules : FnScope ["self"] ["self"] (defScope s_Program_modules) := ⟨rfl, rfl, rfl, by decide +kernel, rfl, by decide +kernel, by decide +kernel⟩
def Sp_Program_modules : DSp := fun _ ds f Q => ∃ (ms : List Str) (us : List Us) (ks : List Str), ds = [prgD ms us ks] ∧ Q (.tup ((sortS ms).map D.str)) f
set_option maxHeartbeats 2000000 in
theorem ok_Program_modules {C_Program : Addr} (k_Program : KC K "Program" C_Program) (n_Program_places : NoAttr K C_Program "places") (d : ∃ p f fd, Fun K "modules" "Program.modules" s_Program_modules f fd ∧ PropOf K C_Program "modules" p f) : CalP P w K mg base 1 "Program" "modules" ["self"] Sp_Program_modules := by
  obtain ⟨p, f, fd, F, M⟩ := d
  refine ⟨C_Program, p, f, fd, k_Program, M, dfn (k := 0) (S := Sp_Program_modules) F sc_Program_modules ?len (fun cdv A outer s H E hr => (dss_one (ds_ret (de_fld k_Program n_Program_places (de_v 0))))) ?h, F.binds fun _ _ _ _ _ _ us hl => match us, hl with | [_], _ => rfl⟩
  case len =>
    intro g ds n Q h; obtain ⟨_, _, _, rfl, _⟩ := h; rfl
  case h =>
    intro g ds n Q h
    obtain ⟨ms, us, ks, rfl, q⟩ := h
    exact ⟨rfl, _, rfl, q⟩
/-! _law_parts_right -/
abbrev s__law_parts_right : Stmt := topS 43
theorem sc__law_parts_right : FnScope ["_law_program", "_law_modules", "_law_due_here", "_law_path_here"] ["_law_program", "_law_modules"] (defScope s__law_parts_right) := ⟨rfl, rfl, rfl, by decide +kernel, rfl, by decide +kernel, by decide +kernel⟩
def Sp__law_parts_right : DSp := fun _ ds f Q => ∃ (ms : List Str) (us : List Us) (ks l : List Str), (ds = [prgD ms us ks, .lst (l.map D.str)] ∨ ds = [prgD ms us ks, .tup (l.map D.str)]) ∧ PGd ms us ks ∧ l.length ≤ 50 ∧ (∀ m ∈ l, PathN 6 m) ∧ Q (.bool true) f
set_option maxHeartbeats 2000000 in
theorem ok__law_parts_right (d : Df K mg "_law_parts_right" s__law_parts_right) (c__law_beginnings : Cal P w K mg base 1 "_law_beginnings" ["_law_modules"] Sp__law_beginnings) (c_Program___contains__ : CalM P w K mg base 2 "Program" "__contains__" ["self", "value"] Sp_Program___contains__) (c__law_same : Cal P w K mg base 9 "_law_same" ["_law_found", "_law_due_here"] Sp__law_same) (c_Program_parts : CalP P w K mg base 1 "Program" "parts" ["self"] Sp_Program_parts) (c_Program_modules : CalP P w K mg base 1 "Program" "modules" ["self"] Sp_Program_modules) : Cal P w K mg base 10 "_law_parts_right" ["_law_program", "_law_modules"] Sp__law_parts_right := by
  obtain ⟨f, fd, F, m⟩ := d
  refine ⟨f, fd, dfn (k := 9) (S := Sp__law_parts_right) F sc__law_parts_right ?len (fun cdv A outer s H E hr => (dss_cons (ds_set false (i := 2) sc__law_parts_right.nd (de_callC c__law_beginnings (hr.mono (by decide)) (da_cons (de_prop c_Program_modules (hr.mono (by decide)) (de_v 0)) da_nil)))
      (dss_cons (ds_if (dp_not (dp_val (de_callC c__law_same (hr.mono (by decide)) (da_cons (de_prop c_Program_parts (hr.mono (by decide)) (de_v 0)) (da_cons (de_v 2) da_nil))))) (dss_one (ds_ret de_bl)) dss_nil)
      (dss_one (ds_ret (de_eq hr.units (dl_lc (own := [("_law_path_here", 3)]) rfl sc__law_parts_right.nd (di_seq (de_callC c__law_beginnings (hr.mono (by decide)) (da_cons (de_v 1) da_nil))) (blkOk_by (own := [("_law_path_here", 3)]) (N := ["_law_program", "_law_modules", "_law_due_here", "_law_path_here"]) (sc := defScope s__law_parts_right) (by decide +kernel)) (fun _ _ _ _ _ => dg_name (i := 3) sc__law_parts_right.nd) (fun _ _ _ _ _ => dts_one (dp_ne hr.units (de_inO c_Program___contains__ (hr.mono (by decide)) (de_v 3) (de_v 0)) (de_in hr (de_v 3) (de_v 2)))) (fun _ _ _ _ _ => (de_v 3))).e (dl_lst da_nil).e)))))) ?h, F.kp, F.binds fun _ _ _ _ _ _ us hl => match us, hl with | [_, _], _ => rfl, m⟩
  case len =>
    intro g ds n Q h; obtain ⟨_, _, _, _, rfl | rfl, _⟩ := h <;> rfl
  case h =>
    intro g ds n Q h
    obtain ⟨ms, us, ks, l, hd, hp, hl, hpl, q⟩ := h
    have hd : ∃ y : D, ds = [prgD ms us ks, y] ∧ (y = .lst (l.map D.str) ∨ y = .tup (l.map D.str)) := hd.elim (fun h => ⟨_, h, .inl rfl⟩) fun h => ⟨_, h, .inr rfl⟩
    obtain ⟨y, rfl, hy⟩ := hd
    have l1 := hp.m.len
    have pm := hp.m.perm (sortS_perm ms)
    refine ⟨rfl, ms, us, ks, rfl, sortS ms, .inr rfl, by rw [sortS_len]; omega, pm.path, fun ks' hk' => ?_⟩
    have hk2 : Parts ms ks' := hk'.perm (sortS_perm ms)
    have hkl := hk2.len hp.m.path
    have e : sortS ks = sortS ks' := sortS_ext hp.k.nd hk2.nd fun x => (hp.k.mem x).trans (hk2.mem x).symm
    refine ⟨rfl, ms, us, ks, rfl, ?_⟩
    rw [e]
    have p3 := plST (l := sortS ks') (by rw [sortS_len]; omega)
    refine ⟨_, _, rfl, D.plain_tyd (And.left p3), And.left p3, Nat.le_trans (And.right p3) (by decide), ?_⟩
    rw [deqD_refl _ (And.left p3)]
    refine iteF ⟨l, hy.imp (fun h => by rw [h]) (fun h => by rw [h]), hl, hpl, fun kl hkl2 => ?_⟩
    have hkll := hkl2.len hpl
    refine ⟨by rw [List.length_map, sortS_len]; exact L1 (by omega), ?_⟩
    have akl : ∀ k ∈ kl, asc k := fun k hk => (((hkl2.mem k).mp hk).pathG hpl).asc
    have ak' : ∀ k ∈ ks', asc k := fun k hk => (((hk2.mem k).mp hk).path hp.m).asc
    refine lcF D.str (fun _ => false) (sortS kl) _ (fun z hz => ⟨_, rfl, fun f Q h => ?_, fun h => by cases h⟩) ?_
    · have az := akl z (mem_sortS.mp hz)
      refine ⟨rfl, ms, us, ks, .str z, rfl, hp.ak, hp.au, .inl rfl, fun s e => ?_, fun a b e => (by cases e), fun e => (by cases e)⟩
      cases e
      refine ⟨az, _, rfl, shaped_str az, shpST (fun k hk => ak' k (mem_sortS.mp hk)), ?_⟩
      rw [anyS']
      have ez : decide (z ∈ ks) = decide (z ∈ sortS ks') := by rw [Bool.eq_iff_iff, decide_eq_true_iff, decide_eq_true_iff, mem_sortS, hp.k.mem, hk2.mem]
      show Q (!decide (decide (z ∈ ks) = decide (z ∈ sortS ks'))) f
      rw [ez, decide_eq_true rfl]
      exact h
    · rw [show (sortS kl).filter (fun _ => false) = [] from (fil_nil _ _).mpr fun _ _ => rfl]
      exact ⟨show 0 ≤ lim by decide, rfl, rfl, q⟩
/-! Program.uses -/
abbrev s_Program_uses : Stmt := clsS 24 2
theorem sc_Program_uses : FnScope ["self"] ["self"] (defScope s_Program_uses) := ⟨rfl, rfl, rfl, by decide +kernel, rfl, by decide +kernel, by decide +kernel⟩
def Sp_Program_uses : DSp := fun _ ds f Q => ∃ (ms : List Str) (us : List Us) (ks : List Str), ds = [prgD ms us ks] ∧ Q (.tup ((sortU us).map pairD)) f
set_option maxHeartbeats 2000000 in
theorem ok_Program_uses {C_Program : Addr} (k_Program : KC K "Program" C_Program) (n_Program_links : NoAttr K C_Program "links") (d : ∃ p f fd, Fun K "uses" "Program.uses" s_Program_uses f fd ∧ PropOf K C_Program "uses" p f) : CalP P w K mg base 1 "Program" "uses" ["self"] Sp_Program_uses := by
  obtain ⟨p, f, fd, F, M⟩ := d
  refine ⟨C_Program, p, f, fd, k_Program, M, dfn (k := 0) (S := Sp_Program_uses) F sc_Program_uses ?len (fun cdv A outer s H E hr => (dss_one (ds_ret (de_fld k_Program n_Program_links (de_v 0))))) ?h, F.binds fun _ _ _ _ _ _ us hl => match us, hl with | [_], _ => rfl⟩
  case len =>
    intro g ds n Q h; obtain ⟨_, _, _, rfl, _⟩ := h; rfl
  case h =>
    intro g ds n Q h
    obtain ⟨ms, us, ks, rfl, q⟩ := h
    exact ⟨rfl, _, rfl, q⟩
/-! _law_seen -/
abbrev s__law_seen : Stmt := topS 44
theorem sc__law_seen : FnScope ["_law_some", "_law_made", "_law_error_here", "e"] ["_law_some"] (defScope s__law_seen) := ⟨rfl, rfl, rfl, by decide +kernel, rfl, by decide +kernel, by decide +kernel⟩
def Sp__law_seen : DSp := fun _ ds f Q => ∃ xs : List D, ds = [.lst xs] ∧ (xs.length ≤ 5 ∨ xs.length = 13) ∧ (∀ x ∈ xs, x.good = true ∧ zok x) ∧ Q (dueD xs) f
set_option maxHeartbeats 2000000 in
theorem ok__law_seen (d : Df K mg "_law_seen" s__law_seen) (m_isinstance : mg "isinstance" = none) {C_BadUse : Addr} {C_Clash : Addr} {C_BadProgram : Addr} {C_RestError : Addr} (mg_BadUse : mg "BadUse" = some (.ref C_BadUse)) (mg_Clash : mg "Clash" = some (.ref C_Clash)) (isx_BadUse_Clash : IsX K [C_BadUse, C_Clash] (tblX [("BadProgram", false), ("BadUse", true)])) (mg_BadProgram : mg "BadProgram" = some (.ref C_BadProgram)) (isx_BadProgram : IsX K [C_BadProgram] (tblX [("BadProgram", true), ("BadUse", false)])) (kx_BadProgram : KX K "BadProgram" C_BadProgram) (n_BadProgram_error : NoAttr K C_BadProgram "error") (isx_BadProgram_Clash : IsX K [C_BadProgram, C_Clash] (tblX [("BadProgram", true), ("BadUse", false)])) (isx_BadUse : IsX K [C_BadUse] (tblX [("BadProgram", false), ("BadUse", true)])) (kx_BadUse : KX K "BadUse" C_BadUse) (n_BadUse_index : NoAttr K C_BadUse "index") (mg_RestError : mg "RestError" = some (.ref C_RestError)) (cat_RestError : Cat K (.ref C_RestError) (tblX [("BadProgram", true), ("BadUse", true)])) (c__law_parts_right : Cal P w K mg base 10 "_law_parts_right" ["_law_program", "_law_modules"] Sp__law_parts_right) (c_Program_modules : CalP P w K mg base 1 "Program" "modules" ["self"] Sp_Program_modules) (c_Program_uses : CalP P w K mg base 1 "Program" "uses" ["self"] Sp_Program_uses) (c__law_of : CalX P w K mg base 9 "_law_of" ["_law_some"] Sp__law_of) : Cal P w K mg base 11 "_law_seen" ["_law_some"] Sp__law_seen := by
  obtain ⟨f, fd, F, m⟩ := d
  refine ⟨f, fd, dfn (k := 10) (S := Sp__law_seen) F sc__law_seen ?len (fun cdv A outer s H E hr => (dss_cons (ds_asg false (de_tup (da_cons de_non (da_cons de_non da_nil))) (dg_tup rfl (dgs_cons (dg_name (i := 1) sc__law_seen.nd) (dgs_cons (dg_name (i := 2) sc__law_seen.nd) dgs_nil))))
      (dss_cons (ds_tryA (i := 3) rfl rfl sc__law_seen.nd ⟨rfl, by decide, .inl mg_RestError⟩ cat_RestError (fun pn xe po => (dss_one (ds_setX (i := 1) sc__law_seen.nd (dex_call c__law_of (hr.mono (by decide)) (da_cons (de_v 0) da_nil)))))
      (fun a pn => (dss_one (ds_set false (i := 2) sc__law_seen.nd (de_v 3)))))
      (dss_cons (ds_if (DW.p (dw_and (dp_isN (de_v 2) de_non) (dw_and1 (dp_val (de_callC c__law_parts_right (hr.mono (by decide)) (da_cons (de_v 1) (da_cons (de_prop c_Program_modules (hr.mono (by decide)) (de_v 1)) da_nil))))))) (dss_one (ds_ret (de_tup (da_cons (de_prop c_Program_modules (hr.mono (by decide)) (de_v 1)) (da_cons (de_prop c_Program_uses (hr.mono (by decide)) (de_v 1)) da_nil))))) dss_nil)
      (dss_cons (ds_if (DW.p (dw_and (dp_val (de_isX isx_BadUse m_isinstance (da_cons (de_v 2) (da_cons (de_cls mg_BadUse) da_nil)))) (dw_and1 (dp_not (dp_val (de_isXT isx_BadProgram_Clash m_isinstance (da_cons (de_v 2) (da_cons (de_tup (da_cons (de_cls mg_BadProgram) (da_cons (de_cls mg_Clash) da_nil))) da_nil)))))))) (dss_one (ds_ret (de_tup (da_cons de_str (da_cons (de_xf kx_BadUse n_BadUse_index (de_v 2)) da_nil))))) dss_nil)
      (dss_cons (ds_if (DW.p (dw_and (dp_val (de_isX isx_BadProgram m_isinstance (da_cons (de_v 2) (da_cons (de_cls mg_BadProgram) da_nil)))) (dw_and1 (dp_not (dp_val (de_isXT isx_BadUse_Clash m_isinstance (da_cons (de_v 2) (da_cons (de_tup (da_cons (de_cls mg_BadUse) (da_cons (de_cls mg_Clash) da_nil))) da_nil)))))))) (dss_one (ds_ret (de_tup (da_cons de_str (da_cons (de_xf kx_BadProgram n_BadProgram_error (de_v 2)) da_nil))))) dss_nil)
      (dss_one (ds_ret de_non)))))))) ?h, F.kp, F.binds fun _ _ _ _ _ _ us hl => match us, hl with | [_], _ => rfl, m⟩
  case len =>
    intro g ds n Q h; obtain ⟨_, rfl, _⟩ := h; rfl
  case h =>
    intro g ds n Q h
    obtain ⟨xs, rfl, hl, hx, q⟩ := h
    have hg : ∀ x ∈ xs, x.good = true := fun x h => (hx x h).1
    refine mid2 (fun r f => f = n ∧ ((∃ us ks, xs = us.map pairD ∧ badAt xs 0 = none ∧ mErr us = .none ∧ PGd (msU us) us ks ∧ r = [.sh (.lst xs), .sh (prgD (msU us) us ks), .sh .none, .no]) ∨ (∃ i : Nat, badAt xs 0 = some i ∧ r = [.sh (.lst xs), .sh .none, .sh (.exn "BadUse" ["index"] [.int i]), .no]) ∨
      (∃ us, xs = us.map pairD ∧ badAt xs 0 = none ∧ mErr us ≠ .none ∧ r = [.sh (.lst xs), .sh .none, .sh (.exn "BadProgram" ["error"] [mErr us]), .no]))) ?_ (fun hk => ?_)
    · rintro r f ⟨rfl, ⟨us, ks, rfl, hb, he, hp, rfl⟩ | ⟨i, hb, rfl⟩ | ⟨us, rfl, hb, he, rfl⟩⟩
      · have e1 : dueD (us.map pairD) = .tup [.tup ((msU us).map D.str), .tup ((sortU us).map pairD)] := by
          unfold dueD
          rw [hb, toU_pairs, he]
        rw [e1] at q
        have e2 : sortS (msU us) = msU us := sortS_eq (sortS_perm _)
        have l1 := hp.m.len
        refine ⟨rfl, msU us, us, ks, rfl, ?_⟩
        refine ⟨msU us, us, ks, sortS (msU us), .inr rfl, hp, by rw [sortS_len]; omega, fun m hm => hp.m.path m (mem_sortS.mp hm), ?_⟩
        refine ⟨rfl, msU us, us, ks, rfl, rfl, msU us, us, ks, rfl, show 2 ≤ lim by decide, ?_⟩
        rw [e2]
        exact q
      · unfold dueD at q
        rw [hb] at q
        refine ⟨rfl, true, by decide +kernel, ?_⟩
        refine ⟨show 2 ≤ lim by decide, rfl, false, by decide +kernel, ?_⟩
        exact ⟨rfl, .int i, by rw [List.zip_cons_cons, List.lookup_cons_self], show 2 ≤ lim by decide, q⟩
      · unfold dueD at q
        rw [hb, toU_pairs] at q
        rcases pErr_ok (.tup ((msU us).map D.str)) (.tup (us.map pairD)) with he' | ⟨l, he'⟩
        · exact absurd he' he
        · rw [show mErr us = .tup l from he'] at q ⊢
          refine ⟨rfl, false, by decide +kernel, ?_⟩
          refine ⟨rfl, true, by decide +kernel, ?_⟩
          refine ⟨show 2 ≤ lim by decide, rfl, false, by decide +kernel, ?_⟩
          exact ⟨rfl, .tup l, by rw [List.zip_cons_cons, List.lookup_cons_self], show 2 ≤ lim by decide, q⟩
    · refine ⟨show 2 ≤ lim by decide, ?_⟩
      refine ⟨xs, rfl, hl, hg, fun i hi => ?_, fun us e hb => ⟨fun he => ?_, fun ks he hp => ?_⟩⟩
      · refine ⟨true, by decide +kernel, fun _ => ⟨by decide, ?_⟩, fun h => by cases h⟩
        exact hk _ _ ⟨rfl, .inr (.inl ⟨i, hi, rfl⟩)⟩
      · refine ⟨true, by decide +kernel, fun _ => ⟨by decide, ?_⟩, fun h => by cases h⟩
        exact hk _ _ ⟨rfl, .inr (.inr ⟨us, e, hb, he, rfl⟩)⟩
      · exact hk _ _ ⟨rfl, .inl ⟨us, ks, e, hb, he, hp, rfl⟩⟩
/-! _law_is_path -/
abbrev s__law_is_path : Stmt := topS 33
theorem sc__law_is_path : FnScope ["_law_value", "_law_names", "_law_wrong", "_law_name_here", "_law_sign"] ["_law_value"] (defScope s__law_is_path) := ⟨rfl, rfl, rfl, by decide +kernel, rfl, by decide +kernel, by decide +kernel⟩
def letB (s : Str) : Bool := (cd s).all fun c => decide (c ∈ letL)
def lenB (s : Str) : Bool := decide (1 ≤ s.length) && decide (s.length ≤ 8)
theorem nmB_eq (s : Str) : nmB s = (lenB s && letB s) := rfl
def Sp__law_is_path : DSp := fun _ ds f Q => ∃ x : D, ds = [x] ∧ x.tyd = true ∧ (∀ s, x = .str s → s.length ≤ 5000 ∧ asc s) ∧ Q (.bool (isPathD x)) f
theorem sum_split (s : Str) : ((Txt.split s ".").map Str.length).sum ≤ s.length := by
  have e : (Txt.split s ".").map Str.length = (sp (cd s)).map List.length := by
    rw [← split_cd, List.map_map]
    apply List.map_congr_left
    intro x _
    exact TL.len_tl x
  rw [e, TL.len_tl]
  have : ∀ l : List Nat, ((sp l).map List.length).sum ≤ l.length := by
    intro l
    induction l with
    | nil => simp [sp]
    | cons c r ih =>
      unfold sp
      split
      · simp only [List.map_cons, List.sum_cons, List.length_nil, List.length_cons]; omega
      · cases e : sp r with
        | nil => exact absurd e (sp_ne r)
        | cons a t => rw [e] at ih; simp only [List.map_cons, List.sum_cons, List.length_cons] at ih ⊢; omega
  exact this _
theorem all_split (l : List Str) : (decide (l.filter (fun s => !lenB s) = []) && l.all letB) = l.all nmB := by
  induction l with
  | nil => rfl
  | cons a l ih =>
    rw [List.all_cons, List.all_cons, nmB_eq, ← ih, List.filter_cons]
    cases lenB a with
    | true => simp only [Bool.not_true, Bool.false_eq_true, if_false, Bool.true_and]; rw [← Bool.and_assoc, ← Bool.and_assoc, Bool.and_comm (letB a)]
    | false => simp
set_option maxHeartbeats 2000000 in
theorem ok__law_is_path (d : Df K mg "_law_is_path" s__law_is_path) (m_len : mg "len" = none) (m_str : mg "str" = none) (m_isinstance : mg "isinstance" = none) : Cal P w K mg base 1 "_law_is_path" ["_law_value"] Sp__law_is_path := by
  obtain ⟨f, fd, F, m⟩ := d
  refine ⟨f, fd, dfn (k := 0) (S := Sp__law_is_path) F sc__law_is_path ?len (fun cdv A outer s H E hr => (dss_cons (ds_if (dp_not (dp_val (de_isi m_isinstance (da_cons (de_v 0) (da_cons (de_bltn (v := .ty "str") (u := .type "str") (by rfl) m_str (by decide +kernel) rfl) da_nil))))) (dss_one (ds_ret de_bl)) dss_nil)
      (dss_cons (ds_set false (i := 1) sc__law_is_path.nd (dl_split (de_v 0) de_str).e)
      (dss_cons (ds_setLc (i := 2) (own := [("_law_name_here", 3)]) sc__law_is_path.nd (di_seq (de_v 1)) (blkOk_by (own := [("_law_name_here", 3)]) (N := ["_law_value", "_law_names", "_law_wrong", "_law_name_here", "_law_sign"]) (sc := defScope s__law_is_path) (by decide +kernel)) (fun _ _ _ _ _ => dg_name (i := 3) sc__law_is_path.nd) (fun _ _ _ _ _ => dts_one (dp_not (dp_lele de_int (de_len m_len (da_cons (de_v 3) da_nil)) de_int))) (fun _ _ _ _ _ => (de_v 3)) (fun _ _ _ h => snd_set (m := false) (i := 2) h.e))
      (dss_cons (ds_for [] PassesOwn.never (di_seq (de_v 1)) (dg_name (i := 3) sc__law_is_path.nd) (dss_one (ds_set false (i := 2) sc__law_is_path.nd (de_add (de_v 2) (dl_lc (own := [("_law_sign", 4)]) rfl sc__law_is_path.nd (di_seq (de_v 3)) (blkOk_by (own := [("_law_sign", 4)]) (N := ["_law_value", "_law_names", "_law_wrong", "_law_name_here", "_law_sign"]) (sc := defScope s__law_is_path) (by decide +kernel)) (fun _ _ _ _ _ => dg_name (i := 4) sc__law_is_path.nd) (fun _ _ _ _ _ => dts_one (dp_notIn hr (de_v 4) de_str)) (fun _ _ _ _ _ => (de_v 4))).e))))
      (dss_one (ds_ret (de_and (de_le (de_len m_len (da_cons (de_v 1) da_nil)) de_int) (de_one (de_eq hr.units (de_v 2) (dl_lst da_nil).e)))))))))) ?h, F.kp, F.binds fun _ _ _ _ _ _ us hl => match us, hl with | [_], _ => rfl, m⟩
  case len =>
    intro g ds n Q h; obtain ⟨_, rfl, _⟩ := h; rfl
  case h =>
    intro g ds n Q h
    obtain ⟨x, rfl, hx, hl, q⟩ := h
    obtain ⟨t, ht, hk⟩ := tyd_isi hx
    refine ⟨t, _, ht, hk, ?_⟩
    cases x with
    | str s =>
      obtain ⟨hs, ha⟩ := hl s rfl
      refine ⟨by decide +kernel, Nat.le_trans hs (by decide), ?_⟩
      have hL : (Txt.split s ".").length ≤ 5001 := Nat.le_trans (split_len s) (by omega)
      refine ⟨by rw [List.length_map]; exact Nat.le_trans hL (by decide), ?_⟩
      refine dLcGo_pure (fun d => match d with | .str z => !lenB z | _ => false) id _ _ _ (fun d hd => ?_) ?_
      · obtain ⟨z, hz, rfl⟩ := List.mem_map.mp hd
        refine ⟨_, rfl, fun f Q h => ?_, fun _ f Q h => h⟩
        have hzl : z.length ≤ 5000 := Nat.le_trans (split_part_len hz) hs
        refine ⟨Nat.le_trans hzl (by decide), ?_⟩
        have h : Q (!lenB z) f := h
        unfold lenB at h
        show if decide ((1 : Int) ≤ (z.length : Int)) = true then _ else _
        by_cases h1 : 1 ≤ z.length
        · rw [decide_eq_true (by omega : (1 : Int) ≤ z.length)]
          rw [decide_eq_true h1, Bool.true_and] at h
          refine iteT ?_
          rw [show decide (z.length ≤ 8) = decide ((z.length : Int) ≤ 8) from by congr 1; apply propext; omega] at h
          exact h
        · rw [decide_eq_false (by omega : ¬ (1 : Int) ≤ z.length)]
          rw [decide_eq_false h1, Bool.false_and] at h
          exact iteF h
      · rw [List.map_id, List.nil_append, filter_strs _ (fun s => !lenB s) _ (fun s => rfl)]
        have hall := all_split (Txt.split s ".")
        have hsum := sum_split s
        refine dFor_inv (fun rest r f => f = n ∧ ∃ (ms ws : List Str) (a b c : Sl), rest = ms.map D.str ∧ r = [a, .sh (.lst ((Txt.split s ".").map D.str)), .sh (.lst (ws.map D.str)), b, c] ∧ (∀ m ∈ ms, m ∈ Txt.split s ".") ∧ (∀ m ∈ ws, asc m) ∧ ws.length + (ms.map Str.length).sum ≤ 10001 ∧ (decide (ws = []) && ms.all letB) = (Txt.split s ".").all nmB) _ _ _ ?_ ?_ ⟨rfl, Txt.split s ".", _, _, _, _, rfl, rfl, fun _ h => h, fun m hm => asc_split ha m (List.mem_filter.mp hm).1, ?_, hall⟩
        · rintro d rest r f N ⟨rfl, ms, ws, a, b, c, hms, rfl, hsub, hasc, hlen, hgood⟩ hN
          match ms, hms with
          | m :: ms, hms =>
          obtain ⟨rfl, rfl⟩ := List.cons.inj hms
          refine ⟨_, rfl, ?_⟩
          have hm : m ∈ Txt.split s "." := hsub m (by simp)
          have hma := asc_split ha m hm
          refine ⟨?_, ?_⟩
          · unfold signs; rw [List.length_map]; have := split_part_len hm; rw [TL.len_tl m] at this; exact Nat.le_trans this (Nat.le_trans hs (by decide))
          refine dLcGo_pure (fun d => match d with | .str z => !letB z | _ => false) id _ _ _ (fun d hd => ?_) ?_
          · unfold signs at hd
            obtain ⟨c, hc, rfl⟩ := List.mem_map.mp hd
            refine ⟨_, rfl, fun f Q h => ⟨c, rfl, ?_⟩, fun _ f Q h => h⟩
            have h : Q (!([c].all fun c => decide (c ∈ letL))) f := h
            have : ([c].all fun c => decide (c ∈ letL)) = decide (c ∈ letL) := by simp
            rw [this] at h
            exact h
          · rw [List.map_id, List.nil_append]
            have es : signs m = ((cd m).map fun c => (⟨#[c]⟩ : Str)).map D.str := by unfold signs; rw [List.map_map]; rfl
            rw [es, filter_strs _ (fun s => !letB s) _ (fun s => rfl)]
            have hfl : (((cd m).map fun c => (⟨#[c]⟩ : Str)).filter fun s => !letB s).length ≤ m.length := by
              refine Nat.le_trans (List.length_filter_le _ _) ?_
              rw [List.length_map, TL.len_tl]
              exact Nat.le_refl _
            rw [List.map_cons, List.sum_cons] at hlen
            refine ⟨?_, ?_⟩
            · rw [List.length_map, List.length_map]
              exact Nat.le_trans (by omega : _ ≤ 10001) (by decide)
            refine hN _ _ ⟨rfl, ms, ws ++ (((cd m).map fun c => (⟨#[c]⟩ : Str)).filter fun s => !letB s), _, _, _, rfl, by rw [List.map_append]; rfl, fun m' h' => hsub m' (by simp [h']), ?_, ?_, ?_⟩
            · intro w hw
              rcases List.mem_append.mp hw with h | h
              · exact hasc w h
              · obtain ⟨c, hc, rfl⟩ := List.mem_map.mp (List.mem_filter.mp h).1
                intro c' hc'
                have : c' ∈ [c] := hc'
                rw [List.mem_singleton.mp this]
                exact hma c hc
            · rw [List.length_append]; omega
            · rw [← hgood, List.all_cons, ← Bool.and_assoc]
              congr 1
              have e2 : decide ((((cd m).map fun c => (⟨#[c]⟩ : Str)).filter fun s => !letB s) = []) = letB m := by
                rw [Bool.eq_iff_iff, decide_eq_true_iff, List.filter_eq_nil_iff]
                unfold letB
                rw [List.all_eq_true]
                constructor
                · intro h c hc
                  have := h ⟨#[c]⟩ (List.mem_map_of_mem hc)
                  simpa [cd, TL.tl] using this
                · intro h z hz
                  obtain ⟨c, hc, rfl⟩ := List.mem_map.mp hz
                  have := h c hc
                  simpa [cd, TL.tl] using this
              rw [← e2]
              rw [Bool.eq_iff_iff]
              simp
        · rintro r f ⟨rfl, ms, ws, a, b, c, hms, rfl, hsub, hasc, hlen, hgood⟩
          obtain rfl : ms = [] := by
            match ms, hms with
            | [], _ => rfl
          rw [List.all_nil, Bool.and_true] at hgood
          show if decide ((((Txt.split s ".").map D.str).length : Int) ≤ 6) = true then _ else _
          rw [List.length_map]
          have q : Q (.bool (decide ((Txt.split s ".").length ≤ 6) && (Txt.split s ".").all nmB)) f := q
          by_cases h6 : (Txt.split s ".").length ≤ 6
          · rw [decide_eq_true (by omega : ((Txt.split s ".").length : Int) ≤ 6)]
            rw [decide_eq_true h6, Bool.true_and, ← hgood] at q
            refine iteT ⟨by decide, ?_⟩
            show oEq false (.lst (ws.map D.str)) (.lst (([] : List Str).map D.str)) (fun z => Q z f)
            exact oEq_lst (m := []) hasc (by simp) q
          · rw [decide_eq_false (by omega : ¬ ((Txt.split s ".").length : Int) ≤ 6)]
            rw [decide_eq_false h6, Bool.false_and] at q
            exact iteF q
        · have := List.length_filter_le (fun s => !lenB s) (Txt.split s ".")
          omega
    | obj _ _ _ => cases hx
    | any _ => cases hx
    | _ => exact q
/-! _law_covers -/
abbrev s__law_covers : Stmt := topS 31
theorem sc__law_covers : FnScope ["_law_path_here", "_law_other", "_law_names"] ["_law_path_here", "_law_other"] (defScope s__law_covers) := ⟨rfl, rfl, rfl, by decide +kernel, rfl, by decide +kernel, by decide +kernel⟩
def Sp__law_covers : DSp := fun _ ds f Q => ∃ p o : Str, ds = [.str p, .str o] ∧ p.length ≤ 100000 ∧ o.length ≤ 100000 ∧ asc p ∧ asc o ∧ Q (.bool (cov p o)) f
set_option maxHeartbeats 2000000 in
theorem ok__law_covers (d : Df K mg "_law_covers" s__law_covers) (m_len : mg "len" = none) : Cal P w K mg base 1 "_law_covers" ["_law_path_here", "_law_other"] Sp__law_covers := by
  obtain ⟨f, fd, F, m⟩ := d
  refine ⟨f, fd, dfn (k := 0) (S := Sp__law_covers) F sc__law_covers ?len (fun cdv A outer s H E hr => (dss_cons (ds_set false (i := 2) sc__law_covers.nd (dl_split (de_v 0) de_str).e)
      (dss_one (ds_ret (de_eq hr.units (de_sl (dl_split (de_v 1) de_str).e do_none (do_some (de_len m_len (da_cons (de_v 2) da_nil)))) (de_v 2)))))) ?h, F.kp, F.binds fun _ _ _ _ _ _ us hl => match us, hl with | [_, _], _ => rfl, m⟩
  case len =>
    intro g ds n Q h; obtain ⟨_, _, rfl, _⟩ := h; rfl
  case h =>
    intro g ds n Q h
    obtain ⟨p, o, rfl, h1, h2, h3, h4, q⟩ := h
    refine ⟨by decide +kernel, Nat.le_trans h1 (by decide), by decide +kernel, Nat.le_trans h2 (by decide), ?_⟩
    rw [cov_take] at q
    show oEq false (.lst (cutD ((Txt.split o ".").map D.str) none (some (((Txt.split p ".").map D.str).length : Int)))) (.lst ((Txt.split p ".").map D.str)) fun z => Q z n
    rw [cutD_take, List.length_map, ← List.map_take]
    refine oEq_lst (fun s hs => asc_split h4 s (List.mem_of_mem_take hs)) (asc_split h3) ?_
    exact q
/-! _law_overlap -/
abbrev s__law_overlap : Stmt := topS 32
theorem sc__law_overlap : FnScope ["_law_path_here", "_law_other"] ["_law_path_here", "_law_other"] (defScope s__law_overlap) := ⟨rfl, rfl, rfl, by decide +kernel, rfl, by decide +kernel, by decide +kernel⟩
def Sp__law_overlap : DSp := fun _ ds f Q => ∃ p o : Str, ds = [.str p, .str o] ∧ p.length ≤ 100000 ∧ o.length ≤ 100000 ∧ asc p ∧ asc o ∧ Q (.bool (cov p o || cov o p)) f
set_option maxHeartbeats 2000000 in
theorem ok__law_overlap (d : Df K mg "_law_overlap" s__law_overlap) (c__law_covers : Cal P w K mg base 1 "_law_covers" ["_law_path_here", "_law_other"] Sp__law_covers) : Cal P w K mg base 2 "_law_overlap" ["_law_path_here", "_law_other"] Sp__law_overlap := by
  obtain ⟨f, fd, F, m⟩ := d
  refine ⟨f, fd, dfn (k := 1) (S := Sp__law_overlap) F sc__law_overlap ?len (fun cdv A outer s H E hr => (dss_one (ds_ret (de_or (de_callC c__law_covers (hr.mono (by decide)) (da_cons (de_v 0) (da_cons (de_v 1) da_nil))) (de_one (de_callC c__law_covers (hr.mono (by decide)) (da_cons (de_v 1) (da_cons (de_v 0) da_nil)))))))) ?h, F.kp, F.binds fun _ _ _ _ _ _ us hl => match us, hl with | [_, _], _ => rfl, m⟩
  case len =>
    intro g ds n Q h; obtain ⟨_, _, rfl, _⟩ := h; rfl
  case h =>
    intro g ds n Q h
    obtain ⟨p, o, rfl, h1, h2, h3, h4, q⟩ := h
    refine ⟨p, o, rfl, h1, h2, h3, h4, ?_⟩
    cases e : cov p o with
    | true => rw [e] at q; exact q
    | false =>
      rw [e] at q
      exact ⟨o, p, rfl, h2, h1, h4, h3, q⟩
/-! _law_error -/
abbrev s__law_error : Stmt := topS 37
theorem sc__law_error : FnScope ["_law_modules", "_law_uses", "_law_index", "_law_path_here", "_law_use", "_law_module"] ["_law_modules", "_law_uses"] (defScope s__law_error) := ⟨rfl, rfl, rfl, by decide +kernel, rfl, by decide +kernel, by decide +kernel⟩
def Sp__law_error : DSp := fun _ ds f Q => ∃ (x y : D), ds = [x, y] ∧ x.good = true ∧ y.good = true ∧ (∀ ys, y = .tup ys → ∀ v ∈ ys, zok v) ∧ Q (pErr x y) f
theorem any_comm (done : List Str) (s : Str) : done.any (fun o => ovl o s) = done.any (ovl s) := by
  congr 1
  funext o
  unfold ovl
  rw [Bool.or_comm]
set_option maxHeartbeats 2000000 in
theorem ok__law_error (d : Df K mg "_law_error" s__law_error) (m_enumerate : mg "enumerate" = none) (m_len : mg "len" = none) (m_tuple : mg "tuple" = none) (m_isinstance : mg "isinstance" = none) (c__law_is_use : Cal P w K mg base 1 "_law_is_use" ["_law_modules", "_law_value"] Sp__law_is_use) (c__law_overlap : Cal P w K mg base 2 "_law_overlap" ["_law_path_here", "_law_other"] Sp__law_overlap) (c__law_is_path : Cal P w K mg base 1 "_law_is_path" ["_law_value"] Sp__law_is_path) : Cal P w K mg base 3 "_law_error" ["_law_modules", "_law_uses"] Sp__law_error := by
  obtain ⟨f, fd, F, m⟩ := d
  refine ⟨f, fd, dfn (k := 2) (S := Sp__law_error) F sc__law_error ?len (fun cdv A outer s H E hr => (dss_cons (ds_if (DW.p (dw_or (dp_not (dp_val (de_isi m_isinstance (da_cons (de_v 0) (da_cons (de_bltn (v := .ty "tuple") (u := .type "tuple") (by rfl) m_tuple (by decide +kernel) rfl) da_nil))))) (dw_or1 (dp_gt (de_len m_len (da_cons (de_v 0) da_nil)) de_int)))) (dss_one (ds_ret (de_tup (da_cons de_non (da_cons de_str da_nil))))) dss_nil)
      (dss_cons (ds_for [] PassesOwn.never (di_enum m_enumerate (da_cons (de_v 0) da_nil)) (dg_tup rfl (dgs_cons (dg_name (i := 2) sc__law_error.nd) (dgs_cons (dg_name (i := 3) sc__law_error.nd) dgs_nil))) (dss_cons (ds_if (dp_not (dp_val (de_callC c__law_is_path (hr.mono (by decide)) (da_cons (de_v 3) da_nil)))) (dss_one (ds_ret (de_tup (da_cons (de_v 2) (da_cons de_str da_nil))))) dss_nil)
      (dss_one (ds_if (dp_ne hr.units (dl_lc (own := [("_law_module", 5)]) rfl sc__law_error.nd (di_seq (de_sl (de_v 0) do_none (do_some (de_v 2)))) (blkOk_by (own := [("_law_module", 5)]) (N := ["_law_modules", "_law_uses", "_law_index", "_law_path_here", "_law_use", "_law_module"]) (sc := defScope s__law_error) (by decide +kernel)) (fun _ _ _ _ _ => dg_name (i := 5) sc__law_error.nd) (fun _ _ _ _ _ => dts_one (dp_val (de_callC c__law_overlap (hr.mono (by decide)) (da_cons (de_v 5) (da_cons (de_v 3) da_nil))))) (fun _ _ _ _ _ => (de_v 5))).e (dl_lst da_nil).e) (dss_one (ds_ret (de_tup (da_cons (de_v 2) (da_cons de_str da_nil))))) dss_nil))))
      (dss_cons (ds_if (DW.p (dw_or (dp_not (dp_val (de_isi m_isinstance (da_cons (de_v 1) (da_cons (de_bltn (v := .ty "tuple") (u := .type "tuple") (by rfl) m_tuple (by decide +kernel) rfl) da_nil))))) (dw_or1 (dp_gt (de_len m_len (da_cons (de_v 1) da_nil)) de_int)))) (dss_one (ds_ret (de_tup (da_cons de_non (da_cons de_str da_nil))))) dss_nil)
      (dss_cons (ds_for [] PassesOwn.never (di_enum m_enumerate (da_cons (de_v 1) da_nil)) (dg_tup rfl (dgs_cons (dg_name (i := 2) sc__law_error.nd) (dgs_cons (dg_name (i := 4) sc__law_error.nd) dgs_nil))) (dss_cons (ds_if (dp_not (dp_val (de_callC c__law_is_use (hr.mono (by decide)) (da_cons (de_v 0) (da_cons (de_v 4) da_nil))))) (dss_one (ds_ret (de_tup (da_cons (de_v 2) (da_cons de_str da_nil))))) dss_nil)
      (dss_one (ds_if (dp_in hr (de_v 4) (de_sl (de_v 1) do_none (do_some (de_v 2)))) (dss_one (ds_ret (de_tup (da_cons (de_v 2) (da_cons de_str da_nil))))) dss_nil))))
      (dss_one (ds_ret de_non))))))) ?h, F.kp, F.binds fun _ _ _ _ _ _ us hl => match us, hl with | [_, _], _ => rfl, m⟩
  case len =>
    intro g ds n Q h; obtain ⟨_, _, rfl, _⟩ := h; rfl
  case h =>
    intro g ds n Q h
    obtain ⟨x, y, rfl, hx, hy, hz, q⟩ := h
    obtain ⟨t, ht, hk⟩ := gd_isT hx
    refine ⟨t, _, ht, hk, ?_⟩
    have bad : ∀ e : D, modErr x = e → e ≠ .none → Q e n := fun e h1 h2 => by
      unfold pErr at q
      rw [h1] at q
      cases e <;> first | exact absurd rfl h2 | exact q
    cases x with
    | tup xs =>
      show if decide (((xs.length : Int)) > 24) = true then _ else _
      by_cases h24 : xs.length ≤ 24
      · have em : modErr (.tup xs) = mGo [] xs := if_pos h24
        rw [decide_eq_false (by omega)]
        refine iteF ?_
        refine dFor_inv (fun rest r f => f = n ∧ ∃ (done : List Str) (rx : List D) (a b c d : Sl), xs = done.map D.str ++ rx ∧ rest = (enumD xs).drop done.length ∧ r = [.sh (.tup xs), .sh y, a, b, c, d] ∧ (∀ s ∈ done, PathN 6 s) ∧ mGo done rx = mGo [] xs) _ _ _ ?_ ?_ ⟨rfl, [], xs, _, _, _, _, rfl, rfl, rfl, by simp, rfl⟩
        · rintro d rest r f N ⟨rfl, done, rx, a, b, c, d', ex, hr, rfl, hd, hm⟩ hN
          have hh : (enumD xs)[done.length]? = some d := by
            have := congrArg List.head? hr
            rw [List.head?_drop] at this
            exact this.symm
          obtain ⟨y', hy', rfl⟩ := enumD_get hh
          have hy2 : xs[done.length]? = rx[0]? := by
            rw [ex, List.getElem?_append_right (by rw [List.length_map]; omega), List.length_map, Nat.sub_self]
          cases rx with
          | nil => rw [hy2] at hy'; cases hy'
          | cons x rx =>
            obtain rfl : x = y' := by rw [hy2] at hy'; exact Option.some.inj hy'
            have hxg : x.good = true := goodA_mem hx (by rw [ex]; simp)
            refine ⟨_, rfl, x, rfl, D.good_tyd hxg, fun s e => ?_, ?_⟩
            · subst e
              exact ⟨(good_strI hxg).2, (good_strI hxg).1⟩
            · show if (!isPathD x) = true then _ else _
              rw [mGo_cons] at hm
              cases hp : isPathD x with
              | false =>
                rw [hp, if_neg Bool.false_ne_true] at hm
                exact iteT ⟨show 2 ≤ lim by decide, bad _ (em.trans hm.symm) (fun z => by cases z)⟩
              | true =>
                rw [hp, if_pos rfl] at hm
                obtain ⟨s, rfl, hs⟩ := isPathD_str hp
                have et : cutD xs none (some (done.length : Int)) = done.map D.str := by
                  rw [cutD_take, ex, List.take_append_of_le_length (by rw [List.length_map]; omega), List.take_of_length_le (by rw [List.length_map]; omega)]
                have dl : done.length ≤ 24 := by
                  have := congrArg List.length ex
                  rw [List.length_append, List.length_map] at this
                  omega
                have sl : s.length ≤ 100000 := Nat.le_trans hs.len (by decide)
                refine iteF ⟨by rw [et, List.length_map]; exact L1 (by omega), ?_⟩
                rw [et]
                refine lcF D.str (fun o => ovl o s) done _ (fun o ho => ⟨_, rfl, fun f Q q => ⟨o, s, rfl, Nat.le_trans (hd o ho).len (by decide), sl, (hd o ho).asc, hs.asc, q⟩, fun _ f Q q => q⟩) ?_
                refine ⟨Nat.zero_le _, shaped_strs (fun z hz => (hd z (List.mem_filter.mp hz).1).asc), rfl, ?_⟩
                rw [eqvL_nil]
                have e2 : decide ((done.filter fun o => ovl o s).map D.str = []) = !done.any (ovl s) := by
                  rw [← any_comm, ← any_filter]
                  exact decide_eq_decide.mpr (by simp)
                rw [e2]
                have hm : (if done.any (ovl s) = true then err2 done.length "overlap" else mGo (done ++ [s]) rx) = mGo [] xs := hm
                cases ho : done.any (ovl s) with
                | true =>
                  rw [ho, if_pos rfl] at hm
                  exact ⟨show 2 ≤ lim by decide, bad _ (em.trans hm.symm) (fun z => by cases z)⟩
                | false =>
                  rw [ho, if_neg Bool.false_ne_true] at hm
                  refine hN _ _ ⟨rfl, done ++ [s], rx, _, _, _, _, by rw [ex]; simp, ?_, rfl, fun z hz => ?_, hm⟩
                  · rw [List.length_append, List.length_singleton, ← List.tail_drop, ← hr]
                    rfl
                  · rcases List.mem_append.mp hz with h | h
                    · exact hd z h
                    · rw [List.mem_singleton.mp h]; exact hs
        · rintro r f ⟨rfl, done, rx, a, b, c, d', ex, hr, rfl, hd, hm⟩
          have : rx = [] := by
            have h1 := congrArg List.length hr
            rw [List.length_drop, enumD_len] at h1
            have h2 := congrArg List.length ex
            rw [List.length_append, List.length_map] at h2
            have h1 : 0 = xs.length - done.length := h1
            exact List.length_eq_zero_iff.mp (by omega)
          subst this
          have en : modErr (.tup xs) = .none := em.trans hm.symm
          obtain ⟨ms, e, hv⟩ := modErr_none en
          cases e
          have q : Q (useErr ms y) f := by
            unfold pErr at q
            rw [en, msOf_tup] at q
            exact q
          have hms : ∀ s ∈ ms, asc s := fun s hs => (hv.path s hs).asc
          obtain ⟨ty, ht, hk⟩ := gd_isT hy
          refine ⟨ty, _, ht, hk, ?_⟩
          clear bad hr hd ex hm
          cases y with
          | tup ys =>
            have q : Q (if ys.length ≤ 200 then uGo ms [] ys else .tup [.none, .str "uses"]) f := q
            show if decide (((ys.length : Int)) > 200) = true then _ else _
            by_cases h20 : ys.length ≤ 200
            · rw [if_pos h20] at q
              rw [decide_eq_false (by omega)]
              refine iteF ?_
              refine dFor_inv (fun rest r f2 => f2 = f ∧ ∃ (done : List Us) (rx : List D) (a b c d : Sl), ys = done.map pairD ++ rx ∧ rest = (enumD ys).drop done.length ∧ r = [.sh (.tup (ms.map D.str)), .sh (.tup ys), a, b, c, d] ∧ (∀ u ∈ done, u.1 ∈ ms ∧ u.2 ∈ ms) ∧ uGo ms done rx = uGo ms [] ys) _ _ _ ?_ ?_ ⟨rfl, [], ys, _, _, _, _, rfl, rfl, rfl, by simp, rfl⟩
              · rintro d rest r f2 N ⟨rfl, done, rx, a, b, c, d', ex, hr, rfl, hd, hm2⟩ hN
                have hh : (enumD ys)[done.length]? = some d := by
                  have := congrArg List.head? hr
                  rw [List.head?_drop] at this
                  exact this.symm
                obtain ⟨y', hy', rfl⟩ := enumD_get hh
                have hy2 : ys[done.length]? = rx[0]? := by
                  rw [ex, List.getElem?_append_right (by rw [List.length_map]; omega), List.length_map, Nat.sub_self]
                cases rx with
                | nil => rw [hy2] at hy'; cases hy'
                | cons x rx =>
                  obtain rfl : x = y' := by rw [hy2] at hy'; exact Option.some.inj hy'
                  have hxm : x ∈ ys := by rw [ex]; simp
                  have hxg : x.good = true := goodA_mem hy hxm
                  refine ⟨_, rfl, ms, x, rfl, hv, hxg, hz ys rfl x hxm, ?_⟩
                  rw [uGo_cons] at hm2
                  cases hp : uB ms x with
                  | false =>
                    rw [hp, if_neg Bool.false_ne_true] at hm2
                    rw [← hm2] at q
                    exact ⟨show 2 ≤ lim by decide, q⟩
                  | true =>
                    obtain ⟨u, rfl, hu, h1, h2⟩ := uB_pair hp
                    rw [hp, if_pos rfl, toU_pair] at hm2
                    have et : cutD ys none (some (done.length : Int)) = done.map pairD := by
                      rw [cutD_take, ex, List.take_append_of_le_length (by rw [List.length_map]; omega), List.take_of_length_le (by rw [List.length_map]; omega)]
                    have hta : ∀ s ∈ done, ascU s := fun s hs => ⟨hms _ (hd s hs).1, hms _ (hd s hs).2⟩
                    have e3 : ((pyA (cutD ys none (some (done.length : Int)))).any fun z => PyData.eqv z (pairD u).py) = decide (u ∈ done) := by rw [et, pyA_pairs]; exact any_pairs _ u
                    refine ⟨shaped_pair ⟨hms _ h1, hms _ h2⟩, by rw [et, pyA_pairs]; exact shaped_pairsT hta, ?_⟩
                    rw [e3]
                    by_cases ho : u ∈ done
                    · rw [if_pos ho] at hm2
                      rw [← hm2] at q
                      rw [decide_eq_true ho]
                      exact ⟨show 2 ≤ lim by decide, q⟩
                    · rw [if_neg ho] at hm2
                      rw [decide_eq_false ho]
                      refine hN _ _ ⟨rfl, done ++ [u], rx, _, _, _, _, by rw [ex]; simp, ?_, rfl, fun z hz => ?_, hm2⟩
                      · rw [List.length_append, List.length_singleton, ← List.tail_drop, ← hr]
                        rfl
                      · rcases List.mem_append.mp hz with h | h
                        · exact hd z h
                        · rw [List.mem_singleton.mp h]; exact ⟨h1, h2⟩
              · rintro r f2 ⟨rfl, done, rx, a, b, c, d', ex, hr, rfl, hd, hm2⟩
                have : rx = [] := by
                  have h1 := congrArg List.length hr
                  rw [List.length_drop, enumD_len] at h1
                  have h2 := congrArg List.length ex
                  rw [List.length_append, List.length_map] at h2
                  have h1 : 0 = ys.length - done.length := h1
                  exact List.length_eq_zero_iff.mp (by omega)
                subst this
                rw [← hm2] at q
                exact q
            · rw [if_neg h20] at q
              rw [decide_eq_true (by omega)]
              exact iteT ⟨show 2 ≤ lim by decide, q⟩
          | obj _ _ _ => cases hy
          | exn _ _ _ => cases hy
          | any _ => cases hy
          | _ => exact ⟨show 2 ≤ lim by decide, q⟩
      · have em : modErr (.tup xs) = .tup [.none, .str "modules"] := if_neg h24
        rw [decide_eq_true (by omega)]
        exact iteT ⟨show 2 ≤ lim by decide, bad _ em (fun z => by cases z)⟩
    | obj _ _ _ => cases hx
    | exn _ _ _ => cases hx
    | any _ => cases hx
    | _ => exact ⟨show 2 ≤ lim by decide, bad _ rfl (fun z => by cases z)⟩
theorem strs_bounds {l : List Str} (h : ∀ s ∈ l, asc s ∧ s.length ≤ 60) (hl : l.length ≤ 3) : (∀ x ∈ l.map D.str, x.inn 200 0 = true) ∧ wtA (l.map D.str) ≤ 1900 ∧ dpA (l.map D.str) ≤ 0 := by
  refine ⟨fun x hx => ?_, ?_, dpA_le fun x hx => ?_⟩
  · obtain ⟨s, hs, rfl⟩ := List.mem_map.mp hx
    exact str_inn (h s hs).1 (by have := (h s hs).2; omega)
  · have := wtA_le (w := 602) (xs := l.map D.str) fun x hx => by
      obtain ⟨s, hs, rfl⟩ := List.mem_map.mp hx
      have := (h s hs).2
      show 10 * s.length + 2 ≤ 602
      omega
    rw [List.length_map] at this
    have : (602 + 2) * l.length ≤ 604 * 3 := Nat.mul_le_mul_left _ hl
    omega
  · obtain ⟨s, hs, rfl⟩ := List.mem_map.mp hx
    exact Nat.le_refl _
theorem zok_strs {l : List Str} (h : ∀ s ∈ l, asc s) : zok (.tup (l.map D.str)) := fun a b e => by
  have e : l.map D.str = [a, b] := D.tup.inj e
  have ha : a ∈ l.map D.str := by rw [e]; simp
  have hb : b ∈ l.map D.str := by rw [e]; simp
  obtain ⟨s, hs, rfl⟩ := List.mem_map.mp ha
  obtain ⟨t, ht, rfl⟩ := List.mem_map.mp hb
  exact .inr ⟨lay30_str (h s hs), lay30_str (h t ht)⟩
theorem od_strs {l : List Str} (h : ∀ s ∈ l, asc s ∧ s.length ≤ 60) (hl : l.length ≤ 3) : Od (.tup (l.map D.str)) ∧ Od (.lst (l.map D.str)) := by
  obtain ⟨h1, h2, h3⟩ := strs_bounds h hl
  refine ⟨od_tup (by rw [List.length_map]; exact hl) h1 (by omega) (by omega) (zok_strs fun s hs => (h s hs).1) fun x hx => ?_, od_lst h1 (by omega) (by omega)⟩
  obtain ⟨s, hs, rfl⟩ := List.mem_map.mp hx
  exact zok_no rfl
theorem od_two {a b : D} (ia : a.inn 200 0 = true) (ib : b.inn 200 0 = true) (wa : a.wt ≤ 1400) (wb : b.wt ≤ 1400) (da : a.dp ≤ 3) (db : b.dp ≤ 3) (la : lay30 a) (lb : lay30 b) (za : zok a) (zb : zok b) : Od (.tup [a, b]) := by
  refine od_tup (show 2 ≤ 3 by decide) ?_ ?_ ?_ (zok_two la lb) ?_
  · intro x hx
    simp only [List.mem_cons, List.not_mem_nil, or_false] at hx
    rcases hx with rfl | rfl <;> assumption
  · show a.wt + 2 + (b.wt + 2 + 0) ≤ 2990
    omega
  · show max a.dp (max b.dp 0) ≤ 3
    omega
  · intro x hx
    simp only [List.mem_cons, List.not_mem_nil, or_false] at hx
    rcases hx with rfl | rfl <;> assumption
/-! _law_due -/
abbrev s__law_due : Stmt := topS 41
theorem sc__law_due : FnScope ["_law_some", "_law_paths", "_law_index", "_law_use", "_law_modules", "_law_error_here"] ["_law_some"] (defScope s__law_due) := ⟨rfl, rfl, rfl, by decide +kernel, rfl, by decide +kernel, by decide +kernel⟩
def Sp__law_due : DSp := fun _ ds f Q => ∃ xs : List D, ds = [.lst xs] ∧ xs.length ≤ 100 ∧ (∀ x ∈ xs, x.good = true ∧ zok x) ∧ Q (dueD xs) f
set_option maxHeartbeats 2000000 in
theorem ok__law_due (d : Df K mg "_law_due" s__law_due) (m_sorted : mg "sorted" = none) (m_tuple : mg "tuple" = none) (m_set : mg "set" = none) (m_enumerate : mg "enumerate" = none) (m_list : mg "list" = none) (m_len : mg "len" = none) (m_isinstance : mg "isinstance" = none) (c__law_error : Cal P w K mg base 3 "_law_error" ["_law_modules", "_law_uses"] Sp__law_error) (c__law_is_path : Cal P w K mg base 1 "_law_is_path" ["_law_value"] Sp__law_is_path) : Cal P w K mg base 4 "_law_due" ["_law_some"] Sp__law_due := by
  obtain ⟨f, fd, F, m⟩ := d
  refine ⟨f, fd, dfn (k := 3) (S := Sp__law_due) F sc__law_due ?len (fun cdv A outer s H E hr => (dss_cons (ds_set false (i := 1) sc__law_due.nd (dl_lst da_nil).e)
      (dss_cons (ds_for [] PassesOwn.never (di_enum m_enumerate (da_cons (de_v 0) da_nil)) (dg_tup rfl (dgs_cons (dg_name (i := 2) sc__law_due.nd) (dgs_cons (dg_name (i := 3) sc__law_due.nd) dgs_nil))) (dss_cons (ds_if (DW.p (dw_or (dp_not (dp_val (de_isi m_isinstance (da_cons (de_v 3) (da_cons (de_bltn (v := .ty "tuple") (u := .type "tuple") (by rfl) m_tuple (by decide +kernel) rfl) da_nil))))) (dw_or (dp_ne hr.units (de_len m_len (da_cons (de_v 3) da_nil)) de_int) (dw_or1 (dp_eqZ hr.units (de_ix (de_v 3) de_int) (de_ix (de_v 3) de_int)))))) (dss_one (ds_ret (de_tup (da_cons de_str (da_cons (de_v 2) da_nil))))) dss_nil)
      (dss_cons (ds_if (DW.p (dw_or (dp_not (dp_val (de_callC c__law_is_path (hr.mono (by decide)) (da_cons (de_ix (de_v 3) de_int) da_nil)))) (dw_or1 (dp_not (dp_val (de_callC c__law_is_path (hr.mono (by decide)) (da_cons (de_ix (de_v 3) de_int) da_nil))))))) (dss_one (ds_ret (de_tup (da_cons de_str (da_cons (de_v 2) da_nil))))) dss_nil)
      (dss_one (ds_set false (i := 1) sc__law_due.nd (de_add (de_v 1) (de_callTy call_list_of sc_list (by rfl) m_list (by decide +kernel) (da_cons (de_v 3) da_nil))))))))
      (dss_cons (ds_set false (i := 4) sc__law_due.nd (de_callTy call_tuple_of sc_tuple (by rfl) m_tuple (by decide +kernel) (da_cons (de_sortZ hr m_sorted m_set (de_v 1)) da_nil)))
      (dss_cons (ds_set false (i := 5) sc__law_due.nd (de_callC c__law_error (hr.mono (by decide)) (da_cons (de_v 4) (da_cons (de_callTy call_tuple_of sc_tuple (by rfl) m_tuple (by decide +kernel) (da_cons (de_v 0) da_nil)) da_nil))))
      (dss_cons (ds_if (dp_notN (de_v 5) de_non) (dss_one (ds_ret (de_tup (da_cons de_str (da_cons (de_v 5) da_nil))))) dss_nil)
      (dss_one (ds_ret (de_tup (da_cons (de_v 4) (da_cons (de_callTy call_tuple_of sc_tuple (by rfl) m_tuple (by decide +kernel) (da_cons (de_sorted hr m_sorted (da_cons (de_v 0) da_nil)) da_nil)) da_nil))))))))))) ?h, F.kp, F.binds fun _ _ _ _ _ _ us hl => match us, hl with | [_], _ => rfl, m⟩
  case len =>
    intro g ds n Q h; obtain ⟨_, rfl, _⟩ := h; rfl
  case h =>
    intro g ds n Q h
    obtain ⟨xs, rfl, hl, hx, q⟩ := h
    refine ⟨Nat.zero_le _, ?_⟩
    refine dFor_inv (fun rest r f => f = n ∧ ∃ (us : List Us) (rx : List D) (a b c d : Sl), xs = us.map pairD ++ rx ∧ rest = (enumD xs).drop us.length ∧ r = [.sh (.lst xs), .sh (.lst ((allp us).map D.str)), a, b, c, d] ∧ (∀ u ∈ us, u.1 ≠ u.2 ∧ PathN 6 u.1 ∧ PathN 6 u.2) ∧ badAt rx us.length = badAt xs 0) _ _ _ ?_ ?_ ⟨rfl, [], xs, _, _, _, _, rfl, rfl, rfl, by simp, rfl⟩
    · rintro d rest r f N ⟨rfl, done, rx, a, b, c, d', ex, hr, rfl, hd, hb⟩ hN
      have hh : (enumD xs)[done.length]? = some d := by
        have := congrArg List.head? hr
        rw [List.head?_drop] at this
        exact this.symm
      obtain ⟨y, hy, rfl⟩ := enumD_get hh
      have hy2 : xs[done.length]? = rx[0]? := by
        rw [ex, List.getElem?_append_right (by rw [List.length_map]; omega), List.length_map, Nat.sub_self]
      cases rx with
      | nil => rw [hy2] at hy; cases hy
      | cons x rx =>
        obtain rfl : x = y := by rw [hy2] at hy; exact Option.some.inj hy
        obtain ⟨hxg, hz⟩ := hx x (by rw [ex]; simp)
        have hb0 : (if useP x = true then badAt rx (done.length + 1) else some done.length) = badAt xs 0 := hb
        have hbad : useP x = false → Q (.tup [.str "BadUse", .int (done.length : Nat)]) f := fun h => by
          rw [h, if_neg Bool.false_ne_true] at hb0
          unfold dueD at q
          rw [← hb0] at q
          exact q
        obtain ⟨t, ht, hk⟩ := gd_isT hxg
        refine ⟨_, rfl, t, _, ht, hk, ?_⟩
        cases x with
        | tup ys =>
          match ys, hxg, hz, hbad, ex, hb0, hy, ht, hk with
          | [], _, _, hbad, _, _, _, _, _ => exact ⟨show 2 ≤ lim by decide, hbad rfl⟩
          | [_], _, _, hbad, _, _, _, _, _ => exact ⟨show 2 ≤ lim by decide, hbad rfl⟩
          | a :: b :: c :: l, _, _, hbad, _, _, _, _, _ =>
            exact ⟨show 2 ≤ lim by decide, hbad rfl⟩
          | [a, b], hxg, hz, hbad, ex, hb0, hy, ht, hk =>
            have no : (∀ u : Us, a = .str u.1 → b = .str u.2 → u.1 ≠ u.2 → PathN 6 u.1 → PathN 6 u.2 → False) → useP (.tup [a, b]) = false := fun h => by
              cases hu : useP (.tup [a, b]) with
              | false => rfl
              | true =>
                obtain ⟨u, e, h1, h2, h3⟩ := useP_pair hu
                obtain ⟨ea, eb⟩ : a = .str u.1 ∧ b = .str u.2 := by simpa [pairD] using e
                exact (h u ea eb h1 h2 h3).elim
            refine ⟨a, atI0, b, atI_nat (j := 1) rfl, ?_⟩
            have ga := goodA_mem hxg (by simp : a ∈ [a, b])
            have gb := goodA_mem hxg (by simp : b ∈ [a, b])
            have sa : ∀ s, a = .str s → s.length ≤ 5000 ∧ asc s := fun s e => by subst e; exact ⟨(good_strI ga).2, (good_strI ga).1⟩
            have sb : ∀ s, b = .str s → s.length ≤ 5000 ∧ asc s := fun s e => by subst e; exact ⟨(good_strI gb).2, (good_strI gb).1⟩
            rcases hz a b rfl with ⟨rfl, rfl⟩ | ⟨la, lb⟩
            · exact .inl ⟨rfl, rfl, show 2 ≤ lim by decide, hbad rfl⟩
            · refine .inr (oEq_data (lay_shaped la) (lay_shaped lb) ?_)
              cases hE : PyData.eqv a.py b.py with
              | true =>
                refine ⟨show 2 ≤ lim by decide, hbad (no fun u ea eb hne _ _ => ?_)⟩
                subst ea eb
                have hE : (u.1 == u.2) = true := hE
                exact absurd (by simpa using hE) hne
              | false =>
                refine ⟨a, atI0, a, rfl, D.good_tyd ga, sa, ?_⟩
                cases h1 : isPathD a with
                | false =>
                  refine ⟨show 2 ≤ lim by decide, hbad (no fun u ea eb _ p1 _ => ?_)⟩
                  rw [ea, show isPathD (.str u.1) = true from p1.pathB] at h1
                  cases h1
                | true =>
                  refine ⟨b, atI_nat (j := 1) rfl, b, rfl, D.good_tyd gb, sb, ?_⟩
                  cases h2 : isPathD b with
                  | false =>
                    refine ⟨show 2 ≤ lim by decide, hbad (no fun u ea eb _ _ p2 => ?_)⟩
                    rw [eb, show isPathD (.str u.2) = true from p2.pathB] at h2
                    cases h2
                  | true =>
                    obtain ⟨s, rfl, ps⟩ := isPathD_str h1
                    obtain ⟨t2, rfl, pt⟩ := isPathD_str h2
                    have hne : s ≠ t2 := fun e => by
                      subst e
                      have hE : (s == s) = false := hE
                      simp at hE
                    have hup : useP (.tup [.str s, .str t2]) = true := by
                      show (decide (s ≠ t2) && (isPathD (.str s) && isPathD (.str t2))) = true
                      rw [h1, h2, decide_eq_true hne]
                      rfl
                    rw [hup, if_pos rfl] at hb0
                    have hdl : (done.map pairD ++ D.tup [.str s, .str t2] :: rx).length ≤ 100 := ex ▸ hl
                    have hdl : done.length ≤ 100 := by
                      rw [List.length_append, List.length_map] at hdl
                      omega
                    refine ⟨by rw [List.length_map, allp_len]; exact Nat.le_trans (show 2 * done.length + 2 ≤ 202 by omega) (by decide), ?_⟩
                    refine hN _ _ ⟨rfl, done ++ [(s, t2)], rx, .sh (.int (done.length : Nat)), .sh (.tup [.str s, .str t2]), c, d', by rw [ex]; simp; rfl, ?_, ?_, fun v hv => ?_, ?_⟩
                    · rw [List.length_append, List.length_singleton, ← List.tail_drop, ← hr]
                      rfl
                    · rw [allp_snoc, List.map_append, List.map_append, List.append_assoc]
                      rfl
                    · rcases List.mem_append.mp hv with h | h
                      · exact hd v h
                      · rw [List.mem_singleton.mp h]
                        exact ⟨hne, ps, pt⟩
                    · rw [List.length_append, List.length_singleton]
                      exact hb0
        | _ => exact ⟨show 2 ≤ lim by decide, hbad rfl⟩
    · rintro r f ⟨rfl, done, rx, a, b, c, d, ex, hr, rfl, hd, hb⟩
      have hrx : rx = [] := by
        have h1 := congrArg List.length hr
        rw [List.length_drop, enumD_len] at h1
        have h2 := congrArg List.length ex
        rw [List.length_append, List.length_map] at h2
        have h1 : 0 = xs.length - done.length := h1
        exact List.length_eq_zero_iff.mp (by omega)
      subst hrx
      rw [List.append_nil] at ex
      subst ex
      have hb1 : badAt (done.map pairD) 0 = none := hb.symm
      have hdl : done.length ≤ 100 := by rw [List.length_map] at hl; exact hl
      unfold dueD at q
      rw [hb1] at q
      rw [toU_pairs] at q
      have hp6 : ∀ m ∈ allp done, PathN 6 m := fun m hm => by
        obtain ⟨u, hu, e⟩ := allp_mem hm
        rcases e with e | e
        · rw [e]; exact (hd u hu).2.1
        · rw [e]; exact (hd u hu).2.2
      have hal : (allp done).length ≤ 200 := by rw [allp_len]; omega
      have hms : ∀ s ∈ msU done, PathN 6 s := fun s hs => hp6 s (ded_mem.mp (mem_sortS.mp hs))
      have gms : D.good (.tup ((msU done).map D.str)) = true := good_strs fun s hs => ⟨(hms s hs).asc, Nat.le_trans (hms s hs).len (by decide)⟩
      refine ⟨allp done, .inl rfl, by omega, fun s hs => (hp6 s hs).asc, ?_⟩
      refine ⟨.tup ((msU done).map D.str), .tup (done.map pairD), rfl, gms, goodA_of fun x h => (hx x h).1, fun ys e v hv => ?_, ?_⟩
      · cases e
        exact (hx v hv).2
      · have q : Q (match mErr done with
          | .none => .tup [.tup ((msU done).map D.str), .tup ((sortU done).map pairD)]
          | e => .tup [.str "BadProgram", e]) f := q
        rcases pErr_ok (.tup ((msU done).map D.str)) (.tup (done.map pairD)) with he | ⟨l, he⟩
        · rw [show mErr done = .none from he] at q
          rw [he]
          show Sorts (done.map pairD) ∧ _
          have hau : ∀ u ∈ done, ascU u := fun u hu => ⟨(hd u hu).2.1.asc, (hd u hu).2.2.asc⟩
          refine ⟨sorts_pairs (Nat.le_trans hdl (by decide)) hau, show 2 ≤ lim by decide, ?_⟩
          rw [sortD_pairs]
          exact q
        · rw [show mErr done = .tup l from he] at q
          rw [he]
          exact ⟨show 2 ≤ lim by decide, q⟩
/-! _law_many -/
abbrev s__law_many : Stmt := topS 40
theorem sc__law_many : FnScope ["_law_deck_here", "_law_stem", "_law_letters", "_law_some", "_law_k"] ["_law_deck_here"] (defScope s__law_many) := ⟨rfl, rfl, rfl, by decide +kernel, rfl, by decide +kernel, by decide +kernel⟩
def ManyP (xs : List D) : Prop := ∃ us : List Us, xs = us.map pairD ∧ us.length = 13 ∧ ∀ u ∈ us, asc u.1 ∧ asc u.2 ∧ u.1.length ≤ 8 ∧ u.2.length ≤ 8
theorem cut7 {a : Str} (h : isName a) : asc (cutS a none (some 7)) ∧ (cutS a none (some 7)).length ≤ 7 := by
  have ec : cd (cutS a none (some 7)) = (cd a).take (min 7 a.length) := by
    show ((a.cps.toList.drop (HT.sIx a.length 0 none)).take (HT.sIx a.length a.length (some 7) - HT.sIx a.length 0 none)) = _
    rw [HT.sIx_none, show HT.sIx a.length a.length (some 7) = min 7 a.length from HT.sIx_nat a.length a.length 7]
    rfl
  refine ⟨fun c hc => ?_, ?_⟩
  · have hc : c ∈ cd (cutS a none (some 7)) := hc
    rw [ec] at hc
    have := h.2.2 c (List.mem_of_mem_take hc)
    omega
  · rw [TL.len_tl]
    show (cd (cutS a none (some 7))).length ≤ 7
    rw [ec, List.length_take]
    omega
theorem app_chr {z : Str} {c : Nat} (h1 : asc z) (h2 : z.length ≤ 7) (h3 : 97 ≤ c ∧ c ≤ 122) : asc (z ++ ⟨#[c]⟩) ∧ (z ++ (⟨#[c]⟩ : Str)).length ≤ 8 := by
  refine ⟨asc_app h1 fun d hd => ?_, ?_⟩
  · have hd : d ∈ [c] := hd
    rw [List.mem_singleton.mp hd]
    omega
  · rw [app_len]
    show z.length + 1 ≤ 8
    omega
def Sp__law_many : DSp := fun g ds f Q => ∃ (k : Dk), g = some k ∧ ds = [.any (.ref k.a)] ∧ 13 ≤ f ∧ ∀ xs f', ManyP xs → f ≤ f' + 13 → Q (.lst xs) f'
set_option maxHeartbeats 2000000 in
theorem ok__law_many (d : Df K mg "_law_many" s__law_many) (m_range : mg "range" = none) (c__law_next : Cal P w K mg base 1 "_law_next" ["_law_deck_here", "_law_many_here"] Sp__law_next) (c__law_name : Cal P w K mg base 2 "_law_name" ["_law_deck_here"] Sp__law_name) : Cal P w K mg base 3 "_law_many" ["_law_deck_here"] Sp__law_many := by
  obtain ⟨f, fd, F, m⟩ := d
  refine ⟨f, fd, dfn (k := 2) (S := Sp__law_many) F sc__law_many ?len (fun cdv A outer s H E hr => (dss_cons (ds_asg false (de_tup (da_cons (de_sl (de_callC c__law_name (hr.mono (by decide)) (da_cons (de_v 0) da_nil)) do_none (do_some de_int)) (da_cons de_str da_nil))) (dg_tup rfl (dgs_cons (dg_name (i := 1) sc__law_many.nd) (dgs_cons (dg_name (i := 2) sc__law_many.nd) dgs_nil))))
      (dss_cons (ds_setLc (i := 3) (own := [("_law_k", 4)]) sc__law_many.nd (di_range1 m_range (da_cons de_int da_nil)) (blkOk_by (own := [("_law_k", 4)]) (N := ["_law_deck_here", "_law_stem", "_law_letters", "_law_some", "_law_k"]) (sc := defScope s__law_many) (by decide +kernel)) (fun _ _ _ _ _ => dg_name (i := 4) sc__law_many.nd) (fun _ _ _ _ _ => dts_nil) (fun _ _ _ _ _ => (de_tup (da_cons (de_add (de_v 1) (de_ix (de_v 2) (de_mul de_int (de_v 4)))) (da_cons (de_add (de_v 1) (de_ix (de_v 2) (de_add (de_mul de_int (de_v 4)) de_int))) da_nil)))) (fun _ _ _ h => snd_setL (m := false) (i := 3) h))
      (dss_cons (ds_for [] PassesOwn.never (di_range1 m_range (da_cons (de_callC c__law_next (hr.mono (by decide)) (da_cons (de_v 0) (da_cons de_int da_nil))) da_nil)) (dg_name (i := 4) sc__law_many.nd) (dss_one (ds_setIx true (i := 3) (de_sub de_int (de_v 4)) (de_tup (da_cons (de_ix (de_ix (de_v 3) (de_sub de_int (de_v 4))) de_int) (da_cons (de_ix (de_ix (de_v 3) (de_v 4)) (de_callC c__law_next (hr.mono (by decide)) (da_cons (de_v 0) (da_cons de_int da_nil)))) da_nil))))))
      (dss_one (ds_ret (de_v 3))))))) ?h, F.kp, F.binds fun _ _ _ _ _ _ us hl => match us, hl with | [_], _ => rfl, m⟩
  case len =>
    intro g ds n Q h; obtain ⟨_, _, rfl, _⟩ := h; rfl
  case h =>
    intro g ds n Q h
    obtain ⟨k, rfl, rfl, hf, q⟩ := h
    refine ⟨k, rfl, rfl, by omega, fun s f1 hs hf1 => ?_⟩
    refine ⟨Nat.le_trans hs.2.1 (by decide), show 2 ≤ lim by decide, ?_⟩
    obtain ⟨z1, z2⟩ := cut7 hs
    generalize cutS s none (some 7) = z at z1 z2
    refine ⟨by decide, by decide, by rw [intsD_len]; decide, ?_⟩
    refine dLcGo_each (P := fun y => ∃ u : Us, y = pairD u ∧ asc u.1 ∧ asc u.2 ∧ u.1.length ≤ 8 ∧ u.2.length ≤ 8) 0 _ _ _ (by omega) (fun d hd => ?_) (fun ys f' hl hy hf' => ?_)
    · obtain ⟨j, hj, rfl⟩ : ∃ j : Nat, j < 13 ∧ d = .int j := by
        unfold intsD at hd
        obtain ⟨j, hj, rfl⟩ := List.mem_map.mp hd
        exact ⟨j, List.mem_range.mp hj, by simp⟩
      refine ⟨_, rfl, fun f Q hf hq => ?_⟩
      obtain ⟨c, hc, hb⟩ := letters_at (r := 2 * (j : Int)) (by omega) (by omega)
      obtain ⟨c2, hc2, hb2⟩ := letters_at (r := 2 * (j : Int) + 1) (by omega) (by omega)
      have a1 := app_chr z1 z2 hb
      have a2 := app_chr z1 z2 hb2
      have cm : CMul 2 (j : Int) := .inl ⟨by decide, by decide⟩
      refine ⟨cm, by decide +kernel, c, hc, Nat.le_trans (app_len z _ ▸ a1.2) (show 8 ≤ lim by decide), ?_⟩
      refine ⟨cm, by decide +kernel, c2, hc2, Nat.le_trans (app_len z _ ▸ a2.2) (show 8 ≤ lim by decide), show 2 ≤ lim by decide, ?_⟩
      exact hq _ _ ⟨(_, _), rfl, a1.1, a2.1, a1.2, a2.2⟩ (Nat.le_refl _)
    · rw [intsD_len] at hl hf'
      obtain ⟨us, rfl, hus⟩ : ∃ us : List Us, ys = us.map pairD ∧ ∀ u ∈ us, asc u.1 ∧ asc u.2 ∧ u.1.length ≤ 8 ∧ u.2.length ≤ 8 := by
        clear hl
        induction ys with
        | nil => exact ⟨[], rfl, by simp⟩
        | cons y ys ih =>
          obtain ⟨us, rfl, hus⟩ := ih fun y hy' => hy y (by simp [hy'])
          obtain ⟨u, rfl, hu⟩ := hy y (by simp)
          exact ⟨u :: us, rfl, fun v hv => (List.mem_cons.mp hv).elim (fun e => e ▸ hu) (hus v)⟩
      rw [List.length_map] at hl
      obtain ⟨f2, rfl⟩ : ∃ f2, f' = f2 + 1 := ⟨f' - 1, by omega⟩
      refine ⟨k, 4, f2, rfl, rfl, by decide, by decide, rfl, fun r r0 r1 => ?_⟩
      refine ⟨by omega, by omega, ?_⟩
      refine dFor_inv (fun rest r f => ∃ (us : List Us) (b : Sl), r = [.sh (.any (.ref k.a)), .sh (.str z), .sh (.str (Str.ofString "abcdefghijklmnopqrstuvwxyz")), .ow (us.map pairD), b] ∧ us.length = 13 ∧ (∀ u ∈ us, asc u.1 ∧ asc u.2 ∧ u.1.length ≤ 8 ∧ u.2.length ≤ 8) ∧ (∀ d ∈ rest, ∃ j : Nat, j < 4 ∧ d = .int j) ∧ rest.length ≤ 3 ∧ n + rest.length ≤ f + 13) _ _ _ ?_ ?_ ⟨us, _, rfl, by omega, hus, fun d hd => ?_, ?_, ?_⟩
      · rintro d rest r f N ⟨us, b, rfl, hl, hus, hd, hr, hf⟩ hN
        obtain ⟨j, hj, rfl⟩ := hd d (by simp)
        rw [List.length_cons] at hr hf
        obtain ⟨f3, rfl⟩ : ∃ f3, f = f3 + 1 := ⟨f - 1, by omega⟩
        obtain ⟨d1, hd1, hm1⟩ := atI_mem (xs := us.map pairD) (r := 12 - (j : Int)) (by omega) (by rw [List.length_map]; omega)
        obtain ⟨d2, hd2, hm2⟩ := atI_mem (xs := us.map pairD) (r := (j : Int)) (by omega) (by rw [List.length_map]; omega)
        obtain ⟨u1, hu1, rfl⟩ := List.mem_map.mp hm1
        obtain ⟨u2, hu2, rfl⟩ := List.mem_map.mp hm2
        refine ⟨_, rfl, us.map pairD, rfl, pairD u1, hd1, .str u1.1, atI0, pairD u2, hd2, k, 2, f3, rfl, rfl, by decide, by decide, rfl, fun r r0 r1 => ?_⟩
        obtain ⟨e, he, hem⟩ := atI_mem (xs := [D.str u2.1, .str u2.2]) r0 r1
        obtain ⟨s2, rfl, hs2⟩ : ∃ s2, e = .str s2 ∧ asc s2 ∧ s2.length ≤ 8 := by
          simp only [List.mem_cons, List.not_mem_nil, or_false] at hem
          have := hus u2 hu2
          rcases hem with rfl | rfl
          · exact ⟨_, rfl, this.1, this.2.2.1⟩
          · exact ⟨_, rfl, this.2.1, this.2.2.2⟩
        refine ⟨.str s2, he, show 2 ≤ lim by decide, rfl, ?_⟩
        have ix : ixN (us.map pairD).length (12 - (j : Int)) = some (12 - j) := by
          unfold ixN
          rw [if_pos (by omega), if_pos (by rw [List.length_map]; omega)]
          exact congrArg some (by omega)
        refine ⟨12 - j, ix, ?_⟩
        refine hN _ _ ⟨us.set (12 - j) (u1.1, s2), _, by rw [List.map_set]; rfl, by rw [List.length_set]; exact hl, fun v hv => ?_, fun d hd' => hd d (by simp [hd']), by omega, by omega⟩
        rcases List.mem_or_eq_of_mem_set hv with h | rfl
        · exact hus v h
        · have := hus u1 hu1
          exact ⟨this.1, hs2.1, this.2.2.1, hs2.2⟩
      · rintro r f ⟨us, b, rfl, hl, hus, hd, hr, hf⟩
        exact q _ _ ⟨us, rfl, hl, hus⟩ (by simp only [List.length_nil] at hf; omega)
      · unfold intsD at hd
        obtain ⟨j, hj, rfl⟩ := List.mem_map.mp hd
        have := List.mem_range.mp hj
        exact ⟨j, by omega, by simp⟩
      · rw [intsD_len]; omega
      · rw [intsD_len]; omega
/-! _law_path -/
abbrev s__law_path : Stmt := topS 30
theorem sc__law_path : FnScope ["_law_deck_here", "_law_pool_here", "_law_most", "_law_many_here", "_law_k"] ["_law_deck_here", "_law_pool_here", "_law_most"] (defScope s__law_path) := ⟨rfl, rfl, rfl, by decide +kernel, rfl, by decide +kernel, by decide +kernel⟩
def Sp__law_path : DSp := fun g ds f Q => ∃ (k : Dk) (pl : List Str) (m : Nat), g = some k ∧ ds = [.any (.ref k.a), .lst (pl.map D.str), .int m] ∧ 0 < pl.length ∧ pl.length ≤ 1000 ∧ (∀ s ∈ pl, isName s) ∧ 1 ≤ m ∧ m ≤ 6 ∧ 7 ≤ f ∧
  ∀ (ns : List Str) f', 1 ≤ ns.length → ns.length ≤ m → (∀ n ∈ ns, n ∈ pl) → f ≤ f' + 7 → Q (.str (Txt.join "." ns)) f'
set_option maxHeartbeats 2000000 in
theorem ok__law_path (d : Df K mg "_law_path" s__law_path) (m_range : mg "range" = none) (m_len : mg "len" = none) (m_min : mg "min" = none) (c__law_next : Cal P w K mg base 1 "_law_next" ["_law_deck_here", "_law_many_here"] Sp__law_next) : Cal P w K mg base 2 "_law_path" ["_law_deck_here", "_law_pool_here", "_law_most"] Sp__law_path := by
  obtain ⟨f, fd, F, m⟩ := d
  refine ⟨f, fd, dfn (k := 1) (S := Sp__law_path) F sc__law_path ?len (fun cdv A outer s H E hr => (dss_cons (ds_set false (i := 3) sc__law_path.nd (de_add de_int (de_callB (call_min2 rfl) sc_min2 (by rfl) m_min (by decide +kernel) (da_cons (de_sub (de_v 2) de_int) (da_cons (de_ix (dl_lst (da_cons de_int (da_cons de_int (da_cons de_int (da_cons de_int (da_cons de_int (da_cons de_int (da_cons de_int (da_cons de_int da_nil))))))))).e (de_callC c__law_next (hr.mono (by decide)) (da_cons (de_v 0) (da_cons de_int da_nil)))) da_nil)))))
      (dss_one (ds_ret (de_join de_str (dl_lc (own := [("_law_k", 4)]) rfl sc__law_path.nd (di_range1 m_range (da_cons (de_v 3) da_nil)) (blkOk_by (own := [("_law_k", 4)]) (N := ["_law_deck_here", "_law_pool_here", "_law_most", "_law_many_here", "_law_k"]) (sc := defScope s__law_path) (by decide +kernel)) (fun _ _ _ _ _ => dg_name (i := 4) sc__law_path.nd) (fun _ _ _ _ _ => dts_nil) (fun _ _ _ _ _ => (de_ix (de_v 1) (de_callC c__law_next (hr.mono (by decide)) (da_cons (de_v 0) (da_cons (de_len m_len (da_cons (de_v 1) da_nil)) da_nil)))))).e))))) ?h, F.kp, F.binds fun _ _ _ _ _ _ us hl => match us, hl with | [_, _, _], _ => rfl, m⟩
  case len =>
    intro g ds n Q h; obtain ⟨_, _, _, _, rfl, _⟩ := h; rfl
  case h =>
    intro g ds n Q h
    obtain ⟨k, pl, m, rfl, rfl, hp0, hp1, hpl, m0, m1, hf, q⟩ := h
    obtain ⟨f1, rfl⟩ : ∃ f1, n = f1 + 1 := ⟨n - 1, by omega⟩
    refine ⟨by decide, k, 8, f1, rfl, rfl, by decide, by decide, rfl, fun r h0 h1 => ?_⟩
    obtain ⟨d, hd, hm⟩ := atI_mem (xs := [D.int 1, .int 2, .int 1, .int 2, .int 3, .int 0, .int 5, .int 1]) h0 h1
    refine ⟨d, hd, ?_⟩
    obtain ⟨v, rfl, v0⟩ : ∃ v : Int, d = .int v ∧ 0 ≤ v := by
      simp only [List.mem_cons, List.not_mem_nil, or_false] at hm
      rcases hm with rfl | rfl | rfl | rfl | rfl | rfl | rfl | rfl <;> exact ⟨_, rfl, by decide⟩
    have hv : ∃ z : Int, (if v < (m : Int) - 1 then v else (m : Int) - 1) = z ∧ 0 ≤ z ∧ z ≤ m - 1 := by
      split
      · exact ⟨v, rfl, by omega, by omega⟩
      · exact ⟨_, rfl, by omega, by omega⟩
    obtain ⟨z, ez, z0, z1⟩ := hv
    show _ ∧ _
    refine ⟨trivial, ?_⟩
    rw [ez]
    refine ⟨by omega, by omega, by rw [intsD_len]; exact Nat.le_trans (by omega : (1 + z).toNat ≤ 6) (by decide), ?_⟩
    refine dLcGo_each (P := fun y => ∃ s, y = .str s ∧ s ∈ pl) 1 _ _ _ (by rw [intsD_len]; omega) (fun d _ => ⟨_, rfl, fun f Q hf hq => ?_⟩) (fun ys f' hl hy hf' => ?_)
    · obtain ⟨f2, rfl⟩ : ∃ f2, f = f2 + 1 := ⟨f - 1, by omega⟩
      refine ⟨k, ((pl.map D.str).length : Int), f2, rfl, rfl, by rw [List.length_map]; omega, by rw [List.length_map]; omega, rfl, fun r h0 h1 => ?_⟩
      obtain ⟨d, hd, hm⟩ := atI_mem (xs := pl.map D.str) h0 h1
      obtain ⟨s, hs, rfl⟩ := List.mem_map.mp hm
      exact ⟨.str s, hd, hq _ _ ⟨s, rfl, hs⟩ (Nat.le_refl _)⟩
    · rw [intsD_len] at hl hf'
      obtain ⟨l, rfl, hl2⟩ := strs_of hy
      rw [List.length_map] at hl
      exact ⟨l, rfl, join_names l (fun n hn => Nat.le_trans (hpl n (hl2 n hn)).2.1 (by decide)) (by omega) _ (by decide +kernel), q l f' (by omega) (by omega) hl2 (by omega)⟩
/-! _law_odd -/
abbrev s__law_odd : Stmt := topS 34
theorem sc__law_odd : FnScope ["_law_deck_here", "_law_path_here", "_law_some"] ["_law_deck_here", "_law_path_here"] (defScope s__law_odd) := ⟨rfl, rfl, rfl, by decide +kernel, rfl, by decide +kernel, by decide +kernel⟩
def Sp__law_odd : DSp := fun g ds f Q => ∃ (k : Dk) (t : Str), g = some k ∧ ds = [.any (.ref k.a), .str t] ∧ asc t ∧ t.length ≤ 70 ∧ 1 ≤ f ∧ ∀ v f', Od v → f ≤ f' + 1 → Q v f'
set_option maxHeartbeats 2000000 in
theorem ok__law_odd (d : Df K mg "_law_odd" s__law_odd) (m_len : mg "len" = none) (c__law_next : Cal P w K mg base 1 "_law_next" ["_law_deck_here", "_law_many_here"] Sp__law_next) : Cal P w K mg base 2 "_law_odd" ["_law_deck_here", "_law_path_here"] Sp__law_odd := by
  obtain ⟨f, fd, F, m⟩ := d
  refine ⟨f, fd, dfn (k := 1) (S := Sp__law_odd) F sc__law_odd ?len (fun cdv A outer s H E hr => (dss_cons (ds_set false (i := 2) sc__law_odd.nd (dl_lst (da_cons de_non (da_cons de_bl (da_cons de_bl (da_cons de_int (da_cons de_int (da_cons (de_neg de_int) (da_cons (de_pow de_int de_int) (da_cons de_str (da_cons de_str (da_cons de_str (da_cons de_str (da_cons de_str (da_cons de_str (da_cons de_str (da_cons de_str (da_cons de_str (da_cons de_str da_nil)))))))))))))))))).e)
      (dss_cons (ds_set false (i := 2) sc__law_odd.nd (de_add (de_v 2) (dl_lst (da_cons de_str (da_cons (de_tup da_nil) (da_cons (dl_lst da_nil).e (da_cons de_dict0 (da_cons (de_tup (da_cons (de_v 1) da_nil)) (da_cons (dl_lst (da_cons (de_v 1) da_nil)).e (da_cons (de_dict1 (de_v 1) (de_v 1)) (da_cons (de_tup (da_cons (de_v 1) (da_cons (de_v 1) da_nil))) (da_cons (de_tup (da_cons (de_v 1) (da_cons (de_v 1) (da_cons (de_v 1) da_nil)))) da_nil)))))))))).e))
      (dss_cons (ds_set false (i := 2) sc__law_odd.nd (de_add (de_v 2) (dl_lst (da_cons (de_add (de_v 1) de_str) (da_cons (de_add (de_v 1) de_str) (da_cons (de_upper (de_v 1)) (da_cons (de_add (de_v 1) de_str) (da_cons (dl_lst (da_cons (de_v 1) (da_cons (de_v 1) da_nil))).e (da_cons (de_tup (da_cons de_str (da_cons (dl_lst da_nil).e (da_cons de_dict0 da_nil)))) (da_cons (de_tup (da_cons (de_tup (da_cons (de_v 1) (da_cons (de_v 1) da_nil))) da_nil)) da_nil)))))))).e))
      (dss_one (ds_ret (de_ix (de_v 2) (de_callC c__law_next (hr.mono (by decide)) (da_cons (de_v 0) (da_cons (de_len m_len (da_cons (de_v 2) da_nil)) da_nil)))))))))) ?h, F.kp, F.binds fun _ _ _ _ _ _ us hl => match us, hl with | [_, _], _ => rfl, m⟩
  case len =>
    intro g ds n Q h; obtain ⟨_, _, _, rfl, _⟩ := h; rfl
  case h =>
    intro g ds n Q h
    obtain ⟨k, t, rfl, rfl, hta, htl, hf, q⟩ := h
    obtain ⟨f1, rfl⟩ : ∃ f1, n = f1 + 1 := ⟨n - 1, by omega⟩
    have T : t.length ≤ lim := Nat.le_trans htl (by decide)
    have T1 : t.length + 1 ≤ lim := Nat.le_trans (Nat.add_le_add_right htl 1) (by decide)
    refine ⟨⟨by decide, by decide, by decide⟩, by decide, ?_⟩
    refine ⟨by decide, by decide, show 1 ≤ lim by decide, show 1 ≤ lim by decide, show 2 ≤ lim by decide, show 3 ≤ lim by decide, show 9 ≤ lim by decide, show 17 + 9 ≤ lim by decide, ?_⟩
    refine ⟨T1, T1, trivial, T, T1, show 2 ≤ lim by decide, by decide, by decide, show 2 ≤ lim by decide, show 1 ≤ lim by decide, show 7 ≤ lim by decide, show 26 + 7 ≤ lim by decide, ?_⟩
    refine ⟨k, 33, f1, rfl, rfl, by decide, by decide, rfl, fun r r0 r1 => ?_⟩
    obtain ⟨u1, u2⟩ := asc_upper hta
    have K2 : ∀ c : Str, c.length ≤ 1 → asc c → Od (.str (t ++ c)) := fun c h1 h2 => od_str (asc_app hta h2) (by rw [app_len]; omega)
    have si : (D.str t).inn 200 0 = true := str_inn hta (by omega)
    have I : ∀ (l : List D), (∀ x ∈ l, x = .str t) → ∀ x ∈ l, x.inn 200 0 = true := fun l h x hx => by rw [h x hx]; exact si
    have zt : ∀ (l : List D), (∀ x ∈ l, x = .str t) → ∀ x ∈ l, zok x := fun l h x hx => by rw [h x hx]; exact zok_no rfl
    have two : zok (.tup [.str t, .str t]) := zok_two (lay30_str hta) (lay30_str hta)
    have w1 : (D.str t).wt ≤ 702 := by show 10 * t.length + 2 ≤ 702; omega
    have d1 : (D.str t).dp = 0 := rfl
    obtain ⟨d, hd, hm⟩ := atI_mem (xs := ([D.none, .bool true, .bool false, .int 0, .int 1, .int (-1), .int (10 ^ (30 : Int).toNat), .str "", .str ".", .str "A", .str "a.", .str ".a", .str "a..b", .str "a b", .str "abcdefghi", .str "a\n", .str " a"] ++ [D.str "a.b.c.d.e.f.g", .tup [], .lst [], .dct [] [], .tup [.str t], .lst [.str t], .dct [.inr t] [.str t], .tup [.str t, .str t], .tup [.str t, .str t, .str t]]) ++ [D.str (t ++ Str.ofString "."), .str (t ++ Str.ofString "\n"), .str (Txt.upper t), .str (t ++ Str.ofString "-"), .lst [.str t, .str t], .tup [.str "a", .lst [], .dct [] []], .tup [.tup [.str t, .str t]]]) r0 r1
    refine ⟨d, hd, q d f1 ?_ (by omega)⟩
    simp only [List.cons_append, List.nil_append, List.mem_cons, List.not_mem_nil, or_false] at hm
    have W : ∀ l : List D, (∀ x ∈ l, x = .str t) → l.length ≤ 3 → wtA l ≤ 2990 := fun l h hl => by
      have := wtA_le (w := 702) (xs := l) fun x hx => by rw [h x hx]; exact w1
      have : (702 + 2) * l.length ≤ 704 * 3 := Nat.mul_le_mul_left _ hl
      omega
    have P : ∀ l : List D, (∀ x ∈ l, x = .str t) → dpA l ≤ 3 := fun l h => dpA_le fun x hx => by rw [h x hx]; exact Nat.zero_le _
    have a1 : ∀ x ∈ [D.str t], x = .str t := by simp
    have a2 : ∀ x ∈ [D.str t, .str t], x = .str t := by simp
    have a3 : ∀ x ∈ [D.str t, .str t, .str t], x = .str t := by simp
    have k3 : Od (.tup [.str "a", .lst [], .dct [] []]) := od_tup (by decide) (fun x hx => by
        simp only [List.mem_cons, List.not_mem_nil, or_false] at hx
        rcases hx with rfl | rfl | rfl <;> decide +kernel) (by decide +kernel) (by decide +kernel) (fun a b e => by cases e) (fun x hx => by
        simp only [List.mem_cons, List.not_mem_nil, or_false] at hx
        rcases hx with rfl | rfl | rfl <;> exact zok_no rfl)
    have kd : Od (.dct [.inr t] [.str t]) := by
      have sk : kInn 200 (.inr t) = true := si
      refine ⟨⟨?_, ?_, by show max 0 0 + 1 ≤ 4; decide, zok_no rfl⟩, fun xs e => by cases e⟩
      · show ((kInn 200 (.inr t) && true) && ((D.str t).inn 200 0 && true)) = true
        rw [sk, si]; rfl
      · show (10 * t.length + 2 + 2 + 0) + (10 * t.length + 2 + 2 + 0) + 3 ≤ 3000
        omega
    have t1 : Od (.tup [.str t]) := od_tup (show 1 ≤ 3 by decide) (I _ a1) (W _ a1 (show 1 ≤ 3 by decide)) (P _ a1) (fun a b e => by cases e) (zt _ a1)
    have t2 : Od (.tup [.str t, .str t]) := od_tup (show 2 ≤ 3 by decide) (I _ a2) (W _ a2 (show 2 ≤ 3 by decide)) (P _ a2) two (zt _ a2)
    have t3 : Od (.tup [.str t, .str t, .str t]) := od_tup (show 3 ≤ 3 by decide) (I _ a3) (W _ a3 (show 3 ≤ 3 by decide)) (P _ a3) (fun a b e => by cases e) (zt _ a3)
    have l1 : Od (.lst [.str t]) := od_lst (I _ a1) (W _ a1 (show 1 ≤ 3 by decide)) (P _ a1)
    have l2 : Od (.lst [.str t, .str t]) := od_lst (I _ a2) (W _ a2 (show 2 ≤ 3 by decide)) (P _ a2)
    have kt : Od (.tup [.tup [.str t, .str t]]) := od_tup (show 1 ≤ 3 by decide) (fun x hx => by rw [List.mem_singleton.mp hx]; exact innA_iff.mpr (I _ a2)) (by
        show (wtA [D.str t, D.str t] + 3) + 2 + 0 ≤ 2990
        show ((10 * t.length + 2) + 2 + ((10 * t.length + 2) + 2 + 0) + 3) + 2 + 0 ≤ 2990
        omega) (by show max (max 0 (max 0 0) + 1) 0 ≤ 3; decide) (fun a b e => by cases e) (fun x hx => by rw [List.mem_singleton.mp hx]; exact two)
    rcases hm with rfl | rfl | rfl | rfl | rfl | rfl | rfl | rfl | rfl | rfl | rfl | rfl | rfl | rfl | rfl | rfl | rfl | rfl | rfl | rfl | rfl | rfl | rfl | rfl | rfl | rfl | rfl | rfl | rfl | rfl | rfl | rfl | rfl
    all_goals first
      | exact Od.no (by decide +kernel) rfl
      | exact K2 _ (by decide +kernel) (by decide +kernel)
      | exact od_str u1 (by omega)
      | exact od_tup (l := []) (by decide) (fun x hx => nomatch hx) (by decide) (by decide) (fun a b e => by cases e) (fun x hx => nomatch hx)
      | exact k3
      | exact kd
      | exact kt
      | exact t1
      | exact t2
      | exact t3
      | exact l1
      | exact l2
/-! _law_pair -/
abbrev s__law_pair : Stmt := topS 38
theorem sc__law_pair : FnScope ["_law_deck_here", "_law_pool_here", "_law_one", "_law_other", "_law_kind", "_law_some"] ["_law_deck_here", "_law_pool_here"] (defScope s__law_pair) := ⟨rfl, rfl, rfl, by decide +kernel, rfl, by decide +kernel, by decide +kernel⟩
def Sp__law_pair : DSp := fun g ds f Q => ∃ (k : Dk) (pl : List Str), g = some k ∧ ds = [.any (.ref k.a), .lst (pl.map D.str)] ∧ 0 < pl.length ∧ pl.length ≤ 1000 ∧ (∀ s ∈ pl, isName s) ∧ 16 ≤ f ∧ ∀ v f', Od v → f ≤ f' + 16 → Q v f'
set_option maxHeartbeats 2000000 in
theorem ok__law_pair (d : Df K mg "_law_pair" s__law_pair) (c__law_odd : Cal P w K mg base 2 "_law_odd" ["_law_deck_here", "_law_path_here"] Sp__law_odd) (c__law_next : Cal P w K mg base 1 "_law_next" ["_law_deck_here", "_law_many_here"] Sp__law_next) (c__law_path : Cal P w K mg base 2 "_law_path" ["_law_deck_here", "_law_pool_here", "_law_most"] Sp__law_path) : Cal P w K mg base 3 "_law_pair" ["_law_deck_here", "_law_pool_here"] Sp__law_pair := by
  obtain ⟨f, fd, F, m⟩ := d
  refine ⟨f, fd, dfn (k := 2) (S := Sp__law_pair) F sc__law_pair ?len (fun cdv A outer s H E hr => (dss_cons (ds_par false (i := 2) (j := 3) sc__law_pair.nd (de_callC c__law_path (hr.mono (by decide)) (da_cons (de_v 0) (da_cons (de_v 1) (da_cons de_int da_nil)))) (de_callC c__law_path (hr.mono (by decide)) (da_cons (de_v 0) (da_cons (de_v 1) (da_cons de_int da_nil)))))
      (dss_cons (ds_set false (i := 4) sc__law_pair.nd (de_callC c__law_next (hr.mono (by decide)) (da_cons (de_v 0) (da_cons de_int da_nil))))
      (dss_cons (ds_set false (i := 5) sc__law_pair.nd (dl_lst (da_cons (de_tup (da_cons (de_v 2) (da_cons (de_v 2) da_nil))) (da_cons (dl_lst (da_cons (de_v 2) (da_cons (de_v 3) da_nil))).e (da_cons (de_tup (da_cons (de_v 2) (da_cons (de_v 3) (da_cons (de_v 2) da_nil)))) (da_cons (de_tup (da_cons (de_v 2) (da_cons (de_add (de_v 3) de_str) da_nil))) da_nil))))).e)
      (dss_cons (ds_set false (i := 5) sc__law_pair.nd (de_add (de_v 5) (dl_lst (da_cons (de_tup (da_cons (de_v 2) (da_cons de_str da_nil))) (da_cons (de_tup (da_cons (de_v 2) (da_cons de_non da_nil))) (da_cons (de_tup (da_cons (dl_lst da_nil).e (da_cons (de_v 2) da_nil))) da_nil)))).e))
      (dss_cons (ds_if (dp_lt (de_v 4) de_int) (dss_one (ds_ret (de_ix (de_v 5) (de_v 4)))) dss_nil)
      (dss_cons (ds_if (dp_eq hr.units (de_v 4) de_int) (dss_one (ds_ret (de_callC c__law_odd (hr.mono (by decide)) (da_cons (de_v 0) (da_cons (de_v 2) da_nil))))) dss_nil)
      (dss_one (ds_ret (de_tup (da_cons (de_v 2) (da_cons (de_v 3) da_nil)))))))))))) ?h, F.kp, F.binds fun _ _ _ _ _ _ us hl => match us, hl with | [_, _], _ => rfl, m⟩
  case len =>
    intro g ds n Q h; obtain ⟨_, _, _, rfl, _⟩ := h; rfl
  case h =>
    intro g ds n Q h
    obtain ⟨k, pl, rfl, rfl, h1, h2, h3, hf, q⟩ := h
    refine ⟨k, pl, 6, rfl, rfl, h1, h2, h3, by decide, by decide, by omega, fun ns f1 n1 n2 n3 hf1 => ?_⟩
    refine ⟨k, pl, 6, rfl, rfl, h1, h2, h3, by decide, by decide, by omega, fun ms f2 m1 m2 m3 hf2 => ?_⟩
    obtain ⟨f3, rfl⟩ : ∃ f3, f2 = f3 + 1 := ⟨f2 - 1, by omega⟩
    generalize hp : Txt.join "." ns = p
    generalize ho : Txt.join "." ms = o
    have pp : PathN 6 p := ⟨ns, n1, n2, fun z hz => h3 z (n3 z hz), hp.symm⟩
    have po : PathN 6 o := ⟨ms, m1, m2, fun z hz => h3 z (m3 z hz), ho.symm⟩
    refine ⟨k, 24, f3, rfl, rfl, by decide, by decide, rfl, fun r r0 r1 => ?_⟩
    obtain ⟨i, rfl⟩ : ∃ i : Nat, r = (i : Int) := ⟨r.toNat, by omega⟩
    have pa := pp.asc
    have oa := po.asc
    have pl' : p.length ≤ 54 := pp.len
    have ol : o.length ≤ 54 := po.len
    have la : (Str.ofString ".a.a.a.a.a").length = 10 := by decide +kernel
    have D2 : ∀ {n : Nat}, n ≤ 1000 → n ≤ lim := fun h => Nat.le_trans h (by decide)
    refine ⟨show 2 ≤ lim by decide, show 2 ≤ lim by decide, show 3 ≤ lim by decide, D2 (by rw [la]; omega), show 2 ≤ lim by decide, show 4 ≤ lim by decide, show 2 ≤ lim by decide, show 2 ≤ lim by decide, show 0 ≤ lim by decide, show 2 ≤ lim by decide, show 3 ≤ lim by decide, show 4 + 3 ≤ lim by decide, ?_⟩
    show if decide ((i : Int) < 7) = true then _ else _
    by_cases h7 : (i : Int) < 7
    · rw [decide_eq_true h7]
      obtain ⟨d, hd, hdm⟩ := atI_mem (xs := [D.tup [.str p, .str p], .lst [.str p, .str o], .tup [.str p, .str o, .str p], .tup [.str p, .str (o ++ Str.ofString ".a.a.a.a.a")]] ++ [D.tup [.str p, .str "A"], .tup [.str p, .none], .tup [.lst [], .str p]]) r0 h7
      refine iteT ⟨d, hd, q d f3 ?_ (by omega)⟩
      have ob := asc_app oa (by decide +kernel : asc (Str.ofString ".a.a.a.a.a"))
      have obl : (o ++ Str.ofString ".a.a.a.a.a").length ≤ 64 := by rw [app_len, la]; omega
      have ip : (D.str p).inn 200 0 = true := str_inn pa (by omega)
      have ib : (D.str (o ++ Str.ofString ".a.a.a.a.a")).inn 200 0 = true := str_inn ob (by omega)
      have wp : (D.str p).wt ≤ 1400 := by show 10 * p.length + 2 ≤ _; omega
      have wb : (D.str (o ++ Str.ofString ".a.a.a.a.a")).wt ≤ 1400 := by show 10 * (o ++ Str.ofString ".a.a.a.a.a").length + 2 ≤ _; omega
      have dz : ∀ s : Str, (D.str s).dp ≤ 3 := fun s => Nat.zero_le 3
      have lp := lay30_str pa
      have zs : ∀ s : Str, zok (.str s) := fun s => zok_no rfl
      have S : ∀ l : List Str, (∀ s ∈ l, s = p ∨ s = o) → l.length ≤ 3 → Od (.tup (l.map D.str)) ∧ Od (.lst (l.map D.str)) := fun l h hl => od_strs (fun s hs => by
        rcases h s hs with rfl | rfl
        · exact ⟨pa, by omega⟩
        · exact ⟨oa, by omega⟩) hl
      simp only [List.cons_append, List.nil_append, List.mem_cons, List.not_mem_nil, or_false] at hdm
      rcases hdm with rfl | rfl | rfl | rfl | rfl | rfl | rfl
      · exact (S [p, p] (by simp) (by simp)).1
      · exact (S [p, o] (by simp) (by simp)).2
      · exact (S [p, o, p] (by simp) (by simp)).1
      · exact od_two ip ib wp wb (dz _) (dz _) lp (lay30_str ob) (zs _) (zs _)
      · exact od_two ip (by decide +kernel) wp (by decide +kernel) (dz _) (dz _) lp (lay30_str (by decide +kernel)) (zs _) (zs _)
      · exact od_two ip rfl wp (by decide) (dz _) (by decide) lp ⟨rfl, by decide⟩ (zs _) (zok_no rfl)
      · exact od_two rfl ip (by decide) wp (by decide) (dz _) ⟨rfl, by decide⟩ lp (zok_no rfl) (zs _)
    · rw [decide_eq_false h7]
      refine iteF (nxt ?_)
      show if decide ((i : Int) = 7) = true then _ else _
      by_cases h8 : (i : Int) = 7
      · rw [decide_eq_true h8]
        refine iteT ⟨k, p, rfl, rfl, pa, by omega, by omega, fun v f' ov hv => q v f' ov (by omega)⟩
      · rw [decide_eq_false h8]
        refine iteF (nxt ?_)
        refine ⟨show 2 ≤ lim by decide, q _ _ ?_ (by omega)⟩
        exact (od_strs (l := [p, o]) (fun s hs => by
          simp only [List.mem_cons, List.not_mem_nil, or_false] at hs
          rcases hs with rfl | rfl
          · exact ⟨pa, by omega⟩
          · exact ⟨oa, by omega⟩) (by simp)).1
def two (e : D) : Prop := e = .none ∨ ∃ a w, e = .tup [a, .str w] ∧ (a = .none ∨ ∃ i, a = .int i)
theorem two_err2 (i : Nat) (s : Str) : two (err2 i s) := .inr ⟨_, _, rfl, .inr ⟨_, rfl⟩⟩
theorem pErr_two (x y : D) : two (pErr x y) := by
  have gm : ∀ (r : List D) (done : List Str), two (mGo done r) := by
    intro r
    induction r with
    | nil => exact fun _ => .inl rfl
    | cons x r ih =>
      intro done
      rw [mGo_cons]
      split
      · split
        · exact two_err2 _ _
        · exact ih _
      · exact two_err2 _ _
  have gu : ∀ (ms : List Str) (r : List D) (done : List Us), two (uGo ms done r) := by
    intro ms r
    induction r with
    | nil => exact fun _ => .inl rfl
    | cons x r ih =>
      intro done
      rw [uGo_cons]
      split
      · split
        · exact two_err2 _ _
        · exact ih _
      · exact two_err2 _ _
  have mm : two (modErr x) := by
    cases x with
    | tup xs =>
      show two (if xs.length ≤ 24 then mGo [] xs else .tup [.none, .str "modules"])
      split
      · exact gm _ _
      · exact .inr ⟨_, _, rfl, .inl rfl⟩
    | _ => exact .inr ⟨_, _, rfl, .inl rfl⟩
  have uu : ∀ ms, two (useErr ms y) := fun ms => by
    cases y with
    | tup xs =>
      show two (if xs.length ≤ 200 then uGo ms [] xs else .tup [.none, .str "uses"])
      split
      · exact gu _ _ _
      · exact .inr ⟨_, _, rfl, .inl rfl⟩
    | _ => exact .inr ⟨_, _, rfl, .inl rfl⟩
  unfold pErr
  rcases mm with h | ⟨a, w, h, ha⟩
  · rw [h]; exact uu _
  · rw [h]; exact .inr ⟨a, w, rfl, ha⟩
structure TG (xs : List D) : Prop where
  l : xs.length ≤ 5 ∨ xs.length = 13
  e : ∀ x ∈ xs, Ev x
theorem TG.gz {xs : List D} (h : TG xs) : ∀ x ∈ xs, x.good = true ∧ zok x := fun x hx => ⟨D.inn_good (by decide) _ (h.e x hx).i, (h.e x hx).z⟩
theorem TG.rep {xs : List D} (h : TG xs) : (D.lst xs).shO = true ∧ (D.lst xs).wt ≤ 16777216 ∧ (D.lst xs).dp ≤ 30 := by
  have hl : xs.length ≤ 13 := by rcases h.l with h | h <;> omega
  have hi : (D.lst xs).inn 200 0 = true := innA_iff.mpr fun x hx => (h.e x hx).i
  refine ⟨D.inn_sh (by decide) _ hi, ?_, ?_⟩
  · have := wtA_le (w := 3000) (xs := xs) fun x hx => (h.e x hx).w
    have h2 : (3000 + 2) * xs.length ≤ 3002 * 13 := Nat.mul_le_mul_left _ hl
    show wtA xs + 3 ≤ 16777216
    omega
  · have := dpA_le (p := 4) (xs := xs) fun x hx => (h.e x hx).p
    show dpA xs + 1 ≤ 30
    omega
theorem due_cases {xs : List D} (hl : xs.length ≤ 100) : (∃ s z, dueD xs = .tup [.str s, z] ∧ z.plain = true ∧ z.dep ≤ 5 ∧ z.flat = true) ∨ (∃ us : List Us, xs = us.map pairD ∧ badAt xs 0 = none ∧ mErr us = .none ∧ dueD xs = .tup [.tup ((msU us).map D.str), .tup ((sortU us).map pairD)]) := by
  cases hb : badAt xs 0 with
  | some i =>
    refine .inl ⟨"BadUse", .int i, ?_, rfl, Nat.zero_le _, rfl⟩
    unfold dueD
    rw [hb]
  | none =>
    obtain ⟨us, rfl, hus⟩ := badAt_none hb
    rcases pErr_two (.tup ((msU us).map D.str)) (.tup (us.map pairD)) with he | ⟨a, w, he, ha⟩
    · refine .inr ⟨us, rfl, rfl, he, ?_⟩
      unfold dueD
      rw [hb, toU_pairs, show mErr us = .none from he]
    · refine .inl ⟨"BadProgram", .tup [a, .str w], ?_, ?_⟩
      · unfold dueD
        rw [hb, toU_pairs, show mErr us = .tup [a, .str w] from he]
      · rcases ha with rfl | ⟨i, rfl⟩
        · exact ⟨rfl, by simp [D.dep, depA], rfl⟩
        · exact ⟨rfl, by simp [D.dep, depA], rfl⟩
theorem flat_prs : ∀ l : List Us, flatA (l.map pairD) = true
  | [] => rfl
  | _ :: l => flat_prs l
theorem due_flat {xs : List D} (hl : xs.length ≤ 100) : (dueD xs).flat = true := by
  rcases due_cases hl with ⟨s, z, e, h1, h2, h3⟩ | ⟨us, rfl, hb, he, e⟩
  · rw [e]
    show (true && (z.flat && true)) = true
    rw [h3]; rfl
  · rw [e]
    show (flatA ((msU us).map D.str) && (flatA ((sortU us).map pairD) && true)) = true
    rw [flatA_strs, flat_prs]; rfl
theorem msU_len (us : List Us) : (msU us).length ≤ 2 * us.length := by
  unfold msU
  rw [sortS_len, ← allp_len]
  exact ded_len _
theorem due_plain {xs : List D} (hl : xs.length ≤ 100) : (dueD xs).plain = true ∧ (dueD xs).dep ≤ 7 := by
  have two : ∀ {y z : D}, y.plain = true → z.plain = true → y.dep ≤ 5 → z.dep ≤ 5 → (D.tup [y, z]).plain = true ∧ (D.tup [y, z]).dep ≤ 7 := fun {y z} h1 h2 h3 h4 => by
    refine ⟨?_, ?_⟩
    · show (decide (2 ≤ 100000) && (y.plain && (z.plain && true))) = true
      rw [h1, h2]
      decide
    · show max y.dep (max z.dep 0) + 1 ≤ 7
      omega
  rcases due_cases hl with ⟨s, z, e, h1, h2, _⟩ | ⟨us, rfl, hb, he, e⟩
  · rw [e]
    exact two rfl h1 (Nat.zero_le _) h2
  · rw [List.length_map] at hl
    have a := plST (l := msU us) (by have := msU_len us; omega)
    have b := plUT (l := sortU us) (by rw [sortU_len]; omega)
    rw [e]
    exact two a.1 b.1 (by omega) (by omega)
theorem many_tg {xs : List D} (h : ManyP xs) : TG xs := by
  obtain ⟨us, rfl, hl, hu⟩ := h
  refine ⟨.inr (by rw [List.length_map]; exact hl), fun x hx => ?_⟩
  obtain ⟨u, hu', rfl⟩ := List.mem_map.mp hx
  obtain ⟨h1, h2, h3, h4⟩ := hu u hu'
  exact (od_strs (l := [u.1, u.2]) (fun s hs => by
    simp only [List.mem_cons, List.not_mem_nil, or_false] at hs
    rcases hs with rfl | rfl
    · exact ⟨h1, by omega⟩
    · exact ⟨h2, by omega⟩) (by simp)).1.e
/-! Program.within -/
abbrev s_Program_within : Stmt := clsS 24 13
theorem sc_Program_within : FnScope ["self", "path", "module"] ["self", "path"] (defScope s_Program_within) := ⟨rfl, rfl, rfl, by decide +kernel, rfl, by decide +kernel, by decide +kernel⟩
def wthn (ms : List Str) (p : Str) : List Str := (sortS ms).filter fun z => cov p z
def Sp_Program_within : DSp := fun _ ds f Q => ∃ (ms : List Str) (us : List Us) (ks : List Str) (p : Str), ds = [prgD ms us ks, .str p] ∧ PGd ms us ks ∧ PathN 6 p ∧ Q (.tup ((wthn ms p).map D.str)) f
set_option maxHeartbeats 2000000 in
theorem ok_Program_within (m_tuple : mg "tuple" = none) {C_Program : Addr} (k_Program : KC K "Program" C_Program) (n_Program_places : NoAttr K C_Program "places") (c_covers : Cal P w K mg base 1 "covers" ["path", "other"] Sp_covers) (d : ∃ f fd, Fun K "within" "Program.within" s_Program_within f fd ∧ Meth K C_Program "within" f) : CalM P w K mg base 2 "Program" "within" ["self", "path"] Sp_Program_within := by
  obtain ⟨f, fd, F, M⟩ := d
  refine ⟨C_Program, f, fd, k_Program, M, dfn (k := 1) (S := Sp_Program_within) F sc_Program_within ?len (fun cdv A outer s H E hr => (dss_one (ds_ret (de_callTy call_tuple_of sc_tuple (by rfl) m_tuple (by decide +kernel) (da_cons (dl_lc (own := [("module", 2)]) rfl sc_Program_within.nd (di_seq (de_fld k_Program n_Program_places (de_v 0))) (blkOk_by (own := [("module", 2)]) (N := ["self", "path", "module"]) (sc := defScope s_Program_within) (by decide +kernel)) (fun _ _ _ _ _ => dg_name (i := 2) sc_Program_within.nd) (fun _ _ _ _ _ => dts_one (dp_val (de_callC c_covers (hr.mono (by decide)) (da_cons (de_v 1) (da_cons (de_v 2) da_nil))))) (fun _ _ _ _ _ => (de_v 2))).e da_nil))))) ?h, F.binds fun _ _ _ _ _ _ us hl => match us, hl with | [_, _], _ => rfl⟩
  case len =>
    intro g ds n Q h; obtain ⟨_, _, _, _, rfl, _⟩ := h; rfl
  case h =>
    intro g ds n Q h
    obtain ⟨ms, us, ks, p, rfl, h1, h2, q⟩ := h
    have l1 := h1.m.len
    refine ⟨rfl, _, rfl, by rw [List.length_map, sortS_len]; exact L1 (by omega), ?_⟩
    refine lcF D.str (fun z => cov p z) (sortS ms) _ (fun z hz => ⟨_, rfl, fun f Q h => ⟨p, z, rfl, Nat.le_trans h2.len (by decide), h⟩, fun _ f Q h => h⟩) ?_
    exact q
abbrev s__law_deck : Stmt := topS 26
theorem sc__law_deck : FnScope ["_law_script", "_law_cells", "_law_number"] ["_law_script"] (defScope s__law_deck) := ⟨rfl, rfl, rfl, by decide +kernel, rfl, by decide +kernel, by decide +kernel⟩
def CalD (P : Program) (w : World) (K : PySem.W.Frag) (mg : Str → Option Value) (base : Heap) : Prop :=
  ∃ f fd, FnOk P w K mg base CX0 1 f fd ["_law_script"] (spDeck K) ∧ PySem.W.keepIn K (.ref f) = true ∧ Binds K fd ["_law_script"] [] ∧ mg "_law_deck" = some (.ref f)
theorem ok__law_deck (d : Df K mg "_law_deck" s__law_deck) (m_len : mg "len" = none) (m_abs : mg "abs" = none) : CalD P w K mg base := by
  obtain ⟨f, fd, F, mm⟩ := d
  refine ⟨f, fd, ?_, F.kp, F.binds fun _ _ _ _ _ _ us hl => match us, hl with | [_], _ => rfl, mm⟩
  refine F.ok sc__law_deck (fun vs H Q E h => ?_) (fun cdv A outer s H vs Q E hr h => ?_)
  · obtain ⟨a, ns, rfl, _⟩ := h
    rfl
  · obtain ⟨a, ns, rfl, hS, hlen, q⟩ := h
    refine ⟨_, pss_cons (ps_setLc (i := 1) (own := [("_law_number", 2)]) (g := gName 2) (tt := tYes) rfl sc__law_deck.nd rfl rfl (sw_true rfl rfl rfl (by decide +kernel)) (pi_list (pv 0)) (blkOk_by (N := ["_law_script", "_law_cells", "_law_number"]) (sc := defScope s__law_deck) (by decide +kernel))
        (fun _ _ _ _ _ => pg_name (i := 2) sc__law_deck.nd rfl (Or.inl rfl)) (fun _ _ _ _ _ => pts_nil) (fun _ _ _ _ _ => pe_callB call_abs (by rfl) m_abs (by decide +kernel) (pa_cons (pv 2) pa_nil)))
      (pss_one (ps_ret (pe_lst (pa_cons (pe_lc (own := [("_law_number", 2)]) (g := gName 2) rfl sc__law_deck.nd (pi_list (pv 1)) (blkOk_by (N := ["_law_script", "_law_cells", "_law_number"]) (sc := defScope s__law_deck) (by decide +kernel))
          (fun _ _ _ _ _ => pg_name (i := 2) sc__law_deck.nd rfl (Or.inl rfl)) (fun _ _ _ _ _ => pts_one (pt_cmpR op_ge (pv 2) (pe_op op_pow pe_int pe_int) (nomark _))) (fun _ _ _ _ _ => pv 2))
        (pa_cons (pe_op op_cat (pv 1) (pe_lst (pa_cons (pe_op op_add (pe_callB call_len_seq (by rfl) m_len PySem.boot_len (pa_cons (pv 1) pa_nil)) pe_int) pa_nil)))
        (pa_cons pe_int pa_nil)))))), ?_⟩
    -- cells
    refine ⟨.ref a, rfl, a, rfl, ⟨_, hS⟩, fun D hD => ?_⟩
    have ab : ∀ i : Int, (if i < 0 then -i else i) = (i.natAbs : Int) := fun i => by split <;> omega
    refine lc_list (K := K) (a := a) (xs := ns.map V.int) (fun i H2 => Same H H2 ∧ H2 D = some (.lst (((ns.take i).map fun n => (n.natAbs : Int)).map V.int))) ⟨same_upd hD, upd_same⟩ (fun i H2 _ h2 => h2.1.seq hS) (fun i x H2 hx h2 => ?_) (fun H1 h1 => ?_)
    · obtain ⟨s2, e2⟩ := h2
      have hil : i < ns.length := by
        have := (List.getElem?_eq_some_iff.mp hx).1
        simpa using this
      rw [List.getElem?_map, List.getElem?_eq_getElem hil] at hx
      cases hx
      refine ⟨rfl, ?_⟩
      unfold tYes
      refine iteT ?_
      refine ⟨.int ns[i], rfl, ns[i], rfl, _, e2, ?_, ?_, ?_⟩
      · rw [List.length_map, List.length_map, List.length_take]
        exact lim_lt (Nat.le_trans (Nat.min_le_left _ _) (Nat.le_trans (Nat.le_of_lt hil) (Nat.le_trans hlen (by decide))))
      · intro b o e
        rw [upd_ne (ne_of_none e hD)]
        exact s2 b o e
      · rw [upd_same, ab, List.take_add_one, List.getElem?_eq_getElem hil, List.map_append, List.map_append]
        rfl
    obtain ⟨s1, e1⟩ := h1
    rw [List.length_map, List.take_length] at e1
    generalize hcs : (ns.map fun n => (n.natAbs : Int)) = cs at e1
    have hcl : cs.length = ns.length := by rw [← hcs, List.length_map]
    have hcp : ∀ x ∈ cs, 0 ≤ x := fun x hx => by
      rw [← hcs] at hx
      obtain ⟨n, _, rfl⟩ := List.mem_map.mp hx
      exact Int.natCast_nonneg _
    -- the great ones
    refine ⟨.ref D, rfl, D, rfl, ⟨_, SqL.of e1⟩, fun B hB => ?_⟩
    have nDB : D ≠ B := ne_of_none e1 hB
    refine lc_list (K := K) (a := D) (xs := cs.map V.int) (fun i H2 => Same H1 H2 ∧ ∃ zs : List Int, H2 B = some (.lst (zs.map V.int)) ∧ zs.length ≤ i ∧ ∀ z ∈ zs, 0 ≤ z) ⟨same_upd hB, [], upd_same, Nat.le_refl _, by simp⟩ (fun i H2 _ h2 => SqL.of (h2.1 _ _ e1)) (fun i x H2 hx h2 => ?_) (fun H2 h2 => ?_)
    · obtain ⟨s2, zs, e2, l2, p2⟩ := h2
      have hil : i < cs.length := by
        have := (List.getElem?_eq_some_iff.mp hx).1
        simpa using this
      rw [List.getElem?_map, List.getElem?_eq_getElem hil] at hx
      cases hx
      refine ⟨rfl, .int cs[i], rfl, 10, 18, rfl, rfl, ⟨by decide, by decide, by decide⟩, cs[i], _, rfl, rfl, _, rfl, ite2 (fun _ => ?_) (fun _ => ?_)⟩
      · refine ⟨.int cs[i], rfl, zs.map V.int, e2, ?_, fun b o e => ?_, zs ++ [cs[i]], ?_, ?_, ?_⟩
        · rw [List.length_map]
          exact lim_lt (Nat.le_trans l2 (Nat.le_trans (Nat.le_of_lt hil) (by rw [hcl]; exact Nat.le_trans hlen (by decide))))
        · rw [upd_ne (ne_of_none e hB)]
          exact s2 b o e
        · rw [upd_same, List.map_append]; rfl
        · simp; omega
        · intro z hz
          rcases List.mem_append.mp hz with h | h
          · exact p2 z h
          · rw [List.mem_singleton.mp h]; exact hcp _ (List.getElem_mem hil)
      · exact ⟨s2, zs, e2, Nat.le_trans l2 (Nat.le_succ i), p2⟩
    obtain ⟨s2, zs, e2, l2, p2⟩ := h2
    have f1 : H2 D = some (.lst (cs.map V.int)) := s2 _ _ e1
    -- cells + [len(cells) + 3]
    refine ⟨.ref D, rfl, .ref D, rfl, D, cs.map V.int, rfl, .inl (SqL.of f1), _, 3, rfl, rfl, by show 1 ≤ sizeLine; decide, fun T hT => ?_⟩
    have nDT : D ≠ T := ne_of_none f1 hT
    have nBT : B ≠ T := ne_of_none e2 hT
    refine ⟨D, T, _, _, rfl, rfl, by rw [upd_ne nDT]; exact f1, upd_same, ?_, fun C hC => ?_⟩
    · rw [List.length_map]
      show cs.length + 1 ≤ sizeLine
      rw [hcl]
      exact lim_le (Nat.le_trans (Nat.succ_le_succ hlen) (by decide))
    have nBC : B ≠ C := fun e => by
      rw [← e, upd_ne nBT, e2] at hC
      cases hC
    refine ⟨by show 3 ≤ sizeLine; decide, fun p hp => ?_⟩
    have gB : upd (upd H2 T (.lst [V.int (((cs.map V.int).length : Int) + 3)])) C (.lst (cs.map V.int ++ [V.int (((cs.map V.int).length : Int) + 3)])) B = some (.lst (zs.map V.int)) := by
      rw [upd_ne nBC, upd_ne nBT]
      exact e2
    have nBp : B ≠ p := ne_of_none gB hp
    have nCp : C ≠ p := ne_of_none upd_same hp
    have sT : Same H2 (upd H2 T (.lst [V.int (((cs.map V.int).length : Int) + 3)])) := same_upd hT
    have sC := same_upd (o := .lst (cs.map V.int ++ [V.int (((cs.map V.int).length : Int) + 3)])) hC
    have sp := same_upd (o := .lst [V.ref B, V.ref C, V.int 0]) hp
    have all := (((s1.trans s2).trans sT).trans sC).trans sp
    have h0 : ∀ {b : Addr} {H' : Hp}, Same H H' → H' b = none → H b = none := fun s h => s.free h
    refine q _ ⟨p, B, C⟩ all ?_ ?_ ?_ ⟨fun e => nBp e.symm, fun e => nCp e.symm, nBC, 0, zs, cs ++ [((cs.length : Int) + 3)], upd_same, ?_, ?_, p2, ?_, ?_, by decide, by decide⟩
    · exact h0 (((s1.trans s2).trans sT).trans sC) hp
    · exact h0 s1 hB
    · exact h0 ((s1.trans s2).trans sT) hC
    · rw [upd_ne nBp]; exact gB
    · rw [upd_ne nCp, upd_same, List.length_map, List.map_append]; rfl
    · intro y hy
      rcases List.mem_append.mp hy with h | h
      · exact hcp y h
      · rw [List.mem_singleton.mp h]; omega
    · simp
/-! law -/
abbrev s_law : Stmt := topS 45
theorem sc_law : FnScope ["_law_script", "_law_deck_here", "_law_great", "_law_pool_here", "_law_tries", "_law_turn", "_law_some", "_law_due_here", "_law_ahead", "_law_made", "_law_path_here", "_law_k", "_law_one"] ["_law_script"] (defScope s_law) := ⟨rfl, rfl, rfl, by decide +kernel, rfl, by decide +kernel, by decide +kernel⟩
set_option maxHeartbeats 4000000 in
theorem ok_law {f : Addr} {fd : FuncData} (F : Fun K "law" "law" s_law f fd) (c__law_deck : CalD P w K mg base) (m_tuple : mg "tuple" = none) (m_isinstance : mg "isinstance" = none) (m_list : mg "list" = none) (m_repr : mg "repr" = none) (m_range : mg "range" = none) (m_len : mg "len" = none) (c__law_path : Cal P w K mg base 2 "_law_path" ["_law_deck_here", "_law_pool_here", "_law_most"] Sp__law_path) (c__law_same : Cal P w K mg base 9 "_law_same" ["_law_found", "_law_due_here"] Sp__law_same) (c__law_covers : Cal P w K mg base 1 "_law_covers" ["_law_path_here", "_law_other"] Sp__law_covers) (c_Program_within : CalM P w K mg base 2 "Program" "within" ["self", "path"] Sp_Program_within) (c__law_of : CalX P w K mg base 9 "_law_of" ["_law_some"] Sp__law_of) (c__law_seen : Cal P w K mg base 11 "_law_seen" ["_law_some"] Sp__law_seen) (c__law_due : Cal P w K mg base 4 "_law_due" ["_law_some"] Sp__law_due) (c__law_many : Cal P w K mg base 3 "_law_many" ["_law_deck_here"] Sp__law_many) (c__law_next : Cal P w K mg base 1 "_law_next" ["_law_deck_here", "_law_many_here"] Sp__law_next) (c__law_pair : Cal P w K mg base 3 "_law_pair" ["_law_deck_here", "_law_pool_here"] Sp__law_pair) (c__law_pool : Cal P w K mg base 3 "_law_pool" ["_law_deck_here", "_law_many_here"] Sp__law_pool) : FnG P w K mg base 12 f fd ["_law_script"] (spLaw K) := by
  obtain ⟨fD, fdD, GD, kD, bD, mD⟩ := c__law_deck
  refine dlawG F sc_law (by decide) rfl (fun cdv A outer s H E hr gd => ⟨ps_set (i := 1) sc_law.nd rfl (.inr rfl) (pe_call GD (hr.mono (by decide)) (by rfl) mD kD bD .nil pass0 (pa_cons (pv 0) pa_nil)), (dss_cons (ds_asg false (de_tup (da_cons (de_callC c__law_next (hr.mono (by decide)) (da_cons (de_v 1) (da_cons de_int da_nil))) (da_cons (de_callC c__law_pool (hr.mono (by decide)) (da_cons (de_v 1) (da_cons de_int da_nil))) da_nil))) (dg_tup rfl (dgs_cons (dg_name (i := 2) sc_law.nd) (dgs_cons (dg_name (i := 3) sc_law.nd) dgs_nil))))
      (dss_cons (ds_setL false (i := 4) sc_law.nd (dl_lst da_nil))
      (dss_cons (ds_for [] PassesOwn.never (di_range1 m_range (da_cons de_int da_nil)) (dg_name (i := 5) sc_law.nd) (dss_cons (ds_setLc (i := 6) (own := [("_law_k", 11)]) sc_law.nd (di_range1 m_range (da_cons (de_callC c__law_next (hr.mono (by decide)) (da_cons (de_v 1) (da_cons de_int da_nil))) da_nil)) (blkOk_by (own := [("_law_k", 11)]) (N := ["_law_script", "_law_deck_here", "_law_great", "_law_pool_here", "_law_tries", "_law_turn", "_law_some", "_law_due_here", "_law_ahead", "_law_made", "_law_path_here", "_law_k", "_law_one"]) (sc := defScope s_law) (by decide +kernel)) (fun _ _ _ _ _ => dg_name (i := 11) sc_law.nd) (fun _ _ _ _ _ => dts_nil) (fun _ _ _ _ _ => (de_callC c__law_pair (hr.mono (by decide)) (da_cons (de_v 1) (da_cons (de_v 3) da_nil)))) (fun _ _ _ h => snd_setL (m := false) (i := 6) h))
      (dss_cons (ds_if (DW.p (dw_and (dp_neE hr.units (de_v 6) (dl_lst da_nil).e) (dw_and (dp_lt (de_len m_len (da_cons (de_v 6) da_nil)) de_int) (dw_and1 (dp_eq hr.units (de_callC c__law_next (hr.mono (by decide)) (da_cons (de_v 1) (da_cons de_int da_nil))) de_int))))) (dss_one (ds_appIx (i := 6) (de_callC c__law_next (hr.mono (by decide)) (da_cons (de_v 1) (da_cons (de_len m_len (da_cons (de_v 6) da_nil)) da_nil))))) dss_nil)
      (dss_one (ds_frz [6] (ds_app false (i := 4) (de_v 6)))))))
      (dss_cons (ds_if (dp_eq hr.units (de_v 2) de_int) (dss_one (ds_app false (i := 4) (de_callC c__law_many (hr.mono (by decide)) (da_cons (de_v 1) da_nil)))) dss_nil)
      (dss_cons (ds_for [4] PassesOwn.never (di_seq (de_v 4)) (dg_name (i := 6) sc_law.nd) (dss_cons (ds_par true (i := 7) (j := 8) sc_law.nd (de_callC c__law_due (hr.mono (by decide)) (da_cons (de_v 6) da_nil)) (de_repr gd hr.units m_repr (da_cons (de_v 6) da_nil)))
      (dss_cons (ds_if (DW.p (dw_or (dp_not (dp_val (de_callC c__law_same (hr.mono (by decide)) (da_cons (de_callC c__law_seen (hr.mono (by decide)) (da_cons (de_v 6) da_nil)) (da_cons (de_v 7) da_nil))))) (dw_or1 (dp_ne hr.units (de_repr gd hr.units m_repr (da_cons (de_v 6) da_nil)) (de_v 8))))) (dss_one (ds_ret de_bl)) dss_nil)
      (dss_one (ds_if (dp_val (de_isi m_isinstance (da_cons (de_ix (de_v 7) de_int) (da_cons (de_bltn (v := .ty "tuple") (u := .type "tuple") (by rfl) m_tuple (by decide +kernel) rfl) da_nil)))) (dss_cons (ds_setX (i := 9) sc_law.nd (dex_call c__law_of (hr.mono (by decide)) (da_cons (de_v 6) da_nil)))
      (dss_one (ds_for [] PassesOwn.never (di_seq (de_add (de_add (de_callTy call_list_of sc_list (by rfl) m_list (by decide +kernel) (da_cons (de_ix (de_v 7) de_int) da_nil)) (de_v 3)) (dl_lst (da_cons (de_callC c__law_path (hr.mono (by decide)) (da_cons (de_v 1) (da_cons (de_v 3) (da_cons de_int da_nil)))) da_nil)).e)) (dg_name (i := 10) sc_law.nd) (dss_one (ds_if (dp_not (dp_val (de_callC c__law_same (hr.mono (by decide)) (da_cons (de_meth c_Program_within (hr.mono (by decide)) (de_v 9) (da_cons (de_v 10) da_nil)) (da_cons (de_callTy call_tuple_of sc_tuple (by rfl) m_tuple (by decide +kernel) (da_cons (dl_lc (own := [("_law_one", 12)]) rfl sc_law.nd (di_seq (de_ix (de_v 7) de_int)) (blkOk_by (own := [("_law_one", 12)]) (N := ["_law_script", "_law_deck_here", "_law_great", "_law_pool_here", "_law_tries", "_law_turn", "_law_some", "_law_due_here", "_law_ahead", "_law_made", "_law_path_here", "_law_k", "_law_one"]) (sc := defScope s_law) (by decide +kernel)) (fun _ _ _ _ _ => dg_name (i := 12) sc_law.nd) (fun _ _ _ _ _ => dts_one (dp_val (de_callC c__law_covers (hr.mono (by decide)) (da_cons (de_v 10) (da_cons (de_v 12) da_nil))))) (fun _ _ _ _ _ => (de_v 12))).e da_nil)) da_nil))))) (dss_one (ds_ret de_bl)) dss_nil))))) dss_nil)))))
      (dss_one (ds_ret de_bl)))))))⟩) ?h
  case h =>
    intro dk
    refine ⟨dk, 4, 999999999999, rfl, rfl, by decide, by decide, rfl, fun gr g0 g1 => ?_⟩
    refine ⟨dk, 6, rfl, rfl, by decide, by decide, by decide, fun pl f0 hpl hnm hf0 => ?_⟩
    refine ⟨show 2 ≤ lim by decide, ?_⟩
    refine ⟨Nat.zero_le _, ?_⟩
    obtain ⟨gr, rfl⟩ : ∃ i : Nat, gr = (i : Int) := ⟨gr.toNat, by omega⟩
    simp only [List.set_cons_succ, List.set_cons_zero, setsR, startR, List.map_cons, List.map_nil, List.cons_append, List.nil_append, List.replicate_succ, List.replicate_zero, List.length_cons, List.length_nil, Nat.reduceAdd, Nat.reduceSub]
    refine mid (fun r f => ∃ (ts : List D) (a b c d e h j k : Sl), r = [.no, .sh (.any (.ref dk.a)), .sh (.int gr), .sh (.lst (pl.map D.str)), .ow ts, a, b, c, d, e, h, j, k] ∧ ts.length = 5 ∧ (∀ t ∈ ts, ∃ xs, t = .lst xs ∧ TG xs) ∧ 1000000000000 ≤ f + 600) ?_ (fun hk => ?_)
    · rintro r f ⟨ts, a, b, c, d, e, h, j, k, rfl, hl, ht, hf⟩
      refine mid (fun r f => ∃ (ts : List D) (a b c d e h j k : Sl), r = [.no, .sh (.any (.ref dk.a)), .sh (.int gr), .sh (.lst (pl.map D.str)), .ow ts, a, b, c, d, e, h, j, k] ∧ ts.length ≤ 6 ∧ (∀ t ∈ ts, ∃ xs, t = .lst xs ∧ TG xs) ∧ 1000000000000 ≤ f + 620) ?_ (fun hk => ?_)
      · rintro r f ⟨ts, a, b, c, d, e, h, j, k, rfl, hl, ht, hf⟩
        refine dFor_inv (fun rest r f => ∃ (a b c d e h j k : Sl), r = [.no, .sh (.any (.ref dk.a)), .sh (.int gr), .sh (.lst (pl.map D.str)), .sh (.lst ts), a, b, c, d, e, h, j, k] ∧ (∀ t ∈ rest, ∃ xs, t = .lst xs ∧ TG xs) ∧ 1000000000000 + 10 * rest.length ≤ f + 680) _ _ _ ?_ ?_ ⟨a, b, c, d, e, h, j, k, rfl, ht, by omega⟩
        · rintro d rest r f N ⟨a, b, c, d', e, h, j, k, rfl, hr, hf⟩ hN
          obtain ⟨xs, rfl, hx⟩ := hr d (by simp)
          rw [List.length_cons] at hf
          have hx13 : xs.length ≤ 13 := by rcases hx.l with h | h <;> omega
          obtain ⟨rp1, rp2, rp3⟩ := hx.rep
          obtain ⟨p1, p2⟩ := due_plain (xs := xs) (by omega)
          refine ⟨_, rfl, xs, rfl, by omega, hx.gz, due_flat (by omega), rp1, rp2, rp3, rfl, ?_⟩
          simp only [List.set_cons_succ, List.set_cons_zero, setsR, startR, List.map_cons, List.map_nil, List.cons_append, List.nil_append, List.replicate_succ, List.replicate_zero, List.length_cons, List.length_nil, Nat.reduceAdd, Nat.reduceSub]
          refine ⟨xs, rfl, hx.l, hx.gz, _, _, rfl, D.plain_tyd p1, p1, p2, ?_⟩
          rw [deqD_refl _ p1]
          refine ⟨rp1, rp2, rp3, ?_⟩
          show if (!decide (reprT (.lst xs) = reprT (.lst xs))) = true then _ else _
          rw [decide_eq_true rfl]
          refine iteF (nxt ?_)
          simp only [List.set_cons_succ, List.set_cons_zero, setsR, startR, List.map_cons, List.map_nil, List.cons_append, List.nil_append, List.replicate_succ, List.replicate_zero, List.length_cons, List.length_nil, Nat.reduceAdd, Nat.reduceSub]
          rcases due_cases (xs := xs) (by omega) with ⟨s, z, ed, _, _, _⟩ | ⟨us, rfl, hb, he, ed⟩
          · rw [ed]
            refine ⟨.str s, atI0, "str", false, rfl, by decide +kernel, ?_⟩
            exact hN _ _ ⟨_, _, _, _, _, _, _, _, rfl, fun t ht => hr t (by simp [ht]), by omega⟩
          · rw [ed]
            refine ⟨.tup ((msU us).map D.str), atI0, "tuple", true, rfl, by decide +kernel, ?_⟩
            refine ⟨us.map pairD, rfl, hx.l, fun x h => (hx.gz x h).1, fun i hi => (by rw [hb] at hi; cases hi), fun us' eu hb' => ?_⟩
            obtain rfl : us' = us := (List.map_inj_right (f := pairD) (fun a b e => pairD_inj e)).mp eu.symm
            refine ⟨fun h => absurd he h, fun ks _ hp => ?_⟩
            have ml := hp.m.len
            have hpn : ∀ s ∈ pl, PathN 6 s := fun s hs => ⟨[s], show 1 ≤ 1 by decide, show 1 ≤ 6 by decide, fun n hn => by rw [List.mem_singleton.mp hn]; exact hnm s hs, rfl⟩
            refine ⟨.tup ((msU us').map D.str), atI0, by rw [List.length_map, List.length_map, hpl]; exact L1 (by omega), ?_⟩
            refine ⟨dk, pl, 3, rfl, rfl, by omega, by omega, hnm, by decide, by decide, by omega, fun ns f2 n1 n2 n3 hf2 => ?_⟩
            have pp : PathN 6 (Txt.join "." ns) := ⟨ns, n1, by omega, fun z hz => hnm z (n3 z hz), rfl⟩
            generalize Txt.join "." ns = p at pp
            refine ⟨show 1 ≤ lim by decide, by rw [List.length_append, List.length_map, List.length_map, hpl]; exact Nat.le_trans (show (msU us').length + 6 + 1 ≤ 1000 by omega) (by decide), ?_⟩
            have el : (msU us').map D.str ++ pl.map D.str ++ [D.str p] = (msU us' ++ pl ++ [p]).map D.str := by simp
            rw [el]
            refine dFor_inv (fun rest r f => f = f2 ∧ (∃ a b c e h : Sl, r = [.no, .sh (.any (.ref dk.a)), .sh (.int gr), .sh (.lst (pl.map D.str)), .sh (.lst ts), a, .sh (.lst (us'.map pairD)), .sh (.tup [.tup ((msU us').map D.str), .tup ((sortU us').map pairD)]), b, .sh (prgD (msU us') us' ks), c, e, h]) ∧ ∀ d ∈ rest, ∃ s, d = .str s ∧ PathN 6 s) _ _ _ ?_ ?_ ⟨rfl, ⟨_, _, _, _, _, rfl⟩, fun d hd => ?_⟩
            · rintro d rest r f N2 ⟨rfl, ⟨a, b, c, e, h, rfl⟩, hr2⟩ hN2
              obtain ⟨s, rfl, hs⟩ := hr2 d (by simp)
              have ew : wthn (msU us') s = (msU us').filter fun z => cov s z := by
                unfold wthn
                rw [show sortS (msU us') = msU us' from sortS_eq (sortS_perm _)]
              have hsl := hs.len
              refine ⟨_, rfl, rfl, by decide +kernel, msU us', us', ks, s, rfl, hp, hs, ?_⟩
              refine ⟨.tup ((msU us').map D.str), atI0, by rw [List.length_map]; exact L1 (by omega), ?_⟩
              refine lcF D.str (fun z => cov s z) (msU us') _ (fun z hz => ⟨_, rfl, fun f Q h => ⟨s, z, rfl, by omega, Nat.le_trans (hp.m.path z hz).len (by decide), hs.asc, (hp.m.path z hz).asc, h⟩, fun _ f Q h => h⟩) ?_
              have pp2 := plST (l := (msU us').filter fun z => cov s z) (Nat.le_trans (List.length_filter_le _ _) (by omega))
              refine ⟨_, _, rfl, D.plain_tyd (by rw [ew]; exact pp2.1), pp2.1, Nat.le_trans pp2.2 (by decide), ?_⟩
              rw [ew, deqD_refl _ pp2.1]
              exact hN2 _ _ ⟨rfl, ⟨_, _, _, _, _, rfl⟩, fun d hd => hr2 d (by simp [hd])⟩
            · rintro r f ⟨rfl, ⟨a, b, c, e, h, rfl⟩, hr2⟩
              exact hN _ _ ⟨_, _, _, _, _, _, _, _, rfl, fun t ht => hr t (by simp [ht]), by omega⟩
            · obtain ⟨s, hs, rfl⟩ := List.mem_map.mp hd
              refine ⟨s, rfl, ?_⟩
              rcases List.mem_append.mp hs with h | h
              · rcases List.mem_append.mp h with h | h
                · exact hp.m.path s h
                · exact hpn s h
              · rw [List.mem_singleton.mp h]; exact pp
        · rintro r f ⟨a, b, c, d, e, h, j, k, rfl, hr, hf⟩
          rfl
      · show if decide ((gr : Int) = 0) = true then _ else _
        by_cases h0 : (gr : Int) = 0
        · rw [decide_eq_true h0]
          refine iteT ?_
          refine ⟨ts, rfl, dk, rfl, rfl, by omega, fun xs f' hxs hf' => ?_⟩
          refine ⟨by rw [hl]; decide, ?_⟩
          dsimp only
          refine hk _ _ ⟨ts ++ [.lst xs], a, b, c, d, e, h, j, k, rfl, by rw [List.length_append]; show ts.length + 1 ≤ 6; omega, fun t ht' => ?_, by omega⟩
          · rcases List.mem_append.mp ht' with h | h
            · exact ht t h
            · exact ⟨xs, List.mem_singleton.mp h, many_tg hxs⟩
        · rw [decide_eq_false h0]
          exact iteF (hk _ _ ⟨ts, a, b, c, d, e, h, j, k, rfl, by omega, ht, by omega⟩)
    · refine ⟨by decide, by decide, ?_⟩
      refine dFor_range (fun i r f => ∃ (ts : List D) (a b c d e h j k : Sl), r = [.no, .sh (.any (.ref dk.a)), .sh (.int gr), .sh (.lst (pl.map D.str)), .ow ts, a, b, c, d, e, h, j, k] ∧ ts.length = i ∧ (∀ t ∈ ts, ∃ xs, t = .lst xs ∧ TG xs) ∧ 1000000000000 ≤ f + 56 + 83 * i) 0 _ _ _ ?_ (fun r f => ?_) ⟨[], _, _, _, _, _, _, _, _, rfl, rfl, by simp, by show 1000000000000 ≤ f0 + 56 + 83 * 0; omega⟩
      · rintro i r f N hi ⟨ts, a, b, c, d, e, h, j, k, rfl, hl, ht, hf⟩ hN
        have hi : i < 5 := hi
        obtain ⟨f1, rfl⟩ : ∃ f1, f = f1 + 1 := ⟨f - 1, by omega⟩
        refine ⟨_, rfl, dk, 6, f1, rfl, rfl, by decide, by decide, rfl, fun m m0 m1 => ?_⟩
        obtain ⟨m, rfl⟩ : ∃ i : Nat, m = (i : Int) := ⟨m.toNat, by omega⟩
        refine ⟨by omega, by omega, by rw [intsD_len]; exact L1 (by omega), ?_⟩
        refine dLcGo_each (P := Od) 16 _ _ _ (by rw [intsD_len]; omega) (fun y hy => ⟨_, rfl, fun f Q hf hq => ⟨dk, pl, rfl, rfl, by omega, by omega, hnm, hf, fun v f' hv hf' => hq v f' hv hf'⟩⟩) (fun ys f2 hyl hy hf2 => ?_)
        rw [intsD_len] at hyl hf2
        rw [List.nil_append]
        simp only [List.set_cons_succ, List.set_cons_zero, setsR, startR, List.map_cons, List.map_nil, List.cons_append, List.nil_append, List.replicate_succ, List.replicate_zero, List.length_cons, List.length_nil, Nat.reduceAdd, Nat.reduceSub]
        refine mid (fun r f => ∃ (ys : List D) (a c d e h j k : Sl), r = [.no, .sh (.any (.ref dk.a)), .sh (.int gr), .sh (.lst (pl.map D.str)), .ow ts, a, .ow ys, c, d, e, h, j, k] ∧ ys.length ≤ 5 ∧ (∀ y ∈ ys, Od y) ∧ f2 ≤ f + 2) ?_ (fun hk => ?_)
        · rintro r f ⟨ys, a, c, d, e, h, j, k, rfl, hyl, hy, hff⟩
          refine ⟨ts, rfl, by rw [hl]; exact L1 (by omega), hN _ _ ⟨ts ++ [.lst ys], a, _, c, d, e, h, j, k, rfl, by rw [List.length_append, hl]; rfl, fun t ht' => ?_, by omega⟩⟩
          rcases List.mem_append.mp ht' with h | h
          · exact ht t h
          · exact ⟨ys, List.mem_singleton.mp h, .inl hyl, fun x hx => (hy x hx).e⟩
        · refine ⟨Nat.zero_le _, ys, rfl, rfl, ?_⟩
          cases ys with
          | nil => exact hk _ _ ⟨[], _, _, _, _, _, _, _, rfl, by simp, by simp, by omega⟩
          | cons y t =>
            have hyl5 : (y :: t).length ≤ 5 := by omega
            show if decide (((y :: t).length : Int) < 5) = true then _ else _
            by_cases h5 : (((y :: t).length : Nat) : Int) < 5
            · rw [decide_eq_true h5]
              refine iteT ?_
              obtain ⟨f3, rfl⟩ : ∃ f3, f2 = f3 + 2 := ⟨f2 - 2, by omega⟩
              refine ⟨dk, 8, f3 + 1, rfl, rfl, by decide, by decide, rfl, fun q0 q1 q2 => ?_⟩
              show if decide (q0 = 0) = true then _ else _
              by_cases hq0 : q0 = 0
              · rw [decide_eq_true hq0]
                refine iteT ?_
                refine ⟨y :: t, rfl, dk, ((y :: t).length : Nat), f3, rfl, rfl, ?_, ?_, rfl, fun r0 r1 r2 => ?_⟩
                · rw [List.length_cons]; omega
                · omega
                · obtain ⟨z, hz, hzm⟩ := atI_mem (xs := y :: t) r1 r2
                  refine ⟨z, hz, L1 (by omega), ?_⟩
                  refine hk _ _ ⟨(y :: t) ++ [z], _, _, _, _, _, _, _, rfl, ?_, fun x hx => ?_, by omega⟩
                  · rw [List.length_append]
                    show (y :: t).length + 1 ≤ 5
                    omega
                  · rcases List.mem_append.mp hx with h | h
                    · exact hy x h
                    · rw [List.mem_singleton.mp h]; exact hy z hzm
              · rw [decide_eq_false hq0]
                refine iteF ?_
                exact hk _ _ ⟨y :: t, _, _, _, _, _, _, _, rfl, hyl5, hy, by omega⟩
            · rw [decide_eq_false h5]
              refine iteF ?_
              exact hk _ _ ⟨y :: t, _, _, _, _, _, _, _, rfl, hyl5, hy, by omega⟩
      · rintro ⟨ts, a, b, c, d, e, h, j, k, rfl, hl, ht, hf⟩
        exact hk _ _ ⟨ts, a, b, c, d, e, h, j, k, rfl, hl, ht, by omega⟩
end
theorem all_mk {l : PySem.W.OpenLaw} {w : World} {K : PySem.W.Frag} {h : Heap} {mg : Str → Option Value} {fa : Addr} (X : K.In h) (G : h.Ns mainGlobals mg) (hfa : mg "law" = some (.ref fa))
    {C_Program : Addr} (kc0_Program : PySem.W.nsIn K mainGlobals "Program" = some (some (.ref C_Program))) (kc1_Program : PySem.W.plainGet K C_Program Str.empty = true) (kc2_Program : PySem.W.hasDictIn K C_Program = true) (kc3_Program : PySem.W.plainOver K C_Program = true) (kc4_Program : PySem.W.findIn K (.ref C_Program) "__setattr__" = some (some (.builtin "object.__setattr__")))
    (ko0_Program : PySem.W.findIn K (.ref C_Program) "__class__" = some (some (.builtin "object.__class__"))) (ko1_Program : PySem.W.specialIn K (.builtin "object.__class__") "__get__" = some (some (.builtin "getset_descriptor.__get__"))) (ko2_Program : PySem.W.takesIn K (.builtin "object.__class__") = some true) (ko3_Program : PySem.W.mroIn K C_Program (.type "object") = some true)
    (ko4_Program : PySem.W.subIn K (.ref C_Program) (.type "tuple") = some false) (ko5_Program : PySem.W.subIn K (.ref C_Program) (.type "str") = some false)
    {C_BadProgram : Addr} (xc0_BadProgram : PySem.W.nsIn K mainGlobals "BadProgram" = some (some (.ref C_BadProgram)))
    {C_BadUse : Addr} (xc0_BadUse : PySem.W.nsIn K mainGlobals "BadUse" = some (some (.ref C_BadUse)))
    {C_Clash : Addr} (xc0_Clash : PySem.W.nsIn K mainGlobals "Clash" = some (some (.ref C_Clash)))
    {C_RestError : Addr} (xc0_RestError : PySem.W.nsIn K mainGlobals "RestError" = some (some (.ref C_RestError)))
    (xf0_BadProgram : PySem.W.findIn K (.ref C_BadProgram) "__getattribute__" = some (some (.builtin "BaseException.__getattribute__"))) (xf1_BadProgram : PySem.W.findIn K (.ref C_BadProgram) "__getattr__" = some none) (xf2_BadProgram : PySem.W.subIn K (.ref C_BadProgram) (.type "BaseException") = some true) (xf3_BadProgram : PySem.W.hasDictIn K C_BadProgram = true) (xh0_BadProgram : PySem.W.findIn K (.ref C_BadProgram) "__class__" = some (some (.builtin "object.__class__"))) (xh1_BadProgram : PySem.W.specialIn K (.builtin "object.__class__") "__get__" = some (some (.builtin "getset_descriptor.__get__"))) (xh2_BadProgram : PySem.W.takesIn K (.builtin "object.__class__") = some true) (xh3_BadProgram : PySem.W.mroIn K C_BadProgram (.type "object") = some true)
    (xf0_BadUse : PySem.W.findIn K (.ref C_BadUse) "__getattribute__" = some (some (.builtin "BaseException.__getattribute__"))) (xf1_BadUse : PySem.W.findIn K (.ref C_BadUse) "__getattr__" = some none) (xf2_BadUse : PySem.W.subIn K (.ref C_BadUse) (.type "BaseException") = some true) (xf3_BadUse : PySem.W.hasDictIn K C_BadUse = true) (xh0_BadUse : PySem.W.findIn K (.ref C_BadUse) "__class__" = some (some (.builtin "object.__class__"))) (xh1_BadUse : PySem.W.specialIn K (.builtin "object.__class__") "__get__" = some (some (.builtin "getset_descriptor.__get__"))) (xh2_BadUse : PySem.W.takesIn K (.builtin "object.__class__") = some true) (xh3_BadUse : PySem.W.mroIn K C_BadUse (.type "object") = some true)
    (xj_isx_BadUse_Clash : PySem.W.kitAny K (.type "NoneType") [.ref C_BadUse, .ref C_Clash] = some false)
    (xj_isx_BadUse_Clash_BadUse : PySem.W.kitAny K (.ref C_BadUse) [.ref C_BadUse, .ref C_Clash] = some true)
    (xj_isx_BadUse_Clash_BadProgram : PySem.W.kitAny K (.ref C_BadProgram) [.ref C_BadUse, .ref C_Clash] = some false)
    (xj_isx_BadProgram : PySem.W.kitAny K (.type "NoneType") [.ref C_BadProgram] = some false)
    (xj_isx_BadProgram_BadUse : PySem.W.kitAny K (.ref C_BadUse) [.ref C_BadProgram] = some false)
    (xj_isx_BadProgram_BadProgram : PySem.W.kitAny K (.ref C_BadProgram) [.ref C_BadProgram] = some true)
    (xj_isx_BadProgram_Clash : PySem.W.kitAny K (.type "NoneType") [.ref C_BadProgram, .ref C_Clash] = some false)
    (xj_isx_BadProgram_Clash_BadUse : PySem.W.kitAny K (.ref C_BadUse) [.ref C_BadProgram, .ref C_Clash] = some false)
    (xj_isx_BadProgram_Clash_BadProgram : PySem.W.kitAny K (.ref C_BadProgram) [.ref C_BadProgram, .ref C_Clash] = some true)
    (xj_isx_BadUse : PySem.W.kitAny K (.type "NoneType") [.ref C_BadUse] = some false)
    (xj_isx_BadUse_BadUse : PySem.W.kitAny K (.ref C_BadUse) [.ref C_BadUse] = some true)
    (xj_isx_BadUse_BadProgram : PySem.W.kitAny K (.ref C_BadProgram) [.ref C_BadUse] = some false)
    (xm_RestError_BadUse : PySem.W.exmOne K (.ref C_BadUse) (.ref C_RestError) = some true)
    (xm_RestError_BadProgram : PySem.W.exmOne K (.ref C_BadProgram) (.ref C_RestError) = some true)
    (kn_n_Program_heads : PySem.W.findIn K (.ref C_Program) "heads" = some none)
    (kn_n_Program_links : PySem.W.findIn K (.ref C_Program) "links" = some none)
    (kn_n_Program_places : PySem.W.findIn K (.ref C_Program) "places" = some none)
    (kn_n_BadProgram_error : PySem.W.findIn K (.ref C_BadProgram) "error" = some none)
    (kn_n_BadUse_index : PySem.W.findIn K (.ref C_BadUse) "index" = some none)
    {xq0_BadProgram xq1_BadProgram xq2_BadProgram xq3_BadProgram xq4_BadProgram xq5_BadProgram xq6_BadProgram xq7_BadProgram xq8_BadProgram xq9_BadProgram xqa_BadProgram xqb_BadProgram xqc_BadProgram xqd_BadProgram xqe_BadProgram : _} (xl_BadProgram : K.lookup C_BadProgram = some (excClassObj xq0_BadProgram xq1_BadProgram C_BadProgram xq2_BadProgram xq3_BadProgram xq4_BadProgram true xq5_BadProgram xq6_BadProgram xq7_BadProgram xq8_BadProgram xq9_BadProgram xqa_BadProgram xqb_BadProgram xqc_BadProgram xqd_BadProgram xqe_BadProgram "ValueError.__new__")) (xr_BadProgram : PySem.HandSPX.refsVE xq4_BadProgram = true)
    (xs0_BadProgram : PySem.W.findIn K (.ref C_BadProgram) "__setattr__" = some (some (.builtin "object.__setattr__"))) (xs1_BadProgram : PySem.W.subIn K (.ref C_BadProgram) (.type "BaseException") = some true) (xs2_BadProgram : PySem.W.typeIn K (.ref C_BadProgram) = some (.type "type")) (xs3_BadProgram : PySem.W.keepIn K (.ref C_BadProgram) = true) (xs4_BadProgram : PySem.W.findIn K (.ref C_BadProgram) "error" = some none)
    {fx_BadProgram : Addr} {odx_BadProgram anx_BadProgram : Option Addr} {slx_BadProgram : Array (Option Value)} {ocx_BadProgram kVx_BadProgram dcx_BadProgram pmx_BadProgram cdx_BadProgram ctx_BadProgram : Value} (xi_BadProgram : PySem.W.findIn K (.ref C_BadProgram) "__init__" = some (some (.ref fx_BadProgram))) (xt_BadProgram : PySem.W.typeIn K (.ref fx_BadProgram) = some (.type "function")) (lx_BadProgram : K.lookup fx_BadProgram = some ⟨ocx_BadProgram, odx_BadProgram, .func (PySem.W.fnOf "__init__" "BadProgram.__init__" (defArgs s_x_BadProgram) (defBody s_x_BadProgram) (defScope s_x_BadProgram) .none kVx_BadProgram dcx_BadProgram pmx_BadProgram anx_BadProgram cdx_BadProgram ctx_BadProgram), slx_BadProgram⟩) (cx_BadProgram : PySem.W.codeIn K cdx_BadProgram "BadProgram.__init__" = true) (kx0_BadProgram : PySem.W.keepIn K (.ref fx_BadProgram) = true)
    {xq0_BadUse xq1_BadUse xq2_BadUse xq3_BadUse xq4_BadUse xq5_BadUse xq6_BadUse xq7_BadUse xq8_BadUse xq9_BadUse xqa_BadUse xqb_BadUse xqc_BadUse xqd_BadUse xqe_BadUse : _} (xl_BadUse : K.lookup C_BadUse = some (excClassObj xq0_BadUse xq1_BadUse C_BadUse xq2_BadUse xq3_BadUse xq4_BadUse true xq5_BadUse xq6_BadUse xq7_BadUse xq8_BadUse xq9_BadUse xqa_BadUse xqb_BadUse xqc_BadUse xqd_BadUse xqe_BadUse "ValueError.__new__")) (xr_BadUse : PySem.HandSPX.refsVE xq4_BadUse = true)
    (xs0_BadUse : PySem.W.findIn K (.ref C_BadUse) "__setattr__" = some (some (.builtin "object.__setattr__"))) (xs1_BadUse : PySem.W.subIn K (.ref C_BadUse) (.type "BaseException") = some true) (xs2_BadUse : PySem.W.typeIn K (.ref C_BadUse) = some (.type "type")) (xs3_BadUse : PySem.W.keepIn K (.ref C_BadUse) = true) (xs4_BadUse : PySem.W.findIn K (.ref C_BadUse) "index" = some none)
    {fx_BadUse : Addr} {odx_BadUse anx_BadUse : Option Addr} {slx_BadUse : Array (Option Value)} {ocx_BadUse kVx_BadUse dcx_BadUse pmx_BadUse cdx_BadUse ctx_BadUse : Value} (xi_BadUse : PySem.W.findIn K (.ref C_BadUse) "__init__" = some (some (.ref fx_BadUse))) (xt_BadUse : PySem.W.typeIn K (.ref fx_BadUse) = some (.type "function")) (lx_BadUse : K.lookup fx_BadUse = some ⟨ocx_BadUse, odx_BadUse, .func (PySem.W.fnOf "__init__" "BadUse.__init__" (defArgs s_x_BadUse) (defBody s_x_BadUse) (defScope s_x_BadUse) .none kVx_BadUse dcx_BadUse pmx_BadUse anx_BadUse cdx_BadUse ctx_BadUse), slx_BadUse⟩) (cx_BadUse : PySem.W.codeIn K cdx_BadUse "BadUse.__init__" = true) (kx0_BadUse : PySem.W.keepIn K (.ref fx_BadUse) = true)
    {f0 : Addr} {od0 an0 : Option Addr} {sl0 : Array (Option Value)} {oc0 kV0 dc0 pm0 cd0 ct0 : Value}
    (a0 : PySem.W.nsIn K mainGlobals "_law_next" = some (some (.ref f0))) (l0 : K.lookup f0 = some ⟨oc0, od0, .func (PySem.W.fnOf "_law_next" "_law_next" (defArgs s__law_next) (defBody s__law_next) (defScope s__law_next) .none kV0 dc0 pm0 an0 cd0 ct0), sl0⟩) (c0 : PySem.W.codeIn K cd0 "_law_next" = true) (k0 : PySem.W.keepIn K (.ref f0) = true)
    {f1 : Addr} {od1 an1 : Option Addr} {sl1 : Array (Option Value)} {oc1 kV1 dc1 pm1 cd1 ct1 : Value}
    (a1 : PySem.W.nsIn K mainGlobals "_law_name" = some (some (.ref f1))) (l1 : K.lookup f1 = some ⟨oc1, od1, .func (PySem.W.fnOf "_law_name" "_law_name" (defArgs s__law_name) (defBody s__law_name) (defScope s__law_name) .none kV1 dc1 pm1 an1 cd1 ct1), sl1⟩) (c1 : PySem.W.codeIn K cd1 "_law_name" = true) (k1 : PySem.W.keepIn K (.ref f1) = true)
    {f2 : Addr} {od2 an2 : Option Addr} {sl2 : Array (Option Value)} {oc2 kV2 dc2 pm2 cd2 ct2 : Value}
    (a2 : PySem.W.nsIn K mainGlobals "_law_pool" = some (some (.ref f2))) (l2 : K.lookup f2 = some ⟨oc2, od2, .func (PySem.W.fnOf "_law_pool" "_law_pool" (defArgs s__law_pool) (defBody s__law_pool) (defScope s__law_pool) .none kV2 dc2 pm2 an2 cd2 ct2), sl2⟩) (c2 : PySem.W.codeIn K cd2 "_law_pool" = true) (k2 : PySem.W.keepIn K (.ref f2) = true)
    {f3 : Addr} {od3 an3 : Option Addr} {sl3 : Array (Option Value)} {oc3 kV3 dc3 pm3 cd3 ct3 : Value}
    (a3 : PySem.W.nsIn K mainGlobals "is_pair" = some (some (.ref f3))) (l3 : K.lookup f3 = some ⟨oc3, od3, .func (PySem.W.fnOf "is_pair" "is_pair" (defArgs s_is_pair) (defBody s_is_pair) (defScope s_is_pair) .none kV3 dc3 pm3 an3 cd3 ct3), sl3⟩) (c3 : PySem.W.codeIn K cd3 "is_pair" = true) (k3 : PySem.W.keepIn K (.ref f3) = true)
    {f4 : Addr} {od4 an4 : Option Addr} {sl4 : Array (Option Value)} {oc4 kV4 dc4 pm4 cd4 ct4 : Value}
    (a4 : PySem.W.nsIn K mainGlobals "is_name" = some (some (.ref f4))) (l4 : K.lookup f4 = some ⟨oc4, od4, .func (PySem.W.fnOf "is_name" "is_name" (defArgs s_is_name) (defBody s_is_name) (defScope s_is_name) .none kV4 dc4 pm4 an4 cd4 ct4), sl4⟩) (c4 : PySem.W.codeIn K cd4 "is_name" = true) (k4 : PySem.W.keepIn K (.ref f4) = true)
    {f5 : Addr} {od5 an5 : Option Addr} {sl5 : Array (Option Value)} {oc5 kV5 dc5 pm5 cd5 ct5 : Value}
    (a5 : PySem.W.nsIn K mainGlobals "is_path" = some (some (.ref f5))) (l5 : K.lookup f5 = some ⟨oc5, od5, .func (PySem.W.fnOf "is_path" "is_path" (defArgs s_is_path) (defBody s_is_path) (defScope s_is_path) .none kV5 dc5 pm5 an5 cd5 ct5), sl5⟩) (c5 : PySem.W.codeIn K cd5 "is_path" = true) (k5 : PySem.W.keepIn K (.ref f5) = true)
    {f6 : Addr} {od6 an6 : Option Addr} {sl6 : Array (Option Value)} {oc6 kV6 dc6 pm6 cd6 ct6 : Value}
    (a6 : PySem.W.nsIn K mainGlobals "covers" = some (some (.ref f6))) (l6 : K.lookup f6 = some ⟨oc6, od6, .func (PySem.W.fnOf "covers" "covers" (defArgs s_covers) (defBody s_covers) (defScope s_covers) .none kV6 dc6 pm6 an6 cd6 ct6), sl6⟩) (c6 : PySem.W.codeIn K cd6 "covers" = true) (k6 : PySem.W.keepIn K (.ref f6) = true)
    {f7 : Addr} {od7 an7 : Option Addr} {sl7 : Array (Option Value)} {oc7 kV7 dc7 pm7 cd7 ct7 : Value}
    (a7 : PySem.W.nsIn K mainGlobals "overlap" = some (some (.ref f7))) (l7 : K.lookup f7 = some ⟨oc7, od7, .func (PySem.W.fnOf "overlap" "overlap" (defArgs s_overlap) (defBody s_overlap) (defScope s_overlap) .none kV7 dc7 pm7 an7 cd7 ct7), sl7⟩) (c7 : PySem.W.codeIn K cd7 "overlap" = true) (k7 : PySem.W.keepIn K (.ref f7) = true)
    {f8 : Addr} {od8 an8 : Option Addr} {sl8 : Array (Option Value)} {oc8 kV8 dc8 pm8 cd8 ct8 : Value}
    (a8 : PySem.W.nsIn K mainGlobals "first_overlap" = some (some (.ref f8))) (l8 : K.lookup f8 = some ⟨oc8, od8, .func (PySem.W.fnOf "first_overlap" "first_overlap" (defArgs s_first_overlap) (defBody s_first_overlap) (defScope s_first_overlap) .none kV8 dc8 pm8 an8 cd8 ct8), sl8⟩) (c8 : PySem.W.codeIn K cd8 "first_overlap" = true) (k8 : PySem.W.keepIn K (.ref f8) = true)
    {f9 : Addr} {od9 an9 : Option Addr} {sl9 : Array (Option Value)} {oc9 kV9 dc9 pm9 cd9 ct9 : Value}
    (a9 : PySem.W.nsIn K mainGlobals "modules_error" = some (some (.ref f9))) (l9 : K.lookup f9 = some ⟨oc9, od9, .func (PySem.W.fnOf "modules_error" "modules_error" (defArgs s_modules_error) (defBody s_modules_error) (defScope s_modules_error) .none kV9 dc9 pm9 an9 cd9 ct9), sl9⟩) (c9 : PySem.W.codeIn K cd9 "modules_error" = true) (k9 : PySem.W.keepIn K (.ref f9) = true)
    {f10 : Addr} {od10 an10 : Option Addr} {sl10 : Array (Option Value)} {oc10 kV10 dc10 pm10 cd10 ct10 : Value}
    (a10 : PySem.W.nsIn K mainGlobals "uses_error" = some (some (.ref f10))) (l10 : K.lookup f10 = some ⟨oc10, od10, .func (PySem.W.fnOf "uses_error" "uses_error" (defArgs s_uses_error) (defBody s_uses_error) (defScope s_uses_error) .none kV10 dc10 pm10 an10 cd10 ct10), sl10⟩) (c10 : PySem.W.codeIn K cd10 "uses_error" = true) (k10 : PySem.W.keepIn K (.ref f10) = true)
    {f11 : Addr} {od11 an11 : Option Addr} {sl11 : Array (Option Value)} {oc11 kV11 dc11 pm11 cd11 ct11 : Value}
    (a11 : PySem.W.nsIn K mainGlobals "program_error" = some (some (.ref f11))) (l11 : K.lookup f11 = some ⟨oc11, od11, .func (PySem.W.fnOf "program_error" "program_error" (defArgs s_program_error) (defBody s_program_error) (defScope s_program_error) .none kV11 dc11 pm11 an11 cd11 ct11), sl11⟩) (c11 : PySem.W.codeIn K cd11 "program_error" = true) (k11 : PySem.W.keepIn K (.ref f11) = true)
    {f12 : Addr} {od12 an12 : Option Addr} {sl12 : Array (Option Value)} {oc12 kV12 dc12 pm12 cd12 ct12 : Value}
    (a12 : PySem.W.nsIn K mainGlobals "_law_is_use" = some (some (.ref f12))) (l12 : K.lookup f12 = some ⟨oc12, od12, .func (PySem.W.fnOf "_law_is_use" "_law_is_use" (defArgs s__law_is_use) (defBody s__law_is_use) (defScope s__law_is_use) .none kV12 dc12 pm12 an12 cd12 ct12), sl12⟩) (c12 : PySem.W.codeIn K cd12 "_law_is_use" = true) (k12 : PySem.W.keepIn K (.ref f12) = true)
    {f13 : Addr} {od13 an13 : Option Addr} {sl13 : Array (Option Value)} {oc13 kV13 dc13 pm13 cd13 ct13 : Value}
    (a13 : PySem.W.nsIn K mainGlobals "parts_of" = some (some (.ref f13))) (l13 : K.lookup f13 = some ⟨oc13, od13, .func (PySem.W.fnOf "parts_of" "parts_of" (defArgs s_parts_of) (defBody s_parts_of) (defScope s_parts_of) .none kV13 dc13 pm13 an13 cd13 ct13), sl13⟩) (c13 : PySem.W.codeIn K cd13 "parts_of" = true) (k13 : PySem.W.keepIn K (.ref f13) = true)
    {f14 : Addr} {od14 an14 : Option Addr} {sl14 : Array (Option Value)} {oc14 kV14 dc14 pm14 cd14 ct14 : Value}
    (a14 : PySem.W.findIn K (.ref C_Program) "__init__" = some (some (.ref f14))) (ma14 : PySem.W.isFn K (.ref f14) = true)
    (mb14 : PySem.W.makesIn K C_Program = true) (mc14 : PySem.W.keepIn K (.ref C_Program) = true)
    (l14 : K.lookup f14 = some ⟨oc14, od14, .func (PySem.W.fnOf "__init__" "Program.__init__" (defArgs s_Program___init__) (defBody s_Program___init__) (defScope s_Program___init__) .none kV14 dc14 pm14 an14 cd14 ct14), sl14⟩) (c14 : PySem.W.codeIn K cd14 "Program.__init__" = true) (k14 : PySem.W.keepIn K (.ref f14) = true)
    {f15 : Addr} {od15 an15 : Option Addr} {sl15 : Array (Option Value)} {oc15 kV15 dc15 pm15 cd15 ct15 : Value}
    {pr15 : Addr} {rs15 : List Value} (ra15 : PySem.W.readsIn K C_Program (.type "type") = true) (rb15 : PySem.W.specialIn K (.ref C_Program) "__getattribute__" = some (some (.builtin "type.__getattribute__"))) (a15 : PySem.W.findCls K (.ref C_Program) (.type "type") "of" = some (.get (.builtin "classmethod.__get__") (.ref pr15) .none (.ref C_Program))) (pc15 : PySem.W.recIn K pr15 "classmethod" = some (.ref f15 :: rs15)) (fi15 : PySem.W.fnIn K f15 = true)
    (l15 : K.lookup f15 = some ⟨oc15, od15, .func (PySem.W.fnOf "of" "Program.of" (defArgs s_Program_of) (defBody s_Program_of) (defScope s_Program_of) .none kV15 dc15 pm15 an15 cd15 ct15), sl15⟩) (c15 : PySem.W.codeIn K cd15 "Program.of" = true) (k15 : PySem.W.keepIn K (.ref f15) = true)
    {f16 : Addr} {od16 an16 : Option Addr} {sl16 : Array (Option Value)} {oc16 kV16 dc16 pm16 cd16 ct16 : Value}
    (a16 : PySem.W.nsIn K mainGlobals "_law_of" = some (some (.ref f16))) (l16 : K.lookup f16 = some ⟨oc16, od16, .func (PySem.W.fnOf "_law_of" "_law_of" (defArgs s__law_of) (defBody s__law_of) (defScope s__law_of) .none kV16 dc16 pm16 an16 cd16 ct16), sl16⟩) (c16 : PySem.W.codeIn K cd16 "_law_of" = true) (k16 : PySem.W.keepIn K (.ref f16) = true)
    {f17 : Addr} {od17 an17 : Option Addr} {sl17 : Array (Option Value)} {oc17 kV17 dc17 pm17 cd17 ct17 : Value}
    (a17 : PySem.W.findIn K (.ref C_Program) "__contains__" = some (some (.ref f17))) (ma17 : PySem.W.isFn K (.ref f17) = true)
    (l17 : K.lookup f17 = some ⟨oc17, od17, .func (PySem.W.fnOf "__contains__" "Program.__contains__" (defArgs s_Program___contains__) (defBody s_Program___contains__) (defScope s_Program___contains__) .none kV17 dc17 pm17 an17 cd17 ct17), sl17⟩) (c17 : PySem.W.codeIn K cd17 "Program.__contains__" = true) (k17 : PySem.W.keepIn K (.ref f17) = true)
    {f18 : Addr} {od18 an18 : Option Addr} {sl18 : Array (Option Value)} {oc18 kV18 dc18 pm18 cd18 ct18 : Value}
    (a18 : PySem.W.nsIn K mainGlobals "_law_beginnings" = some (some (.ref f18))) (l18 : K.lookup f18 = some ⟨oc18, od18, .func (PySem.W.fnOf "_law_beginnings" "_law_beginnings" (defArgs s__law_beginnings) (defBody s__law_beginnings) (defScope s__law_beginnings) .none kV18 dc18 pm18 an18 cd18 ct18), sl18⟩) (c18 : PySem.W.codeIn K cd18 "_law_beginnings" = true) (k18 : PySem.W.keepIn K (.ref f18) = true)
    {f19 : Addr} {od19 an19 : Option Addr} {sl19 : Array (Option Value)} {oc19 kV19 dc19 pm19 cd19 ct19 : Value}
    (a19 : PySem.W.nsIn K mainGlobals "_law_same" = some (some (.ref f19))) (l19 : K.lookup f19 = some ⟨oc19, od19, .func (PySem.W.fnOf "_law_same" "_law_same" (defArgs s__law_same) (defBody s__law_same) (defScope s__law_same) .none kV19 dc19 pm19 an19 cd19 ct19), sl19⟩) (c19 : PySem.W.codeIn K cd19 "_law_same" = true) (k19 : PySem.W.keepIn K (.ref f19) = true)
    {f20 : Addr} {od20 an20 : Option Addr} {sl20 : Array (Option Value)} {oc20 kV20 dc20 pm20 cd20 ct20 : Value}
    {pr20 : Addr} {rs20 : List Value} (a20 : PySem.W.findIn K (.ref C_Program) "parts" = some (some (.ref pr20))) (pa20 : PySem.W.specialIn K (.ref pr20) "__get__" = some (some (.builtin "property.__get__"))) (pb20 : PySem.W.takesIn K (.ref pr20) = some true) (pc20 : PySem.W.recIn K pr20 "property" = some (.ref f20 :: rs20))
    (l20 : K.lookup f20 = some ⟨oc20, od20, .func (PySem.W.fnOf "parts" "Program.parts" (defArgs s_Program_parts) (defBody s_Program_parts) (defScope s_Program_parts) .none kV20 dc20 pm20 an20 cd20 ct20), sl20⟩) (c20 : PySem.W.codeIn K cd20 "Program.parts" = true) (k20 : PySem.W.keepIn K (.ref f20) = true)
    {f21 : Addr} {od21 an21 : Option Addr} {sl21 : Array (Option Value)} {oc21 kV21 dc21 pm21 cd21 ct21 : Value}
    {pr21 : Addr} {rs21 : List Value} (a21 : PySem.W.findIn K (.ref C_Program) "modules" = some (some (.ref pr21))) (pa21 : PySem.W.specialIn K (.ref pr21) "__get__" = some (some (.builtin "property.__get__"))) (pb21 : PySem.W.takesIn K (.ref pr21) = some true) (pc21 : PySem.W.recIn K pr21 "property" = some (.ref f21 :: rs21))
    (l21 : K.lookup f21 = some ⟨oc21, od21, .func (PySem.W.fnOf "modules" "Program.modules" (defArgs s_Program_modules) (defBody s_Program_modules) (defScope s_Program_modules) .none kV21 dc21 pm21 an21 cd21 ct21), sl21⟩) (c21 : PySem.W.codeIn K cd21 "Program.modules" = true) (k21 : PySem.W.keepIn K (.ref f21) = true)
    {f22 : Addr} {od22 an22 : Option Addr} {sl22 : Array (Option Value)} {oc22 kV22 dc22 pm22 cd22 ct22 : Value}
    (a22 : PySem.W.nsIn K mainGlobals "_law_parts_right" = some (some (.ref f22))) (l22 : K.lookup f22 = some ⟨oc22, od22, .func (PySem.W.fnOf "_law_parts_right" "_law_parts_right" (defArgs s__law_parts_right) (defBody s__law_parts_right) (defScope s__law_parts_right) .none kV22 dc22 pm22 an22 cd22 ct22), sl22⟩) (c22 : PySem.W.codeIn K cd22 "_law_parts_right" = true) (k22 : PySem.W.keepIn K (.ref f22) = true)
    {f23 : Addr} {od23 an23 : Option Addr} {sl23 : Array (Option Value)} {oc23 kV23 dc23 pm23 cd23 ct23 : Value}
    {pr23 : Addr} {rs23 : List Value} (a23 : PySem.W.findIn K (.ref C_Program) "uses" = some (some (.ref pr23))) (pa23 : PySem.W.specialIn K (.ref pr23) "__get__" = some (some (.builtin "property.__get__"))) (pb23 : PySem.W.takesIn K (.ref pr23) = some true) (pc23 : PySem.W.recIn K pr23 "property" = some (.ref f23 :: rs23))
    (l23 : K.lookup f23 = some ⟨oc23, od23, .func (PySem.W.fnOf "uses" "Program.uses" (defArgs s_Program_uses) (defBody s_Program_uses) (defScope s_Program_uses) .none kV23 dc23 pm23 an23 cd23 ct23), sl23⟩) (c23 : PySem.W.codeIn K cd23 "Program.uses" = true) (k23 : PySem.W.keepIn K (.ref f23) = true)
    {f24 : Addr} {od24 an24 : Option Addr} {sl24 : Array (Option Value)} {oc24 kV24 dc24 pm24 cd24 ct24 : Value}
    (a24 : PySem.W.nsIn K mainGlobals "_law_seen" = some (some (.ref f24))) (l24 : K.lookup f24 = some ⟨oc24, od24, .func (PySem.W.fnOf "_law_seen" "_law_seen" (defArgs s__law_seen) (defBody s__law_seen) (defScope s__law_seen) .none kV24 dc24 pm24 an24 cd24 ct24), sl24⟩) (c24 : PySem.W.codeIn K cd24 "_law_seen" = true) (k24 : PySem.W.keepIn K (.ref f24) = true)
    {f25 : Addr} {od25 an25 : Option Addr} {sl25 : Array (Option Value)} {oc25 kV25 dc25 pm25 cd25 ct25 : Value}
    (a25 : PySem.W.nsIn K mainGlobals "_law_is_path" = some (some (.ref f25))) (l25 : K.lookup f25 = some ⟨oc25, od25, .func (PySem.W.fnOf "_law_is_path" "_law_is_path" (defArgs s__law_is_path) (defBody s__law_is_path) (defScope s__law_is_path) .none kV25 dc25 pm25 an25 cd25 ct25), sl25⟩) (c25 : PySem.W.codeIn K cd25 "_law_is_path" = true) (k25 : PySem.W.keepIn K (.ref f25) = true)
    {f26 : Addr} {od26 an26 : Option Addr} {sl26 : Array (Option Value)} {oc26 kV26 dc26 pm26 cd26 ct26 : Value}
    (a26 : PySem.W.nsIn K mainGlobals "_law_covers" = some (some (.ref f26))) (l26 : K.lookup f26 = some ⟨oc26, od26, .func (PySem.W.fnOf "_law_covers" "_law_covers" (defArgs s__law_covers) (defBody s__law_covers) (defScope s__law_covers) .none kV26 dc26 pm26 an26 cd26 ct26), sl26⟩) (c26 : PySem.W.codeIn K cd26 "_law_covers" = true) (k26 : PySem.W.keepIn K (.ref f26) = true)
    {f27 : Addr} {od27 an27 : Option Addr} {sl27 : Array (Option Value)} {oc27 kV27 dc27 pm27 cd27 ct27 : Value}
    (a27 : PySem.W.nsIn K mainGlobals "_law_overlap" = some (some (.ref f27))) (l27 : K.lookup f27 = some ⟨oc27, od27, .func (PySem.W.fnOf "_law_overlap" "_law_overlap" (defArgs s__law_overlap) (defBody s__law_overlap) (defScope s__law_overlap) .none kV27 dc27 pm27 an27 cd27 ct27), sl27⟩) (c27 : PySem.W.codeIn K cd27 "_law_overlap" = true) (k27 : PySem.W.keepIn K (.ref f27) = true)
    {f28 : Addr} {od28 an28 : Option Addr} {sl28 : Array (Option Value)} {oc28 kV28 dc28 pm28 cd28 ct28 : Value}
    (a28 : PySem.W.nsIn K mainGlobals "_law_error" = some (some (.ref f28))) (l28 : K.lookup f28 = some ⟨oc28, od28, .func (PySem.W.fnOf "_law_error" "_law_error" (defArgs s__law_error) (defBody s__law_error) (defScope s__law_error) .none kV28 dc28 pm28 an28 cd28 ct28), sl28⟩) (c28 : PySem.W.codeIn K cd28 "_law_error" = true) (k28 : PySem.W.keepIn K (.ref f28) = true)
    {f29 : Addr} {od29 an29 : Option Addr} {sl29 : Array (Option Value)} {oc29 kV29 dc29 pm29 cd29 ct29 : Value}
    (a29 : PySem.W.nsIn K mainGlobals "_law_due" = some (some (.ref f29))) (l29 : K.lookup f29 = some ⟨oc29, od29, .func (PySem.W.fnOf "_law_due" "_law_due" (defArgs s__law_due) (defBody s__law_due) (defScope s__law_due) .none kV29 dc29 pm29 an29 cd29 ct29), sl29⟩) (c29 : PySem.W.codeIn K cd29 "_law_due" = true) (k29 : PySem.W.keepIn K (.ref f29) = true)
    {f30 : Addr} {od30 an30 : Option Addr} {sl30 : Array (Option Value)} {oc30 kV30 dc30 pm30 cd30 ct30 : Value}
    (a30 : PySem.W.nsIn K mainGlobals "_law_many" = some (some (.ref f30))) (l30 : K.lookup f30 = some ⟨oc30, od30, .func (PySem.W.fnOf "_law_many" "_law_many" (defArgs s__law_many) (defBody s__law_many) (defScope s__law_many) .none kV30 dc30 pm30 an30 cd30 ct30), sl30⟩) (c30 : PySem.W.codeIn K cd30 "_law_many" = true) (k30 : PySem.W.keepIn K (.ref f30) = true)
    {f31 : Addr} {od31 an31 : Option Addr} {sl31 : Array (Option Value)} {oc31 kV31 dc31 pm31 cd31 ct31 : Value}
    (a31 : PySem.W.nsIn K mainGlobals "_law_path" = some (some (.ref f31))) (l31 : K.lookup f31 = some ⟨oc31, od31, .func (PySem.W.fnOf "_law_path" "_law_path" (defArgs s__law_path) (defBody s__law_path) (defScope s__law_path) .none kV31 dc31 pm31 an31 cd31 ct31), sl31⟩) (c31 : PySem.W.codeIn K cd31 "_law_path" = true) (k31 : PySem.W.keepIn K (.ref f31) = true)
    {f32 : Addr} {od32 an32 : Option Addr} {sl32 : Array (Option Value)} {oc32 kV32 dc32 pm32 cd32 ct32 : Value}
    (a32 : PySem.W.nsIn K mainGlobals "_law_odd" = some (some (.ref f32))) (l32 : K.lookup f32 = some ⟨oc32, od32, .func (PySem.W.fnOf "_law_odd" "_law_odd" (defArgs s__law_odd) (defBody s__law_odd) (defScope s__law_odd) .none kV32 dc32 pm32 an32 cd32 ct32), sl32⟩) (c32 : PySem.W.codeIn K cd32 "_law_odd" = true) (k32 : PySem.W.keepIn K (.ref f32) = true)
    {f33 : Addr} {od33 an33 : Option Addr} {sl33 : Array (Option Value)} {oc33 kV33 dc33 pm33 cd33 ct33 : Value}
    (a33 : PySem.W.nsIn K mainGlobals "_law_pair" = some (some (.ref f33))) (l33 : K.lookup f33 = some ⟨oc33, od33, .func (PySem.W.fnOf "_law_pair" "_law_pair" (defArgs s__law_pair) (defBody s__law_pair) (defScope s__law_pair) .none kV33 dc33 pm33 an33 cd33 ct33), sl33⟩) (c33 : PySem.W.codeIn K cd33 "_law_pair" = true) (k33 : PySem.W.keepIn K (.ref f33) = true)
    {f34 : Addr} {od34 an34 : Option Addr} {sl34 : Array (Option Value)} {oc34 kV34 dc34 pm34 cd34 ct34 : Value}
    (a34 : PySem.W.findIn K (.ref C_Program) "within" = some (some (.ref f34))) (ma34 : PySem.W.isFn K (.ref f34) = true)
    (l34 : K.lookup f34 = some ⟨oc34, od34, .func (PySem.W.fnOf "within" "Program.within" (defArgs s_Program_within) (defBody s_Program_within) (defScope s_Program_within) .none kV34 dc34 pm34 an34 cd34 ct34), sl34⟩) (c34 : PySem.W.codeIn K cd34 "Program.within" = true) (k34 : PySem.W.keepIn K (.ref f34) = true)
    {f35 : Addr} {od35 an35 : Option Addr} {sl35 : Array (Option Value)} {oc35 kV35 dc35 pm35 cd35 ct35 : Value}
    (a35 : PySem.W.nsIn K mainGlobals "_law_deck" = some (some (.ref f35))) (l35 : K.lookup f35 = some ⟨oc35, od35, .func (PySem.W.fnOf "_law_deck" "_law_deck" (defArgs s__law_deck) (defBody s__law_deck) (defScope s__law_deck) .none kV35 dc35 pm35 an35 cd35 ct35), sl35⟩) (c35 : PySem.W.codeIn K cd35 "_law_deck" = true) (k35 : PySem.W.keepIn K (.ref f35) = true)
    {f36 : Addr} {od36 an36 : Option Addr} {sl36 : Array (Option Value)} {oc36 kV36 dc36 pm36 cd36 ct36 : Value}
    (a36 : PySem.W.nsIn K mainGlobals "law" = some (some (.ref f36))) (l36 : K.lookup f36 = some ⟨oc36, od36, .func (PySem.W.fnOf "law" "law" (defArgs s_law) (defBody s_law) (defScope s_law) .none kV36 dc36 pm36 an36 cd36 ct36), sl36⟩) (c36 : PySem.W.codeIn K cd36 "law" = true) (k36 : PySem.W.keepIn K (.ref f36) = true)
    (z_len : PySem.W.nsIn K mainGlobals "len" = some none)
    (z_int : PySem.W.nsIn K mainGlobals "int" = some none)
    (z_range : PySem.W.nsIn K mainGlobals "range" = some none)
    (z_str : PySem.W.nsIn K mainGlobals "str" = some none)
    (z_isinstance : PySem.W.nsIn K mainGlobals "isinstance" = some none)
    (z_tuple : PySem.W.nsIn K mainGlobals "tuple" = some none)
    (z_all : PySem.W.nsIn K mainGlobals "all" = some none)
    (z_enumerate : PySem.W.nsIn K mainGlobals "enumerate" = some none)
    (z_list : PySem.W.nsIn K mainGlobals "list" = some none)
    (z_sorted : PySem.W.nsIn K mainGlobals "sorted" = some none)
    (z_set : PySem.W.nsIn K mainGlobals "set" = some none)
    (z_bool : PySem.W.nsIn K mainGlobals "bool" = some none)
    (z_zip : PySem.W.nsIn K mainGlobals "zip" = some none)
    (z_min : PySem.W.nsIn K mainGlobals "min" = some none)
    (z_abs : PySem.W.nsIn K mainGlobals "abs" = some none)
    (z_repr : PySem.W.nsIn K mainGlobals "repr" = some none)
    {tk_LETTERS : Tok} (y_LETTERS : PySem.W.nsIn K mainGlobals "LETTERS" = some (some (.str "abcdefghijklmnopqrstuvwxyz" tk_LETTERS)))
    {tk_MAX_LETTERS : Tok} (y_MAX_LETTERS : PySem.W.nsIn K mainGlobals "MAX_LETTERS" = some (some (.int 8 tk_MAX_LETTERS)))
    {tk_MAX_NAMES : Tok} (y_MAX_NAMES : PySem.W.nsIn K mainGlobals "MAX_NAMES" = some (some (.int 6 tk_MAX_NAMES)))
    {tk_MAX_MODULES : Tok} (y_MAX_MODULES : PySem.W.nsIn K mainGlobals "MAX_MODULES" = some (some (.int 24 tk_MAX_MODULES)))
    {tk_MAX_USES : Tok} (y_MAX_USES : PySem.W.nsIn K mainGlobals "MAX_USES" = some (some (.int 200 tk_MAX_USES))) :
    ∃ fd : FuncData, (∀ (s : Shared) (v : Value), BindsTo s fd ⟨[v], []⟩ [("_law_script", v)]) ∧ ∀ base : Heap, K.In base → base.Ns mainGlobals mg → FnG l.prog w K mg base 12 fa fd ["_law_script"] (spLaw K) := by
  have e := hfa.symm.trans (PySem.W.mg_of X G a36)
  cases e
  have m_len := PySem.W.mg_none_of X G z_len
  have m_int := PySem.W.mg_none_of X G z_int
  have m_range := PySem.W.mg_none_of X G z_range
  have m_str := PySem.W.mg_none_of X G z_str
  have m_isinstance := PySem.W.mg_none_of X G z_isinstance
  have m_tuple := PySem.W.mg_none_of X G z_tuple
  have m_all := PySem.W.mg_none_of X G z_all
  have m_enumerate := PySem.W.mg_none_of X G z_enumerate
  have m_list := PySem.W.mg_none_of X G z_list
  have m_sorted := PySem.W.mg_none_of X G z_sorted
  have m_set := PySem.W.mg_none_of X G z_set
  have m_bool := PySem.W.mg_none_of X G z_bool
  have m_zip := PySem.W.mg_none_of X G z_zip
  have m_min := PySem.W.mg_none_of X G z_min
  have m_abs := PySem.W.mg_none_of X G z_abs
  have m_repr := PySem.W.mg_none_of X G z_repr
  have g_LETTERS : ∃ t, mg "LETTERS" = some (.str "abcdefghijklmnopqrstuvwxyz" t) := ⟨_, PySem.W.mg_of X G y_LETTERS⟩
  have g_MAX_LETTERS : ∃ t, mg "MAX_LETTERS" = some (.int 8 t) := ⟨_, PySem.W.mg_of X G y_MAX_LETTERS⟩
  have g_MAX_NAMES : ∃ t, mg "MAX_NAMES" = some (.int 6 t) := ⟨_, PySem.W.mg_of X G y_MAX_NAMES⟩
  have g_MAX_MODULES : ∃ t, mg "MAX_MODULES" = some (.int 24 t) := ⟨_, PySem.W.mg_of X G y_MAX_MODULES⟩
  have g_MAX_USES : ∃ t, mg "MAX_USES" = some (.int 200 t) := ⟨_, PySem.W.mg_of X G y_MAX_USES⟩
  have k_Program : KC K "Program" C_Program := ⟨kc0_Program, ⟨kc1_Program, kc2_Program, kc3_Program, kc4_Program⟩⟩
  have mg_Program : mg "Program" = some (.ref C_Program) := PySem.W.mg_of X G kc0_Program
  have o_Program : KO K "Program" C_Program := ⟨k_Program, ⟨ko0_Program, ko1_Program, ko2_Program, ko3_Program⟩, ko4_Program, ko5_Program⟩
  have mg_BadProgram : mg "BadProgram" = some (.ref C_BadProgram) := PySem.W.mg_of X G xc0_BadProgram
  have mg_BadUse : mg "BadUse" = some (.ref C_BadUse) := PySem.W.mg_of X G xc0_BadUse
  have mg_Clash : mg "Clash" = some (.ref C_Clash) := PySem.W.mg_of X G xc0_Clash
  have mg_RestError : mg "RestError" = some (.ref C_RestError) := PySem.W.mg_of X G xc0_RestError
  have kx_BadProgram : KX K "BadProgram" C_BadProgram := ⟨xc0_BadProgram, ⟨xf0_BadProgram, xf1_BadProgram, xf2_BadProgram, xf3_BadProgram⟩, xh0_BadProgram, xh1_BadProgram, xh2_BadProgram, xh3_BadProgram⟩
  have kx_BadUse : KX K "BadUse" C_BadUse := ⟨xc0_BadUse, ⟨xf0_BadUse, xf1_BadUse, xf2_BadUse, xf3_BadUse⟩, xh0_BadUse, xh1_BadUse, xh2_BadUse, xh3_BadUse⟩
  have isx_BadUse_Clash : IsX K [C_BadUse, C_Clash] (tblX [("BadProgram", false), ("BadUse", true)]) := (isx_cons kx_BadProgram xj_isx_BadUse_Clash_BadProgram (isx_cons kx_BadUse xj_isx_BadUse_Clash_BadUse (isx_nil xj_isx_BadUse_Clash)))
  have isx_BadProgram : IsX K [C_BadProgram] (tblX [("BadProgram", true), ("BadUse", false)]) := (isx_cons kx_BadProgram xj_isx_BadProgram_BadProgram (isx_cons kx_BadUse xj_isx_BadProgram_BadUse (isx_nil xj_isx_BadProgram)))
  have isx_BadProgram_Clash : IsX K [C_BadProgram, C_Clash] (tblX [("BadProgram", true), ("BadUse", false)]) := (isx_cons kx_BadProgram xj_isx_BadProgram_Clash_BadProgram (isx_cons kx_BadUse xj_isx_BadProgram_Clash_BadUse (isx_nil xj_isx_BadProgram_Clash)))
  have isx_BadUse : IsX K [C_BadUse] (tblX [("BadProgram", false), ("BadUse", true)]) := (isx_cons kx_BadProgram xj_isx_BadUse_BadProgram (isx_cons kx_BadUse xj_isx_BadUse_BadUse (isx_nil xj_isx_BadUse)))
  have cat_RestError : Cat K (.ref C_RestError) (tblX [("BadProgram", true), ("BadUse", true)]) := (cat_cons xc0_BadProgram xm_RestError_BadProgram (cat_cons xc0_BadUse xm_RestError_BadUse cat_nil))
  have n_Program_heads : NoAttr K C_Program "heads" := kn_n_Program_heads
  have n_Program_links : NoAttr K C_Program "links" := kn_n_Program_links
  have n_Program_places : NoAttr K C_Program "places" := kn_n_Program_places
  have n_BadProgram_error : NoAttr K C_BadProgram "error" := kn_n_BadProgram_error
  have n_BadUse_index : NoAttr K C_BadUse "index" := kn_n_BadUse_index
  refine ⟨PySem.W.fnOf "law" "law" (defArgs s_law) (defBody s_law) (defScope s_law) .none kV36 dc36 pm36 an36 cd36 ct36, fun s v => .of_eq rfl, fun base _ _ => ?_⟩
  have x_BadProgram := ok_x_BadProgram (P := l.prog) (w := w) (mg := mg) (base := base) ⟨⟨_, _, _, _, _, _, _, _, _, _, _, _, _, _, _, xl_BadProgram, xr_BadProgram⟩, xs0_BadProgram, xs1_BadProgram, xs2_BadProgram, xs3_BadProgram⟩ xs4_BadProgram (fun_mk lx_BadProgram cx_BadProgram kx0_BadProgram) xi_BadProgram xt_BadProgram xc0_BadProgram mg_BadProgram
  have x_BadUse := ok_x_BadUse (P := l.prog) (w := w) (mg := mg) (base := base) ⟨⟨_, _, _, _, _, _, _, _, _, _, _, _, _, _, _, xl_BadUse, xr_BadUse⟩, xs0_BadUse, xs1_BadUse, xs2_BadUse, xs3_BadUse⟩ xs4_BadUse (fun_mk lx_BadUse cx_BadUse kx0_BadUse) xi_BadUse xt_BadUse xc0_BadUse mg_BadUse
  have d__law_next : Df K mg "_law_next" s__law_next := ⟨_, _, fun_mk l0 c0 k0, PySem.W.mg_of X G a0⟩
  have d__law_name : Df K mg "_law_name" s__law_name := ⟨_, _, fun_mk l1 c1 k1, PySem.W.mg_of X G a1⟩
  have d__law_pool : Df K mg "_law_pool" s__law_pool := ⟨_, _, fun_mk l2 c2 k2, PySem.W.mg_of X G a2⟩
  have d_is_pair : Df K mg "is_pair" s_is_pair := ⟨_, _, fun_mk l3 c3 k3, PySem.W.mg_of X G a3⟩
  have d_is_name : Df K mg "is_name" s_is_name := ⟨_, _, fun_mk l4 c4 k4, PySem.W.mg_of X G a4⟩
  have d_is_path : Df K mg "is_path" s_is_path := ⟨_, _, fun_mk l5 c5 k5, PySem.W.mg_of X G a5⟩
  have d_covers : Df K mg "covers" s_covers := ⟨_, _, fun_mk l6 c6 k6, PySem.W.mg_of X G a6⟩
  have d_overlap : Df K mg "overlap" s_overlap := ⟨_, _, fun_mk l7 c7 k7, PySem.W.mg_of X G a7⟩
  have d_first_overlap : Df K mg "first_overlap" s_first_overlap := ⟨_, _, fun_mk l8 c8 k8, PySem.W.mg_of X G a8⟩
  have d_modules_error : Df K mg "modules_error" s_modules_error := ⟨_, _, fun_mk l9 c9 k9, PySem.W.mg_of X G a9⟩
  have d_uses_error : Df K mg "uses_error" s_uses_error := ⟨_, _, fun_mk l10 c10 k10, PySem.W.mg_of X G a10⟩
  have d_program_error : Df K mg "program_error" s_program_error := ⟨_, _, fun_mk l11 c11 k11, PySem.W.mg_of X G a11⟩
  have d__law_is_use : Df K mg "_law_is_use" s__law_is_use := ⟨_, _, fun_mk l12 c12 k12, PySem.W.mg_of X G a12⟩
  have d_parts_of : Df K mg "parts_of" s_parts_of := ⟨_, _, fun_mk l13 c13 k13, PySem.W.mg_of X G a13⟩
  have d__law_of : Df K mg "_law_of" s__law_of := ⟨_, _, fun_mk l16 c16 k16, PySem.W.mg_of X G a16⟩
  have d__law_beginnings : Df K mg "_law_beginnings" s__law_beginnings := ⟨_, _, fun_mk l18 c18 k18, PySem.W.mg_of X G a18⟩
  have d__law_same : Df K mg "_law_same" s__law_same := ⟨_, _, fun_mk l19 c19 k19, PySem.W.mg_of X G a19⟩
  have d__law_parts_right : Df K mg "_law_parts_right" s__law_parts_right := ⟨_, _, fun_mk l22 c22 k22, PySem.W.mg_of X G a22⟩
  have d__law_seen : Df K mg "_law_seen" s__law_seen := ⟨_, _, fun_mk l24 c24 k24, PySem.W.mg_of X G a24⟩
  have d__law_is_path : Df K mg "_law_is_path" s__law_is_path := ⟨_, _, fun_mk l25 c25 k25, PySem.W.mg_of X G a25⟩
  have d__law_covers : Df K mg "_law_covers" s__law_covers := ⟨_, _, fun_mk l26 c26 k26, PySem.W.mg_of X G a26⟩
  have d__law_overlap : Df K mg "_law_overlap" s__law_overlap := ⟨_, _, fun_mk l27 c27 k27, PySem.W.mg_of X G a27⟩
  have d__law_error : Df K mg "_law_error" s__law_error := ⟨_, _, fun_mk l28 c28 k28, PySem.W.mg_of X G a28⟩
  have d__law_due : Df K mg "_law_due" s__law_due := ⟨_, _, fun_mk l29 c29 k29, PySem.W.mg_of X G a29⟩
  have d__law_many : Df K mg "_law_many" s__law_many := ⟨_, _, fun_mk l30 c30 k30, PySem.W.mg_of X G a30⟩
  have d__law_path : Df K mg "_law_path" s__law_path := ⟨_, _, fun_mk l31 c31 k31, PySem.W.mg_of X G a31⟩
  have d__law_odd : Df K mg "_law_odd" s__law_odd := ⟨_, _, fun_mk l32 c32 k32, PySem.W.mg_of X G a32⟩
  have d__law_pair : Df K mg "_law_pair" s__law_pair := ⟨_, _, fun_mk l33 c33 k33, PySem.W.mg_of X G a33⟩
  have d__law_deck : Df K mg "_law_deck" s__law_deck := ⟨_, _, fun_mk l35 c35 k35, PySem.W.mg_of X G a35⟩
  have c__law_next := ok__law_next (P := l.prog) (w := w) (mg := mg) (base := base) d__law_next m_len m_int
  have c__law_name := ok__law_name (P := l.prog) (w := w) (mg := mg) (base := base) d__law_name m_range c__law_next
  have c__law_pool := ok__law_pool (P := l.prog) (w := w) (mg := mg) (base := base) d__law_pool m_len m_range c__law_next c__law_name
  have c_is_pair := ok_is_pair (P := l.prog) (w := w) (mg := mg) (base := base) d_is_pair m_str m_isinstance m_len m_tuple o_Program
  have c_is_name := ok_is_name (P := l.prog) (w := w) (mg := mg) (base := base) d_is_name m_all m_len m_str m_isinstance g_LETTERS g_MAX_LETTERS
  have c_is_path := ok_is_path (P := l.prog) (w := w) (mg := mg) (base := base) d_is_path m_all m_len m_str m_isinstance g_MAX_NAMES c_is_name
  have c_covers := ok_covers (P := l.prog) (w := w) (mg := mg) (base := base) d_covers 
  have c_overlap := ok_overlap (P := l.prog) (w := w) (mg := mg) (base := base) d_overlap c_covers
  have c_first_overlap := ok_first_overlap (P := l.prog) (w := w) (mg := mg) (base := base) d_first_overlap c_overlap
  have c_modules_error := ok_modules_error (P := l.prog) (w := w) (mg := mg) (base := base) d_modules_error m_enumerate m_len m_tuple m_isinstance g_MAX_MODULES c_first_overlap c_is_path
  have c_uses_error := ok_uses_error (P := l.prog) (w := w) (mg := mg) (base := base) d_uses_error m_enumerate m_len m_tuple m_isinstance g_MAX_USES c_is_pair
  have c_program_error := ok_program_error (P := l.prog) (w := w) (mg := mg) (base := base) d_program_error c_uses_error c_modules_error
  have c__law_is_use := ok__law_is_use (P := l.prog) (w := w) (mg := mg) (base := base) d__law_is_use m_str m_isinstance m_list m_len m_tuple
  have c_parts_of := ok_parts_of (P := l.prog) (w := w) (mg := mg) (base := base) d_parts_of m_sorted m_tuple m_range m_len
  have c_Program___init__ := ok_Program___init__ (P := l.prog) (w := w) (mg := mg) (base := base) m_sorted m_tuple k_Program n_Program_heads n_Program_links n_Program_places x_BadProgram c_parts_of c_program_error (PySem.W.mg_of X G kc0_Program) ⟨_, _, fun_mk l14 c14 k14, ⟨mb14, a14, ma14, mc14⟩⟩
  have c_Program_of := ok_Program_of (P := l.prog) (w := w) (mg := mg) (base := base) m_sorted m_tuple m_enumerate k_Program x_BadUse c_Program___init__ c_is_path c_is_pair (PySem.W.mg_of X G kc0_Program) ⟨_, _, _, _, fun_mk l15 c15 k15, ⟨ra15, rb15⟩, ⟨a15, ⟨_, pc15⟩, fi15⟩⟩
  have c__law_of := ok__law_of (P := l.prog) (w := w) (mg := mg) (base := base) d__law_of m_len c_Program_of
  have c_Program___contains__ := ok_Program___contains__ (P := l.prog) (w := w) (mg := mg) (base := base) m_str m_isinstance k_Program n_Program_links o_Program n_Program_heads c_is_pair ⟨_, _, fun_mk l17 c17 k17, ⟨a17, ma17, k17⟩⟩
  have c__law_beginnings := ok__law_beginnings (P := l.prog) (w := w) (mg := mg) (base := base) d__law_beginnings m_sorted m_set m_tuple m_range m_len
  have c__law_same := ok__law_same (P := l.prog) (w := w) (mg := mg) (base := base) d__law_same m_int m_isinstance m_bool m_str m_list m_tuple m_zip m_all m_len
  have c_Program_parts := ok_Program_parts (P := l.prog) (w := w) (mg := mg) (base := base) k_Program n_Program_heads ⟨_, _, _, fun_mk l20 c20 k20, ⟨a20, pa20, pb20, _, pc20⟩⟩
  have c_Program_modules := ok_Program_modules (P := l.prog) (w := w) (mg := mg) (base := base) k_Program n_Program_places ⟨_, _, _, fun_mk l21 c21 k21, ⟨a21, pa21, pb21, _, pc21⟩⟩
  have c__law_parts_right := ok__law_parts_right (P := l.prog) (w := w) (mg := mg) (base := base) d__law_parts_right c__law_beginnings c_Program___contains__ c__law_same c_Program_parts c_Program_modules
  have c_Program_uses := ok_Program_uses (P := l.prog) (w := w) (mg := mg) (base := base) k_Program n_Program_links ⟨_, _, _, fun_mk l23 c23 k23, ⟨a23, pa23, pb23, _, pc23⟩⟩
  have c__law_seen := ok__law_seen (P := l.prog) (w := w) (mg := mg) (base := base) d__law_seen m_isinstance mg_BadUse mg_Clash isx_BadUse_Clash mg_BadProgram isx_BadProgram kx_BadProgram n_BadProgram_error isx_BadProgram_Clash isx_BadUse kx_BadUse n_BadUse_index mg_RestError cat_RestError c__law_parts_right c_Program_modules c_Program_uses c__law_of
  have c__law_is_path := ok__law_is_path (P := l.prog) (w := w) (mg := mg) (base := base) d__law_is_path m_len m_str m_isinstance
  have c__law_covers := ok__law_covers (P := l.prog) (w := w) (mg := mg) (base := base) d__law_covers m_len
  have c__law_overlap := ok__law_overlap (P := l.prog) (w := w) (mg := mg) (base := base) d__law_overlap c__law_covers
  have c__law_error := ok__law_error (P := l.prog) (w := w) (mg := mg) (base := base) d__law_error m_enumerate m_len m_tuple m_isinstance c__law_is_use c__law_overlap c__law_is_path
  have c__law_due := ok__law_due (P := l.prog) (w := w) (mg := mg) (base := base) d__law_due m_sorted m_tuple m_set m_enumerate m_list m_len m_isinstance c__law_error c__law_is_path
  have c__law_many := ok__law_many (P := l.prog) (w := w) (mg := mg) (base := base) d__law_many m_range c__law_next c__law_name
  have c__law_path := ok__law_path (P := l.prog) (w := w) (mg := mg) (base := base) d__law_path m_range m_len m_min c__law_next
  have c__law_odd := ok__law_odd (P := l.prog) (w := w) (mg := mg) (base := base) d__law_odd m_len c__law_next
  have c__law_pair := ok__law_pair (P := l.prog) (w := w) (mg := mg) (base := base) d__law_pair c__law_odd c__law_next c__law_path
  have c_Program_within := ok_Program_within (P := l.prog) (w := w) (mg := mg) (base := base) m_tuple k_Program n_Program_places c_covers ⟨_, _, fun_mk l34 c34 k34, ⟨a34, ma34, k34⟩⟩
  have c__law_deck := ok__law_deck (P := l.prog) (w := w) (mg := mg) (base := base) d__law_deck m_len m_abs
  exact ok_law (fun_mk l36 c36 k36) c__law_deck m_tuple m_isinstance m_list m_repr m_range m_len c__law_path c__law_same c__law_covers c_Program_within c__law_of c__law_seen c__law_due c__law_many c__law_next c__law_pair c__law_pool
set_option maxHeartbeats 0
def exs0 : List FrB := [fun K => decide (PySem.W.nsIn K mainGlobals "Program" = some (some (.ref (He.ga K "Program")))),
  fun K => PySem.W.plainGet K (He.ga K "Program") Str.empty,
  fun K => PySem.W.hasDictIn K (He.ga K "Program"),
  fun K => PySem.W.plainOver K (He.ga K "Program"),
  fun K => decide (PySem.W.findIn K (.ref (He.ga K "Program")) "__setattr__" = some (some (.builtin "object.__setattr__"))),
  fun K => decide (PySem.W.findIn K (.ref (He.ga K "Program")) "__class__" = some (some (.builtin "object.__class__"))),
  fun K => decide (PySem.W.specialIn K (.builtin "object.__class__") "__get__" = some (some (.builtin "getset_descriptor.__get__"))),
  fun K => decide (PySem.W.takesIn K (.builtin "object.__class__") = some true),
  fun K => decide (PySem.W.mroIn K (He.ga K "Program") (.type "object") = some true),
  fun K => decide (PySem.W.subIn K (.ref (He.ga K "Program")) (.type "tuple") = some false),
  fun K => decide (PySem.W.subIn K (.ref (He.ga K "Program")) (.type "str") = some false),
  fun K => decide (PySem.W.nsIn K mainGlobals "BadProgram" = some (some (.ref (He.ga K "BadProgram"))))]
def exs1 : List FrB := [fun K => decide (PySem.W.nsIn K mainGlobals "BadUse" = some (some (.ref (He.ga K "BadUse")))),
  fun K => decide (PySem.W.nsIn K mainGlobals "Clash" = some (some (.ref (He.ga K "Clash")))),
  fun K => decide (PySem.W.nsIn K mainGlobals "RestError" = some (some (.ref (He.ga K "RestError")))),
  fun K => decide (PySem.W.findIn K (.ref (He.ga K "BadProgram")) "__getattribute__" = some (some (.builtin "BaseException.__getattribute__"))),
  fun K => decide (PySem.W.findIn K (.ref (He.ga K "BadProgram")) "__getattr__" = some none),
  fun K => decide (PySem.W.subIn K (.ref (He.ga K "BadProgram")) (.type "BaseException") = some true),
  fun K => PySem.W.hasDictIn K (He.ga K "BadProgram"),
  fun K => decide (PySem.W.findIn K (.ref (He.ga K "BadProgram")) "__class__" = some (some (.builtin "object.__class__"))),
  fun K => decide (PySem.W.specialIn K (.builtin "object.__class__") "__get__" = some (some (.builtin "getset_descriptor.__get__"))),
  fun K => decide (PySem.W.takesIn K (.builtin "object.__class__") = some true),
  fun K => decide (PySem.W.mroIn K (He.ga K "BadProgram") (.type "object") = some true),
  fun K => decide (PySem.W.findIn K (.ref (He.ga K "BadUse")) "__getattribute__" = some (some (.builtin "BaseException.__getattribute__")))]
def exs2 : List FrB := [fun K => decide (PySem.W.findIn K (.ref (He.ga K "BadUse")) "__getattr__" = some none),
  fun K => decide (PySem.W.subIn K (.ref (He.ga K "BadUse")) (.type "BaseException") = some true),
  fun K => PySem.W.hasDictIn K (He.ga K "BadUse"),
  fun K => decide (PySem.W.findIn K (.ref (He.ga K "BadUse")) "__class__" = some (some (.builtin "object.__class__"))),
  fun K => decide (PySem.W.specialIn K (.builtin "object.__class__") "__get__" = some (some (.builtin "getset_descriptor.__get__"))),
  fun K => decide (PySem.W.takesIn K (.builtin "object.__class__") = some true),
  fun K => decide (PySem.W.mroIn K (He.ga K "BadUse") (.type "object") = some true),
  fun K => decide (PySem.W.kitAny K (.type "NoneType") [.ref (He.ga K "BadUse"), .ref (He.ga K "Clash")] = some false),
  fun K => decide (PySem.W.kitAny K (.ref (He.ga K "BadUse")) [.ref (He.ga K "BadUse"), .ref (He.ga K "Clash")] = some true),
  fun K => decide (PySem.W.kitAny K (.ref (He.ga K "BadProgram")) [.ref (He.ga K "BadUse"), .ref (He.ga K "Clash")] = some false),
  fun K => decide (PySem.W.kitAny K (.type "NoneType") [.ref (He.ga K "BadProgram")] = some false),
  fun K => decide (PySem.W.kitAny K (.ref (He.ga K "BadUse")) [.ref (He.ga K "BadProgram")] = some false)]
def exs3 : List FrB := [fun K => decide (PySem.W.kitAny K (.ref (He.ga K "BadProgram")) [.ref (He.ga K "BadProgram")] = some true),
  fun K => decide (PySem.W.kitAny K (.type "NoneType") [.ref (He.ga K "BadProgram"), .ref (He.ga K "Clash")] = some false),
  fun K => decide (PySem.W.kitAny K (.ref (He.ga K "BadUse")) [.ref (He.ga K "BadProgram"), .ref (He.ga K "Clash")] = some false),
  fun K => decide (PySem.W.kitAny K (.ref (He.ga K "BadProgram")) [.ref (He.ga K "BadProgram"), .ref (He.ga K "Clash")] = some true),
  fun K => decide (PySem.W.kitAny K (.type "NoneType") [.ref (He.ga K "BadUse")] = some false),
  fun K => decide (PySem.W.kitAny K (.ref (He.ga K "BadUse")) [.ref (He.ga K "BadUse")] = some true),
  fun K => decide (PySem.W.kitAny K (.ref (He.ga K "BadProgram")) [.ref (He.ga K "BadUse")] = some false),
  fun K => decide (PySem.W.exmOne K (.ref (He.ga K "BadUse")) (.ref (He.ga K "RestError")) = some true),
  fun K => decide (PySem.W.exmOne K (.ref (He.ga K "BadProgram")) (.ref (He.ga K "RestError")) = some true),
  fun K => decide (PySem.W.findIn K (.ref (He.ga K "Program")) "heads" = some none),
  fun K => decide (PySem.W.findIn K (.ref (He.ga K "Program")) "links" = some none),
  fun K => decide (PySem.W.findIn K (.ref (He.ga K "Program")) "places" = some none)]
def exs4 : List FrB := [fun K => decide (PySem.W.findIn K (.ref (He.ga K "BadProgram")) "error" = some none),
  fun K => decide (PySem.W.findIn K (.ref (He.ga K "BadUse")) "index" = some none),
  fun K => decide (PySem.W.findIn K (.ref (He.ga K "BadProgram")) "__setattr__" = some (some (.builtin "object.__setattr__"))),
  fun K => decide (PySem.W.subIn K (.ref (He.ga K "BadProgram")) (.type "BaseException") = some true),
  fun K => decide (PySem.W.typeIn K (.ref (He.ga K "BadProgram")) = some (.type "type")),
  fun K => PySem.W.keepIn K (.ref (He.ga K "BadProgram")),
  fun K => decide (PySem.W.findIn K (.ref (He.ga K "BadProgram")) "error" = some none),
  fun K => decide (PySem.W.findIn K (.ref (He.ga K "BadProgram")) "__init__" = some (some (.ref (He.ma K (He.ga K "BadProgram") "__init__")))),
  fun K => decide (PySem.W.typeIn K (.ref (He.ma K (He.ga K "BadProgram") "__init__")) = some (.type "function")),
  fun K => decide (PySem.W.findIn K (.ref (He.ga K "BadUse")) "__setattr__" = some (some (.builtin "object.__setattr__"))),
  fun K => decide (PySem.W.subIn K (.ref (He.ga K "BadUse")) (.type "BaseException") = some true),
  fun K => decide (PySem.W.typeIn K (.ref (He.ga K "BadUse")) = some (.type "type"))]
def exs5 : List FrB := [fun K => PySem.W.keepIn K (.ref (He.ga K "BadUse")),
  fun K => decide (PySem.W.findIn K (.ref (He.ga K "BadUse")) "index" = some none),
  fun K => decide (PySem.W.findIn K (.ref (He.ga K "BadUse")) "__init__" = some (some (.ref (He.ma K (He.ga K "BadUse") "__init__")))),
  fun K => decide (PySem.W.typeIn K (.ref (He.ma K (He.ga K "BadUse") "__init__")) = some (.type "function")),
  fun K => decide (PySem.W.nsIn K mainGlobals "_law_next" = some (some (.ref (He.ga K "_law_next")))),
  fun K => decide (PySem.W.nsIn K mainGlobals "_law_name" = some (some (.ref (He.ga K "_law_name")))),
  fun K => decide (PySem.W.nsIn K mainGlobals "_law_pool" = some (some (.ref (He.ga K "_law_pool")))),
  fun K => decide (PySem.W.nsIn K mainGlobals "is_pair" = some (some (.ref (He.ga K "is_pair")))),
  fun K => decide (PySem.W.nsIn K mainGlobals "is_name" = some (some (.ref (He.ga K "is_name")))),
  fun K => decide (PySem.W.nsIn K mainGlobals "is_path" = some (some (.ref (He.ga K "is_path")))),
  fun K => decide (PySem.W.nsIn K mainGlobals "covers" = some (some (.ref (He.ga K "covers")))),
  fun K => decide (PySem.W.nsIn K mainGlobals "overlap" = some (some (.ref (He.ga K "overlap"))))]
def exs6 : List FrB := [fun K => decide (PySem.W.nsIn K mainGlobals "first_overlap" = some (some (.ref (He.ga K "first_overlap")))),
  fun K => decide (PySem.W.nsIn K mainGlobals "modules_error" = some (some (.ref (He.ga K "modules_error")))),
  fun K => decide (PySem.W.nsIn K mainGlobals "uses_error" = some (some (.ref (He.ga K "uses_error")))),
  fun K => decide (PySem.W.nsIn K mainGlobals "program_error" = some (some (.ref (He.ga K "program_error")))),
  fun K => decide (PySem.W.nsIn K mainGlobals "_law_is_use" = some (some (.ref (He.ga K "_law_is_use")))),
  fun K => decide (PySem.W.nsIn K mainGlobals "parts_of" = some (some (.ref (He.ga K "parts_of")))),
  fun K => decide (PySem.W.findIn K (.ref (He.ga K "Program")) "__init__" = some (some (.ref (He.ma K (He.ga K "Program") "__init__")))),
  fun K => PySem.W.isFn K (.ref (He.ma K (He.ga K "Program") "__init__")),
  fun K => PySem.W.makesIn K (He.ga K "Program"),
  fun K => PySem.W.keepIn K (.ref (He.ga K "Program")),
  fun K => PySem.W.readsIn K (He.ga K "Program") (.type "type"),
  fun K => decide (PySem.W.specialIn K (.ref (He.ga K "Program")) "__getattribute__" = some (some (.builtin "type.__getattribute__")))]
def exs7 : List FrB := [fun K => (match PySem.W.findCls K (.ref (He.ga K "Program")) (.type "type") "of" with | some (.get (.builtin b) (.ref p) .none (.ref C)) => decide (b = "classmethod.__get__") && (decide (p = (He.ma K (He.ga K "Program") "of")) && decide (C = (He.ga K "Program"))) | _ => false),
  fun K => decide (PySem.W.recIn K (He.ma K (He.ga K "Program") "of") "classmethod" = some (.ref (rcA K (He.ma K (He.ga K "Program") "of") "classmethod") :: (rcR K (He.ma K (He.ga K "Program") "of") "classmethod"))),
  fun K => PySem.W.fnIn K (rcA K (He.ma K (He.ga K "Program") "of") "classmethod"),
  fun K => decide (PySem.W.nsIn K mainGlobals "_law_of" = some (some (.ref (He.ga K "_law_of")))),
  fun K => decide (PySem.W.findIn K (.ref (He.ga K "Program")) "__contains__" = some (some (.ref (He.ma K (He.ga K "Program") "__contains__")))),
  fun K => PySem.W.isFn K (.ref (He.ma K (He.ga K "Program") "__contains__")),
  fun K => decide (PySem.W.nsIn K mainGlobals "_law_beginnings" = some (some (.ref (He.ga K "_law_beginnings")))),
  fun K => decide (PySem.W.nsIn K mainGlobals "_law_same" = some (some (.ref (He.ga K "_law_same")))),
  fun K => decide (PySem.W.findIn K (.ref (He.ga K "Program")) "parts" = some (some (.ref (He.ma K (He.ga K "Program") "parts")))),
  fun K => decide (PySem.W.specialIn K (.ref (He.ma K (He.ga K "Program") "parts")) "__get__" = some (some (.builtin "property.__get__"))),
  fun K => decide (PySem.W.takesIn K (.ref (He.ma K (He.ga K "Program") "parts")) = some true),
  fun K => decide (PySem.W.recIn K (He.ma K (He.ga K "Program") "parts") "property" = some (.ref (rcA K (He.ma K (He.ga K "Program") "parts") "property") :: (rcR K (He.ma K (He.ga K "Program") "parts") "property")))]
def exs8 : List FrB := [fun K => decide (PySem.W.findIn K (.ref (He.ga K "Program")) "modules" = some (some (.ref (He.ma K (He.ga K "Program") "modules")))),
  fun K => decide (PySem.W.specialIn K (.ref (He.ma K (He.ga K "Program") "modules")) "__get__" = some (some (.builtin "property.__get__"))),
  fun K => decide (PySem.W.takesIn K (.ref (He.ma K (He.ga K "Program") "modules")) = some true),
  fun K => decide (PySem.W.recIn K (He.ma K (He.ga K "Program") "modules") "property" = some (.ref (rcA K (He.ma K (He.ga K "Program") "modules") "property") :: (rcR K (He.ma K (He.ga K "Program") "modules") "property"))),
  fun K => decide (PySem.W.nsIn K mainGlobals "_law_parts_right" = some (some (.ref (He.ga K "_law_parts_right")))),
  fun K => decide (PySem.W.findIn K (.ref (He.ga K "Program")) "uses" = some (some (.ref (He.ma K (He.ga K "Program") "uses")))),
  fun K => decide (PySem.W.specialIn K (.ref (He.ma K (He.ga K "Program") "uses")) "__get__" = some (some (.builtin "property.__get__"))),
  fun K => decide (PySem.W.takesIn K (.ref (He.ma K (He.ga K "Program") "uses")) = some true),
  fun K => decide (PySem.W.recIn K (He.ma K (He.ga K "Program") "uses") "property" = some (.ref (rcA K (He.ma K (He.ga K "Program") "uses") "property") :: (rcR K (He.ma K (He.ga K "Program") "uses") "property"))),
  fun K => decide (PySem.W.nsIn K mainGlobals "_law_seen" = some (some (.ref (He.ga K "_law_seen")))),
  fun K => decide (PySem.W.nsIn K mainGlobals "_law_is_path" = some (some (.ref (He.ga K "_law_is_path")))),
  fun K => decide (PySem.W.nsIn K mainGlobals "_law_covers" = some (some (.ref (He.ga K "_law_covers"))))]
def exs9 : List FrB := [fun K => decide (PySem.W.nsIn K mainGlobals "_law_overlap" = some (some (.ref (He.ga K "_law_overlap")))),
  fun K => decide (PySem.W.nsIn K mainGlobals "_law_error" = some (some (.ref (He.ga K "_law_error")))),
  fun K => decide (PySem.W.nsIn K mainGlobals "_law_due" = some (some (.ref (He.ga K "_law_due")))),
  fun K => decide (PySem.W.nsIn K mainGlobals "_law_many" = some (some (.ref (He.ga K "_law_many")))),
  fun K => decide (PySem.W.nsIn K mainGlobals "_law_path" = some (some (.ref (He.ga K "_law_path")))),
  fun K => decide (PySem.W.nsIn K mainGlobals "_law_odd" = some (some (.ref (He.ga K "_law_odd")))),
  fun K => decide (PySem.W.nsIn K mainGlobals "_law_pair" = some (some (.ref (He.ga K "_law_pair")))),
  fun K => decide (PySem.W.findIn K (.ref (He.ga K "Program")) "within" = some (some (.ref (He.ma K (He.ga K "Program") "within")))),
  fun K => PySem.W.isFn K (.ref (He.ma K (He.ga K "Program") "within")),
  fun K => decide (PySem.W.nsIn K mainGlobals "_law_deck" = some (some (.ref (He.ga K "_law_deck")))),
  fun K => decide (PySem.W.nsIn K mainGlobals "law" = some (some (.ref (He.ga K "law")))),
  fun K => decide (PySem.W.nsIn K mainGlobals "len" = some none)]
def exs10 : List FrB := [fun K => decide (PySem.W.nsIn K mainGlobals "int" = some none),
  fun K => decide (PySem.W.nsIn K mainGlobals "range" = some none),
  fun K => decide (PySem.W.nsIn K mainGlobals "str" = some none),
  fun K => decide (PySem.W.nsIn K mainGlobals "isinstance" = some none),
  fun K => decide (PySem.W.nsIn K mainGlobals "tuple" = some none),
  fun K => decide (PySem.W.nsIn K mainGlobals "all" = some none),
  fun K => decide (PySem.W.nsIn K mainGlobals "enumerate" = some none),
  fun K => decide (PySem.W.nsIn K mainGlobals "list" = some none),
  fun K => decide (PySem.W.nsIn K mainGlobals "sorted" = some none),
  fun K => decide (PySem.W.nsIn K mainGlobals "set" = some none),
  fun K => decide (PySem.W.nsIn K mainGlobals "bool" = some none),
  fun K => decide (PySem.W.nsIn K mainGlobals "zip" = some none)]
def exs11 : List FrB := [fun K => decide (PySem.W.nsIn K mainGlobals "min" = some none),
  fun K => decide (PySem.W.nsIn K mainGlobals "abs" = some none),
  fun K => decide (PySem.W.nsIn K mainGlobals "repr" = some none),
  fun K => decide (PySem.W.nsIn K mainGlobals "LETTERS" = some (some (.str "abcdefghijklmnopqrstuvwxyz" (tkOf K "LETTERS")))),
  fun K => decide (PySem.W.nsIn K mainGlobals "MAX_LETTERS" = some (some (.int 8 (tkOf K "MAX_LETTERS")))),
  fun K => decide (PySem.W.nsIn K mainGlobals "MAX_NAMES" = some (some (.int 6 (tkOf K "MAX_NAMES")))),
  fun K => decide (PySem.W.nsIn K mainGlobals "MAX_MODULES" = some (some (.int 24 (tkOf K "MAX_MODULES")))),
  fun K => decide (PySem.W.nsIn K mainGlobals "MAX_USES" = some (some (.int 200 (tkOf K "MAX_USES")))),
  fun K => oexB K (He.ga K "BadProgram"),
  fun K => oexB K (He.ga K "BadUse")]
def exsR : List (List FrB) := [exs0, exs1, exs2, exs3, exs4, exs5, exs6, exs7, exs8, exs9, exs10, exs11]
def exR : List FrB := exsR.map fun l => fun K => l.all fun f => f K
def fnsR : List He5.DefA := [⟨fun K => (He.ga K "_law_next"), "_law_next", "_law_next", defArgs s__law_next, defBody s__law_next, defScope s__law_next, [], []⟩,
  ⟨fun K => (He.ga K "_law_name"), "_law_name", "_law_name", defArgs s__law_name, defBody s__law_name, defScope s__law_name, [], []⟩,
  ⟨fun K => (He.ga K "_law_pool"), "_law_pool", "_law_pool", defArgs s__law_pool, defBody s__law_pool, defScope s__law_pool, [], []⟩,
  ⟨fun K => (He.ga K "is_pair"), "is_pair", "is_pair", defArgs s_is_pair, defBody s_is_pair, defScope s_is_pair, [], []⟩,
  ⟨fun K => (He.ga K "is_name"), "is_name", "is_name", defArgs s_is_name, defBody s_is_name, defScope s_is_name, [], []⟩,
  ⟨fun K => (He.ga K "is_path"), "is_path", "is_path", defArgs s_is_path, defBody s_is_path, defScope s_is_path, [], []⟩,
  ⟨fun K => (He.ga K "covers"), "covers", "covers", defArgs s_covers, defBody s_covers, defScope s_covers, [], []⟩,
  ⟨fun K => (He.ga K "overlap"), "overlap", "overlap", defArgs s_overlap, defBody s_overlap, defScope s_overlap, [], []⟩,
  ⟨fun K => (He.ga K "first_overlap"), "first_overlap", "first_overlap", defArgs s_first_overlap, defBody s_first_overlap, defScope s_first_overlap, [], []⟩,
  ⟨fun K => (He.ga K "modules_error"), "modules_error", "modules_error", defArgs s_modules_error, defBody s_modules_error, defScope s_modules_error, [], []⟩,
  ⟨fun K => (He.ga K "uses_error"), "uses_error", "uses_error", defArgs s_uses_error, defBody s_uses_error, defScope s_uses_error, [], []⟩,
  ⟨fun K => (He.ga K "program_error"), "program_error", "program_error", defArgs s_program_error, defBody s_program_error, defScope s_program_error, [], []⟩,
  ⟨fun K => (He.ga K "_law_is_use"), "_law_is_use", "_law_is_use", defArgs s__law_is_use, defBody s__law_is_use, defScope s__law_is_use, [], []⟩,
  ⟨fun K => (He.ga K "parts_of"), "parts_of", "parts_of", defArgs s_parts_of, defBody s_parts_of, defScope s_parts_of, [], []⟩,
  ⟨fun K => (He.ma K (He.ga K "Program") "__init__"), "__init__", "Program.__init__", defArgs s_Program___init__, defBody s_Program___init__, defScope s_Program___init__, [], []⟩,
  ⟨fun K => (rcA K (He.ma K (He.ga K "Program") "of") "classmethod"), "of", "Program.of", defArgs s_Program_of, defBody s_Program_of, defScope s_Program_of, [], []⟩,
  ⟨fun K => (He.ga K "_law_of"), "_law_of", "_law_of", defArgs s__law_of, defBody s__law_of, defScope s__law_of, [], []⟩,
  ⟨fun K => (He.ma K (He.ga K "Program") "__contains__"), "__contains__", "Program.__contains__", defArgs s_Program___contains__, defBody s_Program___contains__, defScope s_Program___contains__, [], []⟩,
  ⟨fun K => (He.ga K "_law_beginnings"), "_law_beginnings", "_law_beginnings", defArgs s__law_beginnings, defBody s__law_beginnings, defScope s__law_beginnings, [], []⟩,
  ⟨fun K => (He.ga K "_law_same"), "_law_same", "_law_same", defArgs s__law_same, defBody s__law_same, defScope s__law_same, [], []⟩,
  ⟨fun K => (rcA K (He.ma K (He.ga K "Program") "parts") "property"), "parts", "Program.parts", defArgs s_Program_parts, defBody s_Program_parts, defScope s_Program_parts, [], []⟩,
  ⟨fun K => (rcA K (He.ma K (He.ga K "Program") "modules") "property"), "modules", "Program.modules", defArgs s_Program_modules, defBody s_Program_modules, defScope s_Program_modules, [], []⟩,
  ⟨fun K => (He.ga K "_law_parts_right"), "_law_parts_right", "_law_parts_right", defArgs s__law_parts_right, defBody s__law_parts_right, defScope s__law_parts_right, [], []⟩,
  ⟨fun K => (rcA K (He.ma K (He.ga K "Program") "uses") "property"), "uses", "Program.uses", defArgs s_Program_uses, defBody s_Program_uses, defScope s_Program_uses, [], []⟩,
  ⟨fun K => (He.ga K "_law_seen"), "_law_seen", "_law_seen", defArgs s__law_seen, defBody s__law_seen, defScope s__law_seen, [], []⟩,
  ⟨fun K => (He.ga K "_law_is_path"), "_law_is_path", "_law_is_path", defArgs s__law_is_path, defBody s__law_is_path, defScope s__law_is_path, [], []⟩,
  ⟨fun K => (He.ga K "_law_covers"), "_law_covers", "_law_covers", defArgs s__law_covers, defBody s__law_covers, defScope s__law_covers, [], []⟩,
  ⟨fun K => (He.ga K "_law_overlap"), "_law_overlap", "_law_overlap", defArgs s__law_overlap, defBody s__law_overlap, defScope s__law_overlap, [], []⟩,
  ⟨fun K => (He.ga K "_law_error"), "_law_error", "_law_error", defArgs s__law_error, defBody s__law_error, defScope s__law_error, [], []⟩,
  ⟨fun K => (He.ga K "_law_due"), "_law_due", "_law_due", defArgs s__law_due, defBody s__law_due, defScope s__law_due, [], []⟩,
  ⟨fun K => (He.ga K "_law_many"), "_law_many", "_law_many", defArgs s__law_many, defBody s__law_many, defScope s__law_many, [], []⟩,
  ⟨fun K => (He.ga K "_law_path"), "_law_path", "_law_path", defArgs s__law_path, defBody s__law_path, defScope s__law_path, [], []⟩,
  ⟨fun K => (He.ga K "_law_odd"), "_law_odd", "_law_odd", defArgs s__law_odd, defBody s__law_odd, defScope s__law_odd, [], []⟩,
  ⟨fun K => (He.ga K "_law_pair"), "_law_pair", "_law_pair", defArgs s__law_pair, defBody s__law_pair, defScope s__law_pair, [], []⟩,
  ⟨fun K => (He.ma K (He.ga K "Program") "within"), "within", "Program.within", defArgs s_Program_within, defBody s_Program_within, defScope s_Program_within, [], []⟩,
  ⟨fun K => (He.ga K "_law_deck"), "_law_deck", "_law_deck", defArgs s__law_deck, defBody s__law_deck, defScope s__law_deck, [], []⟩,
  ⟨fun K => (He.ga K "law"), "law", "law", defArgs s_law, defBody s_law, defScope s_law, [], []⟩,
  ⟨fun K => (He.ma K (He.ga K "BadProgram") "__init__"), "__init__", "BadProgram.__init__", defArgs s_x_BadProgram, defBody s_x_BadProgram, defScope s_x_BadProgram, [], []⟩,
  ⟨fun K => (He.ma K (He.ga K "BadUse") "__init__"), "__init__", "BadUse.__init__", defArgs s_x_BadUse, defBody s_x_BadUse, defScope s_x_BadUse, [], []⟩]
def tabsR : List He.Tab := []
def loose0 : List PySem.Str := ["_wall", "MAX_MODULES", "MAX_NAMES", "MAX_USES", "RestError", "BadProgram", "BadUse", "Clash", "TooMany", "LETTERS", "MAX_LETTERS", "is_name"]
def loose1 : List PySem.Str := ["is_path", "covers", "overlap", "first_overlap", "is_pair", "modules_error", "uses_error", "program_error", "parts_of", "Program", "_law_deck", "_law_next"]
def loose2 : List PySem.Str := ["_law_name", "_law_pool", "_law_path", "_law_covers", "_law_overlap", "_law_is_path", "_law_odd", "_law_same", "_law_is_use", "_law_error", "_law_pair", "_law_of"]
def loose3 : List PySem.Str := ["_law_many", "_law_due", "_law_beginnings", "_law_parts_right", "_law_seen"]
def looseR : List PySem.Str := loose0 ++ loose1 ++ loose2 ++ loose3
noncomputable abbrev hkR : PySem.W.Hook := hookY 6 exR fnsR tabsR
noncomputable def obR (s : PySem.W.SharedT) : AlY := obsYG 6 exR fnsR tabsR (HandSHeadRun.getT s)
theorem obR_eq (s : PySem.W.SharedT) : obR s = hkR.obs s.abs := obsYG_eq (HandSHeadRun.getT_eq s)
theorem runR0 (w : World) : HandSHeadRun.RunEq (PySem.W.OpenLaw.row PySem.Challenge.rw_mayrest_k09_programs_of_uses) (PySem.W.view (PySem.W.OpenLaw.row PySem.Challenge.rw_mayrest_k09_programs_of_uses).prog [45]) hkR obR 20000 looseR (w.withFollow "special-get-raises" false) := by
  intro os
  kernel_rfl
theorem runR1 (w : World) : HandSHeadRun.RunEq (PySem.W.OpenLaw.row PySem.Challenge.rw_mayrest_k09_programs_of_uses) (PySem.W.view (PySem.W.OpenLaw.row PySem.Challenge.rw_mayrest_k09_programs_of_uses).prog [45]) hkR obR 20000 looseR (w.withFollow "special-get-raises" true) := by
  intro os
  kernel_rfl
theorem runR (w : World) : HandSHeadRun.RunEq (PySem.W.OpenLaw.row PySem.Challenge.rw_mayrest_k09_programs_of_uses) (PySem.W.view (PySem.W.OpenLaw.row PySem.Challenge.rw_mayrest_k09_programs_of_uses).prog [45]) hkR obR 20000 looseR w := PySem.W.byRow2 "special-get-raises" (P := fun w => HandSHeadRun.RunEq (PySem.W.OpenLaw.row PySem.Challenge.rw_mayrest_k09_programs_of_uses) (PySem.W.view (PySem.W.OpenLaw.row PySem.Challenge.rw_mayrest_k09_programs_of_uses).prog [45]) hkR obR 20000 looseR w) runR0 runR1 w
set_option maxHeartbeats 0
theorem factsR {l : PySem.W.OpenLaw} {w : World} {K : PySem.W.Frag} {h : Heap} {mg : Str → Option Value} {fa : Addr} (X : K.In h) (G : h.Ns mainGlobals mg) (hfa : mg "law" = some (.ref fa)) (c : SaysY exR fnsR tabsR w K) :
    ∃ fd : FuncData, (∀ (s : Shared) (v : Value), BindsTo s fd ⟨[v], []⟩ [("_law_script", v)]) ∧ ∀ base : Heap, K.In base → base.Ns mainGlobals mg → FnG l.prog w K mg base 12 fa fd ["_law_script"] (spLaw K) := by
  have fact : ∀ (i j : Nat) {l : List FrB} {f : FrB}, exsR[i]? = some l → l[j]? = some f → f K = true := fun i j {l f} h1 h2 => List.all_eq_true.mp (c.fact i (f := fun K => l.all fun f => f K) (by unfold exR; rw [List.getElem?_map, h1]; rfl)) f (List.mem_of_getElem? h2)
  obtain ⟨_, F0⟩ : ∃ fd, FunD K "_law_next" "_law_next" (defArgs s__law_next) (defBody s__law_next) (defScope s__law_next) [] [] (He.ga K "_law_next") fd := c.def_ 0 rfl
  obtain ⟨_, _, _, _, _, _, _, _, _, l0, c0, k0⟩ := raw_fn F0
  obtain ⟨_, F1⟩ : ∃ fd, FunD K "_law_name" "_law_name" (defArgs s__law_name) (defBody s__law_name) (defScope s__law_name) [] [] (He.ga K "_law_name") fd := c.def_ 1 rfl
  obtain ⟨_, _, _, _, _, _, _, _, _, l1, c1, k1⟩ := raw_fn F1
  obtain ⟨_, F2⟩ : ∃ fd, FunD K "_law_pool" "_law_pool" (defArgs s__law_pool) (defBody s__law_pool) (defScope s__law_pool) [] [] (He.ga K "_law_pool") fd := c.def_ 2 rfl
  obtain ⟨_, _, _, _, _, _, _, _, _, l2, c2, k2⟩ := raw_fn F2
  obtain ⟨_, F3⟩ : ∃ fd, FunD K "is_pair" "is_pair" (defArgs s_is_pair) (defBody s_is_pair) (defScope s_is_pair) [] [] (He.ga K "is_pair") fd := c.def_ 3 rfl
  obtain ⟨_, _, _, _, _, _, _, _, _, l3, c3, k3⟩ := raw_fn F3
  obtain ⟨_, F4⟩ : ∃ fd, FunD K "is_name" "is_name" (defArgs s_is_name) (defBody s_is_name) (defScope s_is_name) [] [] (He.ga K "is_name") fd := c.def_ 4 rfl
  obtain ⟨_, _, _, _, _, _, _, _, _, l4, c4, k4⟩ := raw_fn F4
  obtain ⟨_, F5⟩ : ∃ fd, FunD K "is_path" "is_path" (defArgs s_is_path) (defBody s_is_path) (defScope s_is_path) [] [] (He.ga K "is_path") fd := c.def_ 5 rfl
  obtain ⟨_, _, _, _, _, _, _, _, _, l5, c5, k5⟩ := raw_fn F5
  obtain ⟨_, F6⟩ : ∃ fd, FunD K "covers" "covers" (defArgs s_covers) (defBody s_covers) (defScope s_covers) [] [] (He.ga K "covers") fd := c.def_ 6 rfl
  obtain ⟨_, _, _, _, _, _, _, _, _, l6, c6, k6⟩ := raw_fn F6
  obtain ⟨_, F7⟩ : ∃ fd, FunD K "overlap" "overlap" (defArgs s_overlap) (defBody s_overlap) (defScope s_overlap) [] [] (He.ga K "overlap") fd := c.def_ 7 rfl
  obtain ⟨_, _, _, _, _, _, _, _, _, l7, c7, k7⟩ := raw_fn F7
  obtain ⟨_, F8⟩ : ∃ fd, FunD K "first_overlap" "first_overlap" (defArgs s_first_overlap) (defBody s_first_overlap) (defScope s_first_overlap) [] [] (He.ga K "first_overlap") fd := c.def_ 8 rfl
  obtain ⟨_, _, _, _, _, _, _, _, _, l8, c8, k8⟩ := raw_fn F8
  obtain ⟨_, F9⟩ : ∃ fd, FunD K "modules_error" "modules_error" (defArgs s_modules_error) (defBody s_modules_error) (defScope s_modules_error) [] [] (He.ga K "modules_error") fd := c.def_ 9 rfl
  obtain ⟨_, _, _, _, _, _, _, _, _, l9, c9, k9⟩ := raw_fn F9
  obtain ⟨_, F10⟩ : ∃ fd, FunD K "uses_error" "uses_error" (defArgs s_uses_error) (defBody s_uses_error) (defScope s_uses_error) [] [] (He.ga K "uses_error") fd := c.def_ 10 rfl
  obtain ⟨_, _, _, _, _, _, _, _, _, l10, c10, k10⟩ := raw_fn F10
  obtain ⟨_, F11⟩ : ∃ fd, FunD K "program_error" "program_error" (defArgs s_program_error) (defBody s_program_error) (defScope s_program_error) [] [] (He.ga K "program_error") fd := c.def_ 11 rfl
  obtain ⟨_, _, _, _, _, _, _, _, _, l11, c11, k11⟩ := raw_fn F11
  obtain ⟨_, F12⟩ : ∃ fd, FunD K "_law_is_use" "_law_is_use" (defArgs s__law_is_use) (defBody s__law_is_use) (defScope s__law_is_use) [] [] (He.ga K "_law_is_use") fd := c.def_ 12 rfl
  obtain ⟨_, _, _, _, _, _, _, _, _, l12, c12, k12⟩ := raw_fn F12
  obtain ⟨_, F13⟩ : ∃ fd, FunD K "parts_of" "parts_of" (defArgs s_parts_of) (defBody s_parts_of) (defScope s_parts_of) [] [] (He.ga K "parts_of") fd := c.def_ 13 rfl
  obtain ⟨_, _, _, _, _, _, _, _, _, l13, c13, k13⟩ := raw_fn F13
  obtain ⟨_, F14⟩ : ∃ fd, FunD K "__init__" "Program.__init__" (defArgs s_Program___init__) (defBody s_Program___init__) (defScope s_Program___init__) [] [] (He.ma K (He.ga K "Program") "__init__") fd := c.def_ 14 rfl
  obtain ⟨_, _, _, _, _, _, _, _, _, l14, c14, k14⟩ := raw_fn F14
  obtain ⟨_, F15⟩ : ∃ fd, FunD K "of" "Program.of" (defArgs s_Program_of) (defBody s_Program_of) (defScope s_Program_of) [] [] (rcA K (He.ma K (He.ga K "Program") "of") "classmethod") fd := c.def_ 15 rfl
  obtain ⟨_, _, _, _, _, _, _, _, _, l15, c15, k15⟩ := raw_fn F15
  obtain ⟨_, F16⟩ : ∃ fd, FunD K "_law_of" "_law_of" (defArgs s__law_of) (defBody s__law_of) (defScope s__law_of) [] [] (He.ga K "_law_of") fd := c.def_ 16 rfl
  obtain ⟨_, _, _, _, _, _, _, _, _, l16, c16, k16⟩ := raw_fn F16
  obtain ⟨_, F17⟩ : ∃ fd, FunD K "__contains__" "Program.__contains__" (defArgs s_Program___contains__) (defBody s_Program___contains__) (defScope s_Program___contains__) [] [] (He.ma K (He.ga K "Program") "__contains__") fd := c.def_ 17 rfl
  obtain ⟨_, _, _, _, _, _, _, _, _, l17, c17, k17⟩ := raw_fn F17
  obtain ⟨_, F18⟩ : ∃ fd, FunD K "_law_beginnings" "_law_beginnings" (defArgs s__law_beginnings) (defBody s__law_beginnings) (defScope s__law_beginnings) [] [] (He.ga K "_law_beginnings") fd := c.def_ 18 rfl
  obtain ⟨_, _, _, _, _, _, _, _, _, l18, c18, k18⟩ := raw_fn F18
  obtain ⟨_, F19⟩ : ∃ fd, FunD K "_law_same" "_law_same" (defArgs s__law_same) (defBody s__law_same) (defScope s__law_same) [] [] (He.ga K "_law_same") fd := c.def_ 19 rfl
  obtain ⟨_, _, _, _, _, _, _, _, _, l19, c19, k19⟩ := raw_fn F19
  obtain ⟨_, F20⟩ : ∃ fd, FunD K "parts" "Program.parts" (defArgs s_Program_parts) (defBody s_Program_parts) (defScope s_Program_parts) [] [] (rcA K (He.ma K (He.ga K "Program") "parts") "property") fd := c.def_ 20 rfl
  obtain ⟨_, _, _, _, _, _, _, _, _, l20, c20, k20⟩ := raw_fn F20
  obtain ⟨_, F21⟩ : ∃ fd, FunD K "modules" "Program.modules" (defArgs s_Program_modules) (defBody s_Program_modules) (defScope s_Program_modules) [] [] (rcA K (He.ma K (He.ga K "Program") "modules") "property") fd := c.def_ 21 rfl
  obtain ⟨_, _, _, _, _, _, _, _, _, l21, c21, k21⟩ := raw_fn F21
  obtain ⟨_, F22⟩ : ∃ fd, FunD K "_law_parts_right" "_law_parts_right" (defArgs s__law_parts_right) (defBody s__law_parts_right) (defScope s__law_parts_right) [] [] (He.ga K "_law_parts_right") fd := c.def_ 22 rfl
  obtain ⟨_, _, _, _, _, _, _, _, _, l22, c22, k22⟩ := raw_fn F22
  obtain ⟨_, F23⟩ : ∃ fd, FunD K "uses" "Program.uses" (defArgs s_Program_uses) (defBody s_Program_uses) (defScope s_Program_uses) [] [] (rcA K (He.ma K (He.ga K "Program") "uses") "property") fd := c.def_ 23 rfl
  obtain ⟨_, _, _, _, _, _, _, _, _, l23, c23, k23⟩ := raw_fn F23
  obtain ⟨_, F24⟩ : ∃ fd, FunD K "_law_seen" "_law_seen" (defArgs s__law_seen) (defBody s__law_seen) (defScope s__law_seen) [] [] (He.ga K "_law_seen") fd := c.def_ 24 rfl
  obtain ⟨_, _, _, _, _, _, _, _, _, l24, c24, k24⟩ := raw_fn F24
  obtain ⟨_, F25⟩ : ∃ fd, FunD K "_law_is_path" "_law_is_path" (defArgs s__law_is_path) (defBody s__law_is_path) (defScope s__law_is_path) [] [] (He.ga K "_law_is_path") fd := c.def_ 25 rfl
  obtain ⟨_, _, _, _, _, _, _, _, _, l25, c25, k25⟩ := raw_fn F25
  obtain ⟨_, F26⟩ : ∃ fd, FunD K "_law_covers" "_law_covers" (defArgs s__law_covers) (defBody s__law_covers) (defScope s__law_covers) [] [] (He.ga K "_law_covers") fd := c.def_ 26 rfl
  obtain ⟨_, _, _, _, _, _, _, _, _, l26, c26, k26⟩ := raw_fn F26
  obtain ⟨_, F27⟩ : ∃ fd, FunD K "_law_overlap" "_law_overlap" (defArgs s__law_overlap) (defBody s__law_overlap) (defScope s__law_overlap) [] [] (He.ga K "_law_overlap") fd := c.def_ 27 rfl
  obtain ⟨_, _, _, _, _, _, _, _, _, l27, c27, k27⟩ := raw_fn F27
  obtain ⟨_, F28⟩ : ∃ fd, FunD K "_law_error" "_law_error" (defArgs s__law_error) (defBody s__law_error) (defScope s__law_error) [] [] (He.ga K "_law_error") fd := c.def_ 28 rfl
  obtain ⟨_, _, _, _, _, _, _, _, _, l28, c28, k28⟩ := raw_fn F28
  obtain ⟨_, F29⟩ : ∃ fd, FunD K "_law_due" "_law_due" (defArgs s__law_due) (defBody s__law_due) (defScope s__law_due) [] [] (He.ga K "_law_due") fd := c.def_ 29 rfl
  obtain ⟨_, _, _, _, _, _, _, _, _, l29, c29, k29⟩ := raw_fn F29
  obtain ⟨_, F30⟩ : ∃ fd, FunD K "_law_many" "_law_many" (defArgs s__law_many) (defBody s__law_many) (defScope s__law_many) [] [] (He.ga K "_law_many") fd := c.def_ 30 rfl
  obtain ⟨_, _, _, _, _, _, _, _, _, l30, c30, k30⟩ := raw_fn F30
  obtain ⟨_, F31⟩ : ∃ fd, FunD K "_law_path" "_law_path" (defArgs s__law_path) (defBody s__law_path) (defScope s__law_path) [] [] (He.ga K "_law_path") fd := c.def_ 31 rfl
  obtain ⟨_, _, _, _, _, _, _, _, _, l31, c31, k31⟩ := raw_fn F31
  obtain ⟨_, F32⟩ : ∃ fd, FunD K "_law_odd" "_law_odd" (defArgs s__law_odd) (defBody s__law_odd) (defScope s__law_odd) [] [] (He.ga K "_law_odd") fd := c.def_ 32 rfl
  obtain ⟨_, _, _, _, _, _, _, _, _, l32, c32, k32⟩ := raw_fn F32
  obtain ⟨_, F33⟩ : ∃ fd, FunD K "_law_pair" "_law_pair" (defArgs s__law_pair) (defBody s__law_pair) (defScope s__law_pair) [] [] (He.ga K "_law_pair") fd := c.def_ 33 rfl
  obtain ⟨_, _, _, _, _, _, _, _, _, l33, c33, k33⟩ := raw_fn F33
  obtain ⟨_, F34⟩ : ∃ fd, FunD K "within" "Program.within" (defArgs s_Program_within) (defBody s_Program_within) (defScope s_Program_within) [] [] (He.ma K (He.ga K "Program") "within") fd := c.def_ 34 rfl
  obtain ⟨_, _, _, _, _, _, _, _, _, l34, c34, k34⟩ := raw_fn F34
  obtain ⟨_, F35⟩ : ∃ fd, FunD K "_law_deck" "_law_deck" (defArgs s__law_deck) (defBody s__law_deck) (defScope s__law_deck) [] [] (He.ga K "_law_deck") fd := c.def_ 35 rfl
  obtain ⟨_, _, _, _, _, _, _, _, _, l35, c35, k35⟩ := raw_fn F35
  obtain ⟨_, F36⟩ : ∃ fd, FunD K "law" "law" (defArgs s_law) (defBody s_law) (defScope s_law) [] [] (He.ga K "law") fd := c.def_ 36 rfl
  obtain ⟨_, _, _, _, _, _, _, _, _, l36, c36, k36⟩ := raw_fn F36
  obtain ⟨_, Fx_BadProgram⟩ : ∃ fd, FunD K "__init__" "BadProgram.__init__" (defArgs s_x_BadProgram) (defBody s_x_BadProgram) (defScope s_x_BadProgram) [] [] (He.ma K (He.ga K "BadProgram") "__init__") fd := c.def_ 37 rfl
  obtain ⟨_, _, _, _, _, _, _, _, _, lx_BadProgram, cx_BadProgram, kx_BadProgram⟩ := raw_fn Fx_BadProgram
  obtain ⟨_, Fx_BadUse⟩ : ∃ fd, FunD K "__init__" "BadUse.__init__" (defArgs s_x_BadUse) (defBody s_x_BadUse) (defScope s_x_BadUse) [] [] (He.ma K (He.ga K "BadUse") "__init__") fd := c.def_ 38 rfl
  obtain ⟨_, _, _, _, _, _, _, _, _, lx_BadUse, cx_BadUse, kx_BadUse⟩ := raw_fn Fx_BadUse
  obtain ⟨_, _, _, _, _, _, _, _, _, _, _, _, _, _, _, xl_BadProgram, xr_BadProgram⟩ := oex_of (fact 11 8 rfl rfl)
  obtain ⟨_, _, _, _, _, _, _, _, _, _, _, _, _, _, _, xl_BadUse, xr_BadUse⟩ := oex_of (fact 11 9 rfl rfl)
  exact all_mk X G hfa (of_decide_eq_true (fact 0 0 rfl rfl))
    (fact 0 1 rfl rfl)
    (fact 0 2 rfl rfl)
    (fact 0 3 rfl rfl)
    (of_decide_eq_true (fact 0 4 rfl rfl))
    (of_decide_eq_true (fact 0 5 rfl rfl))
    (of_decide_eq_true (fact 0 6 rfl rfl))
    (of_decide_eq_true (fact 0 7 rfl rfl))
    (of_decide_eq_true (fact 0 8 rfl rfl))
    (of_decide_eq_true (fact 0 9 rfl rfl))
    (of_decide_eq_true (fact 0 10 rfl rfl))
    (of_decide_eq_true (fact 0 11 rfl rfl))
    (of_decide_eq_true (fact 1 0 rfl rfl))
    (of_decide_eq_true (fact 1 1 rfl rfl))
    (of_decide_eq_true (fact 1 2 rfl rfl))
    (of_decide_eq_true (fact 1 3 rfl rfl))
    (of_decide_eq_true (fact 1 4 rfl rfl))
    (of_decide_eq_true (fact 1 5 rfl rfl))
    (fact 1 6 rfl rfl)
    (of_decide_eq_true (fact 1 7 rfl rfl))
    (of_decide_eq_true (fact 1 8 rfl rfl))
    (of_decide_eq_true (fact 1 9 rfl rfl))
    (of_decide_eq_true (fact 1 10 rfl rfl))
    (of_decide_eq_true (fact 1 11 rfl rfl))
    (of_decide_eq_true (fact 2 0 rfl rfl))
    (of_decide_eq_true (fact 2 1 rfl rfl))
    (fact 2 2 rfl rfl)
    (of_decide_eq_true (fact 2 3 rfl rfl))
    (of_decide_eq_true (fact 2 4 rfl rfl))
    (of_decide_eq_true (fact 2 5 rfl rfl))
    (of_decide_eq_true (fact 2 6 rfl rfl))
    (of_decide_eq_true (fact 2 7 rfl rfl))
    (of_decide_eq_true (fact 2 8 rfl rfl))
    (of_decide_eq_true (fact 2 9 rfl rfl))
    (of_decide_eq_true (fact 2 10 rfl rfl))
    (of_decide_eq_true (fact 2 11 rfl rfl))
    (of_decide_eq_true (fact 3 0 rfl rfl))
    (of_decide_eq_true (fact 3 1 rfl rfl))
    (of_decide_eq_true (fact 3 2 rfl rfl))
    (of_decide_eq_true (fact 3 3 rfl rfl))
    (of_decide_eq_true (fact 3 4 rfl rfl))
    (of_decide_eq_true (fact 3 5 rfl rfl))
    (of_decide_eq_true (fact 3 6 rfl rfl))
    (of_decide_eq_true (fact 3 7 rfl rfl))
    (of_decide_eq_true (fact 3 8 rfl rfl))
    (of_decide_eq_true (fact 3 9 rfl rfl))
    (of_decide_eq_true (fact 3 10 rfl rfl))
    (of_decide_eq_true (fact 3 11 rfl rfl))
    (of_decide_eq_true (fact 4 0 rfl rfl))
    (of_decide_eq_true (fact 4 1 rfl rfl))
    xl_BadProgram
    xr_BadProgram
    (of_decide_eq_true (fact 4 2 rfl rfl))
    (of_decide_eq_true (fact 4 3 rfl rfl))
    (of_decide_eq_true (fact 4 4 rfl rfl))
    (fact 4 5 rfl rfl)
    (of_decide_eq_true (fact 4 6 rfl rfl))
    (of_decide_eq_true (fact 4 7 rfl rfl))
    (of_decide_eq_true (fact 4 8 rfl rfl))
    lx_BadProgram
    cx_BadProgram
    kx_BadProgram
    xl_BadUse
    xr_BadUse
    (of_decide_eq_true (fact 4 9 rfl rfl))
    (of_decide_eq_true (fact 4 10 rfl rfl))
    (of_decide_eq_true (fact 4 11 rfl rfl))
    (fact 5 0 rfl rfl)
    (of_decide_eq_true (fact 5 1 rfl rfl))
    (of_decide_eq_true (fact 5 2 rfl rfl))
    (of_decide_eq_true (fact 5 3 rfl rfl))
    lx_BadUse
    cx_BadUse
    kx_BadUse
    (of_decide_eq_true (fact 5 4 rfl rfl))
    l0
    c0
    k0
    (of_decide_eq_true (fact 5 5 rfl rfl))
    l1
    c1
    k1
    (of_decide_eq_true (fact 5 6 rfl rfl))
    l2
    c2
    k2
    (of_decide_eq_true (fact 5 7 rfl rfl))
    l3
    c3
    k3
    (of_decide_eq_true (fact 5 8 rfl rfl))
    l4
    c4
    k4
    (of_decide_eq_true (fact 5 9 rfl rfl))
    l5
    c5
    k5
    (of_decide_eq_true (fact 5 10 rfl rfl))
    l6
    c6
    k6
    (of_decide_eq_true (fact 5 11 rfl rfl))
    l7
    c7
    k7
    (of_decide_eq_true (fact 6 0 rfl rfl))
    l8
    c8
    k8
    (of_decide_eq_true (fact 6 1 rfl rfl))
    l9
    c9
    k9
    (of_decide_eq_true (fact 6 2 rfl rfl))
    l10
    c10
    k10
    (of_decide_eq_true (fact 6 3 rfl rfl))
    l11
    c11
    k11
    (of_decide_eq_true (fact 6 4 rfl rfl))
    l12
    c12
    k12
    (of_decide_eq_true (fact 6 5 rfl rfl))
    l13
    c13
    k13
    (of_decide_eq_true (fact 6 6 rfl rfl))
    (fact 6 7 rfl rfl)
    (fact 6 8 rfl rfl)
    (fact 6 9 rfl rfl)
    l14
    c14
    k14
    (fact 6 10 rfl rfl)
    (of_decide_eq_true (fact 6 11 rfl rfl))
    (cls_ok (fact 7 0 rfl rfl))
    (of_decide_eq_true (fact 7 1 rfl rfl))
    (fact 7 2 rfl rfl)
    l15
    c15
    k15
    (of_decide_eq_true (fact 7 3 rfl rfl))
    l16
    c16
    k16
    (of_decide_eq_true (fact 7 4 rfl rfl))
    (fact 7 5 rfl rfl)
    l17
    c17
    k17
    (of_decide_eq_true (fact 7 6 rfl rfl))
    l18
    c18
    k18
    (of_decide_eq_true (fact 7 7 rfl rfl))
    l19
    c19
    k19
    (of_decide_eq_true (fact 7 8 rfl rfl))
    (of_decide_eq_true (fact 7 9 rfl rfl))
    (of_decide_eq_true (fact 7 10 rfl rfl))
    (of_decide_eq_true (fact 7 11 rfl rfl))
    l20
    c20
    k20
    (of_decide_eq_true (fact 8 0 rfl rfl))
    (of_decide_eq_true (fact 8 1 rfl rfl))
    (of_decide_eq_true (fact 8 2 rfl rfl))
    (of_decide_eq_true (fact 8 3 rfl rfl))
    l21
    c21
    k21
    (of_decide_eq_true (fact 8 4 rfl rfl))
    l22
    c22
    k22
    (of_decide_eq_true (fact 8 5 rfl rfl))
    (of_decide_eq_true (fact 8 6 rfl rfl))
    (of_decide_eq_true (fact 8 7 rfl rfl))
    (of_decide_eq_true (fact 8 8 rfl rfl))
    l23
    c23
    k23
    (of_decide_eq_true (fact 8 9 rfl rfl))
    l24
    c24
    k24
    (of_decide_eq_true (fact 8 10 rfl rfl))
    l25
    c25
    k25
    (of_decide_eq_true (fact 8 11 rfl rfl))
    l26
    c26
    k26
    (of_decide_eq_true (fact 9 0 rfl rfl))
    l27
    c27
    k27
    (of_decide_eq_true (fact 9 1 rfl rfl))
    l28
    c28
    k28
    (of_decide_eq_true (fact 9 2 rfl rfl))
    l29
    c29
    k29
    (of_decide_eq_true (fact 9 3 rfl rfl))
    l30
    c30
    k30
    (of_decide_eq_true (fact 9 4 rfl rfl))
    l31
    c31
    k31
    (of_decide_eq_true (fact 9 5 rfl rfl))
    l32
    c32
    k32
    (of_decide_eq_true (fact 9 6 rfl rfl))
    l33
    c33
    k33
    (of_decide_eq_true (fact 9 7 rfl rfl))
    (fact 9 8 rfl rfl)
    l34
    c34
    k34
    (of_decide_eq_true (fact 9 9 rfl rfl))
    l35
    c35
    k35
    (of_decide_eq_true (fact 9 10 rfl rfl))
    l36
    c36
    k36
    (of_decide_eq_true (fact 9 11 rfl rfl))
    (of_decide_eq_true (fact 10 0 rfl rfl))
    (of_decide_eq_true (fact 10 1 rfl rfl))
    (of_decide_eq_true (fact 10 2 rfl rfl))
    (of_decide_eq_true (fact 10 3 rfl rfl))
    (of_decide_eq_true (fact 10 4 rfl rfl))
    (of_decide_eq_true (fact 10 5 rfl rfl))
    (of_decide_eq_true (fact 10 6 rfl rfl))
    (of_decide_eq_true (fact 10 7 rfl rfl))
    (of_decide_eq_true (fact 10 8 rfl rfl))
    (of_decide_eq_true (fact 10 9 rfl rfl))
    (of_decide_eq_true (fact 10 10 rfl rfl))
    (of_decide_eq_true (fact 10 11 rfl rfl))
    (of_decide_eq_true (fact 11 0 rfl rfl))
    (of_decide_eq_true (fact 11 1 rfl rfl))
    (of_decide_eq_true (fact 11 2 rfl rfl))
    (of_decide_eq_true (fact 11 3 rfl rfl))
    (of_decide_eq_true (fact 11 4 rfl rfl))
    (of_decide_eq_true (fact 11 5 rfl rfl))
    (of_decide_eq_true (fact 11 6 rfl rfl))
    (of_decide_eq_true (fact 11 7 rfl rfl))
end DL
open PySem PySem.W PySem.Calls PyProof.Rows
set_option maxHeartbeats 0 in
theorem PySem.Challenge.cw_mayrest_k09_programs_of_uses_holds : PySem.Challenge.rw_mayrest_k09_programs_of_uses.Holds := by
  w_on; o_law
  refine HandSHeadRun.head_any (r := OpenLaw.row PySem.Challenge.rw_mayrest_k09_programs_of_uses) (q := view (OpenLaw.row PySem.Challenge.rw_mayrest_k09_programs_of_uses).prog [45]) (H := DL.hkR) (ob := DL.obR) (M := 20000) (loose := DL.looseR) (d := HandSHeadRun.topDef (OpenLaw.row PySem.Challenge.rw_mayrest_k09_programs_of_uses).prog 45) (kwd := []) DL.obR_eq
    (by kernel_rfl) (fun s => by kernel_rfl) DL.runR (by kernel_rfl) (by kernel_rfl) (by kernel_rfl) (by rfl) (by first | assumption | decide +kernel) (by decide +kernel) ⟨rfl, rfl, rfl, rfl, rfl, by decide +kernel⟩ ?hw ?hc
  case hw => w_witness2
  case hc =>
    refine DL.walk_ofYG (l := PySem.Challenge.rw_mayrest_k09_programs_of_uses) (k := 12) (x := "_law_script") rfl (by kernel_rfl) ⟨rfl, by decide, by decide⟩ ?_
    intro w mg fa h K KX c G hmg0
    have hmg : mg ("law" : PySem.Str) = some (.ref fa) := by
      have e : (HandSHeadRun.topDef (OpenLaw.row PySem.Challenge.rw_mayrest_k09_programs_of_uses).prog 45).name = ("law" : PySem.Str) := by kernel_rfl
      rw [← e]
      exact hmg0
    exact DL.factsR KX G hmg c
