import PyProof.Rows.All
import HandS.Exc
import Wide.All
import OpenK.AllK
import Wide.FinOn
import HandS.ForMost
import HandS.IsInst
import HandS.TupAny
import HandS.Deep
import HandS.Style
import HandS.Wide
import HandS.Zip
import HandS.Property
import HandS.More
import HandS.Small
import KE.SortData
import KE.KDictSum
import KE.GoesMore
import KE.GoesEnum
import HandS.Set
import HandS.SetFor
import HandS.Strs
import KE.KCallOwn
import HandS.FStr
import HandS.NoneIn
import KE.KEqNest
import PyProof.EqKinds
import HandS.DictComp
import HandS.MakeKwOnly
import KE.DataMinMax
import HandS.TupLe
import KE.KDictZip
import HandS.Star
import HandS.ClsMeth
import HandS.CallLocal
import HandS.ExcInit
import HandS.ExcOwn
import HandS.TryOnly
import HandS.ExcField
import HandS.ExcIs
import HandS.ExcValue
import KE.KExcIs
import PyProof.ReprRoads
import PyProof.StrLawsRepr
import PyProof.ReprLen
import HandS.StrMore
import PyProof.NeKinds
import KE.KStateDown
import HandS.Head0
import HandS.Head1
import HandS.Head2
import HandS.HeadEnd
import HandS.HeadHook1
import HandS.HeadHook2
import HandS.HeadHook3
import HandS.HeadNt
import PyProof.ListStr
import HandS.Flow
import PyProof.ListNew
import KE.GoesEnumKw
import PyProof.Rows.CallKwBuiltin
import PySem.Challenge.RW_mayrest_k90_rule_and_book_texts
set_option Elab.async false
set_option linter.all false
set_option maxRecDepth 100000
set_option autoImplicit false
namespace DL
open PySem PySem.Spec PyProof.Rows L2
/-! plain data, and how a value of the heap stands for it -/
inductive D where
  | none
  | bool (b : Bool)
  | int (i : Int)
  | str (x : Str)
  | tup (xs : List D)
  | lst (xs : List D)
  | dct (ks : List Key) (xs : List D)
  | obj (c : Str) (ns : List Str) (xs : List D)
  | exn (c : Str) (ns : List Str) (xs : List D)
  | any (v : V)
/-- an exception that was caught, at a -/
def ExK (C dd a : Addr) : HO := .ext fun h => ∃ (oe : Obj) (vs : Array Value), h.get? a = some oe ∧ oe.cls = .ref C ∧ oe.dict = some dd ∧ oe.data = .fields vs
/-- a tuple of the state, or of the text -/
def TpAt (K : PySem.W.Frag) (H : Hp) (a : Addr) (xs : List V) : Prop := H a = some (.tup xs) ∨ ∃ (o : Obj) (its : Array Value) (n : Nat), K.lookup a = some o ∧ o.cls = .type "tuple" ∧ o.data = .seq its n ∧ its.size ≤ sizeLine ∧ Vals xs its.toList
section
variable {K : PySem.W.Frag} {H H' : Hp} {a : Addr} {xs : List V}
theorem TpAt.mono (e : Same H H') (h : TpAt K H a xs) : TpAt K H' a xs := h.imp (e _ _) id
theorem TpAt.sq (h : TpAt K H a xs) : SqT K H a xs := h.imp .inl id
theorem tp_sq (e : Same H H') (h : TpAt K H a xs) : SqT K H' a xs := (h.mono e).sq
theorem sqT_mono (e : Same H H') (h : SqT K H a xs) : SqT K H' a xs := by
  rcases h with (h | ⟨o, h⟩) | h
  · exact .inl (.inl (e _ _ h))
  · exact .inl (.inr ⟨o, e _ _ h⟩)
  · exact .inr h
end
mutual
def Rp (K : PySem.W.Frag) (H : Hp) : D → V → Prop
  | .none, v => v = .non
  | .bool b, v => v = .bl b
  | .int i, v => v = .int i
  | .str x, v => v = .str x
  | .tup ds, v => ∃ a vs, v = .ref a ∧ TpAt K H a vs ∧ RpA K H ds vs
  | .lst ds, v => ∃ a vs, v = .ref a ∧ H a = some (.lst vs) ∧ RpA K H ds vs
  | .dct ks ds, v => ∃ a vs, v = .ref a ∧ H a = some (.dK (ks.zip vs)) ∧ ks.length = vs.length ∧ RpA K H ds vs
  | .obj c ns ds, v => ∃ C a dx vs, PySem.W.nsIn K mainGlobals c = some (some (.ref C)) ∧ v = .ref a ∧ H a = some (.ins C dx (ns.zip vs)) ∧ H dx = some (.own a) ∧ ns.length = vs.length ∧ RpA K H ds vs
  | .exn c ns ds, v => ∃ C a dd vs, PySem.W.nsIn K mainGlobals c = some (some (.ref C)) ∧ v = .ref a ∧ H a = some (ExK C dd a) ∧ H dd = some (.xd (ns.zip vs)) ∧ ns.length = vs.length ∧ RpA K H ds vs
  | .any w, v => v = w
def RpA (K : PySem.W.Frag) (H : Hp) : List D → List V → Prop
  | [], vs => vs = []
  | d :: ds, vs => ∃ v r, vs = v :: r ∧ Rp K H d v ∧ RpA K H ds r
end
section
variable {K : PySem.W.Frag} {H H' : Hp}
mutual
theorem Rp.mono (e : Same H H') : ∀ (d : D) (v : V), Rp K H d v → Rp K H' d v
  | .none, _, h => h
  | .bool _, _, h => h
  | .int _, _, h => h
  | .str _, _, h => h
  | .tup ds, _, ⟨a, vs, h1, h2, h3⟩ => ⟨a, vs, h1, h2.mono e, RpA.mono e ds vs h3⟩
  | .lst ds, _, ⟨a, vs, h1, h2, h3⟩ => ⟨a, vs, h1, e _ _ h2, RpA.mono e ds vs h3⟩
  | .dct ks ds, _, ⟨a, vs, h1, h2, h3, h4⟩ => ⟨a, vs, h1, e _ _ h2, h3, RpA.mono e ds vs h4⟩
  | .obj c ns ds, _, ⟨C, a, dx, vs, h0, h1, h2, h3, h4, h5⟩ => ⟨C, a, dx, vs, h0, h1, e _ _ h2, e _ _ h3, h4, RpA.mono e ds vs h5⟩
  | .exn c ns ds, _, ⟨C, a, dx, vs, h0, h1, h2, h3, h4, h5⟩ => ⟨C, a, dx, vs, h0, h1, e _ _ h2, e _ _ h3, h4, RpA.mono e ds vs h5⟩
  | .any _, _, h => h
theorem RpA.mono (e : Same H H') : ∀ (ds : List D) (vs : List V), RpA K H ds vs → RpA K H' ds vs
  | [], _, h => h
  | d :: ds, _, ⟨v, r, h1, h2, h3⟩ => ⟨v, r, h1, Rp.mono e d v h2, RpA.mono e ds r h3⟩
end
theorem RpA.length : ∀ {ds : List D} {vs : List V}, RpA K H ds vs → ds.length = vs.length
  | [], _, h => by cases h; rfl
  | _ :: _, _, ⟨_, _, h1, _, h3⟩ => by subst h1; simp [RpA.length h3]
theorem RpA.get : ∀ {ds : List D} {vs : List V} {i : Nat} {d : D}, RpA K H ds vs → ds[i]? = some d → ∃ v, vs[i]? = some v ∧ Rp K H d v
  | [], _, _, _, _, e => by simp at e
  | d :: ds, _, 0, _, ⟨v, r, h1, h2, h3⟩, e => by simp at e; subst e; subst h1; exact ⟨v, rfl, h2⟩
  | d :: ds, _, i + 1, _, ⟨v, r, h1, h2, h3⟩, e => by subst h1; simpa using RpA.get h3 (by simpa using e)
theorem RpA.append : ∀ {ds es : List D} {vs ws : List V}, RpA K H ds vs → RpA K H es ws → RpA K H (ds ++ es) (vs ++ ws)
  | [], _, _, _, h, q => by cases h; exact q
  | d :: ds, _, _, _, ⟨v, r, h1, h2, h3⟩, q => by subst h1; exact ⟨v, r ++ _, rfl, h2, RpA.append h3 q⟩
theorem RpA.take : ∀ {ds : List D} {vs : List V} (n : Nat), RpA K H ds vs → RpA K H (ds.take n) (vs.take n)
  | _, _, 0, _ => rfl
  | [], _, _ + 1, h => by cases h; rfl
  | _ :: _, _, n + 1, ⟨v, r, h1, h2, h3⟩ => by subst h1; exact ⟨v, _, rfl, h2, RpA.take n h3⟩
theorem RpA.drop : ∀ {ds : List D} {vs : List V} (n : Nat), RpA K H ds vs → RpA K H (ds.drop n) (vs.drop n)
  | _, _, 0, h => h
  | [], _, _ + 1, h => by cases h; rfl
  | _ :: _, _, n + 1, ⟨v, r, h1, h2, h3⟩ => by subst h1; exact RpA.drop n h3
theorem RpA.one {d : D} {v : V} (h : Rp K H d v) : RpA K H [d] [v] := ⟨v, [], rfl, h, rfl⟩
theorem RpA.set : ∀ {ds : List D} {vs : List V} {d : D} {v : V} (n : Nat), RpA K H ds vs → Rp K H d v → RpA K H (ds.set n d) (vs.set n v)
  | [], _, _, _, _, h, _ => by cases h; rfl
  | _ :: _, _, _, _, 0, ⟨v, r, h1, h2, h3⟩, q => by subst h1; exact ⟨_, _, rfl, q, h3⟩
  | _ :: _, _, _, _, n + 1, ⟨v, r, h1, h2, h3⟩, q => by subst h1; exact ⟨_, _, rfl, h2, RpA.set n h3 q⟩
theorem RpA.reverse : ∀ {ds : List D} {vs : List V}, RpA K H ds vs → RpA K H ds.reverse vs.reverse
  | [], _, h => by cases h; rfl
  | d :: ds, _, ⟨v, r, h1, h2, h3⟩ => by subst h1; rw [List.reverse_cons, List.reverse_cons]; exact RpA.append (RpA.reverse h3) (RpA.one h2)
theorem RpA.map {α : Type} {f : α → D} {g : α → V} (h : ∀ x, Rp K H (f x) (g x)) : ∀ l : List α, RpA K H (l.map f) (l.map g)
  | [] => rfl
  | x :: l => ⟨_, _, rfl, h x, RpA.map h l⟩
theorem RpA.strs : ∀ {l : List Str} {vs : List V}, RpA K H (l.map D.str) vs → vs = l.map V.str
  | [], _, h => h
  | x :: l, _, ⟨v, r, h1, h2, h3⟩ => by subst h1; cases h2; rw [RpA.strs h3]; rfl
theorem RpA.bools : ∀ {l : List Bool} {vs : List V}, RpA K H (l.map D.bool) vs → vs = l.map V.bl
  | [], _, h => h
  | x :: l, _, ⟨v, r, h1, h2, h3⟩ => by subst h1; cases h2; rw [RpA.bools h3]; rfl
end
/-! data without lists and dicts -/
mutual
def D.flat : D → Bool
  | .none => true
  | .bool _ => true
  | .int _ => true
  | .str _ => true
  | .tup ds => flatA ds
  | .lst _ => false
  | .dct _ _ => false
  | .obj _ _ _ => false
  | .exn _ _ _ => false
  | .any _ => true
def flatA : List D → Bool
  | [] => true
  | d :: ds => d.flat && flatA ds
end
def isLD : HO → Bool
  | .lst _ => true
  | .dK _ => true
  | .dT _ => true
  | .ins _ _ _ => true
  | _ => false
section
variable {K : PySem.W.Frag} {H H' : Hp}
mutual
theorem Rp.flat (e : ∀ a o, H a = some o → isLD o = false → H' a = some o) : ∀ (d : D) (v : V), d.flat = true → Rp K H d v → Rp K H' d v
  | .none, _, _, h => h
  | .bool _, _, _, h => h
  | .int _, _, _, h => h
  | .str _, _, _, h => h
  | .tup ds, _, f, ⟨a, vs, h1, h2, h3⟩ => ⟨a, vs, h1, h2.imp (fun h => e _ _ h rfl) id, RpA.flat e ds vs f h3⟩
  | .lst ds, _, f, _ => by cases f
  | .dct ks ds, _, f, _ => by cases f
  | .obj _ _ _, _, f, _ => by cases f
  | .exn _ _ _, _, f, _ => by cases f
  | .any _, _, _, h => h
theorem RpA.flat (e : ∀ a o, H a = some o → isLD o = false → H' a = some o) : ∀ (ds : List D) (vs : List V), flatA ds = true → RpA K H ds vs → RpA K H' ds vs
  | [], _, _, h => h
  | d :: ds, _, f, ⟨v, r, h1, h2, h3⟩ => by
    have f' : d.flat = true ∧ flatA ds = true := Bool.and_eq_true_iff.mp f
    exact ⟨v, r, h1, Rp.flat e d v f'.1 h2, RpA.flat e ds r f'.2 h3⟩
end
end
/-! the deck of draws -/
structure Dk where
  a : Addr
  b : Addr
  c : Addr
def Dk.has (g : Option Dk) (x : Addr) : Prop := match g with
  | none => False
  | some k => x = k.a ∨ x = k.b ∨ x = k.c
structure DkAt (k : Dk) (H : Hp) (f : Nat) : Prop where
  ab : k.a ≠ k.b
  ac : k.a ≠ k.c
  bc : k.b ≠ k.c
  at_ : ∃ (n : Int) (xs ys : List Int), H k.a = some (.lst [.ref k.b, .ref k.c, .int n]) ∧ H k.b = some (.lst (xs.map V.int)) ∧ H k.c = some (.lst (ys.map V.int)) ∧
    (∀ x ∈ xs, 0 ≤ x) ∧ (∀ y ∈ ys, 0 ≤ y) ∧ 0 < ys.length ∧ 0 ≤ n ∧ n + f ≤ 1000000000000
def DkOk (g : Option Dk) (H Hs : Hp) (f : Nat) : Prop := match g with
  | none => True
  | some k => DkAt k H f ∧ Hs k.a = none ∧ Hs k.b = none ∧ Hs k.c = none
/-! from a heap and its shared part to later ones -/
structure Stp (g : Option Dk) (H Hs H' Hs' : Hp) : Prop where
  sub : Same Hs' H'
  ext : Same Hs Hs'
  keep : ∀ a o, H a = some o → ¬ Dk.has g a → H' a = some o
  there : ∀ a o, H a = some o → ∃ o', H' a = some o'
  new : ∀ a o, H a = some o → Hs a = none → Hs' a = none
theorem Stp.refl {g : Option Dk} {H Hs : Hp} (h : Same Hs H) : Stp g H Hs H Hs := ⟨h, Same.refl _, fun _ _ h _ => h, fun _ o h => ⟨o, h⟩, fun _ _ _ h => h⟩
theorem Stp.trans {g : Option Dk} {H Hs H1 Hs1 H2 Hs2 : Hp} (p : Stp g H Hs H1 Hs1) (q : Stp g H1 Hs1 H2 Hs2) : Stp g H Hs H2 Hs2 where
  sub := q.sub
  ext := p.ext.trans q.ext
  keep := fun a o h n => q.keep a o (p.keep a o h n) n
  there := fun a o h => by
    obtain ⟨o', h'⟩ := p.there a o h
    exact q.there a o' h'
  new := fun a o h n => by
    obtain ⟨o', h'⟩ := p.there a o h
    exact q.new a o' h' (p.new a o h n)
/-- a new object, shared -/
theorem Stp.alloc {g : Option Dk} {H Hs : Hp} {p : Addr} {o : HO} (s : Same Hs H) (hp : H p = none) : Stp g H Hs (upd H p o) (upd Hs p o) where
  sub := fun a u h => by
    by_cases e : a = p
    · subst e; rw [upd_same] at h ⊢; exact h
    · rw [upd_ne e] at h ⊢; exact s a u h
  ext := fun a u h => by
    have : a ≠ p := fun e => by subst e; rw [s a u h] at hp; cases hp
    rw [upd_ne this]; exact h
  keep := fun a u h _ => by rw [upd_ne (ne_of_none h hp)]; exact h
  there := fun a u h => ⟨u, by rw [upd_ne (ne_of_none h hp)]; exact h⟩
  new := fun a u h n => by rw [upd_ne (ne_of_none h hp)]; exact n
/-- a new object, not shared -/
theorem Stp.lay {g : Option Dk} {H Hs : Hp} {p : Addr} {o : HO} (s : Same Hs H) (hp : H p = none) : Stp g H Hs (upd H p o) Hs where
  sub := fun a u h => by
    have : a ≠ p := fun e => by subst e; rw [s a u h] at hp; cases hp
    rw [upd_ne this]; exact s a u h
  ext := Same.refl _
  keep := fun a u h _ => by rw [upd_ne (ne_of_none h hp)]; exact h
  there := fun a u h => ⟨u, by rw [upd_ne (ne_of_none h hp)]; exact h⟩
  new := fun a u h n => n
/-- an object that stands is shared from now on -/
theorem Stp.share {g : Option Dk} {H Hs H' Hs' : Hp} {p : Addr} {o : HO} (s : Stp g H Hs H' Hs') (h0 : H p = none) (h1 : H' p = some o) (h2 : Hs' p = none) : Stp g H Hs H' (upd Hs' p o) where
  sub := fun a u h => by
    by_cases e : a = p
    · subst e; rw [upd_same] at h; cases h; exact h1
    · rw [upd_ne e] at h; exact s.sub a u h
  ext := fun a u h => by
    have q := s.ext a u h
    rw [upd_ne (ne_of_none q h2)]; exact q
  keep := s.keep
  there := s.there
  new := fun a u h n => by rw [upd_ne (ne_of_none h h0)]; exact s.new a u h n
theorem DkOk.step {g : Option Dk} {H Hs H' Hs' : Hp} {f : Nat} (h : DkOk g H Hs f) (k : ∀ a o, H a = some o → H' a = some o) (n : ∀ a o, H a = some o → Hs a = none → Hs' a = none) : DkOk g H' Hs' f := by
  cases g with
  | none => trivial
  | some d =>
    obtain ⟨⟨e1, e2, e3, n', xs, ys, h1, h2, h3, h4⟩, n1, n2, n3⟩ := h
    exact ⟨⟨e1, e2, e3, n', xs, ys, k _ _ h1, k _ _ h2, k _ _ h3, h4⟩, n _ _ h1 n1, n _ _ h2 n2, n _ _ h3 n3⟩
theorem DkOk.stp {g : Option Dk} {H Hs H' Hs' : Hp} {f : Nat} (h : DkOk g H Hs f) (s : Stp none H Hs H' Hs') : DkOk g H' Hs' f := h.step (fun a o e => s.keep a o e id) s.new
theorem Stp.gen {g : Option Dk} {H Hs H' Hs' : Hp} (s : Stp none H Hs H' Hs') : Stp g H Hs H' Hs' := ⟨s.sub, s.ext, fun a o h _ => s.keep a o h id, s.there, s.new⟩
end DL
namespace DL
open PySem PySem.Spec PyProof.Rows L2
/-! slots -/
inductive Sl where
  | no
  | sh (d : D)
  | ow (xs : List D)
  | od (ks : List Key) (xs : List D)
  | oi (a : Addr) (c : Str) (ns : List Str) (xs : List D)
def Sl.d : Sl → Option D
  | .no => none
  | .sh d => some d
  | .ow xs => some (.lst xs)
  | .od ks xs => some (.dct ks xs)
  | .oi _ _ _ _ => none
abbrev Sg := List Sl
structure SlOk (K : PySem.W.Frag) (Hs : Hp) (r : Sg) (st : L2.St) : Prop where
  len : r.length = st.length
  get : ∀ (i : Nat) (s : Sl) (d : D), r[i]? = some s → s.d = some d → ∃ v, st[i]? = some (some v) ∧ Rp K Hs d v
theorem SlOk.mono {K : PySem.W.Frag} {Hs Hs' : Hp} {r : Sg} {st : L2.St} (h : SlOk K Hs r st) (e : Same Hs Hs') : SlOk K Hs' r st :=
  ⟨h.len, fun i s d h1 h2 => by
    obtain ⟨v, h3, h4⟩ := h.get i s d h1 h2
    exact ⟨v, h3, h4.mono e⟩⟩
theorem SlOk.set {K : PySem.W.Frag} {Hs : Hp} {r : Sg} {st : L2.St} (h : SlOk K Hs r st) (j : Nat) {d : D} {v : V} (hv : Rp K Hs d v) : SlOk K Hs (r.set j (.sh d)) (st.set j (some v)) :=
  ⟨by simp [h.len], fun i s e h1 h2 => by
    by_cases hij : j = i
    · subst hij
      by_cases hl : j < r.length
      · rw [List.getElem?_set_self hl] at h1
        cases h1
        cases h2
        exact ⟨v, List.getElem?_set_self (h.len ▸ hl), hv⟩
      · rw [List.getElem?_eq_none (by simpa using hl)] at h1
        cases h1
    · rw [List.getElem?_set_ne hij] at h1
      rw [List.getElem?_set_ne hij]
      exact h.get i s e h1 h2⟩
abbrev QD := D → Nat → Prop
abbrev DT := Option Dk → Sg → Nat → QD → Prop
abbrev DTT := Option Dk → Sg → Nat → (Bool → Nat → Prop) → Prop
abbrev DTA := Option Dk → Sg → Nat → (List D → Nat → Prop) → Prop
structure At (K : PySem.W.Frag) (g : Option Dk) (r : Sg) (f : Nat) (st : L2.St) (H Hs : Hp) : Prop where
  sub : Same Hs H
  dk : DkOk g H Hs f
  sl : SlOk K Hs r st
theorem At.step {K : PySem.W.Frag} {g : Option Dk} {r : Sg} {f f' : Nat} {st : L2.St} {H Hs H' Hs' : Hp} (a : At K g r f st H Hs) (s : Stp g H Hs H' Hs') (k : DkOk g H' Hs' f') : At K g r f' st H' Hs' :=
  ⟨s.sub, k, a.sl.mono s.ext⟩
def Snd (K : PySem.W.Frag) (t : TE) (dl : DT) : Prop := ∀ (g : Option Dk) (r : Sg) (f : Nat) (st : L2.St) (H Hs : Hp) (Q : VK) (Q' : QD), At K g r f st H Hs →
  (∀ d f' v H' Hs', Stp g H Hs H' Hs' → DkOk g H' Hs' f' → Rp K Hs' d v → Q' d f' → Q v H') → dl g r f Q' → t st H Q
def SndT (K : PySem.W.Frag) (t : TT) (dl : DTT) : Prop := ∀ (g : Option Dk) (r : Sg) (f : Nat) (st : L2.St) (H Hs : Hp) (Q : Bool → Hp → Prop) (Q' : Bool → Nat → Prop), At K g r f st H Hs →
  (∀ b f' H' Hs', Stp g H Hs H' Hs' → DkOk g H' Hs' f' → Q' b f' → Q b H') → dl g r f Q' → t st H Q
def SndA (K : PySem.W.Frag) (t : TA) (dl : DTA) : Prop := ∀ (g : Option Dk) (r : Sg) (f : Nat) (st : L2.St) (H Hs : Hp) (Q : List V → Hp → Prop) (Q' : List D → Nat → Prop), At K g r f st H Hs →
  (∀ ds f' vs H' Hs', Stp g H Hs H' Hs' → DkOk g H' Hs' f' → RpA K Hs' ds vs → Q' ds f' → Q vs H') → dl g r f Q' → t st H Q
/-- a list that is new -/
def SndL (K : PySem.W.Frag) (t : TE) (dl : DTA) : Prop := ∀ (g : Option Dk) (r : Sg) (f : Nat) (st : L2.St) (H Hs : Hp) (Q : VK) (Q' : List D → Nat → Prop), At K g r f st H Hs →
  (∀ ds f' p vs H' Hs', Stp g H Hs H' Hs' → DkOk g H' Hs' f' → H p = none → Hs' p = none → H' p = some (.lst vs) → RpA K Hs' ds vs → Q' ds f' → Q (.ref p) H') → dl g r f Q' → t st H Q
/-! the widest reading that data allow -/
def tOf (K : PySem.W.Frag) (dl : DT) : TE := fun st H Q => ∃ g r f Hs Q', At K g r f st H Hs ∧ (∀ d f' v H' Hs', Stp g H Hs H' Hs' → DkOk g H' Hs' f' → Rp K Hs' d v → Q' d f' → Q v H') ∧ dl g r f Q'
def tOfT (K : PySem.W.Frag) (dl : DTT) : TT := fun st H Q => ∃ g r f Hs Q', At K g r f st H Hs ∧ (∀ b f' H' Hs', Stp g H Hs H' Hs' → DkOk g H' Hs' f' → Q' b f' → Q b H') ∧ dl g r f Q'
def tOfA (K : PySem.W.Frag) (dl : DTA) : TA := fun st H Q => ∃ g r f Hs Q', At K g r f st H Hs ∧ (∀ ds f' vs H' Hs', Stp g H Hs H' Hs' → DkOk g H' Hs' f' → RpA K Hs' ds vs → Q' ds f' → Q vs H') ∧ dl g r f Q'
def tOfL (K : PySem.W.Frag) (dl : DTA) : TE := fun st H Q => ∃ g r f Hs Q', At K g r f st H Hs ∧ (∀ ds f' p vs H' Hs', Stp g H Hs H' Hs' → DkOk g H' Hs' f' → H p = none → Hs' p = none → H' p = some (.lst vs) → RpA K Hs' ds vs → Q' ds f' → Q (.ref p) H') ∧ dl g r f Q'
structure DE (X : Cx) (e : Expr) (dl : DT) : Prop where
  pe : PE X e (tOf X.K dl)
structure DP (X : Cx) (e : Expr) (dl : DTT) : Prop where
  pt : PT X e (tOfT X.K dl)
structure DW (X : Cx) (e : Expr) (dl : DTT) : Prop where
  pw : PW X e (tOfT X.K dl)
structure DA (X : Cx) (es : List Expr) (dl : DTA) : Prop where
  pa : PA X es (tOfA X.K dl)
structure DL' (X : Cx) (e : Expr) (dl : DTA) : Prop where
  pe : PE X e (tOfL X.K dl)
theorem DE.sn {X : Cx} {e : Expr} {dl : DT} (_ : DE X e dl) : Snd X.K (tOf X.K dl) dl := fun g r f st H Hs Q Q' a hq hd => ⟨g, r, f, Hs, Q', a, hq, hd⟩
theorem DP.sn {X : Cx} {e : Expr} {dl : DTT} (_ : DP X e dl) : SndT X.K (tOfT X.K dl) dl := fun g r f st H Hs Q Q' a hq hd => ⟨g, r, f, Hs, Q', a, hq, hd⟩
theorem DW.sn {X : Cx} {e : Expr} {dl : DTT} (_ : DW X e dl) : SndT X.K (tOfT X.K dl) dl := fun g r f st H Hs Q Q' a hq hd => ⟨g, r, f, Hs, Q', a, hq, hd⟩
theorem DA.sn {X : Cx} {es : List Expr} {dl : DTA} (_ : DA X es dl) : SndA X.K (tOfA X.K dl) dl := fun g r f st H Hs Q Q' a hq hd => ⟨g, r, f, Hs, Q', a, hq, hd⟩
theorem DL'.sn {X : Cx} {e : Expr} {dl : DTA} (_ : DL' X e dl) : SndL X.K (tOfL X.K dl) dl := fun g r f st H Hs Q Q' a hq hd => ⟨g, r, f, Hs, Q', a, hq, hd⟩
theorem DE.mk' {X : Cx} {e : Expr} {t : TE} {dl : DT} (p : PE X e t) (s : Snd X.K t dl) : DE X e dl := ⟨⟨fun pins sh st H Q I ⟨g, r, f, Hs, Q', a, hq, hd⟩ => p.run pins sh st H Q I (s g r f st H Hs Q Q' a hq hd)⟩⟩
theorem DP.mk' {X : Cx} {e : Expr} {t : TT} {dl : DTT} (p : PT X e t) (s : SndT X.K t dl) : DP X e dl := ⟨⟨fun pins sh st H Q I ⟨g, r, f, Hs, Q', a, hq, hd⟩ => p.run pins sh st H Q I (s g r f st H Hs Q Q' a hq hd)⟩⟩
theorem DW.mk' {X : Cx} {e : Expr} {t : TT} {dl : DTT} (p : PW X e t) (s : SndT X.K t dl) : DW X e dl := ⟨⟨fun whole pins sh st H Q I ⟨g, r, f, Hs, Q', a, hq, hd⟩ => p.run whole pins sh st H Q I (s g r f st H Hs Q Q' a hq hd)⟩⟩
theorem DA.mk' {X : Cx} {es : List Expr} {t : TA} {dl : DTA} (p : PA X es t) (s : SndA X.K t dl) : DA X es dl := ⟨⟨fun pos pins sh st H Q I ⟨g, r, f, Hs, Q', a, hq, hd⟩ => p.run pos pins sh st H Q I (s g r f st H Hs Q Q' a hq hd)⟩⟩
theorem DL'.mk' {X : Cx} {e : Expr} {t : TE} {dl : DTA} (p : PE X e t) (s : SndL X.K t dl) : DL' X e dl := ⟨⟨fun pins sh st H Q I ⟨g, r, f, Hs, Q', a, hq, hd⟩ => p.run pins sh st H Q I (s g r f st H Hs Q Q' a hq hd)⟩⟩
def dOfL (dl : DTA) : DT := fun g r f Q => dl g r f fun ds f' => Q (.lst ds) f'
theorem DkOk.share {g : Option Dk} {H Hs : Hp} {f : Nat} {p : Addr} {o : HO} (h : DkOk g H Hs f) (n : ¬ Dk.has g p) : DkOk g H (upd Hs p o) f := by
  cases g with
  | none => trivial
  | some k =>
    obtain ⟨h0, h1, h2, h3⟩ := h
    refine ⟨h0, ?_, ?_, ?_⟩
    · rw [upd_ne fun e => n (.inl e.symm)]; exact h1
    · rw [upd_ne fun e => n (.inr (.inl e.symm))]; exact h2
    · rw [upd_ne fun e => n (.inr (.inr e.symm))]; exact h3
theorem DkOk.out {g : Option Dk} {H Hs : Hp} {f : Nat} {p : Addr} (h : DkOk g H Hs f) (n : H p = none) : ¬ Dk.has g p := by
  cases g with
  | none => exact id
  | some k =>
    obtain ⟨⟨_, _, _, _, _, _, h1, h2, h3, _⟩, _⟩ := h
    rintro (e | e | e)
    · rw [e, h1] at n; cases n
    · rw [e, h2] at n; cases n
    · rw [e, h3] at n; cases n
theorem DkOk.mut {g : Option Dk} {H Hs : Hp} {f : Nat} {p : Addr} {o : HO} (h : DkOk g H Hs f) (n : ¬ Dk.has g p) : DkOk g (upd H p o) Hs f := by
  cases g with
  | none => trivial
  | some k =>
    obtain ⟨⟨e1, e2, e3, n', xs, ys, h1, h2, h3, h4⟩, q⟩ := h
    refine ⟨⟨e1, e2, e3, n', xs, ys, ?_, ?_, ?_, h4⟩, q⟩
    · rw [upd_ne fun e => n (.inl e.symm)]; exact h1
    · rw [upd_ne fun e => n (.inr (.inl e.symm))]; exact h2
    · rw [upd_ne fun e => n (.inr (.inr e.symm))]; exact h3
theorem Stp.mut {g : Option Dk} {H Hs H' Hs' : Hp} {p : Addr} {o : HO} (s : Stp g H Hs H' Hs') (h0 : H p = none) (h2 : Hs' p = none) : Stp g H Hs (upd H' p o) Hs' where
  sub := fun a u h => by rw [upd_ne (ne_of_none h h2)]; exact s.sub a u h
  ext := s.ext
  keep := fun a u h n => by rw [upd_ne (ne_of_none h h0)]; exact s.keep a u h n
  there := fun a u h => by rw [upd_ne (ne_of_none h h0)]; exact s.there a u h
  new := s.new
section
variable {X : Cx} {K : PySem.W.Frag}
theorem SndL.e {t : TE} {dl : DTA} (h : SndL K t dl) : Snd K t (dOfL dl) := fun g r f st H Hs Q Q' a hq hd =>
  h g r f st H Hs Q _ a (fun ds f' p vs H' Hs' s k h0 h1 h2 hr q => hq (.lst ds) f' (.ref p) H' _ (s.share h0 h2 h1) (k.share (a.dk.out h0)) ⟨p, vs, rfl, upd_same, hr.mono (fun b u e => by rw [upd_ne (ne_of_none e h1)]; exact e)⟩ q) hd
theorem DL'.e {e : Expr} {dl : DTA} (h : DL' X e dl) : DE X e (dOfL dl) := .mk' (h.pe) (h.sn.e)
/-! names, constants -/
def dVar (i : Nat) : DT := fun _ r f Q => match r[i]? with
  | some s => match s.d with
    | some d => Q d f
    | none => False
  | none => False
theorem snd_var (i : Nat) : Snd K (tVar i) (dVar i) := fun g r f st H Hs Q Q' a hq hd => by
  unfold dVar at hd
  split at hd
  · next s e =>
    split at hd
    · next d e2 =>
      obtain ⟨v, h1, h2⟩ := a.sl.get i s d e e2
      exact ⟨v, h1, hq d f v H Hs (Stp.refl a.sub) a.dk h2 hd⟩
    · exact hd.elim
  · exact hd.elim
def dC (d : D) : DT := fun _ _ f Q => Q d f
theorem snd_c {d : D} {v : V} (h : ∀ H, Rp K H d v) : Snd K (tC v) (dC d) := fun g r f st H Hs Q Q' a hq hd => hq d f v H Hs (Stp.refl a.sub) a.dk (h Hs) hd
theorem de_v (i : Nat) {x : Str} {pos : Pos} (hN : X.N[i]? = some x := by rfl) (hv : Vis X.env.scope x := by first | exact Or.inl rfl | exact Or.inr (Or.inl rfl) | exact Or.inr (Or.inr rfl)) (hd : (x == ("__debug__" : Str)) = false := by decide)
    (hcd : (x == ("__classdict__" : Str)) = false := by decide) : DE X (.Name x pos) (dVar i) := .mk' (pe_var hN hv hd hcd) (snd_var i)
theorem de_int {i : Int} {j pos} : DE X (.Constant (.int i) j pos) (dC (.int i)) := .mk' (pe_int) (snd_c fun _ => rfl)
theorem de_bl {b : Bool} {j pos} : DE X (.Constant (.bool b) j pos) (dC (.bool b)) := .mk' (pe_bl) (snd_c fun _ => rfl)
theorem de_non {j pos} : DE X (.Constant .none j pos) (dC .none) := .mk' (pe_non) (snd_c fun _ => rfl)
theorem de_str {x : Str} {j pos} : DE X (.Constant (.str x) j pos) (dC (.str x)) := .mk' (pe_str) (snd_c fun _ => rfl)
theorem de_glob {x : Str} {v : V} {u : Value} {pos : Pos} {d : D} (hg : Gl X x) (hm : X.mg x = some u) (r : RelV v u) (hr : ∀ H, Rp X.K H d v) (hd : (x == ("__debug__" : Str)) = false := by decide) : DE X (.Name x pos) (dC d) := .mk' (pe_glob hg hm r hd) (snd_c hr)
theorem de_bltn {x : Str} {v : V} {u : Value} {pos : Pos} (hg : Gl X x) (hm : X.mg x = none) (hv : bootBuiltins x = some u) (r : RelV v u) (hn : x ≠ "__name__" := by decide) (hd : (x == ("__debug__" : Str)) = false := by decide) :
    DE X (.Name x pos) (dC (.any v)) := .mk' (pe_bltn hg hm hv r hn hd) (snd_c fun _ => rfl)
/-! operators by values -/
abbrev O2 := D → D → (D → Prop) → Prop
def SndR (K : PySem.W.Frag) (r : R2) (op : O2) : Prop := ∀ (H Hs : Hp) (x y : D) (vx vy : V) (Q : VK) (Q' : D → Prop), Same Hs H → Rp K Hs x vx → Rp K Hs y vy →
  (∀ z v H' Hs', Stp none H Hs H' Hs' → Rp K Hs' z v → Q' z → Q v H') → op x y Q' → r vx vy H Q
def dOp (op : O2) (a b : DT) : DT := fun g r f Q => a g r f fun x f1 => b g r f1 fun y f2 => op x y fun z => Q z f2
theorem snd_op {r : R2} {op : O2} {ta tb : TE} {a b : DT} (hr : SndR K r op) (ha : Snd K ta a) (hb : Snd K tb b) : Snd K (tOp r ta tb) (dOp op a b) := fun g ro f st H Hs Q Q' A hq hd =>
  ha g ro f st H Hs _ _ A (fun x f1 vx H1 Hs1 s1 k1 r1 q1 => hb g ro f1 st H1 Hs1 _ _ (A.step s1 k1) (fun y f2 vy H2 Hs2 s2 k2 r2 q2 =>
    hr H2 Hs2 x y vx vy Q _ s2.sub (r1.mono s2.ext) r2 (fun z v H3 Hs3 s3 r3 q3 => hq z f2 v H3 Hs3 ((s1.trans s2).trans s3.gen) (k2.stp s3) r3 q3) q2) q1) hd
theorem SndR.or {r r' : R2} {op op' : O2} (h : SndR K r op) (h' : SndR K r' op') : SndR K (fun x y H Q => r x y H Q ∨ r' x y H Q) (fun x y Q => op x y Q ∨ op' x y Q) := fun H Hs x y vx vy Q Q' s rx ry hq hd => by
  rcases hd with hd | hd
  · exact .inl (h H Hs x y vx vy Q Q' s rx ry hq hd)
  · exact .inr (h' H Hs x y vx vy Q Q' s rx ry hq hd)
theorem SndR.weak {r : R2} {op op' : O2} (h : SndR K r op) (w : ∀ x y Q, op' x y Q → op x y Q) : SndR K r op' := fun H Hs x y vx vy Q Q' s rx ry hq hd => h H Hs x y vx vy Q Q' s rx ry hq (w x y Q' hd)
theorem de_op {a b : Expr} {op : Operator} {pos : Pos} {r : R2} {o : O2} {da db : DT} (ho : OpR X (binaryOp op) r) (hr : SndR X.K r o) (ha : DE X a da) (hb : DE X b db) : DE X (.BinOp a op b pos) (dOp o da db) := .mk' (pe_op ho ha.pe hb.pe) (snd_op hr ha.sn hb.sn)
theorem de_cmp {a b : Expr} {op : CmpOp} {pos : Pos} {r : R2} {o : O2} {da db : DT} (ho : OpR X (compareOp op) r) (hr : SndR X.K r o) (ha : DE X a da) (hb : DE X b db) (hm : behindInMarks op b = false) : DE X (.Compare a [op] [b] pos) (dOp o da db) := .mk' (pe_cmpR ho ha.pe hb.pe hm) (snd_op hr ha.sn hb.sn)
def dTest (a : DT) : DTT := fun g r f Q => a g r f fun x f1 => match x with
  | .bool b => Q b f1
  | _ => False
theorem snd_test {ta : TE} {a : DT} (ha : Snd K ta a) : SndT K (tTest ta) (dTest a) := fun g ro f st H Hs Q Q' A hq hd =>
  ha g ro f st H Hs _ _ A (fun x f1 v H1 Hs1 s1 k1 r1 q1 => by
    cases x with
    | bool b => exact ⟨b, r1, hq b f1 H1 Hs1 s1 k1 q1⟩
    | _ => exact q1.elim) hd
theorem snd_B {ta : TE} {a : DT} (ha : Snd K ta a) : SndT K (tB ta) (dTest a) := fun g ro f st H Hs Q Q' A hq hd =>
  ha g ro f st H Hs _ _ A (fun x f1 v H1 Hs1 s1 k1 r1 q1 => by
    cases x with
    | bool b => exact ⟨b, r1, hq b f1 H1 Hs1 s1 k1 q1⟩
    | _ => exact q1.elim) hd
theorem dp_cmp {a b : Expr} {op : CmpOp} {pos : Pos} {r : R2} {o : O2} {da db : DT} (ho : OpR X (compareOp op) r) (hr : SndR X.K r o) (ha : DE X a da) (hb : DE X b db) (hm : behindInMarks op b = false) : DP X (.Compare a [op] [b] pos) (dTest (dOp o da db)) :=
  .mk' (pt_cmpR ho ha.pe hb.pe hm) (snd_test (snd_op hr ha.sn hb.sn))
theorem dp_val {e : Expr} {d : DT} (h : DE X e d) (he : ∀ whole, isTrue e X.env whole = (do let v ← whole; standAt e.pos; holding [v] (truthy v)) := by intro _; rfl) : DP X e (dTest d) := .mk' (pt_val h.pe he) (snd_B h.sn)
def dChain (o o' : O2) (a b c : DT) : DT := fun g r f Q => a g r f fun x f1 => b g r f1 fun y f2 => o x y fun z => match z with
  | .bool k => if k = true then c g r f2 fun w f3 => o' y w fun z' => Q z' f3 else Q (.bool false) f2
  | _ => False
end
end DL
namespace DL
open PySem PySem.Spec PyProof.Rows L2
section
variable {X : Cx} {K : PySem.W.Frag}
theorem snd_chain {r r' : R2} {o o' : O2} {ta tb tc : TE} {a b c : DT} (hr : SndR K r o) (hr' : SndR K r' o') (ha : Snd K ta a) (hb : Snd K tb b) (hc : Snd K tc c) : Snd K (tChain r r' ta tb tc) (dChain o o' a b c) := fun g ro f st H Hs Q Q' A hq hd =>
  ha g ro f st H Hs _ _ A (fun x f1 vx H1 Hs1 s1 k1 r1 q1 => hb g ro f1 st H1 Hs1 _ _ (A.step s1 k1) (fun y f2 vy H2 Hs2 s2 k2 r2 q2 =>
    hr H2 Hs2 x y vx vy _ _ s2.sub (r1.mono s2.ext) r2 (fun z v H3 Hs3 s3 r3 q3 => by
      cases z with
      | bool k =>
        refine ⟨k, r3, ?_⟩
        cases k with
        | true =>
          rw [if_pos rfl]
          replace q3 : c g ro f2 fun w f3 => o' y w fun z' => Q' z' f3 := q3
          have A3 := (A.step s1 k1).step s2 k2 |>.step s3.gen (k2.stp s3)
          exact hc g ro f2 st H3 Hs3 _ _ A3 (fun w f3 vw H4 Hs4 s4 k4 r4 q4 => hr' H4 Hs4 y w vy vw _ _ s4.sub ((r2.mono s3.ext).mono s4.ext) r4 (fun z v H5 Hs5 s5 r5 q5 =>
            hq z f3 v H5 Hs5 ((((s1.trans s2).trans s3.gen).trans s4).trans s5.gen) (k4.stp s5) r5 q5) q4) q3
        | false =>
          rw [if_neg Bool.false_ne_true]
          exact hq (.bool false) f2 (.bl false) H3 Hs3 ((s1.trans s2).trans s3.gen) (k2.stp s3) rfl q3
      | _ => exact q3.elim) q2) q1) hd
theorem de_chain {a b c : Expr} {op op' : CmpOp} {pos : Pos} {r r' : R2} {o o' : O2} {da db dc : DT} (ho : OpR X (compareOp op) r) (ho' : OpR X (compareOp op') r') (hr : SndR X.K r o) (hr' : SndR X.K r' o')
    (ha : DE X a da) (hb : DE X b db) (hc : DE X c dc) (hm : lastMarks [op, op'] [b, c] = false := by with_unfolding_all rfl) : DE X (.Compare a [op, op'] [b, c] pos) (dChain o o' da db dc) :=
  .mk' (pe_chain ho ho' ha.pe hb.pe hc.pe hm) (snd_chain hr hr' ha.sn hb.sn hc.sn)
theorem dp_chain {a b c : Expr} {op op' : CmpOp} {pos : Pos} {r r' : R2} {o o' : O2} {da db dc : DT} (ho : OpR X (compareOp op) r) (ho' : OpR X (compareOp op') r') (hr : SndR X.K r o) (hr' : SndR X.K r' o')
    (ha : DE X a da) (hb : DE X b db) (hc : DE X c dc) (hm : lastMarks [op, op'] [b, c] = false := by with_unfolding_all rfl) : DP X (.Compare a [op, op'] [b, c] pos) (dTest (dChain o o' da db dc)) :=
  .mk' (pt_chain ho ho' ha.pe hb.pe hc.pe hm) (snd_test (snd_chain hr hr' ha.sn hb.sn hc.sn))
/-! and, or, not, if -/
def dAnd (a b : DTT) : DTT := fun g r f Q => a g r f fun c f1 => if c = true then b g r f1 Q else Q false f1
def dOr (a b : DTT) : DTT := fun g r f Q => a g r f fun c f1 => if c = true then Q true f1 else b g r f1 Q
def dNot (a : DTT) : DTT := fun g r f Q => a g r f fun c f1 => Q (!c) f1
theorem snd_and {t u : TT} {a b : DTT} (ha : SndT K t a) (hb : SndT K u b) : SndT K (tAnd t u) (dAnd a b) := fun g ro f st H Hs Q Q' A hq hd =>
  ha g ro f st H Hs _ _ A (fun c f1 H1 Hs1 s1 k1 q1 => by
    cases c with
    | true => exact hb g ro f1 st H1 Hs1 _ _ (A.step s1 k1) (fun d f2 H2 Hs2 s2 k2 q2 => hq d f2 H2 Hs2 (s1.trans s2) k2 q2) q1
    | false => exact hq false f1 H1 Hs1 s1 k1 q1) hd
theorem snd_or {t u : TT} {a b : DTT} (ha : SndT K t a) (hb : SndT K u b) : SndT K (tOr t u) (dOr a b) := fun g ro f st H Hs Q Q' A hq hd =>
  ha g ro f st H Hs _ _ A (fun c f1 H1 Hs1 s1 k1 q1 => by
    cases c with
    | false => exact hb g ro f1 st H1 Hs1 _ _ (A.step s1 k1) (fun d f2 H2 Hs2 s2 k2 q2 => hq d f2 H2 Hs2 (s1.trans s2) k2 q2) q1
    | true => exact hq true f1 H1 Hs1 s1 k1 q1) hd
theorem snd_not {t : TT} {a : DTT} (ha : SndT K t a) : SndT K (tNot t) (dNot a) := fun g ro f st H Hs Q Q' A hq hd =>
  ha g ro f st H Hs _ _ A (fun c f1 H1 Hs1 s1 k1 q1 => hq (!c) f1 H1 Hs1 s1 k1 q1) hd
theorem dw_and1 {a : Expr} {pos : Pos} {d : DTT} (h : DP X a d) : DW X (.BoolOp .And [a] pos) d := .mk' (pw_and1 h.pt) (h.sn)
theorem dw_or1 {a : Expr} {pos : Pos} {d : DTT} (h : DP X a d) : DW X (.BoolOp .Or [a] pos) d := .mk' (pw_or1 h.pt) (h.sn)
theorem dw_and {a b : Expr} {rest : List Expr} {pos : Pos} {d e : DTT} (h : DP X a d) (h' : DW X (.BoolOp .And (b :: rest) pos) e) : DW X (.BoolOp .And (a :: b :: rest) pos) (dAnd d e) := .mk' (pw_and h.pt h'.pw) (snd_and h.sn h'.sn)
theorem dw_or {a b : Expr} {rest : List Expr} {pos : Pos} {d e : DTT} (h : DP X a d) (h' : DW X (.BoolOp .Or (b :: rest) pos) e) : DW X (.BoolOp .Or (a :: b :: rest) pos) (dOr d e) := .mk' (pw_or h.pt h'.pw) (snd_or h.sn h'.sn)
theorem DW.p {a : Expr} {d : DTT} (h : DW X a d) : DP X a d := .mk' (h.pw.pt) (h.sn)
theorem dp_not {a : Expr} {pos : Pos} {d : DTT} (h : DP X a d) : DP X (.UnaryOp .Not a pos) (dNot d) := .mk' (pt_not h.pt) (snd_not h.sn)
def dAndV (a b : DT) : DT := fun g r f Q => a g r f fun x f1 => match x with
  | .bool c => if c = true then b g r f1 Q else Q (.bool false) f1
  | _ => False
def dOrV (a b : DT) : DT := fun g r f Q => a g r f fun x f1 => match x with
  | .bool c => if c = true then Q (.bool true) f1 else b g r f1 Q
  | _ => False
theorem snd_andV {t u : TE} {a b : DT} (ha : Snd K t a) (hb : Snd K u b) : Snd K (tAndV t u) (dAndV a b) := fun g ro f st H Hs Q Q' A hq hd =>
  ha g ro f st H Hs _ _ A (fun x f1 v H1 Hs1 s1 k1 r1 q1 => by
    cases x with
    | bool c =>
      refine ⟨c, r1, ?_⟩
      cases c with
      | true => exact hb g ro f1 st H1 Hs1 _ _ (A.step s1 k1) (fun d f2 v H2 Hs2 s2 k2 r2 q2 => hq d f2 v H2 Hs2 (s1.trans s2) k2 r2 q2) q1
      | false => exact hq (.bool false) f1 _ H1 Hs1 s1 k1 rfl q1
    | _ => exact q1.elim) hd
theorem snd_orV {t u : TE} {a b : DT} (ha : Snd K t a) (hb : Snd K u b) : Snd K (tOrV t u) (dOrV a b) := fun g ro f st H Hs Q Q' A hq hd =>
  ha g ro f st H Hs _ _ A (fun x f1 v H1 Hs1 s1 k1 r1 q1 => by
    cases x with
    | bool c =>
      refine ⟨c, r1, ?_⟩
      cases c with
      | false => exact hb g ro f1 st H1 Hs1 _ _ (A.step s1 k1) (fun d f2 v H2 Hs2 s2 k2 r2 q2 => hq d f2 v H2 Hs2 (s1.trans s2) k2 r2 q2) q1
      | true => exact hq (.bool true) f1 _ H1 Hs1 s1 k1 rfl q1
    | _ => exact q1.elim) hd
theorem de_one {a : Expr} {op} {pos : Pos} {d : DT} (h : DE X a d) : DE X (.BoolOp op [a] pos) d := .mk' (pe_one h.pe) (h.sn)
theorem de_and {a b : Expr} {rest : List Expr} {pos : Pos} {d e : DT} (h : DE X a d) (h' : DE X (.BoolOp .And (b :: rest) pos) e) : DE X (.BoolOp .And (a :: b :: rest) pos) (dAndV d e) := .mk' (pe_and h.pe h'.pe) (snd_andV h.sn h'.sn)
theorem de_or {a b : Expr} {rest : List Expr} {pos : Pos} {d e : DT} (h : DE X a d) (h' : DE X (.BoolOp .Or (b :: rest) pos) e) : DE X (.BoolOp .Or (a :: b :: rest) pos) (dOrV d e) := .mk' (pe_or h.pe h'.pe) (snd_orV h.sn h'.sn)
def dIf (c : DTT) (a b : DT) : DT := fun g r f Q => c g r f fun k f1 => if k = true then a g r f1 Q else b g r f1 Q
theorem snd_if {tc : TT} {ta tb : TE} {c : DTT} {a b : DT} (hc : SndT K tc c) (ha : Snd K ta a) (hb : Snd K tb b) : Snd K (tIf tc ta tb) (dIf c a b) := fun g ro f st H Hs Q Q' A hq hd =>
  hc g ro f st H Hs _ _ A (fun k f1 H1 Hs1 s1 k1 q1 => by
    cases k with
    | true => exact ha g ro f1 st H1 Hs1 _ _ (A.step s1 k1) (fun d f2 v H2 Hs2 s2 k2 r2 q2 => hq d f2 v H2 Hs2 (s1.trans s2) k2 r2 q2) q1
    | false => exact hb g ro f1 st H1 Hs1 _ _ (A.step s1 k1) (fun d f2 v H2 Hs2 s2 k2 r2 q2 => hq d f2 v H2 Hs2 (s1.trans s2) k2 r2 q2) q1) hd
theorem de_ifExp {c a b : Expr} {pos : Pos} {dc : DTT} {da db : DT} (hc : DP X c dc) (ha : DE X a da) (hb : DE X b db) : DE X (.IfExp c a b pos) (dIf dc da db) := .mk' (pe_ifExp hc.pt ha.pe hb.pe) (snd_if hc.sn ha.sn hb.sn)
/-! argument lists, displays -/
def dNil : DTA := fun _ _ f Q => Q [] f
def dCons (a : DT) (t : DTA) : DTA := fun g r f Q => a g r f fun x f1 => t g r f1 fun xs f2 => Q (x :: xs) f2
theorem snd_nil : SndA K tNil dNil := fun g ro f st H Hs Q Q' A hq hd => hq [] f [] H Hs (Stp.refl A.sub) A.dk rfl hd
theorem snd_cons {ta : TE} {t : TA} {a : DT} {d : DTA} (ha : Snd K ta a) (ht : SndA K t d) : SndA K (tCons ta t) (dCons a d) := fun g ro f st H Hs Q Q' A hq hd =>
  ha g ro f st H Hs _ _ A (fun x f1 v H1 Hs1 s1 k1 r1 q1 => ht g ro f1 st H1 Hs1 _ _ (A.step s1 k1) (fun ds f2 vs H2 Hs2 s2 k2 r2 q2 =>
    hq (x :: ds) f2 (v :: vs) H2 Hs2 (s1.trans s2) k2 ⟨v, vs, rfl, r1.mono s2.ext, r2⟩ q2) q1) hd
theorem da_nil : DA X [] dNil := .mk' (pa_nil) (snd_nil)
theorem da_cons {e : Expr} {es : List Expr} {d : DT} {dl : DTA} (h : DE X e d) (h' : DA X es dl) (hs : starEach (e :: es) X.env = (false, eval e X.env) :: starEach es X.env := by rfl) : DA X (e :: es) (dCons d dl) := .mk' (pa_cons h.pe h'.pa hs) (snd_cons h.sn h'.sn)
def lim : Nat := 1000000
theorem lim_le {n : Nat} (h : n ≤ lim) : n ≤ sizeLine := Nat.le_trans h (by decide)
theorem lim_lt {n : Nat} (h : n ≤ lim) : n < sizeLine := Nat.lt_of_le_of_lt h (by decide)
def dTup (t : DTA) : DT := fun g r f Q => t g r f fun ds f1 => ds.length ≤ lim ∧ Q (.tup ds) f1
theorem RpA.le {H : Hp} {ds : List D} {vs : List V} (h : RpA K H ds vs) (l : ds.length ≤ lim) : vs.length ≤ sizeLine := by rw [← h.length]; exact lim_le l
theorem RpA.lt {H : Hp} {ds : List D} {vs : List V} (h : RpA K H ds vs) (l : ds.length ≤ lim) : vs.length < sizeLine := by rw [← h.length]; exact lim_lt l
theorem rp_tup {H : Hp} {p : Addr} {ds : List D} {vs : List V} (hr : RpA K H ds vs) (hn : H p = none) : Rp K (upd H p (.tup vs)) (.tup ds) (.ref p) :=
  ⟨p, vs, rfl, .inl upd_same, hr.mono fun b u e => by rw [upd_ne (ne_of_none e hn)]; exact e⟩
theorem rp_lst {H : Hp} {p : Addr} {ds : List D} {vs : List V} (hr : RpA K H ds vs) (hn : H p = none) : Rp K (upd H p (.lst vs)) (.lst ds) (.ref p) :=
  ⟨p, vs, rfl, upd_same, hr.mono fun b u e => by rw [upd_ne (ne_of_none e hn)]; exact e⟩
theorem same_none {H Hs : Hp} {p : Addr} (s : Same Hs H) (h : H p = none) : Hs p = none := by
  cases e : Hs p with
  | none => rfl
  | some o => rw [s p o e] at h; cases h
theorem snd_tup {t : TA} {d : DTA} (h : SndA K t d) : Snd K (tTup t) (dTup d) := fun g ro f st H Hs Q Q' A hq hd =>
  h g ro f st H Hs _ _ A (fun ds f1 vs H1 Hs1 s1 k1 r1 q1 => ⟨r1.le q1.1, fun p hp => by
    have al : Stp none H1 Hs1 (upd H1 p (.tup vs)) (upd Hs1 p (.tup vs)) := Stp.alloc s1.sub hp
    exact hq (.tup ds) f1 (.ref p) _ _ (s1.trans al.gen) (k1.stp al) (rp_tup r1 (same_none s1.sub hp)) q1.2⟩) hd
theorem de_tup {es : List Expr} {x1} {pos : Pos} {d : DTA} (h : DA X es d) : DE X (.Tuple es x1 pos) (dTup d) := .mk' (pe_tup h.pa) (snd_tup h.sn)
def dLst (t : DTA) : DTA := fun g r f Q => t g r f fun ds f1 => ds.length ≤ lim ∧ Q ds f1
theorem snd_lst {t : TA} {d : DTA} (h : SndA K t d) : SndL K (tLst t) (dLst d) := fun g ro f st H Hs Q Q' A hq hd =>
  h g ro f st H Hs _ _ A (fun ds f1 vs H1 Hs1 s1 k1 r1 q1 => ⟨r1.le q1.1, fun p hp => by
    have al : Stp none H1 Hs1 (upd H1 p (.lst vs)) Hs1 := Stp.lay s1.sub hp
    refine hq ds f1 p vs _ _ (s1.trans al.gen) (k1.stp al) ?_ (same_none s1.sub hp) upd_same r1 q1.2
    cases e : H p with
    | none => rfl
    | some o =>
      obtain ⟨o', e'⟩ := s1.there p o e
      rw [e'] at hp; cases hp⟩) hd
theorem dl_lst {es : List Expr} {pos : Pos} {d : DTA} (h : DA X es d) : DL' X (.List es pos) (dLst d) := .mk' (pe_lst h.pa) (snd_lst h.sn)
/-! plain results -/
theorem SndR.pure {r : R2} {op : O2} (h : ∀ H Hs x y vx vy (Q : VK) (Q' : D → Prop), Same Hs H → Rp K Hs x vx → Rp K Hs y vy → (∀ z v, Rp K Hs z v → Q' z → Q v H) → op x y Q' → r vx vy H Q) : SndR K r op := fun H Hs x y vx vy Q Q' s rx ry hq hd =>
  h H Hs x y vx vy Q Q' s rx ry (fun z v rz q => hq z v H Hs (Stp.refl s) rz q) hd
def oI0 (g : Int → Int → D) : O2 := fun x y Q => match x, y with
  | .int i, .int j => Q (g i j)
  | _, _ => False
def oI (C : Int → Int → Prop) (g : Int → Int → D) : O2 := fun x y Q => match x, y with
  | .int i, .int j => C i j ∧ Q (g i j)
  | _, _ => False
theorem sr_I0 {g : Int → Int → V} {g' : Int → Int → D} (hg : ∀ i j H, Rp K H (g' i j) (g i j)) : SndR K (rI0 g) (oI0 g') := SndR.pure fun H Hs x y vx vy Q Q' s rx ry hq hd => by
  cases x <;> try exact hd.elim
  cases y <;> try exact hd.elim
  exact ⟨_, _, rx, ry, hq _ _ (hg _ _ _) hd⟩
theorem sr_I {C : Int → Int → Prop} {g : Int → Int → V} {g' : Int → Int → D} (hg : ∀ i j H, Rp K H (g' i j) (g i j)) : SndR K (rI C g) (oI C g') := SndR.pure fun H Hs x y vx vy Q Q' s rx ry hq hd => by
  cases x <;> try exact hd.elim
  cases y <;> try exact hd.elim
  exact ⟨_, _, rx, ry, hd.1, hq _ _ (hg _ _ _) hd.2⟩
def oAddS : O2 := fun x y Q => match x, y with
  | .str i, .str j => i.length + j.length ≤ lim ∧ Q (.str (i ++ j))
  | _, _ => False
theorem sr_addS : SndR K (fun x y H Q => ∃ i j, x = .str i ∧ y = .str j ∧ i.length + j.length ≤ sizeLine ∧ Q (.str (i ++ j)) H) oAddS := SndR.pure fun H Hs x y vx vy Q Q' s rx ry hq hd => by
  cases x <;> try exact hd.elim
  cases y <;> try exact hd.elim
  exact ⟨_, _, rx, ry, lim_le hd.1, hq (.str _) _ rfl hd.2⟩
def oCat : O2 := fun x y Q => match x, y with
  | .lst i, .lst j => i.length + j.length ≤ lim ∧ Q (.lst (i ++ j))
  | _, _ => False
theorem sr_cat : SndR K rCat oCat := fun H Hs x y vx vy Q Q' s rx ry hq hd => by
  cases x <;> try exact hd.elim
  cases y <;> try exact hd.elim
  obtain ⟨a, vs, rfl, h1, h2⟩ := rx
  obtain ⟨b, ws, rfl, h3, h4⟩ := ry
  refine ⟨a, b, vs, ws, rfl, rfl, s _ _ h1, s _ _ h3, ?_, fun p hp => ?_⟩
  · rw [← h2.length, ← h4.length]; exact lim_le hd.1
  · exact hq _ _ _ _ (Stp.alloc s hp) (rp_lst (h2.append h4) (same_none s hp)) hd.2
def oCatT : O2 := fun x y Q => match x, y with
  | .tup i, .tup j => i.length + j.length ≤ lim ∧ Q (.tup (i ++ j))
  | _, _ => False
theorem sr_catT : SndR K (rCatA K) oCatT := fun H Hs x y vx vy Q Q' s rx ry hq hd => by
  cases x <;> try exact hd.elim
  cases y <;> try exact hd.elim
  obtain ⟨a, vs, rfl, h1, h2⟩ := rx
  obtain ⟨b, ws, rfl, h3, h4⟩ := ry
  refine ⟨a, b, vs, ws, rfl, rfl, (tp_sq s h1), (tp_sq s h3), ?_, fun e => ?_, fun _ e => ?_, fun _ _ p hp => ?_⟩
  · rw [← h2.length, ← h4.length]; exact lim_le hd.1
  · have := h2.append h4
    rw [e] at this
    exact hq (.tup _) _ _ _ (Stp.refl s) ⟨b, ws, rfl, h3, this⟩ hd.2
  · have := h2.append h4
    rw [e, List.append_nil] at this
    exact hq (.tup _) _ _ _ (Stp.refl s) ⟨a, vs, rfl, h1, this⟩ hd.2
  · exact hq _ _ _ _ (Stp.alloc s hp) (rp_tup (h2.append h4) (same_none s hp)) hd.2
/-- x + y of any of the four kinds -/
def oAdd : O2 := fun x y Q => match x, y with
  | .int i, .int j => Q (.int (i + j))
  | .str i, .str j => i.length + j.length ≤ lim ∧ Q (.str (i ++ j))
  | .lst i, .lst j => i.length + j.length ≤ lim ∧ Q (.lst (i ++ j))
  | .tup i, .tup j => i.length + j.length ≤ lim ∧ Q (.tup (i ++ j))
  | _, _ => False
def rAddA (K : PySem.W.Frag) : R2 := fun x y H Q => rI0 (fun i j => .int (i + j)) x y H Q ∨ ((∃ i j, x = .str i ∧ y = .str j ∧ i.length + j.length ≤ sizeLine ∧ Q (.str (i ++ j)) H) ∨ (rCat x y H Q ∨ rCatA K x y H Q))
theorem op_addA : OpR X (binaryOp .Add) (rAddA X.K) := op_add.or (op_add_str.or (op_cat.or op_catA))
theorem sr_add : SndR K (rAddA K) oAdd := ((sr_I0 (g' := fun i j => .int (i + j)) fun _ _ _ => rfl).or (sr_addS.or (sr_cat.or sr_catT))).weak fun x y Q h => by
  cases x <;> cases y <;> first | exact h.elim | exact .inl h | exact .inr (.inl h) | exact .inr (.inr (.inl h)) | exact .inr (.inr (.inr h))
theorem de_add {a b : Expr} {pos : Pos} {da db : DT} (ha : DE X a da) (hb : DE X b db) : DE X (.BinOp a .Add b pos) (dOp oAdd da db) := de_op op_addA sr_add ha hb
theorem de_sub {a b : Expr} {pos : Pos} {da db : DT} (ha : DE X a da) (hb : DE X b db) : DE X (.BinOp a .Sub b pos) (dOp (oI0 fun i j => .int (i - j)) da db) := de_op op_sub (sr_I0 fun _ _ _ => rfl) ha hb
theorem de_mul {a b : Expr} {pos : Pos} {da db : DT} (ha : DE X a da) (hb : DE X b db) : DE X (.BinOp a .Mult b pos) (dOp (oI CMul fun i j => .int (i * j)) da db) := de_op op_mul (sr_I fun _ _ _ => rfl) ha hb
theorem de_mod {a b : Expr} {pos : Pos} {da db : DT} (ha : DE X a da) (hb : DE X b db) : DE X (.BinOp a .Mod b pos) (dOp (oI (fun _ j => 0 < j) fun i j => .int (i % j)) da db) := de_op op_mod (sr_I fun _ _ _ => rfl) ha hb
theorem de_fdiv {a b : Expr} {pos : Pos} {da db : DT} (ha : DE X a da) (hb : DE X b db) : DE X (.BinOp a .FloorDiv b pos) (dOp (oI CDiv fun i j => .int (i / j)) da db) := de_op op_fdiv (sr_I fun _ _ _ => rfl) ha hb
def dNeg (a : DT) : DT := fun g r f Q => a g r f fun x f1 => match x with
  | .int i => Q (.int (-i)) f1
  | _ => False
theorem de_neg {a : Expr} {pos : Pos} {d : DT} (h : DE X a d) : DE X (.UnaryOp .USub a pos) (dNeg d) := .mk' (pe_un un_neg h.pe) (fun g ro f st H Hs Q Q' A hq hd =>
  h.sn g ro f st H Hs _ _ A (fun x f1 v H1 Hs1 s1 k1 r1 q1 => by
    cases x <;> try exact q1.elim
    exact ⟨_, r1, hq (.int (-_)) f1 _ H1 Hs1 s1 k1 rfl q1⟩) hd)
/-! == and != -/
mutual
def D.py : D → PyData
  | .none => .none
  | .bool b => .bool b
  | .int i => .int i
  | .str x => .str x
  | .tup ds => .tuple (pyA ds)
  | .lst ds => .list (pyA ds)
  | .dct _ _ => .dict []
  | .obj _ _ _ => .dict []
  | .exn _ _ _ => .dict []
  | .any _ => .dict []
def pyA : List D → List PyData
  | [] => []
  | d :: ds => d.py :: pyA ds
end
mutual
theorem Rp.dp {H : Hp} : ∀ (d : D) (v : V), Rp K H d v → d.py.canLay0 = true → Dp K H v d.py
  | .none, _, h, _ => by cases h; exact .non
  | .bool _, _, h, _ => by cases h; exact .bl _
  | .int _, _, h, _ => by cases h; exact .int _
  | .str _, _, h, _ => by cases h; exact .str _
  | .tup ds, _, ⟨a, vs, h1, h2, h3⟩, c => by cases h1; exact .tup h2.sq (RpA.dp ds vs h3 c)
  | .lst ds, _, ⟨a, vs, h1, h2, h3⟩, c => by cases h1; exact .lst (SqL.of h2) (RpA.dp ds vs h3 c)
  | .dct _ _, _, _, c => by simp [D.py, PyData.canLay0] at c
  | .obj _ _ _, _, _, c => by simp [D.py, PyData.canLay0] at c
  | .exn _ _ _, _, _, c => by simp [D.py, PyData.canLay0] at c
  | .any _, _, _, c => by simp [D.py, PyData.canLay0] at c
theorem RpA.dp {H : Hp} : ∀ (ds : List D) (vs : List V), RpA K H ds vs → PyData.canLayAll0 (pyA ds) = true → DpAll K H vs (pyA ds)
  | [], _, h, _ => by cases h; exact .nil
  | d :: ds, _, ⟨v, r, h1, h2, h3⟩, c => by
    have c' : d.py.canLay0 = true ∧ PyData.canLayAll0 (pyA ds) = true := Bool.and_eq_true_iff.mp c
    cases h1
    exact .cons (Rp.dp d v h2 c'.1) (RpA.dp ds r h3 c'.2)
end
theorem Rp.dpS {H : Hp} {d : D} {v : V} (h : Rp K H d v) (c : SeqAt.shaped d.py = true) : Dp K H v d.py := h.dp d v (Bool.and_eq_true_iff.mp c).1
theorem dp_mono {H H' : Hp} (e : Same H H') {v : V} {d : PyData} (h : Dp K H v d) : Dp K H' v d := by
  refine Dp.rec (motive_1 := fun v d _ => Dp K H' v d) (motive_2 := fun vs ds _ => DpAll K H' vs ds) .non .bl .int .str ?_ ?_ .nil ?_ h
  · intro a xs ds h1 _ h2; exact .lst (e.seq h1) h2
  · intro a xs ds h1 _ h2; exact .tup (sqT_mono e h1) h2
  · intro v vs d ds _ _ h1 h2; exact .cons h1 h2
def xb (neg b : Bool) : Bool := match neg with
  | true => !b
  | false => b
def seq : D → D → Option Bool
  | .none, .none => some true
  | .none, .int _ => some false
  | .none, .bool _ => some false
  | .none, .str _ => some false
  | .int _, .none => some false
  | .bool _, .none => some false
  | .str _, .none => some false
  | .int a, .int b => some (decide (a = b))
  | .bool a, .bool b => some (decide (a = b))
  | .str a, .str b => some (decide (a = b))
  | .int _, .str _ => some false
  | .str _, .int _ => some false
  | .bool _, .str _ => some false
  | .str _, .bool _ => some false
  | _, _ => Option.none
def oEq (neg : Bool) : O2 := fun x y Q => match seq x y with
  | some b => Q (.bool (xb neg b))
  | Option.none => SeqAt.shaped x.py = true ∧ SeqAt.shaped y.py = true ∧ Q (.bool (xb neg (PyData.eqv x.py y.py)))
theorem seq_eqv : ∀ (x y : D) (b : Bool), seq x y = some b → PyData.eqv x.py y.py = b := by
  have es : ∀ a b : Str, (a == b) = decide (a = b) := fun a b => Bool.beq_eq_decide_eq a b
  intro x y b h
  cases x <;> cases y <;> simp only [seq, Option.some.injEq, reduceCtorEq] at h <;> subst h <;> simp [D.py, PyData.eqv]
  all_goals first | exact es _ _ | exact Bool.beq_eq_decide_eq _ _
theorem oEq_data {x y : D} {neg : Bool} {Q : D → Prop} (hx : SeqAt.shaped x.py = true) (hy : SeqAt.shaped y.py = true) (h : Q (.bool (xb neg (PyData.eqv x.py y.py)))) : oEq neg x y Q := by
  unfold oEq
  split
  · next b e => rw [seq_eqv x y b e] at h; exact h
  · exact ⟨hx, hy, h⟩
theorem sr_eqD : SndR K (rEqD K) (fun x y Q => SeqAt.shaped x.py = true ∧ SeqAt.shaped y.py = true ∧ Q (.bool (PyData.eqv x.py y.py))) := SndR.pure fun H Hs x y vx vy Q Q' s rx ry hq hd =>
  ⟨x.py, y.py, dp_mono s (rx.dpS hd.1), dp_mono s (ry.dpS hd.2.1), hd.1, hd.2.1, hq (.bool _) _ rfl hd.2.2⟩
theorem sr_neD : SndR K (rNeD K) (fun x y Q => SeqAt.shaped x.py = true ∧ SeqAt.shaped y.py = true ∧ Q (.bool (!PyData.eqv x.py y.py))) := SndR.pure fun H Hs x y vx vy Q Q' s rx ry hq hd =>
  ⟨x.py, y.py, dp_mono s (rx.dpS hd.1), dp_mono s (ry.dpS hd.2.1), hd.1, hd.2.1, hq (.bool _) _ rfl hd.2.2⟩
theorem seq_V {H : Hp} : ∀ (x y : D) (vx vy : V) (b : Bool), Rp K H x vx → Rp K H y vy → seq x y = some b → scal vx vy = true ∧ decide (vx = vy) = b := by
  intro x y vx vy b rx ry h
  cases x <;> cases y <;> simp only [seq, Option.some.injEq, reduceCtorEq] at h <;> subst h <;> cases rx <;> cases ry <;> simp [scal]
theorem sr_eqS : SndR K rEq (fun x y Q => ∃ b, seq x y = some b ∧ Q (.bool b)) := SndR.pure fun H Hs x y vx vy Q Q' s rx ry hq hd => by
  obtain ⟨b, e, h⟩ := hd
  obtain ⟨h1, h2⟩ := seq_V x y vx vy b rx ry e
  exact ⟨h1, hq (.bool b) _ (by rw [h2]; rfl) h⟩
theorem sr_neS : SndR K rNe (fun x y Q => ∃ b, seq x y = some b ∧ Q (.bool (!b))) := SndR.pure fun H Hs x y vx vy Q Q' s rx ry hq hd => by
  obtain ⟨b, e, h⟩ := hd
  obtain ⟨h1, h2⟩ := seq_V x y vx vy b rx ry e
  exact ⟨h1, hq (.bool (!b)) _ (by rw [h2]; rfl) h⟩
def rEqA (K : PySem.W.Frag) : R2 := fun x y H Q => rEq x y H Q ∨ rEqD K x y H Q
def rNeA (K : PySem.W.Frag) : R2 := fun x y H Q => rNe x y H Q ∨ rNeD K x y H Q
theorem sr_eq : SndR K (rEqA K) (oEq false) := (sr_eqS.or sr_eqD).weak fun x y Q h => by
  unfold oEq at h
  simp only [xb] at h
  split at h
  · next b e => exact .inl ⟨b, e, h⟩
  · exact .inr h
theorem sr_ne : SndR K (rNeA K) (oEq true) := (sr_neS.or sr_neD).weak fun x y Q h => by
  unfold oEq at h
  simp only [xb] at h
  split at h
  · next b e => exact .inl ⟨b, e, h⟩
  · exact .inr h
theorem de_eq {a b : Expr} {pos : Pos} {da db : DT} (hu : X.A.units + 64 < cLine) (ha : DE X a da) (hb : DE X b db) : DE X (.Compare a [.Eq] [b] pos) (dOp (oEq false) da db) := de_cmp (op_eq.or (op_eqD hu)) sr_eq ha hb (nomark _)
theorem de_ne {a b : Expr} {pos : Pos} {da db : DT} (hu : X.A.units + 64 < cLine) (ha : DE X a da) (hb : DE X b db) : DE X (.Compare a [.NotEq] [b] pos) (dOp (oEq true) da db) := de_cmp (op_ne.or (op_neD hu)) sr_ne ha hb (nomark _)
theorem dp_eq {a b : Expr} {pos : Pos} {da db : DT} (hu : X.A.units + 64 < cLine) (ha : DE X a da) (hb : DE X b db) : DP X (.Compare a [.Eq] [b] pos) (dTest (dOp (oEq false) da db)) := dp_cmp (op_eq.or (op_eqD hu)) sr_eq ha hb (nomark _)
theorem dp_ne {a b : Expr} {pos : Pos} {da db : DT} (hu : X.A.units + 64 < cLine) (ha : DE X a da) (hb : DE X b db) : DP X (.Compare a [.NotEq] [b] pos) (dTest (dOp (oEq true) da db)) := dp_cmp (op_ne.or (op_neD hu)) sr_ne ha hb (nomark _)
/-! < <= > >= of numbers -/
theorem de_lt {a b : Expr} {pos : Pos} {da db : DT} (ha : DE X a da) (hb : DE X b db) : DE X (.Compare a [.Lt] [b] pos) (dOp (oI0 fun i j => .bool (decide (i < j))) da db) := de_cmp op_lt (sr_I0 fun _ _ _ => rfl) ha hb (nomark _)
theorem de_le {a b : Expr} {pos : Pos} {da db : DT} (ha : DE X a da) (hb : DE X b db) : DE X (.Compare a [.LtE] [b] pos) (dOp (oI0 fun i j => .bool (decide (i ≤ j))) da db) := de_cmp op_le (sr_I0 fun _ _ _ => rfl) ha hb (nomark _)
theorem dp_lt {a b : Expr} {pos : Pos} {da db : DT} (ha : DE X a da) (hb : DE X b db) : DP X (.Compare a [.Lt] [b] pos) (dTest (dOp (oI0 fun i j => .bool (decide (i < j))) da db)) := dp_cmp op_lt (sr_I0 fun _ _ _ => rfl) ha hb (nomark _)
theorem dp_le {a b : Expr} {pos : Pos} {da db : DT} (ha : DE X a da) (hb : DE X b db) : DP X (.Compare a [.LtE] [b] pos) (dTest (dOp (oI0 fun i j => .bool (decide (i ≤ j))) da db)) := dp_cmp op_le (sr_I0 fun _ _ _ => rfl) ha hb (nomark _)
theorem dp_gt {a b : Expr} {pos : Pos} {da db : DT} (ha : DE X a da) (hb : DE X b db) : DP X (.Compare a [.Gt] [b] pos) (dTest (dOp (oI0 fun i j => .bool (decide (j < i))) da db)) := dp_cmp op_gt (sr_I0 fun _ _ _ => rfl) ha hb (nomark _)
/-- a <= b <= c of numbers -/
theorem de_lele {a b c : Expr} {pos : Pos} {da db dc : DT} (ha : DE X a da) (hb : DE X b db) (hc : DE X c dc) (hm : lastMarks [CmpOp.LtE, CmpOp.LtE] [b, c] = false := by with_unfolding_all rfl) : DE X (.Compare a [.LtE, .LtE] [b, c] pos) (dChain (oI0 fun i j => .bool (decide (i ≤ j))) (oI0 fun i j => .bool (decide (i ≤ j))) da db dc) := de_chain op_le op_le (sr_I0 fun _ _ _ => rfl) (sr_I0 fun _ _ _ => rfl) ha hb hc hm
theorem dp_lele {a b c : Expr} {pos : Pos} {da db dc : DT} (ha : DE X a da) (hb : DE X b db) (hc : DE X c dc) (hm : lastMarks [CmpOp.LtE, CmpOp.LtE] [b, c] = false := by with_unfolding_all rfl) : DP X (.Compare a [.LtE, .LtE] [b, c] pos) (dTest (dChain (oI0 fun i j => .bool (decide (i ≤ j))) (oI0 fun i j => .bool (decide (i ≤ j))) da db dc)) := dp_chain op_le op_le (sr_I0 fun _ _ _ => rfl) (sr_I0 fun _ _ _ => rfl) ha hb hc hm
/-! is None -/
def D.isN : D → Bool
  | .none => true
  | .any v => decide (v = .non)
  | _ => false
def oIsN (neg : Bool) : O2 := fun x y Q => match y with
  | .none => Q (.bool (xb neg x.isN))
  | _ => False
theorem isN_V {H : Hp} : ∀ (x : D) (v : V), Rp K H x v → decide (v = .non) = x.isN := by
  intro x v h
  cases x <;> try (cases h; rfl)
  · obtain ⟨a, vs, rfl, _⟩ := h; rfl
  · obtain ⟨a, vs, rfl, _⟩ := h; rfl
  · obtain ⟨a, vs, rfl, _⟩ := h; rfl
  · obtain ⟨C, a, dx, vs, _, rfl, _⟩ := h; rfl
  · obtain ⟨C, a, dx, vs, _, rfl, _⟩ := h; rfl
theorem sr_isN : SndR K (fun x y H Q => y = .non ∧ Q (.bl (decide (x = .non))) H) (oIsN false) := SndR.pure fun H Hs x y vx vy Q Q' s rx ry hq hd => by
  cases y <;> try exact hd.elim
  refine ⟨ry, ?_⟩
  rw [isN_V _ _ rx]
  exact hq (.bool _) _ rfl (by simpa [oIsN, xb] using hd)
theorem sr_notN : SndR K (fun x y H Q => y = .non ∧ Q (.bl (!decide (x = .non))) H) (oIsN true) := SndR.pure fun H Hs x y vx vy Q Q' s rx ry hq hd => by
  cases y <;> try exact hd.elim
  refine ⟨ry, ?_⟩
  rw [isN_V _ _ rx]
  exact hq (.bool _) _ rfl (by simpa [oIsN, xb] using hd)
theorem dp_isN {a b : Expr} {pos : Pos} {da db : DT} (ha : DE X a da) (hb : DE X b db) : DP X (.Compare a [.Is] [b] pos) (dTest (dOp (oIsN false) da db)) := dp_cmp op_isN sr_isN ha hb (nomark _)
theorem dp_notN {a b : Expr} {pos : Pos} {da db : DT} (ha : DE X a da) (hb : DE X b db) : DP X (.Compare a [.IsNot] [b] pos) (dTest (dOp (oIsN true) da db)) := dp_cmp op_notN sr_notN ha hb (nomark _)
end
end DL
namespace DL
open PySem PySem.Spec PyProof.Rows L2
section
variable {X : Cx} {K : PySem.W.Frag}
/-! calls of built-ins by values -/
abbrev OA := List D → (D → Prop) → Prop
def SndC (K : PySem.W.Frag) (r : List V → Hp → VK → Prop) (op : OA) : Prop := ∀ (H Hs : Hp) (ds : List D) (vs : List V) (Q : VK) (Q' : D → Prop), Same Hs H → RpA K Hs ds vs →
  (∀ z v H' Hs', Stp none H Hs H' Hs' → Rp K Hs' z v → Q' z → Q v H') → op ds Q' → r vs H Q
def dCB (op : OA) (t : DTA) : DT := fun g r f Q => t g r f fun ds f1 => op ds fun z => Q z f1
theorem snd_cb {r : List V → Hp → VK → Prop} {op : OA} {t : TA} {d : DTA} (hr : SndC K r op) (ht : SndA K t d) : Snd K (tCB r t) (dCB op d) := fun g ro f st H Hs Q Q' A hq hd =>
  ht g ro f st H Hs _ _ A (fun ds f1 vs H1 Hs1 s1 k1 r1 q1 => hr H1 Hs1 ds vs Q _ s1.sub r1 (fun z v H2 Hs2 s2 r2 q2 => hq z f1 v H2 Hs2 (s1.trans s2.gen) (k1.stp s2) r2 q2) q1) hd
theorem SndC.or {r r' : List V → Hp → VK → Prop} {op op' : OA} (h : SndC K r op) (h' : SndC K r' op') : SndC K (fun xs H Q => r xs H Q ∨ r' xs H Q) (fun xs Q => op xs Q ∨ op' xs Q) := fun H Hs ds vs Q Q' s rx hq hd => by
  rcases hd with hd | hd
  · exact .inl (h H Hs ds vs Q Q' s rx hq hd)
  · exact .inr (h' H Hs ds vs Q Q' s rx hq hd)
theorem SndC.weak {r : List V → Hp → VK → Prop} {op op' : OA} (h : SndC K r op) (w : ∀ ds Q, op' ds Q → op ds Q) : SndC K r op' := fun H Hs ds vs Q Q' s rx hq hd => h H Hs ds vs Q Q' s rx hq (w ds Q' hd)
theorem SndC.pure {r : List V → Hp → VK → Prop} {op : OA} (h : ∀ H Hs ds vs (Q : VK) (Q' : D → Prop), Same Hs H → RpA K Hs ds vs → (∀ z v, Rp K Hs z v → Q' z → Q v H) → op ds Q' → r vs H Q) : SndC K r op := fun H Hs ds vs Q Q' s rx hq hd =>
  h H Hs ds vs Q Q' s rx (fun z v rz q => hq z v H Hs (Stp.refl s) rz q) hd
theorem de_callB {x : Str} {id : String} {p pos : Pos} {e : Expr} {es : List Expr} {d : DTA} {r : List V → Hp → VK → Prop} {op : OA} (hc : CallR X (.builtin id) r) (hr : SndC X.K r op) (hg : Gl X x) (hm : X.mg x = none) (hv : bootBuiltins x = some (.builtin id)) (ha : DA X (e :: es) d)
    (hn : x ≠ "__name__" := by decide) (hdb : (x == ("__debug__" : Str)) = false := by decide) (hs : starEach (e :: es) X.env = (false, eval e X.env) :: starEach es X.env := by rfl)
    (hpl : (backTo pos (starEach es X.env)).any (·.1) = false := by rfl) : DE X (.Call (.Name x p) (e :: es) [] pos) (dCB op d) :=
  .mk' (pe_callB hc hg hm hv ha.pa hn hdb hs hpl) (snd_cb hr ha.sn)
theorem de_callTy {x : Str} {T : String} {p pos : Pos} {e : Expr} {es : List Expr} {d : DTA} {r : List V → Hp → VK → Prop} {op : OA} (hc : CallR X (.type T) r) (hr : SndC X.K r op) (hg : Gl X x) (hm : X.mg x = none) (hv : bootBuiltins x = some (.type T)) (ha : DA X (e :: es) d)
    (hn : x ≠ "__name__" := by decide) (hdb : (x == ("__debug__" : Str)) = false := by decide) (hs : starEach (e :: es) X.env = (false, eval e X.env) :: starEach es X.env := by rfl)
    (hpl : (backTo pos (starEach es X.env)).any (·.1) = false := by rfl) : DE X (.Call (.Name x p) (e :: es) [] pos) (dCB op d) :=
  .mk' (pe_callTy hc hg hm hv ha.pa hn hdb hs hpl) (snd_cb hr ha.sn)
/-- len -/
def oLen : OA := fun ds Q => match ds with
  | [.str x] => x.length ≤ lim ∧ Q (.int x.length)
  | [.lst xs] => Q (.int xs.length)
  | [.tup xs] => Q (.int xs.length)
  | _ => False
theorem rpA1 {H : Hp} {d : D} {vs : List V} (h : RpA K H [d] vs) : ∃ v, vs = [v] ∧ Rp K H d v := by
  obtain ⟨v, r, h1, h2, h3⟩ := h
  cases h3
  exact ⟨v, h1, h2⟩
theorem rpA2 {H : Hp} {d e : D} {vs : List V} (h : RpA K H [d, e] vs) : ∃ v w, vs = [v, w] ∧ Rp K H d v ∧ Rp K H e w := by
  obtain ⟨v, r, h1, h2, h3⟩ := h
  obtain ⟨w, rfl, h4⟩ := rpA1 h3
  exact ⟨v, w, h1, h2, h4⟩
theorem sc_len : SndC K (fun xs H Q => ∃ x n, xs = [x] ∧ LenV K x H n ∧ Q (.int n) H) oLen := SndC.pure fun H Hs ds vs Q Q' s rx hq hd => by
  unfold oLen at hd
  split at hd
  · obtain ⟨v, rfl, h⟩ := rpA1 rx
    cases h
    exact ⟨_, _, rfl, ⟨lim_le hd.1, rfl⟩, hq (.int _) _ rfl hd.2⟩
  · obtain ⟨v, rfl, a, vs, rfl, h1, h2⟩ := rpA1 rx
    exact ⟨_, _, rfl, .inl ⟨vs, SqL.of (s _ _ h1), rfl⟩, hq (.int _) _ (by rw [h2.length]; rfl) hd⟩
  · obtain ⟨v, rfl, a, vs, rfl, h1, h2⟩ := rpA1 rx
    exact ⟨_, _, rfl, .inr ⟨vs, (tp_sq s h1), rfl⟩, hq (.int _) _ (by rw [h2.length]; rfl) hd⟩
  · exact hd.elim
theorem de_len {p pos : Pos} {e : Expr} {d : DTA} (hm : X.mg "len" = none) (ha : DA X [e] d) (hg : Gl X "len" := by rfl) (hs : starEach [e] X.env = [(false, eval e X.env)] := by rfl) : DE X (.Call (.Name "len" p) [e] [] pos) (dCB oLen d) :=
  de_callB call_len sc_len hg hm PySem.boot_len ha (by decide) (by decide) hs (by rfl)
/-- all, any -/
def oAll (all : Bool) : OA := fun ds Q => match ds with
  | [.lst xs] => ∃ bs : List Bool, xs = bs.map D.bool ∧ Q (.bool (if all then bs.all id else bs.any id))
  | _ => False
theorem sc_all : SndC K (rAll K) (oAll true) := SndC.pure fun H Hs ds vs Q Q' s rx hq hd => by
  unfold oAll at hd
  split at hd
  · obtain ⟨bs, rfl, q⟩ := hd
    obtain ⟨v, rfl, a, vs, rfl, h1, h2⟩ := rpA1 rx
    have e := h2.bools
    subst e
    exact ⟨a, bs, rfl, SqL.of (s _ _ h1), hq (.bool _) _ rfl q⟩
  · exact hd.elim
theorem sc_any : SndC K (rAny K) (oAll false) := SndC.pure fun H Hs ds vs Q Q' s rx hq hd => by
  unfold oAll at hd
  split at hd
  · obtain ⟨bs, rfl, q⟩ := hd
    obtain ⟨v, rfl, a, vs, rfl, h1, h2⟩ := rpA1 rx
    have e := h2.bools
    subst e
    exact ⟨a, bs, rfl, SqL.of (s _ _ h1), hq (.bool _) _ rfl q⟩
  · exact hd.elim
/-- min(m, n), max(m, n) -/
def oMin2 : OA := fun ds Q => match ds with
  | [.int i, .int j] => Q (.int (if j < i then j else i))
  | _ => False
theorem sc_min2 : SndC K (fun xs H Q => ∃ i j, xs = [.int i, .int j] ∧ Q (.int (if j < i then j else i)) H) oMin2 := SndC.pure fun H Hs ds vs Q Q' s rx hq hd => by
  unfold oMin2 at hd
  split at hd
  · obtain ⟨v, w, rfl, h1, h2⟩ := rpA2 rx
    cases h1
    cases h2
    exact ⟨_, _, rfl, hq (.int _) _ rfl hd⟩
  · exact hd.elim
/-- int(n) -/
def oInt : OA := fun ds Q => match ds with
  | [.int i] => Q (.int i)
  | [.bool b] => Q (.int (if b then 1 else 0))
  | _ => False
theorem sc_int : SndC K (fun xs H Q => (∃ i, xs = [.int i] ∧ Q (.int i) H) ∨ ∃ k, xs = [.bl k] ∧ Q (.int (if k then 1 else 0)) H) oInt := SndC.pure fun H Hs ds vs Q Q' s rx hq hd => by
  unfold oInt at hd
  split at hd
  · obtain ⟨v, rfl, h1⟩ := rpA1 rx
    cases h1
    exact .inl ⟨_, rfl, hq (.int _) _ rfl hd⟩
  · obtain ⟨v, rfl, h1⟩ := rpA1 rx
    cases h1
    exact .inr ⟨_, rfl, hq (.int _) _ rfl hd⟩
  · exact hd.elim
/-- tuple(xs) -/
def oTuple : OA := fun ds Q => match ds with
  | [.lst xs] => Q (.tup xs)
  | [.tup xs] => Q (.tup xs)
  | _ => False
theorem sc_tuple : SndC K (fun xs H Q => ∃ p ys, xs = [.ref p] ∧ ((SqL K H p ys ∧ ∀ l, H l = none → Q (.ref l) (upd H l (.tup ys))) ∨ (SqT K H p ys ∧ Q (.ref p) H))) oTuple := fun H Hs ds vs Q Q' s rx hq hd => by
  unfold oTuple at hd
  split at hd
  · obtain ⟨v, rfl, a, vs, rfl, h1, h2⟩ := rpA1 rx
    exact ⟨a, vs, rfl, .inl ⟨SqL.of (s _ _ h1), fun l hl => hq (.tup _) _ _ _ (Stp.alloc s hl) (rp_tup h2 (same_none s hl)) hd⟩⟩
  · obtain ⟨v, rfl, a, vs, rfl, h1, h2⟩ := rpA1 rx
    exact ⟨a, vs, rfl, .inr ⟨(tp_sq s h1), hq (.tup _) _ _ _ (Stp.refl s) ⟨a, vs, rfl, h1, h2⟩ hd⟩⟩
  · exact hd.elim
/-- isinstance(x, T), T built in; (T1, T2) -/
def D.tyN : D → Option String
  | .none => some "NoneType"
  | .bool _ => some "bool"
  | .int _ => some "int"
  | .str _ => some "str"
  | .tup _ => some "tuple"
  | .lst _ => some "list"
  | .dct _ _ => some "dict"
  | _ => Option.none
theorem tyT {H : Hp} {a : Addr} {vs : List V} (h : SqT K H a vs) : TyX K H (.ref a) (.type "tuple") := by
  rcases h with (h | ⟨o, h⟩) | ⟨o, its, n, h1, h2, _⟩
  · exact .base (.tup h)
  · exact .fTuple h
  · exact .kTuple h1 h2
theorem tyN_ok {H : Hp} {d : D} {v : V} {n : String} (h : Rp K H d v) (e : d.tyN = some n) : TyX K H v (.type n) := by
  cases d <;> simp only [D.tyN, Option.some.injEq, reduceCtorEq] at e <;> subst e
  · cases h; exact .base .non
  · cases h; exact .base (.bl _)
  · cases h; exact .base (.int _)
  · cases h; exact .base (.str _)
  · obtain ⟨a, vs, rfl, h1, _⟩ := h
    exact tyT h1.sq
  · obtain ⟨a, vs, rfl, h1, _⟩ := h; exact .base (.lst h1)
  · obtain ⟨a, vs, rfl, h1, _⟩ := h; exact .base (.dK h1)
def oIsi : OA := fun ds Q => match ds with
  | [x, .any (.ty n)] => ∃ t b, x.tyN = some t ∧ kitB t n = some b ∧ Q (.bool b)
  | _ => False
theorem sc_isi : SndC K (rIsi K) oIsi := SndC.pure fun H Hs ds vs Q Q' s rx hq hd => by
  unfold oIsi at hd
  split at hd
  · obtain ⟨t, b, h1, h2, h3⟩ := hd
    obtain ⟨v, w, rfl, h4, h5⟩ := rpA2 rx
    cases h5
    exact ⟨v, _, _, _, b, rfl, .ty _, tyN_ok (h4.mono s) h1, kit_ty h2, hq (.bool _) _ rfl h3⟩
  · exact hd.elim
theorem de_isi {p pos : Pos} {e e2 : Expr} {d : DTA} (hm : X.mg "isinstance" = none) (ha : DA X [e, e2] d) (hg : Gl X "isinstance" := by rfl) (hs : starEach [e, e2] X.env = (false, eval e X.env) :: starEach [e2] X.env := by rfl)
    (hpl : (backTo pos (starEach [e2] X.env)).any (·.1) = false := by rfl) : DE X (.Call (.Name "isinstance" p) [e, e2] [] pos) (dCB oIsi d) :=
  de_callB call_isi sc_isi hg hm (by decide +kernel) ha (by decide) (by decide) hs hpl
/-! methods of texts -/
abbrev OM := D → List D → (D → Prop) → Prop
def SndM (K : PySem.W.Frag) (r : V → List V → Hp → VK → Prop) (op : OM) : Prop := ∀ (H Hs : Hp) (x : D) (vx : V) (ds : List D) (vs : List V) (Q : VK) (Q' : D → Prop), Same Hs H → Rp K Hs x vx → RpA K Hs ds vs →
  (∀ z v H' Hs', Stp none H Hs H' Hs' → Rp K Hs' z v → Q' z → Q v H') → op x ds Q' → r vx vs H Q
def D.isStr : D → Prop
  | .str _ => True
  | _ => False
def dM1 (op : OM) (o e : DT) : DT := fun g r f Q => o g r f fun x f1 => x.isStr ∧ e g r f1 fun y f2 => op x [y] fun z => Q z f2
theorem isStr_V {H : Hp} {d : D} {v : V} (h : Rp K H d v) (i : d.isStr) : ∃ a, v = .str a := by
  cases d <;> first | exact i.elim | exact ⟨_, h⟩
theorem snd_m1 {r : V → List V → Hp → VK → Prop} {op : OM} {to te : TE} {o e : DT} (hr : SndM K r op) (ho : Snd K to o) (he : Snd K te e) : Snd K (tM1 r to te) (dM1 op o e) := fun g ro f st H Hs Q Q' A hq hd =>
  ho g ro f st H Hs _ _ A (fun x f1 vx H1 Hs1 s1 k1 r1 q1 => ⟨isStr_V r1 q1.1, he g ro f1 st H1 Hs1 _ _ (A.step s1 k1) (fun y f2 vy H2 Hs2 s2 k2 r2 q2 =>
    hr H2 Hs2 x vx [y] [vy] Q _ s2.sub (r1.mono s2.ext) (RpA.one r2) (fun z v H3 Hs3 s3 r3 q3 => hq z f2 v H3 Hs3 ((s1.trans s2).trans s3.gen) (k2.stp s3) r3 q3) q2) q1.2⟩) hd
def oStarts : OM := fun x ds Q => match x, ds with
  | .str a, [.str b] => Q (.bool (Txt.startswith a b))
  | _, _ => False
theorem sm_starts : SndM K (fun x xs H Q => ∃ a b, x = .str a ∧ xs = [.str b] ∧ Q (.bl (Txt.startswith a b)) H) oStarts := fun H Hs x vx ds vs Q Q' s rx rs hq hd => by
  unfold oStarts at hd
  split at hd
  · obtain ⟨v, rfl, h⟩ := rpA1 rs
    cases h
    exact ⟨_, _, rx, rfl, hq (.bool _) _ _ _ (Stp.refl s) rfl hd⟩
  · exact hd.elim
theorem de_starts {o e : Expr} {apos pos : Pos} {d d2 : DT} (ho : DE X o d) (he : DE X e d2) (hs : starEach [e] X.env = [(false, eval e X.env)] := by rfl) (hbase : attributeBase o "startswith" X.env (eval o X.env) = eval o X.env := by rfl) (hline : (apos.endLine == pos.line) = true := by rfl) :
    DE X (.Call (.Attribute o "startswith" apos) [e] [] pos) (dM1 oStarts d d2) := .mk' (pe_m1 F.slot_str_startswith F.type_str_startswith mt_startswith ho.pe he.pe hs hbase hline) (snd_m1 sm_starts ho.sn he.sn)
def oJoin : OM := fun x ds Q => match x, ds with
  | .str a, [.lst xs] => ∃ ys : List Str, xs = ys.map D.str ∧ (ys.map (·.length)).sum + ys.length * a.length ≤ 16777216 ∧ Q (.str (Txt.join a ys))
  | .str a, [.tup xs] => ∃ ys : List Str, xs = ys.map D.str ∧ (ys.map (·.length)).sum + ys.length * a.length ≤ 16777216 ∧ Q (.str (Txt.join a ys))
  | _, _ => False
theorem sm_join : SndM K (fun x xs H Q => ∃ a p, ∃ ys : List Str, x = .str a ∧ xs = [.ref p] ∧ (SqL K H p (ys.map V.str) ∨ SqT K H p (ys.map V.str)) ∧ (ys.map (·.length)).sum + ys.length * a.length ≤ 16777216 ∧ Q (.str (Txt.join a ys)) H) oJoin := fun H Hs x vx ds vs Q Q' s rx rs hq hd => by
  unfold oJoin at hd
  split at hd
  · obtain ⟨ys, rfl, h1, h2⟩ := hd
    obtain ⟨v, rfl, a, vs, rfl, h3, h4⟩ := rpA1 rs
    have e := h4.strs
    subst e
    exact ⟨_, a, ys, rx, rfl, .inl (SqL.of (s _ _ h3)), h1, hq (.str _) _ _ _ (Stp.refl s) rfl h2⟩
  · obtain ⟨ys, rfl, h1, h2⟩ := hd
    obtain ⟨v, rfl, a, vs, rfl, h3, h4⟩ := rpA1 rs
    have e := h4.strs
    subst e
    exact ⟨_, a, ys, rx, rfl, .inr ((tp_sq s h3)), h1, hq (.str _) _ _ _ (Stp.refl s) rfl h2⟩
  · exact hd.elim
theorem de_join {o e : Expr} {apos pos : Pos} {d d2 : DT} (ho : DE X o d) (he : DE X e d2) (hs : starEach [e] X.env = [(false, eval e X.env)] := by rfl) (hbase : attributeBase o "join" X.env (eval o X.env) = eval o X.env := by rfl) (hline : (apos.endLine == pos.line) = true := by rfl) :
    DE X (.Call (.Attribute o "join" apos) [e] [] pos) (dM1 oJoin d d2) :=
  .mk' (pe_join ho.pe he.pe hs hbase hline) (snd_m1 sm_join ho.sn he.sn)
/-- x.split(sep): a new list -/
def dSplit (o e : DT) : DTA := fun g r f Q => o g r f fun x f1 => match x with
  | .str a => e g r f1 fun y f2 => match y with
    | .str b => (b.length == 0) = false ∧ a.length ≤ lim ∧ Q ((Txt.split a b).map D.str) f2
    | _ => False
  | _ => False
theorem dl_split {o e : Expr} {apos pos : Pos} {d d2 : DT} (ho : DE X o d) (he : DE X e d2) (hs : starEach [e] X.env = [(false, eval e X.env)] := by rfl) (hbase : attributeBase o "split" X.env (eval o X.env) = eval o X.env := by rfl) (hline : (apos.endLine == pos.line) = true := by rfl) :
    DL' X (.Call (.Attribute o "split" apos) [e] [] pos) (dSplit d d2) :=
  .mk' (pe_split ho.pe he.pe hs hbase hline) (fun g ro f st H Hs Q Q' A hq hd =>
    ho.sn g ro f st H Hs _ _ A (fun x f1 vx H1 Hs1 s1 k1 r1 q1 => by
      cases x <;> try exact q1.elim
      next a =>
      refine ⟨⟨a, r1⟩, he.sn g ro f1 st H1 Hs1 _ _ (A.step s1 k1) (fun y f2 vy H2 Hs2 s2 k2 r2 q2 => ?_) q1⟩
      cases y <;> try exact q2.elim
      next b =>
      cases r1
      cases r2
      refine ⟨a, b, rfl, rfl, q2.1, Nat.le_trans (Nat.add_le_add_right q2.2.1 2) (by decide), fun p hp => ?_⟩
      have al : Stp none H2 Hs2 (upd H2 p (.lst ((Txt.split a b).map V.str))) Hs2 := Stp.lay s2.sub hp
      refine hq _ f2 p _ _ _ ((s1.trans s2).trans al.gen) (k2.stp al) ?_ (same_none s2.sub hp) upd_same (RpA.map (f := D.str) (g := V.str) (fun _ => rfl) _) q2.2.2
      cases e : H p with
      | none => rfl
      | some o =>
        obtain ⟨o', e'⟩ := (s1.trans s2).there p o e
        rw [e'] at hp; cases hp) hd)
end
end DL
namespace DL
open PySem PySem.Spec PyProof.Rows L2
section
variable {X : Cx} {K : PySem.W.Frag}
/-! items and slices -/
def oIx : O2 := fun x y Q => match x, y with
  | .lst xs, .int i => ∃ d, atI xs i = some d ∧ Q d
  | .tup xs, .int i => ∃ d, atI xs i = some d ∧ Q d
  | .str z, .int i => z.length ≤ lim ∧ ∃ c, atI z.cps.toList i = some c ∧ Q (.str ⟨#[c]⟩)
  | _, _ => False
theorem atI_rp {H : Hp} {ds : List D} {vs : List V} {i : Int} {d : D} (h : RpA K H ds vs) (e : atI ds i = some d) : ∃ v, atI vs i = some v ∧ Rp K H d v := by
  unfold atI at e ⊢
  rw [h.length] at e
  cases e2 : ixN vs.length i with
  | none => rw [e2] at e; cases e
  | some j =>
    rw [e2] at e
    obtain ⟨v, h1, h2⟩ := h.get (i := j) (d := d) e
    exact ⟨v, h1, h2⟩
theorem sr_ix : SndR K (rIx K) oIx := SndR.pure fun H Hs x y vx vy Q Q' s rx ry hq hd => by
  unfold oIx at hd
  split at hd
  · obtain ⟨d, e, q⟩ := hd
    obtain ⟨a, vs, rfl, h1, h2⟩ := rx
    obtain ⟨v, h3, h4⟩ := atI_rp h2 e
    exact .inl ⟨a, vs, _, v, rfl, ry, SqL.of (s _ _ h1), h3, hq d v h4 q⟩
  · obtain ⟨d, e, q⟩ := hd
    obtain ⟨a, vs, rfl, h1, h2⟩ := rx
    obtain ⟨v, h3, h4⟩ := atI_rp h2 e
    exact .inr (.inl ⟨a, vs, _, v, rfl, ry, (tp_sq s h1), h3, hq d v h4 q⟩)
  · obtain ⟨hz, c, e, q⟩ := hd
    exact .inr (.inr ⟨_, _, c, rx, ry, lim_le hz, e, hq (.str _) _ rfl q⟩)
  · exact hd.elim
theorem de_ix {a b : Expr} {pos : Pos} {da db : DT} (ha : DE X a da) (hb : DE X b db) (hs : PlainIx b := by exact fun _ _ => rfl) : DE X (.Subscript a b pos) (dOp oIx da db) := .mk' (pe_ix ix_seq ha.pe hb.pe hs) (snd_op sr_ix ha.sn hb.sn)
abbrev DTO := Option Dk → Sg → Nat → (Option Int → Nat → Prop) → Prop
def SndO (K : PySem.W.Frag) (t : TO) (dl : DTO) : Prop := ∀ (g : Option Dk) (r : Sg) (f : Nat) (st : L2.St) (H Hs : Hp) (Q : Option Int → Hp → Prop) (Q' : Option Int → Nat → Prop), At K g r f st H Hs →
  (∀ b f' H' Hs', Stp g H Hs H' Hs' → DkOk g H' Hs' f' → Q' b f' → Q b H') → dl g r f Q' → t st H Q
def tOfO (K : PySem.W.Frag) (dl : DTO) : TO := fun st H Q => ∃ g r f Hs Q', At K g r f st H Hs ∧ (∀ b f' H' Hs', Stp g H Hs H' Hs' → DkOk g H' Hs' f' → Q' b f' → Q b H') ∧ dl g r f Q'
structure DO (X : Cx) (e : Option Expr) (dl : DTO) : Prop where
  po : PO X e (tOfO X.K dl)
theorem DO.sn {e : Option Expr} {dl : DTO} (_ : DO X e dl) : SndO X.K (tOfO X.K dl) dl := fun g r f st H Hs Q Q' a hq hd => ⟨g, r, f, Hs, Q', a, hq, hd⟩
theorem DO.mk' {e : Option Expr} {t : TO} {dl : DTO} (p : PO X e t) (s : SndO X.K t dl) : DO X e dl := ⟨⟨fun pins sh st H Q I ⟨g, r, f, Hs, Q', a, hq, hd⟩ => p.run pins sh st H Q I (s g r f st H Hs Q Q' a hq hd)⟩⟩
theorem do_none : DO X none (fun _ _ f Q => Q none f) := .mk' (po_none) (fun g ro f st H Hs Q Q' A hq hd => hq none f H Hs (Stp.refl A.sub) A.dk hd)
def dPart (d : DT) : DTO := fun g r f Q => d g r f fun x f1 => match x with
  | .int i => Q (some i) f1
  | _ => False
theorem do_some {e : Expr} {d : DT} (h : DE X e d) : DO X (some e) (dPart d) := .mk' (po_some h.pe) (fun g ro f st H Hs Q Q' A hq hd =>
  h.sn g ro f st H Hs _ _ A (fun x f1 v H1 Hs1 s1 k1 r1 q1 => by
    cases x <;> try exact q1.elim
    exact ⟨_, r1, hq _ f1 H1 Hs1 s1 k1 q1⟩) hd)
def cutD (xs : List D) (lo hi : Option Int) : List D := (xs.drop (HT.sIx xs.length 0 lo)).take (HT.sIx xs.length xs.length hi - HT.sIx xs.length 0 lo)
theorem cut_rp {H : Hp} {ds : List D} {vs : List V} {lo hi : Option Int} (h : RpA K H ds vs) : RpA K H (cutD ds lo hi) (cutV vs lo hi) := by
  unfold cutD cutV
  rw [h.length]
  exact (h.drop _).take _
abbrev O3 := D → Option Int → Option Int → (D → Prop) → Prop
def oSl : O3 := fun x lo hi Q => match x with
  | .lst xs => Q (.lst (cutD xs lo hi))
  | .tup xs => Q (.tup (cutD xs lo hi))
  | .str z => z.length ≤ lim ∧ Q (.str (cutS z lo hi))
  | _ => False
def rSl (K : PySem.W.Frag) : V → Option Int → Option Int → Hp → VK → Prop := fun x lo hi H Q => rSlL K x lo hi H Q ∨ (rSlA K x lo hi H Q ∨ rSlS x lo hi H Q)
theorem cutD_whole {xs : List D} {lo hi : Option Int} (h : HT.sIx xs.length 0 lo = 0 ∧ HT.sIx xs.length xs.length hi = xs.length) : cutD xs lo hi = xs := by
  unfold cutD
  rw [h.1, h.2]
  simp
theorem sl_all : SlR X (rSl X.K) := sl_list.or (sl_tupA.or sl_str)
def dSl (a : DT) (lo hi : DTO) : DT := fun g r f Q => a g r f fun x f1 => lo g r f1 fun i f2 => hi g r f2 fun j f3 => oSl x i j fun z => Q z f3
theorem sr_sl {H Hs : Hp} {x : D} {vx : V} {lo hi : Option Int} {Q : VK} {Q' : D → Prop} (s : Same Hs H) (rx : Rp K Hs x vx) (hq : ∀ z v H' Hs', Stp none H Hs H' Hs' → Rp K Hs' z v → Q' z → Q v H') (hd : oSl x lo hi Q') : rSl K vx lo hi H Q := by
  cases x <;> try exact hd.elim
  · exact .inr (.inr ⟨_, rx, lim_le hd.1, hq (.str _) _ _ _ (Stp.refl s) rfl hd.2⟩)
  · obtain ⟨a, vs, rfl, h1, h2⟩ := rx
    refine .inr (.inl ⟨a, vs, rfl, (tp_sq s h1), fun e => ?_, fun e p hp => ?_⟩)
    · rw [← h2.length] at e
      exact hq (.tup _) _ _ _ (Stp.refl s) ⟨a, vs, rfl, h1, by rw [cutD_whole e]; exact h2⟩ hd
    · exact hq (.tup _) _ _ _ (Stp.alloc s hp) (rp_tup (cut_rp h2) (same_none s hp)) hd
  · obtain ⟨a, vs, rfl, h1, h2⟩ := rx
    exact .inl ⟨a, vs, rfl, SqL.of (s _ _ h1), fun p hp => hq (.lst _) _ _ _ (Stp.alloc s hp) (rp_lst (cut_rp h2) (same_none s hp)) hd⟩
theorem de_sl {e : Expr} {lo hi : Option Expr} {p2 pos : Pos} {d : DT} {dl dh : DTO} (he : DE X e d) (hl : DO X lo dl) (hh : DO X hi dh) : DE X (.Subscript e (.Slice lo hi none p2) pos) (dSl d dl dh) :=
  .mk' (pe_slice sl_all he.pe hl.po hh.po) (fun g ro f st H Hs Q Q' A hq hd =>
    he.sn g ro f st H Hs _ _ A (fun x f1 v H1 Hs1 s1 k1 r1 q1 => hl.sn g ro f1 st H1 Hs1 _ _ (A.step s1 k1) (fun i f2 H2 Hs2 s2 k2 q2 =>
      hh.sn g ro f2 st H2 Hs2 _ _ ((A.step s1 k1).step s2 k2) (fun j f3 H3 Hs3 s3 k3 q3 =>
        sr_sl s3.sub ((r1.mono s2.ext).mono s3.ext) (fun z v H4 Hs4 s4 r4 q4 => hq z f3 v H4 Hs4 (((s1.trans s2).trans s3).trans s4.gen) (k3.stp s4) r4 q4) q3) q2) q1) hd)
theorem none_back {g : Option Dk} {H Hs H' Hs' : Hp} {p : Addr} (s : Stp g H Hs H' Hs') (h : H' p = none) : H p = none := by
  cases e : H p with
  | none => rfl
  | some o =>
    obtain ⟨o', e'⟩ := s.there p o e
    rw [e'] at h; cases h
/-! calls of defs -/
abbrev DSp := Option Dk → List D → Nat → QD → Prop
def spOf (K : PySem.W.Frag) (S : DSp) : Sp := fun vs H Q _ => ∃ (g : Option Dk) (Hs : Hp) (ds : List D) (f : Nat) (Q' : QD), Same Hs H ∧ DkOk g H Hs f ∧ RpA K Hs ds vs ∧ S g ds f Q' ∧
  ∀ d f' v H' Hs', Stp g H Hs H' Hs' → DkOk g H' Hs' f' → Rp K Hs' d v → Q' d f' → Q v H'
def dCall (S : DSp) (t : DTA) : DT := fun g r f Q => t g r f fun ds f1 => S g ds f1 Q
theorem snd_call {S : DSp} {E : XK} {t : TA} {d : DTA} (ht : SndA K t d) : Snd K (tCall (spOf K S) [] E t) (dCall S d) := fun g ro f st H Hs Q Q' A hq hd =>
  ht g ro f st H Hs _ _ A (fun ds f1 vs H1 Hs1 s1 k1 r1 q1 => by
    show spOf K S (vs ++ []) H1 Q E
    rw [List.append_nil]
    exact ⟨g, Hs1, ds, f1, Q', s1.sub, k1, r1, q1, fun d f' v H' Hs' s2 k2 r2 q2 => hq d f' v H' Hs' (s1.trans s2) k2 r2 q2⟩) hd
/-! what is walked -/
structure Walks (K : PySem.W.Frag) (J : It) (Hb : Hp) (ds : List D) : Prop where
  go : ∀ (i : Nat) (d : D) (H Hs : Hp), Same Hb Hs → Same Hs H → ds[i]? = some d → J.go i H ∧ ∀ x H', J.yld i H x H' → ∃ Hs', Stp none H Hs H' Hs' ∧ Rp K Hs' d x
  stop : ∀ H, Same Hb H → J.stop ds.length H
def SndI (K : PySem.W.Frag) (wi : TI) (dl : DTA) : Prop := ∀ (g : Option Dk) (r : Sg) (f : Nat) (st : L2.St) (H Hs : Hp) (R : It → Hp → Prop) (Q' : List D → Nat → Prop), At K g r f st H Hs →
  (∀ ds f' J H' Hs', Stp g H Hs H' Hs' → DkOk g H' Hs' f' → Walks K J Hs' ds → Q' ds f' → R J H') → dl g r f Q' → wi st H R
def tOfI (K : PySem.W.Frag) (dl : DTA) : TI := fun st H R => ∃ g r f Hs Q', At K g r f st H Hs ∧ (∀ ds f' J H' Hs', Stp g H Hs H' Hs' → DkOk g H' Hs' f' → Walks K J Hs' ds → Q' ds f' → R J H') ∧ dl g r f Q'
structure DI (X : Cx) (tg e : Expr) (dl : DTA) : Prop where
  pi : PI X tg e (tOfI X.K dl)
theorem DI.sn {tg e : Expr} {dl : DTA} (_ : DI X tg e dl) : SndI X.K (tOfI X.K dl) dl := fun g r f st H Hs Q Q' a hq hd => ⟨g, r, f, Hs, Q', a, hq, hd⟩
theorem DI.mk' {tg e : Expr} {wi : TI} {dl : DTA} (p : PI X tg e wi) (s : SndI X.K wi dl) : DI X tg e dl := ⟨⟨fun pins sh st H R I ⟨g, r, f, Hs, Q', a, hq, hd⟩ => p.run pins sh st H R I (s g r f st H Hs R Q' a hq hd)⟩⟩
/-- a list, a tuple, a text -/
def iSeq (K : PySem.W.Frag) (tl : TE) : TI := fun st H R => tl st H fun x H1 => (∃ a, x = .ref a ∧ (((∃ xs, SqL K H1 a xs) ∧ R (Itl K a) H1) ∨ ((∃ xs, SqT K H1 a xs) ∧ R (Itt K a) H1))) ∨ ∃ z, x = .str z ∧ R (Its z) H1
theorem pi_seq {tg l : Expr} {tl : TE} (hl : PE X l tl) : PI X tg l (iSeq X.K tl) := by
  refine ⟨fun pins s st H R I h => ?_⟩
  refine thn (hl.run pins s st H _ I h) fun v s1 ⟨x, H1, I1, r1, q1⟩ => ?_
  rcases q1 with ⟨a, e, (⟨⟨xs, hq⟩, q⟩ | ⟨⟨xs, hq⟩, q⟩)⟩ | ⟨z, e, q⟩
  · subst e
    cases r1
    obtain ⟨its, rv, p, hz⟩ := I1.list hq
    refine wpAny_pyIter_list p.isList ?_
    refine ⟨s1.heap.objs.size, [s1.heap.objs.size], _, _, H1, rfl, I1.kept (t' := s1.toks) fun b o e => Heap.get?_push_of_some _ e, turn_list a _, ⟨_, Heap.get?_push_size _ rfl, rfl, rfl⟩, fun b hb => ?_, q⟩
    have e : b = s1.heap.objs.size := by simpa using hb
    subst e
    exact I1.fpOk (Nat.le_refl _) (I1.hok.fresh (Nat.le_refl _))
  · subst e
    cases r1
    obtain ⟨its, rv, p, hz⟩ := I1.tuple hq
    refine wpAny_pyIter_tuple (show s1.heap.IsTuple a its.toArray from p) ?_
    refine ⟨s1.heap.objs.size, [s1.heap.objs.size], _, _, H1, rfl, I1.kept (t' := s1.toks) fun b o e => Heap.get?_push_of_some _ e, turn_tuple a _, ⟨_, Heap.get?_push_size _ rfl, rfl, rfl⟩, fun b hb => ?_, q⟩
    have e : b = s1.heap.objs.size := by simpa using hb
    subst e
    exact I1.fpOk (Nat.le_refl _) (I1.hok.fresh (Nat.le_refl _))
  · subst e
    obtain ⟨t, rfl⟩ := r1
    cases ha : z.cps.all (· < 128)
    · exact wpAny_pyIter_wide ha (pi_one (tk := s1.toks) I1 _ (turn_str _ z t "str_iterator" (.inr rfl)) ⟨_, Heap.get?_push_size _ rfl, rfl, rfl⟩ q)
    · exact wpAny_pyIter_ascii ha (pi_one (tk := s1.toks) I1 _ (turn_str _ z t "str_ascii_iterator" (.inl rfl)) ⟨_, Heap.get?_push_size _ rfl, rfl, rfl⟩ q)
def signs (z : Str) : List D := z.cps.toList.map fun c => .str ⟨#[c]⟩
def dSeq' (d : DT) : DTA := fun g r f Q => d g r f fun x f1 => match x with
  | .lst xs => Q xs f1
  | .tup xs => Q xs f1
  | .str z => Q (signs z) f1
  | _ => False
theorem walks_list {Hb : Hp} {a : Addr} {vs : List V} {ds : List D} (h1 : Hb a = some (.lst vs)) (h2 : RpA K Hb ds vs) : Walks K (Itl K a) Hb ds where
  go := fun i d H Hs s1 s2 e => by
    obtain ⟨v, hv, hr⟩ := h2.get e
    have q : SqL K H a vs := SqL.of (s2 _ _ (s1 _ _ h1))
    refine ⟨⟨vs, v, q, hv⟩, ?_⟩
    rintro x H' ⟨rfl, hx⟩
    have := hx vs q
    rw [hv] at this
    cases this
    exact ⟨Hs, Stp.refl s2, hr.mono s1⟩
  stop := fun H s => ⟨vs, SqL.of (s _ _ h1), by rw [h2.length]; exact Nat.le_refl _⟩
theorem walks_tup {Hb : Hp} {a : Addr} {vs : List V} {ds : List D} (h1 : TpAt K Hb a vs) (h2 : RpA K Hb ds vs) : Walks K (Itt K a) Hb ds where
  go := fun i d H Hs s1 s2 e => by
    obtain ⟨v, hv, hr⟩ := h2.get e
    have q : SqT K H a vs := sqT_mono s2 (tp_sq s1 h1)
    refine ⟨⟨vs, v, q, hv⟩, ?_⟩
    rintro x H' ⟨rfl, hx⟩
    have := hx vs q
    rw [hv] at this
    cases this
    exact ⟨Hs, Stp.refl s2, hr.mono s1⟩
  stop := fun H s => ⟨vs, tp_sq s h1, by rw [h2.length]; exact Nat.le_refl _⟩
theorem walks_str {Hb : Hp} {z : Str} : Walks K (Its z) Hb (signs z) where
  go := fun i d H Hs s1 s2 e => by
    unfold signs at e
    rw [List.getElem?_map] at e
    cases ec : z.cps.toList[i]? with
    | none => rw [ec] at e; cases e
    | some c =>
      rw [ec] at e
      cases e
      have hl : i < z.cps.size := by
        have := List.getElem?_eq_some_iff.mp ec
        simpa using this.1
      refine ⟨hl, ?_⟩
      rintro x H' ⟨rfl, c', hc, rfl⟩
      have : c' = c := by
        rw [Array.getElem?_toList] at ec
        rw [hc] at ec
        exact Option.some.inj ec
      subst this
      exact ⟨Hs, Stp.refl s2, rfl⟩
  stop := fun H s => by
    show z.cps.size ≤ (signs z).length
    unfold signs
    simp
theorem di_seq {tg l : Expr} {d : DT} (h : DE X l d) : DI X tg l (dSeq' d) := .mk' (pi_seq h.pe) (fun g ro f st H Hs R Q' A hq hd =>
  h.sn g ro f st H Hs _ _ A (fun x f1 v H1 Hs1 s1 k1 r1 q1 => by
    cases x <;> try exact q1.elim
    · exact .inr ⟨_, r1, hq _ f1 _ H1 Hs1 s1 k1 walks_str q1⟩
    · obtain ⟨a, vs, rfl, h1, h2⟩ := r1
      exact .inl ⟨a, rfl, .inr ⟨⟨vs, (tp_sq s1.sub h1)⟩, hq _ f1 _ H1 Hs1 s1 k1 (walks_tup h1 h2) q1⟩⟩
    · obtain ⟨a, vs, rfl, h1, h2⟩ := r1
      exact .inl ⟨a, rfl, .inl ⟨⟨vs, SqL.of (s1.sub _ _ h1)⟩, hq _ f1 _ H1 Hs1 s1 k1 (walks_list h1 h2) q1⟩⟩) hd)
def intsD (lo : Int) (n : Nat) : List D := (List.range n).map fun (i : Nat) => D.int (lo + (i : Int))
theorem walks_range {Hb : Hp} {lo : Int} {n : Nat} : Walks K (Itr lo n) Hb (intsD lo n) where
  go := fun i d H Hs s1 s2 e => by
    unfold intsD at e
    rw [List.getElem?_map] at e
    by_cases hl : i < n
    · rw [List.getElem?_range hl] at e
      cases e
      refine ⟨hl, ?_⟩
      rintro x H' ⟨rfl, rfl⟩
      exact ⟨Hs, Stp.refl s2, rfl⟩
    · rw [List.getElem?_eq_none (by simpa using hl)] at e
      cases e
  stop := fun H s => by
    show n ≤ (intsD lo n).length
    unfold intsD
    simp
def dRng1 (t : DTA) : DTA := fun g r f Q => t g r f fun ds f1 => match ds with
  | [.int j] => -(2 ^ 62) ≤ j ∧ j < 2 ^ 62 ∧ Q (intsD 0 j.toNat) f1
  | _ => False
theorem di_range1 {tg a : Expr} {d : DTA} {p pos : Pos} (hm : X.mg "range" = none) (ha : DA X [a] d) (hg : Gl X "range" := by rfl) (hs : starEach [a] X.env = [(false, eval a X.env)] := by rfl) : DI X tg (.Call (.Name "range" p) [a] [] pos) (dRng1 d) :=
  .mk' (pi_range1 hg hm ha.pa hs) (fun g ro f st H Hs R Q' A hq hd =>
    ha.sn g ro f st H Hs _ _ A (fun ds f1 vs H1 Hs1 s1 k1 r1 q1 => by
      split at q1
      · obtain ⟨v, rfl, h⟩ := rpA1 r1
        cases h
        exact ⟨_, rfl, q1.1, q1.2.1, hq _ f1 _ H1 Hs1 s1 k1 walks_range q1.2.2⟩
      · exact q1.elim) hd)
end
end DL
namespace DL
open PySem PySem.Spec PyProof.Rows L2
/-! targets -/
abbrev TgF := D → Option (List (Nat × D))
def setsR (r : Sg) : List (Nat × D) → Sg
  | [] => r
  | (i, d) :: l => setsR (r.set i (.sh d)) l
def setsV (st : L2.St) : List Nat → List V → L2.St
  | i :: is, v :: vs => setsV (st.set i (some v)) is vs
  | _, _ => st
section
variable {X : Cx} {K : PySem.W.Frag}
theorem SlOk.sets {Hs : Hp} : ∀ {l : List (Nat × D)} {vs : List V} {r : Sg} {st : L2.St}, SlOk K Hs r st → RpA K Hs (l.map (·.2)) vs → SlOk K Hs (setsR r l) (setsV st (l.map (·.1)) vs)
  | [], _, _, _, h, _ => by
    have e : ∀ (st : L2.St) (vs : List V), setsV st [] vs = st := fun st vs => by cases vs <;> rfl
    show SlOk K Hs _ (setsV _ [] _)
    rw [e]
    exact h
  | (i, d) :: l, _, r, st, h, ⟨v, vr, h1, h2, h3⟩ => by
    subst h1
    show SlOk K Hs (setsR (r.set i (.sh d)) l) (setsV (st.set i (some v)) (l.map (·.1)) vr)
    exact SlOk.sets (SlOk.set h i h2) h3
theorem wipe_set {st : L2.St} {i : Nat} {x : Option V} : ∀ {vs : List Nat}, i ∈ vs → wipe (st.set i x) vs = wipe st vs
  | v :: vs, h => by
    unfold wipe
    by_cases e : i ∈ vs
    · rw [wipe_set e]
    · have hv : i = v := by
        rcases List.mem_cons.mp h with h | h
        · exact h
        · exact absurd h e
      subst hv
      have : ∀ (vs : List Nat), i ∉ vs → wipe (st.set i x) vs = (wipe st vs).set i x := by
        intro vs
        induction vs with
        | nil => intro _; rfl
        | cons w ws ih =>
          intro hn
          have h1 : i ≠ w := fun e => hn (by simp [e])
          have h2 : i ∉ ws := fun e => hn (by simp [e])
          unfold wipe
          rw [ih h2, List.set_comm _ _ h1]
      rw [this vs e, List.set_set]
theorem wipe_sets {ws : List Nat} : ∀ {is : List Nat} {vs : List V} {st : L2.St}, (∀ i ∈ is, i ∈ ws) → wipe (setsV st is vs) ws = wipe st ws
  | [], _, _, _ => by unfold setsV; rfl
  | _ :: _, [], _, _ => by unfold setsV; rfl
  | i :: is, v :: vs, st, h => by
    unfold setsV
    rw [wipe_sets (fun j hj => h j (by simp [hj])), wipe_set (h i (by simp))]
theorem wipe_idem {st : L2.St} : ∀ {vs : List Nat} (ws : List Nat), (∀ i ∈ vs, i ∈ ws) → L2.wipe (L2.wipe st vs) ws = L2.wipe st ws
  | [], _, _ => rfl
  | v :: vs, ws, h => by
    show L2.wipe ((L2.wipe st vs).set v none) ws = _
    rw [wipe_set (h v (by simp)), wipe_idem ws fun i hi => h i (by simp [hi])]
theorem wipe_wipe_sets {vs is : List Nat} {us : List V} {st : L2.St} (h : ∀ i ∈ is, i ∈ vs) : L2.wipe (setsV (L2.wipe st vs) is us) vs = L2.wipe st vs := by
  rw [wipe_sets h, wipe_idem vs fun _ h => h]
def SndG (K : PySem.W.Frag) (is : List Nat) (g : TG) (t : TgF) : Prop := (∀ d l, t d = some l → l.map (·.1) = is) ∧ ∀ (H Hs : Hp) (st : L2.St) (d : D) (v : V) (Q : L2.St → Hp → Prop) (l : List (Nat × D)), Same Hs H → Rp K Hs d v → t d = some l →
  (∀ vs, RpA K Hs (l.map (·.2)) vs → Q (setsV st is vs) H) → g v st H Q
def gOf (K : PySem.W.Frag) (is : List Nat) (t : TgF) : TG := fun v st H Q => ∃ Hs d l, Same Hs H ∧ Rp K Hs d v ∧ t d = some l ∧ ∀ vs, RpA K Hs (l.map (·.2)) vs → Q (setsV st is vs) H
structure DG (X : Cx) (tg : Expr) (is : List Nat) (t : TgF) : Prop where
  pg : PG X tg (gOf X.K is t)
  ix : ∀ d l, t d = some l → l.map (·.1) = is
theorem DG.sn {tg : Expr} {is : List Nat} {t : TgF} (h : DG X tg is t) : SndG X.K is (gOf X.K is t) t := ⟨h.ix, fun H Hs st d v Q l s hr e hq => ⟨Hs, d, l, s, hr, e, hq⟩⟩
theorem DG.mk' {tg : Expr} {is : List Nat} {g : TG} {t : TgF} (p : PG X tg g) (s : SndG X.K is g t) : DG X tg is t := ⟨⟨fun pins sh st H v u Q I r ⟨Hs, d, l, h1, h2, h3, h4⟩ => p.run pins sh st H v u Q I r (s.2 H Hs st d v Q l h1 h2 h3 h4)⟩, s.1⟩
def tgN (i : Nat) : TgF := fun d => some [(i, d)]
theorem sg_name (i : Nat) : SndG K [i] (gName i) (tgN i) := ⟨fun d l e => by cases e; rfl, fun H Hs st d v Q l s rx e h => by
  cases e
  exact h [v] (RpA.one rx)⟩
theorem dg_name {i : Nat} {x : Str} {pos : Pos} (hN : X.N.Nodup) (hi : X.N[i]? = some x := by rfl) (hx : Loc X.env.scope x := by first | exact Or.inl rfl | exact Or.inr rfl) (hf : X.fn x = true ∨ X.env.scope.names.lookup x = some .local := by first | exact .inl rfl | exact .inr rfl | assumption) : DG X (.Name x pos) [i] (tgN i) := .mk' (pg_name hN hi hx hf) (sg_name i)
def tgT : List TgF → List D → Option (List (Nat × D))
  | [], [] => some []
  | t :: ts, d :: ds => (t d).bind fun l => (tgT ts ds).map fun m => l ++ m
  | _, _ => none
def tgTup (ts : List TgF) : TgF := fun d => match d with
  | .tup ds => tgT ts ds
  | _ => none
def SndGs (K : PySem.W.Frag) (is : List Nat) (g : TGs) (ts : List TgF) : Prop := (∀ ds l, tgT ts ds = some l → l.map (·.1) = is) ∧ ∀ (H Hs : Hp) (st : L2.St) (ds : List D) (vs : List V) (Q : L2.St → Hp → Prop) (l : List (Nat × D)), Same Hs H → RpA K Hs ds vs → tgT ts ds = some l →
  (∀ ws, RpA K Hs (l.map (·.2)) ws → Q (setsV st is ws) H) → g vs st H Q
def gOfs (K : PySem.W.Frag) (is : List Nat) (ts : List TgF) : TGs := fun vs st H Q => ∃ Hs ds l, Same Hs H ∧ RpA K Hs ds vs ∧ tgT ts ds = some l ∧ ∀ ws, RpA K Hs (l.map (·.2)) ws → Q (setsV st is ws) H
structure DGs (X : Cx) (tgs : List Expr) (is : List Nat) (ts : List TgF) : Prop where
  pg : PGs X tgs (gOfs X.K is ts)
  ix : ∀ ds l, tgT ts ds = some l → l.map (·.1) = is
theorem DGs.sn {tgs : List Expr} {is : List Nat} {ts : List TgF} (h : DGs X tgs is ts) : SndGs X.K is (gOfs X.K is ts) ts := ⟨h.ix, fun H Hs st ds vs Q l s hr e hq => ⟨Hs, ds, l, s, hr, e, hq⟩⟩
theorem DGs.mk' {tgs : List Expr} {is : List Nat} {g : TGs} {ts : List TgF} (p : PGs X tgs g) (s : SndGs X.K is g ts) : DGs X tgs is ts := ⟨⟨fun pins sh st H vs us Q I r ⟨Hs, ds, l, h1, h2, h3, h4⟩ => p.run pins sh st H vs us Q I r (s.2 H Hs st ds vs Q l h1 h2 h3 h4)⟩, s.1⟩
theorem setsV_append : ∀ (is js : List Nat) (vs ws : List V) (st : L2.St), is.length = vs.length → setsV st (is ++ js) (vs ++ ws) = setsV (setsV st is vs) js ws
  | [], js, vs, ws, st, h => by cases vs with
    | nil => rfl
    | cons v r => simp at h
  | i :: is, js, [], ws, st, h => by simp at h
  | i :: is, js, v :: vs, ws, st, h => by
    show setsV (st.set i (some v)) (is ++ js) (vs ++ ws) = _
    rw [setsV_append is js vs ws _ (by simpa using h)]
    rfl
theorem RpA.split {H : Hp} : ∀ {a b : List D} {vs : List V}, RpA K H (a ++ b) vs → ∃ p q, vs = p ++ q ∧ RpA K H a p ∧ RpA K H b q
  | [], _, vs, h => ⟨[], vs, rfl, rfl, h⟩
  | d :: a, b, _, ⟨v, r, h1, h2, h3⟩ => by
    subst h1
    obtain ⟨p, q, rfl, h4, h5⟩ := RpA.split h3
    exact ⟨v :: p, q, rfl, ⟨v, p, rfl, h2, h4⟩, h5⟩
theorem sgs_nil : SndGs K [] gNil [] := by
  refine ⟨fun ds l e => ?_, fun H Hs st ds vs Q l s rx e h => ?_⟩
  · cases ds with
    | nil => cases e; rfl
    | cons _ _ => cases e
  · cases ds with
    | nil => cases e; cases rx; exact ⟨rfl, h [] rfl⟩
    | cons _ _ => cases e
theorem sgs_cons {is js : List Nat} {g : TG} {u : TGs} {t : TgF} {ts : List TgF} (h1 : SndG K is g t) (h2 : SndGs K js u ts) : SndGs K (is ++ js) (gCons g u) (t :: ts) := by
  refine ⟨fun ds l e => ?_, fun H Hs st ds vs Q l s rx e h => ?_⟩
  · cases ds with
    | nil => cases e
    | cons d ds =>
      simp only [tgT] at e
      cases e1 : t d with
      | none => rw [e1] at e; cases e
      | some l1 =>
        rw [e1] at e
        cases e2 : tgT ts ds with
        | none => rw [e2] at e; cases e
        | some l2 =>
          rw [e2] at e
          cases e
          rw [List.map_append, h1.1 d l1 e1, h2.1 ds l2 e2]
  · cases ds with
    | nil => cases e
    | cons d ds =>
      simp only [tgT] at e
      cases e1 : t d with
      | none => rw [e1] at e; cases e
      | some l1 =>
        rw [e1] at e
        cases e2 : tgT ts ds with
        | none => rw [e2] at e; cases e
        | some l2 =>
          rw [e2] at e
          cases e
          obtain ⟨v, r, rfl, q1, q2⟩ := rx
          refine ⟨v, r, rfl, h1.2 H Hs st d v _ l1 s q1 e1 fun ws1 hw1 => h2.2 H Hs _ ds r Q l2 s q2 e2 fun ws2 hw2 => ?_⟩
          have hh := h (ws1 ++ ws2) (by rw [List.map_append]; exact hw1.append hw2)
          rw [setsV_append _ _ _ _ _ (by rw [← h1.1 d l1 e1, ← hw1.length]; simp)] at hh
          exact hh
theorem sg_tup {is : List Nat} {g : TGs} {ts : List TgF} {n : Nat} (h : SndGs K is g ts) (hn : ∀ ds l, tgT ts ds = some l → ds.length = n) : SndG K is (gTup K n g) (tgTup ts) := ⟨fun d l e => by
    cases d <;> first | (cases e; done) | exact h.1 _ l e, fun H Hs st d v Q l s rx e q => by
  cases d <;> try (cases e; done)
  obtain ⟨a, vs, rfl, h1, h2⟩ := rx
  exact ⟨a, vs, rfl, (tp_sq s h1), by rw [← h2.length]; exact hn _ l e, h.2 H Hs st _ vs Q l s h2 e q⟩⟩
theorem tgT_len : ∀ {ts : List TgF} {ds : List D} {l : List (Nat × D)}, tgT ts ds = some l → ds.length = ts.length
  | [], [], _, _ => rfl
  | [], _ :: _, _, e => by cases e
  | _ :: _, [], _, e => by cases e
  | t :: ts, d :: ds, l, e => by
    simp only [tgT] at e
    cases e1 : t d with
    | none => rw [e1] at e; cases e
    | some l1 =>
      rw [e1] at e
      cases e2 : tgT ts ds with
      | none => rw [e2] at e; cases e
      | some l2 => simp [tgT_len e2]
theorem dgs_nil : DGs X [] [] [] := .mk' (pgs_nil) (sgs_nil)
theorem dgs_cons {e : Expr} {es : List Expr} {is js : List Nat} {t : TgF} {ts : List TgF} (h1 : DG X e is t) (h2 : DGs X es js ts)
    (hs : (assignEach (e :: es) X.env).map (·.2) = assign e X.env :: (assignEach es X.env).map (·.2) := by rfl) : DGs X (e :: es) (is ++ js) (t :: ts) := .mk' (pgs_cons h1.pg h2.pg hs) (sgs_cons h1.sn h2.sn)
theorem dg_tup {es : List Expr} {k n : Nat} {pos : Pos} {is : List Nat} {ts : List TgF} (hc : X.calm = true) (h : DGs X es is ts) (hn : (assignEach es X.env).length = n := by rfl) (hst : (assignEach es X.env).findIdx? (·.1) = none := by rfl) (hl : ts.length = n := by rfl) :
    DG X (.Tuple es k pos) is (tgTup ts) := .mk' (pg_tup hc h.pg hn hst) (sg_tup h.sn fun ds l e => by rw [tgT_len e, hl])
/-! comprehensions -/
def wipeR (r : Sg) : List Nat → Sg
  | [] => r
  | v :: vs => (wipeR r vs).set v .no
theorem SlOk.wipe {Hs : Hp} {r : Sg} {st : L2.St} (h : SlOk K Hs r st) : ∀ vs : List Nat, SlOk K Hs (wipeR r vs) (L2.wipe st vs)
  | [] => h
  | v :: vs => by
    have ih := SlOk.wipe h vs
    refine ⟨by unfold wipeR L2.wipe; simp [ih.len], fun i s d h1 h2 => ?_⟩
    unfold wipeR at h1
    unfold L2.wipe
    by_cases e : v = i
    · subst e
      by_cases hl : v < (wipeR r vs).length
      · rw [List.getElem?_set_self hl] at h1
        cases h1
        cases h2
      · rw [List.getElem?_eq_none (by simpa using hl)] at h1
        cases h1
    · rw [List.getElem?_set_ne e] at h1
      rw [List.getElem?_set_ne e]
      exact ih.get i s d h1 h2
def dLcGo (g : Option Dk) (t : TgF) (c : DTT) (e : DT) (r : Sg) : List D → List D → Nat → (List D → Nat → Prop) → Prop
  | [], acc, f, Q => Q acc f
  | d :: ds, acc, f, Q => match t d with
    | none => False
    | some l => c g (setsR r l) f fun b f1 => if b = true then e g (setsR r l) f1 fun y f2 => dLcGo g t c e r ds (acc ++ [y]) f2 Q else dLcGo g t c e r ds acc f1 Q
def dLc (i : DTA) (t : TgF) (c : DTT) (e : DT) (vs : List Nat) : DTA := fun g r f Q => i g r f fun ds f1 => ds.length ≤ lim ∧ dLcGo g t c e (wipeR r vs) ds [] f1 Q
structure DTs (X : Cx) (ifs : List Expr) (d : DTT) : Prop where
  pt : PTs X ifs (tOfT X.K d)
theorem DTs.sn {ifs : List Expr} {dl : DTT} (_ : DTs X ifs dl) : SndT X.K (tOfT X.K dl) dl := fun g r f st H Hs Q Q' a hq hd => ⟨g, r, f, Hs, Q', a, hq, hd⟩
theorem DTs.mk' {ifs : List Expr} {t : TT} {dl : DTT} (p : PTs X ifs t) (s : SndT X.K t dl) : DTs X ifs dl := ⟨⟨fun pins sh st H Q I ⟨g, r, f, Hs, Q', a, hq, hd⟩ => p.run pins sh st H Q I (s g r f st H Hs Q Q' a hq hd)⟩⟩
def dYes : DTT := fun _ _ f Q => Q true f
theorem dts_nil : DTs X [] dYes := .mk' (pts_nil) (fun g r f st H Hs Q Q' A hq hd => hq true f H Hs (Stp.refl A.sub) A.dk hd)
theorem dts_one {c : Expr} {d : DTT} (h : DP X c d) : DTs X [c] d := .mk' (pts_one h.pt) (h.sn)
theorem snd_lc {wi : TI} {gt : TG} {tt : TT} {te : TE} {vs is : List Nat} {i : DTA} {t : TgF} {c : DTT} {e : DT} (hi : SndI K wi i) (hg : SndG K is gt t) (hc : SndT K tt c) (he : Snd K te e) (hs : ∀ j ∈ is, j ∈ vs) : SndL K (tLc wi gt tt te vs) (dLc i t c e vs) := by
  intro g r f st H Hs Q Q' A hq hd
  refine hi g r f st H Hs _ _ A (fun ds f1 J H1 Hs1 s1 k1 wk q1 => ?_) hd
  intro D hD
  have hDs : Hs1 D = none := same_none s1.sub hD
  have hDk : ¬ Dk.has g D := k1.out hD
  refine ⟨fun i m H2 => m = ds.length - i ∧ i ≤ ds.length ∧ ∃ f2 Hs2 acc ws, Stp g H1 Hs1 H2 Hs2 ∧ DkOk g H2 Hs2 f2 ∧ Hs2 D = none ∧ H2 D = some (.lst ws) ∧ RpA K Hs2 acc ws ∧ acc.length ≤ i ∧ dLcGo g t c e (wipeR r vs) (ds.drop i) acc f2 Q', ⟨ds.length, rfl, Nat.zero_le _, f1, Hs1, [], [], ?_, ?_, hDs, upd_same, rfl, Nat.le_refl _, q1.2⟩, ?_⟩
  · exact (Stp.lay s1.sub hD : Stp none H1 Hs1 (upd H1 D (.lst [])) Hs1).gen
  · exact k1.mut hDk
  rintro i m H2 ⟨rfl, hil, f2, Hs2, acc, ws, s2, k2, n2, e2, r2, l2, q2⟩
  by_cases hlt : i < ds.length
  · have hgd : ds[i]? = some ds[i] := List.getElem?_eq_getElem hlt
    have hdr : ds.drop i = ds[i] :: ds.drop (i + 1) := List.drop_eq_getElem_cons hlt
    rw [hdr] at q2
    obtain ⟨hgo, hy⟩ := wk.go i _ H2 Hs2 s2.ext s2.sub hgd
    refine .inr ⟨hgo, fun H3 => i + 1 ≤ ds.length ∧ ∃ f2 Hs2 acc ws, Stp g H1 Hs1 H3 Hs2 ∧ DkOk g H3 Hs2 f2 ∧ Hs2 D = none ∧ H3 D = some (.lst ws) ∧ RpA K Hs2 acc ws ∧ acc.length ≤ i + 1 ∧ dLcGo g t c e (wipeR r vs) (ds.drop (i + 1)) acc f2 Q', fun H3 h3 => ⟨_, by omega, rfl, h3⟩, fun x H3 hx => ?_⟩
    obtain ⟨Hs3, s3, r3⟩ := hy x H3 hx
    simp only [dLcGo] at q2
    cases et : t ds[i] with
    | none => rw [et] at q2; exact q2.elim
    | some l =>
      rw [et] at q2
      replace q2 : c g (setsR (wipeR r vs) l) f2 fun b f1 => if b = true then e g (setsR (wipeR r vs) l) f1 fun y f2 => dLcGo g t c e (wipeR r vs) (ds.drop (i + 1)) (acc ++ [y]) f2 Q' else dLcGo g t c e (wipeR r vs) (ds.drop (i + 1)) acc f1 Q' := q2
      have sl0 : SlOk K Hs3 (wipeR r vs) (L2.wipe st vs) := (((A.sl.mono s1.ext).mono s2.ext).mono s3.ext).wipe vs
      refine hg.2 H3 Hs3 _ _ x _ l s3.sub r3 et fun us hus => ⟨wipe_wipe_sets hs, ?_⟩
      have A3 : At K g (setsR (wipeR r vs) l) f2 (setsV (L2.wipe st vs) is us) H3 Hs3 := ⟨s3.sub, k2.stp s3, by
        have := SlOk.sets sl0 hus
        rw [hg.1 _ l et] at this
        exact this⟩
      refine hc g _ f2 _ H3 Hs3 _ _ A3 (fun b f4 H4 Hs4 s4 k4 q4 => ?_) q2
      have t4 : Stp g H1 Hs1 H4 Hs4 := (s2.trans s3.gen).trans s4
      have keepD : ∀ {H5 Hs5 : Hp}, Stp g H1 Hs1 H5 Hs5 → True := fun _ => trivial
      have n3 : Hs3 D = none := s3.new D _ e2 n2
      have e3 : H3 D = some (.lst ws) := s3.keep D _ e2 id
      have n4 : Hs4 D = none := s4.new D _ e3 n3
      have e4 : H4 D = some (.lst ws) := s4.keep D _ e3 hDk
      cases b with
      | false =>
        rw [if_neg Bool.false_ne_true]
        exact ⟨hlt, f4, Hs4, acc, ws, t4, k4, n4, e4, (r2.mono s3.ext).mono s4.ext, by omega, q4⟩
      | true =>
        rw [if_pos rfl]
        refine he g _ f4 _ H4 Hs4 _ _ (A3.step s4 k4) (fun y f5 v H5 Hs5 s5 k5 r5 q5 => ?_) q4
        have n5 : Hs5 D = none := s5.new D _ e4 n4
        have e5 : H5 D = some (.lst ws) := s5.keep D _ e4 hDk
        have r5' : RpA K Hs5 acc ws := ((r2.mono s3.ext).mono s4.ext).mono s5.ext
        refine ⟨ws, e5, ?_, hlt, f5, Hs5, acc ++ [y], ws ++ [v], (t4.trans s5).mut hD n5, k5.mut hDk, n5, upd_same, r5'.append (RpA.one r5), by simp; omega, q5⟩
        rw [← r5'.length]
        have := q1.1
        exact lim_lt (by omega)
  · have ei : i = ds.length := by omega
    subst ei
    rw [List.drop_length] at q2
    refine .inl ⟨wk.stop H2 (fun a o h => s2.sub a o (s2.ext a o h)), ?_⟩
    exact hq acc f2 D ws H2 Hs2 (s1.trans s2) k2 (none_back s1 hD) n2 e2 r2 q2
theorem dl_lc {elt tg iter : Expr} {ifs : List Expr} {scope : Scope} {own : List (Str × Nat)} {pos : Pos} {is : List Nat} {i : DTA} {t : TgF} {c : DTT} {e : DT} (hc : X.calm = true) (hN : X.N.Nodup) (hi : DI X tg iter i) (ok : BlkOk X.N X.env.scope scope own)
    (hg : ∀ (s : Shared) (H : Hp) (C : Addr) (cl : List (Str × Addr)) (fp : List Addr), DG (X.blk s H scope (compEnvC scope cl C X.env) fp) tg is t) (ht : ∀ (s : Shared) (H : Hp) (C : Addr) (cl : List (Str × Addr)) (fp : List Addr), DTs (X.blk s H scope (compEnvC scope cl C X.env) fp) ifs c)
    (he : ∀ (s : Shared) (H : Hp) (C : Addr) (cl : List (Str × Addr)) (fp : List Addr), DE (X.blk s H scope (compEnvC scope cl C X.env) fp) elt e) (hs : ∀ x, foldedSetIterable iter X.env x = pure x := by intro _; rfl) (hsub : ∀ j ∈ is, j ∈ own.map (·.2) := by decide) :
    DL' X (.ListComp elt [⟨tg, iter, ifs, 0⟩] scope pos) (dLc i t c e (own.map (·.2))) := by
  refine DL'.mk' (pe_lc (g := gOf X.K is t) (tt := tOfT X.K c) (te := tOf X.K e) hc hN hi.pi ok (fun s H C cl fp => (hg s H C cl fp).pg) (fun s H C cl fp => (ht s H C cl fp).pt) (fun s H C cl fp => (he s H C cl fp).pe) hs) ?_
  intro g r f st H Hs Q Q' A
  exact snd_lc hi.sn (hg X.s_0 H 0 [] []).sn (ht X.s_0 H 0 [] []).sn (he X.s_0 H 0 [] []).sn hsub g r f st H Hs Q Q' A
end
end DL
namespace DL
open PySem PySem.Spec PyProof.Rows L2
/-! statements: slots that own a list or a dict -/
def Sl.own : Sl → Bool
  | .ow _ => true
  | .od _ _ => true
  | .oi _ _ _ _ => true
  | _ => false
def OwAt (K : PySem.W.Frag) (H0 H Hs : Hp) (a : Addr) : Sl → Prop
  | .ow xs => ∃ vs, H a = some (.lst vs) ∧ RpA K Hs xs vs
  | .od ks xs => ∃ vs, H a = some (.dK (ks.zip vs)) ∧ ks.length = vs.length ∧ RpA K Hs xs vs
  | .oi b c ns xs => b = a ∧ ∃ C dx vs, PySem.W.nsIn K mainGlobals c = some (some (.ref C)) ∧ H a = some (.ins C dx (ns.zip vs)) ∧ H dx = some (.own a) ∧ Hs dx = none ∧ H0 dx = none ∧ ns.length = vs.length ∧ RpA K Hs xs vs
  | _ => False
structure SIn (K : PySem.W.Frag) (g : Option Dk) (H0 Hs0 : Hp) (r : Sg) (f : Nat) (st : L2.St) (H Hs : Hp) : Prop where
  len : r.length = st.length
  dk0 : ∃ f0, DkOk g H0 Hs0 f0
  dk : DkOk g H Hs f
  stp : Stp g H0 Hs0 H Hs
  sh : ∀ (i : Nat) (d : D), r[i]? = some (.sh d) → ∃ v, st[i]? = some (some v) ∧ Rp K Hs d v
  ow : ∀ (i : Nat) (s : Sl), r[i]? = some s → s.own = true → ∃ a, st[i]? = some (some (.ref a)) ∧ Hs a = none ∧ H0 a = none ∧ OwAt K H0 H Hs a s
  inj : ∀ (i j : Nat) (s u : Sl) (a : Addr), r[i]? = some s → r[j]? = some u → s.own = true → u.own = true → st[i]? = some (some (.ref a)) → st[j]? = some (some (.ref a)) → i = j
def SOk (K : PySem.W.Frag) (g : Option Dk) (H0 Hs0 : Hp) (r : Sg) (f : Nat) (st : L2.St) (H : Hp) : Prop := ∃ Hs, SIn K g H0 Hs0 r f st H Hs
/-- an exception of a class of the text: its data, the class and the dict at which it stands -/
def ExR (K : PySem.W.Frag) (H Hs : Hp) : D → Value → Option Addr → Prop
  | .obj c ns xs, cls, d => ∃ C, PySem.W.nsIn K mainGlobals c = some (some (.ref C)) ∧ cls = .ref C ∧ ((ns = [] ∧ xs = [] ∧ d = Option.none) ∨ ∃ dd vs, d = some dd ∧ Hs dd = some (.xd (ns.zip vs)) ∧ ns.length = vs.length ∧ RpA K Hs xs vs)
  | _, _, _ => False
structure DEnds where
  nx : Sg → Nat → Prop
  rt : QD
  bk : Sg → Nat → Prop := fun _ _ => False
  ct : Sg → Nat → Prop := fun _ _ => False
  xc : D → Sg → Nat → Prop := fun _ _ _ => False
/-- what a body wants of exceptions, at the most -/
def wx (X : Cx) : WX := fun cls d st H => Takes X (fun cls' d' st' H' => cls' = cls ∧ d' = d ∧ st' = st ∧ H' = H)
theorem takes_wx (X : Cx) : Takes X (wx X) := fun u s' h => by
  obtain ⟨a, B, sI, pins, st, H, cls, d, e, I, nb, up, sky, na, os, ag, w⟩ := h
  exact w u s' ⟨a, B, sI, pins, st, H, cls, d, e, I, nb, up, sky, na, os, ag, rfl, rfl, rfl, rfl⟩
theorem wx_of {X : Cx} {W : WX} (h : Takes X W) {cls : Value} {d : Option Addr} {st : L2.St} {H : Hp} (w : W cls d st H) : wx X cls d st H := h.imp fun c d' s' H' e => by
  obtain ⟨rfl, rfl, rfl, rfl⟩ := e
  exact w
abbrev DTS := Option Dk → Sg → Nat → DEnds → Prop
structure EndsOk (K : PySem.W.Frag) (W : WX) (g : Option Dk) (H0 Hs0 : Hp) (E : DEnds) (D : Ends) : Prop where
  nx : ∀ r f st H, SOk K g H0 Hs0 r f st H → E.nx r f → D.nx st H
  rt : ∀ d f v H Hs, Stp g H0 Hs0 H Hs → DkOk g H Hs f → Rp K Hs d v → E.rt d f → D.rt v H
  bk : ∀ r f st H, SOk K g H0 Hs0 r f st H → E.bk r f → D.bk st H
  ct : ∀ r f st H, SOk K g H0 Hs0 r f st H → E.ct r f → D.ct st H
  xc : ∀ x r f st H cls d, (∃ Hs, SIn K g H0 Hs0 r f st H Hs ∧ ExR K H Hs x cls d) → E.xc x r f → W cls d st H
def SndS (K : PySem.W.Frag) (W : WX) (t : TS) (dl : DTS) : Prop := ∀ (g : Option Dk) (H0 Hs0 : Hp) (r : Sg) (f : Nat) (st : L2.St) (H : Hp) (D : Ends) (E : DEnds), SOk K g H0 Hs0 r f st H → EndsOk K W g H0 Hs0 E D → dl g r f E → t D st H
def sOf (K : PySem.W.Frag) (W : WX) (dl : DTS) : TS := fun D st H => ∃ g H0 Hs0 r f E, SOk K g H0 Hs0 r f st H ∧ EndsOk K W g H0 Hs0 E D ∧ dl g r f E
structure DS (X : Cx) (st : Stmt) (dl : DTS) : Prop where
  ps : PS X st (sOf X.K (wx X) dl)
structure DSs (X : Cx) (st : List Stmt) (dl : DTS) : Prop where
  ps : PSs X st (sOf X.K (wx X) dl)
theorem DS.sn {X : Cx} {st : Stmt} {dl : DTS} (_ : DS X st dl) : SndS X.K (wx X) (sOf X.K (wx X) dl) dl := fun g H0 Hs0 r f st H D E s e h => ⟨g, H0, Hs0, r, f, E, s, e, h⟩
theorem DSs.sn {X : Cx} {st : List Stmt} {dl : DTS} (_ : DSs X st dl) : SndS X.K (wx X) (sOf X.K (wx X) dl) dl := fun g H0 Hs0 r f st H D E s e h => ⟨g, H0, Hs0, r, f, E, s, e, h⟩
theorem DS.mk' {X : Cx} {st : Stmt} {t : TS} {dl : DTS} (p : PS X st t) (s : SndS X.K (wx X) t dl) : DS X st dl := ⟨⟨fun pins sh st H D I ⟨g, H0, Hs0, r, f, E, h1, h2, h3⟩ => p.run pins sh st H D I (s g H0 Hs0 r f st H D E h1 h2 h3)⟩⟩
theorem DSs.mk' {X : Cx} {st : List Stmt} {t : TS} {dl : DTS} (p : PSs X st t) (s : SndS X.K (wx X) t dl) : DSs X st dl := ⟨⟨fun pins sh st H D I ⟨g, H0, Hs0, r, f, E, h1, h2, h3⟩ => p.run pins sh st H D I (s g H0 Hs0 r f st H D E h1 h2 h3)⟩⟩
/-- the addresses that slots own -/
def Owned (r : Sg) (st : L2.St) (a : Addr) : Prop := ∃ (i : Nat) (s : Sl), r[i]? = some s ∧ s.own = true ∧ st[i]? = some (some (.ref a))
open Classical in
noncomputable def plus (r : Sg) (st : L2.St) (H Hs : Hp) : Hp := fun a => if Owned r st a then H a else Hs a
open Classical in
noncomputable def minus (r : Sg) (st : L2.St) (Hs : Hp) : Hp := fun a => if Owned r st a then none else Hs a
section
variable {X : Cx} {K : PySem.W.Frag} {g : Option Dk} {H0 Hs0 : Hp} {r : Sg} {f f' : Nat} {st : L2.St} {H Hs H' Hs' : Hp}
theorem plus_in {a : Addr} (h : Owned r st a) : plus r st H Hs a = H a := if_pos h
theorem plus_out {a : Addr} (h : ¬ Owned r st a) : plus r st H Hs a = Hs a := if_neg h
theorem minus_in {a : Addr} (h : Owned r st a) : minus r st Hs a = none := if_pos h
theorem minus_out {a : Addr} (h : ¬ Owned r st a) : minus r st Hs a = Hs a := if_neg h
theorem SIn.owned (s : SIn K g H0 Hs0 r f st H Hs) {a : Addr} (h : Owned r st a) : Hs a = none ∧ H0 a = none ∧ ∃ sl, sl.own = true ∧ OwAt K H0 H Hs a sl := by
  obtain ⟨i, sl, h1, h2, h3⟩ := h
  obtain ⟨b, e, h4, h5, h6⟩ := s.ow i sl h1 h2
  rw [h3] at e
  cases e
  exact ⟨h4, h5, sl, h2, h6⟩
theorem OwAt.ld {a : Addr} {sl : Sl} (h : OwAt K H0 H Hs a sl) : ∃ o, H a = some o ∧ isLD o = true := by
  cases sl with
  | ow xs => obtain ⟨vs, h1, _⟩ := h; exact ⟨_, h1, rfl⟩
  | od ks xs => obtain ⟨vs, h1, _⟩ := h; exact ⟨_, h1, rfl⟩
  | oi b c ns xs => obtain ⟨_, C, dx, vs, _, h1, _⟩ := h; exact ⟨_, h1, rfl⟩
  | _ => exact h.elim
theorem SIn.plusSub (s : SIn K g H0 Hs0 r f st H Hs) : Same (plus r st H Hs) H := fun a o h => by
  by_cases e : Owned r st a
  · rw [plus_in e] at h; exact h
  · rw [plus_out e] at h; exact s.stp.sub a o h
theorem SIn.plusExt (s : SIn K g H0 Hs0 r f st H Hs) : Same Hs (plus r st H Hs) := fun a o h => by
  by_cases e : Owned r st a
  · rw [(s.owned e).1] at h; cases h
  · rw [plus_out e]; exact h
theorem SIn.notDk (s : SIn K g H0 Hs0 r f st H Hs) {a : Addr} (h : Owned r st a) : ¬ Dk.has g a := by
  obtain ⟨f0, k⟩ := s.dk0
  exact k.out (s.owned h).2.1
theorem SIn.plusDk (s : SIn K g H0 Hs0 r f st H Hs) : DkOk g H (plus r st H Hs) f := by
  have k := s.dk
  cases g with
  | none => trivial
  | some d =>
    obtain ⟨k0, n1, n2, n3⟩ := k
    refine ⟨k0, ?_, ?_, ?_⟩
    · rw [plus_out fun e => s.notDk e (.inl rfl)]; exact n1
    · rw [plus_out fun e => s.notDk e (.inr (.inl rfl))]; exact n2
    · rw [plus_out fun e => s.notDk e (.inr (.inr rfl))]; exact n3
theorem SIn.notOwnedDx (s : SIn K g H0 Hs0 r f st H Hs) {dx a : Addr} (h : H dx = some (.own a)) : ¬ Owned r st dx := fun e => by
  obtain ⟨_, _, sl, _, q⟩ := s.owned e
  obtain ⟨o, ho, ld⟩ := q.ld
  rw [h] at ho
  cases ho
  cases ld
theorem SIn.dkDx (s : SIn K g H0 Hs0 r f st H Hs) {dx : Addr} (h : H0 dx = none) : ¬ Dk.has g dx := by
  obtain ⟨f0, k⟩ := s.dk0
  exact k.out h
/-- the state with all slots to be read -/
theorem SIn.at (s : SIn K g H0 Hs0 r f st H Hs) : At K g r f st H (plus r st H Hs) := ⟨s.plusSub, s.plusDk, s.len, fun i sl d h1 h2 => by
  cases sl with
  | no => cases h2
  | sh e =>
    cases h2
    obtain ⟨v, h3, h4⟩ := s.sh i _ h1
    exact ⟨v, h3, h4.mono s.plusExt⟩
  | ow xs =>
    cases h2
    obtain ⟨a, h3, h4, h5, vs, h6, h7⟩ := s.ow i _ h1 rfl
    exact ⟨.ref a, h3, a, vs, rfl, by rw [plus_in ⟨i, _, h1, rfl, h3⟩]; exact h6, h7.mono s.plusExt⟩
  | od ks xs =>
    cases h2
    obtain ⟨a, h3, h4, h5, vs, h6, h7, h8⟩ := s.ow i _ h1 rfl
    exact ⟨.ref a, h3, a, vs, rfl, by rw [plus_in ⟨i, _, h1, rfl, h3⟩]; exact h6, h7, h8.mono s.plusExt⟩
  | oi b c ns xs => cases h2⟩
/-- the slots that own are hidden -/
def hide (r : Sg) : Sg := r.map fun s => if s.own then .no else s
theorem hide_get {i : Nat} : (hide r)[i]? = (r[i]?).map fun s => if s.own then .no else s := by unfold hide; rw [List.getElem?_map]
theorem SIn.atHid (s : SIn K g H0 Hs0 r f st H Hs) : At K g (hide r) f st H Hs := ⟨s.stp.sub, s.dk, by unfold hide; rw [List.length_map]; exact s.len, fun i sl d h1 h2 => by
  rw [hide_get] at h1
  cases e : r[i]? with
  | none => rw [e] at h1; cases h1
  | some u =>
    rw [e] at h1
    cases u with
    | no => cases h1; cases h2
    | sh d' => cases h1; cases h2; exact s.sh i _ e
    | ow xs => cases h1; cases h2
    | od ks xs => cases h1; cases h2
    | oi b c ns xs => cases h1; cases h2⟩
/-- behind an expression: the shared part without what slots own -/
theorem SIn.after (s : SIn K g H0 Hs0 r f st H Hs) (p : Stp g H (plus r st H Hs) H' Hs') (k : DkOk g H' Hs' f') : SIn K g H0 Hs0 r f' st H' (minus r st Hs') := by
  have ext : Same Hs (minus r st Hs') := fun a o h => by
    have no : ¬ Owned r st a := fun e => by rw [(s.owned e).1] at h; cases h
    rw [minus_out no]
    exact p.ext a o (s.plusExt a o h)
  have keepO : ∀ a, Owned r st a → H' a = H a := fun a e => by
    obtain ⟨_, _, sl, _, q⟩ := s.owned e
    obtain ⟨o, ho, _⟩ := q.ld
    rw [ho]
    exact p.keep a o ho (s.notDk e)
  refine ⟨s.len, s.dk0, ?_, ⟨?_, s.stp.ext.trans ext, fun a o h n => p.keep a o (s.stp.keep a o h n) n, fun a o h => ?_, fun a o h n => ?_⟩, fun i d h => ?_, fun i sl h1 h2 => ?_, s.inj⟩
  · cases g with
    | none => trivial
    | some d =>
      obtain ⟨k0, n1, n2, n3⟩ := k
      refine ⟨k0, ?_, ?_, ?_⟩
      · rw [minus_out fun e => s.notDk e (.inl rfl)]; exact n1
      · rw [minus_out fun e => s.notDk e (.inr (.inl rfl))]; exact n2
      · rw [minus_out fun e => s.notDk e (.inr (.inr rfl))]; exact n3
  · intro a o h
    by_cases e : Owned r st a
    · rw [minus_in e] at h; cases h
    · rw [minus_out e] at h; exact p.sub a o h
  · obtain ⟨o', h'⟩ := s.stp.there a o h
    exact p.there a o' h'
  · by_cases e : Owned r st a
    · exact minus_in e
    · rw [minus_out e]
      obtain ⟨o', h'⟩ := s.stp.there a o h
      refine p.new a o' h' ?_
      rw [plus_out e]
      exact s.stp.new a o h n
  · obtain ⟨v, h3, h4⟩ := s.sh i d h
    exact ⟨v, h3, h4.mono ext⟩
  · obtain ⟨a, h3, h4, h5, h6⟩ := s.ow i sl h1 h2
    have e : Owned r st a := ⟨i, sl, h1, h2, h3⟩
    refine ⟨a, h3, minus_in e, h5, ?_⟩
    cases sl with
    | ow xs => obtain ⟨vs, q1, q2⟩ := h6; exact ⟨vs, by rw [keepO a e]; exact q1, q2.mono ext⟩
    | od ks xs => obtain ⟨vs, q1, q2, q3⟩ := h6; exact ⟨vs, by rw [keepO a e]; exact q1, q2, q3.mono ext⟩
    | oi b c ns xs =>
      obtain ⟨qa, C, dx, vs, q0, q1, q2, q3, q4, q5, q6⟩ := h6
      have nd := s.notOwnedDx q2
      exact ⟨qa, C, dx, vs, q0, by rw [keepO a e]; exact q1, p.keep dx _ q2 (s.dkDx q4), by rw [minus_out nd]; exact p.new dx _ q2 (by rw [plus_out nd]; exact q3), q4, q5, q6.mono ext⟩
    | _ => exact h6.elim
theorem SIn.afterHid (s : SIn K g H0 Hs0 r f st H Hs) (p : Stp g H Hs H' Hs') (k : DkOk g H' Hs' f') : SIn K g H0 Hs0 r f' st H' Hs' := by
  have keepO : ∀ a, Owned r st a → H' a = H a := fun a e => by
    obtain ⟨_, _, sl, _, q⟩ := s.owned e
    obtain ⟨o, ho, _⟩ := q.ld
    rw [ho]
    exact p.keep a o ho (s.notDk e)
  refine ⟨s.len, s.dk0, k, s.stp.trans p, fun i d h => ?_, fun i sl h1 h2 => ?_, s.inj⟩
  · obtain ⟨v, h3, h4⟩ := s.sh i d h
    exact ⟨v, h3, h4.mono p.ext⟩
  · obtain ⟨a, h3, h4, h5, h6⟩ := s.ow i sl h1 h2
    have e : Owned r st a := ⟨i, sl, h1, h2, h3⟩
    obtain ⟨o, ho, _⟩ := h6.ld
    refine ⟨a, h3, p.new a o ho h4, h5, ?_⟩
    cases sl with
    | ow xs => obtain ⟨vs, q1, q2⟩ := h6; exact ⟨vs, by rw [keepO a e]; exact q1, q2.mono p.ext⟩
    | od ks xs => obtain ⟨vs, q1, q2, q3⟩ := h6; exact ⟨vs, by rw [keepO a e]; exact q1, q2, q3.mono p.ext⟩
    | oi b c ns xs =>
      obtain ⟨qa, C, dx, vs, q0, q1, q2, q3, q4, q5, q6⟩ := h6
      exact ⟨qa, C, dx, vs, q0, by rw [keepO a e]; exact q1, p.keep dx _ q2 (s.dkDx q4), p.new dx _ q2 q3, q4, q5, q6.mono p.ext⟩
    | _ => exact h6.elim
theorem SIn.flatV (s : SIn K g H0 Hs0 r f st H Hs) (p : Stp g H (plus r st H Hs) H' Hs') {d : D} {v : V} (fl : d.flat = true) (h : Rp K Hs' d v) : Rp K (minus r st Hs') d v :=
  h.flat (fun a o e l => by
    by_cases q : Owned r st a
    · obtain ⟨_, _, sl, _, w⟩ := s.owned q
      obtain ⟨o', ho, ld⟩ := w.ld
      have := p.keep a o' ho (s.notDk q)
      rw [p.sub a o e] at this
      cases this
      rw [ld] at l
      cases l
    · rw [minus_out q]; exact e) d v fl
/-- a slot is stored -/
theorem SIn.set (s : SIn K g H0 Hs0 r f st H Hs) (i : Nat) {d : D} {v : V} (h : Rp K Hs d v) : SIn K g H0 Hs0 (r.set i (.sh d)) f (st.set i (some v)) H Hs := by
  have low : ∀ (j : Nat) (u : Sl), (r.set i (.sh d))[j]? = some u → (j = i ∧ u = .sh d ∧ i < r.length) ∨ (j ≠ i ∧ r[j]? = some u) := fun j u e => by
    by_cases q : i = j
    · subst q
      by_cases hl : i < r.length
      · rw [List.getElem?_set_self hl] at e
        cases e
        exact .inl ⟨rfl, rfl, hl⟩
      · rw [List.getElem?_eq_none (by simpa using hl)] at e
        cases e
    · rw [List.getElem?_set_ne q] at e
      exact .inr ⟨fun z => q z.symm, e⟩
  refine ⟨by simp [s.len], s.dk0, s.dk, s.stp, fun j e hj => ?_, fun j u hj ho => ?_, fun j l u w a hj hl ho ho' h1 h2 => ?_⟩
  · rcases low j _ hj with ⟨rfl, q, hl⟩ | ⟨hne, q⟩
    · cases q
      exact ⟨v, List.getElem?_set_self (s.len ▸ hl), h⟩
    · rw [List.getElem?_set_ne (fun z => hne z.symm)]
      exact s.sh j e q
  · rcases low j u hj with ⟨rfl, q, hl⟩ | ⟨hne, q⟩
    · subst q; cases ho
    · rw [List.getElem?_set_ne (fun z => hne z.symm)]
      exact s.ow j u q ho
  · rcases low j u hj with ⟨rfl, q, hl'⟩ | ⟨hne, q⟩
    · subst q; cases ho
    · rcases low l w hl with ⟨rfl, q', hl'⟩ | ⟨hne', q'⟩
      · subst q'; cases ho'
      · rw [List.getElem?_set_ne (fun z => hne z.symm)] at h1
        rw [List.getElem?_set_ne (fun z => hne' z.symm)] at h2
        exact s.inj j l u w a q q' ho ho' h1 h2
theorem SIn.sets : ∀ {l : List (Nat × D)} {vs : List V} {r : Sg} {st : L2.St}, SIn K g H0 Hs0 r f st H Hs → RpA K Hs (l.map (·.2)) vs → SIn K g H0 Hs0 (setsR r l) f (setsV st (l.map (·.1)) vs) H Hs
  | [], _, _, _, h, _ => by
    have e : ∀ (st : L2.St) (vs : List V), setsV st [] vs = st := fun st vs => by cases vs <;> rfl
    show SIn K g H0 Hs0 _ f (setsV _ [] _) H Hs
    rw [e]
    exact h
  | (i, d) :: l, _, r, st, h, ⟨v, vr, h1, h2, h3⟩ => by
    subst h1
    show SIn K g H0 Hs0 (setsR (r.set i (.sh d)) l) f (setsV (st.set i (some v)) (l.map (·.1)) vr) H Hs
    exact SIn.sets (SIn.set h i h2) h3
/-- an object that is new belongs to a slot -/
theorem SIn.setOwn (s : SIn K g H0 Hs0 r f st H Hs) (i : Nat) {a : Addr} {u : Sl} (hu : u.own = true) (n0 : H0 a = none) (n1 : Hs a = none) (no : ∀ j s, j ≠ i → r[j]? = some s → s.own = true → st[j]? ≠ some (some (.ref a))) (h : OwAt K H0 H Hs a u) :
    SIn K g H0 Hs0 (r.set i u) f (st.set i (some (.ref a))) H Hs := by
  have low : ∀ (j : Nat) (w : Sl), (r.set i u)[j]? = some w → (j = i ∧ w = u ∧ i < r.length) ∨ (j ≠ i ∧ r[j]? = some w) := fun j w e => by
    by_cases q : i = j
    · subst q
      by_cases hl : i < r.length
      · rw [List.getElem?_set_self hl] at e
        cases e
        exact .inl ⟨rfl, rfl, hl⟩
      · rw [List.getElem?_eq_none (by simpa using hl)] at e
        cases e
    · rw [List.getElem?_set_ne q] at e
      exact .inr ⟨fun z => q z.symm, e⟩
  have self : ∀ {l : Nat}, l < r.length → (st.set l (some (.ref a)))[l]? = some (some (V.ref a)) := fun hl => List.getElem?_set_self (s.len ▸ hl)
  refine ⟨by simp [s.len], s.dk0, s.dk, s.stp, fun j e hj => ?_, fun j w hj ho => ?_, fun j l w w' b hj hl ho ho' h1 h2 => ?_⟩
  · rcases low j _ hj with ⟨rfl, q, hl⟩ | ⟨hne, q⟩
    · rw [← q] at hu; cases hu
    · rw [List.getElem?_set_ne (fun z => hne z.symm)]
      exact s.sh j e q
  · rcases low j w hj with ⟨rfl, q, hl⟩ | ⟨hne, q⟩
    · subst q
      exact ⟨a, self hl, n1, n0, h⟩
    · rw [List.getElem?_set_ne (fun z => hne z.symm)]
      exact s.ow j w q ho
  · rcases low j w hj with ⟨rfl, q, hl1⟩ | ⟨hne, q⟩
    · rcases low l w' hl with ⟨rfl, q', hl2⟩ | ⟨hne', q'⟩
      · rfl
      · rw [self hl1] at h1
        cases h1
        rw [List.getElem?_set_ne (fun z => hne' z.symm)] at h2
        exact absurd h2 (no l w' hne' q' ho')
    · rw [List.getElem?_set_ne (fun z => hne z.symm)] at h1
      rcases low l w' hl with ⟨rfl, q', hl2⟩ | ⟨hne', q'⟩
      · rw [self hl2] at h2
        cases h2
        exact absurd h1 (no j w hne q ho)
      · rw [List.getElem?_set_ne (fun z => hne' z.symm)] at h2
        exact s.inj j l w w' b q q' ho ho' h1 h2
/-- an owned object is changed -/
theorem SIn.mutOwn (s : SIn K g H0 Hs0 r f st H Hs) {i : Nat} {a : Addr} {w u : Sl} {o : HO} (hw : r[i]? = some w) (how : w.own = true) (hst : st[i]? = some (some (.ref a))) (hu : u.own = true) (h : OwAt K H0 (upd H a o) Hs a u) :
    SIn K g H0 Hs0 (r.set i u) f st (upd H a o) Hs := by
  have ho : Owned r st a := ⟨i, w, hw, how, hst⟩
  obtain ⟨n1, n0, _⟩ := s.owned ho
  have hil : i < r.length := (List.getElem?_eq_some_iff.mp hw).1
  have low : ∀ (j : Nat) (w : Sl), (r.set i u)[j]? = some w → (j = i ∧ w = u) ∨ (j ≠ i ∧ r[j]? = some w) := fun j w e => by
    by_cases q : i = j
    · subst q
      rw [List.getElem?_set_self hil] at e
      cases e
      exact .inl ⟨rfl, rfl⟩
    · rw [List.getElem?_set_ne q] at e
      exact .inr ⟨fun z => q z.symm, e⟩
  refine ⟨by simp [s.len], s.dk0, s.dk.mut (s.notDk ho), s.stp.mut n0 n1, fun j e hj => ?_, fun j w' hj ho' => ?_, fun j l x y b hj hl ho1 ho2 h1 h2 => ?_⟩
  · rcases low j _ hj with ⟨rfl, q⟩ | ⟨hne, q⟩
    · rw [← q] at hu; cases hu
    · exact s.sh j e q
  · rcases low j w' hj with ⟨rfl, q⟩ | ⟨hne, q⟩
    · subst q
      exact ⟨a, hst, n1, n0, h⟩
    · obtain ⟨b, h3, h4, h5, h6⟩ := s.ow j w' q ho'
      have hab : b ≠ a := fun e => by
        subst e
        exact hne (s.inj j i w' w b q hw ho' how h3 hst)
      refine ⟨b, h3, h4, h5, ?_⟩
      cases w' with
      | ow xs => obtain ⟨vs, q1, q2⟩ := h6; exact ⟨vs, by rw [upd_ne hab]; exact q1, q2⟩
      | od ks xs => obtain ⟨vs, q1, q2⟩ := h6; exact ⟨vs, by rw [upd_ne hab]; exact q1, q2⟩
      | oi b c ns xs =>
        obtain ⟨qa, C, dx, vs, q0, q1, q2, q3⟩ := h6
        have hda : dx ≠ a := fun z => s.notOwnedDx q2 (z ▸ ho)
        exact ⟨qa, C, dx, vs, q0, by rw [upd_ne hab]; exact q1, by rw [upd_ne hda]; exact q2, q3⟩
      | _ => exact h6.elim
  · have hx : ∃ x', r[j]? = some x' ∧ x'.own = true := by
      rcases low j x hj with ⟨rfl, _⟩ | ⟨_, q⟩
      · exact ⟨w, hw, how⟩
      · exact ⟨x, q, ho1⟩
    have hy : ∃ x', r[l]? = some x' ∧ x'.own = true := by
      rcases low l y hl with ⟨rfl, _⟩ | ⟨_, q⟩
      · exact ⟨w, hw, how⟩
      · exact ⟨y, q, ho2⟩
    obtain ⟨x', hx1, hx2⟩ := hx
    obtain ⟨y', hy1, hy2⟩ := hy
    exact s.inj j l x' y' b hx1 hy1 hx2 hy2 h1 h2
/-- what a slot owns is shared from now on -/
def frz1 : Sl → Sl
  | .ow xs => .sh (.lst xs)
  | .od ks xs => .sh (.dct ks xs)
  | s => s
def frz (r : Sg) (l : List Nat) : Sg := l.foldl (fun r i => match r[i]? with | some s => r.set i (frz1 s) | none => r) r
theorem SIn.frz1 (s : SIn K g H0 Hs0 r f st H Hs) {i : Nat} {w : Sl} (hw : r[i]? = some w) : ∃ Hs', SIn K g H0 Hs0 (r.set i (frz1 w)) f st H Hs' := by
  have same : ∀ w', w = w' → (r.set i w') = r := fun w' e => by
    subst e
    obtain ⟨hl, e⟩ := List.getElem?_eq_some_iff.mp hw
    rw [← e, List.set_getElem_self]
  by_cases hoi : DL.frz1 w = w
  · rw [hoi, same w rfl]; exact ⟨Hs, s⟩
  by_cases how : w.own = true
  · obtain ⟨a, hst, n1, n0, hat⟩ := s.ow i w hw how
    obtain ⟨o, ho, ld⟩ := hat.ld
    have own : Owned r st a := ⟨i, w, hw, how, hst⟩
    have ext : Same Hs (upd Hs a o) := fun b u e => by rw [upd_ne (ne_of_none e n1)]; exact e
    have hil : i < r.length := (List.getElem?_eq_some_iff.mp hw).1
    have hd : ∃ d, DL.frz1 w = .sh d ∧ Rp K (upd Hs a o) d (.ref a) := by
      cases w with
      | ow xs =>
        obtain ⟨vs, q1, q2⟩ := hat
        rw [q1] at ho; cases ho
        exact ⟨_, rfl, a, vs, rfl, upd_same, q2.mono ext⟩
      | od ks xs =>
        obtain ⟨vs, q1, q2, q3⟩ := hat
        rw [q1] at ho; cases ho
        exact ⟨_, rfl, a, vs, rfl, upd_same, q2, q3.mono ext⟩
      | oi b c ns xs => exact absurd rfl hoi
      | _ => cases how
    obtain ⟨d, ed, hd⟩ := hd
    rw [ed]
    have low : ∀ (j : Nat) (w' : Sl), (r.set i (.sh d))[j]? = some w' → (j = i ∧ w' = .sh d) ∨ (j ≠ i ∧ r[j]? = some w') := fun j w' e => by
      by_cases q : i = j
      · subst q
        rw [List.getElem?_set_self hil] at e
        cases e
        exact .inl ⟨rfl, rfl⟩
      · rw [List.getElem?_set_ne q] at e
        exact .inr ⟨fun z => q z.symm, e⟩
    refine ⟨upd Hs a o, by simp [s.len], s.dk0, s.dk.share (s.notDk own), s.stp.share n0 ho n1, fun j e hj => ?_, fun j w' hj ho' => ?_, fun j l x y b hj hl ho1 ho2 h1 h2 => ?_⟩
    · rcases low j _ hj with ⟨rfl, q⟩ | ⟨hne, q⟩
      · cases q
        exact ⟨.ref a, hst, hd⟩
      · obtain ⟨v, h3, h4⟩ := s.sh j e q
        exact ⟨v, h3, h4.mono ext⟩
    · rcases low j w' hj with ⟨rfl, q⟩ | ⟨hne, q⟩
      · subst q; cases ho'
      · obtain ⟨b, h3, h4, h5, h6⟩ := s.ow j w' q ho'
        have hab : b ≠ a := fun e => by
          subst e
          exact hne (s.inj j i w' w b q hw ho' how h3 hst)
        refine ⟨b, h3, by rw [upd_ne hab]; exact h4, h5, ?_⟩
        cases w' with
        | ow xs => obtain ⟨vs, q1, q2⟩ := h6; exact ⟨vs, q1, q2.mono ext⟩
        | od ks xs => obtain ⟨vs, q1, q2, q3⟩ := h6; exact ⟨vs, q1, q2, q3.mono ext⟩
        | oi b c ns xs =>
          obtain ⟨qa, C, dx, vs, q0, q1, q2, q3, q4, q5, q6⟩ := h6
          have hda : dx ≠ a := fun z => s.notOwnedDx q2 (z ▸ own)
          exact ⟨qa, C, dx, vs, q0, q1, q2, by rw [upd_ne hda]; exact q3, q4, q5, q6.mono ext⟩
        | _ => exact h6.elim
    · rcases low j x hj with ⟨rfl, q⟩ | ⟨_, q⟩
      · subst q; cases ho1
      · rcases low l y hl with ⟨rfl, q'⟩ | ⟨_, q'⟩
        · subst q'; cases ho2
        · exact s.inj j l x y b q q' ho1 ho2 h1 h2
  · have : DL.frz1 w = w := by cases w <;> first | rfl | exact absurd rfl how
    rw [this, same w rfl]
    exact ⟨Hs, s⟩
theorem SIn.frz : ∀ (l : List Nat) {r : Sg} {Hs : Hp}, SIn K g H0 Hs0 r f st H Hs → ∃ Hs', SIn K g H0 Hs0 (frz r l) f st H Hs'
  | [], _, _, s => ⟨_, s⟩
  | i :: l, r, Hs, s => by
    show ∃ Hs', SIn K g H0 Hs0 (DL.frz (match r[i]? with | some s => r.set i (DL.frz1 s) | none => r) l) f st H Hs'
    cases e : r[i]? with
    | none => exact SIn.frz l s
    | some w =>
      obtain ⟨Hs1, s1⟩ := s.frz1 e
      exact SIn.frz l s1
end
end DL
namespace DL
open PySem PySem.Spec PyProof.Rows L2
section
variable {X : Cx} {K : PySem.W.Frag} {W : WX}
theorem SIn.stpPlus {g : Option Dk} {H0 Hs0 : Hp} {r : Sg} {f : Nat} {st : L2.St} {H Hs : Hp} (s : SIn K g H0 Hs0 r f st H Hs) : Stp g H0 Hs0 H (plus r st H Hs) where
  sub := s.plusSub
  ext := s.stp.ext.trans s.plusExt
  keep := s.stp.keep
  there := s.stp.there
  new := fun a o h n => by
    have no : ¬ Owned r st a := fun e => by rw [(s.owned e).2.1] at h; cases h
    rw [plus_out no]
    exact s.stp.new a o h n
theorem SIn.afterExt {g : Option Dk} {H0 Hs0 : Hp} {r : Sg} {f : Nat} {st : L2.St} {H Hs H' Hs' : Hp} (s : SIn K g H0 Hs0 r f st H Hs) (p : Stp g H (plus r st H Hs) H' Hs') : Same Hs (minus r st Hs') := fun a o h => by
  have no : ¬ Owned r st a := fun e => by rw [(s.owned e).1] at h; cases h
  rw [minus_out no]
  exact p.ext a o (s.plusExt a o h)
/-! another base: what is shared now is to stay -/
def mix (Hb H0 : Hp) : Hp := fun a => match Hb a with
  | some o => some o
  | none => H0 a
theorem mix_some {Hb H0 : Hp} {a : Addr} {o : HO} (h : Hb a = some o) : mix Hb H0 a = some o := by unfold mix; rw [h]
theorem mix_none {Hb H0 : Hp} {a : Addr} (h : Hb a = none) : mix Hb H0 a = H0 a := by unfold mix; rw [h]
theorem Stp.unmix {g : Option Dk} {H0 Hs0 H1 Hb H Hs : Hp} (p : Stp g H0 Hs0 H1 Hb) (q : Stp g (mix Hb H0) Hb H Hs) : Stp g H0 Hs0 H Hs where
  sub := q.sub
  ext := p.ext.trans q.ext
  keep := fun a o h n => by
    cases e : Hb a with
    | none => exact q.keep a o (by rw [mix_none e]; exact h) n
    | some o' =>
      have e1 := p.keep a o h n
      rw [p.sub a o' e] at e1
      cases e1
      exact q.keep a o (mix_some e) n
  there := fun a o h => by
    cases e : Hb a with
    | none => exact q.there a o (by rw [mix_none e]; exact h)
    | some o' => exact q.there a o' (mix_some e)
  new := fun a o h n => by
    have nb := p.new a o h n
    exact q.new a o (by rw [mix_none nb]; exact h) nb
theorem OwAt.reb {H0 H0' H Hs : Hp} {a : Addr} {sl : Sl} (e : ∀ dx, H0 dx = none → Hs dx = none → H0' dx = none) (h : OwAt K H0 H Hs a sl) : OwAt K H0' H Hs a sl := by
  cases sl with
  | oi b c ns xs =>
    obtain ⟨qa, C, dx, vs, q0, q1, q2, q3, q4, q5⟩ := h
    exact ⟨qa, C, dx, vs, q0, q1, q2, q3, e dx q4 q3, q5⟩
  | _ => exact h
theorem SIn.rebase {g : Option Dk} {H0 Hs0 Hb : Hp} {r : Sg} {f : Nat} {st : L2.St} {H Hs : Hp} (s : SIn K g H0 Hs0 r f st H Hs) (h1 : Same Hs0 Hb) (h2 : Same Hb Hs) : SIn K g (mix Hb H0) Hb r f st H Hs where
  len := s.len
  dk0 := by
    obtain ⟨f0, k⟩ := s.dk0
    refine ⟨f0, ?_⟩
    have kk := s.dk
    cases g with
    | none => trivial
    | some d =>
      obtain ⟨_, m1, m2, m3⟩ := kk
      have n1 := same_none h2 m1
      have n2 := same_none h2 m2
      have n3 := same_none h2 m3
      obtain ⟨⟨e1, e2, e3, n', xs, ys, k1, k2, k3, k4⟩, _⟩ := k
      exact ⟨⟨e1, e2, e3, n', xs, ys, by rw [mix_none n1]; exact k1, by rw [mix_none n2]; exact k2, by rw [mix_none n3]; exact k3, k4⟩, n1, n2, n3⟩
  dk := s.dk
  stp := by
    refine ⟨s.stp.sub, h2, fun a o h n => ?_, fun a o h => ?_, fun a o h n => ?_⟩
    · cases e : Hb a with
      | none => rw [mix_none e] at h; exact s.stp.keep a o h n
      | some o' => rw [mix_some e] at h; cases h; exact s.stp.sub a o (h2 a o e)
    · cases e : Hb a with
      | none => rw [mix_none e] at h; exact s.stp.there a o h
      | some o' => exact ⟨o', s.stp.sub a o' (h2 a o' e)⟩
    · rw [mix_none n] at h
      exact s.stp.new a o h (same_none h1 n)
  sh := s.sh
  ow := fun i sl hi ho => by
    obtain ⟨a, q1, q2, q3, q4⟩ := s.ow i sl hi ho
    exact ⟨a, q1, q2, by rw [mix_none (same_none h2 q2)]; exact q3, q4.reb fun dx z1 z2 => by rw [mix_none (same_none h2 z2)]; exact z1⟩
  inj := s.inj
theorem SIn.unbase {g : Option Dk} {H0 Hs0 H1 Hb : Hp} {r : Sg} {f : Nat} {st : L2.St} {H Hs : Hp} (p : Stp g H0 Hs0 H1 Hb) (k : ∃ f0, DkOk g H0 Hs0 f0) (s : SIn K g (mix Hb H0) Hb r f st H Hs) : SIn K g H0 Hs0 r f st H Hs where
  len := s.len
  dk0 := k
  dk := s.dk
  stp := p.unmix s.stp
  sh := s.sh
  ow := fun i sl hi ho => by
    obtain ⟨a, q1, q2, q3, q4⟩ := s.ow i sl hi ho
    exact ⟨a, q1, q2, by rw [mix_none (same_none s.stp.ext q2)] at q3; exact q3, q4.reb fun dx z1 z2 => by rw [mix_none (same_none s.stp.ext z2)] at z1; exact z1⟩
  inj := s.inj
/-- an expression's value, flat with all slots in sight (true), or any with the owning slots hidden (false) -/
def evM (m : Bool) (dl : DT) : DT := fun g r f Q => match m with
  | true => dl g r f fun d f' => d.flat = true ∧ Q d f'
  | false => dl g (hide r) f Q
theorem snd_evM {t : TE} {dl : DT} (h : Snd K t dl) {m : Bool} {g : Option Dk} {H0 Hs0 : Hp} {r : Sg} {f : Nat} {st : L2.St} {H Hs : Hp} {Q : VK} {Q' : QD} (s : SIn K g H0 Hs0 r f st H Hs)
    (hq : ∀ d f' v H' Hs', SIn K g H0 Hs0 r f' st H' Hs' → Same Hs Hs' → Rp K Hs' d v → Q' d f' → Q v H') (hd : evM m dl g r f Q') : t st H Q := by
  cases m with
  | true => exact h g r f st H _ Q _ s.at (fun d f' v H' Hs' p k hr q => hq d f' v H' _ (s.after p k) (s.afterExt p) (s.flatV p q.1 hr) q.2) hd
  | false => exact h g (hide r) f st H _ Q Q' s.atHid (fun d f' v H' Hs' p k hr q => hq d f' v H' _ (s.afterHid p k) p.ext hr q) hd
/-- a new list's items, flat with all slots in sight, or any with the owning slots hidden -/
def evL (m : Bool) (dl : DTA) : DTA := fun g r f Q => match m with
  | true => dl g r f fun ds f' => flatA ds = true ∧ Q ds f'
  | false => dl g (hide r) f Q
theorem Stp.none0 {g : Option Dk} {H Hs H' Hs' : Hp} (s : Stp g H Hs H' Hs') {p : Addr} (h : H' p = none) : H p = none := none_back s h
theorem snd_evL {t : TE} {dl : DTA} (h : SndL K t dl) {m : Bool} {g : Option Dk} {H0 Hs0 : Hp} {r : Sg} {f : Nat} {st : L2.St} {H Hs : Hp} {Q : VK} {Q' : List D → Nat → Prop} (s : SIn K g H0 Hs0 r f st H Hs)
    (hq : ∀ ds f' p vs H' Hs', SIn K g H0 Hs0 r f' st H' Hs' → H p = none → Hs' p = none → H0 p = none → H' p = some (.lst vs) → RpA K Hs' ds vs → (∀ (j : Nat) (sl : Sl), r[j]? = some sl → sl.own = true → st[j]? ≠ some (some (.ref p))) → Q' ds f' → Q (.ref p) H') (hd : evL m dl g r f Q') : t st H Q := by
  have notO : ∀ p, H p = none → ∀ (j : Nat) (sl : Sl), r[j]? = some sl → sl.own = true → st[j]? ≠ some (some (.ref p)) := fun p hp j sl h1 h2 h3 => by
    obtain ⟨a, e, _, _, q⟩ := s.ow j sl h1 h2
    rw [h3] at e
    cases e
    obtain ⟨o, ho, _⟩ := q.ld
    rw [hp] at ho; cases ho
  cases m with
  | true => exact h g r f st H _ Q _ s.at (fun ds f' p vs H' Hs' sp k n0 n1 e hr q => by
      have no : ¬ Owned r st p := fun ⟨j, sl, h1, h2, h3⟩ => notO p n0 j sl h1 h2 h3
      refine hq ds f' p vs H' _ (s.after sp k) n0 (by rw [minus_out no]; exact n1) (s.stp.none0 n0) e ?_ (notO p n0) q.2
      exact hr.flat (fun a o e l => by
        by_cases w : Owned r st a
        · obtain ⟨_, _, sl, _, u⟩ := s.owned w
          obtain ⟨o', ho, ld⟩ := u.ld
          have := sp.keep a o' ho (s.notDk w)
          rw [sp.sub a o e] at this
          cases this
          rw [ld] at l
          cases l
        · rw [minus_out w]; exact e) ds vs q.1) hd
  | false => exact h g (hide r) f st H _ Q Q' s.atHid (fun ds f' p vs H' Hs' sp k n0 n1 e hr q => hq ds f' p vs H' _ (s.afterHid sp k) n0 n1 (s.stp.none0 n0) e hr (notO p n0) q) hd
/-! blocks -/
def sNext : DTS := fun _ r f E => E.nx r f
def sSeq (a b : DTS) : DTS := fun g r f E => a g r f { E with nx := fun r' f' => b g r' f' E }
theorem dss_nil : DSs X [] sNext := .mk' (pss_nil) (fun g H0 Hs0 r f st H D E s e h => e.nx r f st H s h)
theorem dss_one {st : Stmt} {d : DTS} (h : DS X st d) : DSs X [st] d := .mk' (pss_one h.ps) (h.sn)
theorem dss_cons {st : Stmt} {rest : List Stmt} {d e : DTS} (h1 : DS X st d) (h2 : DSs X rest e) : DSs X (st :: rest) (sSeq d e) := .mk' (pss_cons h1.ps h2.ps) (fun g H0 Hs0 r f st H D E s e h =>
  h1.sn g H0 Hs0 r f st H _ { E with nx := fun r' f' => _ } s ⟨fun r' f' st' H' s' h' => h2.sn g H0 Hs0 r' f' st' H' D E s' e h', e.rt, e.bk, e.ct, e.xc⟩ h)
def sNever : DTS := fun _ _ _ _ => False
theorem ds_never {st : Stmt} : DS X st sNever := .mk' (ps_never) (fun _ _ _ _ _ _ _ _ _ _ _ h => h)
def sIf (c : DTT) (a b : DTS) : DTS := fun g r f E => c g r f fun k f1 => if k = true then a g r f1 E else b g r f1 E
theorem ds_if {c : Expr} {a b : List Stmt} {pos : Pos} {dc : DTT} {d e : DTS} (hc : DP X c dc) (ha : DSs X a d) (hb : DSs X b e) : DS X (.If c a b pos) (sIf dc d e) := .mk' (ps_if hc.pt ha.ps hb.ps) (fun g H0 Hs0 r f st H D E s e h => by
  obtain ⟨Hs, s⟩ := s
  refine hc.sn g r f st H _ _ _ s.at (fun k f1 H1 Hs1 s1 k1 q1 => ?_) h
  cases k with
  | true => exact ha.sn g H0 Hs0 r f1 st H1 D E ⟨_, s.after s1 k1⟩ e q1
  | false => exact hb.sn g H0 Hs0 r f1 st H1 D E ⟨_, s.after s1 k1⟩ e q1)
def sRet (dl : DT) : DTS := fun g r f E => dl g r f E.rt
theorem ds_ret {e : Expr} {pos : Pos} {d : DT} (h : DE X e d) : DS X (.Return (some e) pos) (sRet d) := .mk' (ps_ret h.pe) (fun g H0 Hs0 r f st H D E s e hd => by
  obtain ⟨Hs, s⟩ := s
  exact h.sn g r f st H _ _ _ s.at (fun d f1 v H1 Hs1 s1 k1 r1 q1 => e.rt d f1 v H1 Hs1 (s.stpPlus.trans s1) k1 r1 q1) hd)
/-! assignments -/
def sSet (m : Bool) (i : Nat) (dl : DT) : DTS := fun g r f E => evM m dl g r f fun d f' => E.nx (r.set i (.sh d)) f'
theorem snd_set {m : Bool} {i : Nat} {t : TE} {d : DT} (h : Snd K t d) : SndS K W (tAsg t (gName i)) (sSet m i d) := fun g H0 Hs0 r f st H D E s e hd => by
  obtain ⟨Hs, s⟩ := s
  exact snd_evM h s (fun d f' v H' Hs' s' _ hr q => e.nx _ f' _ H' ⟨_, s'.set i hr⟩ q) hd
theorem ds_set (m : Bool) {i : Nat} {x : Str} {e : Expr} {pos pos' : Pos} {d : DT} (hN : X.N.Nodup) (h : DE X e d) (hi : X.N[i]? = some x := by rfl) (hx : Loc X.env.scope x := by first | exact Or.inl rfl | exact Or.inr rfl)
    (hs : swapsWith e (some (.Name x pos')) pos.line X.env = pure false := by rfl) (hf : X.fn x = true ∨ X.env.scope.names.lookup x = some .local := by first | exact .inl rfl | exact .inr rfl | assumption) :
    DS X (.Assign [.Name x pos'] e pos) (sSet m i d) := .mk' (ps_set hN hi hx h.pe hs hf) (snd_set h.sn)
def sSetL (m : Bool) (i : Nat) (dl : DTA) : DTS := fun g r f E => evL m dl g r f fun ds f' => E.nx (r.set i (.ow ds)) f'
theorem snd_setL {m : Bool} {i : Nat} {t : TE} {d : DTA} (h : SndL K t d) : SndS K W (tAsg t (gName i)) (sSetL m i d) := fun g H0 Hs0 r f st H D E s e hd => by
  obtain ⟨Hs, s⟩ := s
  exact snd_evL h s (fun ds f' p vs H' Hs' s' n n1 n0 hp hr no q => e.nx _ f' _ H' ⟨_, s'.setOwn i (u := .ow ds) rfl n0 n1 (fun j sl _ h1 h2 => no j sl h1 h2) ⟨vs, hp, hr⟩⟩ q) hd
theorem ds_setL (m : Bool) {i : Nat} {x : Str} {e : Expr} {pos pos' : Pos} {d : DTA} (hN : X.N.Nodup) (h : DL' X e d) (hi : X.N[i]? = some x := by rfl) (hx : Loc X.env.scope x := by first | exact Or.inl rfl | exact Or.inr rfl)
    (hs : swapsWith e (some (.Name x pos')) pos.line X.env = pure false := by rfl) (hf : X.fn x = true ∨ X.env.scope.names.lookup x = some .local := by first | exact .inl rfl | exact .inr rfl | assumption) :
    DS X (.Assign [.Name x pos'] e pos) (sSetL m i d) := .mk' (ps_set hN hi hx h.pe hs hf) (snd_setL h.sn)
/-- y = [..] on one line -/
theorem ds_setLc {i : Nat} {y : Str} {py : Pos} {elt tg iter : Expr} {ifs : List Expr} {scope : Scope} {own : List (Str × Nat)} {pos spos : Pos} {is : List Nat} {di : DTA} {t : TgF} {c : DTT} {e : DT} {dl : DTS} (hN : X.N.Nodup) (hi : DI X tg iter di) (ok : BlkOk X.N X.env.scope scope own)
    (hg : ∀ (s : Shared) (H : Hp) (C : Addr) (cl : List (Str × Addr)) (fp : List Addr), DG (X.blk s H scope (compEnvC scope cl C X.env) fp) tg is t) (ht : ∀ (s : Shared) (H : Hp) (C : Addr) (cl : List (Str × Addr)) (fp : List Addr), DTs (X.blk s H scope (compEnvC scope cl C X.env) fp) ifs c)
    (he : ∀ (s : Shared) (H : Hp) (C : Addr) (cl : List (Str × Addr)) (fp : List Addr), DE (X.blk s H scope (compEnvC scope cl C X.env) fp) elt e)
    (hsn : ∀ (K : PySem.W.Frag) (W : WX) (t' : TE), SndL K t' (dLc di t c e (own.map (·.2))) → SndS K W (tAsg t' (gName i)) dl)
    (hy : X.N[i]? = some y := by rfl) (hyl : X.env.scope.names.lookup y = some .local := by rfl) (hc : X.calm = true := by rfl)
    (hsw : swapsWith (.ListComp elt [⟨tg, iter, ifs, 0⟩] scope pos) (some (.Name y py)) spos.line X.env = pure true := by exact sw_true rfl rfl rfl (by decide +kernel)) (hs : ∀ x, foldedSetIterable iter X.env x = pure x := by intro _; rfl) (hsub : ∀ j ∈ is, j ∈ own.map (·.2) := by decide) :
    DS X (.Assign [.Name y py] (.ListComp elt [⟨tg, iter, ifs, 0⟩] scope pos) spos) dl :=
  DS.mk' (ps_setLc (g := gOf X.K is t) (tt := tOfT X.K c) (te := tOf X.K e) hc hN hy hyl hsw hi.pi ok (fun s H C cl fp => (hg s H C cl fp).pg) (fun s H C cl fp => (ht s H C cl fp).pt) (fun s H C cl fp => (he s H C cl fp).pe) hs)
    (hsn X.K _ _ (snd_lc hi.sn (hg X.s_0 (fun _ => none) 0 [] []).sn (ht X.s_0 (fun _ => none) 0 [] []).sn (he X.s_0 (fun _ => none) 0 [] []).sn hsub))
/-- target = value: a tuple taken apart -/
def sAsg (m : Bool) (dl : DT) (t : TgF) : DTS := fun g r f E => evM m dl g r f fun d f' => match t d with
  | some l => E.nx (setsR r l) f'
  | none => False
theorem ds_asg (m : Bool) {tg e : Expr} {pos : Pos} {is : List Nat} {d : DT} {t : TgF} (h : DE X e d) (hg : DG X tg is t) (hs : swapsWithSole [tg] e pos.line X.env = pure false := by rfl) (hw : swappedStores [tg] e X.env = pure none := by rfl) (h1 : (assignEach [tg] X.env).map (·.2) = [assign tg X.env] := by rfl) : DS X (.Assign [tg] e pos) (sAsg m d t) :=
  .mk' (ps_asg h.pe hg.pg hs hw h1) (fun g H0 Hs0 r f st H D E s e hd => by
    obtain ⟨Hs, s⟩ := s
    refine snd_evM h.sn s (fun d f' v H' Hs' s' _ hr q => ?_) hd
    cases et : t d with
    | none => rw [et] at q; exact q.elim
    | some l =>
      rw [et] at q
      refine hg.sn.2 H' Hs' st d v _ l s'.stp.sub hr et fun vs hv => ?_
      have s2 := s'.sets hv
      rw [hg.sn.1 d l et] at s2
      exact e.nx _ f' _ H' ⟨_, s2⟩ q)
/-- a, b = e1, e2 -/
def sPar (m : Bool) (i j : Nat) (a b : DT) : DTS := fun g r f E => evM m a g r f fun x f1 => evM m b g r f1 fun y f2 => E.nx ((r.set i (.sh x)).set j (.sh y)) f2
theorem ds_par (m : Bool) {i j : Nat} {x y : Str} {a b : Expr} {da db : DT} {px py pt : Pos} {kt k2 : Nat} {pt2 pos : Pos} (hN : X.N.Nodup) (ha : DE X a da) (hb : DE X b db) (hc : X.calm = true := by rfl) (hi : X.N[i]? = some x := by rfl) (hj : X.N[j]? = some y := by rfl) (hij : i ≠ j := by decide)
    (hx : X.env.scope.names.lookup x = some .local := by rfl) (hy : X.env.scope.names.lookup y = some .local := by rfl) (hst : starEach [a, b] X.env = (false, eval a X.env) :: starEach [b] X.env := by rfl) (hst2 : starEach [b] X.env = [(false, eval b X.env)] := by rfl)
    (hw : swappedStores [.Tuple [.Name x px, .Name y py] kt pt] (.Tuple [a, b] k2 pt2) X.env = pure (some [x, y]) := by rfl)
    (hs : swapsWithSole [.Tuple [.Name x px, .Name y py] kt pt] (.Tuple [a, b] k2 pt2) pos.line X.env = pure false := by rfl) :
    DS X (.Assign [.Tuple [.Name x px, .Name y py] kt pt] (.Tuple [a, b] k2 pt2) pos) (sPar m i j da db) := DS.mk' (ps_par hc hN hi hj hij hx hy (pa_cons ha.pe (pa_cons hb.pe pa_nil hst2) hst) hw hs) (fun g H0 Hs0 r f st H D E s e hd => by
  obtain ⟨Hs, s⟩ := s
  refine snd_evM ha.sn s (fun x f1 v H1 Hs1 s1 _ r1 q1 => ?_) hd
  refine snd_evM hb.sn s1 (fun y f2 w H2 Hs2 s2 e2 r2 q2 => ?_) q1
  exact ⟨v, w, rfl, e.nx _ f2 _ H2 ⟨_, (s2.set i (r1.mono e2)).set j r2⟩ q2⟩)
/-! loops -/
def dForGo (g : Option Dk) (t : TgF) (body : DTS) (E : DEnds) : List D → Sg → Nat → Prop
  | [], r, f => E.nx r f
  | d :: ds, r, f => match t d with
    | none => False
    | some l => body g (setsR r l) f { E with nx := fun r' f' => dForGo g t body E ds r' f', ct := fun r' f' => dForGo g t body E ds r' f', bk := E.nx }
def sFor (fz : List Nat) (i : DTA) (t : TgF) (body : DTS) : DTS := fun g r f E => i g (hide (frz r fz)) f fun ds f1 => dForGo g t body E ds (frz r fz) f1
theorem snd_for {fz : List Nat} {wi : TI} {gt : TG} {tb : TS} {is : List Nat} {i : DTA} {t : TgF} {body : DTS} (hi : SndI K wi i) (hg : SndG K is gt t) (hb : SndS K W tb body) : SndS K W (tFor wi gt tb) (sFor fz i t body) := fun g H0 Hs0 r f st H D E s e hd => by
  obtain ⟨Hs, s⟩ := s
  obtain ⟨Hs, s⟩ := s.frz fz
  refine hi g _ f st H Hs _ _ s.atHid (fun ds f1 J H1 Hs1 s1 k1 wk q1 => ?_) hd
  have sb := s.afterHid s1 k1
  refine ⟨fun i m st2 H2 => m = ds.length - i ∧ i ≤ ds.length ∧ ∃ r2 f2 Hs2, SIn K g H0 Hs0 r2 f2 st2 H2 Hs2 ∧ Same Hs1 Hs2 ∧ dForGo g t body E (ds.drop i) r2 f2, ⟨ds.length, rfl, Nat.zero_le _, _, f1, Hs1, sb, Same.refl _, q1⟩, ?_⟩
  rintro i m st2 H2 ⟨rfl, hil, r2, f2, Hs2, s2, e2, q2⟩
  by_cases hlt : i < ds.length
  · have hgd : ds[i]? = some ds[i] := List.getElem?_eq_getElem hlt
    have hdr : ds.drop i = ds[i] :: ds.drop (i + 1) := List.drop_eq_getElem_cons hlt
    rw [hdr] at q2
    obtain ⟨hgo, hy⟩ := wk.go i _ H2 Hs2 e2 s2.stp.sub hgd
    refine .inr ⟨hgo, fun st3 H3 => i + 1 ≤ ds.length ∧ ∃ r2 f2 Hs2, SIn K g H0 Hs0 r2 f2 st3 H3 Hs2 ∧ Same Hs1 Hs2 ∧ dForGo g t body E (ds.drop (i + 1)) r2 f2, fun st3 H3 h3 => ⟨_, by omega, rfl, h3⟩, fun x H3 hx => ?_⟩
    obtain ⟨Hs3, s3, r3⟩ := hy x H3 hx
    simp only [dForGo] at q2
    cases et : t ds[i] with
    | none => rw [et] at q2; exact q2.elim
    | some l =>
      rw [et] at q2
      replace q2 : body g (setsR r2 l) f2 { E with nx := fun r' f' => dForGo g t body E (ds.drop (i + 1)) r' f', ct := fun r' f' => dForGo g t body E (ds.drop (i + 1)) r' f', bk := E.nx } := q2
      have s2' := s2.afterHid s3.gen (s2.dk.stp s3)
      refine hg.2 H3 Hs3 _ _ x _ l s3.sub r3 et fun us hus => ?_
      have s4 := s2'.sets hus
      rw [hg.1 _ l et] at s4
      have s5 := s4.rebase sb.stp.ext (e2.trans s3.ext)
      refine hb g _ _ _ f2 _ H3 _ { E with nx := fun r' f' => dForGo g t body E (ds.drop (i + 1)) r' f', ct := fun r' f' => dForGo g t body E (ds.drop (i + 1)) r' f', bk := E.nx } ⟨_, s5⟩ ⟨fun r' f' st' H' q h => ?_, fun d f' v H' Hs' p k hr h => e.rt d f' v H' Hs' (sb.stp.unmix p) k hr h, fun r' f' st' H' q h => ?_, fun r' f' st' H' q h => ?_, fun x' r' f' st' H' cls d' q h => ?_⟩ q2
      · obtain ⟨Hs6, q⟩ := q
        exact ⟨hlt, r', f', Hs6, q.unbase sb.stp s.dk0, q.stp.ext, h⟩
      · obtain ⟨Hs6, q⟩ := q
        exact e.nx r' f' st' H' ⟨_, q.unbase sb.stp s.dk0⟩ h
      · obtain ⟨Hs6, q⟩ := q
        exact ⟨hlt, r', f', Hs6, q.unbase sb.stp s.dk0, q.stp.ext, h⟩
      · obtain ⟨Hs6, q, q'⟩ := q
        exact e.xc x' r' f' st' H' cls d' ⟨_, q.unbase sb.stp s.dk0, q'⟩ h
  · have ei : i = ds.length := by omega
    subst ei
    rw [List.drop_length] at q2
    exact .inl ⟨wk.stop H2 (fun a o h => s2.stp.sub a o (e2 a o h)), e.nx r2 f2 st2 H2 ⟨_, s2⟩ q2⟩
theorem ds_for (fz : List Nat) {tg iter : Expr} {body : List Stmt} {pos : Pos} {is : List Nat} {i : DTA} {t : TgF} {db : DTS} (hp : PassesOwn (model X.prog X.w) X.A X.env X.xe) (hi : DI X tg iter i) (hg : DG X tg is t) (hb : DSs X body db) (hc : X.calm = true := by rfl)
    (hs : ∀ x, foldedSetIterable iter X.env x = pure x := by intro _; rfl) : DS X (.For tg iter body [] pos) (sFor fz i t db) := .mk' (ps_for hp hc hi.pi hg.pg hb.ps hs) (snd_for hi.sn hg.sn hb.sn)
/-! stores into what a slot owns -/
def sApp (m : Bool) (i : Nat) (dl : DT) : DTS := fun g r f E => ∃ xs, r[i]? = some (.ow xs) ∧ evM m dl g r f fun d f' => xs.length ≤ lim ∧ E.nx (r.set i (.ow (xs ++ [d]))) f'
theorem snd_app {m : Bool} {i : Nat} {t : TE} {d : DT} (h : Snd K t d) : SndS K W (tDrop (tBM K "list" rAppend (tVar i) (tCons t tNil))) (sApp m i d) := fun g H0 Hs0 r f st H D E s e hd => by
  obtain ⟨Hs, s⟩ := s
  obtain ⟨xs, hx, hd⟩ := hd
  obtain ⟨a, ha, n1, n0, vs, hv, hr⟩ := s.ow i _ hx rfl
  refine ⟨.ref a, ha, .inl ⟨rfl, vs, SqL.of hv⟩, ?_⟩
  refine snd_evM h s (fun d f' v H' Hs' s' _ hr' q => ?_) hd
  obtain ⟨hl, q⟩ := q
  obtain ⟨a', ha', n1', n0', vs', hv', hr2⟩ := s'.ow i _ hx rfl
  rw [ha] at ha'
  cases ha'
  exact ⟨a, vs', v, rfl, rfl, hv', hr2.lt hl, e.nx _ f' st _ ⟨_, s'.mutOwn (u := .ow (xs ++ [d])) hx rfl ha rfl ⟨vs' ++ [v], upd_same, hr2.append (RpA.one hr')⟩⟩ q⟩
theorem ds_app (m : Bool) {i : Nat} {x : Str} {e : Expr} {px apos cpos pos : Pos} {d : DT} (h : DE X e d) (hN : X.N[i]? = some x := by rfl) (hv : Vis X.env.scope x := by first | exact Or.inl rfl | exact Or.inr (Or.inl rfl) | exact Or.inr (Or.inr rfl)) (hd : (x == ("__debug__" : Str)) = false := by decide)
    (hcd : (x == ("__classdict__" : Str)) = false := by decide) (hP : ∀ t : TE, PE X (.Name x px) (tVar i) → PA X [e] (tCons t tNil) → PE X (.Call (.Attribute (.Name x px) "append" apos) [e] [] cpos) (tBM X.K "list" rAppend (tVar i) (tCons t tNil)) := by
      exact fun t a b => pe_bm PySem.F.plainAttrs_list PySem.F.slot_list_append PySem.F.type_list_append mt_append a b)
    (hs : swapsWith (.Call (.Attribute (.Name x px) "append" apos) [e] [] cpos) none pos.line X.env = pure false := by rfl) (hst : starEach [e] X.env = [(false, eval e X.env)] := by rfl) :
    DS X (.Expr (.Call (.Attribute (.Name x px) "append" apos) [e] [] cpos) pos) (sApp m i d) :=
  DS.mk' (ps_expr (hP _ (pe_var hN hv hd hcd) (pa_cons h.pe pa_nil hst)) hs) (snd_app h.sn)
/-- xs[k] = e -/
def sSetIx (m : Bool) (i : Nat) (dk dl : DT) : DTS := fun g r f E => ∃ xs, r[i]? = some (.ow xs) ∧ evM m dl g r f fun d f1 => dk g r f1 fun k f2 => match k with
  | .int k => ∃ j, ixN xs.length k = some j ∧ E.nx (r.set i (.ow (xs.set j d))) f2
  | _ => False
theorem snd_setIx {m : Bool} {i : Nat} {tk t : TE} {dk d : DT} (hk : Snd K tk dk) (h : Snd K t d) : SndS K W (tAsg t (gSub (tVar i) tk rSetL)) (sSetIx m i dk d) := fun g H0 Hs0 r f st H D E s e hd => by
  obtain ⟨Hs, s⟩ := s
  obtain ⟨xs, hx, hd⟩ := hd
  obtain ⟨a, ha, n1, n0, vs, hv, hr⟩ := s.ow i _ hx rfl
  refine snd_evM h s (fun d f' v H' Hs' s' _ hr' q => ?_) hd
  refine ⟨.ref a, ha, ?_⟩
  refine hk g r f' st H' _ _ _ s'.at (fun k f2 w H2 Hs2 s2 k2 r2 q2 => ?_) q
  have s3 := s'.after s2 k2
  cases k <;> try exact q2.elim
  obtain ⟨j, hj, q2⟩ := q2
  obtain ⟨a', ha', n1', n0', vs', hv', hr2⟩ := s3.ow i _ hx rfl
  rw [ha] at ha'
  cases ha'
  exact ⟨a, vs', _, j, rfl, r2, hv', by rw [← hr2.length]; exact hj, e.nx _ f2 st _ ⟨_, s3.mutOwn (u := .ow (xs.set j d)) hx rfl ha rfl ⟨vs'.set j v, upd_same, hr2.set j (hr'.mono (s'.afterExt s2))⟩⟩ q2⟩
theorem ds_setIx (m : Bool) {i : Nat} {x : Str} {e k : Expr} {px spos pos : Pos} {dk d : DT} (hk : DE X k dk) (h : DE X e d) (hN : X.N[i]? = some x := by rfl) (hv : Vis X.env.scope x := by first | exact Or.inl rfl | exact Or.inr (Or.inl rfl) | exact Or.inr (Or.inr rfl)) (hd : (x == ("__debug__" : Str)) = false := by decide)
    (hcd : (x == ("__classdict__" : Str)) = false := by decide)
    (ha : ∀ v, assign (.Subscript (.Name x px) k spos) X.env v = (do
      let ov ← holding [v] (eval (.Name x px) X.env)
      let iv ← holding [v, ov] (eval k X.env)
      standAt spos
      holding [v, ov, iv] (setItem ov iv v)
      release [v, ov, iv] []) := by intro _; rfl)
    (hs : swapsWithSole [.Subscript (.Name x px) k spos] e pos.line X.env = pure false := by rfl) (hw : swappedStores [.Subscript (.Name x px) k spos] e X.env = pure none := by rfl) (h1 : (assignEach [.Subscript (.Name x px) k spos] X.env).map (·.2) = [assign (.Subscript (.Name x px) k spos) X.env] := by rfl) :
    DS X (.Assign [.Subscript (.Name x px) k spos] e pos) (sSetIx m i dk d) :=
  .mk' (ps_asg h.pe (pg_sub (pe_var hN hv hd hcd) hk.pe set_list ha) hs hw h1) (snd_setIx hk.sn h.sn)
/-! a def -/
def startR (n : Nat) (ds : List D) : Sg := ds.map .sh ++ List.replicate (n - ds.length) .no
theorem start_in {g : Option Dk} {H Hs : Hp} {f : Nat} {ds : List D} {vs : List V} {N : List Str} (hs : Same Hs H) (hk : DkOk g H Hs f) (hr : RpA K Hs ds vs) : SIn K g H Hs (startR N.length ds) f (L2.start N vs) H Hs := by
  refine ⟨by simp [startR, L2.start, hr.length], ⟨f, hk⟩, hk, Stp.refl hs, fun i d h => ?_, fun i s h ho => ?_, fun i j s u a h1 h2 ho => ?_⟩
  · unfold startR at h
    unfold L2.start
    by_cases hl : i < ds.length
    · rw [List.getElem?_append_left (by simpa using hl), List.getElem?_map] at h
      rw [List.getElem?_append_left (by simpa [← hr.length] using hl), List.getElem?_map]
      rw [List.getElem?_eq_getElem hl] at h
      cases h
      obtain ⟨v, h1, h2⟩ := hr.get (List.getElem?_eq_getElem hl)
      exact ⟨v, by rw [h1]; rfl, h2⟩
    · rw [List.getElem?_append_right (by simpa using hl)] at h
      rw [List.getElem?_replicate] at h
      split at h
      · cases h
      · cases h
  all_goals
    exfalso
    have : ∀ (i : Nat) (s : Sl), (startR N.length ds)[i]? = some s → s.own = false := fun i s h => by
      have := List.mem_of_getElem? h
      unfold startR at this
      rcases List.mem_append.mp this with h | h
      · obtain ⟨d, _, rfl⟩ := List.mem_map.mp h
        rfl
      · rw [(List.mem_replicate.mp h).2]
        rfl
  · rw [this i s h] at ho; cases ho
  · rw [this i s h1] at ho; cases ho
variable {P : Program} {w : World} {mg : Str → Option Value} {base : Heap}
theorem dfn {x qual : Str} {st : Stmt} {f : Addr} {fd : FuncData} {N ps : List Str} {k : Nat} {S : DSp} {dl : DTS} (F : Fun K x qual st f fd) (sc : FnScope N ps (defScope st)) (len : ∀ g ds n Q, S g ds n Q → ds.length = ps.length)
    (hb : ∀ (cdv : Value) (A : Around) (outer : List Env) (s : Shared) (H : Hp) (E : XK), Room k (A.deeper (envOfC qual (defScope st) s.heap.objs.size f cdv)) → DSs (cxOf CX0 P w K mg base N qual (defScope st) f cdv A outer s H E).nox (defBody st) dl)
    (h : ∀ g ds n Q, S g ds n Q → dl g (startR N.length ds) n { nx := fun _ n => Q .none n, rt := Q }) : FnOk P w K mg base CX0 (k + 1) f fd ps (spOf K S) := by
  refine F.ok sc (fun vs H Q E h => ?_) (fun cdv A outer s H vs Q E hr hsp => ?_)
  · obtain ⟨g, Hs, ds, n, Q', h1, h2, h3, h4, h5⟩ := h
    rw [← h3.length]
    exact len g ds n Q' h4
  · obtain ⟨g, Hs, ds, n, Q', h1, h2, h3, h4, h5⟩ := hsp
    refine ⟨_, (hb cdv A outer s H E hr).ps, ?_⟩
    refine (hb cdv A outer s H E hr).sn g H Hs _ n _ H _ { nx := fun _ n => Q' .none n, rt := Q' } ⟨Hs, start_in h1 h2 h3⟩ ⟨fun r f st H' q h => ?_, fun d f v H' Hs' p k hr h => h5 d f v H' Hs' p k hr h, fun _ _ _ _ _ h => h, fun _ _ _ _ _ h => h, fun _ _ _ _ _ _ _ _ h => h.elim⟩ (h g ds n Q' h4)
    obtain ⟨Hs', q⟩ := q
    exact h5 .none f .non H' Hs' q.stp q.dk rfl h
end
end DL
namespace DL
open PySem PySem.Spec PyProof.Rows L2
/-! a def as its callers see it -/
def Df (K : PySem.W.Frag) (mg : Str → Option Value) (x : Str) (st : Stmt) : Prop := ∃ f fd, Fun K x x st f fd ∧ mg x = some (.ref f)
def Cal (P : Program) (w : World) (K : PySem.W.Frag) (mg : Str → Option Value) (base : Heap) (k : Nat) (x : Str) (ps : List Str) (S : DSp) : Prop :=
  ∃ f fd, FnOk P w K mg base CX0 k f fd ps (spOf K S) ∧ PySem.W.keepIn K (.ref f) = true ∧ Binds K fd ps [] ∧ mg x = some (.ref f)
section
variable {X : Cx} {K : PySem.W.Frag} {W : WX}
theorem de_callC {x : Str} {ps : List Str} {k : Nat} {S : DSp} {p pos : Pos} {e : Expr} {es : List Expr} {d : DTA} (c : Cal X.prog X.w X.K X.mg X.base k x ps S) (hr : Room k X.A)
    (ha : DA X (e :: es) d) (hg : Gl X x := by rfl) (hdb : (x == ("__debug__" : Str)) = false := by decide) (hs : starEach (e :: es) X.env = (false, eval e X.env) :: starEach es X.env := by rfl)
    (hpl : (backTo pos (starEach es X.env)).any (·.1) = false := by rfl) : DE X (.Call (.Name x p) (e :: es) [] pos) (dCall S d) := by
  obtain ⟨f, fd, F, hk, hb, hm⟩ := c
  exact .mk' (pe_call F hr hg hm hk hb .nil pass0 ha.pa hdb hs hpl) (snd_call ha.sn)
/-! loops over plain data -/
theorem dLcGo_each {P : D → Prop} {g : Option Dk} {t : TgF} {e : DT} {r : Sg} (c : Nat) {Q : List D → Nat → Prop} : ∀ (ds acc : List D) (f : Nat), ds.length * c ≤ f →
    (∀ d ∈ ds, ∃ l, t d = some l ∧ ∀ (f : Nat) (Q : QD), c ≤ f → (∀ y f', P y → f ≤ f' + c → Q y f') → e g (setsR r l) f Q) →
    (∀ ys f', ys.length = ds.length → (∀ y ∈ ys, P y) → f ≤ f' + ds.length * c → Q (acc ++ ys) f') → dLcGo g t dYes e r ds acc f Q
  | [], acc, f, hf, he, hq => by
    have := hq [] f rfl (by simp) (by simp)
    rw [List.append_nil] at this
    exact this
  | d :: ds, acc, f, hf, he, hq => by
    obtain ⟨l, hl, h⟩ := he d (by simp)
    have hlen : (d :: ds).length * c = c + ds.length * c := by rw [List.length_cons, Nat.add_mul, Nat.one_mul, Nat.add_comm]
    rw [hlen] at hf
    simp only [dLcGo, hl, dYes, if_true]
    refine h f _ (by omega) fun y f' hy hf' => dLcGo_each c ds (acc ++ [y]) f' (by omega) (fun d' hd' => he d' (by simp [hd'])) fun ys f'' h1 h2 h3 => ?_
    have := hq (y :: ys) f'' (by simp [h1]) (fun z hz => by
      rcases List.mem_cons.mp hz with e | e
      · rw [e]; exact hy
      · exact h2 z e) (by rw [hlen]; omega)
    rw [List.append_assoc]
    exact this
theorem dLcGo_pure {g : Option Dk} {t : TgF} {c : DTT} {e : DT} {r : Sg} (b : D → Bool) (y : D → D) {Q : List D → Nat → Prop} : ∀ (ds acc : List D) (f : Nat),
    (∀ d ∈ ds, ∃ l, t d = some l ∧ (∀ (f : Nat) (Q : Bool → Nat → Prop), Q (b d) f → c g (setsR r l) f Q) ∧ (b d = true → ∀ (f : Nat) (Q : QD), Q (y d) f → e g (setsR r l) f Q)) →
    Q (acc ++ (ds.filter b).map y) f → dLcGo g t c e r ds acc f Q
  | [], acc, f, he, hq => by
    rw [List.filter_nil, List.map_nil, List.append_nil] at hq
    exact hq
  | d :: ds, acc, f, he, hq => by
    obtain ⟨l, hl, h1, h2⟩ := he d (by simp)
    simp only [dLcGo, hl]
    refine h1 f _ ?_
    cases hb : b d with
    | true =>
      rw [if_pos rfl]
      refine h2 hb f _ (dLcGo_pure b y ds (acc ++ [y d]) f (fun d' hd' => he d' (by simp [hd'])) ?_)
      rw [List.filter_cons, hb, if_pos rfl, List.map_cons] at hq
      rw [List.append_assoc]
      exact hq
    | false =>
      rw [if_neg Bool.false_ne_true]
      refine dLcGo_pure b y ds acc f (fun d' hd' => he d' (by simp [hd'])) ?_
      rw [List.filter_cons, hb, if_neg Bool.false_ne_true] at hq
      exact hq
theorem dFor_inv {g : Option Dk} {t : TgF} {body : DTS} {E : DEnds} (I : List D → Sg → Nat → Prop) : ∀ (ds : List D) (r : Sg) (f : Nat),
    (∀ d rest r f (N : Sg → Nat → Prop), I (d :: rest) r f → (∀ r' f', I rest r' f' → N r' f') → ∃ l, t d = some l ∧ body g (setsR r l) f { E with nx := N, ct := N, bk := E.nx }) →
    (∀ r f, I [] r f → E.nx r f) → I ds r f → dForGo g t body E ds r f
  | [], r, f, _, h0, h => h0 r f h
  | d :: ds, r, f, hs, h0, h => by
    obtain ⟨l, hl, hb⟩ := hs d ds r f (fun r' f' => dForGo g t body E ds r' f') h (fun r' f' h' => dFor_inv I ds r' f' hs h0 h')
    simp only [dForGo, hl]
    exact hb
end
/-! the law's own def -/
def spLaw (K : PySem.W.Frag) : Sp := fun vs H Q _ => ∃ (a : Addr) (ns : List Int), vs = [.ref a] ∧ SqL K H a (ns.map V.int) ∧ ns.length ≤ 63 ∧ ∀ H', Q (.bl true) H'
def spDeck (K : PySem.W.Frag) : Sp := fun vs H Q _ => ∃ (a : Addr) (ns : List Int), vs = [.ref a] ∧ SqL K H a (ns.map V.int) ∧ ns.length ≤ 63 ∧
  ∀ (H' : Hp) (k : Dk), Same H H' → H k.a = none → H k.b = none → H k.c = none → DkAt k H' 1000000000000 → Q (.ref k.a) H'
def startLaw (n : Nat) (k : Dk) : Sg := .no :: .sh (.any (.ref k.a)) :: List.replicate (n - 2) .no
end DL
namespace DL
open PySem PySem.Spec PyProof.Rows L2
/-! texts as lists of codes; names between dots -/
abbrev cd (s : Str) : List Nat := TL.tl s
def sp : List Nat → List (List Nat)
  | [] => [[]]
  | c :: r => if c = 46 then [] :: sp r else match sp r with
    | [] => [[c]]
    | h :: t => (c :: h) :: t
theorem sp_ne : ∀ l : List Nat, sp l ≠ []
  | [] => by simp [sp]
  | c :: r => by
    unfold sp
    split
    · simp
    · split <;> simp
theorem spl_sp : ∀ (l acc : List Nat), TL.spl [46] 0 acc l = match sp l with
    | [] => [acc]
    | h :: t => (acc ++ h) :: t
  | [], acc => by rw [TL.spl_nil]; simp [sp]
  | c :: r, acc => by
    by_cases h : c = 46
    · subst h
      have hp : TL.pre [46] (46 :: r) = true := TL.pre_self [46] r
      rw [TL.spl_hit hp]
      have := spl_sp r []
      unfold sp
      rw [if_pos rfl]
      simp only [List.length_singleton, Nat.sub_self, List.append_nil]
      rw [this]
      cases e : sp r with
      | nil => exact absurd e (sp_ne r)
      | cons h t => simp
    · rw [TL.spl_miss (TL.pre_of_head [] r h), spl_sp r (acc ++ [c])]
      rw [sp, if_neg h]
      cases e : sp r with
      | nil => exact absurd e (sp_ne r)
      | cons h t => simp
theorem split_cd (x : Str) : (Txt.split x ".").map cd = sp (cd x) := by
  have := TL.split_spl x "." (by decide +kernel) (TL.kind_ok (by decide +kernel))
  rw [show TL.tl (Str.ofString ".") = [46] from by decide +kernel, spl_sp] at this
  rw [this]
  cases e : sp (cd x) with
  | nil => exact absurd e (sp_ne _)
  | cons h t => rfl
def jn : List (List Nat) → List Nat
  | [] => []
  | [a] => a
  | a :: b :: r => a ++ 46 :: jn (b :: r)
theorem joinL_jn : ∀ l : List (List Nat), TL.joinL [46] l = jn l
  | [] => rfl
  | [a] => rfl
  | a :: b :: r => by
    have := joinL_jn (b :: r)
    show a ++ ([46] ++ TL.joinL [46] (b :: r)) = a ++ 46 :: jn (b :: r)
    rw [this]
    rfl
theorem jn_sp : ∀ l : List Nat, jn (sp l) = l
  | [] => rfl
  | c :: r => by
    have ih := jn_sp r
    unfold sp
    split
    · next h =>
      subst h
      cases e : sp r with
      | nil => exact absurd e (sp_ne r)
      | cons h t =>
        rw [e] at ih
        show [] ++ 46 :: jn (h :: t) = 46 :: r
        rw [ih]
        rfl
    · cases e : sp r with
      | nil => exact absurd e (sp_ne r)
      | cons h t =>
        rw [e] at ih
        cases t with
        | nil => show c :: h = c :: r; rw [← ih]; rfl
        | cons b t => show (c :: h) ++ 46 :: jn (b :: t) = c :: r; rw [← ih]; rfl
theorem sp_one : ∀ {a : List Nat}, 46 ∉ a → sp a = [a]
  | [], _ => rfl
  | c :: r, h => by
    have hc : c ≠ 46 := fun e => h (by simp [e])
    have hr : 46 ∉ r := fun e => h (by simp [e])
    unfold sp
    rw [if_neg hc, sp_one hr]
theorem sp_app : ∀ (a r : List Nat), sp (a ++ 46 :: r) = sp a ++ sp r
  | [], r => by
    show sp (46 :: r) = [[]] ++ sp r
    rw [show sp (46 :: r) = if (46 : Nat) = 46 then [] :: sp r else _ from rfl, if_pos rfl]
    rfl
  | c :: a, r => by
    have ih := sp_app a r
    show sp (c :: (a ++ 46 :: r)) = _
    rw [sp, sp]
    by_cases h : c = 46
    · rw [if_pos h, if_pos h, ih]; rfl
    · rw [if_neg h, if_neg h, ih]
      cases e : sp a with
      | nil => exact absurd e (sp_ne a)
      | cons hd t => rfl
theorem jn_app : ∀ (a b : List (List Nat)), a ≠ [] → b ≠ [] → jn (a ++ b) = jn a ++ 46 :: jn b
  | [], _, h, _ => absurd rfl h
  | [x], [], _, h => absurd rfl h
  | [x], b :: r, _, _ => rfl
  | x :: y :: a, b, _, hb => by
    have := jn_app (y :: a) b (by simp) hb
    show x ++ 46 :: jn ((y :: a) ++ b) = (x ++ 46 :: jn (y :: a)) ++ 46 :: jn b
    rw [this]
    simp
theorem sp_jn : ∀ {l : List (List Nat)}, l ≠ [] → (∀ n ∈ l, 46 ∉ n) → sp (jn l) = l
  | [], h, _ => absurd rfl h
  | [a], _, h => sp_one (h a (by simp))
  | a :: b :: r, _, h => by
    show sp (a ++ 46 :: jn (b :: r)) = _
    rw [sp_app, sp_one (h a (by simp)), sp_jn (by simp) fun n hn => h n (by simp [hn])]
    rfl
theorem sp_inj {a b : List Nat} (h : sp a = sp b) : a = b := by rw [← jn_sp a, h, jn_sp]
/-- covering, by codes -/
theorem cov_iff (p o : List Nat) : (sp o).take (sp p).length = sp p ↔ o = p ∨ (p ++ [46]).isPrefixOf o = true := by
  constructor
  · intro h
    have e : sp o = sp p ++ (sp o).drop (sp p).length := by rw [← h, List.length_take]; rw [show min (sp p).length (sp o).length = (sp p).length from by have := congrArg List.length h; rw [List.length_take] at this; exact this]; rw [List.take_append_drop]
    by_cases hr : (sp o).drop (sp p).length = []
    · rw [hr, List.append_nil] at e
      exact .inl (sp_inj e)
    · right
      have := congrArg jn e
      rw [jn_sp, jn_app _ _ (sp_ne p) hr, jn_sp] at this
      rw [this, List.isPrefixOf_iff_prefix]
      exact ⟨jn ((sp o).drop (sp p).length), by simp⟩
  · rintro (h | h)
    · rw [h, List.take_length]
    · rw [List.isPrefixOf_iff_prefix] at h
      obtain ⟨r, rfl⟩ := h
      rw [List.append_assoc]
      show List.take _ (sp (p ++ 46 :: r)) = _
      rw [sp_app, List.take_left']
      rfl
theorem starts_cd (x y : Str) : Txt.startswith x y = (cd y).isPrefixOf (cd x) := by
  have hx : x.length = (cd x).length := TL.len_tl x
  have hy : y.length = (cd y).length := TL.len_tl y
  unfold Txt.startswith Builtin.Str.subAt
  rw [Bool.eq_iff_iff, Bool.and_eq_true, decide_eq_true_iff, List.isPrefixOf_iff_prefix, beq_iff_eq]
  constructor
  · rintro ⟨_, h⟩
    have e := congrArg Array.toList h
    rw [Array.toList_extract] at e
    simp only [Nat.zero_add, List.extract_eq_drop_take, List.drop_zero, Nat.sub_zero] at e
    exact ⟨(cd x).drop y.length, by show y.cps.toList ++ _ = _; rw [← e]; exact List.take_append_drop _ _⟩
  · rintro ⟨r, h⟩
    have hl := congrArg List.length h
    rw [List.length_append] at hl
    refine ⟨by omega, ?_⟩
    apply Array.toList_inj.mp
    rw [Array.toList_extract]
    simp only [Nat.zero_add, List.extract_eq_drop_take, List.drop_zero, Nat.sub_zero]
    show List.take y.length (cd x) = cd y
    rw [← h, hy, List.take_left']
    rfl
/-- path covers other -/
def cov (p o : Str) : Bool := decide (o = p) || Txt.startswith o (p ++ ".")
theorem cov_take (p o : Str) : cov p o = decide ((Txt.split o ".").take (Txt.split p ".").length = Txt.split p ".") := by
  have e1 := split_cd p
  have e2 := split_cd o
  have hl : (Txt.split p ".").length = (sp (cd p)).length := by rw [← e1, List.length_map]
  unfold cov
  rw [Bool.eq_iff_iff, Bool.or_eq_true, decide_eq_true_iff, decide_eq_true_iff, starts_cd, show cd (p ++ ".") = cd p ++ cd "." from TL.tl_append p ".", show cd (Str.ofString ".") = [46] from by decide +kernel]
  constructor
  · intro h
    have := (cov_iff (cd p) (cd o)).mpr (h.imp (fun e => by rw [e]) id)
    apply TL.map_tl_inj
    rw [List.map_take, hl]
    show List.take _ ((Txt.split o ".").map cd) = (Txt.split p ".").map cd
    rw [e1, e2]
    exact this
  · intro h
    have := congrArg (List.map cd) h
    rw [List.map_take, hl, e1, e2] at this
    exact ((cov_iff (cd p) (cd o)).mp this).imp (fun e => TL.ext_tl e) id
/-! plain texts -/
def asc (s : Str) : Prop := ∀ c ∈ cd s, c < 128
theorem asc_ok {s : Str} (h : asc s) : PyData.strOk s = true := by
  unfold PyData.strOk
  rw [Array.all_eq_true_iff_forall_mem]
  intro c hc
  have := h c (by simpa [cd, TL.tl] using hc)
  exact decide_eq_true (by omega)
theorem pyA_strs : ∀ l : List Str, pyA (l.map D.str) = l.map PyData.str
  | [] => rfl
  | x :: l => by show PyData.str x :: pyA (l.map D.str) = _; rw [pyA_strs l]; rfl
theorem lay_strs : ∀ {l : List Str}, (∀ s ∈ l, asc s) → PyData.canLayAll0 (l.map PyData.str) = true
  | [], _ => rfl
  | x :: l, h => Bool.and_eq_true_iff.mpr ⟨asc_ok (h x (by simp)), lay_strs fun s hs => h s (by simp [hs])⟩
theorem depth_strs : ∀ l : List Str, PyData.depthAll (l.map PyData.str) = 0
  | [] => rfl
  | x :: l => by show max 0 (PyData.depthAll (l.map PyData.str)) = 0; rw [depth_strs l]; rfl
theorem eqvAll_strs : ∀ l m : List Str, PyData.eqvAll (l.map PyData.str) (m.map PyData.str) = decide (l = m)
  | [], [] => rfl
  | [], _ :: _ => rfl
  | _ :: _, [] => rfl
  | x :: l, y :: m => by
    show ((x == y) && PyData.eqvAll (l.map PyData.str) (m.map PyData.str)) = _
    rw [eqvAll_strs l m, Bool.eq_iff_iff]
    simp
theorem shaped_strs {l : List Str} (h : ∀ s ∈ l, asc s) : SeqAt.shaped (D.lst (l.map D.str)).py = true := by
  show (PyData.canLayAll0 (pyA (l.map D.str)) && decide (PyData.depthAll (pyA (l.map D.str)) + 1 ≤ 64)) = true
  rw [pyA_strs, lay_strs h, depth_strs]
  rfl
theorem shaped_strsT {l : List Str} (h : ∀ s ∈ l, asc s) : SeqAt.shaped (D.tup (l.map D.str)).py = true := shaped_strs h
theorem oEq_lst {l m : List Str} {neg : Bool} {Q : D → Prop} (hl : ∀ s ∈ l, asc s) (hm : ∀ s ∈ m, asc s) (h : Q (.bool (xb neg (decide (l = m))))) : oEq neg (.lst (l.map D.str)) (.lst (m.map D.str)) Q := by
  refine oEq_data (shaped_strs hl) (shaped_strs hm) ?_
  show Q (.bool (xb neg (PyData.eqvAll (pyA (l.map D.str)) (pyA (m.map D.str)))))
  rw [pyA_strs, pyA_strs, eqvAll_strs]
  exact h
theorem oEq_tup {l m : List Str} {neg : Bool} {Q : D → Prop} (hl : ∀ s ∈ l, asc s) (hm : ∀ s ∈ m, asc s) (h : Q (.bool (xb neg (decide (l = m))))) : oEq neg (.tup (l.map D.str)) (.tup (m.map D.str)) Q := by
  refine oEq_data (shaped_strsT hl) (shaped_strsT hm) ?_
  show Q (.bool (xb neg (PyData.eqvAll (pyA (l.map D.str)) (pyA (m.map D.str)))))
  rw [pyA_strs, pyA_strs, eqvAll_strs]
  exact h
theorem cutD_take (xs : List D) (n : Nat) : cutD xs none (some (n : Int)) = xs.take n := by
  unfold cutD
  rw [HT.sIx_none, HT.sIx_nat]
  simp only [List.drop_zero, Nat.sub_zero]
  rw [← List.take_eq_take_min]
section
variable {K : PySem.W.Frag}
theorem shaped_ints (l : List Int) : SeqAt.shaped (.list (l.map PyData.int)) = true := by
  have h1 : PyData.canLayAll0 (l.map PyData.int) = true := by
    induction l with
    | nil => rfl
    | cons x l ih => exact Bool.and_eq_true_iff.mpr ⟨rfl, ih⟩
  have h2 : PyData.depthAll (l.map PyData.int) = 0 := by
    clear h1
    induction l with
    | nil => rfl
    | cons x l ih =>
      show max 0 (PyData.depthAll (l.map PyData.int)) = 0
      rw [ih]
      rfl
  unfold SeqAt.shaped
  show (PyData.canLayAll0 (l.map PyData.int) && decide (PyData.depthAll (l.map PyData.int) + 1 ≤ 64)) = true
  rw [h1, h2]
  rfl
theorem dp_ints {H : Hp} {a : Addr} {l : List Int} (h : H a = some (.lst (l.map V.int))) : Dp K H (.ref a) (.list (l.map PyData.int)) := by
  refine .lst (SqL.of h) ?_
  clear h
  induction l with
  | nil => exact .nil
  | cons x l ih => exact .cons (.int x) ih
theorem lo64 {x : Int} (h : 0 ≤ x) : -(2 ^ 64) < x := by omega
theorem hi64 {x : Int} (h : x < 2147483647) : x < 2 ^ 64 := by omega
theorem ix0 (n : Nat) : ixN (n + 1) 0 = some 0 := by
  unfold ixN
  rw [if_pos (by decide), if_pos (by omega)]
  rfl
theorem atI0 {α : Type} {x : α} {l : List α} : atI (x :: l) 0 = some x := atI_nat (j := 0) rfl
theorem same_upd {H : Hp} {p : Addr} {o : HO} (h : H p = none) : Same H (upd H p o) := fun b x e => by
  rw [upd_ne (ne_of_none e h)]
  exact e
end
end DL
namespace DL
open PySem PySem.Spec PyProof.Rows L2
/-! names and paths -/
def isName (s : Str) : Prop := 1 ≤ s.length ∧ s.length ≤ 8 ∧ ∀ c ∈ cd s, 97 ≤ c ∧ c ≤ 122
def PathN (m : Nat) (s : Str) : Prop := ∃ ns : List Str, 1 ≤ ns.length ∧ ns.length ≤ m ∧ (∀ n ∈ ns, isName n) ∧ s = Txt.join "." ns
theorem cd_join (ns : List Str) : cd (Txt.join "." ns) = jn (ns.map cd) := by
  rw [TL.join_eq]
  show TL.tl (Str.join "." ns) = _
  rw [TL.tl_join, show TL.tl (Str.ofString ".") = [46] from by decide +kernel, joinL_jn]
theorem jn_len : ∀ {l : List (List Nat)}, (∀ n ∈ l, n.length ≤ 8) → (jn l).length ≤ 9 * l.length
  | [], _ => Nat.zero_le _
  | [a], h => by have := h a (by simp); simp only [jn, List.length_singleton]; omega
  | a :: b :: r, h => by
    have ih := jn_len (l := b :: r) fun n hn => h n (by simp [hn])
    have := h a (by simp)
    simp only [jn, List.length_append, List.length_cons] at ih ⊢
    omega
theorem jn_mem {c : Nat} : ∀ {l : List (List Nat)}, c ∈ jn l → c = 46 ∨ ∃ n ∈ l, c ∈ n
  | [], h => by simp [jn] at h
  | [a], h => .inr ⟨a, by simp, h⟩
  | a :: b :: r, h => by
    have h : c ∈ a ++ 46 :: jn (b :: r) := h
    rcases List.mem_append.mp h with h | h
    · exact .inr ⟨a, by simp, h⟩
    · rcases List.mem_cons.mp h with h | h
      · exact .inl h
      · rcases jn_mem (l := b :: r) h with h | ⟨n, h1, h2⟩
        · exact .inl h
        · exact .inr ⟨n, by simp [h1], h2⟩
theorem isName.asc {s : Str} (h : isName s) : asc s := fun c hc => by have := h.2.2 c hc; omega
theorem isName.cdl {s : Str} (h : isName s) : (cd s).length ≤ 8 := by have := h.2.1; rw [TL.len_tl] at this; exact this
theorem PathN.mono {m n : Nat} {s : Str} (h : PathN m s) (e : m ≤ n) : PathN n s := by
  obtain ⟨ns, h1, h2, h3, h4⟩ := h
  exact ⟨ns, h1, by omega, h3, h4⟩
theorem PathN.len {m : Nat} {s : Str} (h : PathN m s) : s.length ≤ 9 * m := by
  obtain ⟨ns, h1, h2, h3, rfl⟩ := h
  have : (cd (Txt.join "." ns)).length ≤ 9 * (ns.map cd).length := by
    rw [cd_join]
    exact jn_len fun n hn => by
      obtain ⟨s, hs, rfl⟩ := List.mem_map.mp hn
      exact (h3 s hs).cdl
  rw [List.length_map] at this
  rw [TL.len_tl]
  show (cd (Txt.join "." ns)).length ≤ 9 * m
  omega
theorem PathN.asc {m : Nat} {s : Str} (h : PathN m s) : asc s := by
  obtain ⟨ns, h1, h2, h3, rfl⟩ := h
  intro c hc
  rw [cd_join] at hc
  rcases jn_mem hc with e | ⟨n, hn, e⟩
  · omega
  · obtain ⟨s, hs, rfl⟩ := List.mem_map.mp hn
    exact (h3 s hs).asc c e
theorem join_names (ns : List Str) (h : ∀ n ∈ ns, n.length ≤ 1000) (hl : ns.length ≤ 1000) (a : Str) (ha : a.length ≤ 8) : (ns.map (·.length)).sum + ns.length * a.length ≤ 16777216 := by
  have : ∀ ns : List Str, (∀ n ∈ ns, n.length ≤ 1000) → (ns.map (·.length)).sum ≤ 1000 * ns.length := by
    intro ns
    induction ns with
    | nil => intro _; exact Nat.le_refl _
    | cons x l ih =>
      intro h
      have h1 := h x (by simp)
      have h2 := ih fun n hn => h n (by simp [hn])
      simp only [List.map_cons, List.sum_cons, List.length_cons]
      omega
  have h1 := this ns h
  have h2 : ns.length * a.length ≤ ns.length * 8 := Nat.mul_le_mul_left _ ha
  omega
theorem atI_mem {α : Type} {xs : List α} {r : Int} (h0 : 0 ≤ r) (h1 : r < xs.length) : ∃ d, atI xs r = some d ∧ d ∈ xs := by
  have hl : r.toNat < xs.length := by omega
  have := atI_nat (xs := xs) (j := r.toNat) (v := xs[r.toNat]) (List.getElem?_eq_getElem hl)
  rw [Int.toNat_of_nonneg h0] at this
  exact ⟨_, this, List.getElem_mem hl⟩
theorem join_nil_cd (ns : List Str) : cd (Txt.join "" ns) = (ns.map cd).flatten := by
  rw [TL.join_eq]
  show TL.tl (Str.join "" ns) = _
  rw [TL.tl_join, show TL.tl (Str.ofString "") = [] from by decide +kernel]
  have : ∀ l : List (List Nat), TL.joinL [] l = l.flatten := by
    intro l
    induction l with
    | nil => rfl
    | cons a l ih =>
      cases l with
      | nil => simp [TL.joinL]
      | cons b l => show a ++ ([] ++ TL.joinL [] (b :: l)) = _; rw [ih]; rfl
  exact this _
theorem intsD_len (lo : Int) (n : Nat) : (intsD lo n).length = n := by unfold intsD; simp
end DL
namespace DL
open PySem PySem.Spec PyProof.Rows L2
section
variable {X : Cx} {K : PySem.W.Frag}
/-! zip of two lists, of two tuples -/
theorem pair_stp {H Hs : Hp} {T : Addr} {x y : V} {dx dy : D} (s : Same Hs H) (hT : H T = none) (h1 : Rp K Hs dx x) (h2 : Rp K Hs dy y) : ∃ Hs', Stp none H Hs (upd H T (.tup [x, y])) Hs' ∧ Rp K Hs' (.tup [dx, dy]) (.ref T) :=
  ⟨upd Hs T (.tup [x, y]), Stp.alloc s hT, rp_tup ⟨x, [y], rfl, h1, RpA.one h2⟩ (same_none s hT)⟩
end
def D.isTup : D → Bool
  | .tup _ => true
  | _ => false
def D.isSt : D → Bool
  | .str _ => true
  | _ => false
/-! data that are told apart sign by sign -/
mutual
/-- no objects within; dicts as they are -/
def D.tyd : D → Bool
  | .tup xs => tydA xs
  | .lst xs => tydA xs
  | .obj _ _ _ => false
  | .exn _ _ _ => false
  | .any _ => false
  | _ => true
def tydA : List D → Bool
  | [] => true
  | x :: xs => x.tyd && tydA xs
end
mutual
def D.plain : D → Bool
  | .tup xs => decide (xs.length ≤ 100000) && plainA xs
  | .lst xs => decide (xs.length ≤ 100000) && plainA xs
  | .dct _ _ => false
  | .obj _ _ _ => false
  | .exn _ _ _ => false
  | .any _ => false
  | _ => true
def plainA : List D → Bool
  | [] => true
  | x :: xs => x.plain && plainA xs
end
mutual
def D.dep : D → Nat
  | .tup xs => depA xs + 1
  | .lst xs => depA xs + 1
  | _ => 0
def depA : List D → Nat
  | [] => 0
  | x :: xs => max x.dep (depA xs)
end
end DL
namespace DL
open PySem PySem.Spec PyProof.Rows L2
theorem split_join_names {ns : List Str} (h0 : ns ≠ []) (h : ∀ n ∈ ns, isName n) : Txt.split (Txt.join "." ns) "." = ns := by
  apply TL.map_tl_inj
  show List.map cd _ = List.map cd _
  rw [split_cd, cd_join, sp_jn (by simpa using h0)]
  intro n hn hm
  obtain ⟨s, hs, rfl⟩ := List.mem_map.mp hn
  have := (h s hs).2.2 46 hm
  omega
theorem join_snoc (ns : List Str) (n : Str) (h : ns ≠ []) : Txt.join "." ns ++ "." ++ n = Txt.join "." (ns ++ [n]) := by
  apply TL.ext_tl
  show cd _ = cd _
  rw [cd_join, List.map_append, List.map_singleton, jn_app _ _ (by simpa using h) (by simp)]
  show TL.tl _ = _
  rw [TL.tl_append, TL.tl_append, show TL.tl (Str.ofString ".") = [46] from by decide +kernel]
  show cd (Txt.join "." ns) ++ [46] ++ cd n = _
  rw [cd_join]
  simp [jn]
end DL
namespace DL
open PySem PySem.Spec PyProof.Rows L2
section
variable {X : Cx} {K : PySem.W.Frag}
/-! x in y -/
def rInT (K : PySem.W.Frag) (neg : Bool) : R2 := fun x y H Q => ∃ d ds, Dp K H x d ∧ Dp K H y (.tuple ds) ∧ SeqAt.shaped d = true ∧ SeqAt.shaped (.tuple ds) = true ∧ Q (.bl (xb neg (ds.any fun z => PyData.eqv z d))) H
theorem op_inT (hu : X.A.units + 65 < cLine) : OpR X (compareOp .In) (rInT X.K false) := by
  intro pins s st H x y v u Q I rx ry h
  obtain ⟨d, ds, hd, he, sd, se, q⟩ := h
  obtain ⟨as, r1⟩ := Dp.reads I d x v hd rx
  obtain ⟨bs, r2⟩ := Dp.reads I (.tuple ds) y u he ry
  exact SeqAt.in_tuple_reads r2 r1 (SeqAt.canLay_of_shaped se) (SeqAt.canLay_of_shaped sd) (room_in_shaped sd hu) ⟨.bl _, H, I, rfl, q⟩
theorem op_notInT (hu : X.A.units + 65 < cLine) : OpR X (compareOp .NotIn) (rInT X.K true) := by
  intro pins s st H x y v u Q I rx ry h
  obtain ⟨d, ds, hd, he, sd, se, q⟩ := h
  obtain ⟨as, r1⟩ := Dp.reads I d x v hd rx
  obtain ⟨bs, r2⟩ := Dp.reads I (.tuple ds) y u he ry
  exact SeqAt.notIn_tuple_reads r2 r1 (SeqAt.canLay_of_shaped se) (SeqAt.canLay_of_shaped sd) (room_in_shaped sd hu) ⟨.bl _, H, I, rfl, q⟩
def rSign (neg : Bool) : R2 := fun x y H Q => ∃ (c : Nat) (z : Str), x = .str ⟨#[c]⟩ ∧ y = .str z ∧ Q (.bl (xb neg (decide (c ∈ z.cps.toList)))) H
def rInA (K : PySem.W.Frag) : R2 := fun x y H Q => rSign false x y H Q ∨ (rInD K x y H Q ∨ rInT K false x y H Q)
def rNotInA (K : PySem.W.Frag) : R2 := fun x y H Q => rSign true x y H Q ∨ (rNotInD K x y H Q ∨ rInT K true x y H Q)
theorem op_inA (hu : X.A.units + 65 < cLine) : OpR X (compareOp .In) (rInA X.K) := (show OpR X (compareOp .In) (rSign false) from op_in_sign).or ((op_inD hu).or (op_inT hu))
theorem op_notInA (hu : X.A.units + 65 < cLine) : OpR X (compareOp .NotIn) (rNotInA X.K) := (show OpR X (compareOp .NotIn) (rSign true) from op_notIn_sign).or ((op_notInD hu).or (op_notInT hu))
def oIn (neg : Bool) : O2 := fun x y Q => match y with
  | .str z => ∃ c : Nat, x = .str ⟨#[c]⟩ ∧ Q (.bool (xb neg (decide (c ∈ z.cps.toList))))
  | .lst ys => SeqAt.shaped x.py = true ∧ SeqAt.shaped (.list (pyA ys)) = true ∧ Q (.bool (xb neg ((pyA ys).any fun z => PyData.eqv z x.py)))
  | .tup ys => SeqAt.shaped x.py = true ∧ SeqAt.shaped (.tuple (pyA ys)) = true ∧ Q (.bool (xb neg ((pyA ys).any fun z => PyData.eqv z x.py)))
  | _ => False
theorem sr_in : SndR K (rInA K) (oIn false) := SndR.pure fun H Hs x y vx vy Q Q' s rx ry hq hd => by
  cases y <;> try exact hd.elim
  · obtain ⟨c, rfl, h⟩ := hd
    exact .inl ⟨c, _, rx, ry, hq (.bool _) _ rfl h⟩
  · next ys => exact .inr (.inr ⟨x.py, pyA ys, dp_mono s (rx.dpS hd.1), dp_mono s (Rp.dpS (d := .tup ys) ry hd.2.1), hd.1, hd.2.1, hq (.bool _) _ rfl hd.2.2⟩)
  · next ys => exact .inr (.inl ⟨x.py, pyA ys, dp_mono s (rx.dpS hd.1), dp_mono s (Rp.dpS (d := .lst ys) ry hd.2.1), hd.1, hd.2.1, hq (.bool _) _ rfl hd.2.2⟩)
theorem sr_notIn : SndR K (rNotInA K) (oIn true) := SndR.pure fun H Hs x y vx vy Q Q' s rx ry hq hd => by
  cases y <;> try exact hd.elim
  · obtain ⟨c, rfl, h⟩ := hd
    exact .inl ⟨c, _, rx, ry, hq (.bool _) _ rfl h⟩
  · next ys => exact .inr (.inr ⟨x.py, pyA ys, dp_mono s (rx.dpS hd.1), dp_mono s (Rp.dpS (d := .tup ys) ry hd.2.1), hd.1, hd.2.1, hq (.bool _) _ rfl hd.2.2⟩)
  · next ys => exact .inr (.inl ⟨x.py, pyA ys, dp_mono s (rx.dpS hd.1), dp_mono s (Rp.dpS (d := .lst ys) ry hd.2.1), hd.1, hd.2.1, hq (.bool _) _ rfl hd.2.2⟩)
theorem room65 {k : Nat} {A : Around} (r : Room k A) : A.units + 65 < cLine := by have := r.un; omega
theorem de_in {k : Nat} {a b : Expr} {pos : Pos} {da db : DT} (hr : Room k X.A) (ha : DE X a da) (hb : DE X b db) (hm : behindInMarks .In b = false := by rfl) : DE X (.Compare a [.In] [b] pos) (dOp (oIn false) da db) := de_cmp (op_inA (room65 hr)) sr_in ha hb hm
theorem dp_in {k : Nat} {a b : Expr} {pos : Pos} {da db : DT} (hr : Room k X.A) (ha : DE X a da) (hb : DE X b db) (hm : behindInMarks .In b = false := by rfl) : DP X (.Compare a [.In] [b] pos) (dTest (dOp (oIn false) da db)) := dp_cmp (op_inA (room65 hr)) sr_in ha hb hm
theorem dp_notIn {k : Nat} {a b : Expr} {pos : Pos} {da db : DT} (hr : Room k X.A) (ha : DE X a da) (hb : DE X b db) (hm : behindInMarks .NotIn b = false := by rfl) : DP X (.Compare a [.NotIn] [b] pos) (dTest (dOp (oIn true) da db)) := dp_cmp (op_notInA (room65 hr)) sr_notIn ha hb hm
/-! text * number -/
def CMulS (x : Str) (n : Int) : Prop := 0 ≤ n ∧ n ≤ 100000 ∧ x.length * n.toNat ≤ lim
theorem CMulS.ok {x : Str} {n : Int} (h : CMulS x n) : MulOk x n := by
  obtain ⟨h0, h1, h2⟩ := h
  refine ⟨?_, fun a b c => ?_, fun a b => ?_⟩
  · rw [decide_eq_false (by omega), decide_eq_false (by omega)]; rfl
  · have h3 : (x.length : Int) ≤ (2 ^ 63 - 1) / n := by
      rw [Int.le_ediv_iff_mul_le (by omega)]
      have e : (x.length : Int) * n = ((x.length * n.toNat : Nat) : Int) := by rw [Int.natCast_mul, Int.toNat_of_nonneg h0]
      rw [e]
      have : lim = 1000000 := rfl
      omega
    omega
  · unfold Builtin.Str.tooLong
    exact decide_eq_false (by have := lim_le h2; omega)
def oMulS : O2 := fun x y Q => match x, y with
  | .str x, .int n => CMulS x n ∧ Q (.str (Txt.mul x n))
  | _, _ => False
def rMulS : R2 := fun x y H Q => ∃ z n, x = .str z ∧ y = .int n ∧ MulOk z n ∧ Q (.str (Txt.mul z n)) H
theorem op_mulS : OpR X (binaryOp .Mult) rMulS := by
  intro pins s st H x y v u Q I rx ry h
  obtain ⟨z, n, rfl, rfl, hok, q⟩ := h
  obtain ⟨t, rfl⟩ := rx
  obtain ⟨t', rfl⟩ := ry
  exact PySem.SB.mul hok fun tk k => ⟨.str _, H, I.tok k, ⟨tk, rfl⟩, q⟩
theorem sr_mulS : SndR K rMulS oMulS := SndR.pure fun H Hs x y vx vy Q Q' s rx ry hq hd => by
  cases x <;> try exact hd.elim
  cases y <;> try exact hd.elim
  exact ⟨_, _, rx, ry, hd.1.ok, hq (.str _) _ rfl hd.2⟩
theorem de_mulS {a b : Expr} {pos : Pos} {da db : DT} (ha : DE X a da) (hb : DE X b db) : DE X (.BinOp a .Mult b pos) (dOp oMulS da db) := de_op op_mulS sr_mulS ha hb
/-! {} and {k: v} -/
end
end DL
namespace DL
open PySem PySem.Spec PyProof.Rows L2
/-! instances of own classes -/
structure KC (K : PySem.W.Frag) (c : Str) (C : Addr) : Prop where
  ns : PySem.W.nsIn K mainGlobals c = some (some (.ref C))
  cls : Cls K C
theorem KC.uniq {K : PySem.W.Frag} {c : Str} {C C' : Addr} (k : KC K c C) (h : PySem.W.nsIn K mainGlobals c = some (some (.ref C'))) : C' = C := by
  have := k.ns
  rw [h] at this
  cases this
  rfl
section
variable {X : Cx} {K : PySem.W.Frag} {W : WX}
theorem lookup_zip {H : Hp} {f : Str} {y : D} : ∀ {ns : List Str} {xs : List D} {vs : List V}, RpA K H xs vs → (ns.zip xs).lookup f = some y → ∃ v, (ns.zip vs).lookup f = some v ∧ Rp K H y v
  | [], _, _, _, h => by simp at h
  | _ :: _, [], _, _, h => by simp at h
  | n :: ns, x :: xs, _, ⟨v, r, h1, h2, h3⟩, h => by
    subst h1
    rw [List.zip_cons_cons, List.lookup_cons] at h ⊢
    cases e : f == n with
    | true => rw [e] at h; cases h; exact ⟨v, rfl, h2⟩
    | false => rw [e] at h; exact lookup_zip h3 h
theorem putF_new {f : Str} {v : V} : ∀ {ns : List Str} {vs : List V}, ns.length = vs.length → f ∉ ns → putF f v (ns.zip vs) = (ns ++ [f]).zip (vs ++ [v])
  | [], [], _, _ => rfl
  | n :: ns, w :: vs, hl, h => by
    have e : n ≠ f := fun e => h (by simp [e])
    show (if n = f then _ else _) = _
    rw [if_neg e]
    show (n, w) :: putF f v (ns.zip vs) = _
    rw [putF_new (by simpa using hl) fun e => h (by simp [e])]
    rfl
/-! e.f -/
def dFld (c f : Str) (dl : DT) : DT := fun g r n Q => dl g r n fun d n1 => match d with
  | .obj c' ns xs => c' = c ∧ ∃ y, (ns.zip xs).lookup f = some y ∧ Q y n1
  | _ => False
theorem snd_fld {c f : Str} {C : Addr} {t : TE} {d : DT} (k : KC K c C) (n : NoAttr K C f) (h : Snd K t d) : Snd K (tFld K t f) (dFld c f d) := fun g r fu st H Hs Q Q' A hq hd =>
  h g r fu st H Hs _ _ A (fun x f1 v H1 Hs1 s1 k1 r1 q1 => by
    cases x <;> try exact q1.elim
    obtain ⟨rfl, y, hy, q1⟩ := q1
    obtain ⟨C', a, dx, vs, h0, rfl, h2, h3, h4, h5⟩ := r1
    cases k.uniq h0
    obtain ⟨w, hw, rw'⟩ := lookup_zip h5 hy
    exact ⟨a, C, dx, _, w, rfl, s1.sub _ _ h2, k.cls, n, hw, hq y f1 w H1 Hs1 s1 k1 rw' q1⟩) hd
theorem de_fld {c f : Str} {C : Addr} {e : Expr} {pos : Pos} {d : DT} (k : KC X.K c C) (n : NoAttr X.K C f) (h : DE X e d) (hb : attributeBase e f X.env (eval e X.env) = eval e X.env := by rfl) : DE X (.Attribute e f pos) (dFld c f d) :=
  .mk' (pe_fld h.pe hb) (snd_fld k n h.sn)
/-! self.f = e under __init__ -/
def sFldO (m : Bool) (i : Nat) (c f : Str) (dl : DT) : DTS := fun g r n E => ∃ a ns xs, r[i]? = some (.oi a c ns xs) ∧ f ∉ ns ∧ ns.length < 900 ∧ evM m dl g r n fun d n' => E.nx (r.set i (.oi a c (ns ++ [f]) (xs ++ [d]))) n'
theorem snd_fldO {m : Bool} {i : Nat} {c f : Str} {C : Addr} {t : TE} {d : DT} (k : KC K c C) (n : NoAttr K C f) (h : Snd K t d) : SndS K W (sFld K (tVar i) t f) (sFldO m i c f d) := fun g H0 Hs0 r fu st H D E s e hd => by
  obtain ⟨Hs, s⟩ := s
  obtain ⟨a, ns, xs, hx, hf, hl, hd⟩ := hd
  refine snd_evM h s (fun d f' v H' Hs' s' _ hr q => ?_) hd
  obtain ⟨_, ha, n1, n0, rfl, C', dx, vs, h0, q1, q2, q3, q4, q5, q6⟩ := s'.ow i _ hx rfl
  cases k.uniq h0
  have ho : Owned r st a := ⟨i, _, hx, rfl, ha⟩
  have hne : dx ≠ a := fun z => s'.notOwnedDx q2 (z ▸ ho)
  refine ⟨.ref a, ha, a, C, dx, ns.zip vs, rfl, q1, k.cls, n, ?_, e.nx _ f' st _ ⟨Hs', ?_⟩ q⟩
  · rw [List.length_zip]; omega
  · refine s'.mutOwn (u := .oi a c (ns ++ [f]) (xs ++ [d])) hx rfl ha rfl ⟨rfl, C, dx, vs ++ [v], h0, ?_, by rw [upd_ne hne]; exact q2, q3, q4, by simp [q5], q6.append (RpA.one hr)⟩
    rw [upd_same, putF_new q5 hf]
theorem ds_fldO (m : Bool) {i : Nat} {c f x : Str} {C : Addr} {e : Expr} {px apos pos : Pos} {d : DT} (k : KC X.K c C) (n : NoAttr X.K C f) (h : DE X e d) (hN : X.N[i]? = some x := by rfl) (hv : Vis X.env.scope x := by first | exact Or.inl rfl | exact Or.inr (Or.inl rfl) | exact Or.inr (Or.inr rfl)) (hd : (x == ("__debug__" : Str)) = false := by decide)
    (hcd : (x == ("__classdict__" : Str)) = false := by decide) (hs : swapsWith e (some (.Attribute (.Name x px) f apos)) pos.line X.env = pure false := by rfl) : DS X (.Assign [.Attribute (.Name x px) f apos] e pos) (sFldO m i c f d) :=
  .mk' (ps_fld (pe_var hN hv hd hcd) h.pe hs) (snd_fldO k n h.sn)
/-! C(..) -/
/-- the instance under __init__ is shared -/
theorem SIn.shareO {g : Option Dk} {H0 Hs0 : Hp} {r : Sg} {f : Nat} {st : L2.St} {H Hs : Hp} (s : SIn K g H0 Hs0 r f st H Hs) {i : Nat} {c : Str} {ns : List Str} {xs : List D} {a : Addr} (hi : r[i]? = some (.oi a c ns xs)) :
    ∃ Hs', Stp g H0 Hs0 H Hs' ∧ DkOk g H Hs' f ∧ Rp K Hs' (.obj c ns xs) (.ref a) := by
  obtain ⟨_, ha, n1, n0, rfl, C, dx, vs, h0, q1, q2, q3, q4, q5, q6⟩ := s.ow i _ hi rfl
  have ho : Owned r st a := ⟨i, _, hi, rfl, ha⟩
  have hne : dx ≠ a := fun z => s.notOwnedDx q2 (z ▸ ho)
  have na : (upd Hs dx (.own a)) a = none := by rw [upd_ne fun z => hne z.symm]; exact n1
  refine ⟨upd (upd Hs dx (.own a)) a (.ins C dx (ns.zip vs)), (s.stp.share q4 q2 q3).share n0 q1 na, (s.dk.share (s.dkDx q4)).share (s.notDk ho), C, a, dx, vs, h0, rfl, upd_same, by rw [upd_ne hne, upd_same], q5, q6.mono fun b u e => ?_⟩
  rw [upd_ne (ne_of_none e n1), upd_ne (ne_of_none e q3)]
  exact e
/-! a def __init__ -/
def startI (n : Nat) (a : Addr) (c : Str) (ds : List D) : Sg := .oi a c [] [] :: (ds.map .sh ++ List.replicate (n - ds.length) .no)
variable {P : Program} {w : World} {mg : Str → Option Value} {base : Heap}
end
/-! methods, properties, in -/
def CalM (P : Program) (w : World) (K : PySem.W.Frag) (mg : Str → Option Value) (base : Heap) (k : Nat) (c m : Str) (ps : List Str) (S : DSp) : Prop :=
  ∃ C f fd, KC K c C ∧ Meth K C m f ∧ FnOk P w K mg base CX0 k f fd ps (spOf K S) ∧ Binds K fd ps []
def CalP (P : Program) (w : World) (K : PySem.W.Frag) (mg : Str → Option Value) (base : Heap) (k : Nat) (c m : Str) (ps : List Str) (S : DSp) : Prop :=
  ∃ C p f fd, KC K c C ∧ PropOf K C m p f ∧ FnOk P w K mg base CX0 k f fd ps (spOf K S) ∧ Binds K fd ps []
section
variable {X : Cx} {K : PySem.W.Frag} {W : WX}
def dProp (c : Str) (S : DSp) (o : DT) : DT := fun g r n Q => o g r n fun d n1 => match d with
  | .obj c' ns xs => c' = c ∧ S g [.obj c' ns xs] n1 Q
  | _ => False
theorem snd_prop {c : Str} {C : Addr} {S : DSp} {E : XK} {to : TE} {o : DT} (k : KC K c C) (ho : Snd K to o) : Snd K (tProp C (spOf K S) [] E to) (dProp c S o) := fun g ro f st H Hs Q Q' A hq hd =>
  ho g ro f st H Hs _ _ A (fun x f1 v H1 Hs1 s1 k1 r1 q1 => by
    cases x <;> try exact q1.elim
    next c' ns xs =>
    obtain ⟨rfl, q1⟩ := q1
    have r0 := r1
    obtain ⟨C', a, dx, vs, h0, rfl, h2, h3, h4, h5⟩ := r1
    cases k.uniq h0
    exact ⟨a, dx, _, rfl, s1.sub _ _ h2, g, Hs1, [.obj c' ns xs], f1, Q', s1.sub, k1, RpA.one r0, q1, fun d f' v H' Hs' s3 k3 r3 q3 => hq d f' v H' Hs' (s1.trans s3) k3 r3 q3⟩) hd
theorem de_prop {c m : Str} {k : Nat} {ps : List Str} {S : DSp} {o : Expr} {pos : Pos} {d : DT} (cp : CalP X.prog X.w X.K X.mg X.base k c m ps S) (hr : Room (k + 1) X.A) (ho : DE X o d) (hb' : attributeBase o m X.env (eval o X.env) = eval o X.env := by rfl) : DE X (.Attribute o m pos) (dProp c S d) := by
  obtain ⟨C, p, f, fd, kc, M, F, hb⟩ := cp
  exact .mk' (pe_prop ho.pe kc.cls M F hr hb .nil pass0 hb') (snd_prop kc ho.sn)
/-! x in o, by the class's own __contains__ -/
/-! isinstance with instances of own classes among the values -/
structure KTy (K : PySem.W.Frag) (C : Addr) : Prop where
  ha : PySem.W.findIn K (.ref C) "__class__" = some (some (.builtin "object.__class__"))
  hn : PySem.W.specialIn K (.builtin "object.__class__") "__get__" = some (some (.builtin "getset_descriptor.__get__"))
  htk : PySem.W.takesIn K (.builtin "object.__class__") = some true
  hm : PySem.W.mroIn K C (.type "object") = some true
end
end DL
namespace PySem
open Sem (wp)
open AutoSeq1 (wpAny_loadPart')
set_option maxHeartbeats 1000000 in
theorem meets_enumerate_newT (l : Addr) (items : Array Value) (n : Nat) (dct : Option Addr) (sl : Array (Option Value)) :
    Meets (Builtin.«enumerate.__new__» ⟨[.type "enumerate", .ref l], []⟩) (fun _ R s => s.heap.get? l = some { cls := .type "tuple", dict := dct, data := .seq items n, slots := sl } ∧
      R (.ok (.ret (.ref (s.heap.push { cls := .type "tuple_iterator", data := .fields #[.ref l, .int 0 0] }).objs.size)))
        { s with heap := (s.heap.push { cls := .type "tuple_iterator", data := .fields #[.ref l, .int 0 0] }).push { cls := .type "enumerate", data := .fields #[.none, .bool false, .ref s.heap.objs.size, rawInt 0, .none, .none] } }) :=
  .of_wp fun prog w A R s h => by
    obtain ⟨hp, g, d, tk, os⟩ := s; obtain ⟨hl, h⟩ := h
    have hsub := sub_enumerate
    have hL : Heap.IsTuple (Shared.heap ⟨hp, g, d, tk, os⟩) l items := ⟨_, hl, rfl, n, rfl⟩
    wp_walk using wpAny_loadPart' hl
    refine wpAny_stack_any fun st => wpAny_pure ?_
    split
    · rename_i c _ _ _ _ _
      cases (c == Value.type "enumerate")
      · wp_walk using wpAny_loadPart' hl, wpAny_pyIter_tuple hL
        exact ⟨_, rfl, h⟩
      · wp_walk using wpAny_loadPart' hl, wpAny_pyIter_tuple hL
        exact ⟨_, rfl, h⟩
    · wp_walk using wpAny_loadPart' hl, wpAny_pyIter_tuple hL
      exact ⟨_, rfl, h⟩
section
variable {prog : Program} {w : World} {A : Around} {E : Value → Shared → Prop} {s : Shared}
theorem call_enumerate_tuple {l : Addr} {items : Array Value} {Q : Value → Shared → Prop} (hL : s.heap.IsTuple l items)
    (h : ∀ h', IsEnum h' (s.heap.objs.size + 1) s.heap.objs.size 0 .none → h'.IsTupleIter s.heap.objs.size l 0 → h'.objs.size = s.heap.objs.size + 2 →
      (∀ b o, s.heap.get? b = some o → h'.get? b = some o) → Q (.ref (s.heap.objs.size + 1)) { s with heap := h' }) :
    wpAny (model prog w) A (call (.type "enumerate") [.ref l]) Q E s := by
  obtain ⟨⟨c, dct, dt, sl⟩, hl, hc, n, hd⟩ := hL
  replace hc : c = .type "tuple" := hc
  replace hd : dt = .seq items n := hd
  subst hc hd
  refine callType_new F.called_enumerate (by decide) (F.typeCall_enumerate_1 _) (F.newCall_enumerate_1 _) (fun obj => F.args_object_init_2 obj _) F.entry_enumerate_new
    (meets_enumerate_newT l items n dct sl) ⟨hl, ?_⟩
  have hz : (s.heap.push { cls := .type "tuple_iterator", data := .fields #[.ref l, .int 0 0] }).objs.size = s.heap.objs.size + 1 := Heap.size_push ..
  show _ ∧ _
  rw [hz]
  have he : IsEnum ((s.heap.push { cls := .type "tuple_iterator", data := .fields #[.ref l, .int 0 0] }).push
      { cls := .type "enumerate", data := .fields #[.none, .bool false, .ref s.heap.objs.size, rawInt 0, .none, .none] }) (s.heap.objs.size + 1) s.heap.objs.size 0 .none := by
    have := Heap.get?_push_size (s.heap.push { cls := .type "tuple_iterator", data := .fields #[.ref l, .int 0 0] })
      (o := { cls := .type "enumerate", data := .fields #[.none, .bool false, .ref s.heap.objs.size, rawInt 0, .none, .none] }) rfl
    rw [hz] at this; exact this
  refine ⟨⟨_, he, rfl⟩, h _ he ⟨_, Heap.get?_push_of_some _ (Heap.get?_push_size _ rfl), rfl, rfl⟩ (by rw [Heap.size_push, hz]) fun b o x => Heap.get?_push_of_some _ (Heap.get?_push_of_some _ x)⟩
theorem wpAny_pyNext_enumT_end {e it l : Addr} {i : Nat} {items : Array Value} {old : Value} {Q : Option Value → Shared → Prop} (hh : A.handled = none)
    (he : IsEnum s.heap e it i old) (hit : s.heap.IsTupleIter it l i) (hl : s.heap.IsTuple l items) (hx : items[i]? = none)
    (hQ : ∀ h', Heap.ExtBut it s.heap h' → Q none { s with heap := h' }) : wpAny (model prog w) A (pyNext (.ref e)) Q E s := by
  have hT : s.TypeIs (.ref e) "enumerate" := ⟨_, he, rfl⟩
  unfold pyNext
  refine wpAny_bind (wpAny_attempt (wpAny_callSpecial?_slot (name := Str.ofString "__next__") hT F.slot_enumerate_next
    (wpAny_call_entry F.slot_enumerate_next hT F.entry_enumerate_next ?_ (F.args_enumerate_next_1 _))))
  show wpAny _ _ (field (.ref e) 2 >>= _) _ _ _
  refine wpAny_bind (wpAny_field he rfl (x := .ref it) rfl ?_)
  refine wpAny_bind (wpAny_nextOf_tuple_end hh hit hl hx fun h' x he' hx' => ?_)
  obtain ⟨o, ho, hc⟩ := hx'
  refine wpAny_bind (wpAny_isInstance (T := "StopIteration") (b := true) ⟨o, ho, hc⟩ isSubtype_stop ?_)
  exact wpAny_pure (hQ _ he')
end
end PySem
namespace DL
open PySem PySem.Spec PyProof.Rows L2
def IteT (K : PySem.W.Frag) (a : Addr) : It :=
  ⟨fun i H => ∃ (xs : List V) (x : V), SqT K H a xs ∧ xs[i]? = some x, fun i H v H' => ∃ T x, v = .ref T ∧ H T = none ∧ H' = upd H T (.tup [.int (i : Nat), x]) ∧ ∀ xs, SqT K H a xs → xs[i]? = some x, fun i H => ∃ xs : List V, SqT K H a xs ∧ xs.length ≤ i⟩
theorem cls_ne {h : Heap} {a b : Addr} {o p : Obj} {x y : String} (h1 : h.get? a = some o) (h2 : h.get? b = some p) (c1 : o.cls = .type x) (c2 : p.cls = .type y) (n : x ≠ y) : a ≠ b := fun e => by
  subst e
  rw [h1] at h2
  cases h2
  rw [c1] at c2
  cases c2
  exact n rfl
theorem turn_enumT {P : Program} {w : World} {K : PySem.W.Frag} {elts : List Expr} {kk : Nat} {tpos : Pos} (a e it : Addr) :
    Turn P w K (.Tuple elts kk tpos) (IteT K a) [e, it] e (fun i h => (∃ old, IsEnum h e it ((i : Nat) : Int) old) ∧ h.IsTupleIter it a i ∧ e ≠ it) where
  mem := by simp
  obj := fun i h st b hb => by
    obtain ⟨⟨old, he⟩, ⟨o, ho, hc, hd⟩, _⟩ := st
    have e' : b = e ∨ b = it := by simpa using hb
    rcases e' with z | z
    · rw [z]; exact ⟨_, he, fun v q => nomatch q⟩
    · rw [z]; exact ⟨o, ho, fun v q => by rw [hd] at q; cases q⟩
  keep := fun i h h' st k => let ⟨⟨old, he⟩, hi, hne⟩ := st; ⟨⟨old, k e (by simp) _ he⟩, hi.at fun o q => k it (by simp) o q, hne⟩
  item := by
    intro X hP hw hK hc i pins s st H E I hf stt hg
    subst hP hw hK
    obtain ⟨⟨old, he⟩, hit, hne⟩ := stt
    obtain ⟨xs, x, hq, hx⟩ := hg
    obtain ⟨its, rv, p, hz⟩ := I.tuple hq
    obtain ⟨u, hu, ru⟩ := rv.get hx
    have hel : e < s.heap.objs.size := Heap.lt_size he
    have hil : it < s.heap.objs.size := by obtain ⟨_, q, _⟩ := hit; exact Heap.lt_size q
    have ht : s.heap.IsTuple a its.toArray := p
    obtain ⟨ot, hot, hct, nt, hdt⟩ := id p
    obtain ⟨oi, hoi, hci, hdi⟩ := id hit
    have n1 : a ≠ it := cls_ne hot hoi hct hci (by decide)
    have n2 : e ≠ a := cls_ne he hot rfl hct (by decide)
    have D := Draws.tuple (prog := X.prog) (w := X.w) (A := X.A.in1) (I.ok.hd hc) it a n1 its.toArray
    have hlt : i < its.toArray.size := by
      have := (List.getElem?_eq_some_iff.mp hu).1
      simpa using this
    refine wpAny_pyNext_enum_itemD D he ⟨hit, ht⟩ hlt hne (by simp [hne, n2]) fun x' h' tk hP' ho st' hT hsz hk => ?_
    have ex : x' = u := by
      have e1 : its.toArray[i]? = some u := by simpa using hu
      rw [hP'] at e1
      exact Option.some.inj e1
    subst ex
    refine ⟨_, rfl, wpAny_letOwnedTupleGo_enum (s := { s with heap := h', toks := tk + 1 }) ho fun h'' he' sb => ?_⟩
    have hT2 : h''.get? s.heap.objs.size = some { cls := .type "tuple", data := .seq #[.int i tk, x'] } := (sb.2 _ (Nat.ne_of_gt hel)).trans hT
    have new : ObjOk X.prog X.w (upd H s.heap.objs.size (.tup [.int (i : Nat), x])) h'' s.heap.objs.size (.tup [.int (i : Nat), x]) :=
      ⟨by show 2 ≤ sizeLine; decide, [.int i tk, x'], .cons ⟨_, rfl⟩ (.cons ru .nil), ⟨_, hT2, rfl, _, rfl⟩⟩
    have I1 : Inv X pins st (upd H s.heap.objs.size (.tup [.int (i : Nat), x])) { s with heap := h'', toks := tk + 1 } :=
      I.turnedNew (ch := [e, it]) (fun b ob hb q => (sb.2 b (fun z => hb (by simp [z]))).trans (hk b ob (fun z => hb (by simp [z])) (fun z => hb (by simp [z])) q)) hf (Nat.le_refl _) new
    refine ⟨.ref s.heap.objs.size, _, I1, rfl, ⟨_, x, rfl, I.hok.fresh (Nat.le_refl _), rfl, fun ys hy => by rw [I.tuple_inj hy hq]; exact hx⟩, ⟨⟨x', ?_⟩, st'.1.at fun o q => (sb.2 it (Ne.symm hne)).trans q, hne⟩, fun b hb => ?_⟩
    · have e1 : ((i + 1 : Nat) : Int) = (i : Int) + 1 := by omega
      rw [e1]; exact he'
    · have hb' : b < s.heap.objs.size := by
        have e' : b = e ∨ b = it := by simpa using hb
        rcases e' with z | z
        · rw [z]; exact hel
        · rw [z]; exact hil
      rw [upd_ne (Nat.ne_of_lt hb')]
      exact (hf b hb).1
  done := by
    intro X hP hw hK hc i pins s st H E I hf stt hg
    subst hP hw hK
    obtain ⟨⟨old, he⟩, hit, hne⟩ := stt
    obtain ⟨xs, hq, hx⟩ := hg
    obtain ⟨its, rv, p, hz⟩ := I.tuple hq
    obtain ⟨f0, f1, f2, f3, f4, f5⟩ := hf it (by simp)
    have hl := rv.length
    exact wpAny_pyNext_enumT_end (I.ok.hd hc) he hit p (by simp; omega) fun h' eb => ⟨rfl, I.turned (t' := s.toks) (fun b o hb q => eb b o hb q) f0 f1 f3 f4 f5⟩
  self := fun A i s Q E st h => let ⟨⟨_, he⟩, _⟩ := st; wpAny_pyIter_enum he h
def iEnumA (K : PySem.W.Frag) (ta : TA) : TI := fun st H R => ta st H fun vs H1 => ∃ a xs, vs = [.ref a] ∧ ((SqL K H1 a xs ∧ R (Ite K a) H1) ∨ (SqT K H1 a xs ∧ R (IteT K a) H1))
theorem pi_enumA {X : Cx} {e : Expr} {ta : TA} {p pos tpos : Pos} {elts : List Expr} {kk : Nat} (hg : Gl X "enumerate") (hm : X.mg "enumerate" = none) (ha : PA X [e] ta) (hs : starEach [e] X.env = [(false, eval e X.env)] := by rfl) :
    PI X (.Tuple elts kk tpos) (.Call (.Name "enumerate" p) [e] [] pos) (iEnumA X.K ta) := by
  refine ⟨fun pins s st H R I h => ?_⟩
  refine Call_ (ld_blt I hg hm boot_enumerate (PyProof.Rows.callWith_type1 (thn (ha.run pos pins s st H _ I h) fun us s1 ⟨vs, H1, I1, r1, q1⟩ => ?_) hs rfl))
  obtain ⟨a, xs, ex, q⟩ := q1
  subst ex
  cases r1 with
  | cons r rr =>
    cases rr
    cases r
    rcases q with ⟨hq, q⟩ | ⟨hq, q⟩
    · obtain ⟨its, rv, p', hz⟩ := I1.list hq
      refine call_enumerate_list p'.isList fun h' he hit hsz hk => wpAny_pyIter_enum he ?_
      have I2 : Inv X pins st H1 { s1 with heap := h' } := I1.kept (t' := s1.toks) hk
      refine ⟨s1.heap.objs.size + 1, [s1.heap.objs.size + 1, s1.heap.objs.size], _, _, H1, rfl, I2, turn_enum a (s1.heap.objs.size + 1) s1.heap.objs.size, ⟨⟨.none, he⟩, hit, Nat.succ_ne_self _⟩, fun b hb => ?_, q⟩
      have e' : b = s1.heap.objs.size + 1 ∨ b = s1.heap.objs.size := by simpa using hb
      have hle : s1.heap.objs.size ≤ b := by
        rcases e' with z | z
        · rw [z]; exact Nat.le_add_right _ _
        · rw [z]; exact Nat.le_refl _
      exact I1.fpOk hle (I1.hok.fresh hle)
    · obtain ⟨its, rv, p', hz⟩ := I1.tuple hq
      refine call_enumerate_tuple p' fun h' he hit hsz hk => wpAny_pyIter_enum he ?_
      have I2 : Inv X pins st H1 { s1 with heap := h' } := I1.kept (t' := s1.toks) hk
      refine ⟨s1.heap.objs.size + 1, [s1.heap.objs.size + 1, s1.heap.objs.size], _, _, H1, rfl, I2, turn_enumT a (s1.heap.objs.size + 1) s1.heap.objs.size, ⟨⟨.none, he⟩, hit, Nat.succ_ne_self _⟩, fun b hb => ?_, q⟩
      have e' : b = s1.heap.objs.size + 1 ∨ b = s1.heap.objs.size := by simpa using hb
      have hle : s1.heap.objs.size ≤ b := by
        rcases e' with z | z
        · rw [z]; exact Nat.le_add_right _ _
        · rw [z]; exact Nat.le_refl _
      exact I1.fpOk hle (I1.hok.fresh hle)
section
variable {X : Cx} {K : PySem.W.Frag}
def enumD (xs : List D) : List D := xs.mapIdx fun i x => .tup [.int i, x]
theorem enumD_get {xs : List D} {i : Nat} {d : D} (h : (enumD xs)[i]? = some d) : ∃ x, xs[i]? = some x ∧ d = .tup [.int i, x] := by
  unfold enumD at h
  rw [List.getElem?_mapIdx] at h
  cases e : xs[i]? with
  | none => rw [e] at h; cases h
  | some x => rw [e] at h; cases h; exact ⟨x, rfl, rfl⟩
theorem enumD_len (xs : List D) : (enumD xs).length = xs.length := by unfold enumD; rw [List.length_mapIdx]
def dEnum (t : DTA) : DTA := fun g r f Q => t g r f fun ds f1 => match ds with
  | [.lst xs] => Q (enumD xs) f1
  | [.tup xs] => Q (enumD xs) f1
  | _ => False
theorem walks_enumL {Hb : Hp} {a : Addr} {vs : List V} {ds : List D} (h1 : Hb a = some (.lst vs)) (h2 : RpA K Hb ds vs) : Walks K (Ite K a) Hb (enumD ds) where
  go := fun i d H Hs s1 s2 e => by
    obtain ⟨x, ex, rfl⟩ := enumD_get e
    obtain ⟨v, hv, hr⟩ := h2.get ex
    have q1 : SqL K H a vs := SqL.of (s2 _ _ (s1 _ _ h1))
    refine ⟨⟨vs, v, q1, hv⟩, ?_⟩
    rintro z H' ⟨T, x', rfl, hT, rfl, hx⟩
    have e1 := hx vs q1
    rw [hv] at e1
    cases e1
    exact pair_stp s2 hT rfl (hr.mono s1)
  stop := fun H s => ⟨vs, SqL.of (s _ _ h1), by rw [enumD_len, h2.length]; exact Nat.le_refl _⟩
theorem walks_enumT {Hb : Hp} {a : Addr} {vs : List V} {ds : List D} (h1 : TpAt K Hb a vs) (h2 : RpA K Hb ds vs) : Walks K (IteT K a) Hb (enumD ds) where
  go := fun i d H Hs s1 s2 e => by
    obtain ⟨x, ex, rfl⟩ := enumD_get e
    obtain ⟨v, hv, hr⟩ := h2.get ex
    have q1 : SqT K H a vs := (tp_sq (s1.trans s2) h1)
    refine ⟨⟨vs, v, q1, hv⟩, ?_⟩
    rintro z H' ⟨T, x', rfl, hT, rfl, hx⟩
    have e1 := hx vs q1
    rw [hv] at e1
    cases e1
    exact pair_stp s2 hT rfl (hr.mono s1)
  stop := fun H s => ⟨vs, (tp_sq s h1), by rw [enumD_len, h2.length]; exact Nat.le_refl _⟩
theorem di_enum {e : Expr} {d : DTA} {p pos tpos : Pos} {elts : List Expr} {kk : Nat} (hm : X.mg "enumerate" = none) (ha : DA X [e] d) (hg : Gl X "enumerate" := by rfl)
    (hs : starEach [e] X.env = [(false, eval e X.env)] := by rfl) : DI X (.Tuple elts kk tpos) (.Call (.Name "enumerate" p) [e] [] pos) (dEnum d) := DI.mk' (pi_enumA hg hm ha.pa hs) fun g ro f st H Hs R Q' A hq hd =>
  ha.sn g ro f st H Hs _ _ A (fun ds f1 vs H1 Hs1 s1 k1 r1 q1 => by
    split at q1
    · obtain ⟨v, r, rfl, ⟨a, us, rfl, h1, h2⟩, h3⟩ := r1
      cases h3
      exact ⟨a, us, rfl, .inl ⟨SqL.of (s1.sub _ _ h1), hq _ f1 _ H1 Hs1 s1 k1 (walks_enumL h1 h2) q1⟩⟩
    · obtain ⟨v, r, rfl, ⟨a, us, rfl, h1, h2⟩, h3⟩ := r1
      cases h3
      exact ⟨a, us, rfl, .inr ⟨(tp_sq s1.sub h1), hq _ f1 _ H1 Hs1 s1 k1 (walks_enumT h1 h2) q1⟩⟩
    · exact q1.elim) hd
end
end DL
namespace DL
open PySem PySem.Spec PyProof.Rows L2
/-! dicts that a slot owns -/
def D.key : D → Option Key
  | .int i => some (.inl i)
  | .str x => some (.inr x)
  | _ => Option.none
instance decKey (k : Key) (ks : List Key) : Decidable (k ∈ ks) := @List.instDecidableMemOfLawfulBEq Key instBEqOfDecidableEq inferInstance k ks
section
variable {X : Cx} {K : PySem.W.Frag} {W : WX}
theorem any_zip {k : Key} : ∀ {ks : List Key} {vs : List V}, ks.length = vs.length → ((ks.zip vs).any fun kv => decide (kv.1 = k)) = decide (k ∈ ks)
  | [], _, _ => by simp
  | _ :: _, [], h => by simp at h
  | a :: ks, v :: vs, h => by
    rw [List.zip_cons_cons, List.any_cons, any_zip (by simpa using h)]
    by_cases e : a = k
    · simp [e]
    · simp [e, Ne.symm e]
end
end DL
namespace DL
open PySem PySem.Spec PyProof.Rows L2
section
variable {X : Cx} {K : PySem.W.Frag}
/-! t[::-1] -/
/-! list(xs) -/
def oList : OA := fun ds Q => match ds with
  | [.lst xs] => Q (.lst xs)
  | [.tup xs] => Q (.lst xs)
  | _ => False
theorem sc_list : SndC K (fun xs H Q => ∃ p ys, xs = [.ref p] ∧ (SqL K H p ys ∨ SqT K H p ys) ∧ ∀ l, H l = none → Q (.ref l) (upd H l (.lst ys))) oList := fun H Hs ds vs Q Q' s rx hq hd => by
  unfold oList at hd
  split at hd
  · obtain ⟨v, rfl, a, vs, rfl, h1, h2⟩ := rpA1 rx
    refine ⟨a, vs, rfl, .inl (SqL.of (s _ _ h1)), fun l hl => ?_⟩
    have al : Stp none H Hs (upd H l (.lst vs)) (upd Hs l (.lst vs)) := Stp.alloc s hl
    exact hq (.lst _) _ _ _ al ⟨l, vs, rfl, upd_same, h2.mono al.ext⟩ hd
  · obtain ⟨v, rfl, a, vs, rfl, h1, h2⟩ := rpA1 rx
    refine ⟨a, vs, rfl, .inr ((tp_sq s h1)), fun l hl => ?_⟩
    have al : Stp none H Hs (upd H l (.lst vs)) (upd Hs l (.lst vs)) := Stp.alloc s hl
    exact hq (.lst _) _ _ _ al ⟨l, vs, rfl, upd_same, h2.mono al.ext⟩ hd
  · exact hd.elim
/-! isinstance(x, T), instances of one own class among the values -/
end
end DL
namespace DL
open PySem PySem.Spec PyProof.Rows L2
/-! texts: length and signs -/
theorem app_len (a b : Str) : (a ++ b).length = a.length + b.length := by rw [TL.len_tl, TL.tl_append, List.length_append, ← TL.len_tl, ← TL.len_tl]
theorem asc_app {a b : Str} (ha : asc a) (hb : asc b) : asc (a ++ b) := fun c hc => by
  have hc : c ∈ TL.tl (a ++ b) := hc
  rw [TL.tl_append] at hc
  rcases List.mem_append.mp hc with h | h
  · exact ha c h
  · exact hb c h
instance decAsc (s : Str) : Decidable (asc s) := by unfold asc; infer_instance
theorem filter_strs (ps : List Str) (p : Str → Bool) (q : D → Bool) (h : ∀ s, q (.str s) = p s) : (ps.map D.str).filter q = (ps.filter p).map D.str := by
  rw [List.filter_map]
  congr 1
  apply List.filter_congr
  intro s _
  exact h s
/-! pairs of texts -/
abbrev Us := Str × Str
theorem shaped_str {s : Str} (h : asc s) : SeqAt.shaped (.str s) = true := by
  show (PyData.strOk s && decide (0 ≤ 64)) = true
  rw [asc_ok h]
  rfl
/-! in, ==, of rows of texts and of pairs -/
theorem any_strs (l : List Str) (x : Str) : ((l.map PyData.str).any fun z => PyData.eqv z (.str x)) = decide (x ∈ l) := by
  rw [List.any_map, Bool.eq_iff_iff, List.any_eq_true, decide_eq_true_iff]
  constructor
  · rintro ⟨y, hy, e⟩
    have : (y == x) = true := e
    rw [← beq_iff_eq.mp this]
    exact hy
  · intro h
    exact ⟨x, h, (beq_self_eq_true x : (x == x) = true)⟩
theorem oIn_strs {neg : Bool} {l : List Str} {x : Str} {Q : D → Prop} (hl : ∀ s ∈ l, asc s) (hx : asc x) (h : Q (.bool (xb neg (decide (x ∈ l))))) : oIn neg (.str x) (.tup (l.map D.str)) Q := by
  refine ⟨shaped_str hx, shaped_strsT hl, ?_⟩
  rw [pyA_strs]
  show Q (.bool (xb neg ((l.map PyData.str).any fun z => PyData.eqv z (.str x))))
  rw [any_strs]
  exact h
/-! sorting them -/
end DL
namespace DL
open PySem PySem.Spec PyProof.Rows L2
/-! sets of texts: the members in the order in which they came -/
def txtOf (e : Int × Value) : Str := match e.2 with
  | .str k _ => k
  | _ => Str.empty
def TxtRow (P : Program) (w : World) (e : Int × Value) : Prop := ∃ k tk, e.2 = Value.str k tk ∧ e.1 = (PySem.strKind P w).hash k
/-- the set of the texts ks at a -/
def SetZ (P : Program) (w : World) (h : Heap) (a : Addr) (ks : List Str) : Prop :=
  ∃ o rows ep t, h.get? a = some o ∧ o.ExactSet ∧ o.data = .set rows ep t ∧ (∀ e ∈ rows.toList, TxtRow P w e) ∧ (rows.toList.map txtOf).Perm ks ∧ ks.Nodup ∧ ks.length < scanBound ∧ t.fits rows.size = true ∧ Ris t.place.toList ∧
    (w.params.followText "set-order" = true ∨ t.led = true)
section
variable {P : Program} {w : World} {A : Around} {E : Value → Shared → Prop} {s : Shared} {a : Addr} {ks : List Str}
theorem SetZ.at {h h' : Heap} (R : SetZ P w h a ks) (k : ∀ o, h.get? a = some o → h'.get? a = some o) : SetZ P w h' a ks := by
  obtain ⟨o, rows, ep, t, ho, rest⟩ := R
  exact ⟨o, rows, ep, t, k o ho, rest⟩
end
end DL
namespace DL
open PySem PySem.Spec PyProof.Rows L2
/-! the order of texts and of pairs of texts -/
theorem str_ext {a b : Str} (h : a.cps.toList = b.cps.toList) : a = b := by
  cases a; cases b; congr 1; exact Array.toList_inj.mp h
/-! len(set(e)), sorted(set(e)) of texts -/
end DL
namespace DL
open PySem PySem.Spec PyProof.Rows L2
/-! instances of own classes: isinstance, ==, len, str, operators -/
def kTys : List String := ["NoneType", "bool", "int", "str", "tuple", "list", "dict"]
structure KI (K : PySem.W.Frag) (c : Str) (C : Addr) : Prop where
  kc : KC K c C
  ty : KTy K C
  no : ∀ T ∈ kTys, PySem.W.subIn K (.type T) (.ref C) = some false
  me : ((PySem.W.clsIn K C).isSome && PySem.W.typeIn K (.ref C) == some (.type "type")) = true
  first : PySem.W.selfFirst K C = true
theorem KI.mk7 {K : PySem.W.Frag} {c : Str} {C : Addr} (kc : KC K c C) (ty : KTy K C) (h0 : PySem.W.subIn K (.type "NoneType") (.ref C) = some false) (h1 : PySem.W.subIn K (.type "bool") (.ref C) = some false) (h2 : PySem.W.subIn K (.type "int") (.ref C) = some false)
    (h3 : PySem.W.subIn K (.type "str") (.ref C) = some false) (h4 : PySem.W.subIn K (.type "tuple") (.ref C) = some false) (h5 : PySem.W.subIn K (.type "list") (.ref C) = some false) (h6 : PySem.W.subIn K (.type "dict") (.ref C) = some false)
    (h7 : PySem.W.typeIn K (.ref C) = some (.type "type")) (first : PySem.W.selfFirst K C = true) : KI K c C :=
  ⟨kc, ty, fun T hT => by
    simp only [kTys, List.mem_cons, List.not_mem_nil, or_false] at hT
    rcases hT with rfl | rfl | rfl | rfl | rfl | rfl | rfl <;> assumption, by
    obtain ⟨cd, hc, _⟩ := PySem.W.any_some kc.cls.hd
    rw [hc, h7]
    rfl, first⟩
def isC (c : Str) : D → Option Bool
  | .obj c' _ _ => if c' = c then some true else none
  | .exn _ _ _ => none
  | .any _ => none
  | _ => some false
section
variable {X : Cx} {K : PySem.W.Frag}
theorem ty_of {H : Hp} {x : D} {v : V} (h : Rp K H x v) {c : Str} (e : isC c x = some false) : ∃ T ∈ kTys, TyX K H v (.type T) := by
  cases x with
  | obj c' ns xs =>
    by_cases hcc : c' = c
    · rw [show isC c (.obj c' ns xs) = some true from if_pos hcc] at e; cases e
    · rw [show isC c (.obj c' ns xs) = none from if_neg hcc] at e; cases e
  | any w => cases e
  | exn _ _ _ => cases e
  | none => exact ⟨_, by decide, tyN_ok h rfl⟩
  | bool b => exact ⟨_, by decide, tyN_ok h rfl⟩
  | int b => exact ⟨_, by decide, tyN_ok h rfl⟩
  | str b => exact ⟨_, by decide, tyN_ok h rfl⟩
  | tup b => exact ⟨_, by decide, tyN_ok h rfl⟩
  | lst b => exact ⟨_, by decide, tyN_ok h rfl⟩
  | dct b d => exact ⟨_, by decide, tyN_ok h rfl⟩
theorem isC_obj {c : Str} {x : D} (h : isC c x = some true) : ∃ ns xs, x = .obj c ns xs := by
  cases x <;> try (cases h; done)
  next c' ns xs =>
  by_cases hcc : c' = c
  · subst hcc; exact ⟨ns, xs, rfl⟩
  · rw [show isC c (.obj c' ns xs) = none from if_neg hcc] at h; cases h
/-! isinstance(e, C) -/
def dIsC (c : Str) (d : DT) : DT := fun g r f Q => d g r f fun x f1 => ∃ b, isC c x = some b ∧ Q (.bool b) f1
theorem kit_no {c : Str} {C : Addr} (k : KI K c C) {T : String} (h : T ∈ kTys) : PySem.W.kitOne K (.type T) (.ref C) = some false := by
  unfold PySem.W.kitOne PySem.W.kitCls
  have e : (Value.type T == Value.ref C) = false := rfl
  rw [e, if_neg Bool.false_ne_true]
  show (if _ then _ else _) = _
  rw [if_pos k.me]
  exact k.no T h
theorem kit_yes {C : Addr} : PySem.W.kitOne K (.ref C) (.ref C) = some true := by
  unfold PySem.W.kitOne
  rw [if_pos (beq_self_eq_true _)]
theorem de_isC {c : Str} {C : Addr} {p p2 pos : Pos} {e : Expr} {d : DT} (k : KI X.K c C) (hC : X.mg c = some (.ref C)) (hm : X.mg "isinstance" = none) (he : DE X e d) (hgc : Gl X c := by rfl) (hg : Gl X "isinstance" := by rfl)
    (hdb : (c == ("__debug__" : Str)) = false := by decide) (hs2 : starEach [.Name c p2] X.env = (false, eval (.Name c p2) X.env) :: starEach [] X.env := by rfl) (hs : starEach [e, .Name c p2] X.env = (false, eval e X.env) :: starEach [.Name c p2] X.env := by rfl)
    (hpl : (backTo pos (starEach [.Name c p2] X.env)).any (·.1) = false := by rfl) : DE X (.Call (.Name "isinstance" p) [e, .Name c p2] [] pos) (dIsC c d) :=
  .mk' (pe_callB call_isi hg hm (by decide +kernel) (pa_cons he.pe (pa_cons (pe_glob (v := .ref C) hgc hC rfl hdb) pa_nil hs2) hs) (by decide) (by decide) hs hpl) fun g r f st H Hs Q Q' A hq hd =>
    he.sn g r f st H Hs _ _ A (fun x f1 v H1 Hs1 s1 k1 r1 ⟨b, hb, q⟩ => by
      cases b with
      | false =>
        obtain ⟨T, hT, ty⟩ := ty_of (r1.mono s1.sub) hb
        exact ⟨v, .ref C, .type T, .ref C, false, rfl, .own C, ty, kit_no k hT, hq (.bool false) f1 _ H1 Hs1 s1 k1 rfl q⟩
      | true =>
        obtain ⟨ns, xs, rfl⟩ := isC_obj hb
        obtain ⟨C', a, dx, us, h0, rfl, h2, h3, h6⟩ := r1
        cases k.kc.uniq h0
        exact ⟨.ref a, .ref C, .ref C, .ref C, true, rfl, .own C, .base (.ins (s1.sub _ _ h2) k.kc.cls k.ty.ha k.ty.hn k.ty.htk k.ty.hm), kit_yes, hq (.bool true) f1 _ H1 Hs1 s1 k1 rfl q⟩) hd
/-! a == b by the class's own __eq__ -/
def RightOk (K : PySem.W.Frag) (C : Addr) (H : Hp) (y : V) : Prop := (∃ T ∈ kTys, TyX K H y (.type T)) ∨ ∃ b dy gs, y = .ref b ∧ H b = some (.ins C dy gs)
def rEqO (K : PySem.W.Frag) (C : Addr) (sp : Sp) : R2 := fun x y H Q => ∃ a dx fs, x = .ref a ∧ H a = some (.ins C dx fs) ∧ RightOk K C H y ∧ sp [.ref a, y] H (fun v H' => ∃ b, v = .bl b ∧ Q (.bl b) H') E0
theorem op_eqO {c : Str} {C f : Addr} {k : Nat} {fd : FuncData} {ps : List Str} {sp : Sp} (ki : KI X.K c C) (M : Meth X.K C "__eq__" f) (F : FnOk X.prog X.w X.K X.mg X.base CX0 k f fd ps sp) (hr : Room k X.A) (hb : Binds X.K fd ps []) : OpR X (compareOp .Eq) (rEqO X.K C sp) := by
  intro pins s st H x y v u Q I rx ry h
  obtain ⟨a, dx, fs, rfl, ea, hy, h⟩ := h
  cases (show v = Value.ref a from rx)
  obtain ⟨mA, O, _⟩ := ins_get I.hok ea
  obtain ⟨od, J, _⟩ := O.look
  obtain ⟨m, hF⟩ := I.fr
  have run : wpAny (model X.prog X.w) X.A (call (.ref f) [.ref a, u]) (PySem.W.CmpBack (EP X pins st Q)) X.xe s := thn (run_fn (vs := [.ref a, y]) F hr hb .nil pass0 I (.cons rfl (.cons ry .nil)) h) fun w' s1 ⟨z, H1, I1, r1, b, hb', q⟩ => by
    subst hb'
    cases (show w' = Value.bool b from r1)
    exact ⟨.bl b, H1, I1, rfl, q⟩
  rcases hy with ⟨T, hT, ty⟩ | ⟨b, dy, gs, rfl, eb⟩
  · obtain ⟨Pp, kit, hp, _⟩ := kit_of I ry ty
    refine PySem.W.cmp_K (op := .Eq) (tb := .type T) hr.units0 hF I.ok.mod.kin J (kit.ty _ _ I.kIn hp) ?_ M.at_ M.fn run
    unfold PySem.W.notFirst
    rw [ki.no T hT]
    rfl
  · cases (show u = Value.ref b from ry)
    obtain ⟨mB, O', _⟩ := ins_get I.hok eb
    obtain ⟨od', J', _⟩ := O'.look
    exact PySem.W.cmp_K (op := .Eq) (tb := .ref C) hr.units0 hF I.ok.mod.kin J J'.type (by simp [PySem.W.notFirst]) M.at_ M.fn run
def oEqO (c : Str) (S : DSp) : O2 := fun x y Q => match x with
  | .obj c' ns xs => c' = c ∧ isC c y ≠ none ∧ S none [.obj c' ns xs, y] 0 (fun z _ => ∃ b, z = .bool b ∧ Q (.bool b))
  | _ => False
theorem right_ok {c : Str} {C : Addr} (k : KC K c C) {H Hs : Hp} {y : D} {v : V} (s : Same Hs H) (h : Rp K Hs y v) (e : isC c y ≠ none) : RightOk K C H v := by
  cases hc : isC c y with
  | none => exact absurd hc e
  | some b =>
    cases b with
    | false => exact .inl (ty_of (h.mono s) hc)
    | true =>
      obtain ⟨ns, xs, rfl⟩ := isC_obj hc
      obtain ⟨C', a, dx, us, h0, rfl, h2, h3, h6⟩ := h
      cases k.uniq h0
      exact .inr ⟨a, dx, _, rfl, s _ _ h2⟩
theorem sr_eqO {c : Str} {C : Addr} {S : DSp} (k : KC K c C) : SndR K (rEqO K C (spOf K S)) (oEqO c S) := fun H Hs x y vx vy Q Q' s rx ry hq hd => by
  cases x <;> try exact hd.elim
  next c' ns xs =>
  obtain ⟨rfl, hc, q⟩ := hd
  have r0 := rx
  obtain ⟨C', a, dx, vs, h0, rfl, h2, h3, h4, h5⟩ := rx
  cases k.uniq h0
  refine ⟨a, dx, _, rfl, s _ _ h2, right_ok k s ry hc, none, Hs, [.obj c' ns xs, y], 0, _, s, trivial, ⟨_, _, rfl, r0, RpA.one ry⟩, q, fun d f' v H' Hs' p k r q => ?_⟩
  obtain ⟨b, rfl, q⟩ := q
  exact ⟨b, r, hq (.bool _) (.bl _) H' Hs' p rfl q⟩
theorem de_eqO {c : Str} {C : Addr} {k : Nat} {ps : List Str} {S : DSp} {a b : Expr} {pos : Pos} {da db : DT} (ki : KI X.K c C) (cm : CalM X.prog X.w X.K X.mg X.base k c "__eq__" ps S) (hr : Room k X.A) (ha : DE X a da) (hb : DE X b db) :
    DE X (.Compare a [.Eq] [b] pos) (dOp (oEqO c S) da db) := by
  obtain ⟨C', f, fd, kc, M, F, hb'⟩ := cm
  cases ki.kc.uniq kc.ns
  exact de_cmp (op_eqO ki M F hr hb') (sr_eqO kc) ha hb (nomark _)
/-! a op b by the class's own method, both of the class -/
/-! len(o), str(o) -/
end
end DL
namespace DL
open PySem PySem.Spec PyProof.Rows L2
/-! f-strings of texts and numbers -/
section
variable {X : Cx} {K : PySem.W.Frag}
def dFmt (d : DT) : DT := fun g r f Q => d g r f fun x f1 => match x with
  | .str y => y.length ≤ lim ∧ Q (.str y) f1
  | .int i => i.natAbs ≤ 1000000 ∧ Q (.str (toString i)) f1
  | _ => False
theorem log2_small {n : Nat} (h : n ≤ 1000000) : n.log2 < 1920 := by
  by_cases e : n = 0
  · subst e; decide
  · rw [Nat.log2_lt e]
    exact Nat.lt_of_le_of_lt h (Nat.lt_of_lt_of_le (by decide : 1000000 < 2 ^ 20) (Nat.pow_le_pow_right (by decide) (by decide)))
theorem de_fmt {e : Expr} {d : DT} {pos : Pos} (he : DE X e d) : DE X (.FormattedValue e (-1) none pos) (dFmt d) := .mk' (pe_fmt he.pe) fun g r f st H Hs Q Q' A hq hd =>
  he.sn g r f st H Hs _ _ A (fun x f1 v H1 Hs1 s1 k1 r1 q1 => by
    cases x <;> try exact q1.elim
    · cases r1
      exact .inr ⟨_, rfl, log2_small q1.1, hq (.str _) f1 _ H1 Hs1 s1 k1 rfl q1.2⟩
    · cases r1
      exact .inl ⟨_, rfl, lim_le q1.1, hq (.str _) f1 _ H1 Hs1 s1 k1 rfl q1.2⟩) hd
def dJs : List DT → Str → Option Dk → Sg → Nat → (Str → Nat → Prop) → Prop
  | [], acc, _, _, f, Q => Q acc f
  | d :: ds, acc, g, r, f, Q => d g r f fun x f1 => match x with
    | .str y => acc.length + y.length ≤ lim ∧ dJs ds (acc ++ y) g r f1 Q
    | _ => False
structure DJ (X : Cx) (es : List Expr) (ds : List DT) : Prop where
  pj : PJ X es (ds.map (tOf X.K))
theorem dj_nil : DJ X [] [] := ⟨.nil⟩
theorem dj_cons {e : Expr} {es : List Expr} {d : DT} {ds : List DT} (h : DE X e d) (r : DJ X es ds) : DJ X (e :: es) (d :: ds) := ⟨.cons h.pe r.pj⟩
theorem snd_js : ∀ (ds : List DT) (acc : Str) (g : Option Dk) (r : Sg) (f : Nat) (st : L2.St) (H Hs : Hp) (Q : Str → Hp → Prop) (Q' : Str → Nat → Prop), At K g r f st H Hs →
    (∀ y f' H' Hs', Stp g H Hs H' Hs' → DkOk g H' Hs' f' → Q' y f' → Q y H') → dJs ds acc g r f Q' → tJs (ds.map (tOf K)) acc st H Q
  | [], acc, g, r, f, st, H, Hs, Q, Q', A, hq, hd => hq acc f H Hs (Stp.refl A.sub) A.dk hd
  | d :: ds, acc, g, r, f, st, H, Hs, Q, Q', A, hq, hd => ⟨g, r, f, Hs, _, A, fun x f1 v H1 Hs1 s1 k1 r1 q1 => by
      cases x <;> try exact q1.elim
      cases r1
      refine ⟨_, rfl, ?_, snd_js ds _ g r f1 st H1 Hs1 Q Q' (A.step s1 k1) (fun y f' H' Hs' s2 k2 q2 => hq y f' H' Hs' (s1.trans s2) k2 q2) q1.2⟩
      rw [app_len]
      exact lim_le q1.1, hd⟩
def dJoined (ds : List DT) : DT := fun g r f Q => dJs ds Str.empty g r f fun y f1 => Q (.str y) f1
theorem de_joined {v1 v2 : Expr} {rest : List Expr} {ds : List DT} {pos : Pos} (h : DJ X (v1 :: v2 :: rest) ds) : DE X (.JoinedStr (v1 :: v2 :: rest) pos) (dJoined ds) := .mk' (pe_joined h.pj) fun g r f st H Hs Q Q' A hq hd =>
  snd_js ds Str.empty g r f st H Hs _ _ A (fun y f' H' Hs' s k q => hq (.str y) f' (.str y) H' Hs' s k rfl q) hd
end
/-! comprehensions over typed data -/
theorem lcT {α β : Type} (em : α → D) (em' : β → D) (b : α → Bool) (y : α → β) {g : Option Dk} {t : TgF} {c : DTT} {e : DT} {r : Sg} {Q : List D → Nat → Prop} : ∀ (xs : List α) (acc : List D) (f : Nat),
    (∀ x ∈ xs, ∃ l, t (em x) = some l ∧ (∀ (f : Nat) (Q : Bool → Nat → Prop), Q (b x) f → c g (setsR r l) f Q) ∧ (b x = true → ∀ (f : Nat) (Q : QD), Q (em' (y x)) f → e g (setsR r l) f Q)) →
    Q (acc ++ ((xs.filter b).map y).map em') f → dLcGo g t c e r (xs.map em) acc f Q
  | [], acc, f, _, hq => by
    rw [List.filter_nil, List.map_nil, List.map_nil, List.append_nil] at hq
    exact hq
  | x :: xs, acc, f, he, hq => by
    obtain ⟨l, hl, h1, h2⟩ := he x (by simp)
    simp only [List.map_cons, dLcGo, hl]
    refine h1 f _ ?_
    cases hb : b x with
    | true =>
      rw [if_pos rfl]
      refine h2 hb f _ (lcT em em' b y xs (acc ++ [em' (y x)]) f (fun x' hx' => he x' (by simp [hx'])) ?_)
      rw [List.filter_cons, hb, if_pos rfl, List.map_cons, List.map_cons] at hq
      rw [List.append_assoc]
      exact hq
    | false =>
      rw [if_neg Bool.false_ne_true]
      refine lcT em em' b y xs acc f (fun x' hx' => he x' (by simp [hx'])) ?_
      rw [List.filter_cons, hb, if_neg Bool.false_ne_true] at hq
      exact hq
/-- [x for x in xs if b(x)] -/
theorem lcF {α : Type} (em : α → D) (b : α → Bool) {g : Option Dk} {t : TgF} {c : DTT} {e : DT} {r : Sg} {Q : List D → Nat → Prop} (xs : List α) (f : Nat)
    (h : ∀ x ∈ xs, ∃ l, t (em x) = some l ∧ (∀ (f : Nat) (Q : Bool → Nat → Prop), Q (b x) f → c g (setsR r l) f Q) ∧ (b x = true → ∀ (f : Nat) (Q : QD), Q (em x) f → e g (setsR r l) f Q))
    (q : Q ((xs.filter b).map em) f) : dLcGo g t c e r (xs.map em) [] f Q := by
  refine lcT em em b id xs [] f h ?_
  rw [List.map_id, List.nil_append]
  exact q
/-- [y(x) for x in xs] -/
theorem lcM {α β : Type} (em : α → D) (em' : β → D) (y : α → β) {g : Option Dk} {t : TgF} {e : DT} {r : Sg} {Q : List D → Nat → Prop} (xs : List α) (f : Nat)
    (h : ∀ x ∈ xs, ∃ l, t (em x) = some l ∧ ∀ (f : Nat) (Q : QD), Q (em' (y x)) f → e g (setsR r l) f Q)
    (q : Q ((xs.map y).map em') f) : dLcGo g t dYes e r (xs.map em) [] f Q := by
  refine lcT em em' (fun _ => true) y xs [] f (fun x hx => ?_) ?_
  · obtain ⟨l, h1, h2⟩ := h x hx
    exact ⟨l, h1, fun f Q q => q, fun _ f Q q => h2 f Q q⟩
  · rw [List.filter_eq_self.mpr (fun _ _ => rfl), List.nil_append]
    exact q
/-- a loop over numbers -/
theorem dFor_range {g : Option Dk} {t : TgF} {body : DTS} {E : DEnds} (I : Nat → Sg → Nat → Prop) (lo : Int) : ∀ (n : Nat) (r : Sg) (f : Nat),
    (∀ i r f (N : Sg → Nat → Prop), i < n → I i r f → (∀ r' f', I (i + 1) r' f' → N r' f') → ∃ l, t (.int (lo + i)) = some l ∧ body g (setsR r l) f { E with nx := N, ct := N, bk := E.nx }) →
    (∀ r f, I n r f → E.nx r f) → I 0 r f → dForGo g t body E (intsD lo n) r f := by
  intro n r f hs h0 h
  refine dFor_inv (fun rest r f => ∃ i, i ≤ n ∧ rest = (intsD lo n).drop i ∧ I i r f) _ _ _ ?_ ?_ ⟨0, Nat.zero_le _, rfl, h⟩
  · rintro d rest r f N ⟨i, hi, hr, hI⟩ hN
    have hlt : i < n := by
      by_cases e : i < n
      · exact e
      · rw [List.drop_of_length_le (by rw [intsD_len]; omega)] at hr
        cases hr
    have hd : (intsD lo n)[i]? = some (.int (lo + i)) := by
      unfold intsD
      rw [List.getElem?_map, List.getElem?_range hlt]
      rfl
    have hdr : (intsD lo n).drop i = .int (lo + i) :: (intsD lo n).drop (i + 1) := by
      obtain ⟨h1, h2⟩ := List.getElem?_eq_some_iff.mp hd
      rw [List.drop_eq_getElem_cons h1, h2]
    rw [hdr] at hr
    obtain ⟨rfl, rfl⟩ := List.cons.inj hr
    exact hs i r f N hlt hI fun r' f' h' => hN r' f' ⟨i + 1, by omega, rfl, h'⟩
  · rintro r f ⟨i, hi, hr, hI⟩
    have : i = n := by
      by_cases e : i < n
      · have hl := congrArg List.length hr
        rw [List.length_drop, intsD_len, List.length_nil] at hl
        omega
      · omega
    subst this
    exact h0 r f hI
/-- a loop over typed data, the part that is done told -/
theorem dFor_list {α : Type} (em : α → D) {g : Option Dk} {t : TgF} {body : DTS} {E : DEnds} (I : List α → List α → Sg → Nat → Prop) (xs : List α) (r : Sg) (f : Nat)
    (hs : ∀ done x rest r f (N : Sg → Nat → Prop), xs = done ++ x :: rest → I done (x :: rest) r f → (∀ r' f', I (done ++ [x]) rest r' f' → N r' f') → ∃ l, t (em x) = some l ∧ body g (setsR r l) f { E with nx := N, ct := N, bk := E.nx })
    (h0 : ∀ r f, I xs [] r f → E.nx r f) (h : I [] xs r f) : dForGo g t body E (xs.map em) r f := by
  refine dFor_inv (fun rest r f => ∃ done rest', xs = done ++ rest' ∧ rest = rest'.map em ∧ I done rest' r f) _ _ _ ?_ ?_ ⟨[], xs, rfl, rfl, h⟩
  · rintro d rest r f N ⟨done, rest', hx, hr, hI⟩ hN
    match rest', hr with
    | x :: rest', hr =>
      obtain ⟨rfl, rfl⟩ := List.cons.inj hr
      exact hs done x rest' r f N hx hI fun r' f' h' => hN r' f' ⟨done ++ [x], rest', by rw [hx]; simp, rfl, h'⟩
  · rintro r f ⟨done, rest', hx, hr, hI⟩
    obtain rfl : rest' = [] := by
      match rest', hr with
      | [], _ => rfl
    rw [List.append_nil] at hx
    subst hx
    exact h0 r f hI
/-! one of two numbers, by a draw -/
theorem L1 {n : Nat} (h : n ≤ 100000) : n ≤ lim := Nat.le_trans h (by decide)
/-! in, told piece by piece -/
theorem shpST {l : List Str} (h : ∀ s ∈ l, asc s) : SeqAt.shaped (.tuple (pyA (l.map D.str))) = true := shaped_strs h
theorem anyS (l : List Str) (x : Str) : ((pyA (l.map D.str)).any fun z => PyData.eqv z (.str x)) = decide (x ∈ l) := by rw [pyA_strs]; exact any_strs l x
theorem anyS' (l : List Str) (x : Str) : ((pyA (l.map D.str)).any fun z => PyData.eqv z (D.str x).py) = decide (x ∈ l) := anyS l x
/-! plain rows of texts and pairs -/
theorem plainA_of {α : Type} (em : α → D) (n : Nat) : ∀ l : List α, (∀ x ∈ l, (em x).plain = true ∧ (em x).dep ≤ n) → plainA (l.map em) = true ∧ depA (l.map em) ≤ n
  | [], _ => ⟨rfl, Nat.zero_le _⟩
  | x :: l, h => by
    obtain ⟨h1, h2⟩ := plainA_of em n l fun y hy => h y (by simp [hy])
    obtain ⟨h3, h4⟩ := h x (by simp)
    refine ⟨?_, ?_⟩
    · show ((em x).plain && plainA (l.map em)) = true
      rw [h1, h3]; rfl
    · exact Nat.max_le.mpr ⟨h4, h2⟩
theorem plT {α : Type} {em : α → D} {n : Nat} {l : List α} (hl : l.length ≤ 100000) (h : ∀ x ∈ l, (em x).plain = true ∧ (em x).dep ≤ n) : (D.tup (l.map em)).plain = true ∧ (D.tup (l.map em)).dep ≤ n + 1 := by
  obtain ⟨h1, h2⟩ := plainA_of em n l h
  refine ⟨?_, Nat.succ_le_succ h2⟩
  show (decide ((l.map em).length ≤ 100000) && plainA (l.map em)) = true
  rw [h1, List.length_map, decide_eq_true hl]; rfl
theorem cutD_takeS (l : List Str) (n : Nat) : cutD (l.map D.str) none (some (n : Int)) = (l.take n).map D.str := by rw [cutD_take, List.map_take]
theorem cutD_drop (xs : List D) (n : Nat) (h : n ≤ xs.length) : cutD xs (some (n : Int)) none = xs.drop n := by
  unfold cutD
  rw [show HT.sIx xs.length 0 (some (n : Int)) = min n xs.length from HT.sIx_nat xs.length 0 n, HT.sIx_none, Nat.min_eq_left h]
  rw [← List.length_drop, List.take_length]
theorem cutD_drop' (xs : List D) (n : Nat) : cutD xs (some (n : Int)) none = xs.drop n := by
  by_cases h : n ≤ xs.length
  · exact cutD_drop xs n h
  · unfold cutD
    rw [show HT.sIx xs.length 0 (some (n : Int)) = min n xs.length from HT.sIx_nat xs.length 0 n, HT.sIx_none, Nat.min_eq_right (by omega), Nat.sub_self, List.take_zero, List.drop_of_length_le (by omega)]
end DL
namespace DL
open PySem PySem.Spec PyProof.Rows L2
/-! a list taken apart -/
/-! a choice by draws -/
/-! shapes -/
def Shp (n : Nat) (d : D) : Prop := d.py.canLay0 = true ∧ d.py.depth ≤ n
theorem Shp.of {n : Nat} {d : D} (h : Shp n d) (hn : n ≤ 64) : SeqAt.shaped d.py = true := by
  unfold SeqAt.shaped
  rw [h.1, decide_eq_true (Nat.le_trans h.2 hn)]
  rfl
theorem shp_str {s : Str} (h : asc s) (n : Nat) : Shp n (.str s) := ⟨asc_ok h, Nat.zero_le _⟩
theorem shpA {n : Nat} : ∀ {xs : List D}, (∀ x ∈ xs, Shp n x) → PyData.canLayAll0 (pyA xs) = true ∧ PyData.depthAll (pyA xs) ≤ n
  | [], _ => ⟨rfl, Nat.zero_le _⟩
  | x :: xs, h => by
    obtain ⟨h1, h2⟩ := shpA fun y hy => h y (List.mem_cons_of_mem x hy)
    obtain ⟨h3, h4⟩ := h x (by simp)
    refine ⟨?_, ?_⟩
    · show (x.py.canLay0 && PyData.canLayAll0 (pyA xs)) = true
      rw [h1, h3]; rfl
    · show max x.py.depth (PyData.depthAll (pyA xs)) ≤ n
      exact Nat.max_le.mpr ⟨h4, h2⟩
theorem shp_lst {n : Nat} {xs : List D} (h : ∀ x ∈ xs, Shp n x) : Shp (n + 1) (.lst xs) := by
  obtain ⟨h1, h2⟩ := shpA h
  exact ⟨h1, Nat.succ_le_succ h2⟩
theorem shp_tup {n : Nat} {xs : List D} (h : ∀ x ∈ xs, Shp n x) : Shp (n + 1) (.tup xs) := by
  obtain ⟨h1, h2⟩ := shpA h
  exact ⟨h1, Nat.succ_le_succ h2⟩
theorem Shp.mono {n m : Nat} {d : D} (h : Shp n d) (e : n ≤ m) : Shp m d := ⟨h.1, Nat.le_trans h.2 e⟩
theorem plI {n : Nat} {xs : List D} (hl : xs.length ≤ 100000) (h : ∀ x ∈ xs, x.plain = true ∧ x.dep ≤ n) : (D.tup xs).plain = true ∧ (D.tup xs).dep ≤ n + 1 := by
  have := plT (em := fun x : D => x) (n := n) (l := xs) hl h
  rw [List.map_id'] at this
  exact this
theorem pl2 {n : Nat} {a b : D} (ha : a.plain = true ∧ a.dep ≤ n) (hb : b.plain = true ∧ b.dep ≤ n) : (D.tup [a, b]).plain = true ∧ (D.tup [a, b]).dep ≤ n + 1 := plI (show 2 ≤ 100000 by decide) fun x hx => by
  simp only [List.mem_cons, List.not_mem_nil, or_false] at hx
  rcases hx with rfl | rfl
  · exact ha
  · exact hb
end DL
namespace PySem.SeqAt
open AutoSeq1 (wpAny_loadPart')
open MeetsSeq MeetsSeq2 MeetsSeq3 SeqRoads2
theorem dlStrDict1 (b : Str) (u : Tok) (l : Addr) (es : Array DictEntry) (ep : Nat) (dd : Option Addr) (sl : Array (Option Value)) :
    Meets (Builtin.«str.__eq__» ⟨[.str b u, .ref l], []⟩) (fun _ R s => s.heap.get? l = some { cls := .type "dict", dict := dd, data := .dict es ep, slots := sl } ∧ R (.ok (.ret .notImplemented)) s) :=
  .of_wp fun prog w A R s h => by
    obtain ⟨hp, g, d, tk, os⟩ := s
    obtain ⟨hl, h⟩ := h
    wp_walk using wpAny_loadPart' hl, wpAny_load hl
    exact ⟨_, rfl, h⟩
theorem dlStrDict2 (b : Str) (u : Tok) (l : Addr) (es : Array DictEntry) (ep : Nat) (dd : Option Addr) (sl : Array (Option Value)) :
    Meets (Builtin.«dict.__eq__» ⟨[.ref l, .str b u], []⟩) (fun _ R s => s.heap.get? l = some { cls := .type "dict", dict := dd, data := .dict es ep, slots := sl } ∧ R (.ok (.ret .notImplemented)) s) :=
  .of_wp fun prog w A R s h => by
    obtain ⟨hp, g, d, tk, os⟩ := s
    obtain ⟨hl, h⟩ := h
    have f1 := F.sub_str_dict
    wp_walk using wpAny_loadPart' hl
    exact ⟨_, rfl, h⟩
theorem dlStrDict {A : Around} {s : Shared} {l : Addr} {es : Array DictEntry} {ep : Nat} {dd : Option Addr} {sl : Array (Option Value)} (b : Str) (u : Tok) (ho : s.heap.get? l = some { cls := .type "dict", dict := dd, data := .dict es ep, slots := sl }) (hu : A.units < cLine) : EqAt A s (.str b u) (.ref l) false := fun prog w E Q h => by
  unfold eqBool
  refine wpAny_holding ?_
  refine wpAny_ite_split (fun hab => absurd (eq_of_beq hab) nofun) (fun _ => ?_)
  refine wpAny_bind ?_
  refine rc_eq_decline_or (k := false) (typeIs_str s b u) ⟨_, ho, rfl⟩ (by decide) F.sub_dict_str F.slot_str_eq F.slot_dict_eq_refl ?_ ?_ ?_ (.inr hu) (wpAny_truthy_bool h)
  · exact fun _ hq => call_meets F.slot_str_eq (typeIs_str s b u) F.entry_str_eq (F.args_str_eq_2 _ _) (dlStrDict1 b u l es ep dd sl) ⟨ho, hq⟩
  · exact fun _ hq => call_meets F.slot_dict_eq_refl ⟨_, ho, rfl⟩ F.entry_dict_eq (F.args_dict_eq_2 _ _) (dlStrDict2 b u l es ep dd sl) ⟨ho, hq⟩
  · exact fun _ hq => wpAny_of_eq (rfl : isSame (.str b u) (.ref l) = pure false) hq
end PySem.SeqAt
namespace DL
open PySem PySem.Spec PyProof.Rows L2
section
variable {X : Cx} {K : PySem.W.Frag} {pins : List (Addr × Obj)} {st : L2.St} {H Hs : Hp} {s : Shared}
def strEq (a : Str) : D → Bool
  | .str c => decide (a = c)
  | _ => false
theorem str_eqAt {a : Str} {t : Tok} {y : D} {v : V} {u : Value} (I : Inv X pins st H s) (sm : Same Hs H) (hr : Rp X.K Hs y v) (rv : RelV v u) (ht : y.tyd = true) (A : Around) (hu : A.units + 1 < cLine) : SeqAt.EqAt A s (.str a t) u (strEq a y) := by
  have hu' : A.units < cLine := by omega
  cases y with
  | none => cases hr; cases (show u = Value.none from rv); exact .str_none a t
  | bool b => cases hr; cases (show u = Value.bool b from rv); exact .str_bool a t b
  | int i => cases hr; obtain ⟨t', rfl⟩ := (show ∃ t, u = Value.int i t from rv); exact .str_int a t i t'
  | str c =>
    cases hr
    obtain ⟨t', rfl⟩ := (show ∃ t, u = Value.str c t from rv)
    have := SeqAt.EqAt.str_str (A := A) (s := s) a t c t'
    rw [show (a == c) = strEq a (.str c) from Bool.beq_eq_decide_eq a c] at this
    exact this
  | tup ds =>
    obtain ⟨b, vs, rfl, h1, h2⟩ := hr
    cases (show u = Value.ref b from rv)
    obtain ⟨its, r, pl, hz⟩ := I.tuple ((tp_sq sm h1))
    exact .str_tuple a t pl hu'
  | lst ds =>
    obtain ⟨b, vs, rfl, h1, h2⟩ := hr
    cases (show u = Value.ref b from rv)
    obtain ⟨its, r, pl, hz⟩ := I.list (SqL.of (sm _ _ h1))
    exact .str_list a t pl.isList hu'
  | dct ks ds =>
    obtain ⟨b, vs, rfl, h1, h2, h3⟩ := hr
    cases (show u = Value.ref b from rv)
    obtain ⟨_, _, ws, _, o, es, ep, g1, g2, g3⟩ := (show ObjOk X.prog X.w H s.heap b (.dK (ks.zip vs)) from I.hok b _ (sm _ _ h1))
    obtain ⟨oc, od, odt, osl⟩ := o
    obtain ⟨e1, e2, e3⟩ := g2
    simp only at e1
    subst e1
    have e4 : odt = .dict es ep := g3.1
    subst e4
    exact SeqAt.dlStrDict a t g1 hu'
  | obj _ _ _ => cases ht
  | exn _ _ _ => cases ht
  | any _ => cases ht
end
/-! values with plain texts alone -/
def keyOk : Key → Bool
  | .inl _ => true
  | .inr s => decide (asc s) && decide (s.length ≤ 5000)
mutual
def D.good : D → Bool
  | .str s => decide (asc s) && decide (s.length ≤ 5000)
  | .tup xs => goodA xs
  | .lst xs => goodA xs
  | .dct ks xs => ks.all keyOk && goodA xs
  | .obj _ _ _ => false
  | .exn _ _ _ => false
  | .any _ => false
  | _ => true
def goodA : List D → Bool
  | [] => true
  | x :: xs => x.good && goodA xs
end
mutual
theorem D.good_tyd : ∀ {x : D}, x.good = true → x.tyd = true
  | .none, _ => rfl
  | .bool _, _ => rfl
  | .int _, _ => rfl
  | .str _, _ => rfl
  | .tup xs, h => goodA_tyd (xs := xs) h
  | .lst xs, h => goodA_tyd (xs := xs) h
  | .dct _ _, _ => rfl
  | .obj _ _ _, h => by cases h
  | .exn _ _ _, h => by cases h
  | .any _, h => by cases h
theorem goodA_tyd : ∀ {xs : List D}, goodA xs = true → tydA xs = true
  | [], _ => rfl
  | x :: xs, h => by
    have h' : x.good = true ∧ goodA xs = true := Bool.and_eq_true_iff.mp h
    show (x.tyd && tydA xs) = true
    rw [D.good_tyd h'.1, goodA_tyd h'.2]; rfl
end
theorem goodA_mem : ∀ {xs : List D} {x : D}, goodA xs = true → x ∈ xs → x.good = true
  | y :: ys, x, h, hx => by
    have h' : y.good = true ∧ goodA ys = true := Bool.and_eq_true_iff.mp h
    rcases List.mem_cons.mp hx with rfl | hx
    · exact h'.1
    · exact goodA_mem h'.2 hx
theorem good_strI {s : Str} (h : (D.str s).good = true) : asc s ∧ s.length ≤ 5000 := by
  have := Bool.and_eq_true_iff.mp h
  exact ⟨of_decide_eq_true this.1, of_decide_eq_true this.2⟩
/-! glued names -/
theorem join_split (s : Str) : Txt.join "." (Txt.split s ".") = s := by
  have h : cd (Txt.join "." (Txt.split s ".")) = cd s := by rw [cd_join, split_cd, jn_sp]
  exact str_ext h
theorem split_ne (s : Str) : Txt.split s "." ≠ [] := fun z => sp_ne (cd s) (by rw [← split_cd, z]; rfl)
theorem split_pos (s : Str) : 0 < (Txt.split s ".").length := List.length_pos_iff.mpr (split_ne s)
end DL
namespace DL
open PySem PySem.Spec PyProof.Rows L2
/-! reads of dicts -/
section
variable {X : Cx} {K : PySem.W.Frag} {W : WX}
theorem val_some {k : Key} {ks : List Key} {vs : List V} (h : ks.length = vs.length) : (valV (ks.zip vs) k).isSome = decide (k ∈ ks) := by
  rw [← valV_any, any_zip h]
/-! list(e), a new list -/
/-! {k: v} that a slot owns -/
/-! a comprehension over what is walked already -/
/-! what is locked stands for nothing -/
end
end DL
namespace DL
open PySem PySem.Spec PyProof.Rows L2
section
variable {X : Cx} {K : PySem.W.Frag} {W : WX}
/-! {k: v for ..} -/
/-! a dict of lists of texts in the making -/
structure DLs (H : Hp) (D : Addr) (ks : List Str) (ps : List Addr) (c : Str → List Str) (H2 : Hp) : Prop where
  same : Same H H2
  d0 : H D = none
  len : ks.length = ps.length
  dk : H2 D = some (.dK ((ks.map Sum.inr).zip (ps.map V.ref)))
  p0 : ∀ p ∈ ps, H p = none ∧ p ≠ D
  at_ : ∀ (i : Nat) (m : Str) (p : Addr), ks[i]? = some m → ps[i]? = some p → H2 p = some (.lst ((c m).map V.str))
  nd : ps.Nodup
theorem DLs.mono {H : Hp} {D : Addr} {ks : List Str} {ps : List Addr} {c : Str → List Str} {H2 H3 : Hp} (h : DLs H D ks ps c H2) (e : Same H2 H3) : DLs H D ks ps c H3 :=
  ⟨h.same.trans e, h.d0, h.len, e _ _ h.dk, h.p0, fun i m p a b => e _ _ (h.at_ i m p a b), h.nd⟩
theorem DLs.start {H : Hp} {D : Addr} {c : Str → List Str} (h : H D = none) : DLs H D [] [] c (upd H D (.dK [])) :=
  ⟨same_upd h, h, rfl, upd_same, fun p hp => by simp at hp, fun i m p a b => by simp at a, List.nodup_nil⟩
theorem key_out {ks : List Str} {vs : List V} {m : Str} (hl : ks.length = vs.length) (h : m ∉ ks) : valV ((ks.map (Sum.inr : Str → Key)).zip vs) (.inr m) = none := by
  have := val_some (k := (.inr m : Key)) (ks := ks.map Sum.inr) (vs := vs) (by rw [List.length_map]; exact hl)
  rw [decide_eq_false (fun z => by
    obtain ⟨x, hx, e⟩ := List.mem_map.mp z
    cases e
    exact h hx)] at this
  exact Option.isSome_eq_false_iff.mp this |> fun e => by simpa using e
theorem DLs.add {H : Hp} {D : Addr} {ks : List Str} {ps : List Addr} {H2 : Hp} {m : Str} {p : Addr} (h : DLs H D ks ps (fun _ => []) H2) (hp : H2 p = none) (hm : m ∉ ks) :
    DLs H D (ks ++ [m]) (ps ++ [p]) (fun _ => []) (upd (upd H2 p (.lst [])) D (.dK (putK ((ks.map Sum.inr).zip (ps.map V.ref)) (.inr m) (.ref p)))) := by
  have hpD : p ≠ D := fun z => by rw [z, h.dk] at hp; cases hp
  have hp0 : H p = none := by
    cases e : H p with
    | none => rfl
    | some o => rw [h.same _ _ e] at hp; cases hp
  have hps : ∀ q ∈ ps, q ≠ p := fun q hq z => by
    obtain ⟨i, hi, e⟩ := List.getElem_of_mem hq
    have : H2 q = some (.lst []) := h.at_ i (ks[i]'(by rw [h.len]; exact hi)) q (List.getElem?_eq_getElem _) (by rw [List.getElem?_eq_getElem hi, e])
    rw [z, hp] at this
    cases this
  refine ⟨fun b o e => ?_, h.d0, by simp [h.len], ?_, fun q hq => ?_, fun i x q a b => ?_, ?_⟩
  · rw [upd_ne (ne_of_none e h.d0), upd_ne (ne_of_none e hp0)]
    exact h.same b o e
  · rw [upd_same, putK_new _ (key_out (by rw [List.length_map]; exact h.len) hm), List.map_append, List.map_append, List.zip_append (by rw [List.length_map, List.length_map]; exact h.len)]
    rfl
  · rcases List.mem_append.mp hq with q' | q'
    · exact h.p0 q q'
    · cases List.mem_singleton.mp q'
      exact ⟨hp0, hpD⟩
  · by_cases hi : i < ps.length
    · rw [List.getElem?_append_left (by rw [h.len]; exact hi)] at a
      rw [List.getElem?_append_left hi] at b
      have hq : q ∈ ps := List.mem_of_getElem? b
      rw [upd_ne (h.p0 q hq).2, upd_ne (hps q hq)]
      exact h.at_ i x q a b
    · have hi : ps.length ≤ i := by omega
      rw [List.getElem?_append_right hi] at b
      have : i - ps.length = 0 := by
        have := (List.getElem?_eq_some_iff.mp b).1
        simp at this
        omega
      rw [this] at b
      cases b
      rw [upd_ne hpD, upd_same]
      rfl
  · rw [List.nodup_append]
    exact ⟨h.nd, by simp, fun a ha b hb => by cases List.mem_singleton.mp hb; exact hps a ha⟩
theorem DLs.app {H : Hp} {D : Addr} {ks : List Str} {ps : List Addr} {c : Str → List Str} {H2 : Hp} {m x : Str} {p : Addr} {i : Nat} (h : DLs H D ks ps c H2) (hn : ks.Nodup) (hi : ks[i]? = some m) (hp : ps[i]? = some p) :
    DLs H D ks ps (fun m' => if m' = m then c m ++ [x] else c m') (upd H2 p (.lst ((c m ++ [x]).map V.str))) := by
  have hpm : p ∈ ps := List.mem_of_getElem? hp
  obtain ⟨p0, pD⟩ := h.p0 p hpm
  refine ⟨fun b o e => ?_, h.d0, h.len, ?_, h.p0, fun j m' q a b => ?_, h.nd⟩
  · rw [upd_ne (ne_of_none e p0)]; exact h.same b o e
  · rw [upd_ne pD.symm]; exact h.dk
  · by_cases hij : j = i
    · subst hij
      rw [hi] at a
      rw [hp] at b
      cases a
      cases b
      rw [upd_same, if_pos rfl]
    · have hm : m' ≠ m := fun z => by
        subst z
        obtain ⟨hj, ej⟩ := List.getElem?_eq_some_iff.mp a
        obtain ⟨hi', ei⟩ := List.getElem?_eq_some_iff.mp hi
        exact hij ((List.getElem_inj hn).mp (ej.trans ei.symm))
      have hq : q ≠ p := fun z => by
        subst z
        obtain ⟨hj, ej⟩ := List.getElem?_eq_some_iff.mp b
        obtain ⟨hi', ei⟩ := List.getElem?_eq_some_iff.mp hp
        exact hij ((List.getElem_inj h.nd).mp (ej.trans ei.symm))
      rw [upd_ne hq, if_neg hm]
      exact h.at_ j m' q a b
open Classical in
noncomputable def shr (H2 Hs : Hp) (D : Addr) (ps : List Addr) : Hp := fun b => if b = D ∨ b ∈ ps then H2 b else Hs b
/-! while, by a number that falls -/
/-! where uses lead -/
theorem flatA_strs : ∀ l : List Str, flatA (l.map DL.D.str) = true
  | [] => rfl
  | _ :: l => flatA_strs l
end
end DL
namespace DL
open PySem PySem.Spec PyProof.Rows L2
section
variable {X : Cx} {K : PySem.W.Frag} {W : WX}
/-! list * number -/
def oMulL : O2 := fun x y Q => match x, y with
  | .lst xs, .int k => 0 ≤ k ∧ k ≤ 1000 ∧ xs.length * k.toNat ≤ lim ∧ Q (.lst (List.replicate k.toNat xs).flatten)
  | _, _ => False
theorem RpA.rep {H : Hp} {ds : List D} {vs : List V} (h : RpA K H ds vs) : ∀ n : Nat, RpA K H (List.replicate n ds).flatten (List.replicate n vs).flatten
  | 0 => rfl
  | n + 1 => by
    rw [List.replicate_succ, List.replicate_succ, List.flatten_cons, List.flatten_cons]
    exact h.append (h.rep n)
theorem sr_mulL : SndR K rRep oMulL := fun H Hs x y vx vy Q Q' s rx ry hq hd => by
  cases x <;> try exact hd.elim
  cases y <;> try exact hd.elim
  obtain ⟨h0, h1, h2, h3⟩ := hd
  obtain ⟨a, vs, rfl, q1, q2⟩ := rx
  cases ry
  refine ⟨a, _, vs, rfl, rfl, s _ _ q1, by omega, by omega, by rw [← q2.length]; exact lim_le h2, fun p hp => ?_⟩
  exact hq _ _ _ _ (Stp.alloc s hp) (rp_lst (q2.rep _) (same_none s hp)) h3
theorem de_mulL {a b : Expr} {pos : Pos} {da db : DT} (ha : DE X a da) (hb : DE X b db) : DE X (.BinOp a .Mult b pos) (dOp oMulL da db) := de_op op_rep sr_mulL ha hb
/-! what slots own is shared ahead of a statement -/
def sFrz (l : List Nat) (dl : DTS) : DTS := fun g r f E => dl g (frz r l) f E
theorem ds_frz (l : List Nat) {st : Stmt} {d : DTS} (h : DS X st d) : DS X st (sFrz l d) := .mk' h.ps fun g H0 Hs0 r f st H D E s e hd => by
  obtain ⟨Hs, s⟩ := s
  exact h.sn g H0 Hs0 _ f st H D E (s.frz l) e hd
/-! a, b = [..], [..], a cell among them: both own -/
/-! xs.append(ys.pop(e)) -/
end
end DL
namespace DL
open PySem PySem.Spec PyProof.Rows L2
section
variable {X : Cx} {K : PySem.W.Frag}
/-! x is True, x is not True, of truth values -/
def oIsB (neg : Bool) : O2 := fun x y Q => match x, y with
  | .bool a, .bool b => Q (.bool (xb neg (decide (a = b))))
  | _, _ => False
theorem sr_notB : SndR K (fun x y H Q => ∃ a b, x = .bl a ∧ y = .bl b ∧ Q (.bl (!decide (a = b))) H) (oIsB true) := SndR.pure fun H Hs x y vx vy Q Q' s rx ry hq hd => by
  unfold oIsB at hd
  split at hd
  · exact ⟨_, _, rx, ry, hq (.bool _) _ rfl (by simpa [xb] using hd)⟩
  · exact hd.elim
theorem dp_notB {a b : Expr} {pos : Pos} {da db : DT} (ha : DE X a da) (hb : DE X b db) : DP X (.Compare a [.IsNot] [b] pos) (dTest (dOp (oIsB true) da db)) := dp_cmp op_isnot_bl sr_notB ha hb (nomark _)
end
/-! the least of some texts -/
/-! writing at a key that is there -/
end DL
namespace DL
open PySem PySem.Spec PyProof.Rows L2
/-! for x in zip(a, b) of two tuples, with one name: the pair that was given out before may be there still or not -/
abbrev ZpV (h : Heap) (z ti tz : Addr) (v : Value) (b : Bool) : Prop :=
  h.get? z = some { cls := .type "zip", dict := none, data := .fields #[v, .bool b, .bool false, .ref ti, .ref tz], slots := #[] }
section
variable {prog : Program} {w : World} {A : Around} {E : Value → Shared → Prop} {s : Shared} {z ti tz i1 i2 l1 l2 T : Addr} {k1 k2 : Nat} {xs ys : Array Value} {x y v p q : Value} {b : Bool}
/-- the mark: nothing, or an address -/
def Mrk (v : Value) : Prop := v = .none ∨ ∃ T : Addr, v = rawInt T
end
section
variable {X : Cx} {K : PySem.W.Frag}
theorem atI_last (l : List Str) : atI (l.map DL.D.str) (-1) = l.getLast?.map DL.D.str := by
  unfold atI ixN
  rw [if_neg (by decide), List.length_map]
  cases h : l.length with
  | zero =>
    obtain rfl : l = [] := List.length_eq_zero_iff.mp h
    rfl
  | succ j =>
    rw [if_pos (by omega)]
    have e : ((-1 : Int) + ((j + 1 : Nat) : Int)).toNat = j := by omega
    show (l.map DL.D.str)[((-1 : Int) + ((j + 1 : Nat) : Int)).toNat]? = _
    rw [e, List.getElem?_map, List.getLast?_eq_getElem?, h]
    rfl
end
end DL
namespace DL
open PySem PySem.Spec PyProof.Rows L2
section
variable {X : Cx} {K : PySem.W.Frag}
/-! [e for x in xs if c for y in ys if d] -/
def dLc2Go (g : Option Dk) (t : TgF) (c : DTT) (i1 : DTA) (t1 : TgF) (c1 : DTT) (e : DT) (vs1 : List Nat) (r : Sg) : List D → List D → Nat → (List D → Nat → Prop) → Prop
  | [], acc, f, Q => Q acc f
  | d :: ds, acc, f, Q => match t d with
    | none => False
    | some l => c g (setsR r l) f fun b f1 => if b = true then i1 g (setsR r l) f1 fun es f2 => es.length + acc.length ≤ lim ∧ dLcGo g t1 c1 e (wipeR (setsR r l) vs1) es acc f2 fun acc' f3 => dLc2Go g t c i1 t1 c1 e vs1 r ds acc' f3 Q
      else dLc2Go g t c i1 t1 c1 e vs1 r ds acc f1 Q
def dLc2 (i : DTA) (t : TgF) (c : DTT) (i1 : DTA) (t1 : TgF) (c1 : DTT) (e : DT) (vs vs1 : List Nat) : DTA := fun g r f Q => i g r f fun ds f1 => dLc2Go g t c i1 t1 c1 e vs1 (wipeR r vs) ds [] f1 Q
theorem snd_lc2 {wi wi1 : TI} {gt gt1 : TG} {tt tt1 : TT} {te : TE} {vs vs1 is is1 : List Nat} {i i1 : DTA} {t t1 : TgF} {c c1 : DTT} {e : DT} (hi : SndI K wi i) (hg : SndG K is gt t) (hc : SndT K tt c) (hi1 : SndI K wi1 i1) (hg1 : SndG K is1 gt1 t1) (hc1 : SndT K tt1 c1) (he : Snd K te e)
    (hs : ∀ j ∈ is, j ∈ vs) (hs1 : ∀ j ∈ is1, j ∈ vs1) : SndL K (tLc2 wi gt tt wi1 gt1 tt1 te vs vs1) (dLc2 i t c i1 t1 c1 e vs vs1) := by
  intro g r f st H Hs Q Q' A hq hd
  refine hi g r f st H Hs _ _ A (fun ds f1 J H1 Hs1 s1 k1 wk q1 => ?_) hd
  intro D hD
  have hDs : Hs1 D = none := same_none s1.sub hD
  have hDk : ¬ Dk.has g D := k1.out hD
  refine ⟨fun i m H2 => m = ds.length - i ∧ i ≤ ds.length ∧ ∃ f2 Hs2 acc ws, Stp g H1 Hs1 H2 Hs2 ∧ DkOk g H2 Hs2 f2 ∧ Hs2 D = none ∧ H2 D = some (.lst ws) ∧ RpA K Hs2 acc ws ∧ dLc2Go g t c i1 t1 c1 e vs1 (wipeR r vs) (ds.drop i) acc f2 Q', ⟨ds.length, rfl, Nat.zero_le _, f1, Hs1, [], [], ?_, ?_, hDs, upd_same, rfl, q1⟩, ?_⟩
  · exact (Stp.lay s1.sub hD : Stp none H1 Hs1 (upd H1 D (.lst [])) Hs1).gen
  · exact k1.mut hDk
  rintro i m H2 ⟨rfl, hil, f2, Hs2, acc, ws, s2, k2, n2, e2, r2, q2⟩
  by_cases hlt : i < ds.length
  · have hgd : ds[i]? = some ds[i] := List.getElem?_eq_getElem hlt
    have hdr : ds.drop i = ds[i] :: ds.drop (i + 1) := List.drop_eq_getElem_cons hlt
    rw [hdr] at q2
    obtain ⟨hgo, hy⟩ := wk.go i _ H2 Hs2 s2.ext s2.sub hgd
    refine .inr ⟨hgo, fun H3 => i + 1 ≤ ds.length ∧ ∃ f2 Hs2 acc ws, Stp g H1 Hs1 H3 Hs2 ∧ DkOk g H3 Hs2 f2 ∧ Hs2 D = none ∧ H3 D = some (.lst ws) ∧ RpA K Hs2 acc ws ∧ dLc2Go g t c i1 t1 c1 e vs1 (wipeR r vs) (ds.drop (i + 1)) acc f2 Q', fun H3 h3 => ⟨_, by omega, rfl, h3⟩, fun x H3 hx => ?_⟩
    obtain ⟨Hs3, s3, r3⟩ := hy x H3 hx
    simp only [dLc2Go] at q2
    cases et : t ds[i] with
    | none => rw [et] at q2; exact q2.elim
    | some l =>
      rw [et] at q2
      have sl0 : SlOk K Hs3 (wipeR r vs) (L2.wipe st vs) := (((A.sl.mono s1.ext).mono s2.ext).mono s3.ext).wipe vs
      refine hg.2 H3 Hs3 _ _ x _ l s3.sub r3 et fun us hus => ⟨wipe_wipe_sets hs, ?_⟩
      have A3 : At K g (setsR (wipeR r vs) l) f2 (setsV (L2.wipe st vs) is us) H3 Hs3 := ⟨s3.sub, k2.stp s3, by
        have := SlOk.sets sl0 hus
        rw [hg.1 _ l et] at this
        exact this⟩
      refine hc g _ f2 _ H3 Hs3 _ _ A3 (fun b f4 H4 Hs4 s4 k4 q4 => ?_) q2
      have t4 : Stp g H1 Hs1 H4 Hs4 := (s2.trans s3.gen).trans s4
      have n3 : Hs3 D = none := s3.new D _ e2 n2
      have e3 : H3 D = some (.lst ws) := s3.keep D _ e2 id
      have n4 : Hs4 D = none := s4.new D _ e3 n3
      have e4 : H4 D = some (.lst ws) := s4.keep D _ e3 hDk
      have r4 : RpA K Hs4 acc ws := (r2.mono s3.ext).mono s4.ext
      cases b with
      | false =>
        rw [if_neg Bool.false_ne_true]
        exact ⟨hlt, f4, Hs4, acc, ws, t4, k4, n4, e4, r4, q4⟩
      | true =>
        rw [if_pos rfl]
        have A4 := A3.step s4 k4
        refine hi1 g _ f4 _ H4 Hs4 _ _ A4 (fun es f5 J1 H5 Hs5 s5 k5 wk1 q5 => ?_) q4
        obtain ⟨hlim, q5⟩ := q5
        have A5 := A4.step s5 k5
        have t5 : Stp g H1 Hs1 H5 Hs5 := t4.trans s5
        have n5 : Hs5 D = none := s5.new D _ e4 n4
        have e5 : H5 D = some (.lst ws) := s5.keep D _ e4 hDk
        refine ⟨fun j k H6 => k = es.length - j ∧ j ≤ es.length ∧ ∃ f6 Hs6 acc' ws', Stp g H1 Hs1 H6 Hs6 ∧ Same Hs5 Hs6 ∧ DkOk g H6 Hs6 f6 ∧ Hs6 D = none ∧ H6 D = some (.lst ws') ∧ RpA K Hs6 acc' ws' ∧ acc'.length ≤ acc.length + j ∧ dLcGo g t1 c1 e (wipeR (setsR (wipeR r vs) l) vs1) (es.drop j) acc' f6 (fun acc' f3 => dLc2Go g t c i1 t1 c1 e vs1 (wipeR r vs) (ds.drop (i + 1)) acc' f3 Q'),
          ⟨es.length, rfl, Nat.zero_le _, f5, Hs5, acc, ws, t5, Same.refl _, k5, n5, e5, r4.mono s5.ext, by omega, q5⟩, ?_⟩
        rintro j k H6 ⟨rfl, hjl, f6, Hs6, acc', ws', t6, x6, k6, n6, e6, r6, l6, q6⟩
        by_cases hlt1 : j < es.length
        · have hgd1 : es[j]? = some es[j] := List.getElem?_eq_getElem hlt1
          have hdr1 : es.drop j = es[j] :: es.drop (j + 1) := List.drop_eq_getElem_cons hlt1
          rw [hdr1] at q6
          obtain ⟨hgo1, hy1⟩ := wk1.go j _ H6 Hs6 x6 t6.sub hgd1
          refine .inr ⟨hgo1, fun H7 => j + 1 ≤ es.length ∧ ∃ f6 Hs6 acc' ws', Stp g H1 Hs1 H7 Hs6 ∧ Same Hs5 Hs6 ∧ DkOk g H7 Hs6 f6 ∧ Hs6 D = none ∧ H7 D = some (.lst ws') ∧ RpA K Hs6 acc' ws' ∧ acc'.length ≤ acc.length + (j + 1) ∧ dLcGo g t1 c1 e (wipeR (setsR (wipeR r vs) l) vs1) (es.drop (j + 1)) acc' f6 (fun acc' f3 => dLc2Go g t c i1 t1 c1 e vs1 (wipeR r vs) (ds.drop (i + 1)) acc' f3 Q'),
            fun H7 h7 => ⟨_, by omega, rfl, h7⟩, fun x1 H7 hx1 => ?_⟩
          obtain ⟨Hs7, s7, r7⟩ := hy1 x1 H7 hx1
          simp only [dLcGo] at q6
          cases et1 : t1 es[j] with
          | none => rw [et1] at q6; exact q6.elim
          | some l1 =>
            rw [et1] at q6
            have sl1 : SlOk K Hs7 (wipeR (setsR (wipeR r vs) l) vs1) (L2.wipe (setsV (L2.wipe st vs) is us) vs1) := ((A5.sl.mono x6).mono s7.ext).wipe vs1
            refine hg1.2 H7 Hs7 _ _ x1 _ l1 s7.sub r7 et1 fun us1 hus1 => ⟨wipe_wipe_sets hs1, ?_⟩
            have A7 : At K g (setsR (wipeR (setsR (wipeR r vs) l) vs1) l1) f6 (setsV (L2.wipe (setsV (L2.wipe st vs) is us) vs1) is1 us1) H7 Hs7 := ⟨s7.sub, k6.stp s7, by
              have := SlOk.sets sl1 hus1
              rw [hg1.1 _ l1 et1] at this
              exact this⟩
            refine hc1 g _ f6 _ H7 Hs7 _ _ A7 (fun b f8 H8 Hs8 s8 k8 q8 => ?_) q6
            have t8 : Stp g H1 Hs1 H8 Hs8 := (t6.trans s7.gen).trans s8
            have x8 : Same Hs5 Hs8 := (x6.trans s7.ext).trans s8.ext
            have n7 : Hs7 D = none := s7.new D _ e6 n6
            have e7 : H7 D = some (.lst ws') := s7.keep D _ e6 id
            have n8 : Hs8 D = none := s8.new D _ e7 n7
            have e8 : H8 D = some (.lst ws') := s8.keep D _ e7 hDk
            have r8 : RpA K Hs8 acc' ws' := (r6.mono s7.ext).mono s8.ext
            cases b with
            | false =>
              rw [if_neg Bool.false_ne_true]
              exact ⟨hlt1, f8, Hs8, acc', ws', t8, x8, k8, n8, e8, r8, by omega, q8⟩
            | true =>
              rw [if_pos rfl]
              refine he g _ f8 _ H8 Hs8 _ _ (A7.step s8 k8) (fun y f9 v H9 Hs9 s9 k9 r9 q9 => ?_) q8
              have n9 : Hs9 D = none := s9.new D _ e8 n8
              have e9 : H9 D = some (.lst ws') := s9.keep D _ e8 hDk
              have r9' : RpA K Hs9 acc' ws' := r8.mono s9.ext
              refine ⟨ws', e9, ?_, hlt1, f9, Hs9, acc' ++ [y], ws' ++ [v], (t8.trans s9).mut hD n9, x8.trans s9.ext, k9.mut hDk, n9, upd_same, r9'.append (RpA.one r9), by simp; omega, q9⟩
              rw [← r9'.length]
              exact lim_lt (by omega)
        · have ej : j = es.length := by omega
          subst ej
          rw [List.drop_length] at q6
          exact .inl ⟨wk1.stop H6 (fun a o h => t6.sub a o (x6 a o h)), hlt, f6, Hs6, acc', ws', t6, k6, n6, e6, r6, q6⟩
  · have ei : i = ds.length := by omega
    subst ei
    rw [List.drop_length] at q2
    refine .inl ⟨wk.stop H2 (fun a o h => s2.sub a o (s2.ext a o h)), ?_⟩
    exact hq acc f2 D ws H2 Hs2 (s1.trans s2) k2 (none_back s1 hD) n2 e2 r2 q2
theorem dl_lc2 {elt tg iter tg1 iter1 : Expr} {ifs ifs1 : List Expr} {scope : Scope} {own : List (Str × Nat)} {vs1 : List Nat} {pos : Pos} {is is1 : List Nat} {i i1 : DTA} {t t1 : TgF} {c c1 : DTT} {e : DT} (hc : X.calm = true) (hN : X.N.Nodup) (hi : DI X tg iter i) (ok : BlkOk X.N X.env.scope scope own)
    (hg : ∀ (s : Shared) (H : Hp) (C : Addr) (cl : List (Str × Addr)) (fp : List Addr), DG (X.blk s H scope (compEnvC scope cl C X.env) fp) tg is t) (ht : ∀ (s : Shared) (H : Hp) (C : Addr) (cl : List (Str × Addr)) (fp : List Addr), DTs (X.blk s H scope (compEnvC scope cl C X.env) fp) ifs c)
    (hi1 : ∀ (s : Shared) (H : Hp) (C : Addr) (cl : List (Str × Addr)) (fp : List Addr), DI (X.blk s H scope (compEnvC scope cl C X.env) fp) tg1 iter1 i1)
    (hg1 : ∀ (s : Shared) (H : Hp) (C : Addr) (cl : List (Str × Addr)) (fp : List Addr), DG (X.blk s H scope (compEnvC scope cl C X.env) fp) tg1 is1 t1) (ht1 : ∀ (s : Shared) (H : Hp) (C : Addr) (cl : List (Str × Addr)) (fp : List Addr), DTs (X.blk s H scope (compEnvC scope cl C X.env) fp) ifs1 c1)
    (he : ∀ (s : Shared) (H : Hp) (C : Addr) (cl : List (Str × Addr)) (fp : List Addr), DE (X.blk s H scope (compEnvC scope cl C X.env) fp) elt e) (hs : ∀ x, foldedSetIterable iter X.env x = pure x := by intro _; rfl) (hs1 : ∀ env x, foldedSetIterable iter1 env x = pure x := by intro _ _; rfl) (hsub : ∀ j ∈ is, j ∈ own.map (·.2) := by decide) (hsub1 : ∀ j ∈ is1, j ∈ vs1 := by decide) (hv : ∀ j ∈ vs1, j ∈ own.map (·.2) := by decide) :
    DL' X (.ListComp elt [⟨tg, iter, ifs, 0⟩, ⟨tg1, iter1, ifs1, 0⟩] scope pos) (dLc2 i t c i1 t1 c1 e (own.map (·.2)) vs1) := by
  refine DL'.mk' (pe_lc2 (wi1 := tOfI X.K i1) (g := gOf X.K is t) (tt := tOfT X.K c) (g1 := gOf X.K is1 t1) (tt1 := tOfT X.K c1) (te := tOf X.K e) hc hN hi.pi ok hv (fun s H C cl fp => (hg s H C cl fp).pg) (fun s H C cl fp => (ht s H C cl fp).pt) (fun s H C cl fp => (hi1 s H C cl fp).pi) (fun s H C cl fp => (hg1 s H C cl fp).pg) (fun s H C cl fp => (ht1 s H C cl fp).pt) (fun s H C cl fp => (he s H C cl fp).pe) hs hs1) ?_
  intro g r f st H Hs Q Q' A
  exact snd_lc2 hi.sn (hg X.s_0 H 0 [] []).sn (ht X.s_0 H 0 [] []).sn (hi1 X.s_0 H 0 [] []).sn (hg1 X.s_0 H 0 [] []).sn (ht1 X.s_0 H 0 [] []).sn (he X.s_0 H 0 [] []).sn hsub hsub1 g r f st H Hs Q Q' A
/-! {k: v for x in xs} as a value -/
end
end DL
namespace DL
open PySem PySem.Spec PyProof.Rows L2
/-! expressions that may raise -/
abbrev XD := D → Nat → Prop
abbrev DTX := Option Dk → Sg → Nat → QD → XD → Prop
abbrev DSpX := Option Dk → List D → Nat → QD → XD → Prop
def SndX (K : PySem.W.Frag) (W : WX) (t : TE) (dl : DTX) : Prop := ∀ (g : Option Dk) (r : Sg) (f : Nat) (st : L2.St) (H Hs : Hp) (Q : VK) (Q' : QD) (E' : XD), At K g r f st H Hs →
  (∀ d f' v H' Hs', Stp g H Hs H' Hs' → DkOk g H' Hs' f' → Rp K Hs' d v → Q' d f' → Q v H') →
  (∀ x f' cls d H' Hs', Stp g H Hs H' Hs' → DkOk g H' Hs' f' → ExR K H' Hs' x cls d → E' x f' → W cls d st H') → dl g r f Q' E' → t st H Q
def tOfX (K : PySem.W.Frag) (W : WX) (dl : DTX) : TE := fun st H Q => ∃ g r f Hs Q' E', At K g r f st H Hs ∧ (∀ d f' v H' Hs', Stp g H Hs H' Hs' → DkOk g H' Hs' f' → Rp K Hs' d v → Q' d f' → Q v H') ∧
  (∀ x f' cls d H' Hs', Stp g H Hs H' Hs' → DkOk g H' Hs' f' → ExR K H' Hs' x cls d → E' x f' → W cls d st H') ∧ dl g r f Q' E'
structure DEX (X : Cx) (e : Expr) (dl : DTX) : Prop where
  pe : PE X e (tOfX X.K (wx X) dl)
theorem DEX.sn {X : Cx} {e : Expr} {dl : DTX} (_ : DEX X e dl) : SndX X.K (wx X) (tOfX X.K (wx X) dl) dl := fun g r f st H Hs Q Q' E' a h1 h2 hd => ⟨g, r, f, Hs, Q', E', a, h1, h2, hd⟩
theorem DEX.mk' {X : Cx} {e : Expr} {t : TE} {dl : DTX} (p : PE X e t) (s : SndX X.K (wx X) t dl) : DEX X e dl := ⟨⟨fun pins sh st H Q I h => by
  obtain ⟨g, r, f, Hs, Q', E', a, h1, h2, hd⟩ := h
  exact p.run pins sh st H Q I (s g r f st H Hs Q Q' E' a h1 h2 hd)⟩⟩
section
variable {X : Cx} {K : PySem.W.Frag} {W : WX}
def dCallX (S : DSpX) (t : DTA) : DTX := fun g r f Q E => t g r f fun ds f1 => S g ds f1 Q E
/-! statements of them -/
/-! raise C(e), C a class of the text with one field -/
def spExn (K : PySem.W.Frag) (C : Addr) (fld : Str) : Sp := fun vs H Q _ => ∃ (a : Addr) (y : V), vs = [.ref a, y] ∧ H a = some (exo a C none) ∧ ∀ dx, H dx = none → dx ≠ a → Q .non (upd (upd H dx (exd dx [(fld, y)])) a (exo a C (some dx)))
structure Exn (P : Program) (w : World) (K : PySem.W.Frag) (mg : Str → Option Value) (base : Heap) (k : Nat) (c fld : Str) : Prop where
  ex : ∃ C fI fd ps, OexC K C ∧ PySem.W.findIn K (.ref C) "__init__" = some (some (.ref fI)) ∧ PySem.W.typeIn K (.ref fI) = some (.type "function") ∧ FnOk P w K mg base CX0 k fI fd ps (spExn K C fld) ∧ Binds K fd ps [] ∧ mg c = some (.ref C) ∧ PySem.W.nsIn K mainGlobals c = some (some (.ref C))
def sRaise (c fld : Str) (dl : DT) : DTS := fun g r f E => dl g (hide r) f fun d f' => E.xc (.obj c [fld] [d]) r f'
theorem ds_raise {c fld : Str} {k : Nat} {e : Expr} {d : DT} {p pos pos' : Pos} (x : Exn X.prog X.w X.K X.mg X.base k c fld) (hr : Room (k + 1) X.A) (he : DE X e d) (hc : X.calm = true := by rfl) (hg : Gl X c := by rfl) (hdb : (c == ("__debug__" : Str)) = false := by decide)
    (hs : starEach [e] X.env = (false, eval e X.env) :: starEach [] X.env := by rfl) (hpl : (backTo pos (starEach [] X.env)).any (·.1) = false := by rfl) : DS X (.Raise (some (.Call (.Name c p) [e] [] pos)) none pos') (sRaise c fld d) := by
  obtain ⟨C, fI, fd, ps, T, i1, i2, F, hb, hm, hns⟩ := x.ex
  have ha : DA X [e] (dCons d dNil) := da_cons he da_nil hs
  refine .mk' (ps_raise hc (takes_wx X) (pmk_oex T i1 i2 F hr hb .nil pass0 hg hm ha.pa hdb hs hpl)) fun g H0 Hs0 r f st H D E s e hd => ?_
  obtain ⟨Hs, s⟩ := s
  refine ha.sn g (hide r) f st H Hs _ (fun ds f1 => match ds with
    | [x] => E.xc (.obj c [fld] [x]) r f1
    | _ => False) s.atHid (fun ds f1 vs H1 Hs1 s1 k1 r1 q1 => ?_) hd
  match ds, q1 with
  | [x], q1 =>
    obtain ⟨y, rfl, ry⟩ := rpA1 r1
    refine ⟨by simp, fun a ha' => ⟨a, y, rfl, upd_same, fun dx hdx hne => ?_⟩⟩
    have hd1 : H1 dx = none := by rw [upd_ne hne] at hdx; exact hdx
    refine ⟨rfl, dx, [(fld, y)], upd_same, by rw [upd_ne hne, upd_same], hd1, ?_⟩
    have eH : upd (del (upd (upd (upd H1 a (exo a C none)) dx (exd dx [(fld, y)])) a (exo a C (some dx))) a) dx (.xd [(fld, y)]) = upd H1 dx (.xd [(fld, y)]) := by
      funext b
      by_cases e1 : b = dx
      · rw [e1, upd_same, upd_same]
      · rw [upd_ne e1, upd_ne e1]
        by_cases e2 : b = a
        · rw [e2, del_same, ha']
        · rw [del_ne e2, upd_ne e2, upd_ne e1, upd_ne e2]
    rw [eH]
    have lay : Stp none H1 Hs1 (upd H1 dx (.xd [(fld, y)])) (upd Hs1 dx (.xd [(fld, y)])) := Stp.alloc s1.sub hd1
    exact e.xc (.obj c [fld] [x]) r f1 st _ _ _ ⟨_, s.afterHid (s1.trans lay.gen) (k1.stp lay), C, hns, rfl, .inr ⟨dx, [y], rfl, upd_same, rfl, RpA.one (ry.mono lay.ext)⟩⟩ q1
/-! a op b by the class's own method, which may raise -/
/-! try: body, except C: suite -/
theorem EndsOk.mono {g : Option Dk} {H0 Hs0 : Hp} {E : DEnds} {D : Ends} {W' : WX} (e : EndsOk K W g H0 Hs0 E D) (h : ∀ cls d st H, W cls d st H → W' cls d st H) : EndsOk K W' g H0 Hs0 E D := ⟨e.nx, e.rt, e.bk, e.ct, fun x r f st H cls d q hx => h _ _ _ _ (e.xc x r f st H cls d q hx)⟩
end
section
variable {P : Program} {w : World} {K : PySem.W.Frag} {mg : Str → Option Value} {base : Heap}
/-- the __init__ of an exception with one field -/
theorem exn_ok {qual fld : Str} {st : Stmt} {C fI : Addr} {fd : FuncData} (T : OexC K C) (hno : PySem.W.findIn K (.ref C) fld = some none) (F : Fun K "__init__" qual st fI fd) (sc : FnScope ["self", fld] ["self", fld] (defScope st))
    (hb : ∀ (cdv : Value) (A : Around) (outer : List Env) (s : Shared) (H : Hp) (E : XK), PSs (cxOf CX0 P w K mg base ["self", fld] qual (defScope st) fI cdv A outer s H E).nox (defBody st) (tOst K fld (tVar 0) (tVar 1))) :
    FnOk P w K mg base CX0 1 fI fd ["self", fld] (spExn K C fld) := by
  refine F.ok sc (fun vs H Q E h => ?_) (fun cdv A outer s H vs Q E hr hsp => ?_)
  · obtain ⟨a, y, rfl, _⟩ := h
    rfl
  · obtain ⟨a, y, rfl, ea, q⟩ := hsp
    refine ⟨_, hb cdv A outer s H E, ?_⟩
    exact ⟨y, rfl, .ref a, rfl, a, C, rfl, T, hno, .inl ⟨ea, fun dx h1 h2 => q dx h1 h2⟩⟩
end
end DL
namespace DL
open PySem PySem.Spec PyProof.Rows L2
/-! a caught exception that is looked at, kept, and looked at later -/
section
variable {X : Cx} {K : PySem.W.Frag} {W : WX} {g : Option Dk} {H0 Hs0 : Hp} {r : Sg} {f : Nat} {st : L2.St} {H Hs : Hp}
/-! its fields -/
structure KX (K : PySem.W.Frag) (c : Str) (C : Addr) : Prop where
  ns : PySem.W.nsIn K mainGlobals c = some (some (.ref C))
  xf : XfC K C
  ha : PySem.W.findIn K (.ref C) "__class__" = some (some (.builtin "object.__class__"))
  hn : PySem.W.specialIn K (.builtin "object.__class__") "__get__" = some (some (.builtin "getset_descriptor.__get__"))
  ht : PySem.W.takesIn K (.builtin "object.__class__") = some true
  hm : PySem.W.mroIn K C (.type "object") = some true
theorem KX.uniq {c : Str} {C C' : Addr} (k : KX K c C) (h : PySem.W.nsIn K mainGlobals c = some (some (.ref C'))) : C' = C := by
  have e := k.ns.symm.trans h
  cases e
  rfl
/-! isinstance of it, or of None -/
theorem KX.cls {c : Str} {C : Addr} (k : KX K c C) : (PySem.W.clsIn K C).isSome = true := by
  obtain ⟨cd, hc, _⟩ := PySem.W.any_some k.xf.hdC
  rw [hc]
  rfl
/-! small things -/
theorem DEX.e {e : Expr} {dl : DTX} (h : DEX X e dl) : DE X e (fun g r f Q => dl g r f Q fun _ _ => False) := .mk' h.pe fun g r f st H Hs Q Q' A hq hd => ⟨g, r, f, Hs, Q', fun _ _ => False, A, hq, fun _ _ _ _ _ _ _ _ _ z => z.elim, hd⟩
def sRetX (dl : DTX) : DTS := fun g r f E => dl g (hide r) f E.rt fun x f' => E.xc x r f'
theorem ds_retX {e : Expr} {pos : Pos} {d : DTX} (h : DEX X e d) : DS X (.Return (some e) pos) (sRetX d) := .mk' (ps_ret h.pe) (fun g H0 Hs0 r f st H D E s e hd => by
  obtain ⟨Hs, s⟩ := s
  exact h.sn g (hide r) f st H Hs _ _ _ s.atHid (fun d f' v H' Hs' p k hr q => e.rt d f' v H' Hs' (s.stp.trans p) k hr q) (fun x f' cls d H' Hs' p k hx q => e.xc x r f' st H' cls d ⟨_, s.afterHid p k, hx⟩ q) hd)
theorem exn_mk {P : Program} {w : World} {mg : Str → Option Value} {base : Heap} {c fld qual : Str} {st : Stmt} {C fI : Addr} {fd : FuncData} (T : OexC K C) (hno : PySem.W.findIn K (.ref C) fld = some none) (F : Fun K "__init__" qual st fI fd) (i1 : PySem.W.findIn K (.ref C) "__init__" = some (some (.ref fI)))
    (i2 : PySem.W.typeIn K (.ref fI) = some (.type "function")) (hns : PySem.W.nsIn K mainGlobals c = some (some (.ref C))) (hm : mg c = some (.ref C)) (sc : FnScope ["self", fld] ["self", fld] (defScope st)) (hb' : Binds K fd ["self", fld] [])
    (hb : ∀ (cdv : Value) (A : Around) (outer : List Env) (s : Shared) (H : Hp) (E : XK), PSs (cxOf CX0 P w K mg base ["self", fld] qual (defScope st) fI cdv A outer s H E).nox (defBody st) (tOst K fld (tVar 0) (tVar 1))) : Exn P w K mg base 1 c fld :=
  ⟨⟨C, fI, fd, _, T, i1, i2, exn_ok T hno F sc hb, hb', hm, hns⟩⟩
end
end DL
namespace DL
open PySem PySem.Spec PyProof.Rows L2
section
variable {X : Cx} {K : PySem.W.Frag} {W : WX}
/-- a, b, c = e1, e2, e3 -/
def sPar3 (m : Bool) (i j l : Nat) (a b c : DT) : DTS := fun g r f E => evM m a g r f fun x f1 => evM m b g r f1 fun y f2 => evM m c g r f2 fun z f3 => E.nx (((r.set i (.sh x)).set j (.sh y)).set l (.sh z)) f3
theorem ds_par3 (m : Bool) {i j l : Nat} {x y z : Str} {a b c : Expr} {da db dc : DT} {px py pz pt : Pos} {kt k2 : Nat} {pt2 pos : Pos} (hN : X.N.Nodup) (ha : DE X a da) (hb : DE X b db) (hc' : DE X c dc) (hc : X.calm = true := by rfl) (hi : X.N[i]? = some x := by rfl) (hj : X.N[j]? = some y := by rfl) (hl : X.N[l]? = some z := by rfl) (hij : i ≠ j := by decide) (hil : i ≠ l := by decide) (hjl : j ≠ l := by decide)
    (hx : X.env.scope.names.lookup x = some .local := by rfl) (hy : X.env.scope.names.lookup y = some .local := by rfl) (hz : X.env.scope.names.lookup z = some .local := by rfl) (hst : starEach [a, b, c] X.env = (false, eval a X.env) :: starEach [b, c] X.env := by rfl) (hst2 : starEach [b, c] X.env = (false, eval b X.env) :: starEach [c] X.env := by rfl) (hst3 : starEach [c] X.env = [(false, eval c X.env)] := by rfl)
    (hw : swappedStores [.Tuple [.Name x px, .Name y py, .Name z pz] kt pt] (.Tuple [a, b, c] k2 pt2) X.env = pure (some [x, y, z]) := by rfl)
    (hs : swapsWithSole [.Tuple [.Name x px, .Name y py, .Name z pz] kt pt] (.Tuple [a, b, c] k2 pt2) pos.line X.env = pure false := by rfl) :
    DS X (.Assign [.Tuple [.Name x px, .Name y py, .Name z pz] kt pt] (.Tuple [a, b, c] k2 pt2) pos) (sPar3 m i j l da db dc) := DS.mk' (ps_par3 hc hN hi hj hl hij hil hjl hx hy hz (pa_cons ha.pe (pa_cons hb.pe (pa_cons hc'.pe pa_nil hst3) hst2) hst) hw hs) (fun g H0 Hs0 r f st H D E s e hd => by
  obtain ⟨Hs, s⟩ := s
  refine snd_evM ha.sn s (fun x f1 v H1 Hs1 s1 _ r1 q1 => ?_) hd
  refine snd_evM hb.sn s1 (fun y f2 w H2 Hs2 s2 e2 r2 q2 => ?_) q1
  refine snd_evM hc'.sn s2 (fun z f3 u H3 Hs3 s3 e3 r3 q3 => ?_) q2
  exact ⟨v, w, u, rfl, e.nx _ f3 _ H3 ⟨_, ((s3.set i ((r1.mono e2).mono e3)).set j (r2.mono e3)).set l r3⟩ q3⟩)
end
/-! values without lists and dicts stand apart from what the slots own -/
end DL
namespace DL
open PySem PySem.Spec PyProof.Rows L2
/-! places between statements, at which ways meet: behind the first, the second, .. statement -/
section
variable {g : Option Dk} {r : Sg} {f : Nat} {E : DEnds} {a b c d e h i : DTS}
theorem mid (M : Sg → Nat → Prop) (h2 : ∀ r f, M r f → b g r f E) (h1 : (∀ r f, M r f → b g r f E) → (sSeq a b) g r f E) : (sSeq a b) g r f E := h1 h2
end
/-! isinstance of an own error class, from the answers about the classes -/
end DL
namespace DL
open PySem PySem.Spec PyProof.Rows L2
/-! defs that are called with no repr under way -/
structure FnG (P : Program) (w : World) (K : PySem.W.Frag) (mg : Str → Option Value) (base : Heap) (k : Nat) (f : Addr) (fd : FuncData) (ps : List Str) (sp : Sp) : Prop where
  len : ∀ vs H Q E, sp vs H Q E → vs.length = ps.length
  run : ∀ (A : Around) (outer : List Env) (s : Shared) (H : Hp) (args : Args) (us : List Value) (vs : List V) (Q : VK) (E : XK), Room k A → A.guards = some [] → Env0 P w K mg base A outer s H → BindsTo s fd args (ps.zip us) → Vals vs us → sp vs H Q E →
    codeAny (model P w) A (.call (.ref f) args) (CR CX0 outer P w H s Q E) s
section
variable {P : Program} {w : World} {K : PySem.W.Frag} {mg : Str → Option Value} {base : Heap}
theorem fnG_of {x qual : Str} {st : Stmt} {f : Addr} {fd : FuncData} {N ps : List Str} {k : Nat} {sp : Sp} (F : Fun K x qual st f fd) (S : FnScope N ps (defScope st)) (len : ∀ vs H Q E, sp vs H Q E → vs.length = ps.length)
    (hb : ∀ (cdv : Value) (A : Around) (outer : List Env) (s : Shared) (H : Hp) (vs : List V) (Q : VK) (E : XK), Room k (A.deeper (envOfC qual (defScope st) s.heap.objs.size f cdv)) → A.guards = some [] → sp vs H Q E →
      ∃ t, PSs (cxOf CX0 P w K mg base N qual (defScope st) f cdv A outer s H E).nox (defBody st) t ∧ t { nx := fun _ H' => Q .non H', rt := Q } (L2.start N vs) H) : FnG P w K mg base (k + 1) f fd ps sp := by
  obtain ⟨oc, od, kV, doc, pm, an, cdv, ct, osl, rfl, lk, hcd⟩ := F.ex
  refine ⟨len, fun A outer s H args us vs Q E hr gd e0 hbd r hsp => ?_⟩
  have kIn : K.In s.heap := e0.mod.kin.keeps fun b o e => And.left (e0.bs b o e)
  have nl : s.heap.NoLimit := e0.mod.nolimit.keeps fun b o e => And.left (e0.bs b o e)
  obtain ⟨t, ht, q⟩ := hb cdv A outer s H vs Q E (hr.deeper _) gd hsp
  refine codeAny_call_function hr.depth (kIn _ _ lk) rfl S.co S.gen rfl (PySem.W.codeRec_of kIn hcd) ?_
  refine hbd _ _ _ _ (wpAny_newFunctionEnv_cells S.kind (fun p hp => ?_) fun env he s1 x => ?_)
  · rcases S.par p.1 (List.of_mem_zip (show (p.1, p.2) ∈ ps.zip us from hp)).1 with z | z
    · exact .inl z
    · exact .inr ⟨z, PySem.W.cellsFrom_some _ _ _ (.inl z)⟩
  · subst he
    refine ⟨nl.keeps x.toInCall.keep, codeAny_func (wpAny_mono (ht.nox.run [] s1 (L2.start N vs) H _ (inv_start S hr.hd e0 (len _ _ _ _ hsp) r x) q) (fun fl s' hs => ?_) fun e s' hs => hs)⟩
    cases fl with
    | next => obtain ⟨st', H', J, z⟩ := hs; exact ⟨V.non, H', J.os, J.bare, J.base, J.hok, rfl, z⟩
    | ret u => obtain ⟨v, st', H', J, rv, z⟩ := hs; exact ⟨v, H', J.os, J.bare, J.base, J.hok, rv, z⟩
    | brk => obtain ⟨_, _, _, z⟩ := hs; exact z.elim
    | cont => obtain ⟨_, _, _, z⟩ := hs; exact z.elim
theorem dlawG {x qual y : Str} {s0 : Stmt} {rest : List Stmt} {st : Stmt} {f : Addr} {fd : FuncData} {N : List Str} {k : Nat} {dl : DTS} (F : Fun K x qual st f fd) (sc : FnScope N [y] (defScope st)) (hN : 2 ≤ N.length) (hbody : defBody st = s0 :: rest)
    (hb : ∀ (cdv : Value) (A : Around) (outer : List Env) (s : Shared) (H : Hp) (E : XK), Room k (A.deeper (envOfC qual (defScope st) s.heap.objs.size f cdv)) → (A.deeper (envOfC qual (defScope st) s.heap.objs.size f cdv)).guards = some [] → PS (cxOf CX0 P w K mg base N qual (defScope st) f cdv A outer s H E).nox s0 (tAsg (tCall (spDeck K) [] E0 (tCons (tVar 0) tNil)) (gName 1)) ∧ DSs (cxOf CX0 P w K mg base N qual (defScope st) f cdv A outer s H E).nox rest dl)
    (h : ∀ dk : Dk, dl (some dk) (startLaw N.length dk) 1000000000000 { nx := fun _ _ => False, rt := fun d _ => d = .bool true }) : FnG P w K mg base (k + 1) f fd [y] (spLaw K) := by
  refine fnG_of F sc (fun vs H Q E h => ?_) (fun cdv A outer s H vs Q E hr gd hsp => ?_)
  · obtain ⟨a, ns, rfl, _⟩ := h
    rfl
  · obtain ⟨a, ns, rfl, hS, hlen, q⟩ := hsp
    obtain ⟨h1, h2⟩ := hb cdv A outer s H E hr gd
    refine ⟨tSeq _ (sOf K _ dl), by rw [hbody]; exact pss_cons h1 h2.ps, ?_⟩
    obtain ⟨n, hn⟩ : ∃ n, N.length = n + 2 := ⟨N.length - 2, by omega⟩
    have e0 : L2.start N [V.ref a] = some (.ref a) :: none :: List.replicate n none := by
      unfold L2.start
      rw [hn]
      rfl
    refine ⟨.ref a, by rw [e0]; rfl, a, ns, rfl, hS, hlen, fun H' dk same n1 n2 n3 hd => ?_⟩
    refine h2.sn (some dk) H' (fun _ => none) (startLaw N.length dk) 1000000000000 _ H' _ { nx := fun _ _ => False, rt := fun d _ => d = .bool true } ⟨fun _ => none, ?_⟩ ⟨fun _ _ _ _ _ h => h.elim, fun d f v H2 Hs2 _ _ hr h => ?_, fun _ _ _ _ _ h => h.elim, fun _ _ _ _ _ h => h.elim, fun _ _ _ _ _ _ _ _ h => h.elim⟩ (h dk)
    · have sub : Same (fun _ => none) H' := fun a o h => nomatch h
      refine ⟨?_, ⟨_, hd, rfl, rfl, rfl⟩, ⟨hd, rfl, rfl, rfl⟩, Stp.refl sub, fun i d hi => ?_, fun i sl hi ho => ?_, fun i j sl u b hi hj ho => ?_⟩
      · rw [e0, hn]; simp [startLaw]
      · rw [e0]
        unfold startLaw at hi
        match i, hi with
        | 0, hi => cases hi
        | 1, hi => cases hi; exact ⟨.ref dk.a, rfl, rfl⟩
        | i + 2, hi =>
          have hi : (List.replicate (N.length - 2) Sl.no)[i]? = some (.sh d) := hi
          rw [List.getElem?_replicate] at hi
          split at hi <;> cases hi
      all_goals
        exfalso
        have : ∀ (i : Nat) (s : Sl), (startLaw N.length dk)[i]? = some s → s.own = false := fun i s h => by
          have := List.mem_of_getElem? h
          unfold startLaw at this
          rcases List.mem_cons.mp this with h | h
          · rw [h]; rfl
          · rcases List.mem_cons.mp h with h | h
            · rw [h]; rfl
            · rw [(List.mem_replicate.mp h).2]; rfl
        rw [this i sl hi] at ho
        cases ho
    · subst h
      cases hr
      exact q H2
end
/-! calls of them -/
/-! the end of a law whose def is called with no repr under way -/
theorem law_callG {P : Program} {w : World} {K : PySem.W.Frag} {mg mb : Str → Option Value} {k : Nat} {fa a : Addr} {fd : FuncData} {x : Str} {s₁ : Shared} {vs : List Value} {ns : List Int}
    (kIn : K.In s₁.heap) (hns : s₁.heap.Ns mainGlobals mg) (hb : s₁.heap.Ns builtinsNs mb) (hbb : ∀ x : Str, x ≠ "__name__" → mb x = bootBuiltins x) (nl : s₁.heap.NoLimit) (hg : s₁.gens = #[])
    (ha : s₁.heap.get? a = some { cls := .type "list", data := .seq vs.toArray }) (hi : IntsAre vs ns) (hl : ns.length ≤ 63) (hr : Room k callerA)
    (F : ∀ base : Heap, K.In base → base.Ns mainGlobals mg → FnG P w K mg base k fa fd [x] (spLaw K)) (hbind : ∀ (s : Shared) (u : Value), BindsTo s fd ⟨[u], []⟩ [(x, u)]) :
    codeAny (model P w) callerA (.call (.ref fa) ⟨[.ref a], []⟩) (fun r s' => r = .ok (.ret (.bool true)) ∧ OldK s₁.heap s'.heap ∧ s'.os = s₁.os ∧ AllBare s'.gens) s₁ := by
  have hlz : ns.length ≤ sizeLine := Nat.le_trans hl (by rw [sizeLine_eq]; decide)
  have main : ∀ H : Hp, (∀ b o, H b = some o → b = a ∧ K.lookup a = none ∧ ∃ u, o = .frz { cls := .type "list", data := .seq vs.toArray } u) → SqL K H a (ns.map V.int) → HOk P w H s₁.heap →
      codeAny (model P w) callerA (.call (.ref fa) ⟨[.ref a], []⟩) (fun r s' => r = .ok (.ret (.bool true)) ∧ OldK s₁.heap s'.heap ∧ s'.os = s₁.os ∧ AllBare s'.gens) s₁ := by
    intro H only sq hok
    have nsH : ∀ {b : Addr} {m : Str → Option Value}, s₁.heap.Ns b m → (hidT s₁.heap H).Ns b m := by
      rintro b m ⟨o, es, ep, e, d, z⟩
      refine ⟨o, es, ep, hidT_get e ?_, d, z⟩
      cases q : H b with
      | none => rfl
      | some u =>
        obtain ⟨rfl, _⟩ := only b u q
        rw [ha] at e
        cases e
        exact Data.noConfusion d
    have kb : K.In (hidT s₁.heap H) := fun b o e => hidT_get (kIn b o e) (by
      cases q : H b with
      | none => rfl
      | some u =>
        obtain ⟨rfl, h2, _⟩ := only b u q
        rw [h2] at e
        cases e)
    obtain ⟨mc, hm1, hm2⟩ := nl
    have e0 : Env0 P w K mg (hidT s₁.heap H) callerA [] s₁ H := {
      frames := rfl
      mod := ⟨kb, nsH hns, ⟨mb, nsH hb, hbb⟩, ⟨mc, nsH hm1, hm2⟩⟩
      bs := fun b o e => of_hidT e
      bsz := Nat.le_of_eq (hidT_size _ _)
      funs := trivial
      frf := fun b z => absurd (show b ∈ ([] : List Addr) from z) (by simp)
      hok := hok
      bare := .of_eq hg }
    refine codeAny_mono ((F _ kb (nsH hns)).run callerA [] s₁ H ⟨[.ref a], []⟩ [.ref a] [.ref a] (fun v _ => v = .bl true) (fun _ _ _ => False) hr rfl e0 (hbind s₁ (.ref a)) (.cons rfl .nil) ⟨a, ns, rfl, sq, hl, fun _ => rfl⟩) fun z s' h => ?_
    cases z with
    | error e => exact h.elim
    | ok fl => cases fl with
      | ret u =>
        obtain ⟨v, H', os, bare, un, hok', rv, q⟩ := h
        subst q
        obtain rfl : u = Value.bool true := rv
        refine ⟨rfl, OldK.of_keep fun b o e => ?_, os, bare⟩
        cases q : H b with
        | none => exact un.keep b o e q (fun z => absurd (show b ∈ ([] : List Addr) from z) (by simp)) (by simp)
        | some u =>
          obtain ⟨rfl, _, u', rfl⟩ := only b u q
          rw [ha] at e
          cases e
          exact (hok' b _ (un.frzs b _ _ q)).1
      | _ => exact h.elim
  have rv := vals_ints hi
  cases hk : K.lookup a with
  | some o =>
    have e := kIn a o hk
    rw [ha] at e
    cases e
    refine main (fun _ => none) (fun b o h => nomatch h) (.inr ⟨_, vs.toArray, _, hk, rfl, rfl, rfl, by rw [List.size_toArray, hi.length]; exact hlz, by simpa using rv⟩) fun b o h => nomatch h
  | none =>
    have self : ∀ b o, upd (fun _ => none) a (.frz { cls := .type "list", data := .seq vs.toArray } (.lst (ns.map V.int))) b = some o → b = a ∧ o = .frz { cls := .type "list", data := .seq vs.toArray } (.lst (ns.map V.int)) := fun b o h => by
      by_cases hb : b = a
      · subst hb
        rw [upd_same] at h
        cases h
        exact ⟨rfl, rfl⟩
      · rw [upd_ne hb] at h
        cases h
    refine main (upd (fun _ => none) a (.frz { cls := .type "list", data := .seq vs.toArray } (.lst (ns.map V.int)))) (fun b o h => ?_) (.inl (.inr ⟨_, upd_same⟩)) fun b o h => ?_
    · obtain ⟨rfl, rfl⟩ := self b o h
      exact ⟨rfl, hk, _, rfl⟩
    · obtain ⟨rfl, rfl⟩ := self b o h
      exact ⟨ha, by rw [List.length_map]; exact hlz, vs, _, rv, ha⟩
end DL
namespace DL
open PySem PySem.Spec PyProof.Rows L2
/-! repr -/
def keyP : Key → PyData
  | .inl i => .int i
  | .inr x => .str x
mutual
def D.sh : D → PyData
  | .none => .none
  | .bool b => .bool b
  | .int i => .int i
  | .str x => .str x
  | .tup ds => .tuple (shA ds)
  | .lst ds => .list (shA ds)
  | .dct ks ds => .dict ((ks.map keyP).zip (shA ds))
  | .obj _ _ _ => .none
  | .exn _ _ _ => .none
  | .any _ => .none
def shA : List D → List PyData
  | [] => []
  | d :: ds => d.sh :: shA ds
end
def kOk : Key → Bool
  | .inl i => decide (i.natAbs.log2 < 1920)
  | .inr x => x.cps.toList.all fun c => decide (c < 1114112)
def kWt : Key → Nat
  | .inl _ => 1921
  | .inr x => 10 * x.length + 2
mutual
/-- what may be shown -/
def D.shO : D → Bool
  | .none => true
  | .bool _ => true
  | .int i => decide (i.natAbs.log2 < 1920)
  | .str x => x.cps.toList.all fun c => decide (c < 1114112)
  | .tup ds => shOA ds
  | .lst ds => shOA ds
  | .dct ks ds => ks.all kOk && shOA ds
  | .obj _ _ _ => false
  | .exn _ _ _ => false
  | .any _ => false
def shOA : List D → Bool
  | [] => true
  | d :: ds => d.shO && shOA ds
end
mutual
/-- how long its text is, at the most -/
def D.wt : D → Nat
  | .int _ => 1921
  | .str x => 10 * x.length + 2
  | .tup ds => wtA ds + 3
  | .lst ds => wtA ds + 3
  | .dct ks ds => (ks.map fun k => kWt k + 2).sum + wtA ds + 3
  | _ => 5
def wtA : List D → Nat
  | [] => 0
  | d :: ds => d.wt + 2 + wtA ds
end
mutual
/-- how deep it is -/
def D.dp : D → Nat
  | .tup ds => dpA ds + 1
  | .lst ds => dpA ds + 1
  | .dct _ ds => dpA ds + 1
  | _ => 0
def dpA : List D → Nat
  | [] => 0
  | d :: ds => max d.dp (dpA ds)
end
theorem shA_len : ∀ ds : List D, (shA ds).length = ds.length
  | [] => rfl
  | d :: ds => by show (shA ds).length + 1 = _; rw [shA_len ds]; rfl
/-! lengths -/
theorem cps_of {x : Str} (h : (x.cps.toList.all fun c => decide (c < 1114112)) = true) : (reprText x).length ≤ 10 * x.length + 2 :=
  PySem.StrLaws.reprText_len x fun c hc => Nat.lt_trans (of_decide_eq_true (List.all_eq_true.mp h c hc)) (by decide)
theorem key_len : ∀ k : Key, kOk k = true → (keyP k).shown.length ≤ kWt k
  | .inl i, h => int_text_len_1921 (of_decide_eq_true h)
  | .inr x, h => cps_of h
mutual
theorem D.sh_len : ∀ d : D, d.shO = true → d.sh.shown.length ≤ d.wt
  | .none, _ => by decide
  | .bool b, _ => by cases b <;> decide
  | .int i, h => int_text_len_1921 (of_decide_eq_true h)
  | .str x, h => cps_of h
  | .tup ds, h => by
    have h1 := shA_lens ds h
    have h2 := tupleText_len_le (PyData.shownAll (shA ds))
    rw [PyData.shownAll_length, shA_len] at h2
    show (tupleText (PyData.shownAll (shA ds))).length ≤ wtA ds + 3
    omega
  | .lst ds, h => by
    have h1 := shA_lens ds h
    have h2 := listText_len_le (PyData.shownAll (shA ds))
    rw [PyData.shownAll_length, shA_len] at h2
    show (listText (PyData.shownAll (shA ds))).length ≤ wtA ds + 3
    omega
  | .dct ks ds, h => by
    have h : (ks.all kOk && shOA ds) = true := h
    rw [Bool.and_eq_true] at h
    have h1 := kv_lens ks ds h.1 h.2
    have h2 := dictText_len_le (PyData.shownKv ((ks.map keyP).zip (shA ds)))
    rw [PyData.shownKv_length] at h2
    show (dictText (PyData.shownKv ((ks.map keyP).zip (shA ds)))).length ≤ (ks.map fun k => kWt k + 2).sum + wtA ds + 3
    omega
  | .obj _ _ _, h => by cases h
  | .exn _ _ _, h => by cases h
  | .any _, h => by cases h
theorem shA_lens : ∀ ds : List D, shOA ds = true → ((PyData.shownAll (shA ds)).map (·.length)).sum + 2 * ds.length ≤ wtA ds
  | [], _ => Nat.le_refl _
  | d :: ds, h => by
    have h : (d.shO && shOA ds) = true := h
    rw [Bool.and_eq_true] at h
    have h1 := D.sh_len d h.1
    have h2 := shA_lens ds h.2
    show ((d.sh.shown :: PyData.shownAll (shA ds)).map (·.length)).sum + 2 * (ds.length + 1) ≤ d.wt + 2 + wtA ds
    rw [List.map_cons, List.sum_cons]
    omega
theorem kv_lens : ∀ (ks : List Key) (ds : List D), ks.all kOk = true → shOA ds = true → ((PyData.shownKv ((ks.map keyP).zip (shA ds))).map (·.length)).sum + 2 * ((ks.map keyP).zip (shA ds)).length ≤ (ks.map fun k => kWt k + 2).sum + wtA ds
  | [], ds, _, _ => by show 0 ≤ _; omega
  | k :: ks, [], _, _ => by show 0 ≤ _; omega
  | k :: ks, d :: ds, hk, hd => by
    have hd : (d.shO && shOA ds) = true := hd
    rw [Bool.and_eq_true] at hd
    rw [List.all_cons, Bool.and_eq_true] at hk
    have h1 := D.sh_len d hd.1
    have h2 := key_len k hk.1
    have h3 := kv_lens ks ds hk.2 hd.2
    show ((((keyP k).shown ++ ": " ++ d.sh.shown) :: PyData.shownKv ((ks.map keyP).zip (shA ds))).map (·.length)).sum + 2 * (((ks.map keyP).zip (shA ds)).length + 1) ≤ (kWt k + 2 + (ks.map fun k => kWt k + 2).sum) + (d.wt + 2 + wtA ds)
    rw [List.map_cons, List.sum_cons, strLen_append, strLen_append]
    have e : Str.length (": " : Str) = 2 := by decide
    omega
end
/-! depths -/
mutual
theorem D.sh_depth : ∀ d : D, d.sh.depth ≤ d.dp
  | .none => Nat.le_refl _
  | .bool _ => Nat.le_refl _
  | .int _ => Nat.le_refl _
  | .str _ => Nat.le_refl _
  | .tup ds => Nat.succ_le_succ (shA_depth ds)
  | .lst ds => Nat.succ_le_succ (shA_depth ds)
  | .dct ks ds => Nat.succ_le_succ (kv_depth ks ds)
  | .obj _ _ _ => Nat.le_refl _
  | .exn _ _ _ => Nat.le_refl _
  | .any _ => Nat.le_refl _
theorem shA_depth : ∀ ds : List D, PyData.depthAll (shA ds) ≤ dpA ds
  | [] => Nat.le_refl _
  | d :: ds => by
    have h1 := D.sh_depth d
    have h2 := shA_depth ds
    show max d.sh.depth (PyData.depthAll (shA ds)) ≤ max d.dp (dpA ds)
    omega
theorem kv_depth : ∀ (ks : List Key) (ds : List D), PyData.depthKv ((ks.map keyP).zip (shA ds)) ≤ dpA ds
  | [], ds => Nat.zero_le _
  | _ :: _, [] => Nat.zero_le _
  | k :: ks, d :: ds => by
    have h1 := D.sh_depth d
    have h2 := kv_depth ks ds
    have h3 : (keyP k).depth = 0 := by cases k <;> rfl
    show max (max (keyP k).depth d.sh.depth) (PyData.depthKv ((ks.map keyP).zip (shA ds))) ≤ max d.dp (dpA ds)
    omega
end
/-! what is read in the heap -/
section
variable {P : Program} {w : World} {K : PySem.W.Frag} {H : Hp} {h : Heap}
theorem lst_at {a : Addr} {vs : List V} (ok : HOk P w H h) (e : H a = some (.lst vs)) : ∃ (us : List Value) (n : Nat), Vals vs us ∧ h.get? a = some { cls := .type "list", data := .seq us.toArray n } := (ok a _ e).2
theorem tup_at {a : Addr} {vs : List V} (ok : HOk P w H h) (ki : K.In h) (e : TpAt K H a vs) : ∃ us : List Value, Vals vs us ∧ IsTup h a us.toArray := by
  rcases e with e | ⟨o, its, n, h1, h2, h3, _, h4⟩
  · exact (ok a _ e).2
  · exact ⟨its.toList, h4, o, ki _ _ h1, h2, n, by rw [h3]⟩
theorem kv_at : ∀ {ks : List Key} {vs : List V} {kvs : List (Key × Value)} {l : List DictEntry}, ks.length = vs.length → KV (ks.zip vs) kvs → Pairs (mixKind P w) l kvs → Vals vs (l.map (·.val)) ∧ Paired (fun k u => keyIs k u = true) ks (l.map (·.key))
  | [], [], _, _, _, .nil, .nil => ⟨.nil, .nil⟩
  | [], _ :: _, _, _, hl, _, _ => by simp at hl
  | _ :: _, [], _, _, hl, _, _ => by simp at hl
  | k :: ks, v :: vs, _, _, hl, r, hp => by
    rw [List.zip_cons_cons] at r
    cases r with
    | cons r1 r2 =>
      cases hp with
      | cons p1 p2 p3 =>
        obtain ⟨h1, h2⟩ := kv_at (by simpa using hl) r2 p3
        refine ⟨.cons (by show RelV v (DictEntry.val _); rw [p2]; exact r1.2) h1, .cons ?_ h2⟩
        have e : k = _ := r1.1
        rw [e]
        exact p1
theorem dct_at {a : Addr} {ks : List Key} {vs : List V} (ok : HOk P w H h) (e : H a = some (.dK (ks.zip vs))) (hl : ks.length = vs.length) : (a == sysModules) = false ∧ ∃ (o : Obj) (es : Array DictEntry) (ep : Nat), h.get? a = some o ∧ o.cls = .type "dict" ∧ o.data = .dict es ep ∧ Vals vs (es.toList.map (·.val)) ∧ Paired (fun k u => keyIs k u = true) ks (es.toList.map (·.key)) := by
  obtain ⟨_, hs, kvs, r, o, es, ep, ho, hx, hd, _, hp, _⟩ := ok a _ e
  obtain ⟨h1, h2⟩ := kv_at hl r hp
  exact ⟨hs, o, es, ep, ho, hx.1, hd, h1, h2⟩
theorem keys_at : ∀ {ks : List Key} {us : List Value} (n : Nat) (bs : List Addr), Paired (fun k u => keyIs k u = true) ks us → ks.all kOk = true → (∀ k ∈ ks, kWt k ≤ sizeLine) → (∃ as, ReadsAll h us (ks.map keyP) as) ∧ ReprAllK P w bs h n us (PyData.shownAll (ks.map keyP))
  | [], _, n, bs, .nil, _, _ => ⟨⟨[], .nil⟩, .nil⟩
  | k :: ks, u :: us, n, bs, .cons hk hr, ho, hz => by
    rw [List.all_cons, Bool.and_eq_true] at ho
    obtain ⟨⟨as, h1⟩, h2⟩ := keys_at n bs hr ho.2 fun k hk => hz k (List.mem_cons_of_mem _ hk)
    have hz1 := hz k (List.mem_cons_self ..)
    rcases keyIs_shape hk with ⟨i, t, rfl, rfl⟩ | ⟨x, t, rfl, rfl⟩
    · exact ⟨⟨_, .cons (.int i t) h1⟩, .cons (.of_is (ReprIs.int t (of_decide_eq_true ho.1)) _ _ _) h2⟩
    · exact ⟨⟨_, .cons (.str x t) h1⟩, .cons (.of_is (ReprIs.str x t (Nat.le_trans (cps_of ho.1) hz1)) _ _ _) h2⟩
theorem kWt_mem : ∀ {ks : List Key} {k : Key}, k ∈ ks → kWt k ≤ (ks.map fun k => kWt k + 2).sum
  | x :: xs, k, hk => by
    rw [List.map_cons, List.sum_cons]
    rcases List.mem_cons.mp hk with e | e
    · rw [e]; omega
    · have := kWt_mem e
      omega
theorem fst_zip {α β : Type} : ∀ {l : List α} {m : List β}, l.length = m.length → (l.zip m).map (·.1) = l ∧ (l.zip m).map (·.2) = m
  | [], [], _ => ⟨rfl, rfl⟩
  | [], _ :: _, h => by simp at h
  | _ :: _, [], h => by simp at h
  | x :: l, y :: m, h => by
    obtain ⟨h1, h2⟩ := fst_zip (l := l) (m := m) (by simpa using h)
    rw [List.zip_cons_cons, List.map_cons, List.map_cons, h1, h2]
    exact ⟨rfl, rfl⟩
mutual
theorem rpK (ok : HOk P w H h) (ki : K.In h) : ∀ (d : D) (v : V) (u : Value), Rp K H d v → RelV v u → d.shO = true → d.wt ≤ sizeLine → (∃ as, Reads h u d.sh as) ∧ ∃ bs, ReadAtMost h d.sh.depth bs ∧ ReprK P w bs h d.sh.depth u d.sh.shown
  | .none, v, u, r, q, _, _ => by cases r; cases q; exact ⟨⟨_, .none⟩, [], (fun _ z => nomatch z), .of_is ReprIs.none _ _ _⟩
  | .bool b, v, u, r, q, _, _ => by cases r; cases q; exact ⟨⟨_, .bool b⟩, [], (fun _ z => nomatch z), .of_is (ReprIs.bool b) _ _ _⟩
  | .int i, v, u, r, q, ho, _ => by cases r; obtain ⟨t, rfl⟩ := q; exact ⟨⟨_, .int i t⟩, [], (fun _ z => nomatch z), .of_is (ReprIs.int t (of_decide_eq_true ho)) _ _ _⟩
  | .str x, v, u, r, q, ho, hz => by cases r; obtain ⟨t, rfl⟩ := q; exact ⟨⟨_, .str x t⟩, [], (fun _ z => nomatch z), .of_is (ReprIs.str x t (Nat.le_trans (cps_of ho) hz)) _ _ _⟩
  | .tup ds, v, u, ⟨a, vs, hv, ha, hr⟩, q, ho, hz => by
    subst hv
    cases (show u = Value.ref a from q)
    obtain ⟨us, hu, o, h1, h2, n, h3⟩ := tup_at ok ki ha
    obtain ⟨⟨as, r1⟩, bs, hb, hk⟩ := rpKA ok ki ds vs us hr hu ho (Nat.le_trans (Nat.le_add_right _ 3) hz)
    have rd : Reads h (.ref a) (.tuple (shA ds)) as := .tuple h1 h2 h3 (by simpa using r1)
    exact ⟨⟨as, rd⟩, a :: bs, ReadAtMost.cons rd (Nat.le_succ _) hb, ReprK.tuple h1 h2 h3 (not_mem_of_deeper rd (Nat.lt_succ_self _) hb) (by simpa using hk)⟩
  | .lst ds, v, u, ⟨a, vs, hv, ha, hr⟩, q, ho, hz => by
    subst hv
    cases (show u = Value.ref a from q)
    obtain ⟨us, n, hu, h1⟩ := lst_at ok ha
    obtain ⟨⟨as, r1⟩, bs, hb, hk⟩ := rpKA ok ki ds vs us hr hu ho (Nat.le_trans (Nat.le_add_right _ 3) hz)
    have rd : Reads h (.ref a) (.list (shA ds)) (a :: as) := .list h1 rfl rfl (by simpa using r1)
    refine ⟨⟨_, rd⟩, a :: bs, ReadAtMost.cons rd (Nat.le_succ _) hb, ?_⟩
    cases us with
    | nil =>
      cases hu
      have : ds = [] := List.eq_nil_of_length_eq_zero (by have := hr.length; simpa using this)
      subst this
      exact ReprK.listEmpty h1 rfl rfl
    | cons x l => exact ReprK.list h1 rfl rfl (not_mem_of_deeper rd (Nat.lt_succ_self _) hb) (by simpa using hk.length_eq) fun i y e => hk.item i y (by simpa using e)
  | .dct ks ds, v, u, ⟨a, vs, hv, ha, hl, hr⟩, q, ho, hz => by
    subst hv
    cases (show u = Value.ref a from q)
    have ho : (ks.all kOk && shOA ds) = true := ho
    rw [Bool.and_eq_true] at ho
    have hz : (ks.map fun k => kWt k + 2).sum + wtA ds + 3 ≤ sizeLine := hz
    obtain ⟨hs, o, es, ep, h1, h2, h3, hu, hk⟩ := dct_at ok ha hl
    obtain ⟨⟨as, r1⟩, bs, hb, k2⟩ := rpKA ok ki ds vs _ hr hu ho.2 (by omega)
    obtain ⟨⟨as', r2⟩, k1⟩ := keys_at (P := P) (w := w) (h := h) (PyData.depthAll (shA ds)) bs hk ho.1 fun k hk => by have := kWt_mem hk; omega
    have lz : (ks.map keyP).length = (shA ds).length := by rw [List.length_map, shA_len, hr.length, hl]
    obtain ⟨z1, z2⟩ := fst_zip lz
    have rd : Reads h (.ref a) (.dict ((ks.map keyP).zip (shA ds))) (a :: as' ++ as) := .dict h1 h2 h3 (by rw [z1]; exact r2) (by rw [z2]; exact r1)
    have dle : PyData.depthAll (shA ds) ≤ PyData.depthKv ((ks.map keyP).zip (shA ds)) := by
      have := PyData.depthAll_vals_le ((ks.map keyP).zip (shA ds))
      rw [z2] at this
      exact this
    have hb' := hb.mono dle
    refine ⟨⟨_, rd⟩, a :: bs, ReadAtMost.cons rd (Nat.le_succ _) hb', ?_⟩
    have e := ReprEntriesK.of_two es.toList _ _ (k1.more_le (fun b hb => hb) dle) (k2.more_le (fun b hb => hb) dle)
    have := ReprK.dict h1 h2 h3 hs (not_mem_of_deeper rd (Nat.lt_succ_self _) hb') e
    show ReprK P w (a :: bs) h _ _ (dictText (PyData.shownKv ((ks.map keyP).zip (shA ds))))
    rw [PyData.shownKv_eq, z1, z2]
    exact this
  | .obj _ _ _, _, _, _, _, ho, _ => by cases ho
  | .exn _ _ _, _, _, _, _, ho, _ => by cases ho
  | .any _, _, _, _, _, ho, _ => by cases ho
theorem rpKA (ok : HOk P w H h) (ki : K.In h) : ∀ (ds : List D) (vs : List V) (us : List Value), RpA K H ds vs → Vals vs us → shOA ds = true → wtA ds ≤ sizeLine → (∃ as, ReadsAll h us (shA ds) as) ∧ ∃ bs, ReadAtMost h (PyData.depthAll (shA ds)) bs ∧ ReprAllK P w bs h (PyData.depthAll (shA ds)) us (PyData.shownAll (shA ds))
  | [], vs, us, r, q, _, _ => by cases r; cases q; exact ⟨⟨_, .nil⟩, [], (fun _ z => nomatch z), .nil⟩
  | d :: ds, vs, us, ⟨v, vr, hv, r1, r2⟩, q, ho, hz => by
    subst hv
    cases q with
    | cons q1 q2 =>
      have ho : (d.shO && shOA ds) = true := ho
      rw [Bool.and_eq_true] at ho
      have hz : d.wt + 2 + wtA ds ≤ sizeLine := hz
      obtain ⟨⟨as1, a1⟩, b1, hb1, k1⟩ := rpK ok ki d v _ r1 q1 ho.1 (by omega)
      obtain ⟨⟨as2, a2⟩, b2, hb2, k2⟩ := rpKA ok ki ds vr _ r2 q2 ho.2 (by omega)
      refine ⟨⟨_, .cons a1 a2⟩, b1 ++ b2, (hb1.mono (Nat.le_max_left _ _)).append (hb2.mono (Nat.le_max_right _ _)), ?_⟩
      exact .cons ((k1.more fun b hb => List.mem_append_left _ hb).level_le (Nat.le_max_left _ _)) (k2.more_le (fun b hb => List.mem_append_right _ hb) (Nat.le_max_right _ _))
end
/-- repr of what may be shown -/
theorem repr_top {A : Around} {E : Value → Shared → Prop} {s : Shared} {Q : Value → Shared → Prop} (ok : HOk P w H s.heap) (ki : K.In s.heap) (gd : A.guards = some []) (d : D) (v : V) (u : Value) (r : Rp K H d v) (q : RelV v u) (ho : d.shO = true) (hz : d.wt ≤ sizeLine) (hu : A.units + d.dp + 1 < cLine)
    (hQ : ∀ h' t tk, (∀ b o, s.heap.get? b = some o → h'.get? b = some o) → Q (.str d.sh.shown t) { s with heap := h', toks := tk }) : wpAny (model P w) A (call (.builtin "repr") [u]) Q E s := by
  have hlen := Nat.le_trans (D.sh_len d ho) hz
  have hdp := D.sh_depth d
  cases d with
  | none => cases r; cases q; exact PySem.P.repr_of_none (hQ s.heap _ _ fun _ _ e => e)
  | bool b => cases r; cases q; exact PySem.P.repr_of_bool (hQ s.heap _ _ fun _ _ e => e)
  | int i => cases r; obtain ⟨t, rfl⟩ := q; exact PySem.P.repr_of_int (of_decide_eq_true ho) (hQ s.heap _ _ fun _ _ e => e)
  | str x => cases r; obtain ⟨t, rfl⟩ := q; exact PySem.P.repr_of_str (hQ s.heap _ _ fun _ _ e => e) hlen
  | tup ds =>
    obtain ⟨a, vs, rfl, ha, hr⟩ := r
    cases (show u = Value.ref a from q)
    obtain ⟨us, hus, o, h1, h2, n, h3⟩ := tup_at ok ki ha
    obtain ⟨⟨as, r1⟩, bs, hb, hk⟩ := rpKA ok ki ds vs us hr hus ho (Nat.le_trans (Nat.le_add_right _ 3) hz)
    have rd : Reads s.heap (.ref a) (.tuple (shA ds)) as := .tuple h1 h2 h3 (by simpa using r1)
    exact call_repr_slot (by omega) ⟨o, h1, h2⟩ F.slot_tuple_repr (call_tuple_reprK h1 h2 h3 (not_mem_of_deeper rd (Nat.lt_succ_self _) hb) (by simpa using hk) gd (fun b _ => Clear.nil b)
      (by show A.units + 1 + (PyData.depthAll (shA ds) + 1) < cLine; have : PyData.depthAll (shA ds) + 1 ≤ (D.tup ds).dp := hdp; omega) (fun _ _ e => e) (fun h' t tk hk => ⟨_, _, rfl, hQ h' t tk hk⟩) hlen)
  | lst ds =>
    obtain ⟨a, vs, rfl, ha, hr⟩ := r
    cases (show u = Value.ref a from q)
    obtain ⟨us, n, hus, h1⟩ := lst_at ok ha
    obtain ⟨⟨as, r1⟩, bs, hb, hk⟩ := rpKA ok ki ds vs us hr hus ho (Nat.le_trans (Nat.le_add_right _ 3) hz)
    have rd : Reads s.heap (.ref a) (.list (shA ds)) (a :: as) := .list h1 rfl rfl (by simpa using r1)
    refine call_repr_slot (by omega) ⟨_, h1, rfl⟩ F.slot_list_repr.toG ?_
    cases us with
    | nil =>
      cases hus
      have : ds = [] := List.eq_nil_of_length_eq_zero (by have := hr.length; simpa using this)
      subst this
      exact call_list_repr_empty ⟨_, h1, rfl⟩ h1 rfl ⟨_, _, rfl, hQ s.heap _ _ fun _ _ e => e⟩
    | cons x l => exact call_list_reprK h1 rfl rfl (not_mem_of_deeper rd (Nat.lt_succ_self _) hb) (by simpa using hk.length_eq) (fun i y e => hk.item i y (by simpa using e)) gd (fun b _ => Clear.nil b) (by show A.units + 1 + (PyData.depthAll (shA ds) + 1) < cLine; have : PyData.depthAll (shA ds) + 1 ≤ (D.lst ds).dp := hdp; omega) (fun _ _ e => e) (fun h' t tk hk => ⟨_, _, rfl, hQ h' t tk hk⟩) hlen
  | dct ks ds =>
    obtain ⟨a, vs, rfl, ha, hl, hr⟩ := r
    cases (show u = Value.ref a from q)
    have ho : (ks.all kOk && shOA ds) = true := ho
    rw [Bool.and_eq_true] at ho
    have hz : (ks.map fun k => kWt k + 2).sum + wtA ds + 3 ≤ sizeLine := hz
    obtain ⟨hs, o, es, ep, h1, h2, h3, hus, hk⟩ := dct_at ok ha hl
    obtain ⟨⟨as, r1⟩, bs, hb, k2⟩ := rpKA ok ki ds vs _ hr hus ho.2 (by omega)
    obtain ⟨⟨as', r2⟩, k1⟩ := keys_at (P := P) (w := w) (h := s.heap) (PyData.depthAll (shA ds)) bs hk ho.1 fun k hk => by have := kWt_mem hk; omega
    have lz : (ks.map keyP).length = (shA ds).length := by rw [List.length_map, shA_len, hr.length, hl]
    obtain ⟨z1, z2⟩ := fst_zip lz
    have rd : Reads s.heap (.ref a) (.dict ((ks.map keyP).zip (shA ds))) (a :: as' ++ as) := .dict h1 h2 h3 (by rw [z1]; exact r2) (by rw [z2]; exact r1)
    have dle : PyData.depthAll (shA ds) ≤ PyData.depthKv ((ks.map keyP).zip (shA ds)) := by
      have := PyData.depthAll_vals_le ((ks.map keyP).zip (shA ds))
      rw [z2] at this
      exact this
    have hb' := hb.mono dle
    have e := ReprEntriesK.of_two es.toList _ _ (k1.more_le (fun b hb => hb) dle) (k2.more_le (fun b hb => hb) dle)
    have et : (D.dct ks ds).sh.shown = dictText (List.zipWith (fun k v : Str => k ++ ": " ++ v) (PyData.shownAll (ks.map keyP)) (PyData.shownAll (shA ds))) := by
      show dictText (PyData.shownKv ((ks.map keyP).zip (shA ds))) = _
      rw [PyData.shownKv_eq, z1, z2]
    rw [et] at hlen hQ
    exact call_repr_slot (by omega) ⟨o, h1, h2⟩ F.slot_dict_repr (call_dict_reprK h1 h2 h3 hs (not_mem_of_deeper rd (Nat.lt_succ_self _) hb') e gd (fun b _ => Clear.nil b)
      (by show A.units + 1 + (PyData.depthKv ((ks.map keyP).zip (shA ds)) + 1) < cLine; have : PyData.depthKv ((ks.map keyP).zip (shA ds)) + 1 ≤ (D.dct ks ds).dp := hdp; omega) (fun _ _ e => e) (fun h' t tk hk => ⟨_, _, rfl, hQ h' t tk hk⟩) hlen)
  | obj _ _ _ => cases ho
  | exn _ _ _ => cases ho
  | any _ => cases ho
end
@[irreducible] def reprT (d : D) : Str := d.sh.shown
def oRepr : OA := fun ds Q => match ds with
  | [x] => x.shO = true ∧ x.wt ≤ 16777216 ∧ x.dp ≤ 30 ∧ Q (.str (reprT x))
  | _ => False
section
variable {X : Cx}
def rRepr (K : PySem.W.Frag) : List V → Hp → VK → Prop := fun vs H Q => ∃ v d, vs = [v] ∧ Rp K H d v ∧ d.shO = true ∧ d.wt ≤ 16777216 ∧ d.dp ≤ 30 ∧ Q (.str (reprT d)) H
theorem call_repr (gd : X.A.guards = some []) (hu : X.A.units + 64 < cLine) : CallR X (.builtin "repr") (rRepr X.K) := fun pins s st H xs us Q I r h => by
  obtain ⟨v, d, rfl, hr, ho, hz, hd, q⟩ := h
  cases r with
  | cons r1 r2 =>
    cases r2
    refine repr_top I.hok I.kIn gd d v _ hr r1 ho (by rw [sizeLine_eq]; exact hz) (by omega) fun h' t tk hk => ⟨.str (reprT d), H, I.kept hk, ⟨t, ?_⟩, q⟩
    unfold reprT
    rfl
theorem sc_repr {K : PySem.W.Frag} : SndC K (rRepr K) oRepr := fun H Hs ds vs Q Q' s rx hq hd => by
  unfold oRepr at hd
  split at hd
  · obtain ⟨h1, h2, h3, h4⟩ := hd
    obtain ⟨v, rfl, rv⟩ := rpA1 rx
    exact ⟨v, _, rfl, rv.mono s, h1, h2, h3, hq (.str (reprT _)) _ H Hs (Stp.refl s) rfl h4⟩
  · exact hd.elim
theorem de_repr {p pos : Pos} {e : Expr} {d : DTA} (gd : X.A.guards = some []) (hu : X.A.units + 64 < cLine) (hm : X.mg "repr" = none) (ha : DA X [e] d) (hg : Gl X "repr" := by rfl) (hs : starEach [e] X.env = (false, eval e X.env) :: starEach [] X.env := by rfl)
    (hpl : (backTo pos (starEach [] X.env)).any (·.1) = false := by rfl) : DE X (.Call (.Name "repr" p) [e] [] pos) (dCB oRepr d) :=
  de_callB (call_repr gd hu) sc_repr hg hm (by decide +kernel) ha (by decide) (by decide) hs hpl
end
end DL
namespace DL
open PySem PySem.Spec PyProof.Rows L2
/-! draws of other names -/
def CalDn (x : Str) (P : Program) (w : World) (K : PySem.W.Frag) (mg : Str → Option Value) (base : Heap) : Prop :=
  ∃ f fd, FnOk P w K mg base CX0 1 f fd ["_law_script"] (spDeck K) ∧ PySem.W.keepIn K (.ref f) = true ∧ Binds K fd ["_law_script"] [] ∧ mg x = some (.ref f)
end DL
namespace DL
open PySem PySem.Spec PyProof.Rows L2
/-! dicts of the text, with text keys -/
inductive Ents (K : PySem.W.Frag) : List DictEntry → List (Str × D) → Prop
  | nil : Ents K [] []
  | cons {e : DictEntry} {x : Str} {t : Tok} {d : D} {es : List DictEntry} {tb : List (Str × D)} : e.key = .str x t → (∃ v, RelV v e.val ∧ ∀ H, Rp K H d v) → Ents K es tb → Ents K (e :: es) ((x, d) :: tb)
def GD (K : PySem.W.Frag) (w : World) (mg : Str → Option Value) (x : Str) (tb : List (Str × D)) : Prop := ∃ (a : Addr) (es : Array DictEntry) (n : Nat), mg x = some (.ref a) ∧ KDict K w a es n ∧ Ents K es.toList tb
section
variable {X : Cx} {K : PySem.W.Frag}
theorem ents_ref : ∀ {es : List DictEntry} {tb : List (Str × D)}, Ents K es tb → es.any (·.refKey) = false
  | _, _, .nil => rfl
  | _, _, .cons h1 _ h3 => by
    rw [List.any_cons, ents_ref h3, Bool.or_false]
    unfold DictEntry.refKey
    rw [h1]
theorem ents_find {z : Str} : ∀ {es : List DictEntry} {tb : List (Str × D)}, Ents K es tb → (∀ d, tb.lookup z = some d → ∃ e v, es.find? (·.key.isStr z) = some e ∧ RelV v e.val ∧ ∀ H, Rp K H d v) ∧ (tb.lookup z = none → es.find? (·.key.isStr z) = none)
  | _, _, .nil => And.intro (fun d h => absurd h (by simp)) (fun _ => rfl)
  | _, _, .cons (e := e) (x := x) (t := t) (d := d) (es := es) (tb := tb) h1 ⟨v, h2, h3⟩ h4 => by
    obtain ⟨i1, i2⟩ := ents_find (z := z) h4
    have ek : e.key.isStr z = decide (x = z) := by
      rw [h1]
      exact Bool.beq_eq_decide_eq _ _
    rw [List.lookup_cons, List.find?_cons, ek]
    by_cases e0 : x = z
    · subst e0
      rw [decide_eq_true rfl, show (x == x) = true from beq_self_eq_true _]
      exact ⟨fun d' h => by cases h; exact ⟨e, v, rfl, h2, h3⟩, fun h => by cases h⟩
    · rw [decide_eq_false e0, show (z == x) = false from beq_eq_false_iff_ne.mpr fun q => e0 q.symm]
      exact ⟨i1, i2⟩
theorem gd_ns {w : World} {a : Addr} {es : Array DictEntry} {n : Nat} {tb : List (Str × D)} (k : KDict K w a es n) (h : Ents K es.toList tb) (z : Str) : (∀ d, tb.lookup z = some d → ∃ u v, PySem.W.nsIn K a z = some (some u) ∧ RelV v u ∧ ∀ H, Rp K H d v) ∧ (tb.lookup z = none → PySem.W.nsIn K a z = some none) := by
  obtain ⟨i1, i2⟩ := ents_find (z := z) h
  unfold PySem.W.nsIn
  rw [k.at_]
  dsimp only
  constructor
  · intro d hd
    obtain ⟨e, v, h1, h2, h3⟩ := i1 d hd
    rw [h1]
    exact ⟨_, v, rfl, h2, h3⟩
  · intro hn
    rw [i2 hn, ents_ref h]
    rfl
def dGd (tb : List (Str × D)) (dl : DT) : DT := fun g r f Q => dl g r f fun x f1 => match x with
  | .str z => ∃ d, tb.lookup z = some d ∧ Q d f1
  | _ => False
theorem de_gd {x : Str} {tb : List (Str × D)} {e : Expr} {d : DT} {p pos : Pos} (G : GD X.K X.w X.mg x tb) (he : DE X e d) (hg : Gl X x := by rfl) (hd : (x == ("__debug__" : Str)) = false := by decide) (hs : PlainIx e := by exact fun _ _ => rfl) : DE X (.Subscript (.Name x p) e pos) (dGd tb d) := by
  obtain ⟨a, es, n, hm, k, h⟩ := G
  refine .mk' (pe_ix ix_kdict (pe_glob (v := .ref a) hg hm rfl hd) he.pe hs) fun g ro f st H Hs Q Q' A hq hd => ?_
  refine he.sn g ro f st H Hs _ _ A (fun y f1 v H1 Hs1 s1 k1 r1 q1 => ?_) hd
  cases y <;> try exact q1.elim
  rename_i z
  obtain ⟨d', hd', q1⟩ := q1
  cases r1
  obtain ⟨u, v', h1, h2, h3⟩ := (gd_ns k h z).1 d' hd'
  exact ⟨a, z, v', rfl, rfl, ⟨es, n, u, k.at_, k.lit, h1, h2⟩, hq d' f1 v' H1 Hs1 s1 k1 (h3 Hs1) q1⟩
def dGdIn (neg : Bool) (tb : List (Str × D)) (dl : DT) : DT := fun g r f Q => dl g r f fun x f1 => match x with
  | .str z => Q (.bool (xb neg (tb.lookup z).isSome)) f1
  | _ => False
theorem DE.weak {e : Expr} {d d' : DT} (h : DE X e d) (w : ∀ g r f Q, d' g r f Q → d g r f Q) : DE X e d' := .mk' h.pe fun g ro f st H Hs Q Q' A hq hd => h.sn g ro f st H Hs Q Q' A hq (w g ro f Q' hd)
theorem DP.weak {e : Expr} {d d' : DTT} (h : DP X e d) (w : ∀ g r f Q, d' g r f Q → d g r f Q) : DP X e d' := .mk' h.pt fun g ro f st H Hs Q Q' A hq hd => h.sn g ro f st H Hs Q Q' A hq (w g ro f Q' hd)
theorem snd_gd {neg : Bool} {w : World} {a : Addr} {es : Array DictEntry} {n : Nat} {tb : List (Str × D)} {te : TE} {d : DT} (k : KDict K w a es n) (h : Ents K es.toList tb) (he : Snd K te d) :
    Snd K (tOp (fun x y H Q => ∃ (z : Str) (r : Option Value), x = .str z ∧ y = .ref a ∧ PySem.W.nsIn K a z = some r ∧ Q (.bl (xb neg r.isSome)) H) te (tC (.ref a))) (dGdIn neg tb d) := fun g ro f st H Hs Q Q' A hq hd =>
  he g ro f st H Hs _ _ A (fun y f1 v H1 Hs1 s1 k1 r1 q1 => by
    cases y <;> try exact q1.elim
    rename_i z
    have q1 : Q' (.bool (xb neg (tb.lookup z).isSome)) f1 := q1
    cases r1
    obtain ⟨i1, i2⟩ := gd_ns k h z
    cases e : tb.lookup z with
    | none =>
      rw [e] at q1
      exact ⟨z, none, rfl, rfl, i2 e, hq (.bool _) f1 _ H1 Hs1 s1 k1 rfl q1⟩
    | some d =>
      rw [e] at q1
      obtain ⟨u, v, h1, _⟩ := i1 d e
      exact ⟨z, some u, rfl, rfl, h1, hq (.bool _) f1 _ H1 Hs1 s1 k1 rfl q1⟩) hd
theorem dp_gdNotIn {x : Str} {tb : List (Str × D)} {e : Expr} {d : DT} {p pos : Pos} (G : GD X.K X.w X.mg x tb) (he : DE X e d) (hg : Gl X x := by rfl) (hd : (x == ("__debug__" : Str)) = false := by decide) (hmk : behindInMarks .NotIn (.Name x p) = false := by rfl) : DP X (.Compare e [.NotIn] [.Name x p] pos) (dTest (dGdIn true tb d)) := by
  obtain ⟨a, es, n, hm, k, h⟩ := G
  exact .mk' (pt_cmpR (op_notIn_kd k) he.pe (pe_glob (v := .ref a) hg hm rfl hd) hmk) (snd_test (snd_gd (neg := true) k h he.sn))
/-! the tables, from what stands in the text -/
theorem rp_kstrs {a : Addr} {o : Obj} {its : Array Value} {n : Nat} {l : List Str} (h1 : K.lookup a = some o) (h2 : o.cls = .type "tuple") (h3 : o.data = .seq its n) (h4 : its.size ≤ sizeLine) (h5 : Vals (l.map V.str) its.toList) : ∃ v, RelV v (.ref a) ∧ ∀ H, Rp K H (.tup (l.map D.str)) v :=
  ⟨.ref a, rfl, fun H => ⟨a, l.map V.str, rfl, .inr ⟨o, its, n, h1, h2, h3, h4, h5⟩, RpA.map (f := D.str) (g := V.str) (fun _ => rfl) l⟩⟩
theorem rp_kint {i : Int} {t : Tok} : ∃ v, RelV v (.int i t) ∧ ∀ H, Rp K H (.int i) v := ⟨.int i, ⟨t, rfl⟩, fun _ => rfl⟩
end
end DL
namespace DL
open PySem PySem.Spec PyProof.Rows L2
/-! any plain value in a tuple of texts -/
section
variable {X : Cx} {K : PySem.W.Frag}
def itE (d : D) : Value → Bool
  | .str a _ => strEq a d
  | _ => false
theorem any_itE {d : D} : ∀ {l : List Str} {its : List Value}, Vals (l.map V.str) its → its.any (itE d) = l.any fun a => strEq a d
  | [], _, .nil => rfl
  | a :: l, _, .cons h r => by
    obtain ⟨t, rfl⟩ := h
    rw [List.any_cons, List.any_cons, any_itE r]
    rfl
theorem mem_itE : ∀ {l : List Str} {its : List Value} {y : Value}, Vals (l.map V.str) its → y ∈ its → ∃ a t, y = .str a t
  | [], _, _, .nil, h => by cases h
  | a :: l, _, y, .cons h r, hy => by
    obtain ⟨t, rfl⟩ := h
    rcases List.mem_cons.mp hy with e | e
    · exact ⟨a, t, e⟩
    · exact mem_itE r e
def rInS (K : PySem.W.Frag) (neg : Bool) : R2 := fun x y H Q => ∃ (q : Addr) (l : List Str) (Hs : Hp) (d : D), y = .ref q ∧ SqT K H q (l.map V.str) ∧ Same Hs H ∧ Rp K Hs d x ∧ d.tyd = true ∧ Q (.bl (xb neg (l.any fun a => strEq a d))) H
theorem op_inS (hu : X.A.units + 64 < cLine) : OpR X (compareOp .In) (rInS X.K false) := by
  intro pins s st H x y v u Q I rx ry h
  obtain ⟨q, l, Hs, d, rfl, hq, sm, hr, ht, hQ⟩ := h
  cases (show u = Value.ref q from ry)
  obtain ⟨its, r, pl, _⟩ := I.tuple hq
  refine PySem.SeqAt.in_tupleAt (itE d) pl (fun y hy => ?_) ?_
  · obtain ⟨a, t, rfl⟩ := mem_itE r (by simpa using hy)
    exact str_eqAt I sm hr rx ht X.A.in1 (by show X.A.units + 1 + 1 < cLine; omega)
  · rw [show its.toArray.any (itE d) = l.any fun a => strEq a d from by rw [← any_itE r]; simp]
    exact ⟨.bl _, H, I, rfl, hQ⟩
def oInS (neg : Bool) : O2 := fun x y Q => ∃ l : List Str, y = .tup (l.map D.str) ∧ x.tyd = true ∧ Q (.bool (xb neg (l.any fun a => strEq a x)))
theorem sr_inS {neg : Bool} : SndR K (rInS K neg) (oInS neg) := SndR.pure fun H Hs x y vx vy Q Q' s rx ry hq hd => by
  obtain ⟨l, rfl, ht, q⟩ := hd
  obtain ⟨a, vs, rfl, h1, h2⟩ := ry
  have e := h2.strs
  subst e
  exact ⟨a, l, Hs, x, rfl, tp_sq s h1, s, rx, ht, hq (.bool _) _ rfl q⟩
theorem de_inS {a b : Expr} {pos : Pos} {da db : DT} (hu : X.A.units + 64 < cLine) (ha : DE X a da) (hb : DE X b db) (hm : behindInMarks .In b = false := by rfl) : DE X (.Compare a [.In] [b] pos) (dOp (oInS false) da db) := de_cmp (op_inS hu) sr_inS ha hb hm
end
end DL
namespace DL
open PySem PySem.Spec PyProof.Rows L2
/-! s.count(t), s.strip(t) -/
section
variable {X : Cx} {K : PySem.W.Frag}
def oCount : OM := fun x ds Q => match x, ds with
  | .str a, [.str b] => Q (.int (Txt.count a b))
  | _, _ => False
theorem sm_count : SndM K (fun x xs H Q => ∃ a b, x = .str a ∧ xs = [.str b] ∧ Q (.int (Txt.count a b)) H) oCount := fun H Hs x vx ds vs Q Q' s rx rs hq hd => by
  unfold oCount at hd
  split at hd
  · obtain ⟨v, rfl, h⟩ := rpA1 rs
    cases h
    exact ⟨_, _, rx, rfl, hq (.int _) _ _ _ (Stp.refl s) rfl hd⟩
  · exact hd.elim
theorem de_count {o e : Expr} {apos pos : Pos} {d d2 : DT} (ho : DE X o d) (he : DE X e d2) (hs : starEach [e] X.env = [(false, eval e X.env)] := by rfl) (hbase : attributeBase o "count" X.env (eval o X.env) = eval o X.env := by rfl) (hline : (apos.endLine == pos.line) = true := by rfl) :
    DE X (.Call (.Attribute o "count" apos) [e] [] pos) (dM1 oCount d d2) := .mk' (pe_m1 F.slot_str_count F.type_str_count mt_count ho.pe he.pe hs hbase hline) (snd_m1 sm_count ho.sn he.sn)
end
theorem parts_len (x : Str) (n : Nat) : ∀ (cuts : List Nat) (a : Nat), (PySem.StrLaws.partsFrom x n a cuts).length = cuts.length + 1
  | [], _ => rfl
  | c :: r, a => by show (PySem.StrLaws.partsFrom x n (c + n) r).length + 1 = _; rw [parts_len x n r]; rfl
theorem count_split (s : Str) : Txt.count s "." + 1 = ((Txt.split s ".").length : Int) := by
  have hy : TL.tl (Str.ofString ".") ≠ [] := by decide
  obtain ⟨f, g, hn⟩ := PySem.StrLaws.occ_tight s (Str.ofString ".") (TL.len1 hy)
  have key := TL.parts_spl hy _ 0 f (Nat.zero_le _) g hn
  rw [List.drop_zero, ← TL.split_spl s (Str.ofString ".") hy (TL.kind_ok (by decide +kernel))] at key
  have := congrArg List.length key
  rw [List.length_map, List.length_map, parts_len] at this
  unfold Txt.count
  omega
theorem mem_tw {p : Nat → Bool} {c : Nat} : ∀ {l : List Nat}, c ∈ l.takeWhile p → p c = true
  | [], h => by simp at h
  | x :: l, h => by
    rw [List.takeWhile_cons] at h
    cases hp : p x with
    | true =>
      rw [hp] at h
      rcases List.mem_cons.mp h with e | e
      · rw [e]; exact hp
      · exact mem_tw e
    | false => rw [hp] at h; simp at h
theorem tw_le {p : Nat → Bool} (l : List Nat) : (l.takeWhile p).length ≤ l.length := (List.takeWhile_prefix p).length_le
end DL
namespace DL
open PySem PySem.Spec PyProof.Rows L2
/-! `xs == []` and `xs != []` for a list of any items -/
section
variable {X : Cx} {K : PySem.W.Frag}
def rEqE (K : PySem.W.Frag) (neg : Bool) : R2 := fun x y H Q => ∃ (p q : Addr) (vs : List V), x = .ref p ∧ y = .ref q ∧ SqL K H p vs ∧ SqL K H q [] ∧ Q (.bl (xb neg vs.isEmpty)) H
theorem op_neE (hu : X.A.units + 64 < cLine) : OpR X (compareOp .NotEq) (rEqE X.K true) := by
  intro pins s st H x y v u Q I rx ry h
  obtain ⟨p, q, vs, rfl, rfl, hp, hq, hQ⟩ := h
  cases (show v = Value.ref p from rx)
  cases (show u = Value.ref q from ry)
  obtain ⟨its, r, pl, _⟩ := I.list hp
  obtain ⟨jts, r2, pl2, _⟩ := I.list hq
  cases r2
  have f : ∀ b : Bool, b = !vs.isEmpty → EP X pins st Q (.bool b) s := fun b e => ⟨.bl (!vs.isEmpty), H, I, (show Value.bool b = Value.bool (!vs.isEmpty) by rw [e]), hQ⟩
  cases r with
  | nil => exact SeqAt.RcNeAt.lists (e := fun _ => true) pl.isList pl2.isList rfl (by omega) (fun j h1 _ => absurd h1 (Nat.not_lt_zero _)) _ _ _ _ (f false rfl)
  | cons _ _ => exact SeqAt.RcNeAt.lists_lengths pl.isList pl2.isList (by simp) (by omega) _ _ _ _ (f true rfl)
def oEqE (neg : Bool) : O2 := fun x y Q => ∃ xs, x = .lst xs ∧ y = .lst [] ∧ Q (.bool (xb neg xs.isEmpty))
theorem sr_eqE {neg : Bool} : SndR K (rEqE K neg) (oEqE neg) := SndR.pure fun H Hs x y vx vy Q Q' s rx ry hq hd => by
  obtain ⟨xs, rfl, rfl, q⟩ := hd
  obtain ⟨p, vs, rfl, h1, h2⟩ := rx
  obtain ⟨q', ws, rfl, h3, h4⟩ := ry
  cases h4
  refine ⟨p, q', vs, rfl, rfl, SqL.of (s _ _ h1), SqL.of (s _ _ h3), ?_⟩
  have e : vs.isEmpty = xs.isEmpty := by
    have := h2.length
    cases vs <;> cases xs <;> simp_all
  rw [e]
  exact hq (.bool _) _ rfl q
theorem dp_neE {a b : Expr} {pos : Pos} {da db : DT} (hu : X.A.units + 64 < cLine) (ha : DE X a da) (hb : DE X b db) : DP X (.Compare a [.NotEq] [b] pos) (dTest (dOp (oEqE true) da db)) := dp_cmp (op_neE hu) sr_eqE ha hb (nomark _)
end
end DL
namespace DL
open PySem PySem.Spec PyProof.Rows L2
section
variable {X : Cx} {K : PySem.W.Frag} {W : WX}
/-! a def that calls itself, before its first step -/
/-! str(number) -/
/-! a, b = e1, e2, new lists among them -/
theorem notO_new {g : Option Dk} {H0 Hs0 H Hs : Hp} {r : Sg} {f : Nat} {st : L2.St} (s : SIn K g H0 Hs0 r f st H Hs) {p : Addr} (hp : H p = none) (j : Nat) (sl : Sl) (h1 : r[j]? = some sl) (h2 : sl.own = true) : st[j]? ≠ some (some (.ref p)) := fun h3 => by
  obtain ⟨a, e, _, _, q⟩ := s.ow j sl h1 h2
  rw [h3] at e
  cases e
  obtain ⟨o, ho, _⟩ := q.ld
  rw [hp] at ho; cases ho
def sParSL (i j : Nat) (a : DT) (b : DTA) : DTS := fun g r f E => a g (hide r) f fun x f1 => b g (hide r) f1 fun ys f2 => E.nx ((r.set i (.sh x)).set j (.ow ys)) f2
def sParLS (i j : Nat) (a : DTA) (b : DT) : DTS := fun g r f E => a g (hide r) f fun xs f1 => b g (hide r) f1 fun y f2 => E.nx ((r.set i (.ow xs)).set j (.sh y)) f2
theorem ds_parSL {i j : Nat} {x y : Str} {a b : Expr} {da : DT} {db : DTA} {px py pt : Pos} {kt k2 : Nat} {pt2 pos : Pos} (hN : X.N.Nodup) (ha : DE X a da) (hb : DL' X b db) (hc : X.calm = true := by rfl) (hi : X.N[i]? = some x := by rfl) (hj : X.N[j]? = some y := by rfl) (hij : i ≠ j := by decide)
    (hx : X.env.scope.names.lookup x = some .local := by rfl) (hy : X.env.scope.names.lookup y = some .local := by rfl) (hst : starEach [a, b] X.env = (false, eval a X.env) :: starEach [b] X.env := by rfl) (hst2 : starEach [b] X.env = [(false, eval b X.env)] := by rfl)
    (hw : swappedStores [.Tuple [.Name x px, .Name y py] kt pt] (.Tuple [a, b] k2 pt2) X.env = pure (some [x, y]) := by rfl)
    (hs : swapsWithSole [.Tuple [.Name x px, .Name y py] kt pt] (.Tuple [a, b] k2 pt2) pos.line X.env = pure false := by rfl) :
    DS X (.Assign [.Tuple [.Name x px, .Name y py] kt pt] (.Tuple [a, b] k2 pt2) pos) (sParSL i j da db) := DS.mk' (ps_par hc hN hi hj hij hx hy (pa_cons ha.pe (pa_cons hb.pe pa_nil hst2) hst) hw hs) (fun g H0 Hs0 r f st H D E s e hd => by
  obtain ⟨Hs, s⟩ := s
  refine ha.sn g _ f st H Hs _ _ s.atHid (fun x f1 v H1 Hs1 t1 k1 r1 q1 => ?_) hd
  have s1 := s.afterHid t1 k1
  refine hb.sn g _ f1 st H1 Hs1 _ _ s1.atHid (fun ys f2 q ws H2 Hs2 t2 k2 hq nq hw hr2 q2 => ?_) q1
  have s2 := s1.afterHid t2 k2
  refine ⟨v, .ref q, rfl, e.nx _ f2 _ H2 ⟨_, (s2.set i (r1.mono t2.ext)).setOwn j (u := .ow ys) rfl (s.stp.none0 (t1.none0 hq)) nq (fun l sl hl h1 h2 h3 => ?_) ⟨ws, hw, hr2⟩⟩ q2⟩
  by_cases hil : i = l
  · subst hil
    by_cases hlt : i < r.length
    · rw [List.getElem?_set_self hlt] at h1
      cases h1
      cases h2
    · rw [List.getElem?_eq_none (by simpa using hlt)] at h1
      cases h1
  · rw [List.getElem?_set_ne hil] at h1 h3
    exact notO_new s (t1.none0 hq) l sl h1 h2 h3)
theorem snd_parLS {i j : Nat} {ta tb : TE} {a : DTA} {b : DT} (hij : i ≠ j) (ha : SndL K ta a) (hb : Snd K tb b) : SndS K W (tPar i j (tCons ta (tCons tb tNil))) (sParLS i j a b) := fun g H0 Hs0 r f st H D E s e hd => by
  obtain ⟨Hs, s⟩ := s
  refine ha g _ f st H Hs _ _ s.atHid (fun xs f1 p vs H1 Hs1 t1 k1 hp np hv hr q1 => ?_) hd
  have s1 := s.afterHid t1 k1
  refine hb g _ f1 st H1 Hs1 _ _ s1.atHid (fun y f2 v H2 Hs2 t2 k2 r2 q2 => ?_) q1
  have s2 := s1.afterHid t2 k2
  have kp : ¬ Dk.has g p := s.dk.out hp
  have ep : H2 p = some (.lst vs) := t2.keep p _ hv kp
  have np2 : Hs2 p = none := t2.new p _ hv np
  exact ⟨.ref p, v, rfl, e.nx _ f2 _ H2 ⟨_, (s2.setOwn i (u := .ow xs) rfl (s.stp.none0 hp) np2 (fun l sl _ h1 h2 => notO_new s hp l sl h1 h2) ⟨vs, ep, hr.mono t2.ext⟩).set j r2⟩ q2⟩
theorem ds_parLS {i j : Nat} {x y : Str} {a b : Expr} {da : DTA} {db : DT} {px py pt : Pos} {kt k2 : Nat} {pt2 pos : Pos} (hN : X.N.Nodup) (ha : DL' X a da) (hb : DE X b db) (hc : X.calm = true := by rfl) (hi : X.N[i]? = some x := by rfl) (hj : X.N[j]? = some y := by rfl) (hij : i ≠ j := by decide)
    (hx : X.env.scope.names.lookup x = some .local := by rfl) (hy : X.env.scope.names.lookup y = some .local := by rfl) (hst : starEach [a, b] X.env = (false, eval a X.env) :: starEach [b] X.env := by rfl) (hst2 : starEach [b] X.env = [(false, eval b X.env)] := by rfl)
    (hw : swappedStores [.Tuple [.Name x px, .Name y py] kt pt] (.Tuple [a, b] k2 pt2) X.env = pure (some [x, y]) := by rfl)
    (hs : swapsWithSole [.Tuple [.Name x px, .Name y py] kt pt] (.Tuple [a, b] k2 pt2) pos.line X.env = pure false := by rfl) :
    DS X (.Assign [.Tuple [.Name x px, .Name y py] kt pt] (.Tuple [a, b] k2 pt2) pos) (sParLS i j da db) := DS.mk' (ps_par hc hN hi hj hij hx hy (pa_cons ha.pe (pa_cons hb.pe pa_nil hst2) hst) hw hs) (snd_parLS hij ha.sn hb.sn)
end
end DL
namespace DL
open PySem PySem.Spec PyProof.Rows L2
/-! defs that give a list that nobody else has -/
abbrev DTL := Option Dk → Sg → Nat → (List D → Nat → Prop) → Prop
def NewL (K : PySem.W.Frag) (g : Option Dk) (H Hs : Hp) (Q : VK) (Q' : List D → Nat → Prop) : Prop := ∀ xs f' p us H' Hs', Stp g H Hs H' Hs' → DkOk g H' Hs' f' → H p = none → Hs' p = none → H' p = some (.lst us) → RpA K Hs' xs us → Q' xs f' → Q (.ref p) H'
section
variable {X : Cx} {K : PySem.W.Frag} {W : WX}
/-! bodies that end in such a list -/
def sOfL (K : PySem.W.Frag) (dl : DTL) : TS := fun D st H => ∃ g H0 Hs0 r f E, SOk K g H0 Hs0 r f st H ∧ NewL K g H0 Hs0 D.rt E ∧ dl g r f E
structure DSsL (X : Cx) (sts : List Stmt) (dl : DTL) : Prop where
  ps : PSs X sts (sOfL X.K dl)
theorem DSsL.mk' {sts : List Stmt} {t : TS} {dl : DTL} (p : PSs X sts t) (s : ∀ D st H g H0 Hs0 r f E, SOk X.K g H0 Hs0 r f st H → NewL X.K g H0 Hs0 D.rt E → dl g r f E → t D st H) : DSsL X sts dl :=
  ⟨⟨fun pins sh st H D I ⟨g, H0, Hs0, r, f, E, h1, h2, h3⟩ => p.run pins sh st H D I (s D st H g H0 Hs0 r f E h1 h2 h3)⟩⟩
/-! the same for a pair, its second part such a list -/
abbrev DTP := Option Dk → Sg → Nat → (D → List D → Nat → Prop) → Prop
def NewP (K : PySem.W.Frag) (g : Option Dk) (H Hs : Hp) (Q : VK) (Q' : D → List D → Nat → Prop) : Prop := ∀ d xs f' t v p us H' Hs', Stp g H Hs H' Hs' → DkOk g H' Hs' f' → H p = none → Hs' p = none → H' p = some (.lst us) → H' t = some (.tup [v, .ref p]) → Rp K Hs' d v → RpA K Hs' xs us → Q' d xs f' → Q (.ref t) H'
def sOfP (K : PySem.W.Frag) (dl : DTP) : TS := fun D st H => ∃ g H0 Hs0 r f E, SOk K g H0 Hs0 r f st H ∧ NewP K g H0 Hs0 D.rt E ∧ dl g r f E
structure DSsP (X : Cx) (sts : List Stmt) (dl : DTP) : Prop where
  ps : PSs X sts (sOfP X.K dl)
theorem DSsP.mk' {sts : List Stmt} {t : TS} {dl : DTP} (p : PSs X sts t) (s : ∀ D st H g H0 Hs0 r f E, SOk X.K g H0 Hs0 r f st H → NewP X.K g H0 Hs0 D.rt E → dl g r f E → t D st H) : DSsP X sts dl :=
  ⟨⟨fun pins sh st H D I ⟨g, H0, Hs0, r, f, E, h1, h2, h3⟩ => p.run pins sh st H D I (s D st H g H0 Hs0 r f E h1 h2 h3)⟩⟩
end
end DL
namespace DL
open PySem PySem.Spec PyProof.Rows L2
/-! C(..), whose __init__ may raise -/
section
variable {X : Cx} {CX : CXT} {k : Nat} {f C : Addr} {fd : FuncData} {ps : List Str} {sp : Sp} {E : L2.St → XK} {x : Str} {p pos : Pos} {e : Expr} {es : List Expr} {t : TA}
theorem run_makeS {pins : List (Addr × Obj)} {σ : L2.St} {H : Hp} {s : Shared} {Q : VK} {us : List Value} {vs : List V} (M : Mk X.K C f) (F : FnOk X.prog X.w X.K X.mg X.base CX k f fd ps sp) (hr : Room (k + 1) X.A) (hb : Binds X.K fd ps [])
    (hx : PassesAt CX X σ (E σ)) (I : Inv X pins σ H s) (r : Vals vs us)
    (h : ∀ x dx, H x = none → H dx = none → dx ≠ x → sp (.ref x :: vs) (upd (upd H dx (.own x)) x (.ins C dx [])) (fun v H2 => v = .non ∧ Q (.ref x) H2) (E σ)) :
    wpAny (model X.prog X.w) X.A (call (.ref C) us) (EP X pins σ Q) X.xe s := by
  have hq := h (s.heap.objs.size + 1) s.heap.objs.size (I.hok.fresh (Nat.le_succ _)) (I.hok.fresh (Nat.le_refl _)) (Nat.ne_of_lt (Nat.lt_succ_self _))
  have I2 := Inv.made (C := C) I
  have r2 : Vals (V.ref (s.heap.objs.size + 1) :: vs) (Value.ref (s.heap.objs.size + 1) :: us) := .cons rfl r
  have hl : (Value.ref (s.heap.objs.size + 1) :: us).length = ps.length := by
    have e := r2.length
    rw [F.len _ _ _ _ hq] at e
    exact e.symm
  have b := hb _ (Value.ref (s.heap.objs.size + 1) :: us) I2.kIn (by rw [List.append_nil]; exact hl)
  rw [List.append_nil] at b
  refine wpAny_call (make_map (f := f) I.kIn M.makes M.init (beq_iff_eq.mp M.fn) (codeAny_mono (F.run _ X.stack _ _ ⟨Value.ref (s.heap.objs.size + 1) :: us, []⟩ (Value.ref (s.heap.objs.size + 1) :: us) _ _ (E σ) (hr.make C us [])
    (I2.env0.make C us []) b r2 hq) fun r s' hq' => ?_))
  cases r with
  | error e => exact hx pins _ _ e s' I2 hq'
  | ok fl =>
    cases fl with
    | ret u =>
      obtain ⟨v, H', I3, rv, ev, q3⟩ := I2.after hq'
      subst ev
      exact ⟨rv, ⟨V.ref (s.heap.objs.size + 1), H', I3, rfl, q3⟩⟩
    | next => exact False.elim hq'
    | brk => exact False.elim hq'
    | cont => exact False.elim hq'
def tMakeS (C : Addr) (sp : Sp) (E : L2.St → XK) (t : TA) : TE := fun σ H Q => t σ H fun vs H1 => ∀ x dx, H1 x = none → H1 dx = none → dx ≠ x →
  sp (.ref x :: vs) (upd (upd H1 dx (.own x)) x (.ins C dx [])) (fun v H2 => v = .non ∧ Q (.ref x) H2) (E σ)
theorem pe_makeS (M : Mk X.K C f) (F : FnOk X.prog X.w X.K X.mg X.base CX k f fd ps sp) (hr : Room (k + 1) X.A) (hg : Gl X x) (hm : X.mg x = some (.ref C)) (hb : Binds X.K fd ps []) (hx : ∀ σ, PassesAt CX X σ (E σ))
    (ha : PA X (e :: es) t) (hdb : (x == ("__debug__" : Str)) = false := by decide) (he : starEach (e :: es) X.env = (false, eval e X.env) :: starEach es X.env := by rfl) (hpl : (backTo pos (starEach es X.env)).any (·.1) = false := by rfl) :
    PE X (.Call (.Name x p) (e :: es) [] pos) (tMakeS C sp E t) := by
  refine ⟨fun pins s σ H Q I h => ?_⟩
  refine wpAny_Call_Name_kw (ld_glob I hg hm ?_ hdb)
  refine PySem.W.callWith_K (h₀ := X.base) I.ok.mod.kin M.kp (thn (ha.run pos pins s σ H _ I h) fun us s1 ⟨vs, H1, I1, r, q⟩ => ⟨I1.kIn, ?_⟩) he hpl
  exact run_makeS M F hr hb (hx σ) I1 r q
end
section
variable {X : Cx} {K : PySem.W.Frag} {W : WX}
def spInitX (K : PySem.W.Frag) (c : Str) (S : DSpX) : Sp := fun vs H Q E => ∃ (C x dx : Addr) (us : List V) (H1 : Hp) (g : Option Dk) (Hs : Hp) (ds : List D) (f : Nat) (Q' : QD) (E' : XD), PySem.W.nsIn K mainGlobals c = some (some (.ref C)) ∧ vs = .ref x :: us ∧
  H = upd (upd H1 dx (.own x)) x (.ins C dx []) ∧ H1 x = none ∧ H1 dx = none ∧ dx ≠ x ∧ Same Hs H1 ∧ DkOk g H1 Hs f ∧ RpA K Hs ds us ∧ S g ds f Q' E' ∧
  (∀ d f' H' Hs', Stp g H1 Hs H' Hs' → DkOk g H' Hs' f' → Rp K Hs' d (.ref x) → Q' d f' → Q .non H') ∧
  ∀ x f' cls d H' Hs', Stp g H1 Hs H' Hs' → DkOk g H' Hs' f' → ExR K H' Hs' x cls d → E' x f' → E cls d H'
structure MkrX (P : Program) (w : World) (K : PySem.W.Frag) (mg : Str → Option Value) (base : Heap) (k : Nat) (c : Str) (ps : List Str) (S : DSpX) : Prop where
  ex : ∃ C f fd, Mk K C f ∧ FnOk P w K mg base (L2.CX P w) k f fd ps (spInitX K c S) ∧ Binds K fd ps [] ∧ PySem.W.nsIn K mainGlobals c = some (some (.ref C)) ∧ mg c = some (.ref C)
theorem snd_makeX {c : Str} {C : Addr} {S : DSpX} {t : TA} {d : DTA} (h0 : PySem.W.nsIn K mainGlobals c = some (some (.ref C))) (ht : SndA K t d) : SndX K W (tMakeS C (spInitX K c S) (WE W) t) (dCallX S d) := fun g ro f st H Hs Q Q' E' A hq he hd =>
  ht g ro f st H Hs _ _ A (fun ds f1 vs H1 Hs1 s1 k1 r1 q1 => fun x dx hx hdx hne =>
    ⟨C, x, dx, vs, H1, g, Hs1, ds, f1, Q', E', h0, rfl, rfl, hx, hdx, hne, s1.sub, k1, r1, q1, fun d f' H' Hs' s2 k2 r2 q2 => ⟨rfl, hq d f' (.ref x) H' Hs' (s1.trans s2) k2 r2 q2⟩,
      fun x f' cls d H' Hs' s2 k2 r2 q2 => he x f' cls d H' Hs' (s1.trans s2) k2 r2 q2⟩) hd
theorem dex_make {c : Str} {ps : List Str} {k : Nat} {S : DSpX} {p pos : Pos} {e : Expr} {es : List Expr} {d : DTA} (m : MkrX X.prog X.w X.K X.mg X.base k c ps S) (hr : Room (k + 1) X.A)
    (ha : DA X (e :: es) d) (hg : Gl X c := by rfl) (hdb : (c == ("__debug__" : Str)) = false := by decide) (hs : starEach (e :: es) X.env = (false, eval e X.env) :: starEach es X.env := by rfl)
    (hpl : (backTo pos (starEach es X.env)).any (·.1) = false := by rfl) : DEX X (.Call (.Name c p) (e :: es) [] pos) (dCallX S d) := by
  obtain ⟨C, f, fd, M, F, hb, h0, hm⟩ := m.ex
  exact .mk' (pe_makeS M F hr hg hm hb (fun st => passAt (takes_wx X) st) ha.pa hdb hs hpl) (snd_makeX h0 ha.sn)
end
section
variable {P : Program} {w : World} {K : PySem.W.Frag} {mg : Str → Option Value} {base : Heap}
theorem dinitX {x qual c : Str} {st : Stmt} {f : Addr} {fd : FuncData} {nm : Str} {N ps : List Str} {k : Nat} {S : DSpX} {dl : DTS} (F : Fun K x qual st f fd) (sc : FnScope (nm :: N) (nm :: ps) (defScope st)) (len : ∀ g ds n Q E, S g ds n Q E → ds.length = ps.length)
    (hb : ∀ (cdv : Value) (A : Around) (outer : List Env) (s : Shared) (H : Hp) (E : XK), Room k (A.deeper (envOfC qual (defScope st) s.heap.objs.size f cdv)) → DSs (cxOf (L2.CX P w) P w K mg base (nm :: N) qual (defScope st) f cdv A outer s H E) (defBody st) dl)
    (h : ∀ a g ds n Q E, S g ds n Q E → dl g (startI N.length a c ds) n { nx := fun r n => ∃ ns xs, r[0]? = some (.oi a c ns xs) ∧ Q (.obj c ns xs) n, rt := fun _ _ => False, xc := fun x _ n => E x n }) : FnOk P w K mg base (L2.CX P w) (k + 1) f fd (nm :: ps) (spInitX K c S) := by
  obtain ⟨oc, od, kV, doc, pm, an, cdv, ct, osl, rfl, lk, hcd⟩ := F.ex
  refine fn_of lk hcd sc (fun vs H Q E h => ?_) fun A outer s H vs Q E hr hsp => ?_
  · obtain ⟨C, x, dx, us, H1, g, Hs, ds, n, Q', E', h0, rfl, _, _, _, _, h1, h2, h3, h4, _⟩ := h
    show us.length + 1 = ps.length + 1
    rw [← h3.length, len g ds n Q' E' h4]
  · obtain ⟨C, x, dx, us, H1, g, Hs, ds, n, Q', E', h0, rfl, rfl, hx, hdx, hne, h1, h2, h3, h4, h5, h6⟩ := hsp
    have D := hb cdv A outer s (upd (upd H1 dx (.own x)) x (.ins C dx [])) E hr
    refine ⟨_, D.ps, ?_⟩
    have l1 : Stp g H1 Hs (upd H1 dx (.own x)) Hs := Stp.lay h1 hdx
    have hx1 : upd H1 dx (.own x) x = none := by rw [upd_ne fun z => hne z.symm]; exact hx
    have l2 : Stp g H1 Hs (upd (upd H1 dx (.own x)) x (.ins C dx [])) Hs := l1.trans (Stp.lay l1.sub hx1)
    have nx' := h2.out hx
    have ndx := h2.out hdx
    have hsx : Hs x = none := same_none h1 hx
    have hsdx : Hs dx = none := same_none h1 hdx
    have S0 : SIn K g H1 Hs (startR N.length ds) n (L2.start N us) H1 Hs := start_in h1 h2 h3
    have no : ∀ (i : Nat) (s : Sl), (startR N.length ds)[i]? = some s → s.own = false := fun i s h => by
      have := List.mem_of_getElem? h
      unfold startR at this
      rcases List.mem_append.mp this with h | h
      · obtain ⟨d, _, rfl⟩ := List.mem_map.mp h
        rfl
      · rw [(List.mem_replicate.mp h).2]
        rfl
    have st0 : L2.start (nm :: N) (.ref x :: us) = some (.ref x) :: L2.start N us := by
      unfold L2.start
      simp
    have SI : SIn K g H1 Hs (startI N.length x c ds) n (L2.start (nm :: N) (.ref x :: us)) (upd (upd H1 dx (.own x)) x (.ins C dx [])) Hs := by
      rw [st0]
      refine ⟨by show (startR N.length ds).length + 1 = (L2.start N us).length + 1; rw [S0.len], ⟨n, h2⟩, (h2.mut ndx).mut nx', l2, fun i d hi => ?_, fun i sl hi ho => ?_, fun i j sl u b hi hj ho ho' h1' h2' => ?_⟩
      · cases i with
        | zero => cases hi
        | succ i => exact S0.sh i d hi
      · cases i with
        | zero =>
          cases hi
          exact ⟨x, rfl, hsx, hx, rfl, C, dx, [], h0, upd_same, by rw [upd_ne hne, upd_same], hsdx, hdx, rfl, rfl⟩
        | succ i => rw [no i sl hi] at ho; cases ho
      · cases i with
        | zero =>
          cases j with
          | zero => rfl
          | succ j => rw [no j u hj] at ho'; cases ho'
        | succ i => rw [no i sl hi] at ho; cases ho
    refine D.sn g H1 Hs _ n _ _ _ { nx := fun r n => ∃ ns xs, r[0]? = some (.oi x c ns xs) ∧ Q' (.obj c ns xs) n, rt := fun _ _ => False, xc := fun x _ n => E' x n } ⟨Hs, SI⟩ ⟨fun r f st H' q h => ?_, fun d f v H' Hs' p k hr h => h.elim, fun _ _ _ _ _ h => h, fun _ _ _ _ _ h => h, fun x r f st H' cls d q h => ?_⟩ (h x g ds n Q' E' h4)
    · obtain ⟨Hs', q⟩ := q
      obtain ⟨ns, xs, e, h⟩ := h
      obtain ⟨Hs2, p, kk, rr⟩ := q.shareO e
      exact h5 _ f H' Hs2 p kk rr h
    · obtain ⟨Hs', q, hx⟩ := q
      exact wx_of (takes_of (E := E) rfl rfl rfl rfl) (h6 x f cls d H' Hs' q.stp q.dk hx h)
end
/-! isinstance of an error of the text, or of None, with a class of the language -/
/-! == where two empty dicts may meet -/
end DL
namespace DL
open PySem PySem.Spec PyProof.Rows L2
/-! a list of lists of texts in the making -/
structure LLs (H0 : Hp) (D : Addr) (ps : List Addr) (rows : List (List Str)) (H2 : Hp) : Prop where
  d0 : H0 D = none
  len : rows.length = ps.length
  dl : H2 D = some (.lst (ps.map V.ref))
  p0 : ∀ p ∈ ps, H0 p = none ∧ p ≠ D
  at_ : ∀ (i : Nat) (r : List Str) (p : Addr), rows[i]? = some r → ps[i]? = some p → H2 p = some (.lst (r.map V.str))
  nd : ps.Nodup
/-- with the shared part beside it -/
structure LLi (g : Option Dk) (H0 Hs0 : Hp) (D : Addr) (ps : List Addr) (rows : List (List Str)) (f : Nat) (H Hs : Hp) : Prop where
  l : LLs H0 D ps rows H
  stp : Stp g H0 Hs0 H Hs
  dk : DkOk g H Hs f
  out : ∀ b, b = D ∨ b ∈ ps → Hs b = none ∧ ¬ Dk.has g b
open Classical in
noncomputable def del (Hs : Hp) (D : Addr) (ps : List Addr) : Hp := fun b => if b = D ∨ b ∈ ps then none else Hs b
section
variable {K : PySem.W.Frag} {g : Option Dk} {H0 Hs0 : Hp} {D : Addr} {ps : List Addr} {rows : List (List Str)} {f f' : Nat} {H Hs H' Hs' : Hp}
theorem shr_in {b : Addr} (h : b = D ∨ b ∈ ps) : shr H Hs D ps b = H b := if_pos h
theorem shr_out {b : Addr} (h : ¬ (b = D ∨ b ∈ ps)) : shr H Hs D ps b = Hs b := if_neg h
theorem del_in {b : Addr} (h : b = D ∨ b ∈ ps) : del Hs D ps b = none := if_pos h
theorem del_out {b : Addr} (h : ¬ (b = D ∨ b ∈ ps)) : del Hs D ps b = Hs b := if_neg h
theorem LLs.n0 (h : LLs H0 D ps rows H) {b : Addr} (hb : b = D ∨ b ∈ ps) : H0 b = none := hb.elim (fun e => e ▸ h.d0) fun e => (h.p0 b e).1
theorem LLi.sub (h : LLi g H0 Hs0 D ps rows f H Hs) : Same (shr H Hs D ps) H := fun b o e => by
  by_cases hb : b = D ∨ b ∈ ps
  · rw [shr_in hb] at e; exact e
  · rw [shr_out hb] at e; exact h.stp.sub b o e
theorem LLi.ext (h : LLi g H0 Hs0 D ps rows f H Hs) : Same Hs (shr H Hs D ps) := fun b o e => by
  have hb : ¬ (b = D ∨ b ∈ ps) := fun hb => by rw [(h.out b hb).1] at e; cases e
  rw [shr_out hb]; exact e
theorem LLi.sh (h : LLi g H0 Hs0 D ps rows f H Hs) : Stp g H0 Hs0 H (shr H Hs D ps) where
  sub := h.sub
  ext := h.stp.ext.trans h.ext
  keep := h.stp.keep
  there := h.stp.there
  new := fun b o e n => by
    have hb : ¬ (b = D ∨ b ∈ ps) := fun hb => by rw [h.l.n0 hb] at e; cases e
    rw [shr_out hb]; exact h.stp.new b o e n
theorem LLi.shk (h : LLi g H0 Hs0 D ps rows f H Hs) : DkOk g H (shr H Hs D ps) f := by
  have q := h.dk
  have o := h.out
  cases g with
  | none => trivial
  | some k =>
    obtain ⟨q0, q1, q2, q3⟩ := q
    have nn : ∀ b, Dk.has (some k) b → ¬ (b = D ∨ b ∈ ps) := fun b hb z => (o b z).2 hb
    exact ⟨q0, by rw [shr_out (nn _ (.inl rfl))]; exact q1, by rw [shr_out (nn _ (.inr (.inl rfl)))]; exact q2, by rw [shr_out (nn _ (.inr (.inr rfl)))]; exact q3⟩
abbrev rowsL (rows : List (List Str)) : DL.D := .lst (rows.map fun r => .lst (r.map DL.D.str))
theorem LLi.rp (h : LLi g H0 Hs0 D ps rows f H Hs) : Rp K (shr H Hs D ps) (rowsL rows) (.ref D) := by
  refine ⟨D, ps.map V.ref, rfl, by rw [shr_in (.inl rfl)]; exact h.l.dl, ?_⟩
  have gen : ∀ (ks : List (List Str)) (qs : List Addr), ks.length = qs.length → (∀ q ∈ qs, q ∈ ps) → (∀ (i : Nat) (r : List Str) (p : Addr), ks[i]? = some r → qs[i]? = some p → H p = some (.lst (r.map V.str))) → RpA K (shr H Hs D ps) (ks.map fun r => .lst (r.map DL.D.str)) (qs.map V.ref) := by
    intro ks
    induction ks with
    | nil => intro qs hl _ _; cases qs with
      | nil => rfl
      | cons _ _ => simp at hl
    | cons k ks ih =>
      intro qs hl hm hat
      cases qs with
      | nil => simp at hl
      | cons q qs =>
        refine ⟨.ref q, qs.map V.ref, rfl, ⟨q, k.map V.str, rfl, ?_, RpA.map (f := DL.D.str) (g := V.str) (fun x => rfl) k⟩, ih qs (by simpa using hl) (fun z hz => hm z (by simp [hz])) fun i m p a b => hat (i + 1) m p (by simpa using a) (by simpa using b)⟩
        rw [shr_in (.inr (hm q (by simp)))]
        exact hat 0 k q rfl rfl
  exact gen rows ps h.l.len (fun _ h => h) h.l.at_
/-- after an expression that saw it -/
theorem LLi.un (h : LLi g H0 Hs0 D ps rows f H Hs) (s0 : Same Hs0 H0) (s : Stp g H (shr H Hs D ps) H' Hs') (k : DkOk g H' Hs' f') : LLi g H0 Hs0 D ps rows f' H' (del Hs' D ps) ∧ Same Hs (del Hs' D ps) := by
  have st := h.sh.trans s
  have kp : ∀ b, b = D ∨ b ∈ ps → ∀ o, H b = some o → H' b = some o := fun b hb o e => s.keep b o e (h.out b hb).2
  refine ⟨⟨⟨h.l.d0, h.l.len, kp D (.inl rfl) _ h.l.dl, h.l.p0, fun i r p a b => kp p (.inr (List.mem_of_getElem? b)) _ (h.l.at_ i r p a b), h.l.nd⟩, ⟨fun b o e => ?_, fun b o e => ?_, st.keep, st.there, fun b o e n => ?_⟩, ?_, fun b hb => ⟨del_in hb, (h.out b hb).2⟩⟩, fun b o e => ?_⟩
  · by_cases hb : b = D ∨ b ∈ ps
    · rw [del_in hb] at e; cases e
    · rw [del_out hb] at e; exact st.sub b o e
  · have hb : ¬ (b = D ∨ b ∈ ps) := fun hb => by have := s0 b o e; rw [h.l.n0 hb] at this; cases this
    rw [del_out hb]; exact st.ext b o e
  · by_cases hb : b = D ∨ b ∈ ps
    · exact del_in hb
    · rw [del_out hb]; exact st.new b o e n
  · cases g with
    | none => trivial
    | some d =>
      obtain ⟨q0, q1, q2, q3⟩ := k
      have nn : ∀ b, Hs' b = none → del Hs' D ps b = none := fun b e => by
        by_cases hb : b = D ∨ b ∈ ps
        · exact del_in hb
        · rw [del_out hb]; exact e
      exact ⟨q0, nn _ q1, nn _ q2, nn _ q3⟩
  · have hb : ¬ (b = D ∨ b ∈ ps) := fun hb => by rw [(h.out b hb).1] at e; cases e
    rw [del_out hb]
    exact s.ext b o (h.ext b o e)
theorem LLi.step (h : LLi g H0 Hs0 D ps rows f H Hs) (s : Stp g H Hs H' Hs') (k : DkOk g H' Hs' f') : LLi g H0 Hs0 D ps rows f' H' Hs' := by
  have kp : ∀ b, b = D ∨ b ∈ ps → ∀ o, H b = some o → H' b = some o := fun b hb o e => s.keep b o e (h.out b hb).2
  have ex : ∀ b, b = D ∨ b ∈ ps → ∃ o, H b = some o := fun b hb => by
    rcases hb with rfl | hb
    · exact ⟨_, h.l.dl⟩
    · obtain ⟨i, hi, e⟩ := List.getElem_of_mem hb
      have hr : i < rows.length := by rw [h.l.len]; exact hi
      exact ⟨_, h.l.at_ i rows[i] b (List.getElem?_eq_getElem hr) (by rw [List.getElem?_eq_getElem hi, e])⟩
  refine ⟨⟨h.l.d0, h.l.len, kp D (.inl rfl) _ h.l.dl, h.l.p0, fun i r p a b => kp p (.inr (List.mem_of_getElem? b)) _ (h.l.at_ i r p a b), h.l.nd⟩, h.stp.trans s, k, fun b hb => ?_⟩
  obtain ⟨o, e⟩ := ex b hb
  exact ⟨s.new b o e (h.out b hb).1, (h.out b hb).2⟩
theorem LLi.nodk (h : LLi g H0 Hs0 D ps rows f H Hs) {f0 : Nat} (k0 : DkOk g H0 Hs0 f0) {p : Addr} (hp : H p = none) : H0 p = none ∧ Hs p = none ∧ ¬ Dk.has g p ∧ p ≠ D ∧ p ∉ ps := by
  have n0 : H0 p = none := none_back h.stp hp
  refine ⟨n0, same_none h.stp.sub hp, k0.out n0, fun e => ?_, fun e => ?_⟩
  · subst e; rw [h.l.dl] at hp; cases hp
  · obtain ⟨i, hi, e2⟩ := List.getElem_of_mem e
    have hr : i < rows.length := by rw [h.l.len]; exact hi
    have := h.l.at_ i rows[i] p (List.getElem?_eq_getElem hr) (by rw [List.getElem?_eq_getElem hi, e2])
    rw [hp] at this; cases this
theorem LLi.start {f0 : Nat} (s0 : Same Hs0 H0) (k0 : DkOk g H0 Hs0 f0) {H Hs : Hp} (st : Stp g H0 Hs0 H Hs) (k : DkOk g H Hs f) {p D : Addr} {x : Str} (hp : H p = none) (hD : upd H p (.lst [V.str x]) D = none) :
    LLi g H0 Hs0 D [p] [[x]] f (upd (upd H p (.lst [V.str x])) D (.lst [V.ref p])) Hs := by
  have pD : p ≠ D := fun e => by subst e; rw [upd_same] at hD; cases hD
  have hD' : H D = none := by rwa [upd_ne (fun e => pD e.symm)] at hD
  have p0 := none_back st hp
  have d0 := none_back st hD'
  have h1 : (upd (upd H p (.lst [V.str x])) D (.lst [V.ref p])) p = some (.lst [V.str x]) := by rw [upd_ne pD, upd_same]
  refine ⟨⟨d0, rfl, upd_same, fun q hq => ?_, fun i r q a b => ?_, by simp⟩, (st.mut p0 (same_none st.sub hp)).mut d0 (same_none st.sub hD'), (k.mut (k0.out p0)).mut (k0.out d0), fun b hb => ?_⟩
  · rw [List.mem_singleton.mp hq]; exact ⟨p0, pD⟩
  · cases i with
    | zero => cases a; cases b; exact h1
    | succ i => simp at a
  · rcases hb with rfl | hb
    · exact ⟨same_none st.sub hD', k0.out d0⟩
    · rw [List.mem_singleton.mp hb]; exact ⟨same_none st.sub hp, k0.out p0⟩
theorem LLi.add {f0 : Nat} (k0 : DkOk g H0 Hs0 f0) (h : LLi g H0 Hs0 D ps rows f H Hs) {p : Addr} {x : Str} (hp : H p = none) :
    LLi g H0 Hs0 D (ps ++ [p]) (rows ++ [[x]]) f (upd (upd H p (.lst [V.str x])) D (.lst ((ps ++ [p]).map V.ref))) Hs := by
  obtain ⟨n0, ns, nk, pD, pp⟩ := h.nodk k0 hp
  have od := h.out D (.inl rfl)
  refine ⟨⟨h.l.d0, by rw [List.length_append, List.length_append, h.l.len]; rfl, upd_same, fun q hq => ?_, fun i r q a b => ?_, ?_⟩, (h.stp.mut n0 ns).mut h.l.d0 od.1, (h.dk.mut nk).mut od.2, fun b hb => ?_⟩
  · rcases List.mem_append.mp hq with e | e
    · exact h.l.p0 q e
    · rw [List.mem_singleton.mp e]; exact ⟨n0, pD⟩
  · have hqD : q ≠ D := by
      rcases List.mem_append.mp (List.mem_of_getElem? b) with e | e
      · exact (h.l.p0 q e).2
      · rw [List.mem_singleton.mp e]; exact pD
    rw [upd_ne hqD]
    by_cases hi : i < ps.length
    · rw [List.getElem?_append_left hi] at b
      rw [List.getElem?_append_left (by rw [h.l.len]; exact hi)] at a
      have hqp : q ≠ p := fun e => pp (e ▸ List.mem_of_getElem? b)
      rw [upd_ne hqp]
      exact h.l.at_ i r q a b
    · have hlen : i = ps.length := by
        have := (List.getElem?_eq_some_iff.mp b).1
        rw [List.length_append, List.length_singleton] at this
        omega
      rw [List.getElem?_append_right (by omega), hlen, Nat.sub_self] at b
      rw [List.getElem?_append_right (by rw [h.l.len]; omega), hlen, h.l.len, Nat.sub_self] at a
      cases a
      cases b
      rw [upd_same]; rfl
  · rw [List.nodup_append]
    exact ⟨h.l.nd, by simp, fun a ha b hb e => pp (by rw [List.mem_singleton.mp hb] at e; exact e ▸ ha)⟩
  · rcases hb with hb | hb
    · exact h.out b (.inl hb)
    · rcases List.mem_append.mp hb with e | e
      · exact h.out b (.inr e)
      · rw [List.mem_singleton.mp e]; exact ⟨ns, nk⟩
theorem LLi.app (h : LLi g H0 Hs0 D ps rows f H Hs) {i : Nat} {p : Addr} {r : List Str} {x : Str} (hi : rows[i]? = some r) (hp : ps[i]? = some p) :
    LLi g H0 Hs0 D ps (rows.set i (r ++ [x])) f (upd H p (.lst ((r ++ [x]).map V.str))) Hs := by
  have hm := List.mem_of_getElem? hp
  obtain ⟨p0, pD⟩ := h.l.p0 p hm
  have op := h.out p (.inr hm)
  refine ⟨⟨h.l.d0, by rw [List.length_set]; exact h.l.len, by rw [upd_ne (fun e => pD e.symm)]; exact h.l.dl, h.l.p0, fun j s q a b => ?_, h.l.nd⟩, h.stp.mut p0 op.1, h.dk.mut op.2, h.out⟩
  by_cases hij : i = j
  · subst hij
    rw [hp] at b
    cases b
    rw [List.getElem?_set_self (List.getElem?_eq_some_iff.mp hi).1] at a
    cases a
    exact upd_same
  · rw [List.getElem?_set_ne hij] at a
    have hqp : q ≠ p := fun e => by
      subst e
      obtain ⟨h1, e1⟩ := List.getElem?_eq_some_iff.mp hp
      obtain ⟨h2, e2⟩ := List.getElem?_eq_some_iff.mp b
      exact hij ((List.getElem_inj h.l.nd).mp (e1.trans e2.symm))
    rw [upd_ne hqp]
    exact h.l.at_ j s q a b
end
theorem nxt {g : Option Dk} {r : Sg} {f : Nat} {E : DEnds} (h : E.nx r f) : sNext g r f E := h
section
variable {K : PySem.W.Frag} {Hs : Hp}
theorem SlOk.nil : SlOk K Hs [] [] := ⟨rfl, fun i s d h => by simp at h⟩
theorem SlOk.sh {r : Sg} {st : L2.St} {d : D} {v : V} (hv : Rp K Hs d v) (h : SlOk K Hs r st) : SlOk K Hs (.sh d :: r) (some v :: st) :=
  ⟨by rw [List.length_cons, List.length_cons, h.len], fun i s e h1 h2 => by
    cases i with
    | zero => cases h1; cases h2; exact ⟨v, rfl, hv⟩
    | succ i => exact h.get i s e (by simpa using h1) h2⟩
theorem SlOk.no {r : Sg} {st : L2.St} {o : Option V} (h : SlOk K Hs r st) : SlOk K Hs (.no :: r) (o :: st) :=
  ⟨by rw [List.length_cons, List.length_cons, h.len], fun i s e h1 h2 => by
    cases i with
    | zero => cases h1; cases h2
    | succ i => exact h.get i s e (by simpa using h1) h2⟩
end
end DL
namespace DL
open PySem PySem.Spec PyProof.Rows L2
/-! the top by one run: what is looked at, as truth values over a part of the heap -/
abbrev FrB : Type := PySem.W.Frag → Bool
abbrev AlY : Type := He.AlD × List (Option (List (Option (Str × Int))))
def obsY (ex : List FrB) (fn : List He5.DefA) (ts : List He.Tab) (K : PySem.W.Frag) : AlY :=
  (((ex.all fun f => f K) && fn.all fun d => d.ok K, fn.map fun d => He5.fnA K (d.at_ K)), ts.map fun t => He.dicW K (t.1 K))
def valY (fn : List He5.DefA) (ts : List He.Tab) (w : World) : AlY := ((true, fn.map He5.DefA.val), ts.map fun t => some (He.keysIn w.params t.2))
def SaysY (ex : List FrB) (fn : List He5.DefA) (ts : List He.Tab) (w : World) (K : PySem.W.Frag) : Prop := obsY ex fn ts K = valY fn ts w
/-! what the main names reach in n steps, each address once; the seen ones are the bits of a number -/
noncomputable def putY {β : Type} (l : List Addr) : Nat → List Addr → (Nat → List Addr → β) → β :=
  List.rec (motive := fun _ => Nat → List Addr → (Nat → List Addr → β) → β) (fun m acc k => k m acc)
    (fun a _ ih m acc k => HandSHeadRun.frNat a fun a => Bool.rec (motive := fun _ => β) (HandSHeadRun.frNat (Nat.lor m (Nat.shiftLeft 1 a)) fun m => ih m (a :: acc) k) (ih m acc k) (Nat.beq (Nat.land (Nat.shiftRight m a) 1) 1)) l
noncomputable def growY {β : Type} (g : Addr → Option Obj) (l : List Addr) : Nat → List Addr → (Nat → List Addr → β) → β :=
  List.rec (motive := fun _ => Nat → List Addr → (Nat → List Addr → β) → β) (fun m acc k => k m acc)
    (fun a _ ih m acc k => Option.rec (motive := fun _ => β) (ih m acc k) (fun o => putY (He.refsD o) m acc fun m acc => ih m acc k) (g a)) l
noncomputable def asY (g : Addr → Option Obj) (n : Nat) : List Addr → Nat → List Addr :=
  Nat.rec (motive := fun _ => List Addr → Nat → List Addr) (fun fr _ => fr) (fun _ ih fr m => fr ++ growY g fr m [] fun m new => ih new m) n
noncomputable def obsYG (n : Nat) (ex : List FrB) (fn : List He5.DefA) (ts : List He.Tab) (g : Addr → Option Obj) : AlY := obsY ex fn ts (He.frG g (asY g n [mainGlobals] 0 ++ [cStatics]))
noncomputable def hookY (n : Nat) (ex : List FrB) (fn : List He5.DefA) (ts : List He.Tab) : PySem.W.Hook where
  α := AlY
  obs := fun s => obsYG n ex fn ts s.heap.get?
  val := fun w => valY fn ts w
  says := fun w h => ∃ K : PySem.W.Frag, K.In h ∧ SaysY ex fn ts w K
  of := fun _ _ e => ⟨_, He.frG_in, e⟩
  keeps := fun _ _ _ ⟨K, hK, c⟩ k => ⟨K, PySem.W.Frag.In.keeps hK k, c⟩
theorem obsYG_eq {n : Nat} {ex : List FrB} {fn : List He5.DefA} {ts : List He.Tab} {g : Addr → Option Obj} {s : Shared} (h : ∀ a, g a = s.heap.get? a) : obsYG n ex fn ts g = (hookY n ex fn ts).obs s := by
  have e : g = s.heap.get? := funext h
  rw [e] <;> rfl
section
variable {ex : List FrB} {fn : List He5.DefA} {ts : List He.Tab} {w : World} {K : PySem.W.Frag}
theorem SaysY.fact (c : SaysY ex fn ts w K) (i : Nat) {f : FrB} (h : ex[i]? = some f := by rfl) : f K = true := by
  have c1 : ((ex.all fun f => f K) && fn.all fun d => d.ok K) = true := congrArg (fun z : AlY => z.1.1) c
  rw [Bool.and_eq_true] at c1
  exact List.all_eq_true.mp c1.1 f (List.mem_of_getElem? h)
theorem SaysY.def_ (c : SaysY ex fn ts w K) (i : Nat) {d : He5.DefA} (h : fn[i]? = some d := by rfl) : ∃ fd, FunD K d.name d.qual d.params d.body d.scope (d.dvs K) (d.kws K) (d.at_ K) fd := by
  have c1 : ((ex.all fun f => f K) && fn.all fun d => d.ok K) = true := congrArg (fun z : AlY => z.1.1) c
  rw [Bool.and_eq_true] at c1
  have e : fn.map (fun d => He5.fnA K (d.at_ K)) = fn.map He5.DefA.val := congrArg (fun z : AlY => z.1.2) c
  have e2 : (fn.map fun d => He5.fnA K (d.at_ K))[i]? = (fn.map He5.DefA.val)[i]? := by rw [e]
  rw [List.getElem?_map, List.getElem?_map, h] at e2
  exact He5.DefA.funD (Option.some.inj e2) (List.all_eq_true.mp c1.2 d (List.mem_of_getElem? h))
theorem SaysY.tab (c : SaysY ex fn ts w K) (i : Nat) {t : He.Tab} (h : ts[i]? = some t := by rfl) : ∃ es n, KDict K w (t.1 K) es n := by
  have e : ts.map (fun t => He.dicW K (t.1 K)) = ts.map fun t => some (He.keysIn w.params t.2) := congrArg (fun z : AlY => z.2) c
  have e2 : (ts.map fun t => He.dicW K (t.1 K))[i]? = (ts.map fun t => some (He.keysIn w.params t.2))[i]? := by rw [e]
  rw [List.getElem?_map, List.getElem?_map, h] at e2
  exact He.dicW_ok (Option.some.inj e2)
/-! what stands in the records -/
theorem raw_fn {x q : Str} {st : Stmt} {f : Addr} {fd : FuncData} {kws : List (Str × V)} (F : FunD K x q (defArgs st) (defBody st) (defScope st) [] kws f fd) :
    ∃ (oc : Value) (od : Option Addr) (kV dc pm : Value) (an : Option Addr) (cd ct : Value) (sl : Array (Option Value)), K.lookup f = some ⟨oc, od, .func (PySem.W.fnOf x q (defArgs st) (defBody st) (defScope st) .none kV dc pm an cd ct), sl⟩ ∧ PySem.W.codeIn K cd q = true ∧ PySem.W.keepIn K (.ref f) = true := by
  obtain ⟨oc, od, dV, kV, doc, pm, an, cdv, ct, osl, e, l, c, hd, _⟩ := F.ex
  rcases hd with ⟨_, e2⟩ | ⟨e2, _⟩
  · subst e2
    subst e
    exact ⟨oc, od, kV, doc, pm, an, cdv, ct, osl, l, c, F.kp⟩
  · exact absurd rfl e2
/-- the address, and the rest, of a record that wraps -/
def rcA (K : PySem.W.Frag) (p : Addr) (T : String) : Addr := match PySem.W.recIn K p T with
  | some (.ref a :: _) => a
  | _ => 0
def rcR (K : PySem.W.Frag) (p : Addr) (T : String) : List Value := match PySem.W.recIn K p T with
  | some (_ :: r) => r
  | _ => []
def tkOf (K : PySem.W.Frag) (x : Str) : Tok := match PySem.W.nsIn K mainGlobals x with
  | some (some (.int _ t)) => t
  | some (some (.str _ t)) => t
  | _ => default
/-- a class of errors with an __init__ of its own -/
def oexB (K : PySem.W.Frag) (C : Addr) : Bool := match K.lookup C with
  | some ⟨.type c, _, .cls cd, sl⟩ => decide (c = "type") && (cd.hasDict && (!cd.hasDel && (match cd.mro, sl.toList with
    | .ref C' :: bm, [_, _, _, _, some (.builtin n), _] => decide (C' = C) && (decide (n = "ValueError.__new__") && PySem.HandSPX.refsVE bm)
    | _, _ => false)))
  | _ => false
theorem oex_of {C : Addr} (h : oexB K C = true) : ∃ nm q N bs bm sn sub ab col dd k0 k1 k2 k3 k5, K.lookup C = some (excClassObj nm q C N bs bm true sn sub ab col dd k0 k1 k2 k3 k5 "ValueError.__new__") ∧ PySem.HandSPX.refsVE bm = true := by
  unfold oexB at h
  split at h
  · next c dd cd sl ho =>
    rw [Bool.and_eq_true, Bool.and_eq_true, Bool.and_eq_true, decide_eq_true_iff, Bool.not_eq_true'] at h
    obtain ⟨rfl, h2, h3, h⟩ := h
    split at h
    · next C' bm k0 k1 k2 k3 n k5 hm hs =>
      rw [Bool.and_eq_true, Bool.and_eq_true, decide_eq_true_iff, decide_eq_true_iff] at h
      obtain ⟨rfl, rfl, h4⟩ := h
      obtain ⟨nm, bs, mro, ns, qn, hd, sn, sub, ab, col, del⟩ := cd
      dsimp only at hm h2 h3
      subst hm h2 h3
      obtain ⟨l⟩ := sl
      simp only at hs
      subst hs
      exact ⟨nm, qn, ns, bs, bm, sn, sub, ab, col, dd, k0, k1, k2, k3, k5, ho, h4⟩
    · cases h
  · cases h
/-! dicts of the text -/
def dstrB : List D → List Value → Bool
  | [], [] => true
  | .str s :: ds, .str y _ :: us => decide (y = s) && dstrB ds us
  | _, _ => false
theorem dstr_ok : ∀ {ds : List D} {us : List Value}, dstrB ds us = true → ∃ l : List Str, ds = l.map D.str ∧ Vals (l.map V.str) us
  | [], [], _ => ⟨[], rfl, .nil⟩
  | .str s :: ds, .str y t :: us, h => by
    have h1 : (decide (y = s) && dstrB ds us) = true := h
    rw [Bool.and_eq_true, decide_eq_true_iff] at h1
    obtain ⟨l, e, hv⟩ := dstr_ok h1.2
    exact ⟨y :: l, by rw [e, h1.1]; rfl, .cons ⟨t, rfl⟩ hv⟩
def itmB (K : PySem.W.Frag) : D → Value → Bool
  | .int i, .int j _ => decide (j = i)
  | .tup ds, .ref a => (match K.lookup a with
    | some ⟨.type c, _, .seq its _, _⟩ => decide (c = "tuple") && (decide (its.size ≤ sizeLine) && dstrB ds its.toList)
    | _ => false)
  | _, _ => false
theorem itm_ok {d : D} {u : Value} (h : itmB K d u = true) : ∃ v, RelV v u ∧ ∀ H, Rp K H d v := by
  unfold itmB at h
  split at h
  · next i j t =>
    obtain rfl := of_decide_eq_true h
    exact rp_kint
  · next ds a =>
    split at h
    · next c od its n sl ho =>
      rw [Bool.and_eq_true, Bool.and_eq_true, decide_eq_true_iff, decide_eq_true_iff] at h
      obtain ⟨rfl, h2, h3⟩ := h
      obtain ⟨l, rfl, hv⟩ := dstr_ok h3
      exact rp_kstrs ho rfl rfl h2 hv
    · cases h
  · cases h
def entB (K : PySem.W.Frag) : List DictEntry → List (Str × D) → Bool
  | [], [] => true
  | e :: es, (x, d) :: tb => (match e.key with
    | .str y _ => decide (y = x) && (itmB K d e.val && entB K es tb)
    | _ => false)
  | _, _ => false
theorem ent_ok : ∀ {es : List DictEntry} {tb : List (Str × D)}, entB K es tb = true → Ents K es tb
  | [], [], _ => .nil
  | e :: es, (x, d) :: tb, h => by
    have h0 : (match e.key with
      | .str y _ => decide (y = x) && (itmB K d e.val && entB K es tb)
      | _ => false) = true := h
    split at h0
    · next y t hk =>
      rw [Bool.and_eq_true, Bool.and_eq_true, decide_eq_true_iff] at h0
      obtain ⟨rfl, h1, h2⟩ := h0
      exact .cons hk (itm_ok h1) (ent_ok h2)
    · cases h0
def gdB (K : PySem.W.Frag) (x : Str) (tb : List (Str × D)) : Bool := match K.lookup (He.ga K x) with
  | some ⟨_, _, .dict es _, _⟩ => entB K es.toList tb
  | _ => false
theorem gd_ok {x : Str} {tb : List (Str × D)} {es : Array DictEntry} {n : Nat} (h : gdB K x tb = true) (l : K.lookup (He.ga K x) = some ⟨.type "dict", none, .dict es n, #[]⟩) : Ents K es.toList tb := by
  unfold gdB at h
  rw [l] at h
  exact ent_ok h
end
theorem walk_ofYG {l : PySem.W.OpenLaw} {k : Nat} {q : Program} {loose : List Str} {XP : (Str → Option Value) → Heap → Prop} {ex : List FrB} {fn : List He5.DefA} {ts : List He.Tab} {d : DefRec} {x : Str}
    (hn : l.most = some 63) (hdf : d.params.defaults = []) (hr : Room k callerA)
    (F : ∀ (w : World) (mg : Str → Option Value) (fa : Addr) (h : Heap) (K : PySem.W.Frag), K.In h → SaysY ex fn ts w K → h.Ns mainGlobals mg → mg d.name = some (.ref fa) →
      ∃ fd : FuncData, (∀ (s : Shared) (u : Value), BindsTo s fd ⟨[u], []⟩ [(x, u)]) ∧ ∀ base : Heap, K.In base → base.Ns mainGlobals mg → FnG l.prog w K mg base k fa fd [x] (spLaw K)) :
    PySem.W.WalkO q loose XP (fun w h => ∃ K : PySem.W.Frag, K.In h ∧ SaysY ex fn ts w K) l.row.toRowW d [] (fun f vs => PySem.call f vs) :=
  Att.attach_call hn hdf fun w s₀ s₁ mg mb fa o pm cd doc a vs ns G Y ho hd hcd hmg hobj hints hlen hg => by
    obtain ⟨K, KX, c⟩ := Y
    obtain ⟨fd, hb, hF⟩ := F w mg fa _ K KX c G.T.g hmg
    exact law_callG KX G.T.g G.T.b G.T.builtins G.T.nolimit hg hobj hints hlen hr hF hb
end DL
namespace PySem.SeqAt
open AutoSeq1 (wpAny_loadPart')
open MeetsSeq MeetsSeq2 MeetsSeq3 SeqRoads2
end PySem.SeqAt
namespace DL
open PySem PySem.Spec PyProof.Rows L2
/-! any plain value in a tuple or a list of pairs of texts -/
section
variable {X : Cx} {K : PySem.W.Frag} {pins : List (Addr × Obj)} {st : L2.St} {H Hs : Hp} {s : Shared}
/-- the value is the pair u -/
def IsU (s : Shared) (y : Value) (u : Us) : Prop := ∃ (p : Addr) (ta tb : Tok), y = .ref p ∧ s.heap.IsTuple p #[.str u.1 ta, .str u.2 tb]
theorem isTup_fun {h : Heap} {p : Addr} {a b : Array Value} (h1 : h.IsTuple p a) (h2 : h.IsTuple p b) : a = b := by
  obtain ⟨o, ho, _, n, hd⟩ := h1
  obtain ⟨o2, ho2, _, n2, hd2⟩ := h2
  rw [ho] at ho2
  cases ho2
  rw [hd] at hd2
  cases hd2
  rfl
theorem IsU.uniq {y : Value} {u w : Us} (h1 : IsU s y u) (h2 : IsU s y w) : u = w := by
  obtain ⟨p, ta, tb, rfl, t1⟩ := h1
  obtain ⟨p2, ta2, tb2, e, t2⟩ := h2
  cases e
  have e := isTup_fun t1 t2
  have e := congrArg Array.toList e
  simp only [List.cons.injEq, Value.str.injEq] at e
  exact Prod.ext e.1.1 e.2.1.1
end
end DL
namespace DL
open PySem PySem.Spec PyProof.Rows L2
/-! list(zip(a, b)) of two lists -/
section
variable {prog : Program} {w : World} {A : Around} {E : Value → Shared → Prop} {s : Shared} {R : Result → Shared → Prop} {z ti tz i1 i2 l1 l2 S : Addr} {xs ys : Array Value} {n : Nat}
def ZSt (z ti tz i1 i2 l1 l2 : Addr) (xs ys : Array Value) (h : Heap) (i : Nat) : Prop :=
  (∃ v b, ZpV h z ti tz v b ∧ Mrk v) ∧ IsPair h ti (.ref i1) (.ref i2) ∧ (∃ x y, IsPair h tz x y) ∧ h.IsListIter i1 l1 i ∧ h.IsListIter i2 l2 i ∧ h.IsList l1 xs ∧ h.IsList l2 ys
/-- the pairs that were given out -/
def ZAcc (S : Addr) (xs ys : Array Value) (h : Heap) (acc : Array Value) (i : Nat) : Prop :=
  ∃ Ts : List Addr, acc = (Ts.map Value.ref).toArray ∧ Ts.length = i ∧ Ts.Nodup ∧ ∀ (j : Nat) (T : Addr), Ts[j]? = some T → S < T ∧ ∃ x y : Value, xs[j]? = some x ∧ ys[j]? = some y ∧ IsPair h T x y
theorem isList_keep {h h' : Heap} {a : Addr} {its : Array Value} (hl : h.IsList a its) (k : ∀ o, h.get? a = some o → h'.get? a = some o) : h'.IsList a its := by
  obtain ⟨o, ho, r⟩ := hl
  exact ⟨o, k o ho, r⟩
theorem ZSt.keep {h h' : Heap} {i : Nat} (st : ZSt z ti tz i1 i2 l1 l2 xs ys h i) (k : ∀ b ∈ [z, ti, tz, i1, i2, l1, l2], ∀ o, h.get? b = some o → h'.get? b = some o) : ZSt z ti tz i1 i2 l1 l2 xs ys h' i := by
  obtain ⟨⟨v, b, hz, hm⟩, hti, ⟨x, y, htz⟩, h1, h2, hl1, hl2⟩ := st
  exact ⟨⟨v, b, k z (by simp) _ hz, hm⟩, k ti (by simp) _ hti, ⟨x, y, k tz (by simp) _ htz⟩, h1.at fun o q => k i1 (by simp) o q, h2.at fun o q => k i2 (by simp) o q, isList_keep hl1 fun o q => k l1 (by simp) o q, isList_keep hl2 fun o q => k l2 (by simp) o q⟩
theorem ZAcc.keep {h h' : Heap} {i : Nat} {acc : Array Value} (st : ZAcc S xs ys h acc i) (k : ∀ b, S < b → ∀ o, h.get? b = some o → h'.get? b = some o) : ZAcc S xs ys h' acc i := by
  obtain ⟨Ts, h1, h2, h3, h4⟩ := st
  refine ⟨Ts, h1, h2, h3, fun j T hj => ?_⟩
  obtain ⟨q1, x, y, q2, q3, q4⟩ := h4 j T hj
  exact ⟨q1, x, y, q2, q3, k T q1 _ q4⟩
theorem ZAcc.size {h : Heap} {i : Nat} {acc : Array Value} (st : ZAcc S xs ys h acc i) : acc.size = i := by
  obtain ⟨Ts, h1, h2, _⟩ := st
  rw [h1, List.size_toArray, List.length_map, h2]
end
end DL
namespace DL
open PySem PySem.Spec PyProof.Rows L2
/-! xs.insert(e, y), xs owned, its items any -/
section
variable {X : Cx} {K : PySem.W.Frag} {W : WX}
def rIns : V → List V → Hp → VK → Prop := fun x vs H Q => ∃ (l : Addr) (xs : List V) (i : Int) (y : V), x = .ref l ∧ vs = [.int i, y] ∧ H l = some (.lst xs) ∧ xs.length < sizeLine ∧ 0 ≤ i ∧ i < 2 ^ 63 ∧
    Q .non (upd H l (.lst (xs.take i.toNat ++ [y] ++ xs.drop i.toNat)))
def sIns (i : Nat) (de dv : DT) : DTS := fun g r f E => ∃ xs, r[i]? = some (.ow xs) ∧ de g r f fun d f' => dv g (hide r) f' fun y f2 => match d with
  | .int k => 0 ≤ k ∧ k < 100000 ∧ xs.length ≤ lim ∧ E.nx (r.set i (.ow (xs.take k.toNat ++ [y] ++ xs.drop k.toNat))) f2
  | _ => False
theorem snd_ins {i : Nat} {te tv : TE} {de dv : DT} (h : Snd K te de) (hv : Snd K tv dv) : SndS K W (tDrop (tBM K "list" rIns (tVar i) (tCons te (tCons tv tNil)))) (sIns i de dv) := fun g H0 Hs0 r f st H D E s e hd => by
  obtain ⟨Hs, s⟩ := s
  obtain ⟨xs, hi, hd⟩ := hd
  obtain ⟨a, ha, n1, n0, vs, hvs, hr⟩ := s.ow i _ hi rfl
  refine ⟨.ref a, ha, .inl ⟨rfl, vs, SqL.of hvs⟩, ?_⟩
  refine h g r f st H _ _ _ s.at (fun d f' v H' Hs' t' k' hr' q => ?_) hd
  have s' := s.after t' k'
  refine hv g (hide r) f' st H' _ _ _ s'.atHid (fun y f2 v2 H2 Hs2 t2 k2 hr2 q2 => ?_) q
  have s2 := s'.afterHid t2 k2
  cases d <;> try exact q2.elim
  cases hr'
  obtain ⟨k0, k1, hxl, q2⟩ := q2
  obtain ⟨a', ha', n1', n0', vs', hv', hr3⟩ := s2.ow i _ hi rfl
  rw [ha] at ha'
  cases ha'
  rename_i k
  exact ⟨a, vs', k, v2, rfl, rfl, hv', hr3.lt hxl, k0, Int.lt_trans k1 (by decide), e.nx _ f2 st _ ⟨_, s2.mutOwn (u := .ow (xs.take k.toNat ++ [y] ++ xs.drop k.toNat)) hi rfl ha rfl ⟨vs'.take k.toNat ++ [v2] ++ vs'.drop k.toNat, upd_same, ((hr3.take k.toNat).append (RpA.one hr2)).append (hr3.drop k.toNat)⟩⟩ q2⟩
theorem ds_ins {i : Nat} {x : Str} {e e2 : Expr} {px apos cpos pos : Pos} {d dv : DT} (h : DE X e d) (h2 : DE X e2 dv) (hN : X.N[i]? = some x := by rfl) (hv : Vis X.env.scope x := by first | exact Or.inl rfl | exact Or.inr (Or.inl rfl) | exact Or.inr (Or.inr rfl)) (hd : (x == ("__debug__" : Str)) = false := by decide)
    (hcd : (x == ("__classdict__" : Str)) = false := by decide) (hP : ∀ t : TE, ∀ t2 : TA, PE X (.Name x px) (tVar i) → PA X [e, e2] (tCons t t2) → PE X (.Call (.Attribute (.Name x px) "insert" apos) [e, e2] [] cpos) (tBM X.K "list" rIns (tVar i) (tCons t t2)) := by
      exact fun t t2 a b => pe_bm PySem.F.plainAttrs_list PySem.F.slot_list_insert PySem.F.type_list_insert mt_insert a b)
    (hs : swapsWith (.Call (.Attribute (.Name x px) "insert" apos) [e, e2] [] cpos) none pos.line X.env = pure false := by rfl) (hst : starEach [e, e2] X.env = [(false, eval e X.env), (false, eval e2 X.env)] := by rfl) (hst2 : starEach [e2] X.env = [(false, eval e2 X.env)] := by rfl) :
    DS X (.Expr (.Call (.Attribute (.Name x px) "insert" apos) [e, e2] [] cpos) pos) (sIns i d dv) :=
  DS.mk' (ps_expr (hP _ _ (pe_var hN hv hd hcd) (pa_cons h.pe (pa_cons h2.pe pa_nil hst2) (by rw [hst, hst2]))) hs) (snd_ins h.sn h2.sn)
end
end DL
namespace DL
open PySem PySem.Spec PyProof.Rows L2
/-! enumerate(e, start=1), e a list -/
section
variable {M : Model} {A : Around} {E : Value → Shared → Prop} {s : Shared} {env : Env}
theorem callWith_type_kwB {pos : Pos} {id : String} {first : List Value} {args : List (Bool × Sem Value)} {keywords : List (Option Str × Sem Value)} {Q : Value → Shared → Prop}
    (hplain : args.any (·.1) = false) (hkw : keywords.any (·.1.isNone) = false)
    (h : wpAny M A (evalArgs (.type id) true args keywords) (fun a s₁ => wpAny M A (call (.type id) (first ++ a.pos) a.kw) Q E s₁) E s) :
    wpAny M A (callWith pos (.type id) first args keywords) Q E s := by
  unfold callWith
  refine wpAny_bind (wpAny_holding (wpAny_mono h (fun a s₁ h₁ => wpAny_bind (wpAny_standAt ?_)) fun _ _ x => x))
  simp only [hplain, hkw, Bool.or_false]
  refine wpAny_bind (wpAny_pure ?_)
  exact wpAny_bind (wpAny_mono h₁ (fun r s₂ hr => wpAny_bind (wpAny_holding (wpAny_point (wpAny_pure hr)))) fun _ _ x => x)
theorem callWith_type_kw {pos : Pos} {id : String} {e : Expr} {rest : List Expr} {kws : List Keyword} {Q : Value → Shared → Prop}
    (h : wpAny M A (spliced (backTo pos (starEach (e :: rest) env))) (fun vs s₁ => wpAny M A (evalAll ((backToKw pos (keywordEach kws env)).map (·.2)))
      (fun kvs s₂ => wpAny M A (call (.type id) vs (((backToKw pos (keywordEach kws env)).filterMap (·.1)).zip kvs)) Q E s₂) E s₁) E s)
    (he : backTo pos (starEach (e :: rest) env) = (false, eval e env) :: backTo pos (starEach rest env) := by rfl)
    (hplain : (backTo pos (starEach (e :: rest) env)).any (·.1) = false := by rfl)
    (hall : (backToKw pos (keywordEach kws env)).all (·.1.isSome) = true := by rfl)
    (hkw : (backToKw pos (keywordEach kws env)).any (·.1.isNone) = false := by rfl) :
    wpAny M A (callWith pos (.type id) [] (backTo pos (starEach (e :: rest) env)) (backToKw pos (keywordEach kws env))) Q E s := by
  refine callWith_type_kwB hplain hkw ?_
  rw [he] at h ⊢
  exact evalArgs_kwB hall h
end
/-- the list at a, each item in a new pair with its number from 1 on -/
def Ite1 (K : PySem.W.Frag) (a : Addr) : It :=
  ⟨fun i H => ∃ (xs : List V) (x : V), SqL K H a xs ∧ xs[i]? = some x, fun i H v H' => ∃ T x, v = .ref T ∧ H T = none ∧ H' = upd H T (.tup [.int ((i + 1 : Nat) : Int), x]) ∧ ∀ xs, SqL K H a xs → xs[i]? = some x, fun i H => ∃ xs : List V, SqL K H a xs ∧ xs.length ≤ i⟩
theorem turn_enum1 {P : Program} {w : World} {K : PySem.W.Frag} {elts : List Expr} {kk : Nat} {tpos : Pos} (a e it : Addr) :
    Turn P w K (.Tuple elts kk tpos) (Ite1 K a) [e, it] e (fun i h => (∃ old, IsEnum h e it ((i + 1 : Nat) : Int) old) ∧ h.IsListIter it a i ∧ e ≠ it) where
  mem := by simp
  obj := fun i h st b hb => by
    obtain ⟨⟨old, he⟩, ⟨o, ho, hc, hd⟩, _⟩ := st
    have e' : b = e ∨ b = it := by simpa using hb
    rcases e' with z | z
    · rw [z]; exact ⟨_, he, fun v q => nomatch q⟩
    · rw [z]; exact ⟨o, ho, fun v q => by rw [hd] at q; cases q⟩
  keep := fun i h h' st k => let ⟨⟨old, he⟩, hi, hne⟩ := st; ⟨⟨old, k e (by simp) _ he⟩, hi.at fun o q => k it (by simp) o q, hne⟩
  item := by
    intro X hP hw hK hc i pins s st H E I hf stt hg
    subst hP hw hK
    obtain ⟨⟨old, he⟩, hit, hne⟩ := stt
    obtain ⟨xs, x, hq, hx⟩ := hg
    obtain ⟨its, rv, p, hz⟩ := I.list hq
    obtain ⟨u, hu, ru⟩ := rv.get hx
    have hel : e < s.heap.objs.size := Heap.lt_size he
    have hil : it < s.heap.objs.size := by obtain ⟨_, q, _⟩ := hit; exact Heap.lt_size q
    have ht : s.heap.IsList a its.toArray := p.isList
    obtain ⟨ot, hot, hct, nt, hdt⟩ := id ht
    obtain ⟨oi, hoi, hci, hdi⟩ := id hit
    have n1 : a ≠ it := cls_ne hot hoi hct hci (by decide)
    have n2 : e ≠ a := cls_ne he hot rfl hct (by decide)
    have D := Draws.list (prog := X.prog) (w := X.w) (A := X.A.in1) (I.ok.hd hc) it a n1 its.toArray
    have hlt : i < its.toArray.size := by
      have := (List.getElem?_eq_some_iff.mp hu).1
      simpa using this
    refine wpAny_pyNext_enum_itemC D he ⟨hit, ht⟩ hlt hne (by simp [hne, n2]) fun x' h' tk hP' ho st' hT hsz hk => ?_
    have ex : x' = u := by
      have e1 : its.toArray[i]? = some u := by simpa using hu
      rw [hP'] at e1
      exact Option.some.inj e1
    subst ex
    refine ⟨_, rfl, wpAny_letOwnedTupleGo_enum (s := { s with heap := h', toks := tk + 1 }) ho fun h'' he' sb => ?_⟩
    have hT2 : h''.get? s.heap.objs.size = some { cls := .type "tuple", data := .seq #[.int ((i + 1 : Nat) : Int) tk, x'] } := (sb.2 _ (Nat.ne_of_gt hel)).trans hT
    have new : ObjOk X.prog X.w (upd H s.heap.objs.size (.tup [.int ((i + 1 : Nat) : Int), x])) h'' s.heap.objs.size (.tup [.int ((i + 1 : Nat) : Int), x]) :=
      ⟨by show 2 ≤ sizeLine; decide, [.int ((i + 1 : Nat) : Int) tk, x'], .cons ⟨_, rfl⟩ (.cons ru .nil), ⟨_, hT2, rfl, _, rfl⟩⟩
    have I1 : Inv X pins st (upd H s.heap.objs.size (.tup [.int ((i + 1 : Nat) : Int), x])) { s with heap := h'', toks := tk + 1 } :=
      I.turnedNew (ch := [e, it]) (fun b ob hb q => (sb.2 b (fun z => hb (by simp [z]))).trans (hk b ob (fun z => hb (by simp [z])) (fun z => hb (by simp [z])) q)) hf (Nat.le_refl _) new
    refine ⟨.ref s.heap.objs.size, _, I1, rfl, ⟨_, x, rfl, I.hok.fresh (Nat.le_refl _), rfl, fun ys hy => by rw [I.list_inj hy hq]; exact hx⟩, ⟨⟨x', ?_⟩, st'.1.at fun o q => (sb.2 it (Ne.symm hne)).trans q, hne⟩, fun b hb => ?_⟩
    · have e1 : ((i + 1 + 1 : Nat) : Int) = ((i + 1 : Nat) : Int) + 1 := by omega
      rw [e1]; exact he'
    · have hb' : b < s.heap.objs.size := by
        have e' : b = e ∨ b = it := by simpa using hb
        rcases e' with z | z
        · rw [z]; exact hel
        · rw [z]; exact hil
      rw [upd_ne (Nat.ne_of_lt hb')]
      exact (hf b hb).1
  done := by
    intro X hP hw hK hc i pins s st H E I hf stt hg
    subst hP hw hK
    obtain ⟨⟨old, he⟩, hit, hne⟩ := stt
    obtain ⟨xs, hq, hx⟩ := hg
    obtain ⟨its, rv, p, hz⟩ := I.list hq
    obtain ⟨f0, f1, f2, f3, f4, f5⟩ := hf it (by simp)
    have hl := rv.length
    have hT : s.TypeIs (.ref e) "enumerate" := ⟨_, he, rfl⟩
    unfold pyNext
    refine wpAny_bind (wpAny_attempt (wpAny_callSpecial?_slot (name := Str.ofString "__next__") hT F.slot_enumerate_next
      (wpAny_call_entry F.slot_enumerate_next hT F.entry_enumerate_next ?_ (F.args_enumerate_next_1 _))))
    show wpAny _ _ (field (.ref e) 2 >>= _) _ _ _
    refine wpAny_bind (wpAny_field he rfl (x := .ref it) rfl ?_)
    refine wpAny_bind (wpAny_nextOf_list_end (I.ok.hd hc) hit p.isList (by simp; omega) fun h' x he' hx' => ?_)
    obtain ⟨o, ho, hcc⟩ := hx'
    refine wpAny_bind (wpAny_isInstance (T := "StopIteration") (b := true) ⟨o, ho, hcc⟩ isSubtype_stop ?_)
    exact wpAny_pure ⟨rfl, I.turned (t' := s.toks) (fun b o hb q => he' b o hb q) f0 f1 f3 f4 f5⟩
  self := fun A i s Q E st h => let ⟨⟨_, he⟩, _⟩ := st; wpAny_pyIter_enum he h
def iEnum1 (K : PySem.W.Frag) (ta : TA) : TI := fun st H R => ta st H fun vs H1 => ∃ a xs, vs = [.ref a] ∧ SqL K H1 a xs ∧ R (Ite1 K a) H1
theorem pi_enum1 {X : Cx} {e : Expr} {ta : TA} {p pos tpos kp cp : Pos} {j : Nat} {elts : List Expr} {kk : Nat} (hg : Gl X "enumerate") (hm : X.mg "enumerate" = none) (ha : PA X [e] ta)
    (he : backTo pos (starEach [e] X.env) = (false, eval e X.env) :: backTo pos (starEach [] X.env) := by rfl) (hpl : (backTo pos (starEach [e] X.env)).any (·.1) = false := by rfl) :
    PI X (.Tuple elts kk tpos) (.Call (.Name "enumerate" p) [e] [⟨some "start", .Constant (.int 1) j cp, kp⟩] pos) (iEnum1 X.K ta) := by
  refine ⟨fun pins s st H R I h => ?_⟩
  refine wpAny_Call_Name_kw (ld_blt I hg hm boot_enumerate (callWith_type_kw ?_ he hpl rfl rfl))
  refine thn (ha.run pos pins s st H _ I h) fun us s1 ⟨vs, H1, I1, r1, q1⟩ => ?_
  refine kws_cons (thn ((pe_int (X := X) (i := 1) (j := j) (pos := cp)).run pins s1 st H1 (fun v H' => v = .int 1 ∧ H' = H1) I1 ⟨rfl, rfl⟩) fun u s2 hu => ?_)
  obtain ⟨v, H2, I2, r2, ev, eH⟩ := hu
  subst ev eH
  obtain ⟨tk, rfl⟩ := r2
  refine kws_nil ?_
  obtain ⟨a, xs, ex, hq, q⟩ := q1
  subst ex
  cases r1 with
  | cons r rr =>
    cases rr
    cases r
    obtain ⟨its, rv, p', hz⟩ := I2.list hq
    show wpAny _ _ (call (.type "enumerate") [.ref a] [(Str.ofString "start", .int 1 tk)]) _ _ _
    refine enum_begins_start (begins_list a its.toArray) p'.isList (by decide) (by decide) fun h' he hit hsz hk => wpAny_pyIter_enum he ?_
    have I3 : Inv X pins st H2 { s2 with heap := h' } := I2.kept (t' := s2.toks) hk
    refine ⟨s2.heap.objs.size + 1, [s2.heap.objs.size + 1, s2.heap.objs.size], _, _, H2, rfl, I3, turn_enum1 a (s2.heap.objs.size + 1) s2.heap.objs.size, ⟨⟨.none, he⟩, ⟨_, hit, rfl, rfl⟩, Nat.succ_ne_self _⟩, fun b hb => ?_, q⟩
    have e' : b = s2.heap.objs.size + 1 ∨ b = s2.heap.objs.size := by simpa using hb
    have hle : s2.heap.objs.size ≤ b := by
      rcases e' with z | z
      · rw [z]; exact Nat.le_add_right _ _
      · rw [z]; exact Nat.le_refl _
    exact I2.fpOk hle (I2.hok.fresh hle)
section
variable {X : Cx} {K : PySem.W.Frag}
def enumD1 (xs : List D) : List D := xs.mapIdx fun i x => .tup [.int ((i + 1 : Nat) : Int), x]
theorem enumD1_get {xs : List D} {i : Nat} {d : D} (h : (enumD1 xs)[i]? = some d) : ∃ x, xs[i]? = some x ∧ d = .tup [.int ((i + 1 : Nat) : Int), x] := by
  unfold enumD1 at h
  rw [List.getElem?_mapIdx] at h
  cases e : xs[i]? with
  | none => rw [e] at h; cases h
  | some x => rw [e] at h; cases h; exact ⟨x, rfl, rfl⟩
theorem enumD1_len (xs : List D) : (enumD1 xs).length = xs.length := by unfold enumD1; rw [List.length_mapIdx]
def dEnum1 (t : DTA) : DTA := fun g r f Q => t g r f fun ds f1 => match ds with
  | [.lst xs] => Q (enumD1 xs) f1
  | _ => False
theorem walks_enum1 {Hb : Hp} {a : Addr} {vs : List V} {ds : List D} (h1 : Hb a = some (.lst vs)) (h2 : RpA K Hb ds vs) : Walks K (Ite1 K a) Hb (enumD1 ds) where
  go := fun i d H Hs s1 s2 e => by
    obtain ⟨x, ex, rfl⟩ := enumD1_get e
    obtain ⟨v, hv, hr⟩ := h2.get ex
    have q1 : SqL K H a vs := SqL.of (s2 _ _ (s1 _ _ h1))
    refine ⟨⟨vs, v, q1, hv⟩, ?_⟩
    rintro z H' ⟨T, x', rfl, hT, rfl, hx⟩
    have e1 := hx vs q1
    rw [hv] at e1
    cases e1
    exact pair_stp s2 hT rfl (hr.mono s1)
  stop := fun H s => ⟨vs, SqL.of (s _ _ h1), by rw [enumD1_len, h2.length]; exact Nat.le_refl _⟩
theorem di_enum1 {e : Expr} {d : DTA} {p pos tpos kp cp : Pos} {j : Nat} {elts : List Expr} {kk : Nat} (hm : X.mg "enumerate" = none) (ha : DA X [e] d) (hg : Gl X "enumerate" := by rfl)
    (he : backTo pos (starEach [e] X.env) = (false, eval e X.env) :: backTo pos (starEach [] X.env) := by rfl) (hpl : (backTo pos (starEach [e] X.env)).any (·.1) = false := by rfl) :
    DI X (.Tuple elts kk tpos) (.Call (.Name "enumerate" p) [e] [⟨some "start", .Constant (.int 1) j cp, kp⟩] pos) (dEnum1 d) := DI.mk' (pi_enum1 hg hm ha.pa he hpl) fun g ro f st H Hs R Q' A hq hd =>
  ha.sn g ro f st H Hs _ _ A (fun ds f1 vs H1 Hs1 s1 k1 r1 q1 => by
    split at q1
    · obtain ⟨v, r, rfl, ⟨a, us, rfl, h1, h2⟩, h3⟩ := r1
      cases h3
      exact ⟨a, us, rfl, SqL.of (s1.sub _ _ h1), hq _ f1 _ H1 Hs1 s1 k1 (walks_enum1 h1 h2) q1⟩
    · exact q1.elim) hd
end
end DL
namespace DL
open PySem PySem.Spec PyProof.Rows L2
/-! s.rstrip(t) -/
section
variable {X : Cx} {K : PySem.W.Frag}
def oRstrip : OM := fun x ds Q => match x, ds with
  | .str a, [.str b] => a.length ≤ lim ∧ Q (.str (Txt.rstripChars a b))
  | _, _ => False
theorem sm_rstrip : SndM K (fun x xs H Q => ∃ a b, x = .str a ∧ xs = [.str b] ∧ a.length ≤ sizeLine ∧ Q (.str (Txt.rstripChars a b)) H) oRstrip := fun H Hs x vx ds vs Q Q' s rx rs hq hd => by
  unfold oRstrip at hd
  split at hd
  · obtain ⟨v, rfl, h⟩ := rpA1 rs
    cases h
    exact ⟨_, _, rx, rfl, lim_le hd.1, hq (.str _) _ _ _ (Stp.refl s) rfl hd.2⟩
  · exact hd.elim
theorem de_rstrip {o e : Expr} {apos pos : Pos} {d d2 : DT} (ho : DE X o d) (he : DE X e d2) (hs : starEach [e] X.env = [(false, eval e X.env)] := by rfl) (hbase : attributeBase o "rstrip" X.env (eval o X.env) = eval o X.env := by rfl) (hline : (apos.endLine == pos.line) = true := by rfl) :
    DE X (.Call (.Attribute o "rstrip" apos) [e] [] pos) (dM1 oRstrip d d2) := .mk' (pe_m1 F.slot_str_rstrip F.type_str_rstrip mt_rstripChars ho.pe he.pe hs hbase hline) (snd_m1 sm_rstrip ho.sn he.sn)
end
theorem rstrip_cd (s : Str) : ∃ k, cd (Txt.rstripChars s " ") ++ List.replicate k 32 = cd s := by
  have ep : ∀ c, (Str.ofString " ").cps.contains c = decide (c = 32) := fun c => by
    rw [Bool.eq_iff_iff, decide_eq_true_iff, Array.contains_iff, ← Array.mem_toList_iff]
    rw [show (Str.ofString " ").cps.toList = [32] from by decide +kernel]
    exact List.mem_singleton
  unfold Txt.rstripChars Txt.stripBy
  by_cases h : stripSame (Str.ofString " ").cps.contains false true s = true
  · rw [if_pos h]
    exact ⟨0, by rw [List.replicate_zero, List.append_nil]⟩
  · rw [if_neg h]
    unfold stripped stripLo stripHi
    have hl := TL.len_tl s
    have t1 : s.cps.toList = TL.tl s := rfl
    rw [t1]
    simp only [Bool.false_eq_true, if_false, if_true, List.drop_zero]
    have hw := tw_le (p := (Str.ofString " ").cps.contains) (TL.tl s).reverse
    rw [List.length_reverse] at hw
    refine ⟨((TL.tl s).reverse.takeWhile (Str.ofString " ").cps.contains).length, ?_⟩
    show TL.tl _ ++ _ = TL.tl s
    rw [TL.tl_strSub]
    have hrep : List.replicate ((TL.tl s).reverse.takeWhile (Str.ofString " ").cps.contains).length 32 = (TL.tl s).drop ((TL.tl s).length - ((TL.tl s).reverse.takeWhile (Str.ofString " ").cps.contains).length) := by
      have e1 : (TL.tl s).reverse.take ((TL.tl s).reverse.takeWhile (Str.ofString " ").cps.contains).length = (TL.tl s).reverse.takeWhile (Str.ofString " ").cps.contains := (List.prefix_iff_eq_take.mp (List.takeWhile_prefix _)).symm
      rw [List.take_reverse] at e1
      have e2 : (TL.tl s).reverse.takeWhile (Str.ofString " ").cps.contains = List.replicate ((TL.tl s).reverse.takeWhile (Str.ofString " ").cps.contains).length 32 := by
        refine List.eq_replicate_iff.mpr ⟨rfl, fun c hc => ?_⟩
        have := mem_tw hc
        rw [ep] at this
        exact of_decide_eq_true this
      have e3 := congrArg List.reverse e1
      rw [List.reverse_reverse] at e3
      rw [e3, e2, List.length_replicate, List.reverse_replicate]
    rw [hrep, List.drop_zero, Nat.sub_zero, hl]
    exact List.take_append_drop _ _
end DL
namespace DL
open PySem PySem.Spec PyProof.Rows L2
/-! s.join(e), e a list, a tuple or a text -/
section
variable {X : Cx} {K : PySem.W.Frag}
theorem mt_joinS (hc : X.calm = true) : MtR X "str.join" (fun x xs H Q => ∃ a z : Str, x = .str a ∧ xs = [.str z] ∧ z.length + z.length * a.length ≤ 16777216 ∧ Q (.str (Txt.join a (PyProof.Rows.signs z))) H) := by
  intro pins s σ H x xs v us Q I rx rs h
  obtain ⟨a, z, rfl, rfl, hz, h⟩ := h
  obtain ⟨t, rfl⟩ := rx
  obtain ⟨u, rfl, k, rfl⟩ := vals1 rs
  exact PySem.SC.joinStr (I.ok.hd hc) (joinOk_of (by rw [signs_sumLen, signs_length]; exact hz)) fun h' k t' hk => ⟨.str _, H, I.kept hk, ⟨t', rfl⟩, h⟩
def oJoinS : OM := fun x ds Q => match x, ds with
  | .str a, [.str z] => z.length + z.length * a.length ≤ 16777216 ∧ Q (.str (Txt.join a (PyProof.Rows.signs z)))
  | x, ds => oJoin x ds Q
theorem sm_joinS : SndM K (fun x xs H Q => (∃ a p, ∃ ys : List Str, x = .str a ∧ xs = [.ref p] ∧ (SqL K H p (ys.map V.str) ∨ SqT K H p (ys.map V.str)) ∧ (ys.map (·.length)).sum + ys.length * a.length ≤ 16777216 ∧ Q (.str (Txt.join a ys)) H) ∨
    ∃ a z : Str, x = .str a ∧ xs = [.str z] ∧ z.length + z.length * a.length ≤ 16777216 ∧ Q (.str (Txt.join a (PyProof.Rows.signs z))) H) oJoinS := fun H Hs x vx ds vs Q Q' s rx rs hq hd => by
  unfold oJoinS at hd
  split at hd
  · next a z =>
    obtain ⟨v, rfl, h⟩ := rpA1 rs
    cases h
    exact .inr ⟨_, _, rx, rfl, hd.1, hq (.str _) _ _ _ (Stp.refl s) rfl hd.2⟩
  · exact .inl (sm_join H Hs _ vx _ vs Q Q' s rx rs hq hd)
theorem de_joinS {o e : Expr} {apos pos : Pos} {d d2 : DT} (ho : DE X o d) (he : DE X e d2) (hc : X.calm = true := by rfl) (hs : starEach [e] X.env = [(false, eval e X.env)] := by rfl) (hbase : attributeBase o "join" X.env (eval o X.env) = eval o X.env := by rfl) (hline : (apos.endLine == pos.line) = true := by rfl) :
    DE X (.Call (.Attribute o "join" apos) [e] [] pos) (dM1 oJoinS d d2) := .mk' (pe_m1 F.slot_str_join F.type_str_join (mt_join.or (mt_joinS hc)) ho.pe he.pe hs hbase hline) (snd_m1 sm_joinS ho.sn he.sn)
theorem signs_cd (z : Str) : (PyProof.Rows.signs z).length = z.length ∧ ∀ w ∈ PyProof.Rows.signs z, w.length = 1 := by
  refine ⟨signs_length z, fun w hw => ?_⟩
  obtain ⟨c, _, rfl⟩ := List.mem_map.mp hw
  rfl
end
end DL
namespace DL
open PySem PySem.Spec PyProof.Rows L2
def topS (i : Nat) : Stmt := PySem.Challenge.pw_mayrest_k90_rule_and_book_texts.main.body.getD i (.Pass ⟨0, 0, 0, 0⟩)
def clsS (i j : Nat) : Stmt := match topS i with
  | .ClassDef _ _ _ b _ _ _ _ _ _ _ => b.getD j (.Pass ⟨0, 0, 0, 0⟩)
  | s => s
section
variable {P : Program} {w : World} {K : PySem.W.Frag} {mg : Str → Option Value} {base : Heap}
/-! texts apart at a sign, by codes -/
def spx (c : Nat) : List Nat → List (List Nat)
  | [] => [[]]
  | a :: r => if a = c then [] :: spx c r else match spx c r with
    | [] => [[a]]
    | h :: t => (a :: h) :: t
theorem spx_ne (c : Nat) : ∀ l : List Nat, spx c l ≠ []
  | [] => by simp [spx]
  | a :: r => by
    unfold spx
    split
    · simp
    · split <;> simp
theorem spl_spx (c : Nat) : ∀ (l acc : List Nat), TL.spl [c] 0 acc l = match spx c l with
    | [] => [acc]
    | h :: t => (acc ++ h) :: t
  | [], acc => by rw [TL.spl_nil]; simp [spx]
  | a :: r, acc => by
    by_cases h : a = c
    · subst h
      have hp : TL.pre [a] (a :: r) = true := TL.pre_self [a] r
      rw [TL.spl_hit hp]
      have := spl_spx a r []
      unfold spx
      rw [if_pos rfl]
      simp only [List.length_singleton, Nat.sub_self, List.append_nil]
      rw [this]
      cases e : spx a r with
      | nil => exact absurd e (spx_ne a r)
      | cons h t => simp
    · rw [TL.spl_miss (TL.pre_of_head [] r h), spl_spx c r (acc ++ [a])]
      rw [spx, if_neg h]
      cases e : spx c r with
      | nil => exact absurd e (spx_ne c r)
      | cons h t => simp
theorem split_spx {sep : Str} {c : Nat} (hk : TL.tl sep = [c]) (x : Str) (hq : (Txt.split x sep).map TL.tl = TL.spl (TL.tl sep) 0 [] (TL.tl x)) : (Txt.split x sep).map cd = spx c (cd x) := by
  have := hq
  rw [hk, spl_spx] at this
  show (Txt.split x sep).map TL.tl = _
  rw [this]
  cases e : spx c (cd x) with
  | nil => exact absurd e (spx_ne _ _)
  | cons h t => rfl
theorem split_sp (x : Str) : (Txt.split x " ").map cd = spx 32 (cd x) :=
  split_spx (by decide +kernel) x (TL.split_spl x " " (by decide +kernel) (TL.kind_ok (by decide +kernel)))
theorem split_nl (x : Str) : (Txt.split x "\n").map cd = spx 10 (cd x) :=
  split_spx (by decide +kernel) x (TL.split_spl x "\n" (by decide +kernel) (TL.kind_ok (by decide +kernel)))
theorem spx_one {c : Nat} : ∀ {a : List Nat}, c ∉ a → spx c a = [a]
  | [], _ => rfl
  | d :: r, h => by
    have hc : d ≠ c := fun e => h (by simp [e])
    have hr : c ∉ r := fun e => h (by simp [e])
    unfold spx
    rw [if_neg hc, spx_one hr]
theorem spx_app (c : Nat) : ∀ (a r : List Nat), spx c (a ++ c :: r) = spx c a ++ spx c r
  | [], r => by
    show spx c (c :: r) = [[]] ++ spx c r
    rw [show spx c (c :: r) = if c = c then [] :: spx c r else _ from rfl, if_pos rfl]
    rfl
  | d :: a, r => by
    have ih := spx_app c a r
    by_cases h : d = c
    · show spx c (d :: (a ++ c :: r)) = spx c (d :: a) ++ spx c r
      rw [show spx c (d :: (a ++ c :: r)) = if d = c then [] :: spx c (a ++ c :: r) else (match spx c (a ++ c :: r) with | [] => [[d]] | h :: t => (d :: h) :: t) from rfl]
      rw [show spx c (d :: a) = if d = c then [] :: spx c a else (match spx c a with | [] => [[d]] | h :: t => (d :: h) :: t) from rfl]
      rw [if_pos h, if_pos h, ih]
      rfl
    · show spx c (d :: (a ++ c :: r)) = spx c (d :: a) ++ spx c r
      rw [show spx c (d :: (a ++ c :: r)) = if d = c then [] :: spx c (a ++ c :: r) else (match spx c (a ++ c :: r) with | [] => [[d]] | h :: t => (d :: h) :: t) from rfl]
      rw [show spx c (d :: a) = if d = c then [] :: spx c a else (match spx c a with | [] => [[d]] | h :: t => (d :: h) :: t) from rfl]
      rw [if_neg h, if_neg h, ih]
      cases e : spx c a with
      | nil => exact absurd e (spx_ne _ _)
      | cons x y => rfl
theorem spx_mem (c : Nat) : ∀ (l n : List Nat) (d : Nat), n ∈ spx c l → d ∈ n → d ∈ l
  | [], n, d, h, hd => by simp [spx] at h; simp [h] at hd
  | a :: r, n, d, h, hd => by
    unfold spx at h
    split at h
    · rcases List.mem_cons.mp h with e | e
      · simp [e] at hd
      · exact List.mem_cons_of_mem _ (spx_mem c r n d e hd)
    · split at h
      · next e => exact absurd e (spx_ne _ _)
      · next x t e =>
        rcases List.mem_cons.mp h with e2 | e2
        · rw [e2] at hd
          rcases List.mem_cons.mp hd with z | z
          · simp [z]
          · exact List.mem_cons_of_mem _ (spx_mem c r x d (by rw [e]; simp) z)
        · exact List.mem_cons_of_mem _ (spx_mem c r n d (by rw [e]; simp [e2]) hd)
theorem spx_len (c : Nat) : ∀ l : List Nat, (spx c l).length ≤ l.length + 1
  | [] => by simp [spx]
  | d :: r => by
    have ih := spx_len c r
    unfold spx
    split
    · rw [List.length_cons, List.length_cons]; omega
    · split
      · simp
      · next h t e =>
        rw [e, List.length_cons] at ih
        rw [List.length_cons, List.length_cons]
        omega
theorem split_sp_len (s : Str) : (Txt.split s " ").length ≤ s.length + 1 := by
  have e := split_sp s
  have h := spx_len 32 (cd s)
  rw [← e, List.length_map] at h
  rw [TL.len_tl]
  exact h
theorem split_nl_len (s : Str) : (Txt.split s "\n").length ≤ s.length + 1 := by
  have e := split_nl s
  have h := spx_len 10 (cd s)
  rw [← e, List.length_map] at h
  rw [TL.len_tl]
  exact h
theorem spx_le (c : Nat) : ∀ (l n : List Nat), n ∈ spx c l → n.length ≤ l.length
  | [], n, h => by simp [spx] at h; simp [h]
  | d :: r, n, h => by
    unfold spx at h
    split at h
    · rcases List.mem_cons.mp h with e | e
      · simp [e]
      · have := spx_le c r n e
        rw [List.length_cons]; omega
    · split at h
      · next e => exact absurd e (spx_ne _ _)
      · next x t e =>
        rcases List.mem_cons.mp h with e2 | e2
        · have := spx_le c r x (by rw [e]; simp)
          rw [e2, List.length_cons, List.length_cons]; omega
        · have := spx_le c r n (by rw [e]; simp [e2])
          rw [List.length_cons]; omega
theorem split_nl_mem {t s : Str} (h : s ∈ Txt.split t "\n") (ha : asc t) : asc s ∧ s.length ≤ t.length := by
  have hm : cd s ∈ spx 10 (cd t) := by rw [← split_nl]; exact List.mem_map.mpr ⟨s, h, rfl⟩
  refine ⟨fun c hc => ha c (spx_mem 10 _ _ c hm hc), ?_⟩
  rw [TL.len_tl, TL.len_tl]
  exact spx_le 10 _ _ hm
def jnx (c : Nat) : List (List Nat) → List Nat
  | [] => []
  | [a] => a
  | a :: b :: r => a ++ c :: jnx c (b :: r)
theorem joinL_jnx (c : Nat) : ∀ l : List (List Nat), TL.joinL [c] l = jnx c l
  | [] => rfl
  | [a] => rfl
  | a :: b :: r => by
    have := joinL_jnx c (b :: r)
    show a ++ ([c] ++ TL.joinL [c] (b :: r)) = a ++ c :: jnx c (b :: r)
    rw [this]
    rfl
theorem cd_join_sp (ns : List Str) : cd (Txt.join " " ns) = jnx 32 (ns.map cd) := by
  rw [TL.join_eq]
  show TL.tl (Str.join " " ns) = _
  rw [TL.tl_join, show TL.tl (Str.ofString " ") = [32] from by decide +kernel, joinL_jnx]
theorem cd_join_nl (ns : List Str) : cd (Txt.join "\n" ns) = jnx 10 (ns.map cd) := by
  rw [TL.join_eq]
  show TL.tl (Str.join "\n" ns) = _
  rw [TL.tl_join, show TL.tl (Str.ofString "\n") = [10] from by decide +kernel, joinL_jnx]
theorem spx_jnx {c : Nat} : ∀ {l : List (List Nat)}, l ≠ [] → (∀ n ∈ l, c ∉ n) → spx c (jnx c l) = l
  | [], h, _ => absurd rfl h
  | [a], _, h => spx_one (h a (by simp))
  | a :: b :: r, _, h => by
    show spx c (a ++ c :: jnx c (b :: r)) = _
    rw [spx_app, spx_one (h a (by simp)), spx_jnx (by simp) fun n hn => h n (by simp [hn])]
    rfl
theorem jnx_len {c B : Nat} : ∀ {l : List (List Nat)}, (∀ n ∈ l, n.length ≤ B) → (jnx c l).length ≤ (B + 1) * l.length
  | [], _ => Nat.zero_le _
  | [a], h => by
    have := h a (by simp)
    show a.length ≤ (B + 1) * 1
    omega
  | a :: b :: r, h => by
    have h1 := h a (by simp)
    have h2 := jnx_len (c := c) (l := b :: r) fun n hn => h n (by simp [hn])
    show (a ++ c :: jnx c (b :: r)).length ≤ (B + 1) * ((b :: r).length + 1)
    rw [List.length_append, List.length_cons, Nat.mul_add, Nat.mul_one]
    omega
theorem join_bd {B : Nat} : ∀ {ns : List Str}, (∀ n ∈ ns, n.length ≤ B) → (ns.map (·.length)).sum ≤ B * ns.length
  | [], _ => Nat.zero_le _
  | a :: r, h => by
    have h1 := h a (by simp)
    have h2 := join_bd (ns := r) fun n hn => h n (by simp [hn])
    rw [List.map_cons, List.sum_cons, List.length_cons, Nat.mul_add, Nat.mul_one]
    omega
theorem jnx_mem {c d : Nat} : ∀ {ls : List (List Nat)}, d ∈ jnx c ls → d = c ∨ ∃ l ∈ ls, d ∈ l
  | [], h => by simp [jnx] at h
  | [a], h => .inr ⟨a, by simp, h⟩
  | a :: b :: r, h => by
    have h : d ∈ a ++ c :: jnx c (b :: r) := h
    rcases List.mem_append.mp h with h | h
    · exact .inr ⟨a, by simp, h⟩
    · rcases List.mem_cons.mp h with h | h
      · exact .inl h
      · rcases jnx_mem h with h | ⟨l, hl, hd⟩
        · exact .inl h
        · exact .inr ⟨l, by simp only [List.mem_cons] at hl ⊢; exact .inr hl, hd⟩
/-! words_of -/
abbrev s_words_of : Stmt := topS 66
theorem sc_words_of : FnScope ["line", "found", "word"] ["line"] (defScope s_words_of) := ⟨rfl, rfl, rfl, by decide +kernel, rfl, by decide +kernel, by decide +kernel⟩
def hs (w : Str) : Bool := Txt.startswith w "#"
def ne0 (w : Str) : Bool := !decide (w = "")
def wdsOf (s : Str) : List Str := ((Txt.split s " ").takeWhile fun w => !hs w).filter ne0
def Sp_words_of : DSp := fun _ ds f Q => ∃ s : Str, ds = [.str s] ∧ asc s ∧ s.length ≤ 90000 ∧ Q (.lst ((wdsOf s).map D.str)) f
set_option maxHeartbeats 2000000 in
theorem ok_words_of (d : Df K mg "words_of" s_words_of) : Cal P w K mg base 1 "words_of" ["line"] Sp_words_of := by
  obtain ⟨f, fd, F, m⟩ := d
  refine ⟨f, fd, dfn (k := 0) (S := Sp_words_of) F sc_words_of ?len (fun cdv A outer s H E hr => (dss_cons (ds_setL false (i := 1) sc_words_of.nd (dl_lst da_nil))
      (dss_cons (ds_for [] PassesOwn.never (di_seq (dl_split (de_v 0) de_str).e) (dg_name (i := 2) sc_words_of.nd) (dss_cons (ds_if (dp_val (de_starts (de_v 2) de_str)) (dss_one (ds_ret (de_v 1))) dss_nil)
      (dss_one (ds_if (dp_ne hr.units (de_v 2) de_str) (dss_one (ds_app false (i := 1) (de_v 2))) dss_nil))))
      (dss_one (ds_ret (de_v 1)))))) ?h, F.kp, F.binds fun _ _ _ _ _ _ us hl => match us, hl with | [_], _ => rfl, m⟩
  case len =>
    intro g ds n Q h; obtain ⟨_, rfl, _⟩ := h; rfl
  case h =>
    intro g ds n Q h
    obtain ⟨s, rfl, ha, hl, q⟩ := h
    refine ⟨Nat.zero_le _, ?_⟩
    refine ⟨by decide +kernel, L1 (by omega), ?_⟩
    refine dFor_list D.str (fun done rest r f => f = n ∧ ∃ a : Sl, r = [.sh (.str s), .ow ((done.filter ne0).map D.str), a] ∧ ∀ w ∈ done, hs w = false) _ _ _ ?_ ?_ ⟨rfl, _, rfl, by simp⟩
    · rintro done w rest r f N hx ⟨rfl, a, rfl, hd⟩ hN
      have hsl := split_sp_len s
      have hxl := congrArg List.length hx
      rw [List.length_append, List.length_cons] at hxl
      have hfl := List.length_filter_le ne0 done
      refine ⟨_, rfl, trivial, ?_⟩
      show if hs w = true then _ else _
      cases hw : hs w with
      | true =>
        refine iteT ?_
        have e : wdsOf s = done.filter ne0 := by
          unfold wdsOf
          rw [hx, List.takeWhile_append_of_pos (fun w' hw' => by rw [hd w' hw']; rfl), List.takeWhile_cons, hw]
          simp
        rw [e] at q
        exact q
      | false =>
        refine iteF (nxt ?_)
        show if (!decide (w = "")) = true then _ else _
        cases hw0 : decide (w = "") with
        | true =>
          refine iteF (nxt (hN _ _ ⟨rfl, .sh (.str w), ?_, fun w' hw' => ?_⟩))
          · rw [List.filter_append, List.filter_cons, show ne0 w = false by unfold ne0; rw [hw0]; rfl, if_neg Bool.false_ne_true, List.filter_nil, List.append_nil]; rfl
          · rcases List.mem_append.mp hw' with h | h
            · exact hd w' h
            · rw [List.mem_singleton.mp h]; exact hw
        | false =>
          refine iteT ⟨_, rfl, by rw [List.length_map]; exact L1 (by omega), hN _ _ ⟨rfl, .sh (.str w), ?_, fun w' hw' => ?_⟩⟩
          · rw [List.filter_append, List.filter_cons, show ne0 w = true by unfold ne0; rw [hw0]; rfl, if_pos rfl, List.filter_nil, List.map_append]; rfl
          · rcases List.mem_append.mp hw' with h | h
            · exact hd w' h
            · rw [List.mem_singleton.mp h]; exact hw
    · rintro r f ⟨rfl, a, rfl, hd⟩
      have e : wdsOf s = (Txt.split s " ").filter ne0 := by
        unfold wdsOf
        have := List.takeWhile_append_of_pos (p := fun w => !hs w) (l₁ := Txt.split s " ") (l₂ := []) (fun w' hw' => by rw [hd w' hw']; rfl)
        rw [List.append_nil, List.takeWhile_nil, List.append_nil] at this
        rw [this]
      rw [e] at q
      exact q
abbrev s__law_draw : Stmt := topS 72
theorem sc__law_draw : FnScope ["_law_stream_here", "_law_many", "_law_rest", "_law_turn", "_law_unit", "_law_mixed"] ["_law_stream_here", "_law_many"] (defScope s__law_draw) := ⟨rfl, rfl, rfl, by decide +kernel, rfl, by decide +kernel, by decide +kernel⟩
def Sp__law_draw : DSp := fun g ds f Q => ∃ (k : Dk) (m : Int) (f' : Nat), g = some k ∧ ds = [.any (.ref k.a), .int m] ∧ 0 < m ∧ m < 1000000000 ∧ f = f' + 1 ∧ ∀ r : Int, 0 ≤ r → r < m → Q (.int r) f'
theorem ok__law_draw (d : Df K mg "_law_draw" s__law_draw) (m_len : mg "len" = none) (m_int : mg "int" = none) : Cal P w K mg base 1 "_law_draw" ["_law_stream_here", "_law_many"] Sp__law_draw := by
  obtain ⟨f, fd, F, mm⟩ := d
  refine ⟨f, fd, ?_, F.kp, F.binds fun _ _ _ _ _ _ us hl => match us, hl with | [_, _], _ => rfl, mm⟩
  refine F.ok sc__law_draw (fun vs H Q E h => ?_) (fun cdv A outer s H vs Q E hr h => ?_)
  · obtain ⟨g, Hs, ds, n, Q', h1, h2, h3, ⟨k', m, f', e1, e2, _⟩, h5⟩ := h
    subst e2
    rw [← h3.length]
    rfl
  · obtain ⟨g, Hs, ds, n, Q', h1, h2, h3, ⟨k', m, f', e1, e2, m0, m1, e3, h4⟩, h5⟩ := h
    subst e1 e2 e3
    obtain ⟨v1, v2, rfl, r1, r2⟩ := rpA2 h3
    cases r1
    cases r2
    have dk0 := h2
    obtain ⟨⟨nab, nac, nbc, n, xs, ys, ha, hb, hc, px, py, py0, n0, nf⟩, na, nb, nc⟩ := h2
    refine ⟨_, pss_cons (ps_while PassesOwn.never (pt_cmpR (op_neD hr.units) (pe_ix ix_list (pv 0) pe_int (fun _ _ => rfl)) (pe_lst pa_nil) (nomark _))
        (pss_cons (ps_set (i := 2) sc__law_draw.nd rfl (.inl rfl) (pe_ix ix_list (pe_ix ix_list (pv 0) pe_int (fun _ _ => rfl)) pe_int (fun _ _ => rfl)))
        (pss_cons (ps_if (pt_cmpR op_gt (pv 2) pe_int (nomark _))
          (pss_cons (ps_asg (pe_op op_fdivW (pv 2) (pv 1)) (pg_sub (pe_ix ix_list (pv 0) pe_int (fun _ _ => rfl)) pe_int set_list))
          (pss_one (ps_ret (pe_op op_mod (pe_callTy call_int1 (by rfl) m_int PyProof.Rows.boot_int (pa_cons (pv 2) pa_nil)) (pv 1))))) pss_nil)
        (pss_one (ps_expr (pe_bm PySem.F.plainAttrs_list PySem.F.slot_list_pop PySem.F.type_list_pop mt_popAt (pe_ix ix_list (pv 0) pe_int (fun _ _ => rfl)) (pa_cons pe_int pa_nil)))))))
      (pss_cons (ps_set (i := 3) sc__law_draw.nd rfl (.inl rfl) (pe_op op_add (pe_ix ix_list (pv 0) pe_int (fun _ _ => rfl)) pe_int))
      (pss_cons (ps_asg (pv 3) (pg_sub (pv 0) pe_int set_list))
      (pss_cons (ps_set (i := 4) sc__law_draw.nd rfl (.inl rfl) (pe_op op_mod (pe_callTy call_int1 (by rfl) m_int PyProof.Rows.boot_int (pa_cons (pe_ix ix_list (pe_ix ix_list (pv 0) pe_int (fun _ _ => rfl))
          (pe_op op_mod (pe_callTy call_int1 (by rfl) m_int PyProof.Rows.boot_int (pa_cons (pv 3) pa_nil)) (pe_callB call_len_seq (by rfl) m_len PySem.boot_len (pa_cons (pe_ix ix_list (pv 0) pe_int (fun _ _ => rfl)) pa_nil))) (fun _ _ => rfl)) pa_nil)) pe_int))
      (pss_cons (ps_set (i := 5) sc__law_draw.nd rfl (.inl rfl) (pe_op op_mod (pe_callTy call_int1 (by rfl) m_int PyProof.Rows.boot_int (pa_cons (pe_op op_add (pe_op op_add (pe_op op_mul (pv 4) (pe_op op_add pe_int (pe_op op_mul pe_int (pv 3)))) (pe_op op_mul (pe_op op_mul pe_int (pv 3)) (pv 3))) pe_int) pa_nil)) pe_int))
      (pss_one (ps_ret (pe_op op_mod (pe_op op_fdiv (pe_op op_mod (pe_callTy call_int1 (by rfl) m_int PyProof.Rows.boot_int (pa_cons (pe_op op_mul (pv 5) (pv 5)) pa_nil)) pe_int) pe_int) (pv 1)))))))), ?_⟩
    -- what stays: nothing but the deck's three lists changes
    have fin : ∀ (H3 : Hp) (n3 : Int) (x3 : List Int) (f3 : Nat) (d : D) (v : V), H3 k'.a = some (.lst [.ref k'.b, .ref k'.c, .int n3]) → H3 k'.b = some (.lst (x3.map V.int)) → H3 k'.c = some (.lst (ys.map V.int)) → (∀ x ∈ x3, (0 : Int) ≤ x) → 0 ≤ n3 → n3 + (f3 : Int) ≤ 1000000000000 →
        (∀ b o, b ≠ k'.a → b ≠ k'.b → H b = some o → H3 b = some o) → Rp K Hs d v → Q' d f3 → Q v H3 := by
      intro H3 n3 x3 f3 d v g1 g2 g3 g4 g5 g6 g7 g8 g9
      refine h5 d f3 v H3 Hs ⟨fun b o e => ?_, Same.refl _, fun b o e n => ?_, fun b o e => ?_, fun _ _ _ h => h⟩ ⟨⟨nab, nac, nbc, n3, x3, ys, g1, g2, g3, g4, py, py0, g5, g6⟩, na, nb, nc⟩ g8 g9
      · refine g7 b o (fun z => ?_) (fun z => ?_) (h1 b o e)
        · subst z; rw [na] at e; cases e
        · subst z; rw [nb] at e; cases e
      · exact g7 b o (fun z => n (.inl z)) (fun z => n (.inr (.inl z))) e
      · by_cases z : b = k'.a
        · exact ⟨_, z ▸ g1⟩
        · by_cases z' : b = k'.b
          · exact ⟨_, z' ▸ g2⟩
          · exact ⟨o, g7 b o z z' e⟩
    -- the while
    refine ⟨fun mm st H2 => ∃ y2 zs, mm = zs.length ∧ st = [some (.ref k'.a), some (.int m), y2, none, none, none] ∧ (∀ x ∈ zs, (0 : Int) ≤ x) ∧ H2 k'.a = some (.lst [.ref k'.b, .ref k'.c, .int n]) ∧ H2 k'.b = some (.lst (zs.map V.int)) ∧ H2 k'.c = some (.lst (ys.map V.int)) ∧ ∀ b o, b ≠ k'.a → b ≠ k'.b → H b = some o → H2 b = some o,
      ⟨xs.length, none, xs, rfl, rfl, px, ha, hb, hc, fun _ _ _ _ h => h⟩, ?_⟩
    rintro mm st H2 ⟨y2, zs, rfl, rfl, pz, ea, eb, ec, kp⟩
    refine ⟨.ref k'.a, rfl, k'.a, _, 0, _, rfl, rfl, SqL.of ea, atI0, Nat.zero_le _, fun p hp => ?_⟩
    have epb : k'.b ≠ p := ne_of_none eb hp
    have epa : k'.a ≠ p := ne_of_none ea hp
    have epc : k'.c ≠ p := ne_of_none ec hp
    refine ⟨.list (zs.map PyData.int), .list (([] : List Int).map PyData.int), dp_ints (by rw [upd_ne epb]; exact eb), dp_ints (l := []) upd_same, shaped_ints _, shaped_ints [], ?_⟩
    have ea' : upd H2 p (.lst []) k'.a = some (.lst [.ref k'.b, .ref k'.c, .int n]) := by rw [upd_ne epa]; exact ea
    have eb' : upd H2 p (.lst []) k'.b = some (.lst (zs.map V.int)) := by rw [upd_ne epb]; exact eb
    have ec' : upd H2 p (.lst []) k'.c = some (.lst (ys.map V.int)) := by rw [upd_ne epc]; exact ec
    have kp' : ∀ b o, b ≠ k'.a → b ≠ k'.b → H b = some o → upd H2 p (.lst []) b = some o := fun b o e1 e2 e => by
      have q := kp b o e1 e2 e
      rw [upd_ne (ne_of_none q hp)]
      exact q
    generalize upd H2 p (.lst []) = H3 at ea' eb' ec' kp' ⊢
    cases zs with
    | nil =>
      refine ⟨false, rfl, ?_⟩
      refine iteF ?_
      refine ⟨.ref k'.a, rfl, k'.a, _, 2, _, rfl, rfl, SqL.of ea', rfl, n, 1, rfl, rfl, .int (n + 1), rfl, .ref k'.a, rfl, k'.a, _, 2, 2, rfl, rfl, ea', rfl, ?_⟩
      generalize hH4 : upd H3 k'.a (.lst ([V.ref k'.b, V.ref k'.c, V.int n].set 2 (V.int (n + 1)))) = H4
      have fa : H4 k'.a = some (.lst [.ref k'.b, .ref k'.c, .int (n + 1)]) := by rw [← hH4, upd_same]; rfl
      have fb : H4 k'.b = some (.lst (([] : List Int).map V.int)) := by rw [← hH4, upd_ne (Ne.symm nab)]; exact eb'
      have fc : H4 k'.c = some (.lst (ys.map V.int)) := by rw [← hH4, upd_ne (Ne.symm nac)]; exact ec'
      have keep : ∀ b o, b ≠ k'.a → b ≠ k'.b → H b = some o → H4 b = some o := fun b o e1 e2 e => by
        rw [← hH4, upd_ne e1]
        exact kp' b o e1 e2 e
      have hz : (0 : Int) ≤ (n + 1) % (ys.length : Int) ∧ (n + 1) % (ys.length : Int) < ys.length := ⟨Int.emod_nonneg _ (by omega), Int.emod_lt_of_pos _ (by omega)⟩
      have hj : ((n + 1) % (ys.length : Int)).toNat < ys.length := by omega
      -- number
      refine ⟨.ref k'.a, rfl, k'.a, _, 1, _, rfl, rfl, SqL.of fa, rfl, .int (n + 1), rfl, .inl ⟨n + 1, rfl, ?_⟩⟩
      refine ⟨.ref k'.a, rfl, k'.a, _, 1, _, rfl, rfl, SqL.of fa, rfl, k'.c, ys.map V.int, rfl, .inl (SqL.of fc), n + 1, _, rfl, rfl, ?_, ?_⟩
      · rw [List.length_map]; show (0 : Int) < (ys.length : Int); omega
      refine ⟨k'.c, ys.map V.int, _, .int (ys[((n + 1) % (ys.length : Int)).toNat]'hj), rfl, rfl, SqL.of fc, ?_, .inl ⟨_, rfl, ?_⟩⟩
      · rw [List.length_map]
        have := atI_nat (xs := ys.map V.int) (j := ((n + 1) % (ys.length : Int)).toNat) (v := .int (ys[((n + 1) % (ys.length : Int)).toNat]'hj)) (by rw [List.getElem?_map, List.getElem?_eq_getElem hj]; rfl)
        rw [Int.toNat_of_nonneg hz.1] at this
        exact this
      refine ⟨_, _, rfl, rfl, by show (0 : Int) < 2147483563; decide, ?_⟩
      have num0 := Int.emod_nonneg (ys[((n + 1) % (ys.length : Int)).toNat]'hj) (show (2147483563 : Int) ≠ 0 by decide)
      have num1 := Int.lt_trans (Int.emod_lt_of_pos (ys[((n + 1) % (ys.length : Int)).toNat]'hj) (show (0 : Int) < 2147483563 by decide)) (show (2147483563 : Int) < 2147483647 by decide)
      -- mixed
      refine ⟨_, rfl, .int (n + 1), rfl, 65539, n + 1, rfl, rfl, .inl ⟨by decide, by decide⟩, 52501, _, rfl, rfl, _, _, rfl, rfl, .inl ⟨lo64 num0, hi64 num1⟩, .int (n + 1), rfl, 40503, n + 1, rfl, rfl, .inl ⟨by decide, by decide⟩, .int (n + 1), rfl, _, n + 1, rfl, rfl, .inr ⟨by omega, by omega⟩, _, _, rfl, rfl, _, 97, rfl, rfl, .inl ⟨_, rfl, _, _, rfl, rfl, by show (0 : Int) < 2147483647; decide, ?_⟩⟩
      have mix0 : ∀ x : Int, 0 ≤ x % 2147483647 := fun x => Int.emod_nonneg x (by decide)
      have mix1 : ∀ x : Int, x % 2147483647 < 2147483647 := fun x => Int.emod_lt_of_pos x (by decide)
      refine ⟨_, rfl, _, rfl, _, _, rfl, rfl, .inl ⟨lo64 (mix0 _), hi64 (mix1 _)⟩, .inl ⟨_, rfl, _, _, rfl, rfl, by show (0 : Int) < 2147483629; decide, _, _, rfl, rfl, ⟨by decide, by decide⟩, .int m, rfl, _, m, rfl, rfl, m0, ?_⟩⟩
      exact fin H4 (n + 1) [] f' (.int _) _ fa fb fc (by simp) (by omega) (by omega) keep rfl (h4 _ (Int.emod_nonneg _ (by omega)) (Int.emod_lt_of_pos _ m0))
    | cons z zs =>
      refine ⟨true, rfl, ?_⟩
      refine iteT ?_
      have pz0 : 0 ≤ z := pz z (by simp)
      refine ⟨fun st4 H4 => ∃ y2, st4 = [some (.ref k'.a), some (.int m), y2, none, none, none] ∧ H4 = upd H3 k'.b (.lst (zs.map V.int)), ?_, ?_⟩
      · rintro st4 H4 ⟨y3, rfl, rfl⟩
        refine ⟨zs.length, Nat.lt_succ_self _, y3, zs, rfl, rfl, fun x hx => pz x (by simp [hx]), by rw [upd_ne nab]; exact ea', upd_same, by rw [upd_ne (Ne.symm nbc)]; exact ec', fun b o e1 e2 e => by rw [upd_ne e2]; exact kp' b o e1 e2 e⟩
      refine ⟨.ref k'.a, rfl, k'.a, _, 0, _, rfl, rfl, SqL.of ea', atI0, k'.b, _, 0, _, rfl, rfl, SqL.of eb', atI0, ?_⟩
      refine ⟨.int z, rfl, z, 0, rfl, rfl, _, rfl, ite2 (fun c => ?_) (fun c => ?_)⟩
      · -- a digit of a great cell
        refine ⟨.int z, rfl, .int m, rfl, z, m, rfl, rfl, wide_div (b := 40) m0 (by omega) (by decide) (by decide), ?_⟩
        refine ⟨.ref k'.a, rfl, k'.a, _, 0, _, rfl, rfl, SqL.of ea', atI0, k'.b, _, 0, 0, rfl, rfl, eb', ix0 _, ?_⟩
        refine ⟨.int z, rfl, .inl ⟨z, rfl, .int m, rfl, z, m, rfl, rfl, m0, ?_⟩⟩
        refine fin _ n ((z / m) :: zs) f' (.int _) _ (by rw [upd_ne nab]; exact ea') upd_same (by rw [upd_ne (Ne.symm nbc)]; exact ec') ?_ n0 (by omega) (fun b o e1 e2 e => by rw [upd_ne e2]; exact kp' b o e1 e2 e) rfl (h4 _ (Int.emod_nonneg _ (by omega)) (Int.emod_lt_of_pos _ m0))
        intro x hx
        rcases List.mem_cons.mp hx with e | e
        · rw [e]; exact Int.ediv_nonneg pz0 (by omega)
        · exact pz x (by simp [e])
      · refine ⟨.ref k'.a, rfl, k'.a, _, 0, _, rfl, rfl, SqL.of ea', atI0, .inl ⟨rfl, _, SqL.of eb'⟩, k'.b, _, 0, 0, _, rfl, rfl, eb', by decide, by decide, ?_, rfl, ?_⟩
        · exact (ixN_seq (ix0 _)).1
        · exact ⟨_, rfl, rfl⟩
/-! _law_pick -/
abbrev s__law_pick : Stmt := topS 73
theorem sc__law_pick : FnScope ["_law_stream_here", "_law_items"] ["_law_stream_here", "_law_items"] (defScope s__law_pick) := ⟨rfl, rfl, rfl, by decide +kernel, rfl, by decide +kernel, by decide +kernel⟩
def Sp__law_pick : DSp := fun g ds f Q => (∃ (k : Dk) (xs : List D), g = some k ∧ ds = [.any (.ref k.a), .lst xs] ∧ 0 < xs.length ∧ xs.length ≤ 100000 ∧ 1 ≤ f ∧ ∀ x ∈ xs, ∀ f', f ≤ f' + 1 → Q x f') ∨
  ∃ (k : Dk) (z : Str), g = some k ∧ ds = [.any (.ref k.a), .str z] ∧ 0 < z.length ∧ z.length ≤ 100000 ∧ 1 ≤ f ∧ ∀ c ∈ z.cps.toList, ∀ f', f ≤ f' + 1 → Q (.str ⟨#[c]⟩) f'
set_option maxHeartbeats 2000000 in
theorem ok__law_pick (d : Df K mg "_law_pick" s__law_pick) (m_len : mg "len" = none) (c__law_draw : Cal P w K mg base 1 "_law_draw" ["_law_stream_here", "_law_many"] Sp__law_draw) : Cal P w K mg base 2 "_law_pick" ["_law_stream_here", "_law_items"] Sp__law_pick := by
  obtain ⟨f, fd, F, m⟩ := d
  refine ⟨f, fd, dfn (k := 1) (S := Sp__law_pick) F sc__law_pick ?len (fun cdv A outer s H E hr => (dss_one (ds_ret (de_ix (de_v 1) (de_callC c__law_draw (hr.mono (by decide)) (da_cons (de_v 0) (da_cons (de_len m_len (da_cons (de_v 1) da_nil)) da_nil))))))) ?h, F.kp, F.binds fun _ _ _ _ _ _ us hl => match us, hl with | [_, _], _ => rfl, m⟩
  case len =>
    intro g ds n Q h; rcases h with ⟨_, _, _, rfl, _⟩ | ⟨_, _, _, rfl, _⟩ <;> rfl
  case h =>
    intro g ds n Q h
    rcases h with ⟨k, xs, rfl, rfl, h0, hl, hf, q⟩ | ⟨k, z, rfl, rfl, h0, hl, hf, q⟩
    · obtain ⟨f1, rfl⟩ : ∃ f1, n = f1 + 1 := ⟨n - 1, by omega⟩
      refine ⟨k, (xs.length : Int), f1, rfl, rfl, by omega, by omega, rfl, fun r r0 r1 => ?_⟩
      obtain ⟨d, hd, hm⟩ := atI_mem (xs := xs) r0 r1
      exact ⟨d, hd, q d hm f1 (Nat.le_refl _)⟩
    · obtain ⟨f1, rfl⟩ : ∃ f1, n = f1 + 1 := ⟨n - 1, by omega⟩
      refine ⟨L1 hl, k, (z.length : Int), f1, rfl, rfl, by omega, by omega, rfl, fun r r0 r1 => ?_⟩
      obtain ⟨c, hc, hm⟩ := atI_mem (xs := z.cps.toList) r0 r1
      exact ⟨L1 hl, c, hc, q c hm f1 (Nat.le_refl _)⟩
/-! _law_names -/
abbrev s__law_names : Stmt := topS 74
theorem sc__law_names : FnScope ["_law_stream_here", "_law_many", "_law_letters", "_law_wide", "_law_place", "_law_shift", "_law_alike", "_law_found", "_law_body", "_law_k", "_law_code", "_law_length", "_law_t"] ["_law_stream_here", "_law_many"] (defScope s__law_names) := ⟨rfl, rfl, rfl, by decide +kernel, rfl, by decide +kernel, by decide +kernel⟩
def chr1 (c : Nat) : Str := ⟨#[c]⟩
theorem letter_eq {r : Int} (h0 : 0 ≤ r) (h1 : r < 26) : atI (Str.ofString "abcdefghijklmnopqrstuvwxyz").cps.toList r = some (97 + r.toNat) := by
  obtain ⟨j, rfl⟩ : ∃ j : Nat, r = j := ⟨r.toNat, by omega⟩
  refine atI_nat ?_
  rw [show (Str.ofString "abcdefghijklmnopqrstuvwxyz").cps.toList = List.range' 97 26 from by decide +kernel]
  rw [List.getElem?_range' (by omega)]
  show some (97 + 1 * j) = some (97 + ((j : Int)).toNat)
  rw [Int.toNat_natCast, Nat.one_mul]
theorem cs_of : ∀ {ys : List D}, (∀ y ∈ ys, ∃ c : Nat, y = .str (chr1 c) ∧ 97 ≤ c ∧ c ≤ 122) → ∃ cs : List Nat, ys = cs.map (fun c => D.str (chr1 c)) ∧ ∀ c ∈ cs, 97 ≤ c ∧ c ≤ 122
  | [], _ => ⟨[], rfl, by simp⟩
  | y :: ys, h => by
    obtain ⟨c, rfl, hc⟩ := h y (by simp)
    obtain ⟨cs, rfl, hcs⟩ := cs_of (ys := ys) fun z hz => h z (by simp [hz])
    exact ⟨c :: cs, rfl, fun d hd => (List.mem_cons.mp hd).elim (fun e => e ▸ hc) (hcs d)⟩
theorem cd_codes (cs : List Nat) : cd (Txt.join "" (cs.map chr1)) = cs := by
  rw [join_nil_cd, List.map_map]
  induction cs with
  | nil => rfl
  | cons c cs ih => rw [List.map_cons, List.flatten_cons, ih]; rfl
theorem cd_len (s : Str) : (cd s).length = s.length := (TL.len_tl s).symm
theorem cd_app (a b : Str) : cd (a ++ b) = cd a ++ cd b := TL.tl_append a b
theorem cd_to {b : Str} {p : Nat} (h : p ≤ b.length) : cd (cutS b none (some (p : Int))) = (cd b).take p := by
  show ((b.cps.toList.drop (HT.sIx b.length 0 none)).take (HT.sIx b.length b.length (some (p : Int)) - HT.sIx b.length 0 none)) = _
  rw [HT.sIx_none, show HT.sIx b.length b.length (some (p : Int)) = min p b.length from HT.sIx_nat b.length b.length p, Nat.min_eq_left h]
  rfl
theorem cd_from {b : Str} {p : Nat} (h : p ≤ b.length) : cd (cutS b (some (p : Int)) none) = (cd b).drop p := by
  show ((b.cps.toList.drop (HT.sIx b.length 0 (some (p : Int)))).take (HT.sIx b.length b.length none - HT.sIx b.length 0 (some (p : Int)))) = _
  rw [HT.sIx_none, show HT.sIx b.length 0 (some (p : Int)) = min p b.length from HT.sIx_nat b.length 0 p, Nat.min_eq_left h]
  refine List.take_of_length_le ?_
  rw [List.length_drop]
  exact Nat.le_of_eq (congrArg (· - p) (cd_len b))
/-- a body of letters -/
def Bd (b : Str) : Prop := ∀ c ∈ cd b, 97 ≤ c ∧ c ≤ 122
def Sp__law_names : DSp := fun g ds f Q => ∃ (k : Dk) (m : Nat), g = some k ∧ ds = [.any (.ref k.a), .int m] ∧ m ≤ 26 ∧ 250 ≤ f ∧
  ∀ (l : List Str) f', l.length = m → (∀ n ∈ l, isName n) → l.Nodup → f ≤ f' + 250 → Q (.lst (l.map D.str)) f'
set_option maxHeartbeats 2000000 in
theorem ok__law_names (d : Df K mg "_law_names" s__law_names) (m_range : mg "range" = none) (m_int : mg "int" = none) (c__law_pick : Cal P w K mg base 2 "_law_pick" ["_law_stream_here", "_law_items"] Sp__law_pick) (c__law_draw : Cal P w K mg base 1 "_law_draw" ["_law_stream_here", "_law_many"] Sp__law_draw) : Cal P w K mg base 3 "_law_names" ["_law_stream_here", "_law_many"] Sp__law_names := by
  obtain ⟨f, fd, F, m⟩ := d
  refine ⟨f, fd, dfn (k := 2) (S := Sp__law_names) F sc__law_names ?len (fun cdv A outer s H E hr => (dss_cons (ds_set false (i := 2) sc__law_names.nd de_str)
      (dss_cons (ds_set false (i := 3) sc__law_names.nd (de_ifExp (dp_gt (de_v 1) de_int) de_int (de_add de_int (de_callC c__law_draw (hr.mono (by decide)) (da_cons (de_v 0) (da_cons de_int da_nil))))))
      (dss_cons (ds_par3 false (i := 4) (j := 5) (l := 6) sc__law_names.nd (de_callC c__law_draw (hr.mono (by decide)) (da_cons (de_v 0) (da_cons (de_sub de_int (de_v 3)) da_nil))) (de_callC c__law_draw (hr.mono (by decide)) (da_cons (de_v 0) (da_cons de_int da_nil))) (de_eq hr.units (de_callC c__law_draw (hr.mono (by decide)) (da_cons (de_v 0) (da_cons de_int da_nil))) de_int))
      (dss_cons (ds_parLS (i := 7) (j := 8) sc__law_names.nd (dl_lst da_nil) (de_str))
      (dss_cons (ds_for [] PassesOwn.never (di_range1 m_range (da_cons (de_v 1) da_nil)) (dg_name (i := 9) sc__law_names.nd) (dss_cons (ds_if (DW.p (dw_or (dp_eq hr.units (de_v 9) de_int) (dw_or1 (dp_not (dp_val (de_v 6)))))) (dss_cons (ds_set false (i := 11) sc__law_names.nd (de_add (de_v 4) (de_callC c__law_draw (hr.mono (by decide)) (da_cons (de_v 0) (da_cons (de_sub (de_sub de_int (de_v 3)) (de_v 4)) da_nil)))))
      (dss_one (ds_set false (i := 8) sc__law_names.nd (de_join de_str (dl_lc (own := [("_law_t", 12)]) rfl sc__law_names.nd (di_range1 m_range (da_cons (de_v 11) da_nil)) (blkOk_by (own := [("_law_t", 12)]) (N := ["_law_stream_here", "_law_many", "_law_letters", "_law_wide", "_law_place", "_law_shift", "_law_alike", "_law_found", "_law_body", "_law_k", "_law_code", "_law_length", "_law_t"]) (sc := defScope s__law_names) (by decide +kernel)) (fun _ _ _ _ _ => dg_name (i := 12) sc__law_names.nd) (fun _ _ _ _ _ => dts_nil) (fun _ _ _ _ _ => (de_callC c__law_pick (hr.mono (by decide)) (da_cons (de_v 0) (da_cons (de_v 2) da_nil))))).e)))) dss_nil)
      (dss_cons (ds_set false (i := 10) sc__law_names.nd (de_ix (de_v 2) (de_mod (de_callTy call_int1 sc_int (by rfl) m_int PyProof.Rows.boot_int (da_cons (de_add (de_v 9) (de_v 5)) da_nil)) de_int)))
      (dss_cons (ds_if (dp_eq hr.units (de_v 3) de_int) (dss_one (ds_set false (i := 10) sc__law_names.nd (de_add (de_ix (de_v 2) (de_mod (de_callTy call_int1 sc_int (by rfl) m_int PyProof.Rows.boot_int (da_cons (de_add (de_fdiv (de_v 9) de_int) (de_v 5)) da_nil)) de_int)) (de_v 10)))) dss_nil)
      (dss_one (ds_app false (i := 7) (de_add (de_add (de_sl (de_v 8) do_none (do_some (de_v 4))) (de_v 10)) (de_sl (de_v 8) (do_some (de_v 4)) do_none))))))))
      (dss_one (ds_ret (de_v 7))))))))) ?h, F.kp, F.binds fun _ _ _ _ _ _ us hl => match us, hl with | [_, _], _ => rfl, m⟩
  case len =>
    intro g ds n Q h; obtain ⟨_, _, _, rfl, _⟩ := h; rfl
  case h =>
    intro g ds n Q h
    obtain ⟨k, m, rfl, rfl, hm, hf, q⟩ := h
    obtain ⟨f1, rfl⟩ : ∃ f1, n = f1 + 250 := ⟨n - 250, by omega⟩
    have lc : ∀ c ∈ (Str.ofString "abcdefghijklmnopqrstuvwxyz").cps.toList, 97 ≤ c ∧ c ≤ 122 := by decide +kernel
    show if decide ((m : Int) > 26) = true then _ else _
    rw [decide_eq_false (by omega)]
    refine iteF ⟨k, 2, f1 + 249, rfl, rfl, by decide, by decide, rfl, fun w0 w1 w2 => ?_⟩
    obtain ⟨wd, hwd⟩ : ∃ z : Nat, 1 + w0 = (z : Int) := ⟨(1 + w0).toNat, by omega⟩
    simp only [oAdd]
    rw [hwd]
    simp only [List.set_cons_succ, List.set_cons_zero, setsR, startR, List.map_cons, List.map_nil, List.cons_append, List.nil_append, List.replicate_succ, List.replicate_zero, List.length_cons, List.length_nil, Nat.reduceAdd, Nat.reduceSub]
    refine ⟨k, 9 - (wd : Int), f1 + 248, rfl, rfl, by omega, by omega, rfl, fun pl p0 p1 => ?_⟩
    obtain ⟨pl, rfl⟩ : ∃ z : Nat, pl = (z : Int) := ⟨pl.toNat, by omega⟩
    refine ⟨k, 26, f1 + 247, rfl, rfl, by decide, by decide, rfl, fun sh s0 s1 => ?_⟩
    refine ⟨k, 2, f1 + 246, rfl, rfl, by decide, by decide, rfl, fun al a0 a1 => ?_⟩
    refine ⟨Nat.zero_le _, ?_⟩
    simp only [List.set_cons_succ, List.set_cons_zero, setsR, startR, List.map_cons, List.map_nil, List.cons_append, List.nil_append, List.replicate_succ, List.replicate_zero, List.length_cons, List.length_nil, Nat.reduceAdd, Nat.reduceSub]
    refine ⟨by omega, by omega, ?_⟩
    have e0 : ((m : Int)).toNat = m := by omega
    rw [e0]
    refine dFor_range (fun i r f => ∃ (x y w v : Sl) (l : List Str) (b : Str), r = [.sh (.any (.ref k.a)), .sh (.int m), .sh (.str (Str.ofString "abcdefghijklmnopqrstuvwxyz")), .sh (.int wd), .sh (.int pl), .sh (.int sh), .sh (.bool (xb false (decide (al = 0)))), .ow (l.map D.str), .sh (.str b), x, y, w, v] ∧ l.length = i ∧ (∀ n ∈ l, isName n) ∧ (∀ j (h : j < l.length), (cd l[j])[pl + wd - 1]? = some (97 + (((j : Int) + sh) % 26).toNat)) ∧ (0 < i → Bd b ∧ pl ≤ b.length ∧ b.length + wd ≤ 8) ∧ f1 + 250 ≤ f + 8 * i + 4) 0 _ _ _ ?_ (fun r f => ?_) ⟨_, _, _, _, [], "", rfl, rfl, by simp, fun j h => by simp at h, by simp, by show f1 + 250 ≤ f1 + 246 + 8 * 0 + 4; omega⟩
    · rintro i r f N hi ⟨x, y, w, v, l, b, rfl, hl2, hn, hc, hb, hf2⟩ hN
      refine ⟨_, rfl, ?_⟩
      refine mid (fun r f => ∃ (y w v : Sl) (b : Str), r = [.sh (.any (.ref k.a)), .sh (.int m), .sh (.str (Str.ofString "abcdefghijklmnopqrstuvwxyz")), .sh (.int wd), .sh (.int pl), .sh (.int sh), .sh (.bool (xb false (decide (al = 0)))), .ow (l.map D.str), .sh (.str b), .sh (.int (0 + (i : Int))), y, w, v] ∧ (Bd b ∧ pl ≤ b.length ∧ b.length + wd ≤ 8) ∧ f1 + 250 ≤ f + 8 * (i + 1) + 4) ?_ (fun hk => ?_)
      · rintro r f ⟨y, w, v, b, rfl, ⟨hb1, hb2, hb3⟩, hf3⟩
        have v0 := Int.emod_nonneg ((0 + (i : Int)) + sh) (show (26 : Int) ≠ 0 by decide)
        have v1 := Int.emod_lt_of_pos ((0 + (i : Int)) + sh) (show (0 : Int) < 26 by decide)
        have hi0 : ((i : Int) + sh) % 26 = ((0 + (i : Int)) + sh) % 26 := by rw [Int.zero_add]
        refine ⟨show (0 : Int) < 26 by decide, by decide +kernel, _, letter_eq v0 v1, ?_⟩
        simp only [List.set_cons_succ, List.set_cons_zero, setsR, startR, List.map_cons, List.map_nil, List.cons_append, List.nil_append, List.replicate_succ, List.replicate_zero, List.length_cons, List.length_nil, Nat.reduceAdd, Nat.reduceSub]
        refine mid (fun r f => ∃ (w v : Sl) (c : Str), r = [.sh (.any (.ref k.a)), .sh (.int m), .sh (.str (Str.ofString "abcdefghijklmnopqrstuvwxyz")), .sh (.int wd), .sh (.int pl), .sh (.int sh), .sh (.bool (xb false (decide (al = 0)))), .ow (l.map D.str), .sh (.str b), .sh (.int (0 + (i : Int))), .sh (.str c), w, v] ∧ Bd c ∧ c.length = wd ∧ (cd c)[wd - 1]? = some (97 + (((i : Int) + sh) % 26).toNat) ∧ f1 + 250 ≤ f + 8 * (i + 1) + 4) ?_ (fun hk2 => ?_)
        · rintro r f ⟨w, v, c, rfl, hc1, hc2, hc3, hf4⟩
          have la : (cutS b none (some (pl : Int))).length = pl := by
            rw [← cd_len, cd_to hb2, List.length_take, cd_len]
            exact Nat.min_eq_left hb2
          have lb : (cutS b (some (pl : Int)) none).length = b.length - pl := by
            rw [← cd_len, cd_from hb2, List.length_drop, cd_len]
          have L : ∀ {n : Nat}, n ≤ 100 → n ≤ lim := fun h => Nat.le_trans h (by decide)
          refine ⟨_, rfl, L (by omega), L (by rw [la]; omega), L (by omega), L (by rw [app_len, la, lb]; omega), L (by rw [List.length_map]; omega), ?_⟩
          refine hN _ _ ⟨_, _, _, _, l ++ [cutS b none (some (pl : Int)) ++ c ++ cutS b (some (pl : Int)) none], b, by rw [List.map_append]; rfl, by rw [List.length_append, hl2]; rfl, fun x hx => ?_, fun j hj' => ?_, fun _ => ⟨hb1, hb2, hb3⟩, by omega⟩
          · rcases List.mem_append.mp hx with h | h
            · exact hn x h
            · rw [List.mem_singleton.mp h]
              refine ⟨?_, ?_, fun d hd => ?_⟩
              · rw [app_len, app_len, la, lb]; omega
              · rw [app_len, app_len, la, lb]; omega
              · have hd : d ∈ cd (cutS b none (some (pl : Int)) ++ c ++ cutS b (some (pl : Int)) none) := hd
                rw [cd_app, cd_app, cd_to hb2, cd_from hb2] at hd
                rcases List.mem_append.mp hd with h | h
                · rcases List.mem_append.mp h with h | h
                  · exact hb1 d (List.mem_of_mem_take h)
                  · exact hc1 d h
                · exact hb1 d (List.mem_of_mem_drop h)
          · rw [List.length_append] at hj'
            have hj' : j < l.length + 1 := hj'
            by_cases hjl : j < l.length
            · rw [List.getElem_append_left hjl]
              exact hc j hjl
            · have : j = l.length := by omega
              subst this
              rw [List.getElem_append_right (Nat.le_refl _)]
              simp only [Nat.sub_self, List.getElem_cons_zero]
              rw [cd_app, cd_app, cd_to hb2, cd_from hb2]
              have lt : ((cd b).take pl).length = pl := by rw [List.length_take, cd_len]; exact Nat.min_eq_left hb2
              rw [List.getElem?_append_left (by rw [List.length_append, lt, cd_len]; omega), List.getElem?_append_right (by rw [lt]; omega), lt, show pl + wd - 1 - pl = wd - 1 by omega, hc3, hl2]
        · show if decide ((wd : Int) = 2) = true then _ else _
          by_cases h2 : (wd : Int) = 2
          · rw [decide_eq_true h2]
            refine iteT ?_
            have u0 := Int.emod_nonneg ((0 + (i : Int)) / 26 + sh) (show (26 : Int) ≠ 0 by decide)
            have u1 := Int.emod_lt_of_pos ((0 + (i : Int)) / 26 + sh) (show (0 : Int) < 26 by decide)
            refine ⟨⟨by decide, by decide⟩, show (0 : Int) < 26 by decide, by decide +kernel, _, letter_eq u0 u1, show 1 + 1 ≤ lim by decide, ?_⟩
            have w2 : wd = 2 := by omega
            refine hk2 _ _ ⟨_, _, _, rfl, fun c hc => ?_, ?_, ?_, by omega⟩
            · have hc : c ∈ [97 + (((0 + (i : Int)) / 26 + sh) % 26).toNat, 97 + ((0 + (i : Int) + sh) % 26).toNat] := hc
              simp only [List.mem_cons, List.not_mem_nil, or_false] at hc
              rcases hc with rfl | rfl <;> omega
            · rw [w2]; rfl
            · rw [w2, hi0]; rfl
          · rw [decide_eq_false h2]
            have w1 : wd = 1 := by omega
            refine iteF (nxt (hk2 _ _ ⟨_, _, _, rfl, fun c hc => ?_, ?_, ?_, by omega⟩))
            · have hc : c ∈ [97 + ((0 + (i : Int) + sh) % 26).toNat] := hc
              rw [List.mem_singleton.mp hc]
              omega
            · rw [w1]; rfl
            · rw [w1, hi0]; rfl
      · have wd1 : 1 ≤ wd := by omega
        show if decide ((0 + (i : Int)) = 0) = true then _ else _
        by_cases hz : (0 + (i : Int)) = 0
        · rw [decide_eq_true hz]
          refine iteT ?_
          obtain ⟨f3, rfl⟩ : ∃ f3, f = f3 + 1 := ⟨f - 1, by omega⟩
          refine ⟨k, 9 - (wd : Int) - (pl : Int), f3, rfl, rfl, by omega, by omega, rfl, fun ln n0 n1 => ?_⟩
          obtain ⟨z, hz2⟩ : ∃ z : Nat, (pl : Int) + ln = (z : Int) := ⟨((pl : Int) + ln).toNat, by omega⟩
          simp only [oAdd]
          rw [hz2]
          simp only [List.set_cons_succ, List.set_cons_zero, setsR, startR, List.map_cons, List.map_nil, List.cons_append, List.nil_append, List.replicate_succ, List.replicate_zero, List.length_cons, List.length_nil, Nat.reduceAdd, Nat.reduceSub]
          refine ⟨trivial, by omega, by omega, by rw [intsD_len]; exact L1 (by omega), ?_⟩
          refine dLcGo_each (P := fun y => ∃ c : Nat, y = .str (chr1 c) ∧ 97 ≤ c ∧ c ≤ 122) 1 _ _ _ (by rw [intsD_len]; omega) (fun d _ => ⟨_, rfl, fun f Q hf hq => .inr ⟨k, _, rfl, rfl, by decide +kernel, by decide +kernel, hf, fun c hc f' hf' => hq _ _ ⟨c, rfl, lc c hc⟩ hf'⟩⟩) (fun ys f' hl hy hf' => ?_)
          rw [intsD_len] at hl hf'
          obtain ⟨cs, rfl, hcs⟩ := cs_of hy
          rw [List.length_map] at hl
          refine ⟨cs.map chr1, by rw [List.map_map]; rfl, join_names _ (fun x hx => ?_) (by rw [List.length_map]; omega) _ (by decide +kernel), ?_⟩
          · obtain ⟨c, _, rfl⟩ := List.mem_map.mp hx
            exact (by decide : 1 ≤ 1000)
          have jl : (Txt.join "" (cs.map chr1)).length = z := by
            rw [← cd_len, cd_codes, hl]
            omega
          exact hk _ _ ⟨_, _, _, Txt.join "" (cs.map chr1), rfl, ⟨fun c hc => by rw [cd_codes] at hc; exact hcs c hc, by omega, by omega⟩, by omega⟩
        · rw [decide_eq_false hz]
          refine iteF ?_
          show if (!(xb false (decide (al = 0)))) = true then _ else _
          by_cases e : al = 0
          · rw [decide_eq_true e] at hk ⊢
            exact iteF (nxt (hk _ _ ⟨_, _, _, b, rfl, hb (by omega), by omega⟩))
          · rw [decide_eq_false e] at hk ⊢
            refine iteT ?_
            obtain ⟨f3, rfl⟩ : ∃ f3, f = f3 + 1 := ⟨f - 1, by omega⟩
            refine ⟨k, 9 - (wd : Int) - (pl : Int), f3, rfl, rfl, by omega, by omega, rfl, fun ln n0 n1 => ?_⟩
            obtain ⟨z, hz2⟩ : ∃ z : Nat, (pl : Int) + ln = (z : Int) := ⟨((pl : Int) + ln).toNat, by omega⟩
            simp only [oAdd]
            rw [hz2]
            simp only [List.set_cons_succ, List.set_cons_zero, setsR, startR, List.map_cons, List.map_nil, List.cons_append, List.nil_append, List.replicate_succ, List.replicate_zero, List.length_cons, List.length_nil, Nat.reduceAdd, Nat.reduceSub]
            refine ⟨trivial, by omega, by omega, by rw [intsD_len]; exact L1 (by omega), ?_⟩
            refine dLcGo_each (P := fun y => ∃ c : Nat, y = .str (chr1 c) ∧ 97 ≤ c ∧ c ≤ 122) 1 _ _ _ (by rw [intsD_len]; omega) (fun d _ => ⟨_, rfl, fun f Q hf hq => .inr ⟨k, _, rfl, rfl, by decide +kernel, by decide +kernel, hf, fun c hc f' hf' => hq _ _ ⟨c, rfl, lc c hc⟩ hf'⟩⟩) (fun ys f' hl hy hf' => ?_)
            rw [intsD_len] at hl hf'
            obtain ⟨cs, rfl, hcs⟩ := cs_of hy
            rw [List.length_map] at hl
            refine ⟨cs.map chr1, by rw [List.map_map]; rfl, join_names _ (fun x hx => ?_) (by rw [List.length_map]; omega) _ (by decide +kernel), ?_⟩
            · obtain ⟨c, _, rfl⟩ := List.mem_map.mp hx
              exact (by decide : 1 ≤ 1000)
            have jl : (Txt.join "" (cs.map chr1)).length = z := by
              rw [← cd_len, cd_codes, hl]
              omega
            exact hk _ _ ⟨_, _, _, Txt.join "" (cs.map chr1), rfl, ⟨fun c hc => by rw [cd_codes] at hc; exact hcs c hc, by omega, by omega⟩, by omega⟩
    · rintro ⟨x, y, w, v, l, b, rfl, hl2, hn, hc, hb, hf2⟩
      refine q l f hl2 hn ?_ (by omega)
      refine List.pairwise_iff_getElem.mpr fun i j hi hj hij e => ?_
      have h1 := hc i hi
      have h2 := hc j hj
      rw [e, h2] at h1
      have h1 := Option.some.inj h1
      omega
def hsC (w : List Nat) : Bool := decide (w.head? = some 35)
def neC (w : List Nat) : Bool := !decide (w = [])
def wdsC (l : List Nat) : List (List Nat) := ((spx 32 l).takeWhile fun w => !hsC w).filter neC
theorem hs_cd (w : Str) : hs w = hsC (cd w) := by
  unfold hs hsC
  rw [Bool.eq_iff_iff, decide_eq_true_iff, starts_cd, show cd (Str.ofString "#") = [35] from by decide +kernel]
  cases cd w with
  | nil => exact ⟨fun h => (by cases h), fun h => (by cases h)⟩
  | cons a r =>
    show (35 == a && List.isPrefixOf [] r) = true ↔ some a = some 35
    refine ⟨fun h => ?_, fun h => ?_⟩
    · have := (Bool.and_eq_true_iff.mp h).1
      rw [beq_iff_eq] at this
      rw [this]
    · obtain rfl := Option.some.inj h
      rfl
theorem ne_cd (w : Str) : ne0 w = neC (cd w) := by
  unfold ne0 neC
  congr 1
  refine decide_eq_decide.mpr ⟨fun h => by rw [h]; rfl, fun h => TL.ext_tl h⟩
theorem wds_cd (s : Str) : (wdsOf s).map cd = wdsC (cd s) := by
  unfold wdsOf wdsC
  rw [← split_sp, List.takeWhile_map, List.filter_map]
  congr 1
  have e1 : (fun w => !hs w) = ((fun w => !hsC w) ∘ cd) := by funext w; show (!hs w) = (!hsC (cd w)); rw [hs_cd]
  have e2 : ne0 = neC ∘ cd := by funext w; exact ne_cd w
  rw [e1, e2]
theorem cd_inj {a b : List Str} (h : a.map cd = b.map cd) : a = b := (List.map_inj_right (f := cd) fun x y e => TL.ext_tl e).mp h
theorem spx_rep (k : Nat) : spx 32 (List.replicate k 32) = List.replicate k [] ++ [[]] := by
  induction k with
  | zero => rfl
  | succ k ih =>
    rw [List.replicate_succ, show spx 32 (32 :: List.replicate k 32) = [] :: spx 32 (List.replicate k 32) from rfl, ih, List.replicate_succ]
    rfl
theorem spx_cat {c : Nat} : ∀ {l m : List Nat} {ps : List (List Nat)}, spx c l = ps ++ [[]] → spx c (l ++ m) = ps ++ spx c m
  | [], m, ps, h => by
    have : ps = [] := by
      have := congrArg List.length h
      simp [spx] at this
      exact this
    rw [this]; rfl
  | a :: l, m, ps, h => by
    rw [show spx c (a :: l) = if a = c then [] :: spx c l else (match spx c l with | [] => [[a]] | h :: t => (a :: h) :: t) from rfl] at h
    show spx c (a :: (l ++ m)) = _
    rw [show spx c (a :: (l ++ m)) = if a = c then [] :: spx c (l ++ m) else (match spx c (l ++ m) with | [] => [[a]] | h :: t => (a :: h) :: t) from rfl]
    by_cases hc : a = c
    · rw [if_pos hc] at h ⊢
      cases ps with
      | nil => exact absurd (List.cons.inj h).2 (spx_ne c l)
      | cons p ps =>
        have h1 : [] = p := (List.cons.inj h).1
        have h2 : spx c l = ps ++ [[]] := (List.cons.inj h).2
        rw [← h1, spx_cat h2]; rfl
    · rw [if_neg hc] at h ⊢
      cases e : spx c l with
      | nil => exact absurd e (spx_ne c l)
      | cons x t =>
        rw [e] at h
        cases ps with
        | nil => cases h
        | cons p ps =>
          have h1 : a :: x = p := (List.cons.inj h).1
          have h2 : t = ps ++ [[]] := (List.cons.inj h).2
          have e2 : spx c l = (x :: ps) ++ [[]] := by rw [e, h2]; rfl
          rw [← h1, spx_cat e2]; rfl
/-- a line that ends with a space or is empty -/
def Ln (l : List Nat) (W : List (List Nat)) : Prop := ∃ ps, spx 32 l = ps ++ [[]] ∧ ps.filter neC = W ∧ ∀ p ∈ ps, hsC p = false
theorem ln_start (a : Nat) : Ln (List.replicate a 32) [] := by
  refine ⟨List.replicate a [], spx_rep a, ?_, fun p hp => by rw [List.eq_of_mem_replicate hp]; rfl⟩
  exact List.filter_eq_nil_iff.mpr fun p hp => by rw [List.eq_of_mem_replicate hp]; decide
theorem Ln.add {l : List Nat} {W : List (List Nat)} {w : List Nat} (h : Ln l W) (h1 : w ≠ []) (h2 : 32 ∉ w) (h3 : w.head? ≠ some 35) (b : Nat) : Ln (l ++ w ++ List.replicate (b + 1) 32) (W ++ [w]) := by
  obtain ⟨ps, e, hW, hp⟩ := h
  refine ⟨ps ++ [w] ++ List.replicate b [], ?_, ?_, fun p hp' => ?_⟩
  · rw [List.append_assoc, spx_cat e, List.replicate_succ, spx_app, spx_one h2, spx_rep]
    simp
  · rw [List.filter_append, List.filter_append, hW, List.filter_cons, show neC w = true by unfold neC; rw [decide_eq_false h1]; rfl, if_pos rfl, List.filter_nil]
    rw [List.filter_eq_nil_iff.mpr fun p hp => by rw [List.eq_of_mem_replicate hp]; decide, List.append_nil]
  · rcases List.mem_append.mp hp' with h | h
    · rcases List.mem_append.mp h with h | h
      · exact hp p h
      · rw [List.mem_singleton.mp h]
        unfold hsC
        exact decide_eq_false h3
    · rw [List.eq_of_mem_replicate h]; rfl
theorem tw_pass {α : Type} {p : α → Bool} {l m : List α} (h : ∀ x ∈ l, p x = true) : (l ++ m).takeWhile p = l ++ m.takeWhile p := List.takeWhile_append_of_pos h
theorem Ln.wds {l : List Nat} {W : List (List Nat)} (h : Ln l W) : wdsC l = W := by
  obtain ⟨ps, e, hW, hp⟩ := h
  unfold wdsC
  rw [e, tw_pass (fun p hp' => by rw [hp p hp']; rfl), List.filter_append, hW]
  show W ++ [] = W
  rw [List.append_nil]
theorem Ln.note {l c : List Nat} {W : List (List Nat)} {x : List Nat} {t : List (List Nat)} (h : Ln l W) (hc : spx 32 c = x :: t) (hx : hsC x = true) : wdsC (l ++ c) = W := by
  obtain ⟨ps, e, hW, hp⟩ := h
  unfold wdsC
  rw [spx_cat e, tw_pass (fun p hp' => by rw [hp p hp']; rfl), hc, List.takeWhile_cons, hx]
  rw [if_neg (by decide), List.append_nil, hW]
theorem wds_pad (r : List Nat) : ∀ k, wdsC (r ++ List.replicate k 32) = wdsC r
  | 0 => by rw [List.replicate_zero, List.append_nil]
  | k + 1 => by
    unfold wdsC
    rw [List.replicate_succ, spx_app, spx_rep, show List.replicate k [] ++ [[]] = List.replicate (k + 1) ([] : List Nat) from List.replicate_succ'.symm, List.takeWhile_append]
    split
    · next h =>
      have e1 : (spx 32 r).takeWhile (fun w => !hsC w) = spx 32 r := (List.takeWhile_prefix _).eq_of_length h
      have e2 : ((List.replicate (k + 1) ([] : List Nat)).takeWhile (fun w => !hsC w)).filter neC = [] := List.filter_eq_nil_iff.mpr fun p hp => by
        have := (List.takeWhile_sublist _).subset hp
        rw [List.eq_of_mem_replicate this]; decide
      rw [e1, List.filter_append, e2, List.append_nil]
    · rfl
/-! _law_messy_line -/
abbrev s__law_messy_line : Stmt := topS 83
theorem sc__law_messy_line : FnScope ["_law_stream_here", "_law_words", "_law_line", "_law_word"] ["_law_stream_here", "_law_words"] (defScope s__law_messy_line) := ⟨rfl, rfl, rfl, by decide +kernel, rfl, by decide +kernel, by decide +kernel⟩
def noteB (c : Str) : Bool := (match spx 32 (cd c) with
  | x :: _ => hsC x
  | [] => false) && (decide (∀ d ∈ cd c, d < 128 ∧ d ≠ 10) && decide (c.length ≤ 7))
theorem note_ok {c : Str} (h : noteB c = true) : (∃ x t, spx 32 (cd c) = x :: t ∧ hsC x = true) ∧ asc c ∧ 10 ∉ cd c ∧ c.length ≤ 7 := by
  unfold noteB at h
  rw [Bool.and_eq_true, Bool.and_eq_true] at h
  obtain ⟨h1, h2, h3⟩ := h
  have h2 := of_decide_eq_true h2
  refine ⟨?_, fun d hd => (h2 d hd).1, fun hd => (h2 10 hd).2 rfl, of_decide_eq_true h3⟩
  cases e : spx 32 (cd c) with
  | nil => rw [e] at h1; cases h1
  | cons x t => rw [e] at h1; exact ⟨x, t, rfl, h1⟩
/-- a word of a line -/
structure Wd (w : Str) : Prop where
  a : asc w
  n : cd w ≠ []
  s : 32 ∉ cd w
  l : 10 ∉ cd w
  h : (cd w).head? ≠ some 35
  b : w.length ≤ 54
def Sp__law_messy_line : DSp := fun g ds f Q => ∃ (k : Dk) (ws : List Str), g = some k ∧ ds = [.any (.ref k.a), .lst (ws.map D.str)] ∧ ws.length ≤ 300 ∧ (∀ w ∈ ws, Wd w) ∧ ws.length + 3 ≤ f ∧
  ∀ (s : Str) f', wdsOf s = ws → asc s → 10 ∉ cd s → s.length ≤ 57 * ws.length + 20 → f ≤ f' + (ws.length + 3) → Q (.str s) f'
set_option maxHeartbeats 2000000 in
theorem ok__law_messy_line (d : Df K mg "_law_messy_line" s__law_messy_line) (c__law_draw : Cal P w K mg base 1 "_law_draw" ["_law_stream_here", "_law_many"] Sp__law_draw) (c__law_pick : Cal P w K mg base 2 "_law_pick" ["_law_stream_here", "_law_items"] Sp__law_pick) : Cal P w K mg base 3 "_law_messy_line" ["_law_stream_here", "_law_words"] Sp__law_messy_line := by
  obtain ⟨f, fd, F, m⟩ := d
  refine ⟨f, fd, dfn (k := 2) (S := Sp__law_messy_line) F sc__law_messy_line ?len (fun cdv A outer s H E hr => (dss_cons (ds_set false (i := 2) sc__law_messy_line.nd (de_mulS de_str (de_callC c__law_draw (hr.mono (by decide)) (da_cons (de_v 0) (da_cons de_int da_nil)))))
      (dss_cons (ds_for [] PassesOwn.never (di_seq (de_v 1)) (dg_name (i := 3) sc__law_messy_line.nd) (dss_one (ds_set false (i := 2) sc__law_messy_line.nd (de_add (de_add (de_v 2) (de_v 3)) (de_mulS de_str (de_add de_int (de_callC c__law_draw (hr.mono (by decide)) (da_cons (de_v 0) (da_cons de_int da_nil)))))))))
      (dss_cons (ds_if (dp_eq hr.units (de_callC c__law_draw (hr.mono (by decide)) (da_cons (de_v 0) (da_cons de_int da_nil))) de_int) (dss_one (ds_ret (de_add (de_v 2) (de_callC c__law_pick (hr.mono (by decide)) (da_cons (de_v 0) (da_cons (dl_lst (da_cons de_str (da_cons de_str (da_cons de_str (da_cons de_str (da_cons de_str da_nil)))))).e da_nil)))))) dss_nil)
      (dss_one (ds_ret (de_ifExp (dp_eq hr.units (de_callC c__law_draw (hr.mono (by decide)) (da_cons (de_v 0) (da_cons de_int da_nil))) de_int) (de_v 2) (de_rstrip (de_v 2) de_str)))))))) ?h, F.kp, F.binds fun _ _ _ _ _ _ us hl => match us, hl with | [_, _], _ => rfl, m⟩
  case len =>
    intro g ds n Q h; obtain ⟨_, _, _, rfl, _⟩ := h; rfl
  case h =>
    intro g ds n Q h
    obtain ⟨k, ws, rfl, rfl, hl, hw, hf, q⟩ := h
    obtain ⟨f1, rfl⟩ : ∃ f1, n = f1 + (ws.length + 3) := ⟨n - (ws.length + 3), by omega⟩
    refine ⟨k, 3, f1 + (ws.length + 2), rfl, rfl, by decide, by decide, rfl, fun x x0 x1 => ?_⟩
    have hmul : ∀ z : Int, 0 ≤ z → z ≤ 3 → CMulS (Str.ofString " ") z := fun z h0 h1 => ⟨h0, by omega, by rw [show (Str.ofString " ").length = 1 from by decide +kernel]; exact L1 (by omega)⟩
    have hcd : ∀ z : Int, 0 ≤ z → z ≤ 3 → cd (Txt.mul " " z) = List.replicate z.toNat 32 := fun z h0 h1 => by
      have : z = 0 ∨ z = 1 ∨ z = 2 ∨ z = 3 := by omega
      rcases this with rfl | rfl | rfl | rfl <;> decide +kernel
    refine ⟨hmul x x0 (by omega), ?_⟩
    simp only [List.set_cons_succ, List.set_cons_zero, setsR, startR, List.map_cons, List.map_nil, List.cons_append, List.nil_append, List.replicate_succ, List.replicate_zero, List.length_cons, List.length_nil, Nat.reduceAdd, Nat.reduceSub]
    refine mid (fun r f => ∃ (s : Str) (a : Sl), r = [.sh (.any (.ref k.a)), .sh (.lst (ws.map D.str)), .sh (.str s), a] ∧ Ln (cd s) (ws.map cd) ∧ asc s ∧ 10 ∉ cd s ∧ s.length ≤ 2 + 56 * ws.length ∧ f1 + 2 ≤ f) ?_ (fun hk => ?_)
    · rintro r f ⟨s, a, rfl, hL, ha, hn, hsl, hf2⟩
      obtain ⟨f2, rfl⟩ : ∃ f2, f = f2 + 2 := ⟨f - 2, by omega⟩
      refine ⟨k, 4, f2 + 1, rfl, rfl, by decide, by decide, rfl, fun y y0 y1 => ?_⟩
      show if decide (y = 0) = true then _ else _
      by_cases h0 : y = 0
      · rw [decide_eq_true h0]
        refine iteT ⟨show 5 ≤ lim by decide, ?_⟩
        refine .inl ⟨k, _, rfl, rfl, by exact (show 0 < 5 by decide), by exact (show 5 ≤ 100000 by decide), by omega, fun cd' hcd' f3 hf3 => ?_⟩
        obtain ⟨c, rfl, hc⟩ : ∃ c, cd' = .str c ∧ noteB c = true := by
          simp only [List.mem_cons, List.not_mem_nil, or_false] at hcd'
          rcases hcd' with rfl | rfl | rfl | rfl | rfl <;> exact ⟨_, rfl, by decide +kernel⟩
        obtain ⟨⟨x', t', hx1, hx2⟩, hc2, hc3, hc4⟩ := note_ok hc
        have ecd : cd (s ++ c) = cd s ++ cd c := cd_app s c
        refine ⟨L1 (by omega), q _ _ (cd_inj ?_) (asc_app ha hc2) ?_ (by rw [app_len]; omega) (by omega)⟩
        · rw [wds_cd, ecd]
          exact hL.note hx1 hx2
        · rw [ecd]
          exact fun h => (List.mem_append.mp h).elim hn hc3
      · rw [decide_eq_false h0]
        refine iteF (nxt ?_)
        refine ⟨k, 2, f2, rfl, rfl, by decide, by decide, rfl, fun z z0 z1 => ?_⟩
        show if decide (z = 0) = true then _ else _
        have es : wdsOf s = ws := cd_inj (by rw [wds_cd]; exact hL.wds)
        by_cases h1 : z = 0
        · rw [decide_eq_true h1]
          refine iteT (q s _ es ha hn (by omega) (by omega))
        · rw [decide_eq_false h1]
          refine iteF ⟨trivial, L1 (by omega), ?_⟩
          obtain ⟨j, hj⟩ := rstrip_cd s
          have hsub : ∀ c ∈ cd (Txt.rstripChars s " "), c ∈ cd s := fun c hc => by rw [← hj]; exact List.mem_append.mpr (.inl hc)
          have hlen : (Txt.rstripChars s " ").length ≤ s.length := by
            have := congrArg List.length hj
            rw [List.length_append, cd_len, cd_len] at this
            omega
          refine q _ _ (cd_inj ?_) (fun c hc => ha c (hsub c hc)) (fun h => hn (hsub _ h)) (by omega) (by omega)
          rw [wds_cd, ← wds_pad _ j, hj]
          exact hL.wds
    · refine dFor_list D.str (fun done rest r f => ∃ (s : Str) (a : Sl), r = [.sh (.any (.ref k.a)), .sh (.lst (ws.map D.str)), .sh (.str s), a] ∧ Ln (cd s) (done.map cd) ∧ asc s ∧ 10 ∉ cd s ∧ s.length ≤ 2 + 56 * done.length ∧ f1 + (ws.length + 2) ≤ f + done.length) _ _ _ ?_ ?_ ⟨_, _, rfl, ?_, ?_, ?_, ?_, ?_⟩
      · rintro done w rest r f N hx ⟨s, a, rfl, hL, ha, hn, hsl, hf2⟩ hN
        have hxl := congrArg List.length hx
        rw [List.length_append, List.length_cons] at hxl
        have hwd := hw w (by rw [hx]; simp)
        have hwb := hwd.b
        obtain ⟨f3, rfl⟩ : ∃ f3, f = f3 + 1 := ⟨f - 1, by omega⟩
        refine ⟨_, rfl, L1 (by omega), k, 2, f3, rfl, rfl, by decide, by decide, rfl, fun y y0 y1 => ?_⟩
        have em := hcd (1 + y) (by omega) (by omega)
        have el : (Txt.mul " " (1 + y)).length ≤ 2 := by
          rw [← cd_len, em, List.length_replicate]
          omega
        refine ⟨hmul (1 + y) (by omega) (by omega), L1 (by rw [app_len]; omega), ?_⟩
        have e1 : (1 + y).toNat = y.toNat + 1 := by omega
        have ecd : cd (s ++ w ++ Txt.mul " " (1 + y)) = cd s ++ cd w ++ List.replicate (y.toNat + 1) 32 := by
          rw [cd_app, cd_app, em, e1]
        have hmem : ∀ d ∈ cd (s ++ w ++ Txt.mul " " (1 + y)), d ∈ cd s ∨ d ∈ cd w ∨ d = 32 := fun d hd => by
          rw [ecd] at hd
          rcases List.mem_append.mp hd with h | h
          · rcases List.mem_append.mp h with h | h
            · exact .inl h
            · exact .inr (.inl h)
          · exact .inr (.inr (List.eq_of_mem_replicate h))
        refine hN _ _ ⟨s ++ w ++ Txt.mul " " (1 + y), _, rfl, ?_, fun d hd => ?_, fun hd => ?_, ?_, ?_⟩
        · rw [ecd, List.map_append]
          exact hL.add hwd.n hwd.s hwd.h y.toNat
        · rcases hmem d hd with h | h | h
          · exact ha d h
          · exact hwd.a d h
          · rw [h]; decide
        · rcases hmem 10 hd with h | h | h
          · exact hn h
          · exact hwd.l h
          · cases h
        · rw [app_len, app_len, List.length_append, List.length_singleton]; omega
        · rw [List.length_append, List.length_singleton]; omega
      · rintro r f ⟨s, a, rfl, hL, ha, hn, hsl, hf2⟩
        exact hk _ _ ⟨s, a, rfl, hL, ha, hn, hsl, by omega⟩
      · rw [hcd x x0 (by omega)]
        exact ln_start _
      · intro d hd
        rw [hcd x x0 (by omega)] at hd
        rw [List.eq_of_mem_replicate hd]; decide
      · intro hd
        rw [hcd x x0 (by omega)] at hd
        cases List.eq_of_mem_replicate hd
      · rw [← cd_len, hcd x x0 (by omega), List.length_replicate]
        show x.toNat ≤ 2 + 56 * 0
        omega
      · show f1 + (ws.length + 2) ≤ f1 + (ws.length + 2) + 0
        omega
theorem path_chars {p : Str} (h : PathN 6 p) : ∀ c ∈ cd p, c = 46 ∨ (97 ≤ c ∧ c ≤ 122) := by
  obtain ⟨ns, h1, h2, h3, rfl⟩ := h
  intro c hc
  rw [cd_join] at hc
  rcases jn_mem hc with e | ⟨n, hn, e⟩
  · exact .inl e
  · obtain ⟨s, hs, rfl⟩ := List.mem_map.mp hn
    exact .inr ((h3 s hs).2.2 c e)
theorem path_ne {p : Str} (h : PathN 6 p) : cd p ≠ [] := by
  obtain ⟨ns, h1, h2, h3, rfl⟩ := h
  rw [cd_join]
  cases ns with
  | nil => simp at h1
  | cons a r =>
    have ha := (h3 a (by simp)).1
    rw [← cd_len] at ha
    cases r with
    | nil => intro e; have e : cd a = [] := e; rw [e] at ha; simp at ha
    | cons b r => intro e; have e : cd a ++ 46 :: jn (cd b :: r.map cd) = [] := e; simp at e
theorem wd_path {p : Str} (h : PathN 6 p) : Wd p where
  a := h.asc
  n := path_ne h
  s := fun hc => by rcases path_chars h _ hc with e | e <;> omega
  l := fun hc => by rcases path_chars h _ hc with e | e <;> omega
  h := fun e => by
    have := path_chars h 35 (List.mem_of_mem_head? e)
    rcases this with e | e <;> omega
  b := h.len
theorem wdsC_row {W : List (List Nat)} (h : ∀ w ∈ W, w ≠ [] ∧ 32 ∉ w ∧ w.head? ≠ some 35) : wdsC (jnx 32 W) = W := by
  cases W with
  | nil => decide +kernel
  | cons a r =>
    unfold wdsC
    rw [spx_jnx (by simp) fun w hw => (h w hw).2.1]
    have := List.takeWhile_append_of_pos (p := fun w => !hsC w) (l₁ := a :: r) (l₂ := []) (fun w hw => by
      unfold hsC
      rw [decide_eq_false (h w hw).2.2]; rfl)
    rw [List.append_nil, List.takeWhile_nil, List.append_nil] at this
    rw [this]
    exact List.filter_eq_self.mpr fun w hw => by unfold neC; rw [decide_eq_false (h w hw).1]; rfl
theorem cd_join_e (ns : List Str) : cd (Txt.join "" ns) = (ns.map cd).flatten := join_nil_cd ns
theorem flat_jnx : ∀ (ls : List (List Nat)), (ls.map (· ++ [10])).flatten = if ls = [] then [] else jnx 10 ls ++ [10]
  | [] => rfl
  | [a] => by simp [jnx]
  | a :: b :: r => by
    rw [List.map_cons, List.flatten_cons, flat_jnx (b :: r), if_neg (by simp), if_neg (by simp)]
    show a ++ [10] ++ (jnx 10 (b :: r) ++ [10]) = a ++ 10 :: jnx 10 (b :: r) ++ [10]
    simp
theorem perm_map {α β : Type} {f : α → β} {ys zs : List β} (h : ys.Perm zs) : ∀ l : List α, zs = l.map f → ∃ l' : List α, l'.Perm l ∧ ys = l'.map f := by
  induction h with
  | nil => exact fun l e => ⟨[], by rw [List.map_eq_nil_iff.mp e.symm], rfl⟩
  | cons x _ ih =>
    intro l e
    cases l with
    | nil => cases e
    | cons a l =>
      obtain ⟨e1, e2⟩ := List.cons.inj e
      obtain ⟨l', h1, h2⟩ := ih l e2
      exact ⟨a :: l', h1.cons a, by rw [List.map_cons, ← e1, h2]⟩
  | swap x y l0 =>
    intro l e
    match l, e with
    | a :: b :: l, e =>
      obtain ⟨e1, e2⟩ := List.cons.inj e
      obtain ⟨e2, e3⟩ := List.cons.inj e2
      exact ⟨b :: a :: l, List.Perm.swap a b l, by rw [List.map_cons, List.map_cons, ← e1, ← e2, ← e3]⟩
  | trans _ _ ih1 ih2 =>
    intro l e
    obtain ⟨l2, h1, h2⟩ := ih2 l e
    obtain ⟨l3, h3, h4⟩ := ih1 l2 h2
    exact ⟨l3, h3.trans h1, h4⟩
theorem cutD_mid (l : List Str) (a b : Nat) (ha : a ≤ l.length) (hb : b ≤ l.length) : cutD (l.map D.str) (some (a : Int)) (some (b : Int)) = ((l.drop a).take (b - a)).map D.str := by
  unfold cutD
  rw [HT.sIx_nat, HT.sIx_nat, List.length_map, Nat.min_eq_left ha, Nat.min_eq_left hb, List.map_take, List.map_drop]
theorem cutD_dropS (l : List Str) (a : Nat) : cutD (l.map D.str) (some (a : Int)) none = (l.drop a).map D.str := by rw [cutD_drop', List.map_drop]
theorem flat_len {B : Nat} : ∀ {ls : List (List Nat)}, (∀ l ∈ ls, l.length ≤ B) → ls.flatten.length ≤ B * ls.length
  | [], _ => Nat.zero_le _
  | a :: r, h => by
    have h1 := h a (by simp)
    have h2 := flat_len (ls := r) fun n hn => h n (by simp [hn])
    rw [List.flatten_cons, List.length_append, List.length_cons, Nat.mul_add, Nat.mul_one]
    omega
theorem dVar_sh {i : Nat} {g : Option Dk} {r : Sg} {f : Nat} {Q : QD} {d : D} (h : (r[i]?).bind Sl.d = some d) (q : Q d f) : dVar i g r f Q := by
  unfold dVar
  cases e : r[i]? with
  | none => rw [e] at h; cases h
  | some s =>
    rw [e] at h
    have h : s.d = some d := h
    simp only [h]
    exact q
theorem oEqS {s : Str} {neg : Bool} {Q : D → Prop} (h : Q (.bool (xb neg true))) : oEq neg (.str s) (.str s) Q := by
  show Q (.bool (xb neg (decide (s = s))))
  rw [decide_eq_true rfl]
  exact h
/-! _law_areas -/
abbrev s__law_areas : Stmt := topS 75
theorem sc__law_areas : FnScope ["_law_stream_here", "_law_heads", "_law_names_here", "_law_deep", "_law_found", "_law_name", "_law_many"] ["_law_stream_here", "_law_heads", "_law_names_here", "_law_deep"] (defScope s__law_areas) := ⟨rfl, rfl, rfl, by decide +kernel, rfl, by decide +kernel, by decide +kernel⟩
/-- an area: a head some times, and its name -/
def arN (z : Str × Nat × Str) : List Str := List.replicate z.2.1 z.1 ++ [z.2.2]
def arS (z : Str × Nat × Str) : Str := Txt.join "." (arN z)
structure Ars (hs ns : List Str) (d : Nat) (zs : List (Str × Nat × Str)) : Prop where
  n : zs.map (·.2.2) = ns
  h : ∀ z ∈ zs, z.1 ∈ hs ∧ z.2.1 ≤ d
def Sp__law_areas : DSp := fun g ds f Q => ∃ (k : Dk) (hs ns : List Str) (dp : Nat), g = some k ∧ ds = [.any (.ref k.a), .lst (hs.map D.str), .lst (ns.map D.str), .int dp] ∧ 0 < hs.length ∧ hs.length ≤ 100 ∧ (∀ s ∈ hs, isName s) ∧ ns.length ≤ 100 ∧ (∀ s ∈ ns, isName s) ∧ dp ≤ 4 ∧ 3 * ns.length ≤ f ∧
  ∀ zs f', Ars hs ns dp zs → f ≤ f' + 3 * ns.length → Q (.lst ((zs.map arS).map D.str)) f'
set_option maxHeartbeats 2000000 in
theorem ok__law_areas (d : Df K mg "_law_areas" s__law_areas) (c__law_pick : Cal P w K mg base 2 "_law_pick" ["_law_stream_here", "_law_items"] Sp__law_pick) (c__law_draw : Cal P w K mg base 1 "_law_draw" ["_law_stream_here", "_law_many"] Sp__law_draw) : Cal P w K mg base 3 "_law_areas" ["_law_stream_here", "_law_heads", "_law_names_here", "_law_deep"] Sp__law_areas := by
  obtain ⟨f, fd, F, m⟩ := d
  refine ⟨f, fd, dfn (k := 2) (S := Sp__law_areas) F sc__law_areas ?len (fun cdv A outer s H E hr => (dss_cons (ds_setL false (i := 4) sc__law_areas.nd (dl_lst da_nil))
      (dss_cons (ds_for [] PassesOwn.never (di_seq (de_v 2)) (dg_name (i := 5) sc__law_areas.nd) (dss_cons (ds_set false (i := 6) sc__law_areas.nd (de_mul (de_callC c__law_draw (hr.mono (by decide)) (da_cons (de_v 0) (da_cons de_int da_nil))) (de_callC c__law_draw (hr.mono (by decide)) (da_cons (de_v 0) (da_cons (de_add (de_v 3) de_int) da_nil)))))
      (dss_one (ds_app false (i := 4) (de_join de_str (de_add (de_mulL (dl_lst (da_cons (de_callC c__law_pick (hr.mono (by decide)) (da_cons (de_v 0) (da_cons (de_v 1) da_nil))) da_nil)).e (de_v 6)) (dl_lst (da_cons (de_v 5) da_nil)).e))))))
      (dss_one (ds_ret (de_v 4)))))) ?h, F.kp, F.binds fun _ _ _ _ _ _ us hl => match us, hl with | [_, _, _, _], _ => rfl, m⟩
  case len =>
    intro g ds n Q h; obtain ⟨_, _, _, _, _, rfl, _⟩ := h; rfl
  case h =>
    intro g ds n Q h
    obtain ⟨k, hs, ns, dp, rfl, rfl, h0, h1, hhs, hl, hns, hdp, hf, q⟩ := h
    refine ⟨Nat.zero_le _, ?_⟩
    refine dFor_list D.str (fun done rest r f => ∃ (zs : List (Str × Nat × Str)) (a b : Sl), r = [.sh (.any (.ref k.a)), .sh (.lst (hs.map D.str)), .sh (.lst (ns.map D.str)), .sh (.int dp), .ow ((zs.map arS).map D.str), a, b] ∧ Ars hs done dp zs ∧ n ≤ f + 3 * done.length) _ _ _ ?_ ?_ ⟨[], _, _, rfl, ⟨rfl, by simp⟩, by simp⟩
    · rintro done nm rest r f N hx ⟨zs, a, b, rfl, hz, hf2⟩ hN
      have hxl := congrArg List.length hx
      rw [List.length_append, List.length_cons] at hxl
      have hnm : isName nm := hns nm (by rw [hx]; simp)
      obtain ⟨f1, rfl⟩ : ∃ f1, f = f1 + 3 := ⟨f - 3, by omega⟩
      refine ⟨_, rfl, k, 2, f1 + 2, rfl, rfl, by decide, by decide, rfl, fun x x0 x1 => ?_⟩
      refine ⟨k, (dp : Int) + 1, f1 + 1, rfl, rfl, by omega, by omega, rfl, fun y y0 y1 => ?_⟩
      have xy : 0 ≤ x * y ∧ x * y ≤ dp := by
        have : x = 0 ∨ x = 1 := by omega
        rcases this with rfl | rfl
        · rw [Int.zero_mul]; omega
        · rw [Int.one_mul]; omega
      refine ⟨.inl ⟨by omega, by omega⟩, ?_⟩
      have hmd : (x * y).toNat ≤ dp := by omega
      simp only [List.set_cons_succ, List.set_cons_zero, setsR, startR, List.map_cons, List.map_nil, List.cons_append, List.nil_append, List.replicate_succ, List.replicate_zero, List.length_cons, List.length_nil, Nat.reduceAdd, Nat.reduceSub]
      refine ⟨_, rfl, trivial, ?_⟩
      refine .inl ⟨k, _, rfl, rfl, by rw [List.length_map]; exact h0, by rw [List.length_map]; omega, by omega, fun hd hhd f3 hf3 => ?_⟩
      obtain ⟨h, hh, rfl⟩ := List.mem_map.mp hhd
      have rl : (List.replicate (x * y).toNat [D.str h]).flatten = (List.replicate (x * y).toNat h).map D.str := by
        generalize (x * y).toNat = m
        induction m with
        | zero => rfl
        | succ m ih => rw [List.replicate_succ, List.flatten_cons, ih, List.replicate_succ]; rfl
      refine ⟨show 1 ≤ lim by decide, xy.1, by omega, ?_, show 1 ≤ lim by decide, ?_⟩
      · show 1 * (x * y).toNat ≤ lim
        exact L1 (by omega)
      rw [rl]
      refine ⟨?_, arN (h, (x * y).toNat, nm), ?_, ?_, ?_, ?_⟩
      · rw [List.length_map, List.length_replicate]; exact L1 (by show _ + 1 ≤ _; omega)
      · unfold arN
        rw [List.map_append]
        rfl
      · refine join_names _ (fun s hs => ?_) ?_ _ (by decide +kernel)
        · unfold arN at hs
          rcases List.mem_append.mp hs with e | e
          · rw [List.eq_of_mem_replicate e]
            exact Nat.le_trans (hhs h hh).2.1 (by decide)
          · rw [List.mem_singleton.mp e]
            exact Nat.le_trans hnm.2.1 (by decide)
        · unfold arN
          rw [List.length_append, List.length_replicate]
          show (x * y).toNat + 1 ≤ 1000
          omega
      · have zl : zs.length = done.length := by rw [← hz.n, List.length_map]
        rw [List.length_map, List.length_map]
        exact L1 (by omega)
      · refine hN _ _ ⟨zs ++ [(h, (x * y).toNat, nm)], _, _, by rw [List.map_append, List.map_append]; rfl, ⟨by rw [List.map_append, hz.n]; rfl, fun z hz' => ?_⟩, by rw [List.length_append, List.length_singleton]; omega⟩
        rcases List.mem_append.mp hz' with e | e
        · exact hz.h z e
        · rw [List.mem_singleton.mp e]
          exact ⟨hh, hmd⟩
    · rintro r f ⟨zs, a, b, rfl, hz, hf2⟩
      exact q zs f hz hf2
/-! is_name -/
abbrev s_is_name : Stmt := topS 9
theorem sc_is_name : FnScope ["value", "sign"] ["value"] (defScope s_is_name) := ⟨rfl, rfl, rfl, by decide +kernel, rfl, by decide +kernel, by decide +kernel⟩
def letL : List Nat := (Str.ofString "abcdefghijklmnopqrstuvwxyz").cps.toList
def nmB (s : Str) : Bool := decide (1 ≤ s.length) && decide (s.length ≤ 8) && (cd s).all fun c => decide (c ∈ letL)
def Sp_is_name : DSp := fun _ ds f Q => ∃ s : Str, ds = [.str s] ∧ s.length ≤ 100000 ∧ Q (.bool (nmB s)) f
set_option maxHeartbeats 2000000 in
theorem ok_is_name (d : Df K mg "is_name" s_is_name) (m_all : mg "all" = none) (m_len : mg "len" = none) (m_str : mg "str" = none) (m_isinstance : mg "isinstance" = none) (g_LETTERS : ∃ t, mg "LETTERS" = some (.str "abcdefghijklmnopqrstuvwxyz" t)) (g_MAX_LETTERS : ∃ t, mg "MAX_LETTERS" = some (.int 8 t)) : Cal P w K mg base 1 "is_name" ["value"] Sp_is_name := by
  obtain ⟨f, fd, F, m⟩ := d
  refine ⟨f, fd, dfn (k := 0) (S := Sp_is_name) F sc_is_name ?len (fun cdv A outer s H E hr => (dss_one (ds_ret (de_and (de_isi m_isinstance (da_cons (de_v 0) (da_cons (de_bltn (v := .ty "str") (u := .type "str") (by rfl) m_str (by decide +kernel) rfl) da_nil))) (de_and (de_lele de_int (de_len m_len (da_cons (de_v 0) da_nil)) (de_glob (v := .int 8) (d := .int 8) (by rfl) g_MAX_LETTERS.choose_spec ⟨_, rfl⟩ (fun _ => rfl))) (de_one (de_callB (cr_all rfl) sc_all (by rfl) m_all (by decide +kernel) (da_cons (dl_lc (own := [("sign", 1)]) rfl sc_is_name.nd (di_seq (de_v 0)) (blkOk_by (own := [("sign", 1)]) (N := ["value", "sign"]) (sc := defScope s_is_name) (by decide +kernel)) (fun _ _ _ _ _ => dg_name (i := 1) sc_is_name.nd) (fun _ _ _ _ _ => dts_nil) (fun _ _ _ _ _ => (de_in hr (de_v 1) (de_glob (v := .str "abcdefghijklmnopqrstuvwxyz") (d := .str "abcdefghijklmnopqrstuvwxyz") (by rfl) g_LETTERS.choose_spec ⟨_, rfl⟩ (fun _ => rfl))))).e da_nil)))))))) ?h, F.kp, F.binds fun _ _ _ _ _ _ us hl => match us, hl with | [_], _ => rfl, m⟩
  case len =>
    intro g ds n Q h; obtain ⟨_, rfl, _⟩ := h; rfl
  case h =>
    intro g ds n Q h
    obtain ⟨s, rfl, hl, q⟩ := h
    refine ⟨"str", true, rfl, by decide +kernel, Nat.le_trans hl (by decide), ?_⟩
    unfold nmB at q
    show if decide ((1 : Int) ≤ (s.length : Int)) = true then _ else _
    by_cases h1 : 1 ≤ s.length
    · rw [decide_eq_true (by omega : (1 : Int) ≤ s.length)]
      rw [decide_eq_true h1, Bool.true_and] at q
      show if decide ((s.length : Int) ≤ 8) = true then _ else _
      by_cases h2 : s.length ≤ 8
      · rw [decide_eq_true (by omega : (s.length : Int) ≤ 8)]
        rw [decide_eq_true h2, Bool.true_and] at q
        refine ⟨?_, ?_⟩
        · unfold signs; rw [List.length_map]; rw [TL.len_tl] at h2; exact Nat.le_trans h2 (by decide)
        refine dLcGo_pure (fun _ => true) (fun d => match d with | .str z => .bool ((cd z).all fun c => decide (c ∈ letL)) | _ => .none) _ _ _ (fun d hd => ?_) ?_
        · unfold signs at hd
          obtain ⟨c, hc, rfl⟩ := List.mem_map.mp hd
          refine ⟨_, rfl, fun f Q h => h, fun _ f Q h => ⟨c, rfl, ?_⟩⟩
          have : ((cd (⟨#[c]⟩ : Str)).all fun c => decide (c ∈ letL)) = decide (c ∈ letL) := by show ([c].all fun c => decide (c ∈ letL)) = _; simp
          have h : Q (.bool ((cd (⟨#[c]⟩ : Str)).all fun c => decide (c ∈ letL))) f := h
          rw [this] at h
          exact h
        · refine ⟨(cd s).map fun c => decide (c ∈ letL), ?_, ?_⟩
          · rw [List.filter_eq_self.mpr (fun _ _ => rfl), List.nil_append]
            unfold signs
            rw [List.map_map, List.map_map]
            apply List.map_congr_left
            intro c _
            show D.bool ((cd (⟨#[c]⟩ : Str)).all fun c => decide (c ∈ letL)) = D.bool (decide (c ∈ letL))
            congr 1
            show ([c].all fun c => decide (c ∈ letL)) = _
            simp
          · rw [show (((cd s).map fun c => decide (c ∈ letL)).all id) = (cd s).all fun c => decide (c ∈ letL) from by rw [List.all_map]; rfl]
            exact q
      · rw [decide_eq_false (by omega : ¬ (s.length : Int) ≤ 8)]
        rw [decide_eq_false h2, Bool.false_and] at q
        exact q
    · rw [decide_eq_false (by omega : ¬ (1 : Int) ≤ s.length)]
      rw [decide_eq_false h1, Bool.false_and, Bool.false_and] at q
      exact q
/-! is_path -/
abbrev s_is_path : Stmt := topS 10
theorem sc_is_path : FnScope ["value", "names", "name"] ["value"] (defScope s_is_path) := ⟨rfl, rfl, rfl, by decide +kernel, rfl, by decide +kernel, by decide +kernel⟩
def pathB (s : Str) : Bool := decide ((Txt.split s ".").length ≤ 6) && (Txt.split s ".").all nmB
def isPathD : D → Bool
  | .str s => pathB s
  | _ => false
def Sp_is_path : DSp := fun _ ds f Q => ∃ x : D, ds = [x] ∧ x.tyd = true ∧ (∀ s, x = .str s → s.length ≤ 100000) ∧ Q (.bool (isPathD x)) f
theorem tyd_isi {x : D} (h : x.tyd = true) : ∃ t, x.tyN = some t ∧ kitB t "str" = some x.isSt := by
  cases x <;> first
    | (cases h; done)
    | (refine ⟨_, rfl, ?_⟩; simp only [D.isSt]; decide +kernel)
theorem split_part_len {s x : Str} (h : x ∈ Txt.split s ".") : x.length ≤ s.length := by
  have hm : cd x ∈ sp (cd s) := by rw [← split_cd]; exact List.mem_map_of_mem h
  have : ∀ (l n : List Nat), n ∈ sp l → n.length ≤ l.length := by
    intro l
    induction l with
    | nil => intro n hn; simp [sp] at hn; simp [hn]
    | cons c r ih =>
      intro n hn
      unfold sp at hn
      split at hn
      · rcases List.mem_cons.mp hn with e | e
        · simp [e]
        · have := ih n e; simp only [List.length_cons]; omega
      · cases e : sp r with
        | nil => exact absurd e (sp_ne r)
        | cons a t =>
          rw [e] at hn ih
          rcases List.mem_cons.mp hn with e' | e'
          · subst e'; have := ih a (by simp); simp only [List.length_cons]; omega
          · have := ih n (by simp [e']); simp only [List.length_cons]; omega
  rw [TL.len_tl, TL.len_tl]
  exact this _ _ hm
set_option maxHeartbeats 2000000 in
theorem ok_is_path (d : Df K mg "is_path" s_is_path) (m_all : mg "all" = none) (m_len : mg "len" = none) (m_str : mg "str" = none) (m_isinstance : mg "isinstance" = none) (g_MAX_NAMES : ∃ t, mg "MAX_NAMES" = some (.int 6 t)) (c_is_name : Cal P w K mg base 1 "is_name" ["value"] Sp_is_name) : Cal P w K mg base 2 "is_path" ["value"] Sp_is_path := by
  obtain ⟨f, fd, F, m⟩ := d
  refine ⟨f, fd, dfn (k := 1) (S := Sp_is_path) F sc_is_path ?len (fun cdv A outer s H E hr => (dss_cons (ds_if (dp_not (dp_val (de_isi m_isinstance (da_cons (de_v 0) (da_cons (de_bltn (v := .ty "str") (u := .type "str") (by rfl) m_str (by decide +kernel) rfl) da_nil))))) (dss_one (ds_ret de_bl)) dss_nil)
      (dss_cons (ds_set false (i := 1) sc_is_path.nd (dl_split (de_v 0) de_str).e)
      (dss_one (ds_ret (de_and (de_le (de_len m_len (da_cons (de_v 1) da_nil)) (de_glob (v := .int 6) (d := .int 6) (by rfl) g_MAX_NAMES.choose_spec ⟨_, rfl⟩ (fun _ => rfl))) (de_one (de_callB (cr_all rfl) sc_all (by rfl) m_all (by decide +kernel) (da_cons (dl_lc (own := [("name", 2)]) rfl sc_is_path.nd (di_seq (de_v 1)) (blkOk_by (own := [("name", 2)]) (N := ["value", "names", "name"]) (sc := defScope s_is_path) (by decide +kernel)) (fun _ _ _ _ _ => dg_name (i := 2) sc_is_path.nd) (fun _ _ _ _ _ => dts_nil) (fun _ _ _ _ _ => (de_callC c_is_name (hr.mono (by decide)) (da_cons (de_v 2) da_nil)))).e da_nil))))))))) ?h, F.kp, F.binds fun _ _ _ _ _ _ us hl => match us, hl with | [_], _ => rfl, m⟩
  case len =>
    intro g ds n Q h; obtain ⟨_, rfl, _⟩ := h; rfl
  case h =>
    intro g ds n Q h
    obtain ⟨x, rfl, hx, hl, q⟩ := h
    obtain ⟨t, ht, hk⟩ := tyd_isi hx
    refine ⟨t, _, ht, hk, ?_⟩
    cases x with
    | str s =>
      have hs := hl s rfl
      refine ⟨by decide +kernel, Nat.le_trans hs (by decide), ?_⟩
      show if decide ((((Txt.split s ".").map D.str).length : Int) ≤ 6) = true then _ else _
      rw [List.length_map]
      have q : Q (.bool (decide ((Txt.split s ".").length ≤ 6) && (Txt.split s ".").all nmB)) n := q
      by_cases h6 : (Txt.split s ".").length ≤ 6
      · rw [decide_eq_true (by omega : ((Txt.split s ".").length : Int) ≤ 6)]
        rw [decide_eq_true h6, Bool.true_and] at q
        refine ⟨by rw [List.length_map]; exact Nat.le_trans h6 (by decide), ?_⟩
        refine dLcGo_pure (fun _ => true) (fun d => match d with | .str z => .bool (nmB z) | _ => .none) _ _ _ (fun d hd => ?_) ?_
        · obtain ⟨z, hz, rfl⟩ := List.mem_map.mp hd
          exact ⟨_, rfl, fun f Q h => h, fun _ f Q h => ⟨z, rfl, Nat.le_trans (split_part_len hz) hs, h⟩⟩
        · refine ⟨(Txt.split s ".").map nmB, ?_, ?_⟩
          · rw [List.filter_eq_self.mpr (fun _ _ => rfl), List.nil_append, List.map_map, List.map_map]; rfl
          · rw [show (((Txt.split s ".").map nmB).all id) = (Txt.split s ".").all nmB from by rw [List.all_map]; rfl]
            exact q
      · rw [decide_eq_false (by omega : ¬ ((Txt.split s ".").length : Int) ≤ 6)]
        rw [decide_eq_false h6, Bool.false_and] at q
        exact q
    | obj _ _ _ => cases hx
    | any _ => cases hx
    | _ => exact q
/-! covers -/
abbrev s_covers : Stmt := topS 11
theorem sc_covers : FnScope ["path", "other"] ["path", "other"] (defScope s_covers) := ⟨rfl, rfl, rfl, by decide +kernel, rfl, by decide +kernel, by decide +kernel⟩
def Sp_covers : DSp := fun _ ds f Q => ∃ p o : Str, ds = [.str p, .str o] ∧ p.length ≤ 100000 ∧ Q (.bool (cov p o)) f
set_option maxHeartbeats 2000000 in
theorem ok_covers (d : Df K mg "covers" s_covers) : Cal P w K mg base 1 "covers" ["path", "other"] Sp_covers := by
  obtain ⟨f, fd, F, m⟩ := d
  refine ⟨f, fd, dfn (k := 0) (S := Sp_covers) F sc_covers ?len (fun cdv A outer s H E hr => (dss_one (ds_ret (de_or (de_eq hr.units (de_v 1) (de_v 0)) (de_one (de_starts (de_v 1) (de_add (de_v 0) de_str))))))) ?h, F.kp, F.binds fun _ _ _ _ _ _ us hl => match us, hl with | [_, _], _ => rfl, m⟩
  case len =>
    intro g ds n Q h; obtain ⟨_, _, rfl, _⟩ := h; rfl
  case h =>
    intro g ds n Q h
    obtain ⟨p, o, rfl, hl, q⟩ := h
    unfold cov at q
    show if decide (o = p) = true then Q (.bool true) n else _
    cases e : decide (o = p) with
    | true => rw [e] at q; exact q
    | false =>
      rw [e] at q
      refine iteF ⟨trivial, ?_, q⟩
      exact Nat.le_trans (Nat.add_le_add_right hl 1) (by decide)
/-! overlap -/
abbrev s_overlap : Stmt := topS 12
theorem sc_overlap : FnScope ["path", "other"] ["path", "other"] (defScope s_overlap) := ⟨rfl, rfl, rfl, by decide +kernel, rfl, by decide +kernel, by decide +kernel⟩
def Sp_overlap : DSp := fun _ ds f Q => ∃ p o : Str, ds = [.str p, .str o] ∧ p.length ≤ 100000 ∧ o.length ≤ 100000 ∧ Q (.bool (cov p o || cov o p)) f
set_option maxHeartbeats 2000000 in
theorem ok_overlap (d : Df K mg "overlap" s_overlap) (c_covers : Cal P w K mg base 1 "covers" ["path", "other"] Sp_covers) : Cal P w K mg base 2 "overlap" ["path", "other"] Sp_overlap := by
  obtain ⟨f, fd, F, m⟩ := d
  refine ⟨f, fd, dfn (k := 1) (S := Sp_overlap) F sc_overlap ?len (fun cdv A outer s H E hr => (dss_one (ds_ret (de_or (de_callC c_covers (hr.mono (by decide)) (da_cons (de_v 0) (da_cons (de_v 1) da_nil))) (de_one (de_callC c_covers (hr.mono (by decide)) (da_cons (de_v 1) (da_cons (de_v 0) da_nil)))))))) ?h, F.kp, F.binds fun _ _ _ _ _ _ us hl => match us, hl with | [_, _], _ => rfl, m⟩
  case len =>
    intro g ds n Q h; obtain ⟨_, _, rfl, _⟩ := h; rfl
  case h =>
    intro g ds n Q h
    obtain ⟨p, o, rfl, h1, h2, q⟩ := h
    refine ⟨p, o, rfl, h1, ?_⟩
    cases e : cov p o with
    | true => rw [e] at q; exact q
    | false =>
      rw [e] at q
      exact ⟨o, p, rfl, h2, q⟩
/-! first_overlap -/
abbrev s_first_overlap : Stmt := topS 14
theorem sc_first_overlap : FnScope ["paths", "others", "path", "other"] ["paths", "others"] (defScope s_first_overlap) := ⟨rfl, rfl, rfl, by decide +kernel, rfl, by decide +kernel, by decide +kernel⟩
def ovl (p o : Str) : Bool := cov p o || cov o p
def firstOv (ps os : List Str) : D := match ps.find? fun p => os.any (ovl p) with
  | some p => .str p
  | none => .none
def short (l : List Str) : Prop := l.length ≤ 1000 ∧ ∀ s ∈ l, s.length ≤ 10000 ∧ asc s
def Sp_first_overlap : DSp := fun _ ds f Q => ∃ ps os : List Str, (ds = [.tup (ps.map D.str), .tup (os.map D.str)] ∨ ds = [.tup (ps.map D.str), .lst (os.map D.str)]) ∧ short ps ∧ short os ∧ Q (firstOv ps os) f
theorem any_filter (os : List Str) (b : Str → Bool) : decide (os.filter b = []) = !os.any b := by
  induction os with
  | nil => rfl
  | cons x l ih =>
    rw [List.filter_cons, List.any_cons]
    cases b x with
    | true => simp
    | false => simpa using ih
set_option maxHeartbeats 2000000 in
theorem ok_first_overlap (d : Df K mg "first_overlap" s_first_overlap) (c_overlap : Cal P w K mg base 2 "overlap" ["path", "other"] Sp_overlap) : Cal P w K mg base 3 "first_overlap" ["paths", "others"] Sp_first_overlap := by
  obtain ⟨f, fd, F, m⟩ := d
  refine ⟨f, fd, dfn (k := 2) (S := Sp_first_overlap) F sc_first_overlap ?len (fun cdv A outer s H E hr => (dss_cons (ds_for [] PassesOwn.never (di_seq (de_v 0)) (dg_name (i := 2) sc_first_overlap.nd) (dss_one (ds_if (dp_ne hr.units (dl_lc (own := [("other", 3)]) rfl sc_first_overlap.nd (di_seq (de_v 1)) (blkOk_by (own := [("other", 3)]) (N := ["paths", "others", "path", "other"]) (sc := defScope s_first_overlap) (by decide +kernel)) (fun _ _ _ _ _ => dg_name (i := 3) sc_first_overlap.nd) (fun _ _ _ _ _ => dts_one (dp_val (de_callC c_overlap (hr.mono (by decide)) (da_cons (de_v 2) (da_cons (de_v 3) da_nil))))) (fun _ _ _ _ _ => (de_v 3))).e (dl_lst da_nil).e) (dss_one (ds_ret (de_v 2))) dss_nil)))
      (dss_one (ds_ret de_non)))) ?h, F.kp, F.binds fun _ _ _ _ _ _ us hl => match us, hl with | [_, _], _ => rfl, m⟩
  case len =>
    intro g ds n Q h; obtain ⟨_, _, rfl | rfl, _⟩ := h <;> rfl
  case h =>
    intro g ds n Q h
    obtain ⟨ps, os, hds, hp, ho, q⟩ := h
    rcases hds with rfl | rfl
    · refine dFor_inv (fun rest r f => f = n ∧ ∃ (ms : List Str) (a c e : Sl), rest = ms.map D.str ∧ r = [a, .sh (.tup (os.map D.str)), c, e] ∧ (∀ m ∈ ms, m ∈ ps) ∧ firstOv ms os = firstOv ps os) _ _ _ ?_ ?_ ⟨rfl, ps, _, _, _, rfl, rfl, fun _ h => h, rfl⟩
      · rintro d rest r f N ⟨rfl, ms, a, c, e, hms, rfl, hsub, heq⟩ hN
        match ms, hms with
        | m :: ms, hms =>
        obtain ⟨rfl, rfl⟩ := List.cons.inj hms
        refine ⟨_, rfl, ?_⟩
        have hm := hp.2 m (hsub m (by simp))
        refine ⟨by rw [List.length_map]; exact Nat.le_trans ho.1 (by decide), ?_⟩
        refine dLcGo_pure (fun d => match d with | .str z => ovl m z | _ => false) id _ _ _ (fun d hd => ?_) ?_
        · obtain ⟨z, hz, rfl⟩ := List.mem_map.mp hd
          have hz' := ho.2 z hz
          exact ⟨_, rfl, fun f Q h => ⟨m, z, rfl, Nat.le_trans hm.1 (by decide), Nat.le_trans hz'.1 (by decide), h⟩, fun _ f Q h => h⟩
        · rw [List.map_id, List.nil_append, filter_strs _ (ovl m) _ (fun s => rfl)]
          refine ⟨by decide, ?_⟩
          show oEq true (.lst ((os.filter (ovl m)).map D.str)) (.lst (([] : List Str).map D.str)) _
          refine oEq_lst (m := []) (fun s hs => (ho.2 s (List.mem_filter.mp hs).1).2) (by simp) ?_
          show if (!decide (os.filter (ovl m) = [])) = true then _ else _
          rw [any_filter, Bool.not_not]
          unfold firstOv at heq
          rw [List.find?_cons] at heq
          cases hb : os.any (ovl m) with
          | true =>
            rw [hb] at heq
            have : firstOv ps os = .str m := heq.symm
            rw [this] at q
            exact q
          | false =>
            rw [hb] at heq
            exact hN _ _ ⟨rfl, ms, _, _, _, rfl, rfl, fun m' h' => hsub m' (by simp [h']), heq⟩
      · rintro r f ⟨rfl, ms, a, c, e, hms, rfl, hsub, heq⟩
        obtain rfl : ms = [] := by
          match ms, hms with
          | [], _ => rfl
        rw [← heq] at q
        exact q
    · refine dFor_inv (fun rest r f => f = n ∧ ∃ (ms : List Str) (a c e : Sl), rest = ms.map D.str ∧ r = [a, .sh (.lst (os.map D.str)), c, e] ∧ (∀ m ∈ ms, m ∈ ps) ∧ firstOv ms os = firstOv ps os) _ _ _ ?_ ?_ ⟨rfl, ps, _, _, _, rfl, rfl, fun _ h => h, rfl⟩
      · rintro d rest r f N ⟨rfl, ms, a, c, e, hms, rfl, hsub, heq⟩ hN
        match ms, hms with
        | m :: ms, hms =>
        obtain ⟨rfl, rfl⟩ := List.cons.inj hms
        refine ⟨_, rfl, ?_⟩
        have hm := hp.2 m (hsub m (by simp))
        refine ⟨by rw [List.length_map]; exact Nat.le_trans ho.1 (by decide), ?_⟩
        refine dLcGo_pure (fun d => match d with | .str z => ovl m z | _ => false) id _ _ _ (fun d hd => ?_) ?_
        · obtain ⟨z, hz, rfl⟩ := List.mem_map.mp hd
          have hz' := ho.2 z hz
          exact ⟨_, rfl, fun f Q h => ⟨m, z, rfl, Nat.le_trans hm.1 (by decide), Nat.le_trans hz'.1 (by decide), h⟩, fun _ f Q h => h⟩
        · rw [List.map_id, List.nil_append, filter_strs _ (ovl m) _ (fun s => rfl)]
          refine ⟨by decide, ?_⟩
          show oEq true (.lst ((os.filter (ovl m)).map D.str)) (.lst (([] : List Str).map D.str)) _
          refine oEq_lst (m := []) (fun s hs => (ho.2 s (List.mem_filter.mp hs).1).2) (by simp) ?_
          show if (!decide (os.filter (ovl m) = [])) = true then _ else _
          rw [any_filter, Bool.not_not]
          unfold firstOv at heq
          rw [List.find?_cons] at heq
          cases hb : os.any (ovl m) with
          | true =>
            rw [hb] at heq
            have : firstOv ps os = .str m := heq.symm
            rw [this] at q
            exact q
          | false =>
            rw [hb] at heq
            exact hN _ _ ⟨rfl, ms, _, _, _, rfl, rfl, fun m' h' => hsub m' (by simp [h']), heq⟩
      · rintro r f ⟨rfl, ms, a, c, e, hms, rfl, hsub, heq⟩
        obtain rfl : ms = [] := by
          match ms, hms with
          | [], _ => rfl
        rw [← heq] at q
        exact q
/-! modules_error -/
abbrev s_modules_error : Stmt := topS 51
theorem sc_modules_error : FnScope ["modules", "index", "path"] ["modules"] (defScope s_modules_error) := ⟨rfl, rfl, rfl, by decide +kernel, rfl, by decide +kernel, by decide +kernel⟩
structure PVm (ms : List Str) : Prop where
  len : ms.length ≤ 24
  path : ∀ m ∈ ms, PathN 6 m
  apart : ms.Pairwise fun a b => ovl b a = false
def Sp_modules_error : DSp := fun _ ds f Q => ∃ ms : List Str, ds = [.tup (ms.map D.str)] ∧ PVm ms ∧ Q .none f
theorem isName_nmB {s : Str} (h : isName s) : nmB s = true := by
  unfold nmB
  rw [decide_eq_true h.1, decide_eq_true h.2.1]
  show (cd s).all _ = true
  rw [List.all_eq_true]
  intro c hc
  have hb := h.2.2 c hc
  have : ∀ c : Nat, 97 ≤ c → c ≤ 122 → c ∈ letL := by
    intro c h1 h2
    have h3 : c < 123 := by omega
    revert h1 h2
    have : ∀ c < 123, 97 ≤ c → c ≤ 122 → c ∈ letL := by decide +kernel
    exact this c h3
  exact decide_eq_true (this c hb.1 hb.2)
theorem PathN.splits {m : Nat} {x : Str} (h : PathN m x) : 1 ≤ (Txt.split x ".").length ∧ (Txt.split x ".").length ≤ m ∧ (∀ n ∈ Txt.split x ".", isName n) ∧ Txt.join "." (Txt.split x ".") = x := by
  obtain ⟨ns, n1, n2, n3, rfl⟩ := h
  rw [split_join_names (fun z => by rw [z] at n1; simp at n1) n3]
  exact ⟨n1, n2, n3, rfl⟩
theorem PathN.pathB {x : Str} (h : PathN 6 x) : pathB x = true := by
  obtain ⟨h1, h2, h3, h4⟩ := h.splits
  unfold DL.pathB
  rw [decide_eq_true h2, Bool.true_and, List.all_eq_true]
  exact fun n hn => isName_nmB (h3 n hn)
theorem PVm.short {ms : List Str} (h : PVm ms) : short ms := ⟨Nat.le_trans h.len (by decide), fun s hs => ⟨Nat.le_trans (h.path s hs).len (by decide), (h.path s hs).asc⟩⟩
theorem PVm.perm {l m : List Str} (h : PVm m) (p : l.Perm m) : PVm l where
  len := by rw [p.length_eq]; exact h.len
  path := fun s hs => h.path s (p.mem_iff.mp hs)
  apart := h.apart.perm p.symm fun {a b} e => by
    unfold ovl at e ⊢
    rw [Bool.or_comm]
    exact e
theorem PVm.sub {l m : List Str} (h : PVm m) (p : l.Sublist m) : PVm l := ⟨Nat.le_trans p.length_le h.len, fun s hs => h.path s (p.subset hs), h.apart.sublist p⟩
theorem ovl_self (m : Str) : ovl m m = true := by
  unfold ovl cov
  rw [decide_eq_true (rfl : m = m)]
  rfl
theorem PVm.nd {m : List Str} (h : PVm m) : m.Nodup := h.apart.imp fun {a b} e z => by
  rw [z, ovl_self] at e
  cases e
theorem PVm.asc {m : List Str} (h : PVm m) : ∀ s ∈ m, asc s := fun s hs => (h.path s hs).asc
set_option maxHeartbeats 2000000 in
theorem ok_modules_error (d : Df K mg "modules_error" s_modules_error) (m_enumerate : mg "enumerate" = none) (m_len : mg "len" = none) (m_tuple : mg "tuple" = none) (m_isinstance : mg "isinstance" = none) (g_MAX_MODULES : ∃ t, mg "MAX_MODULES" = some (.int 24 t)) (c_first_overlap : Cal P w K mg base 3 "first_overlap" ["paths", "others"] Sp_first_overlap) (c_is_path : Cal P w K mg base 2 "is_path" ["value"] Sp_is_path) : Cal P w K mg base 4 "modules_error" ["modules"] Sp_modules_error := by
  obtain ⟨f, fd, F, m⟩ := d
  refine ⟨f, fd, dfn (k := 3) (S := Sp_modules_error) F sc_modules_error ?len (fun cdv A outer s H E hr => (dss_cons (ds_if (DW.p (dw_or (dp_not (dp_val (de_isi m_isinstance (da_cons (de_v 0) (da_cons (de_bltn (v := .ty "tuple") (u := .type "tuple") (by rfl) m_tuple (by decide +kernel) rfl) da_nil))))) (dw_or1 (dp_gt (de_len m_len (da_cons (de_v 0) da_nil)) (de_glob (v := .int 24) (d := .int 24) (by rfl) g_MAX_MODULES.choose_spec ⟨_, rfl⟩ (fun _ => rfl)))))) (dss_one (ds_ret (de_tup (da_cons de_non (da_cons de_str da_nil))))) dss_nil)
      (dss_cons (ds_for [] PassesOwn.never (di_enum m_enumerate (da_cons (de_v 0) da_nil)) (dg_tup rfl (dgs_cons (dg_name (i := 1) sc_modules_error.nd) (dgs_cons (dg_name (i := 2) sc_modules_error.nd) dgs_nil))) (dss_cons (ds_if (dp_not (dp_val (de_callC c_is_path (hr.mono (by decide)) (da_cons (de_v 2) da_nil)))) (dss_one (ds_ret (de_tup (da_cons (de_v 1) (da_cons de_str da_nil))))) dss_nil)
      (dss_one (ds_if (dp_notN (de_callC c_first_overlap (hr.mono (by decide)) (da_cons (de_tup (da_cons (de_v 2) da_nil)) (da_cons (de_sl (de_v 0) do_none (do_some (de_v 1))) da_nil))) de_non) (dss_one (ds_ret (de_tup (da_cons (de_v 1) (da_cons de_str da_nil))))) dss_nil))))
      (dss_one (ds_ret de_non))))) ?h, F.kp, F.binds fun _ _ _ _ _ _ us hl => match us, hl with | [_], _ => rfl, m⟩
  case len =>
    intro g ds n Q h; obtain ⟨_, rfl, _⟩ := h; rfl
  case h =>
    intro g ds n Q h
    obtain ⟨ms, rfl, hv, q⟩ := h
    refine ⟨"tuple", true, rfl, by decide +kernel, ?_⟩
    show if decide ((((ms.map D.str).length : Int)) > 24) = true then _ else _
    rw [List.length_map, decide_eq_false (by have := hv.len; omega)]
    refine iteF ?_
    refine dFor_inv (fun rest r f => f = n ∧ ∃ (i : Nat) (a c : Sl), rest = (enumD (ms.map D.str)).drop i ∧ r = [.sh (.tup (ms.map D.str)), a, c]) _ _ _ ?_ (fun r f ⟨e, _⟩ => by subst e; exact q) ⟨rfl, 0, _, _, rfl, rfl⟩
    rintro d rest r f N ⟨rfl, i, a, c, hr, rfl⟩ hN
    have hd : (enumD (ms.map D.str))[i]? = some d := by
      have := congrArg List.head? hr
      rw [List.head?_drop] at this
      exact this.symm
    obtain ⟨x, hx, rfl⟩ := enumD_get hd
    rw [List.getElem?_map] at hx
    cases em : ms[i]? with
    | none => rw [em] at hx; cases hx
    | some m =>
      rw [em] at hx
      cases hx
      have hm : m ∈ ms := List.mem_of_getElem? em
      have hp := hv.path m hm
      refine ⟨_, rfl, .str m, rfl, rfl, fun s e => ?_, ?_⟩
      · cases e
        exact Nat.le_trans hp.len (by decide)
      · show if (!pathB m) = true then _ else _
        rw [hp.pathB]
        have hi : i < ms.length := (List.getElem?_eq_some_iff.mp em).1
        have et : cutD (ms.map D.str) none (some (i : Int)) = (ms.take i).map D.str := by rw [cutD_take, List.map_take]
        have hno : firstOv [m] (ms.take i) = .none := by
          unfold firstOv
          rw [List.find?_cons]
          have : (ms.take i).any (ovl m) = false := by
            rw [List.any_eq_false]
            intro z hz
            obtain ⟨j, hj, ez⟩ := List.getElem_of_mem hz
            rw [List.length_take] at hj
            rw [List.getElem_take] at ez
            have := List.pairwise_iff_getElem.mp hv.apart j i (by omega) hi (by omega)
            obtain ⟨_, e2⟩ := List.getElem?_eq_some_iff.mp em
            rw [ez, e2] at this
            rw [this]
            decide
          rw [this]
          rfl
        refine iteF ⟨show 1 ≤ lim by decide, [m], ms.take i, ?_, ⟨show 1 ≤ 1000 by decide, fun s hs => by rw [List.mem_singleton.mp hs]; exact hv.short.2 m hm⟩, ⟨Nat.le_trans (by rw [List.length_take]; exact Nat.min_le_right _ _) hv.short.1, fun s hs => hv.short.2 s (List.mem_of_mem_take hs)⟩, ?_⟩
        · refine .inl ?_
          show [D.tup [D.str m], D.tup (cutD (ms.map D.str) none (some (i : Int)))] = _
          rw [et]
          rfl
        · rw [hno]
          refine hN _ _ ⟨rfl, i + 1, _, _, ?_, rfl⟩
          rw [← List.tail_drop, ← hr]
          rfl
theorem ovl_pre {a b : List Str} (ha : a ≠ []) (hb : b ≠ []) (na : ∀ x ∈ a, isName x) (nb : ∀ x ∈ b, isName x) (h1 : ¬ a <+: b) (h2 : ¬ b <+: a) : ovl (Txt.join "." a) (Txt.join "." b) = false := by
  have key : ∀ {a b : List Str}, a ≠ [] → b ≠ [] → (∀ x ∈ a, isName x) → (∀ x ∈ b, isName x) → ¬ a <+: b → cov (Txt.join "." a) (Txt.join "." b) = false := fun {a b} ha hb na nb h => by
    rw [cov_take, split_join_names ha na, split_join_names hb nb]
    refine decide_eq_false fun e => h ?_
    rw [← e]
    exact List.take_prefix _ _
  unfold ovl
  rw [key ha hb na nb h1, key hb ha nb na h2]
  rfl
structure Nms (hs ns lv : List Str) : Prop where
  nn : ns.Nodup
  ln : lv.Nodup
  hn : ∀ h ∈ hs, h ∉ ns ∧ h ∉ lv
  nl : ∀ n ∈ ns, n ∉ lv
  oh : ∀ x ∈ hs, isName x
  on : ∀ x ∈ ns, isName x
  ol : ∀ x ∈ lv, isName x
theorem arN_mem {z : Str × Nat × Str} {x : Str} (h : x ∈ arN z) : x = z.1 ∨ x = z.2.2 := by
  unfold arN at h
  rcases List.mem_append.mp h with e | e
  · exact .inl (List.eq_of_mem_replicate e)
  · exact .inr (List.mem_singleton.mp e)
theorem arN_last (z : Str × Nat × Str) : z.2.2 ∈ arN z := List.mem_append.mpr (.inr (by simp))
theorem arN_ne (z : Str × Nat × Str) : arN z ≠ [] := by unfold arN; simp
theorem Ars.name {hs ns : List Str} {d : Nat} {zs : List (Str × Nat × Str)} (h : Ars hs ns d zs) {z : Str × Nat × Str} (hz : z ∈ zs) : z.2.2 ∈ ns := by
  rw [← h.n]
  exact List.mem_map.mpr ⟨z, hz, rfl⟩
theorem Ars.same {hs ns : List Str} {d : Nat} {zs : List (Str × Nat × Str)} (h : Ars hs ns d zs) (hn : ns.Nodup) {z z' : Str × Nat × Str} (hz : z ∈ zs) (hz' : z' ∈ zs) (e : z.2.2 = z'.2.2) : z = z' := by
  rw [← h.n] at hn
  obtain ⟨i, hi, rfl⟩ := List.getElem_of_mem hz
  obtain ⟨j, hj, rfl⟩ := List.getElem_of_mem hz'
  have key := List.pairwise_iff_getElem.mp hn
  rcases Nat.lt_trichotomy i j with c | c | c
  · exact absurd (by rw [List.getElem_map, List.getElem_map]; exact e) (key i j (by rw [List.length_map]; exact hi) (by rw [List.length_map]; exact hj) c)
  · subst c
    rfl
  · exact absurd (by rw [List.getElem_map, List.getElem_map]; exact e.symm) (key j i (by rw [List.length_map]; exact hj) (by rw [List.length_map]; exact hi) c)
structure MI (hs ns : List Str) (F : List (Str × Nat × Str)) (done : List Str) (L : List (List Str)) : Prop where
  ne : ∀ a ∈ L, a ≠ []
  le : ∀ a ∈ L, a.length ≤ 6
  ok : ∀ a ∈ L, ∀ x ∈ a, isName x
  tg : ∀ a ∈ L, (∃ z ∈ F, a = arN z) ∨ ∃ o ∈ done, o ∈ a
  nm : ∀ a ∈ L, ∀ x ∈ a, x ∈ hs ∨ x ∈ ns ∨ x ∈ done
  ap : L.Pairwise fun a b => ¬ a <+: b ∧ ¬ b <+: a
theorem MI.start {hs ns lv : List Str} {d : Nat} {zs F : List (Str × Nat × Str)} (hA : Ars hs ns d zs) (hd : d ≤ 5) (hN : Nms hs ns lv) (hF : F.Sublist zs) : MI hs ns F [] (F.map arN) where
  ne := fun a ha => by obtain ⟨z, _, rfl⟩ := List.mem_map.mp ha; exact arN_ne z
  le := fun a ha => by
    obtain ⟨z, hz, rfl⟩ := List.mem_map.mp ha
    have := (hA.h z (hF.subset hz)).2
    unfold arN
    rw [List.length_append, List.length_replicate]
    show z.2.1 + 1 ≤ 6
    omega
  ok := fun a ha x hx => by
    obtain ⟨z, hz, rfl⟩ := List.mem_map.mp ha
    rcases arN_mem hx with rfl | rfl
    · exact hN.oh _ (hA.h z (hF.subset hz)).1
    · exact hN.on _ (hA.name (hF.subset hz))
  tg := fun a ha => by obtain ⟨z, hz, rfl⟩ := List.mem_map.mp ha; exact .inl ⟨z, hz, rfl⟩
  nm := fun a ha x hx => by
    obtain ⟨z, hz, rfl⟩ := List.mem_map.mp ha
    rcases arN_mem hx with rfl | rfl
    · exact .inl (hA.h z (hF.subset hz)).1
    · exact .inr (.inl (hA.name (hF.subset hz)))
  ap := by
    rw [List.pairwise_map]
    have hnd : (F.map (·.2.2)).Nodup := by
      have : (zs.map (·.2.2)).Nodup := by rw [hA.n]; exact hN.nn
      exact this.sublist (hF.map _)
    have hp : F.Pairwise fun z z' => z.2.2 ≠ z'.2.2 := (List.pairwise_map).mp hnd
    have key : ∀ z ∈ F, ∀ z' ∈ F, z.2.2 ≠ z'.2.2 → ¬ arN z <+: arN z' := fun z hz z' hz' h e => by
      rcases arN_mem (e.subset (arN_last z)) with h1 | h1
      · exact (hN.hn _ (hA.h z' (hF.subset hz')).1).1 (h1 ▸ hA.name (hF.subset hz))
      · exact h h1
    refine hp.imp_of_mem fun {z z'} hz hz' h => ⟨key z hz z' hz' h, key z' hz' z hz (Ne.symm h)⟩
theorem MI.add {hs ns lv done : List Str} {d : Nat} {zs F : List (Str × Nat × Str)} {L : List (List Str)} {o : Str} {pre : List Str} (hM : MI hs ns F done L) (hA : Ars hs ns d zs) (hd : d ≤ 3) (hN : Nms hs ns lv) (hF : F.Sublist zs)
    (hdn : ∀ x ∈ done, x ∈ lv) (ho : o ∈ lv) (hod : o ∉ done) (hp : pre = [] ∨ ∃ z ∈ zs, z ∉ F ∧ (pre = arN z ∨ pre = arN z ++ [z.2.2])) : MI hs ns F (done ++ [o]) (L ++ [pre ++ [o]]) := by
  have pm : ∀ x ∈ pre, (x ∈ hs ∨ x ∈ ns) := fun x hx => by
    rcases hp with rfl | ⟨z, hz, _, rfl | rfl⟩
    · simp at hx
    · rcases arN_mem hx with rfl | rfl
      · exact .inl (hA.h z hz).1
      · exact .inr (hA.name hz)
    · rcases List.mem_append.mp hx with h | h
      · rcases arN_mem h with rfl | rfl
        · exact .inl (hA.h z hz).1
        · exact .inr (hA.name hz)
      · rw [List.mem_singleton.mp h]; exact .inr (hA.name hz)
  have pl : pre.length ≤ 5 := by
    rcases hp with rfl | ⟨z, hz, _, rfl | rfl⟩
    · decide
    · have := (hA.h z hz).2
      unfold arN
      rw [List.length_append, List.length_replicate]
      show z.2.1 + 1 ≤ 5
      omega
    · have := (hA.h z hz).2
      unfold arN
      rw [List.length_append, List.length_append, List.length_replicate]
      show z.2.1 + 1 + 1 ≤ 5
      omega
  have noh : o ∉ hs := fun h => (hN.hn o h).2 ho
  have non : o ∉ ns := fun h => hN.nl o h ho
  refine ⟨fun a ha => ?_, fun a ha => ?_, fun a ha x hx => ?_, fun a ha => ?_, fun a ha x hx => ?_, ?_⟩
  · rcases List.mem_append.mp ha with h | h
    · exact hM.ne a h
    · rw [List.mem_singleton.mp h]; simp
  · rcases List.mem_append.mp ha with h | h
    · exact hM.le a h
    · rw [List.mem_singleton.mp h, List.length_append]
      show pre.length + 1 ≤ 6
      omega
  · rcases List.mem_append.mp ha with h | h
    · exact hM.ok a h x hx
    · rw [List.mem_singleton.mp h] at hx
      rcases List.mem_append.mp hx with h2 | h2
      · exact (pm x h2).elim (hN.oh x) (hN.on x)
      · rw [List.mem_singleton.mp h2]; exact hN.ol o ho
  · rcases List.mem_append.mp ha with h | h
    · rcases hM.tg a h with ⟨z, hz, e⟩ | ⟨p, hp', hpa⟩
      · exact .inl ⟨z, hz, e⟩
      · exact .inr ⟨p, List.mem_append.mpr (.inl hp'), hpa⟩
    · refine .inr ⟨o, by simp, ?_⟩
      rw [List.mem_singleton.mp h]; simp
  · rcases List.mem_append.mp ha with h | h
    · rcases hM.nm a h x hx with e | e | e
      · exact .inl e
      · exact .inr (.inl e)
      · exact .inr (.inr (List.mem_append.mpr (.inl e)))
    · rw [List.mem_singleton.mp h] at hx
      rcases List.mem_append.mp hx with h2 | h2
      · exact (pm x h2).elim .inl fun e => .inr (.inl e)
      · rw [List.mem_singleton.mp h2]; exact .inr (.inr (by simp))
  · rw [List.pairwise_append]
    refine ⟨hM.ap, by simp, fun a ha b hb => ?_⟩
    rw [List.mem_singleton.mp hb]
    have oa : o ∉ a := fun h => by
      rcases hM.nm a ha o h with e | e | e
      · exact noh e
      · exact non e
      · exact hod e
    refine ⟨fun e => ?_, fun e => oa (e.subset (by simp))⟩
    rcases List.prefix_concat_iff.mp e with e | e
    · exact oa (by rw [e]; simp)
    · rcases hM.tg a ha with ⟨z', hz', rfl⟩ | ⟨p, hp', hpa⟩
      · have hm := e.subset (arN_last z')
        have hnz := hA.name (hF.subset hz')
        rcases hp with rfl | ⟨z, hz, hzF, hpe⟩
        · simp at hm
        · have : z'.2.2 = z.1 ∨ z'.2.2 = z.2.2 := by
            rcases hpe with rfl | rfl
            · exact arN_mem hm
            · rcases List.mem_append.mp hm with h | h
              · exact arN_mem h
              · exact .inr (List.mem_singleton.mp h)
          rcases this with h | h
          · exact (hN.hn _ (hA.h z hz).1).1 (h ▸ hnz)
          · exact hzF (hA.same hN.nn (hF.subset hz') hz h ▸ hz')
      · rcases pm p (e.subset hpa) with h | h
        · exact (hN.hn p h).2 (hdn p hp')
        · exact hN.nl p h (hdn p hp')
theorem MI.pvm {hs ns done : List Str} {F : List (Str × Nat × Str)} {L : List (List Str)} (h : MI hs ns F done L) : PVm ((L.map (Txt.join ".")).take 24) where
  len := by rw [List.length_take]; omega
  path := fun m hm => by
    obtain ⟨a, ha, rfl⟩ := List.mem_map.mp (List.mem_of_mem_take hm)
    exact ⟨a, List.length_pos_iff.mpr (h.ne a ha), h.le a ha, h.ok a ha, rfl⟩
  apart := by
    refine List.Pairwise.sublist (List.take_sublist _ _) ?_
    rw [List.pairwise_map]
    exact h.ap.imp_of_mem fun {a b} ha hb e => ovl_pre (h.ne b hb) (h.ne a ha) (h.ok b hb) (h.ok a ha) e.2 e.1
theorem nms_of {nl : List Str} (hn : ∀ n ∈ nl, isName n) (hd : nl.Nodup) (c d : Nat) (hc : c ≤ 6) : Nms (nl.take 2) ((nl.drop 2).take c) ((nl.drop 8).take d) := by
  have m1 : ∀ x ∈ nl.take 2, x ∈ nl := fun x h => List.mem_of_mem_take h
  have m2 : ∀ x ∈ (nl.drop 2).take c, x ∈ nl.drop 2 := fun x h => List.mem_of_mem_take h
  have m3 : ∀ x ∈ (nl.drop 8).take d, x ∈ nl.drop 8 := fun x h => List.mem_of_mem_take h
  have m4 : ∀ x ∈ nl.drop 8, x ∈ nl.drop 2 := fun x h => by
    rw [show nl.drop 8 = (nl.drop 2).drop 6 by rw [List.drop_drop]] at h
    exact List.mem_of_mem_drop h
  have k1 : ∀ x ∈ nl.take 2, x ∉ nl.drop 2 := fun x h h2 => by
    have hd' := hd
    rw [← List.take_append_drop 2 nl, List.nodup_append] at hd'
    exact hd'.2.2 x h x h2 rfl
  have k2 : ∀ x ∈ (nl.drop 2).take c, x ∉ nl.drop 8 := fun x h h2 => by
    have hd' := hd.sublist (List.drop_sublist 2 nl)
    rw [← List.take_append_drop 6 (nl.drop 2), List.nodup_append, List.drop_drop] at hd'
    have h3 : x ∈ (nl.drop 2).take 6 := by
      rw [show (nl.drop 2).take c = ((nl.drop 2).take 6).take c by rw [List.take_take, Nat.min_eq_left hc]] at h
      exact List.mem_of_mem_take h
    exact hd'.2.2 x h3 x h2 rfl
  exact {
    nn := (hd.sublist (List.drop_sublist 2 nl)).sublist (List.take_sublist c _)
    ln := (hd.sublist (List.drop_sublist 8 nl)).sublist (List.take_sublist d _)
    hn := fun h hh => ⟨fun z => k1 h hh (m2 h z), fun z => k1 h hh (m4 h (m3 h z))⟩
    nl := fun n h z => k2 n h (m3 n z)
    oh := fun x h => hn x (m1 x h)
    on := fun x h => hn x (List.mem_of_mem_drop (m2 x h))
    ol := fun x h => hn x (List.mem_of_mem_drop (m3 x h)) }
/-! _law_modules -/
abbrev s__law_modules : Stmt := topS 76
theorem sc__law_modules : FnScope ["_law_stream_here", "_law_areas_here", "_law_names_here", "_law_found", "_law_rooms", "_law_name", "_law_kind", "_law_area"] ["_law_stream_here", "_law_areas_here", "_law_names_here"] (defScope s__law_modules) := ⟨rfl, rfl, rfl, by decide +kernel, rfl, by decide +kernel, by decide +kernel⟩
/-- [x for x in xs if a draw says so] -/
theorem lcSub {α : Type} (em : α → D) (b : Nat) {g : Option Dk} {t : TgF} {c : DTT} {e : DT} {r : Sg} {Q : List D → Nat → Prop} : ∀ (xs : List α) (acc : List D) (f : Nat), xs.length * b ≤ f →
    (∀ x ∈ xs, ∃ l, t (em x) = some l ∧ (∀ (f : Nat) (Q : Bool → Nat → Prop), b ≤ f → (∀ v f', f ≤ f' + b → Q v f') → c g (setsR r l) f Q) ∧ ∀ (f : Nat) (Q : QD), Q (em x) f → e g (setsR r l) f Q) →
    (∀ (ys : List α) (f' : Nat), ys.Sublist xs → f ≤ f' + xs.length * b → Q (acc ++ ys.map em) f') → dLcGo g t c e r (xs.map em) acc f Q
  | [], acc, f, _, _, hq => by
    have := hq [] f (List.Sublist.refl _) (by omega)
    rw [List.map_nil, List.append_nil] at this
    exact this
  | x :: xs, acc, f, hf, he, hq => by
    obtain ⟨l, hl, h1, h2⟩ := he x (by simp)
    have hlen : (x :: xs).length * b = xs.length * b + b := by rw [List.length_cons, Nat.add_mul, Nat.one_mul]
    rw [hlen] at hf
    simp only [List.map_cons, dLcGo, hl]
    refine h1 f _ (by omega) fun v f' hv => ?_
    cases v with
    | true =>
      rw [if_pos rfl]
      refine h2 f' _ (lcSub em b xs (acc ++ [em x]) f' (by omega) (fun x' hx' => he x' (by simp [hx'])) fun ys f2 hy h3 => ?_)
      rw [List.append_assoc]
      exact hq (x :: ys) f2 (List.Sublist.cons_cons x hy) (by omega)
    | false =>
      rw [if_neg Bool.false_ne_true]
      exact lcSub em b xs acc f' (by omega) (fun x' hx' => he x' (by simp [hx'])) fun ys f2 hy h3 => hq ys f2 (List.Sublist.cons x hy) (by omega)
def Sp__law_modules : DSp := fun g ds f Q => ∃ (k : Dk) (hs ns lv : List Str) (dp : Nat) (zs : List (Str × Nat × Str)), g = some k ∧ ds = [.any (.ref k.a), .lst ((zs.map arS).map D.str), .lst (lv.map D.str)] ∧ Ars hs ns dp zs ∧ dp ≤ 3 ∧ Nms hs ns lv ∧ zs.length ≤ 30 ∧ lv.length ≤ 30 ∧ zs.length + 2 * lv.length ≤ f ∧
  ∀ ms f', PVm ms → f ≤ f' + (zs.length + 2 * lv.length) → Q (.lst (ms.map D.str)) f'
set_option maxHeartbeats 2000000 in
theorem ok__law_modules (d : Df K mg "_law_modules" s__law_modules) (c__law_pick : Cal P w K mg base 2 "_law_pick" ["_law_stream_here", "_law_items"] Sp__law_pick) (c__law_draw : Cal P w K mg base 1 "_law_draw" ["_law_stream_here", "_law_many"] Sp__law_draw) : Cal P w K mg base 3 "_law_modules" ["_law_stream_here", "_law_areas_here", "_law_names_here"] Sp__law_modules := by
  obtain ⟨f, fd, F, m⟩ := d
  refine ⟨f, fd, dfn (k := 2) (S := Sp__law_modules) F sc__law_modules ?len (fun cdv A outer s H E hr => (dss_cons (ds_setL false (i := 3) sc__law_modules.nd (dl_lc (own := [("_law_area", 7)]) rfl sc__law_modules.nd (di_seq (de_v 1)) (blkOk_by (own := [("_law_area", 7)]) (N := ["_law_stream_here", "_law_areas_here", "_law_names_here", "_law_found", "_law_rooms", "_law_name", "_law_kind", "_law_area"]) (sc := defScope s__law_modules) (by decide +kernel)) (fun _ _ _ _ _ => dg_name (i := 7) sc__law_modules.nd) (fun _ _ _ _ _ => dts_one (dp_eq hr.units (de_callC c__law_draw (hr.mono (by decide)) (da_cons (de_v 0) (da_cons de_int da_nil))) de_int)) (fun _ _ _ _ _ => (de_v 7))))
      (dss_cons (ds_setLc (i := 4) (own := [("_law_area", 7)]) sc__law_modules.nd (di_seq (de_v 1)) (blkOk_by (own := [("_law_area", 7)]) (N := ["_law_stream_here", "_law_areas_here", "_law_names_here", "_law_found", "_law_rooms", "_law_name", "_law_kind", "_law_area"]) (sc := defScope s__law_modules) (by decide +kernel)) (fun _ _ _ _ _ => dg_name (i := 7) sc__law_modules.nd) (fun _ _ _ _ _ => dts_one (dp_notIn hr (de_v 7) (de_v 3))) (fun _ _ _ _ _ => (de_v 7)) (fun _ _ _ h => snd_setL (m := true) (i := 4) h))
      (dss_cons (ds_for [] PassesOwn.never (di_seq (de_v 2)) (dg_name (i := 5) sc__law_modules.nd) (dss_cons (ds_set false (i := 6) sc__law_modules.nd (de_callC c__law_draw (hr.mono (by decide)) (da_cons (de_v 0) (da_cons de_int da_nil))))
      (dss_cons (ds_set true (i := 7) sc__law_modules.nd (de_callC c__law_pick (hr.mono (by decide)) (da_cons (de_v 0) (da_cons (de_add (de_v 4) (dl_lst (da_cons de_str da_nil)).e) da_nil))))
      (dss_one (ds_if (DW.p (dw_or (dp_eq hr.units (de_v 7) de_str) (dw_or1 (dp_eq hr.units (de_v 6) de_int)))) (dss_one (ds_app false (i := 3) (de_v 5))) (dss_one (ds_if (DW.p (dw_and (dp_eq hr.units (de_v 6) de_int) (dw_and1 (dp_lt (de_count (de_v 7) de_str) de_int)))) (dss_one (ds_app false (i := 3) (de_add (de_add (de_add (de_add (de_v 7) de_str) (de_ix (dl_split (de_v 7) de_str).e (de_neg de_int))) de_str) (de_v 5)))) (dss_one (ds_app false (i := 3) (de_add (de_add (de_v 7) de_str) (de_v 5)))))))))))
      (dss_one (ds_ret (de_sl (de_v 3) do_none (do_some de_int)))))))) ?h, F.kp, F.binds fun _ _ _ _ _ _ us hl => match us, hl with | [_, _, _], _ => rfl, m⟩
  case len =>
    intro g ds n Q h; obtain ⟨_, _, _, _, _, _, _, rfl, _⟩ := h; rfl
  case h =>
    intro g ds n Q h
    obtain ⟨k, hs, ns, lv, dp, zs, rfl, rfl, hA, hdp, hN, hl1, hl2, hf, q⟩ := h
    have har : ∀ z ∈ zs, asc (arS z) ∧ (arS z).length ≤ 54 := fun z hz => by
      have pp : PathN 6 (arS z) := ⟨arN z, List.length_pos_iff.mpr (arN_ne z), by unfold arN; rw [List.length_append, List.length_replicate]; have := (hA.h z hz).2; show z.2.1 + 1 ≤ 6; omega, fun x hx => by
        rcases arN_mem hx with rfl | rfl
        · exact hN.oh _ (hA.h z hz).1
        · exact hN.on _ (hA.name hz), rfl⟩
      exact ⟨pp.asc, pp.len⟩
    rw [List.map_map]
    refine ⟨by rw [List.length_map]; exact L1 (by omega), ?_⟩
    refine lcSub (D.str ∘ arS) 1 zs [] n (by omega) (fun z hz => ⟨_, rfl, fun f Q hf hq => ?_, fun f Q h => h⟩) (fun F f1 hF hf1 => ?_)
    · obtain ⟨f2, rfl⟩ : ∃ f2, f = f2 + 1 := ⟨f - 1, by omega⟩
      exact ⟨k, 6, f2, rfl, rfl, by decide, by decide, rfl, fun r _ _ => hq _ _ (by omega)⟩
    · rw [List.nil_append]
      refine ⟨by rw [List.length_map]; exact L1 (by omega), ?_⟩
      refine lcF (D.str ∘ arS) (fun z => !decide (arS z ∈ F.map arS)) zs _ (fun z hz => ⟨_, rfl, fun f Q h => ?_, fun _ f Q h => h⟩) ?_
      · show _ ∧ _
        have hF2 : ∀ s ∈ F.map arS, asc s := fun s hs => by
          obtain ⟨z', hz', rfl⟩ := List.mem_map.mp hs
          exact (har z' (hF.subset hz')).1
        rw [← List.map_map]
        refine ⟨shaped_str (har z hz).1, shpST hF2, ?_⟩
        show Q (xb true ((pyA ((F.map arS).map D.str)).any fun y => y.eqv (D.str (arS z)).py)) f
        rw [anyS']
        exact h
      · rw [← List.map_map, ← List.map_map]
        refine ⟨flatA_strs _, ?_⟩
        simp only [List.set_cons_succ, List.set_cons_zero, setsR, startR, List.map_cons, List.map_nil, List.cons_append, List.nil_append, List.replicate_succ, List.replicate_zero, List.length_cons, List.length_nil, Nat.reduceAdd, Nat.reduceSub]
        generalize hR : zs.filter (fun z => !decide (arS z ∈ F.map arS)) = R
        have hRz : ∀ z ∈ R, z ∈ zs ∧ z ∉ F := fun z hz => by
          rw [← hR] at hz
          obtain ⟨h1, h2⟩ := List.mem_filter.mp hz
          refine ⟨h1, fun h => ?_⟩
          rw [decide_eq_true (List.mem_map.mpr ⟨z, h, rfl⟩)] at h2
          cases h2
        have hRl : R.length ≤ 30 := by rw [← hR]; exact Nat.le_trans (List.length_filter_le _ _) hl1
        refine dFor_list D.str (fun done rest r f => ∃ (L : List (List Str)) (a b c : Sl), r = [.sh (.any (.ref k.a)), .sh (.lst ((zs.map arS).map D.str)), .sh (.lst (lv.map D.str)), .ow ((L.map (Txt.join ".")).map D.str), .ow ((R.map arS).map D.str), a, b, c] ∧ MI hs ns F done L ∧ L.length ≤ F.length + done.length ∧ f1 ≤ f + 2 * done.length) _ _ _ ?_ ?_ ⟨F.map arN, _, _, _, by rw [List.map_map, List.map_map, List.map_map, List.map_map]; rfl, MI.start hA (by omega) hN hF, by simp, by simp⟩
        · rintro done o rest r f N hx ⟨L, a, b, c, rfl, hM, hL, hf2⟩ hNn
          have hxl := congrArg List.length hx
          rw [List.length_append, List.length_cons] at hxl
          have hol : o ∈ lv := by rw [hx]; simp
          have hod : o ∉ done := by
            have := hN.ln
            rw [hx, List.nodup_append] at this
            exact fun h => this.2.2 o h o (by simp) rfl
          have hdn : ∀ x ∈ done, x ∈ lv := fun x h => by rw [hx]; exact List.mem_append.mpr (.inl h)
          have hon := hN.ol o hol
          have hFl := hF.length_le
          obtain ⟨f2, rfl⟩ : ∃ f2, f = f2 + 2 := ⟨f - 2, by omega⟩
          refine ⟨_, rfl, k, 9, f2 + 1, rfl, rfl, by decide, by decide, rfl, fun kd k0 k1 => ?_⟩
          have fin : ∀ (pre : List Str) (a' b' c' : Sl) (f' : Nat), f2 ≤ f' → (pre = [] ∨ ∃ z ∈ zs, z ∉ F ∧ (pre = arN z ∨ pre = arN z ++ [z.2.2])) → N [.sh (.any (.ref k.a)), .sh (.lst ((zs.map arS).map D.str)), .sh (.lst (lv.map D.str)), .ow ((L.map (Txt.join ".")).map D.str ++ [.str (Txt.join "." (pre ++ [o]))]), .ow ((R.map arS).map D.str), a', b', c'] f' := fun pre a' b' c' f' hf' hp =>
            hNn _ _ ⟨L ++ [pre ++ [o]], _, _, _, by rw [List.map_append, List.map_append]; rfl, hM.add hA hdp hN hF hdn hol hod hp, by rw [List.length_append, List.length_append, List.length_singleton, List.length_singleton]; omega, by rw [List.length_append, List.length_singleton]; omega⟩
          have hLl : ((L.map (Txt.join ".")).map D.str).length ≤ lim := by
            rw [List.length_map, List.length_map]
            exact L1 (by omega)
          have e1 : Txt.join "." ([] ++ [o]) = o := str_ext (by
            show cd (Txt.join "." [o]) = cd o
            rw [cd_join]
            rfl)
          simp only [List.set_cons_succ, List.set_cons_zero, setsR, startR, List.map_cons, List.map_nil, List.cons_append, List.nil_append, List.replicate_succ, List.replicate_zero, List.length_cons, List.length_nil, Nat.reduceAdd, Nat.reduceSub]
          refine ⟨show 1 ≤ lim by decide, ?_, ?_⟩
          · rw [List.length_map, List.length_map]; exact L1 (by show R.length + 1 ≤ 100000; omega)
          refine .inl ⟨k, _, rfl, rfl, ?_, ?_, by omega, fun ad had f3 hf3 => ?_⟩
          · rw [List.length_append]; show 0 < _ + 1; omega
          · rw [List.length_append, List.length_map, List.length_map]; show R.length + 1 ≤ 100000; omega
          rcases List.mem_append.mp had with had | had
          · obtain ⟨s, hs, rfl⟩ := List.mem_map.mp had
            obtain ⟨z, hz, rfl⟩ := List.mem_map.mp hs
            refine ⟨rfl, ?_⟩
            simp only [List.set_cons_succ, List.set_cons_zero, setsR, startR, List.map_cons, List.map_nil, List.cons_append, List.nil_append, List.replicate_succ, List.replicate_zero, List.length_cons, List.length_nil, Nat.reduceAdd, Nat.reduceSub]
            have alone : N [.sh (.any (.ref k.a)), .sh (.lst ((zs.map arS).map D.str)), .sh (.lst (lv.map D.str)), .ow ((L.map (Txt.join ".")).map D.str ++ [.str o]), .ow ((R.map arS).map D.str), .sh (.str o), .sh (.int kd), .sh (.str (arS z))] f3 := by
              have := fin [] (.sh (.str o)) (.sh (.int kd)) (.sh (.str (arS z))) f3 (by omega) (.inl rfl)
              rw [e1] at this
              exact this
            obtain ⟨hz1, hz2⟩ := hRz z hz
            have hzl := (har z hz1).2
            have e2 : arS z ++ "." ++ o = Txt.join "." (arN z ++ [o]) := join_snoc (arN z) o (arN_ne z)
            have hol8 := hon.2.1
            have short : arS z ++ "." ++ o = Txt.join "." (arN z ++ [o]) → N [.sh (.any (.ref k.a)), .sh (.lst ((zs.map arS).map D.str)), .sh (.lst (lv.map D.str)), .ow ((L.map (Txt.join ".")).map D.str ++ [.str (arS z ++ "." ++ o)]), .ow ((R.map arS).map D.str), .sh (.str o), .sh (.int kd), .sh (.str (arS z))] f3 := fun e => by
              rw [e]
              exact fin (arN z) _ _ _ f3 (by omega) (.inr ⟨z, hz1, hz2, .inl rfl⟩)
            have d1 : (Str.ofString ".").length = 1 := by decide +kernel
            have c1 : (arS z).length + (Str.ofString ".").length ≤ lim := L1 (by omega)
            have c2 : (arS z ++ Str.ofString ".").length + o.length ≤ lim := L1 (by rw [app_len]; omega)
            show if decide (arS z = "") = true then _ else _
            by_cases e0 : arS z = ""
            · rw [decide_eq_true e0]
              refine iteT ⟨_, rfl, hLl, ?_⟩
              exact alone
            · rw [decide_eq_false e0]
              refine iteF ?_
              show if decide (kd = 0) = true then _ else _
              by_cases e3 : kd = 0
              · rw [decide_eq_true e3]
                refine iteT ⟨_, rfl, hLl, ?_⟩
                exact alone
              · rw [decide_eq_false e3]
                refine iteF ?_
                show if decide (kd = 1) = true then _ else _
                by_cases e4 : kd = 1
                · rw [decide_eq_true e4]
                  refine iteT ⟨trivial, ?_⟩
                  show if decide ((Txt.count (arS z) ".") < 4) = true then _ else _
                  by_cases e5 : (Txt.count (arS z) ".") < 4
                  · rw [decide_eq_true e5]
                    have hsp : Txt.split (arS z) "." = arN z := split_join_names (arN_ne z) fun x hx => by
                      rcases arN_mem hx with rfl | rfl
                      · exact hN.oh _ (hA.h z hz1).1
                      · exact hN.on _ (hA.name hz1)
                    have hn8 := (hN.on _ (hA.name hz1)).2.1
                    have la : atI ((Txt.split (arS z) ".").map D.str) (-1) = some (.str z.2.2) := by
                      rw [hsp, atI_last]
                      unfold arN
                      rw [List.getLast?_concat]
                      rfl
                    have e7 : arS z ++ "." ++ z.2.2 = Txt.join "." (arN z ++ [z.2.2]) := join_snoc (arN z) z.2.2 (arN_ne z)
                    have e8 : arS z ++ "." ++ z.2.2 ++ "." ++ o = Txt.join "." (arN z ++ [z.2.2] ++ [o]) := by
                      rw [e7]
                      exact join_snoc (arN z ++ [z.2.2]) o (by simp)
                    refine iteT ⟨_, rfl, c1, by decide +kernel, L1 (by omega), .str z.2.2, la, ?_⟩
                    refine ⟨L1 (by rw [app_len]; omega), L1 (by rw [app_len, app_len]; omega), L1 (by rw [app_len, app_len, app_len]; omega), hLl, ?_⟩
                    show N [.sh (.any (.ref k.a)), .sh (.lst ((zs.map arS).map D.str)), .sh (.lst (lv.map D.str)), .ow ((L.map (Txt.join ".")).map D.str ++ [.str (arS z ++ "." ++ z.2.2 ++ "." ++ o)]), .ow ((R.map arS).map D.str), .sh (.str o), .sh (.int kd), .sh (.str (arS z))] f3
                    rw [e8]
                    exact fin (arN z ++ [z.2.2]) _ _ _ f3 (by omega) (.inr ⟨z, hz1, hz2, .inr rfl⟩)
                  · rw [decide_eq_false e5]
                    refine iteF ⟨_, rfl, c1, c2, hLl, ?_⟩
                    exact short e2
                · rw [decide_eq_false e4]
                  refine iteF ?_
                  refine ⟨_, rfl, c1, c2, hLl, ?_⟩
                  exact short e2
          · rw [List.mem_singleton.mp had]
            refine ⟨rfl, ?_⟩
            refine ⟨_, rfl, hLl, ?_⟩
            have := fin [] (.sh (.str o)) (.sh (.int kd)) (.sh (.str "")) f3 (by omega) (.inl rfl)
            rw [e1] at this
            exact this
        · rintro r f ⟨L, a, b, c, rfl, hM, hL, hf2⟩
          have e6 : cutD ((L.map (Txt.join ".")).map D.str) none (some (24 : Int)) = ((L.map (Txt.join ".")).take 24).map D.str := by
            rw [show (24 : Int) = ((24 : Nat) : Int) from rfl, cutD_take, List.map_take]
          show Q (.lst (cutD ((L.map (Txt.join ".")).map D.str) none (some (24 : Int)))) f
          rw [e6]
          exact q _ f hM.pvm (by omega)
def rpB (s : Str) : Bool := pathB s && decide ((Txt.split s ".").length ≤ 4)
def ovlL : List Str → Bool
  | [] => false
  | p :: ps => ps.any (fun q => ovl q p) || ovlL ps
theorem ovlL_snoc (ps : List Str) (q : Str) : ovlL (ps ++ [q]) = (ovlL ps || ps.any (fun p => ovl q p)) := by
  induction ps with
  | nil => rfl
  | cons p ps ih =>
    show ((ps ++ [q]).any (fun q => ovl q p) || ovlL (ps ++ [q])) = ((ps.any (fun q => ovl q p) || ovlL ps) || (ovl q p || ps.any fun p => ovl q p))
    rw [ih, List.any_append, List.any_cons, List.any_nil, Bool.or_false]
    cases ps.any (fun q => ovl q p) <;> cases ovl q p <;> cases ovlL ps <;> simp
theorem ovlL_pre {A B : List Str} (h : ovlL (A ++ B) = false) : ovlL A = false := by
  induction A with
  | nil => rfl
  | cons p A ih =>
    have h : (((A ++ B).any fun q => ovl q p) || ovlL (A ++ B)) = false := h
    rw [Bool.or_eq_false_iff, List.any_append, Bool.or_eq_false_iff] at h
    show ((A.any fun q => ovl q p) || ovlL A) = false
    rw [h.1.1, ih h.2]
    rfl
abbrev tps (l : List Str) : D := .tup (l.map D.str)
inductive Rl where
  | forbid (ss ts : List Str) (ch : Bool)
  | layers (rows : List (List Str)) (ch : Bool)
  | stairs (rows : List (List Str))
  | apart (ps : List Str) (ch : Bool)
  | only (ts us : List Str)
  | face (p : Str) (es : List Str)
  | noring (ps : List Str)
def howS (ch : Bool) : Str := if ch = true then "chain" else "direct"
def Rl.wd : Rl → Str
  | .forbid _ _ _ => "forbid"
  | .layers _ _ => "layers"
  | .stairs _ => "stairs"
  | .apart _ _ => "apart"
  | .only _ _ => "only"
  | .face _ _ => "face"
  | .noring _ => "noring"
def Rl.items : Rl → List D
  | .forbid ss ts ch => [tps ss, tps ts, .str (howS ch)]
  | .layers rows ch => [.tup (rows.map tps), .str (howS ch)]
  | .stairs rows => [.tup (rows.map tps)]
  | .apart ps ch => [tps ps, .str (howS ch)]
  | .only ts us => [tps ts, tps us]
  | .face p es => [.str p, tps es]
  | .noring ps => [tps ps]
def Rl.d (r : Rl) : D := .tup (.str r.wd :: r.items)
def Rl.par : Rl → List Str
  | .forbid ss ts _ => ss ++ ts
  | .layers rows _ => rows.flatten
  | .stairs rows => rows.flatten
  | .apart ps _ => ps
  | .only ts us => ts ++ us
  | .face _ es => es
  | .noring ps => ps
def rPs (l m : Nat) (ps : List Str) : Prop := l ≤ ps.length ∧ ps.length ≤ m ∧ ∀ p ∈ ps, rpB p = true
def rRows (rows : List (List Str)) : Prop := 2 ≤ rows.length ∧ rows.length ≤ 5 ∧ ∀ r ∈ rows, rPs 1 4 r
/-- all items are as described -/
def Rl.form : Rl → Prop
  | .forbid ss ts _ => rPs 1 6 ss ∧ rPs 1 6 ts
  | .layers rows _ => rRows rows
  | .stairs rows => rRows rows
  | .apart ps _ => rPs 2 6 ps
  | .only ts us => rPs 1 6 ts ∧ rPs 0 6 us
  | .face p es => rpB p = true ∧ rPs 0 6 es ∧ ∀ e ∈ es, cov p e = true ∧ e ≠ p
  | .noring ps => rPs 2 6 ps
theorem nmB_isName {s : Str} (h : nmB s = true) : isName s := by
  unfold nmB at h
  rw [Bool.and_eq_true, Bool.and_eq_true, decide_eq_true_iff, decide_eq_true_iff, List.all_eq_true] at h
  refine ⟨h.1.1, h.1.2, fun c hc => ?_⟩
  have := of_decide_eq_true (h.2 c hc)
  have all : ∀ c ∈ letL, 97 ≤ c ∧ c ≤ 122 := by decide +kernel
  exact all c this
theorem rp_path {s : Str} : rpB s = true ↔ PathN 4 s := by
  unfold rpB
  rw [Bool.and_eq_true, decide_eq_true_iff]
  constructor
  · rintro ⟨h1, h2⟩
    unfold pathB at h1
    rw [Bool.and_eq_true, List.all_eq_true] at h1
    exact ⟨Txt.split s ".", split_pos s, h2, fun n hn => nmB_isName (h1.2 n hn), (join_split s).symm⟩
  · intro h
    exact ⟨(h.mono (by decide)).pathB, h.splits.2.1⟩
theorem rp_asc {s : Str} (h : rpB s = true) : asc s ∧ s.length ≤ 36 := ⟨(rp_path.mp h).asc, (rp_path.mp h).len⟩
theorem flat_mem {rows : List (List Str)} (h : rRows rows) : (∀ p ∈ rows.flatten, rpB p = true) ∧ rows.flatten.length ≤ 20 := by
  refine ⟨fun p hp => ?_, ?_⟩
  · obtain ⟨r, hr, hp⟩ := List.mem_flatten.mp hp
    exact (h.2.2 r hr).2.2 p hp
  · have : ∀ (l : List (List Str)), (∀ o ∈ l, o.length ≤ 4) → l.flatten.length ≤ 4 * l.length := by
      intro l
      induction l with
      | nil => intro _; exact Nat.zero_le _
      | cons x l ih =>
        intro h
        have h1 := h x (by simp)
        have h2 := ih fun o ho => h o (by simp [ho])
        rw [List.flatten_cons, List.length_append, List.length_cons]
        omega
    have := this rows fun o ho => (h.2.2 o ho).2.1
    have := h.2.1
    omega
theorem Rl.par_ok {r : Rl} (h : r.form) : (∀ p ∈ r.par, rpB p = true) ∧ r.par.length ≤ 20 := by
  cases r with
  | forbid ss ts ch => exact ⟨fun p hp => (List.mem_append.mp hp).elim (h.1.2.2 p) (h.2.2.2 p), by have := h.1.2.1; have := h.2.2.1; show (ss ++ ts).length ≤ 20; rw [List.length_append]; omega⟩
  | layers rows ch => exact flat_mem h
  | stairs rows => exact flat_mem h
  | apart ps ch => exact ⟨h.2.2, Nat.le_trans h.2.1 (by decide)⟩
  | only ts us => exact ⟨fun p hp => (List.mem_append.mp hp).elim (h.1.2.2 p) (h.2.2.2 p), by have := h.1.2.1; have := h.2.2.1; show (ts ++ us).length ≤ 20; rw [List.length_append]; omega⟩
  | face p es => exact ⟨h.2.1.2.2, Nat.le_trans h.2.1.2.1 (by decide)⟩
  | noring ps => exact ⟨h.2.2, Nat.le_trans h.2.1 (by decide)⟩
theorem Rl.par_short {r : Rl} (h : r.form) : short r.par := ⟨Nat.le_trans (Rl.par_ok h).2 (by decide), fun s hs => ⟨Nat.le_trans (rp_asc ((Rl.par_ok h).1 s hs)).2 (by decide), (rp_asc ((Rl.par_ok h).1 s hs)).1⟩⟩
/-- rows in the making -/
structure RowI (ps : List Str) (i : Nat) (rows : List (List Str)) : Prop where
  fl : rows.flatten = ps.take i
  n1 : 1 ≤ rows.length
  n5 : rows.length ≤ 5
  ok : ∀ r ∈ rows, 1 ≤ r.length ∧ r.length ≤ 4
  two : i = ps.length → 2 ≤ rows.length
theorem flat_ge : ∀ (l : List (List Str)), (∀ r ∈ l, 1 ≤ r.length) → l.length ≤ l.flatten.length
  | [], _ => Nat.le_refl _
  | r :: l, h => by
    have h1 := h r (by simp)
    have h2 := flat_ge l fun x hx => h x (by simp [hx])
    rw [List.flatten_cons, List.length_append, List.length_cons]
    omega
theorem take_nxt {α : Type} {l : List α} {i : Nat} {x : α} (h : l[i]? = some x) : l.take (i + 1) = l.take i ++ [x] := by rw [List.take_succ, h]; rfl
theorem RowI.add {ps : List Str} {i : Nat} {rows : List (List Str)} {x : Str} (h : RowI ps i rows) (hi : ps[i]? = some x) (h5 : rows.length < 5) : RowI ps (i + 1) (rows ++ [[x]]) := by
  have n1 := h.n1
  refine ⟨?_, by rw [List.length_append]; omega, by rw [List.length_append, List.length_singleton]; omega, fun r hr => ?_, fun _ => by rw [List.length_append, List.length_singleton]; omega⟩
  · rw [List.flatten_append, h.fl, take_nxt hi]; rfl
  · rcases List.mem_append.mp hr with e | e
    · exact h.ok r e
    · rw [List.mem_singleton.mp e]; exact ⟨Nat.le_refl _, show 1 ≤ 4 by decide⟩
theorem RowI.app {ps : List Str} {i : Nat} {rows : List (List Str)} {r : List Str} {x : Str} (h : RowI ps i rows) (hi : ps[i]? = some x) (h6 : ps.length ≤ 6) (hr : rows[rows.length - 1]? = some r)
    (c1 : r.length = 4 → ¬ rows.length < 5) (c2 : i + 1 = ps.length → rows.length ≠ 1) : RowI ps (i + 1) (rows.set (rows.length - 1) (r ++ [x])) := by
  have n1 := h.n1
  have n5 := h.n5
  have il : i < ps.length := (List.getElem?_eq_some_iff.mp hi).1
  have hne : rows ≠ [] := fun e => by rw [e] at n1; simp at n1
  have er : rows = rows.dropLast ++ [r] := by
    have := List.dropLast_concat_getLast hne
    rw [List.getLast_eq_getElem] at this
    rw [List.getElem?_eq_getElem (by omega)] at hr
    rw [Option.some.inj hr] at this
    exact this.symm
  have es : rows.set (rows.length - 1) (r ++ [x]) = rows.dropLast ++ [r ++ [x]] := by
    have ln : rows.length - 1 = rows.dropLast.length := by rw [List.length_dropLast]
    rw [ln]
    generalize rows.dropLast = d at er
    subst er
    rw [List.set_append_right _ _ (Nat.le_refl _), Nat.sub_self]
    rfl
  have fl : rows.dropLast.flatten ++ r = ps.take i := by
    have := h.fl
    rw [er, List.flatten_append] at this
    simpa using this
  have okd : ∀ q ∈ rows.dropLast, q ∈ rows := fun q hq => (List.dropLast_sublist _).subset hq
  have rm : r ∈ rows := by rw [er]; simp
  have hr4 := (h.ok r rm).2
  refine ⟨?_, by rw [List.length_set]; exact n1, by rw [List.length_set]; exact n5, fun q hq => ?_, fun e => ?_⟩
  · rw [es, List.flatten_append, take_nxt hi, ← fl]
    simp
  · rw [es] at hq
    rcases List.mem_append.mp hq with e | e
    · exact h.ok q (okd q e)
    · rw [List.mem_singleton.mp e, List.length_append, List.length_singleton]
      refine ⟨by omega, ?_⟩
      have ge := flat_ge rows.dropLast fun q hq => (h.ok q (okd q hq)).1
      have fll := congrArg List.length fl
      rw [List.length_append, List.length_take, List.length_dropLast] at *
      by_cases c : rows.length < 5
      · have : r.length ≠ 4 := fun e => c1 e c
        omega
      · omega
  · rw [List.length_set]
    have := c2 e
    omega
/-! values that may be shown -/
def D.its : D → List D
  | .tup xs => xs
  | _ => []
def D.txt : D → Str
  | .str s => s
  | _ => ""
theorem txt_strs (vs : List Str) : (vs.map D.str).map D.txt = vs := by
  rw [List.map_map]
  exact List.map_id _
theorem lcMd {β : Type} (em' : β → D) (y : D → β) {g : Option Dk} {t : TgF} {e : DT} {r : Sg} {Q : List D → Nat → Prop} (xs : List D) (f : Nat)
    (h : ∀ x ∈ xs, ∃ l, t x = some l ∧ ∀ (f : Nat) (Q : QD), Q (em' (y x)) f → e g (setsR r l) f Q) (q : Q ((xs.map y).map em') f) : dLcGo g t dYes e r xs [] f Q := by
  have := lcM (fun d : D => d) em' y xs f h q
  rwa [List.map_id'' (fun _ => rfl)] at this
theorem good_isT {x : D} (h : x.good = true) : ∃ t, x.tyN = some t ∧ kitB t "tuple" = some x.isTup := by
  cases x <;> first
    | (cases h; done)
    | (refine ⟨_, rfl, ?_⟩; simp only [D.isTup]; decide +kernel)
theorem good_isS {x : D} (h : x.good = true) : ∃ t, x.tyN = some t ∧ kitB t "str" = some x.isSt := by
  cases x <;> first
    | (cases h; done)
    | (refine ⟨_, rfl, ?_⟩; simp only [D.isSt]; decide +kernel)
/-! values of bounded parts -/
def big : Nat := 10 ^ 40
def kInn (s : Nat) : Key → Bool
  | .inl _ => false
  | .inr x => decide (asc x) && decide (x.length ≤ s)
mutual
def D.inn (s m : Nat) : D → Bool
  | .none => true
  | .bool _ => true
  | .int i => decide (i.natAbs ≤ big + m)
  | .str x => decide (asc x) && decide (x.length ≤ s)
  | .tup xs => innA s m xs
  | .lst xs => innA s m xs
  | .dct ks xs => ks.all (kInn s) && innA s m xs
  | .obj _ _ _ => false
  | .exn _ _ _ => false
  | .any _ => false
def innA (s m : Nat) : List D → Bool
  | [] => true
  | x :: xs => x.inn s m && innA s m xs
end
theorem innA_iff {s m : Nat} : ∀ {xs : List D}, innA s m xs = true ↔ ∀ x ∈ xs, x.inn s m = true
  | [] => ⟨fun _ _ h => (nomatch h), fun _ => rfl⟩
  | x :: xs => by
    show (x.inn s m && innA s m xs) = true ↔ _
    rw [Bool.and_eq_true, innA_iff]
    exact ⟨fun h y hy => (List.mem_cons.mp hy).elim (fun e => e ▸ h.1) (h.2 y), fun h => ⟨h x (by simp), fun y hy => h y (by simp [hy])⟩⟩
theorem kInn_ok {s : Nat} (hs : s ≤ 5000) : ∀ k : Key, kInn s k = true → keyOk k = true
  | .inl _, h => by cases h
  | .inr x, h => by
    have h : (decide (asc x) && decide (x.length ≤ s)) = true := h
    rw [Bool.and_eq_true, decide_eq_true_iff, decide_eq_true_iff] at h
    show (decide (asc x) && decide (x.length ≤ 5000)) = true
    rw [decide_eq_true h.1, decide_eq_true (Nat.le_trans h.2 hs)]; rfl
theorem asc_cps {s : Str} (h : asc s) : (s.cps.toList.all fun c => decide (c < 1114112)) = true :=
  List.all_eq_true.mpr fun c hc => decide_eq_true (Nat.lt_trans (h c hc) (by decide))
theorem kInn_sh {s : Nat} : ∀ k : Key, kInn s k = true → kOk k = true
  | .inl _, h => by cases h
  | .inr x, h => by
    have h : (decide (asc x) && decide (x.length ≤ s)) = true := h
    rw [Bool.and_eq_true, decide_eq_true_iff, decide_eq_true_iff] at h
    exact asc_cps h.1
mutual
theorem D.inn_good {s m : Nat} (hs : s ≤ 5000) : ∀ d : D, d.inn s m = true → d.good = true
  | .none, _ => rfl
  | .bool _, _ => rfl
  | .int _, _ => rfl
  | .str x, h => kInn_ok hs (.inr x) h
  | .tup xs, h => innA_good hs xs h
  | .lst xs, h => innA_good hs xs h
  | .dct ks xs, h => by
    have h : (ks.all (kInn s) && innA s m xs) = true := h
    rw [Bool.and_eq_true] at h
    show (ks.all keyOk && goodA xs) = true
    rw [innA_good hs xs h.2, Bool.and_true, List.all_eq_true]
    exact fun k hk => kInn_ok hs k (List.all_eq_true.mp h.1 k hk)
  | .obj _ _ _, h => by cases h
  | .exn _ _ _, h => by cases h
  | .any _, h => by cases h
theorem innA_good {s m : Nat} (hs : s ≤ 5000) : ∀ ds : List D, innA s m ds = true → goodA ds = true
  | [], _ => rfl
  | x :: xs, h => by
    have h : (x.inn s m && innA s m xs) = true := h
    rw [Bool.and_eq_true] at h
    show (x.good && goodA xs) = true
    rw [D.inn_good hs x h.1, innA_good hs xs h.2]; rfl
end
theorem log2_big {n m : Nat} (h : n ≤ big + m) (hm : m ≤ 1000000) : n.log2 < 1920 := by
  by_cases e : n = 0
  · subst e; decide
  · rw [Nat.log2_lt e]
    exact Nat.lt_of_le_of_lt (Nat.le_trans h (Nat.add_le_add_left hm _)) (by decide +kernel : big + 1000000 < 2 ^ 1920)
mutual
theorem D.inn_sh {s m : Nat} (hm : m ≤ 1000000) : ∀ d : D, d.inn s m = true → d.shO = true
  | .none, _ => rfl
  | .bool _, _ => rfl
  | .int i, h => decide_eq_true (log2_big (of_decide_eq_true h) hm)
  | .str x, h => kInn_sh (.inr x) h
  | .tup xs, h => innA_sh hm xs h
  | .lst xs, h => innA_sh hm xs h
  | .dct ks xs, h => by
    have h : (ks.all (kInn s) && innA s m xs) = true := h
    rw [Bool.and_eq_true] at h
    show (ks.all kOk && shOA xs) = true
    rw [innA_sh hm xs h.2, Bool.and_true, List.all_eq_true]
    exact fun k hk => kInn_sh k (List.all_eq_true.mp h.1 k hk)
  | .obj _ _ _, h => by cases h
  | .exn _ _ _, h => by cases h
  | .any _, h => by cases h
theorem innA_sh {s m : Nat} (hm : m ≤ 1000000) : ∀ ds : List D, innA s m ds = true → shOA ds = true
  | [], _ => rfl
  | x :: xs, h => by
    have h : (x.inn s m && innA s m xs) = true := h
    rw [Bool.and_eq_true] at h
    show (x.shO && shOA xs) = true
    rw [D.inn_sh hm x h.1, innA_sh hm xs h.2]; rfl
end
theorem kInn_mono {s s' : Nat} (hs : s ≤ s') : ∀ k : Key, kInn s k = true → kInn s' k = true
  | .inl _, h => by cases h
  | .inr x, h => by
    have h : (decide (asc x) && decide (x.length ≤ s)) = true := h
    rw [Bool.and_eq_true, decide_eq_true_iff, decide_eq_true_iff] at h
    show (decide (asc x) && decide (x.length ≤ s')) = true
    rw [decide_eq_true h.1, decide_eq_true (Nat.le_trans h.2 hs)]; rfl
mutual
theorem D.inn_mono {s m s' m' : Nat} (hs : s ≤ s') (hm : m ≤ m') : ∀ d : D, d.inn s m = true → d.inn s' m' = true
  | .none, _ => rfl
  | .bool _, _ => rfl
  | .int i, h => decide_eq_true (Nat.le_trans (of_decide_eq_true h) (Nat.add_le_add_left hm _))
  | .str x, h => kInn_mono hs (.inr x) h
  | .tup xs, h => innA_mono hs hm xs h
  | .lst xs, h => innA_mono hs hm xs h
  | .dct ks xs, h => by
    have h : (ks.all (kInn s) && innA s m xs) = true := h
    rw [Bool.and_eq_true] at h
    show (ks.all (kInn s') && innA s' m' xs) = true
    rw [innA_mono hs hm xs h.2, Bool.and_true, List.all_eq_true]
    exact fun k hk => kInn_mono hs k (List.all_eq_true.mp h.1 k hk)
  | .obj _ _ _, h => by cases h
  | .exn _ _ _, h => by cases h
  | .any _, h => by cases h
theorem innA_mono {s m s' m' : Nat} (hs : s ≤ s') (hm : m ≤ m') : ∀ ds : List D, innA s m ds = true → innA s' m' ds = true
  | [], _ => rfl
  | x :: xs, h => by
    have h : (x.inn s m && innA s m xs) = true := h
    rw [Bool.and_eq_true] at h
    show (x.inn s' m' && innA s' m' xs) = true
    rw [D.inn_mono hs hm x h.1, innA_mono hs hm xs h.2]; rfl
end
theorem str_inn {x : Str} {s m : Nat} (h1 : asc x) (h2 : x.length ≤ s) : (D.str x).inn s m = true := by
  show (decide (asc x) && decide (x.length ≤ s)) = true
  rw [decide_eq_true h1, decide_eq_true h2]; rfl
theorem dpA_le {p : Nat} : ∀ {xs : List D}, (∀ x ∈ xs, x.dp ≤ p) → dpA xs ≤ p
  | [], _ => Nat.zero_le _
  | x :: xs, h => by
    have h1 := h x (by simp)
    have h2 := dpA_le (xs := xs) fun y hy => h y (List.mem_cons_of_mem x hy)
    show max x.dp (dpA xs) ≤ p
    omega
theorem wtA_le {w : Nat} : ∀ {xs : List D}, (∀ x ∈ xs, x.wt ≤ w) → wtA xs ≤ (w + 2) * xs.length
  | [], _ => Nat.zero_le _
  | x :: xs, h => by
    have h1 := h x (by simp)
    have h2 := wtA_le (xs := xs) fun y hy => h y (List.mem_cons_of_mem x hy)
    show x.wt + 2 + wtA xs ≤ (w + 2) * (xs.length + 1)
    rw [Nat.mul_add]
    omega
/-! trees of texts -/
def TT (P : Str → Prop) : Nat → D → Prop
  | 0, x => ∃ s, x = .str s ∧ P s
  | n + 1, x => (∃ s, x = .str s ∧ P s) ∨ ∃ xs, x = .tup xs ∧ xs.length ≤ 20 ∧ ∀ y ∈ xs, TT P n y
mutual
def lv : D → List Str
  | .str s => [s]
  | .tup xs => lvA xs
  | _ => []
def lvA : List D → List Str
  | [] => []
  | x :: xs => lv x ++ lvA xs
end
mutual
def szD : D → Nat
  | .tup xs => 1 + szA xs
  | _ => 1
def szA : List D → Nat
  | [] => 0
  | x :: xs => szD x + szA xs
end
theorem TT.mono {P R : Str → Prop} (h1 : ∀ s, P s → R s) : ∀ (n : Nat) (x : D), TT P n x → TT R n x
  | 0, _, ⟨s, e, h⟩ => ⟨s, e, h1 s h⟩
  | n + 1, _, .inl ⟨s, e, h⟩ => .inl ⟨s, e, h1 s h⟩
  | n + 1, _, .inr ⟨xs, e, hl, h⟩ => .inr ⟨xs, e, hl, fun y hy => TT.mono h1 n y (h y hy)⟩
theorem szA_wt {L : Nat} : ∀ xs : List D, (∀ x ∈ xs, x.wt + 2 ≤ (L + 5) * szD x) → wtA xs ≤ (L + 5) * szA xs
  | [], _ => Nat.zero_le _
  | x :: xs, h => by
    have h1 := h x (by simp)
    have h2 := szA_wt xs fun y hy => h y (by simp [hy])
    show x.wt + 2 + wtA xs ≤ (L + 5) * (szD x + szA xs)
    rw [Nat.mul_add]
    omega
def Ps (l : Nat) (s : Str) : Prop := asc s ∧ s.length ≤ l
theorem TT.wt {l : Nat} : ∀ (n : Nat) (x : D), TT (Ps l) n x → x.wt + 2 ≤ (10 * l + 2 + 5) * szD x
  | 0, _, ⟨s, rfl, h⟩ => by show 10 * s.length + 2 + 2 ≤ _ * 1; have := h.2; omega
  | n + 1, _, .inl ⟨s, rfl, h⟩ => by show 10 * s.length + 2 + 2 ≤ _ * 1; have := h.2; omega
  | n + 1, _, .inr ⟨xs, rfl, hl, h⟩ => by
    have := szA_wt (L := 10 * l + 2) xs fun x hx => TT.wt n x (h x hx)
    show wtA xs + 3 + 2 ≤ _ * (1 + szA xs)
    rw [Nat.mul_add]
    omega
theorem TT.inn {l : Nat} : ∀ (n : Nat) (x : D), TT (Ps l) n x → x.inn l 0 = true
  | 0, _, ⟨s, rfl, h⟩ => str_inn h.1 h.2
  | n + 1, _, .inl ⟨s, rfl, h⟩ => str_inn h.1 h.2
  | n + 1, _, .inr ⟨xs, rfl, hl, h⟩ => innA_iff.mpr fun x hx => TT.inn n x (h x hx)
theorem TT.dp {P : Str → Prop} : ∀ (n : Nat) (x : D), TT P n x → x.dp ≤ n
  | 0, _, ⟨s, rfl, h⟩ => Nat.le_refl 0
  | n + 1, _, .inl ⟨s, rfl, h⟩ => Nat.zero_le _
  | n + 1, _, .inr ⟨xs, rfl, hl, h⟩ => Nat.succ_le_succ (dpA_le fun x hx => TT.dp n x (h x hx))
theorem rp_Ps {s : Str} (h : rpB s = true) : Ps 40 s := ⟨(rp_asc h).1, Nat.le_trans (rp_asc h).2 (by decide)⟩
theorem tps_TT {ps : List Str} {l m n : Nat} (h : rPs l m ps) (hm : m ≤ 20) : TT (Ps 40) (n + 1) (tps ps) := .inr ⟨_, rfl, by rw [List.length_map]; exact Nat.le_trans h.2.1 hm, fun y hy => by
  obtain ⟨s, hs, rfl⟩ := List.mem_map.mp hy
  cases n with
  | zero => exact ⟨s, rfl, rp_Ps (h.2.2 s hs)⟩
  | succ n => exact .inl ⟨s, rfl, rp_Ps (h.2.2 s hs)⟩⟩
theorem str_TT {s : Str} {n : Nat} (h : Ps 40 s) : TT (Ps 40) n (.str s) := by
  cases n with
  | zero => exact ⟨s, rfl, h⟩
  | succ n => exact .inl ⟨s, rfl, h⟩
theorem szA_strs : ∀ ps : List Str, szA (ps.map D.str) = ps.length
  | [] => rfl
  | p :: ps => by show 1 + szA (ps.map D.str) = _; rw [szA_strs ps, List.length_cons]; omega
theorem sz_tps (ps : List Str) : szD (tps ps) = 1 + ps.length := by show 1 + szA _ = _; rw [szA_strs]
theorem szA_rows : ∀ rows : List (List Str), (∀ r ∈ rows, r.length ≤ 4) → szA (rows.map tps) ≤ 5 * rows.length
  | [], _ => Nat.zero_le _
  | r :: rows, h => by
    have h1 := szA_rows rows fun x hx => h x (by simp [hx])
    have h2 := h r (by simp)
    show szD (tps r) + szA (rows.map tps) ≤ _
    rw [sz_tps, List.length_cons]
    omega
theorem rows_TT {rows : List (List Str)} (h : rRows rows) : TT (Ps 40) 2 (.tup (rows.map tps)) ∧ szD (.tup (rows.map tps)) ≤ 26 := by
  refine ⟨.inr ⟨_, rfl, by rw [List.length_map]; exact Nat.le_trans h.2.1 (by decide), fun y hy => ?_⟩, ?_⟩
  · obtain ⟨r, hr, rfl⟩ := List.mem_map.mp hy
    exact tps_TT (h.2.2 r hr) (by decide)
  · show 1 + szA _ ≤ 26
    have := szA_rows rows fun r hr => (h.2.2 r hr).2.1
    have := h.2.1
    omega
theorem how_Ps (ch : Bool) : Ps 40 (howS ch) := by cases ch <;> exact ⟨by decide +kernel, by decide +kernel⟩
theorem wd_Ps (r : Rl) : Ps 40 r.wd := by cases r <;> exact ⟨by simp only [Rl.wd]; decide +kernel, by simp only [Rl.wd]; decide +kernel⟩
theorem items_TT {r : Rl} (h : r.form) : (∀ y ∈ r.items, TT (Ps 40) 2 y) ∧ r.items.length ≤ 3 ∧ 1 ≤ r.items.length ∧ szA r.items ≤ 28 := by
  cases r with
  | forbid ss ts ch =>
    refine ⟨fun y hy => ?_, (by decide : 3 ≤ 3), (by decide : 1 ≤ 3), ?_⟩
    · simp only [Rl.items, List.mem_cons, List.not_mem_nil, or_false] at hy
      rcases hy with rfl | rfl | rfl
      · exact tps_TT h.1 (by decide)
      · exact tps_TT h.2 (by decide)
      · exact str_TT (how_Ps ch)
    · show szD (tps ss) + (szD (tps ts) + (1 + 0)) ≤ 28
      have := h.1.2.1; have := h.2.2.1
      rw [sz_tps, sz_tps]; omega
  | layers rows ch =>
    refine ⟨fun y hy => ?_, (by decide : 2 ≤ 3), (by decide : 1 ≤ 2), ?_⟩
    · simp only [Rl.items, List.mem_cons, List.not_mem_nil, or_false] at hy
      rcases hy with rfl | rfl
      · exact (rows_TT h).1
      · exact str_TT (how_Ps ch)
    · have := (rows_TT h).2
      show szD (.tup (rows.map tps)) + (1 + 0) ≤ 28
      omega
  | stairs rows =>
    refine ⟨fun y hy => ?_, (by decide : 1 ≤ 3), (by decide : 1 ≤ 1), ?_⟩
    · simp only [Rl.items, List.mem_cons, List.not_mem_nil, or_false] at hy
      rcases hy with rfl
      exact (rows_TT h).1
    · have := (rows_TT h).2
      show szD (.tup (rows.map tps)) + 0 ≤ 28
      omega
  | apart ps ch =>
    refine ⟨fun y hy => ?_, (by decide : 2 ≤ 3), (by decide : 1 ≤ 2), ?_⟩
    · simp only [Rl.items, List.mem_cons, List.not_mem_nil, or_false] at hy
      rcases hy with rfl | rfl
      · exact tps_TT h (by decide)
      · exact str_TT (how_Ps ch)
    · have h : rPs 2 6 ps := h
      have := h.2.1
      show szD (tps ps) + (1 + 0) ≤ 28
      rw [sz_tps]; omega
  | only ts us =>
    refine ⟨fun y hy => ?_, (by decide : 2 ≤ 3), (by decide : 1 ≤ 2), ?_⟩
    · simp only [Rl.items, List.mem_cons, List.not_mem_nil, or_false] at hy
      rcases hy with rfl | rfl
      · exact tps_TT h.1 (by decide)
      · exact tps_TT h.2 (by decide)
    · show szD (tps ts) + (szD (tps us) + 0) ≤ 28
      have := h.1.2.1; have := h.2.2.1
      rw [sz_tps, sz_tps]; omega
  | face p es =>
    refine ⟨fun y hy => ?_, (by decide : 2 ≤ 3), (by decide : 1 ≤ 2), ?_⟩
    · simp only [Rl.items, List.mem_cons, List.not_mem_nil, or_false] at hy
      rcases hy with rfl | rfl
      · exact str_TT (rp_Ps h.1)
      · exact tps_TT h.2.1 (by decide)
    · show 1 + (szD (tps es) + 0) ≤ 28
      have := h.2.1.2.1
      rw [sz_tps]; omega
  | noring ps =>
    refine ⟨fun y hy => ?_, (by decide : 1 ≤ 3), (by decide : 1 ≤ 1), ?_⟩
    · simp only [Rl.items, List.mem_cons, List.not_mem_nil, or_false] at hy
      rcases hy with rfl
      exact tps_TT h (by decide)
    · have h : rPs 2 6 ps := h
      have := h.2.1
      show szD (tps ps) + 0 ≤ 28
      rw [sz_tps]; omega
theorem rule_TT {r : Rl} (h : r.form) : TT (Ps 40) 3 r.d ∧ szD r.d ≤ 30 ∧ lv r.d ≠ [] := by
  obtain ⟨h1, h2, _, h3⟩ := items_TT h
  refine ⟨.inr ⟨_, rfl, by rw [List.length_cons]; omega, fun y hy => ?_⟩, ?_, ?_⟩
  · rcases List.mem_cons.mp hy with rfl | hy
    · exact str_TT (wd_Ps r)
    · exact h1 y hy
  · show 1 + (1 + szA r.items) ≤ 30
    omega
  · show ([r.wd] ++ lvA r.items) ≠ []
    simp
theorem TT.bd {l n : Nat} {x : D} (hl : l ≤ 42) (h : TT (Ps l) n x) (hz : szD x ≤ 30) : x.inn 2000 0 = true ∧ x.wt ≤ 13000 ∧ x.dp ≤ n := by
  refine ⟨D.inn_mono (by omega) (Nat.le_refl _) x (TT.inn n x h), ?_, TT.dp n x h⟩
  have h1 := TT.wt n x h
  have h2 : (10 * l + 2 + 5) * szD x ≤ 427 * 30 := Nat.mul_le_mul (by omega) hz
  omega
/-! rules as data -/
mutual
/-- texts, and tuples of such -/
def D.tsB : D → Bool
  | .str s => decide (asc s) && decide (s.length ≤ 5000)
  | .tup xs => tsA xs
  | _ => false
def tsA : List D → Bool
  | [] => true
  | x :: xs => x.tsB && tsA xs
end
theorem tsA_iff : ∀ {xs : List D}, tsA xs = true ↔ ∀ x ∈ xs, x.tsB = true
  | [] => ⟨fun _ _ h => (nomatch h), fun _ => rfl⟩
  | x :: xs => by
    show (x.tsB && tsA xs) = true ↔ _
    rw [Bool.and_eq_true, tsA_iff]
    exact ⟨fun h y hy => (List.mem_cons.mp hy).elim (fun e => e ▸ h.1) (h.2 y), fun h => ⟨h x (by simp), fun y hy => h y (by simp [hy])⟩⟩
theorem ts_str {s : Str} (h : asc s) (hl : s.length ≤ 5000) : (D.str s).tsB = true := by
  show (decide (asc s) && decide (s.length ≤ 5000)) = true
  rw [decide_eq_true h, decide_eq_true hl]; rfl
mutual
theorem ts_eqv : ∀ x y : D, x.tsB = true → y.tsB = true → (PyData.eqv x.py y.py = true ↔ x = y)
  | .str a, .str b, _, _ => by
    show (a == b) = true ↔ _
    rw [beq_iff_eq]
    exact ⟨fun h => by rw [h], fun h => D.str.inj h⟩
  | .str a, .tup ys, _, _ => ⟨(fun h => by cases h), (fun h => by cases h)⟩
  | .tup xs, .str b, _, _ => ⟨(fun h => by cases h), (fun h => by cases h)⟩
  | .tup xs, .tup ys, hx, hy => by
    show PyData.eqvAll (pyA xs) (pyA ys) = true ↔ _
    rw [tsA_eqv xs ys hx hy]
    exact ⟨fun h => by rw [h], fun h => D.tup.inj h⟩
theorem tsA_eqv : ∀ xs ys : List D, tsA xs = true → tsA ys = true → (PyData.eqvAll (pyA xs) (pyA ys) = true ↔ xs = ys)
  | [], [], _, _ => ⟨fun _ => rfl, fun _ => rfl⟩
  | [], _ :: _, _, _ => ⟨(fun h => by cases h), (fun h => by cases h)⟩
  | _ :: _, [], _, _ => ⟨(fun h => by cases h), (fun h => by cases h)⟩
  | x :: xs, y :: ys, hx, hy => by
    have hx : (x.tsB && tsA xs) = true := hx
    have hy : (y.tsB && tsA ys) = true := hy
    rw [Bool.and_eq_true] at hx hy
    show (PyData.eqv x.py y.py && PyData.eqvAll (pyA xs) (pyA ys)) = true ↔ _
    rw [Bool.and_eq_true, ts_eqv x y hx.1 hy.1, tsA_eqv xs ys hx.2 hy.2]
    exact ⟨fun h => by rw [h.1, h.2], fun h => List.cons.inj h⟩
end
theorem tsA_strs {ps : List Str} (h : ∀ p ∈ ps, asc p ∧ p.length ≤ 5000) : (tps ps).tsB = true := tsA_iff.mpr fun x hx => by
  obtain ⟨p, hp, rfl⟩ := List.mem_map.mp hx
  exact ts_str (h p hp).1 (h p hp).2
theorem rPs_ts {l m : Nat} {ps : List Str} (h : rPs l m ps) : (tps ps).tsB = true := tsA_strs fun p hp => ⟨(rp_asc (h.2.2 p hp)).1, Nat.le_trans (rp_asc (h.2.2 p hp)).2 (by decide)⟩
theorem rRows_ts {rows : List (List Str)} (h : rRows rows) : (D.tup (rows.map tps)).tsB = true := tsA_iff.mpr fun x hx => by
  obtain ⟨r, hr, rfl⟩ := List.mem_map.mp hx
  exact rPs_ts (h.2.2 r hr)
theorem how_ts (ch : Bool) : (D.str (howS ch)).tsB = true := by cases ch <;> decide +kernel
theorem Rl.ts {r : Rl} (h : r.form) : r.d.tsB = true := by
  have w : ∀ r : Rl, (D.str r.wd).tsB = true := fun r => by cases r <;> (simp only [Rl.wd]; decide +kernel)
  refine tsA_iff.mpr fun x hx => ?_
  rcases List.mem_cons.mp hx with rfl | hx
  · exact w r
  · cases r with
    | forbid ss ts ch =>
      simp only [Rl.items, List.mem_cons, List.not_mem_nil, or_false] at hx
      rcases hx with rfl | rfl | rfl
      · exact rPs_ts h.1
      · exact rPs_ts h.2
      · exact how_ts ch
    | layers rows ch =>
      simp only [Rl.items, List.mem_cons, List.not_mem_nil, or_false] at hx
      rcases hx with rfl | rfl
      · exact rRows_ts h
      · exact how_ts ch
    | stairs rows =>
      simp only [Rl.items, List.mem_cons, List.not_mem_nil, or_false] at hx
      rcases hx with rfl
      exact rRows_ts h
    | apart ps ch =>
      simp only [Rl.items, List.mem_cons, List.not_mem_nil, or_false] at hx
      rcases hx with rfl | rfl
      · exact rPs_ts h
      · exact how_ts ch
    | only ts us =>
      simp only [Rl.items, List.mem_cons, List.not_mem_nil, or_false] at hx
      rcases hx with rfl | rfl
      · exact rPs_ts h.1
      · exact rPs_ts h.2
    | face p es =>
      simp only [Rl.items, List.mem_cons, List.not_mem_nil, or_false] at hx
      rcases hx with rfl | rfl
      · exact ts_str (rp_asc h.1).1 (Nat.le_trans (rp_asc h.1).2 (by decide))
      · exact rPs_ts h.2.1
    | noring ps =>
      simp only [Rl.items, List.mem_cons, List.not_mem_nil, or_false] at hx
      rcases hx with rfl
      exact rPs_ts h
theorem TT.shp {l : Nat} : ∀ (n : Nat) (x : D), TT (Ps l) n x → Shp n x
  | 0, _, ⟨s, e, h⟩ => by subst e; exact shp_str h.1 0
  | n + 1, _, .inl ⟨s, e, h⟩ => by subst e; exact shp_str h.1 _
  | n + 1, _, .inr ⟨xs, e, _, h⟩ => by subst e; exact shp_tup fun y hy => TT.shp n y (h y hy)
theorem Rl.shp {r : Rl} (h : r.form) : Shp 3 r.d := TT.shp 3 _ (rule_TT h).1
abbrev rlsT (rs : List Rl) : D := .tup (rs.map Rl.d)
/-- right rules, none twice -/
structure Rs (m : Nat) (rs : List Rl) : Prop where
  ok : ∀ r ∈ rs, r.form ∧ ovlL r.par = false
  nd : (rs.map Rl.d).Nodup
  len : rs.length ≤ m
theorem any_rd {l : List D} {x : D} (hl : ∀ y ∈ l, y.tsB = true) (hx : x.tsB = true) : (((pyA l).any fun z => PyData.eqv z x.py) = true) ↔ x ∈ l := by
  induction l with
  | nil => exact ⟨(fun h => by cases h), (fun h => by cases h)⟩
  | cons y l ih =>
    show (PyData.eqv y.py x.py || (pyA l).any fun z => PyData.eqv z x.py) = true ↔ _
    rw [Bool.or_eq_true, ih fun z hz => hl z (by simp [hz]), ts_eqv y x (hl y (by simp)) hx, List.mem_cons]
    exact ⟨fun h => h.imp Eq.symm id, fun h => h.imp Eq.symm id⟩
theorem flatA_of {l : List D} (h : ∀ x ∈ l, x.flat = true) : flatA l = true := by
  induction l with
  | nil => rfl
  | cons x l ih =>
    show (x.flat && flatA l) = true
    rw [h x (by simp), ih fun y hy => h y (by simp [hy])]; rfl
def lstS (l : List Str) : D := .lst (l.map D.str)
/-! numbered_lines -/
abbrev s_numbered_lines : Stmt := topS 67
theorem sc_numbered_lines : FnScope ["value", "lines", "number", "line", "words"] ["value"] (defScope s_numbered_lines) := ⟨rfl, rfl, rfl, by decide +kernel, rfl, by decide +kernel, by decide +kernel⟩
def numL : Nat → List (List Str) → List D
  | _, [] => []
  | i, w :: r => (if w = [] then [] else [.tup [.int i, lstS w]]) ++ numL (i + 1) r
def nl1 (p : Str × Nat) : D := .tup [.int (p.2 : Nat), .str p.1]
def nl2 (q : Nat × List Str) : D := .tup [.int (q.1 : Nat), lstS q.2]
def nlY (p : Str × Nat) : Nat × List Str := (p.2, wdsOf p.1)
theorem enum1_zip (l : List Str) : enumD1 (l.map D.str) = (l.zipIdx 1).map nl1 := by
  refine List.ext_getElem? fun i => ?_
  unfold enumD1
  rw [List.getElem?_mapIdx, List.getElem?_map, List.getElem?_map, List.getElem?_zipIdx]
  cases l[i]? with
  | none => rfl
  | some x => show some _ = some _; unfold nl1; rw [Nat.add_comm]
theorem numL_eq : ∀ (l : List Str) (i : Nat), (((l.zipIdx i).map nlY).filter fun q => !decide (q.2 = [])).map nl2 = numL i (l.map wdsOf)
  | [], _ => rfl
  | s :: l, i => by
    have ih := numL_eq l (i + 1)
    rw [List.zipIdx_cons, List.map_cons, List.filter_cons]
    show _ = (if wdsOf s = [] then [] else [nl2 (i, wdsOf s)]) ++ numL (i + 1) (l.map wdsOf)
    by_cases h : wdsOf s = []
    · rw [if_pos h, if_neg (by unfold nlY; rw [decide_eq_true h]; decide), ih]; rfl
    · rw [if_neg h, if_pos (by unfold nlY; rw [decide_eq_false h]; rfl), List.map_cons, ih]; rfl
def Sp_numbered_lines : DSp := fun _ ds f Q => ∃ t : Str, ds = [.str t] ∧ asc t ∧ t.length ≤ 90000 ∧ Q (.lst (numL 1 ((Txt.split t "\n").map wdsOf))) f
set_option maxHeartbeats 2000000 in
theorem ok_numbered_lines (d : Df K mg "numbered_lines" s_numbered_lines) (m_enumerate : mg "enumerate" = none) (m_str : mg "str" = none) (m_isinstance : mg "isinstance" = none) (c_words_of : Cal P w K mg base 1 "words_of" ["line"] Sp_words_of) : Cal P w K mg base 2 "numbered_lines" ["value"] Sp_numbered_lines := by
  obtain ⟨f, fd, F, m⟩ := d
  refine ⟨f, fd, dfn (k := 1) (S := Sp_numbered_lines) F sc_numbered_lines ?len (fun cdv A outer s H E hr => (dss_cons (ds_if (dp_not (dp_val (de_isi m_isinstance (da_cons (de_v 0) (da_cons (de_bltn (v := .ty "str") (u := .type "str") (by rfl) m_str (by decide +kernel) rfl) da_nil))))) (dss_one ds_never) dss_nil)
      (dss_cons (ds_setLc (i := 1) (own := [("number", 2), ("line", 3)]) sc_numbered_lines.nd (di_enum1 m_enumerate (da_cons (dl_split (de_v 0) de_str).e da_nil)) (blkOk_by (own := [("number", 2), ("line", 3)]) (N := ["value", "lines", "number", "line", "words"]) (sc := defScope s_numbered_lines) (by decide +kernel)) (fun _ _ _ _ _ => dg_tup rfl (dgs_cons (dg_name (i := 2) sc_numbered_lines.nd) (dgs_cons (dg_name (i := 3) sc_numbered_lines.nd) dgs_nil))) (fun _ _ _ _ _ => dts_nil) (fun _ _ _ _ _ => (de_tup (da_cons (de_v 2) (da_cons (de_callC c_words_of (hr.mono (by decide)) (da_cons (de_v 3) da_nil)) da_nil)))) (fun _ _ _ h => snd_set (m := false) (i := 1) h.e))
      (dss_one (ds_ret (dl_lc (own := [("number", 2), ("words", 4)]) rfl sc_numbered_lines.nd (di_seq (de_v 1)) (blkOk_by (own := [("number", 2), ("words", 4)]) (N := ["value", "lines", "number", "line", "words"]) (sc := defScope s_numbered_lines) (by decide +kernel)) (fun _ _ _ _ _ => dg_tup rfl (dgs_cons (dg_name (i := 2) sc_numbered_lines.nd) (dgs_cons (dg_name (i := 4) sc_numbered_lines.nd) dgs_nil))) (fun _ _ _ _ _ => dts_one (dp_neE hr.units (de_v 4) (dl_lst da_nil).e)) (fun _ _ _ _ _ => (de_tup (da_cons (de_v 2) (da_cons (de_v 4) da_nil))))).e))))) ?h, F.kp, F.binds fun _ _ _ _ _ _ us hl => match us, hl with | [_], _ => rfl, m⟩
  case len =>
    intro g ds n Q h; obtain ⟨_, rfl, _⟩ := h; rfl
  case h =>
    intro g ds n Q h
    obtain ⟨t, rfl, ha, hl, q⟩ := h
    have hsl := split_nl_len t
    refine ⟨"str", true, rfl, by decide +kernel, ?_⟩
    refine ⟨by decide +kernel, L1 (by omega), ?_⟩
    show _ ∧ _
    rw [enum1_zip]
    refine ⟨by rw [List.length_map, List.length_zipIdx]; exact L1 (by omega), ?_⟩
    refine lcM nl1 nl2 nlY ((Txt.split t "\n").zipIdx 1) _ (fun p hp => ⟨_, rfl, fun f Q h => ?_⟩) ?_
    · obtain ⟨h1, h2⟩ := split_nl_mem (List.fst_mem_of_mem_zipIdx hp) ha
      exact ⟨p.1, rfl, h1, by omega, show 2 ≤ lim by decide, h⟩
    · simp only [List.set_cons_succ, List.set_cons_zero, setsR, startR, List.map_cons, List.map_nil, List.cons_append, List.nil_append, List.replicate_succ, List.replicate_zero, List.length_cons, List.length_nil, Nat.reduceAdd, Nat.reduceSub]
      refine ⟨by rw [List.length_map, List.length_map, List.length_zipIdx]; exact L1 (by omega), ?_⟩
      refine lcF nl2 (fun q => !decide (q.2 = [])) _ _ (fun q hq => ⟨_, rfl, fun f Q h => ?_, fun _ f Q h => ?_⟩) ?_
      · refine ⟨Nat.zero_le _, q.2.map D.str, rfl, rfl, ?_⟩
        have e : (!decide (q.2 = [])) = xb true (q.2.map D.str).isEmpty := by cases q.2 <;> rfl
        rw [e] at h
        exact h
      · exact ⟨show 2 ≤ lim by decide, h⟩
      · rw [numL_eq]
        exact q
def rowsT (t : Str) : List (List Str) := ((Txt.split t "\n").map wdsOf).filter fun w => !decide (w = [])
theorem rows_zip (l : List Str) (i : Nat) : ((((l.zipIdx i).map nlY).filter fun q => !decide (q.2 = [])).map (·.2)) = (l.map wdsOf).filter fun w => !decide (w = []) := by
  induction l generalizing i with
  | nil => rfl
  | cons s l ih =>
    rw [List.zipIdx_cons, List.map_cons, List.filter_cons, List.map_cons, List.filter_cons]
    show (if (!decide (wdsOf s = [])) = true then _ else _ : List (Nat × List Str)).map (·.2) = _
    by_cases h : wdsOf s = []
    · rw [if_neg (by rw [decide_eq_true h]; decide), if_neg (by rw [decide_eq_true h]; decide), ih]
    · rw [if_pos (by rw [decide_eq_false h]; rfl), if_pos (by rw [decide_eq_false h]; rfl), List.map_cons, ih]
      rfl
/-! the words of a rule -/
def rowsW : List (List Str) → List Str
  | [] => []
  | [r] => r
  | r :: s :: rows => r ++ Str.ofString "|" :: rowsW (s :: rows)
def sgW (s : Str) (us : List Str) : List Str := (if us = [] then [] else [s]) ++ us
def ruleW : Rl → List Str
  | .forbid ss ts ch => [Str.ofString "forbid", howS ch] ++ ss ++ [Str.ofString "->"] ++ ts
  | .layers rows ch => [Str.ofString "layers", howS ch] ++ rowsW rows
  | .stairs rows => [Str.ofString "stairs"] ++ rowsW rows
  | .apart ps ch => [Str.ofString "apart", howS ch] ++ ps
  | .only ts us => [Str.ofString "only"] ++ ts ++ sgW "<-" us
  | .face p es => [Str.ofString "face", p] ++ sgW ":" es
  | .noring ps => [Str.ofString "noring"] ++ ps
/-- the tuples of words between signs -/
def partGo (sign : Str) : List (List Str) → List Str → List Str → List (List Str)
  | done, cur, [] => done ++ [cur]
  | done, cur, w :: ws => if w = sign then partGo sign (done ++ [cur]) [] ws else partGo sign done (cur ++ [w]) ws
def partW (sign : Str) (ws : List Str) : List (List Str) := partGo sign [] [] ws
theorem partGo_free {sign : Str} : ∀ (r : List Str) (done : List (List Str)) (cur ws : List Str), sign ∉ r → partGo sign done cur (r ++ ws) = partGo sign done (cur ++ r) ws
  | [], done, cur, ws, _ => by rw [List.append_nil]; rfl
  | w :: r, done, cur, ws, h => by
    have h1 : w ≠ sign := fun e => h (by rw [e]; simp)
    show (if w = sign then _ else partGo sign done (cur ++ [w]) (r ++ ws)) = _
    rw [if_neg h1, partGo_free r done (cur ++ [w]) ws fun e => h (by simp [e])]
    rw [List.append_assoc]; rfl
theorem partGo_sign (sign : Str) (done : List (List Str)) (cur ws : List Str) : partGo sign done cur (sign :: ws) = partGo sign (done ++ [cur]) [] ws := by
  show (if sign = sign then _ else _) = _
  rw [if_pos rfl]
theorem part_rows {sign : Str} (he : sign = Str.ofString "|") : ∀ (rows : List (List Str)) (done : List (List Str)), rows ≠ [] → (∀ r ∈ rows, sign ∉ r) → partGo sign done [] (rowsW rows) = done ++ rows
  | [], _, h, _ => absurd rfl h
  | [r], done, _, h => by
    have := partGo_free r done [] [] (h r (by simp))
    rw [List.append_nil] at this
    rw [show rowsW [r] = r from rfl, this]; rfl
  | r :: s :: rows, done, _, h => by
    have h1 := partGo_free r done [] (sign :: rowsW (s :: rows)) (h r (by simp))
    rw [show rowsW (r :: s :: rows) = r ++ sign :: rowsW (s :: rows) from by rw [he]; rfl, h1, partGo_sign]
    rw [part_rows he (s :: rows) _ (by simp) fun x hx => h x (by simp [hx])]
    simp
theorem part_one {sign : Str} {r : List Str} (h : sign ∉ r) : partW sign r = [r] := by
  have := partGo_free r [] [] [] h
  rw [List.append_nil] at this
  unfold partW
  rw [this]; rfl
theorem part_two {sign : Str} {r s : List Str} (h : sign ∉ r) (h2 : sign ∉ s) : partW sign (r ++ [sign] ++ s) = [r, s] := by
  unfold partW
  rw [List.append_assoc, partGo_free r [] [] _ h]
  show partGo sign [] r (sign :: s) = _
  rw [partGo_sign]
  have := partGo_free s [r] [] [] h2
  rw [List.append_nil] at this
  rw [show ([] : List (List Str)) ++ [r] = [r] from rfl, this]; rfl
/-- a sign is no path -/
theorem path_first {p : Str} (h : PathN 4 p) : ∃ c r, cd p = c :: r ∧ 97 ≤ c ∧ c ≤ 122 := by
  obtain ⟨ns, h1, h2, h3, rfl⟩ := h
  cases ns with
  | nil => simp at h1
  | cons a r =>
    have ha := h3 a (by simp)
    have hl := ha.1
    rw [← cd_len] at hl
    have key : ∃ c r', cd a = c :: r' := by
      cases e : cd a with
      | nil => rw [e] at hl; simp at hl
      | cons c r' => exact ⟨c, r', rfl⟩
    obtain ⟨c, r', e⟩ := key
    have hc := ha.2.2 c (by rw [e]; simp)
    rw [cd_join]
    cases r with
    | nil => exact ⟨c, r', e, hc⟩
    | cons b r => exact ⟨c, r' ++ 46 :: jn ((b :: r).map cd), by show cd a ++ 46 :: _ = _; rw [e]; rfl, hc⟩
theorem sign_path {sign : Str} (hs : (match cd sign with
  | c :: _ => decide (c < 97 ∨ 122 < c)
  | [] => true) = true) {p : Str} (h : rpB p = true) : p ≠ sign := fun e => by
  obtain ⟨c, r, e1, h1, h2⟩ := path_first (rp_path.mp h)
  rw [← e, e1] at hs
  have := of_decide_eq_true hs
  omega
theorem sign_free {sign : Str} (hs : (match cd sign with
  | c :: _ => decide (c < 97 ∨ 122 < c)
  | [] => true) = true) {l m : Nat} {ps : List Str} (h : rPs l m ps) : sign ∉ ps := fun e => sign_path hs (h.2.2 _ e) rfl
/-- words of lines -/
theorem wd_rp {p : Str} (h : rpB p = true) : Wd p := wd_path ((rp_path.mp h).mono (by decide))
def wdB (w : Str) : Bool := decide (cd w ≠ []) && decide (∀ c ∈ cd w, c < 128 ∧ c ≠ 32 ∧ c ≠ 10 ∧ c ≠ 35) && decide (w.length ≤ 54)
theorem wdB_ok {w : Str} (h : wdB w = true) : Wd w := by
  unfold wdB at h
  rw [Bool.and_eq_true, Bool.and_eq_true, decide_eq_true_iff, decide_eq_true_iff, decide_eq_true_iff] at h
  obtain ⟨⟨h1, h2⟩, h3⟩ := h
  exact ⟨fun c hc => (h2 c hc).1, h1, fun hc => (h2 _ hc).2.1 rfl, fun hc => (h2 _ hc).2.2.1 rfl, fun e => (h2 35 (List.mem_of_mem_head? e)).2.2.2 rfl, h3⟩
theorem how_wd (ch : Bool) : Wd (howS ch) := wdB_ok (by cases ch <;> decide +kernel)
theorem rPs_wd {l m : Nat} {ps : List Str} (h : rPs l m ps) : ∀ w ∈ ps, Wd w := fun w hw => wd_rp (h.2.2 w hw)
theorem rowsW_mem {rows : List (List Str)} {w : Str} (h : w ∈ rowsW rows) : w = Str.ofString "|" ∨ ∃ r ∈ rows, w ∈ r := by
  induction rows with
  | nil => simp [rowsW] at h
  | cons r rows ih =>
    cases rows with
    | nil => exact .inr ⟨r, by simp, h⟩
    | cons s rows =>
      have h : w ∈ r ++ Str.ofString "|" :: rowsW (s :: rows) := h
      rcases List.mem_append.mp h with h | h
      · exact .inr ⟨r, by simp, h⟩
      · rcases List.mem_cons.mp h with h | h
        · exact .inl h
        · rcases ih h with h | ⟨q, hq, h⟩
          · exact .inl h
          · exact .inr ⟨q, by simp [hq], h⟩
theorem rowsW_len : ∀ {rows : List (List Str)}, (∀ r ∈ rows, r.length ≤ 4) → (rowsW rows).length ≤ 5 * rows.length
  | [], _ => Nat.zero_le _
  | [r], h => by have := h r (by simp); show r.length ≤ 5 * 1; omega
  | r :: s :: rows, h => by
    have h1 := h r (by simp)
    have h2 := rowsW_len (rows := s :: rows) fun x hx => h x (by simp [hx])
    show (r ++ Str.ofString "|" :: rowsW (s :: rows)).length ≤ _
    rw [List.length_append, List.length_cons]
    simp only [List.length_cons] at h2 ⊢
    omega
theorem rRows_w {rows : List (List Str)} (h : rRows rows) : (∀ w ∈ rowsW rows, Wd w) ∧ (rowsW rows).length ≤ 25 := by
  refine ⟨fun w hw => ?_, ?_⟩
  · rcases rowsW_mem hw with e | ⟨r, hr, hw⟩
    · rw [e]; exact wdB_ok (by decide +kernel)
    · exact rPs_wd (h.2.2 r hr) w hw
  · have := rowsW_len (rows := rows) fun r hr => (h.2.2 r hr).2.1
    have := h.2.1
    omega
theorem sgW_w {s : Str} (hs : wdB s = true) {m : Nat} {us : List Str} (h : rPs 0 m us) : (∀ w ∈ sgW s us, Wd w) ∧ (sgW s us).length ≤ m + 1 := by
  unfold sgW
  refine ⟨fun w hw => ?_, ?_⟩
  · rcases List.mem_append.mp hw with e | e
    · split at e
      · simp at e
      · rw [List.mem_singleton.mp e]; exact wdB_ok hs
    · exact rPs_wd h w e
  · have := h.2.1
    rw [List.length_append]
    split
    · show 0 + us.length ≤ _; omega
    · show 1 + us.length ≤ _; omega
theorem ruleW_w {r : Rl} (h : r.form) : (∀ w ∈ ruleW r, Wd w) ∧ (ruleW r).length ≤ 30 ∧ 2 ≤ (ruleW r).length := by
  have A : ∀ {a b : List Str}, (∀ w ∈ a, Wd w) → (∀ w ∈ b, Wd w) → ∀ w ∈ a ++ b, Wd w := fun ha hb w hw => (List.mem_append.mp hw).elim (ha w) (hb w)
  have one : ∀ {s : Str}, wdB s = true → ∀ w ∈ [s], Wd w := fun hs w hw => by rw [List.mem_singleton.mp hw]; exact wdB_ok hs
  have two : ∀ {s t : Str}, wdB s = true → Wd t → ∀ w ∈ [s, t], Wd w := fun hs ht w hw => by
    simp only [List.mem_cons, List.not_mem_nil, or_false] at hw
    rcases hw with rfl | rfl
    · exact wdB_ok hs
    · exact ht
  cases r with
  | forbid ss ts ch =>
    have l1 := h.1.2.1; have l2 := h.2.2.1; have l3 := h.1.1
    refine ⟨A (A (A (two (by decide +kernel) (how_wd ch)) (rPs_wd h.1)) (one (by decide +kernel))) (rPs_wd h.2), ?_⟩
    show ([_, _] ++ ss ++ [_] ++ ts).length ≤ 30 ∧ _
    unfold ruleW
    simp only [List.length_append, List.length_cons, List.length_nil]
    omega
  | layers rows ch =>
    obtain ⟨w1, w2⟩ := rRows_w h
    refine ⟨A (two (by decide +kernel) (how_wd ch)) w1, ?_⟩
    unfold ruleW
    simp only [List.length_append, List.length_cons, List.length_nil]
    omega
  | stairs rows =>
    obtain ⟨w1, w2⟩ := rRows_w h
    refine ⟨A (one (by decide +kernel)) w1, ?_⟩
    unfold ruleW
    simp only [List.length_append, List.length_cons, List.length_nil]
    have : 1 ≤ (rowsW rows).length := by
      match rows, h with
      | r :: s :: rest, h =>
        show 1 ≤ (r ++ Str.ofString "|" :: rowsW (s :: rest)).length
        rw [List.length_append, List.length_cons]; omega
      | [r], h => exact absurd h.1 (by simp)
      | [], h => exact absurd h.1 (by simp)
    omega
  | apart ps ch =>
    have l1 := h.2.1
    refine ⟨A (two (by decide +kernel) (how_wd ch)) (rPs_wd h), ?_⟩
    unfold ruleW
    simp only [List.length_append, List.length_cons, List.length_nil]
    omega
  | only ts us =>
    obtain ⟨w1, w2⟩ := sgW_w (s := "<-") (by decide +kernel) h.2
    have l1 := h.1.2.1; have l3 := h.1.1
    refine ⟨A (A (one (by decide +kernel)) (rPs_wd h.1)) w1, ?_⟩
    unfold ruleW
    simp only [List.length_append, List.length_cons, List.length_nil]
    omega
  | face p es =>
    obtain ⟨w1, w2⟩ := sgW_w (s := ":") (by decide +kernel) h.2.1
    refine ⟨A (two (by decide +kernel) (wd_rp h.1)) w1, ?_⟩
    unfold ruleW
    simp only [List.length_append, List.length_cons, List.length_nil]
    omega
  | noring ps =>
    have l1 := h.2.1; have l3 := h.1
    refine ⟨A (one (by decide +kernel)) (rPs_wd h), ?_⟩
    unfold ruleW
    simp only [List.length_append, List.length_cons, List.length_nil]
    omega
/-- rows in the making: each of the paths so far stands in one -/
structure RowJ (ps : List Str) (i : Nat) (rows : List (List Str)) : Prop where
  fl : rows.flatten.Perm (ps.take i)
  n2 : 2 ≤ rows.length
  n5 : rows.length ≤ 5
  ok : ∀ r ∈ rows, 1 ≤ r.length
theorem flat_set {α : Type} : ∀ (l : List (List α)) (j : Nat) (r : List α) (x : α), l[j]? = some r → (l.set j (r ++ [x])).flatten.Perm (l.flatten ++ [x])
  | [], j, r, x, h => by simp at h
  | a :: l, 0, r, x, h => by
    obtain rfl : a = r := by simpa using h
    show ((a ++ [x]) ++ l.flatten).Perm (a ++ l.flatten ++ [x])
    rw [List.append_assoc, List.append_assoc]
    exact List.perm_append_comm.append_left a
  | a :: l, j + 1, r, x, h => by
    have := flat_set l j r x (by simpa using h)
    show (a ++ (l.set j (r ++ [x])).flatten).Perm (a ++ l.flatten ++ [x])
    rw [List.append_assoc]
    exact this.append_left a
theorem RowJ.add {ps : List Str} {i : Nat} {rows : List (List Str)} {x : Str} (h : RowJ ps i rows) (hi : ps[i]? = some x) (h5 : rows.length < 5) : RowJ ps (i + 1) (rows ++ [[x]]) := by
  have n2 := h.n2
  refine ⟨?_, by rw [List.length_append]; omega, by rw [List.length_append, List.length_singleton]; omega, fun r hr => ?_⟩
  · rw [List.flatten_append, take_nxt hi]
    exact h.fl.append_right [x]
  · rcases List.mem_append.mp hr with e | e
    · exact h.ok r e
    · rw [List.mem_singleton.mp e]; exact Nat.le_refl _
theorem RowJ.app {ps : List Str} {i j : Nat} {rows : List (List Str)} {r : List Str} {x : Str} (h : RowJ ps i rows) (hi : ps[i]? = some x) (hr : rows[j]? = some r) : RowJ ps (i + 1) (rows.set j (r ++ [x])) := by
  refine ⟨?_, by rw [List.length_set]; exact h.n2, by rw [List.length_set]; exact h.n5, fun q hq => ?_⟩
  · rw [take_nxt hi]
    exact (flat_set rows j r x hr).trans (h.fl.append_right [x])
  · rcases List.mem_or_eq_of_mem_set hq with e | e
    · exact h.ok q e
    · rw [e, List.length_append]; exact Nat.le_add_left _ _
theorem RowJ.rlen {ps : List Str} {i : Nat} {rows : List (List Str)} {r : List Str} (h : RowJ ps i rows) (hr : r ∈ rows) : r.length ≤ ps.length := by
  have h1 := h.fl.length_eq
  rw [List.length_take] at h1
  have h2 : r.length ≤ rows.flatten.length := by
    obtain ⟨a, b, rfl⟩ := List.append_of_mem hr
    rw [List.flatten_append, List.flatten_cons, List.length_append, List.length_append]
    omega
  omega
theorem sub_cut {α : Type} (b : Nat) : ∀ rows : List (List α), ((rows.map (·.take b)).flatten).Sublist rows.flatten
  | [] => .slnil
  | r :: rows => (List.take_sublist b r).append (sub_cut b rows)
/-! parted -/
abbrev s_parted : Stmt := topS 63
theorem sc_parted : FnScope ["words", "sign", "found", "word"] ["words", "sign"] (defScope s_parted) := ⟨rfl, rfl, rfl, by decide +kernel, rfl, by decide +kernel, by decide +kernel⟩
def Sp_parted : DSp := fun _ ds f Q => ∃ (ws : List Str) (sg : Str), ds = [.lst (ws.map D.str), .str sg] ∧ ws.length ≤ 1000 ∧ Q (.lst ((partW sg ws).map tps)) f
theorem atI_end {α : Type} {l : List α} {x : α} (h : l[l.length - 1]? = some x) : atI l (-1) = some x := by
  have hl := (List.getElem?_eq_some_iff.mp h).1
  unfold atI ixN
  rw [if_neg (by decide), if_pos (by omega)]
  show l[((l.length : Int) + (-1)).toNat]? = some x
  rw [show ((l.length : Int) + (-1)).toNat = l.length - 1 by omega]
  exact h
set_option maxHeartbeats 2000000 in
theorem ok_parted (d : Df K mg "parted" s_parted) : Cal P w K mg base 1 "parted" ["words", "sign"] Sp_parted := by
  obtain ⟨f, fd, F, m⟩ := d
  refine ⟨f, fd, dfn (k := 0) (S := Sp_parted) F sc_parted ?len (fun cdv A outer s H E hr => (dss_cons (ds_setL false (i := 2) sc_parted.nd (dl_lst (da_cons (de_tup da_nil) da_nil)))
      (dss_cons (ds_for [] PassesOwn.never (di_seq (de_v 0)) (dg_name (i := 3) sc_parted.nd) (dss_one (ds_if (dp_eq hr.units (de_v 3) (de_v 1)) (dss_one (ds_app false (i := 2) (de_tup da_nil))) (dss_one (ds_setIx true (i := 2) (de_neg de_int) (de_add (de_ix (de_v 2) (de_neg de_int)) (de_tup (da_cons (de_v 3) da_nil))))))))
      (dss_one (ds_ret (de_v 2)))))) ?h, F.kp, F.binds fun _ _ _ _ _ _ us hl => match us, hl with | [_, _], _ => rfl, m⟩
  case len =>
    intro g ds n Q h; obtain ⟨_, _, rfl, _⟩ := h; rfl
  case h =>
    intro g ds n Q h
    obtain ⟨ws, sg, rfl, hl, q⟩ := h
    refine ⟨Nat.zero_le _, show 1 ≤ lim by decide, ?_⟩
    simp only [List.set_cons_succ, List.set_cons_zero, setsR, startR, List.map_cons, List.map_nil, List.cons_append, List.nil_append, List.replicate_succ, List.replicate_zero, List.length_cons, List.length_nil, Nat.reduceAdd, Nat.reduceSub]
    refine dFor_list D.str (fun done rest r f => f = n ∧ ∃ (dn : List (List Str)) (cur : List Str) (a : Sl), r = [.sh (.lst (ws.map D.str)), .sh (.str sg), .ow ((dn ++ [cur]).map tps), a] ∧ partGo sg dn cur rest = partW sg ws ∧ dn.length + cur.length ≤ done.length) ws _ _ ?_ ?_ ⟨rfl, [], [], _, rfl, rfl, Nat.le_refl _⟩
    · rintro done w rest r f N hx ⟨rfl, dn, cur, a, rfl, hp, hc⟩ hN
      have hxl := congrArg List.length hx
      rw [List.length_append, List.length_cons] at hxl
      refine ⟨_, rfl, ?_⟩
      show if decide (w = sg) = true then _ else _
      by_cases hw : w = sg
      · rw [decide_eq_true hw]
        refine iteT ⟨_, rfl, Nat.zero_le _, by rw [List.length_map, List.length_append, List.length_singleton]; exact L1 (by omega), hN _ _ ⟨rfl, dn ++ [cur], [], _, by rw [List.map_append (l₁ := dn ++ [cur])]; rfl, ?_, ?_⟩⟩
        · rw [← hp]
          show _ = (if w = sg then _ else _)
          rw [if_pos hw]
        · rw [List.length_append, List.length_append]
          simp only [List.length_singleton, List.length_nil]
          omega
      · rw [decide_eq_false hw]
        have hat : atI ((dn ++ [cur]).map tps) (-1) = some (tps cur) := atI_end (by rw [List.length_map, List.length_append, List.length_singleton, List.getElem?_map, List.getElem?_append_right (by omega)]; simp)
        refine iteF ⟨_, rfl, _, hat, show 1 ≤ lim by decide, ?_⟩
        show _ ∧ _
        refine ⟨by rw [List.length_map]; show cur.length + 1 ≤ lim; exact L1 (by omega), ?_⟩
        show _ ∧ _
        refine ⟨?_, dn.length, ?_, hN _ _ ⟨rfl, dn, cur ++ [w], .sh (.str w), ?_, ?_, ?_⟩⟩
        · exact flatA_of fun x hx => by
            rcases List.mem_append.mp hx with hx | hx
            · obtain ⟨s, _, rfl⟩ := List.mem_map.mp hx; rfl
            · rw [List.mem_singleton.mp hx]; rfl
        · rw [List.length_map, List.length_append, List.length_singleton]
          unfold ixN
          rw [if_neg (by decide), if_pos (by omega)]
          congr 1
          omega
        · show [_, _, Sl.ow (((dn ++ [cur]).map tps).set dn.length (.tup (cur.map D.str ++ [.str w]))), _] = _
          rw [List.map_append, List.set_append_right _ _ (by rw [List.length_map]; exact Nat.le_refl _), List.length_map, Nat.sub_self, List.map_append]
          show [_, _, Sl.ow (dn.map tps ++ [.tup (cur.map D.str ++ [.str w])]), _] = [_, _, Sl.ow (dn.map tps ++ [tps (cur ++ [w])]), _]
          rw [show tps (cur ++ [w]) = .tup (cur.map D.str ++ [.str w]) from by unfold tps; rw [List.map_append]; rfl]
        · rw [← hp]
          show _ = (if w = sg then _ else _)
          rw [if_neg hw]
        · rw [List.length_append, List.length_append]
          simp only [List.length_singleton]
          omega
    · rintro r f ⟨rfl, dn, cur, a, rfl, hp, hc⟩
      have e : partW sg ws = dn ++ [cur] := hp.symm
      rw [e] at q
      exact q
abbrev s__law_rows_of : Stmt := topS 80
theorem sc__law_rows_of : FnScope ["_law_stream_here", "_law_paths", "_law_bound", "_law_found", "_law_path", "_law_at", "_law_row"] ["_law_stream_here", "_law_paths", "_law_bound"] (defScope s__law_rows_of) := ⟨rfl, rfl, rfl, by decide +kernel, rfl, by decide +kernel, by decide +kernel⟩
def Sp__law_rows_of : DSp := fun g ds f Q => ∃ (k : Dk) (ps : List Str) (bd : Nat), g = some k ∧ ds = [.any (.ref k.a), .lst (ps.map D.str), .int bd] ∧ 2 ≤ ps.length ∧ ps.length ≤ 8 ∧ 1 ≤ bd ∧ bd ≤ 8 ∧ (∀ p ∈ ps, asc p ∧ p.length ≤ 1000) ∧ 8 ≤ f ∧
  ∀ (rows : List (List Str)) (l : List Str) f', rows.flatten.Sublist l → l.Perm ps → 2 ≤ rows.length → rows.length ≤ 5 → (∀ r ∈ rows, 1 ≤ r.length ∧ r.length ≤ bd) → f ≤ f' + 8 → Q (.tup (rows.map tps)) f'
def rqD : DT := dCall Sp__law_draw (dCons (dVar 0) (dCons (dOp oAdd (dCB oLen (dCons (dVar 3) dNil)) (dC (D.int 1))) dNil))
def rqT : DTT := dOr (dAnd (dTest (dOp (oI0 fun i j => D.bool (decide (i < j))) (dVar 5) (dCB oLen (dCons (dVar 3) dNil)))) (dTest (dOp (oI0 fun i j => D.bool (decide (i < j))) (dCB oLen (dCons (dOp oIx (dVar 3) (dVar 5)) dNil)) (dVar 2)))) (dTest (dOp (oEq false) (dCB oLen (dCons (dVar 3) dNil)) (dC (D.int 5))))
def rqM : DT := dCB oMin2 (dCons (dVar 5) (dCons (dOp (oI0 fun i j => D.int (i - j)) (dCB oLen (dCons (dVar 3) dNil)) (dC (D.int 1))) dNil))
theorem LLi.nil0 {g : Option Dk} {H0 Hs0 : Hp} {f f0 : Nat} (s0 : Same Hs0 H0) (k0 : DkOk g H0 Hs0 f0) {H Hs : Hp} (st : Stp g H0 Hs0 H Hs) (k : DkOk g H Hs f) {D : Addr} (hD : H D = none) : LLi g H0 Hs0 D [] [] f (upd H D (.lst [])) Hs := by
  have d0 := none_back st hD
  refine ⟨⟨d0, rfl, upd_same, fun q hq => (nomatch hq), fun i r q a b => (by simp at a), List.nodup_nil⟩, st.mut d0 (same_none st.sub hD), k.mut (k0.out d0), fun b hb => ?_⟩
  rcases hb with rfl | hb
  · exact ⟨same_none st.sub hD, k0.out d0⟩
  · cases hb
theorem rqs_body {H0 Hs0 : Hp} {n0 : Nat} {k : Dk} {D : Addr} {qs : List Addr} {rows : List (List Str)} {f bd : Nat} {H Hs : Hp} {ps : List Str} {i : Nat} {x : Str} {vp : V} {a5 a6 : Option V} {N : L2.St → Hp → Prop} {Q : VK} {bk ct : L2.St → Hp → Prop}
    (s0 : Same Hs0 H0) (k0 : DkOk (some k) H0 Hs0 n0) (h : LLi (some k) H0 Hs0 D qs rows (f + 1) H Hs) (rp : Rp K Hs (.lst (ps.map DL.D.str)) vp) (hi : ps[i]? = some x) (R : RowJ ps i rows) (h8 : ps.length ≤ 8)
    (hN : ∀ qs' rows' f' H' Hs' b, f ≤ f' → LLi (some k) H0 Hs0 D qs' rows' f' H' Hs' → Same Hs Hs' → RowJ ps (i + 1) rows' → N [some (.ref k.a), some vp, some (.int bd), some (.ref D), some (.str x), b, a6] H') :
    tSeq (tAsg (tOf K rqD) (gName 5)) (tIfS (tOfT K rqT) (tDrop (tBM K "list" rAppend (tOp (rIx K) (tVar 3) (tOf K rqM)) (tCons (tVar 4) tNil))) (tDrop (tBM K "list" rAppend (tVar 3) (tCons (tLst (tCons (tVar 4) tNil)) tNil))))
      { nx := N, rt := Q, bk := bk, ct := ct } [some (.ref k.a), some vp, some (.int bd), some (.ref D), some (.str x), a5, a6] H := by
  have n2 := R.n2
  have n5 := R.n5
  have sl : ∀ {H Hs' f' a5 z} (_ : LLi (some k) H0 Hs0 D qs rows f' H Hs') (_ : Same Hs Hs') (_ : z = Sl.no ∨ ∃ d v, z = .sh d ∧ a5 = some v ∧ ∀ H, Rp K H d v), At K (some k) [.sh (.any (.ref k.a)), .sh (.lst (ps.map DL.D.str)), .sh (.int bd), .sh (rowsL rows), .sh (.str x), z, .no] f' [some (.ref k.a), some vp, some (.int bd), some (.ref D), some (.str x), a5, a6] H (shr H Hs' D qs) := fun {H Hs' f' a5 z} h e hz => by
    refine ⟨h.sub, h.shk, .sh rfl (.sh ((rp.mono e).mono h.ext) (.sh rfl (.sh h.rp (.sh rfl ?_))))⟩
    rcases hz with rfl | ⟨d, v, rfl, rfl, hv⟩
    · exact .no (.no .nil)
    · exact .sh (hv _) (.no .nil)
  refine ⟨some k, _, _, _, fun d f' => ∃ a : Nat, d = .int a ∧ a ≤ rows.length ∧ f ≤ f', sl h (Same.refl _) (.inl rfl), ?_, ?_⟩
  · rintro d f1 v H1 Hs1 s1 k1 r1 ⟨a, rfl, ha, hf1⟩
    cases r1
    obtain ⟨h1, e1⟩ := h.un s0 s1 k1
    refine ⟨some k, _, _, _, fun c f' => f' = f1 ∧ (c = false → rows.length < 5), sl h1 e1 (.inr ⟨.int a, .int a, rfl, rfl, fun _ => rfl⟩), ?_, ?_⟩
    · rintro c f2 H2 Hs2 s2 k2 ⟨rfl, hc⟩
      obtain ⟨h2, e2⟩ := h1.un s0 s2 k2
      cases c with
      | false =>
        rw [if_neg Bool.false_ne_true]
        refine ⟨.ref D, rfl, .inl ⟨rfl, _, SqL.of h2.l.dl⟩, .str x, rfl, lim_le (show 1 ≤ lim by decide), fun p hp => ⟨D, qs.map V.ref, _, rfl, rfl, ?_, ?_, ?_⟩⟩
        · rw [upd_ne (ne_of_none h2.l.dl hp)]; exact h2.l.dl
        · rw [List.length_map, ← h2.l.len]; exact lim_lt (L1 (by omega))
        · have h3 := h2.add k0 (x := x) hp
          rw [List.map_append] at h3
          exact hN _ _ _ _ _ _ hf1 h3 (e1.trans e2) (R.add hi (hc rfl))
      | true =>
        rw [if_pos rfl]
        obtain ⟨j, hj⟩ : ∃ j : Nat, j = min a (rows.length - 1) := ⟨_, rfl⟩
        have hjl : j < rows.length := by omega
        refine ⟨.ref D, rfl, some k, _, _, _, fun d f' => d = .int j ∧ f' = f2, sl h2 (e1.trans e2) (.inr ⟨.int a, .int a, rfl, rfl, fun _ => rfl⟩), ?_, ?_⟩
        · rintro d f3 v H3 Hs3 s3 k3 r3 ⟨rfl, rfl⟩
          cases r3
          obtain ⟨h3, e3⟩ := h2.un s0 s3 k3
          have ql : qs.length = rows.length := h3.l.len.symm
          obtain ⟨r, hr⟩ : ∃ r, rows[j]? = some r := ⟨_, List.getElem?_eq_getElem hjl⟩
          obtain ⟨p, hp⟩ : ∃ p, qs[j]? = some p := ⟨_, List.getElem?_eq_getElem (by omega)⟩
          have hat := h3.l.at_ _ _ _ hr hp
          have hrl := R.rlen (List.mem_of_getElem? hr)
          refine .inl ⟨D, _, j, .ref p, rfl, rfl, SqL.of h3.l.dl, atI_nat (by rw [List.getElem?_map, hp]; rfl), .inl ⟨rfl, _, SqL.of hat⟩, .str x, rfl, p, _, _, rfl, rfl, hat, ?_, ?_⟩
          · rw [List.length_map]; exact lim_lt (L1 (by omega))
          · have h4 := h3.app (x := x) hr hp
            rw [List.map_append] at h4
            exact hN _ _ _ _ _ _ hf1 h4 ((e1.trans e2).trans e3) (R.app hi hr)
        · show DL.D.int (if (((rows.map fun r => DL.D.lst (r.map DL.D.str)).length : Int) - 1) < (a : Int) then (((rows.map fun r => DL.D.lst (r.map DL.D.str)).length : Int) - 1) else (a : Int)) = .int j ∧ _
          rw [List.length_map]
          refine ⟨congrArg DL.D.int ?_, rfl⟩
          split <;> omega
    · show if decide ((a : Int) < ((rows.map fun r => DL.D.lst (r.map DL.D.str)).length : Int)) = true then _ else _
      have fin : ∀ c : Bool, c = decide (((rows.map fun r => DL.D.lst (r.map DL.D.str)).length : Int) = 5) → f1 = f1 ∧ (c = false → rows.length < 5) := fun c hc => ⟨rfl, fun e => by
        rw [e, List.length_map] at hc
        have := of_decide_eq_false hc.symm
        omega⟩
      by_cases c1 : (a : Int) < ((rows.map fun r => DL.D.lst (r.map DL.D.str)).length : Int)
      · rw [decide_eq_true c1]
        rw [List.length_map] at c1
        obtain ⟨r, hr⟩ : ∃ r, rows[a]? = some r := ⟨_, List.getElem?_eq_getElem (by omega)⟩
        refine iteT ⟨.lst (r.map DL.D.str), atI_nat (by rw [List.getElem?_map, hr]; rfl), ?_⟩
        show if decide (((r.map DL.D.str).length : Int) < (bd : Int)) = true then _ else _
        cases decide (((r.map DL.D.str).length : Int) < (bd : Int)) with
        | true => exact iteT ⟨rfl, fun e => by cases e⟩
        | false => exact iteF (fin _ rfl)
      · rw [decide_eq_false c1]
        exact iteF (fin _ rfl)
  · refine ⟨k, _, f, rfl, rfl, ?_, ?_, rfl, fun r0 r0a r0b => ?_⟩
    · rw [List.length_map]; omega
    · rw [List.length_map]; omega
    · rw [List.length_map] at r0b
      exact ⟨r0.toNat, congrArg DL.D.int (by omega), by omega, Nat.le_refl _⟩
theorem ok__law_rows_of (d : Df K mg "_law_rows_of" s__law_rows_of) (m_len : mg "len" = none) (m_tuple : mg "tuple" = none) (m_min : mg "min" = none) (c__law_draw : Cal P w K mg base 1 "_law_draw" ["_law_stream_here", "_law_many"] Sp__law_draw) : Cal P w K mg base 2 "_law_rows_of" ["_law_stream_here", "_law_paths", "_law_bound"] Sp__law_rows_of := by
  obtain ⟨f, fd, F, mm⟩ := d
  refine ⟨f, fd, ?_, F.kp, F.binds fun _ _ _ _ _ _ us hl => match us, hl with | [_, _, _], _ => rfl, mm⟩
  refine F.ok sc__law_rows_of (fun vs H Q E h => ?_) (fun cdv A outer s H vs Q E hr h => ?_)
  · obtain ⟨g, Hs, ds, n, Q', h1, h2, h3, ⟨_, _, _, _, rfl, _⟩, h5⟩ := h
    rw [← h3.length]; rfl
  · obtain ⟨g, Hs, ds, n, Q', h1, h2, h3, ⟨k, ps, bd, rfl, rfl, hl2, hl8, hb1, hb8, hasc, hf, hQ⟩, h5⟩ := h
    obtain ⟨vk, vr, rfl, rk, h3'⟩ := h3
    obtain ⟨vp, vr, rfl, rp, h3'⟩ := h3'
    obtain ⟨vb, vr, rfl, rb, h3'⟩ := h3'
    cases h3'
    refine ⟨_, pss_cons (ps_setLc (i := 3) (own := [("_law_path", 4)]) (g := gOf _ [4] (tgN 4)) (tt := tOfT _ dYes) (te := tLst (tCons (tVar 4) tNil)) rfl sc__law_rows_of.nd rfl rfl (by exact sw_true rfl rfl rfl (by decide +kernel)) (di_seq (de_sl (de_v 1) do_none (do_some de_int))).pi (blkOk_by (own := [("_law_path", 4)]) (N := ["_law_stream_here", "_law_paths", "_law_bound", "_law_found", "_law_path", "_law_at", "_law_row"]) (sc := defScope s__law_rows_of) (by decide +kernel)) (fun _ _ _ _ _ => (dg_name (i := 4) sc__law_rows_of.nd).pg) (fun _ _ _ _ _ => dts_nil.pt) (fun _ _ _ _ _ => pe_lst (pa_cons (pv 4) pa_nil)))
      (pss_cons (ps_for PassesOwn.never rfl (di_seq (de_sl (de_v 1) (do_some de_int) do_none)).pi (dg_name (i := 4) sc__law_rows_of.nd).pg
        (pss_cons (ps_set (i := 5) sc__law_rows_of.nd rfl (Or.inl rfl) (de_callC c__law_draw (hr.mono (by decide)) (da_cons (de_v 0) (da_cons (de_add (de_len m_len (da_cons (de_v 3) da_nil)) de_int) da_nil))).pe rfl (.inl rfl))
        (pss_one (ps_if (DW.p (dw_or (DW.p (dw_and (dp_lt (de_v 5) (de_len m_len (da_cons (de_v 3) da_nil))) (dw_and1 (dp_lt (de_len m_len (da_cons (de_ix (de_v 3) (de_v 5)) da_nil)) (de_v 2))))) (dw_or1 (dp_eq hr.units (de_len m_len (da_cons (de_v 3) da_nil)) de_int)))).pt
          (pss_one (ps_expr (pe_bm PySem.F.plainAttrs_list PySem.F.slot_list_append PySem.F.type_list_append mt_append (pe_ix ix_seq (pv 3) (de_callB (call_min2 rfl) sc_min2 (by rfl) m_min (by decide +kernel) (da_cons (de_v 5) (da_cons (de_sub (de_len m_len (da_cons (de_v 3) da_nil)) de_int) da_nil))).pe (fun _ _ => rfl)) (pa_cons (pv 4) pa_nil))))
          (pss_one (ps_expr (pe_bm PySem.F.plainAttrs_list PySem.F.slot_list_append PySem.F.type_list_append mt_append (pv 3) (pa_cons (pe_lst (pa_cons (pv 4) pa_nil)) pa_nil))))))))
      (pss_one (ps_ret (de_callTy call_tuple_of sc_tuple (by rfl) m_tuple (by decide +kernel) (da_cons (dl_lc (own := [("_law_row", 6)]) rfl sc__law_rows_of.nd (di_seq (de_v 3)) (blkOk_by (own := [("_law_row", 6)]) (N := ["_law_stream_here", "_law_paths", "_law_bound", "_law_found", "_law_path", "_law_at", "_law_row"]) (sc := defScope s__law_rows_of) (by decide +kernel)) (fun _ _ _ _ _ => dg_name (i := 6) sc__law_rows_of.nd) (fun _ _ _ _ _ => dts_nil) (fun _ _ _ _ _ => (de_callTy call_tuple_of sc_tuple (by rfl) m_tuple (by decide +kernel) (da_cons (de_sl (de_v 6) do_none (do_some (de_v 2))) da_nil)))).e da_nil)).pe))), ?_⟩
    cases rk
    cases rb
    refine ⟨some k, [.sh (.any (.ref k.a)), .sh (.lst (ps.map D.str)), .sh (.int bd), .no, .no, .no, .no], n, Hs, fun ds f' => ds = (ps.take 2).map DL.D.str ∧ f' = n, ⟨h1, h2, .sh rfl (.sh rp (.sh rfl (.no (.no (.no (.no .nil))))))⟩, ?_, ?_⟩
    · rintro ds f2 J H2 Hs2 s2 k2 wk ⟨rfl, rfl⟩
      intro D hD
      have tl : (ps.take 2).length = 2 := by rw [List.length_take]; omega
      refine ⟨fun i m H3 => m = 2 - i ∧ i ≤ 2 ∧ ∃ qs Hs3, LLi (some k) H Hs D qs ((ps.take i).map fun x => [x]) f2 H3 Hs3 ∧ Same Hs2 Hs3, ⟨2, rfl, by omega, [], Hs2, LLi.nil0 h1 h2 s2 k2 hD, Same.refl _⟩, ?_⟩
      rintro i m H3 ⟨rfl, hi2, qs, Hs3, l3, e3⟩
      by_cases hlt : i < 2
      · obtain ⟨x, hx⟩ : ∃ x, ps[i]? = some x := ⟨_, List.getElem?_eq_getElem (by omega)⟩
        have hgd : ((ps.take 2).map DL.D.str)[i]? = some (.str x) := by rw [List.getElem?_map, List.getElem?_take_of_lt hlt, hx]; rfl
        obtain ⟨hgo, hy⟩ := wk.go i _ H3 Hs3 e3 l3.stp.sub hgd
        refine .inr ⟨hgo, fun H4 => i + 1 ≤ 2 ∧ ∃ qs Hs4, LLi (some k) H Hs D qs ((ps.take (i + 1)).map fun x => [x]) f2 H4 Hs4 ∧ Same Hs2 Hs4, fun H4 h => ⟨_, by omega, rfl, h⟩, fun v H4 hv => ?_⟩
        obtain ⟨Hs4, s4, r4⟩ := hy v H4 hv
        have l4 := l3.step s4.gen (l3.dk.stp s4)
        refine ⟨Hs4, _, [(4, _)], s4.sub, r4, rfl, fun ws hws => ?_⟩
        obtain ⟨v1, w1, rfl, q1, q2⟩ := hws
        cases q1
        cases q2
        have rp4 := ((rp.mono s2.ext).mono e3).mono s4.ext
        refine ⟨wipe_wipe_sets (by simp), some k, [.sh (.any (.ref k.a)), .sh (.lst (ps.map DL.D.str)), .sh (.int bd), .no, .sh (.str x), .no, .no], f2, Hs4, fun b f' => b = true ∧ f' = f2, ⟨l4.stp.sub, l4.dk, .sh rfl (.sh rp4 (.sh rfl (.no (.sh rfl (.no (.no .nil))))))⟩, ?_, ⟨rfl, rfl⟩⟩
        rintro b f5 H5 Hs5 s5 k5 ⟨rfl, rfl⟩
        have l5 := l4.step s5 k5
        rw [if_pos rfl]
        refine ⟨.str x, rfl, lim_le (show 1 ≤ lim by decide), fun p hp => ⟨qs.map V.ref, ?_, ?_, hlt, qs ++ [p], Hs5, ?_, (e3.trans s4.ext).trans s5.ext⟩⟩
        · rw [upd_ne (ne_of_none l5.l.dl hp)]; exact l5.l.dl
        · rw [List.length_map, ← l5.l.len, List.length_map, List.length_take]; exact lim_lt (L1 (by omega))
        · have l6 := l5.add h2 (x := x) hp
          rw [List.map_append] at l6
          rw [take_nxt hx, List.map_append]
          exact l6
      · obtain rfl : i = 2 := by omega
        have st0 := wk.stop H3 (fun a o h => l3.stp.sub a o (e3 a o h))
        rw [List.length_map, tl] at st0
        refine .inl ⟨st0, ?_⟩
        have rp3 := (rp.mono s2.ext).mono e3
        have R0 : RowJ ps 2 ((ps.take 2).map fun x => [x]) := by
          refine ⟨?_, by rw [List.length_map, tl]; exact Nat.le_refl _, by rw [List.length_map, tl]; decide, fun r hr => ?_⟩
          · rw [← List.flatMap_def]
            simp
          · obtain ⟨x, _, rfl⟩ := List.mem_map.mp hr
            exact Nat.le_refl _
        refine ⟨some k, [.sh (.any (.ref k.a)), .sh (.lst (ps.map DL.D.str)), .sh (.int bd), .no, .no, .no, .no], f2, Hs3, fun ds f' => ds = (ps.drop 2).map DL.D.str ∧ f' = f2, ⟨l3.stp.sub, l3.dk, .sh rfl (.sh rp3 (.sh rfl (.no (.no (.no (.no .nil))))))⟩, ?_, ?_⟩
        · rintro ds f4 J2 H4 Hs4 s4 k4 wk2 ⟨rfl, rfl⟩
          have l4 := l3.step s4 k4
          have rp4 := rp3.mono s4.ext
          have dl : (ps.drop 2).length = ps.length - 2 := List.length_drop
          refine ⟨fun i m st2 H5 => m = (ps.drop 2).length - i ∧ i ≤ (ps.drop 2).length ∧ ∃ qs rows f3 Hs5 a4 a5, st2 = [some (.ref k.a), some vp, some (.int bd), some (.ref D), a4, a5, none] ∧ LLi (some k) H Hs D qs rows f3 H5 Hs5 ∧ Same Hs4 Hs5 ∧ RowJ ps (i + 2) rows ∧ f4 ≤ f3 + i,
            ⟨_, rfl, Nat.zero_le _, _, _, _, _, _, _, rfl, l4, Same.refl _, R0, Nat.le_refl _⟩, ?_⟩
          rintro i m st2 H5 ⟨rfl, hil, qs, rows, f3, Hs5, a4, a5, rfl, l5, e5, R, hf3⟩
          by_cases hlt : i < (ps.drop 2).length
          · obtain ⟨x, hx⟩ : ∃ x, ps[i + 2]? = some x := ⟨_, List.getElem?_eq_getElem (by omega)⟩
            have hgd : ((ps.drop 2).map DL.D.str)[i]? = some (.str x) := by rw [List.getElem?_map, List.getElem?_drop, Nat.add_comm, hx]; rfl
            obtain ⟨hgo, hy⟩ := wk2.go i _ H5 Hs5 e5 l5.stp.sub hgd
            refine .inr ⟨hgo, fun st3 H6 => i + 1 ≤ (ps.drop 2).length ∧ ∃ qs rows f3 Hs6 a4 a5, st3 = [some (.ref k.a), some vp, some (.int bd), some (.ref D), a4, a5, none] ∧ LLi (some k) H Hs D qs rows f3 H6 Hs6 ∧ Same Hs4 Hs6 ∧ RowJ ps (i + 1 + 2) rows ∧ f4 ≤ f3 + (i + 1), fun st3 H6 h => ⟨_, by omega, rfl, h⟩, fun v H6 hv => ?_⟩
            obtain ⟨Hs6, s6, r6⟩ := hy v H6 hv
            refine ⟨Hs6, _, [(4, _)], s6.sub, r6, rfl, fun ws hws => ?_⟩
            obtain ⟨v1, w1, rfl, q1, q2⟩ := hws
            cases q1
            cases q2
            obtain ⟨f5, rfl⟩ : ∃ f5, f3 = f5 + 1 := ⟨f3 - 1, by omega⟩
            have l6 := l5.step s6.gen (l5.dk.stp s6)
            exact rqs_body h1 h2 l6 ((rp4.mono e5).mono s6.ext) hx R hl8 fun qs' rows' f' H' Hs' b hf' l7 e7 R7 => ⟨hlt, qs', rows', f', Hs', _, _, rfl, l7, (e5.trans s6.ext).trans e7, by rw [show i + 1 + 2 = i + 2 + 1 by omega]; exact R7, by omega⟩
          · have ei : i = (ps.drop 2).length := by omega
            have st1 := wk2.stop H5 (fun a o h => l5.stp.sub a o (e5 a o h))
            rw [List.length_map, ← ei] at st1
            refine .inl ⟨st1, ?_⟩
            refine ⟨some k, [.sh (.any (.ref k.a)), .sh (.lst (ps.map DL.D.str)), .sh (.int bd), .sh (rowsL rows), .no, .no, .no], f3, shr H5 Hs5 D qs, Q', ⟨l5.sub, l5.shk, .sh rfl (.sh ((rp4.mono e5).mono l5.ext) (.sh rfl (.sh l5.rp (.no (.no (.no .nil))))))⟩, fun d f' v H' Hs' s k hr q => h5 d f' v H' Hs' (l5.sh.trans s) k hr q, ?_⟩
            refine ⟨by rw [List.length_map]; have := R.n5; exact L1 (by omega), ?_⟩
            refine lcM (fun r : List Str => DL.D.lst (r.map DL.D.str)) tps (fun r => r.take bd) rows _ (fun r hr => ⟨_, rfl, fun f Q q => ?_⟩) ?_
            · show Q (.tup (cutD (r.map DL.D.str) none (some (bd : Int)))) f
              rw [cutD_takeS]
              exact q
            · have fl := R.fl
              rw [List.take_of_length_le (by omega)] at fl
              refine hQ _ _ f3 (sub_cut bd rows) fl (by rw [List.length_map]; exact R.n2) (by rw [List.length_map]; exact R.n5) (fun r hr => ?_) (by omega)
              obtain ⟨r', hr', rfl⟩ := List.mem_map.mp hr
              have := R.ok r' hr'
              rw [List.length_take]
              omega
        · refine ⟨?_, rfl⟩
          show cutD (ps.map DL.D.str) (some ((2 : Nat) : Int)) none = _
          rw [cutD_drop', List.map_drop]
    · exact ⟨by rw [show cutD (ps.map DL.D.str) none (some 2) = (ps.take 2).map DL.D.str from cutD_takeS ps 2], rfl⟩
/-! _law_shuffled -/
abbrev s__law_shuffled : Stmt := topS 79
theorem sc__law_shuffled : FnScope ["_law_stream_here", "_law_items", "_law_found", "_law_item"] ["_law_stream_here", "_law_items"] (defScope s__law_shuffled) := ⟨rfl, rfl, rfl, by decide +kernel, rfl, by decide +kernel, by decide +kernel⟩
def Sp__law_shuffled : DSp := fun g ds f Q => ∃ (k : Dk) (xs : List D), g = some k ∧ ds = [.any (.ref k.a), .lst xs] ∧ xs.length ≤ 1000 ∧ xs.length ≤ f ∧ ∀ ys f', ys.Perm xs → f ≤ f' + xs.length → Q (.lst ys) f'
set_option maxHeartbeats 2000000 in
theorem ok__law_shuffled (d : Df K mg "_law_shuffled" s__law_shuffled) (m_len : mg "len" = none) (c__law_draw : Cal P w K mg base 1 "_law_draw" ["_law_stream_here", "_law_many"] Sp__law_draw) : Cal P w K mg base 2 "_law_shuffled" ["_law_stream_here", "_law_items"] Sp__law_shuffled := by
  obtain ⟨f, fd, F, m⟩ := d
  refine ⟨f, fd, dfn (k := 1) (S := Sp__law_shuffled) F sc__law_shuffled ?len (fun cdv A outer s H E hr => (dss_cons (ds_setL false (i := 2) sc__law_shuffled.nd (dl_lst da_nil))
      (dss_cons (ds_for [] PassesOwn.never (di_seq (de_v 1)) (dg_name (i := 3) sc__law_shuffled.nd) (dss_one (ds_ins (i := 2) (de_callC c__law_draw (hr.mono (by decide)) (da_cons (de_v 0) (da_cons (de_add (de_len m_len (da_cons (de_v 2) da_nil)) de_int) da_nil))) (de_v 3))))
      (dss_one (ds_ret (de_v 2)))))) ?h, F.kp, F.binds fun _ _ _ _ _ _ us hl => match us, hl with | [_, _], _ => rfl, m⟩
  case len =>
    intro g ds n Q h; obtain ⟨_, _, _, rfl, _⟩ := h; rfl
  case h =>
    intro g ds n Q h
    obtain ⟨k, xs, rfl, rfl, hl, hf, q⟩ := h
    refine ⟨Nat.zero_le _, ?_⟩
    refine dFor_inv (fun rest r f => ∃ (done ys : List D) (a : Sl), xs = done ++ rest ∧ r = [.sh (.any (.ref k.a)), .sh (.lst xs), .ow ys, a] ∧ ys.Perm done ∧ n ≤ f + done.length) _ _ _ ?_ ?_ ⟨[], [], _, rfl, rfl, .refl _, by simp⟩
    · rintro d rest r f N ⟨done, ys, a, rfl, rfl, hp, hf2⟩ hN
      have hpl := hp.length_eq
      rw [List.length_append, List.length_cons] at hl hf
      obtain ⟨f1, rfl⟩ : ∃ f1, f = f1 + 1 := ⟨f - 1, by omega⟩
      refine ⟨_, rfl, ys, rfl, ?_⟩
      refine ⟨k, (ys.length : Int) + 1, f1, rfl, rfl, by omega, by omega, rfl, fun i i0 i1 => ?_⟩
      refine ⟨i0, by omega, L1 (by omega), ?_⟩
      refine hN _ _ ⟨done ++ [d], _, _, by simp, rfl, ?_, by rw [List.length_append, List.length_singleton]; omega⟩
      refine List.Perm.trans ?_ (hp.append_right [d])
      have e := List.take_append_drop i.toNat ys
      have p1 : (ys.take i.toNat ++ [d] ++ ys.drop i.toNat).Perm (ys.take i.toNat ++ ys.drop i.toNat ++ [d]) := by
        rw [List.append_assoc, List.append_assoc]
        exact (List.perm_append_comm).append_left _
      rw [e] at p1
      exact p1
    · rintro r f ⟨done, ys, a, e, rfl, hp, hf2⟩
      rw [List.append_nil] at e
      subst e
      exact q ys f hp hf2
/-! _law_covers -/
abbrev s__law_covers : Stmt := topS 77
theorem sc__law_covers : FnScope ["_law_path", "_law_other"] ["_law_path", "_law_other"] (defScope s__law_covers) := ⟨rfl, rfl, rfl, by decide +kernel, rfl, by decide +kernel, by decide +kernel⟩
theorem cov_cut (p o : Str) : decide (cutS o none (some ((p.length : Int) + 1)) = p ++ ".") = Txt.startswith o (p ++ ".") := by
  rw [starts_cd, Bool.eq_iff_iff, decide_eq_true_iff, List.isPrefixOf_iff_prefix, List.prefix_iff_eq_take]
  have e1 : cd (cutS o none (some ((p.length : Int) + 1))) = (cd o).take (p.length + 1) := by
    show ((o.cps.toList.drop (HT.sIx o.length 0 none)).take (HT.sIx o.length o.length (some ((p.length : Int) + 1)) - HT.sIx o.length 0 none)) = _
    rw [show (p.length : Int) + 1 = ((p.length + 1 : Nat) : Int) by omega, HT.sIx_nat]
    show ((cd o).drop 0).take (min (p.length + 1) o.length - 0) = _
    rw [List.drop_zero, Nat.sub_zero]
    have hl : o.length = (cd o).length := TL.len_tl o
    by_cases h : p.length + 1 ≤ o.length
    · rw [Nat.min_eq_left h]
    · rw [Nat.min_eq_right (by omega), List.take_of_length_le (by omega), List.take_of_length_le (by omega)]
  have e2 : (cd (p ++ ".")).length = p.length + 1 := by
    rw [show cd (p ++ ".") = cd p ++ cd (Str.ofString ".") from TL.tl_append p _, List.length_append, show (cd (Str.ofString ".")).length = 1 by decide +kernel, show (cd p).length = p.length from (TL.len_tl p).symm]
  rw [e2, ← e1]
  exact ⟨fun h => by rw [h], fun h => (TL.ext_tl h).symm⟩
def Sp__law_covers : DSp := fun _ ds f Q => ∃ p o : Str, ds = [.str p, .str o] ∧ p.length ≤ 100000 ∧ o.length ≤ 100000 ∧ Q (.bool (cov p o)) f
set_option maxHeartbeats 2000000 in
theorem ok__law_covers (d : Df K mg "_law_covers" s__law_covers) (m_len : mg "len" = none) : Cal P w K mg base 1 "_law_covers" ["_law_path", "_law_other"] Sp__law_covers := by
  obtain ⟨f, fd, F, m⟩ := d
  refine ⟨f, fd, dfn (k := 0) (S := Sp__law_covers) F sc__law_covers ?len (fun cdv A outer s H E hr => (dss_one (ds_ret (de_or (de_eq hr.units (de_v 1) (de_v 0)) (de_one (de_eq hr.units (de_sl (de_v 1) do_none (do_some (de_add (de_len m_len (da_cons (de_v 0) da_nil)) de_int))) (de_add (de_v 0) de_str))))))) ?h, F.kp, F.binds fun _ _ _ _ _ _ us hl => match us, hl with | [_, _], _ => rfl, m⟩
  case len =>
    intro g ds n Q h; obtain ⟨_, _, rfl, _⟩ := h; rfl
  case h =>
    intro g ds n Q h
    obtain ⟨p, o, rfl, h1, h2, q⟩ := h
    show if decide (o = p) = true then _ else _
    have q : Q (.bool (decide (o = p) || Txt.startswith o (p ++ "."))) n := q
    cases e : decide (o = p) with
    | true => rw [e] at q; exact iteT q
    | false =>
      rw [e, Bool.false_or, ← cov_cut] at q
      refine iteF ⟨Nat.le_trans h1 (by decide), Nat.le_trans h2 (by decide), ?_⟩
      have k1 : (Str.ofString ".").length = 1 := by decide +kernel
      exact ⟨Nat.le_trans (show p.length + (Str.ofString ".").length ≤ 100001 by omega) (by decide), q⟩
/-! _law_within -/
abbrev s__law_within : Stmt := topS 78
theorem sc__law_within : FnScope ["_law_paths", "_law_modules_here", "_law_module", "_law_path"] ["_law_paths", "_law_modules_here"] (defScope s__law_within) := ⟨rfl, rfl, rfl, by decide +kernel, rfl, by decide +kernel, by decide +kernel⟩
def Sp__law_within : DSp := fun _ ds f Q => ∃ ps ms : List Str, ds = [.lst (ps.map D.str), .lst (ms.map D.str)] ∧ ps.length ≤ 100 ∧ ms.length ≤ 100 ∧ (∀ p ∈ ps, p.length ≤ 1000 ∧ asc p) ∧ (∀ m ∈ ms, m.length ≤ 1000) ∧ Q (.lst ((ms.filter fun m => ps.any fun p => cov p m).map D.str)) f
set_option maxHeartbeats 2000000 in
theorem ok__law_within (d : Df K mg "_law_within" s__law_within) (c__law_covers : Cal P w K mg base 1 "_law_covers" ["_law_path", "_law_other"] Sp__law_covers) : Cal P w K mg base 2 "_law_within" ["_law_paths", "_law_modules_here"] Sp__law_within := by
  obtain ⟨f, fd, F, m⟩ := d
  refine ⟨f, fd, dfn (k := 1) (S := Sp__law_within) F sc__law_within ?len (fun cdv A outer s H E hr => (dss_one (ds_ret (dl_lc (own := [("_law_module", 2)]) rfl sc__law_within.nd (di_seq (de_v 1)) (blkOk_by (own := [("_law_module", 2)]) (N := ["_law_paths", "_law_modules_here", "_law_module", "_law_path"]) (sc := defScope s__law_within) (by decide +kernel)) (fun _ _ _ _ _ => dg_name (i := 2) sc__law_within.nd) (fun _ _ _ _ _ => dts_one (dp_ne hr.units (dl_lc (own := [("_law_path", 3)]) rfl sc__law_within.nd (di_seq (de_v 0)) (blkOk_by (own := [("_law_path", 3)]) (N := ["_law_paths", "_law_modules_here", "_law_module", "_law_path"]) (sc := _) (by rfl)) (fun _ _ _ _ _ => dg_name (i := 3) sc__law_within.nd) (fun _ _ _ _ _ => dts_one (dp_val (de_callC c__law_covers (hr.mono (by decide)) (da_cons (de_v 3) (da_cons (de_v 2) da_nil))))) (fun _ _ _ _ _ => (de_v 3))).e (dl_lst da_nil).e)) (fun _ _ _ _ _ => (de_v 2))).e))) ?h, F.kp, F.binds fun _ _ _ _ _ _ us hl => match us, hl with | [_, _], _ => rfl, m⟩
  case len =>
    intro g ds n Q h; obtain ⟨_, _, rfl, _⟩ := h; rfl
  case h =>
    intro g ds n Q h
    obtain ⟨ps, ms, rfl, h1, h2, h3, h4, q⟩ := h
    refine ⟨by rw [List.length_map]; exact L1 (by omega), ?_⟩
    refine lcF D.str (fun m => ps.any fun p => cov p m) ms _ (fun m hm => ⟨_, rfl, fun f Q h => ?_, fun _ f Q h => h⟩) q
    refine ⟨by rw [List.length_map]; exact L1 (by omega), ?_⟩
    refine lcF D.str (fun p => cov p m) ps _ (fun p hp => ⟨_, rfl, fun f Q h => ⟨p, m, rfl, (by have := (h3 p hp).1; omega), (by have := h4 m hm; omega), h⟩, fun _ f Q h => h⟩) ?_
    refine ⟨Nat.zero_le _, ?_⟩
    show oEq true (.lst ((ps.filter fun p => cov p m).map D.str)) (.lst (([] : List Str).map D.str)) _
    refine oEq_lst (m := []) (fun s hs => (h3 s (List.mem_filter.mp hs).1).2) (by simp) ?_
    show Q (!decide ((ps.filter fun p => cov p m) = [])) f
    rw [any_filter, Bool.not_not]
    exact h
theorem sSet_C {i : Nat} {d : D} {B : DTS} {g : Option Dk} {r : Sg} {f : Nat} {E : DEnds} (h : B g (r.set i (.sh d)) f E) : sSeq (sSet false i (dC d)) B g r f E := h
theorem sIf_N {g : Option Dk} {r : Sg} {f : Nat} {E : DEnds} {i : Nat} {s w : Str} {A B : DTS} (h : (r[i]?).bind Sl.d = some (.str s)) (hne : s ≠ w) (hq : B g r f E) : sSeq (sIf (dTest (dOp (oEq false) (dVar i) (dC (.str w)))) A sNext) B g r f E := by
  unfold sSeq sIf dTest dOp
  refine dVar_sh h ?_
  show if decide (s = w) = true then _ else _
  rw [decide_eq_false hne]
  exact iteF hq
theorem sIf_T {g : Option Dk} {r : Sg} {f : Nat} {E : DEnds} {i : Nat} {s w : Str} {A B : DTS} (h : (r[i]?).bind Sl.d = some (.str s)) (he : s = w) (hq : A g r f { E with nx := fun r' f' => B g r' f' E }) : sSeq (sIf (dTest (dOp (oEq false) (dVar i) (dC (.str w)))) A sNext) B g r f E := by
  unfold sSeq sIf dTest dOp
  refine dVar_sh h ?_
  show if decide (s = w) = true then _ else _
  rw [decide_eq_true he]
  exact iteT hq
theorem strs_asc {l m : Nat} {ps : List Str} (h : rPs l m ps) : ∀ s ∈ ps, asc s := fun s hs => (rp_asc (h.2.2 s hs)).1
/-! _law_rule -/
abbrev s__law_rule : Stmt := topS 81
theorem sc__law_rule : FnScope ["_law_stream_here", "_law_areas_here", "_law_modules_here", "_law_words", "_law_paths", "_law_word", "_law_at", "_law_how", "_law_few", "_law_inner", "_law_path"] ["_law_stream_here", "_law_areas_here", "_law_modules_here", "_law_words"] (defScope s__law_rule) := ⟨rfl, rfl, rfl, by decide +kernel, rfl, by decide +kernel, by decide +kernel⟩
/-- areas: paths that do not overlap -/
structure Ara (ar : List Str) : Prop where
  p : ∀ a ∈ ar, PathN 4 a
  a : ar.Pairwise fun x y => ovl x y = false
  l : 2 ≤ ar.length
  m : ar.length ≤ 6
def Sp__law_rule : DSp := fun g ds f Q => ∃ (k : Dk) (ar ms : List Str), g = some k ∧ ds = [.any (.ref k.a), .lst (ar.map D.str), .lst (ms.map D.str), .lst ((["forbid", "layers", "stairs", "apart", "only", "face", "noring"] : List Str).map D.str)] ∧ Ara ar ∧ PVm ms ∧ 30 ≤ f ∧
  ∀ (r : Rl) f', r.form → ovlL r.par = false → f ≤ f' + 30 → Q r.d f'
theorem ovl_comm' {x y : Str} (h : ovl x y = false) : ovl y x = false := by
  unfold ovl at h ⊢
  rw [Bool.or_comm]; exact h
theorem ovlL_pw : ∀ {l : List Str}, l.Pairwise (fun x y => ovl x y = false) → ovlL l = false
  | [], _ => rfl
  | p :: l, h => by
    obtain ⟨h1, h2⟩ := List.pairwise_cons.mp h
    show ((l.any fun q => ovl q p) || ovlL l) = false
    rw [ovlL_pw h2, Bool.or_false]
    refine Bool.eq_false_iff.mpr fun e => ?_
    obtain ⟨q, hq, e⟩ := List.any_eq_true.mp e
    rw [ovl_comm' (h1 q hq)] at e
    cases e
set_option maxHeartbeats 2000000 in
theorem ok__law_rule (d : Df K mg "_law_rule" s__law_rule) (m_tuple : mg "tuple" = none) (m_len : mg "len" = none) (c__law_draw : Cal P w K mg base 1 "_law_draw" ["_law_stream_here", "_law_many"] Sp__law_draw) (c__law_within : Cal P w K mg base 2 "_law_within" ["_law_paths", "_law_modules_here"] Sp__law_within) (c__law_rows_of : Cal P w K mg base 2 "_law_rows_of" ["_law_stream_here", "_law_paths", "_law_bound"] Sp__law_rows_of) (c__law_pick : Cal P w K mg base 2 "_law_pick" ["_law_stream_here", "_law_items"] Sp__law_pick) (c__law_shuffled : Cal P w K mg base 2 "_law_shuffled" ["_law_stream_here", "_law_items"] Sp__law_shuffled) : Cal P w K mg base 3 "_law_rule" ["_law_stream_here", "_law_areas_here", "_law_modules_here", "_law_words"] Sp__law_rule := by
  obtain ⟨f, fd, F, m⟩ := d
  refine ⟨f, fd, dfn (k := 2) (S := Sp__law_rule) F sc__law_rule ?len (fun cdv A outer s H E hr => (dss_cons (ds_asg false (de_tup (da_cons (de_callC c__law_shuffled (hr.mono (by decide)) (da_cons (de_v 0) (da_cons (de_v 1) da_nil))) (da_cons (de_callC c__law_pick (hr.mono (by decide)) (da_cons (de_v 0) (da_cons (de_v 3) da_nil))) da_nil))) (dg_tup rfl (dgs_cons (dg_name (i := 4) sc__law_rule.nd) (dgs_cons (dg_name (i := 5) sc__law_rule.nd) dgs_nil))))
      (dss_cons (ds_par false (i := 6) (j := 7) sc__law_rule.nd (de_add de_int (de_callC c__law_draw (hr.mono (by decide)) (da_cons (de_v 0) (da_cons (de_sub (de_len m_len (da_cons (de_v 4) da_nil)) de_int) da_nil)))) (de_callC c__law_pick (hr.mono (by decide)) (da_cons (de_v 0) (da_cons (dl_lst (da_cons de_str (da_cons de_str da_nil))).e da_nil))))
      (dss_cons (ds_set false (i := 8) sc__law_rule.nd (de_sl (de_v 4) do_none (do_some (de_add de_int (de_callC c__law_draw (hr.mono (by decide)) (da_cons (de_v 0) (da_cons (de_sub (de_len m_len (da_cons (de_v 4) da_nil)) de_int) da_nil)))))))
      (dss_cons (ds_if (dp_eq hr.units (de_v 5) de_str) (dss_one (ds_ret (de_tup (da_cons de_str (da_cons (de_callTy call_tuple_of sc_tuple (by rfl) m_tuple (by decide +kernel) (da_cons (de_sl (de_v 8) do_none (do_some (de_v 6))) da_nil)) (da_cons (de_callTy call_tuple_of sc_tuple (by rfl) m_tuple (by decide +kernel) (da_cons (de_sl (de_v 4) (do_some (de_v 6)) do_none) da_nil)) (da_cons (de_v 7) da_nil))))))) dss_nil)
      (dss_cons (ds_if (dp_eq hr.units (de_v 5) de_str) (dss_one (ds_ret (de_tup (da_cons de_str (da_cons (de_callC c__law_rows_of (hr.mono (by decide)) (da_cons (de_v 0) (da_cons (de_v 8) (da_cons de_int da_nil)))) (da_cons (de_v 7) da_nil)))))) dss_nil)
      (dss_cons (ds_if (dp_eq hr.units (de_v 5) de_str) (dss_one (ds_ret (de_tup (da_cons de_str (da_cons (de_callC c__law_rows_of (hr.mono (by decide)) (da_cons (de_v 0) (da_cons (de_v 8) (da_cons de_int da_nil)))) da_nil))))) dss_nil)
      (dss_cons (ds_if (dp_eq hr.units (de_v 5) de_str) (dss_one (ds_ret (de_tup (da_cons de_str (da_cons (de_callTy call_tuple_of sc_tuple (by rfl) m_tuple (by decide +kernel) (da_cons (de_v 8) da_nil)) (da_cons (de_v 7) da_nil)))))) dss_nil)
      (dss_cons (ds_if (dp_eq hr.units (de_v 5) de_str) (dss_one (ds_ret (de_tup (da_cons de_str (da_cons (de_callTy call_tuple_of sc_tuple (by rfl) m_tuple (by decide +kernel) (da_cons (de_v 8) da_nil)) da_nil))))) dss_nil)
      (dss_cons (ds_if (dp_eq hr.units (de_v 5) de_str) (dss_one (ds_ret (de_tup (da_cons de_str (da_cons (de_callTy call_tuple_of sc_tuple (by rfl) m_tuple (by decide +kernel) (da_cons (de_sl (de_v 8) do_none (do_some (de_v 6))) da_nil)) (da_cons (de_callTy call_tuple_of sc_tuple (by rfl) m_tuple (by decide +kernel) (da_cons (de_sl (de_v 8) (do_some (de_v 6)) do_none) da_nil)) da_nil)))))) dss_nil)
      (dss_cons (ds_setLc (i := 9) (own := [("_law_path", 10)]) sc__law_rule.nd (di_seq (de_callC c__law_within (hr.mono (by decide)) (da_cons (de_sl (de_v 4) do_none (do_some de_int)) (da_cons (de_v 2) da_nil)))) (blkOk_by (own := [("_law_path", 10)]) (N := ["_law_stream_here", "_law_areas_here", "_law_modules_here", "_law_words", "_law_paths", "_law_word", "_law_at", "_law_how", "_law_few", "_law_inner", "_law_path"]) (sc := defScope s__law_rule) (by decide +kernel)) (fun _ _ _ _ _ => dg_name (i := 10) sc__law_rule.nd) (fun _ _ _ _ _ => dts_one (DW.p (dw_and (dp_ne hr.units (de_v 10) (de_ix (de_v 4) de_int)) (dw_and1 (dp_lt (de_count (de_v 10) de_str) de_int))))) (fun _ _ _ _ _ => (de_v 10)) (fun _ _ _ h => snd_set (m := false) (i := 9) h.e))
      (dss_one (ds_ret (de_tup (da_cons de_str (da_cons (de_ix (de_v 4) de_int) (da_cons (de_callTy call_tuple_of sc_tuple (by rfl) m_tuple (by decide +kernel) (da_cons (de_sl (de_v 9) do_none (do_some (de_callC c__law_draw (hr.mono (by decide)) (da_cons (de_v 0) (da_cons de_int da_nil))))) da_nil)) da_nil))))))))))))))))) ?h, F.kp, F.binds fun _ _ _ _ _ _ us hl => match us, hl with | [_, _, _, _], _ => rfl, m⟩
  case len =>
    intro g ds n Q h; obtain ⟨_, _, _, _, rfl, _⟩ := h; rfl
  case h =>
    intro g ds n Q h
    obtain ⟨k, ar, ms, rfl, rfl, ha, hm, hf, q⟩ := h
    have hl2 := ha.l
    have hl6 := ha.m
    refine ⟨k, ar.map D.str, rfl, rfl, by rw [List.length_map]; omega, by rw [List.length_map]; omega, fun ys f1 hys hf1 => ?_⟩
    rw [List.length_map] at hf1
    obtain ⟨ps, hps, rfl⟩ := perm_map hys _ rfl
    have hpl := hps.length_eq
    have hS : ∀ l : List Str, l.Sublist ps → ovlL l = false ∧ ∀ p ∈ l, rpB p = true := fun l hl => ⟨ovlL_pw ((ha.a.perm hps.symm ovl_comm').sublist hl), fun p hp => rp_path.mpr (ha.p p (hps.mem_iff.mp (hl.subset hp)))⟩
    refine .inl ⟨k, _, rfl, rfl, by decide, by decide, by omega, fun w hw f2 hf2 => ?_⟩
    refine ⟨show 2 ≤ lim by decide, ?_⟩
    simp only [List.set_cons_succ, List.set_cons_zero, setsR, startR, List.map_cons, List.map_nil, List.cons_append, List.nil_append, List.replicate_succ, List.replicate_zero, List.length_cons, List.length_nil, Nat.reduceAdd, Nat.reduceSub]
    obtain ⟨f3, rfl⟩ : ∃ f3, f2 = f3 + 1 := ⟨f2 - 1, by omega⟩
    refine ⟨k, _, f3, rfl, rfl, by rw [List.length_map]; omega, by rw [List.length_map]; omega, rfl, fun a0 a00 a01 => ?_⟩
    rw [List.length_map] at a01
    obtain ⟨a, rfl⟩ : ∃ a : Nat, a0 = a := ⟨a0.toNat, by omega⟩
    refine ⟨show 2 ≤ lim by decide, ?_⟩
    refine .inl ⟨k, _, rfl, rfl, show 0 < 2 by decide, show 2 ≤ 100000 by decide, by omega, fun hw' hhw f4 hf4 => ?_⟩
    obtain ⟨ch, rfl⟩ : ∃ ch, hw' = .str (howS ch) := by
      simp only [List.mem_cons, List.not_mem_nil, or_false] at hhw
      rcases hhw with rfl | rfl
      · exact ⟨false, rfl⟩
      · exact ⟨true, rfl⟩
    simp only [List.set_cons_succ, List.set_cons_zero, setsR, startR, List.map_cons, List.map_nil, List.cons_append, List.nil_append, List.replicate_succ, List.replicate_zero, List.length_cons, List.length_nil, Nat.reduceAdd, Nat.reduceSub]
    obtain ⟨f5, rfl⟩ : ∃ f5, f4 = f5 + 1 := ⟨f4 - 1, by omega⟩
    refine ⟨k, _, f5, rfl, rfl, by rw [List.length_map]; omega, by rw [List.length_map]; omega, rfl, fun b0 b00 b01 => ?_⟩
    rw [List.length_map] at b01
    obtain ⟨b, rfl⟩ : ∃ b : Nat, b0 = b := ⟨b0.toNat, by omega⟩
    have ef : cutD (ps.map D.str) none (some (2 + (b : Int))) = (ps.take (2 + b)).map D.str := cutD_takeS ps (2 + b)
    generalize hfew : ps.take (2 + b) = few at ef
    have hfs : few.Sublist ps := by rw [← hfew]; exact List.take_sublist _ _
    have hfl : few.length = 2 + b := by rw [← hfew, List.length_take]; omega
    simp only [oAdd, oSl]
    rw [ef]
    simp only [List.set_cons_succ, List.set_cons_zero, setsR, startR, List.map_cons, List.map_nil, List.cons_append, List.nil_append, List.replicate_succ, List.replicate_zero, List.length_cons, List.length_nil, Nat.reduceAdd, Nat.reduceSub]
    obtain ⟨w, rfl, hwm⟩ : ∃ x : Str, w = .str x ∧ x ∈ (["forbid", "layers", "stairs", "apart", "only", "face", "noring"] : List Str) := by
      simp only [List.mem_cons, List.map_cons, List.map_nil, List.not_mem_nil, or_false] at hw
      rcases hw with rfl | rfl | rfl | rfl | rfl | rfl | rfl <;> exact ⟨_, rfl, by decide +kernel⟩
    have hPw : ∀ l : List Str, l.Sublist ps → l.Pairwise fun x y => ovl x y = false := fun l hl => (ha.a.perm hps.symm ovl_comm').sublist hl
    have e1 : cutD (few.map D.str) none (some (1 + (a : Int))) = (few.take (1 + a)).map D.str := cutD_takeS few (1 + a)
    have e2 : cutD (ps.map D.str) (some (1 + (a : Int))) none = (ps.drop (1 + a)).map D.str := cutD_dropS ps (1 + a)
    have e3 : cutD (few.map D.str) (some (1 + (a : Int))) none = (few.drop (1 + a)).map D.str := cutD_dropS few (1 + a)
    simp only [List.mem_cons, List.not_mem_nil, or_false] at hwm
    rcases hwm with rfl | rfl | rfl | rfl | rfl | rfl | rfl
    · refine sIf_T (s := Str.ofString "forbid") rfl rfl ?_
      show _ ∧ Q (.tup [.str (Str.ofString "forbid"), .tup (cutD (few.map D.str) none (some (1 + (a : Int)))), .tup (cutD (ps.map D.str) (some (1 + (a : Int))) none), .str (howS ch)]) f5
      rw [e1, e2]
      have s1 : (few.take (1 + a) ++ ps.drop (1 + a)).Sublist ps := by
        rw [← hfew, List.take_take]
        have := (List.take_sublist_take_left (l := ps) (show min (1 + a) (2 + b) ≤ 1 + a by omega)).append (List.Sublist.refl (ps.drop (1 + a)))
        rw [List.take_append_drop] at this
        exact this
      have s2 := (List.sublist_append_left (few.take (1 + a)) (ps.drop (1 + a))).trans s1
      have s3 := (List.sublist_append_right (few.take (1 + a)) (ps.drop (1 + a))).trans s1
      exact ⟨show 4 ≤ lim by decide, q (.forbid (few.take (1 + a)) (ps.drop (1 + a)) ch) f5 ⟨⟨by rw [List.length_take]; omega, by rw [List.length_take]; omega, (hS _ s2).2⟩, ⟨by rw [List.length_drop]; omega, by rw [List.length_drop]; omega, (hS _ s3).2⟩⟩ (hS _ s1).1 (by omega)⟩
    · refine sIf_N (s := Str.ofString "layers") rfl (by decide +kernel) (sIf_T (s := Str.ofString "layers") rfl rfl ?_)
      refine ⟨k, few, 4, rfl, rfl, by omega, by omega, by decide, by decide, fun p hp => ⟨(rp_asc ((hS few hfs).2 p hp)).1, Nat.le_trans (rp_asc ((hS few hfs).2 p hp)).2 (by decide)⟩, by omega, fun rows l f' h1 h2 h3 h4 h5 hf' => ?_⟩
      have hr : rRows rows := ⟨h3, h4, fun r hr => ⟨(h5 r hr).1, (h5 r hr).2, fun p hp => (hS few hfs).2 p (h2.mem_iff.mp (h1.subset (List.mem_flatten.mpr ⟨r, hr, hp⟩)))⟩⟩
      have hro : ovlL rows.flatten = false := ovlL_pw (((hPw few hfs).perm h2.symm ovl_comm').sublist h1)
      exact ⟨show 3 ≤ lim by decide, q (.layers rows ch) f' hr hro (by omega)⟩
    · refine sIf_N (s := Str.ofString "stairs") rfl (by decide +kernel) (sIf_N (s := Str.ofString "stairs") rfl (by decide +kernel) (sIf_T (s := Str.ofString "stairs") rfl rfl ?_))
      refine ⟨k, few, 4, rfl, rfl, by omega, by omega, by decide, by decide, fun p hp => ⟨(rp_asc ((hS few hfs).2 p hp)).1, Nat.le_trans (rp_asc ((hS few hfs).2 p hp)).2 (by decide)⟩, by omega, fun rows l f' h1 h2 h3 h4 h5 hf' => ?_⟩
      have hr : rRows rows := ⟨h3, h4, fun r hr => ⟨(h5 r hr).1, (h5 r hr).2, fun p hp => (hS few hfs).2 p (h2.mem_iff.mp (h1.subset (List.mem_flatten.mpr ⟨r, hr, hp⟩)))⟩⟩
      have hro : ovlL rows.flatten = false := ovlL_pw (((hPw few hfs).perm h2.symm ovl_comm').sublist h1)
      exact ⟨show 2 ≤ lim by decide, q (.stairs rows) f' hr hro (by omega)⟩
    · refine sIf_N (s := Str.ofString "apart") rfl (by decide +kernel) (sIf_N (s := Str.ofString "apart") rfl (by decide +kernel) (sIf_N (s := Str.ofString "apart") rfl (by decide +kernel) (sIf_T (s := Str.ofString "apart") rfl rfl ?_)))
      exact ⟨show 3 ≤ lim by decide, q (.apart few ch) f5 ⟨by omega, by omega, (hS _ hfs).2⟩ (hS _ hfs).1 (by omega)⟩
    · refine sIf_N (s := Str.ofString "only") rfl (by decide +kernel) (sIf_N (s := Str.ofString "only") rfl (by decide +kernel) (sIf_N (s := Str.ofString "only") rfl (by decide +kernel) (sIf_N (s := Str.ofString "only") rfl (by decide +kernel) (sIf_N (s := Str.ofString "only") rfl (by decide +kernel) (sIf_T (s := Str.ofString "only") rfl rfl ?_)))))
      show _ ∧ Q (.tup [.str (Str.ofString "only"), .tup (cutD (few.map D.str) none (some (1 + (a : Int)))), .tup (cutD (few.map D.str) (some (1 + (a : Int))) none)]) f5
      rw [e1, e3]
      have s1 : (few.take (1 + a) ++ few.drop (1 + a)).Sublist ps := by rw [List.take_append_drop]; exact hfs
      have s2 := (List.take_sublist (1 + a) few).trans hfs
      have s3 := (List.drop_sublist (1 + a) few).trans hfs
      exact ⟨show 3 ≤ lim by decide, q (.only (few.take (1 + a)) (few.drop (1 + a))) f5 ⟨⟨by rw [List.length_take]; omega, by rw [List.length_take]; omega, (hS _ s2).2⟩, ⟨Nat.zero_le _, by rw [List.length_drop]; omega, (hS _ s3).2⟩⟩ (hS _ s1).1 (by omega)⟩
    · refine sIf_N (s := Str.ofString "face") rfl (by decide +kernel) (sIf_N (s := Str.ofString "face") rfl (by decide +kernel) (sIf_N (s := Str.ofString "face") rfl (by decide +kernel) (sIf_N (s := Str.ofString "face") rfl (by decide +kernel) (sIf_N (s := Str.ofString "face") rfl (by decide +kernel) (sIf_N (s := Str.ofString "face") rfl (by decide +kernel) (?_))))))
      obtain ⟨p0, ps', rfl⟩ : ∃ p0 ps', ps = p0 :: ps' := by
        cases ps with
        | nil => simp at hpl; omega
        | cons x y => exact ⟨x, y, rfl⟩
      have hp0 := (hS _ (List.Sublist.refl _)).2 p0 (by simp)
      have hml := hm.len
      refine ⟨[p0], ms, ?_, by simp, by omega, fun p hp => by rw [List.mem_singleton.mp hp]; exact ⟨Nat.le_trans (rp_asc hp0).2 (by decide), (rp_asc hp0).1⟩, fun m hm' => Nat.le_trans (hm.path m hm').len (by decide), ?_⟩
      · show [D.lst (cutD ((p0 :: ps').map D.str) none (some ((1 : Nat) : Int))), _] = _
        rw [cutD_takeS]
        rfl
      show _ ∧ _
      have hfm := List.length_filter_le (fun m => [p0].any fun p => cov p m) ms
      refine ⟨by rw [List.length_map]; exact L1 (by omega), ?_⟩
      refine lcF D.str (fun m => !decide (m = p0) && decide (Txt.count m "." < 4)) _ _ (fun m hm' => ⟨_, rfl, fun f Q h => ?_, fun _ f Q h => h⟩) ?_
      · refine ⟨_, atI0, ?_⟩
        show if (!decide (m = p0)) = true then _ else _
        cases hd : decide (m = p0) with
        | true =>
          rw [hd] at h
          exact iteF h
        | false =>
          rw [hd] at h
          exact iteT ⟨trivial, h⟩
      simp only [List.set_cons_succ, List.set_cons_zero, setsR, startR, List.map_cons, List.map_nil, List.cons_append, List.nil_append, List.replicate_succ, List.replicate_zero, List.length_cons, List.length_nil, Nat.reduceAdd, Nat.reduceSub]
      generalize hes : (ms.filter fun m => [p0].any fun p => cov p m).filter (fun m => !decide (m = p0) && decide (Txt.count m "." < 4)) = es
      have hem : ∀ e ∈ es, e ∈ ms ∧ cov p0 e = true ∧ e ≠ p0 ∧ rpB e = true := fun e he => by
        rw [← hes] at he
        obtain ⟨h1, h2⟩ := List.mem_filter.mp he
        obtain ⟨h3, h4⟩ := List.mem_filter.mp h1
        rw [Bool.and_eq_true, Bool.not_eq_true', decide_eq_false_iff_not, decide_eq_true_iff] at h2
        have h4 : (cov p0 e || false) = true := h4
        rw [Bool.or_false] at h4
        refine ⟨h3, h4, h2.1, ?_⟩
        have hc := count_split e
        unfold rpB
        rw [(hm.path e h3).pathB, decide_eq_true (by omega)]
        rfl
      have hsub : es.Sublist ms := by rw [← hes]; exact List.filter_sublist.trans List.filter_sublist
      obtain ⟨f6, rfl⟩ : ∃ f6, f5 = f6 + 1 := ⟨f5 - 1, by omega⟩
      refine ⟨_, atI0, k, 4, f6, rfl, rfl, by decide, by decide, rfl, fun c c0 c1 => ?_⟩
      obtain ⟨c, rfl⟩ : ∃ c' : Nat, c = c' := ⟨c.toNat, by omega⟩
      show _ ∧ Q (.tup [.str (Str.ofString "face"), .str p0, .tup (cutD (es.map D.str) none (some (c : Int)))]) f6
      rw [cutD_takeS]
      have st := (List.take_sublist c es).trans hsub
      have mt : ∀ e ∈ es.take c, e ∈ es := fun e he => List.mem_of_mem_take he
      refine ⟨show 3 ≤ lim by decide, q (.face p0 (es.take c)) f6 ⟨hp0, ⟨Nat.zero_le _, by rw [List.length_take]; omega, fun e he => (hem e (mt e he)).2.2.2⟩, fun e he => ⟨(hem e (mt e he)).2.1, (hem e (mt e he)).2.2.1⟩⟩ (ovlL_pw ((hm.apart.imp ovl_comm').sublist st)) (by omega)⟩
    · refine sIf_N (s := Str.ofString "noring") rfl (by decide +kernel) (sIf_N (s := Str.ofString "noring") rfl (by decide +kernel) (sIf_N (s := Str.ofString "noring") rfl (by decide +kernel) (sIf_N (s := Str.ofString "noring") rfl (by decide +kernel) (sIf_T (s := Str.ofString "noring") rfl rfl ?_))))
      exact ⟨show 2 ≤ lim by decide, q (.noring few) f5 ⟨by omega, by omega, (hS _ hfs).2⟩ (hS _ hfs).1 (by omega)⟩
/-! is_rule_path -/
abbrev s_is_rule_path : Stmt := topS 19
theorem sc_is_rule_path : FnScope ["value"] ["value"] (defScope s_is_rule_path) := ⟨rfl, rfl, rfl, by decide +kernel, rfl, by decide +kernel, by decide +kernel⟩
def rpD : D → Bool
  | .str s => rpB s
  | _ => false
def Sp_is_rule_path : DSp := fun _ ds f Q => ∃ x : D, ds = [x] ∧ x.good = true ∧ Q (.bool (rpD x)) f
set_option maxHeartbeats 2000000 in
theorem ok_is_rule_path (d : Df K mg "is_rule_path" s_is_rule_path) (g_MAX_RULE_NAMES : ∃ t, mg "MAX_RULE_NAMES" = some (.int 4 t)) (c_is_path : Cal P w K mg base 2 "is_path" ["value"] Sp_is_path) : Cal P w K mg base 3 "is_rule_path" ["value"] Sp_is_rule_path := by
  obtain ⟨f, fd, F, m⟩ := d
  refine ⟨f, fd, dfn (k := 2) (S := Sp_is_rule_path) F sc_is_rule_path ?len (fun cdv A outer s H E hr => (dss_one (ds_ret (de_and (de_callC c_is_path (hr.mono (by decide)) (da_cons (de_v 0) da_nil)) (de_one (de_lt (de_count (de_v 0) de_str) (de_glob (v := .int 4) (d := .int 4) (by rfl) g_MAX_RULE_NAMES.choose_spec ⟨_, rfl⟩ (fun _ => rfl)))))))) ?h, F.kp, F.binds fun _ _ _ _ _ _ us hl => match us, hl with | [_], _ => rfl, m⟩
  case len =>
    intro g ds n Q h; obtain ⟨_, rfl, _⟩ := h; rfl
  case h =>
    intro g ds n Q h
    obtain ⟨x, rfl, hx, q⟩ := h
    refine ⟨x, rfl, D.good_tyd hx, fun s hs => by subst hs; exact Nat.le_trans (good_strI hx).2 (by decide), ?_⟩
    show if isPathD x = true then _ else _
    cases x with
    | str s =>
      have q : Q (.bool (pathB s && decide ((Txt.split s ".").length ≤ 4))) n := q
      show if pathB s = true then _ else _
      cases hp : pathB s with
      | false =>
        rw [hp] at q
        exact iteF q
      | true =>
        rw [hp, Bool.true_and] at q
        have e := count_split s
        refine iteT ⟨trivial, ?_⟩
        show Q (.bool (decide (Txt.count s "." < 4))) n
        rw [show decide (Txt.count s "." < 4) = decide ((Txt.split s ".").length ≤ 4) from decide_eq_decide.mpr (by omega)]
        exact q
    | _ => exact iteF q
/-! are_rule_paths -/
abbrev s_are_rule_paths : Stmt := topS 20
theorem sc_are_rule_paths : FnScope ["value", "least", "most", "path"] ["value", "least", "most"] (defScope s_are_rule_paths) := ⟨rfl, rfl, rfl, by decide +kernel, rfl, by decide +kernel, by decide +kernel⟩
def arpD (l m : Nat) : D → Bool
  | .tup ys => decide (l ≤ ys.length) && decide (ys.length ≤ m) && ys.all rpD
  | _ => false
def Sp_are_rule_paths : DSp := fun _ ds f Q => ∃ (x : D) (l m : Nat), ds = [x, .int l, .int m] ∧ x.good = true ∧ m ≤ 100 ∧ Q (.bool (arpD l m x)) f
set_option maxHeartbeats 2000000 in
theorem ok_are_rule_paths (d : Df K mg "are_rule_paths" s_are_rule_paths) (m_all : mg "all" = none) (m_len : mg "len" = none) (m_tuple : mg "tuple" = none) (m_isinstance : mg "isinstance" = none) (c_is_rule_path : Cal P w K mg base 3 "is_rule_path" ["value"] Sp_is_rule_path) : Cal P w K mg base 4 "are_rule_paths" ["value", "least", "most"] Sp_are_rule_paths := by
  obtain ⟨f, fd, F, m⟩ := d
  refine ⟨f, fd, dfn (k := 3) (S := Sp_are_rule_paths) F sc_are_rule_paths ?len (fun cdv A outer s H E hr => (dss_cons (ds_if (DW.p (dw_or (dp_not (dp_val (de_isi m_isinstance (da_cons (de_v 0) (da_cons (de_bltn (v := .ty "tuple") (u := .type "tuple") (by rfl) m_tuple (by decide +kernel) rfl) da_nil))))) (dw_or1 (dp_not (dp_lele (de_v 1) (de_len m_len (da_cons (de_v 0) da_nil)) (de_v 2)))))) (dss_one (ds_ret de_bl)) dss_nil)
      (dss_one (ds_ret (de_callB (cr_all rfl) sc_all (by rfl) m_all (by decide +kernel) (da_cons (dl_lc (own := [("path", 3)]) rfl sc_are_rule_paths.nd (di_seq (de_v 0)) (blkOk_by (own := [("path", 3)]) (N := ["value", "least", "most", "path"]) (sc := defScope s_are_rule_paths) (by decide +kernel)) (fun _ _ _ _ _ => dg_name (i := 3) sc_are_rule_paths.nd) (fun _ _ _ _ _ => dts_nil) (fun _ _ _ _ _ => (de_callC c_is_rule_path (hr.mono (by decide)) (da_cons (de_v 3) da_nil)))).e da_nil)))))) ?h, F.kp, F.binds fun _ _ _ _ _ _ us hl => match us, hl with | [_, _, _], _ => rfl, m⟩
  case len =>
    intro g ds n Q h; obtain ⟨_, _, _, rfl, _⟩ := h; rfl
  case h =>
    intro g ds n Q h
    obtain ⟨x, l, m, rfl, hx, hm, q⟩ := h
    cases x with
    | tup ys =>
      have q : Q (.bool (decide (l ≤ ys.length) && decide (ys.length ≤ m) && ys.all rpD)) n := q
      refine ⟨_, _, rfl, rfl, ?_⟩
      show if decide ((l : Int) ≤ (ys.length : Int)) = true then _ else _
      by_cases h1 : l ≤ ys.length
      · rw [decide_eq_true (by omega : (l : Int) ≤ (ys.length : Int))]
        rw [decide_eq_true h1, Bool.true_and] at q
        refine iteT ?_
        show if (!decide ((ys.length : Int) ≤ (m : Int))) = true then _ else _
        by_cases h2 : ys.length ≤ m
        · rw [decide_eq_true (by omega : (ys.length : Int) ≤ (m : Int))]
          rw [decide_eq_true h2, Bool.true_and] at q
          refine iteF ⟨L1 (by omega), ?_⟩
          refine lcMd D.bool rpD ys _ (fun d hd => ⟨_, rfl, fun f Q q => ⟨d, rfl, goodA_mem hx hd, q⟩⟩) ?_
          refine ⟨ys.map rpD, rfl, ?_⟩
          rw [List.all_map]
          exact q
        · rw [decide_eq_false (by omega : ¬ (ys.length : Int) ≤ (m : Int))]
          rw [decide_eq_false h2] at q
          exact iteT q
      · rw [decide_eq_false (by omega : ¬ (l : Int) ≤ (ys.length : Int))]
        rw [decide_eq_false h1] at q
        exact iteF (iteT q)
    | obj _ _ _ => cases hx
    | exn _ _ _ => cases hx
    | any _ => cases hx
    | _ => exact ⟨_, _, rfl, rfl, q⟩
/-! are_rows -/
abbrev s_are_rows : Stmt := topS 21
theorem sc_are_rows : FnScope ["value", "row"] ["value"] (defScope s_are_rows) := ⟨rfl, rfl, rfl, by decide +kernel, rfl, by decide +kernel, by decide +kernel⟩
def rowsD : D → Bool
  | .tup ys => decide (2 ≤ ys.length) && decide (ys.length ≤ 5) && ys.all (arpD 1 4)
  | _ => false
def Sp_are_rows : DSp := fun _ ds f Q => ∃ x : D, ds = [x] ∧ x.good = true ∧ Q (.bool (rowsD x)) f
set_option maxHeartbeats 2000000 in
theorem ok_are_rows (d : Df K mg "are_rows" s_are_rows) (m_all : mg "all" = none) (m_len : mg "len" = none) (m_tuple : mg "tuple" = none) (m_isinstance : mg "isinstance" = none) (c_are_rule_paths : Cal P w K mg base 4 "are_rule_paths" ["value", "least", "most"] Sp_are_rule_paths) : Cal P w K mg base 5 "are_rows" ["value"] Sp_are_rows := by
  obtain ⟨f, fd, F, m⟩ := d
  refine ⟨f, fd, dfn (k := 4) (S := Sp_are_rows) F sc_are_rows ?len (fun cdv A outer s H E hr => (dss_cons (ds_if (DW.p (dw_or (dp_not (dp_val (de_isi m_isinstance (da_cons (de_v 0) (da_cons (de_bltn (v := .ty "tuple") (u := .type "tuple") (by rfl) m_tuple (by decide +kernel) rfl) da_nil))))) (dw_or1 (dp_not (dp_lele de_int (de_len m_len (da_cons (de_v 0) da_nil)) de_int))))) (dss_one (ds_ret de_bl)) dss_nil)
      (dss_one (ds_ret (de_callB (cr_all rfl) sc_all (by rfl) m_all (by decide +kernel) (da_cons (dl_lc (own := [("row", 1)]) rfl sc_are_rows.nd (di_seq (de_v 0)) (blkOk_by (own := [("row", 1)]) (N := ["value", "row"]) (sc := defScope s_are_rows) (by decide +kernel)) (fun _ _ _ _ _ => dg_name (i := 1) sc_are_rows.nd) (fun _ _ _ _ _ => dts_nil) (fun _ _ _ _ _ => (de_callC c_are_rule_paths (hr.mono (by decide)) (da_cons (de_v 1) (da_cons de_int (da_cons de_int da_nil)))))).e da_nil)))))) ?h, F.kp, F.binds fun _ _ _ _ _ _ us hl => match us, hl with | [_], _ => rfl, m⟩
  case len =>
    intro g ds n Q h; obtain ⟨_, rfl, _⟩ := h; rfl
  case h =>
    intro g ds n Q h
    obtain ⟨x, rfl, hx, q⟩ := h
    cases x with
    | tup ys =>
      have q : Q (.bool (decide (2 ≤ ys.length) && decide (ys.length ≤ 5) && ys.all (arpD 1 4))) n := q
      refine ⟨_, _, rfl, rfl, ?_⟩
      show if decide ((2 : Int) ≤ (ys.length : Int)) = true then _ else _
      by_cases h1 : 2 ≤ ys.length
      · rw [decide_eq_true (by omega : (2 : Int) ≤ (ys.length : Int))]
        rw [decide_eq_true h1, Bool.true_and] at q
        refine iteT ?_
        show if (!decide ((ys.length : Int) ≤ 5)) = true then _ else _
        by_cases h2 : ys.length ≤ 5
        · rw [decide_eq_true (by omega : (ys.length : Int) ≤ 5)]
          rw [decide_eq_true h2, Bool.true_and] at q
          refine iteF ⟨L1 (by omega), ?_⟩
          refine lcMd D.bool (arpD 1 4) ys _ (fun d hd => ⟨_, rfl, fun f Q q => ⟨d, 1, 4, rfl, goodA_mem hx hd, by decide, q⟩⟩) ?_
          refine ⟨ys.map (arpD 1 4), rfl, ?_⟩
          rw [List.all_map]
          exact q
        · rw [decide_eq_false (by omega : ¬ (ys.length : Int) ≤ 5)]
          rw [decide_eq_false h2] at q
          exact iteT q
      · rw [decide_eq_false (by omega : ¬ (2 : Int) ≤ (ys.length : Int))]
        rw [decide_eq_false h1] at q
        exact iteF (iteT q)
    | obj _ _ _ => cases hx
    | exn _ _ _ => cases hx
    | any _ => cases hx
    | _ => exact ⟨_, _, rfl, rfl, q⟩
def tbl_LEAST : List (Str × D) := [("sources", .int 1), ("targets", .int 1), ("paths", .int 2), ("users", .int 0), ("exposed", .int 0)]
/-! item_holds -/
abbrev s_item_holds : Stmt := topS 22
theorem sc_item_holds : FnScope ["name", "item", "path", "one"] ["name", "item", "path"] (defScope s_item_holds) := ⟨rfl, rfl, rfl, by decide +kernel, rfl, by decide +kernel, by decide +kernel⟩
def leastOf (n : Str) : Nat := if n = "sources" then 1 else if n = "targets" then 1 else if n = "paths" then 2 else 0
def expD (p : Str) : D → Bool
  | .str s => cov p s && !decide (s = p)
  | _ => false
def itOk (n : Str) (x : D) (p : D) : Bool :=
  if n = "how" then ([("direct" : Str), "chain"].any fun a => strEq a x) else if n = "rows" then rowsD x else if n = "path" then rpD x
  else arpD (leastOf n) 6 x && (!decide (n = "exposed") || x.its.all (expD p.txt))
def itNames : List Str := ["sources", "targets", "how", "rows", "paths", "users", "path", "exposed"]
def Sp_item_holds : DSp := fun _ ds f Q => ∃ (n : Str) (x p : D), ds = [.str n, x, p] ∧ n ∈ itNames ∧ x.good = true ∧ p.good = true ∧ (n = "exposed" → ∃ s, p = .str s) ∧ Q (.bool (itOk n x p)) f
theorem least_at {n : Str} (hn : n ∈ itNames) (h1 : ¬ n = "how") (h2 : ¬ n = "rows") (h3 : ¬ n = "path") : tbl_LEAST.lookup n = some (.int (leastOf n : Nat)) := by
  unfold itNames at hn
  simp only [List.mem_cons, List.not_mem_nil, or_false] at hn
  rcases hn with rfl | rfl | rfl | rfl | rfl | rfl | rfl | rfl <;> first | exact absurd rfl h1 | exact absurd rfl h2 | exact absurd rfl h3 | (decide +kernel) | rfl
theorem arp_strs {l m : Nat} {x : D} (h : arpD l m x = true) : ∃ ps : List Str, x = .tup (ps.map D.str) ∧ l ≤ ps.length ∧ ps.length ≤ m ∧ ∀ p ∈ ps, rpB p = true := by
  cases x with
  | tup ys =>
    have h : (decide (l ≤ ys.length) && decide (ys.length ≤ m) && ys.all rpD) = true := h
    rw [Bool.and_eq_true, Bool.and_eq_true, decide_eq_true_iff, decide_eq_true_iff] at h
    obtain ⟨⟨h1, h2⟩, h3⟩ := h
    have : ∀ zs : List D, zs.all rpD = true → ∃ ps : List Str, zs = ps.map D.str ∧ ∀ p ∈ ps, rpB p = true := by
      intro zs
      induction zs with
      | nil => exact fun _ => ⟨[], rfl, by simp⟩
      | cons z zs ih =>
        intro h
        rw [List.all_cons, Bool.and_eq_true] at h
        obtain ⟨ps, e, h2⟩ := ih h.2
        cases z with
        | str s => exact ⟨s :: ps, by rw [e]; rfl, fun p hp => (List.mem_cons.mp hp).elim (fun e => e ▸ h.1) (h2 p)⟩
        | _ => cases h.1
    obtain ⟨ps, rfl, h4⟩ := this ys h3
    rw [List.length_map] at h1 h2
    exact ⟨ps, rfl, h1, h2, h4⟩
  | _ => cases h
set_option maxHeartbeats 2000000 in
theorem ok_item_holds (d : Df K mg "item_holds" s_item_holds) (m_all : mg "all" = none) (g_MOST_PATHS : ∃ t, mg "MOST_PATHS" = some (.int 6 t)) (gd_LEAST : GD K w mg "LEAST" tbl_LEAST) (c_covers : Cal P w K mg base 1 "covers" ["path", "other"] Sp_covers) (c_are_rule_paths : Cal P w K mg base 4 "are_rule_paths" ["value", "least", "most"] Sp_are_rule_paths) (c_is_rule_path : Cal P w K mg base 3 "is_rule_path" ["value"] Sp_is_rule_path) (c_are_rows : Cal P w K mg base 5 "are_rows" ["value"] Sp_are_rows) : Cal P w K mg base 6 "item_holds" ["name", "item", "path"] Sp_item_holds := by
  obtain ⟨f, fd, F, m⟩ := d
  refine ⟨f, fd, dfn (k := 5) (S := Sp_item_holds) F sc_item_holds ?len (fun cdv A outer s H E hr => (dss_cons (ds_if (dp_eq hr.units (de_v 0) de_str) (dss_one (ds_ret (de_inS hr.units (de_v 1) (de_tup (da_cons de_str (da_cons de_str da_nil)))))) dss_nil)
      (dss_cons (ds_if (dp_eq hr.units (de_v 0) de_str) (dss_one (ds_ret (de_callC c_are_rows (hr.mono (by decide)) (da_cons (de_v 1) da_nil)))) dss_nil)
      (dss_cons (ds_if (dp_eq hr.units (de_v 0) de_str) (dss_one (ds_ret (de_callC c_is_rule_path (hr.mono (by decide)) (da_cons (de_v 1) da_nil)))) dss_nil)
      (dss_cons (ds_if (dp_not (dp_val (de_callC c_are_rule_paths (hr.mono (by decide)) (da_cons (de_v 1) (da_cons (de_gd gd_LEAST (de_v 0)) (da_cons (de_glob (v := .int 6) (d := .int 6) (by rfl) g_MOST_PATHS.choose_spec ⟨_, rfl⟩ (fun _ => rfl)) da_nil)))))) (dss_one (ds_ret de_bl)) dss_nil)
      (dss_one (ds_ret (de_or (de_ne hr.units (de_v 0) de_str) (de_one (de_callB (cr_all rfl) sc_all (by rfl) m_all (by decide +kernel) (da_cons (dl_lc (own := [("one", 3)]) rfl sc_item_holds.nd (di_seq (de_v 1)) (blkOk_by (own := [("one", 3)]) (N := ["name", "item", "path", "one"]) (sc := defScope s_item_holds) (by decide +kernel)) (fun _ _ _ _ _ => dg_name (i := 3) sc_item_holds.nd) (fun _ _ _ _ _ => dts_nil) (fun _ _ _ _ _ => (de_and (de_callC c_covers (hr.mono (by decide)) (da_cons (de_v 2) (da_cons (de_v 3) da_nil))) (de_one (de_ne hr.units (de_v 3) (de_v 2)))))).e da_nil))))))))))) ?h, F.kp, F.binds fun _ _ _ _ _ _ us hl => match us, hl with | [_, _, _], _ => rfl, m⟩
  case len =>
    intro g ds n Q h; obtain ⟨_, _, _, rfl, _⟩ := h; rfl
  case h =>
    intro g ds n Q h
    obtain ⟨nm, x, p, rfl, hn, hx, hp, he, q⟩ := h
    have hxt := D.good_tyd hx
    show if decide (nm = "how") = true then _ else _
    unfold itOk at q
    by_cases h1 : nm = "how"
    · rw [decide_eq_true h1]
      rw [if_pos h1] at q
      exact iteT ⟨show 2 ≤ lim by decide, [("direct" : Str), "chain"], rfl, hxt, q⟩
    rw [decide_eq_false h1]
    rw [if_neg h1] at q
    refine iteF ?_
    show if decide (nm = "rows") = true then _ else _
    by_cases h2 : nm = "rows"
    · rw [decide_eq_true h2]
      rw [if_pos h2] at q
      exact iteT ⟨x, rfl, hx, q⟩
    rw [decide_eq_false h2]
    rw [if_neg h2] at q
    refine iteF ?_
    show if decide (nm = "path") = true then _ else _
    by_cases h3 : nm = "path"
    · rw [decide_eq_true h3]
      rw [if_pos h3] at q
      exact iteT ⟨x, rfl, hx, q⟩
    rw [decide_eq_false h3]
    rw [if_neg h3] at q
    refine iteF ?_
    refine ⟨_, least_at hn h1 h2 h3, x, leastOf nm, 6, rfl, hx, by decide, ?_⟩
    show if (!arpD (leastOf nm) 6 x) = true then _ else _
    cases ha : arpD (leastOf nm) 6 x with
    | false =>
      rw [ha] at q
      exact iteT q
    | true =>
      rw [ha, Bool.true_and] at q
      obtain ⟨ps, rfl, k1, k2, k3⟩ := arp_strs ha
      refine iteF ?_
      show if (!decide (nm = "exposed")) = true then _ else _
      by_cases h4 : nm = "exposed"
      · rw [decide_eq_true h4] at q ⊢
        obtain ⟨s, rfl⟩ := he h4
        have hs := good_strI hp
        refine iteF ⟨by rw [List.length_map]; exact L1 (by omega), ?_⟩
        refine lcM D.str D.bool (fun y => expD s (.str y)) ps _ (fun y hy => ⟨_, rfl, fun f Q q => ?_⟩) ?_
        · have ys := good_strI (goodA_mem hx (List.mem_map_of_mem hy))
          refine ⟨s, y, rfl, by omega, ?_⟩
          have q : Q (.bool (cov s y && !decide (y = s))) f := q
          cases hc : cov s y with
          | false =>
            rw [hc] at q
            exact iteF q
          | true =>
            rw [hc] at q
            exact iteT q
        refine ⟨ps.map _, rfl, ?_⟩
        rw [List.all_map]
        have e : (D.tup (ps.map D.str)).its.all (expD (D.str s).txt) = ps.all ((fun b => b) ∘ fun y => expD s (.str y)) := by
          show (ps.map D.str).all (expD s) = _
          rw [List.all_map]
          rfl
        rw [show (!true || (D.tup (ps.map D.str)).its.all (expD (D.str s).txt)) = (D.tup (ps.map D.str)).its.all (expD (D.str s).txt) from Bool.false_or _, e] at q
        exact q
      · rw [decide_eq_false h4] at q ⊢
        exact iteT q
/-! any_overlap -/
abbrev s_any_overlap : Stmt := topS 25
theorem sc_any_overlap : FnScope ["paths", "index", "path"] ["paths"] (defScope s_any_overlap) := ⟨rfl, rfl, rfl, by decide +kernel, rfl, by decide +kernel, by decide +kernel⟩
def Sp_any_overlap : DSp := fun _ ds f Q => ∃ ps : List Str, ds = [.tup (ps.map D.str)] ∧ short ps ∧ Q (.bool (ovlL ps)) f
set_option maxHeartbeats 2000000 in
theorem ok_any_overlap (d : Df K mg "any_overlap" s_any_overlap) (m_range : mg "range" = none) (m_len : mg "len" = none) (m_any : mg "any" = none) (c_overlap : Cal P w K mg base 2 "overlap" ["path", "other"] Sp_overlap) : Cal P w K mg base 3 "any_overlap" ["paths"] Sp_any_overlap := by
  obtain ⟨f, fd, F, m⟩ := d
  refine ⟨f, fd, dfn (k := 2) (S := Sp_any_overlap) F sc_any_overlap ?len (fun cdv A outer s H E hr => (dss_cons (ds_for [] PassesOwn.never (di_range1 m_range (da_cons (de_len m_len (da_cons (de_v 0) da_nil)) da_nil)) (dg_name (i := 1) sc_any_overlap.nd) (dss_one (ds_if (dp_val (de_callB (cr_any rfl) sc_any (by rfl) m_any (by decide +kernel) (da_cons (dl_lc (own := [("path", 2)]) rfl sc_any_overlap.nd (di_seq (de_sl (de_v 0) do_none (do_some (de_v 1)))) (blkOk_by (own := [("path", 2)]) (N := ["paths", "index", "path"]) (sc := defScope s_any_overlap) (by decide +kernel)) (fun _ _ _ _ _ => dg_name (i := 2) sc_any_overlap.nd) (fun _ _ _ _ _ => dts_nil) (fun _ _ _ _ _ => (de_callC c_overlap (hr.mono (by decide)) (da_cons (de_ix (de_v 0) (de_v 1)) (da_cons (de_v 2) da_nil))))).e da_nil))) (dss_one (ds_ret de_bl)) dss_nil)))
      (dss_one (ds_ret de_bl)))) ?h, F.kp, F.binds fun _ _ _ _ _ _ us hl => match us, hl with | [_], _ => rfl, m⟩
  case len =>
    intro g ds n Q h; obtain ⟨_, rfl, _⟩ := h; rfl
  case h =>
    intro g ds n Q h
    obtain ⟨ps, rfl, ⟨hl, hs⟩, q⟩ := h
    have lps : (ps.map D.str).length = ps.length := List.length_map _
    refine ⟨by rw [lps]; omega, by rw [lps]; omega, ?_⟩
    have e0 : ((ps.map D.str).length : Int).toNat = ps.length := by omega
    rw [e0]
    refine dFor_range (fun i r f => ∃ a b : Sl, r = [.sh (.tup (ps.map D.str)), a, b] ∧ n = f ∧ ovlL (ps.take i) = false) 0 _ _ _ ?_ ?_ ⟨_, _, rfl, rfl, rfl⟩
    · rintro i r f N hi ⟨a, b, rfl, rfl, ho⟩ hN
      have g1 : atI (ps.map D.str) (0 + (i : Int)) = some (.str (ps[i]'hi)) := by
        rw [Int.zero_add]
        exact atI_nat (by rw [List.getElem?_map, List.getElem?_eq_getElem hi]; rfl)
      have ec : cutD (ps.map D.str) none (some (0 + (i : Int))) = (ps.take i).map D.str := by
        rw [Int.zero_add]
        exact cutD_takeS ps i
      refine ⟨_, rfl, ?_⟩
      show (cutD (ps.map D.str) none (some (0 + (i : Int)))).length ≤ lim ∧ _
      rw [ec]
      refine ⟨by rw [List.length_map, List.length_take]; exact L1 (by omega), ?_⟩
      have hpi := hs ps[i] (List.getElem_mem hi)
      refine lcM D.str D.bool (fun p => ovl ps[i] p) (ps.take i) _ (fun p hp => ⟨_, rfl, fun f Q q => ?_⟩) ?_
      · have hpp := hs p (List.mem_of_mem_take hp)
        exact ⟨_, g1, ps[i], p, rfl, by omega, by omega, q⟩
      refine ⟨(ps.take i).map _, rfl, ?_⟩
      show if (((ps.take i).map fun p => ovl ps[i] p).any id) = true then _ else _
      rw [List.any_map]
      have et : ps.take (i + 1) = ps.take i ++ [ps[i]] := by rw [List.take_add_one, List.getElem?_eq_getElem hi]; rfl
      have eo := ovlL_snoc (ps.take i) ps[i]
      rw [← et, ho, Bool.false_or] at eo
      cases hc : (ps.take i).any (id ∘ fun p => ovl ps[i] p) with
      | true =>
        refine iteT ?_
        have : ovlL ps = true := by
          cases hq : ovlL ps with
          | true => rfl
          | false =>
            have := ovlL_pre (A := ps.take (i + 1)) (B := ps.drop (i + 1)) (by rw [List.take_append_drop]; exact hq)
            rw [eo] at this
            exact absurd (hc.symm.trans this) (by decide)
        rw [this] at q
        exact q
      | false => exact iteF (hN _ _ ⟨_, _, rfl, rfl, eo.trans hc⟩)
    · rintro r f ⟨a, b, rfl, rfl, ho⟩
      rw [List.take_length] at ho
      rw [ho] at q
      exact q
def tbl_ITEMS : List (Str × D) := [("forbid", .tup ((["sources", "targets", "how"] : List Str).map D.str)), ("layers", .tup ((["rows", "how"] : List Str).map D.str)), ("stairs", .tup ((["rows"] : List Str).map D.str)), ("apart", .tup ((["paths", "how"] : List Str).map D.str)), ("only", .tup ((["targets", "users"] : List Str).map D.str)), ("face", .tup ((["path", "exposed"] : List Str).map D.str)), ("noring", .tup ((["paths"] : List Str).map D.str))]
def nmsOf (w : Str) : Option (List Str) := match tbl_ITEMS.lookup w with
  | some (.tup ns) => some (ns.map D.txt)
  | _ => none
def firstBad : List Str → List D → D → Option Str
  | n :: ns, x :: xs, p => if itOk n x p = true then firstBad ns xs x else some n
  | _, _, _ => none
def tx (x : D) : List Str := x.its.map D.txt
def parD (w : Str) (its : List D) : List Str :=
  if w = "layers" then ((its.getD 0 .none).its.map tx).flatten else if w = "stairs" then ((its.getD 0 .none).its.map tx).flatten else if w = "forbid" then tx (its.getD 0 .none) ++ tx (its.getD 1 .none)
  else if w = "only" then tx (its.getD 0 .none) ++ tx (its.getD 1 .none) else if w = "face" then tx (its.getD 1 .none) else tx (its.getD 0 .none)
def ruleErr (x : D) : D := match x with
  | .tup (.str w :: its) => match nmsOf w with
    | some ns => if its.length = ns.length then (match firstBad ns its (.str w) with
      | some n => .str n
      | none => if ovlL (parD w its) = true then .str "overlap" else .none) else .str "rule"
    | none => .str "rule"
  | _ => .str "rule"
theorem arp_iff {l m : Nat} {x : D} : arpD l m x = true ↔ ∃ ps, x = tps ps ∧ rPs l m ps := by
  constructor
  · intro h
    obtain ⟨ps, h1, h2, h3, h4⟩ := arp_strs h
    exact ⟨ps, h1, h2, h3, h4⟩
  · rintro ⟨ps, rfl, h1, h2, h3⟩
    show (decide (l ≤ (ps.map D.str).length) && decide ((ps.map D.str).length ≤ m) && (ps.map D.str).all rpD) = true
    rw [List.length_map, decide_eq_true h1, decide_eq_true h2, List.all_map, show ps.all (rpD ∘ D.str) = true from List.all_eq_true.mpr h3]
    rfl
theorem rows_iff {x : D} : rowsD x = true ↔ ∃ rows : List (List Str), x = .tup (rows.map tps) ∧ rRows rows := by
  cases x with
  | tup ys =>
    show (decide (2 ≤ ys.length) && decide (ys.length ≤ 5) && ys.all (arpD 1 4)) = true ↔ _
    rw [Bool.and_eq_true, Bool.and_eq_true, decide_eq_true_iff, decide_eq_true_iff]
    constructor
    · rintro ⟨⟨h1, h2⟩, h3⟩
      have : ∀ zs : List D, zs.all (arpD 1 4) = true → ∃ rows : List (List Str), zs = rows.map tps ∧ ∀ r ∈ rows, rPs 1 4 r := by
        intro zs
        induction zs with
        | nil => exact fun _ => ⟨[], rfl, by simp⟩
        | cons z zs ih =>
          intro h
          rw [List.all_cons, Bool.and_eq_true] at h
          obtain ⟨rows, e, h2⟩ := ih h.2
          obtain ⟨ps, rfl, h3⟩ := arp_iff.mp h.1
          exact ⟨ps :: rows, by rw [e]; rfl, fun r hr => (List.mem_cons.mp hr).elim (fun e => e ▸ h3) (h2 r)⟩
      obtain ⟨rows, rfl, h4⟩ := this ys h3
      rw [List.length_map] at h1 h2
      exact ⟨rows, rfl, h1, h2, h4⟩
    · rintro ⟨rows, e, h1, h2, h3⟩
      cases e
      rw [List.length_map]
      refine ⟨⟨h1, h2⟩, List.all_eq_true.mpr fun z hz => ?_⟩
      obtain ⟨r, hr, rfl⟩ := List.mem_map.mp hz
      exact arp_iff.mpr ⟨r, rfl, h3 r hr⟩
  | _ => exact ⟨(fun h => by cases h), (fun ⟨_, h, _⟩ => by cases h)⟩
theorem how_iff {x : D} : ([("direct" : Str), "chain"].any fun a => strEq a x) = true ↔ ∃ ch, x = .str (howS ch) := by
  cases x with
  | str s =>
    show (decide (("direct" : Str) = s) || (decide (("chain" : Str) = s) || false)) = true ↔ _
    rw [Bool.or_false, Bool.or_eq_true, decide_eq_true_iff, decide_eq_true_iff]
    constructor
    · rintro (h | h)
      · exact ⟨false, by rw [← h]; rfl⟩
      · exact ⟨true, by rw [← h]; rfl⟩
    · rintro ⟨ch, h⟩
      cases ch with
      | true => cases h; exact .inr rfl
      | false => cases h; exact .inl rfl
  | _ => exact ⟨(fun h => by cases h), (fun ⟨_, h⟩ => by cases h)⟩
theorem exp_iff {p : Str} {es : List Str} : (tps es).its.all (expD p) = true ↔ ∀ e ∈ es, cov p e = true ∧ e ≠ p := by
  show (es.map D.str).all (expD p) = true ↔ _
  rw [List.all_map, List.all_eq_true]
  refine forall_congr' fun e => imp_congr_right fun _ => ?_
  show (cov p e && !decide (e = p)) = true ↔ _
  rw [Bool.and_eq_true, Bool.not_eq_true', decide_eq_false_iff_not]
theorem tx_tps (ps : List Str) : tx (tps ps) = ps := txt_strs ps
theorem tx_rows (rows : List (List Str)) : ((D.tup (rows.map tps)).its.map tx).flatten = rows.flatten := by
  show ((rows.map tps).map tx).flatten = _
  rw [List.map_map, show (tx ∘ tps) = id from funext tx_tps, List.map_id]
theorem par_eq (r : Rl) : parD r.wd r.items = r.par := by
  unfold parD
  cases r with
  | forbid ss ts ch => show tx (tps ss) ++ tx (tps ts) = _; rw [tx_tps, tx_tps]; rfl
  | layers rows ch => exact tx_rows rows
  | stairs rows => exact tx_rows rows
  | apart ps ch => exact tx_tps ps
  | only ts us => show tx (tps ts) ++ tx (tps us) = _; rw [tx_tps, tx_tps]; rfl
  | face p es => exact tx_tps es
  | noring ps => exact tx_tps ps
theorem nms_cases {w : Str} {ns : List Str} (h : nmsOf w = some ns) : (w = "forbid" ∧ ns = (["sources", "targets", "how"] : List Str)) ∨ (w = "layers" ∧ ns = (["rows", "how"] : List Str)) ∨ (w = "stairs" ∧ ns = (["rows"] : List Str)) ∨ (w = "apart" ∧ ns = (["paths", "how"] : List Str)) ∨ (w = "only" ∧ ns = (["targets", "users"] : List Str)) ∨ (w = "face" ∧ ns = (["path", "exposed"] : List Str)) ∨ (w = "noring" ∧ ns = (["paths"] : List Str)) := by
  by_cases h1 : w = "forbid"
  · subst h1; cases h; exact .inl ⟨rfl, rfl⟩
  by_cases h2 : w = "layers"
  · subst h2; cases h; exact .inr (.inl ⟨rfl, rfl⟩)
  by_cases h3 : w = "stairs"
  · subst h3; cases h; exact .inr (.inr (.inl ⟨rfl, rfl⟩))
  by_cases h4 : w = "apart"
  · subst h4; cases h; exact .inr (.inr (.inr (.inl ⟨rfl, rfl⟩)))
  by_cases h5 : w = "only"
  · subst h5; cases h; exact .inr (.inr (.inr (.inr (.inl ⟨rfl, rfl⟩))))
  by_cases h6 : w = "face"
  · subst h6; cases h; exact .inr (.inr (.inr (.inr (.inr (.inl ⟨rfl, rfl⟩)))))
  by_cases h7 : w = "noring"
  · subst h7; cases h; exact .inr (.inr (.inr (.inr (.inr (.inr ⟨rfl, rfl⟩)))))
  exfalso
  have e : tbl_ITEMS.lookup w = none := by
    unfold tbl_ITEMS
    simp only [List.lookup_cons, beq_eq_false_iff_ne.mpr h1, beq_eq_false_iff_ne.mpr h2, beq_eq_false_iff_ne.mpr h3, beq_eq_false_iff_ne.mpr h4, beq_eq_false_iff_ne.mpr h5, beq_eq_false_iff_ne.mpr h6, beq_eq_false_iff_ne.mpr h7, List.lookup_nil]
  unfold nmsOf at h
  rw [e] at h
  cases h
theorem fb_cons {n : Str} {ns : List Str} {x : D} {xs : List D} {p : D} : firstBad (n :: ns) (x :: xs) p = none ↔ itOk n x p = true ∧ firstBad ns xs x = none := by
  show (if itOk n x p = true then firstBad ns xs x else some n) = none ↔ _
  by_cases h : itOk n x p = true
  · rw [if_pos h]; exact ⟨fun q => ⟨h, q⟩, fun q => q.2⟩
  · rw [if_neg h]; exact ⟨(fun q => by cases q), fun q => absurd q.1 h⟩
theorem ok_ps {n : Str} (l : Nat) (h1 : n ≠ "how") (h2 : n ≠ "rows") (h3 : n ≠ "path") (h4 : n ≠ "exposed") (hl : leastOf n = l) {x p : D} : itOk n x p = true ↔ ∃ ps, x = tps ps ∧ rPs l 6 ps := by
  unfold itOk
  rw [if_neg h1, if_neg h2, if_neg h3, decide_eq_false h4, hl, Bool.not_false, Bool.true_or, Bool.and_true, arp_iff]
theorem ok_how {x p : D} : itOk "how" x p = true ↔ ∃ ch, x = .str (howS ch) := how_iff
theorem ok_rows {x p : D} : itOk "rows" x p = true ↔ ∃ rows : List (List Str), x = .tup (rows.map tps) ∧ rRows rows := rows_iff
theorem ok_path {x p : D} : itOk "path" x p = true ↔ ∃ s, x = .str s ∧ rpB s = true := by
  show rpD x = true ↔ _
  cases x with
  | str s => exact ⟨fun h => ⟨s, rfl, h⟩, fun ⟨_, h, h2⟩ => by cases h; exact h2⟩
  | _ => exact ⟨(fun h => by cases h), (fun ⟨_, h, _⟩ => by cases h)⟩
theorem ok_exp {x : D} {p : Str} : itOk "exposed" x (.str p) = true ↔ ∃ es, x = tps es ∧ rPs 0 6 es ∧ ∀ e ∈ es, cov p e = true ∧ e ≠ p := by
  show (arpD 0 6 x && (!decide (("exposed" : Str) = "exposed") || x.its.all (expD p))) = true ↔ _
  rw [decide_eq_true rfl, Bool.not_true, Bool.false_or, Bool.and_eq_true, arp_iff]
  constructor
  · rintro ⟨⟨es, rfl, h1⟩, h2⟩
    exact ⟨es, rfl, h1, exp_iff.mp h2⟩
  · rintro ⟨es, rfl, h1, h2⟩
    exact ⟨⟨es, rfl, h1⟩, exp_iff.mpr h2⟩
theorem form_iff {w : Str} {its : List D} {ns : List Str} (hn : nmsOf w = some ns) (hl : its.length = ns.length) : firstBad ns its (.str w) = none ↔ ∃ r : Rl, r.wd = w ∧ r.items = its ∧ r.form := by
  have S : ∀ {x p : D}, itOk "sources" x p = true ↔ ∃ ps, x = tps ps ∧ rPs 1 6 ps := ok_ps 1 (by decide) (by decide) (by decide) (by decide) rfl
  have T : ∀ {x p : D}, itOk "targets" x p = true ↔ ∃ ps, x = tps ps ∧ rPs 1 6 ps := ok_ps 1 (by decide) (by decide) (by decide) (by decide) rfl
  have P : ∀ {x p : D}, itOk "paths" x p = true ↔ ∃ ps, x = tps ps ∧ rPs 2 6 ps := ok_ps 2 (by decide) (by decide) (by decide) (by decide) rfl
  have U : ∀ {x p : D}, itOk "users" x p = true ↔ ∃ ps, x = tps ps ∧ rPs 0 6 ps := ok_ps 0 (by decide) (by decide) (by decide) (by decide) rfl
  rcases nms_cases hn with ⟨rfl, rfl⟩ | ⟨rfl, rfl⟩ | ⟨rfl, rfl⟩ | ⟨rfl, rfl⟩ | ⟨rfl, rfl⟩ | ⟨rfl, rfl⟩ | ⟨rfl, rfl⟩
  · match its, hl with
    | [a, b, c], _ =>
      rw [fb_cons, fb_cons, fb_cons, S, T, ok_how]
      constructor
      · rintro ⟨⟨ss, rfl, h1⟩, ⟨ts, rfl, h2⟩, ⟨ch, rfl⟩, _⟩
        exact ⟨.forbid ss ts ch, rfl, rfl, h1, h2⟩
      · rintro ⟨r, hw, hi, hf⟩
        cases r <;> first | (exact absurd hw (by simp only [Rl.wd]; decide)) | skip
        cases hi
        exact ⟨⟨_, rfl, hf.1⟩, ⟨_, rfl, hf.2⟩, ⟨_, rfl⟩, rfl⟩
  · match its, hl with
    | [a, b], _ =>
      rw [fb_cons, fb_cons, ok_rows, ok_how]
      constructor
      · rintro ⟨⟨rows, rfl, h1⟩, ⟨ch, rfl⟩, _⟩
        exact ⟨.layers rows ch, rfl, rfl, h1⟩
      · rintro ⟨r, hw, hi, hf⟩
        cases r <;> first | (exact absurd hw (by simp only [Rl.wd]; decide)) | skip
        cases hi
        exact ⟨⟨_, rfl, hf⟩, ⟨_, rfl⟩, rfl⟩
  · match its, hl with
    | [a], _ =>
      rw [fb_cons, ok_rows]
      constructor
      · rintro ⟨⟨rows, rfl, h1⟩, _⟩
        exact ⟨.stairs rows, rfl, rfl, h1⟩
      · rintro ⟨r, hw, hi, hf⟩
        cases r <;> first | (exact absurd hw (by simp only [Rl.wd]; decide)) | skip
        cases hi
        exact ⟨⟨_, rfl, hf⟩, rfl⟩
  · match its, hl with
    | [a, b], _ =>
      rw [fb_cons, fb_cons, P, ok_how]
      constructor
      · rintro ⟨⟨ps, rfl, h1⟩, ⟨ch, rfl⟩, _⟩
        exact ⟨.apart ps ch, rfl, rfl, h1⟩
      · rintro ⟨r, hw, hi, hf⟩
        cases r <;> first | (exact absurd hw (by simp only [Rl.wd]; decide)) | skip
        cases hi
        exact ⟨⟨_, rfl, hf⟩, ⟨_, rfl⟩, rfl⟩
  · match its, hl with
    | [a, b], _ =>
      rw [fb_cons, fb_cons, T, U]
      constructor
      · rintro ⟨⟨ts, rfl, h1⟩, ⟨us, rfl, h2⟩, _⟩
        exact ⟨.only ts us, rfl, rfl, h1, h2⟩
      · rintro ⟨r, hw, hi, hf⟩
        cases r <;> first | (exact absurd hw (by simp only [Rl.wd]; decide)) | skip
        cases hi
        exact ⟨⟨_, rfl, hf.1⟩, ⟨_, rfl, hf.2⟩, rfl⟩
  · match its, hl with
    | [a, b], _ =>
      rw [fb_cons, fb_cons, ok_path]
      constructor
      · rintro ⟨⟨p, rfl, h1⟩, h2, _⟩
        obtain ⟨es, rfl, h3, h4⟩ := ok_exp.mp h2
        exact ⟨.face p es, rfl, rfl, h1, h3, h4⟩
      · rintro ⟨r, hw, hi, hf⟩
        cases r <;> first | (exact absurd hw (by simp only [Rl.wd]; decide)) | skip
        cases hi
        exact ⟨⟨_, rfl, hf.1⟩, ok_exp.mpr ⟨_, rfl, hf.2.1, hf.2.2⟩, rfl⟩
  · match its, hl with
    | [a], _ =>
      rw [fb_cons, P]
      constructor
      · rintro ⟨⟨ps, rfl, h1⟩, _⟩
        exact ⟨.noring ps, rfl, rfl, h1⟩
      · rintro ⟨r, hw, hi, hf⟩
        cases r <;> first | (exact absurd hw (by simp only [Rl.wd]; decide)) | skip
        cases hi
        exact ⟨⟨_, rfl, hf⟩, rfl⟩
theorem ruleErr_ok {r : Rl} (h : r.form) (ho : ovlL r.par = false) : ruleErr r.d = .none := by
  have hn : ∃ ns, nmsOf r.wd = some ns ∧ r.items.length = ns.length := by
    cases r <;> exact ⟨_, rfl, rfl⟩
  obtain ⟨ns, hn, hl⟩ := hn
  have hf := (form_iff hn hl).mpr ⟨r, rfl, rfl, h⟩
  show (match nmsOf r.wd with | some ns => if r.items.length = ns.length then (match firstBad ns r.items (.str r.wd) with | some n => D.str n | none => if ovlL (parD r.wd r.items) = true then D.str "overlap" else D.none) else D.str "rule" | none => D.str "rule") = _
  rw [hn]
  show (if r.items.length = ns.length then (match firstBad ns r.items (.str r.wd) with | some n => D.str n | none => if ovlL (parD r.wd r.items) = true then D.str "overlap" else D.none) else D.str "rule") = _
  rw [if_pos hl, hf, par_eq]
  show (if ovlL r.par = true then D.str "overlap" else .none) = _
  rw [ho]
  rfl
/-! parallel_paths -/
abbrev s_parallel_paths : Stmt := topS 23
theorem sc_parallel_paths : FnScope ["rule", "row", "path"] ["rule"] (defScope s_parallel_paths) := ⟨rfl, rfl, rfl, by decide +kernel, rfl, by decide +kernel, by decide +kernel⟩
/-- [y for x in xs if b(x) for y in x], rows of texts -/
theorem lcRows (b : List Str → Bool) {g : Option Dk} {t : TgF} {c : DTT} {i1 : DTA} {t1 : TgF} {e : DT} {vs1 : List Nat} {r : Sg} {Q : List D → Nat → Prop} (f : Nat) : ∀ (xs : List (List Str)) (acc : List Str), acc.length + xs.flatten.length ≤ 100000 →
    (∀ x ∈ xs, ∃ l, t (tps x) = some l ∧ (∀ (f : Nat) (Q : Bool → Nat → Prop), Q (b x) f → c g (setsR r l) f Q) ∧ (∀ (f : Nat) (Q : List D → Nat → Prop), Q (x.map D.str) f → i1 g (setsR r l) f Q) ∧
      ∀ y ∈ x, ∃ l1, t1 (.str y) = some l1 ∧ ∀ (f : Nat) (Q : QD), Q (.str y) f → e g (setsR (wipeR (setsR r l) vs1) l1) f Q) →
    Q ((acc ++ (xs.filter b).flatten).map D.str) f → dLc2Go g t c i1 t1 dYes e vs1 r (xs.map tps) (acc.map D.str) f Q
  | [], acc, _, _, q => by rw [List.filter_nil, List.flatten_nil, List.append_nil] at q; exact q
  | x :: xs, acc, hl, h, q => by
    obtain ⟨l, h1, h2, h3, h4⟩ := h x (by simp)
    rw [List.flatten_cons, List.length_append] at hl
    simp only [List.map_cons, dLc2Go, h1]
    refine h2 f _ ?_
    cases hb : b x with
    | false =>
      rw [if_neg Bool.false_ne_true]
      rw [List.filter_cons_of_neg (by rw [hb]; exact Bool.false_ne_true)] at q
      exact lcRows b f xs acc (by omega) (fun x hx => h x (by simp [hx])) q
    | true =>
      rw [if_pos rfl]
      refine h3 f _ ⟨by rw [List.length_map, List.length_map]; exact L1 (by omega), ?_⟩
      rw [List.filter_cons_of_pos hb, List.flatten_cons, ← List.append_assoc] at q
      refine lcT D.str D.str (fun _ => true) id x (acc.map D.str) f (fun y hy => ?_) ?_
      · obtain ⟨l1, q1, q2⟩ := h4 y hy
        exact ⟨l1, q1, fun f Q q => q, fun _ f Q q => q2 f Q q⟩
      · rw [List.filter_eq_self.mpr (fun _ _ => rfl), List.map_id, ← List.map_append]
        exact lcRows b f xs (acc ++ x) (by rw [List.length_append]; omega) (fun x hx => h x (by simp [hx])) q
def Sp_parallel_paths : DSp := fun _ ds f Q => ∃ r : Rl, ds = [r.d] ∧ r.form ∧ Q (tps r.par) f
set_option maxHeartbeats 2000000 in
theorem ok_parallel_paths (d : Df K mg "parallel_paths" s_parallel_paths) (m_tuple : mg "tuple" = none) : Cal P w K mg base 1 "parallel_paths" ["rule"] Sp_parallel_paths := by
  obtain ⟨f, fd, F, m⟩ := d
  refine ⟨f, fd, dfn (k := 0) (S := Sp_parallel_paths) F sc_parallel_paths ?len (fun cdv A outer s H E hr => (dss_cons (ds_if (dp_in hr (de_ix (de_v 0) de_int) (de_tup (da_cons de_str (da_cons de_str da_nil)))) (dss_one (ds_ret (de_callTy call_tuple_of sc_tuple (by rfl) m_tuple (by decide +kernel) (da_cons (dl_lc2 (own := [("row", 1), ("path", 2)]) (vs1 := [2]) rfl sc_parallel_paths.nd (di_seq (de_ix (de_v 0) de_int)) (blkOk_by (own := [("row", 1), ("path", 2)]) (N := ["rule", "row", "path"]) (sc := defScope s_parallel_paths) (by decide +kernel)) (fun _ _ _ _ _ => dg_name (i := 1) sc_parallel_paths.nd) (fun _ _ _ _ _ => dts_nil) (fun _ _ _ _ _ => (di_seq (de_v 1))) (fun _ _ _ _ _ => dg_name (i := 2) sc_parallel_paths.nd) (fun _ _ _ _ _ => dts_nil) (fun _ _ _ _ _ => (de_v 2))).e da_nil)))) dss_nil)
      (dss_cons (ds_if (dp_in hr (de_ix (de_v 0) de_int) (de_tup (da_cons de_str (da_cons de_str da_nil)))) (dss_one (ds_ret (de_add (de_ix (de_v 0) de_int) (de_ix (de_v 0) de_int)))) dss_nil)
      (dss_one (ds_ret (de_ifExp (dp_eq hr.units (de_ix (de_v 0) de_int) de_str) (de_ix (de_v 0) de_int) (de_ix (de_v 0) de_int))))))) ?h, F.kp, F.binds fun _ _ _ _ _ _ us hl => match us, hl with | [_], _ => rfl, m⟩
  case len =>
    intro g ds n Q h; obtain ⟨_, rfl, _⟩ := h; rfl
  case h =>
    intro g ds n Q h
    obtain ⟨r, rfl, hf, q⟩ := h
    have aw : asc r.wd := by cases r <;> (simp only [Rl.wd]; decide +kernel)
    refine ⟨_, atI0, show 2 ≤ lim by decide, oIn_strs (l := ["layers", "stairs"]) (by decide +kernel) aw ?_⟩
    have R : ∀ (rows : List (List Str)) (w : Str) (rest : List D), rRows rows → Q (tps rows.flatten) n → sRet
                    (dCB oTuple
                      (dCons
                        (dOfL
                          (dLc2 (dSeq' (dOp oIx (dVar 0) (dC (D.int 1)))) (tgN 1) dYes (dSeq' (dVar 1)) (tgN 2) dYes
                            (dVar 2) [1, 2] [2]))
                        dNil)) g [.sh (.tup (.str w :: .tup (rows.map tps) :: rest)), .no, .no] n { nx := fun x n => Q D.none n, rt := Q } := fun rows w rest hr q => by
      have fl := flat_mem hr
      refine ⟨.tup (rows.map tps), atI_nat (j := 1) rfl, ?_⟩
      refine lcRows (fun _ => true) n rows [] (by have := fl.2; show 0 + _ ≤ _; omega) (fun x hx => ⟨_, rfl, fun f Q q => q, fun f Q q => q, fun y hy => ⟨_, rfl, fun f Q q => q⟩⟩) ?_
      rw [List.filter_eq_self.mpr (fun _ _ => rfl), List.nil_append]
      exact q
    have O : ∀ (w : Str) (ss ts : List Str) (rest : List D), ss.length + ts.length ≤ 100 → Q (tps (ss ++ ts)) n → sRet (dOp oAdd (dOp oIx (dVar 0) (dC (D.int 1))) (dOp oIx (dVar 0) (dC (D.int 2)))) g [.sh (.tup (.str w :: tps ss :: tps ts :: rest)), .no, .no] n { nx := fun x n => Q D.none n, rt := Q } := fun w ss ts rest hl q => by
      refine ⟨tps ss, atI_nat (j := 1) rfl, tps ts, atI_nat (j := 2) rfl, by rw [List.length_map, List.length_map]; exact L1 (by omega), ?_⟩
      rw [← List.map_append]
      exact q
    cases r with
    | layers rows ch => exact iteT (R rows _ _ hf q)
    | stairs rows => exact iteT (R rows _ _ hf q)
    | forbid ss ts ch => exact iteF ⟨_, atI0, show 2 ≤ lim by decide, oIn_strs (l := ["forbid", "only"]) (by decide +kernel) aw (iteT (O _ ss ts _ (by have := hf.1.2.1; have := hf.2.2.1; omega) q))⟩
    | only ss ts => exact iteF ⟨_, atI0, show 2 ≤ lim by decide, oIn_strs (l := ["forbid", "only"]) (by decide +kernel) aw (iteT (O _ ss ts _ (by have := hf.1.2.1; have := hf.2.2.1; omega) q))⟩
    | apart ps ch =>
      refine iteF ⟨_, atI0, show 2 ≤ lim by decide, oIn_strs (l := ["forbid", "only"]) (by decide +kernel) aw (iteF ⟨_, atI0, ?_⟩)⟩
      show (dOp oIx (dVar 0) (dC (D.int 1))) g [.sh (Rl.apart ps ch).d, .no, .no] n Q
      exact ⟨_, atI_nat (j := 1) rfl, q⟩
    | face p es =>
      refine iteF ⟨_, atI0, show 2 ≤ lim by decide, oIn_strs (l := ["forbid", "only"]) (by decide +kernel) aw (iteF ⟨_, atI0, ?_⟩)⟩
      show (dOp oIx (dVar 0) (dC (D.int 2))) g [.sh (Rl.face p es).d, .no, .no] n Q
      exact ⟨_, atI_nat (j := 2) rfl, q⟩
    | noring ps =>
      refine iteF ⟨_, atI0, show 2 ≤ lim by decide, oIn_strs (l := ["forbid", "only"]) (by decide +kernel) aw (iteF ⟨_, atI0, ?_⟩)⟩
      show (dOp oIx (dVar 0) (dC (D.int 1))) g [.sh (Rl.noring ps).d, .no, .no] n Q
      exact ⟨_, atI_nat (j := 1) rfl, q⟩
/-! rule_error -/
abbrev s_rule_error : Stmt := topS 26
theorem sc_rule_error : FnScope ["value", "names", "index"] ["value"] (defScope s_rule_error) := ⟨rfl, rfl, rfl, by decide +kernel, rfl, by decide +kernel, by decide +kernel⟩
theorem tbl_nms {w : Str} {d : D} (h : tbl_ITEMS.lookup w = some d) : ∃ ns : List Str, d = tps ns ∧ nmsOf w = some ns ∧ (∀ n ∈ ns, n ∈ itNames) ∧ ns.length ≤ 3 ∧ ∀ i, ns[i]? = some ("exposed" : Str) → ∃ j, i = j + 1 ∧ ns[j]? = some ("path" : Str) := by
  have hm : (w, d) ∈ tbl_ITEMS := by
    generalize tbl_ITEMS = tb at h
    induction tb with
    | nil => cases h
    | cons p tb ih =>
      rw [List.lookup_cons] at h
      split at h
      · next e =>
        cases h
        rw [eq_of_beq e]
        exact List.mem_cons_self ..
      · exact List.mem_cons_of_mem _ (ih h)
  have ex : ∃ ns : List Str, d = tps ns := by
    have all : ∀ q ∈ tbl_ITEMS, ∃ ns : List Str, q.2 = tps ns := by
      unfold tbl_ITEMS
      simp only [List.mem_cons, List.not_mem_nil, or_false]
      rintro q (rfl | rfl | rfl | rfl | rfl | rfl | rfl) <;> exact ⟨_, rfl⟩
    exact all _ hm
  obtain ⟨ns, rfl⟩ := ex
  have hn : nmsOf w = some ns := by
    unfold nmsOf
    rw [h]
    exact congrArg some (txt_strs ns)
  refine ⟨ns, rfl, hn, ?_⟩
  rcases nms_cases hn with ⟨_, rfl⟩ | ⟨_, rfl⟩ | ⟨_, rfl⟩ | ⟨_, rfl⟩ | ⟨_, rfl⟩ | ⟨_, rfl⟩ | ⟨_, rfl⟩
  all_goals
    refine ⟨by decide +kernel, by decide, fun i hi => ?_⟩
    have hlt := (List.getElem?_eq_some_iff.mp hi).1
    simp only [List.length_cons, List.length_nil] at hlt
    revert hi
    first
    | (obtain rfl | rfl | rfl : i = 0 ∨ i = 1 ∨ i = 2 := by omega) <;> first | exact fun hi => absurd hi (by decide +kernel) | exact fun _ => ⟨_, rfl, rfl⟩
    | (obtain rfl | rfl : i = 0 ∨ i = 1 := by omega) <;> first | exact fun hi => absurd hi (by decide +kernel) | exact fun _ => ⟨_, rfl, rfl⟩
    | (obtain rfl : i = 0 := by omega) <;> first | exact fun hi => absurd hi (by decide +kernel) | exact fun _ => ⟨_, rfl, rfl⟩
theorem fb_step {ns : List Str} {xs : List D} {p : D} {n : Str} {x : D} (h1 : ns[0]? = some n) (h2 : xs[0]? = some x) : firstBad ns xs p = if itOk n x p = true then firstBad (ns.drop 1) (xs.drop 1) x else some n := by
  cases ns with
  | nil => cases h1
  | cons a ns =>
    cases xs with
    | nil => cases h2
    | cons b xs => cases h1; cases h2; rfl
def Sp_rule_error : DSp := fun _ ds f Q => ∃ x : D, ds = [x] ∧ x.good = true ∧ Q (ruleErr x) f
set_option maxHeartbeats 2000000 in
theorem ok_rule_error (d : Df K mg "rule_error" s_rule_error) (m_range : mg "range" = none) (m_len : mg "len" = none) (m_str : mg "str" = none) (m_isinstance : mg "isinstance" = none) (m_tuple : mg "tuple" = none) (gd_ITEMS : GD K w mg "ITEMS" tbl_ITEMS) (c_any_overlap : Cal P w K mg base 3 "any_overlap" ["paths"] Sp_any_overlap) (c_parallel_paths : Cal P w K mg base 1 "parallel_paths" ["rule"] Sp_parallel_paths) (c_item_holds : Cal P w K mg base 6 "item_holds" ["name", "item", "path"] Sp_item_holds) : Cal P w K mg base 7 "rule_error" ["value"] Sp_rule_error := by
  obtain ⟨f, fd, F, m⟩ := d
  refine ⟨f, fd, dfn (k := 6) (S := Sp_rule_error) F sc_rule_error ?len (fun cdv A outer s H E hr => (dss_cons (ds_if (DW.p (dw_or (dp_not (dp_val (de_isi m_isinstance (da_cons (de_v 0) (da_cons (de_bltn (v := .ty "tuple") (u := .type "tuple") (by rfl) m_tuple (by decide +kernel) rfl) da_nil))))) (dw_or (dp_eq hr.units (de_len m_len (da_cons (de_v 0) da_nil)) de_int) (dw_or (dp_not (dp_val (de_isi m_isinstance (da_cons (de_ix (de_v 0) de_int) (da_cons (de_bltn (v := .ty "str") (u := .type "str") (by rfl) m_str (by decide +kernel) rfl) da_nil))))) (dw_or1 (dp_gdNotIn gd_ITEMS (de_ix (de_v 0) de_int))))))) (dss_one (ds_ret de_str)) dss_nil)
      (dss_cons (ds_set false (i := 1) sc_rule_error.nd (de_gd gd_ITEMS (de_ix (de_v 0) de_int)))
      (dss_cons (ds_if (dp_ne hr.units (de_len m_len (da_cons (de_v 0) da_nil)) (de_add (de_len m_len (da_cons (de_v 1) da_nil)) de_int)) (dss_one (ds_ret de_str)) dss_nil)
      (dss_cons (ds_for [] PassesOwn.never (di_range1 m_range (da_cons (de_len m_len (da_cons (de_v 1) da_nil)) da_nil)) (dg_name (i := 2) sc_rule_error.nd) (dss_one (ds_if (dp_not (dp_val (de_callC c_item_holds (hr.mono (by decide)) (da_cons (de_ix (de_v 1) (de_v 2)) (da_cons (de_ix (de_v 0) (de_add (de_v 2) de_int)) (da_cons (de_ix (de_v 0) (de_v 2)) da_nil)))))) (dss_one (ds_ret (de_ix (de_v 1) (de_v 2)))) dss_nil)))
      (dss_one (ds_ret (de_ifExp (dp_val (de_callC c_any_overlap (hr.mono (by decide)) (da_cons (de_callC c_parallel_paths (hr.mono (by decide)) (da_cons (de_v 0) da_nil)) da_nil))) de_str de_non)))))))) ?h, F.kp, F.binds fun _ _ _ _ _ _ us hl => match us, hl with | [_], _ => rfl, m⟩
  case len =>
    intro g ds n Q h; obtain ⟨_, rfl, _⟩ := h; rfl
  case h =>
    intro g ds n Q h
    obtain ⟨x, rfl, hx, q⟩ := h
    cases x with
    | tup ys =>
      refine ⟨_, _, rfl, rfl, ?_⟩
      cases ys with
      | nil => exact q
      | cons y its =>
        have ne0 : decide (((y :: its).length : Int) = 0) = false := decide_eq_false (by rw [List.length_cons]; omega)
        show if decide (((y :: its).length : Int) = 0) = true then _ else _
        rw [ne0]
        refine iteF ⟨_, atI0, ?_⟩
        obtain ⟨t, h1, h2⟩ := good_isS (goodA_mem hx (List.mem_cons_self ..) : y.good = true)
        refine ⟨t, _, h1, h2, ?_⟩
        cases y with
        | str w =>
          refine ⟨_, atI0, ?_⟩
          show if (!(tbl_ITEMS.lookup w).isSome) = true then _ else _
          cases hw : tbl_ITEMS.lookup w with
          | none =>
            refine iteT ?_
            have e : ruleErr (.tup (.str w :: its)) = .str "rule" := by
              have : nmsOf w = none := by unfold nmsOf; rw [hw]
              show (match nmsOf w with | some ns => _ | none => D.str "rule") = _
              rw [this]
            rw [e] at q
            exact q
          | some d =>
            obtain ⟨ns, rfl, hn, hnn, hnl, hex⟩ := tbl_nms hw
            have lns : (ns.map D.str).length = ns.length := List.length_map _
            have q : Q (if its.length = ns.length then (match firstBad ns its (.str w) with | some n => .str n | none => if ovlL (parD w its) = true then .str "overlap" else .none) else .str "rule") n := by
              have e : ruleErr (.tup (.str w :: its)) = if its.length = ns.length then (match firstBad ns its (.str w) with | some n => .str n | none => if ovlL (parD w its) = true then .str "overlap" else .none) else .str "rule" := by
                show (match nmsOf w with | some ns => _ | none => D.str "rule") = _
                rw [hn]
                try rfl
              rw [e] at q
              exact q
            refine iteF ⟨_, atI0, tps ns, hw, ?_⟩
            show if (!decide (((D.str w :: its).length : Int) = ((ns.map D.str).length : Int) + 1)) = true then _ else _
            by_cases hl : its.length = ns.length
            · rw [if_pos hl] at q
              rw [decide_eq_true (by rw [List.length_cons, lns]; omega)]
              refine iteF ⟨by rw [lns]; omega, by rw [lns]; omega, ?_⟩
              have e0 : ((ns.map D.str).length : Int).toNat = ns.length := by omega
              rw [e0]
              simp only [List.set_cons_succ, List.set_cons_zero, setsR, startR, List.map_cons, List.map_nil, List.cons_append, List.nil_append, List.replicate_succ, List.replicate_zero, List.length_cons, List.length_nil, Nat.reduceAdd, Nat.reduceSub]
              refine dFor_range (fun i r f => ∃ a : Sl, r = [.sh (.tup (.str w :: its)), .sh (tps ns), a] ∧ n = f ∧ firstBad ns its (.str w) = firstBad (ns.drop i) (its.drop i) ((D.str w :: its).getD i .none) ∧ ∀ j n x, j < i → ns[j]? = some n → its[j]? = some x → ∃ p, itOk n x p = true) 0 _ _ _ ?_ ?_ ⟨_, rfl, rfl, rfl, fun j n x h => absurd h (Nat.not_lt_zero _)⟩
              · rintro i r f N hi ⟨a, rfl, rfl, hfb, hall⟩ hN
                have hi' : i < its.length := by omega
                have g1 : atI (ns.map D.str) (0 + (i : Int)) = some (.str ns[i]) := by
                  rw [Int.zero_add]
                  exact atI_nat (by rw [List.getElem?_map, List.getElem?_eq_getElem hi]; rfl)
                have g2 : atI (D.str w :: its) (0 + (i : Int) + 1) = some its[i] := by
                  rw [show (0 + (i : Int) + 1) = ((i + 1 : Nat) : Int) by omega]
                  exact atI_nat (by rw [List.getElem?_cons_succ, List.getElem?_eq_getElem hi'])
                have hip : i < (D.str w :: its).length := by rw [List.length_cons]; omega
                have g3 : atI (D.str w :: its) (0 + (i : Int)) = some (D.str w :: its)[i] := by
                  rw [Int.zero_add]
                  exact atI_nat (List.getElem?_eq_getElem hip)
                have ed : (D.str w :: its).getD i .none = (D.str w :: its)[i] := by rw [List.getD_eq_getElem?_getD, List.getElem?_eq_getElem hip]; rfl
                rw [ed] at hfb
                refine ⟨_, rfl, _, g1, _, g2, _, g3, ns[i], its[i], (D.str w :: its)[i], rfl, hnn _ (List.getElem_mem hi), goodA_mem hx (List.mem_cons_of_mem _ (List.getElem_mem hi')), goodA_mem hx (List.getElem_mem hip), fun he => ?_, ?_⟩
                · obtain ⟨j, rfl, hj⟩ := hex i (by rw [List.getElem?_eq_getElem hi, he])
                  obtain ⟨p, hp⟩ := hall j "path" its[j] (by omega) hj (List.getElem?_eq_getElem (by omega))
                  obtain ⟨s, hs, _⟩ := ok_path.mp hp
                  exact ⟨s, hs⟩
                show if (!itOk ns[i] its[i] (D.str w :: its)[i]) = true then _ else _
                have hst := fb_step (p := (D.str w :: its)[i]) (ns := ns.drop i) (xs := its.drop i) (n := ns[i]) (x := its[i]) (by rw [List.getElem?_drop, Nat.add_zero, List.getElem?_eq_getElem hi]) (by rw [List.getElem?_drop, Nat.add_zero, List.getElem?_eq_getElem hi'])
                rw [hst] at hfb
                cases hk : itOk ns[i] its[i] (D.str w :: its)[i] with
                | false =>
                  rw [hk, if_neg Bool.false_ne_true] at hfb
                  rw [hfb] at q
                  exact iteT ⟨_, g1, q⟩
                | true =>
                  rw [hk, if_pos rfl, List.drop_drop, List.drop_drop] at hfb
                  refine iteF (hN _ _ ⟨_, rfl, rfl, ?_, fun j n x hj h1 h2 => ?_⟩)
                  · rw [hfb, List.getD_eq_getElem?_getD, List.getElem?_cons_succ, List.getElem?_eq_getElem hi']
                    rfl
                  · rcases Nat.lt_or_eq_of_le (Nat.le_of_lt_succ hj) with h | h
                    · exact hall j n x h h1 h2
                    · subst h
                      rw [List.getElem?_eq_getElem hi] at h1
                      rw [List.getElem?_eq_getElem hi'] at h2
                      cases h1
                      cases h2
                      exact ⟨_, hk⟩
              · rintro r f ⟨a, rfl, rfl, hfb, _⟩
                rw [List.drop_length] at hfb
                have hfn : firstBad ns its (.str w) = none := hfb
                rw [hfn] at q
                obtain ⟨r, rfl, rfl, hf⟩ := (form_iff hn hl).mp hfn
                rw [par_eq] at q
                refine ⟨r, rfl, hf, r.par, rfl, Rl.par_short hf, ?_⟩
                show if ovlL r.par = true then _ else _
                have q : Q (if ovlL r.par = true then .str "overlap" else .none) n := q
                cases ho : ovlL r.par with
                | true => rw [ho] at q; exact iteT q
                | false => rw [ho] at q; exact iteF q
            · rw [if_neg hl] at q
              rw [decide_eq_false (by rw [List.length_cons, lns]; omega)]
              exact iteT q
        | _ => exact q
    | obj _ _ _ => cases hx
    | exn _ _ _ => cases hx
    | any _ => cases hx
    | _ => exact ⟨_, _, rfl, rfl, q⟩
theorem ruleErr_inv {x : D} (h : ruleErr x = .none) : ∃ r : Rl, x = r.d ∧ r.form ∧ ovlL r.par = false := by
  unfold ruleErr at h
  split at h
  · next w its =>
    split at h
    · next ns hn =>
      split at h
      · next hl =>
        split at h
        · cases h
        · next hf =>
          obtain ⟨r, rfl, rfl, hr⟩ := (form_iff hn hl).mp hf
          rw [par_eq] at h
          refine ⟨r, rfl, hr, ?_⟩
          cases e : ovlL r.par with
          | false => rfl
          | true => rw [e] at h; cases h
      · cases h
    · cases h
  · cases h
theorem ruleErr_two (x : D) : ruleErr x = .none ∨ ∃ w, ruleErr x = .str w := by
  unfold ruleErr
  split
  · split
    · split
      · split
        · exact .inr ⟨_, rfl⟩
        · split
          · exact .inr ⟨_, rfl⟩
          · exact .inl rfl
      · exact .inr ⟨_, rfl⟩
    · exact .inr ⟨_, rfl⟩
  · exact .inr ⟨_, rfl⟩
/-- the first reason against a row of rules -/
def firstB : List D → Nat → List D → D
  | [], _, _ => .none
  | r :: rs, i, prev => match ruleErr r with
    | .none => if (pyA prev).any (fun z => PyData.eqv z r.py) = true then .tup [.int (i : Int), .str "again"] else firstB rs (i + 1) (prev ++ [r])
    | e => .tup [.int (i : Int), e]
def bookErr : D → D
  | .tup rs => if rs.length ≤ 8 then firstB rs 0 [] else .tup [.none, .str "rules"]
  | _ => .tup [.none, .str "rules"]
theorem firstB_str {r : D} {rs : List D} {i : Nat} {prev : List D} {w : Str} (h : ruleErr r = .str w) : firstB (r :: rs) i prev = .tup [.int (i : Int), .str w] := by
  show (match ruleErr r with | .none => _ | e => _) = _
  rw [h]
theorem firstB_none {r : D} {rs : List D} {i : Nat} {prev : List D} (h : ruleErr r = .none) : firstB (r :: rs) i prev = if (pyA prev).any (fun z => PyData.eqv z r.py) = true then .tup [.int (i : Int), .str "again"] else firstB rs (i + 1) (prev ++ [r]) := by
  show (match ruleErr r with | .none => _ | e => _) = _
  rw [h]
theorem err_ts {x : D} (h : ruleErr x = .none) : x.tsB = true ∧ Shp 3 x := by
  obtain ⟨r, rfl, hf, _⟩ := ruleErr_inv h
  exact ⟨Rl.ts hf, Rl.shp hf⟩
theorem firstB_two : ∀ (rs : List D) (i : Nat) (prev : List D), firstB rs i prev = .none ∨ ∃ (j : Nat) (w : Str), firstB rs i prev = .tup [.int (j : Int), .str w]
  | [], _, _ => .inl rfl
  | r :: rs, i, prev => by
    rcases ruleErr_two r with h | ⟨w, h⟩
    · rw [firstB_none h]
      split
      · exact .inr ⟨_, _, rfl⟩
      · exact firstB_two rs _ _
    · exact .inr ⟨_, _, firstB_str h⟩
theorem bookErr_two (x : D) : bookErr x = .none ∨ ∃ (a : D) (w : Str), bookErr x = .tup [a, .str w] ∧ (a = .none ∨ ∃ i : Nat, a = .int i) := by
  cases x with
  | tup rs =>
    show (if rs.length ≤ 8 then firstB rs 0 [] else .tup [.none, .str "rules"]) = .none ∨ _
    by_cases h : rs.length ≤ 8
    · rw [if_pos h]
      rcases firstB_two rs 0 [] with h2 | ⟨j, w, h2⟩
      · exact .inl h2
      · exact .inr ⟨_, w, by show (if rs.length ≤ 8 then firstB rs 0 [] else _) = _; rw [if_pos h]; exact h2, .inr ⟨j, rfl⟩⟩
    · exact .inr ⟨.none, _, if_neg h, .inl rfl⟩
  | _ => exact .inr ⟨.none, _, rfl, .inl rfl⟩
theorem firstB_inv : ∀ (rs : List D) (i : Nat) (prev : List D), (∀ y ∈ prev, ruleErr y = .none) → firstB rs i prev = .none → (∀ y ∈ rs, ruleErr y = .none) ∧ rs.Nodup ∧ ∀ y ∈ rs, y ∉ prev
  | [], _, _, _, _ => ⟨fun _ h => (nomatch h), List.nodup_nil, fun _ h => (nomatch h)⟩
  | r :: rs, i, prev, hp, h => by
    rcases ruleErr_two r with hr | ⟨w, hr⟩
    · rw [firstB_none hr] at h
      split at h
      · cases h
      · next hn =>
        obtain ⟨h1, h2, h3⟩ := firstB_inv rs (i + 1) (prev ++ [r]) (fun y hy => (List.mem_append.mp hy).elim (hp y) fun e => by rw [List.mem_singleton.mp e]; exact hr) h
        have hrp : r ∉ prev := fun e => hn ((any_rd (fun y hy => (err_ts (hp y hy)).1) (err_ts hr).1).mpr e)
        refine ⟨fun y hy => (List.mem_cons.mp hy).elim (fun e => e ▸ hr) (h1 y), List.nodup_cons.mpr ⟨fun e => h3 r e (by simp), h2⟩, fun y hy => ?_⟩
        rcases List.mem_cons.mp hy with rfl | hy
        · exact hrp
        · exact fun e => h3 y hy (List.mem_append_left _ e)
    · rw [firstB_str hr] at h; cases h
theorem rls_of : ∀ {xs : List D}, (∀ y ∈ xs, ruleErr y = .none) → ∃ rs : List Rl, xs = rs.map Rl.d ∧ ∀ r ∈ rs, r.form ∧ ovlL r.par = false
  | [], _ => ⟨[], rfl, fun _ h => (nomatch h)⟩
  | x :: xs, h => by
    obtain ⟨r, e, hr⟩ := ruleErr_inv (h x (by simp))
    obtain ⟨rs, e2, hrs⟩ := rls_of (xs := xs) fun y hy => h y (by simp [hy])
    exact ⟨r :: rs, by rw [e, e2]; rfl, fun q hq => (List.mem_cons.mp hq).elim (fun e => e ▸ hr) (hrs q)⟩
theorem bookErr_inv {x : D} (h : bookErr x = .none) : ∃ rs : List Rl, x = rlsT rs ∧ Rs 8 rs := by
  cases x with
  | tup xs =>
    have h : (if xs.length ≤ 8 then firstB xs 0 [] else .tup [.none, .str "rules"]) = D.none := h
    by_cases hl : xs.length ≤ 8
    · rw [if_pos hl] at h
      obtain ⟨h1, h2, _⟩ := firstB_inv xs 0 [] (fun _ h => (nomatch h)) h
      obtain ⟨rs, rfl, h3⟩ := rls_of h1
      exact ⟨rs, rfl, h3, h2, by rwa [List.length_map] at hl⟩
    · rw [if_neg hl] at h; cases h
  | _ => cases h
theorem firstB_ok : ∀ (xs : List D) (i : Nat) (prev : List D), (∀ y ∈ xs, ruleErr y = .none) → (∀ y ∈ prev, ruleErr y = .none) → xs.Nodup → (∀ y ∈ xs, y ∉ prev) → firstB xs i prev = .none
  | [], _, _, _, _, _, _ => rfl
  | x :: xs, i, prev, h1, h2, h3, h4 => by
    have hx := h1 x (by simp)
    obtain ⟨n1, n2⟩ := List.nodup_cons.mp h3
    have hn : ((pyA prev).any fun z => PyData.eqv z x.py) = false := by
      cases e : (pyA prev).any fun z => PyData.eqv z x.py with
      | false => rfl
      | true => exact absurd ((any_rd (fun y hy => (err_ts (h2 y hy)).1) (err_ts hx).1).mp e) (h4 x (by simp))
    rw [firstB_none hx, if_neg (by rw [hn]; exact Bool.false_ne_true)]
    refine firstB_ok xs (i + 1) (prev ++ [x]) (fun y hy => h1 y (by simp [hy])) (fun y hy => (List.mem_append.mp hy).elim (h2 y) fun e => by rw [List.mem_singleton.mp e]; exact hx) n2 fun y hy e => ?_
    rcases List.mem_append.mp e with e | e
    · exact h4 y (by simp [hy]) e
    · rw [List.mem_singleton.mp e] at hy; exact n1 hy
theorem bookErr_ok {rs : List Rl} (h : Rs 8 rs) : bookErr (rlsT rs) = .none := by
  show (if (rs.map Rl.d).length ≤ 8 then firstB (rs.map Rl.d) 0 [] else .tup [.none, .str "rules"]) = D.none
  rw [if_pos (by rw [List.length_map]; exact h.len)]
  refine firstB_ok _ 0 [] (fun y hy => ?_) (fun _ h => (nomatch h)) h.nd fun _ _ h => (nomatch h)
  obtain ⟨r, hr, rfl⟩ := List.mem_map.mp hy
  exact ruleErr_ok (h.ok r hr).1 (h.ok r hr).2
/-- whether a rule stands in a row -/
def memR (a : List Rl) (r : Rl) : Bool := (pyA (a.map Rl.d)).any fun z => PyData.eqv z r.d.py
theorem rls_ts {a : List Rl} (h : ∀ r ∈ a, r.form) : ∀ y ∈ a.map Rl.d, y.tsB = true := fun y hy => by
  obtain ⟨r, hr, rfl⟩ := List.mem_map.mp hy
  exact Rl.ts (h r hr)
theorem rls_shp {a : List Rl} (h : ∀ r ∈ a, r.form) : Shp 4 (rlsT a) := shp_tup fun y hy => by
  obtain ⟨r, hr, rfl⟩ := List.mem_map.mp hy
  exact Rl.shp (h r hr)
theorem rls_shpL {a : List Rl} (h : ∀ r ∈ a, r.form) : Shp 4 (.lst (a.map Rl.d)) := shp_lst fun y hy => by
  obtain ⟨r, hr, rfl⟩ := List.mem_map.mp hy
  exact Rl.shp (h r hr)
theorem memR_iff {a : List Rl} {r : Rl} (h : ∀ r ∈ a, r.form) (hr : r.form) : memR a r = true ↔ r.d ∈ a.map Rl.d := any_rd (rls_ts h) (Rl.ts hr)
theorem Rs.form {m : Nat} {a : List Rl} (h : Rs m a) : ∀ r ∈ a, r.form := fun r hr => (h.ok r hr).1
theorem Rs.sub {m : Nat} {a b : List Rl} (h : Rs m a) (s : b.Sublist a) : Rs m b := ⟨fun r hr => h.ok r (s.subset hr), h.nd.sublist (s.map _), Nat.le_trans s.length_le h.len⟩
theorem rls_good {a : List Rl} (h : ∀ r ∈ a, r.form) : (rlsT a).good = true := by
  have key : ∀ (l : List D), (∀ y ∈ l, y.good = true) → goodA l = true := by
    intro l
    induction l with
    | nil => exact fun _ => rfl
    | cons y l ih =>
      intro h
      show (y.good && goodA l) = true
      rw [h y (by simp), ih fun z hz => h z (by simp [hz])]; rfl
  refine key _ fun y hy => ?_
  obtain ⟨r, hr, rfl⟩ := List.mem_map.mp hy
  exact D.inn_good (by decide) _ ((TT.inn 3 _ (rule_TT (h r hr)).1) : r.d.inn 40 0 = true)
/-! rows_text -/
abbrev s_rows_text : Stmt := topS 60
theorem sc_rows_text : FnScope ["rows", "row"] ["rows"] (defScope s_rows_text) := ⟨rfl, rfl, rfl, by decide +kernel, rfl, by decide +kernel, by decide +kernel⟩
def rowsT2 (rows : List (List Str)) : Str := Txt.join " | " (rows.map fun r => Txt.join " " r)
def Sp_rows_text : DSp := fun _ ds f Q => ∃ rows : List (List Str), ds = [.tup (rows.map tps)] ∧ rows.length ≤ 5 ∧ (∀ r ∈ rows, r.length ≤ 6 ∧ ∀ w ∈ r, w.length ≤ 54) ∧ Q (.str (rowsT2 rows)) f
theorem joinS_len {ws : List Str} (h : ∀ w ∈ ws, w.length ≤ 54) : (Txt.join " " ws).length ≤ 55 * ws.length := by
  rw [← cd_len, cd_join_sp]
  have := jnx_len (c := 32) (B := 54) (l := ws.map cd) fun n hn => by
    obtain ⟨w, hw, rfl⟩ := List.mem_map.mp hn
    rw [cd_len]; exact h w hw
  rw [List.length_map] at this
  exact this
theorem jnx_app {c : Nat} : ∀ {a b : List (List Nat)}, a ≠ [] → b ≠ [] → jnx c (a ++ b) = jnx c a ++ c :: jnx c b
  | [], _, h, _ => absurd rfl h
  | [x], [], _, h => absurd rfl h
  | [x], y :: b, _, _ => rfl
  | x :: y :: a, b, _, hb => by
    have := jnx_app (c := c) (a := y :: a) (b := b) (by simp) hb
    show x ++ c :: jnx c ((y :: a) ++ b) = (x ++ c :: jnx c (y :: a)) ++ c :: jnx c b
    rw [this]; simp
theorem cdJ {a b : List Str} (ha : a ≠ []) (hb : b ≠ []) : cd (Txt.join " " (a ++ b)) = cd (Txt.join " " a) ++ 32 :: cd (Txt.join " " b) := by
  rw [cd_join_sp, cd_join_sp, cd_join_sp, List.map_append, jnx_app (by simpa using ha) (by simpa using hb)]
theorem cdJ1 (a : Str) : cd (Txt.join " " [a]) = cd a := by rw [cd_join_sp]; rfl
theorem cdJ2 (a b : Str) : cd (Txt.join " " [a, b]) = cd a ++ 32 :: cd b := by rw [cd_join_sp]; rfl
theorem rowsW_ne {rows : List (List Str)} (h : rows ≠ []) (h2 : ∀ r ∈ rows, r ≠ []) : rowsW rows ≠ [] := by
  match rows, h with
  | [r], _ => exact h2 r (by simp)
  | r :: s :: rest, _ => show r ++ Str.ofString "|" :: rowsW (s :: rest) ≠ []; simp
theorem rowsT_cd : ∀ {rows : List (List Str)}, (∀ r ∈ rows, r ≠ []) → cd (rowsT2 rows) = cd (Txt.join " " (rowsW rows)) := by
  have key : ∀ rows : List (List Str), (∀ r ∈ rows, r ≠ []) → TL.joinL [32, 124, 32] (rows.map fun r => cd (Txt.join " " r)) = cd (Txt.join " " (rowsW rows)) := by
    intro rows
    induction rows with
    | nil => intro _; decide +kernel
    | cons r rows ih =>
      intro h
      cases rows with
      | nil => rfl
      | cons s rows =>
        have h1 := ih fun x hx => h x (by simp [hx])
        have hr := h r (by simp)
        have hw : rowsW (s :: rows) ≠ [] := rowsW_ne (by simp) fun x hx => h x (by simp [hx])
        show cd (Txt.join " " r) ++ ([32, 124, 32] ++ TL.joinL [32, 124, 32] ((s :: rows).map fun r => cd (Txt.join " " r))) = cd (Txt.join " " (r ++ Str.ofString "|" :: rowsW (s :: rows)))
        rw [h1, cdJ hr (by simp), show Str.ofString "|" :: rowsW (s :: rows) = [Str.ofString "|"] ++ rowsW (s :: rows) from rfl, cdJ (by simp) hw, cdJ1, show cd (Str.ofString "|") = [124] from by decide +kernel]
        simp
  intro rows h
  unfold rowsT2
  rw [TL.join_eq]
  show TL.tl (Str.join " | " (rows.map fun r => Txt.join " " r)) = _
  rw [TL.tl_join, show TL.tl (Str.ofString " | ") = [32, 124, 32] from by decide +kernel, List.map_map]
  exact key rows h
set_option maxHeartbeats 2000000 in
theorem ok_rows_text (d : Df K mg "rows_text" s_rows_text) : Cal P w K mg base 1 "rows_text" ["rows"] Sp_rows_text := by
  obtain ⟨f, fd, F, m⟩ := d
  refine ⟨f, fd, dfn (k := 0) (S := Sp_rows_text) F sc_rows_text ?len (fun cdv A outer s H E hr => (dss_one (ds_ret (de_join de_str (dl_lc (own := [("row", 1)]) rfl sc_rows_text.nd (di_seq (de_v 0)) (blkOk_by (own := [("row", 1)]) (N := ["rows", "row"]) (sc := defScope s_rows_text) (by decide +kernel)) (fun _ _ _ _ _ => dg_name (i := 1) sc_rows_text.nd) (fun _ _ _ _ _ => dts_nil) (fun _ _ _ _ _ => (de_join de_str (de_v 1)))).e)))) ?h, F.kp, F.binds fun _ _ _ _ _ _ us hl => match us, hl with | [_], _ => rfl, m⟩
  case len =>
    intro g ds n Q h; obtain ⟨_, rfl, _⟩ := h; rfl
  case h =>
    intro g ds n Q h
    obtain ⟨rows, rfl, h1, h2, q⟩ := h
    refine ⟨trivial, by rw [List.length_map]; exact L1 (by omega), ?_⟩
    refine lcM tps D.str (fun r => Txt.join " " r) rows _ (fun r hr => ⟨_, rfl, fun f Q h => ?_⟩) ?_
    · obtain ⟨k1, k2⟩ := h2 r hr
      exact ⟨trivial, r, rfl, join_names _ (fun w hw => Nat.le_trans (k2 w hw) (by decide)) (by omega) _ (by decide +kernel), h⟩
    · refine ⟨rows.map fun r => Txt.join " " r, rfl, join_names _ (fun w hw => ?_) (by rw [List.length_map]; omega) _ (by decide +kernel), q⟩
      obtain ⟨r, hr, rfl⟩ := List.mem_map.mp hw
      obtain ⟨k1, k2⟩ := h2 r hr
      have := joinS_len k2
      have : 55 * r.length ≤ 55 * 6 := Nat.mul_le_mul_left _ k1
      omega
/-! rule_text -/
abbrev s_rule_text : Stmt := topS 61
theorem sc_rule_text : FnScope ["rule", "word", "head", "sign"] ["rule"] (defScope s_rule_text) := ⟨rfl, rfl, rfl, by decide +kernel, rfl, by decide +kernel, by decide +kernel⟩
def Sp_rule_text : DSp := fun _ ds f Q => ∃ r : Rl, ds = [r.d] ∧ r.form ∧ Q (.str (Txt.join " " (ruleW r))) f
def Yl (g : Option Dk) (r : Sg) (f : Nat) : List DT → List Str → Prop
  | [], [] => True
  | d :: ds, y :: ys => (y.length ≤ 2000 ∧ ∀ Q : QD, Q (.str y) f → d g r f Q) ∧ Yl g r f ds ys
  | _, _ => False
theorem dJs_all {g : Option Dk} {r : Sg} {f : Nat} : ∀ (ds : List DT) (ys : List Str) (acc : Str) {Q : Str → Nat → Prop}, Yl g r f ds ys → acc.length + 2000 * ys.length ≤ lim → Q (ys.foldl (fun a y => a ++ y) acc) f → dJs ds acc g r f Q
  | [], [], acc, Q, _, _, q => q
  | d :: ds, y :: ys, acc, Q, h, hl, q => by
    obtain ⟨⟨h1, h2⟩, h3⟩ := h
    rw [List.length_cons] at hl
    refine h2 _ ⟨by omega, ?_⟩
    exact dJs_all ds ys (acc ++ y) h3 (by rw [app_len]; omega) q
theorem ret_joined {g : Option Dk} {r : Sg} {f : Nat} {E : DEnds} {ds : List DT} (ys : List Str) (h : Yl g r f ds ys) (hl : ys.length ≤ 10) (q : E.rt (.str (ys.foldl (fun a y => a ++ y) Str.empty)) f) : sRet (dJoined ds) g r f E :=
  dJs_all ds ys Str.empty h (Nat.le_trans (show 0 + 2000 * ys.length ≤ 20000 by omega) (by decide)) q
theorem cd_e (a : Str) : cd (Str.empty ++ a) = cd a := by rw [cd_app]; rfl
set_option maxHeartbeats 2000000 in
theorem ok_rule_text (d : Df K mg "rule_text" s_rule_text) (c_rows_text : Cal P w K mg base 1 "rows_text" ["rows"] Sp_rows_text) : Cal P w K mg base 2 "rule_text" ["rule"] Sp_rule_text := by
  obtain ⟨f, fd, F, m⟩ := d
  refine ⟨f, fd, dfn (k := 1) (S := Sp_rule_text) F sc_rule_text ?len (fun cdv A outer s H E hr => (dss_cons (ds_set false (i := 1) sc_rule_text.nd (de_ix (de_v 0) de_int))
      (dss_cons (ds_if (dp_eq hr.units (de_v 1) de_str) (dss_one (ds_ret (de_joined (dj_cons de_str (dj_cons (de_fmt (de_ix (de_v 0) de_int)) (dj_cons de_str (dj_cons (de_fmt (de_joinS de_str (de_ix (de_v 0) de_int))) (dj_cons de_str (dj_cons (de_fmt (de_join de_str (de_ix (de_v 0) de_int))) dj_nil))))))))) dss_nil)
      (dss_cons (ds_if (dp_eq hr.units (de_v 1) de_str) (dss_one (ds_ret (de_joined (dj_cons de_str (dj_cons (de_fmt (de_ix (de_v 0) de_int)) (dj_cons de_str (dj_cons (de_fmt (de_callC c_rows_text (hr.mono (by decide)) (da_cons (de_ix (de_v 0) de_int) da_nil))) dj_nil))))))) dss_nil)
      (dss_cons (ds_if (dp_eq hr.units (de_v 1) de_str) (dss_one (ds_ret (de_joined (dj_cons de_str (dj_cons (de_fmt (de_callC c_rows_text (hr.mono (by decide)) (da_cons (de_ix (de_v 0) de_int) da_nil))) dj_nil))))) dss_nil)
      (dss_cons (ds_if (dp_eq hr.units (de_v 1) de_str) (dss_one (ds_ret (de_joined (dj_cons de_str (dj_cons (de_fmt (de_ix (de_v 0) de_int)) (dj_cons de_str (dj_cons (de_fmt (de_joinS de_str (de_ix (de_v 0) de_int))) dj_nil))))))) dss_nil)
      (dss_cons (ds_if (dp_eq hr.units (de_v 1) de_str) (dss_one (ds_ret (de_joined (dj_cons de_str (dj_cons (de_fmt (de_joinS de_str (de_ix (de_v 0) de_int))) dj_nil))))) dss_nil)
      (dss_cons (ds_set false (i := 2) sc_rule_text.nd (de_add de_str (de_joinS de_str (de_ix (de_v 0) de_int))))
      (dss_cons (ds_set false (i := 3) sc_rule_text.nd de_str)
      (dss_cons (ds_if (dp_eq hr.units (de_v 1) de_str) (dss_cons (ds_set false (i := 2) sc_rule_text.nd (de_add de_str (de_ix (de_v 0) de_int)))
      (dss_one (ds_set false (i := 3) sc_rule_text.nd de_str))) dss_nil)
      (dss_cons (ds_if (dp_eq hr.units (de_ix (de_v 0) de_int) (de_tup da_nil)) (dss_one (ds_ret (de_v 2))) dss_nil)
      (dss_one (ds_ret (de_add (de_add (de_v 2) (de_v 3)) (de_join de_str (de_ix (de_v 0) de_int)))))))))))))))) ?h, F.kp, F.binds fun _ _ _ _ _ _ us hl => match us, hl with | [_], _ => rfl, m⟩
  case len =>
    intro g ds n Q h; obtain ⟨_, rfl, _⟩ := h; rfl
  case h =>
    intro g ds n Q h
    obtain ⟨r, rfl, hr, q⟩ := h
    have J : ∀ {l m : Nat} {ps : List Str}, rPs l m ps → m ≤ 6 → (ps.map (·.length)).sum + ps.length * (Str.ofString " ").length ≤ 16777216 ∧ (Txt.join " " ps).length ≤ 1000 := fun {l m ps} hp hm => by
      have hw := rPs_wd hp
      have := hp.2.1
      have h2 := joinS_len fun w hw' => (hw w hw').b
      exact ⟨join_names _ (fun w hw' => Nat.le_trans (hw w hw').b (by decide)) (by omega) _ (by decide +kernel), by omega⟩
    have hl : ∀ ch, (howS ch).length ≤ 1000 := fun ch => Nat.le_trans (how_wd ch).b (by decide)
    have RT : ∀ {rows : List (List Str)}, rRows rows → (∀ Q : QD, (rowsT2 rows).length ≤ 2000 → Q (.str (rowsT2 rows)) n → Sp_rows_text g [.tup (rows.map tps)] n Q) := fun {rows} hr Q _ q =>
      ⟨rows, rfl, hr.2.1, fun r hx => ⟨Nat.le_trans (hr.2.2 r hx).2.1 (by decide), fun w hw => (rPs_wd (hr.2.2 r hx) w hw).b⟩, q⟩
    refine ⟨_, atI0, ?_⟩
    simp only [List.set_cons_succ, List.set_cons_zero, setsR, startR, List.map_cons, List.map_nil, List.cons_append, List.nil_append, List.replicate_succ, List.replicate_zero, List.length_cons, List.length_nil, Nat.reduceAdd, Nat.reduceSub]
    have cdq : ∀ {a b : Str}, Q (.str a) n → cd a = cd b → Q (.str b) n := fun h e => by rw [← TL.ext_tl e]; exact h
    have k_sp : cd (Str.ofString " ") = [32] := by decide +kernel
    have hrl : ∀ {rows : List (List Str)}, rRows rows → (rowsT2 rows).length ≤ 2000 := fun {rows} h => by
      have e := congrArg List.length (rowsT_cd (rows := rows) fun r hx e => by have := (h.2.2 r hx).1; rw [e] at this; simp at this)
      rw [cd_len, cd_len] at e
      obtain ⟨w1, w2⟩ := rRows_w h
      have := joinS_len fun w hw => (w1 w hw).b
      have : 55 * (rowsW rows).length ≤ 55 * 25 := Nat.mul_le_mul_left _ w2
      omega
    cases r with
    | forbid ss ts ch =>
      obtain ⟨j1, j2⟩ := J hr.1 (by decide)
      obtain ⟨j3, j4⟩ := J hr.2 (by decide)
      have hh := hl ch
      refine sIf_T (s := Str.ofString "forbid") rfl rfl ?_
      refine ret_joined ["forbid ", howS ch, " ", Txt.join " " ss, " -> ", Txt.join " " ts] ⟨⟨by decide +kernel, fun Q q => q⟩, ⟨by omega, fun Q q => ⟨_, atI_nat (j := 3) rfl, L1 (by omega), q⟩⟩, ⟨by decide +kernel, fun Q q => q⟩, ⟨by omega, fun Q q => ⟨trivial, _, atI_nat (j := 1) rfl, ss, rfl, j1, L1 (by omega), q⟩⟩, ⟨by decide +kernel, fun Q q => q⟩, ⟨by omega, fun Q q => ⟨trivial, _, atI_nat (j := 2) rfl, ts, rfl, j3, L1 (by omega), q⟩⟩, trivial⟩ (show 6 ≤ 10 by decide) ?_
      refine cdq q ?_
      have n1 : ss ≠ [] := fun e => by have := hr.1.1; rw [e] at this; simp at this
      have n2 : ts ≠ [] := fun e => by have := hr.2.1; rw [e] at this; simp at this
      show cd (Txt.join " " ([Str.ofString "forbid", howS ch] ++ ss ++ [Str.ofString "->"] ++ ts)) = cd (Str.empty ++ Str.ofString "forbid " ++ howS ch ++ Str.ofString " " ++ Txt.join " " ss ++ Str.ofString " -> " ++ Txt.join " " ts)
      rw [cdJ (by simp) n2, cdJ (by simp) (by simp), cdJ (by simp) n1, cdJ1, cdJ2, cd_app, cd_app, cd_app, cd_app, cd_app, cd_e, k_sp, show cd (Str.ofString "forbid ") = cd (Str.ofString "forbid") ++ [32] from by decide +kernel, show cd (Str.ofString " -> ") = 32 :: cd (Str.ofString "->") ++ [32] from by decide +kernel]
      simp
    | layers rows ch =>
      have rl : (rowsT2 rows).length ≤ 2000 := hrl hr
      have rn : ∀ r ∈ rows, r ≠ [] := fun r hx e => by have := (hr.2.2 r hx).1; rw [e] at this; simp at this
      have rn2 : rowsW rows ≠ [] := rowsW_ne (fun e => by have := hr.1; rw [e] at this; simp at this) rn
      have hh := hl ch
      refine sIf_N (s := Str.ofString "layers") rfl (by decide +kernel) (sIf_T (s := Str.ofString "layers") rfl rfl ?_)
      refine ret_joined ["layers ", howS ch, " ", rowsT2 rows] ⟨⟨by decide +kernel, fun Q q => q⟩, ⟨by omega, fun Q q => ⟨_, atI_nat (j := 2) rfl, L1 (by omega), q⟩⟩, ⟨by decide +kernel, fun Q q => q⟩, ⟨by omega, fun Q q => ⟨_, atI_nat (j := 1) rfl, by dsimp only [dNil]; exact RT hr _ rl ⟨L1 (by omega), q⟩⟩⟩, trivial⟩ (show 4 ≤ 10 by decide) ?_
      refine cdq q ?_
      show cd (Txt.join " " ([Str.ofString "layers", howS ch] ++ rowsW rows)) = cd (Str.empty ++ Str.ofString "layers " ++ howS ch ++ Str.ofString " " ++ rowsT2 rows)
      rw [cdJ (by simp) rn2, cdJ2, cd_app, cd_app, cd_app, cd_e, k_sp, rowsT_cd rn, show cd (Str.ofString "layers ") = cd (Str.ofString "layers") ++ [32] from by decide +kernel]
      simp
    | stairs rows =>
      have rl : (rowsT2 rows).length ≤ 2000 := hrl hr
      have rn : ∀ r ∈ rows, r ≠ [] := fun r hx e => by have := (hr.2.2 r hx).1; rw [e] at this; simp at this
      have rn2 : rowsW rows ≠ [] := rowsW_ne (fun e => by have := hr.1; rw [e] at this; simp at this) rn
      refine sIf_N (s := Str.ofString "stairs") rfl (by decide +kernel) (sIf_N (s := Str.ofString "stairs") rfl (by decide +kernel) (sIf_T (s := Str.ofString "stairs") rfl rfl ?_))
      refine ret_joined ["stairs ", rowsT2 rows] ⟨⟨by decide +kernel, fun Q q => q⟩, ⟨by omega, fun Q q => ⟨_, atI_nat (j := 1) rfl, by dsimp only [dNil]; exact RT hr _ rl ⟨L1 (by omega), q⟩⟩⟩, trivial⟩ (show 2 ≤ 10 by decide) ?_
      refine cdq q ?_
      show cd (Txt.join " " ([Str.ofString "stairs"] ++ rowsW rows)) = cd (Str.empty ++ Str.ofString "stairs " ++ rowsT2 rows)
      rw [cdJ (by simp) rn2, cdJ1, cd_app, cd_e, rowsT_cd rn, show cd (Str.ofString "stairs ") = cd (Str.ofString "stairs") ++ [32] from by decide +kernel]
      simp
    | apart ps ch =>
      obtain ⟨j1, j2⟩ := J hr (by decide)
      have hh := hl ch
      refine sIf_N (s := Str.ofString "apart") rfl (by decide +kernel) (sIf_N (s := Str.ofString "apart") rfl (by decide +kernel) (sIf_N (s := Str.ofString "apart") rfl (by decide +kernel) (sIf_T (s := Str.ofString "apart") rfl rfl ?_)))
      refine ret_joined ["apart ", howS ch, " ", Txt.join " " ps] ⟨⟨by decide +kernel, fun Q q => q⟩, ⟨by omega, fun Q q => ⟨_, atI_nat (j := 2) rfl, L1 (by omega), q⟩⟩, ⟨by decide +kernel, fun Q q => q⟩, ⟨by omega, fun Q q => ⟨trivial, _, atI_nat (j := 1) rfl, ps, rfl, j1, L1 (by omega), q⟩⟩, trivial⟩ (show 4 ≤ 10 by decide) ?_
      refine cdq q ?_
      have n1 : ps ≠ [] := fun e => by have := hr.1; rw [e] at this; simp at this
      show cd (Txt.join " " ([Str.ofString "apart", howS ch] ++ ps)) = cd (Str.empty ++ Str.ofString "apart " ++ howS ch ++ Str.ofString " " ++ Txt.join " " ps)
      rw [cdJ (by simp) n1, cdJ2, cd_app, cd_app, cd_app, cd_e, k_sp, show cd (Str.ofString "apart ") = cd (Str.ofString "apart") ++ [32] from by decide +kernel]
      simp
    | noring ps =>
      obtain ⟨j1, j2⟩ := J hr (by decide)
      refine sIf_N (s := Str.ofString "noring") rfl (by decide +kernel) (sIf_N (s := Str.ofString "noring") rfl (by decide +kernel) (sIf_N (s := Str.ofString "noring") rfl (by decide +kernel) (sIf_N (s := Str.ofString "noring") rfl (by decide +kernel) (sIf_T (s := Str.ofString "noring") rfl rfl ?_))))
      refine ret_joined ["noring ", Txt.join " " ps] ⟨⟨by decide +kernel, fun Q q => q⟩, ⟨by omega, fun Q q => ⟨trivial, _, atI_nat (j := 1) rfl, ps, rfl, j1, L1 (by omega), q⟩⟩, trivial⟩ (show 2 ≤ 10 by decide) ?_
      refine cdq q ?_
      have n1 : ps ≠ [] := fun e => by have := hr.1; rw [e] at this; simp at this
      show cd (Txt.join " " ([Str.ofString "noring"] ++ ps)) = cd (Str.empty ++ Str.ofString "noring " ++ Txt.join " " ps)
      rw [cdJ (by simp) n1, cdJ1, cd_app, cd_e, show cd (Str.ofString "noring ") = cd (Str.ofString "noring") ++ [32] from by decide +kernel]
      simp
    | only ts us =>
      obtain ⟨j1, j2⟩ := J hr.1 (by decide)
      obtain ⟨j3, j4⟩ := J hr.2 (by decide)
      have n1 : ts ≠ [] := fun e => by have := hr.1.1; rw [e] at this; simp at this
      have aus := strs_asc hr.2
      refine sIf_N (s := Str.ofString "only") rfl (by decide +kernel) (sIf_N (s := Str.ofString "only") rfl (by decide +kernel) (sIf_N (s := Str.ofString "only") rfl (by decide +kernel) (sIf_N (s := Str.ofString "only") rfl (by decide +kernel) (sIf_N (s := Str.ofString "only") rfl (by decide +kernel) (?_)))))
      refine ⟨trivial, _, atI_nat (j := 1) rfl, ts, rfl, j1, L1 (by rw [show (Str.ofString "only ").length = 5 by decide +kernel]; omega), ?_⟩
      simp only [List.set_cons_succ, List.set_cons_zero, setsR, startR, List.map_cons, List.map_nil, List.cons_append, List.nil_append, List.replicate_succ, List.replicate_zero, List.length_cons, List.length_nil, Nat.reduceAdd, Nat.reduceSub]
      refine sSet_C ?_
      simp only [List.set_cons_succ, List.set_cons_zero, setsR, startR, List.map_cons, List.map_nil, List.cons_append, List.nil_append, List.replicate_succ, List.replicate_zero, List.length_cons, List.length_nil, Nat.reduceAdd, Nat.reduceSub]
      refine sIf_N (s := Str.ofString "only") rfl (by decide +kernel) ?_
      refine ⟨_, atI_nat (j := 2) rfl, Nat.zero_le _, ?_⟩
      show oEq false (.tup (us.map D.str)) (.tup (([] : List Str).map D.str)) _
      refine oEq_tup aus (by simp) ?_
      by_cases h0 : us = []
      · rw [decide_eq_true h0]
        refine iteT (cdq q ?_)
        show cd (Txt.join " " ([Str.ofString "only"] ++ ts ++ sgW "<-" us)) = cd (Str.ofString "only " ++ Txt.join " " ts)
        rw [h0, show sgW "<-" [] = [] from rfl, List.append_nil, cdJ (by simp) n1, cdJ1, cd_app, show cd (Str.ofString "only ") = cd (Str.ofString "only") ++ [32] from by decide +kernel]
        simp
      · rw [decide_eq_false h0]
        refine iteF (nxt ?_)
        have k5 : (Str.ofString "only ").length = 5 := by decide +kernel
        have k4 : (Str.ofString " <- ").length = 4 := by decide +kernel
        refine ⟨L1 (by rw [app_len]; omega), trivial, _, atI_nat (j := 2) rfl, us, rfl, j3, L1 (by rw [app_len, app_len]; omega), cdq q ?_⟩
        show cd (Txt.join " " ([Str.ofString "only"] ++ ts ++ sgW "<-" us)) = cd (Str.ofString "only " ++ Txt.join " " ts ++ Str.ofString " <- " ++ Txt.join " " us)
        have es : sgW "<-" us = [Str.ofString "<-"] ++ us := by unfold sgW; rw [if_neg h0]
        rw [es, ← List.append_assoc, cdJ (by simp) h0, cdJ (by simp) (by simp), cdJ (by simp) n1, cdJ1, cdJ1, cd_app, cd_app, cd_app, show cd (Str.ofString "only ") = cd (Str.ofString "only") ++ [32] from by decide +kernel, show cd (Str.ofString " <- ") = 32 :: cd (Str.ofString "<-") ++ [32] from by decide +kernel]
        simp
    | face p es =>
      obtain ⟨j3, j4⟩ := J hr.2.1 (by decide)
      have aus := strs_asc hr.2.1
      have hpl := (wd_rp hr.1).b
      refine sIf_N (s := Str.ofString "face") rfl (by decide +kernel) (sIf_N (s := Str.ofString "face") rfl (by decide +kernel) (sIf_N (s := Str.ofString "face") rfl (by decide +kernel) (sIf_N (s := Str.ofString "face") rfl (by decide +kernel) (sIf_N (s := Str.ofString "face") rfl (by decide +kernel) (?_)))))
      have k5 : (Str.ofString "only ").length = 5 := by decide +kernel
      have k6 : (Str.ofString "face ").length = 5 := by decide +kernel
      have k4 : (Str.ofString " : ").length = 3 := by decide +kernel
      have hjl : (Txt.join " " (PyProof.Rows.signs p)).length ≤ 2970 := by
        have := joinS_len (ws := PyProof.Rows.signs p) fun w hw => by rw [(signs_cd p).2 w hw]; decide
        rw [(signs_cd p).1] at this
        omega
      refine ⟨trivial, _, atI_nat (j := 1) rfl, by rw [show (Str.ofString " ").length = 1 by decide +kernel]; omega, L1 (by omega), ?_⟩
      simp only [List.set_cons_succ, List.set_cons_zero, setsR, startR, List.map_cons, List.map_nil, List.cons_append, List.nil_append, List.replicate_succ, List.replicate_zero, List.length_cons, List.length_nil, Nat.reduceAdd, Nat.reduceSub]
      refine sSet_C ?_
      simp only [List.set_cons_succ, List.set_cons_zero, setsR, startR, List.map_cons, List.map_nil, List.cons_append, List.nil_append, List.replicate_succ, List.replicate_zero, List.length_cons, List.length_nil, Nat.reduceAdd, Nat.reduceSub]
      refine sIf_T (s := Str.ofString "face") rfl rfl ?_
      refine ⟨_, atI_nat (j := 1) rfl, L1 (by omega), ?_⟩
      simp only [List.set_cons_succ, List.set_cons_zero, setsR, startR, List.map_cons, List.map_nil, List.cons_append, List.nil_append, List.replicate_succ, List.replicate_zero, List.length_cons, List.length_nil, Nat.reduceAdd, Nat.reduceSub]
      refine ⟨_, atI_nat (j := 2) rfl, Nat.zero_le _, ?_⟩
      show oEq false (.tup (es.map D.str)) (.tup (([] : List Str).map D.str)) _
      refine oEq_tup aus (by simp) ?_
      by_cases h0 : es = []
      · rw [decide_eq_true h0]
        refine iteT (cdq q ?_)
        show cd (Txt.join " " ([Str.ofString "face", p] ++ sgW ":" es)) = cd (Str.ofString "face " ++ p)
        rw [h0, show sgW ":" [] = [] from rfl, List.append_nil, cdJ2, cd_app, show cd (Str.ofString "face ") = cd (Str.ofString "face") ++ [32] from by decide +kernel]
        simp
      · rw [decide_eq_false h0]
        refine iteF (nxt ?_)
        refine ⟨L1 (by rw [app_len]; omega), trivial, _, atI_nat (j := 2) rfl, es, rfl, j3, L1 (by rw [app_len, app_len]; omega), cdq q ?_⟩
        show cd (Txt.join " " ([Str.ofString "face", p] ++ sgW ":" es)) = cd (Str.ofString "face " ++ p ++ Str.ofString " : " ++ Txt.join " " es)
        have es' : sgW ":" es = [Str.ofString ":"] ++ es := by unfold sgW; rw [if_neg h0]
        rw [es', ← List.append_assoc, cdJ (by simp) h0, cdJ (by simp) (by simp), cdJ1, cdJ2, cd_app, cd_app, cd_app, show cd (Str.ofString "face ") = cd (Str.ofString "face") ++ [32] from by decide +kernel, show cd (Str.ofString " : ") = 32 :: cd (Str.ofString ":") ++ [32] from by decide +kernel]
        simp
/-! book_error -/
abbrev s_book_error : Stmt := topS 57
theorem sc_book_error : FnScope ["rules", "index", "rule", "word"] ["rules"] (defScope s_book_error) := ⟨rfl, rfl, rfl, by decide +kernel, rfl, by decide +kernel, by decide +kernel⟩
def Sp_book_error : DSp := fun _ ds f Q => ∃ x : D, ds = [x] ∧ x.good = true ∧ Q (bookErr x) f
set_option maxHeartbeats 2000000 in
theorem ok_book_error (d : Df K mg "book_error" s_book_error) (m_enumerate : mg "enumerate" = none) (m_len : mg "len" = none) (m_tuple : mg "tuple" = none) (m_isinstance : mg "isinstance" = none) (g_MAX_RULES : ∃ t, mg "MAX_RULES" = some (.int 8 t)) (c_rule_error : Cal P w K mg base 7 "rule_error" ["value"] Sp_rule_error) : Cal P w K mg base 8 "book_error" ["rules"] Sp_book_error := by
  obtain ⟨f, fd, F, m⟩ := d
  refine ⟨f, fd, dfn (k := 7) (S := Sp_book_error) F sc_book_error ?len (fun cdv A outer s H E hr => (dss_cons (ds_if (DW.p (dw_or (dp_not (dp_val (de_isi m_isinstance (da_cons (de_v 0) (da_cons (de_bltn (v := .ty "tuple") (u := .type "tuple") (by rfl) m_tuple (by decide +kernel) rfl) da_nil))))) (dw_or1 (dp_gt (de_len m_len (da_cons (de_v 0) da_nil)) (de_glob (v := .int 8) (d := .int 8) (by rfl) g_MAX_RULES.choose_spec ⟨_, rfl⟩ (fun _ => rfl)))))) (dss_one (ds_ret (de_tup (da_cons de_non (da_cons de_str da_nil))))) dss_nil)
      (dss_cons (ds_for [] PassesOwn.never (di_enum m_enumerate (da_cons (de_v 0) da_nil)) (dg_tup rfl (dgs_cons (dg_name (i := 1) sc_book_error.nd) (dgs_cons (dg_name (i := 2) sc_book_error.nd) dgs_nil))) (dss_cons (ds_set false (i := 3) sc_book_error.nd (de_callC c_rule_error (hr.mono (by decide)) (da_cons (de_v 2) da_nil)))
      (dss_cons (ds_if (dp_notN (de_v 3) de_non) (dss_one (ds_ret (de_tup (da_cons (de_v 1) (da_cons (de_v 3) da_nil))))) dss_nil)
      (dss_one (ds_if (dp_in hr (de_v 2) (de_sl (de_v 0) do_none (do_some (de_v 1)))) (dss_one (ds_ret (de_tup (da_cons (de_v 1) (da_cons de_str da_nil))))) dss_nil)))))
      (dss_one (ds_ret de_non))))) ?h, F.kp, F.binds fun _ _ _ _ _ _ us hl => match us, hl with | [_], _ => rfl, m⟩
  case len =>
    intro g ds n Q h; obtain ⟨_, rfl, _⟩ := h; rfl
  case h =>
    intro g ds n Q h
    obtain ⟨x, rfl, hx, q⟩ := h
    obtain ⟨t, ht, hk⟩ := good_isT hx
    refine ⟨t, _, ht, hk, ?_⟩
    cases x with
    | tup xs =>
      have q : Q (if xs.length ≤ 8 then firstB xs 0 [] else .tup [.none, .str "rules"]) n := q
      show if decide (((xs.length : Int)) > 8) = true then _ else _
      by_cases h8 : xs.length ≤ 8
      · rw [if_pos h8] at q
        rw [decide_eq_false (by omega)]
        refine iteF ?_
        refine dFor_inv (fun rest r f => f = n ∧ ∃ (done rx : List D) (a b c : Sl), xs = done ++ rx ∧ rest = (enumD xs).drop done.length ∧ r = [.sh (.tup xs), a, b, c] ∧ (∀ y ∈ done, ruleErr y = .none) ∧ firstB rx done.length done = firstB xs 0 []) _ _ _ ?_ ?_ ⟨rfl, [], xs, _, _, _, rfl, rfl, rfl, fun _ h => (nomatch h), rfl⟩
        · rintro d rest r f N ⟨rfl, done, rx, a, b, c, ex, hr, rfl, hd, hm⟩ hN
          have hh : (enumD xs)[done.length]? = some d := by
            have := congrArg List.head? hr
            rw [List.head?_drop] at this
            exact this.symm
          obtain ⟨y', hy', rfl⟩ := enumD_get hh
          have hy2 : xs[done.length]? = rx[0]? := by
            rw [ex, List.getElem?_append_right (Nat.le_refl _), Nat.sub_self]
          cases rx with
          | nil => rw [hy2] at hy'; cases hy'
          | cons x rx =>
            obtain rfl : x = y' := by rw [hy2] at hy'; exact Option.some.inj hy'
            have hxg : x.good = true := goodA_mem hx (by rw [ex]; simp)
            refine ⟨_, rfl, x, rfl, hxg, ?_⟩
            rcases ruleErr_two x with h | ⟨w, h⟩
            · rw [firstB_none h] at hm
              rw [h]
              have et : cutD xs none (some (done.length : Int)) = done := by
                rw [cutD_take, ex, List.take_append_of_le_length (Nat.le_refl _), List.take_length]
              refine ⟨(err_ts h).2.of (by decide), ?_, ?_⟩
              · rw [et]
                exact (shp_tup fun y hy => (err_ts (hd y hy)).2 : Shp 4 (.tup done)).of (by decide)
              · rw [et]
                cases ha : (pyA done).any fun z => PyData.eqv z x.py with
                | true =>
                  rw [ha, if_pos rfl] at hm
                  rw [← hm] at q
                  exact iteT ⟨show 2 ≤ lim by decide, q⟩
                | false =>
                  rw [ha, if_neg Bool.false_ne_true] at hm
                  refine iteF (nxt (g := g) (hN _ _ ⟨rfl, done ++ [x], rx, _, _, _, by rw [ex]; simp, ?_, rfl, fun z hz => ?_, by rw [List.length_append]; exact hm⟩))
                  · rw [List.length_append, List.length_singleton, ← List.tail_drop, ← hr]
                    rfl
                  · rcases List.mem_append.mp hz with e | e
                    · exact hd z e
                    · rw [List.mem_singleton.mp e]; exact h
            · rw [firstB_str h] at hm
              rw [← hm] at q
              rw [h]
              exact ⟨show 2 ≤ lim by decide, q⟩
        · rintro r f ⟨rfl, done, rx, a, b, c, ex, hr, rfl, hd, hm⟩
          have : rx = [] := by
            have h1 := congrArg List.length hr
            rw [List.length_drop, enumD_len] at h1
            have h2 := congrArg List.length ex
            rw [List.length_append] at h2
            have h1 : 0 = xs.length - done.length := h1
            exact List.length_eq_zero_iff.mp (by omega)
          subst this
          rw [← hm] at q
          exact q
      · rw [if_neg h8] at q
        rw [decide_eq_true (by omega)]
        exact iteT ⟨show 2 ≤ lim by decide, q⟩
    | obj _ _ _ => cases hx
    | exn _ _ _ => cases hx
    | any _ => cases hx
    | _ => exact ⟨show 2 ≤ lim by decide, q⟩
abbrev s_x_BadBook : Stmt := clsS 43 0
theorem sc_x_BadBook : FnScope ["self", "error"] ["self", "error"] (defScope s_x_BadBook) := ⟨rfl, rfl, rfl, by decide +kernel, rfl, by decide +kernel, by decide +kernel⟩
theorem ok_x_BadBook {C fI : Addr} {fd : FuncData} (T : OexC K C) (hno : PySem.W.findIn K (.ref C) "error" = some none) (F : Fun K "__init__" "BadBook.__init__" s_x_BadBook fI fd) (i1 : PySem.W.findIn K (.ref C) "__init__" = some (some (.ref fI))) (i2 : PySem.W.typeIn K (.ref fI) = some (.type "function")) (hns : PySem.W.nsIn K mainGlobals "BadBook" = some (some (.ref C))) (hm : mg "BadBook" = some (.ref C)) : Exn P w K mg base 1 "BadBook" "error" :=
  exn_mk T hno F i1 i2 hns hm sc_x_BadBook (F.binds fun _ _ _ _ _ _ us hl => match us, hl with | [_, _], _ => rfl) (fun cdv A outer s H E => pss_one (ps_ost (pv 0) (pv 1)))
/-! Book.__init__ -/
abbrev s_Book___init__ : Stmt := clsS 58 0
theorem sc_Book___init__ : FnScope ["self", "rules", "error"] ["self", "rules"] (defScope s_Book___init__) := ⟨rfl, rfl, rfl, by decide +kernel, rfl, by decide +kernel, by decide +kernel⟩
def bkD (rs : List Rl) : D := .obj "Book" ["held"] [rlsT rs]
def Sp_Book___init__ : DSpX := fun _ ds f Q E => ∃ x : D, ds = [x] ∧ x.good = true ∧ (bookErr x ≠ .none → E (.obj "BadBook" ["error"] [bookErr x]) f) ∧ ∀ rs : List Rl, x = rlsT rs → Rs 8 rs → Q (bkD rs) f
set_option maxHeartbeats 2000000 in
theorem ok_Book___init__ {C_Book : Addr} (k_Book : KC K "Book" C_Book) (n_Book_held : NoAttr K C_Book "held") (x_BadBook : Exn P w K mg base 1 "BadBook" "error") (c_book_error : Cal P w K mg base 8 "book_error" ["rules"] Sp_book_error) (mg_Book : mg "Book" = some (.ref C_Book)) (d : ∃ f fd, Fun K "__init__" "Book.__init__" s_Book___init__ f fd ∧ Mk K C_Book f) : MkrX P w K mg base 9 "Book" ["self", "rules"] Sp_Book___init__ := by
  obtain ⟨f, fd, F, M⟩ := d
  refine ⟨C_Book, f, fd, M, dinitX (k := 8) (S := Sp_Book___init__) (c := "Book") F sc_Book___init__ ?len (fun cdv A outer s H E hr => (dss_cons (ds_set false (i := 2) sc_Book___init__.nd (de_callC c_book_error (hr.mono (by decide)) (da_cons (de_v 1) da_nil)))
      (dss_cons (ds_if (dp_notN (de_v 2) de_non) (dss_one (ds_raise x_BadBook (hr.mono (by decide)) (de_v 2))) dss_nil)
      (dss_one (ds_fldO false (i := 0) k_Book n_Book_held (de_v 1)))))) ?h, F.binds fun _ _ _ _ _ _ us hl => match us, hl with | [_, _], _ => rfl, k_Book.ns, mg_Book⟩
  case len =>
    intro g ds n Q E h; obtain ⟨_, rfl, _⟩ := h; rfl
  case h =>
    intro a g ds n Q E h
    obtain ⟨x, rfl, hx, qe, q⟩ := h
    refine ⟨x, rfl, hx, ?_⟩
    rcases bookErr_two x with he | ⟨c, w, he, _⟩
    · rw [he]
      obtain ⟨rs, rfl, hr⟩ := bookErr_inv he
      refine ⟨a, [], [], rfl, by decide, by decide, ?_⟩
      exact ⟨["held"], _, rfl, q rs rfl hr⟩
    · rw [he] at qe ⊢
      exact qe (fun z => by cases z)
/-! Book.rules -/
abbrev s_Book_rules : Stmt := clsS 58 1
theorem sc_Book_rules : FnScope ["self"] ["self"] (defScope s_Book_rules) := ⟨rfl, rfl, rfl, by decide +kernel, rfl, by decide +kernel, by decide +kernel⟩
def Sp_Book_rules : DSp := fun _ ds f Q => ∃ rs : List Rl, ds = [bkD rs] ∧ Q (rlsT rs) f
set_option maxHeartbeats 2000000 in
theorem ok_Book_rules {C_Book : Addr} (k_Book : KC K "Book" C_Book) (n_Book_held : NoAttr K C_Book "held") (d : ∃ p f fd, Fun K "rules" "Book.rules" s_Book_rules f fd ∧ PropOf K C_Book "rules" p f) : CalP P w K mg base 1 "Book" "rules" ["self"] Sp_Book_rules := by
  obtain ⟨p, f, fd, F, M⟩ := d
  refine ⟨C_Book, p, f, fd, k_Book, M, dfn (k := 0) (S := Sp_Book_rules) F sc_Book_rules ?len (fun cdv A outer s H E hr => (dss_one (ds_ret (de_fld k_Book n_Book_held (de_v 0))))) ?h, F.binds fun _ _ _ _ _ _ us hl => match us, hl with | [_], _ => rfl⟩
  case len =>
    intro g ds n Q h; obtain ⟨_, rfl, _⟩ := h; rfl
  case h =>
    intro g ds n Q h
    obtain ⟨rs, rfl, q⟩ := h
    exact ⟨rfl, _, rfl, q⟩
/-! book_text -/
abbrev s_book_text : Stmt := topS 62
theorem sc_book_text : FnScope ["book", "rule"] ["book"] (defScope s_book_text) := ⟨rfl, rfl, rfl, by decide +kernel, rfl, by decide +kernel, by decide +kernel⟩
def bookT (rs : List Rl) : Str := Txt.join "" (rs.map fun r => Txt.join " " (ruleW r) ++ "\n")
def Sp_book_text : DSp := fun _ ds f Q => ∃ rs : List Rl, ds = [bkD rs] ∧ Rs 8 rs ∧ Q (.str (bookT rs)) f
theorem ruleT_len {r : Rl} (h : r.form) : (Txt.join " " (ruleW r)).length ≤ 1650 := by
  obtain ⟨w1, w2, w3⟩ := ruleW_w h
  have := joinS_len fun w hw => (w1 w hw).b
  have : 55 * (ruleW r).length ≤ 55 * 30 := Nat.mul_le_mul_left _ w2
  omega
set_option maxHeartbeats 2000000 in
theorem ok_book_text (d : Df K mg "book_text" s_book_text) (c_Book_rules : CalP P w K mg base 1 "Book" "rules" ["self"] Sp_Book_rules) (c_rule_text : Cal P w K mg base 2 "rule_text" ["rule"] Sp_rule_text) : Cal P w K mg base 3 "book_text" ["book"] Sp_book_text := by
  obtain ⟨f, fd, F, m⟩ := d
  refine ⟨f, fd, dfn (k := 2) (S := Sp_book_text) F sc_book_text ?len (fun cdv A outer s H E hr => (dss_one (ds_ret (de_join de_str (dl_lc (own := [("rule", 1)]) rfl sc_book_text.nd (di_seq (de_prop c_Book_rules (hr.mono (by decide)) (de_v 0))) (blkOk_by (own := [("rule", 1)]) (N := ["book", "rule"]) (sc := defScope s_book_text) (by decide +kernel)) (fun _ _ _ _ _ => dg_name (i := 1) sc_book_text.nd) (fun _ _ _ _ _ => dts_nil) (fun _ _ _ _ _ => (de_add (de_callC c_rule_text (hr.mono (by decide)) (da_cons (de_v 1) da_nil)) de_str))).e)))) ?h, F.kp, F.binds fun _ _ _ _ _ _ us hl => match us, hl with | [_], _ => rfl, m⟩
  case len =>
    intro g ds n Q h; obtain ⟨_, rfl, _⟩ := h; rfl
  case h =>
    intro g ds n Q h
    obtain ⟨rs, rfl, hr, q⟩ := h
    have hlen := hr.len
    refine ⟨trivial, rfl, rs, rfl, ?_⟩
    show _ ∧ _
    refine ⟨by rw [List.length_map]; exact L1 (by omega), ?_⟩
    refine lcM Rl.d D.str (fun r => Txt.join " " (ruleW r) ++ "\n") rs _ (fun r hx => ⟨_, rfl, fun f Q h => ?_⟩) ?_
    · have hb := ruleT_len (hr.form r hx)
      exact ⟨r, rfl, hr.form r hx, L1 (by rw [show (Str.ofString "\n").length = 1 by decide +kernel]; omega), h⟩
    · refine ⟨_, rfl, ?_, q⟩
      have := join_bd (B := 1651) (ns := rs.map fun r => Txt.join " " (ruleW r) ++ "\n") fun x hx => by
        obtain ⟨r, hx', rfl⟩ := List.mem_map.mp hx
        have hb := ruleT_len (hr.form r hx')
        rw [app_len, show (Str.ofString "\n").length = 1 by decide +kernel]
        omega
      rw [List.length_map] at this
      rw [show (Str.ofString "").length = 0 by decide +kernel, Nat.mul_zero]
      omega
/-! _law_messy -/
abbrev s__law_messy : Stmt := topS 84
theorem sc__law_messy : FnScope ["_law_stream_here", "_law_lines", "_law_found", "_law_words"] ["_law_stream_here", "_law_lines"] (defScope s__law_messy) := ⟨rfl, rfl, rfl, by decide +kernel, rfl, by decide +kernel, by decide +kernel⟩
def rowsC (l : List Nat) : List (List (List Nat)) := ((spx 10 l).map wdsC).filter fun w => !decide (w = [])
theorem rows_cd (t : Str) : (rowsT t).map (·.map cd) = rowsC (cd t) := by
  unfold rowsT rowsC
  rw [← split_nl, List.map_map]
  have e : (wdsC ∘ cd) = ((·.map cd) ∘ wdsOf) := by funext s; exact (wds_cd s).symm
  rw [e, ← List.map_map]
  generalize (Txt.split t "\n").map wdsOf = W
  rw [List.filter_map]
  congr 1
  refine List.filter_congr fun w hw => ?_
  show (!decide (w = [])) = !decide (w.map cd = [])
  congr 1
  exact decide_eq_decide.mpr List.map_eq_nil_iff.symm
theorem rows_inj {a b : List (List Str)} (h : a.map (·.map cd) = b.map (·.map cd)) : a = b := (List.map_inj_right (f := fun l : List Str => l.map cd) fun x y e => cd_inj e).mp h
theorem rowsC_jnx {ls : List (List Nat)} (h : ∀ l ∈ ls, 10 ∉ l) : rowsC (jnx 10 ls) = (ls.map wdsC).filter fun w => !decide (w = []) := by
  cases ls with
  | nil => decide +kernel
  | cons a r =>
    unfold rowsC
    rw [spx_jnx (by simp) h]
theorem rowsC_end (l r : List Nat) (h : ∀ p ∈ spx 10 r, wdsC p = []) : rowsC (l ++ 10 :: r) = rowsC l := by
  unfold rowsC
  rw [spx_app, List.map_append, List.filter_append]
  have : ((spx 10 r).map wdsC).filter (fun w => !decide (w = [])) = [] := List.filter_eq_nil_iff.mpr fun w hw => by
    obtain ⟨p, hp, rfl⟩ := List.mem_map.mp hw
    rw [h p hp]; decide
  rw [this, List.append_nil]
def voidB (c : Str) : Bool := decide (wdsC (cd c) = []) && (decide (∀ d ∈ cd c, d < 128 ∧ d ≠ 10) && decide (c.length ≤ 8))
theorem void_ok {c : Str} (h : voidB c = true) : wdsC (cd c) = [] ∧ asc c ∧ 10 ∉ cd c ∧ c.length ≤ 8 := by
  unfold voidB at h
  rw [Bool.and_eq_true, Bool.and_eq_true] at h
  have h2 := of_decide_eq_true h.2.1
  exact ⟨of_decide_eq_true h.1, fun d hd => (h2 d hd).1, fun hd => (h2 10 hd).2 rfl, of_decide_eq_true h.2.2⟩
def tailB (c : Str) : Bool := (match cd c with
  | [] => true
  | x :: r => decide (x = 10) && decide (∀ p ∈ spx 10 r, wdsC p = [])) && (decide (∀ d ∈ cd c, d < 128) && decide (c.length ≤ 8))
theorem tail_ok {c : Str} (h : tailB c = true) : (∀ l, rowsC (l ++ cd c) = rowsC l) ∧ asc c ∧ c.length ≤ 8 := by
  unfold tailB at h
  rw [Bool.and_eq_true, Bool.and_eq_true] at h
  refine ⟨fun l => ?_, of_decide_eq_true h.2.1, of_decide_eq_true h.2.2⟩
  have h1 := h.1
  cases e : cd c with
  | nil => rw [List.append_nil]
  | cons x r =>
    rw [e, Bool.and_eq_true] at h1
    rw [of_decide_eq_true h1.1]
    exact rowsC_end l r (of_decide_eq_true h1.2)
structure Fl (F : List Str) (rows : List (List Str)) : Prop where
  w : ((F.map cd).map wdsC).filter (fun w => !decide (w = [])) = rows.map (·.map cd)
  a : ∀ s ∈ F, asc s ∧ 10 ∉ cd s ∧ s.length ≤ 3560
  n : F.length ≤ 2 * rows.length
def Sp__law_messy : DSp := fun g ds f Q => ∃ (k : Dk) (rows : List (List Str)), g = some k ∧ ds = [.any (.ref k.a), .lst (rows.map lstS)] ∧ rows.length ≤ 24 ∧ (∀ ws ∈ rows, ws ≠ [] ∧ ws.length ≤ 62 ∧ ∀ w ∈ ws, Wd w) ∧ 67 * rows.length + 1 ≤ f ∧
  ∀ (s : Str) f', rowsT s = rows → asc s → s.length ≤ 180000 → f ≤ f' + (67 * rows.length + 1) → Q (.str s) f'
set_option maxHeartbeats 2000000 in
theorem ok__law_messy (d : Df K mg "_law_messy" s__law_messy) (c__law_pick : Cal P w K mg base 2 "_law_pick" ["_law_stream_here", "_law_items"] Sp__law_pick) (c__law_draw : Cal P w K mg base 1 "_law_draw" ["_law_stream_here", "_law_many"] Sp__law_draw) (c__law_messy_line : Cal P w K mg base 3 "_law_messy_line" ["_law_stream_here", "_law_words"] Sp__law_messy_line) : Cal P w K mg base 4 "_law_messy" ["_law_stream_here", "_law_lines"] Sp__law_messy := by
  obtain ⟨f, fd, F, m⟩ := d
  refine ⟨f, fd, dfn (k := 3) (S := Sp__law_messy) F sc__law_messy ?len (fun cdv A outer s H E hr => (dss_cons (ds_setL false (i := 2) sc__law_messy.nd (dl_lst da_nil))
      (dss_cons (ds_for [] PassesOwn.never (di_seq (de_v 1)) (dg_name (i := 3) sc__law_messy.nd) (dss_cons (ds_app false (i := 2) (de_callC c__law_messy_line (hr.mono (by decide)) (da_cons (de_v 0) (da_cons (de_v 3) da_nil))))
      (dss_one (ds_if (dp_eq hr.units (de_callC c__law_draw (hr.mono (by decide)) (da_cons (de_v 0) (da_cons de_int da_nil))) de_int) (dss_one (ds_app false (i := 2) (de_callC c__law_pick (hr.mono (by decide)) (da_cons (de_v 0) (da_cons (dl_lst (da_cons de_str (da_cons de_str (da_cons de_str (da_cons de_str da_nil))))).e da_nil))))) dss_nil))))
      (dss_one (ds_ret (de_add (de_join de_str (de_v 2)) (de_callC c__law_pick (hr.mono (by decide)) (da_cons (de_v 0) (da_cons (dl_lst (da_cons de_str (da_cons de_str (da_cons de_str (da_cons de_str da_nil))))).e da_nil))))))))) ?h, F.kp, F.binds fun _ _ _ _ _ _ us hl => match us, hl with | [_, _], _ => rfl, m⟩
  case len =>
    intro g ds n Q h; obtain ⟨_, _, _, rfl, _⟩ := h; rfl
  case h =>
    intro g ds n Q h
    obtain ⟨k, rows, rfl, rfl, hl, hw, hf, q⟩ := h
    refine ⟨Nat.zero_le _, ?_⟩
    simp only [List.set_cons_succ, List.set_cons_zero, setsR, startR, List.map_cons, List.map_nil, List.cons_append, List.nil_append, List.replicate_succ, List.replicate_zero, List.length_cons, List.length_nil, Nat.reduceAdd, Nat.reduceSub]
    refine dFor_list lstS (fun done rest r f => ∃ (F : List Str) (a : Sl), r = [.sh (.any (.ref k.a)), .sh (.lst (rows.map lstS)), .ow (F.map D.str), a] ∧ Fl F done ∧ n ≤ f + 67 * done.length) _ _ _ ?_ ?_ ⟨[], _, rfl, ⟨rfl, by simp, by simp⟩, by simp⟩
    · rintro done ws rest r f N hx ⟨F, a, rfl, hF, hf2⟩ hN
      have hxl := congrArg List.length hx
      rw [List.length_append, List.length_cons] at hxl
      obtain ⟨w1, w2, w3⟩ := hw ws (by rw [hx]; simp)
      have hFn := hF.n
      refine ⟨_, rfl, F.map D.str, rfl, k, ws, rfl, rfl, by omega, w3, by omega, fun s f3 es hsa hsn hsl hf3 => ?_⟩
      refine ⟨by rw [List.length_map]; exact L1 (by omega), ?_⟩
      obtain ⟨f4, rfl⟩ : ∃ f4, f3 = f4 + 2 := ⟨f3 - 2, by omega⟩
      have hwc : wdsC (cd s) = ws.map cd := by rw [← wds_cd, es]
      have hne : (!decide (ws.map cd = [])) = true := by
        rw [decide_eq_false (fun h => w1 (List.map_eq_nil_iff.mp h))]; rfl
      have hF2 : Fl (F ++ [s]) (done ++ [ws]) := ⟨by
          rw [List.map_append, List.map_append, List.filter_append, hF.w, List.map_append]
          congr 1
          show ([wdsC (cd s)]).filter _ = [ws.map cd]
          rw [hwc, List.filter_cons, hne, if_pos rfl, List.filter_nil], fun z hz => by
          rcases List.mem_append.mp hz with h | h
          · exact hF.a z h
          · rw [List.mem_singleton.mp h]; exact ⟨hsa, hsn, by omega⟩, by rw [List.length_append, List.length_append]; show F.length + 1 ≤ 2 * (done.length + 1); omega⟩
      refine ⟨k, 5, f4 + 1, rfl, rfl, by decide, by decide, rfl, fun y y0 y1 => ?_⟩
      show if decide (y = 0) = true then _ else _
      by_cases h0 : y = 0
      · rw [decide_eq_true h0]
        refine iteT ⟨_, rfl, show 4 ≤ lim by decide, ?_⟩
        refine .inl ⟨k, _, rfl, rfl, by exact (show 0 < 4 by decide), by exact (show 4 ≤ 100000 by decide), by omega, fun c' hc' f5 hf5 => ?_⟩
        obtain ⟨c, rfl, hc⟩ : ∃ c, c' = .str c ∧ voidB c = true := by
          simp only [List.mem_cons, List.not_mem_nil, or_false] at hc'
          rcases hc' with rfl | rfl | rfl | rfl <;> exact ⟨_, rfl, by decide +kernel⟩
        obtain ⟨c1, c2, c3, c4⟩ := void_ok hc
        refine ⟨by rw [List.length_append, List.length_map]; exact L1 (show F.length + 1 ≤ 100000 by omega), ?_⟩
        refine hN _ _ ⟨F ++ [s] ++ [c], _, by rw [List.map_append, List.map_append]; rfl, ⟨?_, fun z hz => ?_, ?_⟩, by rw [List.length_append, List.length_singleton]; omega⟩
        · rw [List.map_append, List.map_append, List.filter_append, hF2.w]
          show _ ++ ([wdsC (cd c)]).filter _ = _
          rw [c1]
          exact List.append_nil _
        · rcases List.mem_append.mp hz with h | h
          · exact hF2.a z h
          · rw [List.mem_singleton.mp h]; exact ⟨c2, c3, by omega⟩
        · rw [List.length_append, List.length_append, List.length_append]
          show F.length + 1 + 1 ≤ 2 * (done.length + 1)
          omega
      · rw [decide_eq_false h0]
        refine iteF (nxt (g := some k) (hN _ _ ⟨F ++ [s], _, by rw [List.map_append]; rfl, hF2, by rw [List.length_append, List.length_singleton]; omega⟩))
    · rintro r f ⟨F, a, rfl, hF, hf2⟩
      have hFn := hF.n
      obtain ⟨f4, rfl⟩ : ∃ f4, f = f4 + 1 := ⟨f - 1, by omega⟩
      have hbd := join_bd (B := 3560) (ns := F) fun s hs => (hF.a s hs).2.2
      have hb2 : 3560 * F.length ≤ 3560 * 48 := Nat.mul_le_mul_left _ (by omega)
      have dn : (Str.ofString "\n").length = 1 := by decide +kernel
      have hjl : (Txt.join "\n" F).length ≤ 171000 := by
        rw [← cd_len, cd_join_nl]
        have := jnx_len (c := 10) (B := 3560) (l := F.map cd) fun x hx => by
          obtain ⟨s, hs, rfl⟩ := List.mem_map.mp hx
          rw [cd_len]; exact (hF.a s hs).2.2
        rw [List.length_map] at this
        have h2 : (3560 + 1) * F.length ≤ 3561 * 48 := Nat.mul_le_mul_left _ (by omega)
        omega
      refine ⟨trivial, F, rfl, by rw [dn]; omega, ?_⟩
      refine ⟨show 4 ≤ lim by decide, ?_⟩
      refine .inl ⟨k, _, rfl, rfl, by exact (show 0 < 4 by decide), by exact (show 4 ≤ 100000 by decide), by omega, fun c' hc' f5 hf5 => ?_⟩
      obtain ⟨c, rfl, hc⟩ : ∃ c, c' = .str c ∧ tailB c = true := by
        simp only [List.mem_cons, List.not_mem_nil, or_false] at hc'
        rcases hc' with rfl | rfl | rfl | rfl <;> exact ⟨_, rfl, by decide +kernel⟩
      obtain ⟨c1, c2, c3⟩ := tail_ok hc
      have ecd : cd (Txt.join "\n" F ++ c) = jnx 10 (F.map cd) ++ cd c := by rw [cd_app, cd_join_nl]
      refine ⟨Nat.le_trans (show (Txt.join "\n" F).length + c.length ≤ 180000 by omega) (by decide), q _ _ (rows_inj ?_) (asc_app (fun d hd => ?_) c2) (by rw [app_len]; omega) (by omega)⟩
      · rw [rows_cd, ecd, c1, rowsC_jnx fun l hl' => by
          obtain ⟨s, hs, rfl⟩ := List.mem_map.mp hl'
          exact (hF.a s hs).2.1]
        exact hF.w
      · have hd : d ∈ cd (Txt.join "\n" F) := hd
        rw [cd_join_nl] at hd
        rcases jnx_mem hd with h | ⟨l, hl', hdl⟩
        · rw [h]; decide
        · obtain ⟨s, hs, rfl⟩ := List.mem_map.mp hl'
          exact (hF.a s hs).1 d hdl
theorem ara_ok {hs ns lv : List Str} {zs : List (Str × Nat × Str)} (h : Ars hs ns 3 zs) (hN : Nms hs ns lv) (l2 : 2 ≤ zs.length) (l6 : zs.length ≤ 6) : Ara (zs.map arS) where
  p := fun a ha => by
    obtain ⟨z, hz, rfl⟩ := List.mem_map.mp ha
    obtain ⟨h1, h2⟩ := h.h z hz
    refine ⟨arN z, ?_, ?_, fun n hn => ?_, rfl⟩
    · unfold arN; rw [List.length_append, List.length_replicate]; exact Nat.le_add_left _ _
    · unfold arN; rw [List.length_append, List.length_replicate]; show z.2.1 + 1 ≤ 4; omega
    · unfold arN at hn
      rcases List.mem_append.mp hn with e | e
      · rw [(List.mem_replicate.mp e).2]; exact hN.oh _ h1
      · rw [List.mem_singleton.mp e]
        exact hN.on _ (by rw [← h.n]; exact List.mem_map.mpr ⟨z, hz, rfl⟩)
  a := by
    have := (MI.pvm (MI.start h (by decide) hN (List.Sublist.refl zs))).apart
    rw [List.take_of_length_le (by rw [List.length_map, List.length_map]; omega), List.map_map] at this
    exact this.imp ovl_comm'
  l := by rw [List.length_map]; exact l2
  m := by rw [List.length_map]; exact l6
theorem rl_el {r : Rl} (h : r.form) : r.d.inn 2000 0 = true ∧ r.d.wt ≤ 13000 ∧ r.d.dp ≤ 3 := TT.bd (by decide) (rule_TT h).1 (rule_TT h).2.1
theorem rls_all {rs : List Rl} (h : ∀ r ∈ rs, r.form) (hl : rs.length ≤ 8) : (rlsT rs).inn 2000 0 = true ∧ (rlsT rs).wt ≤ 110000 ∧ (rlsT rs).dp ≤ 4 := by
  have key : ∀ y ∈ rs.map Rl.d, y.inn 2000 0 = true ∧ y.wt ≤ 13000 ∧ y.dp ≤ 3 := fun y hy => by
    obtain ⟨r, hr, rfl⟩ := List.mem_map.mp hy
    exact rl_el (h r hr)
  have w := wtA_le (w := 13000) (xs := rs.map Rl.d) fun x hx => (key x hx).2.1
  have p := dpA_le (p := 3) (xs := rs.map Rl.d) fun x hx => (key x hx).2.2
  rw [List.length_map] at w
  have w2 : 13002 * rs.length ≤ 13002 * 8 := Nat.mul_le_mul_left _ hl
  exact ⟨innA_iff.mpr fun x hx => (key x hx).1, by show wtA _ + 3 ≤ _; omega, by show dpA _ + 1 ≤ 4; omega⟩
/-- repr of a rule, of the rules -/
theorem rep_rl {r : Rl} (h : r.form) {Q : D → Prop} (q : Q (.str (reprT r.d))) : oRepr [r.d] Q := by
  obtain ⟨h1, h2, h3⟩ := rl_el h
  exact ⟨D.inn_sh (by decide) _ h1, Nat.le_trans h2 (by decide), Nat.le_trans h3 (by decide), q⟩
theorem rep_rls {rs : List Rl} (h : Rs 8 rs) {Q : D → Prop} (q : Q (.str (reprT (rlsT rs)))) : oRepr [rlsT rs] Q := by
  obtain ⟨h1, h2, h3⟩ := rls_all h.form h.len
  exact ⟨D.inn_sh (by decide) _ h1, Nat.le_trans h2 (by decide), Nat.le_trans h3 (by decide), q⟩
/-- texts of a rule, of a book -/
def OkR (r : Rl) (t : Str) : Prop := wdsOf t = ruleW r ∧ asc t ∧ 10 ∉ cd t ∧ t.length ≤ 90000
def OkB (rs : List Rl) (t : Str) : Prop := rowsT t = rs.map ruleW ∧ asc t ∧ t.length ≤ 90000
theorem rowsC_lines (rs : List Rl) (hw : ∀ r ∈ rs, ∀ w ∈ ruleW r, Wd w) (hn : ∀ r ∈ rs, ruleW r ≠ []) : rowsT (bookT rs) = rs.map ruleW ∧ asc (bookT rs) := by
  have ecd : cd (bookT rs) = ((rs.map fun r => jnx 32 ((ruleW r).map cd)).map (· ++ [10])).flatten := by
    unfold bookT
    rw [cd_join_e, List.map_map, List.map_map]
    congr 1
    refine List.map_congr_left fun r hr => ?_
    show cd (Txt.join " " (ruleW r) ++ "\n") = jnx 32 ((ruleW r).map cd) ++ [10]
    rw [cd_app, cd_join_sp, show cd (Str.ofString "\n") = [10] from by decide +kernel]
  have h10 : ∀ l ∈ rs.map (fun r => jnx 32 ((ruleW r).map cd)), 10 ∉ l := fun l hl hc => by
    obtain ⟨r, hr, rfl⟩ := List.mem_map.mp hl
    rcases jnx_mem hc with e | ⟨w, hw', hd⟩
    · omega
    · obtain ⟨s, hs, rfl⟩ := List.mem_map.mp hw'
      exact (hw r hr s hs).l hd
  refine ⟨rows_inj ?_, fun d hd => ?_⟩
  · rw [rows_cd, ecd, flat_jnx]
    have e1 : (rs.map ruleW).map (·.map cd) = ((rs.map fun r => jnx 32 ((ruleW r).map cd)).map wdsC).filter fun w => !decide (w = []) := by
      rw [List.map_map, List.map_map]
      have e2 : rs.map (wdsC ∘ fun r => jnx 32 ((ruleW r).map cd)) = rs.map fun r => (ruleW r).map cd := List.map_congr_left fun r hr => wdsC_row fun w hw' => by
        obtain ⟨s, hs, rfl⟩ := List.mem_map.mp hw'
        have := hw r hr s hs
        exact ⟨this.n, this.s, this.h⟩
      rw [e2, List.filter_eq_self.mpr fun w hw' => by
        obtain ⟨r, hr, rfl⟩ := List.mem_map.mp hw'
        rw [decide_eq_false (by simpa using hn r hr)]; rfl]
      rfl
    rw [e1]
    split
    · next h => rw [h]; decide +kernel
    · rw [rowsC_end _ [] (by decide +kernel), rowsC_jnx h10]
  · have hd : d ∈ cd (bookT rs) := hd
    rw [ecd] at hd
    obtain ⟨l, hl, hdl⟩ := List.mem_flatten.mp hd
    obtain ⟨l', hl', rfl⟩ := List.mem_map.mp hl
    rcases List.mem_append.mp hdl with h | h
    · obtain ⟨r, hr, rfl⟩ := List.mem_map.mp hl'
      rcases jnx_mem h with e | ⟨w, hw', hdw⟩
      · omega
      · obtain ⟨s, hs, rfl⟩ := List.mem_map.mp hw'
        exact (hw r hr s hs).a d hdw
    · rw [List.mem_singleton.mp h]; decide
theorem okB_due {rs : List Rl} (h : Rs 8 rs) : OkB rs (bookT rs) := by
  obtain ⟨h1, h2⟩ := rowsC_lines rs (fun r hr => (ruleW_w (h.form r hr)).1) fun r hr e => by have := (ruleW_w (h.form r hr)).2.2; rw [e] at this; simp at this
  refine ⟨h1, h2, ?_⟩
  rw [← cd_len]
  unfold bookT
  rw [cd_join_e]
  refine Nat.le_trans (flat_len (B := 1651) fun l hl => ?_) ?_
  · obtain ⟨s, hs, rfl⟩ := List.mem_map.mp hl
    obtain ⟨r, hr, rfl⟩ := List.mem_map.mp hs
    have hb := ruleT_len (h.form r hr)
    rw [cd_len, app_len, show (Str.ofString "\n").length = 1 by decide +kernel]
    omega
  · rw [List.length_map, List.length_map]
    exact Nat.le_trans (Nat.mul_le_mul_left _ h.len) (by decide)
theorem wd_all {ws : List Str} (h : ∀ w ∈ ws, Wd w) : wdsOf (Txt.join " " ws) = ws ∧ asc (Txt.join " " ws) ∧ 10 ∉ cd (Txt.join " " ws) := by
  have e := cd_join_sp ws
  refine ⟨cd_inj ?_, fun d hd => ?_, fun hd => ?_⟩
  · rw [wds_cd, e]
    exact wdsC_row fun w hw => by
      obtain ⟨s, hs, rfl⟩ := List.mem_map.mp hw
      exact ⟨(h s hs).n, (h s hs).s, (h s hs).h⟩
  · have hd : d ∈ cd (Txt.join " " ws) := hd
    rw [e] at hd
    rcases jnx_mem hd with e | ⟨w, hw, hd⟩
    · rw [e]; decide
    · obtain ⟨s, hs, rfl⟩ := List.mem_map.mp hw
      exact (h s hs).a d hd
  · rw [e] at hd
    rcases jnx_mem hd with e | ⟨w, hw, hd⟩
    · cases e
    · obtain ⟨s, hs, rfl⟩ := List.mem_map.mp hw
      exact (h s hs).l hd
theorem okR_due {r : Rl} (h : r.form) : OkR r (Txt.join " " (ruleW r)) := by
  obtain ⟨h1, h2, h3⟩ := wd_all (ruleW_w h).1
  exact ⟨h1, h2, h3, Nat.le_trans (ruleT_len h) (by decide)⟩
/-! shaped_rule -/
abbrev s_shaped_rule : Stmt := topS 64
theorem sc_shaped_rule : FnScope ["words", "word", "rest", "sides"] ["words"] (defScope s_shaped_rule) := ⟨rfl, rfl, rfl, by decide +kernel, rfl, by decide +kernel, by decide +kernel⟩
def Sp_shaped_rule : DSp := fun _ ds f Q => ∃ r : Rl, ds = [.lst ((ruleW r).map D.str)] ∧ r.form ∧ Q r.d f
theorem sPar_hd {ws : List Str} {w0 : Str} {B : DTS} {g : Option Dk} {f : Nat} {E : DEnds} (h0 : ws[0]? = some w0) (h : B g [.sh (.lst (ws.map D.str)), .sh (.str w0), .sh (.lst ((ws.drop 1).map D.str)), .no] f E) :
    sSeq (sPar false 1 2 (dOp oIx (dVar 0) (dC (D.int 0))) (dSl (dVar 0) (dPart (dC (D.int 1))) fun _ _ f Q => Q none f)) B g (startR 4 [.lst (ws.map D.str)]) f E := by
  refine ⟨.str w0, atI_nat (j := 0) (by rw [List.getElem?_map, h0]; rfl), ?_⟩
  show B g [.sh (.lst (ws.map D.str)), .sh (.str w0), .sh (.lst (cutD (ws.map D.str) (some 1) none)), .no] f E
  rw [show (1 : Int) = ((1 : Nat) : Int) from rfl, cutD_dropS]
  exact h
theorem sIf_ne {rest : List Str} {A B : DTS} {g : Option Dk} {a b c : Sl} {f : Nat} {E : DEnds} (ha : ∀ s ∈ rest, asc s) (hn : rest ≠ []) (h : B g [a, b, .sh (.lst (rest.map D.str)), c] f E) :
    sSeq (sIf (dTest (dOp (oEq false) (dVar 2) (dOfL (dLst dNil)))) A sNext) B g [a, b, .sh (.lst (rest.map D.str)), c] f E := by
  refine ⟨Nat.zero_le _, ?_⟩
  show oEq false (.lst (rest.map D.str)) (.lst (([] : List Str).map D.str)) _
  refine oEq_lst (m := []) ha (by simp) ?_
  rw [decide_eq_false hn]
  exact iteF (nxt h)
set_option maxHeartbeats 2000000 in
theorem ok_shaped_rule (d : Df K mg "shaped_rule" s_shaped_rule) (m_len : mg "len" = none) (m_tuple : mg "tuple" = none) (c_parted : Cal P w K mg base 1 "parted" ["words", "sign"] Sp_parted) : Cal P w K mg base 2 "shaped_rule" ["words"] Sp_shaped_rule := by
  obtain ⟨f, fd, F, m⟩ := d
  refine ⟨f, fd, dfn (k := 1) (S := Sp_shaped_rule) F sc_shaped_rule ?len (fun cdv A outer s H E hr => (dss_cons (ds_par false (i := 1) (j := 2) sc_shaped_rule.nd (de_ix (de_v 0) de_int) (de_sl (de_v 0) (do_some de_int) do_none))
      (dss_cons (ds_if (dp_eq hr.units (de_v 1) de_str) (dss_one (ds_ret (de_tup (da_cons de_str (da_cons (de_callTy call_tuple_of sc_tuple (by rfl) m_tuple (by decide +kernel) (da_cons (de_callC c_parted (hr.mono (by decide)) (da_cons (de_v 2) (da_cons de_str da_nil))) da_nil)) da_nil))))) dss_nil)
      (dss_cons (ds_if (dp_eq hr.units (de_v 1) de_str) (dss_one (ds_ret (de_tup (da_cons de_str (da_cons (de_callTy call_tuple_of sc_tuple (by rfl) m_tuple (by decide +kernel) (da_cons (de_v 2) da_nil)) da_nil))))) dss_nil)
      (dss_cons (ds_if (dp_eq hr.units (de_v 2) (dl_lst da_nil).e) (dss_one (ds_ret de_non)) dss_nil)
      (dss_cons (ds_if (dp_eq hr.units (de_v 1) de_str) (dss_one (ds_ret (de_tup (da_cons de_str (da_cons (de_callTy call_tuple_of sc_tuple (by rfl) m_tuple (by decide +kernel) (da_cons (de_callC c_parted (hr.mono (by decide)) (da_cons (de_sl (de_v 2) (do_some de_int) do_none) (da_cons de_str da_nil))) da_nil)) (da_cons (de_ix (de_v 2) de_int) da_nil)))))) dss_nil)
      (dss_cons (ds_if (dp_eq hr.units (de_v 1) de_str) (dss_one (ds_ret (de_tup (da_cons de_str (da_cons (de_callTy call_tuple_of sc_tuple (by rfl) m_tuple (by decide +kernel) (da_cons (de_sl (de_v 2) (do_some de_int) do_none) da_nil)) (da_cons (de_ix (de_v 2) de_int) da_nil)))))) dss_nil)
      (dss_cons (ds_if (dp_eq hr.units (de_v 1) de_str) (dss_cons (ds_set false (i := 3) sc_shaped_rule.nd (de_callC c_parted (hr.mono (by decide)) (da_cons (de_sl (de_v 2) (do_some de_int) do_none) (da_cons de_str da_nil))))
      (dss_one (ds_ret (de_ifExp (dp_eq hr.units (de_len m_len (da_cons (de_v 3) da_nil)) de_int) (de_tup (da_cons de_str (da_cons (de_ix (de_v 3) de_int) (da_cons (de_ix (de_v 3) de_int) (da_cons (de_ix (de_v 2) de_int) da_nil))))) de_non)))) dss_nil)
      (dss_cons (ds_set false (i := 3) sc_shaped_rule.nd (de_add (de_callC c_parted (hr.mono (by decide)) (da_cons (de_v 2) (da_cons (de_ifExp (dp_eq hr.units (de_v 1) de_str) de_str de_str) da_nil))) (dl_lst (da_cons (de_tup da_nil) da_nil)).e))
      (dss_cons (ds_if (DW.p (dw_or (dp_gt (de_len m_len (da_cons (de_v 3) da_nil)) de_int) (dw_or1 (DW.p (dw_and (dp_eq hr.units (de_len m_len (da_cons (de_v 3) da_nil)) de_int) (dw_and1 (dp_eq hr.units (de_ix (de_v 3) de_int) (de_tup da_nil)))))))) (dss_one (ds_ret de_non)) dss_nil)
      (dss_cons (ds_if (dp_eq hr.units (de_v 1) de_str) (dss_one (ds_ret (de_tup (da_cons de_str (da_cons (de_ix (de_v 3) de_int) (da_cons (de_ix (de_v 3) de_int) da_nil)))))) dss_nil)
      (dss_cons (ds_if (DW.p (dw_and (dp_eq hr.units (de_v 1) de_str) (dw_and1 (dp_eq hr.units (de_len m_len (da_cons (de_ix (de_v 3) de_int) da_nil)) de_int)))) (dss_one (ds_ret (de_tup (da_cons de_str (da_cons (de_ix (de_ix (de_v 3) de_int) de_int) (da_cons (de_ix (de_v 3) de_int) da_nil)))))) dss_nil)
      (dss_one (ds_ret de_non)))))))))))))) ?h, F.kp, F.binds fun _ _ _ _ _ _ us hl => match us, hl with | [_], _ => rfl, m⟩
  case len =>
    intro g ds n Q h; obtain ⟨_, rfl, _⟩ := h; rfl
  case h =>
    intro g ds n Q h
    obtain ⟨r, rfl, hr, q⟩ := h
    obtain ⟨w1, w2, w3⟩ := ruleW_w hr
    have fr : ∀ {s : Str} {l m : Nat} {ps : List Str}, (match cd s with
      | c :: _ => decide (c < 97 ∨ 122 < c)
      | [] => true) = true → rPs l m ps → s ∉ ps := fun hs hp => sign_free hs hp
    have asr : ∀ s ∈ (ruleW r).drop 1, asc s := fun s hs => (w1 s (List.mem_of_mem_drop hs)).a
    have ner : (ruleW r).drop 1 ≠ [] := fun e => by have := congrArg List.length e; rw [List.length_drop] at this; simp only [List.length_nil] at this; omega
    have ldr : ((ruleW r).drop 1).length ≤ 30 := by rw [List.length_drop]; omega
    have ldr2 : (((ruleW r).drop 1).drop 1).length ≤ 1000 := by rw [List.length_drop]; omega
    have eX : ∀ r : Rl, D.lst (cutD (((ruleW r).drop 1).map D.str) (some 1) none) = .lst ((((ruleW r).drop 1).drop 1).map D.str) := fun r => by
      rw [show (some (1 : Int)) = some ((1 : Nat) : Int) from rfl, cutD_dropS]
    have PR : ∀ {rows : List (List Str)}, rRows rows → partW (Str.ofString "|") (rowsW rows) = rows := fun {rows} h => by
      have := part_rows (sign := Str.ofString "|") rfl rows [] (fun e => by have := h.1; rw [e] at this; simp at this) fun r hx => fr (by decide +kernel) (h.2.2 r hx)
      rw [List.nil_append] at this
      exact this
    cases r with
    | forbid ss ts ch =>
      refine sPar_hd (w0 := Str.ofString "forbid") rfl ?_
      refine sIf_N (s := Str.ofString "forbid") rfl (by decide +kernel) (sIf_N (s := Str.ofString "forbid") rfl (by decide +kernel) (sIf_ne asr ner ?_))
      refine sIf_N (s := Str.ofString "forbid") rfl (by decide +kernel) (sIf_N (s := Str.ofString "forbid") rfl (by decide +kernel) (sIf_T (s := Str.ofString "forbid") rfl rfl ?_))
      refine ⟨ss ++ [Str.ofString "->"] ++ ts, Str.ofString "->", congrArg (fun x => [x, D.str (Str.ofString "->")]) (eX (Rl.forbid ss ts ch)), by show (((ruleW (Rl.forbid ss ts ch)).drop 1).drop 1).length ≤ 1000; exact ldr2, ?_⟩
      rw [part_two (fr (by decide +kernel) hr.1) (fr (by decide +kernel) hr.2)]
      simp only [List.set_cons_succ, List.set_cons_zero, setsR, startR, List.map_cons, List.map_nil, List.cons_append, List.nil_append, List.replicate_succ, List.replicate_zero, List.length_cons, List.length_nil, Nat.reduceAdd, Nat.reduceSub]
      exact ⟨_, atI_nat (j := 0) rfl, _, atI_nat (j := 1) rfl, _, atI_nat (j := 0) rfl, show 4 ≤ lim by decide, q⟩
    | layers rows ch =>
      refine sPar_hd (w0 := Str.ofString "layers") rfl ?_
      refine sIf_N (s := Str.ofString "layers") rfl (by decide +kernel) (sIf_N (s := Str.ofString "layers") rfl (by decide +kernel) (sIf_ne asr ner ?_))
      refine sIf_T (s := Str.ofString "layers") rfl rfl ?_
      refine ⟨rowsW rows, Str.ofString "|", congrArg (fun x => [x, D.str (Str.ofString "|")]) (eX (Rl.layers rows ch)), by show (((ruleW (Rl.layers rows ch)).drop 1).drop 1).length ≤ 1000; exact ldr2, ?_⟩
      rw [PR hr]
      exact ⟨_, atI_nat (j := 0) rfl, show 3 ≤ lim by decide, q⟩
    | stairs rows =>
      refine sPar_hd (w0 := Str.ofString "stairs") rfl ?_
      refine sIf_T (s := Str.ofString "stairs") rfl rfl ?_
      refine ⟨rowsW rows, Str.ofString "|", rfl, by show ((ruleW (Rl.stairs rows)).drop 1).length ≤ 1000; omega, ?_⟩
      rw [PR hr]
      exact ⟨show 2 ≤ lim by decide, q⟩
    | apart ps ch =>
      refine sPar_hd (w0 := Str.ofString "apart") rfl ?_
      refine sIf_N (s := Str.ofString "apart") rfl (by decide +kernel) (sIf_N (s := Str.ofString "apart") rfl (by decide +kernel) (sIf_ne asr ner ?_))
      refine sIf_N (s := Str.ofString "apart") rfl (by decide +kernel) (sIf_T (s := Str.ofString "apart") rfl rfl ?_)
      refine ⟨_, atI_nat (j := 0) rfl, show 3 ≤ lim by decide, ?_⟩
      have e := D.lst.inj (eX (Rl.apart ps ch))
      show Q (.tup [.str (Str.ofString "apart"), .tup (cutD (((ruleW (Rl.apart ps ch)).drop 1).map D.str) (some 1) none), .str (howS ch)]) n
      rw [e]
      exact q
    | noring ps =>
      refine sPar_hd (w0 := Str.ofString "noring") rfl ?_
      refine sIf_N (s := Str.ofString "noring") rfl (by decide +kernel) (sIf_T (s := Str.ofString "noring") rfl rfl ?_)
      exact ⟨show 2 ≤ lim by decide, q⟩
    | only ts us =>
      refine sPar_hd (w0 := Str.ofString "only") rfl ?_
      refine sIf_N (s := Str.ofString "only") rfl (by decide +kernel) (sIf_N (s := Str.ofString "only") rfl (by decide +kernel) (sIf_ne asr ner ?_))
      refine sIf_N (s := Str.ofString "only") rfl (by decide +kernel) (sIf_N (s := Str.ofString "only") rfl (by decide +kernel) (sIf_N (s := Str.ofString "only") rfl (by decide +kernel) (?_)))
      refine ⟨ts ++ sgW "<-" us, Str.ofString "<-", rfl, by show ((ruleW (Rl.only ts us)).drop 1).length ≤ 1000; omega, ?_⟩
      by_cases h0 : us = []
      · subst h0
        rw [show sgW "<-" [] = [] from rfl, List.append_nil, part_one (fr (by decide +kernel) hr.1)]
        refine ⟨Nat.zero_le _, show 1 ≤ lim by decide, show 2 ≤ lim by decide, ?_⟩
        simp only [List.set_cons_succ, List.set_cons_zero, setsR, startR, List.map_cons, List.map_nil, List.cons_append, List.nil_append, List.replicate_succ, List.replicate_zero, List.length_cons, List.length_nil, Nat.reduceAdd, Nat.reduceSub]
        exact ⟨_, atI_nat (j := 0) rfl, _, atI_nat (j := 1) rfl, show 3 ≤ lim by decide, q⟩
      · have es : ts ++ sgW "<-" us = ts ++ [Str.ofString "<-"] ++ us := by unfold sgW; rw [if_neg h0, List.append_assoc]
        rw [es, part_two (fr (by decide +kernel) hr.1) (fr (by decide +kernel) hr.2)]
        refine ⟨Nat.zero_le _, show 1 ≤ lim by decide, show 3 ≤ lim by decide, ?_⟩
        simp only [List.set_cons_succ, List.set_cons_zero, setsR, startR, List.map_cons, List.map_nil, List.cons_append, List.nil_append, List.replicate_succ, List.replicate_zero, List.length_cons, List.length_nil, Nat.reduceAdd, Nat.reduceSub]
        refine ⟨_, atI_nat (j := 1) rfl, Nat.zero_le _, ?_⟩
        show oEq false (.tup (us.map D.str)) (.tup (([] : List Str).map D.str)) _
        refine oEq_tup (strs_asc hr.2) (by simp) ?_
        rw [decide_eq_false h0]
        exact ⟨_, atI_nat (j := 0) rfl, _, atI_nat (j := 1) rfl, show 3 ≤ lim by decide, q⟩
    | face p es =>
      refine sPar_hd (w0 := Str.ofString "face") rfl ?_
      refine sIf_N (s := Str.ofString "face") rfl (by decide +kernel) (sIf_N (s := Str.ofString "face") rfl (by decide +kernel) (sIf_ne asr ner ?_))
      refine sIf_N (s := Str.ofString "face") rfl (by decide +kernel) (sIf_N (s := Str.ofString "face") rfl (by decide +kernel) (sIf_N (s := Str.ofString "face") rfl (by decide +kernel) (?_)))
      have f1 : Str.ofString ":" ∉ [p] := fun e => sign_path (sign := Str.ofString ":") (by decide +kernel) hr.1 (List.mem_singleton.mp e).symm
      refine ⟨[p] ++ sgW ":" es, Str.ofString ":", rfl, by show ((ruleW (Rl.face p es)).drop 1).length ≤ 1000; omega, ?_⟩
      by_cases h0 : es = []
      · subst h0
        rw [show sgW ":" [] = [] from rfl, List.append_nil, part_one f1]
        refine ⟨Nat.zero_le _, show 1 ≤ lim by decide, show 2 ≤ lim by decide, ?_⟩
        simp only [List.set_cons_succ, List.set_cons_zero, setsR, startR, List.map_cons, List.map_nil, List.cons_append, List.nil_append, List.replicate_succ, List.replicate_zero, List.length_cons, List.length_nil, Nat.reduceAdd, Nat.reduceSub]
        refine ⟨_, atI_nat (j := 0) rfl, ?_⟩
        exact ⟨_, atI_nat (j := 0) rfl, _, atI_nat (j := 0) rfl, _, atI_nat (j := 1) rfl, show 3 ≤ lim by decide, q⟩
      · have es' : [p] ++ sgW ":" es = [p] ++ [Str.ofString ":"] ++ es := by unfold sgW; rw [if_neg h0, List.append_assoc]
        rw [es', part_two f1 (fr (by decide +kernel) hr.2.1)]
        refine ⟨Nat.zero_le _, show 1 ≤ lim by decide, show 3 ≤ lim by decide, ?_⟩
        simp only [List.set_cons_succ, List.set_cons_zero, setsR, startR, List.map_cons, List.map_nil, List.cons_append, List.nil_append, List.replicate_succ, List.replicate_zero, List.length_cons, List.length_nil, Nat.reduceAdd, Nat.reduceSub]
        refine ⟨_, atI_nat (j := 1) rfl, Nat.zero_le _, ?_⟩
        show oEq false (.tup (es.map D.str)) (.tup (([] : List Str).map D.str)) _
        refine oEq_tup (strs_asc hr.2.1) (by simp) ?_
        rw [decide_eq_false h0]
        refine ⟨_, atI_nat (j := 0) rfl, ?_⟩
        exact ⟨_, atI_nat (j := 0) rfl, _, atI_nat (j := 0) rfl, _, atI_nat (j := 1) rfl, show 3 ≤ lim by decide, q⟩
/-! rule_of_words -/
abbrev s_rule_of_words : Stmt := topS 65
theorem sc_rule_of_words : FnScope ["words", "rule"] ["words"] (defScope s_rule_of_words) := ⟨rfl, rfl, rfl, by decide +kernel, rfl, by decide +kernel, by decide +kernel⟩
def Sp_rule_of_words : DSp := fun _ ds f Q => ∃ r : Rl, ds = [.lst ((ruleW r).map D.str)] ∧ r.form ∧ ovlL r.par = false ∧ Q r.d f
set_option maxHeartbeats 2000000 in
theorem ok_rule_of_words (d : Df K mg "rule_of_words" s_rule_of_words) (c_rule_error : Cal P w K mg base 7 "rule_error" ["value"] Sp_rule_error) (c_shaped_rule : Cal P w K mg base 2 "shaped_rule" ["words"] Sp_shaped_rule) : Cal P w K mg base 8 "rule_of_words" ["words"] Sp_rule_of_words := by
  obtain ⟨f, fd, F, m⟩ := d
  refine ⟨f, fd, dfn (k := 7) (S := Sp_rule_of_words) F sc_rule_of_words ?len (fun cdv A outer s H E hr => (dss_cons (ds_if (dp_eq hr.units (de_v 0) (dl_lst da_nil).e) (dss_one (ds_ret de_non)) dss_nil)
      (dss_cons (ds_set false (i := 1) sc_rule_of_words.nd (de_callC c_shaped_rule (hr.mono (by decide)) (da_cons (de_v 0) da_nil)))
      (dss_cons (ds_if (DW.p (dw_or (dp_isN (de_v 1) de_non) (dw_or1 (dp_notN (de_callC c_rule_error (hr.mono (by decide)) (da_cons (de_v 1) da_nil)) de_non)))) (dss_one (ds_ret de_non)) dss_nil)
      (dss_one (ds_ret (de_v 1))))))) ?h, F.kp, F.binds fun _ _ _ _ _ _ us hl => match us, hl with | [_], _ => rfl, m⟩
  case len =>
    intro g ds n Q h; obtain ⟨_, rfl, _⟩ := h; rfl
  case h =>
    intro g ds n Q h
    obtain ⟨r, rfl, hr, ho, q⟩ := h
    obtain ⟨w1, w2, w3⟩ := ruleW_w hr
    refine ⟨by decide, ?_⟩
    show oEq false (.lst ((ruleW r).map D.str)) (.lst (([] : List Str).map D.str)) _
    refine oEq_lst (m := []) (fun s hs => (w1 s hs).a) (by simp) ?_
    rw [decide_eq_false (fun e : ruleW r = [] => by rw [e] at w3; simp at w3)]
    refine iteF (nxt ?_)
    refine ⟨r, rfl, hr, ?_⟩
    refine ⟨r.d, rfl, ?_, ?_⟩
    · exact D.inn_good (by decide) _ ((TT.inn 3 _ (rule_TT hr).1) : r.d.inn 40 0 = true)
    rw [ruleErr_ok hr ho]
    exact q
/-! read_book -/
abbrev s_read_book : Stmt := topS 69
theorem sc_read_book : FnScope ["value", "rules", "number", "words", "rule"] ["value"] (defScope s_read_book) := ⟨rfl, rfl, rfl, by decide +kernel, rfl, by decide +kernel, by decide +kernel⟩
def Sp_read_book : DSp := fun _ ds f Q => ∃ (t : Str) (rs : List Rl), ds = [.str t] ∧ asc t ∧ t.length ≤ 90000 ∧ rowsT t = rs.map ruleW ∧ Rs 8 rs ∧ Q (bkD rs) f
set_option maxHeartbeats 2000000 in
theorem ok_read_book (d : Df K mg "read_book" s_read_book) (m_tuple : mg "tuple" = none) (m_len : mg "len" = none) (g_MAX_RULES : ∃ t, mg "MAX_RULES" = some (.int 8 t)) {C_Book : Addr} (k_Book : KC K "Book" C_Book) (c_Book___init__ : MkrX P w K mg base 9 "Book" ["self", "rules"] Sp_Book___init__) (c_numbered_lines : Cal P w K mg base 2 "numbered_lines" ["value"] Sp_numbered_lines) (c_rule_of_words : Cal P w K mg base 8 "rule_of_words" ["words"] Sp_rule_of_words) : Cal P w K mg base 11 "read_book" ["value"] Sp_read_book := by
  obtain ⟨f, fd, F, m⟩ := d
  refine ⟨f, fd, dfn (k := 10) (S := Sp_read_book) F sc_read_book ?len (fun cdv A outer s H E hr => (dss_cons (ds_setL false (i := 1) sc_read_book.nd (dl_lst da_nil))
      (dss_cons (ds_for [] PassesOwn.never (di_seq (de_callC c_numbered_lines (hr.mono (by decide)) (da_cons (de_v 0) da_nil))) (dg_tup rfl (dgs_cons (dg_name (i := 2) sc_read_book.nd) (dgs_cons (dg_name (i := 3) sc_read_book.nd) dgs_nil))) (dss_cons (ds_set false (i := 4) sc_read_book.nd (de_callC c_rule_of_words (hr.mono (by decide)) (da_cons (de_v 3) da_nil)))
      (dss_cons (ds_if (dp_isN (de_v 4) de_non) (dss_one ds_never) dss_nil)
      (dss_cons (ds_if (dp_in hr (de_v 4) (de_v 1)) (dss_one ds_never) dss_nil)
      (dss_cons (ds_if (dp_eq hr.units (de_len m_len (da_cons (de_v 1) da_nil)) (de_glob (v := .int 8) (d := .int 8) (by rfl) g_MAX_RULES.choose_spec ⟨_, rfl⟩ (fun _ => rfl))) (dss_one ds_never) dss_nil)
      (dss_one (ds_app false (i := 1) (de_v 4))))))))
      (dss_one (ds_frz [1] (ds_retX (dex_make c_Book___init__ (hr.mono (by decide)) (da_cons (de_callTy call_tuple_of sc_tuple (by rfl) m_tuple (by decide +kernel) (da_cons (de_v 1) da_nil)) da_nil)))))))) ?h, F.kp, F.binds fun _ _ _ _ _ _ us hl => match us, hl with | [_], _ => rfl, m⟩
  case len =>
    intro g ds n Q h; obtain ⟨_, _, rfl, _⟩ := h; rfl
  case h =>
    intro g ds n Q h
    obtain ⟨t, rs, rfl, ha, hl, hw, hr, q⟩ := h
    have hrl := hr.len
    refine ⟨Nat.zero_le _, ?_⟩
    refine ⟨t, rfl, ha, hl, ?_⟩
    rw [← numL_eq]
    generalize hZ : ((((Txt.split t "\n").zipIdx 1).map nlY).filter fun q => !decide (q.2 = [])) = Z
    have hz : Z.map (·.2) = rs.map ruleW := by
      rw [← hZ, rows_zip]
      exact hw
    simp only [List.set_cons_succ, List.set_cons_zero, setsR, startR, List.map_cons, List.map_nil, List.cons_append, List.nil_append, List.replicate_succ, List.replicate_zero, List.length_cons, List.length_nil, Nat.reduceAdd, Nat.reduceSub]
    refine dFor_list nl2 (fun done rest r f => f = n ∧ ∃ (ra rb : List Rl) (a b c : Sl), rs = ra ++ rb ∧ rest.map (·.2) = rb.map ruleW ∧ r = [.sh (.str t), .ow (ra.map Rl.d), a, b, c]) Z _ _ ?_ ?_ ⟨rfl, [], rs, _, _, _, rfl, hz, rfl⟩
    · rintro done z rest r f N hx ⟨rfl, ra, rb, a, b, c, hrs, hre, rfl⟩ hN
      cases rb with
      | nil => cases hre
      | cons r0 rb =>
        obtain ⟨e1, e2⟩ := List.cons.inj hre
        have hm : r0 ∈ rs := by rw [hrs]; simp
        obtain ⟨o1, o2⟩ := hr.ok r0 hm
        have hlen := congrArg List.length hrs
        rw [List.length_append, List.length_cons] at hlen
        have hra : ∀ r ∈ ra, r.form := fun r hra => hr.form r (by rw [hrs]; simp [hra])
        refine ⟨_, rfl, ?_⟩
        refine ⟨r0, ?_, o1, o2, ?_⟩
        · show [lstS z.2] = _
          rw [show z.2 = ruleW r0 from e1]
          rfl
        simp only [List.set_cons_succ, List.set_cons_zero, setsR, startR, List.map_cons, List.map_nil, List.cons_append, List.nil_append, List.replicate_succ, List.replicate_zero, List.length_cons, List.length_nil, Nat.reduceAdd, Nat.reduceSub]
        refine ⟨(Rl.shp o1).of (by decide), (rls_shpL hra).of (by decide), ?_⟩
        have hnm : memR ra r0 = false := by
          cases e : memR ra r0 with
          | false => rfl
          | true =>
            have h1 := (memR_iff hra o1).mp e
            have hnd := hr.nd
            rw [hrs, List.map_append, List.map_cons, List.nodup_append] at hnd
            exact absurd rfl (hnd.2.2 _ h1 _ (by simp))
        show if memR ra r0 = true then _ else _
        rw [hnm]
        refine iteF (nxt ?_)
        show if decide (((ra.map Rl.d).length : Int) = 8) = true then _ else _
        rw [decide_eq_false (by rw [List.length_map]; omega)]
        refine iteF (nxt ?_)
        exact ⟨_, rfl, by rw [List.length_map]; exact L1 (by omega), hN _ _ ⟨rfl, ra ++ [r0], rb, _, _, _, by rw [hrs]; simp, e2, by rw [List.map_append]; rfl⟩⟩
    · rintro r f ⟨rfl, ra, rb, a, b, c, hrs, hre, rfl⟩
      have hb : rb = [] := by
        cases rb with
        | nil => rfl
        | cons x y => cases hre
      subst hb
      rw [List.append_nil] at hrs
      subst hrs
      refine ⟨_, rfl, rls_good hr.form, fun hne => absurd (bookErr_ok hr) hne, fun rs' e hrs => ?_⟩
      have e : rlsT rs = rlsT rs' := e
      have eb : bkD rs' = bkD rs := by unfold bkD; rw [e]
      rw [eb]; exact q
/-! read_rule -/
abbrev s_read_rule : Stmt := topS 68
theorem sc_read_rule : FnScope ["value", "rule"] ["value"] (defScope s_read_rule) := ⟨rfl, rfl, rfl, by decide +kernel, rfl, by decide +kernel, by decide +kernel⟩
def Sp_read_rule : DSp := fun _ ds f Q => ∃ (t : Str) (r : Rl), ds = [.str t] ∧ asc t ∧ t.length ≤ 90000 ∧ 10 ∉ cd t ∧ wdsOf t = ruleW r ∧ r.form ∧ ovlL r.par = false ∧ Q r.d f
set_option maxHeartbeats 2000000 in
theorem ok_read_rule (d : Df K mg "read_rule" s_read_rule) (m_str : mg "str" = none) (m_isinstance : mg "isinstance" = none) (c_rule_of_words : Cal P w K mg base 8 "rule_of_words" ["words"] Sp_rule_of_words) (c_words_of : Cal P w K mg base 1 "words_of" ["line"] Sp_words_of) : Cal P w K mg base 9 "read_rule" ["value"] Sp_read_rule := by
  obtain ⟨f, fd, F, m⟩ := d
  refine ⟨f, fd, dfn (k := 8) (S := Sp_read_rule) F sc_read_rule ?len (fun cdv A outer s H E hr => (dss_cons (ds_if (dp_not (dp_val (de_isi m_isinstance (da_cons (de_v 0) (da_cons (de_bltn (v := .ty "str") (u := .type "str") (by rfl) m_str (by decide +kernel) rfl) da_nil))))) (dss_one ds_never) dss_nil)
      (dss_cons (ds_set false (i := 1) sc_read_rule.nd de_non)
      (dss_cons (ds_if (dp_notIn hr de_str (de_v 0)) (dss_one (ds_set false (i := 1) sc_read_rule.nd (de_callC c_rule_of_words (hr.mono (by decide)) (da_cons (de_callC c_words_of (hr.mono (by decide)) (da_cons (de_v 0) da_nil)) da_nil)))) dss_nil)
      (dss_cons (ds_if (dp_isN (de_v 1) de_non) (dss_one ds_never) dss_nil)
      (dss_one (ds_ret (de_v 1)))))))) ?h, F.kp, F.binds fun _ _ _ _ _ _ us hl => match us, hl with | [_], _ => rfl, m⟩
  case len =>
    intro g ds n Q h; obtain ⟨_, _, rfl, _⟩ := h; rfl
  case h =>
    intro g ds n Q h
    obtain ⟨t, r, rfl, ha, hl, hn, hw, hr, ho, q⟩ := h
    refine ⟨"str", true, rfl, by decide +kernel, ?_⟩
    refine ⟨10, congrArg D.str (by decide +kernel), ?_⟩
    show if (!decide (10 ∈ t.cps.toList)) = true then _ else _
    rw [decide_eq_false (show ¬ 10 ∈ t.cps.toList from hn)]
    refine iteT ⟨t, rfl, ha, hl, ?_⟩
    rw [hw]
    refine ⟨r, rfl, hr, ho, ?_⟩
    exact q
/-! _law_rule_words -/
abbrev s__law_rule_words : Stmt := topS 82
theorem sc__law_rule_words : FnScope ["_law_rule_here", "_law_found", "_law_k"] ["_law_rule_here"] (defScope s__law_rule_words) := ⟨rfl, rfl, rfl, by decide +kernel, rfl, by decide +kernel, by decide +kernel⟩
theorem rowsW_snoc : ∀ (l : List (List Str)) (r : List Str), rowsW (l ++ [r]) = rowsW l ++ (if l = [] then [] else [Str.ofString "|"]) ++ r
  | [], r => rfl
  | [a], r => by
    show a ++ Str.ofString "|" :: r = a ++ [Str.ofString "|"] ++ r
    simp
  | a :: b :: l, r => by
    have := rowsW_snoc (b :: l) r
    show a ++ Str.ofString "|" :: rowsW ((b :: l) ++ [r]) = (a ++ Str.ofString "|" :: rowsW (b :: l)) ++ [Str.ofString "|"] ++ r
    rw [this, if_neg (by simp)]
    simp
def Sp__law_rule_words : DSp := fun _ ds f Q => ∃ r : Rl, ds = [r.d] ∧ r.form ∧ Q (lstS (ruleW r)) f
set_option maxHeartbeats 2000000 in
theorem ok__law_rule_words (d : Df K mg "_law_rule_words" s__law_rule_words) (m_range : mg "range" = none) (m_len : mg "len" = none) (m_list : mg "list" = none) : Cal P w K mg base 1 "_law_rule_words" ["_law_rule_here"] Sp__law_rule_words := by
  obtain ⟨f, fd, F, m⟩ := d
  refine ⟨f, fd, dfn (k := 0) (S := Sp__law_rule_words) F sc__law_rule_words ?len (fun cdv A outer s H E hr => (dss_cons (ds_if (dp_eq hr.units (de_ix (de_v 0) de_int) de_str) (dss_one (ds_ret (de_add (dl_lst (da_cons de_str da_nil)).e (de_callTy call_list_of sc_list (by rfl) m_list (by decide +kernel) (da_cons (de_ix (de_v 0) de_int) da_nil))))) dss_nil)
      (dss_cons (ds_if (dp_eq hr.units (de_ix (de_v 0) de_int) de_str) (dss_one (ds_ret (de_add (dl_lst (da_cons de_str (da_cons (de_ix (de_v 0) de_int) da_nil))).e (de_callTy call_list_of sc_list (by rfl) m_list (by decide +kernel) (da_cons (de_ix (de_v 0) de_int) da_nil))))) dss_nil)
      (dss_cons (ds_if (dp_eq hr.units (de_ix (de_v 0) de_int) de_str) (dss_one (ds_ret (de_add (de_add (de_add (dl_lst (da_cons de_str (da_cons (de_ix (de_v 0) de_int) da_nil))).e (de_callTy call_list_of sc_list (by rfl) m_list (by decide +kernel) (da_cons (de_ix (de_v 0) de_int) da_nil))) (dl_lst (da_cons de_str da_nil)).e) (de_callTy call_list_of sc_list (by rfl) m_list (by decide +kernel) (da_cons (de_ix (de_v 0) de_int) da_nil))))) dss_nil)
      (dss_cons (ds_if (dp_eq hr.units (de_ix (de_v 0) de_int) de_str) (dss_one (ds_ret (de_add (de_add (de_add (dl_lst (da_cons de_str da_nil)).e (de_callTy call_list_of sc_list (by rfl) m_list (by decide +kernel) (da_cons (de_ix (de_v 0) de_int) da_nil))) (de_ifExp (dp_ne hr.units (de_ix (de_v 0) de_int) (de_tup da_nil)) (dl_lst (da_cons de_str da_nil)).e (dl_lst da_nil).e)) (de_callTy call_list_of sc_list (by rfl) m_list (by decide +kernel) (da_cons (de_ix (de_v 0) de_int) da_nil))))) dss_nil)
      (dss_cons (ds_if (dp_eq hr.units (de_ix (de_v 0) de_int) de_str) (dss_one (ds_ret (de_add (de_add (dl_lst (da_cons de_str (da_cons (de_ix (de_v 0) de_int) da_nil))).e (de_ifExp (dp_ne hr.units (de_ix (de_v 0) de_int) (de_tup da_nil)) (dl_lst (da_cons de_str da_nil)).e (dl_lst da_nil).e)) (de_callTy call_list_of sc_list (by rfl) m_list (by decide +kernel) (da_cons (de_ix (de_v 0) de_int) da_nil))))) dss_nil)
      (dss_cons (ds_set false (i := 1) sc__law_rule_words.nd (de_ifExp (dp_eq hr.units (de_ix (de_v 0) de_int) de_str) (dl_lst (da_cons de_str (da_cons (de_ix (de_v 0) de_int) da_nil))).e (dl_lst (da_cons de_str da_nil)).e))
      (dss_cons (ds_for [] PassesOwn.never (di_range1 m_range (da_cons (de_len m_len (da_cons (de_ix (de_v 0) de_int) da_nil)) da_nil)) (dg_name (i := 2) sc__law_rule_words.nd) (dss_one (ds_set false (i := 1) sc__law_rule_words.nd (de_add (de_add (de_v 1) (de_ifExp (dp_gt (de_v 2) de_int) (dl_lst (da_cons de_str da_nil)).e (dl_lst da_nil).e)) (de_callTy call_list_of sc_list (by rfl) m_list (by decide +kernel) (da_cons (de_ix (de_ix (de_v 0) de_int) (de_v 2)) da_nil))))))
      (dss_one (ds_ret (de_v 1))))))))))) ?h, F.kp, F.binds fun _ _ _ _ _ _ us hl => match us, hl with | [_], _ => rfl, m⟩
  case len =>
    intro g ds n Q h; obtain ⟨_, rfl, _⟩ := h; rfl
  case h =>
    intro g ds n Q h
    obtain ⟨r, rfl, hr, q⟩ := h
    unfold lstS at q
    have L : ∀ {l m : Nat} {ps : List Str}, rPs l m ps → m ≤ 6 → ps.length ≤ 6 := fun hp hm => Nat.le_trans hp.2.1 hm
    have loop : ∀ (w : Str) (rows : List (List Str)) (hd : List Str) (d : D) (rest : List D) (b : Sl), d = .tup (.str w :: .tup (rows.map tps) :: rest) → rRows rows → hd.length ≤ 2 → Q (.lst ((hd ++ rowsW rows).map D.str)) n →
        sSeq (sFor [] (dRng1 (dCons (dCB oLen (dCons (dOp oIx (dVar 0) (dC (D.int 1))) dNil)) dNil)) (tgN 2) (sSet false 1 (dOp oAdd (dOp oAdd (dVar 1) (dIf (dTest (dOp (oI0 fun i j => D.bool (decide (j < i))) (dVar 2) (dC (D.int 0)))) (dOfL (dLst (dCons (dC (D.str (Str.ofString "|"))) dNil))) (dOfL (dLst dNil)))) (dCB oList (dCons (dOp oIx (dOp oIx (dVar 0) (dC (D.int 1))) (dVar 2)) dNil))))) (sRet (dVar 1))
        g [.sh d, .sh (.lst (hd.map D.str)), b] n { nx := fun x n => Q D.none n, rt := Q } := fun w rows hd d rest b hd0 hr hl q => by
      subst hd0
      have l1 := hr.2.1
      refine ⟨_, atI_nat (j := 1) rfl, by rw [List.length_map]; omega, by rw [List.length_map]; omega, ?_⟩
      rw [List.length_map, show ((rows.length : Int)).toNat = rows.length by omega]
      refine dFor_range (fun i r f => f = n ∧ ∃ b : Sl, r = [.sh (.tup (.str w :: .tup (rows.map tps) :: rest)), .sh (.lst ((hd ++ rowsW (rows.take i)).map D.str)), b]) 0 rows.length _ _ ?_ ?_ ⟨rfl, b, by rw [List.take_zero, show rowsW [] = [] from rfl, List.append_nil]; rfl⟩
      · rintro i r f N hi ⟨rfl, b, rfl⟩ hN
        have hm := hr.2.2 rows[i] (List.getElem_mem hi)
        have k1 := hm.2.1
        have et : rows.take (i + 1) = rows.take i ++ [rows[i]] := by rw [List.take_add_one, List.getElem?_eq_getElem hi]; rfl
        have kl := rowsW_len (rows := rows.take i) fun r hx => (hr.2.2 r (List.mem_of_mem_take hx)).2.1
        have k2 : (rows.take i).length ≤ 5 := by rw [List.length_take]; omega
        have k3 : (rowsW (rows.take i)).length ≤ 25 := by omega
        have g2 : atI (rows.map tps) (0 + (i : Int)) = some (tps rows[i]) := by
          rw [Int.zero_add]
          exact atI_nat (by rw [List.getElem?_map, List.getElem?_eq_getElem hi]; rfl)
        refine ⟨_, rfl, ?_⟩
        show if decide ((0 : Int) < 0 + (i : Int)) = true then _ else _
        by_cases h0 : i = 0
        · subst h0
          rw [decide_eq_false (by omega)]
          refine iteF ⟨Nat.zero_le _, ?_⟩
          show _ ∧ _
          rw [show ([] : List D) = ([] : List Str).map D.str from rfl, ← List.map_append, List.length_map, List.length_map, List.append_nil]
          refine ⟨L1 (by rw [List.length_append]; simp only [List.length_nil]; omega), _, atI_nat (j := 1) rfl, _, g2, by rw [List.length_map, List.length_map, List.length_append]; exact L1 (by omega), hN _ _ ⟨rfl, .sh (.int (0 + ((0 : Nat) : Int))), ?_⟩⟩
          rw [et, rowsW_snoc, List.take_zero, ← List.map_append]
          simp [rowsW]
          rfl
        · rw [decide_eq_true (by omega)]
          refine iteT ⟨show 1 ≤ lim by decide, ?_⟩
          show _ ∧ _
          rw [show ([D.str (Str.ofString "|")] : List D) = ([Str.ofString "|"] : List Str).map D.str from rfl, ← List.map_append, List.length_map, List.length_map]
          refine ⟨L1 (by rw [List.length_append]; simp only [List.length_cons, List.length_nil]; omega), _, atI_nat (j := 1) rfl, _, g2, by rw [List.length_map, List.length_map, List.length_append, List.length_append]; simp only [List.length_cons, List.length_nil]; exact L1 (by omega), hN _ _ ⟨rfl, .sh (.int (0 + (i : Int))), ?_⟩⟩
          rw [et, rowsW_snoc, if_neg (fun e => by have := congrArg List.length e; rw [List.length_take] at this; simp only [List.length_nil] at this; omega), ← List.map_append, ← List.append_assoc, ← List.append_assoc]
          rfl
      · rintro r f ⟨rfl, b, rfl⟩
        rw [List.take_length]
        exact q
    cases r with
    | noring ps =>
      have := L hr (by decide)
      exact ⟨_, atI0, show 1 ≤ lim by decide, _, atI_nat (j := 1) rfl, by rw [List.length_map]; exact L1 (by show 1 + ps.length ≤ 100000; omega), q⟩
    | apart ps ch =>
      have := L hr (by decide)
      exact ⟨_, atI0, _, atI0, _, atI_nat (j := 2) rfl, show 2 ≤ lim by decide, _, atI_nat (j := 1) rfl, by rw [List.length_map]; exact L1 (by show 2 + ps.length ≤ 100000; omega), q⟩
    | forbid ss ts ch =>
      have h1 := L hr.1 (by decide)
      have h2 := L hr.2 (by decide)
      unfold ruleW at q
      simp only [List.map_append, List.map_cons, List.map_nil] at q
      refine ⟨_, atI0, _, atI0, _, atI0, _, atI_nat (j := 3) rfl, show 2 ≤ lim by decide, _, atI_nat (j := 1) rfl, by rw [List.length_map]; exact L1 (by show 2 + ss.length ≤ 100000; omega), show 1 ≤ lim by decide, L1 (by simp only [List.length_append, List.length_map, List.length_cons, List.length_nil]; omega), _, atI_nat (j := 2) rfl, L1 (by simp only [List.length_append, List.length_map, List.length_cons, List.length_nil]; omega), q⟩
    | only ts us =>
      have h1 := L hr.1 (by decide)
      have h2 := L hr.2 (by decide)
      refine ⟨_, atI0, _, atI0, _, atI0, _, atI0, show 1 ≤ lim by decide, _, atI_nat (j := 1) rfl, by rw [List.length_map]; exact L1 (by show 1 + ts.length ≤ 100000; omega), _, atI_nat (j := 2) rfl, Nat.zero_le _, ?_⟩
      show oEq true (.tup (us.map D.str)) (.tup (([] : List Str).map D.str)) _
      refine oEq_tup (strs_asc hr.2) (by simp) ?_
      by_cases h0 : us = []
      · subst h0
        rw [decide_eq_true rfl]
        have q : Q (.lst (([Str.ofString "only"] ++ ts ++ []).map D.str)) n := q
        have q2 : Q (.lst ([D.str (Str.ofString "only")] ++ ts.map D.str ++ [] ++ [])) n := by
          rw [List.append_nil, List.map_append] at q
          rw [List.append_nil, List.append_nil]
          exact q
        exact ⟨Nat.zero_le _, L1 (by simp only [List.length_append, List.length_map, List.length_cons, List.length_nil]; omega), _, atI_nat (j := 2) rfl, L1 (by simp only [List.length_append, List.length_map, List.length_cons, List.length_nil]; omega), q2⟩
      · rw [decide_eq_false h0]
        have eW : ruleW (Rl.only ts us) = [Str.ofString "only"] ++ ts ++ [Str.ofString "<-"] ++ us := by
          show [Str.ofString "only"] ++ ts ++ ((if us = [] then [] else [Str.ofString "<-"]) ++ us) = _
          rw [if_neg h0, List.append_assoc ([Str.ofString "only"] ++ ts)]
        rw [eW] at q
        simp only [List.map_append, List.map_cons, List.map_nil] at q
        exact ⟨show 1 ≤ lim by decide, L1 (by simp only [List.length_append, List.length_map, List.length_cons, List.length_nil]; omega), _, atI_nat (j := 2) rfl, L1 (by simp only [List.length_append, List.length_map, List.length_cons, List.length_nil]; omega), q⟩
    | face p es =>
      have h2 := L hr.2.1 (by decide)
      refine ⟨_, atI0, _, atI0, _, atI0, _, atI0, _, atI0, _, atI_nat (j := 1) rfl, show 2 ≤ lim by decide, _, atI_nat (j := 2) rfl, Nat.zero_le _, ?_⟩
      show oEq true (.tup (es.map D.str)) (.tup (([] : List Str).map D.str)) _
      refine oEq_tup (strs_asc hr.2.1) (by simp) ?_
      by_cases h0 : es = []
      · subst h0
        rw [decide_eq_true rfl]
        have q : Q (.lst (([Str.ofString "face", p] ++ []).map D.str)) n := q
        simp only [List.map_append, List.map_cons, List.map_nil] at q
        exact ⟨Nat.zero_le _, show 2 ≤ lim by decide, _, atI_nat (j := 2) rfl, show 2 ≤ lim by decide, q⟩
      · rw [decide_eq_false h0]
        have eW : ruleW (Rl.face p es) = [Str.ofString "face", p] ++ [Str.ofString ":"] ++ es := by
          show [Str.ofString "face", p] ++ ((if es = [] then [] else [Str.ofString ":"]) ++ es) = _
          rw [if_neg h0, List.append_assoc [Str.ofString "face", p]]
        rw [eW] at q
        simp only [List.map_append, List.map_cons, List.map_nil] at q
        exact ⟨show 1 ≤ lim by decide, show 3 ≤ lim by decide, _, atI_nat (j := 2) rfl, L1 (by simp only [List.length_append, List.length_map, List.length_cons, List.length_nil]; omega), q⟩
    | layers rows ch =>
      refine ⟨_, atI0, _, atI0, _, atI0, _, atI0, _, atI0, _, atI0, _, atI_nat (j := 2) rfl, show 2 ≤ lim by decide, ?_⟩
      exact loop _ rows [Str.ofString "layers", howS ch] _ _ _ rfl hr (show 2 ≤ 2 by decide) q
    | stairs rows =>
      refine ⟨_, atI0, _, atI0, _, atI0, _, atI0, _, atI0, _, atI0, show 1 ≤ lim by decide, ?_⟩
      exact loop _ rows [Str.ofString "stairs"] _ _ _ rfl hr (show 1 ≤ 2 by decide) q
/-! Book.__eq__ -/
abbrev s_Book___eq__ : Stmt := clsS 58 5
theorem sc_Book___eq__ : FnScope ["self", "other"] ["self", "other"] (defScope s_Book___eq__) := ⟨rfl, rfl, rfl, by decide +kernel, rfl, by decide +kernel, by decide +kernel⟩
def Sp_Book___eq__ : DSp := fun _ ds f Q => ∃ (a : List Rl) (y : D), ds = [bkD a, y] ∧ (∀ r ∈ a, r.form) ∧
  ((isC "Book" y = some false ∧ Q (.bool false) f) ∨ ∃ b, y = bkD b ∧ (∀ r ∈ b, r.form) ∧ Q (.bool (PyData.eqv (rlsT a).py (rlsT b).py)) f)
set_option maxHeartbeats 2000000 in
theorem ok_Book___eq__ (m_isinstance : mg "isinstance" = none) {C_Book : Addr} (k_Book : KC K "Book" C_Book) (n_Book_held : NoAttr K C_Book "held") (i_Book : KI K "Book" C_Book) (mg_Book : mg "Book" = some (.ref C_Book)) (d : ∃ f fd, Fun K "__eq__" "Book.__eq__" s_Book___eq__ f fd ∧ Meth K C_Book "__eq__" f) : CalM P w K mg base 1 "Book" "__eq__" ["self", "other"] Sp_Book___eq__ := by
  obtain ⟨f, fd, F, M⟩ := d
  refine ⟨C_Book, f, fd, k_Book, M, dfn (k := 0) (S := Sp_Book___eq__) F sc_Book___eq__ ?len (fun cdv A outer s H E hr => (dss_one (ds_ret (de_and (de_isC i_Book mg_Book m_isinstance (de_v 1)) (de_one (de_eq hr.units (de_fld k_Book n_Book_held (de_v 0)) (de_fld k_Book n_Book_held (de_v 1)))))))) ?h, F.binds fun _ _ _ _ _ _ us hl => match us, hl with | [_, _], _ => rfl⟩
  case len =>
    intro g ds n Q h; obtain ⟨_, _, rfl, _⟩ := h; rfl
  case h =>
    intro g ds n Q h
    obtain ⟨a, y, rfl, ha, hq⟩ := h
    rcases hq with ⟨hc, q⟩ | ⟨b, rfl, hb, q⟩
    · exact ⟨false, hc, q⟩
    · refine ⟨true, rfl, rfl, _, rfl, rfl, _, rfl, ?_⟩
      exact oEq_data ((rls_shp ha).of (by decide)) ((rls_shp hb).of (by decide)) q
abbrev s__law_stream : Stmt := topS 71
theorem sc__law_stream : FnScope ["_law_script", "_law_units", "_law_unit"] ["_law_script"] (defScope s__law_stream) := ⟨rfl, rfl, rfl, by decide +kernel, rfl, by decide +kernel, by decide +kernel⟩
theorem ok__law_stream (d : Df K mg "_law_stream" s__law_stream) (m_abs : mg "abs" = none) : CalDn "_law_stream" P w K mg base := by
  obtain ⟨f, fd, F, mm⟩ := d
  refine ⟨f, fd, ?_, F.kp, F.binds fun _ _ _ _ _ _ us hl => match us, hl with | [_], _ => rfl, mm⟩
  refine F.ok sc__law_stream (fun vs H Q E h => ?_) (fun cdv A outer s H vs Q E hr h => ?_)
  · obtain ⟨a, ns, rfl, _⟩ := h
    rfl
  · obtain ⟨a, ns, rfl, hS, hlen, q⟩ := h
    refine ⟨_, pss_cons (ps_setLc (i := 1) (own := [("_law_unit", 2)]) (g := gName 2) (tt := tYes) rfl sc__law_stream.nd rfl rfl (sw_true rfl rfl rfl (by decide +kernel)) (pi_list (pv 0)) (blkOk_by (N := ["_law_script", "_law_units", "_law_unit"]) (sc := defScope s__law_stream) (by decide +kernel))
        (fun _ _ _ _ _ => pg_name (i := 2) sc__law_stream.nd rfl (Or.inl rfl)) (fun _ _ _ _ _ => pts_nil) (fun _ _ _ _ _ => pe_callB call_abs (by rfl) m_abs (by decide +kernel) (pa_cons (pv 2) pa_nil)))
      (pss_one (ps_ret (pe_lst (pa_cons (pe_lc (own := [("_law_unit", 2)]) (g := gName 2) rfl sc__law_stream.nd (pi_list (pv 1)) (blkOk_by (N := ["_law_script", "_law_units", "_law_unit"]) (sc := defScope s__law_stream) (by decide +kernel))
          (fun _ _ _ _ _ => pg_name (i := 2) sc__law_stream.nd rfl (Or.inl rfl)) (fun _ _ _ _ _ => pts_one (pt_cmpR op_ge (pv 2) (pe_op op_pow pe_int pe_int) (nomark _))) (fun _ _ _ _ _ => pv 2))
        (pa_cons (pe_ifExp (pt_cmpR (op_neD hr.units) (pv 1) (pe_lst pa_nil) (nomark _)) (pv 1) (pe_lst (pa_cons pe_int pa_nil)))
        (pa_cons pe_int pa_nil)))))), ?_⟩
    -- cells
    refine ⟨.ref a, rfl, a, rfl, ⟨_, hS⟩, fun D hD => ?_⟩
    have ab : ∀ i : Int, (if i < 0 then -i else i) = (i.natAbs : Int) := fun i => by split <;> omega
    refine lc_list (K := K) (a := a) (xs := ns.map V.int) (fun i H2 => Same H H2 ∧ H2 D = some (.lst (((ns.take i).map fun n => (n.natAbs : Int)).map V.int))) ⟨same_upd hD, upd_same⟩ (fun i H2 _ h2 => h2.1.seq hS) (fun i x H2 hx h2 => ?_) (fun H1 h1 => ?_)
    · obtain ⟨s2, e2⟩ := h2
      have hil : i < ns.length := by
        have := (List.getElem?_eq_some_iff.mp hx).1
        simpa using this
      rw [List.getElem?_map, List.getElem?_eq_getElem hil] at hx
      cases hx
      refine ⟨rfl, ?_⟩
      unfold tYes
      refine iteT ?_
      refine ⟨.int ns[i], rfl, ns[i], rfl, _, e2, ?_, ?_, ?_⟩
      · rw [List.length_map, List.length_map, List.length_take]
        exact lim_lt (Nat.le_trans (Nat.min_le_left _ _) (Nat.le_trans (Nat.le_of_lt hil) (Nat.le_trans hlen (by decide))))
      · intro b o e
        rw [upd_ne (ne_of_none e hD)]
        exact s2 b o e
      · rw [upd_same, ab, List.take_add_one, List.getElem?_eq_getElem hil, List.map_append, List.map_append]
        rfl
    obtain ⟨s1, e1⟩ := h1
    rw [List.length_map, List.take_length] at e1
    generalize hcs : (ns.map fun n => (n.natAbs : Int)) = cs at e1
    have hcl : cs.length = ns.length := by rw [← hcs, List.length_map]
    have hcp : ∀ x ∈ cs, 0 ≤ x := fun x hx => by
      rw [← hcs] at hx
      obtain ⟨n, _, rfl⟩ := List.mem_map.mp hx
      exact Int.natCast_nonneg _
    -- the great ones
    refine ⟨.ref D, rfl, D, rfl, ⟨_, SqL.of e1⟩, fun B hB => ?_⟩
    have nDB : D ≠ B := ne_of_none e1 hB
    refine lc_list (K := K) (a := D) (xs := cs.map V.int) (fun i H2 => Same H1 H2 ∧ ∃ zs : List Int, H2 B = some (.lst (zs.map V.int)) ∧ zs.length ≤ i ∧ ∀ z ∈ zs, 0 ≤ z) ⟨same_upd hB, [], upd_same, Nat.le_refl _, by simp⟩ (fun i H2 _ h2 => SqL.of (h2.1 _ _ e1)) (fun i x H2 hx h2 => ?_) (fun H2 h2 => ?_)
    · obtain ⟨s2, zs, e2, l2, p2⟩ := h2
      have hil : i < cs.length := by
        have := (List.getElem?_eq_some_iff.mp hx).1
        simpa using this
      rw [List.getElem?_map, List.getElem?_eq_getElem hil] at hx
      cases hx
      refine ⟨rfl, .int cs[i], rfl, 10, 18, rfl, rfl, ⟨by decide, by decide, by decide⟩, cs[i], _, rfl, rfl, _, rfl, ite2 (fun _ => ?_) (fun _ => ?_)⟩
      · refine ⟨.int cs[i], rfl, zs.map V.int, e2, ?_, fun b o e => ?_, zs ++ [cs[i]], ?_, ?_, ?_⟩
        · rw [List.length_map]
          exact lim_lt (Nat.le_trans l2 (Nat.le_trans (Nat.le_of_lt hil) (by rw [hcl]; exact Nat.le_trans hlen (by decide))))
        · rw [upd_ne (ne_of_none e hB)]
          exact s2 b o e
        · rw [upd_same, List.map_append]; rfl
        · simp; omega
        · intro z hz
          rcases List.mem_append.mp hz with h | h
          · exact p2 z h
          · rw [List.mem_singleton.mp h]; exact hcp _ (List.getElem_mem hil)
      · exact ⟨s2, zs, e2, Nat.le_trans l2 (Nat.le_succ i), p2⟩
    obtain ⟨s2, zs, e2, l2, p2⟩ := h2
    have f1 : H2 D = some (.lst (cs.map V.int)) := s2 _ _ e1
    -- units, or [53]
    have hDn : H D = none := hD
    have s02 : Same H H2 := s1.trans s2
    have hBn : H B = none := s1.free hB
    have tail : ∀ (H5 : Hp) (C : Addr) (ys : List Int) (p : Addr), Same H2 H5 → H C = none → B ≠ C → H5 C = some (.lst (ys.map V.int)) → (∀ y ∈ ys, 0 ≤ y) → 0 < ys.length → H5 p = none → Q (.ref p) (upd H5 p (.lst [V.ref B, V.ref C, V.int 0])) := by
      intro H5 C ys p s5 hC nBC e5 py ly hp
      have gB := s5 _ _ e2
      have nBp : B ≠ p := ne_of_none gB hp
      have nCp : C ≠ p := ne_of_none e5 hp
      have sp := same_upd (o := .lst [V.ref B, V.ref C, V.int 0]) hp
      refine q _ ⟨p, B, C⟩ ((s02.trans s5).trans sp) ((s02.trans s5).free hp) hBn hC ⟨fun e => nBp e.symm, fun e => nCp e.symm, nBC, 0, zs, ys, upd_same, ?_, ?_, p2, py, ly, by decide, by decide⟩
      · rw [upd_ne nBp]; exact gB
      · rw [upd_ne nCp]; exact e5
    refine ⟨.ref D, rfl, Nat.zero_le _, fun T hT => ?_⟩
    have nDT : D ≠ T := ne_of_none f1 hT
    have sT : Same H2 (upd H2 T (.lst [])) := same_upd hT
    refine ⟨.list (cs.map PyData.int), .list (([] : List Int).map PyData.int), dp_ints (by rw [upd_ne nDT]; exact f1), dp_ints (l := []) upd_same, shaped_ints _, shaped_ints [], ?_⟩
    have f2 : upd H2 T (.lst []) D = some (.lst (cs.map V.int)) := sT _ _ f1
    generalize upd H2 T (.lst []) = H4 at sT f2 ⊢
    cases cs with
    | nil =>
      refine ⟨false, rfl, ?_⟩
      refine iteF ?_
      refine ⟨by show 1 ≤ sizeLine; decide, fun C hC => ?_⟩
      refine ⟨by show 3 ≤ sizeLine; decide, fun p hp => ?_⟩
      exact tail _ C [53] p (sT.trans (same_upd hC)) ((s02.trans sT).free hC) (ne_of_none (sT _ _ e2) hC) upd_same (by simp) (by simp) hp
    | cons c cs =>
      refine ⟨true, rfl, ?_⟩
      refine iteT ?_
      refine ⟨.ref D, rfl, ?_⟩
      refine ⟨by show 3 ≤ sizeLine; decide, fun p hp => ?_⟩
      exact tail _ D (c :: cs) p sT hDn nDB.symm f2 hcp (by simp) hp
/-! law -/
abbrev s_law : Stmt := topS 85
theorem sc_law : FnScope ["_law_script", "_law_stream_here", "_law_turn", "_law_names_here", "_law_areas_here", "_law_modules_here", "_law_words", "_law_rules", "_law_k", "_law_lines", "_law_book", "_law_due", "_law_text", "_law_rule_here", "_law_found", "_law_row"] ["_law_script"] (defScope s_law) := ⟨rfl, rfl, rfl, by decide +kernel, rfl, by decide +kernel, by decide +kernel⟩
set_option maxHeartbeats 4000000 in
theorem ok_law {f : Addr} {fd : FuncData} (F : Fun K "law" "law" s_law f fd) (c__law_deck : CalDn "_law_stream" P w K mg base) (m_range : mg "range" = none) (m_len : mg "len" = none) (m_repr : mg "repr" = none) (m_tuple : mg "tuple" = none) (m_isinstance : mg "isinstance" = none) {C_Book : Addr} (k_Book : KC K "Book" C_Book) (i_Book : KI K "Book" C_Book) (mg_Book : mg "Book" = some (.ref C_Book)) (c__law_messy : Cal P w K mg base 4 "_law_messy" ["_law_stream_here", "_law_lines"] Sp__law_messy) (c_Book___eq__ : CalM P w K mg base 1 "Book" "__eq__" ["self", "other"] Sp_Book___eq__) (c_Book_rules : CalP P w K mg base 1 "Book" "rules" ["self"] Sp_Book_rules) (c_read_book : Cal P w K mg base 11 "read_book" ["value"] Sp_read_book) (c_book_text : Cal P w K mg base 3 "book_text" ["book"] Sp_book_text) (c_Book___init__ : MkrX P w K mg base 9 "Book" ["self", "rules"] Sp_Book___init__) (c__law_messy_line : Cal P w K mg base 3 "_law_messy_line" ["_law_stream_here", "_law_words"] Sp__law_messy_line) (c_read_rule : Cal P w K mg base 9 "read_rule" ["value"] Sp_read_rule) (c_rule_text : Cal P w K mg base 2 "rule_text" ["rule"] Sp_rule_text) (c__law_rule_words : Cal P w K mg base 1 "_law_rule_words" ["_law_rule_here"] Sp__law_rule_words) (c__law_draw : Cal P w K mg base 1 "_law_draw" ["_law_stream_here", "_law_many"] Sp__law_draw) (c__law_rule : Cal P w K mg base 3 "_law_rule" ["_law_stream_here", "_law_areas_here", "_law_modules_here", "_law_words"] Sp__law_rule) (c__law_modules : Cal P w K mg base 3 "_law_modules" ["_law_stream_here", "_law_areas_here", "_law_names_here"] Sp__law_modules) (c__law_areas : Cal P w K mg base 3 "_law_areas" ["_law_stream_here", "_law_heads", "_law_names_here", "_law_deep"] Sp__law_areas) (c__law_names : Cal P w K mg base 3 "_law_names" ["_law_stream_here", "_law_many"] Sp__law_names) : FnG P w K mg base 12 f fd ["_law_script"] (spLaw K) := by
  obtain ⟨fD, fdD, GD, kD, bD, mD⟩ := c__law_deck
  refine dlawG F sc_law (by decide) rfl (fun cdv A outer s H E hr gd => ⟨ps_set (i := 1) sc_law.nd rfl (.inl rfl) (pe_call GD (hr.mono (by decide)) (by rfl) mD kD bD .nil pass0 (pa_cons (pv 0) pa_nil)), (dss_cons (ds_for [] PassesOwn.never (di_range1 m_range (da_cons de_int da_nil)) (dg_name (i := 2) sc_law.nd) (dss_cons (ds_set false (i := 3) sc_law.nd (de_callC c__law_names (hr.mono (by decide)) (da_cons (de_v 1) (da_cons de_int da_nil))))
      (dss_cons (ds_set false (i := 4) sc_law.nd (de_callC c__law_areas (hr.mono (by decide)) (da_cons (de_v 1) (da_cons (de_sl (de_v 3) do_none (do_some de_int)) (da_cons (de_sl (de_v 3) (do_some de_int) (do_some (de_add de_int (de_callC c__law_draw (hr.mono (by decide)) (da_cons (de_v 1) (da_cons de_int da_nil)))))) (da_cons de_int da_nil))))))
      (dss_cons (ds_set false (i := 5) sc_law.nd (de_callC c__law_modules (hr.mono (by decide)) (da_cons (de_v 1) (da_cons (de_v 4) (da_cons (de_sl (de_v 3) (do_some de_int) (do_some (de_add de_int (de_callC c__law_draw (hr.mono (by decide)) (da_cons (de_v 1) (da_cons de_int da_nil)))))) da_nil)))))
      (dss_cons (ds_parSL (i := 6) (j := 7) sc_law.nd ((dl_lst (da_cons de_str (da_cons de_str (da_cons de_str (da_cons de_str (da_cons de_str (da_cons de_str (da_cons de_str da_nil)))))))).e) (dl_lst da_nil))
      (dss_cons (ds_for [] PassesOwn.never (di_range1 m_range (da_cons (de_callC c__law_draw (hr.mono (by decide)) (da_cons (de_v 1) (da_cons de_int da_nil))) da_nil)) (dg_name (i := 8) sc_law.nd) (dss_cons (ds_set false (i := 13) sc_law.nd (de_callC c__law_rule (hr.mono (by decide)) (da_cons (de_v 1) (da_cons (de_v 4) (da_cons (de_v 5) (da_cons (de_v 6) da_nil))))))
      (dss_one (ds_if (dp_notIn hr (de_v 13) (de_v 7)) (dss_one (ds_app false (i := 7) (de_v 13))) dss_nil))))
      (dss_cons (ds_frz [7] (ds_setLc (i := 9) (own := [("_law_rule_here", 13)]) sc_law.nd (di_seq (de_v 7)) (blkOk_by (own := [("_law_rule_here", 13)]) (N := ["_law_script", "_law_stream_here", "_law_turn", "_law_names_here", "_law_areas_here", "_law_modules_here", "_law_words", "_law_rules", "_law_k", "_law_lines", "_law_book", "_law_due", "_law_text", "_law_rule_here", "_law_found", "_law_row"]) (sc := defScope s_law) (by decide +kernel)) (fun _ _ _ _ _ => dg_name (i := 13) sc_law.nd) (fun _ _ _ _ _ => dts_nil) (fun _ _ _ _ _ => (de_callC c__law_rule_words (hr.mono (by decide)) (da_cons (de_v 13) da_nil))) (fun _ _ _ h => snd_set (m := false) (i := 9) h.e)))
      (dss_cons (ds_for [7] PassesOwn.never (di_range1 m_range (da_cons (de_len m_len (da_cons (de_v 7) da_nil)) da_nil)) (dg_name (i := 8) sc_law.nd) (dss_cons (ds_set false (i := 11) sc_law.nd (de_join de_str (de_ix (de_v 9) (de_v 8))))
      (dss_cons (ds_if (dp_ne hr.units (dl_lst (da_cons (de_callC c_rule_text (hr.mono (by decide)) (da_cons (de_ix (de_v 7) (de_v 8)) da_nil)) (da_cons (de_callC c_rule_text (hr.mono (by decide)) (da_cons (de_ix (de_v 7) (de_v 8)) da_nil)) da_nil))).e (dl_lst (da_cons (de_v 11) (da_cons (de_v 11) da_nil))).e) (dss_one (ds_ret de_bl)) dss_nil)
      (dss_one (ds_for [] PassesOwn.never (di_seq (dl_lst (da_cons (de_v 11) (da_cons (de_callC c__law_messy_line (hr.mono (by decide)) (da_cons (de_v 1) (da_cons (de_ix (de_v 9) (de_v 8)) da_nil))) (da_cons (de_callC c__law_messy_line (hr.mono (by decide)) (da_cons (de_v 1) (da_cons (de_ix (de_v 9) (de_v 8)) da_nil))) da_nil)))).e) (dg_name (i := 12) sc_law.nd) (dss_one (ds_if (dp_ne hr.units (de_repr gd hr.units m_repr (da_cons (de_callC c_read_rule (hr.mono (by decide)) (da_cons (de_v 12) da_nil)) da_nil)) (de_repr gd hr.units m_repr (da_cons (de_ix (de_v 7) (de_v 8)) da_nil))) (dss_one (ds_ret de_bl)) dss_nil)))))))
      (dss_cons (ds_frz [7] (ds_par false (i := 10) (j := 11) sc_law.nd ((dex_make c_Book___init__ (hr.mono (by decide)) (da_cons (de_callTy call_tuple_of sc_tuple (by rfl) m_tuple (by decide +kernel) (da_cons (de_v 7) da_nil)) da_nil))).e (de_join de_str (dl_lc (own := [("_law_row", 15)]) rfl sc_law.nd (di_seq (de_v 9)) (blkOk_by (own := [("_law_row", 15)]) (N := ["_law_script", "_law_stream_here", "_law_turn", "_law_names_here", "_law_areas_here", "_law_modules_here", "_law_words", "_law_rules", "_law_k", "_law_lines", "_law_book", "_law_due", "_law_text", "_law_rule_here", "_law_found", "_law_row"]) (sc := defScope s_law) (by decide +kernel)) (fun _ _ _ _ _ => dg_name (i := 15) sc_law.nd) (fun _ _ _ _ _ => dts_nil) (fun _ _ _ _ _ => (de_add (de_join de_str (de_v 15)) de_str))).e)))
      (dss_cons (ds_if (DW.p (dw_or (dp_ne hr.units (dl_lst (da_cons (de_callC c_book_text (hr.mono (by decide)) (da_cons (de_v 10) da_nil)) (da_cons (de_callC c_book_text (hr.mono (by decide)) (da_cons (de_v 10) da_nil)) da_nil))).e (dl_lst (da_cons (de_v 11) (da_cons (de_v 11) da_nil))).e) (dw_or1 (dp_ne hr.units (de_repr gd hr.units m_repr (da_cons (de_prop c_Book_rules (hr.mono (by decide)) (de_v 10)) da_nil)) (de_repr gd hr.units m_repr (da_cons (de_callTy call_tuple_of sc_tuple (by rfl) m_tuple (by decide +kernel) (da_cons (de_v 7) da_nil)) da_nil)))))) (dss_one (ds_ret de_bl)) dss_nil)
      (dss_one (ds_for [] PassesOwn.never (di_seq (dl_lst (da_cons (de_v 11) (da_cons (de_callC c__law_messy (hr.mono (by decide)) (da_cons (de_v 1) (da_cons (de_v 9) da_nil))) (da_cons (de_callC c__law_messy (hr.mono (by decide)) (da_cons (de_v 1) (da_cons (de_v 9) da_nil))) da_nil)))).e) (dg_name (i := 12) sc_law.nd) (dss_one (ds_if (DW.p (dw_or (dp_eq hr.units (de_v 12) (de_v 11)) (dw_or1 (dp_le (de_len m_len (da_cons (de_v 12) da_nil)) de_int)))) (dss_cons (ds_set false (i := 14) sc_law.nd (de_callC c_read_book (hr.mono (by decide)) (da_cons (de_v 12) da_nil)))
      (dss_cons (ds_if (DW.p (dw_or (dp_not (dp_val (de_isC i_Book mg_Book m_isinstance (de_v 14)))) (dw_or1 (dp_ne hr.units (de_repr gd hr.units m_repr (da_cons (de_prop c_Book_rules (hr.mono (by decide)) (de_v 14)) da_nil)) (de_repr gd hr.units m_repr (da_cons (de_callTy call_tuple_of sc_tuple (by rfl) m_tuple (by decide +kernel) (da_cons (de_v 7) da_nil)) da_nil)))))) (dss_one (ds_ret de_bl)) dss_nil)
      (dss_one (ds_if (dp_notB (de_eqO i_Book c_Book___eq__ (hr.mono (by decide)) (de_v 14) (de_v 10)) de_bl) (dss_one (ds_ret de_bl)) dss_nil)))) dss_nil))))))))))))))
      (dss_one (ds_ret de_bl)))⟩) ?h
  case h =>
    intro dk
    refine ⟨by decide, by decide, ?_⟩
    refine dFor_range (fun i r f => ∃ a2 a3 a4 a5 a6 a7 a8 a9 a10 a11 a12 a13 a14 a15 : Sl, r = [.no, .sh (.any (.ref dk.a)), a2, a3, a4, a5, a6, a7, a8, a9, a10, a11, a12, a13, a14, a15] ∧ 1000000000000 ≤ f + 10000 * i) 0 _ _ _ ?_ (fun r f _ => rfl) ⟨_, _, _, _, _, _, _, _, _, _, _, _, _, _, rfl, by omega⟩
    rintro i r f N hi ⟨a2, a3, a4, a5, a6, a7, a8, a9, a10, a11, a12, a13, a14, a15, rfl, hf⟩ hN
    have hi : i < 3 := hi
    refine ⟨_, rfl, dk, 20, rfl, rfl, by decide, by omega, fun nl f1 nlen hnm hnd hf1 => ?_⟩
    have hnl : nl.length = 20 := nlen
    obtain ⟨f2, rfl⟩ : ∃ f2, f1 = f2 + 1 := ⟨f1 - 1, by omega⟩
    refine ⟨dk, 5, f2, rfl, rfl, by decide, by decide, rfl, fun c hc0 hc1 => ?_⟩
    obtain ⟨c, rfl⟩ : ∃ c' : Nat, c = c' := ⟨c.toNat, by omega⟩
    have hN1 := nms_of hnm hnd (c + 2)
    have e3 : cutD (nl.map D.str) (some 2) (some (4 + (c : Int))) = ((nl.drop 2).take (c + 2)).map D.str := by
      have := cutD_mid nl 2 (4 + c) (by omega) (by omega)
      rw [show 4 + c - 2 = c + 2 by omega] at this
      exact this
    have e4 : cutD (nl.map D.str) none (some 2) = (nl.take 2).map D.str := cutD_takeS nl 2
    refine ⟨dk, nl.take 2, (nl.drop 2).take (c + 2), 3, rfl, ?_, by rw [List.length_take]; omega, by rw [List.length_take]; omega, fun x h => hnm x (List.mem_of_mem_take h), by rw [List.length_take]; omega, fun x h => hnm x (List.mem_of_mem_drop (List.mem_of_mem_take h)), by decide, by rw [List.length_take]; omega, fun zs f3 hzs hf3 => ?_⟩
    · show [D.any (V.ref dk.a), D.lst (cutD (nl.map D.str) none (some 2)), D.lst (cutD (nl.map D.str) (some 2) (some (4 + (c : Int)))), D.int 3] = _
      rw [e3, e4]
      rfl
    have hns : ((nl.drop 2).take (c + 2)).length = c + 2 := by rw [List.length_take, List.length_drop]; omega
    obtain ⟨f4, rfl⟩ : ∃ f4, f3 = f4 + 1 := ⟨f3 - 1, by omega⟩
    refine ⟨dk, 13, f4, rfl, rfl, by decide, by decide, rfl, fun d hd0 hd1 => ?_⟩
    obtain ⟨d, rfl⟩ : ∃ d' : Nat, d = d' := ⟨d.toNat, by omega⟩
    have hN2 := hN1 d (by omega)
    have e5 : cutD (nl.map D.str) (some 8) (some (8 + (d : Int))) = ((nl.drop 8).take d).map D.str := by
      have := cutD_mid nl 8 (8 + d) (by omega) (by omega)
      rw [show 8 + d - 8 = d by omega] at this
      exact this
    have hzl : zs.length = c + 2 := by
      have := congrArg List.length hzs.n
      rw [List.length_map] at this
      omega
    have hll : ((nl.drop 8).take d).length ≤ 12 := by rw [List.length_take]; omega
    refine ⟨dk, nl.take 2, (nl.drop 2).take (c + 2), (nl.drop 8).take d, 3, zs, rfl, ?_, hzs, by decide, hN2, by omega, by omega, by omega, fun ms f5 hv hf5 => ?_⟩
    · show [D.any (V.ref dk.a), D.lst ((zs.map arS).map D.str), D.lst (cutD (nl.map D.str) (some 8) (some (8 + (d : Int))))] = _
      rw [e5]
    have hara : Ara (zs.map arS) := ara_ok hzs hN2 (by omega) (by omega)
    refine ⟨show 7 ≤ lim by decide, ?_⟩
    simp only [List.set_cons_succ, List.set_cons_zero, setsR, startR, List.map_cons, List.map_nil, List.cons_append, List.nil_append, List.replicate_succ, List.replicate_zero, List.length_cons, List.length_nil, Nat.reduceAdd, Nat.reduceSub]
    refine ⟨Nat.zero_le _, ?_⟩
    simp only [List.set_cons_succ, List.set_cons_zero, setsR, startR, List.map_cons, List.map_nil, List.cons_append, List.nil_append, List.replicate_succ, List.replicate_zero, List.length_cons, List.length_nil, Nat.reduceAdd, Nat.reduceSub]
    obtain ⟨f6, rfl⟩ : ∃ f6, f5 = f6 + 1 := ⟨f5 - 1, by omega⟩
    refine ⟨dk, 9, f6, rfl, rfl, by decide, by decide, rfl, fun m m0 m1 => ?_⟩
    obtain ⟨m, rfl⟩ : ∃ m' : Nat, m = m' := ⟨m.toNat, by omega⟩
    refine ⟨by omega, by omega, ?_⟩
    rw [show ((m : Int)).toNat = m by omega]
    refine dFor_range (fun j r f => ∃ (rs : List Rl) (b8 b9 b10 b11 b12 b13 b14 b15 : Sl), r = [.no, .sh (.any (.ref dk.a)), .sh (.int (0 + (i : Int))), .sh (.lst (nl.map D.str)), .sh (.lst ((zs.map arS).map D.str)), .sh (.lst (ms.map D.str)), .sh (.lst ((["forbid", "layers", "stairs", "apart", "only", "face", "noring"] : List Str).map D.str)), .ow (rs.map Rl.d), b8, b9, b10, b11, b12, b13, b14, b15] ∧ Rs j rs ∧ f6 ≤ f + 30 * j) 0 m _ _ ?_ ?_ ⟨[], _, _, _, _, _, _, _, _, rfl, ⟨fun _ h => (nomatch h), List.nodup_nil, Nat.le_refl _⟩, by omega⟩
    · rintro j r f N hj ⟨rs, b8, b9, b10, b11, b12, b13, b14, b15, rfl, hR, hfj⟩ hN
      have hl := hR.len
      refine ⟨_, rfl, dk, zs.map arS, ms, rfl, rfl, hara, hv, by omega, fun rl f3 h1 h2 hf3 => ?_⟩
      simp only [List.set_cons_succ, List.set_cons_zero, setsR, startR, List.map_cons, List.map_nil, List.cons_append, List.nil_append, List.replicate_succ, List.replicate_zero, List.length_cons, List.length_nil, Nat.reduceAdd, Nat.reduceSub]
      have key := any_rd (rls_ts hR.form) (Rl.ts h1)
      refine ⟨(Rl.shp h1).of (by decide), (rls_shpL hR.form).of (by decide), ?_⟩
      show if (xb true ((pyA (rs.map Rl.d)).any fun z => PyData.eqv z rl.d.py)) = true then _ else _
      cases ha : (pyA (rs.map Rl.d)).any fun z => PyData.eqv z rl.d.py with
      | true => exact iteF (nxt (g := some dk) (hN _ _ ⟨rs, _, _, _, _, _, _, _, _, rfl, ⟨hR.ok, hR.nd, by omega⟩, by omega⟩))
      | false =>
        have hni : rl.d ∉ rs.map Rl.d := fun h => by rw [key.mpr h] at ha; cases ha
        refine iteT ⟨_, rfl, by rw [List.length_map]; exact L1 (by omega), hN _ _ ⟨rs ++ [rl], _, _, _, _, _, _, _, _, by rw [List.map_append]; rfl, ⟨fun r hr => ?_, ?_, by rw [List.length_append, List.length_singleton]; omega⟩, by omega⟩⟩
        · rcases List.mem_append.mp hr with h | h
          · exact hR.ok r h
          · rw [List.mem_singleton.mp h]; exact ⟨h1, h2⟩
        · rw [List.map_append, List.nodup_append]
          exact ⟨hR.nd, by simp, fun a ha b hb e => hni (by have hb : b ∈ [rl.d] := hb; rw [List.mem_singleton.mp hb] at e; exact e ▸ ha)⟩
    · rintro r f ⟨rs, b8, b9, b10, b11, b12, b13, b14, b15, rfl, hR, hfj⟩
      have hR8 : Rs 8 rs := ⟨hR.ok, hR.nd, Nat.le_trans hR.len (by omega)⟩
      have hrl := hR8.len
      have hff : f6 ≤ f + 240 := by omega
      clear hR hfj
      refine ⟨by rw [List.length_map]; exact L1 (by omega), ?_⟩
      refine lcM Rl.d lstS ruleW rs _ (fun r hr => ⟨_, rfl, fun f Q h => ⟨r, rfl, hR8.form r hr, h⟩⟩) ?_
      simp only [List.set_cons_succ, List.set_cons_zero, setsR, startR, List.map_cons, List.map_nil, List.cons_append, List.nil_append, List.replicate_succ, List.replicate_zero, List.length_cons, List.length_nil, Nat.reduceAdd, Nat.reduceSub]
      refine ⟨by rw [List.length_map]; omega, by rw [List.length_map]; omega, ?_⟩
      rw [List.length_map, show ((rs.length : Int)).toNat = rs.length by omega]
      refine dFor_range (fun j r f' => ∃ (c8 c10 c11 c12 c13 c14 c15 : Sl), r = [.no, .sh (.any (.ref dk.a)), .sh (.int (0 + (i : Int))), .sh (.lst (nl.map D.str)), .sh (.lst ((zs.map arS).map D.str)), .sh (.lst (ms.map D.str)), .sh (.lst ((["forbid", "layers", "stairs", "apart", "only", "face", "noring"] : List Str).map D.str)), .sh (.lst (rs.map Rl.d)), c8, .sh (.lst ((rs.map ruleW).map lstS)), c10, c11, c12, c13, c14, c15] ∧ f ≤ f' + 70 * j) 0 rs.length _ _ ?_ ?_ ⟨_, _, _, _, _, _, _, rfl, by omega⟩
      · rintro j r f' N hj ⟨c8, c10, c11, c12, c13, c14, c15, rfl, hfj⟩ hN2
        obtain ⟨r0, hr0⟩ : ∃ r0, rs[j]? = some r0 := ⟨_, List.getElem?_eq_getElem hj⟩
        have hm0 : r0 ∈ rs := List.mem_of_getElem? hr0
        obtain ⟨o1, o2⟩ := hR8.ok r0 hm0
        obtain ⟨w1, w2, w3⟩ := ruleW_w o1
        have g7 : atI (rs.map Rl.d) (0 + (j : Int)) = some r0.d := by
          rw [Int.zero_add]
          exact atI_nat (by rw [List.getElem?_map, hr0]; rfl)
        have g9 : atI ((rs.map ruleW).map lstS) (0 + (j : Int)) = some (lstS (ruleW r0)) := by
          rw [Int.zero_add]
          exact atI_nat (by rw [List.getElem?_map, List.getElem?_map, hr0]; rfl)
        refine ⟨_, rfl, ?_⟩
        refine ⟨trivial, _, g9, ruleW r0, rfl, join_names _ (fun w hw => Nat.le_trans (w1 w hw).b (by decide)) (by omega) _ (by decide +kernel), ?_⟩
        simp only [List.set_cons_succ, List.set_cons_zero, setsR, startR, List.map_cons, List.map_nil, List.cons_append, List.nil_append, List.replicate_succ, List.replicate_zero, List.length_cons, List.length_nil, Nat.reduceAdd, Nat.reduceSub]
        have hdue := okR_due o1
        generalize hdt : Txt.join " " (ruleW r0) = due at hdue
        refine ⟨_, g7, r0, rfl, o1, _, g7, r0, rfl, o1, show 2 ≤ lim by decide, ?_⟩
        rw [hdt]
        have hda : ∀ s ∈ [due, due], asc s := fun s hs => by
          simp only [List.mem_cons, List.not_mem_nil, or_false, or_self] at hs
          rw [hs]; exact hdue.2.1
        simp only [List.set_cons_succ, List.set_cons_zero, setsR, startR, List.map_cons, List.map_nil, List.cons_append, List.nil_append, List.replicate_succ, List.replicate_zero, List.length_cons, List.length_nil, Nat.reduceAdd, Nat.reduceSub]
        refine ⟨show 2 ≤ lim by decide, ?_⟩
        show oEq true (.lst ([due, due].map D.str)) (.lst ([due, due].map D.str)) _
        refine oEq_lst hda hda ?_
        rw [decide_eq_true (rfl : [due, due] = [due, due])]
        refine iteF (nxt ?_)
        simp only [List.set_cons_succ, List.set_cons_zero, setsR, startR, List.map_cons, List.map_nil, List.cons_append, List.nil_append, List.replicate_succ, List.replicate_zero, List.length_cons, List.length_nil, Nat.reduceAdd, Nat.reduceSub]
        refine ⟨_, g9, dk, ruleW r0, rfl, rfl, by omega, w1, by omega, fun s1 f1 k1 k2 k3 k4 hf1 => ?_⟩
        refine ⟨_, g9, dk, ruleW r0, rfl, rfl, by omega, w1, by omega, fun s2 f2 q1 q2 q3 q4 hf2 => ?_⟩
        refine ⟨show 3 ≤ lim by decide, ?_⟩
        have hall : ∀ t ∈ [due, s1, s2], OkR r0 t := fun t ht => by
          simp only [List.mem_cons, List.not_mem_nil, or_false] at ht
          rcases ht with rfl | rfl | rfl
          · exact hdue
          · exact ⟨k1, k2, k3, by omega⟩
          · exact ⟨q1, q2, q3, by omega⟩
        refine dFor_list D.str (fun done rest r f' => ∃ (d12 : Sl), r = [.no, .sh (.any (.ref dk.a)), .sh (.int (0 + (i : Int))), .sh (.lst (nl.map D.str)), .sh (.lst ((zs.map arS).map D.str)), .sh (.lst (ms.map D.str)), .sh (.lst ((["forbid", "layers", "stairs", "apart", "only", "face", "noring"] : List Str).map D.str)), .sh (.lst (rs.map Rl.d)), .sh (.int (0 + (j : Int))), .sh (.lst ((rs.map ruleW).map lstS)), c10, .sh (.str due), d12, c13, c14, c15] ∧ f2 = f') [due, s1, s2] _ _ ?_ ?_ ⟨_, rfl, rfl⟩
        · rintro done t rest r f3 N3 hx ⟨d12, rfl, rfl⟩ hN3
          obtain ⟨t1, t2, t3, t4⟩ := hall t (by rw [hx]; simp)
          refine ⟨_, rfl, t, r0, rfl, t2, t4, t3, t1, o1, o2, ?_⟩
          simp only [dNil]
          refine rep_rl o1 ?_
          refine ⟨_, g7, ?_⟩
          try simp only [dNil]
          refine rep_rl o1 ?_
          refine oEqS ?_
          exact iteF (nxt (g := some dk) (hN3 _ _ ⟨_, rfl, rfl⟩))
        · rintro r f3 ⟨d12, rfl, rfl⟩
          exact hN2 _ _ ⟨_, _, _, _, _, _, _, rfl, by omega⟩
      · rintro r f' ⟨c8, c10, c11, c12, c13, c14, c15, rfl, hfj⟩
        have hff2 : f ≤ f' + 560 := by have : 70 * rs.length ≤ 70 * 8 := Nat.mul_le_mul_left _ hrl; omega
        clear hfj
        refine ⟨_, rfl, rls_good hR8.form, fun hne => absurd (bookErr_ok hR8) hne, fun rs' e hrs => ?_⟩
        have e : rlsT rs = rlsT rs' := e
        have eb : bkD rs' = bkD rs := by unfold bkD; rw [e]
        rw [eb]
        have efr : frz [.no, .sh (.any (.ref dk.a)), .sh (.int (0 + (i : Int))), .sh (.lst (nl.map D.str)), .sh (.lst ((zs.map arS).map D.str)), .sh (.lst (ms.map D.str)), .sh (.lst ((["forbid", "layers", "stairs", "apart", "only", "face", "noring"] : List Str).map D.str)), .sh (.lst (rs.map Rl.d)), c8, .sh (.lst ((rs.map ruleW).map lstS)), c10, c11, c12, c13, c14, c15] [7] = [.no, .sh (.any (.ref dk.a)), .sh (.int (0 + (i : Int))), .sh (.lst (nl.map D.str)), .sh (.lst ((zs.map arS).map D.str)), .sh (.lst (ms.map D.str)), .sh (.lst ((["forbid", "layers", "stairs", "apart", "only", "face", "noring"] : List Str).map D.str)), .sh (.lst (rs.map Rl.d)), c8, .sh (.lst ((rs.map ruleW).map lstS)), c10, c11, c12, c13, c14, c15] := rfl
        simp only [efr]
        refine ⟨trivial, by rw [List.length_map, List.length_map]; exact L1 (by omega), ?_⟩
        refine lcM lstS D.str (fun row => Txt.join " " row ++ "\n") (rs.map ruleW) _ (fun row hrow => ⟨_, rfl, fun f Q h => ?_⟩) ?_
        · obtain ⟨r, hr, rfl⟩ := List.mem_map.mp hrow
          obtain ⟨w1, w2, w3⟩ := ruleW_w (hR8.form r hr)
          have hb := ruleT_len (hR8.form r hr)
          exact ⟨trivial, ruleW r, rfl, join_names _ (fun w hw => Nat.le_trans (w1 w hw).b (by decide)) (by omega) _ (by decide +kernel), L1 (by rw [show (Str.ofString "\n").length = 1 by decide +kernel]; omega), h⟩
        refine ⟨_, rfl, ?_, ?_⟩
        · have := join_bd (B := 1651) (ns := (rs.map ruleW).map fun row => Txt.join " " row ++ "\n") fun x hx => by
            obtain ⟨row, hrow, rfl⟩ := List.mem_map.mp hx
            obtain ⟨r, hr, rfl⟩ := List.mem_map.mp hrow
            have hb := ruleT_len (hR8.form r hr)
            rw [app_len, show (Str.ofString "\n").length = 1 by decide +kernel]
            omega
          rw [List.length_map, List.length_map] at this
          rw [show (Str.ofString "").length = 0 by decide +kernel, Nat.mul_zero]
          omega
        have edue : Txt.join "" ((rs.map ruleW).map fun row => Txt.join " " row ++ "\n") = bookT rs := by
          unfold bookT
          rw [List.map_map]
          rfl
        rw [edue]
        have hdue := okB_due hR8
        generalize hdt : bookT rs = due at hdue
        simp only [List.set_cons_succ, List.set_cons_zero, setsR, startR, List.map_cons, List.map_nil, List.cons_append, List.nil_append, List.replicate_succ, List.replicate_zero, List.length_cons, List.length_nil, Nat.reduceAdd, Nat.reduceSub]
        refine ⟨rs, rfl, hR8, rs, rfl, hR8, show 2 ≤ lim by decide, ?_⟩
        rw [hdt]
        have hda : ∀ s ∈ [due, due], asc s := fun s hs => by
          simp only [List.mem_cons, List.not_mem_nil, or_false, or_self] at hs
          rw [hs]; exact hdue.2.1
        simp only [List.set_cons_succ, List.set_cons_zero, setsR, startR, List.map_cons, List.map_nil, List.cons_append, List.nil_append, List.replicate_succ, List.replicate_zero, List.length_cons, List.length_nil, Nat.reduceAdd, Nat.reduceSub]
        refine ⟨show 2 ≤ lim by decide, ?_⟩
        show oEq true (.lst ([due, due].map D.str)) (.lst ([due, due].map D.str)) _
        refine oEq_lst hda hda ?_
        rw [decide_eq_true (rfl : [due, due] = [due, due])]
        refine iteF ?_
        refine ⟨rfl, rs, rfl, ?_⟩
        simp only [dNil]
        refine rep_rls hR8 ?_
        simp only [dCB, dCons, dNil]
        refine dVar_sh (d := .lst (rs.map Rl.d)) rfl ?_
        simp only [oTuple]
        refine rep_rls hR8 ?_
        refine oEqS ?_
        refine iteF (nxt ?_)
        simp only [List.set_cons_succ, List.set_cons_zero, setsR, startR, List.map_cons, List.map_nil, List.cons_append, List.nil_append, List.replicate_succ, List.replicate_zero, List.length_cons, List.length_nil, Nat.reduceAdd, Nat.reduceSub]
        have hself : PyData.eqv (rlsT rs).py (rlsT rs).py = true := by
          have h : (rlsT rs).tsB = true := tsA_iff.mpr (rls_ts hR8.form)
          exact (ts_eqv _ _ h h).mpr rfl
        have hrows : ∀ ws ∈ rs.map ruleW, ws ≠ [] ∧ ws.length ≤ 62 ∧ ∀ w ∈ ws, Wd w := fun ws hws => by
          obtain ⟨r, hr, rfl⟩ := List.mem_map.mp hws
          obtain ⟨w1, w2, w3⟩ := ruleW_w (hR8.form r hr)
          exact ⟨fun e => by rw [e] at w3; simp at w3, by omega, w1⟩
        refine ⟨dk, rs.map ruleW, rfl, rfl, by rw [List.length_map]; omega, hrows, by rw [List.length_map]; omega, fun s1 f1 k1 k2 k3 hf1 => ?_⟩
        rw [List.length_map] at hf1
        refine ⟨dk, rs.map ruleW, rfl, rfl, by rw [List.length_map]; omega, hrows, by rw [List.length_map]; omega, fun s2 f2 q1 q2 q3 hf2 => ?_⟩
        rw [List.length_map] at hf2
        refine ⟨show 3 ≤ lim by decide, ?_⟩
        have hall : ∀ t ∈ [due, s1, s2], rowsT t = rs.map ruleW ∧ asc t ∧ t.length ≤ 180000 := fun t ht => by
          simp only [List.mem_cons, List.not_mem_nil, or_false] at ht
          rcases ht with rfl | rfl | rfl
          · exact ⟨hdue.1, hdue.2.1, Nat.le_trans hdue.2.2 (by decide)⟩
          · exact ⟨k1, k2, k3⟩
          · exact ⟨q1, q2, q3⟩
        refine dFor_list D.str (fun done rest r f' => ∃ (d12 d14 : Sl), r = [.no, .sh (.any (.ref dk.a)), .sh (.int (0 + (i : Int))), .sh (.lst (nl.map D.str)), .sh (.lst ((zs.map arS).map D.str)), .sh (.lst (ms.map D.str)), .sh (.lst ((["forbid", "layers", "stairs", "apart", "only", "face", "noring"] : List Str).map D.str)), .sh (.lst (rs.map Rl.d)), c8, .sh (.lst ((rs.map ruleW).map lstS)), .sh (bkD rs), .sh (.str due), d12, c13, d14, c15] ∧ f2 = f') [due, s1, s2] _ _ ?_ ?_ ⟨_, _, rfl, rfl⟩
        · rintro done t rest r f3 N3 hx ⟨d12, d14, rfl, rfl⟩ hN3
          obtain ⟨t1, t2, t3⟩ := hall t (by rw [hx]; simp)
          refine ⟨_, rfl, ?_⟩
          show if decide (t = due) = true then _ else _
          by_cases htd : t = due
          · have tl : t.length ≤ 90000 := by rw [htd]; exact hdue.2.2
            rw [decide_eq_true htd]
            refine iteT (iteT ?_)
            refine ⟨t, rs, rfl, t2, tl, t1, hR8, ?_⟩
            simp only [List.set_cons_succ, List.set_cons_zero, setsR, startR, List.map_cons, List.map_nil, List.cons_append, List.nil_append, List.replicate_succ, List.replicate_zero, List.length_cons, List.length_nil, Nat.reduceAdd, Nat.reduceSub]
            refine ⟨true, rfl, ?_⟩
            refine iteF ?_
            refine ⟨rfl, rs, rfl, ?_⟩
            simp only [dNil]
            refine rep_rls hR8 ?_
            simp only [dCB, dCons, dNil]
            refine dVar_sh (d := .lst (rs.map Rl.d)) rfl ?_
            simp only [oTuple]
            refine rep_rls hR8 ?_
            refine oEqS ?_
            refine iteF (nxt ?_)
            simp only [List.set_cons_succ, List.set_cons_zero, setsR, startR, List.map_cons, List.map_nil, List.cons_append, List.nil_append, List.replicate_succ, List.replicate_zero, List.length_cons, List.length_nil, Nat.reduceAdd, Nat.reduceSub]
            refine ⟨rfl, (fun e => by cases e), rs, bkD rs, rfl, hR8.form, .inr ⟨rs, rfl, hR8.form, ?_⟩⟩
            rw [hself]
            exact ⟨true, rfl, hN3 _ _ ⟨_, _, rfl, rfl⟩⟩
          · rw [decide_eq_false htd]
            refine iteF ⟨Nat.le_trans t3 (show 180000 ≤ lim by decide), ?_⟩
            show if decide ((t.length : Int) ≤ 2000) = true then _ else _
            by_cases h2k : (t.length : Int) ≤ 2000
            · have tl : t.length ≤ 90000 := by omega
              rw [decide_eq_true h2k]
              refine iteT ?_
              refine ⟨t, rs, rfl, t2, tl, t1, hR8, ?_⟩
              simp only [List.set_cons_succ, List.set_cons_zero, setsR, startR, List.map_cons, List.map_nil, List.cons_append, List.nil_append, List.replicate_succ, List.replicate_zero, List.length_cons, List.length_nil, Nat.reduceAdd, Nat.reduceSub]
              refine ⟨true, rfl, ?_⟩
              refine iteF ?_
              refine ⟨rfl, rs, rfl, ?_⟩
              simp only [dNil]
              refine rep_rls hR8 ?_
              simp only [dCB, dCons, dNil]
              refine dVar_sh (d := .lst (rs.map Rl.d)) rfl ?_
              simp only [oTuple]
              refine rep_rls hR8 ?_
              refine oEqS ?_
              refine iteF (nxt ?_)
              simp only [List.set_cons_succ, List.set_cons_zero, setsR, startR, List.map_cons, List.map_nil, List.cons_append, List.nil_append, List.replicate_succ, List.replicate_zero, List.length_cons, List.length_nil, Nat.reduceAdd, Nat.reduceSub]
              refine ⟨rfl, (fun e => by cases e), rs, bkD rs, rfl, hR8.form, .inr ⟨rs, rfl, hR8.form, ?_⟩⟩
              rw [hself]
              exact ⟨true, rfl, hN3 _ _ ⟨_, _, rfl, rfl⟩⟩
            · rw [decide_eq_false h2k]
              exact iteF (nxt (g := some dk) (hN3 _ _ ⟨_, _, rfl, rfl⟩))
        · rintro r f3 ⟨d12, d14, rfl, rfl⟩
          have hz3 : 3 * ((nl.drop 2).take (c + 2)).length ≤ 18 := by omega
          exact hN _ _ ⟨_, _, _, _, _, _, _, _, _, _, _, _, _, _, rfl, by omega⟩
end
theorem all_mk {l : PySem.W.OpenLaw} {w : World} {K : PySem.W.Frag} {h : Heap} {mg : Str → Option Value} {fa : Addr} (X : K.In h) (G : h.Ns mainGlobals mg) (hfa : mg "law" = some (.ref fa))
    {C_Book : Addr} (kc0_Book : PySem.W.nsIn K mainGlobals "Book" = some (some (.ref C_Book))) (kc1_Book : PySem.W.plainGet K C_Book Str.empty = true) (kc2_Book : PySem.W.hasDictIn K C_Book = true) (kc3_Book : PySem.W.plainOver K C_Book = true) (kc4_Book : PySem.W.findIn K (.ref C_Book) "__setattr__" = some (some (.builtin "object.__setattr__")))
    (ko0_Book : PySem.W.findIn K (.ref C_Book) "__class__" = some (some (.builtin "object.__class__"))) (ko1_Book : PySem.W.specialIn K (.builtin "object.__class__") "__get__" = some (some (.builtin "getset_descriptor.__get__"))) (ko2_Book : PySem.W.takesIn K (.builtin "object.__class__") = some true) (ko3_Book : PySem.W.mroIn K C_Book (.type "object") = some true)
    (ki0_Book : PySem.W.subIn K (.type "NoneType") (.ref C_Book) = some false)
    (ki1_Book : PySem.W.subIn K (.type "bool") (.ref C_Book) = some false)
    (ki2_Book : PySem.W.subIn K (.type "int") (.ref C_Book) = some false)
    (ki3_Book : PySem.W.subIn K (.type "str") (.ref C_Book) = some false)
    (ki4_Book : PySem.W.subIn K (.type "tuple") (.ref C_Book) = some false)
    (ki5_Book : PySem.W.subIn K (.type "list") (.ref C_Book) = some false)
    (ki6_Book : PySem.W.subIn K (.type "dict") (.ref C_Book) = some false)
    (ki7_Book : PySem.W.typeIn K (.ref C_Book) = some (.type "type")) (ki8_Book : PySem.W.selfFirst K C_Book = true)
    {C_BadBook : Addr} (xc0_BadBook : PySem.W.nsIn K mainGlobals "BadBook" = some (some (.ref C_BadBook)))
    {ad_LEAST : Addr} (gd0_LEAST : PySem.W.nsIn K mainGlobals "LEAST" = some (some (.ref ad_LEAST))) {ge_LEAST : Array DictEntry} {gn_LEAST : Nat} (gd1_LEAST : K.lookup ad_LEAST = some ⟨.type "dict", none, .dict ge_LEAST gn_LEAST, #[]⟩) (gd2_LEAST : PySem.W.KeysLit w.params ge_LEAST.toList) (gd3_LEAST : (ad_LEAST == sysModules) = false) (gd4_LEAST : Ents K ge_LEAST.toList tbl_LEAST)
    {ad_ITEMS : Addr} (gd0_ITEMS : PySem.W.nsIn K mainGlobals "ITEMS" = some (some (.ref ad_ITEMS))) {ge_ITEMS : Array DictEntry} {gn_ITEMS : Nat} (gd1_ITEMS : K.lookup ad_ITEMS = some ⟨.type "dict", none, .dict ge_ITEMS gn_ITEMS, #[]⟩) (gd2_ITEMS : PySem.W.KeysLit w.params ge_ITEMS.toList) (gd3_ITEMS : (ad_ITEMS == sysModules) = false) (gd4_ITEMS : Ents K ge_ITEMS.toList tbl_ITEMS)
    (kn_n_Book_held : PySem.W.findIn K (.ref C_Book) "held" = some none)
    {xq0_BadBook xq1_BadBook xq2_BadBook xq3_BadBook xq4_BadBook xq5_BadBook xq6_BadBook xq7_BadBook xq8_BadBook xq9_BadBook xqa_BadBook xqb_BadBook xqc_BadBook xqd_BadBook xqe_BadBook : _} (xl_BadBook : K.lookup C_BadBook = some (excClassObj xq0_BadBook xq1_BadBook C_BadBook xq2_BadBook xq3_BadBook xq4_BadBook true xq5_BadBook xq6_BadBook xq7_BadBook xq8_BadBook xq9_BadBook xqa_BadBook xqb_BadBook xqc_BadBook xqd_BadBook xqe_BadBook "ValueError.__new__")) (xr_BadBook : PySem.HandSPX.refsVE xq4_BadBook = true)
    (xs0_BadBook : PySem.W.findIn K (.ref C_BadBook) "__setattr__" = some (some (.builtin "object.__setattr__"))) (xs1_BadBook : PySem.W.subIn K (.ref C_BadBook) (.type "BaseException") = some true) (xs2_BadBook : PySem.W.typeIn K (.ref C_BadBook) = some (.type "type")) (xs3_BadBook : PySem.W.keepIn K (.ref C_BadBook) = true) (xs4_BadBook : PySem.W.findIn K (.ref C_BadBook) "error" = some none)
    {fx_BadBook : Addr} {odx_BadBook anx_BadBook : Option Addr} {slx_BadBook : Array (Option Value)} {ocx_BadBook kVx_BadBook dcx_BadBook pmx_BadBook cdx_BadBook ctx_BadBook : Value} (xi_BadBook : PySem.W.findIn K (.ref C_BadBook) "__init__" = some (some (.ref fx_BadBook))) (xt_BadBook : PySem.W.typeIn K (.ref fx_BadBook) = some (.type "function")) (lx_BadBook : K.lookup fx_BadBook = some ⟨ocx_BadBook, odx_BadBook, .func (PySem.W.fnOf "__init__" "BadBook.__init__" (defArgs s_x_BadBook) (defBody s_x_BadBook) (defScope s_x_BadBook) .none kVx_BadBook dcx_BadBook pmx_BadBook anx_BadBook cdx_BadBook ctx_BadBook), slx_BadBook⟩) (cx_BadBook : PySem.W.codeIn K cdx_BadBook "BadBook.__init__" = true) (kx0_BadBook : PySem.W.keepIn K (.ref fx_BadBook) = true)
    {f0 : Addr} {od0 an0 : Option Addr} {sl0 : Array (Option Value)} {oc0 kV0 dc0 pm0 cd0 ct0 : Value}
    (a0 : PySem.W.nsIn K mainGlobals "words_of" = some (some (.ref f0))) (l0 : K.lookup f0 = some ⟨oc0, od0, .func (PySem.W.fnOf "words_of" "words_of" (defArgs s_words_of) (defBody s_words_of) (defScope s_words_of) .none kV0 dc0 pm0 an0 cd0 ct0), sl0⟩) (c0 : PySem.W.codeIn K cd0 "words_of" = true) (k0 : PySem.W.keepIn K (.ref f0) = true)
    {f1 : Addr} {od1 an1 : Option Addr} {sl1 : Array (Option Value)} {oc1 kV1 dc1 pm1 cd1 ct1 : Value}
    (a1 : PySem.W.nsIn K mainGlobals "_law_draw" = some (some (.ref f1))) (l1 : K.lookup f1 = some ⟨oc1, od1, .func (PySem.W.fnOf "_law_draw" "_law_draw" (defArgs s__law_draw) (defBody s__law_draw) (defScope s__law_draw) .none kV1 dc1 pm1 an1 cd1 ct1), sl1⟩) (c1 : PySem.W.codeIn K cd1 "_law_draw" = true) (k1 : PySem.W.keepIn K (.ref f1) = true)
    {f2 : Addr} {od2 an2 : Option Addr} {sl2 : Array (Option Value)} {oc2 kV2 dc2 pm2 cd2 ct2 : Value}
    (a2 : PySem.W.nsIn K mainGlobals "_law_pick" = some (some (.ref f2))) (l2 : K.lookup f2 = some ⟨oc2, od2, .func (PySem.W.fnOf "_law_pick" "_law_pick" (defArgs s__law_pick) (defBody s__law_pick) (defScope s__law_pick) .none kV2 dc2 pm2 an2 cd2 ct2), sl2⟩) (c2 : PySem.W.codeIn K cd2 "_law_pick" = true) (k2 : PySem.W.keepIn K (.ref f2) = true)
    {f3 : Addr} {od3 an3 : Option Addr} {sl3 : Array (Option Value)} {oc3 kV3 dc3 pm3 cd3 ct3 : Value}
    (a3 : PySem.W.nsIn K mainGlobals "_law_names" = some (some (.ref f3))) (l3 : K.lookup f3 = some ⟨oc3, od3, .func (PySem.W.fnOf "_law_names" "_law_names" (defArgs s__law_names) (defBody s__law_names) (defScope s__law_names) .none kV3 dc3 pm3 an3 cd3 ct3), sl3⟩) (c3 : PySem.W.codeIn K cd3 "_law_names" = true) (k3 : PySem.W.keepIn K (.ref f3) = true)
    {f4 : Addr} {od4 an4 : Option Addr} {sl4 : Array (Option Value)} {oc4 kV4 dc4 pm4 cd4 ct4 : Value}
    (a4 : PySem.W.nsIn K mainGlobals "_law_messy_line" = some (some (.ref f4))) (l4 : K.lookup f4 = some ⟨oc4, od4, .func (PySem.W.fnOf "_law_messy_line" "_law_messy_line" (defArgs s__law_messy_line) (defBody s__law_messy_line) (defScope s__law_messy_line) .none kV4 dc4 pm4 an4 cd4 ct4), sl4⟩) (c4 : PySem.W.codeIn K cd4 "_law_messy_line" = true) (k4 : PySem.W.keepIn K (.ref f4) = true)
    {f5 : Addr} {od5 an5 : Option Addr} {sl5 : Array (Option Value)} {oc5 kV5 dc5 pm5 cd5 ct5 : Value}
    (a5 : PySem.W.nsIn K mainGlobals "_law_areas" = some (some (.ref f5))) (l5 : K.lookup f5 = some ⟨oc5, od5, .func (PySem.W.fnOf "_law_areas" "_law_areas" (defArgs s__law_areas) (defBody s__law_areas) (defScope s__law_areas) .none kV5 dc5 pm5 an5 cd5 ct5), sl5⟩) (c5 : PySem.W.codeIn K cd5 "_law_areas" = true) (k5 : PySem.W.keepIn K (.ref f5) = true)
    {f6 : Addr} {od6 an6 : Option Addr} {sl6 : Array (Option Value)} {oc6 kV6 dc6 pm6 cd6 ct6 : Value}
    (a6 : PySem.W.nsIn K mainGlobals "is_name" = some (some (.ref f6))) (l6 : K.lookup f6 = some ⟨oc6, od6, .func (PySem.W.fnOf "is_name" "is_name" (defArgs s_is_name) (defBody s_is_name) (defScope s_is_name) .none kV6 dc6 pm6 an6 cd6 ct6), sl6⟩) (c6 : PySem.W.codeIn K cd6 "is_name" = true) (k6 : PySem.W.keepIn K (.ref f6) = true)
    {f7 : Addr} {od7 an7 : Option Addr} {sl7 : Array (Option Value)} {oc7 kV7 dc7 pm7 cd7 ct7 : Value}
    (a7 : PySem.W.nsIn K mainGlobals "is_path" = some (some (.ref f7))) (l7 : K.lookup f7 = some ⟨oc7, od7, .func (PySem.W.fnOf "is_path" "is_path" (defArgs s_is_path) (defBody s_is_path) (defScope s_is_path) .none kV7 dc7 pm7 an7 cd7 ct7), sl7⟩) (c7 : PySem.W.codeIn K cd7 "is_path" = true) (k7 : PySem.W.keepIn K (.ref f7) = true)
    {f8 : Addr} {od8 an8 : Option Addr} {sl8 : Array (Option Value)} {oc8 kV8 dc8 pm8 cd8 ct8 : Value}
    (a8 : PySem.W.nsIn K mainGlobals "covers" = some (some (.ref f8))) (l8 : K.lookup f8 = some ⟨oc8, od8, .func (PySem.W.fnOf "covers" "covers" (defArgs s_covers) (defBody s_covers) (defScope s_covers) .none kV8 dc8 pm8 an8 cd8 ct8), sl8⟩) (c8 : PySem.W.codeIn K cd8 "covers" = true) (k8 : PySem.W.keepIn K (.ref f8) = true)
    {f9 : Addr} {od9 an9 : Option Addr} {sl9 : Array (Option Value)} {oc9 kV9 dc9 pm9 cd9 ct9 : Value}
    (a9 : PySem.W.nsIn K mainGlobals "overlap" = some (some (.ref f9))) (l9 : K.lookup f9 = some ⟨oc9, od9, .func (PySem.W.fnOf "overlap" "overlap" (defArgs s_overlap) (defBody s_overlap) (defScope s_overlap) .none kV9 dc9 pm9 an9 cd9 ct9), sl9⟩) (c9 : PySem.W.codeIn K cd9 "overlap" = true) (k9 : PySem.W.keepIn K (.ref f9) = true)
    {f10 : Addr} {od10 an10 : Option Addr} {sl10 : Array (Option Value)} {oc10 kV10 dc10 pm10 cd10 ct10 : Value}
    (a10 : PySem.W.nsIn K mainGlobals "first_overlap" = some (some (.ref f10))) (l10 : K.lookup f10 = some ⟨oc10, od10, .func (PySem.W.fnOf "first_overlap" "first_overlap" (defArgs s_first_overlap) (defBody s_first_overlap) (defScope s_first_overlap) .none kV10 dc10 pm10 an10 cd10 ct10), sl10⟩) (c10 : PySem.W.codeIn K cd10 "first_overlap" = true) (k10 : PySem.W.keepIn K (.ref f10) = true)
    {f11 : Addr} {od11 an11 : Option Addr} {sl11 : Array (Option Value)} {oc11 kV11 dc11 pm11 cd11 ct11 : Value}
    (a11 : PySem.W.nsIn K mainGlobals "modules_error" = some (some (.ref f11))) (l11 : K.lookup f11 = some ⟨oc11, od11, .func (PySem.W.fnOf "modules_error" "modules_error" (defArgs s_modules_error) (defBody s_modules_error) (defScope s_modules_error) .none kV11 dc11 pm11 an11 cd11 ct11), sl11⟩) (c11 : PySem.W.codeIn K cd11 "modules_error" = true) (k11 : PySem.W.keepIn K (.ref f11) = true)
    {f12 : Addr} {od12 an12 : Option Addr} {sl12 : Array (Option Value)} {oc12 kV12 dc12 pm12 cd12 ct12 : Value}
    (a12 : PySem.W.nsIn K mainGlobals "_law_modules" = some (some (.ref f12))) (l12 : K.lookup f12 = some ⟨oc12, od12, .func (PySem.W.fnOf "_law_modules" "_law_modules" (defArgs s__law_modules) (defBody s__law_modules) (defScope s__law_modules) .none kV12 dc12 pm12 an12 cd12 ct12), sl12⟩) (c12 : PySem.W.codeIn K cd12 "_law_modules" = true) (k12 : PySem.W.keepIn K (.ref f12) = true)
    {f13 : Addr} {od13 an13 : Option Addr} {sl13 : Array (Option Value)} {oc13 kV13 dc13 pm13 cd13 ct13 : Value}
    (a13 : PySem.W.nsIn K mainGlobals "numbered_lines" = some (some (.ref f13))) (l13 : K.lookup f13 = some ⟨oc13, od13, .func (PySem.W.fnOf "numbered_lines" "numbered_lines" (defArgs s_numbered_lines) (defBody s_numbered_lines) (defScope s_numbered_lines) .none kV13 dc13 pm13 an13 cd13 ct13), sl13⟩) (c13 : PySem.W.codeIn K cd13 "numbered_lines" = true) (k13 : PySem.W.keepIn K (.ref f13) = true)
    {f14 : Addr} {od14 an14 : Option Addr} {sl14 : Array (Option Value)} {oc14 kV14 dc14 pm14 cd14 ct14 : Value}
    (a14 : PySem.W.nsIn K mainGlobals "parted" = some (some (.ref f14))) (l14 : K.lookup f14 = some ⟨oc14, od14, .func (PySem.W.fnOf "parted" "parted" (defArgs s_parted) (defBody s_parted) (defScope s_parted) .none kV14 dc14 pm14 an14 cd14 ct14), sl14⟩) (c14 : PySem.W.codeIn K cd14 "parted" = true) (k14 : PySem.W.keepIn K (.ref f14) = true)
    {f15 : Addr} {od15 an15 : Option Addr} {sl15 : Array (Option Value)} {oc15 kV15 dc15 pm15 cd15 ct15 : Value}
    (a15 : PySem.W.nsIn K mainGlobals "_law_rows_of" = some (some (.ref f15))) (l15 : K.lookup f15 = some ⟨oc15, od15, .func (PySem.W.fnOf "_law_rows_of" "_law_rows_of" (defArgs s__law_rows_of) (defBody s__law_rows_of) (defScope s__law_rows_of) .none kV15 dc15 pm15 an15 cd15 ct15), sl15⟩) (c15 : PySem.W.codeIn K cd15 "_law_rows_of" = true) (k15 : PySem.W.keepIn K (.ref f15) = true)
    {f16 : Addr} {od16 an16 : Option Addr} {sl16 : Array (Option Value)} {oc16 kV16 dc16 pm16 cd16 ct16 : Value}
    (a16 : PySem.W.nsIn K mainGlobals "_law_shuffled" = some (some (.ref f16))) (l16 : K.lookup f16 = some ⟨oc16, od16, .func (PySem.W.fnOf "_law_shuffled" "_law_shuffled" (defArgs s__law_shuffled) (defBody s__law_shuffled) (defScope s__law_shuffled) .none kV16 dc16 pm16 an16 cd16 ct16), sl16⟩) (c16 : PySem.W.codeIn K cd16 "_law_shuffled" = true) (k16 : PySem.W.keepIn K (.ref f16) = true)
    {f17 : Addr} {od17 an17 : Option Addr} {sl17 : Array (Option Value)} {oc17 kV17 dc17 pm17 cd17 ct17 : Value}
    (a17 : PySem.W.nsIn K mainGlobals "_law_covers" = some (some (.ref f17))) (l17 : K.lookup f17 = some ⟨oc17, od17, .func (PySem.W.fnOf "_law_covers" "_law_covers" (defArgs s__law_covers) (defBody s__law_covers) (defScope s__law_covers) .none kV17 dc17 pm17 an17 cd17 ct17), sl17⟩) (c17 : PySem.W.codeIn K cd17 "_law_covers" = true) (k17 : PySem.W.keepIn K (.ref f17) = true)
    {f18 : Addr} {od18 an18 : Option Addr} {sl18 : Array (Option Value)} {oc18 kV18 dc18 pm18 cd18 ct18 : Value}
    (a18 : PySem.W.nsIn K mainGlobals "_law_within" = some (some (.ref f18))) (l18 : K.lookup f18 = some ⟨oc18, od18, .func (PySem.W.fnOf "_law_within" "_law_within" (defArgs s__law_within) (defBody s__law_within) (defScope s__law_within) .none kV18 dc18 pm18 an18 cd18 ct18), sl18⟩) (c18 : PySem.W.codeIn K cd18 "_law_within" = true) (k18 : PySem.W.keepIn K (.ref f18) = true)
    {f19 : Addr} {od19 an19 : Option Addr} {sl19 : Array (Option Value)} {oc19 kV19 dc19 pm19 cd19 ct19 : Value}
    (a19 : PySem.W.nsIn K mainGlobals "_law_rule" = some (some (.ref f19))) (l19 : K.lookup f19 = some ⟨oc19, od19, .func (PySem.W.fnOf "_law_rule" "_law_rule" (defArgs s__law_rule) (defBody s__law_rule) (defScope s__law_rule) .none kV19 dc19 pm19 an19 cd19 ct19), sl19⟩) (c19 : PySem.W.codeIn K cd19 "_law_rule" = true) (k19 : PySem.W.keepIn K (.ref f19) = true)
    {f20 : Addr} {od20 an20 : Option Addr} {sl20 : Array (Option Value)} {oc20 kV20 dc20 pm20 cd20 ct20 : Value}
    (a20 : PySem.W.nsIn K mainGlobals "is_rule_path" = some (some (.ref f20))) (l20 : K.lookup f20 = some ⟨oc20, od20, .func (PySem.W.fnOf "is_rule_path" "is_rule_path" (defArgs s_is_rule_path) (defBody s_is_rule_path) (defScope s_is_rule_path) .none kV20 dc20 pm20 an20 cd20 ct20), sl20⟩) (c20 : PySem.W.codeIn K cd20 "is_rule_path" = true) (k20 : PySem.W.keepIn K (.ref f20) = true)
    {f21 : Addr} {od21 an21 : Option Addr} {sl21 : Array (Option Value)} {oc21 kV21 dc21 pm21 cd21 ct21 : Value}
    (a21 : PySem.W.nsIn K mainGlobals "are_rule_paths" = some (some (.ref f21))) (l21 : K.lookup f21 = some ⟨oc21, od21, .func (PySem.W.fnOf "are_rule_paths" "are_rule_paths" (defArgs s_are_rule_paths) (defBody s_are_rule_paths) (defScope s_are_rule_paths) .none kV21 dc21 pm21 an21 cd21 ct21), sl21⟩) (c21 : PySem.W.codeIn K cd21 "are_rule_paths" = true) (k21 : PySem.W.keepIn K (.ref f21) = true)
    {f22 : Addr} {od22 an22 : Option Addr} {sl22 : Array (Option Value)} {oc22 kV22 dc22 pm22 cd22 ct22 : Value}
    (a22 : PySem.W.nsIn K mainGlobals "are_rows" = some (some (.ref f22))) (l22 : K.lookup f22 = some ⟨oc22, od22, .func (PySem.W.fnOf "are_rows" "are_rows" (defArgs s_are_rows) (defBody s_are_rows) (defScope s_are_rows) .none kV22 dc22 pm22 an22 cd22 ct22), sl22⟩) (c22 : PySem.W.codeIn K cd22 "are_rows" = true) (k22 : PySem.W.keepIn K (.ref f22) = true)
    {f23 : Addr} {od23 an23 : Option Addr} {sl23 : Array (Option Value)} {oc23 kV23 dc23 pm23 cd23 ct23 : Value}
    (a23 : PySem.W.nsIn K mainGlobals "item_holds" = some (some (.ref f23))) (l23 : K.lookup f23 = some ⟨oc23, od23, .func (PySem.W.fnOf "item_holds" "item_holds" (defArgs s_item_holds) (defBody s_item_holds) (defScope s_item_holds) .none kV23 dc23 pm23 an23 cd23 ct23), sl23⟩) (c23 : PySem.W.codeIn K cd23 "item_holds" = true) (k23 : PySem.W.keepIn K (.ref f23) = true)
    {f24 : Addr} {od24 an24 : Option Addr} {sl24 : Array (Option Value)} {oc24 kV24 dc24 pm24 cd24 ct24 : Value}
    (a24 : PySem.W.nsIn K mainGlobals "any_overlap" = some (some (.ref f24))) (l24 : K.lookup f24 = some ⟨oc24, od24, .func (PySem.W.fnOf "any_overlap" "any_overlap" (defArgs s_any_overlap) (defBody s_any_overlap) (defScope s_any_overlap) .none kV24 dc24 pm24 an24 cd24 ct24), sl24⟩) (c24 : PySem.W.codeIn K cd24 "any_overlap" = true) (k24 : PySem.W.keepIn K (.ref f24) = true)
    {f25 : Addr} {od25 an25 : Option Addr} {sl25 : Array (Option Value)} {oc25 kV25 dc25 pm25 cd25 ct25 : Value}
    (a25 : PySem.W.nsIn K mainGlobals "parallel_paths" = some (some (.ref f25))) (l25 : K.lookup f25 = some ⟨oc25, od25, .func (PySem.W.fnOf "parallel_paths" "parallel_paths" (defArgs s_parallel_paths) (defBody s_parallel_paths) (defScope s_parallel_paths) .none kV25 dc25 pm25 an25 cd25 ct25), sl25⟩) (c25 : PySem.W.codeIn K cd25 "parallel_paths" = true) (k25 : PySem.W.keepIn K (.ref f25) = true)
    {f26 : Addr} {od26 an26 : Option Addr} {sl26 : Array (Option Value)} {oc26 kV26 dc26 pm26 cd26 ct26 : Value}
    (a26 : PySem.W.nsIn K mainGlobals "rule_error" = some (some (.ref f26))) (l26 : K.lookup f26 = some ⟨oc26, od26, .func (PySem.W.fnOf "rule_error" "rule_error" (defArgs s_rule_error) (defBody s_rule_error) (defScope s_rule_error) .none kV26 dc26 pm26 an26 cd26 ct26), sl26⟩) (c26 : PySem.W.codeIn K cd26 "rule_error" = true) (k26 : PySem.W.keepIn K (.ref f26) = true)
    {f27 : Addr} {od27 an27 : Option Addr} {sl27 : Array (Option Value)} {oc27 kV27 dc27 pm27 cd27 ct27 : Value}
    (a27 : PySem.W.nsIn K mainGlobals "rows_text" = some (some (.ref f27))) (l27 : K.lookup f27 = some ⟨oc27, od27, .func (PySem.W.fnOf "rows_text" "rows_text" (defArgs s_rows_text) (defBody s_rows_text) (defScope s_rows_text) .none kV27 dc27 pm27 an27 cd27 ct27), sl27⟩) (c27 : PySem.W.codeIn K cd27 "rows_text" = true) (k27 : PySem.W.keepIn K (.ref f27) = true)
    {f28 : Addr} {od28 an28 : Option Addr} {sl28 : Array (Option Value)} {oc28 kV28 dc28 pm28 cd28 ct28 : Value}
    (a28 : PySem.W.nsIn K mainGlobals "rule_text" = some (some (.ref f28))) (l28 : K.lookup f28 = some ⟨oc28, od28, .func (PySem.W.fnOf "rule_text" "rule_text" (defArgs s_rule_text) (defBody s_rule_text) (defScope s_rule_text) .none kV28 dc28 pm28 an28 cd28 ct28), sl28⟩) (c28 : PySem.W.codeIn K cd28 "rule_text" = true) (k28 : PySem.W.keepIn K (.ref f28) = true)
    {f29 : Addr} {od29 an29 : Option Addr} {sl29 : Array (Option Value)} {oc29 kV29 dc29 pm29 cd29 ct29 : Value}
    (a29 : PySem.W.nsIn K mainGlobals "book_error" = some (some (.ref f29))) (l29 : K.lookup f29 = some ⟨oc29, od29, .func (PySem.W.fnOf "book_error" "book_error" (defArgs s_book_error) (defBody s_book_error) (defScope s_book_error) .none kV29 dc29 pm29 an29 cd29 ct29), sl29⟩) (c29 : PySem.W.codeIn K cd29 "book_error" = true) (k29 : PySem.W.keepIn K (.ref f29) = true)
    {f30 : Addr} {od30 an30 : Option Addr} {sl30 : Array (Option Value)} {oc30 kV30 dc30 pm30 cd30 ct30 : Value}
    (a30 : PySem.W.findIn K (.ref C_Book) "__init__" = some (some (.ref f30))) (ma30 : PySem.W.isFn K (.ref f30) = true)
    (mb30 : PySem.W.makesIn K C_Book = true) (mc30 : PySem.W.keepIn K (.ref C_Book) = true)
    (l30 : K.lookup f30 = some ⟨oc30, od30, .func (PySem.W.fnOf "__init__" "Book.__init__" (defArgs s_Book___init__) (defBody s_Book___init__) (defScope s_Book___init__) .none kV30 dc30 pm30 an30 cd30 ct30), sl30⟩) (c30 : PySem.W.codeIn K cd30 "Book.__init__" = true) (k30 : PySem.W.keepIn K (.ref f30) = true)
    {f31 : Addr} {od31 an31 : Option Addr} {sl31 : Array (Option Value)} {oc31 kV31 dc31 pm31 cd31 ct31 : Value}
    {pr31 : Addr} {rs31 : List Value} (a31 : PySem.W.findIn K (.ref C_Book) "rules" = some (some (.ref pr31))) (pa31 : PySem.W.specialIn K (.ref pr31) "__get__" = some (some (.builtin "property.__get__"))) (pb31 : PySem.W.takesIn K (.ref pr31) = some true) (pc31 : PySem.W.recIn K pr31 "property" = some (.ref f31 :: rs31))
    (l31 : K.lookup f31 = some ⟨oc31, od31, .func (PySem.W.fnOf "rules" "Book.rules" (defArgs s_Book_rules) (defBody s_Book_rules) (defScope s_Book_rules) .none kV31 dc31 pm31 an31 cd31 ct31), sl31⟩) (c31 : PySem.W.codeIn K cd31 "Book.rules" = true) (k31 : PySem.W.keepIn K (.ref f31) = true)
    {f32 : Addr} {od32 an32 : Option Addr} {sl32 : Array (Option Value)} {oc32 kV32 dc32 pm32 cd32 ct32 : Value}
    (a32 : PySem.W.nsIn K mainGlobals "book_text" = some (some (.ref f32))) (l32 : K.lookup f32 = some ⟨oc32, od32, .func (PySem.W.fnOf "book_text" "book_text" (defArgs s_book_text) (defBody s_book_text) (defScope s_book_text) .none kV32 dc32 pm32 an32 cd32 ct32), sl32⟩) (c32 : PySem.W.codeIn K cd32 "book_text" = true) (k32 : PySem.W.keepIn K (.ref f32) = true)
    {f33 : Addr} {od33 an33 : Option Addr} {sl33 : Array (Option Value)} {oc33 kV33 dc33 pm33 cd33 ct33 : Value}
    (a33 : PySem.W.nsIn K mainGlobals "_law_messy" = some (some (.ref f33))) (l33 : K.lookup f33 = some ⟨oc33, od33, .func (PySem.W.fnOf "_law_messy" "_law_messy" (defArgs s__law_messy) (defBody s__law_messy) (defScope s__law_messy) .none kV33 dc33 pm33 an33 cd33 ct33), sl33⟩) (c33 : PySem.W.codeIn K cd33 "_law_messy" = true) (k33 : PySem.W.keepIn K (.ref f33) = true)
    {f34 : Addr} {od34 an34 : Option Addr} {sl34 : Array (Option Value)} {oc34 kV34 dc34 pm34 cd34 ct34 : Value}
    (a34 : PySem.W.nsIn K mainGlobals "shaped_rule" = some (some (.ref f34))) (l34 : K.lookup f34 = some ⟨oc34, od34, .func (PySem.W.fnOf "shaped_rule" "shaped_rule" (defArgs s_shaped_rule) (defBody s_shaped_rule) (defScope s_shaped_rule) .none kV34 dc34 pm34 an34 cd34 ct34), sl34⟩) (c34 : PySem.W.codeIn K cd34 "shaped_rule" = true) (k34 : PySem.W.keepIn K (.ref f34) = true)
    {f35 : Addr} {od35 an35 : Option Addr} {sl35 : Array (Option Value)} {oc35 kV35 dc35 pm35 cd35 ct35 : Value}
    (a35 : PySem.W.nsIn K mainGlobals "rule_of_words" = some (some (.ref f35))) (l35 : K.lookup f35 = some ⟨oc35, od35, .func (PySem.W.fnOf "rule_of_words" "rule_of_words" (defArgs s_rule_of_words) (defBody s_rule_of_words) (defScope s_rule_of_words) .none kV35 dc35 pm35 an35 cd35 ct35), sl35⟩) (c35 : PySem.W.codeIn K cd35 "rule_of_words" = true) (k35 : PySem.W.keepIn K (.ref f35) = true)
    {f36 : Addr} {od36 an36 : Option Addr} {sl36 : Array (Option Value)} {oc36 kV36 dc36 pm36 cd36 ct36 : Value}
    (a36 : PySem.W.nsIn K mainGlobals "read_book" = some (some (.ref f36))) (l36 : K.lookup f36 = some ⟨oc36, od36, .func (PySem.W.fnOf "read_book" "read_book" (defArgs s_read_book) (defBody s_read_book) (defScope s_read_book) .none kV36 dc36 pm36 an36 cd36 ct36), sl36⟩) (c36 : PySem.W.codeIn K cd36 "read_book" = true) (k36 : PySem.W.keepIn K (.ref f36) = true)
    {f37 : Addr} {od37 an37 : Option Addr} {sl37 : Array (Option Value)} {oc37 kV37 dc37 pm37 cd37 ct37 : Value}
    (a37 : PySem.W.nsIn K mainGlobals "read_rule" = some (some (.ref f37))) (l37 : K.lookup f37 = some ⟨oc37, od37, .func (PySem.W.fnOf "read_rule" "read_rule" (defArgs s_read_rule) (defBody s_read_rule) (defScope s_read_rule) .none kV37 dc37 pm37 an37 cd37 ct37), sl37⟩) (c37 : PySem.W.codeIn K cd37 "read_rule" = true) (k37 : PySem.W.keepIn K (.ref f37) = true)
    {f38 : Addr} {od38 an38 : Option Addr} {sl38 : Array (Option Value)} {oc38 kV38 dc38 pm38 cd38 ct38 : Value}
    (a38 : PySem.W.nsIn K mainGlobals "_law_rule_words" = some (some (.ref f38))) (l38 : K.lookup f38 = some ⟨oc38, od38, .func (PySem.W.fnOf "_law_rule_words" "_law_rule_words" (defArgs s__law_rule_words) (defBody s__law_rule_words) (defScope s__law_rule_words) .none kV38 dc38 pm38 an38 cd38 ct38), sl38⟩) (c38 : PySem.W.codeIn K cd38 "_law_rule_words" = true) (k38 : PySem.W.keepIn K (.ref f38) = true)
    {f39 : Addr} {od39 an39 : Option Addr} {sl39 : Array (Option Value)} {oc39 kV39 dc39 pm39 cd39 ct39 : Value}
    (a39 : PySem.W.findIn K (.ref C_Book) "__eq__" = some (some (.ref f39))) (ma39 : PySem.W.isFn K (.ref f39) = true)
    (l39 : K.lookup f39 = some ⟨oc39, od39, .func (PySem.W.fnOf "__eq__" "Book.__eq__" (defArgs s_Book___eq__) (defBody s_Book___eq__) (defScope s_Book___eq__) .none kV39 dc39 pm39 an39 cd39 ct39), sl39⟩) (c39 : PySem.W.codeIn K cd39 "Book.__eq__" = true) (k39 : PySem.W.keepIn K (.ref f39) = true)
    {f40 : Addr} {od40 an40 : Option Addr} {sl40 : Array (Option Value)} {oc40 kV40 dc40 pm40 cd40 ct40 : Value}
    (a40 : PySem.W.nsIn K mainGlobals "_law_stream" = some (some (.ref f40))) (l40 : K.lookup f40 = some ⟨oc40, od40, .func (PySem.W.fnOf "_law_stream" "_law_stream" (defArgs s__law_stream) (defBody s__law_stream) (defScope s__law_stream) .none kV40 dc40 pm40 an40 cd40 ct40), sl40⟩) (c40 : PySem.W.codeIn K cd40 "_law_stream" = true) (k40 : PySem.W.keepIn K (.ref f40) = true)
    {f41 : Addr} {od41 an41 : Option Addr} {sl41 : Array (Option Value)} {oc41 kV41 dc41 pm41 cd41 ct41 : Value}
    (a41 : PySem.W.nsIn K mainGlobals "law" = some (some (.ref f41))) (l41 : K.lookup f41 = some ⟨oc41, od41, .func (PySem.W.fnOf "law" "law" (defArgs s_law) (defBody s_law) (defScope s_law) .none kV41 dc41 pm41 an41 cd41 ct41), sl41⟩) (c41 : PySem.W.codeIn K cd41 "law" = true) (k41 : PySem.W.keepIn K (.ref f41) = true)
    (z_len : PySem.W.nsIn K mainGlobals "len" = some none)
    (z_int : PySem.W.nsIn K mainGlobals "int" = some none)
    (z_range : PySem.W.nsIn K mainGlobals "range" = some none)
    (z_all : PySem.W.nsIn K mainGlobals "all" = some none)
    (z_str : PySem.W.nsIn K mainGlobals "str" = some none)
    (z_isinstance : PySem.W.nsIn K mainGlobals "isinstance" = some none)
    (z_enumerate : PySem.W.nsIn K mainGlobals "enumerate" = some none)
    (z_tuple : PySem.W.nsIn K mainGlobals "tuple" = some none)
    (z_min : PySem.W.nsIn K mainGlobals "min" = some none)
    (z_any : PySem.W.nsIn K mainGlobals "any" = some none)
    (z_list : PySem.W.nsIn K mainGlobals "list" = some none)
    (z_abs : PySem.W.nsIn K mainGlobals "abs" = some none)
    (z_repr : PySem.W.nsIn K mainGlobals "repr" = some none)
    {tk_LETTERS : Tok} (y_LETTERS : PySem.W.nsIn K mainGlobals "LETTERS" = some (some (.str "abcdefghijklmnopqrstuvwxyz" tk_LETTERS)))
    {tk_MAX_LETTERS : Tok} (y_MAX_LETTERS : PySem.W.nsIn K mainGlobals "MAX_LETTERS" = some (some (.int 8 tk_MAX_LETTERS)))
    {tk_MAX_NAMES : Tok} (y_MAX_NAMES : PySem.W.nsIn K mainGlobals "MAX_NAMES" = some (some (.int 6 tk_MAX_NAMES)))
    {tk_MAX_MODULES : Tok} (y_MAX_MODULES : PySem.W.nsIn K mainGlobals "MAX_MODULES" = some (some (.int 24 tk_MAX_MODULES)))
    {tk_MAX_RULE_NAMES : Tok} (y_MAX_RULE_NAMES : PySem.W.nsIn K mainGlobals "MAX_RULE_NAMES" = some (some (.int 4 tk_MAX_RULE_NAMES)))
    {tk_MOST_PATHS : Tok} (y_MOST_PATHS : PySem.W.nsIn K mainGlobals "MOST_PATHS" = some (some (.int 6 tk_MOST_PATHS)))
    {tk_MAX_RULES : Tok} (y_MAX_RULES : PySem.W.nsIn K mainGlobals "MAX_RULES" = some (some (.int 8 tk_MAX_RULES))) :
    ∃ fd : FuncData, (∀ (s : Shared) (v : Value), BindsTo s fd ⟨[v], []⟩ [("_law_script", v)]) ∧ ∀ base : Heap, K.In base → base.Ns mainGlobals mg → FnG l.prog w K mg base 12 fa fd ["_law_script"] (spLaw K) := by
  have e := hfa.symm.trans (PySem.W.mg_of X G a41)
  cases e
  have m_len := PySem.W.mg_none_of X G z_len
  have m_int := PySem.W.mg_none_of X G z_int
  have m_range := PySem.W.mg_none_of X G z_range
  have m_all := PySem.W.mg_none_of X G z_all
  have m_str := PySem.W.mg_none_of X G z_str
  have m_isinstance := PySem.W.mg_none_of X G z_isinstance
  have m_enumerate := PySem.W.mg_none_of X G z_enumerate
  have m_tuple := PySem.W.mg_none_of X G z_tuple
  have m_min := PySem.W.mg_none_of X G z_min
  have m_any := PySem.W.mg_none_of X G z_any
  have m_list := PySem.W.mg_none_of X G z_list
  have m_abs := PySem.W.mg_none_of X G z_abs
  have m_repr := PySem.W.mg_none_of X G z_repr
  have g_LETTERS : ∃ t, mg "LETTERS" = some (.str "abcdefghijklmnopqrstuvwxyz" t) := ⟨_, PySem.W.mg_of X G y_LETTERS⟩
  have g_MAX_LETTERS : ∃ t, mg "MAX_LETTERS" = some (.int 8 t) := ⟨_, PySem.W.mg_of X G y_MAX_LETTERS⟩
  have g_MAX_NAMES : ∃ t, mg "MAX_NAMES" = some (.int 6 t) := ⟨_, PySem.W.mg_of X G y_MAX_NAMES⟩
  have g_MAX_MODULES : ∃ t, mg "MAX_MODULES" = some (.int 24 t) := ⟨_, PySem.W.mg_of X G y_MAX_MODULES⟩
  have g_MAX_RULE_NAMES : ∃ t, mg "MAX_RULE_NAMES" = some (.int 4 t) := ⟨_, PySem.W.mg_of X G y_MAX_RULE_NAMES⟩
  have g_MOST_PATHS : ∃ t, mg "MOST_PATHS" = some (.int 6 t) := ⟨_, PySem.W.mg_of X G y_MOST_PATHS⟩
  have g_MAX_RULES : ∃ t, mg "MAX_RULES" = some (.int 8 t) := ⟨_, PySem.W.mg_of X G y_MAX_RULES⟩
  have k_Book : KC K "Book" C_Book := ⟨kc0_Book, ⟨kc1_Book, kc2_Book, kc3_Book, kc4_Book⟩⟩
  have mg_Book : mg "Book" = some (.ref C_Book) := PySem.W.mg_of X G kc0_Book
  have i_Book : KI K "Book" C_Book := .mk7 k_Book ⟨ko0_Book, ko1_Book, ko2_Book, ko3_Book⟩ ki0_Book ki1_Book ki2_Book ki3_Book ki4_Book ki5_Book ki6_Book ki7_Book ki8_Book
  have mg_BadBook : mg "BadBook" = some (.ref C_BadBook) := PySem.W.mg_of X G xc0_BadBook
  have gd_LEAST : GD K w mg "LEAST" tbl_LEAST := ⟨_, _, _, PySem.W.mg_of X G gd0_LEAST, ⟨gd1_LEAST, gd2_LEAST, gd3_LEAST⟩, gd4_LEAST⟩
  have gd_ITEMS : GD K w mg "ITEMS" tbl_ITEMS := ⟨_, _, _, PySem.W.mg_of X G gd0_ITEMS, ⟨gd1_ITEMS, gd2_ITEMS, gd3_ITEMS⟩, gd4_ITEMS⟩
  have n_Book_held : NoAttr K C_Book "held" := kn_n_Book_held
  refine ⟨PySem.W.fnOf "law" "law" (defArgs s_law) (defBody s_law) (defScope s_law) .none kV41 dc41 pm41 an41 cd41 ct41, fun s v => .of_eq rfl, fun base _ _ => ?_⟩
  have x_BadBook := ok_x_BadBook (P := l.prog) (w := w) (mg := mg) (base := base) ⟨⟨_, _, _, _, _, _, _, _, _, _, _, _, _, _, _, xl_BadBook, xr_BadBook⟩, xs0_BadBook, xs1_BadBook, xs2_BadBook, xs3_BadBook⟩ xs4_BadBook (fun_mk lx_BadBook cx_BadBook kx0_BadBook) xi_BadBook xt_BadBook xc0_BadBook mg_BadBook
  have d_words_of : Df K mg "words_of" s_words_of := ⟨_, _, fun_mk l0 c0 k0, PySem.W.mg_of X G a0⟩
  have d__law_draw : Df K mg "_law_draw" s__law_draw := ⟨_, _, fun_mk l1 c1 k1, PySem.W.mg_of X G a1⟩
  have d__law_pick : Df K mg "_law_pick" s__law_pick := ⟨_, _, fun_mk l2 c2 k2, PySem.W.mg_of X G a2⟩
  have d__law_names : Df K mg "_law_names" s__law_names := ⟨_, _, fun_mk l3 c3 k3, PySem.W.mg_of X G a3⟩
  have d__law_messy_line : Df K mg "_law_messy_line" s__law_messy_line := ⟨_, _, fun_mk l4 c4 k4, PySem.W.mg_of X G a4⟩
  have d__law_areas : Df K mg "_law_areas" s__law_areas := ⟨_, _, fun_mk l5 c5 k5, PySem.W.mg_of X G a5⟩
  have d_is_name : Df K mg "is_name" s_is_name := ⟨_, _, fun_mk l6 c6 k6, PySem.W.mg_of X G a6⟩
  have d_is_path : Df K mg "is_path" s_is_path := ⟨_, _, fun_mk l7 c7 k7, PySem.W.mg_of X G a7⟩
  have d_covers : Df K mg "covers" s_covers := ⟨_, _, fun_mk l8 c8 k8, PySem.W.mg_of X G a8⟩
  have d_overlap : Df K mg "overlap" s_overlap := ⟨_, _, fun_mk l9 c9 k9, PySem.W.mg_of X G a9⟩
  have d_first_overlap : Df K mg "first_overlap" s_first_overlap := ⟨_, _, fun_mk l10 c10 k10, PySem.W.mg_of X G a10⟩
  have d_modules_error : Df K mg "modules_error" s_modules_error := ⟨_, _, fun_mk l11 c11 k11, PySem.W.mg_of X G a11⟩
  have d__law_modules : Df K mg "_law_modules" s__law_modules := ⟨_, _, fun_mk l12 c12 k12, PySem.W.mg_of X G a12⟩
  have d_numbered_lines : Df K mg "numbered_lines" s_numbered_lines := ⟨_, _, fun_mk l13 c13 k13, PySem.W.mg_of X G a13⟩
  have d_parted : Df K mg "parted" s_parted := ⟨_, _, fun_mk l14 c14 k14, PySem.W.mg_of X G a14⟩
  have d__law_rows_of : Df K mg "_law_rows_of" s__law_rows_of := ⟨_, _, fun_mk l15 c15 k15, PySem.W.mg_of X G a15⟩
  have d__law_shuffled : Df K mg "_law_shuffled" s__law_shuffled := ⟨_, _, fun_mk l16 c16 k16, PySem.W.mg_of X G a16⟩
  have d__law_covers : Df K mg "_law_covers" s__law_covers := ⟨_, _, fun_mk l17 c17 k17, PySem.W.mg_of X G a17⟩
  have d__law_within : Df K mg "_law_within" s__law_within := ⟨_, _, fun_mk l18 c18 k18, PySem.W.mg_of X G a18⟩
  have d__law_rule : Df K mg "_law_rule" s__law_rule := ⟨_, _, fun_mk l19 c19 k19, PySem.W.mg_of X G a19⟩
  have d_is_rule_path : Df K mg "is_rule_path" s_is_rule_path := ⟨_, _, fun_mk l20 c20 k20, PySem.W.mg_of X G a20⟩
  have d_are_rule_paths : Df K mg "are_rule_paths" s_are_rule_paths := ⟨_, _, fun_mk l21 c21 k21, PySem.W.mg_of X G a21⟩
  have d_are_rows : Df K mg "are_rows" s_are_rows := ⟨_, _, fun_mk l22 c22 k22, PySem.W.mg_of X G a22⟩
  have d_item_holds : Df K mg "item_holds" s_item_holds := ⟨_, _, fun_mk l23 c23 k23, PySem.W.mg_of X G a23⟩
  have d_any_overlap : Df K mg "any_overlap" s_any_overlap := ⟨_, _, fun_mk l24 c24 k24, PySem.W.mg_of X G a24⟩
  have d_parallel_paths : Df K mg "parallel_paths" s_parallel_paths := ⟨_, _, fun_mk l25 c25 k25, PySem.W.mg_of X G a25⟩
  have d_rule_error : Df K mg "rule_error" s_rule_error := ⟨_, _, fun_mk l26 c26 k26, PySem.W.mg_of X G a26⟩
  have d_rows_text : Df K mg "rows_text" s_rows_text := ⟨_, _, fun_mk l27 c27 k27, PySem.W.mg_of X G a27⟩
  have d_rule_text : Df K mg "rule_text" s_rule_text := ⟨_, _, fun_mk l28 c28 k28, PySem.W.mg_of X G a28⟩
  have d_book_error : Df K mg "book_error" s_book_error := ⟨_, _, fun_mk l29 c29 k29, PySem.W.mg_of X G a29⟩
  have d_book_text : Df K mg "book_text" s_book_text := ⟨_, _, fun_mk l32 c32 k32, PySem.W.mg_of X G a32⟩
  have d__law_messy : Df K mg "_law_messy" s__law_messy := ⟨_, _, fun_mk l33 c33 k33, PySem.W.mg_of X G a33⟩
  have d_shaped_rule : Df K mg "shaped_rule" s_shaped_rule := ⟨_, _, fun_mk l34 c34 k34, PySem.W.mg_of X G a34⟩
  have d_rule_of_words : Df K mg "rule_of_words" s_rule_of_words := ⟨_, _, fun_mk l35 c35 k35, PySem.W.mg_of X G a35⟩
  have d_read_book : Df K mg "read_book" s_read_book := ⟨_, _, fun_mk l36 c36 k36, PySem.W.mg_of X G a36⟩
  have d_read_rule : Df K mg "read_rule" s_read_rule := ⟨_, _, fun_mk l37 c37 k37, PySem.W.mg_of X G a37⟩
  have d__law_rule_words : Df K mg "_law_rule_words" s__law_rule_words := ⟨_, _, fun_mk l38 c38 k38, PySem.W.mg_of X G a38⟩
  have d__law_stream : Df K mg "_law_stream" s__law_stream := ⟨_, _, fun_mk l40 c40 k40, PySem.W.mg_of X G a40⟩
  have c_words_of := ok_words_of (P := l.prog) (w := w) (mg := mg) (base := base) d_words_of 
  have c__law_draw := ok__law_draw (P := l.prog) (w := w) (mg := mg) (base := base) d__law_draw m_len m_int
  have c__law_pick := ok__law_pick (P := l.prog) (w := w) (mg := mg) (base := base) d__law_pick m_len c__law_draw
  have c__law_names := ok__law_names (P := l.prog) (w := w) (mg := mg) (base := base) d__law_names m_range m_int c__law_pick c__law_draw
  have c__law_messy_line := ok__law_messy_line (P := l.prog) (w := w) (mg := mg) (base := base) d__law_messy_line c__law_draw c__law_pick
  have c__law_areas := ok__law_areas (P := l.prog) (w := w) (mg := mg) (base := base) d__law_areas c__law_pick c__law_draw
  have c_is_name := ok_is_name (P := l.prog) (w := w) (mg := mg) (base := base) d_is_name m_all m_len m_str m_isinstance g_LETTERS g_MAX_LETTERS
  have c_is_path := ok_is_path (P := l.prog) (w := w) (mg := mg) (base := base) d_is_path m_all m_len m_str m_isinstance g_MAX_NAMES c_is_name
  have c_covers := ok_covers (P := l.prog) (w := w) (mg := mg) (base := base) d_covers 
  have c_overlap := ok_overlap (P := l.prog) (w := w) (mg := mg) (base := base) d_overlap c_covers
  have c_first_overlap := ok_first_overlap (P := l.prog) (w := w) (mg := mg) (base := base) d_first_overlap c_overlap
  have c_modules_error := ok_modules_error (P := l.prog) (w := w) (mg := mg) (base := base) d_modules_error m_enumerate m_len m_tuple m_isinstance g_MAX_MODULES c_first_overlap c_is_path
  have c__law_modules := ok__law_modules (P := l.prog) (w := w) (mg := mg) (base := base) d__law_modules c__law_pick c__law_draw
  have c_numbered_lines := ok_numbered_lines (P := l.prog) (w := w) (mg := mg) (base := base) d_numbered_lines m_enumerate m_str m_isinstance c_words_of
  have c_parted := ok_parted (P := l.prog) (w := w) (mg := mg) (base := base) d_parted 
  have c__law_rows_of := ok__law_rows_of (P := l.prog) (w := w) (mg := mg) (base := base) d__law_rows_of m_len m_tuple m_min c__law_draw
  have c__law_shuffled := ok__law_shuffled (P := l.prog) (w := w) (mg := mg) (base := base) d__law_shuffled m_len c__law_draw
  have c__law_covers := ok__law_covers (P := l.prog) (w := w) (mg := mg) (base := base) d__law_covers m_len
  have c__law_within := ok__law_within (P := l.prog) (w := w) (mg := mg) (base := base) d__law_within c__law_covers
  have c__law_rule := ok__law_rule (P := l.prog) (w := w) (mg := mg) (base := base) d__law_rule m_tuple m_len c__law_draw c__law_within c__law_rows_of c__law_pick c__law_shuffled
  have c_is_rule_path := ok_is_rule_path (P := l.prog) (w := w) (mg := mg) (base := base) d_is_rule_path g_MAX_RULE_NAMES c_is_path
  have c_are_rule_paths := ok_are_rule_paths (P := l.prog) (w := w) (mg := mg) (base := base) d_are_rule_paths m_all m_len m_tuple m_isinstance c_is_rule_path
  have c_are_rows := ok_are_rows (P := l.prog) (w := w) (mg := mg) (base := base) d_are_rows m_all m_len m_tuple m_isinstance c_are_rule_paths
  have c_item_holds := ok_item_holds (P := l.prog) (w := w) (mg := mg) (base := base) d_item_holds m_all g_MOST_PATHS gd_LEAST c_covers c_are_rule_paths c_is_rule_path c_are_rows
  have c_any_overlap := ok_any_overlap (P := l.prog) (w := w) (mg := mg) (base := base) d_any_overlap m_range m_len m_any c_overlap
  have c_parallel_paths := ok_parallel_paths (P := l.prog) (w := w) (mg := mg) (base := base) d_parallel_paths m_tuple
  have c_rule_error := ok_rule_error (P := l.prog) (w := w) (mg := mg) (base := base) d_rule_error m_range m_len m_str m_isinstance m_tuple gd_ITEMS c_any_overlap c_parallel_paths c_item_holds
  have c_rows_text := ok_rows_text (P := l.prog) (w := w) (mg := mg) (base := base) d_rows_text 
  have c_rule_text := ok_rule_text (P := l.prog) (w := w) (mg := mg) (base := base) d_rule_text c_rows_text
  have c_book_error := ok_book_error (P := l.prog) (w := w) (mg := mg) (base := base) d_book_error m_enumerate m_len m_tuple m_isinstance g_MAX_RULES c_rule_error
  have c_Book___init__ := ok_Book___init__ (P := l.prog) (w := w) (mg := mg) (base := base) k_Book n_Book_held x_BadBook c_book_error (PySem.W.mg_of X G kc0_Book) ⟨_, _, fun_mk l30 c30 k30, ⟨mb30, a30, ma30, mc30⟩⟩
  have c_Book_rules := ok_Book_rules (P := l.prog) (w := w) (mg := mg) (base := base) k_Book n_Book_held ⟨_, _, _, fun_mk l31 c31 k31, ⟨a31, pa31, pb31, _, pc31⟩⟩
  have c_book_text := ok_book_text (P := l.prog) (w := w) (mg := mg) (base := base) d_book_text c_Book_rules c_rule_text
  have c__law_messy := ok__law_messy (P := l.prog) (w := w) (mg := mg) (base := base) d__law_messy c__law_pick c__law_draw c__law_messy_line
  have c_shaped_rule := ok_shaped_rule (P := l.prog) (w := w) (mg := mg) (base := base) d_shaped_rule m_len m_tuple c_parted
  have c_rule_of_words := ok_rule_of_words (P := l.prog) (w := w) (mg := mg) (base := base) d_rule_of_words c_rule_error c_shaped_rule
  have c_read_book := ok_read_book (P := l.prog) (w := w) (mg := mg) (base := base) d_read_book m_tuple m_len g_MAX_RULES k_Book c_Book___init__ c_numbered_lines c_rule_of_words
  have c_read_rule := ok_read_rule (P := l.prog) (w := w) (mg := mg) (base := base) d_read_rule m_str m_isinstance c_rule_of_words c_words_of
  have c__law_rule_words := ok__law_rule_words (P := l.prog) (w := w) (mg := mg) (base := base) d__law_rule_words m_range m_len m_list
  have c_Book___eq__ := ok_Book___eq__ (P := l.prog) (w := w) (mg := mg) (base := base) m_isinstance k_Book n_Book_held i_Book mg_Book ⟨_, _, fun_mk l39 c39 k39, ⟨a39, ma39, k39⟩⟩
  have c__law_stream := ok__law_stream (P := l.prog) (w := w) (mg := mg) (base := base) d__law_stream m_abs
  exact ok_law (fun_mk l41 c41 k41) c__law_stream m_range m_len m_repr m_tuple m_isinstance k_Book i_Book mg_Book c__law_messy c_Book___eq__ c_Book_rules c_read_book c_book_text c_Book___init__ c__law_messy_line c_read_rule c_rule_text c__law_rule_words c__law_draw c__law_rule c__law_modules c__law_areas c__law_names
set_option maxHeartbeats 0
def exs0 : List FrB := [fun K => decide (PySem.W.nsIn K mainGlobals "Book" = some (some (.ref (He.ga K "Book")))),
  fun K => PySem.W.plainGet K (He.ga K "Book") Str.empty,
  fun K => PySem.W.hasDictIn K (He.ga K "Book"),
  fun K => PySem.W.plainOver K (He.ga K "Book"),
  fun K => decide (PySem.W.findIn K (.ref (He.ga K "Book")) "__setattr__" = some (some (.builtin "object.__setattr__"))),
  fun K => decide (PySem.W.findIn K (.ref (He.ga K "Book")) "__class__" = some (some (.builtin "object.__class__"))),
  fun K => decide (PySem.W.specialIn K (.builtin "object.__class__") "__get__" = some (some (.builtin "getset_descriptor.__get__"))),
  fun K => decide (PySem.W.takesIn K (.builtin "object.__class__") = some true),
  fun K => decide (PySem.W.mroIn K (He.ga K "Book") (.type "object") = some true),
  fun K => decide (PySem.W.subIn K (.type "NoneType") (.ref (He.ga K "Book")) = some false),
  fun K => decide (PySem.W.subIn K (.type "bool") (.ref (He.ga K "Book")) = some false),
  fun K => decide (PySem.W.subIn K (.type "int") (.ref (He.ga K "Book")) = some false)]
def exs1 : List FrB := [fun K => decide (PySem.W.subIn K (.type "str") (.ref (He.ga K "Book")) = some false),
  fun K => decide (PySem.W.subIn K (.type "tuple") (.ref (He.ga K "Book")) = some false),
  fun K => decide (PySem.W.subIn K (.type "list") (.ref (He.ga K "Book")) = some false),
  fun K => decide (PySem.W.subIn K (.type "dict") (.ref (He.ga K "Book")) = some false),
  fun K => decide (PySem.W.typeIn K (.ref (He.ga K "Book")) = some (.type "type")),
  fun K => PySem.W.selfFirst K (He.ga K "Book"),
  fun K => decide (PySem.W.nsIn K mainGlobals "BadBook" = some (some (.ref (He.ga K "BadBook")))),
  fun K => decide (PySem.W.nsIn K mainGlobals "LEAST" = some (some (.ref (He.ga K "LEAST")))),
  fun K => gdB K "LEAST" tbl_LEAST,
  fun K => decide (PySem.W.nsIn K mainGlobals "ITEMS" = some (some (.ref (He.ga K "ITEMS")))),
  fun K => gdB K "ITEMS" tbl_ITEMS,
  fun K => decide (PySem.W.findIn K (.ref (He.ga K "Book")) "held" = some none)]
def exs2 : List FrB := [fun K => decide (PySem.W.findIn K (.ref (He.ga K "BadBook")) "__setattr__" = some (some (.builtin "object.__setattr__"))),
  fun K => decide (PySem.W.subIn K (.ref (He.ga K "BadBook")) (.type "BaseException") = some true),
  fun K => decide (PySem.W.typeIn K (.ref (He.ga K "BadBook")) = some (.type "type")),
  fun K => PySem.W.keepIn K (.ref (He.ga K "BadBook")),
  fun K => decide (PySem.W.findIn K (.ref (He.ga K "BadBook")) "error" = some none),
  fun K => decide (PySem.W.findIn K (.ref (He.ga K "BadBook")) "__init__" = some (some (.ref (He.ma K (He.ga K "BadBook") "__init__")))),
  fun K => decide (PySem.W.typeIn K (.ref (He.ma K (He.ga K "BadBook") "__init__")) = some (.type "function")),
  fun K => decide (PySem.W.nsIn K mainGlobals "words_of" = some (some (.ref (He.ga K "words_of")))),
  fun K => decide (PySem.W.nsIn K mainGlobals "_law_draw" = some (some (.ref (He.ga K "_law_draw")))),
  fun K => decide (PySem.W.nsIn K mainGlobals "_law_pick" = some (some (.ref (He.ga K "_law_pick")))),
  fun K => decide (PySem.W.nsIn K mainGlobals "_law_names" = some (some (.ref (He.ga K "_law_names")))),
  fun K => decide (PySem.W.nsIn K mainGlobals "_law_messy_line" = some (some (.ref (He.ga K "_law_messy_line"))))]
def exs3 : List FrB := [fun K => decide (PySem.W.nsIn K mainGlobals "_law_areas" = some (some (.ref (He.ga K "_law_areas")))),
  fun K => decide (PySem.W.nsIn K mainGlobals "is_name" = some (some (.ref (He.ga K "is_name")))),
  fun K => decide (PySem.W.nsIn K mainGlobals "is_path" = some (some (.ref (He.ga K "is_path")))),
  fun K => decide (PySem.W.nsIn K mainGlobals "covers" = some (some (.ref (He.ga K "covers")))),
  fun K => decide (PySem.W.nsIn K mainGlobals "overlap" = some (some (.ref (He.ga K "overlap")))),
  fun K => decide (PySem.W.nsIn K mainGlobals "first_overlap" = some (some (.ref (He.ga K "first_overlap")))),
  fun K => decide (PySem.W.nsIn K mainGlobals "modules_error" = some (some (.ref (He.ga K "modules_error")))),
  fun K => decide (PySem.W.nsIn K mainGlobals "_law_modules" = some (some (.ref (He.ga K "_law_modules")))),
  fun K => decide (PySem.W.nsIn K mainGlobals "numbered_lines" = some (some (.ref (He.ga K "numbered_lines")))),
  fun K => decide (PySem.W.nsIn K mainGlobals "parted" = some (some (.ref (He.ga K "parted")))),
  fun K => decide (PySem.W.nsIn K mainGlobals "_law_rows_of" = some (some (.ref (He.ga K "_law_rows_of")))),
  fun K => decide (PySem.W.nsIn K mainGlobals "_law_shuffled" = some (some (.ref (He.ga K "_law_shuffled"))))]
def exs4 : List FrB := [fun K => decide (PySem.W.nsIn K mainGlobals "_law_covers" = some (some (.ref (He.ga K "_law_covers")))),
  fun K => decide (PySem.W.nsIn K mainGlobals "_law_within" = some (some (.ref (He.ga K "_law_within")))),
  fun K => decide (PySem.W.nsIn K mainGlobals "_law_rule" = some (some (.ref (He.ga K "_law_rule")))),
  fun K => decide (PySem.W.nsIn K mainGlobals "is_rule_path" = some (some (.ref (He.ga K "is_rule_path")))),
  fun K => decide (PySem.W.nsIn K mainGlobals "are_rule_paths" = some (some (.ref (He.ga K "are_rule_paths")))),
  fun K => decide (PySem.W.nsIn K mainGlobals "are_rows" = some (some (.ref (He.ga K "are_rows")))),
  fun K => decide (PySem.W.nsIn K mainGlobals "item_holds" = some (some (.ref (He.ga K "item_holds")))),
  fun K => decide (PySem.W.nsIn K mainGlobals "any_overlap" = some (some (.ref (He.ga K "any_overlap")))),
  fun K => decide (PySem.W.nsIn K mainGlobals "parallel_paths" = some (some (.ref (He.ga K "parallel_paths")))),
  fun K => decide (PySem.W.nsIn K mainGlobals "rule_error" = some (some (.ref (He.ga K "rule_error")))),
  fun K => decide (PySem.W.nsIn K mainGlobals "rows_text" = some (some (.ref (He.ga K "rows_text")))),
  fun K => decide (PySem.W.nsIn K mainGlobals "rule_text" = some (some (.ref (He.ga K "rule_text"))))]
def exs5 : List FrB := [fun K => decide (PySem.W.nsIn K mainGlobals "book_error" = some (some (.ref (He.ga K "book_error")))),
  fun K => decide (PySem.W.findIn K (.ref (He.ga K "Book")) "__init__" = some (some (.ref (He.ma K (He.ga K "Book") "__init__")))),
  fun K => PySem.W.isFn K (.ref (He.ma K (He.ga K "Book") "__init__")),
  fun K => PySem.W.makesIn K (He.ga K "Book"),
  fun K => PySem.W.keepIn K (.ref (He.ga K "Book")),
  fun K => decide (PySem.W.findIn K (.ref (He.ga K "Book")) "rules" = some (some (.ref (He.ma K (He.ga K "Book") "rules")))),
  fun K => decide (PySem.W.specialIn K (.ref (He.ma K (He.ga K "Book") "rules")) "__get__" = some (some (.builtin "property.__get__"))),
  fun K => decide (PySem.W.takesIn K (.ref (He.ma K (He.ga K "Book") "rules")) = some true),
  fun K => decide (PySem.W.recIn K (He.ma K (He.ga K "Book") "rules") "property" = some (.ref (rcA K (He.ma K (He.ga K "Book") "rules") "property") :: (rcR K (He.ma K (He.ga K "Book") "rules") "property"))),
  fun K => decide (PySem.W.nsIn K mainGlobals "book_text" = some (some (.ref (He.ga K "book_text")))),
  fun K => decide (PySem.W.nsIn K mainGlobals "_law_messy" = some (some (.ref (He.ga K "_law_messy")))),
  fun K => decide (PySem.W.nsIn K mainGlobals "shaped_rule" = some (some (.ref (He.ga K "shaped_rule"))))]
def exs6 : List FrB := [fun K => decide (PySem.W.nsIn K mainGlobals "rule_of_words" = some (some (.ref (He.ga K "rule_of_words")))),
  fun K => decide (PySem.W.nsIn K mainGlobals "read_book" = some (some (.ref (He.ga K "read_book")))),
  fun K => decide (PySem.W.nsIn K mainGlobals "read_rule" = some (some (.ref (He.ga K "read_rule")))),
  fun K => decide (PySem.W.nsIn K mainGlobals "_law_rule_words" = some (some (.ref (He.ga K "_law_rule_words")))),
  fun K => decide (PySem.W.findIn K (.ref (He.ga K "Book")) "__eq__" = some (some (.ref (He.ma K (He.ga K "Book") "__eq__")))),
  fun K => PySem.W.isFn K (.ref (He.ma K (He.ga K "Book") "__eq__")),
  fun K => decide (PySem.W.nsIn K mainGlobals "_law_stream" = some (some (.ref (He.ga K "_law_stream")))),
  fun K => decide (PySem.W.nsIn K mainGlobals "law" = some (some (.ref (He.ga K "law")))),
  fun K => decide (PySem.W.nsIn K mainGlobals "len" = some none),
  fun K => decide (PySem.W.nsIn K mainGlobals "int" = some none),
  fun K => decide (PySem.W.nsIn K mainGlobals "range" = some none),
  fun K => decide (PySem.W.nsIn K mainGlobals "all" = some none)]
def exs7 : List FrB := [fun K => decide (PySem.W.nsIn K mainGlobals "str" = some none),
  fun K => decide (PySem.W.nsIn K mainGlobals "isinstance" = some none),
  fun K => decide (PySem.W.nsIn K mainGlobals "enumerate" = some none),
  fun K => decide (PySem.W.nsIn K mainGlobals "tuple" = some none),
  fun K => decide (PySem.W.nsIn K mainGlobals "min" = some none),
  fun K => decide (PySem.W.nsIn K mainGlobals "any" = some none),
  fun K => decide (PySem.W.nsIn K mainGlobals "list" = some none),
  fun K => decide (PySem.W.nsIn K mainGlobals "abs" = some none),
  fun K => decide (PySem.W.nsIn K mainGlobals "repr" = some none),
  fun K => decide (PySem.W.nsIn K mainGlobals "LETTERS" = some (some (.str "abcdefghijklmnopqrstuvwxyz" (tkOf K "LETTERS")))),
  fun K => decide (PySem.W.nsIn K mainGlobals "MAX_LETTERS" = some (some (.int 8 (tkOf K "MAX_LETTERS")))),
  fun K => decide (PySem.W.nsIn K mainGlobals "MAX_NAMES" = some (some (.int 6 (tkOf K "MAX_NAMES"))))]
def exs8 : List FrB := [fun K => decide (PySem.W.nsIn K mainGlobals "MAX_MODULES" = some (some (.int 24 (tkOf K "MAX_MODULES")))),
  fun K => decide (PySem.W.nsIn K mainGlobals "MAX_RULE_NAMES" = some (some (.int 4 (tkOf K "MAX_RULE_NAMES")))),
  fun K => decide (PySem.W.nsIn K mainGlobals "MOST_PATHS" = some (some (.int 6 (tkOf K "MOST_PATHS")))),
  fun K => decide (PySem.W.nsIn K mainGlobals "MAX_RULES" = some (some (.int 8 (tkOf K "MAX_RULES")))),
  fun K => oexB K (He.ga K "BadBook")]
def exsR : List (List FrB) := [exs0, exs1, exs2, exs3, exs4, exs5, exs6, exs7, exs8]
def exR : List FrB := exsR.map fun l => fun K => l.all fun f => f K
def fnsR : List He5.DefA := [⟨fun K => (He.ga K "words_of"), "words_of", "words_of", defArgs s_words_of, defBody s_words_of, defScope s_words_of, [], []⟩,
  ⟨fun K => (He.ga K "_law_draw"), "_law_draw", "_law_draw", defArgs s__law_draw, defBody s__law_draw, defScope s__law_draw, [], []⟩,
  ⟨fun K => (He.ga K "_law_pick"), "_law_pick", "_law_pick", defArgs s__law_pick, defBody s__law_pick, defScope s__law_pick, [], []⟩,
  ⟨fun K => (He.ga K "_law_names"), "_law_names", "_law_names", defArgs s__law_names, defBody s__law_names, defScope s__law_names, [], []⟩,
  ⟨fun K => (He.ga K "_law_messy_line"), "_law_messy_line", "_law_messy_line", defArgs s__law_messy_line, defBody s__law_messy_line, defScope s__law_messy_line, [], []⟩,
  ⟨fun K => (He.ga K "_law_areas"), "_law_areas", "_law_areas", defArgs s__law_areas, defBody s__law_areas, defScope s__law_areas, [], []⟩,
  ⟨fun K => (He.ga K "is_name"), "is_name", "is_name", defArgs s_is_name, defBody s_is_name, defScope s_is_name, [], []⟩,
  ⟨fun K => (He.ga K "is_path"), "is_path", "is_path", defArgs s_is_path, defBody s_is_path, defScope s_is_path, [], []⟩,
  ⟨fun K => (He.ga K "covers"), "covers", "covers", defArgs s_covers, defBody s_covers, defScope s_covers, [], []⟩,
  ⟨fun K => (He.ga K "overlap"), "overlap", "overlap", defArgs s_overlap, defBody s_overlap, defScope s_overlap, [], []⟩,
  ⟨fun K => (He.ga K "first_overlap"), "first_overlap", "first_overlap", defArgs s_first_overlap, defBody s_first_overlap, defScope s_first_overlap, [], []⟩,
  ⟨fun K => (He.ga K "modules_error"), "modules_error", "modules_error", defArgs s_modules_error, defBody s_modules_error, defScope s_modules_error, [], []⟩,
  ⟨fun K => (He.ga K "_law_modules"), "_law_modules", "_law_modules", defArgs s__law_modules, defBody s__law_modules, defScope s__law_modules, [], []⟩,
  ⟨fun K => (He.ga K "numbered_lines"), "numbered_lines", "numbered_lines", defArgs s_numbered_lines, defBody s_numbered_lines, defScope s_numbered_lines, [], []⟩,
  ⟨fun K => (He.ga K "parted"), "parted", "parted", defArgs s_parted, defBody s_parted, defScope s_parted, [], []⟩,
  ⟨fun K => (He.ga K "_law_rows_of"), "_law_rows_of", "_law_rows_of", defArgs s__law_rows_of, defBody s__law_rows_of, defScope s__law_rows_of, [], []⟩,
  ⟨fun K => (He.ga K "_law_shuffled"), "_law_shuffled", "_law_shuffled", defArgs s__law_shuffled, defBody s__law_shuffled, defScope s__law_shuffled, [], []⟩,
  ⟨fun K => (He.ga K "_law_covers"), "_law_covers", "_law_covers", defArgs s__law_covers, defBody s__law_covers, defScope s__law_covers, [], []⟩,
  ⟨fun K => (He.ga K "_law_within"), "_law_within", "_law_within", defArgs s__law_within, defBody s__law_within, defScope s__law_within, [], []⟩,
  ⟨fun K => (He.ga K "_law_rule"), "_law_rule", "_law_rule", defArgs s__law_rule, defBody s__law_rule, defScope s__law_rule, [], []⟩,
  ⟨fun K => (He.ga K "is_rule_path"), "is_rule_path", "is_rule_path", defArgs s_is_rule_path, defBody s_is_rule_path, defScope s_is_rule_path, [], []⟩,
  ⟨fun K => (He.ga K "are_rule_paths"), "are_rule_paths", "are_rule_paths", defArgs s_are_rule_paths, defBody s_are_rule_paths, defScope s_are_rule_paths, [], []⟩,
  ⟨fun K => (He.ga K "are_rows"), "are_rows", "are_rows", defArgs s_are_rows, defBody s_are_rows, defScope s_are_rows, [], []⟩,
  ⟨fun K => (He.ga K "item_holds"), "item_holds", "item_holds", defArgs s_item_holds, defBody s_item_holds, defScope s_item_holds, [], []⟩,
  ⟨fun K => (He.ga K "any_overlap"), "any_overlap", "any_overlap", defArgs s_any_overlap, defBody s_any_overlap, defScope s_any_overlap, [], []⟩,
  ⟨fun K => (He.ga K "parallel_paths"), "parallel_paths", "parallel_paths", defArgs s_parallel_paths, defBody s_parallel_paths, defScope s_parallel_paths, [], []⟩,
  ⟨fun K => (He.ga K "rule_error"), "rule_error", "rule_error", defArgs s_rule_error, defBody s_rule_error, defScope s_rule_error, [], []⟩,
  ⟨fun K => (He.ga K "rows_text"), "rows_text", "rows_text", defArgs s_rows_text, defBody s_rows_text, defScope s_rows_text, [], []⟩,
  ⟨fun K => (He.ga K "rule_text"), "rule_text", "rule_text", defArgs s_rule_text, defBody s_rule_text, defScope s_rule_text, [], []⟩,
  ⟨fun K => (He.ga K "book_error"), "book_error", "book_error", defArgs s_book_error, defBody s_book_error, defScope s_book_error, [], []⟩,
  ⟨fun K => (He.ma K (He.ga K "Book") "__init__"), "__init__", "Book.__init__", defArgs s_Book___init__, defBody s_Book___init__, defScope s_Book___init__, [], []⟩,
  ⟨fun K => (rcA K (He.ma K (He.ga K "Book") "rules") "property"), "rules", "Book.rules", defArgs s_Book_rules, defBody s_Book_rules, defScope s_Book_rules, [], []⟩,
  ⟨fun K => (He.ga K "book_text"), "book_text", "book_text", defArgs s_book_text, defBody s_book_text, defScope s_book_text, [], []⟩,
  ⟨fun K => (He.ga K "_law_messy"), "_law_messy", "_law_messy", defArgs s__law_messy, defBody s__law_messy, defScope s__law_messy, [], []⟩,
  ⟨fun K => (He.ga K "shaped_rule"), "shaped_rule", "shaped_rule", defArgs s_shaped_rule, defBody s_shaped_rule, defScope s_shaped_rule, [], []⟩,
  ⟨fun K => (He.ga K "rule_of_words"), "rule_of_words", "rule_of_words", defArgs s_rule_of_words, defBody s_rule_of_words, defScope s_rule_of_words, [], []⟩,
  ⟨fun K => (He.ga K "read_book"), "read_book", "read_book", defArgs s_read_book, defBody s_read_book, defScope s_read_book, [], []⟩,
  ⟨fun K => (He.ga K "read_rule"), "read_rule", "read_rule", defArgs s_read_rule, defBody s_read_rule, defScope s_read_rule, [], []⟩,
  ⟨fun K => (He.ga K "_law_rule_words"), "_law_rule_words", "_law_rule_words", defArgs s__law_rule_words, defBody s__law_rule_words, defScope s__law_rule_words, [], []⟩,
  ⟨fun K => (He.ma K (He.ga K "Book") "__eq__"), "__eq__", "Book.__eq__", defArgs s_Book___eq__, defBody s_Book___eq__, defScope s_Book___eq__, [], []⟩,
  ⟨fun K => (He.ga K "_law_stream"), "_law_stream", "_law_stream", defArgs s__law_stream, defBody s__law_stream, defScope s__law_stream, [], []⟩,
  ⟨fun K => (He.ga K "law"), "law", "law", defArgs s_law, defBody s_law, defScope s_law, [], []⟩,
  ⟨fun K => (He.ma K (He.ga K "BadBook") "__init__"), "__init__", "BadBook.__init__", defArgs s_x_BadBook, defBody s_x_BadBook, defScope s_x_BadBook, [], []⟩]
def tabsR : List He.Tab := [(fun K => (He.ga K "LEAST"), ["sources", "targets", "paths", "users", "exposed"]), (fun K => (He.ga K "ITEMS"), ["forbid", "layers", "stairs", "apart", "only", "face", "noring"])]
def loose0 : List PySem.Str := ["_wall", "MAX_MODULES", "MAX_NAMES", "MAX_RULE_NAMES", "MAX_RULES", "MAX_USES", "LETTERS", "MAX_LETTERS", "is_name", "is_path", "covers", "overlap"]
def loose1 : List PySem.Str := ["covered", "first_overlap", "ITEMS", "LEAST", "MOST_PATHS", "is_rule_path", "are_rule_paths", "are_rows", "item_holds", "parallel_paths", "is_chained", "any_overlap"]
def loose2 : List PySem.Str := ["rule_error", "place_of", "is_barred", "links_of", "chains_from", "uses_of", "chain_breaks", "steps_between", "ring_from", "ring_breaks", "all_breaks", "first_of"]
def loose3 : List PySem.Str := ["first_break", "findings_of", "RestError", "BadBook", "BadProgram", "BadText", "BadUse", "Clash", "TooMany", "is_pair", "modules_error", "uses_error"]
def loose4 : List PySem.Str := ["program_error", "parts_of", "Program", "book_error", "Book", "rows_text", "rule_text", "book_text", "parted", "shaped_rule", "rule_of_words", "words_of"]
def loose5 : List PySem.Str := ["numbered_lines", "read_rule", "read_book", "_law_stream", "_law_draw", "_law_pick", "_law_names", "_law_areas", "_law_modules", "_law_covers", "_law_within", "_law_shuffled"]
def loose6 : List PySem.Str := ["_law_rows_of", "_law_rule", "_law_rule_words", "_law_messy_line", "_law_messy"]
def looseR : List PySem.Str := loose0 ++ loose1 ++ loose2 ++ loose3 ++ loose4 ++ loose5 ++ loose6
noncomputable abbrev hkR : PySem.W.Hook := hookY 6 exR fnsR tabsR
noncomputable def obR (s : PySem.W.SharedT) : AlY := obsYG 6 exR fnsR tabsR (HandSHeadRun.getT s)
theorem obR_eq (s : PySem.W.SharedT) : obR s = hkR.obs s.abs := obsYG_eq (HandSHeadRun.getT_eq s)
theorem runR0 (w : World) : HandSHeadRun.RunEq (PySem.W.OpenLaw.row PySem.Challenge.rw_mayrest_k90_rule_and_book_texts) (PySem.W.view (PySem.W.OpenLaw.row PySem.Challenge.rw_mayrest_k90_rule_and_book_texts).prog [85]) hkR obR 20000 looseR (w.withFollow "special-get-raises" false) := by
  intro os
  kernel_rfl
theorem runR1 (w : World) : HandSHeadRun.RunEq (PySem.W.OpenLaw.row PySem.Challenge.rw_mayrest_k90_rule_and_book_texts) (PySem.W.view (PySem.W.OpenLaw.row PySem.Challenge.rw_mayrest_k90_rule_and_book_texts).prog [85]) hkR obR 20000 looseR (w.withFollow "special-get-raises" true) := by
  intro os
  kernel_rfl
theorem runR (w : World) : HandSHeadRun.RunEq (PySem.W.OpenLaw.row PySem.Challenge.rw_mayrest_k90_rule_and_book_texts) (PySem.W.view (PySem.W.OpenLaw.row PySem.Challenge.rw_mayrest_k90_rule_and_book_texts).prog [85]) hkR obR 20000 looseR w := PySem.W.byRow2 "special-get-raises" (P := fun w => HandSHeadRun.RunEq (PySem.W.OpenLaw.row PySem.Challenge.rw_mayrest_k90_rule_and_book_texts) (PySem.W.view (PySem.W.OpenLaw.row PySem.Challenge.rw_mayrest_k90_rule_and_book_texts).prog [85]) hkR obR 20000 looseR w) runR0 runR1 w
set_option maxHeartbeats 0
theorem factsR {l : PySem.W.OpenLaw} {w : World} {K : PySem.W.Frag} {h : Heap} {mg : Str → Option Value} {fa : Addr} (X : K.In h) (G : h.Ns mainGlobals mg) (hfa : mg "law" = some (.ref fa)) (c : SaysY exR fnsR tabsR w K) :
    ∃ fd : FuncData, (∀ (s : Shared) (v : Value), BindsTo s fd ⟨[v], []⟩ [("_law_script", v)]) ∧ ∀ base : Heap, K.In base → base.Ns mainGlobals mg → FnG l.prog w K mg base 12 fa fd ["_law_script"] (spLaw K) := by
  have fact : ∀ (i j : Nat) {l : List FrB} {f : FrB}, exsR[i]? = some l → l[j]? = some f → f K = true := fun i j {l f} h1 h2 => List.all_eq_true.mp (c.fact i (f := fun K => l.all fun f => f K) (by unfold exR; rw [List.getElem?_map, h1]; rfl)) f (List.mem_of_getElem? h2)
  obtain ⟨_, F0⟩ : ∃ fd, FunD K "words_of" "words_of" (defArgs s_words_of) (defBody s_words_of) (defScope s_words_of) [] [] (He.ga K "words_of") fd := c.def_ 0 rfl
  obtain ⟨_, _, _, _, _, _, _, _, _, l0, c0, k0⟩ := raw_fn F0
  obtain ⟨_, F1⟩ : ∃ fd, FunD K "_law_draw" "_law_draw" (defArgs s__law_draw) (defBody s__law_draw) (defScope s__law_draw) [] [] (He.ga K "_law_draw") fd := c.def_ 1 rfl
  obtain ⟨_, _, _, _, _, _, _, _, _, l1, c1, k1⟩ := raw_fn F1
  obtain ⟨_, F2⟩ : ∃ fd, FunD K "_law_pick" "_law_pick" (defArgs s__law_pick) (defBody s__law_pick) (defScope s__law_pick) [] [] (He.ga K "_law_pick") fd := c.def_ 2 rfl
  obtain ⟨_, _, _, _, _, _, _, _, _, l2, c2, k2⟩ := raw_fn F2
  obtain ⟨_, F3⟩ : ∃ fd, FunD K "_law_names" "_law_names" (defArgs s__law_names) (defBody s__law_names) (defScope s__law_names) [] [] (He.ga K "_law_names") fd := c.def_ 3 rfl
  obtain ⟨_, _, _, _, _, _, _, _, _, l3, c3, k3⟩ := raw_fn F3
  obtain ⟨_, F4⟩ : ∃ fd, FunD K "_law_messy_line" "_law_messy_line" (defArgs s__law_messy_line) (defBody s__law_messy_line) (defScope s__law_messy_line) [] [] (He.ga K "_law_messy_line") fd := c.def_ 4 rfl
  obtain ⟨_, _, _, _, _, _, _, _, _, l4, c4, k4⟩ := raw_fn F4
  obtain ⟨_, F5⟩ : ∃ fd, FunD K "_law_areas" "_law_areas" (defArgs s__law_areas) (defBody s__law_areas) (defScope s__law_areas) [] [] (He.ga K "_law_areas") fd := c.def_ 5 rfl
  obtain ⟨_, _, _, _, _, _, _, _, _, l5, c5, k5⟩ := raw_fn F5
  obtain ⟨_, F6⟩ : ∃ fd, FunD K "is_name" "is_name" (defArgs s_is_name) (defBody s_is_name) (defScope s_is_name) [] [] (He.ga K "is_name") fd := c.def_ 6 rfl
  obtain ⟨_, _, _, _, _, _, _, _, _, l6, c6, k6⟩ := raw_fn F6
  obtain ⟨_, F7⟩ : ∃ fd, FunD K "is_path" "is_path" (defArgs s_is_path) (defBody s_is_path) (defScope s_is_path) [] [] (He.ga K "is_path") fd := c.def_ 7 rfl
  obtain ⟨_, _, _, _, _, _, _, _, _, l7, c7, k7⟩ := raw_fn F7
  obtain ⟨_, F8⟩ : ∃ fd, FunD K "covers" "covers" (defArgs s_covers) (defBody s_covers) (defScope s_covers) [] [] (He.ga K "covers") fd := c.def_ 8 rfl
  obtain ⟨_, _, _, _, _, _, _, _, _, l8, c8, k8⟩ := raw_fn F8
  obtain ⟨_, F9⟩ : ∃ fd, FunD K "overlap" "overlap" (defArgs s_overlap) (defBody s_overlap) (defScope s_overlap) [] [] (He.ga K "overlap") fd := c.def_ 9 rfl
  obtain ⟨_, _, _, _, _, _, _, _, _, l9, c9, k9⟩ := raw_fn F9
  obtain ⟨_, F10⟩ : ∃ fd, FunD K "first_overlap" "first_overlap" (defArgs s_first_overlap) (defBody s_first_overlap) (defScope s_first_overlap) [] [] (He.ga K "first_overlap") fd := c.def_ 10 rfl
  obtain ⟨_, _, _, _, _, _, _, _, _, l10, c10, k10⟩ := raw_fn F10
  obtain ⟨_, F11⟩ : ∃ fd, FunD K "modules_error" "modules_error" (defArgs s_modules_error) (defBody s_modules_error) (defScope s_modules_error) [] [] (He.ga K "modules_error") fd := c.def_ 11 rfl
  obtain ⟨_, _, _, _, _, _, _, _, _, l11, c11, k11⟩ := raw_fn F11
  obtain ⟨_, F12⟩ : ∃ fd, FunD K "_law_modules" "_law_modules" (defArgs s__law_modules) (defBody s__law_modules) (defScope s__law_modules) [] [] (He.ga K "_law_modules") fd := c.def_ 12 rfl
  obtain ⟨_, _, _, _, _, _, _, _, _, l12, c12, k12⟩ := raw_fn F12
  obtain ⟨_, F13⟩ : ∃ fd, FunD K "numbered_lines" "numbered_lines" (defArgs s_numbered_lines) (defBody s_numbered_lines) (defScope s_numbered_lines) [] [] (He.ga K "numbered_lines") fd := c.def_ 13 rfl
  obtain ⟨_, _, _, _, _, _, _, _, _, l13, c13, k13⟩ := raw_fn F13
  obtain ⟨_, F14⟩ : ∃ fd, FunD K "parted" "parted" (defArgs s_parted) (defBody s_parted) (defScope s_parted) [] [] (He.ga K "parted") fd := c.def_ 14 rfl
  obtain ⟨_, _, _, _, _, _, _, _, _, l14, c14, k14⟩ := raw_fn F14
  obtain ⟨_, F15⟩ : ∃ fd, FunD K "_law_rows_of" "_law_rows_of" (defArgs s__law_rows_of) (defBody s__law_rows_of) (defScope s__law_rows_of) [] [] (He.ga K "_law_rows_of") fd := c.def_ 15 rfl
  obtain ⟨_, _, _, _, _, _, _, _, _, l15, c15, k15⟩ := raw_fn F15
  obtain ⟨_, F16⟩ : ∃ fd, FunD K "_law_shuffled" "_law_shuffled" (defArgs s__law_shuffled) (defBody s__law_shuffled) (defScope s__law_shuffled) [] [] (He.ga K "_law_shuffled") fd := c.def_ 16 rfl
  obtain ⟨_, _, _, _, _, _, _, _, _, l16, c16, k16⟩ := raw_fn F16
  obtain ⟨_, F17⟩ : ∃ fd, FunD K "_law_covers" "_law_covers" (defArgs s__law_covers) (defBody s__law_covers) (defScope s__law_covers) [] [] (He.ga K "_law_covers") fd := c.def_ 17 rfl
  obtain ⟨_, _, _, _, _, _, _, _, _, l17, c17, k17⟩ := raw_fn F17
  obtain ⟨_, F18⟩ : ∃ fd, FunD K "_law_within" "_law_within" (defArgs s__law_within) (defBody s__law_within) (defScope s__law_within) [] [] (He.ga K "_law_within") fd := c.def_ 18 rfl
  obtain ⟨_, _, _, _, _, _, _, _, _, l18, c18, k18⟩ := raw_fn F18
  obtain ⟨_, F19⟩ : ∃ fd, FunD K "_law_rule" "_law_rule" (defArgs s__law_rule) (defBody s__law_rule) (defScope s__law_rule) [] [] (He.ga K "_law_rule") fd := c.def_ 19 rfl
  obtain ⟨_, _, _, _, _, _, _, _, _, l19, c19, k19⟩ := raw_fn F19
  obtain ⟨_, F20⟩ : ∃ fd, FunD K "is_rule_path" "is_rule_path" (defArgs s_is_rule_path) (defBody s_is_rule_path) (defScope s_is_rule_path) [] [] (He.ga K "is_rule_path") fd := c.def_ 20 rfl
  obtain ⟨_, _, _, _, _, _, _, _, _, l20, c20, k20⟩ := raw_fn F20
  obtain ⟨_, F21⟩ : ∃ fd, FunD K "are_rule_paths" "are_rule_paths" (defArgs s_are_rule_paths) (defBody s_are_rule_paths) (defScope s_are_rule_paths) [] [] (He.ga K "are_rule_paths") fd := c.def_ 21 rfl
  obtain ⟨_, _, _, _, _, _, _, _, _, l21, c21, k21⟩ := raw_fn F21
  obtain ⟨_, F22⟩ : ∃ fd, FunD K "are_rows" "are_rows" (defArgs s_are_rows) (defBody s_are_rows) (defScope s_are_rows) [] [] (He.ga K "are_rows") fd := c.def_ 22 rfl
  obtain ⟨_, _, _, _, _, _, _, _, _, l22, c22, k22⟩ := raw_fn F22
  obtain ⟨_, F23⟩ : ∃ fd, FunD K "item_holds" "item_holds" (defArgs s_item_holds) (defBody s_item_holds) (defScope s_item_holds) [] [] (He.ga K "item_holds") fd := c.def_ 23 rfl
  obtain ⟨_, _, _, _, _, _, _, _, _, l23, c23, k23⟩ := raw_fn F23
  obtain ⟨_, F24⟩ : ∃ fd, FunD K "any_overlap" "any_overlap" (defArgs s_any_overlap) (defBody s_any_overlap) (defScope s_any_overlap) [] [] (He.ga K "any_overlap") fd := c.def_ 24 rfl
  obtain ⟨_, _, _, _, _, _, _, _, _, l24, c24, k24⟩ := raw_fn F24
  obtain ⟨_, F25⟩ : ∃ fd, FunD K "parallel_paths" "parallel_paths" (defArgs s_parallel_paths) (defBody s_parallel_paths) (defScope s_parallel_paths) [] [] (He.ga K "parallel_paths") fd := c.def_ 25 rfl
  obtain ⟨_, _, _, _, _, _, _, _, _, l25, c25, k25⟩ := raw_fn F25
  obtain ⟨_, F26⟩ : ∃ fd, FunD K "rule_error" "rule_error" (defArgs s_rule_error) (defBody s_rule_error) (defScope s_rule_error) [] [] (He.ga K "rule_error") fd := c.def_ 26 rfl
  obtain ⟨_, _, _, _, _, _, _, _, _, l26, c26, k26⟩ := raw_fn F26
  obtain ⟨_, F27⟩ : ∃ fd, FunD K "rows_text" "rows_text" (defArgs s_rows_text) (defBody s_rows_text) (defScope s_rows_text) [] [] (He.ga K "rows_text") fd := c.def_ 27 rfl
  obtain ⟨_, _, _, _, _, _, _, _, _, l27, c27, k27⟩ := raw_fn F27
  obtain ⟨_, F28⟩ : ∃ fd, FunD K "rule_text" "rule_text" (defArgs s_rule_text) (defBody s_rule_text) (defScope s_rule_text) [] [] (He.ga K "rule_text") fd := c.def_ 28 rfl
  obtain ⟨_, _, _, _, _, _, _, _, _, l28, c28, k28⟩ := raw_fn F28
  obtain ⟨_, F29⟩ : ∃ fd, FunD K "book_error" "book_error" (defArgs s_book_error) (defBody s_book_error) (defScope s_book_error) [] [] (He.ga K "book_error") fd := c.def_ 29 rfl
  obtain ⟨_, _, _, _, _, _, _, _, _, l29, c29, k29⟩ := raw_fn F29
  obtain ⟨_, F30⟩ : ∃ fd, FunD K "__init__" "Book.__init__" (defArgs s_Book___init__) (defBody s_Book___init__) (defScope s_Book___init__) [] [] (He.ma K (He.ga K "Book") "__init__") fd := c.def_ 30 rfl
  obtain ⟨_, _, _, _, _, _, _, _, _, l30, c30, k30⟩ := raw_fn F30
  obtain ⟨_, F31⟩ : ∃ fd, FunD K "rules" "Book.rules" (defArgs s_Book_rules) (defBody s_Book_rules) (defScope s_Book_rules) [] [] (rcA K (He.ma K (He.ga K "Book") "rules") "property") fd := c.def_ 31 rfl
  obtain ⟨_, _, _, _, _, _, _, _, _, l31, c31, k31⟩ := raw_fn F31
  obtain ⟨_, F32⟩ : ∃ fd, FunD K "book_text" "book_text" (defArgs s_book_text) (defBody s_book_text) (defScope s_book_text) [] [] (He.ga K "book_text") fd := c.def_ 32 rfl
  obtain ⟨_, _, _, _, _, _, _, _, _, l32, c32, k32⟩ := raw_fn F32
  obtain ⟨_, F33⟩ : ∃ fd, FunD K "_law_messy" "_law_messy" (defArgs s__law_messy) (defBody s__law_messy) (defScope s__law_messy) [] [] (He.ga K "_law_messy") fd := c.def_ 33 rfl
  obtain ⟨_, _, _, _, _, _, _, _, _, l33, c33, k33⟩ := raw_fn F33
  obtain ⟨_, F34⟩ : ∃ fd, FunD K "shaped_rule" "shaped_rule" (defArgs s_shaped_rule) (defBody s_shaped_rule) (defScope s_shaped_rule) [] [] (He.ga K "shaped_rule") fd := c.def_ 34 rfl
  obtain ⟨_, _, _, _, _, _, _, _, _, l34, c34, k34⟩ := raw_fn F34
  obtain ⟨_, F35⟩ : ∃ fd, FunD K "rule_of_words" "rule_of_words" (defArgs s_rule_of_words) (defBody s_rule_of_words) (defScope s_rule_of_words) [] [] (He.ga K "rule_of_words") fd := c.def_ 35 rfl
  obtain ⟨_, _, _, _, _, _, _, _, _, l35, c35, k35⟩ := raw_fn F35
  obtain ⟨_, F36⟩ : ∃ fd, FunD K "read_book" "read_book" (defArgs s_read_book) (defBody s_read_book) (defScope s_read_book) [] [] (He.ga K "read_book") fd := c.def_ 36 rfl
  obtain ⟨_, _, _, _, _, _, _, _, _, l36, c36, k36⟩ := raw_fn F36
  obtain ⟨_, F37⟩ : ∃ fd, FunD K "read_rule" "read_rule" (defArgs s_read_rule) (defBody s_read_rule) (defScope s_read_rule) [] [] (He.ga K "read_rule") fd := c.def_ 37 rfl
  obtain ⟨_, _, _, _, _, _, _, _, _, l37, c37, k37⟩ := raw_fn F37
  obtain ⟨_, F38⟩ : ∃ fd, FunD K "_law_rule_words" "_law_rule_words" (defArgs s__law_rule_words) (defBody s__law_rule_words) (defScope s__law_rule_words) [] [] (He.ga K "_law_rule_words") fd := c.def_ 38 rfl
  obtain ⟨_, _, _, _, _, _, _, _, _, l38, c38, k38⟩ := raw_fn F38
  obtain ⟨_, F39⟩ : ∃ fd, FunD K "__eq__" "Book.__eq__" (defArgs s_Book___eq__) (defBody s_Book___eq__) (defScope s_Book___eq__) [] [] (He.ma K (He.ga K "Book") "__eq__") fd := c.def_ 39 rfl
  obtain ⟨_, _, _, _, _, _, _, _, _, l39, c39, k39⟩ := raw_fn F39
  obtain ⟨_, F40⟩ : ∃ fd, FunD K "_law_stream" "_law_stream" (defArgs s__law_stream) (defBody s__law_stream) (defScope s__law_stream) [] [] (He.ga K "_law_stream") fd := c.def_ 40 rfl
  obtain ⟨_, _, _, _, _, _, _, _, _, l40, c40, k40⟩ := raw_fn F40
  obtain ⟨_, F41⟩ : ∃ fd, FunD K "law" "law" (defArgs s_law) (defBody s_law) (defScope s_law) [] [] (He.ga K "law") fd := c.def_ 41 rfl
  obtain ⟨_, _, _, _, _, _, _, _, _, l41, c41, k41⟩ := raw_fn F41
  obtain ⟨_, Fx_BadBook⟩ : ∃ fd, FunD K "__init__" "BadBook.__init__" (defArgs s_x_BadBook) (defBody s_x_BadBook) (defScope s_x_BadBook) [] [] (He.ma K (He.ga K "BadBook") "__init__") fd := c.def_ 42 rfl
  obtain ⟨_, _, _, _, _, _, _, _, _, lx_BadBook, cx_BadBook, kx_BadBook⟩ := raw_fn Fx_BadBook
  obtain ⟨_, _, T_LEAST⟩ := c.tab 0 rfl
  obtain ⟨_, _, T_ITEMS⟩ := c.tab 1 rfl
  obtain ⟨_, _, _, _, _, _, _, _, _, _, _, _, _, _, _, xl_BadBook, xr_BadBook⟩ := oex_of (fact 8 4 rfl rfl)
  exact all_mk X G hfa (of_decide_eq_true (fact 0 0 rfl rfl))
    (fact 0 1 rfl rfl)
    (fact 0 2 rfl rfl)
    (fact 0 3 rfl rfl)
    (of_decide_eq_true (fact 0 4 rfl rfl))
    (of_decide_eq_true (fact 0 5 rfl rfl))
    (of_decide_eq_true (fact 0 6 rfl rfl))
    (of_decide_eq_true (fact 0 7 rfl rfl))
    (of_decide_eq_true (fact 0 8 rfl rfl))
    (of_decide_eq_true (fact 0 9 rfl rfl))
    (of_decide_eq_true (fact 0 10 rfl rfl))
    (of_decide_eq_true (fact 0 11 rfl rfl))
    (of_decide_eq_true (fact 1 0 rfl rfl))
    (of_decide_eq_true (fact 1 1 rfl rfl))
    (of_decide_eq_true (fact 1 2 rfl rfl))
    (of_decide_eq_true (fact 1 3 rfl rfl))
    (of_decide_eq_true (fact 1 4 rfl rfl))
    (fact 1 5 rfl rfl)
    (of_decide_eq_true (fact 1 6 rfl rfl))
    (of_decide_eq_true (fact 1 7 rfl rfl))
    T_LEAST.at_
    T_LEAST.lit
    T_LEAST.low
    (gd_ok (fact 1 8 rfl rfl) T_LEAST.at_)
    (of_decide_eq_true (fact 1 9 rfl rfl))
    T_ITEMS.at_
    T_ITEMS.lit
    T_ITEMS.low
    (gd_ok (fact 1 10 rfl rfl) T_ITEMS.at_)
    (of_decide_eq_true (fact 1 11 rfl rfl))
    xl_BadBook
    xr_BadBook
    (of_decide_eq_true (fact 2 0 rfl rfl))
    (of_decide_eq_true (fact 2 1 rfl rfl))
    (of_decide_eq_true (fact 2 2 rfl rfl))
    (fact 2 3 rfl rfl)
    (of_decide_eq_true (fact 2 4 rfl rfl))
    (of_decide_eq_true (fact 2 5 rfl rfl))
    (of_decide_eq_true (fact 2 6 rfl rfl))
    lx_BadBook
    cx_BadBook
    kx_BadBook
    (of_decide_eq_true (fact 2 7 rfl rfl))
    l0
    c0
    k0
    (of_decide_eq_true (fact 2 8 rfl rfl))
    l1
    c1
    k1
    (of_decide_eq_true (fact 2 9 rfl rfl))
    l2
    c2
    k2
    (of_decide_eq_true (fact 2 10 rfl rfl))
    l3
    c3
    k3
    (of_decide_eq_true (fact 2 11 rfl rfl))
    l4
    c4
    k4
    (of_decide_eq_true (fact 3 0 rfl rfl))
    l5
    c5
    k5
    (of_decide_eq_true (fact 3 1 rfl rfl))
    l6
    c6
    k6
    (of_decide_eq_true (fact 3 2 rfl rfl))
    l7
    c7
    k7
    (of_decide_eq_true (fact 3 3 rfl rfl))
    l8
    c8
    k8
    (of_decide_eq_true (fact 3 4 rfl rfl))
    l9
    c9
    k9
    (of_decide_eq_true (fact 3 5 rfl rfl))
    l10
    c10
    k10
    (of_decide_eq_true (fact 3 6 rfl rfl))
    l11
    c11
    k11
    (of_decide_eq_true (fact 3 7 rfl rfl))
    l12
    c12
    k12
    (of_decide_eq_true (fact 3 8 rfl rfl))
    l13
    c13
    k13
    (of_decide_eq_true (fact 3 9 rfl rfl))
    l14
    c14
    k14
    (of_decide_eq_true (fact 3 10 rfl rfl))
    l15
    c15
    k15
    (of_decide_eq_true (fact 3 11 rfl rfl))
    l16
    c16
    k16
    (of_decide_eq_true (fact 4 0 rfl rfl))
    l17
    c17
    k17
    (of_decide_eq_true (fact 4 1 rfl rfl))
    l18
    c18
    k18
    (of_decide_eq_true (fact 4 2 rfl rfl))
    l19
    c19
    k19
    (of_decide_eq_true (fact 4 3 rfl rfl))
    l20
    c20
    k20
    (of_decide_eq_true (fact 4 4 rfl rfl))
    l21
    c21
    k21
    (of_decide_eq_true (fact 4 5 rfl rfl))
    l22
    c22
    k22
    (of_decide_eq_true (fact 4 6 rfl rfl))
    l23
    c23
    k23
    (of_decide_eq_true (fact 4 7 rfl rfl))
    l24
    c24
    k24
    (of_decide_eq_true (fact 4 8 rfl rfl))
    l25
    c25
    k25
    (of_decide_eq_true (fact 4 9 rfl rfl))
    l26
    c26
    k26
    (of_decide_eq_true (fact 4 10 rfl rfl))
    l27
    c27
    k27
    (of_decide_eq_true (fact 4 11 rfl rfl))
    l28
    c28
    k28
    (of_decide_eq_true (fact 5 0 rfl rfl))
    l29
    c29
    k29
    (of_decide_eq_true (fact 5 1 rfl rfl))
    (fact 5 2 rfl rfl)
    (fact 5 3 rfl rfl)
    (fact 5 4 rfl rfl)
    l30
    c30
    k30
    (of_decide_eq_true (fact 5 5 rfl rfl))
    (of_decide_eq_true (fact 5 6 rfl rfl))
    (of_decide_eq_true (fact 5 7 rfl rfl))
    (of_decide_eq_true (fact 5 8 rfl rfl))
    l31
    c31
    k31
    (of_decide_eq_true (fact 5 9 rfl rfl))
    l32
    c32
    k32
    (of_decide_eq_true (fact 5 10 rfl rfl))
    l33
    c33
    k33
    (of_decide_eq_true (fact 5 11 rfl rfl))
    l34
    c34
    k34
    (of_decide_eq_true (fact 6 0 rfl rfl))
    l35
    c35
    k35
    (of_decide_eq_true (fact 6 1 rfl rfl))
    l36
    c36
    k36
    (of_decide_eq_true (fact 6 2 rfl rfl))
    l37
    c37
    k37
    (of_decide_eq_true (fact 6 3 rfl rfl))
    l38
    c38
    k38
    (of_decide_eq_true (fact 6 4 rfl rfl))
    (fact 6 5 rfl rfl)
    l39
    c39
    k39
    (of_decide_eq_true (fact 6 6 rfl rfl))
    l40
    c40
    k40
    (of_decide_eq_true (fact 6 7 rfl rfl))
    l41
    c41
    k41
    (of_decide_eq_true (fact 6 8 rfl rfl))
    (of_decide_eq_true (fact 6 9 rfl rfl))
    (of_decide_eq_true (fact 6 10 rfl rfl))
    (of_decide_eq_true (fact 6 11 rfl rfl))
    (of_decide_eq_true (fact 7 0 rfl rfl))
    (of_decide_eq_true (fact 7 1 rfl rfl))
    (of_decide_eq_true (fact 7 2 rfl rfl))
    (of_decide_eq_true (fact 7 3 rfl rfl))
    (of_decide_eq_true (fact 7 4 rfl rfl))
    (of_decide_eq_true (fact 7 5 rfl rfl))
    (of_decide_eq_true (fact 7 6 rfl rfl))
    (of_decide_eq_true (fact 7 7 rfl rfl))
    (of_decide_eq_true (fact 7 8 rfl rfl))
    (of_decide_eq_true (fact 7 9 rfl rfl))
    (of_decide_eq_true (fact 7 10 rfl rfl))
    (of_decide_eq_true (fact 7 11 rfl rfl))
    (of_decide_eq_true (fact 8 0 rfl rfl))
    (of_decide_eq_true (fact 8 1 rfl rfl))
    (of_decide_eq_true (fact 8 2 rfl rfl))
    (of_decide_eq_true (fact 8 3 rfl rfl))
end DL
open PySem PySem.W PySem.Calls PyProof.Rows
set_option maxHeartbeats 0 in
theorem PySem.Challenge.cw_mayrest_k90_rule_and_book_texts_holds : PySem.Challenge.rw_mayrest_k90_rule_and_book_texts.Holds := by
  w_on; o_law
  refine HandSHeadRun.head_any (r := OpenLaw.row PySem.Challenge.rw_mayrest_k90_rule_and_book_texts) (q := view (OpenLaw.row PySem.Challenge.rw_mayrest_k90_rule_and_book_texts).prog [85]) (H := DL.hkR) (ob := DL.obR) (M := 20000) (loose := DL.looseR) (d := HandSHeadRun.topDef (OpenLaw.row PySem.Challenge.rw_mayrest_k90_rule_and_book_texts).prog 85) (kwd := []) DL.obR_eq
    (by kernel_rfl) (fun s => by kernel_rfl) DL.runR (by kernel_rfl) (by kernel_rfl) (by kernel_rfl) (by rfl) (by first | assumption | decide +kernel) (by decide +kernel) ⟨rfl, rfl, rfl, rfl, rfl, by decide +kernel⟩ ?hw ?hc
  case hw => w_witness2
  case hc =>
    refine DL.walk_ofYG (l := PySem.Challenge.rw_mayrest_k90_rule_and_book_texts) (k := 12) (x := "_law_script") rfl (by kernel_rfl) ⟨rfl, by decide, by decide⟩ ?_
    intro w mg fa h K KX c G hmg0
    have hmg : mg ("law" : PySem.Str) = some (.ref fa) := by
      have e : (HandSHeadRun.topDef (OpenLaw.row PySem.Challenge.rw_mayrest_k90_rule_and_book_texts).prog 85).name = ("law" : PySem.Str) := by kernel_rfl
      rw [← e]
      exact hmg0
    exact DL.factsR KX G hmg c
