import PyProof.Rows.All
import HandS.Exc
import Wide.All
import OpenK.AllK
import Wide.FinOn
import HandS.ForMost
import HandS.IsInst
import HandS.TupAny
import HandS.Deep
import HandS.Style
import HandS.Wide
import HandS.Zip
import HandS.Property
import HandS.More
import HandS.Small
import KE.SortData
import KE.KDictSum
import KE.GoesMore
import KE.GoesEnum
import HandS.Set
import HandS.SetFor
import HandS.Strs
import KE.KCallOwn
import HandS.FStr
import HandS.NoneIn
import KE.KEqNest
import PyProof.EqKinds
import HandS.DictComp
import HandS.MakeKwOnly
import KE.DataMinMax
import HandS.TupLe
import KE.KDictZip
import HandS.Star
import HandS.ClsMeth
import HandS.CallLocal
import HandS.ExcInit
import HandS.ExcOwn
import HandS.TryOnly
import HandS.ExcField
import HandS.ExcIs
import HandS.ExcValue
import KE.KExcIs
import PyProof.ReprRoads
import PyProof.StrLawsRepr
import PyProof.ReprLen
import HandS.StrMore
import PyProof.NeKinds
import KE.KStateDown
import HandS.Head0
import HandS.Head1
import HandS.Head2
import HandS.HeadEnd
import HandS.HeadHook1
import HandS.HeadHook2
import HandS.HeadHook3
import HandS.HeadNt
import PyProof.ListStr
import HandS.Flow
import PyProof.ListNew
import PySem.Challenge.RW_mayrest_k34_chain_evidence
set_option Elab.async false
set_option linter.all false
set_option maxRecDepth 100000
set_option autoImplicit false
namespace DL
open PySem PySem.Spec PyProof.Rows L2
/-! plain data, and how a value of the heap stands for it -/
inductive D where
  | none
  | bool (b : Bool)
  | int (i : Int)
  | str (x : Str)
  | tup (xs : List D)
  | lst (xs : List D)
  | dct (ks : List Key) (xs : List D)
  | obj (c : Str) (ns : List Str) (xs : List D)
  | exn (c : Str) (ns : List Str) (xs : List D)
  | any (v : V)
/-- an exception that was caught, at a -/
def ExK (C dd a : Addr) : HO := .ext fun h => ∃ (oe : Obj) (vs : Array Value), h.get? a = some oe ∧ oe.cls = .ref C ∧ oe.dict = some dd ∧ oe.data = .fields vs
/-- a tuple of the state, or of the text -/
def TpAt (K : PySem.W.Frag) (H : Hp) (a : Addr) (xs : List V) : Prop := H a = some (.tup xs) ∨ ∃ (o : Obj) (its : Array Value) (n : Nat), K.lookup a = some o ∧ o.cls = .type "tuple" ∧ o.data = .seq its n ∧ its.size ≤ sizeLine ∧ Vals xs its.toList
section
variable {K : PySem.W.Frag} {H H' : Hp} {a : Addr} {xs : List V}
theorem TpAt.mono (e : Same H H') (h : TpAt K H a xs) : TpAt K H' a xs := h.imp (e _ _) id
theorem TpAt.sq (h : TpAt K H a xs) : SqT K H a xs := h.imp .inl id
theorem tp_sq (e : Same H H') (h : TpAt K H a xs) : SqT K H' a xs := (h.mono e).sq
theorem sqT_mono (e : Same H H') (h : SqT K H a xs) : SqT K H' a xs := by
  rcases h with (h | ⟨o, h⟩) | h
  · exact .inl (.inl (e _ _ h))
  · exact .inl (.inr ⟨o, e _ _ h⟩)
  · exact .inr h
end
mutual
def Rp (K : PySem.W.Frag) (H : Hp) : D → V → Prop
  | .none, v => v = .non
  | .bool b, v => v = .bl b
  | .int i, v => v = .int i
  | .str x, v => v = .str x
  | .tup ds, v => ∃ a vs, v = .ref a ∧ TpAt K H a vs ∧ RpA K H ds vs
  | .lst ds, v => ∃ a vs, v = .ref a ∧ H a = some (.lst vs) ∧ RpA K H ds vs
  | .dct ks ds, v => ∃ a vs, v = .ref a ∧ H a = some (.dK (ks.zip vs)) ∧ ks.length = vs.length ∧ RpA K H ds vs
  | .obj c ns ds, v => ∃ C a dx vs, PySem.W.nsIn K mainGlobals c = some (some (.ref C)) ∧ v = .ref a ∧ H a = some (.ins C dx (ns.zip vs)) ∧ H dx = some (.own a) ∧ ns.length = vs.length ∧ RpA K H ds vs
  | .exn c ns ds, v => ∃ C a dd vs, PySem.W.nsIn K mainGlobals c = some (some (.ref C)) ∧ v = .ref a ∧ H a = some (ExK C dd a) ∧ H dd = some (.xd (ns.zip vs)) ∧ ns.length = vs.length ∧ RpA K H ds vs
  | .any w, v => v = w
def RpA (K : PySem.W.Frag) (H : Hp) : List D → List V → Prop
  | [], vs => vs = []
  | d :: ds, vs => ∃ v r, vs = v :: r ∧ Rp K H d v ∧ RpA K H ds r
end
section
variable {K : PySem.W.Frag} {H H' : Hp}
mutual
theorem Rp.mono (e : Same H H') : ∀ (d : D) (v : V), Rp K H d v → Rp K H' d v
  | .none, _, h => h
  | .bool _, _, h => h
  | .int _, _, h => h
  | .str _, _, h => h
  | .tup ds, _, ⟨a, vs, h1, h2, h3⟩ => ⟨a, vs, h1, h2.mono e, RpA.mono e ds vs h3⟩
  | .lst ds, _, ⟨a, vs, h1, h2, h3⟩ => ⟨a, vs, h1, e _ _ h2, RpA.mono e ds vs h3⟩
  | .dct ks ds, _, ⟨a, vs, h1, h2, h3, h4⟩ => ⟨a, vs, h1, e _ _ h2, h3, RpA.mono e ds vs h4⟩
  | .obj c ns ds, _, ⟨C, a, dx, vs, h0, h1, h2, h3, h4, h5⟩ => ⟨C, a, dx, vs, h0, h1, e _ _ h2, e _ _ h3, h4, RpA.mono e ds vs h5⟩
  | .exn c ns ds, _, ⟨C, a, dx, vs, h0, h1, h2, h3, h4, h5⟩ => ⟨C, a, dx, vs, h0, h1, e _ _ h2, e _ _ h3, h4, RpA.mono e ds vs h5⟩
  | .any _, _, h => h
theorem RpA.mono (e : Same H H') : ∀ (ds : List D) (vs : List V), RpA K H ds vs → RpA K H' ds vs
  | [], _, h => h
  | d :: ds, _, ⟨v, r, h1, h2, h3⟩ => ⟨v, r, h1, Rp.mono e d v h2, RpA.mono e ds r h3⟩
end
theorem RpA.length : ∀ {ds : List D} {vs : List V}, RpA K H ds vs → ds.length = vs.length
  | [], _, h => by cases h; rfl
  | _ :: _, _, ⟨_, _, h1, _, h3⟩ => by subst h1; simp [RpA.length h3]
theorem RpA.get : ∀ {ds : List D} {vs : List V} {i : Nat} {d : D}, RpA K H ds vs → ds[i]? = some d → ∃ v, vs[i]? = some v ∧ Rp K H d v
  | [], _, _, _, _, e => by simp at e
  | d :: ds, _, 0, _, ⟨v, r, h1, h2, h3⟩, e => by simp at e; subst e; subst h1; exact ⟨v, rfl, h2⟩
  | d :: ds, _, i + 1, _, ⟨v, r, h1, h2, h3⟩, e => by subst h1; simpa using RpA.get h3 (by simpa using e)
theorem RpA.getV : ∀ {ds : List D} {vs : List V} {i : Nat} {v : V}, RpA K H ds vs → vs[i]? = some v → ∃ d, ds[i]? = some d ∧ Rp K H d v
  | [], _, _, _, h, e => by cases h; simp at e
  | d :: ds, _, 0, _, ⟨v, r, h1, h2, h3⟩, e => by subst h1; simp at e; subst e; exact ⟨d, rfl, h2⟩
  | d :: ds, _, i + 1, _, ⟨v, r, h1, h2, h3⟩, e => by subst h1; simpa using RpA.getV h3 (by simpa using e)
theorem RpA.append : ∀ {ds es : List D} {vs ws : List V}, RpA K H ds vs → RpA K H es ws → RpA K H (ds ++ es) (vs ++ ws)
  | [], _, _, _, h, q => by cases h; exact q
  | d :: ds, _, _, _, ⟨v, r, h1, h2, h3⟩, q => by subst h1; exact ⟨v, r ++ _, rfl, h2, RpA.append h3 q⟩
theorem RpA.take : ∀ {ds : List D} {vs : List V} (n : Nat), RpA K H ds vs → RpA K H (ds.take n) (vs.take n)
  | _, _, 0, _ => rfl
  | [], _, _ + 1, h => by cases h; rfl
  | _ :: _, _, n + 1, ⟨v, r, h1, h2, h3⟩ => by subst h1; exact ⟨v, _, rfl, h2, RpA.take n h3⟩
theorem RpA.drop : ∀ {ds : List D} {vs : List V} (n : Nat), RpA K H ds vs → RpA K H (ds.drop n) (vs.drop n)
  | _, _, 0, h => h
  | [], _, _ + 1, h => by cases h; rfl
  | _ :: _, _, n + 1, ⟨v, r, h1, h2, h3⟩ => by subst h1; exact RpA.drop n h3
theorem RpA.one {d : D} {v : V} (h : Rp K H d v) : RpA K H [d] [v] := ⟨v, [], rfl, h, rfl⟩
theorem RpA.set : ∀ {ds : List D} {vs : List V} {d : D} {v : V} (n : Nat), RpA K H ds vs → Rp K H d v → RpA K H (ds.set n d) (vs.set n v)
  | [], _, _, _, _, h, _ => by cases h; rfl
  | _ :: _, _, _, _, 0, ⟨v, r, h1, h2, h3⟩, q => by subst h1; exact ⟨_, _, rfl, q, h3⟩
  | _ :: _, _, _, _, n + 1, ⟨v, r, h1, h2, h3⟩, q => by subst h1; exact ⟨_, _, rfl, h2, RpA.set n h3 q⟩
theorem RpA.reverse : ∀ {ds : List D} {vs : List V}, RpA K H ds vs → RpA K H ds.reverse vs.reverse
  | [], _, h => by cases h; rfl
  | d :: ds, _, ⟨v, r, h1, h2, h3⟩ => by subst h1; rw [List.reverse_cons, List.reverse_cons]; exact RpA.append (RpA.reverse h3) (RpA.one h2)
theorem RpA.map {α : Type} {f : α → D} {g : α → V} (h : ∀ x, Rp K H (f x) (g x)) : ∀ l : List α, RpA K H (l.map f) (l.map g)
  | [] => rfl
  | x :: l => ⟨_, _, rfl, h x, RpA.map h l⟩
theorem RpA.strs : ∀ {l : List Str} {vs : List V}, RpA K H (l.map D.str) vs → vs = l.map V.str
  | [], _, h => h
  | x :: l, _, ⟨v, r, h1, h2, h3⟩ => by subst h1; cases h2; rw [RpA.strs h3]; rfl
theorem RpA.bools : ∀ {l : List Bool} {vs : List V}, RpA K H (l.map D.bool) vs → vs = l.map V.bl
  | [], _, h => h
  | x :: l, _, ⟨v, r, h1, h2, h3⟩ => by subst h1; cases h2; rw [RpA.bools h3]; rfl
end
/-! data without lists and dicts -/
mutual
def D.flat : D → Bool
  | .none => true
  | .bool _ => true
  | .int _ => true
  | .str _ => true
  | .tup ds => flatA ds
  | .lst _ => false
  | .dct _ _ => false
  | .obj _ _ _ => false
  | .exn _ _ _ => false
  | .any _ => true
def flatA : List D → Bool
  | [] => true
  | d :: ds => d.flat && flatA ds
end
def isLD : HO → Bool
  | .lst _ => true
  | .dK _ => true
  | .dT _ => true
  | .ins _ _ _ => true
  | _ => false
section
variable {K : PySem.W.Frag} {H H' : Hp}
mutual
theorem Rp.flat (e : ∀ a o, H a = some o → isLD o = false → H' a = some o) : ∀ (d : D) (v : V), d.flat = true → Rp K H d v → Rp K H' d v
  | .none, _, _, h => h
  | .bool _, _, _, h => h
  | .int _, _, _, h => h
  | .str _, _, _, h => h
  | .tup ds, _, f, ⟨a, vs, h1, h2, h3⟩ => ⟨a, vs, h1, h2.imp (fun h => e _ _ h rfl) id, RpA.flat e ds vs f h3⟩
  | .lst ds, _, f, _ => by cases f
  | .dct ks ds, _, f, _ => by cases f
  | .obj _ _ _, _, f, _ => by cases f
  | .exn _ _ _, _, f, _ => by cases f
  | .any _, _, _, h => h
theorem RpA.flat (e : ∀ a o, H a = some o → isLD o = false → H' a = some o) : ∀ (ds : List D) (vs : List V), flatA ds = true → RpA K H ds vs → RpA K H' ds vs
  | [], _, _, h => h
  | d :: ds, _, f, ⟨v, r, h1, h2, h3⟩ => by
    have f' : d.flat = true ∧ flatA ds = true := Bool.and_eq_true_iff.mp f
    exact ⟨v, r, h1, Rp.flat e d v f'.1 h2, RpA.flat e ds r f'.2 h3⟩
end
end
/-! the deck of draws -/
structure Dk where
  a : Addr
  b : Addr
  c : Addr
def Dk.has (g : Option Dk) (x : Addr) : Prop := match g with
  | none => False
  | some k => x = k.a ∨ x = k.b ∨ x = k.c
structure DkAt (k : Dk) (H : Hp) (f : Nat) : Prop where
  ab : k.a ≠ k.b
  ac : k.a ≠ k.c
  bc : k.b ≠ k.c
  at_ : ∃ (n : Int) (xs ys : List Int), H k.a = some (.lst [.ref k.b, .ref k.c, .int n]) ∧ H k.b = some (.lst (xs.map V.int)) ∧ H k.c = some (.lst (ys.map V.int)) ∧
    (∀ x ∈ xs, 0 ≤ x) ∧ (∀ y ∈ ys, 0 ≤ y) ∧ 0 < ys.length ∧ 0 ≤ n ∧ n + f ≤ 1000000000000
def DkOk (g : Option Dk) (H Hs : Hp) (f : Nat) : Prop := match g with
  | none => True
  | some k => DkAt k H f ∧ Hs k.a = none ∧ Hs k.b = none ∧ Hs k.c = none
/-! from a heap and its shared part to later ones -/
structure Stp (g : Option Dk) (H Hs H' Hs' : Hp) : Prop where
  sub : Same Hs' H'
  ext : Same Hs Hs'
  keep : ∀ a o, H a = some o → ¬ Dk.has g a → H' a = some o
  there : ∀ a o, H a = some o → ∃ o', H' a = some o'
  new : ∀ a o, H a = some o → Hs a = none → Hs' a = none
theorem Stp.refl {g : Option Dk} {H Hs : Hp} (h : Same Hs H) : Stp g H Hs H Hs := ⟨h, Same.refl _, fun _ _ h _ => h, fun _ o h => ⟨o, h⟩, fun _ _ _ h => h⟩
theorem Stp.trans {g : Option Dk} {H Hs H1 Hs1 H2 Hs2 : Hp} (p : Stp g H Hs H1 Hs1) (q : Stp g H1 Hs1 H2 Hs2) : Stp g H Hs H2 Hs2 where
  sub := q.sub
  ext := p.ext.trans q.ext
  keep := fun a o h n => q.keep a o (p.keep a o h n) n
  there := fun a o h => by
    obtain ⟨o', h'⟩ := p.there a o h
    exact q.there a o' h'
  new := fun a o h n => by
    obtain ⟨o', h'⟩ := p.there a o h
    exact q.new a o' h' (p.new a o h n)
/-- a new object, shared -/
theorem Stp.alloc {g : Option Dk} {H Hs : Hp} {p : Addr} {o : HO} (s : Same Hs H) (hp : H p = none) : Stp g H Hs (upd H p o) (upd Hs p o) where
  sub := fun a u h => by
    by_cases e : a = p
    · subst e; rw [upd_same] at h ⊢; exact h
    · rw [upd_ne e] at h ⊢; exact s a u h
  ext := fun a u h => by
    have : a ≠ p := fun e => by subst e; rw [s a u h] at hp; cases hp
    rw [upd_ne this]; exact h
  keep := fun a u h _ => by rw [upd_ne (ne_of_none h hp)]; exact h
  there := fun a u h => ⟨u, by rw [upd_ne (ne_of_none h hp)]; exact h⟩
  new := fun a u h n => by rw [upd_ne (ne_of_none h hp)]; exact n
/-- a new object, not shared -/
theorem Stp.lay {g : Option Dk} {H Hs : Hp} {p : Addr} {o : HO} (s : Same Hs H) (hp : H p = none) : Stp g H Hs (upd H p o) Hs where
  sub := fun a u h => by
    have : a ≠ p := fun e => by subst e; rw [s a u h] at hp; cases hp
    rw [upd_ne this]; exact s a u h
  ext := Same.refl _
  keep := fun a u h _ => by rw [upd_ne (ne_of_none h hp)]; exact h
  there := fun a u h => ⟨u, by rw [upd_ne (ne_of_none h hp)]; exact h⟩
  new := fun a u h n => n
/-- an object that stands is shared from now on -/
theorem Stp.share {g : Option Dk} {H Hs H' Hs' : Hp} {p : Addr} {o : HO} (s : Stp g H Hs H' Hs') (h0 : H p = none) (h1 : H' p = some o) (h2 : Hs' p = none) : Stp g H Hs H' (upd Hs' p o) where
  sub := fun a u h => by
    by_cases e : a = p
    · subst e; rw [upd_same] at h; cases h; exact h1
    · rw [upd_ne e] at h; exact s.sub a u h
  ext := fun a u h => by
    have q := s.ext a u h
    rw [upd_ne (ne_of_none q h2)]; exact q
  keep := s.keep
  there := s.there
  new := fun a u h n => by rw [upd_ne (ne_of_none h h0)]; exact s.new a u h n
theorem DkOk.step {g : Option Dk} {H Hs H' Hs' : Hp} {f : Nat} (h : DkOk g H Hs f) (k : ∀ a o, H a = some o → H' a = some o) (n : ∀ a o, H a = some o → Hs a = none → Hs' a = none) : DkOk g H' Hs' f := by
  cases g with
  | none => trivial
  | some d =>
    obtain ⟨⟨e1, e2, e3, n', xs, ys, h1, h2, h3, h4⟩, n1, n2, n3⟩ := h
    exact ⟨⟨e1, e2, e3, n', xs, ys, k _ _ h1, k _ _ h2, k _ _ h3, h4⟩, n _ _ h1 n1, n _ _ h2 n2, n _ _ h3 n3⟩
theorem DkOk.stp {g : Option Dk} {H Hs H' Hs' : Hp} {f : Nat} (h : DkOk g H Hs f) (s : Stp none H Hs H' Hs') : DkOk g H' Hs' f := h.step (fun a o e => s.keep a o e id) s.new
theorem Stp.gen {g : Option Dk} {H Hs H' Hs' : Hp} (s : Stp none H Hs H' Hs') : Stp g H Hs H' Hs' := ⟨s.sub, s.ext, fun a o h _ => s.keep a o h id, s.there, s.new⟩
end DL
namespace DL
open PySem PySem.Spec PyProof.Rows L2
/-! slots -/
inductive Sl where
  | no
  | sh (d : D)
  | ow (xs : List D)
  | od (ks : List Key) (xs : List D)
  | oi (a : Addr) (c : Str) (ns : List Str) (xs : List D)
def Sl.d : Sl → Option D
  | .no => none
  | .sh d => some d
  | .ow xs => some (.lst xs)
  | .od ks xs => some (.dct ks xs)
  | .oi _ _ _ _ => none
abbrev Sg := List Sl
structure SlOk (K : PySem.W.Frag) (Hs : Hp) (r : Sg) (st : L2.St) : Prop where
  len : r.length = st.length
  get : ∀ (i : Nat) (s : Sl) (d : D), r[i]? = some s → s.d = some d → ∃ v, st[i]? = some (some v) ∧ Rp K Hs d v
theorem SlOk.mono {K : PySem.W.Frag} {Hs Hs' : Hp} {r : Sg} {st : L2.St} (h : SlOk K Hs r st) (e : Same Hs Hs') : SlOk K Hs' r st :=
  ⟨h.len, fun i s d h1 h2 => by
    obtain ⟨v, h3, h4⟩ := h.get i s d h1 h2
    exact ⟨v, h3, h4.mono e⟩⟩
theorem SlOk.set {K : PySem.W.Frag} {Hs : Hp} {r : Sg} {st : L2.St} (h : SlOk K Hs r st) (j : Nat) {d : D} {v : V} (hv : Rp K Hs d v) : SlOk K Hs (r.set j (.sh d)) (st.set j (some v)) :=
  ⟨by simp [h.len], fun i s e h1 h2 => by
    by_cases hij : j = i
    · subst hij
      by_cases hl : j < r.length
      · rw [List.getElem?_set_self hl] at h1
        cases h1
        cases h2
        exact ⟨v, List.getElem?_set_self (h.len ▸ hl), hv⟩
      · rw [List.getElem?_eq_none (by simpa using hl)] at h1
        cases h1
    · rw [List.getElem?_set_ne hij] at h1
      rw [List.getElem?_set_ne hij]
      exact h.get i s e h1 h2⟩
abbrev QD := D → Nat → Prop
abbrev DT := Option Dk → Sg → Nat → QD → Prop
abbrev DTT := Option Dk → Sg → Nat → (Bool → Nat → Prop) → Prop
abbrev DTA := Option Dk → Sg → Nat → (List D → Nat → Prop) → Prop
structure At (K : PySem.W.Frag) (g : Option Dk) (r : Sg) (f : Nat) (st : L2.St) (H Hs : Hp) : Prop where
  sub : Same Hs H
  dk : DkOk g H Hs f
  sl : SlOk K Hs r st
theorem At.step {K : PySem.W.Frag} {g : Option Dk} {r : Sg} {f f' : Nat} {st : L2.St} {H Hs H' Hs' : Hp} (a : At K g r f st H Hs) (s : Stp g H Hs H' Hs') (k : DkOk g H' Hs' f') : At K g r f' st H' Hs' :=
  ⟨s.sub, k, a.sl.mono s.ext⟩
def Snd (K : PySem.W.Frag) (t : TE) (dl : DT) : Prop := ∀ (g : Option Dk) (r : Sg) (f : Nat) (st : L2.St) (H Hs : Hp) (Q : VK) (Q' : QD), At K g r f st H Hs →
  (∀ d f' v H' Hs', Stp g H Hs H' Hs' → DkOk g H' Hs' f' → Rp K Hs' d v → Q' d f' → Q v H') → dl g r f Q' → t st H Q
def SndT (K : PySem.W.Frag) (t : TT) (dl : DTT) : Prop := ∀ (g : Option Dk) (r : Sg) (f : Nat) (st : L2.St) (H Hs : Hp) (Q : Bool → Hp → Prop) (Q' : Bool → Nat → Prop), At K g r f st H Hs →
  (∀ b f' H' Hs', Stp g H Hs H' Hs' → DkOk g H' Hs' f' → Q' b f' → Q b H') → dl g r f Q' → t st H Q
def SndA (K : PySem.W.Frag) (t : TA) (dl : DTA) : Prop := ∀ (g : Option Dk) (r : Sg) (f : Nat) (st : L2.St) (H Hs : Hp) (Q : List V → Hp → Prop) (Q' : List D → Nat → Prop), At K g r f st H Hs →
  (∀ ds f' vs H' Hs', Stp g H Hs H' Hs' → DkOk g H' Hs' f' → RpA K Hs' ds vs → Q' ds f' → Q vs H') → dl g r f Q' → t st H Q
/-- a list that is new -/
def SndL (K : PySem.W.Frag) (t : TE) (dl : DTA) : Prop := ∀ (g : Option Dk) (r : Sg) (f : Nat) (st : L2.St) (H Hs : Hp) (Q : VK) (Q' : List D → Nat → Prop), At K g r f st H Hs →
  (∀ ds f' p vs H' Hs', Stp g H Hs H' Hs' → DkOk g H' Hs' f' → H p = none → Hs' p = none → H' p = some (.lst vs) → RpA K Hs' ds vs → Q' ds f' → Q (.ref p) H') → dl g r f Q' → t st H Q
/-! the widest reading that data allow -/
def tOf (K : PySem.W.Frag) (dl : DT) : TE := fun st H Q => ∃ g r f Hs Q', At K g r f st H Hs ∧ (∀ d f' v H' Hs', Stp g H Hs H' Hs' → DkOk g H' Hs' f' → Rp K Hs' d v → Q' d f' → Q v H') ∧ dl g r f Q'
def tOfT (K : PySem.W.Frag) (dl : DTT) : TT := fun st H Q => ∃ g r f Hs Q', At K g r f st H Hs ∧ (∀ b f' H' Hs', Stp g H Hs H' Hs' → DkOk g H' Hs' f' → Q' b f' → Q b H') ∧ dl g r f Q'
def tOfA (K : PySem.W.Frag) (dl : DTA) : TA := fun st H Q => ∃ g r f Hs Q', At K g r f st H Hs ∧ (∀ ds f' vs H' Hs', Stp g H Hs H' Hs' → DkOk g H' Hs' f' → RpA K Hs' ds vs → Q' ds f' → Q vs H') ∧ dl g r f Q'
def tOfL (K : PySem.W.Frag) (dl : DTA) : TE := fun st H Q => ∃ g r f Hs Q', At K g r f st H Hs ∧ (∀ ds f' p vs H' Hs', Stp g H Hs H' Hs' → DkOk g H' Hs' f' → H p = none → Hs' p = none → H' p = some (.lst vs) → RpA K Hs' ds vs → Q' ds f' → Q (.ref p) H') ∧ dl g r f Q'
structure DE (X : Cx) (e : Expr) (dl : DT) : Prop where
  pe : PE X e (tOf X.K dl)
structure DP (X : Cx) (e : Expr) (dl : DTT) : Prop where
  pt : PT X e (tOfT X.K dl)
structure DW (X : Cx) (e : Expr) (dl : DTT) : Prop where
  pw : PW X e (tOfT X.K dl)
structure DA (X : Cx) (es : List Expr) (dl : DTA) : Prop where
  pa : PA X es (tOfA X.K dl)
structure DL' (X : Cx) (e : Expr) (dl : DTA) : Prop where
  pe : PE X e (tOfL X.K dl)
theorem DE.sn {X : Cx} {e : Expr} {dl : DT} (_ : DE X e dl) : Snd X.K (tOf X.K dl) dl := fun g r f st H Hs Q Q' a hq hd => ⟨g, r, f, Hs, Q', a, hq, hd⟩
theorem DP.sn {X : Cx} {e : Expr} {dl : DTT} (_ : DP X e dl) : SndT X.K (tOfT X.K dl) dl := fun g r f st H Hs Q Q' a hq hd => ⟨g, r, f, Hs, Q', a, hq, hd⟩
theorem DW.sn {X : Cx} {e : Expr} {dl : DTT} (_ : DW X e dl) : SndT X.K (tOfT X.K dl) dl := fun g r f st H Hs Q Q' a hq hd => ⟨g, r, f, Hs, Q', a, hq, hd⟩
theorem DA.sn {X : Cx} {es : List Expr} {dl : DTA} (_ : DA X es dl) : SndA X.K (tOfA X.K dl) dl := fun g r f st H Hs Q Q' a hq hd => ⟨g, r, f, Hs, Q', a, hq, hd⟩
theorem DL'.sn {X : Cx} {e : Expr} {dl : DTA} (_ : DL' X e dl) : SndL X.K (tOfL X.K dl) dl := fun g r f st H Hs Q Q' a hq hd => ⟨g, r, f, Hs, Q', a, hq, hd⟩
theorem DE.mk' {X : Cx} {e : Expr} {t : TE} {dl : DT} (p : PE X e t) (s : Snd X.K t dl) : DE X e dl := ⟨⟨fun pins sh st H Q I ⟨g, r, f, Hs, Q', a, hq, hd⟩ => p.run pins sh st H Q I (s g r f st H Hs Q Q' a hq hd)⟩⟩
theorem DP.mk' {X : Cx} {e : Expr} {t : TT} {dl : DTT} (p : PT X e t) (s : SndT X.K t dl) : DP X e dl := ⟨⟨fun pins sh st H Q I ⟨g, r, f, Hs, Q', a, hq, hd⟩ => p.run pins sh st H Q I (s g r f st H Hs Q Q' a hq hd)⟩⟩
theorem DW.mk' {X : Cx} {e : Expr} {t : TT} {dl : DTT} (p : PW X e t) (s : SndT X.K t dl) : DW X e dl := ⟨⟨fun whole pins sh st H Q I ⟨g, r, f, Hs, Q', a, hq, hd⟩ => p.run whole pins sh st H Q I (s g r f st H Hs Q Q' a hq hd)⟩⟩
theorem DA.mk' {X : Cx} {es : List Expr} {t : TA} {dl : DTA} (p : PA X es t) (s : SndA X.K t dl) : DA X es dl := ⟨⟨fun pos pins sh st H Q I ⟨g, r, f, Hs, Q', a, hq, hd⟩ => p.run pos pins sh st H Q I (s g r f st H Hs Q Q' a hq hd)⟩⟩
theorem DL'.mk' {X : Cx} {e : Expr} {t : TE} {dl : DTA} (p : PE X e t) (s : SndL X.K t dl) : DL' X e dl := ⟨⟨fun pins sh st H Q I ⟨g, r, f, Hs, Q', a, hq, hd⟩ => p.run pins sh st H Q I (s g r f st H Hs Q Q' a hq hd)⟩⟩
def dOfL (dl : DTA) : DT := fun g r f Q => dl g r f fun ds f' => Q (.lst ds) f'
theorem DkOk.share {g : Option Dk} {H Hs : Hp} {f : Nat} {p : Addr} {o : HO} (h : DkOk g H Hs f) (n : ¬ Dk.has g p) : DkOk g H (upd Hs p o) f := by
  cases g with
  | none => trivial
  | some k =>
    obtain ⟨h0, h1, h2, h3⟩ := h
    refine ⟨h0, ?_, ?_, ?_⟩
    · rw [upd_ne fun e => n (.inl e.symm)]; exact h1
    · rw [upd_ne fun e => n (.inr (.inl e.symm))]; exact h2
    · rw [upd_ne fun e => n (.inr (.inr e.symm))]; exact h3
theorem DkOk.out {g : Option Dk} {H Hs : Hp} {f : Nat} {p : Addr} (h : DkOk g H Hs f) (n : H p = none) : ¬ Dk.has g p := by
  cases g with
  | none => exact id
  | some k =>
    obtain ⟨⟨_, _, _, _, _, _, h1, h2, h3, _⟩, _⟩ := h
    rintro (e | e | e)
    · rw [e, h1] at n; cases n
    · rw [e, h2] at n; cases n
    · rw [e, h3] at n; cases n
theorem DkOk.mut {g : Option Dk} {H Hs : Hp} {f : Nat} {p : Addr} {o : HO} (h : DkOk g H Hs f) (n : ¬ Dk.has g p) : DkOk g (upd H p o) Hs f := by
  cases g with
  | none => trivial
  | some k =>
    obtain ⟨⟨e1, e2, e3, n', xs, ys, h1, h2, h3, h4⟩, q⟩ := h
    refine ⟨⟨e1, e2, e3, n', xs, ys, ?_, ?_, ?_, h4⟩, q⟩
    · rw [upd_ne fun e => n (.inl e.symm)]; exact h1
    · rw [upd_ne fun e => n (.inr (.inl e.symm))]; exact h2
    · rw [upd_ne fun e => n (.inr (.inr e.symm))]; exact h3
theorem Stp.mut {g : Option Dk} {H Hs H' Hs' : Hp} {p : Addr} {o : HO} (s : Stp g H Hs H' Hs') (h0 : H p = none) (h2 : Hs' p = none) : Stp g H Hs (upd H' p o) Hs' where
  sub := fun a u h => by rw [upd_ne (ne_of_none h h2)]; exact s.sub a u h
  ext := s.ext
  keep := fun a u h n => by rw [upd_ne (ne_of_none h h0)]; exact s.keep a u h n
  there := fun a u h => by rw [upd_ne (ne_of_none h h0)]; exact s.there a u h
  new := s.new
section
variable {X : Cx} {K : PySem.W.Frag}
theorem SndL.e {t : TE} {dl : DTA} (h : SndL K t dl) : Snd K t (dOfL dl) := fun g r f st H Hs Q Q' a hq hd =>
  h g r f st H Hs Q _ a (fun ds f' p vs H' Hs' s k h0 h1 h2 hr q => hq (.lst ds) f' (.ref p) H' _ (s.share h0 h2 h1) (k.share (a.dk.out h0)) ⟨p, vs, rfl, upd_same, hr.mono (fun b u e => by rw [upd_ne (ne_of_none e h1)]; exact e)⟩ q) hd
theorem DL'.e {e : Expr} {dl : DTA} (h : DL' X e dl) : DE X e (dOfL dl) := .mk' (h.pe) (h.sn.e)
/-! names, constants -/
def dVar (i : Nat) : DT := fun _ r f Q => match r[i]? with
  | some s => match s.d with
    | some d => Q d f
    | none => False
  | none => False
theorem snd_var (i : Nat) : Snd K (tVar i) (dVar i) := fun g r f st H Hs Q Q' a hq hd => by
  unfold dVar at hd
  split at hd
  · next s e =>
    split at hd
    · next d e2 =>
      obtain ⟨v, h1, h2⟩ := a.sl.get i s d e e2
      exact ⟨v, h1, hq d f v H Hs (Stp.refl a.sub) a.dk h2 hd⟩
    · exact hd.elim
  · exact hd.elim
def dC (d : D) : DT := fun _ _ f Q => Q d f
theorem snd_c {d : D} {v : V} (h : ∀ H, Rp K H d v) : Snd K (tC v) (dC d) := fun g r f st H Hs Q Q' a hq hd => hq d f v H Hs (Stp.refl a.sub) a.dk (h Hs) hd
theorem de_v (i : Nat) {x : Str} {pos : Pos} (hN : X.N[i]? = some x := by rfl) (hv : Vis X.env.scope x := by first | exact Or.inl rfl | exact Or.inr (Or.inl rfl) | exact Or.inr (Or.inr rfl)) (hd : (x == ("__debug__" : Str)) = false := by decide)
    (hcd : (x == ("__classdict__" : Str)) = false := by decide) : DE X (.Name x pos) (dVar i) := .mk' (pe_var hN hv hd hcd) (snd_var i)
theorem de_int {i : Int} {j pos} : DE X (.Constant (.int i) j pos) (dC (.int i)) := .mk' (pe_int) (snd_c fun _ => rfl)
theorem de_bl {b : Bool} {j pos} : DE X (.Constant (.bool b) j pos) (dC (.bool b)) := .mk' (pe_bl) (snd_c fun _ => rfl)
theorem de_non {j pos} : DE X (.Constant .none j pos) (dC .none) := .mk' (pe_non) (snd_c fun _ => rfl)
theorem de_str {x : Str} {j pos} : DE X (.Constant (.str x) j pos) (dC (.str x)) := .mk' (pe_str) (snd_c fun _ => rfl)
theorem de_glob {x : Str} {v : V} {u : Value} {pos : Pos} {d : D} (hg : Gl X x) (hm : X.mg x = some u) (r : RelV v u) (hr : ∀ H, Rp X.K H d v) (hd : (x == ("__debug__" : Str)) = false := by decide) : DE X (.Name x pos) (dC d) := .mk' (pe_glob hg hm r hd) (snd_c hr)
theorem de_bltn {x : Str} {v : V} {u : Value} {pos : Pos} (hg : Gl X x) (hm : X.mg x = none) (hv : bootBuiltins x = some u) (r : RelV v u) (hn : x ≠ "__name__" := by decide) (hd : (x == ("__debug__" : Str)) = false := by decide) :
    DE X (.Name x pos) (dC (.any v)) := .mk' (pe_bltn hg hm hv r hn hd) (snd_c fun _ => rfl)
/-! operators by values -/
abbrev O2 := D → D → (D → Prop) → Prop
def SndR (K : PySem.W.Frag) (r : R2) (op : O2) : Prop := ∀ (H Hs : Hp) (x y : D) (vx vy : V) (Q : VK) (Q' : D → Prop), Same Hs H → Rp K Hs x vx → Rp K Hs y vy →
  (∀ z v H' Hs', Stp none H Hs H' Hs' → Rp K Hs' z v → Q' z → Q v H') → op x y Q' → r vx vy H Q
def dOp (op : O2) (a b : DT) : DT := fun g r f Q => a g r f fun x f1 => b g r f1 fun y f2 => op x y fun z => Q z f2
theorem snd_op {r : R2} {op : O2} {ta tb : TE} {a b : DT} (hr : SndR K r op) (ha : Snd K ta a) (hb : Snd K tb b) : Snd K (tOp r ta tb) (dOp op a b) := fun g ro f st H Hs Q Q' A hq hd =>
  ha g ro f st H Hs _ _ A (fun x f1 vx H1 Hs1 s1 k1 r1 q1 => hb g ro f1 st H1 Hs1 _ _ (A.step s1 k1) (fun y f2 vy H2 Hs2 s2 k2 r2 q2 =>
    hr H2 Hs2 x y vx vy Q _ s2.sub (r1.mono s2.ext) r2 (fun z v H3 Hs3 s3 r3 q3 => hq z f2 v H3 Hs3 ((s1.trans s2).trans s3.gen) (k2.stp s3) r3 q3) q2) q1) hd
theorem SndR.or {r r' : R2} {op op' : O2} (h : SndR K r op) (h' : SndR K r' op') : SndR K (fun x y H Q => r x y H Q ∨ r' x y H Q) (fun x y Q => op x y Q ∨ op' x y Q) := fun H Hs x y vx vy Q Q' s rx ry hq hd => by
  rcases hd with hd | hd
  · exact .inl (h H Hs x y vx vy Q Q' s rx ry hq hd)
  · exact .inr (h' H Hs x y vx vy Q Q' s rx ry hq hd)
theorem SndR.weak {r : R2} {op op' : O2} (h : SndR K r op) (w : ∀ x y Q, op' x y Q → op x y Q) : SndR K r op' := fun H Hs x y vx vy Q Q' s rx ry hq hd => h H Hs x y vx vy Q Q' s rx ry hq (w x y Q' hd)
theorem de_op {a b : Expr} {op : Operator} {pos : Pos} {r : R2} {o : O2} {da db : DT} (ho : OpR X (binaryOp op) r) (hr : SndR X.K r o) (ha : DE X a da) (hb : DE X b db) : DE X (.BinOp a op b pos) (dOp o da db) := .mk' (pe_op ho ha.pe hb.pe) (snd_op hr ha.sn hb.sn)
theorem de_cmp {a b : Expr} {op : CmpOp} {pos : Pos} {r : R2} {o : O2} {da db : DT} (ho : OpR X (compareOp op) r) (hr : SndR X.K r o) (ha : DE X a da) (hb : DE X b db) (hm : behindInMarks op b = false) : DE X (.Compare a [op] [b] pos) (dOp o da db) := .mk' (pe_cmpR ho ha.pe hb.pe hm) (snd_op hr ha.sn hb.sn)
def dTest (a : DT) : DTT := fun g r f Q => a g r f fun x f1 => match x with
  | .bool b => Q b f1
  | _ => False
theorem snd_test {ta : TE} {a : DT} (ha : Snd K ta a) : SndT K (tTest ta) (dTest a) := fun g ro f st H Hs Q Q' A hq hd =>
  ha g ro f st H Hs _ _ A (fun x f1 v H1 Hs1 s1 k1 r1 q1 => by
    cases x with
    | bool b => exact ⟨b, r1, hq b f1 H1 Hs1 s1 k1 q1⟩
    | _ => exact q1.elim) hd
theorem snd_B {ta : TE} {a : DT} (ha : Snd K ta a) : SndT K (tB ta) (dTest a) := fun g ro f st H Hs Q Q' A hq hd =>
  ha g ro f st H Hs _ _ A (fun x f1 v H1 Hs1 s1 k1 r1 q1 => by
    cases x with
    | bool b => exact ⟨b, r1, hq b f1 H1 Hs1 s1 k1 q1⟩
    | _ => exact q1.elim) hd
theorem dp_cmp {a b : Expr} {op : CmpOp} {pos : Pos} {r : R2} {o : O2} {da db : DT} (ho : OpR X (compareOp op) r) (hr : SndR X.K r o) (ha : DE X a da) (hb : DE X b db) (hm : behindInMarks op b = false) : DP X (.Compare a [op] [b] pos) (dTest (dOp o da db)) :=
  .mk' (pt_cmpR ho ha.pe hb.pe hm) (snd_test (snd_op hr ha.sn hb.sn))
theorem dp_val {e : Expr} {d : DT} (h : DE X e d) (he : ∀ whole, isTrue e X.env whole = (do let v ← whole; standAt e.pos; holding [v] (truthy v)) := by intro _; rfl) : DP X e (dTest d) := .mk' (pt_val h.pe he) (snd_B h.sn)
def dChain (o o' : O2) (a b c : DT) : DT := fun g r f Q => a g r f fun x f1 => b g r f1 fun y f2 => o x y fun z => match z with
  | .bool k => if k = true then c g r f2 fun w f3 => o' y w fun z' => Q z' f3 else Q (.bool false) f2
  | _ => False
end
end DL
namespace DL
open PySem PySem.Spec PyProof.Rows L2
section
variable {X : Cx} {K : PySem.W.Frag}
theorem snd_chain {r r' : R2} {o o' : O2} {ta tb tc : TE} {a b c : DT} (hr : SndR K r o) (hr' : SndR K r' o') (ha : Snd K ta a) (hb : Snd K tb b) (hc : Snd K tc c) : Snd K (tChain r r' ta tb tc) (dChain o o' a b c) := fun g ro f st H Hs Q Q' A hq hd =>
  ha g ro f st H Hs _ _ A (fun x f1 vx H1 Hs1 s1 k1 r1 q1 => hb g ro f1 st H1 Hs1 _ _ (A.step s1 k1) (fun y f2 vy H2 Hs2 s2 k2 r2 q2 =>
    hr H2 Hs2 x y vx vy _ _ s2.sub (r1.mono s2.ext) r2 (fun z v H3 Hs3 s3 r3 q3 => by
      cases z with
      | bool k =>
        refine ⟨k, r3, ?_⟩
        cases k with
        | true =>
          rw [if_pos rfl]
          replace q3 : c g ro f2 fun w f3 => o' y w fun z' => Q' z' f3 := q3
          have A3 := (A.step s1 k1).step s2 k2 |>.step s3.gen (k2.stp s3)
          exact hc g ro f2 st H3 Hs3 _ _ A3 (fun w f3 vw H4 Hs4 s4 k4 r4 q4 => hr' H4 Hs4 y w vy vw _ _ s4.sub ((r2.mono s3.ext).mono s4.ext) r4 (fun z v H5 Hs5 s5 r5 q5 =>
            hq z f3 v H5 Hs5 ((((s1.trans s2).trans s3.gen).trans s4).trans s5.gen) (k4.stp s5) r5 q5) q4) q3
        | false =>
          rw [if_neg Bool.false_ne_true]
          exact hq (.bool false) f2 (.bl false) H3 Hs3 ((s1.trans s2).trans s3.gen) (k2.stp s3) rfl q3
      | _ => exact q3.elim) q2) q1) hd
theorem de_chain {a b c : Expr} {op op' : CmpOp} {pos : Pos} {r r' : R2} {o o' : O2} {da db dc : DT} (ho : OpR X (compareOp op) r) (ho' : OpR X (compareOp op') r') (hr : SndR X.K r o) (hr' : SndR X.K r' o')
    (ha : DE X a da) (hb : DE X b db) (hc : DE X c dc) (hm : lastMarks [op, op'] [b, c] = false := by with_unfolding_all rfl) : DE X (.Compare a [op, op'] [b, c] pos) (dChain o o' da db dc) :=
  .mk' (pe_chain ho ho' ha.pe hb.pe hc.pe hm) (snd_chain hr hr' ha.sn hb.sn hc.sn)
theorem dp_chain {a b c : Expr} {op op' : CmpOp} {pos : Pos} {r r' : R2} {o o' : O2} {da db dc : DT} (ho : OpR X (compareOp op) r) (ho' : OpR X (compareOp op') r') (hr : SndR X.K r o) (hr' : SndR X.K r' o')
    (ha : DE X a da) (hb : DE X b db) (hc : DE X c dc) (hm : lastMarks [op, op'] [b, c] = false := by with_unfolding_all rfl) : DP X (.Compare a [op, op'] [b, c] pos) (dTest (dChain o o' da db dc)) :=
  .mk' (pt_chain ho ho' ha.pe hb.pe hc.pe hm) (snd_test (snd_chain hr hr' ha.sn hb.sn hc.sn))
/-! and, or, not, if -/
def dAnd (a b : DTT) : DTT := fun g r f Q => a g r f fun c f1 => if c = true then b g r f1 Q else Q false f1
def dOr (a b : DTT) : DTT := fun g r f Q => a g r f fun c f1 => if c = true then Q true f1 else b g r f1 Q
def dNot (a : DTT) : DTT := fun g r f Q => a g r f fun c f1 => Q (!c) f1
theorem snd_and {t u : TT} {a b : DTT} (ha : SndT K t a) (hb : SndT K u b) : SndT K (tAnd t u) (dAnd a b) := fun g ro f st H Hs Q Q' A hq hd =>
  ha g ro f st H Hs _ _ A (fun c f1 H1 Hs1 s1 k1 q1 => by
    cases c with
    | true => exact hb g ro f1 st H1 Hs1 _ _ (A.step s1 k1) (fun d f2 H2 Hs2 s2 k2 q2 => hq d f2 H2 Hs2 (s1.trans s2) k2 q2) q1
    | false => exact hq false f1 H1 Hs1 s1 k1 q1) hd
theorem snd_or {t u : TT} {a b : DTT} (ha : SndT K t a) (hb : SndT K u b) : SndT K (tOr t u) (dOr a b) := fun g ro f st H Hs Q Q' A hq hd =>
  ha g ro f st H Hs _ _ A (fun c f1 H1 Hs1 s1 k1 q1 => by
    cases c with
    | false => exact hb g ro f1 st H1 Hs1 _ _ (A.step s1 k1) (fun d f2 H2 Hs2 s2 k2 q2 => hq d f2 H2 Hs2 (s1.trans s2) k2 q2) q1
    | true => exact hq true f1 H1 Hs1 s1 k1 q1) hd
theorem snd_not {t : TT} {a : DTT} (ha : SndT K t a) : SndT K (tNot t) (dNot a) := fun g ro f st H Hs Q Q' A hq hd =>
  ha g ro f st H Hs _ _ A (fun c f1 H1 Hs1 s1 k1 q1 => hq (!c) f1 H1 Hs1 s1 k1 q1) hd
theorem dw_and1 {a : Expr} {pos : Pos} {d : DTT} (h : DP X a d) : DW X (.BoolOp .And [a] pos) d := .mk' (pw_and1 h.pt) (h.sn)
theorem dw_or1 {a : Expr} {pos : Pos} {d : DTT} (h : DP X a d) : DW X (.BoolOp .Or [a] pos) d := .mk' (pw_or1 h.pt) (h.sn)
theorem dw_and {a b : Expr} {rest : List Expr} {pos : Pos} {d e : DTT} (h : DP X a d) (h' : DW X (.BoolOp .And (b :: rest) pos) e) : DW X (.BoolOp .And (a :: b :: rest) pos) (dAnd d e) := .mk' (pw_and h.pt h'.pw) (snd_and h.sn h'.sn)
theorem dw_or {a b : Expr} {rest : List Expr} {pos : Pos} {d e : DTT} (h : DP X a d) (h' : DW X (.BoolOp .Or (b :: rest) pos) e) : DW X (.BoolOp .Or (a :: b :: rest) pos) (dOr d e) := .mk' (pw_or h.pt h'.pw) (snd_or h.sn h'.sn)
theorem DW.p {a : Expr} {d : DTT} (h : DW X a d) : DP X a d := .mk' (h.pw.pt) (h.sn)
theorem dp_not {a : Expr} {pos : Pos} {d : DTT} (h : DP X a d) : DP X (.UnaryOp .Not a pos) (dNot d) := .mk' (pt_not h.pt) (snd_not h.sn)
def dAndV (a b : DT) : DT := fun g r f Q => a g r f fun x f1 => match x with
  | .bool c => if c = true then b g r f1 Q else Q (.bool false) f1
  | _ => False
def dOrV (a b : DT) : DT := fun g r f Q => a g r f fun x f1 => match x with
  | .bool c => if c = true then Q (.bool true) f1 else b g r f1 Q
  | _ => False
def dNotV (a : DT) : DT := fun g r f Q => a g r f fun x f1 => match x with
  | .bool c => Q (.bool (!c)) f1
  | _ => False
theorem snd_andV {t u : TE} {a b : DT} (ha : Snd K t a) (hb : Snd K u b) : Snd K (tAndV t u) (dAndV a b) := fun g ro f st H Hs Q Q' A hq hd =>
  ha g ro f st H Hs _ _ A (fun x f1 v H1 Hs1 s1 k1 r1 q1 => by
    cases x with
    | bool c =>
      refine ⟨c, r1, ?_⟩
      cases c with
      | true => exact hb g ro f1 st H1 Hs1 _ _ (A.step s1 k1) (fun d f2 v H2 Hs2 s2 k2 r2 q2 => hq d f2 v H2 Hs2 (s1.trans s2) k2 r2 q2) q1
      | false => exact hq (.bool false) f1 _ H1 Hs1 s1 k1 rfl q1
    | _ => exact q1.elim) hd
theorem snd_orV {t u : TE} {a b : DT} (ha : Snd K t a) (hb : Snd K u b) : Snd K (tOrV t u) (dOrV a b) := fun g ro f st H Hs Q Q' A hq hd =>
  ha g ro f st H Hs _ _ A (fun x f1 v H1 Hs1 s1 k1 r1 q1 => by
    cases x with
    | bool c =>
      refine ⟨c, r1, ?_⟩
      cases c with
      | false => exact hb g ro f1 st H1 Hs1 _ _ (A.step s1 k1) (fun d f2 v H2 Hs2 s2 k2 r2 q2 => hq d f2 v H2 Hs2 (s1.trans s2) k2 r2 q2) q1
      | true => exact hq (.bool true) f1 _ H1 Hs1 s1 k1 rfl q1
    | _ => exact q1.elim) hd
theorem snd_notV {t : TE} {a : DT} (ha : Snd K t a) : Snd K (tNotV t) (dNotV a) := fun g ro f st H Hs Q Q' A hq hd =>
  ha g ro f st H Hs _ _ A (fun x f1 v H1 Hs1 s1 k1 r1 q1 => by
    cases x with
    | bool c => exact ⟨c, r1, hq (.bool (!c)) f1 _ H1 Hs1 s1 k1 rfl q1⟩
    | _ => exact q1.elim) hd
theorem de_one {a : Expr} {op} {pos : Pos} {d : DT} (h : DE X a d) : DE X (.BoolOp op [a] pos) d := .mk' (pe_one h.pe) (h.sn)
theorem de_and {a b : Expr} {rest : List Expr} {pos : Pos} {d e : DT} (h : DE X a d) (h' : DE X (.BoolOp .And (b :: rest) pos) e) : DE X (.BoolOp .And (a :: b :: rest) pos) (dAndV d e) := .mk' (pe_and h.pe h'.pe) (snd_andV h.sn h'.sn)
theorem de_or {a b : Expr} {rest : List Expr} {pos : Pos} {d e : DT} (h : DE X a d) (h' : DE X (.BoolOp .Or (b :: rest) pos) e) : DE X (.BoolOp .Or (a :: b :: rest) pos) (dOrV d e) := .mk' (pe_or h.pe h'.pe) (snd_orV h.sn h'.sn)
theorem de_not {a : Expr} {pos : Pos} {d : DT} (h : DE X a d) : DE X (.UnaryOp .Not a pos) (dNotV d) := .mk' (pe_not h.pe) (snd_notV h.sn)
/-! argument lists, displays -/
def dNil : DTA := fun _ _ f Q => Q [] f
def dCons (a : DT) (t : DTA) : DTA := fun g r f Q => a g r f fun x f1 => t g r f1 fun xs f2 => Q (x :: xs) f2
theorem snd_nil : SndA K tNil dNil := fun g ro f st H Hs Q Q' A hq hd => hq [] f [] H Hs (Stp.refl A.sub) A.dk rfl hd
theorem snd_cons {ta : TE} {t : TA} {a : DT} {d : DTA} (ha : Snd K ta a) (ht : SndA K t d) : SndA K (tCons ta t) (dCons a d) := fun g ro f st H Hs Q Q' A hq hd =>
  ha g ro f st H Hs _ _ A (fun x f1 v H1 Hs1 s1 k1 r1 q1 => ht g ro f1 st H1 Hs1 _ _ (A.step s1 k1) (fun ds f2 vs H2 Hs2 s2 k2 r2 q2 =>
    hq (x :: ds) f2 (v :: vs) H2 Hs2 (s1.trans s2) k2 ⟨v, vs, rfl, r1.mono s2.ext, r2⟩ q2) q1) hd
theorem da_nil : DA X [] dNil := .mk' (pa_nil) (snd_nil)
theorem da_cons {e : Expr} {es : List Expr} {d : DT} {dl : DTA} (h : DE X e d) (h' : DA X es dl) (hs : starEach (e :: es) X.env = (false, eval e X.env) :: starEach es X.env := by rfl) : DA X (e :: es) (dCons d dl) := .mk' (pa_cons h.pe h'.pa hs) (snd_cons h.sn h'.sn)
def lim : Nat := 1000000
theorem lim_le {n : Nat} (h : n ≤ lim) : n ≤ sizeLine := Nat.le_trans h (by decide)
theorem lim_lt {n : Nat} (h : n ≤ lim) : n < sizeLine := Nat.lt_of_le_of_lt h (by decide)
def dTup (t : DTA) : DT := fun g r f Q => t g r f fun ds f1 => ds.length ≤ lim ∧ Q (.tup ds) f1
theorem RpA.le {H : Hp} {ds : List D} {vs : List V} (h : RpA K H ds vs) (l : ds.length ≤ lim) : vs.length ≤ sizeLine := by rw [← h.length]; exact lim_le l
theorem RpA.lt {H : Hp} {ds : List D} {vs : List V} (h : RpA K H ds vs) (l : ds.length ≤ lim) : vs.length < sizeLine := by rw [← h.length]; exact lim_lt l
theorem rp_tup {H : Hp} {p : Addr} {ds : List D} {vs : List V} (hr : RpA K H ds vs) (hn : H p = none) : Rp K (upd H p (.tup vs)) (.tup ds) (.ref p) :=
  ⟨p, vs, rfl, .inl upd_same, hr.mono fun b u e => by rw [upd_ne (ne_of_none e hn)]; exact e⟩
theorem rp_lst {H : Hp} {p : Addr} {ds : List D} {vs : List V} (hr : RpA K H ds vs) (hn : H p = none) : Rp K (upd H p (.lst vs)) (.lst ds) (.ref p) :=
  ⟨p, vs, rfl, upd_same, hr.mono fun b u e => by rw [upd_ne (ne_of_none e hn)]; exact e⟩
theorem same_none {H Hs : Hp} {p : Addr} (s : Same Hs H) (h : H p = none) : Hs p = none := by
  cases e : Hs p with
  | none => rfl
  | some o => rw [s p o e] at h; cases h
theorem snd_tup {t : TA} {d : DTA} (h : SndA K t d) : Snd K (tTup t) (dTup d) := fun g ro f st H Hs Q Q' A hq hd =>
  h g ro f st H Hs _ _ A (fun ds f1 vs H1 Hs1 s1 k1 r1 q1 => ⟨r1.le q1.1, fun p hp => by
    have al : Stp none H1 Hs1 (upd H1 p (.tup vs)) (upd Hs1 p (.tup vs)) := Stp.alloc s1.sub hp
    exact hq (.tup ds) f1 (.ref p) _ _ (s1.trans al.gen) (k1.stp al) (rp_tup r1 (same_none s1.sub hp)) q1.2⟩) hd
theorem de_tup {es : List Expr} {x1} {pos : Pos} {d : DTA} (h : DA X es d) : DE X (.Tuple es x1 pos) (dTup d) := .mk' (pe_tup h.pa) (snd_tup h.sn)
def dLst (t : DTA) : DTA := fun g r f Q => t g r f fun ds f1 => ds.length ≤ lim ∧ Q ds f1
theorem snd_lst {t : TA} {d : DTA} (h : SndA K t d) : SndL K (tLst t) (dLst d) := fun g ro f st H Hs Q Q' A hq hd =>
  h g ro f st H Hs _ _ A (fun ds f1 vs H1 Hs1 s1 k1 r1 q1 => ⟨r1.le q1.1, fun p hp => by
    have al : Stp none H1 Hs1 (upd H1 p (.lst vs)) Hs1 := Stp.lay s1.sub hp
    refine hq ds f1 p vs _ _ (s1.trans al.gen) (k1.stp al) ?_ (same_none s1.sub hp) upd_same r1 q1.2
    cases e : H p with
    | none => rfl
    | some o =>
      obtain ⟨o', e'⟩ := s1.there p o e
      rw [e'] at hp; cases hp⟩) hd
theorem dl_lst {es : List Expr} {pos : Pos} {d : DTA} (h : DA X es d) : DL' X (.List es pos) (dLst d) := .mk' (pe_lst h.pa) (snd_lst h.sn)
/-! plain results -/
theorem SndR.pure {r : R2} {op : O2} (h : ∀ H Hs x y vx vy (Q : VK) (Q' : D → Prop), Same Hs H → Rp K Hs x vx → Rp K Hs y vy → (∀ z v, Rp K Hs z v → Q' z → Q v H) → op x y Q' → r vx vy H Q) : SndR K r op := fun H Hs x y vx vy Q Q' s rx ry hq hd =>
  h H Hs x y vx vy Q Q' s rx ry (fun z v rz q => hq z v H Hs (Stp.refl s) rz q) hd
def oI0 (g : Int → Int → D) : O2 := fun x y Q => match x, y with
  | .int i, .int j => Q (g i j)
  | _, _ => False
def oI (C : Int → Int → Prop) (g : Int → Int → D) : O2 := fun x y Q => match x, y with
  | .int i, .int j => C i j ∧ Q (g i j)
  | _, _ => False
theorem sr_I0 {g : Int → Int → V} {g' : Int → Int → D} (hg : ∀ i j H, Rp K H (g' i j) (g i j)) : SndR K (rI0 g) (oI0 g') := SndR.pure fun H Hs x y vx vy Q Q' s rx ry hq hd => by
  cases x <;> try exact hd.elim
  cases y <;> try exact hd.elim
  exact ⟨_, _, rx, ry, hq _ _ (hg _ _ _) hd⟩
theorem sr_I {C : Int → Int → Prop} {g : Int → Int → V} {g' : Int → Int → D} (hg : ∀ i j H, Rp K H (g' i j) (g i j)) : SndR K (rI C g) (oI C g') := SndR.pure fun H Hs x y vx vy Q Q' s rx ry hq hd => by
  cases x <;> try exact hd.elim
  cases y <;> try exact hd.elim
  exact ⟨_, _, rx, ry, hd.1, hq _ _ (hg _ _ _) hd.2⟩
def oAddS : O2 := fun x y Q => match x, y with
  | .str i, .str j => i.length + j.length ≤ lim ∧ Q (.str (i ++ j))
  | _, _ => False
theorem sr_addS : SndR K (fun x y H Q => ∃ i j, x = .str i ∧ y = .str j ∧ i.length + j.length ≤ sizeLine ∧ Q (.str (i ++ j)) H) oAddS := SndR.pure fun H Hs x y vx vy Q Q' s rx ry hq hd => by
  cases x <;> try exact hd.elim
  cases y <;> try exact hd.elim
  exact ⟨_, _, rx, ry, lim_le hd.1, hq (.str _) _ rfl hd.2⟩
def oCat : O2 := fun x y Q => match x, y with
  | .lst i, .lst j => i.length + j.length ≤ lim ∧ Q (.lst (i ++ j))
  | _, _ => False
theorem sr_cat : SndR K rCat oCat := fun H Hs x y vx vy Q Q' s rx ry hq hd => by
  cases x <;> try exact hd.elim
  cases y <;> try exact hd.elim
  obtain ⟨a, vs, rfl, h1, h2⟩ := rx
  obtain ⟨b, ws, rfl, h3, h4⟩ := ry
  refine ⟨a, b, vs, ws, rfl, rfl, s _ _ h1, s _ _ h3, ?_, fun p hp => ?_⟩
  · rw [← h2.length, ← h4.length]; exact lim_le hd.1
  · exact hq _ _ _ _ (Stp.alloc s hp) (rp_lst (h2.append h4) (same_none s hp)) hd.2
def oCatT : O2 := fun x y Q => match x, y with
  | .tup i, .tup j => i.length + j.length ≤ lim ∧ Q (.tup (i ++ j))
  | _, _ => False
theorem sr_catT : SndR K (rCatA K) oCatT := fun H Hs x y vx vy Q Q' s rx ry hq hd => by
  cases x <;> try exact hd.elim
  cases y <;> try exact hd.elim
  obtain ⟨a, vs, rfl, h1, h2⟩ := rx
  obtain ⟨b, ws, rfl, h3, h4⟩ := ry
  refine ⟨a, b, vs, ws, rfl, rfl, (tp_sq s h1), (tp_sq s h3), ?_, fun e => ?_, fun _ e => ?_, fun _ _ p hp => ?_⟩
  · rw [← h2.length, ← h4.length]; exact lim_le hd.1
  · have := h2.append h4
    rw [e] at this
    exact hq (.tup _) _ _ _ (Stp.refl s) ⟨b, ws, rfl, h3, this⟩ hd.2
  · have := h2.append h4
    rw [e, List.append_nil] at this
    exact hq (.tup _) _ _ _ (Stp.refl s) ⟨a, vs, rfl, h1, this⟩ hd.2
  · exact hq _ _ _ _ (Stp.alloc s hp) (rp_tup (h2.append h4) (same_none s hp)) hd.2
/-- x + y of any of the four kinds -/
def oAdd : O2 := fun x y Q => match x, y with
  | .int i, .int j => Q (.int (i + j))
  | .str i, .str j => i.length + j.length ≤ lim ∧ Q (.str (i ++ j))
  | .lst i, .lst j => i.length + j.length ≤ lim ∧ Q (.lst (i ++ j))
  | .tup i, .tup j => i.length + j.length ≤ lim ∧ Q (.tup (i ++ j))
  | _, _ => False
def rAddA (K : PySem.W.Frag) : R2 := fun x y H Q => rI0 (fun i j => .int (i + j)) x y H Q ∨ ((∃ i j, x = .str i ∧ y = .str j ∧ i.length + j.length ≤ sizeLine ∧ Q (.str (i ++ j)) H) ∨ (rCat x y H Q ∨ rCatA K x y H Q))
theorem op_addA : OpR X (binaryOp .Add) (rAddA X.K) := op_add.or (op_add_str.or (op_cat.or op_catA))
theorem sr_add : SndR K (rAddA K) oAdd := ((sr_I0 (g' := fun i j => .int (i + j)) fun _ _ _ => rfl).or (sr_addS.or (sr_cat.or sr_catT))).weak fun x y Q h => by
  cases x <;> cases y <;> first | exact h.elim | exact .inl h | exact .inr (.inl h) | exact .inr (.inr (.inl h)) | exact .inr (.inr (.inr h))
theorem de_add {a b : Expr} {pos : Pos} {da db : DT} (ha : DE X a da) (hb : DE X b db) : DE X (.BinOp a .Add b pos) (dOp oAdd da db) := de_op op_addA sr_add ha hb
theorem de_sub {a b : Expr} {pos : Pos} {da db : DT} (ha : DE X a da) (hb : DE X b db) : DE X (.BinOp a .Sub b pos) (dOp (oI0 fun i j => .int (i - j)) da db) := de_op op_sub (sr_I0 fun _ _ _ => rfl) ha hb
theorem de_mul {a b : Expr} {pos : Pos} {da db : DT} (ha : DE X a da) (hb : DE X b db) : DE X (.BinOp a .Mult b pos) (dOp (oI CMul fun i j => .int (i * j)) da db) := de_op op_mul (sr_I fun _ _ _ => rfl) ha hb
theorem de_mod {a b : Expr} {pos : Pos} {da db : DT} (ha : DE X a da) (hb : DE X b db) : DE X (.BinOp a .Mod b pos) (dOp (oI (fun _ j => 0 < j) fun i j => .int (i % j)) da db) := de_op op_mod (sr_I fun _ _ _ => rfl) ha hb
theorem de_pow {a b : Expr} {pos : Pos} {da db : DT} (ha : DE X a da) (hb : DE X b db) : DE X (.BinOp a .Pow b pos) (dOp (oI CPow fun i j => .int (i ^ j.toNat)) da db) := de_op op_pow (sr_I fun _ _ _ => rfl) ha hb
def dNeg (a : DT) : DT := fun g r f Q => a g r f fun x f1 => match x with
  | .int i => Q (.int (-i)) f1
  | _ => False
theorem de_neg {a : Expr} {pos : Pos} {d : DT} (h : DE X a d) : DE X (.UnaryOp .USub a pos) (dNeg d) := .mk' (pe_un un_neg h.pe) (fun g ro f st H Hs Q Q' A hq hd =>
  h.sn g ro f st H Hs _ _ A (fun x f1 v H1 Hs1 s1 k1 r1 q1 => by
    cases x <;> try exact q1.elim
    exact ⟨_, r1, hq (.int (-_)) f1 _ H1 Hs1 s1 k1 rfl q1⟩) hd)
/-! == and != -/
mutual
def D.py : D → PyData
  | .none => .none
  | .bool b => .bool b
  | .int i => .int i
  | .str x => .str x
  | .tup ds => .tuple (pyA ds)
  | .lst ds => .list (pyA ds)
  | .dct _ _ => .dict []
  | .obj _ _ _ => .dict []
  | .exn _ _ _ => .dict []
  | .any _ => .dict []
def pyA : List D → List PyData
  | [] => []
  | d :: ds => d.py :: pyA ds
end
mutual
theorem Rp.dp {H : Hp} : ∀ (d : D) (v : V), Rp K H d v → d.py.canLay0 = true → Dp K H v d.py
  | .none, _, h, _ => by cases h; exact .non
  | .bool _, _, h, _ => by cases h; exact .bl _
  | .int _, _, h, _ => by cases h; exact .int _
  | .str _, _, h, _ => by cases h; exact .str _
  | .tup ds, _, ⟨a, vs, h1, h2, h3⟩, c => by cases h1; exact .tup h2.sq (RpA.dp ds vs h3 c)
  | .lst ds, _, ⟨a, vs, h1, h2, h3⟩, c => by cases h1; exact .lst (SqL.of h2) (RpA.dp ds vs h3 c)
  | .dct _ _, _, _, c => by simp [D.py, PyData.canLay0] at c
  | .obj _ _ _, _, _, c => by simp [D.py, PyData.canLay0] at c
  | .exn _ _ _, _, _, c => by simp [D.py, PyData.canLay0] at c
  | .any _, _, _, c => by simp [D.py, PyData.canLay0] at c
theorem RpA.dp {H : Hp} : ∀ (ds : List D) (vs : List V), RpA K H ds vs → PyData.canLayAll0 (pyA ds) = true → DpAll K H vs (pyA ds)
  | [], _, h, _ => by cases h; exact .nil
  | d :: ds, _, ⟨v, r, h1, h2, h3⟩, c => by
    have c' : d.py.canLay0 = true ∧ PyData.canLayAll0 (pyA ds) = true := Bool.and_eq_true_iff.mp c
    cases h1
    exact .cons (Rp.dp d v h2 c'.1) (RpA.dp ds r h3 c'.2)
end
theorem Rp.dpS {H : Hp} {d : D} {v : V} (h : Rp K H d v) (c : SeqAt.shaped d.py = true) : Dp K H v d.py := h.dp d v (Bool.and_eq_true_iff.mp c).1
theorem dp_mono {H H' : Hp} (e : Same H H') {v : V} {d : PyData} (h : Dp K H v d) : Dp K H' v d := by
  refine Dp.rec (motive_1 := fun v d _ => Dp K H' v d) (motive_2 := fun vs ds _ => DpAll K H' vs ds) .non .bl .int .str ?_ ?_ .nil ?_ h
  · intro a xs ds h1 _ h2; exact .lst (e.seq h1) h2
  · intro a xs ds h1 _ h2; exact .tup (sqT_mono e h1) h2
  · intro v vs d ds _ _ h1 h2; exact .cons h1 h2
def xb (neg b : Bool) : Bool := match neg with
  | true => !b
  | false => b
def seq : D → D → Option Bool
  | .none, .none => some true
  | .none, .int _ => some false
  | .none, .bool _ => some false
  | .none, .str _ => some false
  | .int _, .none => some false
  | .bool _, .none => some false
  | .str _, .none => some false
  | .int a, .int b => some (decide (a = b))
  | .bool a, .bool b => some (decide (a = b))
  | .str a, .str b => some (decide (a = b))
  | .int _, .str _ => some false
  | .str _, .int _ => some false
  | .bool _, .str _ => some false
  | .str _, .bool _ => some false
  | _, _ => Option.none
def oEq (neg : Bool) : O2 := fun x y Q => match seq x y with
  | some b => Q (.bool (xb neg b))
  | Option.none => SeqAt.shaped x.py = true ∧ SeqAt.shaped y.py = true ∧ Q (.bool (xb neg (PyData.eqv x.py y.py)))
theorem seq_eqv : ∀ (x y : D) (b : Bool), seq x y = some b → PyData.eqv x.py y.py = b := by
  have es : ∀ a b : Str, (a == b) = decide (a = b) := fun a b => Bool.beq_eq_decide_eq a b
  intro x y b h
  cases x <;> cases y <;> simp only [seq, Option.some.injEq, reduceCtorEq] at h <;> subst h <;> simp [D.py, PyData.eqv]
  all_goals first | exact es _ _ | exact Bool.beq_eq_decide_eq _ _
theorem oEq_data {x y : D} {neg : Bool} {Q : D → Prop} (hx : SeqAt.shaped x.py = true) (hy : SeqAt.shaped y.py = true) (h : Q (.bool (xb neg (PyData.eqv x.py y.py)))) : oEq neg x y Q := by
  unfold oEq
  split
  · next b e => rw [seq_eqv x y b e] at h; exact h
  · exact ⟨hx, hy, h⟩
theorem sr_eqD : SndR K (rEqD K) (fun x y Q => SeqAt.shaped x.py = true ∧ SeqAt.shaped y.py = true ∧ Q (.bool (PyData.eqv x.py y.py))) := SndR.pure fun H Hs x y vx vy Q Q' s rx ry hq hd =>
  ⟨x.py, y.py, dp_mono s (rx.dpS hd.1), dp_mono s (ry.dpS hd.2.1), hd.1, hd.2.1, hq (.bool _) _ rfl hd.2.2⟩
theorem sr_neD : SndR K (rNeD K) (fun x y Q => SeqAt.shaped x.py = true ∧ SeqAt.shaped y.py = true ∧ Q (.bool (!PyData.eqv x.py y.py))) := SndR.pure fun H Hs x y vx vy Q Q' s rx ry hq hd =>
  ⟨x.py, y.py, dp_mono s (rx.dpS hd.1), dp_mono s (ry.dpS hd.2.1), hd.1, hd.2.1, hq (.bool _) _ rfl hd.2.2⟩
theorem seq_V {H : Hp} : ∀ (x y : D) (vx vy : V) (b : Bool), Rp K H x vx → Rp K H y vy → seq x y = some b → scal vx vy = true ∧ decide (vx = vy) = b := by
  intro x y vx vy b rx ry h
  cases x <;> cases y <;> simp only [seq, Option.some.injEq, reduceCtorEq] at h <;> subst h <;> cases rx <;> cases ry <;> simp [scal]
theorem sr_eqS : SndR K rEq (fun x y Q => ∃ b, seq x y = some b ∧ Q (.bool b)) := SndR.pure fun H Hs x y vx vy Q Q' s rx ry hq hd => by
  obtain ⟨b, e, h⟩ := hd
  obtain ⟨h1, h2⟩ := seq_V x y vx vy b rx ry e
  exact ⟨h1, hq (.bool b) _ (by rw [h2]; rfl) h⟩
theorem sr_neS : SndR K rNe (fun x y Q => ∃ b, seq x y = some b ∧ Q (.bool (!b))) := SndR.pure fun H Hs x y vx vy Q Q' s rx ry hq hd => by
  obtain ⟨b, e, h⟩ := hd
  obtain ⟨h1, h2⟩ := seq_V x y vx vy b rx ry e
  exact ⟨h1, hq (.bool (!b)) _ (by rw [h2]; rfl) h⟩
def rEqA (K : PySem.W.Frag) : R2 := fun x y H Q => rEq x y H Q ∨ rEqD K x y H Q
def rNeA (K : PySem.W.Frag) : R2 := fun x y H Q => rNe x y H Q ∨ rNeD K x y H Q
theorem sr_eq : SndR K (rEqA K) (oEq false) := (sr_eqS.or sr_eqD).weak fun x y Q h => by
  unfold oEq at h
  simp only [xb] at h
  split at h
  · next b e => exact .inl ⟨b, e, h⟩
  · exact .inr h
theorem sr_ne : SndR K (rNeA K) (oEq true) := (sr_neS.or sr_neD).weak fun x y Q h => by
  unfold oEq at h
  simp only [xb] at h
  split at h
  · next b e => exact .inl ⟨b, e, h⟩
  · exact .inr h
theorem de_eq {a b : Expr} {pos : Pos} {da db : DT} (hu : X.A.units + 64 < cLine) (ha : DE X a da) (hb : DE X b db) : DE X (.Compare a [.Eq] [b] pos) (dOp (oEq false) da db) := de_cmp (op_eq.or (op_eqD hu)) sr_eq ha hb (nomark _)
theorem de_ne {a b : Expr} {pos : Pos} {da db : DT} (hu : X.A.units + 64 < cLine) (ha : DE X a da) (hb : DE X b db) : DE X (.Compare a [.NotEq] [b] pos) (dOp (oEq true) da db) := de_cmp (op_ne.or (op_neD hu)) sr_ne ha hb (nomark _)
theorem dp_eq {a b : Expr} {pos : Pos} {da db : DT} (hu : X.A.units + 64 < cLine) (ha : DE X a da) (hb : DE X b db) : DP X (.Compare a [.Eq] [b] pos) (dTest (dOp (oEq false) da db)) := dp_cmp (op_eq.or (op_eqD hu)) sr_eq ha hb (nomark _)
theorem dp_ne {a b : Expr} {pos : Pos} {da db : DT} (hu : X.A.units + 64 < cLine) (ha : DE X a da) (hb : DE X b db) : DP X (.Compare a [.NotEq] [b] pos) (dTest (dOp (oEq true) da db)) := dp_cmp (op_ne.or (op_neD hu)) sr_ne ha hb (nomark _)
/-! < <= > >= of numbers -/
theorem de_le {a b : Expr} {pos : Pos} {da db : DT} (ha : DE X a da) (hb : DE X b db) : DE X (.Compare a [.LtE] [b] pos) (dOp (oI0 fun i j => .bool (decide (i ≤ j))) da db) := de_cmp op_le (sr_I0 fun _ _ _ => rfl) ha hb (nomark _)
theorem de_gt {a b : Expr} {pos : Pos} {da db : DT} (ha : DE X a da) (hb : DE X b db) : DE X (.Compare a [.Gt] [b] pos) (dOp (oI0 fun i j => .bool (decide (j < i))) da db) := de_cmp op_gt (sr_I0 fun _ _ _ => rfl) ha hb (nomark _)
theorem dp_lt {a b : Expr} {pos : Pos} {da db : DT} (ha : DE X a da) (hb : DE X b db) : DP X (.Compare a [.Lt] [b] pos) (dTest (dOp (oI0 fun i j => .bool (decide (i < j))) da db)) := dp_cmp op_lt (sr_I0 fun _ _ _ => rfl) ha hb (nomark _)
theorem dp_gt {a b : Expr} {pos : Pos} {da db : DT} (ha : DE X a da) (hb : DE X b db) : DP X (.Compare a [.Gt] [b] pos) (dTest (dOp (oI0 fun i j => .bool (decide (j < i))) da db)) := dp_cmp op_gt (sr_I0 fun _ _ _ => rfl) ha hb (nomark _)
/-- a <= b <= c of numbers -/
theorem de_lele {a b c : Expr} {pos : Pos} {da db dc : DT} (ha : DE X a da) (hb : DE X b db) (hc : DE X c dc) (hm : lastMarks [CmpOp.LtE, CmpOp.LtE] [b, c] = false := by with_unfolding_all rfl) : DE X (.Compare a [.LtE, .LtE] [b, c] pos) (dChain (oI0 fun i j => .bool (decide (i ≤ j))) (oI0 fun i j => .bool (decide (i ≤ j))) da db dc) := de_chain op_le op_le (sr_I0 fun _ _ _ => rfl) (sr_I0 fun _ _ _ => rfl) ha hb hc hm
/-! is None -/
def D.isN : D → Bool
  | .none => true
  | .any v => decide (v = .non)
  | _ => false
def oIsN (neg : Bool) : O2 := fun x y Q => match y with
  | .none => Q (.bool (xb neg x.isN))
  | _ => False
theorem isN_V {H : Hp} : ∀ (x : D) (v : V), Rp K H x v → decide (v = .non) = x.isN := by
  intro x v h
  cases x <;> try (cases h; rfl)
  · obtain ⟨a, vs, rfl, _⟩ := h; rfl
  · obtain ⟨a, vs, rfl, _⟩ := h; rfl
  · obtain ⟨a, vs, rfl, _⟩ := h; rfl
  · obtain ⟨C, a, dx, vs, _, rfl, _⟩ := h; rfl
  · obtain ⟨C, a, dx, vs, _, rfl, _⟩ := h; rfl
theorem sr_isN : SndR K (fun x y H Q => y = .non ∧ Q (.bl (decide (x = .non))) H) (oIsN false) := SndR.pure fun H Hs x y vx vy Q Q' s rx ry hq hd => by
  cases y <;> try exact hd.elim
  refine ⟨ry, ?_⟩
  rw [isN_V _ _ rx]
  exact hq (.bool _) _ rfl (by simpa [oIsN, xb] using hd)
theorem sr_notN : SndR K (fun x y H Q => y = .non ∧ Q (.bl (!decide (x = .non))) H) (oIsN true) := SndR.pure fun H Hs x y vx vy Q Q' s rx ry hq hd => by
  cases y <;> try exact hd.elim
  refine ⟨ry, ?_⟩
  rw [isN_V _ _ rx]
  exact hq (.bool _) _ rfl (by simpa [oIsN, xb] using hd)
theorem de_isN {a b : Expr} {pos : Pos} {da db : DT} (ha : DE X a da) (hb : DE X b db) : DE X (.Compare a [.Is] [b] pos) (dOp (oIsN false) da db) := de_cmp op_isN sr_isN ha hb (nomark _)
theorem de_notN {a b : Expr} {pos : Pos} {da db : DT} (ha : DE X a da) (hb : DE X b db) : DE X (.Compare a [.IsNot] [b] pos) (dOp (oIsN true) da db) := de_cmp op_notN sr_notN ha hb (nomark _)
theorem dp_isN {a b : Expr} {pos : Pos} {da db : DT} (ha : DE X a da) (hb : DE X b db) : DP X (.Compare a [.Is] [b] pos) (dTest (dOp (oIsN false) da db)) := dp_cmp op_isN sr_isN ha hb (nomark _)
theorem dp_notN {a b : Expr} {pos : Pos} {da db : DT} (ha : DE X a da) (hb : DE X b db) : DP X (.Compare a [.IsNot] [b] pos) (dTest (dOp (oIsN true) da db)) := dp_cmp op_notN sr_notN ha hb (nomark _)
end
end DL
namespace DL
open PySem PySem.Spec PyProof.Rows L2
section
variable {X : Cx} {K : PySem.W.Frag}
/-! calls of built-ins by values -/
abbrev OA := List D → (D → Prop) → Prop
def SndC (K : PySem.W.Frag) (r : List V → Hp → VK → Prop) (op : OA) : Prop := ∀ (H Hs : Hp) (ds : List D) (vs : List V) (Q : VK) (Q' : D → Prop), Same Hs H → RpA K Hs ds vs →
  (∀ z v H' Hs', Stp none H Hs H' Hs' → Rp K Hs' z v → Q' z → Q v H') → op ds Q' → r vs H Q
def dCB (op : OA) (t : DTA) : DT := fun g r f Q => t g r f fun ds f1 => op ds fun z => Q z f1
theorem snd_cb {r : List V → Hp → VK → Prop} {op : OA} {t : TA} {d : DTA} (hr : SndC K r op) (ht : SndA K t d) : Snd K (tCB r t) (dCB op d) := fun g ro f st H Hs Q Q' A hq hd =>
  ht g ro f st H Hs _ _ A (fun ds f1 vs H1 Hs1 s1 k1 r1 q1 => hr H1 Hs1 ds vs Q _ s1.sub r1 (fun z v H2 Hs2 s2 r2 q2 => hq z f1 v H2 Hs2 (s1.trans s2.gen) (k1.stp s2) r2 q2) q1) hd
theorem SndC.or {r r' : List V → Hp → VK → Prop} {op op' : OA} (h : SndC K r op) (h' : SndC K r' op') : SndC K (fun xs H Q => r xs H Q ∨ r' xs H Q) (fun xs Q => op xs Q ∨ op' xs Q) := fun H Hs ds vs Q Q' s rx hq hd => by
  rcases hd with hd | hd
  · exact .inl (h H Hs ds vs Q Q' s rx hq hd)
  · exact .inr (h' H Hs ds vs Q Q' s rx hq hd)
theorem SndC.weak {r : List V → Hp → VK → Prop} {op op' : OA} (h : SndC K r op) (w : ∀ ds Q, op' ds Q → op ds Q) : SndC K r op' := fun H Hs ds vs Q Q' s rx hq hd => h H Hs ds vs Q Q' s rx hq (w ds Q' hd)
theorem SndC.pure {r : List V → Hp → VK → Prop} {op : OA} (h : ∀ H Hs ds vs (Q : VK) (Q' : D → Prop), Same Hs H → RpA K Hs ds vs → (∀ z v, Rp K Hs z v → Q' z → Q v H) → op ds Q' → r vs H Q) : SndC K r op := fun H Hs ds vs Q Q' s rx hq hd =>
  h H Hs ds vs Q Q' s rx (fun z v rz q => hq z v H Hs (Stp.refl s) rz q) hd
theorem de_callB {x : Str} {id : String} {p pos : Pos} {e : Expr} {es : List Expr} {d : DTA} {r : List V → Hp → VK → Prop} {op : OA} (hc : CallR X (.builtin id) r) (hr : SndC X.K r op) (hg : Gl X x) (hm : X.mg x = none) (hv : bootBuiltins x = some (.builtin id)) (ha : DA X (e :: es) d)
    (hn : x ≠ "__name__" := by decide) (hdb : (x == ("__debug__" : Str)) = false := by decide) (hs : starEach (e :: es) X.env = (false, eval e X.env) :: starEach es X.env := by rfl)
    (hpl : (backTo pos (starEach es X.env)).any (·.1) = false := by rfl) : DE X (.Call (.Name x p) (e :: es) [] pos) (dCB op d) :=
  .mk' (pe_callB hc hg hm hv ha.pa hn hdb hs hpl) (snd_cb hr ha.sn)
theorem de_callTy {x : Str} {T : String} {p pos : Pos} {e : Expr} {es : List Expr} {d : DTA} {r : List V → Hp → VK → Prop} {op : OA} (hc : CallR X (.type T) r) (hr : SndC X.K r op) (hg : Gl X x) (hm : X.mg x = none) (hv : bootBuiltins x = some (.type T)) (ha : DA X (e :: es) d)
    (hn : x ≠ "__name__" := by decide) (hdb : (x == ("__debug__" : Str)) = false := by decide) (hs : starEach (e :: es) X.env = (false, eval e X.env) :: starEach es X.env := by rfl)
    (hpl : (backTo pos (starEach es X.env)).any (·.1) = false := by rfl) : DE X (.Call (.Name x p) (e :: es) [] pos) (dCB op d) :=
  .mk' (pe_callTy hc hg hm hv ha.pa hn hdb hs hpl) (snd_cb hr ha.sn)
/-- len -/
def oLen : OA := fun ds Q => match ds with
  | [.str x] => x.length ≤ lim ∧ Q (.int x.length)
  | [.lst xs] => Q (.int xs.length)
  | [.tup xs] => Q (.int xs.length)
  | _ => False
theorem rpA1 {H : Hp} {d : D} {vs : List V} (h : RpA K H [d] vs) : ∃ v, vs = [v] ∧ Rp K H d v := by
  obtain ⟨v, r, h1, h2, h3⟩ := h
  cases h3
  exact ⟨v, h1, h2⟩
theorem rpA2 {H : Hp} {d e : D} {vs : List V} (h : RpA K H [d, e] vs) : ∃ v w, vs = [v, w] ∧ Rp K H d v ∧ Rp K H e w := by
  obtain ⟨v, r, h1, h2, h3⟩ := h
  obtain ⟨w, rfl, h4⟩ := rpA1 h3
  exact ⟨v, w, h1, h2, h4⟩
theorem sc_len : SndC K (fun xs H Q => ∃ x n, xs = [x] ∧ LenV K x H n ∧ Q (.int n) H) oLen := SndC.pure fun H Hs ds vs Q Q' s rx hq hd => by
  unfold oLen at hd
  split at hd
  · obtain ⟨v, rfl, h⟩ := rpA1 rx
    cases h
    exact ⟨_, _, rfl, ⟨lim_le hd.1, rfl⟩, hq (.int _) _ rfl hd.2⟩
  · obtain ⟨v, rfl, a, vs, rfl, h1, h2⟩ := rpA1 rx
    exact ⟨_, _, rfl, .inl ⟨vs, SqL.of (s _ _ h1), rfl⟩, hq (.int _) _ (by rw [h2.length]; rfl) hd⟩
  · obtain ⟨v, rfl, a, vs, rfl, h1, h2⟩ := rpA1 rx
    exact ⟨_, _, rfl, .inr ⟨vs, (tp_sq s h1), rfl⟩, hq (.int _) _ (by rw [h2.length]; rfl) hd⟩
  · exact hd.elim
theorem de_len {p pos : Pos} {e : Expr} {d : DTA} (hm : X.mg "len" = none) (ha : DA X [e] d) (hg : Gl X "len" := by rfl) (hs : starEach [e] X.env = [(false, eval e X.env)] := by rfl) : DE X (.Call (.Name "len" p) [e] [] pos) (dCB oLen d) :=
  de_callB call_len sc_len hg hm PySem.boot_len ha (by decide) (by decide) hs (by rfl)
/-- all, any -/
def oAll (all : Bool) : OA := fun ds Q => match ds with
  | [.lst xs] => ∃ bs : List Bool, xs = bs.map D.bool ∧ Q (.bool (if all then bs.all id else bs.any id))
  | _ => False
theorem sc_all : SndC K (rAll K) (oAll true) := SndC.pure fun H Hs ds vs Q Q' s rx hq hd => by
  unfold oAll at hd
  split at hd
  · obtain ⟨bs, rfl, q⟩ := hd
    obtain ⟨v, rfl, a, vs, rfl, h1, h2⟩ := rpA1 rx
    have e := h2.bools
    subst e
    exact ⟨a, bs, rfl, SqL.of (s _ _ h1), hq (.bool _) _ rfl q⟩
  · exact hd.elim
/-- int(n) -/
def oInt : OA := fun ds Q => match ds with
  | [.int i] => Q (.int i)
  | [.bool b] => Q (.int (if b then 1 else 0))
  | _ => False
theorem sc_int : SndC K (fun xs H Q => (∃ i, xs = [.int i] ∧ Q (.int i) H) ∨ ∃ k, xs = [.bl k] ∧ Q (.int (if k then 1 else 0)) H) oInt := SndC.pure fun H Hs ds vs Q Q' s rx hq hd => by
  unfold oInt at hd
  split at hd
  · obtain ⟨v, rfl, h1⟩ := rpA1 rx
    cases h1
    exact .inl ⟨_, rfl, hq (.int _) _ rfl hd⟩
  · obtain ⟨v, rfl, h1⟩ := rpA1 rx
    cases h1
    exact .inr ⟨_, rfl, hq (.int _) _ rfl hd⟩
  · exact hd.elim
/-- tuple(xs) -/
def oTuple : OA := fun ds Q => match ds with
  | [.lst xs] => Q (.tup xs)
  | [.tup xs] => Q (.tup xs)
  | _ => False
theorem sc_tuple : SndC K (fun xs H Q => ∃ p ys, xs = [.ref p] ∧ ((SqL K H p ys ∧ ∀ l, H l = none → Q (.ref l) (upd H l (.tup ys))) ∨ (SqT K H p ys ∧ Q (.ref p) H))) oTuple := fun H Hs ds vs Q Q' s rx hq hd => by
  unfold oTuple at hd
  split at hd
  · obtain ⟨v, rfl, a, vs, rfl, h1, h2⟩ := rpA1 rx
    exact ⟨a, vs, rfl, .inl ⟨SqL.of (s _ _ h1), fun l hl => hq (.tup _) _ _ _ (Stp.alloc s hl) (rp_tup h2 (same_none s hl)) hd⟩⟩
  · obtain ⟨v, rfl, a, vs, rfl, h1, h2⟩ := rpA1 rx
    exact ⟨a, vs, rfl, .inr ⟨(tp_sq s h1), hq (.tup _) _ _ _ (Stp.refl s) ⟨a, vs, rfl, h1, h2⟩ hd⟩⟩
  · exact hd.elim
/-- isinstance(x, T), T built in; (T1, T2) -/
def D.tyN : D → Option String
  | .none => some "NoneType"
  | .bool _ => some "bool"
  | .int _ => some "int"
  | .str _ => some "str"
  | .tup _ => some "tuple"
  | .lst _ => some "list"
  | .dct _ _ => some "dict"
  | _ => Option.none
theorem tyT {H : Hp} {a : Addr} {vs : List V} (h : SqT K H a vs) : TyX K H (.ref a) (.type "tuple") := by
  rcases h with (h | ⟨o, h⟩) | ⟨o, its, n, h1, h2, _⟩
  · exact .base (.tup h)
  · exact .fTuple h
  · exact .kTuple h1 h2
theorem tyN_ok {H : Hp} {d : D} {v : V} {n : String} (h : Rp K H d v) (e : d.tyN = some n) : TyX K H v (.type n) := by
  cases d <;> simp only [D.tyN, Option.some.injEq, reduceCtorEq] at e <;> subst e
  · cases h; exact .base .non
  · cases h; exact .base (.bl _)
  · cases h; exact .base (.int _)
  · cases h; exact .base (.str _)
  · obtain ⟨a, vs, rfl, h1, _⟩ := h
    exact tyT h1.sq
  · obtain ⟨a, vs, rfl, h1, _⟩ := h; exact .base (.lst h1)
  · obtain ⟨a, vs, rfl, h1, _⟩ := h; exact .base (.dK h1)
def oIsi : OA := fun ds Q => match ds with
  | [x, .any (.ty n)] => ∃ t b, x.tyN = some t ∧ kitB t n = some b ∧ Q (.bool b)
  | _ => False
theorem sc_isi : SndC K (rIsi K) oIsi := SndC.pure fun H Hs ds vs Q Q' s rx hq hd => by
  unfold oIsi at hd
  split at hd
  · obtain ⟨t, b, h1, h2, h3⟩ := hd
    obtain ⟨v, w, rfl, h4, h5⟩ := rpA2 rx
    cases h5
    exact ⟨v, _, _, _, b, rfl, .ty _, tyN_ok (h4.mono s) h1, kit_ty h2, hq (.bool _) _ rfl h3⟩
  · exact hd.elim
theorem de_isi {p pos : Pos} {e e2 : Expr} {d : DTA} (hm : X.mg "isinstance" = none) (ha : DA X [e, e2] d) (hg : Gl X "isinstance" := by rfl) (hs : starEach [e, e2] X.env = (false, eval e X.env) :: starEach [e2] X.env := by rfl)
    (hpl : (backTo pos (starEach [e2] X.env)).any (·.1) = false := by rfl) : DE X (.Call (.Name "isinstance" p) [e, e2] [] pos) (dCB oIsi d) :=
  de_callB call_isi sc_isi hg hm (by decide +kernel) ha (by decide) (by decide) hs hpl
/-! methods of texts -/
abbrev OM := D → List D → (D → Prop) → Prop
def SndM (K : PySem.W.Frag) (r : V → List V → Hp → VK → Prop) (op : OM) : Prop := ∀ (H Hs : Hp) (x : D) (vx : V) (ds : List D) (vs : List V) (Q : VK) (Q' : D → Prop), Same Hs H → Rp K Hs x vx → RpA K Hs ds vs →
  (∀ z v H' Hs', Stp none H Hs H' Hs' → Rp K Hs' z v → Q' z → Q v H') → op x ds Q' → r vx vs H Q
def D.isStr : D → Prop
  | .str _ => True
  | _ => False
def dM0 (op : OM) (o : DT) : DT := fun g r f Q => o g r f fun x f1 => x.isStr ∧ op x [] fun z => Q z f1
def dM1 (op : OM) (o e : DT) : DT := fun g r f Q => o g r f fun x f1 => x.isStr ∧ e g r f1 fun y f2 => op x [y] fun z => Q z f2
theorem isStr_V {H : Hp} {d : D} {v : V} (h : Rp K H d v) (i : d.isStr) : ∃ a, v = .str a := by
  cases d <;> first | exact i.elim | exact ⟨_, h⟩
theorem snd_m0 {r : V → List V → Hp → VK → Prop} {op : OM} {to : TE} {o : DT} (hr : SndM K r op) (ho : Snd K to o) : Snd K (tM0 r to) (dM0 op o) := fun g ro f st H Hs Q Q' A hq hd =>
  ho g ro f st H Hs _ _ A (fun x f1 vx H1 Hs1 s1 k1 r1 q1 => ⟨isStr_V r1 q1.1, hr H1 Hs1 x vx [] [] Q _ s1.sub r1 rfl (fun z v H2 Hs2 s2 r2 q2 => hq z f1 v H2 Hs2 (s1.trans s2.gen) (k1.stp s2) r2 q2) q1.2⟩) hd
theorem snd_m1 {r : V → List V → Hp → VK → Prop} {op : OM} {to te : TE} {o e : DT} (hr : SndM K r op) (ho : Snd K to o) (he : Snd K te e) : Snd K (tM1 r to te) (dM1 op o e) := fun g ro f st H Hs Q Q' A hq hd =>
  ho g ro f st H Hs _ _ A (fun x f1 vx H1 Hs1 s1 k1 r1 q1 => ⟨isStr_V r1 q1.1, he g ro f1 st H1 Hs1 _ _ (A.step s1 k1) (fun y f2 vy H2 Hs2 s2 k2 r2 q2 =>
    hr H2 Hs2 x vx [y] [vy] Q _ s2.sub (r1.mono s2.ext) (RpA.one r2) (fun z v H3 Hs3 s3 r3 q3 => hq z f2 v H3 Hs3 ((s1.trans s2).trans s3.gen) (k2.stp s3) r3 q3) q2) q1.2⟩) hd
def oStarts : OM := fun x ds Q => match x, ds with
  | .str a, [.str b] => Q (.bool (Txt.startswith a b))
  | _, _ => False
theorem sm_starts : SndM K (fun x xs H Q => ∃ a b, x = .str a ∧ xs = [.str b] ∧ Q (.bl (Txt.startswith a b)) H) oStarts := fun H Hs x vx ds vs Q Q' s rx rs hq hd => by
  unfold oStarts at hd
  split at hd
  · obtain ⟨v, rfl, h⟩ := rpA1 rs
    cases h
    exact ⟨_, _, rx, rfl, hq (.bool _) _ _ _ (Stp.refl s) rfl hd⟩
  · exact hd.elim
theorem de_starts {o e : Expr} {apos pos : Pos} {d d2 : DT} (ho : DE X o d) (he : DE X e d2) (hs : starEach [e] X.env = [(false, eval e X.env)] := by rfl) (hbase : attributeBase o "startswith" X.env (eval o X.env) = eval o X.env := by rfl) (hline : (apos.endLine == pos.line) = true := by rfl) :
    DE X (.Call (.Attribute o "startswith" apos) [e] [] pos) (dM1 oStarts d d2) := .mk' (pe_m1 F.slot_str_startswith F.type_str_startswith mt_startswith ho.pe he.pe hs hbase hline) (snd_m1 sm_starts ho.sn he.sn)
def oUpper : OM := fun x ds Q => match x, ds with
  | .str a, [] => a.length ≤ lim ∧ Q (.str (Txt.upper a))
  | _, _ => False
theorem sm_upper : SndM K (fun x xs H Q => ∃ a, x = .str a ∧ xs = [] ∧ a.length ≤ 5592405 ∧ Q (.str (Txt.upper a)) H) oUpper := fun H Hs x vx ds vs Q Q' s rx rs hq hd => by
  unfold oUpper at hd
  split at hd
  · exact ⟨_, rx, rs, Nat.le_trans hd.1 (by decide), hq (.str _) _ _ _ (Stp.refl s) rfl hd.2⟩
  · exact hd.elim
theorem de_upper {o : Expr} {apos pos : Pos} {d : DT} (ho : DE X o d) (hbase : attributeBase o "upper" X.env (eval o X.env) = eval o X.env := by rfl) (hline : (apos.endLine == pos.line) = true := by rfl) :
    DE X (.Call (.Attribute o "upper" apos) [] [] pos) (dM0 oUpper d) := .mk' (pe_upper ho.pe hbase hline) (snd_m0 sm_upper ho.sn)
def oJoin : OM := fun x ds Q => match x, ds with
  | .str a, [.lst xs] => ∃ ys : List Str, xs = ys.map D.str ∧ (ys.map (·.length)).sum + ys.length * a.length ≤ 16777216 ∧ Q (.str (Txt.join a ys))
  | .str a, [.tup xs] => ∃ ys : List Str, xs = ys.map D.str ∧ (ys.map (·.length)).sum + ys.length * a.length ≤ 16777216 ∧ Q (.str (Txt.join a ys))
  | _, _ => False
theorem sm_join : SndM K (fun x xs H Q => ∃ a p, ∃ ys : List Str, x = .str a ∧ xs = [.ref p] ∧ (SqL K H p (ys.map V.str) ∨ SqT K H p (ys.map V.str)) ∧ (ys.map (·.length)).sum + ys.length * a.length ≤ 16777216 ∧ Q (.str (Txt.join a ys)) H) oJoin := fun H Hs x vx ds vs Q Q' s rx rs hq hd => by
  unfold oJoin at hd
  split at hd
  · obtain ⟨ys, rfl, h1, h2⟩ := hd
    obtain ⟨v, rfl, a, vs, rfl, h3, h4⟩ := rpA1 rs
    have e := h4.strs
    subst e
    exact ⟨_, a, ys, rx, rfl, .inl (SqL.of (s _ _ h3)), h1, hq (.str _) _ _ _ (Stp.refl s) rfl h2⟩
  · obtain ⟨ys, rfl, h1, h2⟩ := hd
    obtain ⟨v, rfl, a, vs, rfl, h3, h4⟩ := rpA1 rs
    have e := h4.strs
    subst e
    exact ⟨_, a, ys, rx, rfl, .inr ((tp_sq s h3)), h1, hq (.str _) _ _ _ (Stp.refl s) rfl h2⟩
  · exact hd.elim
theorem de_join {o e : Expr} {apos pos : Pos} {d d2 : DT} (ho : DE X o d) (he : DE X e d2) (hs : starEach [e] X.env = [(false, eval e X.env)] := by rfl) (hbase : attributeBase o "join" X.env (eval o X.env) = eval o X.env := by rfl) (hline : (apos.endLine == pos.line) = true := by rfl) :
    DE X (.Call (.Attribute o "join" apos) [e] [] pos) (dM1 oJoin d d2) :=
  .mk' (pe_join ho.pe he.pe hs hbase hline) (snd_m1 sm_join ho.sn he.sn)
/-- x.split(sep): a new list -/
def dSplit (o e : DT) : DTA := fun g r f Q => o g r f fun x f1 => match x with
  | .str a => e g r f1 fun y f2 => match y with
    | .str b => (b.length == 0) = false ∧ a.length ≤ lim ∧ Q ((Txt.split a b).map D.str) f2
    | _ => False
  | _ => False
theorem dl_split {o e : Expr} {apos pos : Pos} {d d2 : DT} (ho : DE X o d) (he : DE X e d2) (hs : starEach [e] X.env = [(false, eval e X.env)] := by rfl) (hbase : attributeBase o "split" X.env (eval o X.env) = eval o X.env := by rfl) (hline : (apos.endLine == pos.line) = true := by rfl) :
    DL' X (.Call (.Attribute o "split" apos) [e] [] pos) (dSplit d d2) :=
  .mk' (pe_split ho.pe he.pe hs hbase hline) (fun g ro f st H Hs Q Q' A hq hd =>
    ho.sn g ro f st H Hs _ _ A (fun x f1 vx H1 Hs1 s1 k1 r1 q1 => by
      cases x <;> try exact q1.elim
      next a =>
      refine ⟨⟨a, r1⟩, he.sn g ro f1 st H1 Hs1 _ _ (A.step s1 k1) (fun y f2 vy H2 Hs2 s2 k2 r2 q2 => ?_) q1⟩
      cases y <;> try exact q2.elim
      next b =>
      cases r1
      cases r2
      refine ⟨a, b, rfl, rfl, q2.1, Nat.le_trans (Nat.add_le_add_right q2.2.1 2) (by decide), fun p hp => ?_⟩
      have al : Stp none H2 Hs2 (upd H2 p (.lst ((Txt.split a b).map V.str))) Hs2 := Stp.lay s2.sub hp
      refine hq _ f2 p _ _ _ ((s1.trans s2).trans al.gen) (k2.stp al) ?_ (same_none s2.sub hp) upd_same (RpA.map (f := D.str) (g := V.str) (fun _ => rfl) _) q2.2.2
      cases e : H p with
      | none => rfl
      | some o =>
        obtain ⟨o', e'⟩ := (s1.trans s2).there p o e
        rw [e'] at hp; cases hp) hd)
end
end DL
namespace DL
open PySem PySem.Spec PyProof.Rows L2
section
variable {X : Cx} {K : PySem.W.Frag}
/-! items and slices -/
def oIx : O2 := fun x y Q => match x, y with
  | .lst xs, .int i => ∃ d, atI xs i = some d ∧ Q d
  | .tup xs, .int i => ∃ d, atI xs i = some d ∧ Q d
  | .str z, .int i => z.length ≤ lim ∧ ∃ c, atI z.cps.toList i = some c ∧ Q (.str ⟨#[c]⟩)
  | _, _ => False
theorem atI_rp {H : Hp} {ds : List D} {vs : List V} {i : Int} {d : D} (h : RpA K H ds vs) (e : atI ds i = some d) : ∃ v, atI vs i = some v ∧ Rp K H d v := by
  unfold atI at e ⊢
  rw [h.length] at e
  cases e2 : ixN vs.length i with
  | none => rw [e2] at e; cases e
  | some j =>
    rw [e2] at e
    obtain ⟨v, h1, h2⟩ := h.get (i := j) (d := d) e
    exact ⟨v, h1, h2⟩
theorem sr_ix : SndR K (rIx K) oIx := SndR.pure fun H Hs x y vx vy Q Q' s rx ry hq hd => by
  unfold oIx at hd
  split at hd
  · obtain ⟨d, e, q⟩ := hd
    obtain ⟨a, vs, rfl, h1, h2⟩ := rx
    obtain ⟨v, h3, h4⟩ := atI_rp h2 e
    exact .inl ⟨a, vs, _, v, rfl, ry, SqL.of (s _ _ h1), h3, hq d v h4 q⟩
  · obtain ⟨d, e, q⟩ := hd
    obtain ⟨a, vs, rfl, h1, h2⟩ := rx
    obtain ⟨v, h3, h4⟩ := atI_rp h2 e
    exact .inr (.inl ⟨a, vs, _, v, rfl, ry, (tp_sq s h1), h3, hq d v h4 q⟩)
  · obtain ⟨hz, c, e, q⟩ := hd
    exact .inr (.inr ⟨_, _, c, rx, ry, lim_le hz, e, hq (.str _) _ rfl q⟩)
  · exact hd.elim
theorem de_ix {a b : Expr} {pos : Pos} {da db : DT} (ha : DE X a da) (hb : DE X b db) (hs : PlainIx b := by exact fun _ _ => rfl) : DE X (.Subscript a b pos) (dOp oIx da db) := .mk' (pe_ix ix_seq ha.pe hb.pe hs) (snd_op sr_ix ha.sn hb.sn)
abbrev DTO := Option Dk → Sg → Nat → (Option Int → Nat → Prop) → Prop
def SndO (K : PySem.W.Frag) (t : TO) (dl : DTO) : Prop := ∀ (g : Option Dk) (r : Sg) (f : Nat) (st : L2.St) (H Hs : Hp) (Q : Option Int → Hp → Prop) (Q' : Option Int → Nat → Prop), At K g r f st H Hs →
  (∀ b f' H' Hs', Stp g H Hs H' Hs' → DkOk g H' Hs' f' → Q' b f' → Q b H') → dl g r f Q' → t st H Q
def tOfO (K : PySem.W.Frag) (dl : DTO) : TO := fun st H Q => ∃ g r f Hs Q', At K g r f st H Hs ∧ (∀ b f' H' Hs', Stp g H Hs H' Hs' → DkOk g H' Hs' f' → Q' b f' → Q b H') ∧ dl g r f Q'
structure DO (X : Cx) (e : Option Expr) (dl : DTO) : Prop where
  po : PO X e (tOfO X.K dl)
theorem DO.sn {e : Option Expr} {dl : DTO} (_ : DO X e dl) : SndO X.K (tOfO X.K dl) dl := fun g r f st H Hs Q Q' a hq hd => ⟨g, r, f, Hs, Q', a, hq, hd⟩
theorem DO.mk' {e : Option Expr} {t : TO} {dl : DTO} (p : PO X e t) (s : SndO X.K t dl) : DO X e dl := ⟨⟨fun pins sh st H Q I ⟨g, r, f, Hs, Q', a, hq, hd⟩ => p.run pins sh st H Q I (s g r f st H Hs Q Q' a hq hd)⟩⟩
theorem do_none : DO X none (fun _ _ f Q => Q none f) := .mk' (po_none) (fun g ro f st H Hs Q Q' A hq hd => hq none f H Hs (Stp.refl A.sub) A.dk hd)
def dPart (d : DT) : DTO := fun g r f Q => d g r f fun x f1 => match x with
  | .int i => Q (some i) f1
  | _ => False
theorem do_some {e : Expr} {d : DT} (h : DE X e d) : DO X (some e) (dPart d) := .mk' (po_some h.pe) (fun g ro f st H Hs Q Q' A hq hd =>
  h.sn g ro f st H Hs _ _ A (fun x f1 v H1 Hs1 s1 k1 r1 q1 => by
    cases x <;> try exact q1.elim
    exact ⟨_, r1, hq _ f1 H1 Hs1 s1 k1 q1⟩) hd)
def cutD (xs : List D) (lo hi : Option Int) : List D := (xs.drop (HT.sIx xs.length 0 lo)).take (HT.sIx xs.length xs.length hi - HT.sIx xs.length 0 lo)
theorem cut_rp {H : Hp} {ds : List D} {vs : List V} {lo hi : Option Int} (h : RpA K H ds vs) : RpA K H (cutD ds lo hi) (cutV vs lo hi) := by
  unfold cutD cutV
  rw [h.length]
  exact (h.drop _).take _
abbrev O3 := D → Option Int → Option Int → (D → Prop) → Prop
def oSl : O3 := fun x lo hi Q => match x with
  | .lst xs => Q (.lst (cutD xs lo hi))
  | .tup xs => Q (.tup (cutD xs lo hi))
  | .str z => z.length ≤ lim ∧ Q (.str (cutS z lo hi))
  | _ => False
def rSl (K : PySem.W.Frag) : V → Option Int → Option Int → Hp → VK → Prop := fun x lo hi H Q => rSlL K x lo hi H Q ∨ (rSlA K x lo hi H Q ∨ rSlS x lo hi H Q)
theorem cutD_whole {xs : List D} {lo hi : Option Int} (h : HT.sIx xs.length 0 lo = 0 ∧ HT.sIx xs.length xs.length hi = xs.length) : cutD xs lo hi = xs := by
  unfold cutD
  rw [h.1, h.2]
  simp
theorem sl_all : SlR X (rSl X.K) := sl_list.or (sl_tupA.or sl_str)
def dSl (a : DT) (lo hi : DTO) : DT := fun g r f Q => a g r f fun x f1 => lo g r f1 fun i f2 => hi g r f2 fun j f3 => oSl x i j fun z => Q z f3
theorem sr_sl {H Hs : Hp} {x : D} {vx : V} {lo hi : Option Int} {Q : VK} {Q' : D → Prop} (s : Same Hs H) (rx : Rp K Hs x vx) (hq : ∀ z v H' Hs', Stp none H Hs H' Hs' → Rp K Hs' z v → Q' z → Q v H') (hd : oSl x lo hi Q') : rSl K vx lo hi H Q := by
  cases x <;> try exact hd.elim
  · exact .inr (.inr ⟨_, rx, lim_le hd.1, hq (.str _) _ _ _ (Stp.refl s) rfl hd.2⟩)
  · obtain ⟨a, vs, rfl, h1, h2⟩ := rx
    refine .inr (.inl ⟨a, vs, rfl, (tp_sq s h1), fun e => ?_, fun e p hp => ?_⟩)
    · rw [← h2.length] at e
      exact hq (.tup _) _ _ _ (Stp.refl s) ⟨a, vs, rfl, h1, by rw [cutD_whole e]; exact h2⟩ hd
    · exact hq (.tup _) _ _ _ (Stp.alloc s hp) (rp_tup (cut_rp h2) (same_none s hp)) hd
  · obtain ⟨a, vs, rfl, h1, h2⟩ := rx
    exact .inl ⟨a, vs, rfl, SqL.of (s _ _ h1), fun p hp => hq (.lst _) _ _ _ (Stp.alloc s hp) (rp_lst (cut_rp h2) (same_none s hp)) hd⟩
theorem de_sl {e : Expr} {lo hi : Option Expr} {p2 pos : Pos} {d : DT} {dl dh : DTO} (he : DE X e d) (hl : DO X lo dl) (hh : DO X hi dh) : DE X (.Subscript e (.Slice lo hi none p2) pos) (dSl d dl dh) :=
  .mk' (pe_slice sl_all he.pe hl.po hh.po) (fun g ro f st H Hs Q Q' A hq hd =>
    he.sn g ro f st H Hs _ _ A (fun x f1 v H1 Hs1 s1 k1 r1 q1 => hl.sn g ro f1 st H1 Hs1 _ _ (A.step s1 k1) (fun i f2 H2 Hs2 s2 k2 q2 =>
      hh.sn g ro f2 st H2 Hs2 _ _ ((A.step s1 k1).step s2 k2) (fun j f3 H3 Hs3 s3 k3 q3 =>
        sr_sl s3.sub ((r1.mono s2.ext).mono s3.ext) (fun z v H4 Hs4 s4 r4 q4 => hq z f3 v H4 Hs4 (((s1.trans s2).trans s3).trans s4.gen) (k3.stp s4) r4 q4) q3) q2) q1) hd)
/-- xs[::-1] of a list -/
def dRev (a : DT) : DTA := fun g r f Q => a g r f fun x f1 => match x with
  | .lst xs => Q xs.reverse f1
  | _ => False
theorem none_back {g : Option Dk} {H Hs H' Hs' : Hp} {p : Addr} (s : Stp g H Hs H' Hs') (h : H' p = none) : H p = none := by
  cases e : H p with
  | none => rfl
  | some o =>
    obtain ⟨o', e'⟩ := s.there p o e
    rw [e'] at h; cases h
theorem dl_rev {e : Expr} {d : DT} {k : Nat} {p1 p2 p3 pos : Pos} (he : DE X e d) : DL' X (.Subscript e (.Slice none none (some (.UnaryOp .USub (.Constant (.int 1) k p1) p2)) p3) pos) (dRev d) :=
  .mk' (pe_revL he.pe) (fun g ro f st H Hs Q Q' A hq hd =>
    he.sn g ro f st H Hs _ _ A (fun x f1 v H1 Hs1 s1 k1 r1 q1 => by
      cases x <;> try exact q1.elim
      obtain ⟨a, vs, rfl, h1, h2⟩ := r1
      refine ⟨a, vs, rfl, SqL.of (s1.sub _ _ h1), fun p hp => ?_⟩
      have al : Stp none H1 Hs1 (upd H1 p (.lst vs.reverse)) Hs1 := Stp.lay s1.sub hp
      exact hq _ f1 p _ _ _ (s1.trans al.gen) (k1.stp al) (none_back s1 hp) (same_none s1.sub hp) upd_same h2.reverse q1) hd)
/-! calls of defs -/
abbrev DSp := Option Dk → List D → Nat → QD → Prop
def spOf (K : PySem.W.Frag) (S : DSp) : Sp := fun vs H Q _ => ∃ (g : Option Dk) (Hs : Hp) (ds : List D) (f : Nat) (Q' : QD), Same Hs H ∧ DkOk g H Hs f ∧ RpA K Hs ds vs ∧ S g ds f Q' ∧
  ∀ d f' v H' Hs', Stp g H Hs H' Hs' → DkOk g H' Hs' f' → Rp K Hs' d v → Q' d f' → Q v H'
def dCall (S : DSp) (t : DTA) : DT := fun g r f Q => t g r f fun ds f1 => S g ds f1 Q
theorem snd_call {S : DSp} {E : XK} {t : TA} {d : DTA} (ht : SndA K t d) : Snd K (tCall (spOf K S) [] E t) (dCall S d) := fun g ro f st H Hs Q Q' A hq hd =>
  ht g ro f st H Hs _ _ A (fun ds f1 vs H1 Hs1 s1 k1 r1 q1 => by
    show spOf K S (vs ++ []) H1 Q E
    rw [List.append_nil]
    exact ⟨g, Hs1, ds, f1, Q', s1.sub, k1, r1, q1, fun d f' v H' Hs' s2 k2 r2 q2 => hq d f' v H' Hs' (s1.trans s2) k2 r2 q2⟩) hd
/-! what is walked -/
structure Walks (K : PySem.W.Frag) (J : It) (Hb : Hp) (ds : List D) : Prop where
  go : ∀ (i : Nat) (d : D) (H Hs : Hp), Same Hb Hs → Same Hs H → ds[i]? = some d → J.go i H ∧ ∀ x H', J.yld i H x H' → ∃ Hs', Stp none H Hs H' Hs' ∧ Rp K Hs' d x
  stop : ∀ H, Same Hb H → J.stop ds.length H
def SndI (K : PySem.W.Frag) (wi : TI) (dl : DTA) : Prop := ∀ (g : Option Dk) (r : Sg) (f : Nat) (st : L2.St) (H Hs : Hp) (R : It → Hp → Prop) (Q' : List D → Nat → Prop), At K g r f st H Hs →
  (∀ ds f' J H' Hs', Stp g H Hs H' Hs' → DkOk g H' Hs' f' → Walks K J Hs' ds → Q' ds f' → R J H') → dl g r f Q' → wi st H R
def tOfI (K : PySem.W.Frag) (dl : DTA) : TI := fun st H R => ∃ g r f Hs Q', At K g r f st H Hs ∧ (∀ ds f' J H' Hs', Stp g H Hs H' Hs' → DkOk g H' Hs' f' → Walks K J Hs' ds → Q' ds f' → R J H') ∧ dl g r f Q'
structure DI (X : Cx) (tg e : Expr) (dl : DTA) : Prop where
  pi : PI X tg e (tOfI X.K dl)
theorem DI.sn {tg e : Expr} {dl : DTA} (_ : DI X tg e dl) : SndI X.K (tOfI X.K dl) dl := fun g r f st H Hs Q Q' a hq hd => ⟨g, r, f, Hs, Q', a, hq, hd⟩
theorem DI.mk' {tg e : Expr} {wi : TI} {dl : DTA} (p : PI X tg e wi) (s : SndI X.K wi dl) : DI X tg e dl := ⟨⟨fun pins sh st H R I ⟨g, r, f, Hs, Q', a, hq, hd⟩ => p.run pins sh st H R I (s g r f st H Hs R Q' a hq hd)⟩⟩
/-- a list, a tuple, a text -/
def iSeq (K : PySem.W.Frag) (tl : TE) : TI := fun st H R => tl st H fun x H1 => (∃ a, x = .ref a ∧ (((∃ xs, SqL K H1 a xs) ∧ R (Itl K a) H1) ∨ ((∃ xs, SqT K H1 a xs) ∧ R (Itt K a) H1))) ∨ ∃ z, x = .str z ∧ R (Its z) H1
theorem pi_seq {tg l : Expr} {tl : TE} (hl : PE X l tl) : PI X tg l (iSeq X.K tl) := by
  refine ⟨fun pins s st H R I h => ?_⟩
  refine thn (hl.run pins s st H _ I h) fun v s1 ⟨x, H1, I1, r1, q1⟩ => ?_
  rcases q1 with ⟨a, e, (⟨⟨xs, hq⟩, q⟩ | ⟨⟨xs, hq⟩, q⟩)⟩ | ⟨z, e, q⟩
  · subst e
    cases r1
    obtain ⟨its, rv, p, hz⟩ := I1.list hq
    refine wpAny_pyIter_list p.isList ?_
    refine ⟨s1.heap.objs.size, [s1.heap.objs.size], _, _, H1, rfl, I1.kept (t' := s1.toks) fun b o e => Heap.get?_push_of_some _ e, turn_list a _, ⟨_, Heap.get?_push_size _ rfl, rfl, rfl⟩, fun b hb => ?_, q⟩
    have e : b = s1.heap.objs.size := by simpa using hb
    subst e
    exact I1.fpOk (Nat.le_refl _) (I1.hok.fresh (Nat.le_refl _))
  · subst e
    cases r1
    obtain ⟨its, rv, p, hz⟩ := I1.tuple hq
    refine wpAny_pyIter_tuple (show s1.heap.IsTuple a its.toArray from p) ?_
    refine ⟨s1.heap.objs.size, [s1.heap.objs.size], _, _, H1, rfl, I1.kept (t' := s1.toks) fun b o e => Heap.get?_push_of_some _ e, turn_tuple a _, ⟨_, Heap.get?_push_size _ rfl, rfl, rfl⟩, fun b hb => ?_, q⟩
    have e : b = s1.heap.objs.size := by simpa using hb
    subst e
    exact I1.fpOk (Nat.le_refl _) (I1.hok.fresh (Nat.le_refl _))
  · subst e
    obtain ⟨t, rfl⟩ := r1
    cases ha : z.cps.all (· < 128)
    · exact wpAny_pyIter_wide ha (pi_one (tk := s1.toks) I1 _ (turn_str _ z t "str_iterator" (.inr rfl)) ⟨_, Heap.get?_push_size _ rfl, rfl, rfl⟩ q)
    · exact wpAny_pyIter_ascii ha (pi_one (tk := s1.toks) I1 _ (turn_str _ z t "str_ascii_iterator" (.inl rfl)) ⟨_, Heap.get?_push_size _ rfl, rfl, rfl⟩ q)
def signs (z : Str) : List D := z.cps.toList.map fun c => .str ⟨#[c]⟩
def dSeq' (d : DT) : DTA := fun g r f Q => d g r f fun x f1 => match x with
  | .lst xs => Q xs f1
  | .tup xs => Q xs f1
  | .str z => Q (signs z) f1
  | _ => False
theorem walks_list {Hb : Hp} {a : Addr} {vs : List V} {ds : List D} (h1 : Hb a = some (.lst vs)) (h2 : RpA K Hb ds vs) : Walks K (Itl K a) Hb ds where
  go := fun i d H Hs s1 s2 e => by
    obtain ⟨v, hv, hr⟩ := h2.get e
    have q : SqL K H a vs := SqL.of (s2 _ _ (s1 _ _ h1))
    refine ⟨⟨vs, v, q, hv⟩, ?_⟩
    rintro x H' ⟨rfl, hx⟩
    have := hx vs q
    rw [hv] at this
    cases this
    exact ⟨Hs, Stp.refl s2, hr.mono s1⟩
  stop := fun H s => ⟨vs, SqL.of (s _ _ h1), by rw [h2.length]; exact Nat.le_refl _⟩
theorem walks_tup {Hb : Hp} {a : Addr} {vs : List V} {ds : List D} (h1 : TpAt K Hb a vs) (h2 : RpA K Hb ds vs) : Walks K (Itt K a) Hb ds where
  go := fun i d H Hs s1 s2 e => by
    obtain ⟨v, hv, hr⟩ := h2.get e
    have q : SqT K H a vs := sqT_mono s2 (tp_sq s1 h1)
    refine ⟨⟨vs, v, q, hv⟩, ?_⟩
    rintro x H' ⟨rfl, hx⟩
    have := hx vs q
    rw [hv] at this
    cases this
    exact ⟨Hs, Stp.refl s2, hr.mono s1⟩
  stop := fun H s => ⟨vs, tp_sq s h1, by rw [h2.length]; exact Nat.le_refl _⟩
theorem walks_str {Hb : Hp} {z : Str} : Walks K (Its z) Hb (signs z) where
  go := fun i d H Hs s1 s2 e => by
    unfold signs at e
    rw [List.getElem?_map] at e
    cases ec : z.cps.toList[i]? with
    | none => rw [ec] at e; cases e
    | some c =>
      rw [ec] at e
      cases e
      have hl : i < z.cps.size := by
        have := List.getElem?_eq_some_iff.mp ec
        simpa using this.1
      refine ⟨hl, ?_⟩
      rintro x H' ⟨rfl, c', hc, rfl⟩
      have : c' = c := by
        rw [Array.getElem?_toList] at ec
        rw [hc] at ec
        exact Option.some.inj ec
      subst this
      exact ⟨Hs, Stp.refl s2, rfl⟩
  stop := fun H s => by
    show z.cps.size ≤ (signs z).length
    unfold signs
    simp
theorem di_seq {tg l : Expr} {d : DT} (h : DE X l d) : DI X tg l (dSeq' d) := .mk' (pi_seq h.pe) (fun g ro f st H Hs R Q' A hq hd =>
  h.sn g ro f st H Hs _ _ A (fun x f1 v H1 Hs1 s1 k1 r1 q1 => by
    cases x <;> try exact q1.elim
    · exact .inr ⟨_, r1, hq _ f1 _ H1 Hs1 s1 k1 walks_str q1⟩
    · obtain ⟨a, vs, rfl, h1, h2⟩ := r1
      exact .inl ⟨a, rfl, .inr ⟨⟨vs, (tp_sq s1.sub h1)⟩, hq _ f1 _ H1 Hs1 s1 k1 (walks_tup h1 h2) q1⟩⟩
    · obtain ⟨a, vs, rfl, h1, h2⟩ := r1
      exact .inl ⟨a, rfl, .inl ⟨⟨vs, SqL.of (s1.sub _ _ h1)⟩, hq _ f1 _ H1 Hs1 s1 k1 (walks_list h1 h2) q1⟩⟩) hd)
def intsD (lo : Int) (n : Nat) : List D := (List.range n).map fun (i : Nat) => D.int (lo + (i : Int))
theorem walks_range {Hb : Hp} {lo : Int} {n : Nat} : Walks K (Itr lo n) Hb (intsD lo n) where
  go := fun i d H Hs s1 s2 e => by
    unfold intsD at e
    rw [List.getElem?_map] at e
    by_cases hl : i < n
    · rw [List.getElem?_range hl] at e
      cases e
      refine ⟨hl, ?_⟩
      rintro x H' ⟨rfl, rfl⟩
      exact ⟨Hs, Stp.refl s2, rfl⟩
    · rw [List.getElem?_eq_none (by simpa using hl)] at e
      cases e
  stop := fun H s => by
    show n ≤ (intsD lo n).length
    unfold intsD
    simp
def dRng1 (t : DTA) : DTA := fun g r f Q => t g r f fun ds f1 => match ds with
  | [.int j] => -(2 ^ 62) ≤ j ∧ j < 2 ^ 62 ∧ Q (intsD 0 j.toNat) f1
  | _ => False
theorem di_range1 {tg a : Expr} {d : DTA} {p pos : Pos} (hm : X.mg "range" = none) (ha : DA X [a] d) (hg : Gl X "range" := by rfl) (hs : starEach [a] X.env = [(false, eval a X.env)] := by rfl) : DI X tg (.Call (.Name "range" p) [a] [] pos) (dRng1 d) :=
  .mk' (pi_range1 hg hm ha.pa hs) (fun g ro f st H Hs R Q' A hq hd =>
    ha.sn g ro f st H Hs _ _ A (fun ds f1 vs H1 Hs1 s1 k1 r1 q1 => by
      split at q1
      · obtain ⟨v, rfl, h⟩ := rpA1 r1
        cases h
        exact ⟨_, rfl, q1.1, q1.2.1, hq _ f1 _ H1 Hs1 s1 k1 walks_range q1.2.2⟩
      · exact q1.elim) hd)
def dRng2 (t : DTA) : DTA := fun g r f Q => t g r f fun ds f1 => match ds with
  | [.int i, .int j] => (-(2 ^ 62) ≤ i ∧ i < 2 ^ 62 ∧ -(2 ^ 62) ≤ j ∧ j < 2 ^ 62) ∧ Q (intsD i (j - i).toNat) f1
  | _ => False
theorem di_range2 {tg a b : Expr} {d : DTA} {p pos : Pos} (hm : X.mg "range" = none) (ha : DA X [a, b] d) (hg : Gl X "range" := by rfl) (hs : starEach [a, b] X.env = [(false, eval a X.env), (false, eval b X.env)] := by rfl) (hs2 : starEach [b] X.env = [(false, eval b X.env)] := by rfl) : DI X tg (.Call (.Name "range" p) [a, b] [] pos) (dRng2 d) :=
  .mk' (pi_range2 hg hm ha.pa hs hs2) (fun g ro f st H Hs R Q' A hq hd =>
    ha.sn g ro f st H Hs _ _ A (fun ds f1 vs H1 Hs1 s1 k1 r1 q1 => by
      split at q1
      · obtain ⟨v, w, rfl, h, h'⟩ := rpA2 r1
        cases h
        cases h'
        exact ⟨_, _, rfl, q1.1, hq _ f1 _ H1 Hs1 s1 k1 walks_range q1.2⟩
      · exact q1.elim) hd)
end
end DL
namespace DL
open PySem PySem.Spec PyProof.Rows L2
/-! targets -/
abbrev TgF := D → Option (List (Nat × D))
def setsR (r : Sg) : List (Nat × D) → Sg
  | [] => r
  | (i, d) :: l => setsR (r.set i (.sh d)) l
def setsV (st : L2.St) : List Nat → List V → L2.St
  | i :: is, v :: vs => setsV (st.set i (some v)) is vs
  | _, _ => st
section
variable {X : Cx} {K : PySem.W.Frag}
theorem SlOk.sets {Hs : Hp} : ∀ {l : List (Nat × D)} {vs : List V} {r : Sg} {st : L2.St}, SlOk K Hs r st → RpA K Hs (l.map (·.2)) vs → SlOk K Hs (setsR r l) (setsV st (l.map (·.1)) vs)
  | [], _, _, _, h, _ => by
    have e : ∀ (st : L2.St) (vs : List V), setsV st [] vs = st := fun st vs => by cases vs <;> rfl
    show SlOk K Hs _ (setsV _ [] _)
    rw [e]
    exact h
  | (i, d) :: l, _, r, st, h, ⟨v, vr, h1, h2, h3⟩ => by
    subst h1
    show SlOk K Hs (setsR (r.set i (.sh d)) l) (setsV (st.set i (some v)) (l.map (·.1)) vr)
    exact SlOk.sets (SlOk.set h i h2) h3
theorem wipe_set {st : L2.St} {i : Nat} {x : Option V} : ∀ {vs : List Nat}, i ∈ vs → wipe (st.set i x) vs = wipe st vs
  | v :: vs, h => by
    unfold wipe
    by_cases e : i ∈ vs
    · rw [wipe_set e]
    · have hv : i = v := by
        rcases List.mem_cons.mp h with h | h
        · exact h
        · exact absurd h e
      subst hv
      have : ∀ (vs : List Nat), i ∉ vs → wipe (st.set i x) vs = (wipe st vs).set i x := by
        intro vs
        induction vs with
        | nil => intro _; rfl
        | cons w ws ih =>
          intro hn
          have h1 : i ≠ w := fun e => hn (by simp [e])
          have h2 : i ∉ ws := fun e => hn (by simp [e])
          unfold wipe
          rw [ih h2, List.set_comm _ _ h1]
      rw [this vs e, List.set_set]
theorem wipe_sets {ws : List Nat} : ∀ {is : List Nat} {vs : List V} {st : L2.St}, (∀ i ∈ is, i ∈ ws) → wipe (setsV st is vs) ws = wipe st ws
  | [], _, _, _ => by unfold setsV; rfl
  | _ :: _, [], _, _ => by unfold setsV; rfl
  | i :: is, v :: vs, st, h => by
    unfold setsV
    rw [wipe_sets (fun j hj => h j (by simp [hj])), wipe_set (h i (by simp))]
theorem wipe_idem {st : L2.St} : ∀ {vs : List Nat} (ws : List Nat), (∀ i ∈ vs, i ∈ ws) → L2.wipe (L2.wipe st vs) ws = L2.wipe st ws
  | [], _, _ => rfl
  | v :: vs, ws, h => by
    show L2.wipe ((L2.wipe st vs).set v none) ws = _
    rw [wipe_set (h v (by simp)), wipe_idem ws fun i hi => h i (by simp [hi])]
theorem wipe_wipe_sets {vs is : List Nat} {us : List V} {st : L2.St} (h : ∀ i ∈ is, i ∈ vs) : L2.wipe (setsV (L2.wipe st vs) is us) vs = L2.wipe st vs := by
  rw [wipe_sets h, wipe_idem vs fun _ h => h]
def SndG (K : PySem.W.Frag) (is : List Nat) (g : TG) (t : TgF) : Prop := (∀ d l, t d = some l → l.map (·.1) = is) ∧ ∀ (H Hs : Hp) (st : L2.St) (d : D) (v : V) (Q : L2.St → Hp → Prop) (l : List (Nat × D)), Same Hs H → Rp K Hs d v → t d = some l →
  (∀ vs, RpA K Hs (l.map (·.2)) vs → Q (setsV st is vs) H) → g v st H Q
def gOf (K : PySem.W.Frag) (is : List Nat) (t : TgF) : TG := fun v st H Q => ∃ Hs d l, Same Hs H ∧ Rp K Hs d v ∧ t d = some l ∧ ∀ vs, RpA K Hs (l.map (·.2)) vs → Q (setsV st is vs) H
structure DG (X : Cx) (tg : Expr) (is : List Nat) (t : TgF) : Prop where
  pg : PG X tg (gOf X.K is t)
  ix : ∀ d l, t d = some l → l.map (·.1) = is
theorem DG.sn {tg : Expr} {is : List Nat} {t : TgF} (h : DG X tg is t) : SndG X.K is (gOf X.K is t) t := ⟨h.ix, fun H Hs st d v Q l s hr e hq => ⟨Hs, d, l, s, hr, e, hq⟩⟩
theorem DG.mk' {tg : Expr} {is : List Nat} {g : TG} {t : TgF} (p : PG X tg g) (s : SndG X.K is g t) : DG X tg is t := ⟨⟨fun pins sh st H v u Q I r ⟨Hs, d, l, h1, h2, h3, h4⟩ => p.run pins sh st H v u Q I r (s.2 H Hs st d v Q l h1 h2 h3 h4)⟩, s.1⟩
def tgN (i : Nat) : TgF := fun d => some [(i, d)]
theorem sg_name (i : Nat) : SndG K [i] (gName i) (tgN i) := ⟨fun d l e => by cases e; rfl, fun H Hs st d v Q l s rx e h => by
  cases e
  exact h [v] (RpA.one rx)⟩
theorem dg_name {i : Nat} {x : Str} {pos : Pos} (hN : X.N.Nodup) (hi : X.N[i]? = some x := by rfl) (hx : Loc X.env.scope x := by first | exact Or.inl rfl | exact Or.inr rfl) (hf : X.fn x = true ∨ X.env.scope.names.lookup x = some .local := by first | exact .inl rfl | exact .inr rfl | assumption) : DG X (.Name x pos) [i] (tgN i) := .mk' (pg_name hN hi hx hf) (sg_name i)
def tgT : List TgF → List D → Option (List (Nat × D))
  | [], [] => some []
  | t :: ts, d :: ds => (t d).bind fun l => (tgT ts ds).map fun m => l ++ m
  | _, _ => none
def tgTup (ts : List TgF) : TgF := fun d => match d with
  | .tup ds => tgT ts ds
  | _ => none
def SndGs (K : PySem.W.Frag) (is : List Nat) (g : TGs) (ts : List TgF) : Prop := (∀ ds l, tgT ts ds = some l → l.map (·.1) = is) ∧ ∀ (H Hs : Hp) (st : L2.St) (ds : List D) (vs : List V) (Q : L2.St → Hp → Prop) (l : List (Nat × D)), Same Hs H → RpA K Hs ds vs → tgT ts ds = some l →
  (∀ ws, RpA K Hs (l.map (·.2)) ws → Q (setsV st is ws) H) → g vs st H Q
def gOfs (K : PySem.W.Frag) (is : List Nat) (ts : List TgF) : TGs := fun vs st H Q => ∃ Hs ds l, Same Hs H ∧ RpA K Hs ds vs ∧ tgT ts ds = some l ∧ ∀ ws, RpA K Hs (l.map (·.2)) ws → Q (setsV st is ws) H
structure DGs (X : Cx) (tgs : List Expr) (is : List Nat) (ts : List TgF) : Prop where
  pg : PGs X tgs (gOfs X.K is ts)
  ix : ∀ ds l, tgT ts ds = some l → l.map (·.1) = is
theorem DGs.sn {tgs : List Expr} {is : List Nat} {ts : List TgF} (h : DGs X tgs is ts) : SndGs X.K is (gOfs X.K is ts) ts := ⟨h.ix, fun H Hs st ds vs Q l s hr e hq => ⟨Hs, ds, l, s, hr, e, hq⟩⟩
theorem DGs.mk' {tgs : List Expr} {is : List Nat} {g : TGs} {ts : List TgF} (p : PGs X tgs g) (s : SndGs X.K is g ts) : DGs X tgs is ts := ⟨⟨fun pins sh st H vs us Q I r ⟨Hs, ds, l, h1, h2, h3, h4⟩ => p.run pins sh st H vs us Q I r (s.2 H Hs st ds vs Q l h1 h2 h3 h4)⟩, s.1⟩
theorem setsV_append : ∀ (is js : List Nat) (vs ws : List V) (st : L2.St), is.length = vs.length → setsV st (is ++ js) (vs ++ ws) = setsV (setsV st is vs) js ws
  | [], js, vs, ws, st, h => by cases vs with
    | nil => rfl
    | cons v r => simp at h
  | i :: is, js, [], ws, st, h => by simp at h
  | i :: is, js, v :: vs, ws, st, h => by
    show setsV (st.set i (some v)) (is ++ js) (vs ++ ws) = _
    rw [setsV_append is js vs ws _ (by simpa using h)]
    rfl
theorem RpA.split {H : Hp} : ∀ {a b : List D} {vs : List V}, RpA K H (a ++ b) vs → ∃ p q, vs = p ++ q ∧ RpA K H a p ∧ RpA K H b q
  | [], _, vs, h => ⟨[], vs, rfl, rfl, h⟩
  | d :: a, b, _, ⟨v, r, h1, h2, h3⟩ => by
    subst h1
    obtain ⟨p, q, rfl, h4, h5⟩ := RpA.split h3
    exact ⟨v :: p, q, rfl, ⟨v, p, rfl, h2, h4⟩, h5⟩
theorem sgs_nil : SndGs K [] gNil [] := by
  refine ⟨fun ds l e => ?_, fun H Hs st ds vs Q l s rx e h => ?_⟩
  · cases ds with
    | nil => cases e; rfl
    | cons _ _ => cases e
  · cases ds with
    | nil => cases e; cases rx; exact ⟨rfl, h [] rfl⟩
    | cons _ _ => cases e
theorem sgs_cons {is js : List Nat} {g : TG} {u : TGs} {t : TgF} {ts : List TgF} (h1 : SndG K is g t) (h2 : SndGs K js u ts) : SndGs K (is ++ js) (gCons g u) (t :: ts) := by
  refine ⟨fun ds l e => ?_, fun H Hs st ds vs Q l s rx e h => ?_⟩
  · cases ds with
    | nil => cases e
    | cons d ds =>
      simp only [tgT] at e
      cases e1 : t d with
      | none => rw [e1] at e; cases e
      | some l1 =>
        rw [e1] at e
        cases e2 : tgT ts ds with
        | none => rw [e2] at e; cases e
        | some l2 =>
          rw [e2] at e
          cases e
          rw [List.map_append, h1.1 d l1 e1, h2.1 ds l2 e2]
  · cases ds with
    | nil => cases e
    | cons d ds =>
      simp only [tgT] at e
      cases e1 : t d with
      | none => rw [e1] at e; cases e
      | some l1 =>
        rw [e1] at e
        cases e2 : tgT ts ds with
        | none => rw [e2] at e; cases e
        | some l2 =>
          rw [e2] at e
          cases e
          obtain ⟨v, r, rfl, q1, q2⟩ := rx
          refine ⟨v, r, rfl, h1.2 H Hs st d v _ l1 s q1 e1 fun ws1 hw1 => h2.2 H Hs _ ds r Q l2 s q2 e2 fun ws2 hw2 => ?_⟩
          have hh := h (ws1 ++ ws2) (by rw [List.map_append]; exact hw1.append hw2)
          rw [setsV_append _ _ _ _ _ (by rw [← h1.1 d l1 e1, ← hw1.length]; simp)] at hh
          exact hh
theorem sg_tup {is : List Nat} {g : TGs} {ts : List TgF} {n : Nat} (h : SndGs K is g ts) (hn : ∀ ds l, tgT ts ds = some l → ds.length = n) : SndG K is (gTup K n g) (tgTup ts) := ⟨fun d l e => by
    cases d <;> first | (cases e; done) | exact h.1 _ l e, fun H Hs st d v Q l s rx e q => by
  cases d <;> try (cases e; done)
  obtain ⟨a, vs, rfl, h1, h2⟩ := rx
  exact ⟨a, vs, rfl, (tp_sq s h1), by rw [← h2.length]; exact hn _ l e, h.2 H Hs st _ vs Q l s h2 e q⟩⟩
theorem tgT_len : ∀ {ts : List TgF} {ds : List D} {l : List (Nat × D)}, tgT ts ds = some l → ds.length = ts.length
  | [], [], _, _ => rfl
  | [], _ :: _, _, e => by cases e
  | _ :: _, [], _, e => by cases e
  | t :: ts, d :: ds, l, e => by
    simp only [tgT] at e
    cases e1 : t d with
    | none => rw [e1] at e; cases e
    | some l1 =>
      rw [e1] at e
      cases e2 : tgT ts ds with
      | none => rw [e2] at e; cases e
      | some l2 => simp [tgT_len e2]
theorem dgs_nil : DGs X [] [] [] := .mk' (pgs_nil) (sgs_nil)
theorem dgs_cons {e : Expr} {es : List Expr} {is js : List Nat} {t : TgF} {ts : List TgF} (h1 : DG X e is t) (h2 : DGs X es js ts)
    (hs : (assignEach (e :: es) X.env).map (·.2) = assign e X.env :: (assignEach es X.env).map (·.2) := by rfl) : DGs X (e :: es) (is ++ js) (t :: ts) := .mk' (pgs_cons h1.pg h2.pg hs) (sgs_cons h1.sn h2.sn)
theorem dg_tup {es : List Expr} {k n : Nat} {pos : Pos} {is : List Nat} {ts : List TgF} (hc : X.calm = true) (h : DGs X es is ts) (hn : (assignEach es X.env).length = n := by rfl) (hst : (assignEach es X.env).findIdx? (·.1) = none := by rfl) (hl : ts.length = n := by rfl) :
    DG X (.Tuple es k pos) is (tgTup ts) := .mk' (pg_tup hc h.pg hn hst) (sg_tup h.sn fun ds l e => by rw [tgT_len e, hl])
/-! comprehensions -/
def wipeR (r : Sg) : List Nat → Sg
  | [] => r
  | v :: vs => (wipeR r vs).set v .no
theorem SlOk.wipe {Hs : Hp} {r : Sg} {st : L2.St} (h : SlOk K Hs r st) : ∀ vs : List Nat, SlOk K Hs (wipeR r vs) (L2.wipe st vs)
  | [] => h
  | v :: vs => by
    have ih := SlOk.wipe h vs
    refine ⟨by unfold wipeR L2.wipe; simp [ih.len], fun i s d h1 h2 => ?_⟩
    unfold wipeR at h1
    unfold L2.wipe
    by_cases e : v = i
    · subst e
      by_cases hl : v < (wipeR r vs).length
      · rw [List.getElem?_set_self hl] at h1
        cases h1
        cases h2
      · rw [List.getElem?_eq_none (by simpa using hl)] at h1
        cases h1
    · rw [List.getElem?_set_ne e] at h1
      rw [List.getElem?_set_ne e]
      exact ih.get i s d h1 h2
def dLcGo (g : Option Dk) (t : TgF) (c : DTT) (e : DT) (r : Sg) : List D → List D → Nat → (List D → Nat → Prop) → Prop
  | [], acc, f, Q => Q acc f
  | d :: ds, acc, f, Q => match t d with
    | none => False
    | some l => c g (setsR r l) f fun b f1 => if b = true then e g (setsR r l) f1 fun y f2 => dLcGo g t c e r ds (acc ++ [y]) f2 Q else dLcGo g t c e r ds acc f1 Q
def dLc (i : DTA) (t : TgF) (c : DTT) (e : DT) (vs : List Nat) : DTA := fun g r f Q => i g r f fun ds f1 => ds.length ≤ lim ∧ dLcGo g t c e (wipeR r vs) ds [] f1 Q
structure DTs (X : Cx) (ifs : List Expr) (d : DTT) : Prop where
  pt : PTs X ifs (tOfT X.K d)
theorem DTs.sn {ifs : List Expr} {dl : DTT} (_ : DTs X ifs dl) : SndT X.K (tOfT X.K dl) dl := fun g r f st H Hs Q Q' a hq hd => ⟨g, r, f, Hs, Q', a, hq, hd⟩
theorem DTs.mk' {ifs : List Expr} {t : TT} {dl : DTT} (p : PTs X ifs t) (s : SndT X.K t dl) : DTs X ifs dl := ⟨⟨fun pins sh st H Q I ⟨g, r, f, Hs, Q', a, hq, hd⟩ => p.run pins sh st H Q I (s g r f st H Hs Q Q' a hq hd)⟩⟩
def dYes : DTT := fun _ _ f Q => Q true f
theorem dts_nil : DTs X [] dYes := .mk' (pts_nil) (fun g r f st H Hs Q Q' A hq hd => hq true f H Hs (Stp.refl A.sub) A.dk hd)
theorem dts_one {c : Expr} {d : DTT} (h : DP X c d) : DTs X [c] d := .mk' (pts_one h.pt) (h.sn)
theorem snd_lc {wi : TI} {gt : TG} {tt : TT} {te : TE} {vs is : List Nat} {i : DTA} {t : TgF} {c : DTT} {e : DT} (hi : SndI K wi i) (hg : SndG K is gt t) (hc : SndT K tt c) (he : Snd K te e) (hs : ∀ j ∈ is, j ∈ vs) : SndL K (tLc wi gt tt te vs) (dLc i t c e vs) := by
  intro g r f st H Hs Q Q' A hq hd
  refine hi g r f st H Hs _ _ A (fun ds f1 J H1 Hs1 s1 k1 wk q1 => ?_) hd
  intro D hD
  have hDs : Hs1 D = none := same_none s1.sub hD
  have hDk : ¬ Dk.has g D := k1.out hD
  refine ⟨fun i m H2 => m = ds.length - i ∧ i ≤ ds.length ∧ ∃ f2 Hs2 acc ws, Stp g H1 Hs1 H2 Hs2 ∧ DkOk g H2 Hs2 f2 ∧ Hs2 D = none ∧ H2 D = some (.lst ws) ∧ RpA K Hs2 acc ws ∧ acc.length ≤ i ∧ dLcGo g t c e (wipeR r vs) (ds.drop i) acc f2 Q', ⟨ds.length, rfl, Nat.zero_le _, f1, Hs1, [], [], ?_, ?_, hDs, upd_same, rfl, Nat.le_refl _, q1.2⟩, ?_⟩
  · exact (Stp.lay s1.sub hD : Stp none H1 Hs1 (upd H1 D (.lst [])) Hs1).gen
  · exact k1.mut hDk
  rintro i m H2 ⟨rfl, hil, f2, Hs2, acc, ws, s2, k2, n2, e2, r2, l2, q2⟩
  by_cases hlt : i < ds.length
  · have hgd : ds[i]? = some ds[i] := List.getElem?_eq_getElem hlt
    have hdr : ds.drop i = ds[i] :: ds.drop (i + 1) := List.drop_eq_getElem_cons hlt
    rw [hdr] at q2
    obtain ⟨hgo, hy⟩ := wk.go i _ H2 Hs2 s2.ext s2.sub hgd
    refine .inr ⟨hgo, fun H3 => i + 1 ≤ ds.length ∧ ∃ f2 Hs2 acc ws, Stp g H1 Hs1 H3 Hs2 ∧ DkOk g H3 Hs2 f2 ∧ Hs2 D = none ∧ H3 D = some (.lst ws) ∧ RpA K Hs2 acc ws ∧ acc.length ≤ i + 1 ∧ dLcGo g t c e (wipeR r vs) (ds.drop (i + 1)) acc f2 Q', fun H3 h3 => ⟨_, by omega, rfl, h3⟩, fun x H3 hx => ?_⟩
    obtain ⟨Hs3, s3, r3⟩ := hy x H3 hx
    simp only [dLcGo] at q2
    cases et : t ds[i] with
    | none => rw [et] at q2; exact q2.elim
    | some l =>
      rw [et] at q2
      replace q2 : c g (setsR (wipeR r vs) l) f2 fun b f1 => if b = true then e g (setsR (wipeR r vs) l) f1 fun y f2 => dLcGo g t c e (wipeR r vs) (ds.drop (i + 1)) (acc ++ [y]) f2 Q' else dLcGo g t c e (wipeR r vs) (ds.drop (i + 1)) acc f1 Q' := q2
      have sl0 : SlOk K Hs3 (wipeR r vs) (L2.wipe st vs) := (((A.sl.mono s1.ext).mono s2.ext).mono s3.ext).wipe vs
      refine hg.2 H3 Hs3 _ _ x _ l s3.sub r3 et fun us hus => ⟨wipe_wipe_sets hs, ?_⟩
      have A3 : At K g (setsR (wipeR r vs) l) f2 (setsV (L2.wipe st vs) is us) H3 Hs3 := ⟨s3.sub, k2.stp s3, by
        have := SlOk.sets sl0 hus
        rw [hg.1 _ l et] at this
        exact this⟩
      refine hc g _ f2 _ H3 Hs3 _ _ A3 (fun b f4 H4 Hs4 s4 k4 q4 => ?_) q2
      have t4 : Stp g H1 Hs1 H4 Hs4 := (s2.trans s3.gen).trans s4
      have keepD : ∀ {H5 Hs5 : Hp}, Stp g H1 Hs1 H5 Hs5 → True := fun _ => trivial
      have n3 : Hs3 D = none := s3.new D _ e2 n2
      have e3 : H3 D = some (.lst ws) := s3.keep D _ e2 id
      have n4 : Hs4 D = none := s4.new D _ e3 n3
      have e4 : H4 D = some (.lst ws) := s4.keep D _ e3 hDk
      cases b with
      | false =>
        rw [if_neg Bool.false_ne_true]
        exact ⟨hlt, f4, Hs4, acc, ws, t4, k4, n4, e4, (r2.mono s3.ext).mono s4.ext, by omega, q4⟩
      | true =>
        rw [if_pos rfl]
        refine he g _ f4 _ H4 Hs4 _ _ (A3.step s4 k4) (fun y f5 v H5 Hs5 s5 k5 r5 q5 => ?_) q4
        have n5 : Hs5 D = none := s5.new D _ e4 n4
        have e5 : H5 D = some (.lst ws) := s5.keep D _ e4 hDk
        have r5' : RpA K Hs5 acc ws := ((r2.mono s3.ext).mono s4.ext).mono s5.ext
        refine ⟨ws, e5, ?_, hlt, f5, Hs5, acc ++ [y], ws ++ [v], (t4.trans s5).mut hD n5, k5.mut hDk, n5, upd_same, r5'.append (RpA.one r5), by simp; omega, q5⟩
        rw [← r5'.length]
        have := q1.1
        exact lim_lt (by omega)
  · have ei : i = ds.length := by omega
    subst ei
    rw [List.drop_length] at q2
    refine .inl ⟨wk.stop H2 (fun a o h => s2.sub a o (s2.ext a o h)), ?_⟩
    exact hq acc f2 D ws H2 Hs2 (s1.trans s2) k2 (none_back s1 hD) n2 e2 r2 q2
theorem dl_lc {elt tg iter : Expr} {ifs : List Expr} {scope : Scope} {own : List (Str × Nat)} {pos : Pos} {is : List Nat} {i : DTA} {t : TgF} {c : DTT} {e : DT} (hc : X.calm = true) (hN : X.N.Nodup) (hi : DI X tg iter i) (ok : BlkOk X.N X.env.scope scope own)
    (hg : ∀ (s : Shared) (H : Hp) (C : Addr) (cl : List (Str × Addr)) (fp : List Addr), DG (X.blk s H scope (compEnvC scope cl C X.env) fp) tg is t) (ht : ∀ (s : Shared) (H : Hp) (C : Addr) (cl : List (Str × Addr)) (fp : List Addr), DTs (X.blk s H scope (compEnvC scope cl C X.env) fp) ifs c)
    (he : ∀ (s : Shared) (H : Hp) (C : Addr) (cl : List (Str × Addr)) (fp : List Addr), DE (X.blk s H scope (compEnvC scope cl C X.env) fp) elt e) (hs : ∀ x, foldedSetIterable iter X.env x = pure x := by intro _; rfl) (hsub : ∀ j ∈ is, j ∈ own.map (·.2) := by decide) :
    DL' X (.ListComp elt [⟨tg, iter, ifs, 0⟩] scope pos) (dLc i t c e (own.map (·.2))) := by
  refine DL'.mk' (pe_lc (g := gOf X.K is t) (tt := tOfT X.K c) (te := tOf X.K e) hc hN hi.pi ok (fun s H C cl fp => (hg s H C cl fp).pg) (fun s H C cl fp => (ht s H C cl fp).pt) (fun s H C cl fp => (he s H C cl fp).pe) hs) ?_
  intro g r f st H Hs Q Q' A
  exact snd_lc hi.sn (hg X.s_0 H 0 [] []).sn (ht X.s_0 H 0 [] []).sn (he X.s_0 H 0 [] []).sn hsub g r f st H Hs Q Q' A
end
end DL
namespace DL
open PySem PySem.Spec PyProof.Rows L2
/-! statements: slots that own a list or a dict -/
def Sl.own : Sl → Bool
  | .ow _ => true
  | .od _ _ => true
  | .oi _ _ _ _ => true
  | _ => false
def OwAt (K : PySem.W.Frag) (H0 H Hs : Hp) (a : Addr) : Sl → Prop
  | .ow xs => ∃ vs, H a = some (.lst vs) ∧ RpA K Hs xs vs
  | .od ks xs => ∃ vs, H a = some (.dK (ks.zip vs)) ∧ ks.length = vs.length ∧ RpA K Hs xs vs
  | .oi b c ns xs => b = a ∧ ∃ C dx vs, PySem.W.nsIn K mainGlobals c = some (some (.ref C)) ∧ H a = some (.ins C dx (ns.zip vs)) ∧ H dx = some (.own a) ∧ Hs dx = none ∧ H0 dx = none ∧ ns.length = vs.length ∧ RpA K Hs xs vs
  | _ => False
structure SIn (K : PySem.W.Frag) (g : Option Dk) (H0 Hs0 : Hp) (r : Sg) (f : Nat) (st : L2.St) (H Hs : Hp) : Prop where
  len : r.length = st.length
  dk0 : ∃ f0, DkOk g H0 Hs0 f0
  dk : DkOk g H Hs f
  stp : Stp g H0 Hs0 H Hs
  sh : ∀ (i : Nat) (d : D), r[i]? = some (.sh d) → ∃ v, st[i]? = some (some v) ∧ Rp K Hs d v
  ow : ∀ (i : Nat) (s : Sl), r[i]? = some s → s.own = true → ∃ a, st[i]? = some (some (.ref a)) ∧ Hs a = none ∧ H0 a = none ∧ OwAt K H0 H Hs a s
  inj : ∀ (i j : Nat) (s u : Sl) (a : Addr), r[i]? = some s → r[j]? = some u → s.own = true → u.own = true → st[i]? = some (some (.ref a)) → st[j]? = some (some (.ref a)) → i = j
def SOk (K : PySem.W.Frag) (g : Option Dk) (H0 Hs0 : Hp) (r : Sg) (f : Nat) (st : L2.St) (H : Hp) : Prop := ∃ Hs, SIn K g H0 Hs0 r f st H Hs
/-- an exception of a class of the text: its data, the class and the dict at which it stands -/
def ExR (K : PySem.W.Frag) (H Hs : Hp) : D → Value → Option Addr → Prop
  | .obj c ns xs, cls, d => ∃ C, PySem.W.nsIn K mainGlobals c = some (some (.ref C)) ∧ cls = .ref C ∧ ((ns = [] ∧ xs = [] ∧ d = Option.none) ∨ ∃ dd vs, d = some dd ∧ Hs dd = some (.xd (ns.zip vs)) ∧ ns.length = vs.length ∧ RpA K Hs xs vs)
  | _, _, _ => False
structure DEnds where
  nx : Sg → Nat → Prop
  rt : QD
  bk : Sg → Nat → Prop := fun _ _ => False
  ct : Sg → Nat → Prop := fun _ _ => False
  xc : D → Sg → Nat → Prop := fun _ _ _ => False
/-- what a body wants of exceptions, at the most -/
def wx (X : Cx) : WX := fun cls d st H => Takes X (fun cls' d' st' H' => cls' = cls ∧ d' = d ∧ st' = st ∧ H' = H)
abbrev DTS := Option Dk → Sg → Nat → DEnds → Prop
structure EndsOk (K : PySem.W.Frag) (W : WX) (g : Option Dk) (H0 Hs0 : Hp) (E : DEnds) (D : Ends) : Prop where
  nx : ∀ r f st H, SOk K g H0 Hs0 r f st H → E.nx r f → D.nx st H
  rt : ∀ d f v H Hs, Stp g H0 Hs0 H Hs → DkOk g H Hs f → Rp K Hs d v → E.rt d f → D.rt v H
  bk : ∀ r f st H, SOk K g H0 Hs0 r f st H → E.bk r f → D.bk st H
  ct : ∀ r f st H, SOk K g H0 Hs0 r f st H → E.ct r f → D.ct st H
  xc : ∀ x r f st H cls d, (∃ Hs, SIn K g H0 Hs0 r f st H Hs ∧ ExR K H Hs x cls d) → E.xc x r f → W cls d st H
def SndS (K : PySem.W.Frag) (W : WX) (t : TS) (dl : DTS) : Prop := ∀ (g : Option Dk) (H0 Hs0 : Hp) (r : Sg) (f : Nat) (st : L2.St) (H : Hp) (D : Ends) (E : DEnds), SOk K g H0 Hs0 r f st H → EndsOk K W g H0 Hs0 E D → dl g r f E → t D st H
def sOf (K : PySem.W.Frag) (W : WX) (dl : DTS) : TS := fun D st H => ∃ g H0 Hs0 r f E, SOk K g H0 Hs0 r f st H ∧ EndsOk K W g H0 Hs0 E D ∧ dl g r f E
structure DS (X : Cx) (st : Stmt) (dl : DTS) : Prop where
  ps : PS X st (sOf X.K (wx X) dl)
structure DSs (X : Cx) (st : List Stmt) (dl : DTS) : Prop where
  ps : PSs X st (sOf X.K (wx X) dl)
theorem DS.sn {X : Cx} {st : Stmt} {dl : DTS} (_ : DS X st dl) : SndS X.K (wx X) (sOf X.K (wx X) dl) dl := fun g H0 Hs0 r f st H D E s e h => ⟨g, H0, Hs0, r, f, E, s, e, h⟩
theorem DSs.sn {X : Cx} {st : List Stmt} {dl : DTS} (_ : DSs X st dl) : SndS X.K (wx X) (sOf X.K (wx X) dl) dl := fun g H0 Hs0 r f st H D E s e h => ⟨g, H0, Hs0, r, f, E, s, e, h⟩
theorem DS.mk' {X : Cx} {st : Stmt} {t : TS} {dl : DTS} (p : PS X st t) (s : SndS X.K (wx X) t dl) : DS X st dl := ⟨⟨fun pins sh st H D I ⟨g, H0, Hs0, r, f, E, h1, h2, h3⟩ => p.run pins sh st H D I (s g H0 Hs0 r f st H D E h1 h2 h3)⟩⟩
theorem DSs.mk' {X : Cx} {st : List Stmt} {t : TS} {dl : DTS} (p : PSs X st t) (s : SndS X.K (wx X) t dl) : DSs X st dl := ⟨⟨fun pins sh st H D I ⟨g, H0, Hs0, r, f, E, h1, h2, h3⟩ => p.run pins sh st H D I (s g H0 Hs0 r f st H D E h1 h2 h3)⟩⟩
/-- the addresses that slots own -/
def Owned (r : Sg) (st : L2.St) (a : Addr) : Prop := ∃ (i : Nat) (s : Sl), r[i]? = some s ∧ s.own = true ∧ st[i]? = some (some (.ref a))
open Classical in
noncomputable def plus (r : Sg) (st : L2.St) (H Hs : Hp) : Hp := fun a => if Owned r st a then H a else Hs a
open Classical in
noncomputable def minus (r : Sg) (st : L2.St) (Hs : Hp) : Hp := fun a => if Owned r st a then none else Hs a
section
variable {X : Cx} {K : PySem.W.Frag} {g : Option Dk} {H0 Hs0 : Hp} {r : Sg} {f f' : Nat} {st : L2.St} {H Hs H' Hs' : Hp}
theorem plus_in {a : Addr} (h : Owned r st a) : plus r st H Hs a = H a := if_pos h
theorem plus_out {a : Addr} (h : ¬ Owned r st a) : plus r st H Hs a = Hs a := if_neg h
theorem minus_in {a : Addr} (h : Owned r st a) : minus r st Hs a = none := if_pos h
theorem minus_out {a : Addr} (h : ¬ Owned r st a) : minus r st Hs a = Hs a := if_neg h
theorem SIn.owned (s : SIn K g H0 Hs0 r f st H Hs) {a : Addr} (h : Owned r st a) : Hs a = none ∧ H0 a = none ∧ ∃ sl, sl.own = true ∧ OwAt K H0 H Hs a sl := by
  obtain ⟨i, sl, h1, h2, h3⟩ := h
  obtain ⟨b, e, h4, h5, h6⟩ := s.ow i sl h1 h2
  rw [h3] at e
  cases e
  exact ⟨h4, h5, sl, h2, h6⟩
theorem OwAt.ld {a : Addr} {sl : Sl} (h : OwAt K H0 H Hs a sl) : ∃ o, H a = some o ∧ isLD o = true := by
  cases sl with
  | ow xs => obtain ⟨vs, h1, _⟩ := h; exact ⟨_, h1, rfl⟩
  | od ks xs => obtain ⟨vs, h1, _⟩ := h; exact ⟨_, h1, rfl⟩
  | oi b c ns xs => obtain ⟨_, C, dx, vs, _, h1, _⟩ := h; exact ⟨_, h1, rfl⟩
  | _ => exact h.elim
theorem SIn.plusSub (s : SIn K g H0 Hs0 r f st H Hs) : Same (plus r st H Hs) H := fun a o h => by
  by_cases e : Owned r st a
  · rw [plus_in e] at h; exact h
  · rw [plus_out e] at h; exact s.stp.sub a o h
theorem SIn.plusExt (s : SIn K g H0 Hs0 r f st H Hs) : Same Hs (plus r st H Hs) := fun a o h => by
  by_cases e : Owned r st a
  · rw [(s.owned e).1] at h; cases h
  · rw [plus_out e]; exact h
theorem SIn.notDk (s : SIn K g H0 Hs0 r f st H Hs) {a : Addr} (h : Owned r st a) : ¬ Dk.has g a := by
  obtain ⟨f0, k⟩ := s.dk0
  exact k.out (s.owned h).2.1
theorem SIn.plusDk (s : SIn K g H0 Hs0 r f st H Hs) : DkOk g H (plus r st H Hs) f := by
  have k := s.dk
  cases g with
  | none => trivial
  | some d =>
    obtain ⟨k0, n1, n2, n3⟩ := k
    refine ⟨k0, ?_, ?_, ?_⟩
    · rw [plus_out fun e => s.notDk e (.inl rfl)]; exact n1
    · rw [plus_out fun e => s.notDk e (.inr (.inl rfl))]; exact n2
    · rw [plus_out fun e => s.notDk e (.inr (.inr rfl))]; exact n3
theorem SIn.notOwnedDx (s : SIn K g H0 Hs0 r f st H Hs) {dx a : Addr} (h : H dx = some (.own a)) : ¬ Owned r st dx := fun e => by
  obtain ⟨_, _, sl, _, q⟩ := s.owned e
  obtain ⟨o, ho, ld⟩ := q.ld
  rw [h] at ho
  cases ho
  cases ld
theorem SIn.dkDx (s : SIn K g H0 Hs0 r f st H Hs) {dx : Addr} (h : H0 dx = none) : ¬ Dk.has g dx := by
  obtain ⟨f0, k⟩ := s.dk0
  exact k.out h
/-- the state with all slots to be read -/
theorem SIn.at (s : SIn K g H0 Hs0 r f st H Hs) : At K g r f st H (plus r st H Hs) := ⟨s.plusSub, s.plusDk, s.len, fun i sl d h1 h2 => by
  cases sl with
  | no => cases h2
  | sh e =>
    cases h2
    obtain ⟨v, h3, h4⟩ := s.sh i _ h1
    exact ⟨v, h3, h4.mono s.plusExt⟩
  | ow xs =>
    cases h2
    obtain ⟨a, h3, h4, h5, vs, h6, h7⟩ := s.ow i _ h1 rfl
    exact ⟨.ref a, h3, a, vs, rfl, by rw [plus_in ⟨i, _, h1, rfl, h3⟩]; exact h6, h7.mono s.plusExt⟩
  | od ks xs =>
    cases h2
    obtain ⟨a, h3, h4, h5, vs, h6, h7, h8⟩ := s.ow i _ h1 rfl
    exact ⟨.ref a, h3, a, vs, rfl, by rw [plus_in ⟨i, _, h1, rfl, h3⟩]; exact h6, h7, h8.mono s.plusExt⟩
  | oi b c ns xs => cases h2⟩
/-- the slots that own are hidden -/
def hide (r : Sg) : Sg := r.map fun s => if s.own then .no else s
theorem hide_get {i : Nat} : (hide r)[i]? = (r[i]?).map fun s => if s.own then .no else s := by unfold hide; rw [List.getElem?_map]
theorem SIn.atHid (s : SIn K g H0 Hs0 r f st H Hs) : At K g (hide r) f st H Hs := ⟨s.stp.sub, s.dk, by unfold hide; rw [List.length_map]; exact s.len, fun i sl d h1 h2 => by
  rw [hide_get] at h1
  cases e : r[i]? with
  | none => rw [e] at h1; cases h1
  | some u =>
    rw [e] at h1
    cases u with
    | no => cases h1; cases h2
    | sh d' => cases h1; cases h2; exact s.sh i _ e
    | ow xs => cases h1; cases h2
    | od ks xs => cases h1; cases h2
    | oi b c ns xs => cases h1; cases h2⟩
/-- behind an expression: the shared part without what slots own -/
theorem SIn.after (s : SIn K g H0 Hs0 r f st H Hs) (p : Stp g H (plus r st H Hs) H' Hs') (k : DkOk g H' Hs' f') : SIn K g H0 Hs0 r f' st H' (minus r st Hs') := by
  have ext : Same Hs (minus r st Hs') := fun a o h => by
    have no : ¬ Owned r st a := fun e => by rw [(s.owned e).1] at h; cases h
    rw [minus_out no]
    exact p.ext a o (s.plusExt a o h)
  have keepO : ∀ a, Owned r st a → H' a = H a := fun a e => by
    obtain ⟨_, _, sl, _, q⟩ := s.owned e
    obtain ⟨o, ho, _⟩ := q.ld
    rw [ho]
    exact p.keep a o ho (s.notDk e)
  refine ⟨s.len, s.dk0, ?_, ⟨?_, s.stp.ext.trans ext, fun a o h n => p.keep a o (s.stp.keep a o h n) n, fun a o h => ?_, fun a o h n => ?_⟩, fun i d h => ?_, fun i sl h1 h2 => ?_, s.inj⟩
  · cases g with
    | none => trivial
    | some d =>
      obtain ⟨k0, n1, n2, n3⟩ := k
      refine ⟨k0, ?_, ?_, ?_⟩
      · rw [minus_out fun e => s.notDk e (.inl rfl)]; exact n1
      · rw [minus_out fun e => s.notDk e (.inr (.inl rfl))]; exact n2
      · rw [minus_out fun e => s.notDk e (.inr (.inr rfl))]; exact n3
  · intro a o h
    by_cases e : Owned r st a
    · rw [minus_in e] at h; cases h
    · rw [minus_out e] at h; exact p.sub a o h
  · obtain ⟨o', h'⟩ := s.stp.there a o h
    exact p.there a o' h'
  · by_cases e : Owned r st a
    · exact minus_in e
    · rw [minus_out e]
      obtain ⟨o', h'⟩ := s.stp.there a o h
      refine p.new a o' h' ?_
      rw [plus_out e]
      exact s.stp.new a o h n
  · obtain ⟨v, h3, h4⟩ := s.sh i d h
    exact ⟨v, h3, h4.mono ext⟩
  · obtain ⟨a, h3, h4, h5, h6⟩ := s.ow i sl h1 h2
    have e : Owned r st a := ⟨i, sl, h1, h2, h3⟩
    refine ⟨a, h3, minus_in e, h5, ?_⟩
    cases sl with
    | ow xs => obtain ⟨vs, q1, q2⟩ := h6; exact ⟨vs, by rw [keepO a e]; exact q1, q2.mono ext⟩
    | od ks xs => obtain ⟨vs, q1, q2, q3⟩ := h6; exact ⟨vs, by rw [keepO a e]; exact q1, q2, q3.mono ext⟩
    | oi b c ns xs =>
      obtain ⟨qa, C, dx, vs, q0, q1, q2, q3, q4, q5, q6⟩ := h6
      have nd := s.notOwnedDx q2
      exact ⟨qa, C, dx, vs, q0, by rw [keepO a e]; exact q1, p.keep dx _ q2 (s.dkDx q4), by rw [minus_out nd]; exact p.new dx _ q2 (by rw [plus_out nd]; exact q3), q4, q5, q6.mono ext⟩
    | _ => exact h6.elim
theorem SIn.afterHid (s : SIn K g H0 Hs0 r f st H Hs) (p : Stp g H Hs H' Hs') (k : DkOk g H' Hs' f') : SIn K g H0 Hs0 r f' st H' Hs' := by
  have keepO : ∀ a, Owned r st a → H' a = H a := fun a e => by
    obtain ⟨_, _, sl, _, q⟩ := s.owned e
    obtain ⟨o, ho, _⟩ := q.ld
    rw [ho]
    exact p.keep a o ho (s.notDk e)
  refine ⟨s.len, s.dk0, k, s.stp.trans p, fun i d h => ?_, fun i sl h1 h2 => ?_, s.inj⟩
  · obtain ⟨v, h3, h4⟩ := s.sh i d h
    exact ⟨v, h3, h4.mono p.ext⟩
  · obtain ⟨a, h3, h4, h5, h6⟩ := s.ow i sl h1 h2
    have e : Owned r st a := ⟨i, sl, h1, h2, h3⟩
    obtain ⟨o, ho, _⟩ := h6.ld
    refine ⟨a, h3, p.new a o ho h4, h5, ?_⟩
    cases sl with
    | ow xs => obtain ⟨vs, q1, q2⟩ := h6; exact ⟨vs, by rw [keepO a e]; exact q1, q2.mono p.ext⟩
    | od ks xs => obtain ⟨vs, q1, q2, q3⟩ := h6; exact ⟨vs, by rw [keepO a e]; exact q1, q2, q3.mono p.ext⟩
    | oi b c ns xs =>
      obtain ⟨qa, C, dx, vs, q0, q1, q2, q3, q4, q5, q6⟩ := h6
      exact ⟨qa, C, dx, vs, q0, by rw [keepO a e]; exact q1, p.keep dx _ q2 (s.dkDx q4), p.new dx _ q2 q3, q4, q5, q6.mono p.ext⟩
    | _ => exact h6.elim
theorem SIn.flatV (s : SIn K g H0 Hs0 r f st H Hs) (p : Stp g H (plus r st H Hs) H' Hs') {d : D} {v : V} (fl : d.flat = true) (h : Rp K Hs' d v) : Rp K (minus r st Hs') d v :=
  h.flat (fun a o e l => by
    by_cases q : Owned r st a
    · obtain ⟨_, _, sl, _, w⟩ := s.owned q
      obtain ⟨o', ho, ld⟩ := w.ld
      have := p.keep a o' ho (s.notDk q)
      rw [p.sub a o e] at this
      cases this
      rw [ld] at l
      cases l
    · rw [minus_out q]; exact e) d v fl
/-- a slot is stored -/
theorem SIn.set (s : SIn K g H0 Hs0 r f st H Hs) (i : Nat) {d : D} {v : V} (h : Rp K Hs d v) : SIn K g H0 Hs0 (r.set i (.sh d)) f (st.set i (some v)) H Hs := by
  have low : ∀ (j : Nat) (u : Sl), (r.set i (.sh d))[j]? = some u → (j = i ∧ u = .sh d ∧ i < r.length) ∨ (j ≠ i ∧ r[j]? = some u) := fun j u e => by
    by_cases q : i = j
    · subst q
      by_cases hl : i < r.length
      · rw [List.getElem?_set_self hl] at e
        cases e
        exact .inl ⟨rfl, rfl, hl⟩
      · rw [List.getElem?_eq_none (by simpa using hl)] at e
        cases e
    · rw [List.getElem?_set_ne q] at e
      exact .inr ⟨fun z => q z.symm, e⟩
  refine ⟨by simp [s.len], s.dk0, s.dk, s.stp, fun j e hj => ?_, fun j u hj ho => ?_, fun j l u w a hj hl ho ho' h1 h2 => ?_⟩
  · rcases low j _ hj with ⟨rfl, q, hl⟩ | ⟨hne, q⟩
    · cases q
      exact ⟨v, List.getElem?_set_self (s.len ▸ hl), h⟩
    · rw [List.getElem?_set_ne (fun z => hne z.symm)]
      exact s.sh j e q
  · rcases low j u hj with ⟨rfl, q, hl⟩ | ⟨hne, q⟩
    · subst q; cases ho
    · rw [List.getElem?_set_ne (fun z => hne z.symm)]
      exact s.ow j u q ho
  · rcases low j u hj with ⟨rfl, q, hl'⟩ | ⟨hne, q⟩
    · subst q; cases ho
    · rcases low l w hl with ⟨rfl, q', hl'⟩ | ⟨hne', q'⟩
      · subst q'; cases ho'
      · rw [List.getElem?_set_ne (fun z => hne z.symm)] at h1
        rw [List.getElem?_set_ne (fun z => hne' z.symm)] at h2
        exact s.inj j l u w a q q' ho ho' h1 h2
theorem SIn.sets : ∀ {l : List (Nat × D)} {vs : List V} {r : Sg} {st : L2.St}, SIn K g H0 Hs0 r f st H Hs → RpA K Hs (l.map (·.2)) vs → SIn K g H0 Hs0 (setsR r l) f (setsV st (l.map (·.1)) vs) H Hs
  | [], _, _, _, h, _ => by
    have e : ∀ (st : L2.St) (vs : List V), setsV st [] vs = st := fun st vs => by cases vs <;> rfl
    show SIn K g H0 Hs0 _ f (setsV _ [] _) H Hs
    rw [e]
    exact h
  | (i, d) :: l, _, r, st, h, ⟨v, vr, h1, h2, h3⟩ => by
    subst h1
    show SIn K g H0 Hs0 (setsR (r.set i (.sh d)) l) f (setsV (st.set i (some v)) (l.map (·.1)) vr) H Hs
    exact SIn.sets (SIn.set h i h2) h3
/-- an object that is new belongs to a slot -/
theorem SIn.setOwn (s : SIn K g H0 Hs0 r f st H Hs) (i : Nat) {a : Addr} {u : Sl} (hu : u.own = true) (n0 : H0 a = none) (n1 : Hs a = none) (no : ∀ j s, j ≠ i → r[j]? = some s → s.own = true → st[j]? ≠ some (some (.ref a))) (h : OwAt K H0 H Hs a u) :
    SIn K g H0 Hs0 (r.set i u) f (st.set i (some (.ref a))) H Hs := by
  have low : ∀ (j : Nat) (w : Sl), (r.set i u)[j]? = some w → (j = i ∧ w = u ∧ i < r.length) ∨ (j ≠ i ∧ r[j]? = some w) := fun j w e => by
    by_cases q : i = j
    · subst q
      by_cases hl : i < r.length
      · rw [List.getElem?_set_self hl] at e
        cases e
        exact .inl ⟨rfl, rfl, hl⟩
      · rw [List.getElem?_eq_none (by simpa using hl)] at e
        cases e
    · rw [List.getElem?_set_ne q] at e
      exact .inr ⟨fun z => q z.symm, e⟩
  have self : ∀ {l : Nat}, l < r.length → (st.set l (some (.ref a)))[l]? = some (some (V.ref a)) := fun hl => List.getElem?_set_self (s.len ▸ hl)
  refine ⟨by simp [s.len], s.dk0, s.dk, s.stp, fun j e hj => ?_, fun j w hj ho => ?_, fun j l w w' b hj hl ho ho' h1 h2 => ?_⟩
  · rcases low j _ hj with ⟨rfl, q, hl⟩ | ⟨hne, q⟩
    · rw [← q] at hu; cases hu
    · rw [List.getElem?_set_ne (fun z => hne z.symm)]
      exact s.sh j e q
  · rcases low j w hj with ⟨rfl, q, hl⟩ | ⟨hne, q⟩
    · subst q
      exact ⟨a, self hl, n1, n0, h⟩
    · rw [List.getElem?_set_ne (fun z => hne z.symm)]
      exact s.ow j w q ho
  · rcases low j w hj with ⟨rfl, q, hl1⟩ | ⟨hne, q⟩
    · rcases low l w' hl with ⟨rfl, q', hl2⟩ | ⟨hne', q'⟩
      · rfl
      · rw [self hl1] at h1
        cases h1
        rw [List.getElem?_set_ne (fun z => hne' z.symm)] at h2
        exact absurd h2 (no l w' hne' q' ho')
    · rw [List.getElem?_set_ne (fun z => hne z.symm)] at h1
      rcases low l w' hl with ⟨rfl, q', hl2⟩ | ⟨hne', q'⟩
      · rw [self hl2] at h2
        cases h2
        exact absurd h1 (no j w hne q ho)
      · rw [List.getElem?_set_ne (fun z => hne' z.symm)] at h2
        exact s.inj j l w w' b q q' ho ho' h1 h2
/-- an owned object is changed -/
theorem SIn.mutOwn (s : SIn K g H0 Hs0 r f st H Hs) {i : Nat} {a : Addr} {w u : Sl} {o : HO} (hw : r[i]? = some w) (how : w.own = true) (hst : st[i]? = some (some (.ref a))) (hu : u.own = true) (h : OwAt K H0 (upd H a o) Hs a u) :
    SIn K g H0 Hs0 (r.set i u) f st (upd H a o) Hs := by
  have ho : Owned r st a := ⟨i, w, hw, how, hst⟩
  obtain ⟨n1, n0, _⟩ := s.owned ho
  have hil : i < r.length := (List.getElem?_eq_some_iff.mp hw).1
  have low : ∀ (j : Nat) (w : Sl), (r.set i u)[j]? = some w → (j = i ∧ w = u) ∨ (j ≠ i ∧ r[j]? = some w) := fun j w e => by
    by_cases q : i = j
    · subst q
      rw [List.getElem?_set_self hil] at e
      cases e
      exact .inl ⟨rfl, rfl⟩
    · rw [List.getElem?_set_ne q] at e
      exact .inr ⟨fun z => q z.symm, e⟩
  refine ⟨by simp [s.len], s.dk0, s.dk.mut (s.notDk ho), s.stp.mut n0 n1, fun j e hj => ?_, fun j w' hj ho' => ?_, fun j l x y b hj hl ho1 ho2 h1 h2 => ?_⟩
  · rcases low j _ hj with ⟨rfl, q⟩ | ⟨hne, q⟩
    · rw [← q] at hu; cases hu
    · exact s.sh j e q
  · rcases low j w' hj with ⟨rfl, q⟩ | ⟨hne, q⟩
    · subst q
      exact ⟨a, hst, n1, n0, h⟩
    · obtain ⟨b, h3, h4, h5, h6⟩ := s.ow j w' q ho'
      have hab : b ≠ a := fun e => by
        subst e
        exact hne (s.inj j i w' w b q hw ho' how h3 hst)
      refine ⟨b, h3, h4, h5, ?_⟩
      cases w' with
      | ow xs => obtain ⟨vs, q1, q2⟩ := h6; exact ⟨vs, by rw [upd_ne hab]; exact q1, q2⟩
      | od ks xs => obtain ⟨vs, q1, q2⟩ := h6; exact ⟨vs, by rw [upd_ne hab]; exact q1, q2⟩
      | oi b c ns xs =>
        obtain ⟨qa, C, dx, vs, q0, q1, q2, q3⟩ := h6
        have hda : dx ≠ a := fun z => s.notOwnedDx q2 (z ▸ ho)
        exact ⟨qa, C, dx, vs, q0, by rw [upd_ne hab]; exact q1, by rw [upd_ne hda]; exact q2, q3⟩
      | _ => exact h6.elim
  · have hx : ∃ x', r[j]? = some x' ∧ x'.own = true := by
      rcases low j x hj with ⟨rfl, _⟩ | ⟨_, q⟩
      · exact ⟨w, hw, how⟩
      · exact ⟨x, q, ho1⟩
    have hy : ∃ x', r[l]? = some x' ∧ x'.own = true := by
      rcases low l y hl with ⟨rfl, _⟩ | ⟨_, q⟩
      · exact ⟨w, hw, how⟩
      · exact ⟨y, q, ho2⟩
    obtain ⟨x', hx1, hx2⟩ := hx
    obtain ⟨y', hy1, hy2⟩ := hy
    exact s.inj j l x' y' b hx1 hy1 hx2 hy2 h1 h2
/-- what a slot owns is shared from now on -/
def frz1 : Sl → Sl
  | .ow xs => .sh (.lst xs)
  | .od ks xs => .sh (.dct ks xs)
  | s => s
def frz (r : Sg) (l : List Nat) : Sg := l.foldl (fun r i => match r[i]? with | some s => r.set i (frz1 s) | none => r) r
theorem SIn.frz1 (s : SIn K g H0 Hs0 r f st H Hs) {i : Nat} {w : Sl} (hw : r[i]? = some w) : ∃ Hs', SIn K g H0 Hs0 (r.set i (frz1 w)) f st H Hs' := by
  have same : ∀ w', w = w' → (r.set i w') = r := fun w' e => by
    subst e
    obtain ⟨hl, e⟩ := List.getElem?_eq_some_iff.mp hw
    rw [← e, List.set_getElem_self]
  by_cases hoi : DL.frz1 w = w
  · rw [hoi, same w rfl]; exact ⟨Hs, s⟩
  by_cases how : w.own = true
  · obtain ⟨a, hst, n1, n0, hat⟩ := s.ow i w hw how
    obtain ⟨o, ho, ld⟩ := hat.ld
    have own : Owned r st a := ⟨i, w, hw, how, hst⟩
    have ext : Same Hs (upd Hs a o) := fun b u e => by rw [upd_ne (ne_of_none e n1)]; exact e
    have hil : i < r.length := (List.getElem?_eq_some_iff.mp hw).1
    have hd : ∃ d, DL.frz1 w = .sh d ∧ Rp K (upd Hs a o) d (.ref a) := by
      cases w with
      | ow xs =>
        obtain ⟨vs, q1, q2⟩ := hat
        rw [q1] at ho; cases ho
        exact ⟨_, rfl, a, vs, rfl, upd_same, q2.mono ext⟩
      | od ks xs =>
        obtain ⟨vs, q1, q2, q3⟩ := hat
        rw [q1] at ho; cases ho
        exact ⟨_, rfl, a, vs, rfl, upd_same, q2, q3.mono ext⟩
      | oi b c ns xs => exact absurd rfl hoi
      | _ => cases how
    obtain ⟨d, ed, hd⟩ := hd
    rw [ed]
    have low : ∀ (j : Nat) (w' : Sl), (r.set i (.sh d))[j]? = some w' → (j = i ∧ w' = .sh d) ∨ (j ≠ i ∧ r[j]? = some w') := fun j w' e => by
      by_cases q : i = j
      · subst q
        rw [List.getElem?_set_self hil] at e
        cases e
        exact .inl ⟨rfl, rfl⟩
      · rw [List.getElem?_set_ne q] at e
        exact .inr ⟨fun z => q z.symm, e⟩
    refine ⟨upd Hs a o, by simp [s.len], s.dk0, s.dk.share (s.notDk own), s.stp.share n0 ho n1, fun j e hj => ?_, fun j w' hj ho' => ?_, fun j l x y b hj hl ho1 ho2 h1 h2 => ?_⟩
    · rcases low j _ hj with ⟨rfl, q⟩ | ⟨hne, q⟩
      · cases q
        exact ⟨.ref a, hst, hd⟩
      · obtain ⟨v, h3, h4⟩ := s.sh j e q
        exact ⟨v, h3, h4.mono ext⟩
    · rcases low j w' hj with ⟨rfl, q⟩ | ⟨hne, q⟩
      · subst q; cases ho'
      · obtain ⟨b, h3, h4, h5, h6⟩ := s.ow j w' q ho'
        have hab : b ≠ a := fun e => by
          subst e
          exact hne (s.inj j i w' w b q hw ho' how h3 hst)
        refine ⟨b, h3, by rw [upd_ne hab]; exact h4, h5, ?_⟩
        cases w' with
        | ow xs => obtain ⟨vs, q1, q2⟩ := h6; exact ⟨vs, q1, q2.mono ext⟩
        | od ks xs => obtain ⟨vs, q1, q2, q3⟩ := h6; exact ⟨vs, q1, q2, q3.mono ext⟩
        | oi b c ns xs =>
          obtain ⟨qa, C, dx, vs, q0, q1, q2, q3, q4, q5, q6⟩ := h6
          have hda : dx ≠ a := fun z => s.notOwnedDx q2 (z ▸ own)
          exact ⟨qa, C, dx, vs, q0, q1, q2, by rw [upd_ne hda]; exact q3, q4, q5, q6.mono ext⟩
        | _ => exact h6.elim
    · rcases low j x hj with ⟨rfl, q⟩ | ⟨_, q⟩
      · subst q; cases ho1
      · rcases low l y hl with ⟨rfl, q'⟩ | ⟨_, q'⟩
        · subst q'; cases ho2
        · exact s.inj j l x y b q q' ho1 ho2 h1 h2
  · have : DL.frz1 w = w := by cases w <;> first | rfl | exact absurd rfl how
    rw [this, same w rfl]
    exact ⟨Hs, s⟩
theorem SIn.frz : ∀ (l : List Nat) {r : Sg} {Hs : Hp}, SIn K g H0 Hs0 r f st H Hs → ∃ Hs', SIn K g H0 Hs0 (frz r l) f st H Hs'
  | [], _, _, s => ⟨_, s⟩
  | i :: l, r, Hs, s => by
    show ∃ Hs', SIn K g H0 Hs0 (DL.frz (match r[i]? with | some s => r.set i (DL.frz1 s) | none => r) l) f st H Hs'
    cases e : r[i]? with
    | none => exact SIn.frz l s
    | some w =>
      obtain ⟨Hs1, s1⟩ := s.frz1 e
      exact SIn.frz l s1
end
end DL
namespace DL
open PySem PySem.Spec PyProof.Rows L2
section
variable {X : Cx} {K : PySem.W.Frag} {W : WX}
theorem SIn.stpPlus {g : Option Dk} {H0 Hs0 : Hp} {r : Sg} {f : Nat} {st : L2.St} {H Hs : Hp} (s : SIn K g H0 Hs0 r f st H Hs) : Stp g H0 Hs0 H (plus r st H Hs) where
  sub := s.plusSub
  ext := s.stp.ext.trans s.plusExt
  keep := s.stp.keep
  there := s.stp.there
  new := fun a o h n => by
    have no : ¬ Owned r st a := fun e => by rw [(s.owned e).2.1] at h; cases h
    rw [plus_out no]
    exact s.stp.new a o h n
theorem SIn.afterExt {g : Option Dk} {H0 Hs0 : Hp} {r : Sg} {f : Nat} {st : L2.St} {H Hs H' Hs' : Hp} (s : SIn K g H0 Hs0 r f st H Hs) (p : Stp g H (plus r st H Hs) H' Hs') : Same Hs (minus r st Hs') := fun a o h => by
  have no : ¬ Owned r st a := fun e => by rw [(s.owned e).1] at h; cases h
  rw [minus_out no]
  exact p.ext a o (s.plusExt a o h)
/-! another base: what is shared now is to stay -/
def mix (Hb H0 : Hp) : Hp := fun a => match Hb a with
  | some o => some o
  | none => H0 a
theorem mix_some {Hb H0 : Hp} {a : Addr} {o : HO} (h : Hb a = some o) : mix Hb H0 a = some o := by unfold mix; rw [h]
theorem mix_none {Hb H0 : Hp} {a : Addr} (h : Hb a = none) : mix Hb H0 a = H0 a := by unfold mix; rw [h]
theorem Stp.unmix {g : Option Dk} {H0 Hs0 H1 Hb H Hs : Hp} (p : Stp g H0 Hs0 H1 Hb) (q : Stp g (mix Hb H0) Hb H Hs) : Stp g H0 Hs0 H Hs where
  sub := q.sub
  ext := p.ext.trans q.ext
  keep := fun a o h n => by
    cases e : Hb a with
    | none => exact q.keep a o (by rw [mix_none e]; exact h) n
    | some o' =>
      have e1 := p.keep a o h n
      rw [p.sub a o' e] at e1
      cases e1
      exact q.keep a o (mix_some e) n
  there := fun a o h => by
    cases e : Hb a with
    | none => exact q.there a o (by rw [mix_none e]; exact h)
    | some o' => exact q.there a o' (mix_some e)
  new := fun a o h n => by
    have nb := p.new a o h n
    exact q.new a o (by rw [mix_none nb]; exact h) nb
theorem OwAt.reb {H0 H0' H Hs : Hp} {a : Addr} {sl : Sl} (e : ∀ dx, H0 dx = none → Hs dx = none → H0' dx = none) (h : OwAt K H0 H Hs a sl) : OwAt K H0' H Hs a sl := by
  cases sl with
  | oi b c ns xs =>
    obtain ⟨qa, C, dx, vs, q0, q1, q2, q3, q4, q5⟩ := h
    exact ⟨qa, C, dx, vs, q0, q1, q2, q3, e dx q4 q3, q5⟩
  | _ => exact h
theorem SIn.rebase {g : Option Dk} {H0 Hs0 Hb : Hp} {r : Sg} {f : Nat} {st : L2.St} {H Hs : Hp} (s : SIn K g H0 Hs0 r f st H Hs) (h1 : Same Hs0 Hb) (h2 : Same Hb Hs) : SIn K g (mix Hb H0) Hb r f st H Hs where
  len := s.len
  dk0 := by
    obtain ⟨f0, k⟩ := s.dk0
    refine ⟨f0, ?_⟩
    have kk := s.dk
    cases g with
    | none => trivial
    | some d =>
      obtain ⟨_, m1, m2, m3⟩ := kk
      have n1 := same_none h2 m1
      have n2 := same_none h2 m2
      have n3 := same_none h2 m3
      obtain ⟨⟨e1, e2, e3, n', xs, ys, k1, k2, k3, k4⟩, _⟩ := k
      exact ⟨⟨e1, e2, e3, n', xs, ys, by rw [mix_none n1]; exact k1, by rw [mix_none n2]; exact k2, by rw [mix_none n3]; exact k3, k4⟩, n1, n2, n3⟩
  dk := s.dk
  stp := by
    refine ⟨s.stp.sub, h2, fun a o h n => ?_, fun a o h => ?_, fun a o h n => ?_⟩
    · cases e : Hb a with
      | none => rw [mix_none e] at h; exact s.stp.keep a o h n
      | some o' => rw [mix_some e] at h; cases h; exact s.stp.sub a o (h2 a o e)
    · cases e : Hb a with
      | none => rw [mix_none e] at h; exact s.stp.there a o h
      | some o' => exact ⟨o', s.stp.sub a o' (h2 a o' e)⟩
    · rw [mix_none n] at h
      exact s.stp.new a o h (same_none h1 n)
  sh := s.sh
  ow := fun i sl hi ho => by
    obtain ⟨a, q1, q2, q3, q4⟩ := s.ow i sl hi ho
    exact ⟨a, q1, q2, by rw [mix_none (same_none h2 q2)]; exact q3, q4.reb fun dx z1 z2 => by rw [mix_none (same_none h2 z2)]; exact z1⟩
  inj := s.inj
theorem SIn.unbase {g : Option Dk} {H0 Hs0 H1 Hb : Hp} {r : Sg} {f : Nat} {st : L2.St} {H Hs : Hp} (p : Stp g H0 Hs0 H1 Hb) (k : ∃ f0, DkOk g H0 Hs0 f0) (s : SIn K g (mix Hb H0) Hb r f st H Hs) : SIn K g H0 Hs0 r f st H Hs where
  len := s.len
  dk0 := k
  dk := s.dk
  stp := p.unmix s.stp
  sh := s.sh
  ow := fun i sl hi ho => by
    obtain ⟨a, q1, q2, q3, q4⟩ := s.ow i sl hi ho
    exact ⟨a, q1, q2, by rw [mix_none (same_none s.stp.ext q2)] at q3; exact q3, q4.reb fun dx z1 z2 => by rw [mix_none (same_none s.stp.ext z2)] at z1; exact z1⟩
  inj := s.inj
/-- an expression's value, flat with all slots in sight (true), or any with the owning slots hidden (false) -/
def evM (m : Bool) (dl : DT) : DT := fun g r f Q => match m with
  | true => dl g r f fun d f' => d.flat = true ∧ Q d f'
  | false => dl g (hide r) f Q
theorem snd_evM {t : TE} {dl : DT} (h : Snd K t dl) {m : Bool} {g : Option Dk} {H0 Hs0 : Hp} {r : Sg} {f : Nat} {st : L2.St} {H Hs : Hp} {Q : VK} {Q' : QD} (s : SIn K g H0 Hs0 r f st H Hs)
    (hq : ∀ d f' v H' Hs', SIn K g H0 Hs0 r f' st H' Hs' → Same Hs Hs' → Rp K Hs' d v → Q' d f' → Q v H') (hd : evM m dl g r f Q') : t st H Q := by
  cases m with
  | true => exact h g r f st H _ Q _ s.at (fun d f' v H' Hs' p k hr q => hq d f' v H' _ (s.after p k) (s.afterExt p) (s.flatV p q.1 hr) q.2) hd
  | false => exact h g (hide r) f st H _ Q Q' s.atHid (fun d f' v H' Hs' p k hr q => hq d f' v H' _ (s.afterHid p k) p.ext hr q) hd
/-- a new list's items, flat with all slots in sight, or any with the owning slots hidden -/
def evL (m : Bool) (dl : DTA) : DTA := fun g r f Q => match m with
  | true => dl g r f fun ds f' => flatA ds = true ∧ Q ds f'
  | false => dl g (hide r) f Q
theorem Stp.none0 {g : Option Dk} {H Hs H' Hs' : Hp} (s : Stp g H Hs H' Hs') {p : Addr} (h : H' p = none) : H p = none := none_back s h
theorem snd_evL {t : TE} {dl : DTA} (h : SndL K t dl) {m : Bool} {g : Option Dk} {H0 Hs0 : Hp} {r : Sg} {f : Nat} {st : L2.St} {H Hs : Hp} {Q : VK} {Q' : List D → Nat → Prop} (s : SIn K g H0 Hs0 r f st H Hs)
    (hq : ∀ ds f' p vs H' Hs', SIn K g H0 Hs0 r f' st H' Hs' → H p = none → Hs' p = none → H0 p = none → H' p = some (.lst vs) → RpA K Hs' ds vs → (∀ (j : Nat) (sl : Sl), r[j]? = some sl → sl.own = true → st[j]? ≠ some (some (.ref p))) → Q' ds f' → Q (.ref p) H') (hd : evL m dl g r f Q') : t st H Q := by
  have notO : ∀ p, H p = none → ∀ (j : Nat) (sl : Sl), r[j]? = some sl → sl.own = true → st[j]? ≠ some (some (.ref p)) := fun p hp j sl h1 h2 h3 => by
    obtain ⟨a, e, _, _, q⟩ := s.ow j sl h1 h2
    rw [h3] at e
    cases e
    obtain ⟨o, ho, _⟩ := q.ld
    rw [hp] at ho; cases ho
  cases m with
  | true => exact h g r f st H _ Q _ s.at (fun ds f' p vs H' Hs' sp k n0 n1 e hr q => by
      have no : ¬ Owned r st p := fun ⟨j, sl, h1, h2, h3⟩ => notO p n0 j sl h1 h2 h3
      refine hq ds f' p vs H' _ (s.after sp k) n0 (by rw [minus_out no]; exact n1) (s.stp.none0 n0) e ?_ (notO p n0) q.2
      exact hr.flat (fun a o e l => by
        by_cases w : Owned r st a
        · obtain ⟨_, _, sl, _, u⟩ := s.owned w
          obtain ⟨o', ho, ld⟩ := u.ld
          have := sp.keep a o' ho (s.notDk w)
          rw [sp.sub a o e] at this
          cases this
          rw [ld] at l
          cases l
        · rw [minus_out w]; exact e) ds vs q.1) hd
  | false => exact h g (hide r) f st H _ Q Q' s.atHid (fun ds f' p vs H' Hs' sp k n0 n1 e hr q => hq ds f' p vs H' _ (s.afterHid sp k) n0 n1 (s.stp.none0 n0) e hr (notO p n0) q) hd
/-! blocks -/
def sNext : DTS := fun _ r f E => E.nx r f
def sSeq (a b : DTS) : DTS := fun g r f E => a g r f { E with nx := fun r' f' => b g r' f' E }
theorem dss_nil : DSs X [] sNext := .mk' (pss_nil) (fun g H0 Hs0 r f st H D E s e h => e.nx r f st H s h)
theorem dss_one {st : Stmt} {d : DTS} (h : DS X st d) : DSs X [st] d := .mk' (pss_one h.ps) (h.sn)
theorem dss_cons {st : Stmt} {rest : List Stmt} {d e : DTS} (h1 : DS X st d) (h2 : DSs X rest e) : DSs X (st :: rest) (sSeq d e) := .mk' (pss_cons h1.ps h2.ps) (fun g H0 Hs0 r f st H D E s e h =>
  h1.sn g H0 Hs0 r f st H _ { E with nx := fun r' f' => _ } s ⟨fun r' f' st' H' s' h' => h2.sn g H0 Hs0 r' f' st' H' D E s' e h', e.rt, e.bk, e.ct, e.xc⟩ h)
def sNever : DTS := fun _ _ _ _ => False
theorem ds_never {st : Stmt} : DS X st sNever := .mk' (ps_never) (fun _ _ _ _ _ _ _ _ _ _ _ h => h)
def sIf (c : DTT) (a b : DTS) : DTS := fun g r f E => c g r f fun k f1 => if k = true then a g r f1 E else b g r f1 E
theorem ds_if {c : Expr} {a b : List Stmt} {pos : Pos} {dc : DTT} {d e : DTS} (hc : DP X c dc) (ha : DSs X a d) (hb : DSs X b e) : DS X (.If c a b pos) (sIf dc d e) := .mk' (ps_if hc.pt ha.ps hb.ps) (fun g H0 Hs0 r f st H D E s e h => by
  obtain ⟨Hs, s⟩ := s
  refine hc.sn g r f st H _ _ _ s.at (fun k f1 H1 Hs1 s1 k1 q1 => ?_) h
  cases k with
  | true => exact ha.sn g H0 Hs0 r f1 st H1 D E ⟨_, s.after s1 k1⟩ e q1
  | false => exact hb.sn g H0 Hs0 r f1 st H1 D E ⟨_, s.after s1 k1⟩ e q1)
def sRet (dl : DT) : DTS := fun g r f E => dl g r f E.rt
theorem ds_ret {e : Expr} {pos : Pos} {d : DT} (h : DE X e d) : DS X (.Return (some e) pos) (sRet d) := .mk' (ps_ret h.pe) (fun g H0 Hs0 r f st H D E s e hd => by
  obtain ⟨Hs, s⟩ := s
  exact h.sn g r f st H _ _ _ s.at (fun d f1 v H1 Hs1 s1 k1 r1 q1 => e.rt d f1 v H1 Hs1 (s.stpPlus.trans s1) k1 r1 q1) hd)
/-! assignments -/
def sSet (m : Bool) (i : Nat) (dl : DT) : DTS := fun g r f E => evM m dl g r f fun d f' => E.nx (r.set i (.sh d)) f'
theorem snd_set {m : Bool} {i : Nat} {t : TE} {d : DT} (h : Snd K t d) : SndS K W (tAsg t (gName i)) (sSet m i d) := fun g H0 Hs0 r f st H D E s e hd => by
  obtain ⟨Hs, s⟩ := s
  exact snd_evM h s (fun d f' v H' Hs' s' _ hr q => e.nx _ f' _ H' ⟨_, s'.set i hr⟩ q) hd
theorem ds_set (m : Bool) {i : Nat} {x : Str} {e : Expr} {pos pos' : Pos} {d : DT} (hN : X.N.Nodup) (h : DE X e d) (hi : X.N[i]? = some x := by rfl) (hx : Loc X.env.scope x := by first | exact Or.inl rfl | exact Or.inr rfl)
    (hs : swapsWith e (some (.Name x pos')) pos.line X.env = pure false := by rfl) (hf : X.fn x = true ∨ X.env.scope.names.lookup x = some .local := by first | exact .inl rfl | exact .inr rfl | assumption) :
    DS X (.Assign [.Name x pos'] e pos) (sSet m i d) := .mk' (ps_set hN hi hx h.pe hs hf) (snd_set h.sn)
def sSetL (m : Bool) (i : Nat) (dl : DTA) : DTS := fun g r f E => evL m dl g r f fun ds f' => E.nx (r.set i (.ow ds)) f'
theorem snd_setL {m : Bool} {i : Nat} {t : TE} {d : DTA} (h : SndL K t d) : SndS K W (tAsg t (gName i)) (sSetL m i d) := fun g H0 Hs0 r f st H D E s e hd => by
  obtain ⟨Hs, s⟩ := s
  exact snd_evL h s (fun ds f' p vs H' Hs' s' n n1 n0 hp hr no q => e.nx _ f' _ H' ⟨_, s'.setOwn i (u := .ow ds) rfl n0 n1 (fun j sl _ h1 h2 => no j sl h1 h2) ⟨vs, hp, hr⟩⟩ q) hd
theorem ds_setL (m : Bool) {i : Nat} {x : Str} {e : Expr} {pos pos' : Pos} {d : DTA} (hN : X.N.Nodup) (h : DL' X e d) (hi : X.N[i]? = some x := by rfl) (hx : Loc X.env.scope x := by first | exact Or.inl rfl | exact Or.inr rfl)
    (hs : swapsWith e (some (.Name x pos')) pos.line X.env = pure false := by rfl) (hf : X.fn x = true ∨ X.env.scope.names.lookup x = some .local := by first | exact .inl rfl | exact .inr rfl | assumption) :
    DS X (.Assign [.Name x pos'] e pos) (sSetL m i d) := .mk' (ps_set hN hi hx h.pe hs hf) (snd_setL h.sn)
/-- y = [..] on one line -/
theorem ds_setLc {i : Nat} {y : Str} {py : Pos} {elt tg iter : Expr} {ifs : List Expr} {scope : Scope} {own : List (Str × Nat)} {pos spos : Pos} {is : List Nat} {di : DTA} {t : TgF} {c : DTT} {e : DT} {dl : DTS} (hN : X.N.Nodup) (hi : DI X tg iter di) (ok : BlkOk X.N X.env.scope scope own)
    (hg : ∀ (s : Shared) (H : Hp) (C : Addr) (cl : List (Str × Addr)) (fp : List Addr), DG (X.blk s H scope (compEnvC scope cl C X.env) fp) tg is t) (ht : ∀ (s : Shared) (H : Hp) (C : Addr) (cl : List (Str × Addr)) (fp : List Addr), DTs (X.blk s H scope (compEnvC scope cl C X.env) fp) ifs c)
    (he : ∀ (s : Shared) (H : Hp) (C : Addr) (cl : List (Str × Addr)) (fp : List Addr), DE (X.blk s H scope (compEnvC scope cl C X.env) fp) elt e)
    (hsn : ∀ (K : PySem.W.Frag) (W : WX) (t' : TE), SndL K t' (dLc di t c e (own.map (·.2))) → SndS K W (tAsg t' (gName i)) dl)
    (hy : X.N[i]? = some y := by rfl) (hyl : X.env.scope.names.lookup y = some .local := by rfl) (hc : X.calm = true := by rfl)
    (hsw : swapsWith (.ListComp elt [⟨tg, iter, ifs, 0⟩] scope pos) (some (.Name y py)) spos.line X.env = pure true := by exact sw_true rfl rfl rfl (by decide +kernel)) (hs : ∀ x, foldedSetIterable iter X.env x = pure x := by intro _; rfl) (hsub : ∀ j ∈ is, j ∈ own.map (·.2) := by decide) :
    DS X (.Assign [.Name y py] (.ListComp elt [⟨tg, iter, ifs, 0⟩] scope pos) spos) dl :=
  DS.mk' (ps_setLc (g := gOf X.K is t) (tt := tOfT X.K c) (te := tOf X.K e) hc hN hy hyl hsw hi.pi ok (fun s H C cl fp => (hg s H C cl fp).pg) (fun s H C cl fp => (ht s H C cl fp).pt) (fun s H C cl fp => (he s H C cl fp).pe) hs)
    (hsn X.K _ _ (snd_lc hi.sn (hg X.s_0 (fun _ => none) 0 [] []).sn (ht X.s_0 (fun _ => none) 0 [] []).sn (he X.s_0 (fun _ => none) 0 [] []).sn hsub))
/-- target = value: a tuple taken apart -/
def sAsg (m : Bool) (dl : DT) (t : TgF) : DTS := fun g r f E => evM m dl g r f fun d f' => match t d with
  | some l => E.nx (setsR r l) f'
  | none => False
theorem ds_asg (m : Bool) {tg e : Expr} {pos : Pos} {is : List Nat} {d : DT} {t : TgF} (h : DE X e d) (hg : DG X tg is t) (hs : swapsWithSole [tg] e pos.line X.env = pure false := by rfl) (hw : swappedStores [tg] e X.env = pure none := by rfl) (h1 : (assignEach [tg] X.env).map (·.2) = [assign tg X.env] := by rfl) : DS X (.Assign [tg] e pos) (sAsg m d t) :=
  .mk' (ps_asg h.pe hg.pg hs hw h1) (fun g H0 Hs0 r f st H D E s e hd => by
    obtain ⟨Hs, s⟩ := s
    refine snd_evM h.sn s (fun d f' v H' Hs' s' _ hr q => ?_) hd
    cases et : t d with
    | none => rw [et] at q; exact q.elim
    | some l =>
      rw [et] at q
      refine hg.sn.2 H' Hs' st d v _ l s'.stp.sub hr et fun vs hv => ?_
      have s2 := s'.sets hv
      rw [hg.sn.1 d l et] at s2
      exact e.nx _ f' _ H' ⟨_, s2⟩ q)
/-- a, b = e1, e2 -/
def sPar (m : Bool) (i j : Nat) (a b : DT) : DTS := fun g r f E => evM m a g r f fun x f1 => evM m b g r f1 fun y f2 => E.nx ((r.set i (.sh x)).set j (.sh y)) f2
theorem ds_par (m : Bool) {i j : Nat} {x y : Str} {a b : Expr} {da db : DT} {px py pt : Pos} {kt k2 : Nat} {pt2 pos : Pos} (hN : X.N.Nodup) (ha : DE X a da) (hb : DE X b db) (hc : X.calm = true := by rfl) (hi : X.N[i]? = some x := by rfl) (hj : X.N[j]? = some y := by rfl) (hij : i ≠ j := by decide)
    (hx : X.env.scope.names.lookup x = some .local := by rfl) (hy : X.env.scope.names.lookup y = some .local := by rfl) (hst : starEach [a, b] X.env = (false, eval a X.env) :: starEach [b] X.env := by rfl) (hst2 : starEach [b] X.env = [(false, eval b X.env)] := by rfl)
    (hw : swappedStores [.Tuple [.Name x px, .Name y py] kt pt] (.Tuple [a, b] k2 pt2) X.env = pure (some [x, y]) := by rfl)
    (hs : swapsWithSole [.Tuple [.Name x px, .Name y py] kt pt] (.Tuple [a, b] k2 pt2) pos.line X.env = pure false := by rfl) :
    DS X (.Assign [.Tuple [.Name x px, .Name y py] kt pt] (.Tuple [a, b] k2 pt2) pos) (sPar m i j da db) := DS.mk' (ps_par hc hN hi hj hij hx hy (pa_cons ha.pe (pa_cons hb.pe pa_nil hst2) hst) hw hs) (fun g H0 Hs0 r f st H D E s e hd => by
  obtain ⟨Hs, s⟩ := s
  refine snd_evM ha.sn s (fun x f1 v H1 Hs1 s1 _ r1 q1 => ?_) hd
  refine snd_evM hb.sn s1 (fun y f2 w H2 Hs2 s2 e2 r2 q2 => ?_) q1
  exact ⟨v, w, rfl, e.nx _ f2 _ H2 ⟨_, (s2.set i (r1.mono e2)).set j r2⟩ q2⟩)
/-! loops -/
def dForGo (g : Option Dk) (t : TgF) (body : DTS) (E : DEnds) : List D → Sg → Nat → Prop
  | [], r, f => E.nx r f
  | d :: ds, r, f => match t d with
    | none => False
    | some l => body g (setsR r l) f { E with nx := fun r' f' => dForGo g t body E ds r' f', ct := fun r' f' => dForGo g t body E ds r' f', bk := E.nx }
def sFor (fz : List Nat) (i : DTA) (t : TgF) (body : DTS) : DTS := fun g r f E => i g (hide (frz r fz)) f fun ds f1 => dForGo g t body E ds (frz r fz) f1
theorem snd_for {fz : List Nat} {wi : TI} {gt : TG} {tb : TS} {is : List Nat} {i : DTA} {t : TgF} {body : DTS} (hi : SndI K wi i) (hg : SndG K is gt t) (hb : SndS K W tb body) : SndS K W (tFor wi gt tb) (sFor fz i t body) := fun g H0 Hs0 r f st H D E s e hd => by
  obtain ⟨Hs, s⟩ := s
  obtain ⟨Hs, s⟩ := s.frz fz
  refine hi g _ f st H Hs _ _ s.atHid (fun ds f1 J H1 Hs1 s1 k1 wk q1 => ?_) hd
  have sb := s.afterHid s1 k1
  refine ⟨fun i m st2 H2 => m = ds.length - i ∧ i ≤ ds.length ∧ ∃ r2 f2 Hs2, SIn K g H0 Hs0 r2 f2 st2 H2 Hs2 ∧ Same Hs1 Hs2 ∧ dForGo g t body E (ds.drop i) r2 f2, ⟨ds.length, rfl, Nat.zero_le _, _, f1, Hs1, sb, Same.refl _, q1⟩, ?_⟩
  rintro i m st2 H2 ⟨rfl, hil, r2, f2, Hs2, s2, e2, q2⟩
  by_cases hlt : i < ds.length
  · have hgd : ds[i]? = some ds[i] := List.getElem?_eq_getElem hlt
    have hdr : ds.drop i = ds[i] :: ds.drop (i + 1) := List.drop_eq_getElem_cons hlt
    rw [hdr] at q2
    obtain ⟨hgo, hy⟩ := wk.go i _ H2 Hs2 e2 s2.stp.sub hgd
    refine .inr ⟨hgo, fun st3 H3 => i + 1 ≤ ds.length ∧ ∃ r2 f2 Hs2, SIn K g H0 Hs0 r2 f2 st3 H3 Hs2 ∧ Same Hs1 Hs2 ∧ dForGo g t body E (ds.drop (i + 1)) r2 f2, fun st3 H3 h3 => ⟨_, by omega, rfl, h3⟩, fun x H3 hx => ?_⟩
    obtain ⟨Hs3, s3, r3⟩ := hy x H3 hx
    simp only [dForGo] at q2
    cases et : t ds[i] with
    | none => rw [et] at q2; exact q2.elim
    | some l =>
      rw [et] at q2
      replace q2 : body g (setsR r2 l) f2 { E with nx := fun r' f' => dForGo g t body E (ds.drop (i + 1)) r' f', ct := fun r' f' => dForGo g t body E (ds.drop (i + 1)) r' f', bk := E.nx } := q2
      have s2' := s2.afterHid s3.gen (s2.dk.stp s3)
      refine hg.2 H3 Hs3 _ _ x _ l s3.sub r3 et fun us hus => ?_
      have s4 := s2'.sets hus
      rw [hg.1 _ l et] at s4
      have s5 := s4.rebase sb.stp.ext (e2.trans s3.ext)
      refine hb g _ _ _ f2 _ H3 _ { E with nx := fun r' f' => dForGo g t body E (ds.drop (i + 1)) r' f', ct := fun r' f' => dForGo g t body E (ds.drop (i + 1)) r' f', bk := E.nx } ⟨_, s5⟩ ⟨fun r' f' st' H' q h => ?_, fun d f' v H' Hs' p k hr h => e.rt d f' v H' Hs' (sb.stp.unmix p) k hr h, fun r' f' st' H' q h => ?_, fun r' f' st' H' q h => ?_, fun x' r' f' st' H' cls d' q h => ?_⟩ q2
      · obtain ⟨Hs6, q⟩ := q
        exact ⟨hlt, r', f', Hs6, q.unbase sb.stp s.dk0, q.stp.ext, h⟩
      · obtain ⟨Hs6, q⟩ := q
        exact e.nx r' f' st' H' ⟨_, q.unbase sb.stp s.dk0⟩ h
      · obtain ⟨Hs6, q⟩ := q
        exact ⟨hlt, r', f', Hs6, q.unbase sb.stp s.dk0, q.stp.ext, h⟩
      · obtain ⟨Hs6, q, q'⟩ := q
        exact e.xc x' r' f' st' H' cls d' ⟨_, q.unbase sb.stp s.dk0, q'⟩ h
  · have ei : i = ds.length := by omega
    subst ei
    rw [List.drop_length] at q2
    exact .inl ⟨wk.stop H2 (fun a o h => s2.stp.sub a o (e2 a o h)), e.nx r2 f2 st2 H2 ⟨_, s2⟩ q2⟩
theorem ds_for (fz : List Nat) {tg iter : Expr} {body : List Stmt} {pos : Pos} {is : List Nat} {i : DTA} {t : TgF} {db : DTS} (hp : PassesOwn (model X.prog X.w) X.A X.env X.xe) (hi : DI X tg iter i) (hg : DG X tg is t) (hb : DSs X body db) (hc : X.calm = true := by rfl)
    (hs : ∀ x, foldedSetIterable iter X.env x = pure x := by intro _; rfl) : DS X (.For tg iter body [] pos) (sFor fz i t db) := .mk' (ps_for hp hc hi.pi hg.pg hb.ps hs) (snd_for hi.sn hg.sn hb.sn)
/-! stores into what a slot owns -/
def sApp (m : Bool) (i : Nat) (dl : DT) : DTS := fun g r f E => ∃ xs, r[i]? = some (.ow xs) ∧ evM m dl g r f fun d f' => xs.length ≤ lim ∧ E.nx (r.set i (.ow (xs ++ [d]))) f'
theorem snd_app {m : Bool} {i : Nat} {t : TE} {d : DT} (h : Snd K t d) : SndS K W (tDrop (tBM K "list" rAppend (tVar i) (tCons t tNil))) (sApp m i d) := fun g H0 Hs0 r f st H D E s e hd => by
  obtain ⟨Hs, s⟩ := s
  obtain ⟨xs, hx, hd⟩ := hd
  obtain ⟨a, ha, n1, n0, vs, hv, hr⟩ := s.ow i _ hx rfl
  refine ⟨.ref a, ha, .inl ⟨rfl, vs, SqL.of hv⟩, ?_⟩
  refine snd_evM h s (fun d f' v H' Hs' s' _ hr' q => ?_) hd
  obtain ⟨hl, q⟩ := q
  obtain ⟨a', ha', n1', n0', vs', hv', hr2⟩ := s'.ow i _ hx rfl
  rw [ha] at ha'
  cases ha'
  exact ⟨a, vs', v, rfl, rfl, hv', hr2.lt hl, e.nx _ f' st _ ⟨_, s'.mutOwn (u := .ow (xs ++ [d])) hx rfl ha rfl ⟨vs' ++ [v], upd_same, hr2.append (RpA.one hr')⟩⟩ q⟩
theorem ds_app (m : Bool) {i : Nat} {x : Str} {e : Expr} {px apos cpos pos : Pos} {d : DT} (h : DE X e d) (hN : X.N[i]? = some x := by rfl) (hv : Vis X.env.scope x := by first | exact Or.inl rfl | exact Or.inr (Or.inl rfl) | exact Or.inr (Or.inr rfl)) (hd : (x == ("__debug__" : Str)) = false := by decide)
    (hcd : (x == ("__classdict__" : Str)) = false := by decide) (hP : ∀ t : TE, PE X (.Name x px) (tVar i) → PA X [e] (tCons t tNil) → PE X (.Call (.Attribute (.Name x px) "append" apos) [e] [] cpos) (tBM X.K "list" rAppend (tVar i) (tCons t tNil)) := by
      exact fun t a b => pe_bm PySem.F.plainAttrs_list PySem.F.slot_list_append PySem.F.type_list_append mt_append a b)
    (hs : swapsWith (.Call (.Attribute (.Name x px) "append" apos) [e] [] cpos) none pos.line X.env = pure false := by rfl) (hst : starEach [e] X.env = [(false, eval e X.env)] := by rfl) :
    DS X (.Expr (.Call (.Attribute (.Name x px) "append" apos) [e] [] cpos) pos) (sApp m i d) :=
  DS.mk' (ps_expr (hP _ (pe_var hN hv hd hcd) (pa_cons h.pe pa_nil hst)) hs) (snd_app h.sn)
/-- xs[k] = e -/
def sSetIx (m : Bool) (i : Nat) (dk dl : DT) : DTS := fun g r f E => ∃ xs, r[i]? = some (.ow xs) ∧ evM m dl g r f fun d f1 => dk g r f1 fun k f2 => match k with
  | .int k => ∃ j, ixN xs.length k = some j ∧ E.nx (r.set i (.ow (xs.set j d))) f2
  | _ => False
theorem snd_setIx {m : Bool} {i : Nat} {tk t : TE} {dk d : DT} (hk : Snd K tk dk) (h : Snd K t d) : SndS K W (tAsg t (gSub (tVar i) tk rSetL)) (sSetIx m i dk d) := fun g H0 Hs0 r f st H D E s e hd => by
  obtain ⟨Hs, s⟩ := s
  obtain ⟨xs, hx, hd⟩ := hd
  obtain ⟨a, ha, n1, n0, vs, hv, hr⟩ := s.ow i _ hx rfl
  refine snd_evM h s (fun d f' v H' Hs' s' _ hr' q => ?_) hd
  refine ⟨.ref a, ha, ?_⟩
  refine hk g r f' st H' _ _ _ s'.at (fun k f2 w H2 Hs2 s2 k2 r2 q2 => ?_) q
  have s3 := s'.after s2 k2
  cases k <;> try exact q2.elim
  obtain ⟨j, hj, q2⟩ := q2
  obtain ⟨a', ha', n1', n0', vs', hv', hr2⟩ := s3.ow i _ hx rfl
  rw [ha] at ha'
  cases ha'
  exact ⟨a, vs', _, j, rfl, r2, hv', by rw [← hr2.length]; exact hj, e.nx _ f2 st _ ⟨_, s3.mutOwn (u := .ow (xs.set j d)) hx rfl ha rfl ⟨vs'.set j v, upd_same, hr2.set j (hr'.mono (s'.afterExt s2))⟩⟩ q2⟩
theorem ds_setIx (m : Bool) {i : Nat} {x : Str} {e k : Expr} {px spos pos : Pos} {dk d : DT} (hk : DE X k dk) (h : DE X e d) (hN : X.N[i]? = some x := by rfl) (hv : Vis X.env.scope x := by first | exact Or.inl rfl | exact Or.inr (Or.inl rfl) | exact Or.inr (Or.inr rfl)) (hd : (x == ("__debug__" : Str)) = false := by decide)
    (hcd : (x == ("__classdict__" : Str)) = false := by decide)
    (ha : ∀ v, assign (.Subscript (.Name x px) k spos) X.env v = (do
      let ov ← holding [v] (eval (.Name x px) X.env)
      let iv ← holding [v, ov] (eval k X.env)
      standAt spos
      holding [v, ov, iv] (setItem ov iv v)
      release [v, ov, iv] []) := by intro _; rfl)
    (hs : swapsWithSole [.Subscript (.Name x px) k spos] e pos.line X.env = pure false := by rfl) (hw : swappedStores [.Subscript (.Name x px) k spos] e X.env = pure none := by rfl) (h1 : (assignEach [.Subscript (.Name x px) k spos] X.env).map (·.2) = [assign (.Subscript (.Name x px) k spos) X.env] := by rfl) :
    DS X (.Assign [.Subscript (.Name x px) k spos] e pos) (sSetIx m i dk d) :=
  .mk' (ps_asg h.pe (pg_sub (pe_var hN hv hd hcd) hk.pe set_list ha) hs hw h1) (snd_setIx hk.sn h.sn)
/-! a def -/
def startR (n : Nat) (ds : List D) : Sg := ds.map .sh ++ List.replicate (n - ds.length) .no
theorem start_in {g : Option Dk} {H Hs : Hp} {f : Nat} {ds : List D} {vs : List V} {N : List Str} (hs : Same Hs H) (hk : DkOk g H Hs f) (hr : RpA K Hs ds vs) : SIn K g H Hs (startR N.length ds) f (L2.start N vs) H Hs := by
  refine ⟨by simp [startR, L2.start, hr.length], ⟨f, hk⟩, hk, Stp.refl hs, fun i d h => ?_, fun i s h ho => ?_, fun i j s u a h1 h2 ho => ?_⟩
  · unfold startR at h
    unfold L2.start
    by_cases hl : i < ds.length
    · rw [List.getElem?_append_left (by simpa using hl), List.getElem?_map] at h
      rw [List.getElem?_append_left (by simpa [← hr.length] using hl), List.getElem?_map]
      rw [List.getElem?_eq_getElem hl] at h
      cases h
      obtain ⟨v, h1, h2⟩ := hr.get (List.getElem?_eq_getElem hl)
      exact ⟨v, by rw [h1]; rfl, h2⟩
    · rw [List.getElem?_append_right (by simpa using hl)] at h
      rw [List.getElem?_replicate] at h
      split at h
      · cases h
      · cases h
  all_goals
    exfalso
    have : ∀ (i : Nat) (s : Sl), (startR N.length ds)[i]? = some s → s.own = false := fun i s h => by
      have := List.mem_of_getElem? h
      unfold startR at this
      rcases List.mem_append.mp this with h | h
      · obtain ⟨d, _, rfl⟩ := List.mem_map.mp h
        rfl
      · rw [(List.mem_replicate.mp h).2]
        rfl
  · rw [this i s h] at ho; cases ho
  · rw [this i s h1] at ho; cases ho
variable {P : Program} {w : World} {mg : Str → Option Value} {base : Heap}
theorem dfn {x qual : Str} {st : Stmt} {f : Addr} {fd : FuncData} {N ps : List Str} {k : Nat} {S : DSp} {dl : DTS} (F : Fun K x qual st f fd) (sc : FnScope N ps (defScope st)) (len : ∀ g ds n Q, S g ds n Q → ds.length = ps.length)
    (hb : ∀ (cdv : Value) (A : Around) (outer : List Env) (s : Shared) (H : Hp) (E : XK), Room k (A.deeper (envOfC qual (defScope st) s.heap.objs.size f cdv)) → DSs (cxOf CX0 P w K mg base N qual (defScope st) f cdv A outer s H E).nox (defBody st) dl)
    (h : ∀ g ds n Q, S g ds n Q → dl g (startR N.length ds) n { nx := fun _ n => Q .none n, rt := Q }) : FnOk P w K mg base CX0 (k + 1) f fd ps (spOf K S) := by
  refine F.ok sc (fun vs H Q E h => ?_) (fun cdv A outer s H vs Q E hr hsp => ?_)
  · obtain ⟨g, Hs, ds, n, Q', h1, h2, h3, h4, h5⟩ := h
    rw [← h3.length]
    exact len g ds n Q' h4
  · obtain ⟨g, Hs, ds, n, Q', h1, h2, h3, h4, h5⟩ := hsp
    refine ⟨_, (hb cdv A outer s H E hr).ps, ?_⟩
    refine (hb cdv A outer s H E hr).sn g H Hs _ n _ H _ { nx := fun _ n => Q' .none n, rt := Q' } ⟨Hs, start_in h1 h2 h3⟩ ⟨fun r f st H' q h => ?_, fun d f v H' Hs' p k hr h => h5 d f v H' Hs' p k hr h, fun _ _ _ _ _ h => h, fun _ _ _ _ _ h => h, fun _ _ _ _ _ _ _ _ h => h.elim⟩ (h g ds n Q' h4)
    obtain ⟨Hs', q⟩ := q
    exact h5 .none f .non H' Hs' q.stp q.dk rfl h
end
end DL
namespace DL
open PySem PySem.Spec PyProof.Rows L2
/-! a def as its callers see it -/
def Df (K : PySem.W.Frag) (mg : Str → Option Value) (x : Str) (st : Stmt) : Prop := ∃ f fd, Fun K x x st f fd ∧ mg x = some (.ref f)
def Cal (P : Program) (w : World) (K : PySem.W.Frag) (mg : Str → Option Value) (base : Heap) (k : Nat) (x : Str) (ps : List Str) (S : DSp) : Prop :=
  ∃ f fd, FnOk P w K mg base CX0 k f fd ps (spOf K S) ∧ PySem.W.keepIn K (.ref f) = true ∧ Binds K fd ps [] ∧ mg x = some (.ref f)
section
variable {X : Cx} {K : PySem.W.Frag} {W : WX}
theorem de_callC {x : Str} {ps : List Str} {k : Nat} {S : DSp} {p pos : Pos} {e : Expr} {es : List Expr} {d : DTA} (c : Cal X.prog X.w X.K X.mg X.base k x ps S) (hr : Room k X.A)
    (ha : DA X (e :: es) d) (hg : Gl X x := by rfl) (hdb : (x == ("__debug__" : Str)) = false := by decide) (hs : starEach (e :: es) X.env = (false, eval e X.env) :: starEach es X.env := by rfl)
    (hpl : (backTo pos (starEach es X.env)).any (·.1) = false := by rfl) : DE X (.Call (.Name x p) (e :: es) [] pos) (dCall S d) := by
  obtain ⟨f, fd, F, hk, hb, hm⟩ := c
  exact .mk' (pe_call F hr hg hm hk hb .nil pass0 ha.pa hdb hs hpl) (snd_call ha.sn)
/-- isinstance(x, (T1, T2, ..)) -/
def oIsiT : OA := fun ds Q => match ds with
  | [x, .tup cs] => ∃ (t : String) (ns : List String) (b : Bool), x.tyN = some t ∧ cs = ns.map (fun n => .any (.ty n)) ∧ ns.foldr (fun n r => (kitB t n).bind fun c => if c then some true else r) (some false) = some b ∧ Q (.bool b)
  | _ => False
theorem cls_all {H : Hp} : ∀ {ns : List String} {vs : List V}, RpA K H (ns.map fun n => D.any (.ty n)) vs → Paired ClsV vs (ns.map Value.type)
  | [], _, h => by cases h; exact .nil
  | n :: ns, _, ⟨v, r, h1, h2, h3⟩ => by subst h1; cases h2; exact .cons (.ty n) (cls_all h3)
theorem kit_any {t : String} : ∀ {ns : List String} {b : Bool}, ns.foldr (fun n r => (kitB t n).bind fun c => if c then some true else r) (some false) = some b → PySem.W.kitAny K (.type t) (ns.map Value.type) = some b
  | [], b, h => by cases h; rfl
  | n :: ns, b, h => by
    simp only [List.foldr_cons] at h
    cases e : kitB t n with
    | none => rw [e] at h; cases h
    | some c =>
      rw [e] at h
      refine kitAny_cons (kit_ty e) (fun hc => ?_) (fun hc => ?_)
      · subst hc; exact kit_any (by simpa using h)
      · subst hc; simpa using h.symm
def rIsiU (K : PySem.W.Frag) : List V → Hp → VK → Prop := fun xs H Q => ∃ (x : V) (tp : Addr) (cs : List V) (t : Value) (ws : List Value) (b : Bool), xs = [x, .ref tp] ∧ SqT K H tp cs ∧ Paired ClsV cs ws ∧ TyX K H x t ∧ PySem.W.kitAny K t ws = some b ∧ Q (.bl b) H
theorem call_isiU : CallR X (.builtin "isinstance") (rIsiU X.K) := fun pins s st H xs us Q I r h => by
  obtain ⟨x, tp, cs, t, ws, b, rfl, hT, k, ty, e, q⟩ := h
  obtain ⟨u1, u2, rfl, r1, r2⟩ := vals2 r
  cases (show u2 = Value.ref tp from r2)
  obtain ⟨PP, Z, p, hx⟩ := kit_of I r1 ty
  obtain ⟨its, rv, ⟨o, h1, h2, n, h3⟩, _⟩ := I.tuple hT
  have e3 := ClsV.all k rv
  subst e3
  cases o
  cases h2
  cases h3
  exact PySem.W.kia_tup Z I.kIn p h1 e hx fun tk => ⟨.bl b, H, I.tok tk, rfl, q⟩
theorem sc_isiT : SndC K (rIsiU K) oIsiT := SndC.pure fun H Hs ds vs Q Q' s rx hq hd => by
  unfold oIsiT at hd
  split at hd
  · obtain ⟨t, ns, b, h1, rfl, h2, h3⟩ := hd
    obtain ⟨v, w, rfl, h4, a, vs, rfl, h5, h6⟩ := rpA2 rx
    exact ⟨v, a, vs, _, _, b, rfl, (tp_sq s h5), cls_all h6, tyN_ok (h4.mono s) h1, kit_any h2, hq (.bool _) _ rfl h3⟩
  · exact hd.elim
theorem de_isiT {p pos : Pos} {e e2 : Expr} {d : DTA} (hm : X.mg "isinstance" = none) (ha : DA X [e, e2] d) (hg : Gl X "isinstance" := by rfl) (hs : starEach [e, e2] X.env = (false, eval e X.env) :: starEach [e2] X.env := by rfl)
    (hpl : (backTo pos (starEach [e2] X.env)).any (·.1) = false := by rfl) : DE X (.Call (.Name "isinstance" p) [e, e2] [] pos) (dCB oIsiT d) :=
  de_callB call_isiU sc_isiT hg hm (by decide +kernel) ha (by decide) (by decide) hs hpl
/-! loops over plain data -/
theorem dLcGo_each {P : D → Prop} {g : Option Dk} {t : TgF} {e : DT} {r : Sg} (c : Nat) {Q : List D → Nat → Prop} : ∀ (ds acc : List D) (f : Nat), ds.length * c ≤ f →
    (∀ d ∈ ds, ∃ l, t d = some l ∧ ∀ (f : Nat) (Q : QD), c ≤ f → (∀ y f', P y → f ≤ f' + c → Q y f') → e g (setsR r l) f Q) →
    (∀ ys f', ys.length = ds.length → (∀ y ∈ ys, P y) → f ≤ f' + ds.length * c → Q (acc ++ ys) f') → dLcGo g t dYes e r ds acc f Q
  | [], acc, f, hf, he, hq => by
    have := hq [] f rfl (by simp) (by simp)
    rw [List.append_nil] at this
    exact this
  | d :: ds, acc, f, hf, he, hq => by
    obtain ⟨l, hl, h⟩ := he d (by simp)
    have hlen : (d :: ds).length * c = c + ds.length * c := by rw [List.length_cons, Nat.add_mul, Nat.one_mul, Nat.add_comm]
    rw [hlen] at hf
    simp only [dLcGo, hl, dYes, if_true]
    refine h f _ (by omega) fun y f' hy hf' => dLcGo_each c ds (acc ++ [y]) f' (by omega) (fun d' hd' => he d' (by simp [hd'])) fun ys f'' h1 h2 h3 => ?_
    have := hq (y :: ys) f'' (by simp [h1]) (fun z hz => by
      rcases List.mem_cons.mp hz with e | e
      · rw [e]; exact hy
      · exact h2 z e) (by rw [hlen]; omega)
    rw [List.append_assoc]
    exact this
theorem dLcGo_pure {g : Option Dk} {t : TgF} {c : DTT} {e : DT} {r : Sg} (b : D → Bool) (y : D → D) {Q : List D → Nat → Prop} : ∀ (ds acc : List D) (f : Nat),
    (∀ d ∈ ds, ∃ l, t d = some l ∧ (∀ (f : Nat) (Q : Bool → Nat → Prop), Q (b d) f → c g (setsR r l) f Q) ∧ (b d = true → ∀ (f : Nat) (Q : QD), Q (y d) f → e g (setsR r l) f Q)) →
    Q (acc ++ (ds.filter b).map y) f → dLcGo g t c e r ds acc f Q
  | [], acc, f, he, hq => by
    rw [List.filter_nil, List.map_nil, List.append_nil] at hq
    exact hq
  | d :: ds, acc, f, he, hq => by
    obtain ⟨l, hl, h1, h2⟩ := he d (by simp)
    simp only [dLcGo, hl]
    refine h1 f _ ?_
    cases hb : b d with
    | true =>
      rw [if_pos rfl]
      refine h2 hb f _ (dLcGo_pure b y ds (acc ++ [y d]) f (fun d' hd' => he d' (by simp [hd'])) ?_)
      rw [List.filter_cons, hb, if_pos rfl, List.map_cons] at hq
      rw [List.append_assoc]
      exact hq
    | false =>
      rw [if_neg Bool.false_ne_true]
      refine dLcGo_pure b y ds acc f (fun d' hd' => he d' (by simp [hd'])) ?_
      rw [List.filter_cons, hb, if_neg Bool.false_ne_true] at hq
      exact hq
theorem dFor_inv {g : Option Dk} {t : TgF} {body : DTS} {E : DEnds} (I : List D → Sg → Nat → Prop) : ∀ (ds : List D) (r : Sg) (f : Nat),
    (∀ d rest r f (N : Sg → Nat → Prop), I (d :: rest) r f → (∀ r' f', I rest r' f' → N r' f') → ∃ l, t d = some l ∧ body g (setsR r l) f { E with nx := N, ct := N, bk := E.nx }) →
    (∀ r f, I [] r f → E.nx r f) → I ds r f → dForGo g t body E ds r f
  | [], r, f, _, h0, h => h0 r f h
  | d :: ds, r, f, hs, h0, h => by
    obtain ⟨l, hl, hb⟩ := hs d ds r f (fun r' f' => dForGo g t body E ds r' f') h (fun r' f' h' => dFor_inv I ds r' f' hs h0 h')
    simp only [dForGo, hl]
    exact hb
end
/-! the law's own def -/
def spLaw (K : PySem.W.Frag) : Sp := fun vs H Q _ => ∃ (a : Addr) (ns : List Int), vs = [.ref a] ∧ SqL K H a (ns.map V.int) ∧ ns.length ≤ 63 ∧ ∀ H', Q (.bl true) H'
def spDeck (K : PySem.W.Frag) : Sp := fun vs H Q _ => ∃ (a : Addr) (ns : List Int), vs = [.ref a] ∧ SqL K H a (ns.map V.int) ∧ ns.length ≤ 63 ∧
  ∀ (H' : Hp) (k : Dk), Same H H' → H k.a = none → H k.b = none → H k.c = none → DkAt k H' 1000000000000 → Q (.ref k.a) H'
def startLaw (n : Nat) (k : Dk) : Sg := .no :: .sh (.any (.ref k.a)) :: List.replicate (n - 2) .no
end DL
namespace DL
open PySem PySem.Spec PyProof.Rows L2
/-! texts as lists of codes; names between dots -/
abbrev cd (s : Str) : List Nat := TL.tl s
def sp : List Nat → List (List Nat)
  | [] => [[]]
  | c :: r => if c = 46 then [] :: sp r else match sp r with
    | [] => [[c]]
    | h :: t => (c :: h) :: t
theorem sp_ne : ∀ l : List Nat, sp l ≠ []
  | [] => by simp [sp]
  | c :: r => by
    unfold sp
    split
    · simp
    · split <;> simp
theorem spl_sp : ∀ (l acc : List Nat), TL.spl [46] 0 acc l = match sp l with
    | [] => [acc]
    | h :: t => (acc ++ h) :: t
  | [], acc => by rw [TL.spl_nil]; simp [sp]
  | c :: r, acc => by
    by_cases h : c = 46
    · subst h
      have hp : TL.pre [46] (46 :: r) = true := TL.pre_self [46] r
      rw [TL.spl_hit hp]
      have := spl_sp r []
      unfold sp
      rw [if_pos rfl]
      simp only [List.length_singleton, Nat.sub_self, List.append_nil]
      rw [this]
      cases e : sp r with
      | nil => exact absurd e (sp_ne r)
      | cons h t => simp
    · rw [TL.spl_miss (TL.pre_of_head [] r h), spl_sp r (acc ++ [c])]
      rw [sp, if_neg h]
      cases e : sp r with
      | nil => exact absurd e (sp_ne r)
      | cons h t => simp
theorem split_cd (x : Str) : (Txt.split x ".").map cd = sp (cd x) := by
  have := TL.split_spl x "." (by decide +kernel) (TL.kind_ok (by decide +kernel))
  rw [show TL.tl (Str.ofString ".") = [46] from by decide +kernel, spl_sp] at this
  rw [this]
  cases e : sp (cd x) with
  | nil => exact absurd e (sp_ne _)
  | cons h t => rfl
def jn : List (List Nat) → List Nat
  | [] => []
  | [a] => a
  | a :: b :: r => a ++ 46 :: jn (b :: r)
theorem joinL_jn : ∀ l : List (List Nat), TL.joinL [46] l = jn l
  | [] => rfl
  | [a] => rfl
  | a :: b :: r => by
    have := joinL_jn (b :: r)
    show a ++ ([46] ++ TL.joinL [46] (b :: r)) = a ++ 46 :: jn (b :: r)
    rw [this]
    rfl
theorem jn_sp : ∀ l : List Nat, jn (sp l) = l
  | [] => rfl
  | c :: r => by
    have ih := jn_sp r
    unfold sp
    split
    · next h =>
      subst h
      cases e : sp r with
      | nil => exact absurd e (sp_ne r)
      | cons h t =>
        rw [e] at ih
        show [] ++ 46 :: jn (h :: t) = 46 :: r
        rw [ih]
        rfl
    · cases e : sp r with
      | nil => exact absurd e (sp_ne r)
      | cons h t =>
        rw [e] at ih
        cases t with
        | nil => show c :: h = c :: r; rw [← ih]; rfl
        | cons b t => show (c :: h) ++ 46 :: jn (b :: t) = c :: r; rw [← ih]; rfl
theorem sp_one : ∀ {a : List Nat}, 46 ∉ a → sp a = [a]
  | [], _ => rfl
  | c :: r, h => by
    have hc : c ≠ 46 := fun e => h (by simp [e])
    have hr : 46 ∉ r := fun e => h (by simp [e])
    unfold sp
    rw [if_neg hc, sp_one hr]
theorem sp_app : ∀ (a r : List Nat), sp (a ++ 46 :: r) = sp a ++ sp r
  | [], r => by
    show sp (46 :: r) = [[]] ++ sp r
    rw [show sp (46 :: r) = if (46 : Nat) = 46 then [] :: sp r else _ from rfl, if_pos rfl]
    rfl
  | c :: a, r => by
    have ih := sp_app a r
    show sp (c :: (a ++ 46 :: r)) = _
    rw [sp, sp]
    by_cases h : c = 46
    · rw [if_pos h, if_pos h, ih]; rfl
    · rw [if_neg h, if_neg h, ih]
      cases e : sp a with
      | nil => exact absurd e (sp_ne a)
      | cons hd t => rfl
theorem jn_app : ∀ (a b : List (List Nat)), a ≠ [] → b ≠ [] → jn (a ++ b) = jn a ++ 46 :: jn b
  | [], _, h, _ => absurd rfl h
  | [x], [], _, h => absurd rfl h
  | [x], b :: r, _, _ => rfl
  | x :: y :: a, b, _, hb => by
    have := jn_app (y :: a) b (by simp) hb
    show x ++ 46 :: jn ((y :: a) ++ b) = (x ++ 46 :: jn (y :: a)) ++ 46 :: jn b
    rw [this]
    simp
theorem sp_jn : ∀ {l : List (List Nat)}, l ≠ [] → (∀ n ∈ l, 46 ∉ n) → sp (jn l) = l
  | [], h, _ => absurd rfl h
  | [a], _, h => sp_one (h a (by simp))
  | a :: b :: r, _, h => by
    show sp (a ++ 46 :: jn (b :: r)) = _
    rw [sp_app, sp_one (h a (by simp)), sp_jn (by simp) fun n hn => h n (by simp [hn])]
    rfl
theorem sp_inj {a b : List Nat} (h : sp a = sp b) : a = b := by rw [← jn_sp a, h, jn_sp]
/-- covering, by codes -/
theorem cov_iff (p o : List Nat) : (sp o).take (sp p).length = sp p ↔ o = p ∨ (p ++ [46]).isPrefixOf o = true := by
  constructor
  · intro h
    have e : sp o = sp p ++ (sp o).drop (sp p).length := by rw [← h, List.length_take]; rw [show min (sp p).length (sp o).length = (sp p).length from by have := congrArg List.length h; rw [List.length_take] at this; exact this]; rw [List.take_append_drop]
    by_cases hr : (sp o).drop (sp p).length = []
    · rw [hr, List.append_nil] at e
      exact .inl (sp_inj e)
    · right
      have := congrArg jn e
      rw [jn_sp, jn_app _ _ (sp_ne p) hr, jn_sp] at this
      rw [this, List.isPrefixOf_iff_prefix]
      exact ⟨jn ((sp o).drop (sp p).length), by simp⟩
  · rintro (h | h)
    · rw [h, List.take_length]
    · rw [List.isPrefixOf_iff_prefix] at h
      obtain ⟨r, rfl⟩ := h
      rw [List.append_assoc]
      show List.take _ (sp (p ++ 46 :: r)) = _
      rw [sp_app, List.take_left']
      rfl
theorem starts_cd (x y : Str) : Txt.startswith x y = (cd y).isPrefixOf (cd x) := by
  have hx : x.length = (cd x).length := TL.len_tl x
  have hy : y.length = (cd y).length := TL.len_tl y
  unfold Txt.startswith Builtin.Str.subAt
  rw [Bool.eq_iff_iff, Bool.and_eq_true, decide_eq_true_iff, List.isPrefixOf_iff_prefix, beq_iff_eq]
  constructor
  · rintro ⟨_, h⟩
    have e := congrArg Array.toList h
    rw [Array.toList_extract] at e
    simp only [Nat.zero_add, List.extract_eq_drop_take, List.drop_zero, Nat.sub_zero] at e
    exact ⟨(cd x).drop y.length, by show y.cps.toList ++ _ = _; rw [← e]; exact List.take_append_drop _ _⟩
  · rintro ⟨r, h⟩
    have hl := congrArg List.length h
    rw [List.length_append] at hl
    refine ⟨by omega, ?_⟩
    apply Array.toList_inj.mp
    rw [Array.toList_extract]
    simp only [Nat.zero_add, List.extract_eq_drop_take, List.drop_zero, Nat.sub_zero]
    show List.take y.length (cd x) = cd y
    rw [← h, hy, List.take_left']
    rfl
/-- path covers other -/
def cov (p o : Str) : Bool := decide (o = p) || Txt.startswith o (p ++ ".")
theorem cov_take (p o : Str) : cov p o = decide ((Txt.split o ".").take (Txt.split p ".").length = Txt.split p ".") := by
  have e1 := split_cd p
  have e2 := split_cd o
  have hl : (Txt.split p ".").length = (sp (cd p)).length := by rw [← e1, List.length_map]
  unfold cov
  rw [Bool.eq_iff_iff, Bool.or_eq_true, decide_eq_true_iff, decide_eq_true_iff, starts_cd, show cd (p ++ ".") = cd p ++ cd "." from TL.tl_append p ".", show cd (Str.ofString ".") = [46] from by decide +kernel]
  constructor
  · intro h
    have := (cov_iff (cd p) (cd o)).mpr (h.imp (fun e => by rw [e]) id)
    apply TL.map_tl_inj
    rw [List.map_take, hl]
    show List.take _ ((Txt.split o ".").map cd) = (Txt.split p ".").map cd
    rw [e1, e2]
    exact this
  · intro h
    have := congrArg (List.map cd) h
    rw [List.map_take, hl, e1, e2] at this
    exact ((cov_iff (cd p) (cd o)).mp this).imp (fun e => TL.ext_tl e) id
/-! plain texts -/
def asc (s : Str) : Prop := ∀ c ∈ cd s, c < 128
theorem asc_ok {s : Str} (h : asc s) : PyData.strOk s = true := by
  unfold PyData.strOk
  rw [Array.all_eq_true_iff_forall_mem]
  intro c hc
  have := h c (by simpa [cd, TL.tl] using hc)
  exact decide_eq_true (by omega)
theorem pyA_strs : ∀ l : List Str, pyA (l.map D.str) = l.map PyData.str
  | [] => rfl
  | x :: l => by show PyData.str x :: pyA (l.map D.str) = _; rw [pyA_strs l]; rfl
theorem lay_strs : ∀ {l : List Str}, (∀ s ∈ l, asc s) → PyData.canLayAll0 (l.map PyData.str) = true
  | [], _ => rfl
  | x :: l, h => Bool.and_eq_true_iff.mpr ⟨asc_ok (h x (by simp)), lay_strs fun s hs => h s (by simp [hs])⟩
theorem depth_strs : ∀ l : List Str, PyData.depthAll (l.map PyData.str) = 0
  | [] => rfl
  | x :: l => by show max 0 (PyData.depthAll (l.map PyData.str)) = 0; rw [depth_strs l]; rfl
theorem eqvAll_strs : ∀ l m : List Str, PyData.eqvAll (l.map PyData.str) (m.map PyData.str) = decide (l = m)
  | [], [] => rfl
  | [], _ :: _ => rfl
  | _ :: _, [] => rfl
  | x :: l, y :: m => by
    show ((x == y) && PyData.eqvAll (l.map PyData.str) (m.map PyData.str)) = _
    rw [eqvAll_strs l m, Bool.eq_iff_iff]
    simp
theorem shaped_strs {l : List Str} (h : ∀ s ∈ l, asc s) : SeqAt.shaped (D.lst (l.map D.str)).py = true := by
  show (PyData.canLayAll0 (pyA (l.map D.str)) && decide (PyData.depthAll (pyA (l.map D.str)) + 1 ≤ 64)) = true
  rw [pyA_strs, lay_strs h, depth_strs]
  rfl
theorem shaped_strsT {l : List Str} (h : ∀ s ∈ l, asc s) : SeqAt.shaped (D.tup (l.map D.str)).py = true := shaped_strs h
theorem oEq_lst {l m : List Str} {neg : Bool} {Q : D → Prop} (hl : ∀ s ∈ l, asc s) (hm : ∀ s ∈ m, asc s) (h : Q (.bool (xb neg (decide (l = m))))) : oEq neg (.lst (l.map D.str)) (.lst (m.map D.str)) Q := by
  refine oEq_data (shaped_strs hl) (shaped_strs hm) ?_
  show Q (.bool (xb neg (PyData.eqvAll (pyA (l.map D.str)) (pyA (m.map D.str)))))
  rw [pyA_strs, pyA_strs, eqvAll_strs]
  exact h
theorem cutD_take (xs : List D) (n : Nat) : cutD xs none (some (n : Int)) = xs.take n := by
  unfold cutD
  rw [HT.sIx_none, HT.sIx_nat]
  simp only [List.drop_zero, Nat.sub_zero]
  rw [← List.take_eq_take_min]
section
variable {K : PySem.W.Frag}
theorem shaped_ints (l : List Int) : SeqAt.shaped (.list (l.map PyData.int)) = true := by
  have h1 : PyData.canLayAll0 (l.map PyData.int) = true := by
    induction l with
    | nil => rfl
    | cons x l ih => exact Bool.and_eq_true_iff.mpr ⟨rfl, ih⟩
  have h2 : PyData.depthAll (l.map PyData.int) = 0 := by
    clear h1
    induction l with
    | nil => rfl
    | cons x l ih =>
      show max 0 (PyData.depthAll (l.map PyData.int)) = 0
      rw [ih]
      rfl
  unfold SeqAt.shaped
  show (PyData.canLayAll0 (l.map PyData.int) && decide (PyData.depthAll (l.map PyData.int) + 1 ≤ 64)) = true
  rw [h1, h2]
  rfl
theorem dp_ints {H : Hp} {a : Addr} {l : List Int} (h : H a = some (.lst (l.map V.int))) : Dp K H (.ref a) (.list (l.map PyData.int)) := by
  refine .lst (SqL.of h) ?_
  clear h
  induction l with
  | nil => exact .nil
  | cons x l ih => exact .cons (.int x) ih
theorem lo64 {x : Int} (h : 0 ≤ x) : -(2 ^ 64) < x := by omega
theorem hi64 {x : Int} (h : x < 2147483647) : x < 2 ^ 64 := by omega
theorem ix0 (n : Nat) : ixN (n + 1) 0 = some 0 := by
  unfold ixN
  rw [if_pos (by decide), if_pos (by omega)]
  rfl
theorem atI0 {α : Type} {x : α} {l : List α} : atI (x :: l) 0 = some x := atI_nat (j := 0) rfl
theorem same_upd {H : Hp} {p : Addr} {o : HO} (h : H p = none) : Same H (upd H p o) := fun b x e => by
  rw [upd_ne (ne_of_none e h)]
  exact e
end
end DL
namespace DL
open PySem PySem.Spec PyProof.Rows L2
/-! names and paths -/
def isName (s : Str) : Prop := 1 ≤ s.length ∧ s.length ≤ 8 ∧ ∀ c ∈ cd s, 97 ≤ c ∧ c ≤ 122
def PathN (m : Nat) (s : Str) : Prop := ∃ ns : List Str, 1 ≤ ns.length ∧ ns.length ≤ m ∧ (∀ n ∈ ns, isName n) ∧ s = Txt.join "." ns
theorem cd_join (ns : List Str) : cd (Txt.join "." ns) = jn (ns.map cd) := by
  rw [TL.join_eq]
  show TL.tl (Str.join "." ns) = _
  rw [TL.tl_join, show TL.tl (Str.ofString ".") = [46] from by decide +kernel, joinL_jn]
theorem jn_len : ∀ {l : List (List Nat)}, (∀ n ∈ l, n.length ≤ 8) → (jn l).length ≤ 9 * l.length
  | [], _ => Nat.zero_le _
  | [a], h => by have := h a (by simp); simp only [jn, List.length_singleton]; omega
  | a :: b :: r, h => by
    have ih := jn_len (l := b :: r) fun n hn => h n (by simp [hn])
    have := h a (by simp)
    simp only [jn, List.length_append, List.length_cons] at ih ⊢
    omega
theorem jn_mem {c : Nat} : ∀ {l : List (List Nat)}, c ∈ jn l → c = 46 ∨ ∃ n ∈ l, c ∈ n
  | [], h => by simp [jn] at h
  | [a], h => .inr ⟨a, by simp, h⟩
  | a :: b :: r, h => by
    have h : c ∈ a ++ 46 :: jn (b :: r) := h
    rcases List.mem_append.mp h with h | h
    · exact .inr ⟨a, by simp, h⟩
    · rcases List.mem_cons.mp h with h | h
      · exact .inl h
      · rcases jn_mem (l := b :: r) h with h | ⟨n, h1, h2⟩
        · exact .inl h
        · exact .inr ⟨n, by simp [h1], h2⟩
theorem isName.asc {s : Str} (h : isName s) : asc s := fun c hc => by have := h.2.2 c hc; omega
theorem isName.cdl {s : Str} (h : isName s) : (cd s).length ≤ 8 := by have := h.2.1; rw [TL.len_tl] at this; exact this
theorem PathN.mono {m n : Nat} {s : Str} (h : PathN m s) (e : m ≤ n) : PathN n s := by
  obtain ⟨ns, h1, h2, h3, h4⟩ := h
  exact ⟨ns, h1, by omega, h3, h4⟩
theorem PathN.len {m : Nat} {s : Str} (h : PathN m s) : s.length ≤ 9 * m := by
  obtain ⟨ns, h1, h2, h3, rfl⟩ := h
  have : (cd (Txt.join "." ns)).length ≤ 9 * (ns.map cd).length := by
    rw [cd_join]
    exact jn_len fun n hn => by
      obtain ⟨s, hs, rfl⟩ := List.mem_map.mp hn
      exact (h3 s hs).cdl
  rw [List.length_map] at this
  rw [TL.len_tl]
  show (cd (Txt.join "." ns)).length ≤ 9 * m
  omega
theorem PathN.asc {m : Nat} {s : Str} (h : PathN m s) : asc s := by
  obtain ⟨ns, h1, h2, h3, rfl⟩ := h
  intro c hc
  rw [cd_join] at hc
  rcases jn_mem hc with e | ⟨n, hn, e⟩
  · omega
  · obtain ⟨s, hs, rfl⟩ := List.mem_map.mp hn
    exact (h3 s hs).asc c e
theorem join_names (ns : List Str) (h : ∀ n ∈ ns, n.length ≤ 1000) (hl : ns.length ≤ 1000) (a : Str) (ha : a.length ≤ 8) : (ns.map (·.length)).sum + ns.length * a.length ≤ 16777216 := by
  have : ∀ ns : List Str, (∀ n ∈ ns, n.length ≤ 1000) → (ns.map (·.length)).sum ≤ 1000 * ns.length := by
    intro ns
    induction ns with
    | nil => intro _; exact Nat.le_refl _
    | cons x l ih =>
      intro h
      have h1 := h x (by simp)
      have h2 := ih fun n hn => h n (by simp [hn])
      simp only [List.map_cons, List.sum_cons, List.length_cons]
      omega
  have h1 := this ns h
  have h2 : ns.length * a.length ≤ ns.length * 8 := Nat.mul_le_mul_left _ ha
  omega
theorem atI_mem {α : Type} {xs : List α} {r : Int} (h0 : 0 ≤ r) (h1 : r < xs.length) : ∃ d, atI xs r = some d ∧ d ∈ xs := by
  have hl : r.toNat < xs.length := by omega
  have := atI_nat (xs := xs) (j := r.toNat) (v := xs[r.toNat]) (List.getElem?_eq_getElem hl)
  rw [Int.toNat_of_nonneg h0] at this
  exact ⟨_, this, List.getElem_mem hl⟩
theorem join_nil_cd (ns : List Str) : cd (Txt.join "" ns) = (ns.map cd).flatten := by
  rw [TL.join_eq]
  show TL.tl (Str.join "" ns) = _
  rw [TL.tl_join, show TL.tl (Str.ofString "") = [] from by decide +kernel]
  have : ∀ l : List (List Nat), TL.joinL [] l = l.flatten := by
    intro l
    induction l with
    | nil => rfl
    | cons a l ih =>
      cases l with
      | nil => simp [TL.joinL]
      | cons b l => show a ++ ([] ++ TL.joinL [] (b :: l)) = _; rw [ih]; rfl
  exact this _
/-- texts of one small letter each, glued -/
theorem letters_name (ns : List Str) (h : ∀ n ∈ ns, ∃ c, cd n = [c] ∧ 97 ≤ c ∧ c ≤ 122) (h1 : 1 ≤ ns.length) (h2 : ns.length ≤ 8) : isName (Txt.join "" ns) := by
  have e : ∀ ns : List Str, (∀ n ∈ ns, ∃ c, cd n = [c] ∧ 97 ≤ c ∧ c ≤ 122) → ((ns.map cd).flatten).length = ns.length ∧ ∀ c ∈ (ns.map cd).flatten, 97 ≤ c ∧ c ≤ 122 := by
    intro ns
    induction ns with
    | nil => intro _; simp
    | cons x l ih =>
      intro h
      obtain ⟨c, hc, hb⟩ := h x (by simp)
      obtain ⟨i1, i2⟩ := ih fun n hn => h n (by simp [hn])
      rw [List.map_cons, List.flatten_cons, hc]
      refine ⟨by simp only [List.length_append, List.length_cons, List.length_nil, i1]; omega, fun d hd => ?_⟩
      rcases List.mem_append.mp hd with e | e
      · rw [List.mem_singleton.mp e]; exact hb
      · exact i2 d e
  obtain ⟨i1, i2⟩ := e ns h
  have hl : (Txt.join "" ns).length = ns.length := by rw [TL.len_tl]; show (cd (Txt.join "" ns)).length = _; rw [join_nil_cd, i1]
  refine ⟨by omega, by omega, fun c hc => ?_⟩
  rw [join_nil_cd] at hc
  exact i2 c hc
theorem intsD_len (lo : Int) (n : Nat) : (intsD lo n).length = n := by unfold intsD; simp
end DL
namespace DL
open PySem PySem.Spec PyProof.Rows L2
section
variable {X : Cx} {K : PySem.W.Frag}
/-! zip of two lists, of two tuples -/
def zipD (xs ys : List D) : List D := (xs.zip ys).map fun p => .tup [p.1, p.2]
theorem zipD_get {xs ys : List D} {i : Nat} {d : D} (h : (zipD xs ys)[i]? = some d) : ∃ x y, xs[i]? = some x ∧ ys[i]? = some y ∧ d = .tup [x, y] := by
  unfold zipD at h
  rw [List.getElem?_map] at h
  cases e : (xs.zip ys)[i]? with
  | none => rw [e] at h; cases h
  | some p =>
    rw [e] at h
    cases h
    obtain ⟨h1, h2⟩ := List.getElem?_zip_eq_some.mp e
    exact ⟨p.1, p.2, h1, h2, rfl⟩
theorem zipD_len (xs ys : List D) : (zipD xs ys).length = min xs.length ys.length := by unfold zipD; rw [List.length_map, List.length_zip]
def dZip (t : DTA) : DTA := fun g r f Q => t g r f fun ds f1 => match ds with
  | [.lst xs, .lst ys] => Q (zipD xs ys) f1
  | [.tup xs, .tup ys] => Q (zipD xs ys) f1
  | _ => False
theorem pair_stp {H Hs : Hp} {T : Addr} {x y : V} {dx dy : D} (s : Same Hs H) (hT : H T = none) (h1 : Rp K Hs dx x) (h2 : Rp K Hs dy y) : ∃ Hs', Stp none H Hs (upd H T (.tup [x, y])) Hs' ∧ Rp K Hs' (.tup [dx, dy]) (.ref T) :=
  ⟨upd Hs T (.tup [x, y]), Stp.alloc s hT, rp_tup ⟨x, [y], rfl, h1, RpA.one h2⟩ (same_none s hT)⟩
theorem walks_zipL {Hb : Hp} {a b : Addr} {vs ws : List V} {ds es : List D} (h1 : Hb a = some (.lst vs)) (h2 : RpA K Hb ds vs) (h3 : Hb b = some (.lst ws)) (h4 : RpA K Hb es ws) : Walks K (Itz K a b) Hb (zipD ds es) where
  go := fun i d H Hs s1 s2 e => by
    obtain ⟨x, y, ex, ey, rfl⟩ := zipD_get e
    obtain ⟨v, hv, hr⟩ := h2.get ex
    obtain ⟨u, hu, hq⟩ := h4.get ey
    have q1 : SqL K H a vs := SqL.of (s2 _ _ (s1 _ _ h1))
    have q2 : SqL K H b ws := SqL.of (s2 _ _ (s1 _ _ h3))
    refine ⟨⟨vs, ws, v, u, q1, q2, hv, hu⟩, ?_⟩
    rintro z H' ⟨T, x', y', rfl, hT, rfl, hx, hy⟩
    have e1 := hx vs q1
    have e2 := hy ws q2
    rw [hv] at e1; rw [hu] at e2
    cases e1; cases e2
    exact pair_stp s2 hT (hr.mono s1) (hq.mono s1)
  stop := fun H s => ⟨vs, ws, SqL.of (s _ _ h1), SqL.of (s _ _ h3), by
    have := zipD_len ds es
    rw [h2.length, h4.length] at this
    omega⟩
theorem walks_zipT {Hb : Hp} {a b : Addr} {vs ws : List V} {ds es : List D} (h1 : TpAt K Hb a vs) (h2 : RpA K Hb ds vs) (h3 : TpAt K Hb b ws) (h4 : RpA K Hb es ws) : Walks K (RZ.ItzT K a b) Hb (zipD ds es) where
  go := fun i d H Hs s1 s2 e => by
    obtain ⟨x, y, ex, ey, rfl⟩ := zipD_get e
    obtain ⟨v, hv, hr⟩ := h2.get ex
    obtain ⟨u, hu, hq⟩ := h4.get ey
    have q1 : SqT K H a vs := (tp_sq (s1.trans s2) h1)
    have q2 : SqT K H b ws := (tp_sq (s1.trans s2) h3)
    refine ⟨⟨vs, ws, v, u, q1, q2, hv, hu⟩, ?_⟩
    rintro z H' ⟨T, x', y', rfl, hT, rfl, hx, hy⟩
    have e1 := hx vs q1
    have e2 := hy ws q2
    rw [hv] at e1; rw [hu] at e2
    cases e1; cases e2
    exact pair_stp s2 hT (hr.mono s1) (hq.mono s1)
  stop := fun H s => ⟨vs, ws, (tp_sq s h1), (tp_sq s h3), by
    have := zipD_len ds es
    rw [h2.length, h4.length] at this
    omega⟩
theorem di_zip {e e2 : Expr} {d : DTA} {p pos tpos : Pos} {elts : List Expr} {kk : Nat} (hm : X.mg "zip" = none) (ha : DA X [e, e2] d) (hg : Gl X "zip" := by rfl)
    (hs : starEach [e, e2] X.env = (false, eval e X.env) :: starEach [e2] X.env := by rfl) (hpl : (backTo pos (starEach [e2] X.env)).any (·.1) = false := by rfl) :
    DI X (.Tuple elts kk tpos) (.Call (.Name "zip" p) [e, e2] [] pos) (dZip d) := DI.mk' (RZ.pi_zipA hg hm ha.pa hs hpl) fun g ro f st H Hs R Q' A hq hd =>
  ha.sn g ro f st H Hs _ _ A (fun ds f1 vs H1 Hs1 s1 k1 r1 q1 => by
    split at q1
    · obtain ⟨v, w, rfl, h, h'⟩ := rpA2 r1
      obtain ⟨a, vs, rfl, h1, h2⟩ := h
      obtain ⟨b, ws, rfl, h3, h4⟩ := h'
      exact ⟨a, b, vs, ws, rfl, .inl ⟨SqL.of (s1.sub _ _ h1), SqL.of (s1.sub _ _ h3), hq _ f1 _ H1 Hs1 s1 k1 (walks_zipL h1 h2 h3 h4) q1⟩⟩
    · obtain ⟨v, w, rfl, h, h'⟩ := rpA2 r1
      obtain ⟨a, vs, rfl, h1, h2⟩ := h
      obtain ⟨b, ws, rfl, h3, h4⟩ := h'
      exact ⟨a, b, vs, ws, rfl, .inr ⟨(tp_sq s1.sub h1), (tp_sq s1.sub h3), hq _ f1 _ H1 Hs1 s1 k1 (walks_zipT h1 h2 h3 h4) q1⟩⟩
    · exact q1.elim) hd
end
def D.isTup : D → Bool
  | .tup _ => true
  | _ => false
def D.isLst : D → Bool
  | .lst _ => true
  | _ => false
def D.isSt : D → Bool
  | .str _ => true
  | _ => false
def D.isBl : D → Bool
  | .bool _ => true
  | _ => false
def D.isIn : D → Bool
  | .int _ => true
  | .bool _ => true
  | _ => false
/-! data that are told apart sign by sign -/
mutual
def deqD : D → D → Bool
  | .none, .none => true
  | .bool a, .bool b => decide (a = b)
  | .int a, .int b => decide (a = b)
  | .str a, .str b => decide (a = b)
  | .tup xs, .tup ys => deqA xs ys
  | .lst xs, .lst ys => deqA xs ys
  | _, _ => false
def deqA : List D → List D → Bool
  | [], [] => true
  | x :: xs, y :: ys => deqD x y && deqA xs ys
  | _, _ => false
end
def zeq : D → Bool
  | .tup [a, b] => deqD a b
  | _ => false
mutual
/-- no objects within; dicts as they are -/
def D.tyd : D → Bool
  | .tup xs => tydA xs
  | .lst xs => tydA xs
  | .obj _ _ _ => false
  | .exn _ _ _ => false
  | .any _ => false
  | _ => true
def tydA : List D → Bool
  | [] => true
  | x :: xs => x.tyd && tydA xs
end
mutual
def D.plain : D → Bool
  | .tup xs => decide (xs.length ≤ 100000) && plainA xs
  | .lst xs => decide (xs.length ≤ 100000) && plainA xs
  | .dct _ _ => false
  | .obj _ _ _ => false
  | .exn _ _ _ => false
  | .any _ => false
  | _ => true
def plainA : List D → Bool
  | [] => true
  | x :: xs => x.plain && plainA xs
end
mutual
def D.dep : D → Nat
  | .tup xs => depA xs + 1
  | .lst xs => depA xs + 1
  | _ => 0
def depA : List D → Nat
  | [] => 0
  | x :: xs => max x.dep (depA xs)
end
mutual
theorem D.plain_tyd : ∀ {x : D}, x.plain = true → x.tyd = true
  | .none, _ => rfl
  | .bool _, _ => rfl
  | .int _, _ => rfl
  | .str _, _ => rfl
  | .tup xs, h => plainA_tyd (xs := xs) (Bool.and_eq_true_iff.mp h).2
  | .lst xs, h => plainA_tyd (xs := xs) (Bool.and_eq_true_iff.mp h).2
  | .dct _ _, h => by cases h
  | .obj _ _ _, h => by cases h
  | .exn _ _ _, h => by cases h
  | .any _, h => by cases h
theorem plainA_tyd : ∀ {xs : List D}, plainA xs = true → tydA xs = true
  | [], _ => rfl
  | x :: xs, h => by
    have h : (x.plain && plainA xs) = true := h
    rw [Bool.and_eq_true] at h
    show (x.tyd && tydA xs) = true
    rw [D.plain_tyd h.1, plainA_tyd h.2]
    rfl
end
theorem tydA_mem : ∀ {xs : List D} {x : D}, tydA xs = true → x ∈ xs → x.tyd = true
  | y :: ys, x, h, hx => by
    have h : (y.tyd && tydA ys) = true := h
    rw [Bool.and_eq_true] at h
    rcases List.mem_cons.mp hx with e | e
    · rw [e]; exact h.1
    · exact tydA_mem h.2 e
theorem plainA_mem : ∀ {xs : List D} {x : D}, plainA xs = true → x ∈ xs → x.plain = true
  | y :: ys, x, h, hx => by
    have h : (y.plain && plainA ys) = true := h
    rw [Bool.and_eq_true] at h
    rcases List.mem_cons.mp hx with e | e
    · rw [e]; exact h.1
    · exact plainA_mem h.2 e
theorem depA_mem : ∀ {xs : List D} {x : D}, x ∈ xs → x.dep ≤ depA xs
  | y :: ys, x, hx => by
    show x.dep ≤ max y.dep (depA ys)
    rcases List.mem_cons.mp hx with e | e
    · rw [e]; exact Nat.le_max_left _ _
    · exact Nat.le_trans (depA_mem e) (Nat.le_max_right _ _)
theorem deqA_len : ∀ {xs ys : List D}, xs.length ≠ ys.length → deqA xs ys = false
  | [], [], h => absurd rfl h
  | [], _ :: _, _ => rfl
  | _ :: _, [], _ => rfl
  | x :: xs, y :: ys, h => by
    show (deqD x y && deqA xs ys) = false
    rw [deqA_len fun e => h (by simp [e]), Bool.and_false]
theorem deqA_all : ∀ {xs ys : List D}, xs.length = ys.length → deqA xs ys = (xs.zip ys).all fun p => deqD p.1 p.2
  | [], [], _ => rfl
  | [], _ :: _, h => by simp at h
  | _ :: _, [], h => by simp at h
  | x :: xs, y :: ys, h => by
    show (deqD x y && deqA xs ys) = _
    rw [deqA_all (by simpa using h), List.zip_cons_cons, List.all_cons]
mutual
theorem deqD_refl : ∀ x : D, x.plain = true → deqD x x = true
  | .none, _ => rfl
  | .bool _, _ => decide_eq_true rfl
  | .int _, _ => decide_eq_true rfl
  | .str _, _ => decide_eq_true rfl
  | .tup xs, h => deqA_refl xs (Bool.and_eq_true_iff.mp h).2
  | .lst xs, h => deqA_refl xs (Bool.and_eq_true_iff.mp h).2
  | .dct _ _, h => by cases h
  | .obj _ _ _, h => by cases h
  | .exn _ _ _, h => by cases h
  | .any _, h => by cases h
theorem deqA_refl : ∀ xs : List D, plainA xs = true → deqA xs xs = true
  | [], _ => rfl
  | x :: xs, h => by
    have h : (x.plain && plainA xs) = true := h
    rw [Bool.and_eq_true] at h
    show (deqD x x && deqA xs xs) = true
    rw [deqD_refl x h.1, deqA_refl xs h.2]
    rfl
end
end DL
namespace DL
open PySem PySem.Spec PyProof.Rows L2
theorem split_join_names {ns : List Str} (h0 : ns ≠ []) (h : ∀ n ∈ ns, isName n) : Txt.split (Txt.join "." ns) "." = ns := by
  apply TL.map_tl_inj
  show List.map cd _ = List.map cd _
  rw [split_cd, cd_join, sp_jn (by simpa using h0)]
  intro n hn hm
  obtain ⟨s, hs, rfl⟩ := List.mem_map.mp hn
  have := (h s hs).2.2 46 hm
  omega
theorem join_snoc (ns : List Str) (n : Str) (h : ns ≠ []) : Txt.join "." ns ++ "." ++ n = Txt.join "." (ns ++ [n]) := by
  apply TL.ext_tl
  show cd _ = cd _
  rw [cd_join, List.map_append, List.map_singleton, jn_app _ _ (by simpa using h) (by simp)]
  show TL.tl _ = _
  rw [TL.tl_append, TL.tl_append, show TL.tl (Str.ofString ".") = [46] from by decide +kernel]
  show cd (Txt.join "." ns) ++ [46] ++ cd n = _
  rw [cd_join]
  simp [jn]
theorem cutD_init (xs : List D) : cutD xs none (some (-1)) = xs.dropLast := by
  unfold cutD HT.sIx
  rw [List.dropLast_eq_take]
  simp only [List.drop_zero, Nat.sub_zero]
  congr 1
  split <;> omega
end DL
namespace DL
open PySem PySem.Spec PyProof.Rows L2
section
variable {X : Cx} {K : PySem.W.Frag}
/-! x in y -/
def rInT (K : PySem.W.Frag) (neg : Bool) : R2 := fun x y H Q => ∃ d ds, Dp K H x d ∧ Dp K H y (.tuple ds) ∧ SeqAt.shaped d = true ∧ SeqAt.shaped (.tuple ds) = true ∧ Q (.bl (xb neg (ds.any fun z => PyData.eqv z d))) H
theorem op_inT (hu : X.A.units + 65 < cLine) : OpR X (compareOp .In) (rInT X.K false) := by
  intro pins s st H x y v u Q I rx ry h
  obtain ⟨d, ds, hd, he, sd, se, q⟩ := h
  obtain ⟨as, r1⟩ := Dp.reads I d x v hd rx
  obtain ⟨bs, r2⟩ := Dp.reads I (.tuple ds) y u he ry
  exact SeqAt.in_tuple_reads r2 r1 (SeqAt.canLay_of_shaped se) (SeqAt.canLay_of_shaped sd) (room_in_shaped sd hu) ⟨.bl _, H, I, rfl, q⟩
theorem op_notInT (hu : X.A.units + 65 < cLine) : OpR X (compareOp .NotIn) (rInT X.K true) := by
  intro pins s st H x y v u Q I rx ry h
  obtain ⟨d, ds, hd, he, sd, se, q⟩ := h
  obtain ⟨as, r1⟩ := Dp.reads I d x v hd rx
  obtain ⟨bs, r2⟩ := Dp.reads I (.tuple ds) y u he ry
  exact SeqAt.notIn_tuple_reads r2 r1 (SeqAt.canLay_of_shaped se) (SeqAt.canLay_of_shaped sd) (room_in_shaped sd hu) ⟨.bl _, H, I, rfl, q⟩
def rSign (neg : Bool) : R2 := fun x y H Q => ∃ (c : Nat) (z : Str), x = .str ⟨#[c]⟩ ∧ y = .str z ∧ Q (.bl (xb neg (decide (c ∈ z.cps.toList)))) H
def rInA (K : PySem.W.Frag) : R2 := fun x y H Q => rSign false x y H Q ∨ (rInD K x y H Q ∨ rInT K false x y H Q)
def rNotInA (K : PySem.W.Frag) : R2 := fun x y H Q => rSign true x y H Q ∨ (rNotInD K x y H Q ∨ rInT K true x y H Q)
theorem op_inA (hu : X.A.units + 65 < cLine) : OpR X (compareOp .In) (rInA X.K) := (show OpR X (compareOp .In) (rSign false) from op_in_sign).or ((op_inD hu).or (op_inT hu))
theorem op_notInA (hu : X.A.units + 65 < cLine) : OpR X (compareOp .NotIn) (rNotInA X.K) := (show OpR X (compareOp .NotIn) (rSign true) from op_notIn_sign).or ((op_notInD hu).or (op_notInT hu))
def oIn (neg : Bool) : O2 := fun x y Q => match y with
  | .str z => ∃ c : Nat, x = .str ⟨#[c]⟩ ∧ Q (.bool (xb neg (decide (c ∈ z.cps.toList))))
  | .lst ys => SeqAt.shaped x.py = true ∧ SeqAt.shaped (.list (pyA ys)) = true ∧ Q (.bool (xb neg ((pyA ys).any fun z => PyData.eqv z x.py)))
  | .tup ys => SeqAt.shaped x.py = true ∧ SeqAt.shaped (.tuple (pyA ys)) = true ∧ Q (.bool (xb neg ((pyA ys).any fun z => PyData.eqv z x.py)))
  | _ => False
theorem sr_in : SndR K (rInA K) (oIn false) := SndR.pure fun H Hs x y vx vy Q Q' s rx ry hq hd => by
  cases y <;> try exact hd.elim
  · obtain ⟨c, rfl, h⟩ := hd
    exact .inl ⟨c, _, rx, ry, hq (.bool _) _ rfl h⟩
  · next ys => exact .inr (.inr ⟨x.py, pyA ys, dp_mono s (rx.dpS hd.1), dp_mono s (Rp.dpS (d := .tup ys) ry hd.2.1), hd.1, hd.2.1, hq (.bool _) _ rfl hd.2.2⟩)
  · next ys => exact .inr (.inl ⟨x.py, pyA ys, dp_mono s (rx.dpS hd.1), dp_mono s (Rp.dpS (d := .lst ys) ry hd.2.1), hd.1, hd.2.1, hq (.bool _) _ rfl hd.2.2⟩)
theorem sr_notIn : SndR K (rNotInA K) (oIn true) := SndR.pure fun H Hs x y vx vy Q Q' s rx ry hq hd => by
  cases y <;> try exact hd.elim
  · obtain ⟨c, rfl, h⟩ := hd
    exact .inl ⟨c, _, rx, ry, hq (.bool _) _ rfl h⟩
  · next ys => exact .inr (.inr ⟨x.py, pyA ys, dp_mono s (rx.dpS hd.1), dp_mono s (Rp.dpS (d := .tup ys) ry hd.2.1), hd.1, hd.2.1, hq (.bool _) _ rfl hd.2.2⟩)
  · next ys => exact .inr (.inl ⟨x.py, pyA ys, dp_mono s (rx.dpS hd.1), dp_mono s (Rp.dpS (d := .lst ys) ry hd.2.1), hd.1, hd.2.1, hq (.bool _) _ rfl hd.2.2⟩)
theorem room65 {k : Nat} {A : Around} (r : Room k A) : A.units + 65 < cLine := by have := r.un; omega
theorem de_in {k : Nat} {a b : Expr} {pos : Pos} {da db : DT} (hr : Room k X.A) (ha : DE X a da) (hb : DE X b db) (hm : behindInMarks .In b = false := by rfl) : DE X (.Compare a [.In] [b] pos) (dOp (oIn false) da db) := de_cmp (op_inA (room65 hr)) sr_in ha hb hm
theorem de_notIn {k : Nat} {a b : Expr} {pos : Pos} {da db : DT} (hr : Room k X.A) (ha : DE X a da) (hb : DE X b db) (hm : behindInMarks .NotIn b = false := by rfl) : DE X (.Compare a [.NotIn] [b] pos) (dOp (oIn true) da db) := de_cmp (op_notInA (room65 hr)) sr_notIn ha hb hm
theorem dp_in {k : Nat} {a b : Expr} {pos : Pos} {da db : DT} (hr : Room k X.A) (ha : DE X a da) (hb : DE X b db) (hm : behindInMarks .In b = false := by rfl) : DP X (.Compare a [.In] [b] pos) (dTest (dOp (oIn false) da db)) := dp_cmp (op_inA (room65 hr)) sr_in ha hb hm
theorem dp_notIn {k : Nat} {a b : Expr} {pos : Pos} {da db : DT} (hr : Room k X.A) (ha : DE X a da) (hb : DE X b db) (hm : behindInMarks .NotIn b = false := by rfl) : DP X (.Compare a [.NotIn] [b] pos) (dTest (dOp (oIn true) da db)) := dp_cmp (op_notInA (room65 hr)) sr_notIn ha hb hm
/-! text * number -/
def CMulS (x : Str) (n : Int) : Prop := 0 ≤ n ∧ n ≤ 100000 ∧ x.length * n.toNat ≤ lim
theorem CMulS.ok {x : Str} {n : Int} (h : CMulS x n) : MulOk x n := by
  obtain ⟨h0, h1, h2⟩ := h
  refine ⟨?_, fun a b c => ?_, fun a b => ?_⟩
  · rw [decide_eq_false (by omega), decide_eq_false (by omega)]; rfl
  · have h3 : (x.length : Int) ≤ (2 ^ 63 - 1) / n := by
      rw [Int.le_ediv_iff_mul_le (by omega)]
      have e : (x.length : Int) * n = ((x.length * n.toNat : Nat) : Int) := by rw [Int.natCast_mul, Int.toNat_of_nonneg h0]
      rw [e]
      have : lim = 1000000 := rfl
      omega
    omega
  · unfold Builtin.Str.tooLong
    exact decide_eq_false (by have := lim_le h2; omega)
/-! {} and {k: v} -/
def dDict0 : DT := fun _ _ f Q => Q (.dct [] []) f
theorem de_dict0 {pos : Pos} : DE X (.Dict [] [] pos) dDict0 := .mk' (pe_dnewK) (fun g ro f st H Hs Q Q' A hq hd p hp => by
  have al : Stp none H Hs (upd H p (.dK [])) (upd Hs p (.dK [])) := Stp.alloc A.sub hp
  exact hq (.dct [] []) f _ _ _ al.gen (A.dk.stp al) ⟨p, [], rfl, upd_same, rfl, rfl⟩ hd)
def dDict1 (k v : DT) : DT := fun g r f Q => k g r f fun x f1 => v g r f1 fun y f2 => match x with
  | .str s => Q (.dct [.inr s] [y]) f2
  | _ => False
theorem de_dict1 {k v : Expr} {pos : Pos} {dk dv : DT} (hk : DE X k dk) (hv : DE X v dv) : DE X (.Dict [some k] [v] pos) (dDict1 dk dv) := .mk' (pe_disp (pps_cons hk.pe hv.pe pps_nil) (by rfl) (by rfl) (fun z => by cases z) (show 1 ≤ 15 by decide)) (fun g ro f st H Hs Q Q' A hq hd p hp => by
  have al : Stp none H Hs (upd H p (.dK [])) Hs := Stp.lay A.sub hp
  have nk := A.dk.out hp
  have A0 : At X.K g ro f st (upd H p (.dK [])) Hs := ⟨al.sub, A.dk.stp al, A.sl⟩
  refine hk.sn g ro f st _ Hs _ _ A0 (fun x f1 vx H1 Hs1 s1 k1 r1 q1 => hv.sn g ro f1 st H1 Hs1 _ _ (A0.step s1 k1) (fun y f2 vy H2 Hs2 s2 k2 r2 q2 => ?_) q1) hd
  cases x <;> try exact q2.elim
  next sx =>
  have st2 := (al.gen.trans s1).trans s2
  have e1 : H1 p = some (.dK []) := s1.keep p _ upd_same nk
  have e2 : H2 p = some (.dK []) := s2.keep p _ e1 nk
  have n0 : Hs p = none := same_none A.sub hp
  have n1 : Hs1 p = none := s1.new p _ upd_same n0
  have n2 : Hs2 p = none := s2.new p _ e1 n1
  refine ⟨e2, [(.inr sx, vy)], by rw [show vx = V.str sx from r1]; rfl, (by decide : 1 ≤ 15), ?_⟩
  have st3 : Stp g H Hs (upd H2 p (.dK [(.inr sx, vy)])) Hs2 := st2.mut hp n2
  have st4 := st3.share hp upd_same n2
  refine hq (.dct [.inr sx] [y]) f2 (.ref p) _ _ st4 ((k2.mut nk).share nk) ⟨p, [vy], rfl, upd_same, rfl, RpA.one (r2.mono fun b u e => ?_)⟩ q2
  rw [upd_ne (ne_of_none e n2)]
  exact e)
end
end DL
namespace DL
open PySem PySem.Spec PyProof.Rows L2
/-! instances of own classes -/
structure KC (K : PySem.W.Frag) (c : Str) (C : Addr) : Prop where
  ns : PySem.W.nsIn K mainGlobals c = some (some (.ref C))
  cls : Cls K C
theorem KC.uniq {K : PySem.W.Frag} {c : Str} {C C' : Addr} (k : KC K c C) (h : PySem.W.nsIn K mainGlobals c = some (some (.ref C'))) : C' = C := by
  have := k.ns
  rw [h] at this
  cases this
  rfl
section
variable {X : Cx} {K : PySem.W.Frag} {W : WX}
theorem lookup_zip {H : Hp} {f : Str} {y : D} : ∀ {ns : List Str} {xs : List D} {vs : List V}, RpA K H xs vs → (ns.zip xs).lookup f = some y → ∃ v, (ns.zip vs).lookup f = some v ∧ Rp K H y v
  | [], _, _, _, h => by simp at h
  | _ :: _, [], _, _, h => by simp at h
  | n :: ns, x :: xs, _, ⟨v, r, h1, h2, h3⟩, h => by
    subst h1
    rw [List.zip_cons_cons, List.lookup_cons] at h ⊢
    cases e : f == n with
    | true => rw [e] at h; cases h; exact ⟨v, rfl, h2⟩
    | false => rw [e] at h; exact lookup_zip h3 h
theorem putF_new {f : Str} {v : V} : ∀ {ns : List Str} {vs : List V}, ns.length = vs.length → f ∉ ns → putF f v (ns.zip vs) = (ns ++ [f]).zip (vs ++ [v])
  | [], [], _, _ => rfl
  | n :: ns, w :: vs, hl, h => by
    have e : n ≠ f := fun e => h (by simp [e])
    show (if n = f then _ else _) = _
    rw [if_neg e]
    show (n, w) :: putF f v (ns.zip vs) = _
    rw [putF_new (by simpa using hl) fun e => h (by simp [e])]
    rfl
/-! e.f -/
def dFld (c f : Str) (dl : DT) : DT := fun g r n Q => dl g r n fun d n1 => match d with
  | .obj c' ns xs => c' = c ∧ ∃ y, (ns.zip xs).lookup f = some y ∧ Q y n1
  | _ => False
theorem snd_fld {c f : Str} {C : Addr} {t : TE} {d : DT} (k : KC K c C) (n : NoAttr K C f) (h : Snd K t d) : Snd K (tFld K t f) (dFld c f d) := fun g r fu st H Hs Q Q' A hq hd =>
  h g r fu st H Hs _ _ A (fun x f1 v H1 Hs1 s1 k1 r1 q1 => by
    cases x <;> try exact q1.elim
    obtain ⟨rfl, y, hy, q1⟩ := q1
    obtain ⟨C', a, dx, vs, h0, rfl, h2, h3, h4, h5⟩ := r1
    cases k.uniq h0
    obtain ⟨w, hw, rw'⟩ := lookup_zip h5 hy
    exact ⟨a, C, dx, _, w, rfl, s1.sub _ _ h2, k.cls, n, hw, hq y f1 w H1 Hs1 s1 k1 rw' q1⟩) hd
theorem de_fld {c f : Str} {C : Addr} {e : Expr} {pos : Pos} {d : DT} (k : KC X.K c C) (n : NoAttr X.K C f) (h : DE X e d) (hb : attributeBase e f X.env (eval e X.env) = eval e X.env := by rfl) : DE X (.Attribute e f pos) (dFld c f d) :=
  .mk' (pe_fld h.pe hb) (snd_fld k n h.sn)
/-! self.f = e under __init__ -/
def sFldO (m : Bool) (i : Nat) (c f : Str) (dl : DT) : DTS := fun g r n E => ∃ a ns xs, r[i]? = some (.oi a c ns xs) ∧ f ∉ ns ∧ ns.length < 900 ∧ evM m dl g r n fun d n' => E.nx (r.set i (.oi a c (ns ++ [f]) (xs ++ [d]))) n'
theorem snd_fldO {m : Bool} {i : Nat} {c f : Str} {C : Addr} {t : TE} {d : DT} (k : KC K c C) (n : NoAttr K C f) (h : Snd K t d) : SndS K W (sFld K (tVar i) t f) (sFldO m i c f d) := fun g H0 Hs0 r fu st H D E s e hd => by
  obtain ⟨Hs, s⟩ := s
  obtain ⟨a, ns, xs, hx, hf, hl, hd⟩ := hd
  refine snd_evM h s (fun d f' v H' Hs' s' _ hr q => ?_) hd
  obtain ⟨_, ha, n1, n0, rfl, C', dx, vs, h0, q1, q2, q3, q4, q5, q6⟩ := s'.ow i _ hx rfl
  cases k.uniq h0
  have ho : Owned r st a := ⟨i, _, hx, rfl, ha⟩
  have hne : dx ≠ a := fun z => s'.notOwnedDx q2 (z ▸ ho)
  refine ⟨.ref a, ha, a, C, dx, ns.zip vs, rfl, q1, k.cls, n, ?_, e.nx _ f' st _ ⟨Hs', ?_⟩ q⟩
  · rw [List.length_zip]; omega
  · refine s'.mutOwn (u := .oi a c (ns ++ [f]) (xs ++ [d])) hx rfl ha rfl ⟨rfl, C, dx, vs ++ [v], h0, ?_, by rw [upd_ne hne]; exact q2, q3, q4, by simp [q5], q6.append (RpA.one hr)⟩
    rw [upd_same, putF_new q5 hf]
theorem ds_fldO (m : Bool) {i : Nat} {c f x : Str} {C : Addr} {e : Expr} {px apos pos : Pos} {d : DT} (k : KC X.K c C) (n : NoAttr X.K C f) (h : DE X e d) (hN : X.N[i]? = some x := by rfl) (hv : Vis X.env.scope x := by first | exact Or.inl rfl | exact Or.inr (Or.inl rfl) | exact Or.inr (Or.inr rfl)) (hd : (x == ("__debug__" : Str)) = false := by decide)
    (hcd : (x == ("__classdict__" : Str)) = false := by decide) (hs : swapsWith e (some (.Attribute (.Name x px) f apos)) pos.line X.env = pure false := by rfl) : DS X (.Assign [.Attribute (.Name x px) f apos] e pos) (sFldO m i c f d) :=
  .mk' (ps_fld (pe_var hN hv hd hcd) h.pe hs) (snd_fldO k n h.sn)
/-! C(..) -/
def spInit (K : PySem.W.Frag) (c : Str) (S : DSp) : Sp := fun vs H Q _ => ∃ (C x dx : Addr) (us : List V) (H1 : Hp) (g : Option Dk) (Hs : Hp) (ds : List D) (f : Nat) (Q' : QD), PySem.W.nsIn K mainGlobals c = some (some (.ref C)) ∧ vs = .ref x :: us ∧
  H = upd (upd H1 dx (.own x)) x (.ins C dx []) ∧ H1 x = none ∧ H1 dx = none ∧ dx ≠ x ∧ Same Hs H1 ∧ DkOk g H1 Hs f ∧ RpA K Hs ds us ∧ S g ds f Q' ∧
  ∀ d f' H' Hs', Stp g H1 Hs H' Hs' → DkOk g H' Hs' f' → Rp K Hs' d (.ref x) → Q' d f' → Q .non H'
structure Mkr (P : Program) (w : World) (K : PySem.W.Frag) (mg : Str → Option Value) (base : Heap) (k : Nat) (c : Str) (ps : List Str) (S : DSp) : Prop where
  ex : ∃ C f fd, Mk K C f ∧ FnOk P w K mg base CX0 k f fd ps (spInit K c S) ∧ Binds K fd ps [] ∧ PySem.W.nsIn K mainGlobals c = some (some (.ref C)) ∧ mg c = some (.ref C)
theorem snd_make {c : Str} {C : Addr} {S : DSp} {E : XK} {t : TA} {d : DTA} (h0 : PySem.W.nsIn K mainGlobals c = some (some (.ref C))) (ht : SndA K t d) : Snd K (tMake C (spInit K c S) [] E t) (dCall S d) := fun g ro f st H Hs Q Q' A hq hd =>
  ht g ro f st H Hs _ _ A (fun ds f1 vs H1 Hs1 s1 k1 r1 q1 => fun x dx hx hdx hne => by
    show spInit K c S (.ref x :: (vs ++ [])) _ _ E
    rw [List.append_nil]
    exact ⟨C, x, dx, vs, H1, g, Hs1, ds, f1, Q', h0, rfl, rfl, hx, hdx, hne, s1.sub, k1, r1, q1, fun d f' H' Hs' s2 k2 r2 q2 => ⟨rfl, hq d f' (.ref x) H' Hs' (s1.trans s2) k2 r2 q2⟩⟩) hd
theorem de_make {c : Str} {ps : List Str} {k : Nat} {S : DSp} {p pos : Pos} {e : Expr} {es : List Expr} {d : DTA} (m : Mkr X.prog X.w X.K X.mg X.base k c ps S) (hr : Room (k + 1) X.A)
    (ha : DA X (e :: es) d) (hg : Gl X c := by rfl) (hdb : (c == ("__debug__" : Str)) = false := by decide) (hs : starEach (e :: es) X.env = (false, eval e X.env) :: starEach es X.env := by rfl)
    (hpl : (backTo pos (starEach es X.env)).any (·.1) = false := by rfl) : DE X (.Call (.Name c p) (e :: es) [] pos) (dCall S d) := by
  obtain ⟨C, f, fd, M, F, hb, h0, hm⟩ := m.ex
  exact .mk' (pe_make M F hr hg hm hb .nil pass0 ha.pa hdb hs hpl) (snd_make h0 ha.sn)
/-- the instance under __init__ is shared -/
theorem SIn.shareO {g : Option Dk} {H0 Hs0 : Hp} {r : Sg} {f : Nat} {st : L2.St} {H Hs : Hp} (s : SIn K g H0 Hs0 r f st H Hs) {i : Nat} {c : Str} {ns : List Str} {xs : List D} {a : Addr} (hi : r[i]? = some (.oi a c ns xs)) :
    ∃ Hs', Stp g H0 Hs0 H Hs' ∧ DkOk g H Hs' f ∧ Rp K Hs' (.obj c ns xs) (.ref a) := by
  obtain ⟨_, ha, n1, n0, rfl, C, dx, vs, h0, q1, q2, q3, q4, q5, q6⟩ := s.ow i _ hi rfl
  have ho : Owned r st a := ⟨i, _, hi, rfl, ha⟩
  have hne : dx ≠ a := fun z => s.notOwnedDx q2 (z ▸ ho)
  have na : (upd Hs dx (.own a)) a = none := by rw [upd_ne fun z => hne z.symm]; exact n1
  refine ⟨upd (upd Hs dx (.own a)) a (.ins C dx (ns.zip vs)), (s.stp.share q4 q2 q3).share n0 q1 na, (s.dk.share (s.dkDx q4)).share (s.notDk ho), C, a, dx, vs, h0, rfl, upd_same, by rw [upd_ne hne, upd_same], q5, q6.mono fun b u e => ?_⟩
  rw [upd_ne (ne_of_none e n1), upd_ne (ne_of_none e q3)]
  exact e
/-! a def __init__ -/
def startI (n : Nat) (a : Addr) (c : Str) (ds : List D) : Sg := .oi a c [] [] :: (ds.map .sh ++ List.replicate (n - ds.length) .no)
variable {P : Program} {w : World} {mg : Str → Option Value} {base : Heap}
theorem dinit {x qual c : Str} {st : Stmt} {f : Addr} {fd : FuncData} {nm : Str} {N ps : List Str} {k : Nat} {S : DSp} {dl : DTS} (F : Fun K x qual st f fd) (sc : FnScope (nm :: N) (nm :: ps) (defScope st)) (len : ∀ g ds n Q, S g ds n Q → ds.length = ps.length)
    (hb : ∀ (cdv : Value) (A : Around) (outer : List Env) (s : Shared) (H : Hp) (E : XK), Room k (A.deeper (envOfC qual (defScope st) s.heap.objs.size f cdv)) → DSs (cxOf CX0 P w K mg base (nm :: N) qual (defScope st) f cdv A outer s H E).nox (defBody st) dl)
    (h : ∀ a g ds n Q, S g ds n Q → dl g (startI N.length a c ds) n { nx := fun r n => ∃ ns xs, r[0]? = some (.oi a c ns xs) ∧ Q (.obj c ns xs) n, rt := fun _ _ => False }) : FnOk P w K mg base CX0 (k + 1) f fd (nm :: ps) (spInit K c S) := by
  refine F.ok sc (fun vs H Q E h => ?_) (fun cdv A outer s H vs Q E hr hsp => ?_)
  · obtain ⟨C, x, dx, us, H1, g, Hs, ds, n, Q', h0, rfl, _, _, _, _, h1, h2, h3, h4, h5⟩ := h
    show us.length + 1 = ps.length + 1
    rw [← h3.length, len g ds n Q' h4]
  · obtain ⟨C, x, dx, us, H1, g, Hs, ds, n, Q', h0, rfl, rfl, hx, hdx, hne, h1, h2, h3, h4, h5⟩ := hsp
    refine ⟨_, (hb cdv A outer s _ E hr).ps, ?_⟩
    have l1 : Stp g H1 Hs (upd H1 dx (.own x)) Hs := Stp.lay h1 hdx
    have hx1 : upd H1 dx (.own x) x = none := by rw [upd_ne fun z => hne z.symm]; exact hx
    have l2 : Stp g H1 Hs (upd (upd H1 dx (.own x)) x (.ins C dx [])) Hs := l1.trans (Stp.lay l1.sub hx1)
    have nx' := h2.out hx
    have ndx := h2.out hdx
    have hsx : Hs x = none := same_none h1 hx
    have hsdx : Hs dx = none := same_none h1 hdx
    have S0 : SIn K g H1 Hs (startR N.length ds) n (L2.start N us) H1 Hs := start_in h1 h2 h3
    have no : ∀ (i : Nat) (s : Sl), (startR N.length ds)[i]? = some s → s.own = false := fun i s h => by
      have := List.mem_of_getElem? h
      unfold startR at this
      rcases List.mem_append.mp this with h | h
      · obtain ⟨d, _, rfl⟩ := List.mem_map.mp h
        rfl
      · rw [(List.mem_replicate.mp h).2]
        rfl
    have st0 : L2.start (nm :: N) (.ref x :: us) = some (.ref x) :: L2.start N us := by
      unfold L2.start
      simp
    have SI : SIn K g H1 Hs (startI N.length x c ds) n (L2.start (nm :: N) (.ref x :: us)) (upd (upd H1 dx (.own x)) x (.ins C dx [])) Hs := by
      rw [st0]
      refine ⟨by show (startR N.length ds).length + 1 = (L2.start N us).length + 1; rw [S0.len], ⟨n, h2⟩, (h2.mut ndx).mut nx', l2, fun i d hi => ?_, fun i sl hi ho => ?_, fun i j sl u b hi hj ho ho' h1' h2' => ?_⟩
      · cases i with
        | zero => cases hi
        | succ i => exact S0.sh i d hi
      · cases i with
        | zero =>
          cases hi
          exact ⟨x, rfl, hsx, hx, rfl, C, dx, [], h0, upd_same, by rw [upd_ne hne, upd_same], hsdx, hdx, rfl, rfl⟩
        | succ i => rw [no i sl hi] at ho; cases ho
      · cases i with
        | zero =>
          cases j with
          | zero => rfl
          | succ j => rw [no j u hj] at ho'; cases ho'
        | succ i => rw [no i sl hi] at ho; cases ho
    refine (hb cdv A outer s (upd (upd H1 dx (.own x)) x (.ins C dx [])) E hr).sn g H1 Hs _ n _ _ _ { nx := fun r n => ∃ ns xs, r[0]? = some (.oi x c ns xs) ∧ Q' (.obj c ns xs) n, rt := fun _ _ => False } ⟨Hs, SI⟩ ⟨fun r f st H' q h => ?_, fun d f v H' Hs' p k hr h => h.elim, fun _ _ _ _ _ h => h, fun _ _ _ _ _ h => h, fun _ _ _ _ _ _ _ _ h => h.elim⟩ (h x g ds n Q' h4)
    obtain ⟨Hs', q⟩ := q
    obtain ⟨ns, xs, e, h⟩ := h
    obtain ⟨Hs2, p, kk, rr⟩ := q.shareO e
    exact h5 _ f H' Hs2 p kk rr h
end
/-! methods, properties, in -/
def CalP (P : Program) (w : World) (K : PySem.W.Frag) (mg : Str → Option Value) (base : Heap) (k : Nat) (c m : Str) (ps : List Str) (S : DSp) : Prop :=
  ∃ C p f fd, KC K c C ∧ PropOf K C m p f ∧ FnOk P w K mg base CX0 k f fd ps (spOf K S) ∧ Binds K fd ps []
section
variable {X : Cx} {K : PySem.W.Frag} {W : WX}
def dProp (c : Str) (S : DSp) (o : DT) : DT := fun g r n Q => o g r n fun d n1 => match d with
  | .obj c' ns xs => c' = c ∧ S g [.obj c' ns xs] n1 Q
  | _ => False
theorem snd_prop {c : Str} {C : Addr} {S : DSp} {E : XK} {to : TE} {o : DT} (k : KC K c C) (ho : Snd K to o) : Snd K (tProp C (spOf K S) [] E to) (dProp c S o) := fun g ro f st H Hs Q Q' A hq hd =>
  ho g ro f st H Hs _ _ A (fun x f1 v H1 Hs1 s1 k1 r1 q1 => by
    cases x <;> try exact q1.elim
    next c' ns xs =>
    obtain ⟨rfl, q1⟩ := q1
    have r0 := r1
    obtain ⟨C', a, dx, vs, h0, rfl, h2, h3, h4, h5⟩ := r1
    cases k.uniq h0
    exact ⟨a, dx, _, rfl, s1.sub _ _ h2, g, Hs1, [.obj c' ns xs], f1, Q', s1.sub, k1, RpA.one r0, q1, fun d f' v H' Hs' s3 k3 r3 q3 => hq d f' v H' Hs' (s1.trans s3) k3 r3 q3⟩) hd
theorem de_prop {c m : Str} {k : Nat} {ps : List Str} {S : DSp} {o : Expr} {pos : Pos} {d : DT} (cp : CalP X.prog X.w X.K X.mg X.base k c m ps S) (hr : Room (k + 1) X.A) (ho : DE X o d) (hb' : attributeBase o m X.env (eval o X.env) = eval o X.env := by rfl) : DE X (.Attribute o m pos) (dProp c S d) := by
  obtain ⟨C, p, f, fd, kc, M, F, hb⟩ := cp
  exact .mk' (pe_prop ho.pe kc.cls M F hr hb .nil pass0 hb') (snd_prop kc ho.sn)
/-! x in o, by the class's own __contains__ -/
/-! isinstance with instances of own classes among the values -/
structure KTy (K : PySem.W.Frag) (C : Addr) : Prop where
  ha : PySem.W.findIn K (.ref C) "__class__" = some (some (.builtin "object.__class__"))
  hn : PySem.W.specialIn K (.builtin "object.__class__") "__get__" = some (some (.builtin "getset_descriptor.__get__"))
  htk : PySem.W.takesIn K (.builtin "object.__class__") = some true
  hm : PySem.W.mroIn K C (.type "object") = some true
end
end DL
namespace DL
open PySem PySem.Spec PyProof.Rows L2
/-! sorted(..) of data that can be compared: a list, a tuple, a dict's keys -/
section
variable {prog : Program} {w : World} {A : Around} {E : Value → Shared → Prop} {s : Shared}
theorem collect_tup {l : Addr} {vs : List Value} {Q : List Value → Shared → Prop} (hl : IsTup s.heap l vs.toArray)
    (h : Q vs { s with heap := (s.heap.push (seqObj "list" #[] 0)).update s.heap.objs.size (Obj.mapSeq (· ++ vs.toArray)) }) (hsz : vs.length ≤ sizeLine) :
    wpAny (model prog w) A (collect (.ref l)) Q E s := by
  obtain ⟨o, ho, hc, n, hd⟩ := id hl
  unfold collect
  refine wpAny_bind (wpAny_runValue (codeAny_builtin entry_proto_collect' ?_))
  show wpAny _ _ (do again (.builtin "list.__iadd__" ⟨[← newList [], .ref l], []⟩)) _ _ s
  refine wpAny_bind (wpAny_newList (wpAny_pure ⟨Code.quiet_builtin _ (by decide +kernel), codeAny_builtin entry_list_iadd' ?_⟩))
  show wpAny _ _ (Builtin.List.listExtendWith (.ref s.heap.objs.size) (.ref l) (.ref s.heap.objs.size)) _ _ { s with heap := s.heap.push (seqObj "list" #[] 0) }
  unfold Builtin.List.listExtendWith
  have ho' : (s.heap.push (seqObj "list" #[] 0)).get? l = some o := Heap.get?_push_of_some _ ho
  refine wpAny_bind (wpAny_typeOf (T := "tuple") ⟨o, ho', hc⟩ ?_)
  have ht : (Value.type "tuple" == Value.type "tuple") = true := by rfl
  rw [if_pos (by rw [ht]; simp)]
  refine wpAny_bind (listItems_at ho' hd ?_)
  refine wpAny_bind (listItems_at (xs := #[]) (n := 0) (Heap.get?_push_size _ rfl) rfl ?_)
  rw [if_neg (by simp)]
  refine wpAny_bind (listUpdate_at (xs := #[]) (n := 0) (Heap.get?_push_size _ rfl) rfl ?_ (Nat.zero_le _) (by show (#[] ++ vs.toArray).size ≤ sizeLine + 1; simp only [Array.size_append, List.size_toArray, List.length_nil]; omega))
  refine wpAny_pure ?_
  show wpAny (model prog w) A (do
      let o ← load s.heap.objs.size
      match o.data with
      | .seq xs _ => pure xs.toList
      | _ => unsupported "internal:collect") Q E { s with heap := (s.heap.push (seqObj "list" #[] 0)).update s.heap.objs.size (Obj.mapSeq (· ++ vs.toArray)) }
  refine wpAny_bind (wpAny_load (get?_update_seq (Heap.get?_push_size _ rfl) _) ?_)
  show wpAny _ _ (pure ((#[] : Array Value) ++ vs.toArray).toList) Q E _
  rw [show ((#[] : Array Value) ++ vs.toArray).toList = vs by simp]
  exact wpAny_pure h
theorem copied_old {h : Heap} {vs : List Value} {b : Addr} {o : Obj} (e : h.get? b = some o) : ((h.push (seqObj "list" #[] 0)).update h.objs.size (Obj.mapSeq (· ++ vs.toArray))).get? b = some o := by
  rw [Heap.get?_update_ne _ _ _ _ (Nat.ne_of_lt (Heap.lt_size e))]
  exact Heap.get?_push_of_some _ e
end
mutual
theorem reads_lt {h : Heap} : ∀ {v : Value} {d : PyData} {as : List Addr}, Reads h v d as → ∀ x ∈ as, x < h.objs.size
  | _, _, _, .none, x, hx => by cases hx
  | _, _, _, .bool b, x, hx => by cases hx
  | _, _, _, .int i t, x, hx => by cases hx
  | _, _, _, .str y t, x, hx => by cases hx
  | _, _, _, .list h1 h2 h3 h4, x, hx => by
    rcases List.mem_cons.mp hx with rfl | hx
    · exact Heap.lt_size h1
    · exact readsA_lt h4 x hx
  | _, _, _, .tuple h1 h2 h3 h4, x, hx => readsA_lt h4 x hx
  | _, _, _, .dict h1 h2 h3 h4 h5, x, hx => by
    rcases List.mem_append.mp hx with hx | hx
    · rcases List.mem_cons.mp hx with rfl | hx
      · exact Heap.lt_size h1
      · exact readsA_lt h4 x hx
    · exact readsA_lt h5 x hx
theorem readsA_lt {h : Heap} : ∀ {vs : List Value} {ds : List PyData} {as : List Addr}, ReadsAll h vs ds as → ∀ x ∈ as, x < h.objs.size
  | _, _, _, .nil, x, hx => by cases hx
  | _, _, _, .cons h1 h2, x, hx => by
    rcases List.mem_append.mp hx with hx | hx
    · exact reads_lt h1 x hx
    · exact readsA_lt h2 x hx
end
def Src (K : PySem.W.Frag) (H : Hp) (a : Addr) (xs : List V) : Prop := SqL K H a xs ∨ SqT K H a xs ∨ ∃ kvs : List (Key × V), Rd H a (.dK kvs) ∧ xs = kvs.map fun kv => kV kv.1
section
variable {X : Cx} {pins : List (Addr × Obj)} {st : L2.St} {H : Hp} {s : Shared}
theorem collect_src {a : Addr} {xs : List V} {A : Around} {R : List Value → Shared → Prop} {E : Value → Shared → Prop} (I : Inv X pins st H s) (hc : A.handled = none) (h : Src X.K H a xs) (hl : xs.length ≤ sizeLine)
    (q : ∀ (h' : Heap) (tk : Nat) (us : List Value), (∀ b o, s.heap.get? b = some o → h'.get? b = some o) → Vals xs us → R us { s with heap := h', toks := tk }) : wpAny (model X.prog X.w) A (collect (.ref a)) R E s := by
  rcases h with h | h | ⟨kvs, h, rfl⟩
  · obtain ⟨its, rv, hp, hz⟩ := I.list h
    exact collect_list hp.isList (q _ _ its (fun b o e => copied_old e) rv) (by rw [← rv.length]; exact hz)
  · obtain ⟨its, rv, hp, hz⟩ := I.tuple h
    exact collect_tup hp (q _ _ its (fun b o e => copied_old e) rv) (by rw [← rv.length]; exact hz)
  · obtain ⟨z, lo, vs, rel, dd⟩ := dk_rd I.hok h
    obtain ⟨ep, hat⟩ := dd.dictAt
    have ek : (kvs.map fun kv => kV kv.1) = vs.map fun p => kV p.1 := by
      have e := congrArg (List.map kV) rel.keys
      rw [List.map_map, List.map_map] at e
      exact e
    refine PySem.W.kdu_collect (PySem.W.kdl_dict (knd := mixKind X.prog X.w) (kvs := vs) (ep := ep) lo) hc hat (by rw [← rel.length]; exact z) fun h' tk acc hk hacc => ?_
    refine q h' tk acc.toList hk ?_
    rw [ek]
    refine keys_at (by rw [Array.length_toList, hacc.1]) fun j v e => ?_
    exact hacc.2 j v (by rw [← Array.getElem?_toList]; exact e)
def rSortA (K : PySem.W.Frag) : List V → Hp → VK → Prop := fun vs H Q => ∃ (a : Addr) (bs : List (V × PyData)), vs = [.ref a] ∧ Src K H a (bs.map (·.1)) ∧ bs.length ≤ lim ∧ (∀ b ∈ bs, Dp K H b.1 b.2) ∧ PySem.W.AllAlike (bs.map (·.2)) ∧ PySem.W.Sortable (bs.map (·.2)) ∧ (∀ b ∈ bs, b.2.depth ≤ 30) ∧
  ∀ p, H p = none → Q (.ref p) (upd H p (.lst ((bs.mergeSort (PySem.W.dataLe false (·.2))).map (·.1))))
theorem each_vals : ∀ {bs : List (V × PyData)} {us : List Value}, Vals (bs.map (·.1)) us → PySem.W.EachIs (fun v (b : V × PyData) => RelV b.1 v) us bs
  | [], _, h => by cases h; exact .nil
  | b :: bs, _, h => by
    rw [List.map_cons] at h
    cases h with
    | cons r t => exact .cons r (each_vals t)
theorem vals_each : ∀ {bs : List (V × PyData)} {us : List Value}, PySem.W.EachIs (fun v (b : V × PyData) => RelV b.1 v) us bs → Vals (bs.map (·.1)) us
  | [], _, h => by cases h; exact .nil
  | b :: bs, _, h => by
    cases h with
    | cons r t => exact .cons r (vals_each t)
theorem cr_sortA (hc : X.calm = true) (hu : X.A.units + 64 < cLine) : CallR X (.builtin "sorted") (rSortA X.K) := by
  intro pins s st H vs us Q I r h
  obtain ⟨a, bs, rfl, hs, hl, hdp, hal, hk, hde, q⟩ := h
  rw [Vals.ref1 r]
  refine Calls.call_function_entry PyProof.Rows.kind_sorted PyProof.Rows.plain_sorted PyProof.Rows.entry_sorted (PyProof.Rows.args_sorted1 _) ?_
  unfold Builtin.«sorted»
  refine wpAny_bind (m := checkCount "sorted" 1 1 _) (wpAny_pure ?_)
  have hL : bs.length ≤ sizeLine := lim_le hl
  refine wpAny_bind (collect_src (A := X.A.in1) I (I.ok.hd hc) hs (by rw [List.length_map]; exact hL) fun h' tk ws keep rv => ?_)
  have I1 : Inv X pins st H { s with heap := h', toks := tk } := I.kept keep
  have hwl : ws.length = bs.length := by rw [← rv.length, List.length_map]
  refine wpAny_bind (wpAny_newList ?_ (by rw [hwl]; exact hL))
  have hoL : (h'.push (seqObj "list" ws.toArray 0)).get? h'.objs.size = some (seqObj "list" ws.toArray 0) := Heap.get?_push_size _ rfl
  show wpAny _ _ _ _ _ { s with heap := h'.push (seqObj "list" ws.toArray 0), toks := tk }
  have e := each_vals rv
  have er : PySem.W.EachIs (fun v (b : V × PyData) => ∃ as, Reads (h'.push (seqObj "list" ws.toArray 0)) v b.2 as ∧ h'.objs.size ∉ as) ws bs := by
    refine (PySem.W.each_mem e).mono fun v b ⟨rb, hb⟩ => ?_
    obtain ⟨as, ra⟩ := Dp.reads I1 b.2 b.1 v (hdp b hb) rb
    refine ⟨as, PyProof.Rows.Reads.keeps (fun _ _ z => Heap.get?_push_of_some _ z) ra, fun z => ?_⟩
    exact Nat.lt_irrefl _ (reads_lt ra _ z)
  refine wpAny_bind (wpAny_holding (PySem.W.list_sort_data (A := X.A.in1) (s := { s with heap := h'.push (seqObj "list" ws.toArray 0), toks := tk }) hoL e er hal hk hL (fun b hb => ?_) fun out ho hout => ?_))
  · have := hde b hb
    show X.A.units + 1 + 1 + b.2.depth < cLine
    omega
  · obtain ⟨e', he'⟩ := PyProof.Rows.sortedHeap_at (vs := ws) (out := out.toArray) hoL
    have hv := vals_each hout
    have hlen : ((bs.mergeSort (PySem.W.dataLe false (·.2))).map (·.1)).length ≤ sizeLine := by rw [List.length_map, List.length_mergeSort]; exact hL
    refine wpAny_pure ⟨_, rfl, .ref h'.objs.size, upd H h'.objs.size (.lst _), I1.laid (t' := tk) (fun b u e => ?_) (Nat.le_refl _)
      (show ObjOk X.prog X.w _ _ _ (.lst _) from ⟨hlen, out, e', hv, he'⟩), rfl, q _ (I1.hok.fresh (Nat.le_refl _))⟩
    have hb : b < h'.objs.size := Heap.lt_size e
    rw [PyProof.Rows.sortedHeap_old (Nat.ne_of_lt hb) (by rw [size_push']; exact Nat.lt_succ_of_lt hb)]
    exact Heap.get?_push_of_some _ e
variable {K : PySem.W.Frag}
def sortD (xs : List D) : List D := xs.mergeSort (PySem.W.dataLe false D.py)
structure Sorts (xs : List D) : Prop where
  len : xs.length ≤ lim
  lay : PyData.canLayAll0 (pyA xs) = true
  al : PySem.W.AllAlike (xs.map D.py)
  so : PySem.W.Sortable (xs.map D.py)
  dep : ∀ x ∈ xs, x.py.depth ≤ 30
def keyD : Key → D
  | .inl i => .int i
  | .inr x => .str x
def oSorted : OA := fun ds Q => match ds with
  | [.lst xs] => Sorts xs ∧ Q (.lst (sortD xs))
  | [.tup xs] => Sorts xs ∧ Q (.lst (sortD xs))
  | [.dct ks _] => Sorts (ks.map keyD) ∧ Q (.lst (sortD (ks.map keyD)))
  | _ => False
theorem RpA.zip_snd {H : Hp} : ∀ {ds : List D} {vs : List V}, RpA K H ds vs → (vs.zip (ds.map D.py)).map (·.1) = vs ∧ (vs.zip (ds.map D.py)).map (·.2) = ds.map D.py ∧ (vs.zip ds).map (fun p => (p.1, p.2.py)) = vs.zip (ds.map D.py) ∧ (vs.zip ds).map (·.2) = ds
  | [], _, h => by cases h; exact ⟨rfl, rfl, rfl, rfl⟩
  | d :: ds, _, ⟨v, r, h1, h2, h3⟩ => by
    subst h1
    obtain ⟨e1, e2, e3, e4⟩ := RpA.zip_snd h3
    simp [e1, e2, e3, e4]
theorem RpA.zip_rp {H : Hp} : ∀ {ds : List D} {vs : List V}, RpA K H ds vs → ∀ p ∈ vs.zip ds, Rp K H p.2 p.1
  | [], _, h, p, hp => by cases h; simp at hp
  | d :: ds, _, ⟨v, r, h1, h2, h3⟩, p, hp => by
    subst h1
    rw [List.zip_cons_cons] at hp
    rcases List.mem_cons.mp hp with rfl | hp
    · exact h2
    · exact RpA.zip_rp h3 p hp
theorem RpA.of_pairs {H : Hp} : ∀ (l : List (V × D)), (∀ p ∈ l, Rp K H p.2 p.1) → RpA K H (l.map (·.2)) (l.map (·.1))
  | [], _ => rfl
  | p :: l, h => ⟨_, _, rfl, h p (by simp), RpA.of_pairs l fun q hq => h q (by simp [hq])⟩
theorem lay_mem {xs : List D} (h : PyData.canLayAll0 (pyA xs) = true) : ∀ x ∈ xs, x.py.canLay0 = true := by
  induction xs with
  | nil => intro x hx; cases hx
  | cons y ys ih =>
    intro x hx
    have h' : y.py.canLay0 = true ∧ PyData.canLayAll0 (pyA ys) = true := Bool.and_eq_true_iff.mp h
    rcases List.mem_cons.mp hx with rfl | hx
    · exact h'.1
    · exact ih h'.2 x hx
theorem sort_core {H Hs : Hp} {xs : List D} {vs : List V} {a : Addr} {Q : VK} {Q' : D → Prop} (s : Same Hs H) (rx : RpA K Hs xs vs) (hs : Sorts xs) (src : Src K H a vs)
    (hq : ∀ z v H' Hs', Stp none H Hs H' Hs' → Rp K Hs' z v → Q' z → Q v H') (q : Q' (.lst (sortD xs))) : rSortA K [.ref a] H Q := by
  obtain ⟨e1, e2, e3, e4⟩ := rx.zip_snd
  have hlen := rx.length
  refine ⟨a, vs.zip (xs.map D.py), rfl, by rw [e1]; exact src, ?_, fun b hb => ?_, by rw [e2]; exact hs.al, by rw [e2]; exact hs.so, fun b hb => ?_, fun p hp => ?_⟩
  · rw [List.length_zip, List.length_map, hlen, Nat.min_self, ← hlen]; exact hs.len
  · rw [← e3] at hb
    obtain ⟨p, hp, rfl⟩ := List.mem_map.mp hb
    have hd : p.2 ∈ xs := by rw [← e4]; exact List.mem_map_of_mem hp
    exact dp_mono s ((rx.zip_rp p hp).dp _ _ (lay_mem hs.lay _ hd))
  · have : b.2 ∈ xs.map D.py := by rw [← e2]; exact List.mem_map_of_mem hb
    obtain ⟨x, hx, e⟩ := List.mem_map.mp this
    rw [← e]
    exact hs.dep x hx
  · have m1 : ((vs.zip xs).mergeSort (fun p q => PySem.W.dataLe false D.py p.2 q.2)).map (fun p => (p.1, p.2.py)) = (vs.zip (xs.map D.py)).mergeSort (PySem.W.dataLe false (·.2)) := by
      rw [← e3]
      exact List.map_mergeSort fun _ _ _ _ => rfl
    have m2 : ((vs.zip xs).mergeSort (fun p q => PySem.W.dataLe false D.py p.2 q.2)).map (·.2) = sortD xs := by
      unfold sortD
      conv => rhs; rw [← e4]
      exact List.map_mergeSort fun _ _ _ _ => rfl
    rw [← m1, List.map_map]
    have al : Stp none H Hs (upd H p (.lst (List.map ((fun x : V × PyData => x.1) ∘ fun p : V × D => (p.1, p.2.py)) ((vs.zip xs).mergeSort (fun p q => PySem.W.dataLe false D.py p.2 q.2))))) (upd Hs p (.lst (List.map ((fun x : V × PyData => x.1) ∘ fun p : V × D => (p.1, p.2.py)) ((vs.zip xs).mergeSort (fun p q => PySem.W.dataLe false D.py p.2 q.2))))) := Stp.alloc s hp
    refine hq (.lst (sortD xs)) _ _ _ al ⟨p, _, rfl, upd_same, ?_⟩ q
    rw [← m2]
    refine (RpA.of_pairs _ fun q hq => ?_).mono al.ext
    exact rx.zip_rp q ((List.mergeSort_perm _ _).mem_iff.mp hq)
theorem keys_rp {H : Hp} : ∀ ks : List Key, RpA K H (ks.map keyD) (ks.map kV)
  | [] => rfl
  | k :: ks => ⟨_, _, rfl, by cases k <;> rfl, keys_rp ks⟩
theorem sc_sorted : SndC K (rSortA K) oSorted := fun H Hs ds vs Q Q' s rx hq hd => by
  unfold oSorted at hd
  split at hd
  · next xs =>
    obtain ⟨v, r, rfl, ⟨a, us, rfl, h1, h2⟩, h3⟩ := rx
    cases h3
    exact sort_core s h2 hd.1 (.inl (SqL.of (s _ _ h1))) hq hd.2
  · next xs =>
    obtain ⟨v, r, rfl, ⟨a, us, rfl, h1, h2⟩, h3⟩ := rx
    cases h3
    exact sort_core s h2 hd.1 (.inr (.inl (tp_sq s h1))) hq hd.2
  · next ks xs =>
    obtain ⟨v, r, rfl, ⟨a, us, rfl, h1, h2, h3⟩, h4⟩ := rx
    cases h4
    refine sort_core s (keys_rp ks) hd.1 (.inr (.inr ⟨ks.zip us, .inl (s _ _ h1), ?_⟩)) hq hd.2
    have : ∀ (ks : List Key) (us : List V), ks.length = us.length → ks.map kV = (ks.zip us).map fun kv => kV kv.1 := by
      intro ks
      induction ks with
      | nil => intro us _; rfl
      | cons k ks ih =>
        intro us hl
        cases us with
        | nil => simp at hl
        | cons u us => simp only [List.zip_cons_cons, List.map_cons]; rw [← ih us (by simpa using hl)]
    exact this ks us h2
  · exact hd.elim
theorem de_sorted {k : Nat} {p pos : Pos} {e : Expr} {d : DTA} (hr : Room k X.A) (hm : X.mg "sorted" = none) (ha : DA X [e] d) (hc : X.calm = true := by rfl) (hg : Gl X "sorted" := by rfl) (hs : starEach [e] X.env = (false, eval e X.env) :: starEach [] X.env := by rfl)
    (hpl : (backTo pos (starEach [] X.env)).any (·.1) = false := by rfl) : DE X (.Call (.Name "sorted" p) [e] [] pos) (dCB oSorted d) :=
  de_callB (cr_sortA hc hr.units) sc_sorted hg hm (by decide +kernel) ha (by decide) (by decide) hs hpl
end
end DL
namespace PySem
open Sem (wp)
open AutoSeq1 (wpAny_loadPart')
set_option maxHeartbeats 1000000 in
theorem meets_enumerate_newT (l : Addr) (items : Array Value) (n : Nat) (dct : Option Addr) (sl : Array (Option Value)) :
    Meets (Builtin.«enumerate.__new__» ⟨[.type "enumerate", .ref l], []⟩) (fun _ R s => s.heap.get? l = some { cls := .type "tuple", dict := dct, data := .seq items n, slots := sl } ∧
      R (.ok (.ret (.ref (s.heap.push { cls := .type "tuple_iterator", data := .fields #[.ref l, .int 0 0] }).objs.size)))
        { s with heap := (s.heap.push { cls := .type "tuple_iterator", data := .fields #[.ref l, .int 0 0] }).push { cls := .type "enumerate", data := .fields #[.none, .bool false, .ref s.heap.objs.size, rawInt 0, .none, .none] } }) :=
  .of_wp fun prog w A R s h => by
    obtain ⟨hp, g, d, tk, os⟩ := s; obtain ⟨hl, h⟩ := h
    have hsub := sub_enumerate
    have hL : Heap.IsTuple (Shared.heap ⟨hp, g, d, tk, os⟩) l items := ⟨_, hl, rfl, n, rfl⟩
    wp_walk using wpAny_loadPart' hl
    refine wpAny_stack_any fun st => wpAny_pure ?_
    split
    · rename_i c _ _ _ _ _
      cases (c == Value.type "enumerate")
      · wp_walk using wpAny_loadPart' hl, wpAny_pyIter_tuple hL
        exact ⟨_, rfl, h⟩
      · wp_walk using wpAny_loadPart' hl, wpAny_pyIter_tuple hL
        exact ⟨_, rfl, h⟩
    · wp_walk using wpAny_loadPart' hl, wpAny_pyIter_tuple hL
      exact ⟨_, rfl, h⟩
section
variable {prog : Program} {w : World} {A : Around} {E : Value → Shared → Prop} {s : Shared}
theorem call_enumerate_tuple {l : Addr} {items : Array Value} {Q : Value → Shared → Prop} (hL : s.heap.IsTuple l items)
    (h : ∀ h', IsEnum h' (s.heap.objs.size + 1) s.heap.objs.size 0 .none → h'.IsTupleIter s.heap.objs.size l 0 → h'.objs.size = s.heap.objs.size + 2 →
      (∀ b o, s.heap.get? b = some o → h'.get? b = some o) → Q (.ref (s.heap.objs.size + 1)) { s with heap := h' }) :
    wpAny (model prog w) A (call (.type "enumerate") [.ref l]) Q E s := by
  obtain ⟨⟨c, dct, dt, sl⟩, hl, hc, n, hd⟩ := hL
  replace hc : c = .type "tuple" := hc
  replace hd : dt = .seq items n := hd
  subst hc hd
  refine callType_new F.called_enumerate (by decide) (F.typeCall_enumerate_1 _) (F.newCall_enumerate_1 _) (fun obj => F.args_object_init_2 obj _) F.entry_enumerate_new
    (meets_enumerate_newT l items n dct sl) ⟨hl, ?_⟩
  have hz : (s.heap.push { cls := .type "tuple_iterator", data := .fields #[.ref l, .int 0 0] }).objs.size = s.heap.objs.size + 1 := Heap.size_push ..
  show _ ∧ _
  rw [hz]
  have he : IsEnum ((s.heap.push { cls := .type "tuple_iterator", data := .fields #[.ref l, .int 0 0] }).push
      { cls := .type "enumerate", data := .fields #[.none, .bool false, .ref s.heap.objs.size, rawInt 0, .none, .none] }) (s.heap.objs.size + 1) s.heap.objs.size 0 .none := by
    have := Heap.get?_push_size (s.heap.push { cls := .type "tuple_iterator", data := .fields #[.ref l, .int 0 0] })
      (o := { cls := .type "enumerate", data := .fields #[.none, .bool false, .ref s.heap.objs.size, rawInt 0, .none, .none] }) rfl
    rw [hz] at this; exact this
  refine ⟨⟨_, he, rfl⟩, h _ he ⟨_, Heap.get?_push_of_some _ (Heap.get?_push_size _ rfl), rfl, rfl⟩ (by rw [Heap.size_push, hz]) fun b o x => Heap.get?_push_of_some _ (Heap.get?_push_of_some _ x)⟩
theorem wpAny_pyNext_enumT_end {e it l : Addr} {i : Nat} {items : Array Value} {old : Value} {Q : Option Value → Shared → Prop} (hh : A.handled = none)
    (he : IsEnum s.heap e it i old) (hit : s.heap.IsTupleIter it l i) (hl : s.heap.IsTuple l items) (hx : items[i]? = none)
    (hQ : ∀ h', Heap.ExtBut it s.heap h' → Q none { s with heap := h' }) : wpAny (model prog w) A (pyNext (.ref e)) Q E s := by
  have hT : s.TypeIs (.ref e) "enumerate" := ⟨_, he, rfl⟩
  unfold pyNext
  refine wpAny_bind (wpAny_attempt (wpAny_callSpecial?_slot (name := Str.ofString "__next__") hT F.slot_enumerate_next
    (wpAny_call_entry F.slot_enumerate_next hT F.entry_enumerate_next ?_ (F.args_enumerate_next_1 _))))
  show wpAny _ _ (field (.ref e) 2 >>= _) _ _ _
  refine wpAny_bind (wpAny_field he rfl (x := .ref it) rfl ?_)
  refine wpAny_bind (wpAny_nextOf_tuple_end hh hit hl hx fun h' x he' hx' => ?_)
  obtain ⟨o, ho, hc⟩ := hx'
  refine wpAny_bind (wpAny_isInstance (T := "StopIteration") (b := true) ⟨o, ho, hc⟩ isSubtype_stop ?_)
  exact wpAny_pure (hQ _ he')
end
end PySem
namespace DL
open PySem PySem.Spec PyProof.Rows L2
def IteT (K : PySem.W.Frag) (a : Addr) : It :=
  ⟨fun i H => ∃ (xs : List V) (x : V), SqT K H a xs ∧ xs[i]? = some x, fun i H v H' => ∃ T x, v = .ref T ∧ H T = none ∧ H' = upd H T (.tup [.int (i : Nat), x]) ∧ ∀ xs, SqT K H a xs → xs[i]? = some x, fun i H => ∃ xs : List V, SqT K H a xs ∧ xs.length ≤ i⟩
theorem cls_ne {h : Heap} {a b : Addr} {o p : Obj} {x y : String} (h1 : h.get? a = some o) (h2 : h.get? b = some p) (c1 : o.cls = .type x) (c2 : p.cls = .type y) (n : x ≠ y) : a ≠ b := fun e => by
  subst e
  rw [h1] at h2
  cases h2
  rw [c1] at c2
  cases c2
  exact n rfl
theorem turn_enumT {P : Program} {w : World} {K : PySem.W.Frag} {elts : List Expr} {kk : Nat} {tpos : Pos} (a e it : Addr) :
    Turn P w K (.Tuple elts kk tpos) (IteT K a) [e, it] e (fun i h => (∃ old, IsEnum h e it ((i : Nat) : Int) old) ∧ h.IsTupleIter it a i ∧ e ≠ it) where
  mem := by simp
  obj := fun i h st b hb => by
    obtain ⟨⟨old, he⟩, ⟨o, ho, hc, hd⟩, _⟩ := st
    have e' : b = e ∨ b = it := by simpa using hb
    rcases e' with z | z
    · rw [z]; exact ⟨_, he, fun v q => nomatch q⟩
    · rw [z]; exact ⟨o, ho, fun v q => by rw [hd] at q; cases q⟩
  keep := fun i h h' st k => let ⟨⟨old, he⟩, hi, hne⟩ := st; ⟨⟨old, k e (by simp) _ he⟩, hi.at fun o q => k it (by simp) o q, hne⟩
  item := by
    intro X hP hw hK hc i pins s st H E I hf stt hg
    subst hP hw hK
    obtain ⟨⟨old, he⟩, hit, hne⟩ := stt
    obtain ⟨xs, x, hq, hx⟩ := hg
    obtain ⟨its, rv, p, hz⟩ := I.tuple hq
    obtain ⟨u, hu, ru⟩ := rv.get hx
    have hel : e < s.heap.objs.size := Heap.lt_size he
    have hil : it < s.heap.objs.size := by obtain ⟨_, q, _⟩ := hit; exact Heap.lt_size q
    have ht : s.heap.IsTuple a its.toArray := p
    obtain ⟨ot, hot, hct, nt, hdt⟩ := id p
    obtain ⟨oi, hoi, hci, hdi⟩ := id hit
    have n1 : a ≠ it := cls_ne hot hoi hct hci (by decide)
    have n2 : e ≠ a := cls_ne he hot rfl hct (by decide)
    have D := Draws.tuple (prog := X.prog) (w := X.w) (A := X.A.in1) (I.ok.hd hc) it a n1 its.toArray
    have hlt : i < its.toArray.size := by
      have := (List.getElem?_eq_some_iff.mp hu).1
      simpa using this
    refine wpAny_pyNext_enum_itemD D he ⟨hit, ht⟩ hlt hne (by simp [hne, n2]) fun x' h' tk hP' ho st' hT hsz hk => ?_
    have ex : x' = u := by
      have e1 : its.toArray[i]? = some u := by simpa using hu
      rw [hP'] at e1
      exact Option.some.inj e1
    subst ex
    refine ⟨_, rfl, wpAny_letOwnedTupleGo_enum (s := { s with heap := h', toks := tk + 1 }) ho fun h'' he' sb => ?_⟩
    have hT2 : h''.get? s.heap.objs.size = some { cls := .type "tuple", data := .seq #[.int i tk, x'] } := (sb.2 _ (Nat.ne_of_gt hel)).trans hT
    have new : ObjOk X.prog X.w (upd H s.heap.objs.size (.tup [.int (i : Nat), x])) h'' s.heap.objs.size (.tup [.int (i : Nat), x]) :=
      ⟨by show 2 ≤ sizeLine; decide, [.int i tk, x'], .cons ⟨_, rfl⟩ (.cons ru .nil), ⟨_, hT2, rfl, _, rfl⟩⟩
    have I1 : Inv X pins st (upd H s.heap.objs.size (.tup [.int (i : Nat), x])) { s with heap := h'', toks := tk + 1 } :=
      I.turnedNew (ch := [e, it]) (fun b ob hb q => (sb.2 b (fun z => hb (by simp [z]))).trans (hk b ob (fun z => hb (by simp [z])) (fun z => hb (by simp [z])) q)) hf (Nat.le_refl _) new
    refine ⟨.ref s.heap.objs.size, _, I1, rfl, ⟨_, x, rfl, I.hok.fresh (Nat.le_refl _), rfl, fun ys hy => by rw [I.tuple_inj hy hq]; exact hx⟩, ⟨⟨x', ?_⟩, st'.1.at fun o q => (sb.2 it (Ne.symm hne)).trans q, hne⟩, fun b hb => ?_⟩
    · have e1 : ((i + 1 : Nat) : Int) = (i : Int) + 1 := by omega
      rw [e1]; exact he'
    · have hb' : b < s.heap.objs.size := by
        have e' : b = e ∨ b = it := by simpa using hb
        rcases e' with z | z
        · rw [z]; exact hel
        · rw [z]; exact hil
      rw [upd_ne (Nat.ne_of_lt hb')]
      exact (hf b hb).1
  done := by
    intro X hP hw hK hc i pins s st H E I hf stt hg
    subst hP hw hK
    obtain ⟨⟨old, he⟩, hit, hne⟩ := stt
    obtain ⟨xs, hq, hx⟩ := hg
    obtain ⟨its, rv, p, hz⟩ := I.tuple hq
    obtain ⟨f0, f1, f2, f3, f4, f5⟩ := hf it (by simp)
    have hl := rv.length
    exact wpAny_pyNext_enumT_end (I.ok.hd hc) he hit p (by simp; omega) fun h' eb => ⟨rfl, I.turned (t' := s.toks) (fun b o hb q => eb b o hb q) f0 f1 f3 f4 f5⟩
  self := fun A i s Q E st h => let ⟨⟨_, he⟩, _⟩ := st; wpAny_pyIter_enum he h
def iEnumA (K : PySem.W.Frag) (ta : TA) : TI := fun st H R => ta st H fun vs H1 => ∃ a xs, vs = [.ref a] ∧ ((SqL K H1 a xs ∧ R (Ite K a) H1) ∨ (SqT K H1 a xs ∧ R (IteT K a) H1))
theorem pi_enumA {X : Cx} {e : Expr} {ta : TA} {p pos tpos : Pos} {elts : List Expr} {kk : Nat} (hg : Gl X "enumerate") (hm : X.mg "enumerate" = none) (ha : PA X [e] ta) (hs : starEach [e] X.env = [(false, eval e X.env)] := by rfl) :
    PI X (.Tuple elts kk tpos) (.Call (.Name "enumerate" p) [e] [] pos) (iEnumA X.K ta) := by
  refine ⟨fun pins s st H R I h => ?_⟩
  refine Call_ (ld_blt I hg hm boot_enumerate (PyProof.Rows.callWith_type1 (thn (ha.run pos pins s st H _ I h) fun us s1 ⟨vs, H1, I1, r1, q1⟩ => ?_) hs rfl))
  obtain ⟨a, xs, ex, q⟩ := q1
  subst ex
  cases r1 with
  | cons r rr =>
    cases rr
    cases r
    rcases q with ⟨hq, q⟩ | ⟨hq, q⟩
    · obtain ⟨its, rv, p', hz⟩ := I1.list hq
      refine call_enumerate_list p'.isList fun h' he hit hsz hk => wpAny_pyIter_enum he ?_
      have I2 : Inv X pins st H1 { s1 with heap := h' } := I1.kept (t' := s1.toks) hk
      refine ⟨s1.heap.objs.size + 1, [s1.heap.objs.size + 1, s1.heap.objs.size], _, _, H1, rfl, I2, turn_enum a (s1.heap.objs.size + 1) s1.heap.objs.size, ⟨⟨.none, he⟩, hit, Nat.succ_ne_self _⟩, fun b hb => ?_, q⟩
      have e' : b = s1.heap.objs.size + 1 ∨ b = s1.heap.objs.size := by simpa using hb
      have hle : s1.heap.objs.size ≤ b := by
        rcases e' with z | z
        · rw [z]; exact Nat.le_add_right _ _
        · rw [z]; exact Nat.le_refl _
      exact I1.fpOk hle (I1.hok.fresh hle)
    · obtain ⟨its, rv, p', hz⟩ := I1.tuple hq
      refine call_enumerate_tuple p' fun h' he hit hsz hk => wpAny_pyIter_enum he ?_
      have I2 : Inv X pins st H1 { s1 with heap := h' } := I1.kept (t' := s1.toks) hk
      refine ⟨s1.heap.objs.size + 1, [s1.heap.objs.size + 1, s1.heap.objs.size], _, _, H1, rfl, I2, turn_enumT a (s1.heap.objs.size + 1) s1.heap.objs.size, ⟨⟨.none, he⟩, hit, Nat.succ_ne_self _⟩, fun b hb => ?_, q⟩
      have e' : b = s1.heap.objs.size + 1 ∨ b = s1.heap.objs.size := by simpa using hb
      have hle : s1.heap.objs.size ≤ b := by
        rcases e' with z | z
        · rw [z]; exact Nat.le_add_right _ _
        · rw [z]; exact Nat.le_refl _
      exact I1.fpOk hle (I1.hok.fresh hle)
section
variable {X : Cx} {K : PySem.W.Frag}
def enumD (xs : List D) : List D := xs.mapIdx fun i x => .tup [.int i, x]
theorem enumD_get {xs : List D} {i : Nat} {d : D} (h : (enumD xs)[i]? = some d) : ∃ x, xs[i]? = some x ∧ d = .tup [.int i, x] := by
  unfold enumD at h
  rw [List.getElem?_mapIdx] at h
  cases e : xs[i]? with
  | none => rw [e] at h; cases h
  | some x => rw [e] at h; cases h; exact ⟨x, rfl, rfl⟩
theorem enumD_len (xs : List D) : (enumD xs).length = xs.length := by unfold enumD; rw [List.length_mapIdx]
def dEnum (t : DTA) : DTA := fun g r f Q => t g r f fun ds f1 => match ds with
  | [.lst xs] => Q (enumD xs) f1
  | [.tup xs] => Q (enumD xs) f1
  | _ => False
theorem walks_enumL {Hb : Hp} {a : Addr} {vs : List V} {ds : List D} (h1 : Hb a = some (.lst vs)) (h2 : RpA K Hb ds vs) : Walks K (Ite K a) Hb (enumD ds) where
  go := fun i d H Hs s1 s2 e => by
    obtain ⟨x, ex, rfl⟩ := enumD_get e
    obtain ⟨v, hv, hr⟩ := h2.get ex
    have q1 : SqL K H a vs := SqL.of (s2 _ _ (s1 _ _ h1))
    refine ⟨⟨vs, v, q1, hv⟩, ?_⟩
    rintro z H' ⟨T, x', rfl, hT, rfl, hx⟩
    have e1 := hx vs q1
    rw [hv] at e1
    cases e1
    exact pair_stp s2 hT rfl (hr.mono s1)
  stop := fun H s => ⟨vs, SqL.of (s _ _ h1), by rw [enumD_len, h2.length]; exact Nat.le_refl _⟩
theorem walks_enumT {Hb : Hp} {a : Addr} {vs : List V} {ds : List D} (h1 : TpAt K Hb a vs) (h2 : RpA K Hb ds vs) : Walks K (IteT K a) Hb (enumD ds) where
  go := fun i d H Hs s1 s2 e => by
    obtain ⟨x, ex, rfl⟩ := enumD_get e
    obtain ⟨v, hv, hr⟩ := h2.get ex
    have q1 : SqT K H a vs := (tp_sq (s1.trans s2) h1)
    refine ⟨⟨vs, v, q1, hv⟩, ?_⟩
    rintro z H' ⟨T, x', rfl, hT, rfl, hx⟩
    have e1 := hx vs q1
    rw [hv] at e1
    cases e1
    exact pair_stp s2 hT rfl (hr.mono s1)
  stop := fun H s => ⟨vs, (tp_sq s h1), by rw [enumD_len, h2.length]; exact Nat.le_refl _⟩
theorem di_enum {e : Expr} {d : DTA} {p pos tpos : Pos} {elts : List Expr} {kk : Nat} (hm : X.mg "enumerate" = none) (ha : DA X [e] d) (hg : Gl X "enumerate" := by rfl)
    (hs : starEach [e] X.env = [(false, eval e X.env)] := by rfl) : DI X (.Tuple elts kk tpos) (.Call (.Name "enumerate" p) [e] [] pos) (dEnum d) := DI.mk' (pi_enumA hg hm ha.pa hs) fun g ro f st H Hs R Q' A hq hd =>
  ha.sn g ro f st H Hs _ _ A (fun ds f1 vs H1 Hs1 s1 k1 r1 q1 => by
    split at q1
    · obtain ⟨v, r, rfl, ⟨a, us, rfl, h1, h2⟩, h3⟩ := r1
      cases h3
      exact ⟨a, us, rfl, .inl ⟨SqL.of (s1.sub _ _ h1), hq _ f1 _ H1 Hs1 s1 k1 (walks_enumL h1 h2) q1⟩⟩
    · obtain ⟨v, r, rfl, ⟨a, us, rfl, h1, h2⟩, h3⟩ := r1
      cases h3
      exact ⟨a, us, rfl, .inr ⟨(tp_sq s1.sub h1), hq _ f1 _ H1 Hs1 s1 k1 (walks_enumT h1 h2) q1⟩⟩
    · exact q1.elim) hd
end
end DL
namespace DL
open PySem PySem.Spec PyProof.Rows L2
/-! dicts that a slot owns -/
def D.key : D → Option Key
  | .int i => some (.inl i)
  | .str x => some (.inr x)
  | _ => Option.none
instance decKey (k : Key) (ks : List Key) : Decidable (k ∈ ks) := @List.instDecidableMemOfLawfulBEq Key instBEqOfDecidableEq inferInstance k ks
def putKs (ks : List Key) (k : Key) : List Key := if k ∈ ks then ks else ks ++ [k]
def putXs (ks : List Key) (xs : List D) (k : Key) (d : D) : List D := if k ∈ ks then (ks.zip xs).map fun p => if p.1 = k then d else p.2 else xs ++ [d]
section
variable {X : Cx} {K : PySem.W.Frag} {W : WX}
theorem key_v {H : Hp} {d : D} {v : V} {k : Key} (h : Rp K H d v) (e : d.key = some k) : v = kV k := by
  cases d <;> simp only [D.key, reduceCtorEq, Option.some.injEq] at e <;> subst e <;> cases h <;> rfl
theorem any_zip {k : Key} : ∀ {ks : List Key} {vs : List V}, ks.length = vs.length → ((ks.zip vs).any fun kv => decide (kv.1 = k)) = decide (k ∈ ks)
  | [], _, _ => by simp
  | _ :: _, [], h => by simp at h
  | a :: ks, v :: vs, h => by
    rw [List.zip_cons_cons, List.any_cons, any_zip (by simpa using h)]
    by_cases e : a = k
    · simp [e]
    · simp [e, Ne.symm e]
theorem put_zip {k : Key} {v : V} : ∀ {ks : List Key} {vs : List V}, ks.length = vs.length → (ks.zip vs).map (fun kv => if kv.1 = k then (kv.1, v) else kv) = ks.zip ((ks.zip vs).map fun kv => if kv.1 = k then v else kv.2)
  | [], _, _ => by simp
  | _ :: _, [], h => by simp at h
  | a :: ks, w :: vs, h => by
    simp only [List.zip_cons_cons, List.map_cons]
    rw [put_zip (by simpa using h)]
    by_cases e : a = k <;> simp [e]
theorem putXs_rp {H : Hp} {k : Key} {d : D} {v : V} (hd : Rp K H d v) : ∀ {ks : List Key} {xs : List D} {vs : List V}, RpA K H xs vs → RpA K H ((ks.zip xs).map fun p => if p.1 = k then d else p.2) ((ks.zip vs).map fun p => if p.1 = k then v else p.2)
  | [], _, _, _ => by simp [RpA]
  | _ :: _, [], _, h => by cases h; simp [RpA]
  | a :: ks, x :: xs, _, ⟨w, r, h1, h2, h3⟩ => by
    subst h1
    simp only [List.zip_cons_cons, List.map_cons]
    refine ⟨_, _, rfl, ?_, putXs_rp hd h3⟩
    by_cases e : a = k
    · rw [if_pos e, if_pos e]; exact hd
    · rw [if_neg e, if_neg e]; exact h2
theorem put_rp {H : Hp} {ks : List Key} {xs : List D} {vs : List V} {k : Key} {d : D} {v : V} (hl : ks.length = vs.length) (h : RpA K H xs vs) (hd : Rp K H d v) :
    ∃ vs', putK (ks.zip vs) k v = (putKs ks k).zip vs' ∧ (putKs ks k).length = vs'.length ∧ RpA K H (putXs ks xs k d) vs' := by
  unfold putK putKs putXs
  rw [any_zip hl]
  by_cases e : k ∈ ks
  · rw [decide_eq_true e, if_pos rfl, if_pos e, if_pos e]
    refine ⟨_, put_zip hl, ?_, putXs_rp hd h⟩
    rw [List.length_map, List.length_zip, hl, Nat.min_self]
  · rw [decide_eq_false e, if_neg Bool.false_ne_true, if_neg e, if_neg e]
    refine ⟨vs ++ [v], ?_, by simp [hl], h.append (RpA.one hd)⟩
    rw [List.zip_append hl]
    rfl
def sSetD0 (i : Nat) : DTS := fun _ r f E => E.nx (r.set i (.od [] [])) f
theorem ds_setD0 {i : Nat} {x : Str} {dpos pos pos' : Pos} (hN : X.N.Nodup) (hi : X.N[i]? = some x := by rfl) (hx : Loc X.env.scope x := by first | exact Or.inl rfl | exact Or.inr rfl)
    (hs : swapsWith (.Dict [] [] dpos) (some (.Name x pos')) pos.line X.env = pure false := by rfl) (hf : X.fn x = true ∨ X.env.scope.names.lookup x = some .local := by first | exact .inl rfl | exact .inr rfl | assumption) :
    DS X (.Assign [.Name x pos'] (.Dict [] [] dpos) pos) (sSetD0 i) := .mk' (ps_set hN hi hx pe_dnewK hs hf) fun g H0 Hs0 r f st H D E s e hd => by
  obtain ⟨Hs, s⟩ := s
  intro p hp
  have lay : Stp g H Hs (upd H p (.dK [])) Hs := Stp.lay s.stp.sub hp
  have s1 := s.afterHid lay (s.dk.mut (s.dk.out hp))
  refine e.nx _ f _ _ ⟨_, s1.setOwn i (u := .od [] []) rfl (s.stp.none0 hp) (same_none s.stp.sub hp) (fun j sl _ h1 h2 h3 => ?_) ⟨[], upd_same, rfl, rfl⟩⟩ hd
  obtain ⟨a, e', _, _, q⟩ := s.ow j sl h1 h2
  rw [h3] at e'
  cases e'
  obtain ⟨o, ho, _⟩ := q.ld
  rw [hp] at ho
  cases ho
def sSetKey (m : Bool) (i : Nat) (dk dl : DT) : DTS := fun g r f E => ∃ ks xs, r[i]? = some (.od ks xs) ∧ evM m dl g r f fun d f1 => dk g r f1 fun k f2 => ∃ key, k.key = some key ∧ ks.length ≤ lim ∧ E.nx (r.set i (.od (putKs ks key) (putXs ks xs key d))) f2
theorem snd_setKey {m : Bool} {i : Nat} {tk t : TE} {dk d : DT} (hk : Snd K tk dk) (h : Snd K t d) : SndS K W (tAsg t (gSub (tVar i) tk rSetD)) (sSetKey m i dk d) := fun g H0 Hs0 r f st H D E s e hd => by
  obtain ⟨Hs, s⟩ := s
  obtain ⟨ks, xs, hx, hd⟩ := hd
  obtain ⟨a, ha, n1, n0, vs, hv, hl, hr⟩ := s.ow i _ hx rfl
  refine snd_evM h s (fun d f' v H' Hs' s' _ hr' q => ?_) hd
  refine ⟨.ref a, ha, ?_⟩
  refine hk g r f' st H' _ _ _ s'.at (fun k f2 w H2 Hs2 s2 k2 r2 q2 => ?_) q
  have s3 := s'.after s2 k2
  obtain ⟨key, hkey, hlim, q2⟩ := q2
  obtain ⟨a', ha', n1', n0', vs', hv', hl', hr2⟩ := s3.ow i _ hx rfl
  rw [ha] at ha'
  cases ha'
  rw [key_v r2 hkey]
  obtain ⟨us, e1, e2, e3⟩ := put_rp (k := key) hl' hr2 (hr'.mono (s'.afterExt s2))
  refine ⟨a, _, rfl, DPut.k hv' ?_, e.nx _ f2 st _ ⟨_, s3.mutOwn (u := .od (putKs ks key) (putXs ks xs key d)) hx rfl ha rfl ⟨us, by rw [upd_same, e1], e2, e3⟩⟩ q2⟩
  rw [List.length_zip]
  exact Nat.lt_of_le_of_lt (Nat.min_le_left _ _) (lim_lt hlim)
theorem ds_setKey (m : Bool) {k' : Nat} {i : Nat} {x : Str} {e k : Expr} {px spos pos : Pos} {dk d : DT} (hr : Room k' X.A) (hk : DE X k dk) (h : DE X e d) (hN : X.N[i]? = some x := by rfl) (hv : Vis X.env.scope x := by first | exact Or.inl rfl | exact Or.inr (Or.inl rfl) | exact Or.inr (Or.inr rfl)) (hd : (x == ("__debug__" : Str)) = false := by decide)
    (hcd : (x == ("__classdict__" : Str)) = false := by decide)
    (ha : ∀ v, assign (.Subscript (.Name x px) k spos) X.env v = (do
      let ov ← holding [v] (eval (.Name x px) X.env)
      let iv ← holding [v, ov] (eval k X.env)
      standAt spos
      holding [v, ov, iv] (setItem ov iv v)
      release [v, ov, iv] []) := by intro _; rfl)
    (hs : swapsWithSole [.Subscript (.Name x px) k spos] e pos.line X.env = pure false := by rfl) (hw : swappedStores [.Subscript (.Name x px) k spos] e X.env = pure none := by rfl) (h1 : (assignEach [.Subscript (.Name x px) k spos] X.env).map (·.2) = [assign (.Subscript (.Name x px) k spos) X.env] := by rfl) :
    DS X (.Assign [.Subscript (.Name x px) k spos] e pos) (sSetKey m i dk d) :=
  .mk' (ps_asg h.pe (pg_sub (pe_var hN hv hd hcd) hk.pe (set_dict (hu_of hr)) ha) hs hw h1) (snd_setKey hk.sn h.sn)
end
end DL
namespace HT
open PySem PySem.Spec PyProof.Rows L2
section
variable {prog : Program} {w : World} {A : Around} {E : Value → Shared → Prop} {s : Shared}
theorem sliceApplied_rev {sl : Addr} {vl vu vs : Value} {n : Nat} {Q : Int × Int × Nat → Shared → Prop} (hs : s.heap.IsSliceOf sl vl vu vs) (pl : IsPart vl none) (pu : IsPart vu none) (ps : IsPart vs (some (-1)))
    (h : Q ((n : Int) - 1, -1, n) s) : wpAny (model prog w) A (Builtin.Slice.sliceApplied (.ref sl) (pure (n : Int))) Q E s := by
  obtain ⟨os, hos, hcs, hds⟩ := id hs
  unfold Builtin.Slice.sliceApplied Builtin.Slice.sliceFields
  refine wpAny_bind (wpAny_bind (wpAny_field hos hds (x := vl) rfl (wpAny_bind (wpAny_field hos hds (x := vu) rfl (wpAny_bind (wpAny_field hos hds (x := vs) rfl (wpAny_pure ?_)))))))
  refine wpAny_bind (slicePart_ ps ?_)
  show wpAny _ _ (if ((-1 : Int) == 0) = true then _ else _) _ _ s
  rw [if_neg (by decide)]
  refine wpAny_bind (slicePart_ pl (wpAny_bind (slicePart_ pu (wpAny_bind (wpAny_pure ?_)))))
  show wpAny _ _ (match Builtin.Slice.sliceAdjust none none (-1) (n : Int) with | (lo, hi) => pure (lo, (-1 : Int), Builtin.Slice.slicePlaces lo hi (-1))) _ _ s
  have e : Builtin.Slice.sliceAdjust none none (-1) (n : Int) = ((n : Int) - 1, -1) := by
    unfold Builtin.Slice.sliceAdjust
    simp
  rw [e]
  show wpAny _ _ (pure ((n : Int) - 1, (-1 : Int), Builtin.Slice.slicePlaces ((n : Int) - 1) (-1) (-1))) _ _ s
  have e2 : Builtin.Slice.slicePlaces ((n : Int) - 1) (-1) (-1) = n := by
    unfold Builtin.Slice.slicePlaces
    simp
    omega
  rw [e2]
  exact wpAny_pure h
theorem pick_rev (xs : List Value) : ((List.range xs.length).filterMap fun (k : Nat) => xs.toArray[(((xs.length : Int) - 1) + (k : Int) * (-1)).toNat]?) = xs.reverse := by
  have e : ∀ k ∈ List.range xs.length, (fun (k : Nat) => xs.toArray[(((xs.length : Int) - 1) + (k : Int) * (-1)).toNat]?) k = some (xs.reverse[k]?.getD .none) := fun k hk => by
    have hk := List.mem_range.mp hk
    have : ((((xs.length : Int) - 1) + (k : Int) * (-1)).toNat) = xs.length - 1 - k := by omega
    simp only [this]
    rw [List.getElem?_toArray, List.getElem?_reverse hk]
    rw [List.getElem?_eq_getElem (by omega)]
    rfl
  have fm : ∀ (l : List Nat) (f : Nat → Option Value) (g : Nat → Value), (∀ k ∈ l, f k = some (g k)) → l.filterMap f = l.map g := by
    intro l f g
    induction l with
    | nil => intro _; rfl
    | cons a l ih =>
      intro h
      rw [List.filterMap_cons, h a (by simp), List.map_cons]
      show g a :: l.filterMap f = _
      rw [ih fun k hk => h k (by simp [hk])]
  rw [fm _ _ _ e]
  apply List.ext_getElem?
  intro i
  rw [List.getElem?_map]
  by_cases hi : i < xs.length
  · rw [List.getElem?_range hi, Option.map_some, List.getElem?_eq_getElem (by simpa using hi)]
    rfl
  · rw [List.getElem?_eq_none (by simpa using hi), List.getElem?_eq_none (by simpa using hi)]
    rfl
theorem getItem_tuple_rev {t sl : Addr} {items : List Value} {vl vu vs : Value} {Q : Value → Shared → Prop} (ht : IsTup s.heap t items.toArray) (hs : s.heap.IsSliceOf sl vl vu vs) (pl : IsPart vl none) (pu : IsPart vu none) (ps : IsPart vs (some (-1)))
    (h : Q (.ref s.heap.objs.size) { s with heap := s.heap.push { cls := .type "tuple", data := .seq items.reverse.toArray } })
    (hsz : items.length ≤ sizeLine) : wpAny (model prog w) A (getItem (.ref t) (.ref sl)) Q E s := by
  have htake : sizeOk (.seq items.reverse.toArray) := by
    show items.reverse.toArray.size ≤ sizeLine
    rw [List.size_toArray, List.length_reverse]
    exact hsz
  obtain ⟨os, hos, hcs, hds⟩ := id hs
  have hTs : s.TypeIs (.ref sl) "slice" := ⟨os, hos, hcs⟩
  unfold getItem
  try with_reducible refine wpAny_holding ?_
  first | refine wpAny_bind (wpAny_pure ?_) | skip
  refine wpAny_bind (wpAny_sequenceKey ht.typeIs (by decide) ?_)
  refine wpAny_bind (wpAny_callSpecial?_slot (name := Str.ofString "__getitem__") ht.typeIs PyProof.Rows.slot_tuple_getitem
    (wpAny_call_entry PyProof.Rows.slot_tuple_getitem ht.typeIs entry_tuple_getitem ?_ (args_tuple_getitem _ _)))
  show wpAny _ _ (Builtin.Tuple.tupleItemsOf (.ref t) >>= _) _ _ s
  refine wpAny_bind (tupleItemsOf_ ht ?_)
  refine wpAny_bind (wpAny_typeOf hTs ?_)
  rw [if_pos (by decide)]
  have ez : (items.toArray.size : Nat) = items.length := by simp
  rw [ez]
  refine wpAny_bind (sliceApplied_rev hs pl pu ps ?_)
  have hno : ¬ ((((items.length : Int) - 1) == 0 && (-1 : Int) == 1 && items.length == items.length) = true) := by simp
  show wpAny _ _ (if (((items.length : Int) - 1) == 0 && (-1 : Int) == 1 && items.length == items.length) = true then _ else _) _ _ s
  rw [if_neg hno, pick_rev]
  first
    | exact wpAny_bind (m := Builtin.Tuple.tupleExact _) (wpAny_newObj_type (wpAny_pure ⟨_, rfl, wpAny_pure h⟩) htake)
    | exact wpAny_bind (m := Builtin.Tuple.tupleExact _) (wpAny_newObj_type (wpAny_bind (wpAny_pure (wpAny_pure ⟨_, rfl, wpAny_pure h⟩))) htake)
    | exact wpAny_bind (wpAny_bind (m := Builtin.Tuple.tupleExact _) (wpAny_newObj_type (wpAny_pure (wpAny_pure ⟨_, rfl, wpAny_pure h⟩)) htake))
    | exact wpAny_bind (wpAny_bind (m := Builtin.Tuple.tupleExact _) (wpAny_newObj_type (wpAny_pure ⟨_, rfl, wpAny_pure h⟩) htake))
end
end HT
namespace DL
open PySem PySem.Spec PyProof.Rows L2
section
variable {X : Cx} {K : PySem.W.Frag}
/-! t[::-1] -/
def tRevT (K : PySem.W.Frag) (te : TE) : TE := fun st H Q => te st H fun x H1 => ∃ a xs, x = .ref a ∧ SqT K H1 a xs ∧ ∀ p, H1 p = none → Q (.ref p) (upd H1 p (.tup xs.reverse))
theorem pe_revT {e : Expr} {te : TE} {k : Nat} {p1 p2 p3 pos : Pos} (he : PE X e te) : PE X (.Subscript e (.Slice none none (some (.UnaryOp .USub (.Constant (.int 1) k p1) p2)) p3) pos) (tRevT X.K te) := by
  refine ⟨fun pins s σ H Q I h => ?_⟩
  refine Subscript_ (thn (he.run pins s σ H _ I h) fun v s1 ⟨x, H1, I1, r1, q1⟩ => ?_)
  obtain ⟨a, xs, ex, hx, q⟩ := q1
  subst ex
  cases r1
  have hst : PO X (some (.UnaryOp .USub (.Constant (.int 1) k p1) p2)) (tPart (tUn (rU fun i => .int (-i)) (tC (.int 1)))) := po_some (pe_un un_neg pe_int)
  refine wpAny_Slice (thn (po_none.run pins s1 σ H1 (fun o H2 => o = none ∧ H2 = H1) I1 ⟨rfl, rfl⟩) fun vl s2 ⟨l, H2, I2, pl, el, e2⟩ => ?_)
  subst el e2
  refine thn (po_none.run pins s2 σ H2 (fun o H3 => o = none ∧ H3 = H2) I2 ⟨rfl, rfl⟩) fun vu s3 ⟨u, H3, I3, pu, eu, e3⟩ => ?_
  subst eu e3
  refine thn (hst.run pins s3 σ H3 (fun o H4 => o = some (-1) ∧ H4 = H3) I3 ⟨1, rfl, -1, rfl, rfl, rfl⟩) fun vs s4 ⟨o, H4, I4, ps, eo, e4⟩ => ?_
  subst eo e4
  have I5 : Inv X pins σ H4 { s4 with heap := s4.heap.push { cls := .type "slice", data := .fields #[vl, vu, vs] } } := I4.kept (t' := s4.toks) fun b ob q => Heap.get?_push_of_some _ q
  obtain ⟨its, r, ht, hz⟩ := I5.tuple hx
  have hlen := r.length
  show wpAny (model X.prog X.w) X.A (subscriptTail e (.Slice none none (some (.UnaryOp .USub (.Constant (.int 1) k p1) p2)) p3) (.ref a) (.ref s4.heap.objs.size)) (EP X pins σ Q) X.xe { s4 with heap := s4.heap.push { cls := .type "slice", data := .fields #[vl, vu, vs] } }
  refine tail_any (ops := [.ref a, .ref s4.heap.objs.size]) ht.typeIs (PyProof.Rows.slot_tuple_getitem.lookup) ?_ (by with_unfolding_all rfl)
  refine HT.getItem_tuple_rev ht (Heap.IsSliceOf.new _ vl vu vs) pl pu ps ?_ (by rw [← hlen]; exact hz)
  refine ⟨.ref _, _, I5.laid (t' := s4.toks) (o := .tup xs.reverse) (fun b ob q => Heap.get?_push_of_some _ q) (Nat.le_refl _) ?_, rfl, q _ (I5.hok.fresh (Nat.le_refl _))⟩
  exact ⟨by rw [List.length_reverse]; exact hz, _, r.reverse, IsTup.new _ _⟩
def dRevT (dl : DT) : DT := fun g r f Q => dl g r f fun x f1 => match x with
  | .tup xs => Q (.tup xs.reverse) f1
  | _ => False
theorem de_revT {e : Expr} {d : DT} {k : Nat} {p1 p2 p3 pos : Pos} (he : DE X e d) : DE X (.Subscript e (.Slice none none (some (.UnaryOp .USub (.Constant (.int 1) k p1) p2)) p3) pos) (dRevT d) :=
  .mk' (pe_revT he.pe) (fun g ro f st H Hs Q Q' A hq hd =>
    he.sn g ro f st H Hs _ _ A (fun x f1 v H1 Hs1 s1 k1 r1 q1 => by
      cases x <;> try exact q1.elim
      obtain ⟨a, vs, rfl, h1, h2⟩ := r1
      refine ⟨a, vs, rfl, (tp_sq s1.sub h1), fun p hp => ?_⟩
      have al : Stp none H1 Hs1 (upd H1 p (.tup vs.reverse)) (upd Hs1 p (.tup vs.reverse)) := Stp.alloc s1.sub hp
      exact hq (.tup _) f1 _ _ _ (s1.trans al.gen) (k1.stp al) (rp_tup h2.reverse (same_none s1.sub hp)) q1) hd)
/-! list(xs) -/
def oList : OA := fun ds Q => match ds with
  | [.lst xs] => Q (.lst xs)
  | [.tup xs] => Q (.lst xs)
  | _ => False
theorem sc_list : SndC K (fun xs H Q => ∃ p ys, xs = [.ref p] ∧ (SqL K H p ys ∨ SqT K H p ys) ∧ ∀ l, H l = none → Q (.ref l) (upd H l (.lst ys))) oList := fun H Hs ds vs Q Q' s rx hq hd => by
  unfold oList at hd
  split at hd
  · obtain ⟨v, rfl, a, vs, rfl, h1, h2⟩ := rpA1 rx
    refine ⟨a, vs, rfl, .inl (SqL.of (s _ _ h1)), fun l hl => ?_⟩
    have al : Stp none H Hs (upd H l (.lst vs)) (upd Hs l (.lst vs)) := Stp.alloc s hl
    exact hq (.lst _) _ _ _ al ⟨l, vs, rfl, upd_same, h2.mono al.ext⟩ hd
  · obtain ⟨v, rfl, a, vs, rfl, h1, h2⟩ := rpA1 rx
    refine ⟨a, vs, rfl, .inr ((tp_sq s h1)), fun l hl => ?_⟩
    have al : Stp none H Hs (upd H l (.lst vs)) (upd Hs l (.lst vs)) := Stp.alloc s hl
    exact hq (.lst _) _ _ _ al ⟨l, vs, rfl, upd_same, h2.mono al.ext⟩ hd
  · exact hd.elim
/-! isinstance(x, T), instances of one own class among the values -/
structure KO (K : PySem.W.Frag) (c : Str) (C : Addr) : Prop where
  kc : KC K c C
  ty : KTy K C
  tup : PySem.W.subIn K (.ref C) (.type "tuple") = some false
  str : PySem.W.subIn K (.ref C) (.type "str") = some false
theorem KO.one {c : Str} {C : Addr} (k : KO K c C) : PySem.W.kitOne K (.ref C) (.type "tuple") = some false ∧ PySem.W.kitOne K (.ref C) (.type "str") = some false := by
  unfold PySem.W.kitOne PySem.W.kitCls
  have h1 : (Value.ref C == Value.type "tuple") = false := rfl
  have h2 : (Value.ref C == Value.type "str") = false := rfl
  rw [h1, h2, if_neg Bool.false_ne_true, if_neg Bool.false_ne_true]
  show (if PySem.W.kitMeta "tuple" = true then PySem.W.subIn K (.ref C) (.type "tuple") else none) = _ ∧ (if PySem.W.kitMeta "str" = true then PySem.W.subIn K (.ref C) (.type "str") else none) = _
  rw [if_pos (by decide +kernel), if_pos (by decide +kernel)]
  exact ⟨k.tup, k.str⟩
def oIsiO (c : Str) : OA := fun ds Q => match ds with
  | [.obj c' _ _, .any (.ty n)] => c' = c ∧ (n = "tuple" ∨ n = "str") ∧ Q (.bool false)
  | [x, .any (.ty n)] => ∃ t b, x.tyN = some t ∧ kitB t n = some b ∧ Q (.bool b)
  | _ => False
theorem sc_isiO {c : Str} {C : Addr} (k : KO K c C) : SndC K (rIsi K) (oIsiO c) := SndC.pure fun H Hs ds vs Q Q' s rx hq hd => by
  unfold oIsiO at hd
  split at hd
  · obtain ⟨rfl, hn, q⟩ := hd
    obtain ⟨v, w, rfl, h4, h5⟩ := rpA2 rx
    cases h5
    obtain ⟨C', a, dx, us, h0, rfl, h2, h3, h6⟩ := h4
    cases k.kc.uniq h0
    refine ⟨.ref a, _, .ref C, _, false, rfl, .ty _, .base (.ins (s _ _ h2) k.kc.cls k.ty.ha k.ty.hn k.ty.htk k.ty.hm), ?_, hq (.bool _) _ rfl q⟩
    rcases hn with rfl | rfl
    · exact k.one.1
    · exact k.one.2
  · obtain ⟨t, b, h1, h2, h3⟩ := hd
    obtain ⟨v, w, rfl, h4, h5⟩ := rpA2 rx
    cases h5
    exact ⟨v, _, _, _, b, rfl, .ty _, tyN_ok (h4.mono s) h1, kit_ty h2, hq (.bool _) _ rfl h3⟩
  · exact hd.elim
theorem de_isiO {c : Str} {C : Addr} {p pos : Pos} {e e2 : Expr} {d : DTA} (k : KO X.K c C) (hm : X.mg "isinstance" = none) (ha : DA X [e, e2] d) (hg : Gl X "isinstance" := by rfl) (hs : starEach [e, e2] X.env = (false, eval e X.env) :: starEach [e2] X.env := by rfl)
    (hpl : (backTo pos (starEach [e2] X.env)).any (·.1) = false := by rfl) : DE X (.Call (.Name "isinstance" p) [e, e2] [] pos) (dCB (oIsiO c) d) :=
  de_callB call_isi (sc_isiO k) hg hm (by decide +kernel) ha (by decide) (by decide) hs hpl
end
end DL
namespace DL
open PySem PySem.Spec PyProof.Rows L2
/-! texts: length and signs -/
theorem cutS_sub (a : Str) (lo hi : Option Int) : (cutS a lo hi).length ≤ a.length ∧ ∀ c ∈ cd (cutS a lo hi), c ∈ cd a := by
  have e : cd (cutS a lo hi) = ((a.cps.toList.drop (HT.sIx a.length 0 lo)).take (HT.sIx a.length a.length hi - HT.sIx a.length 0 lo)) := rfl
  refine ⟨?_, fun c hc => ?_⟩
  · rw [TL.len_tl, TL.len_tl]
    show (cd (cutS a lo hi)).length ≤ _
    rw [e, List.length_take, List.length_drop]
    show _ ≤ a.cps.toList.length
    omega
  · rw [e] at hc
    exact List.mem_of_mem_drop (List.mem_of_mem_take hc)
theorem app_len (a b : Str) : (a ++ b).length = a.length + b.length := by rw [TL.len_tl, TL.tl_append, List.length_append, ← TL.len_tl, ← TL.len_tl]
theorem asc_app {a b : Str} (ha : asc a) (hb : asc b) : asc (a ++ b) := fun c hc => by
  have hc : c ∈ TL.tl (a ++ b) := hc
  rw [TL.tl_append] at hc
  rcases List.mem_append.mp hc with h | h
  · exact ha c h
  · exact hb c h
theorem asc_cut {a : Str} (h : asc a) (lo hi : Option Int) : asc (cutS a lo hi) := fun c hc => h c ((cutS_sub a lo hi).2 c hc)
instance decAsc (s : Str) : Decidable (asc s) := by unfold asc; infer_instance
theorem asc_upper {s : Str} (h : asc s) : asc (Txt.upper s) ∧ (Txt.upper s).length = s.length := by
  rw [upper_ascii h]
  refine ⟨fun c hc => ?_, ?_⟩
  · have hc : c ∈ (s.cps.map up1).toList := hc
    rw [Array.toList_map] at hc
    obtain ⟨d, hd, rfl⟩ := List.mem_map.mp hc
    have := h d hd
    unfold up1
    split <;> omega
  · show (s.cps.map up1).size = s.cps.size
    rw [Array.size_map]
theorem filter_strs (ps : List Str) (p : Str → Bool) (q : D → Bool) (h : ∀ s, q (.str s) = p s) : (ps.map D.str).filter q = (ps.filter p).map D.str := by
  rw [List.filter_map]
  congr 1
  apply List.filter_congr
  intro s _
  exact h s
/-! pairs of texts -/
abbrev Us := Str × Str
def pairD (u : Us) : D := .tup [.str u.1, .str u.2]
def pairP (u : Us) : PyData := .tuple [.str u.1, .str u.2]
theorem pyA_pairs : ∀ l : List Us, pyA (l.map pairD) = l.map pairP
  | [] => rfl
  | x :: l => by show (pairD x).py :: pyA (l.map pairD) = _; rw [pyA_pairs l]; rfl
def ascU (u : Us) : Prop := asc u.1 ∧ asc u.2
theorem lay_pair {u : Us} (h : ascU u) : (pairP u).canLay0 = true := by
  show (PyData.strOk u.1 && (PyData.strOk u.2 && true)) = true
  rw [asc_ok h.1, asc_ok h.2]
  rfl
theorem lay_pairs : ∀ {l : List Us}, (∀ s ∈ l, ascU s) → PyData.canLayAll0 (l.map pairP) = true
  | [], _ => rfl
  | x :: l, h => Bool.and_eq_true_iff.mpr ⟨lay_pair (h x (by simp)), lay_pairs fun s hs => h s (by simp [hs])⟩
theorem depth_pairs : ∀ l : List Us, PyData.depthAll (l.map pairP) ≤ 1
  | [] => Nat.zero_le _
  | x :: l => by
    show max 1 (PyData.depthAll (l.map pairP)) ≤ 1
    have := depth_pairs l
    omega
theorem eqv_pair (u v : Us) : PyData.eqv (pairP u) (pairP v) = decide (u = v) := by
  show ((u.1 == v.1) && ((u.2 == v.2) && true)) = _
  rw [Bool.eq_iff_iff]
  simp [Prod.ext_iff]
theorem shaped_pairs {l : List Us} (h : ∀ s ∈ l, ascU s) : SeqAt.shaped (.list (l.map pairP)) = true := by
  show (PyData.canLayAll0 (l.map pairP) && decide (PyData.depthAll (l.map pairP) + 1 ≤ 64)) = true
  rw [lay_pairs h, decide_eq_true (by have := depth_pairs l; omega)]
  rfl
theorem shaped_pairsT {l : List Us} (h : ∀ s ∈ l, ascU s) : SeqAt.shaped (.tuple (l.map pairP)) = true := shaped_pairs h
theorem shaped_pair {u : Us} (h : ascU u) : SeqAt.shaped (pairP u) = true := by
  show ((pairP u).canLay0 && decide (1 ≤ 64)) = true
  rw [lay_pair h]
  rfl
theorem shaped_str {s : Str} (h : asc s) : SeqAt.shaped (.str s) = true := by
  show (PyData.strOk s && decide (0 ≤ 64)) = true
  rw [asc_ok h]
  rfl
/-! in, ==, of rows of texts and of pairs -/
theorem any_strs (l : List Str) (x : Str) : ((l.map PyData.str).any fun z => PyData.eqv z (.str x)) = decide (x ∈ l) := by
  rw [List.any_map, Bool.eq_iff_iff, List.any_eq_true, decide_eq_true_iff]
  constructor
  · rintro ⟨y, hy, e⟩
    have : (y == x) = true := e
    rw [← beq_iff_eq.mp this]
    exact hy
  · intro h
    exact ⟨x, h, (beq_self_eq_true x : (x == x) = true)⟩
theorem any_pairs (l : List Us) (x : Us) : ((l.map pairP).any fun z => PyData.eqv z (pairP x)) = decide (x ∈ l) := by
  rw [List.any_map, Bool.eq_iff_iff, List.any_eq_true, decide_eq_true_iff]
  constructor
  · rintro ⟨y, hy, e⟩
    have e : PyData.eqv (pairP y) (pairP x) = true := e
    rw [eqv_pair] at e
    rw [← of_decide_eq_true e]
    exact hy
  · intro h
    refine ⟨x, h, ?_⟩
    show PyData.eqv (pairP x) (pairP x) = true
    rw [eqv_pair]
    exact decide_eq_true rfl
theorem oIn_strs {neg : Bool} {l : List Str} {x : Str} {Q : D → Prop} (hl : ∀ s ∈ l, asc s) (hx : asc x) (h : Q (.bool (xb neg (decide (x ∈ l))))) : oIn neg (.str x) (.tup (l.map D.str)) Q := by
  refine ⟨shaped_str hx, shaped_strsT hl, ?_⟩
  rw [pyA_strs]
  show Q (.bool (xb neg ((l.map PyData.str).any fun z => PyData.eqv z (.str x))))
  rw [any_strs]
  exact h
/-! sorting them -/
def leS (a b : Str) : Bool := PySem.W.dataLe false D.py (.str a) (.str b)
@[irreducible] def sortS (l : List Str) : List Str := l.mergeSort leS
def leU (a b : Us) : Bool := PySem.W.dataLe false D.py (pairD a) (pairD b)
@[irreducible] def sortU (l : List Us) : List Us := l.mergeSort leU
theorem sortD_strs (l : List Str) : sortD (l.map D.str) = (sortS l).map D.str := by
  unfold sortD sortS
  rw [List.map_mergeSort (r := leS) (s := PySem.W.dataLe false D.py) (f := D.str) fun _ _ _ _ => rfl]
theorem sortD_pairs (l : List Us) : sortD (l.map pairD) = (sortU l).map pairD := by
  unfold sortD sortU
  rw [List.map_mergeSort (r := leU) (s := PySem.W.dataLe false D.py) (f := pairD) fun _ _ _ _ => rfl]
theorem sortU_perm (l : List Us) : (sortU l).Perm l := by unfold sortU; exact List.mergeSort_perm _ _
theorem mem_sortU {l : List Us} {x : Us} : x ∈ sortU l ↔ x ∈ l := (sortU_perm l).mem_iff
theorem sorts_strs {l : List Str} (hl : l.length ≤ lim) (h : ∀ s ∈ l, asc s) : Sorts (l.map D.str) where
  len := by rw [List.length_map]; exact hl
  lay := by rw [pyA_strs]; exact lay_strs h
  al := by rw [List.map_map]; exact PySem.W.AllAlike.of fun _ _ => rfl
  so := by rw [List.map_map]; exact PySem.W.Sortable.others fun b => ⟨fun e => by simp [D.py] at e, fun xs e => by simp [D.py] at e⟩
  dep := fun x hx => by
    obtain ⟨s, _, rfl⟩ := List.mem_map.mp hx
    exact Nat.zero_le _
theorem sorts_pairs {l : List Us} (hl : l.length ≤ lim) (h : ∀ s ∈ l, ascU s) : Sorts (l.map pairD) where
  len := by rw [List.length_map]; exact hl
  lay := by rw [pyA_pairs]; exact lay_pairs h
  al := by rw [List.map_map]; exact PySem.W.AllAlike.of fun _ _ => rfl
  so := by rw [List.map_map]; exact PySem.W.Sortable.tuples fun b => ⟨_, _, rfl⟩
  dep := fun x hx => by
    obtain ⟨s, _, rfl⟩ := List.mem_map.mp hx
    show 1 ≤ 30
    decide
end DL
namespace DL
open PySem PySem.Spec PyProof.Rows L2
/-! sets of texts: the members in the order in which they came -/
def putS (ks : List Str) (x : Str) : List Str := if x ∈ ks then ks else ks ++ [x]
theorem putS_nodup {ks : List Str} {x : Str} (h : ks.Nodup) : (putS ks x).Nodup := by
  unfold putS
  by_cases hx : x ∈ ks
  · rw [if_pos hx]; exact h
  · rw [if_neg hx, List.nodup_append]
    refine ⟨h, by simp, fun a ha b hb e => ?_⟩
    rw [List.mem_singleton.mp hb] at e
    exact hx (e ▸ ha)
theorem putS_mem {ks : List Str} {x y : Str} : y ∈ putS ks x ↔ y ∈ ks ∨ y = x := by
  unfold putS
  by_cases hx : x ∈ ks
  · rw [if_pos hx]
    exact ⟨.inl, fun h => h.elim id fun e => e ▸ hx⟩
  · rw [if_neg hx]; simp
theorem putS_len (ks : List Str) (x : Str) : (putS ks x).length ≤ ks.length + 1 := by
  unfold putS
  split
  · omega
  · simp
@[irreducible] def ded (l : List Str) : List Str := l.foldl putS []
theorem ded_snoc (l : List Str) (x : Str) : ded (l ++ [x]) = putS (ded l) x := by unfold ded; rw [List.foldl_append]; rfl
theorem ded_all (l : List Str) : (ded l).Nodup ∧ (ded l).length ≤ l.length ∧ ∀ x, x ∈ ded l ↔ x ∈ l := by
  have : ∀ (n : Nat) (l : List Str), l.length = n → (ded l).Nodup ∧ (ded l).length ≤ l.length ∧ ∀ x, x ∈ ded l ↔ x ∈ l := by
    intro n
    induction n with
    | zero =>
      intro l hl
      obtain rfl : l = [] := List.length_eq_zero_iff.mp hl
      unfold ded
      exact ⟨List.nodup_nil, Nat.le_refl _, fun x => Iff.rfl⟩
    | succ n ih =>
      intro l hl
      have hne : l ≠ [] := fun z => by rw [z] at hl; simp at hl
      have e := List.dropLast_concat_getLast hne
      have hd : l.dropLast.length = n := by rw [List.length_dropLast, hl]; rfl
      obtain ⟨i1, i2, i3⟩ := ih _ hd
      rw [← e, ded_snoc]
      refine ⟨putS_nodup i1, ?_, fun x => ?_⟩
      · have := putS_len (ded l.dropLast) (l.getLast hne)
        rw [List.length_append, List.length_singleton]
        omega
      · rw [putS_mem, i3, List.mem_append, List.mem_singleton]
  exact this _ l rfl
theorem ded_nodup (l : List Str) : (ded l).Nodup := (ded_all l).1
theorem ded_mem {l : List Str} {x : Str} : x ∈ ded l ↔ x ∈ l := (ded_all l).2.2 x
theorem ded_len (l : List Str) : (ded l).length ≤ l.length := (ded_all l).2.1
def txtOf (e : Int × Value) : Str := match e.2 with
  | .str k _ => k
  | _ => Str.empty
def TxtRow (P : Program) (w : World) (e : Int × Value) : Prop := ∃ k tk, e.2 = Value.str k tk ∧ e.1 = (PySem.strKind P w).hash k
/-- the set of the texts ks at a -/
def SetZ (P : Program) (w : World) (h : Heap) (a : Addr) (ks : List Str) : Prop :=
  ∃ o rows ep t, h.get? a = some o ∧ o.ExactSet ∧ o.data = .set rows ep t ∧ (∀ e ∈ rows.toList, TxtRow P w e) ∧ (rows.toList.map txtOf).Perm ks ∧ ks.Nodup ∧ ks.length < scanBound ∧ t.fits rows.size = true ∧ Ris t.place.toList ∧
    (w.params.followText "set-order" = true ∨ t.led = true)
section
variable {P : Program} {w : World} {A : Around} {E : Value → Shared → Prop} {s : Shared} {a : Addr} {ks : List Str}
theorem SetZ.at {h h' : Heap} (R : SetZ P w h a ks) (k : ∀ o, h.get? a = some o → h'.get? a = some o) : SetZ P w h' a ks := by
  obtain ⟨o, rows, ep, t, ho, rest⟩ := R
  exact ⟨o, rows, ep, t, k o ho, rest⟩
theorem txt_elems {l : List (Int × Value)} (g : ∀ e ∈ l, TxtRow P w e) : ElemsOf (PySem.strKind P w) l := fun e he => by
  obtain ⟨k, tk, e1, e2⟩ := g e he
  refine ⟨⟨k, ?_, e2⟩, ?_⟩
  · rw [e1]; exact strKind_is P w k tk
  · rw [e1]; rfl
theorem txt_is {e : Int × Value} (g : TxtRow P w e) (k : Str) : (PySem.strKind P w).is k e.2 = true ↔ txtOf e = k := by
  obtain ⟨k0, tk, e1, e2⟩ := g
  unfold txtOf
  rw [e1]
  constructor
  · intro h
    exact (PySem.strKind P w).inj _ _ _ (strKind_is P w k0 tk) h
  · rintro rfl
    exact strKind_is P w k0 tk
theorem rows_size {rows : Array (Int × Value)} (p : (rows.toList.map txtOf).Perm ks) : rows.size = ks.length := by
  have := p.length_eq
  rw [List.length_map, Array.length_toList] at this
  exact this
/-- the last steps of an addition -/
theorem setZ_tail {gv : Bool → Sem Unit} (hgv : ∀ (b : Bool) (s1 : Shared) (Q' : Unit → Shared → Prop), Q' () s1 → wpAny (model P w) A (gv b) Q' E s1)
    {o : Obj} {rows : Array (Int × Value)} {ep : Nat} {t : SetTable} (ho : s.heap.get? a = some o) (hex : o.ExactSet) (hd : o.data = .set rows ep t)
    {rows1 : Array (Int × Value)} {t2 : SetTable} {ks1 : List Str} (g1 : ∀ e ∈ rows1.toList, TxtRow P w e) (p1 : (rows1.toList.map txtOf).Perm ks1) (nd1 : ks1.Nodup)
    (hb1 : ks1.length < scanBound) (hf2 : t2.fits rows1.size = true) (hr : Ris t2.place.toList) (hl : w.params.followText "set-order" = true ∨ t2.led = true) {was : Bool} {R : Option Bool → Shared → Prop}
    (hR : ∀ h', Heap.SameBut a s.heap h' → SetZ P w h' a ks1 → R (some true) { s with heap := h' }) :
    wpAny (model P w) A (do
        storeSet a rows1 t2
        if (!was && t2.tooFull) = true then do
            gv (relayAll t2 rows1 (SetTable.grown rows1.size)).2.2
            storeSet a (relayAll t2 rows1 (SetTable.grown rows1.size)).1 (relayAll t2 rows1 (SetTable.grown rows1.size)).2.1
            pure (some true)
          else pure (some true)) R E s := by
  have sz1 : rows1.size < scanBound := by rw [rows_size p1]; exact hb1
  refine wpAny_bind (wpAny_storeSet_of ho hd ?_ (fits_of_scanBound sz1))
  have at1 := store_at (es' := rows1) (t' := t2) ho hd
  have sb := Heap.SameBut.update s.heap a (Obj.putSet rows1 t2)
  split
  · have pm := relayAll_perm t2 rows1 (SetTable.grown rows1.size)
    have hf3 := relayAll_fits t2 rows1 (SetTable.grown rows1.size)
    have hr3 := relayAll_ris t2 rows1 (SetTable.grown rows1.size)
    have hl3 := relayAll_led t2 rows1 (SetTable.grown rows1.size)
    generalize relayAll t2 rows1 (SetTable.grown rows1.size) = Z at pm hf3 hr3 hl3 ⊢
    obtain ⟨rows2, t3, gave⟩ := Z
    dsimp only at pm hf3 hr3 hl3 ⊢
    have p2 : (rows2.toList.map txtOf).Perm ks1 := (pm.map txtOf).trans p1
    have sz2 : rows2.size < scanBound := by rw [rows_size p2]; exact hb1
    refine wpAny_bind (hgv _ _ _ ?_)
    refine wpAny_bind (wpAny_storeSet_of at1 rfl ?_ (fits_of_scanBound sz2))
    have at2 := store_at (es' := rows2) (t' := t3) at1 rfl
    refine wpAny_pure (hR _ (sb.trans (Heap.SameBut.update _ a _)) ?_)
    refine ⟨_, rows2, _, t3, at2, hex, rfl, fun e he => g1 e (pm.mem_iff.mp he), p2, nd1, hb1, hf3, hr3, ?_⟩
    rcases hl with z | z
    · exact .inl z
    · exact .inr (hl3.trans z)
  · exact wpAny_pure (hR _ sb ⟨_, rows1, _, t2, at1, hex, rfl, g1, p1, nd1, hb1, hf2, hr, hl⟩)
/-- a text is put in -/
theorem setZ_add {k : Str} {tk : Tok} {Q : Bool → Shared → Prop} (R : SetZ P w s.heap a ks) (room : ks.length + 1 < scanBound)
    (hQ : ∀ h' b, Heap.SameBut a s.heap h' → SetZ P w h' a (putS ks k) → Q b { s with heap := h' }) :
    wpAny (model P w) A (setAddHashed a (.str k tk) ((PySem.strKind P w).hash k)) Q E s := by
  obtain ⟨o, rows, ep, t, ho, hex, hd, g, pm0, nd, hb, hf, hr, hl⟩ := R
  have sz : rows.size < scanBound := by rw [rows_size pm0]; exact hb
  have key : (PySem.strKind P w).is k (.str k tk) = true := strKind_is P w k tk
  have scn : (Value.str k tk).scannable = true := rfl
  have els : ElemsOf (PySem.strKind P w) rows.toList := txt_elems g
  unfold setAddHashed setAddHashedIn
  refine wpAny_holding (wpAny_bind (wpAny_setState_of ho hd hf ?_))
  dsimp only
  rw [byScan_of scn sz els]
  simp only [↓reduceIte]
  unfold setAddByScan
  refine wpAny_bind ?_
  refine wpAny_bind (wpAny_rule ?_)
  refine wpAny_bind (wpAny_setScan_of key ho hd hf els ?_)
  have mem : ∀ x, x ∈ ks ↔ ∃ e ∈ rows.toList, (PySem.strKind P w).is x e.2 = true := fun x => by
    rw [← pm0.mem_iff, List.mem_map]
    constructor
    · rintro ⟨e, he, q⟩
      exact ⟨e, he, (txt_is (g e he) x).2 q⟩
    · rintro ⟨e, he, q⟩
      exact ⟨e, he, (txt_is (g e he) x).1 q⟩
  cases fi : List.findIdx? (fun e => (PySem.strKind P w).is k e.2) rows.toList with
  | some j =>
    dsimp only
    obtain ⟨hj, pj, _⟩ := List.findIdx?_eq_some_iff_getElem.mp fi
    have hk : k ∈ ks := (mem k).2 ⟨rows.toList[j], List.getElem_mem hj, pj⟩
    refine wpAny_pure (wpAny_pure ?_)
    refine hQ s.heap _ (Heap.SameBut.refl a s.heap) ?_
    unfold putS
    rw [if_pos hk]
    exact ⟨o, rows, ep, t, ho, hex, hd, g, pm0, nd, hb, hf, hr, hl⟩
  | none =>
    dsimp only
    have hk : k ∉ ks := fun z => by
      obtain ⟨e, he, q⟩ := (mem k).1 z
      have c := List.findIdx?_eq_none_iff.mp fi e he
      rw [q] at c
      cases c
    have gw : ∀ (b : Bool) {s1 : Shared} {Q' : Unit → Shared → Prop}, Q' () s1 → wpAny (model P w) A (match b with | true => rule "set.scan.the-table-gave-way" | false => pure ()) Q' E s1 := fun b s1 Q' q => by
      cases b
      · exact wpAny_pure q
      · exact wpAny_rule q
    have pm := layNew_perm t rows ((PySem.strKind P w).hash k) (.str k tk)
    have hf1 := layNew_fits t rows ((PySem.strKind P w).hash k) (.str k tk)
    have hr1 := layNew_ris t rows ((PySem.strKind P w).hash k) (.str k tk) hr
    have hl1 := layNew_led t rows ((PySem.strKind P w).hash k) (.str k tk)
    generalize layNew t rows ((PySem.strKind P w).hash k) (.str k tk) = Z at pm hf1 hr1 hl1 ⊢
    obtain ⟨rows1, t1, was, gave⟩ := Z
    dsimp only at pm hf1 hr1 hl1 ⊢
    rw [Array.toList_push] at pm
    have g1 : ∀ e ∈ rows1.toList, TxtRow P w e := fun e he => by
      rcases List.mem_append.mp (pm.mem_iff.mp he) with z | z
      · exact g e z
      · rw [List.mem_singleton.mp z]; exact ⟨k, tk, rfl, rfl⟩
    have pk : (rows1.toList.map txtOf).Perm (ks ++ [k]) := by
      have q := pm.map txtOf
      rw [List.map_append] at q
      exact q.trans (pm0.append_right _)
    have ep1 : putS ks k = ks ++ [k] := by unfold putS; rw [if_neg hk]
    have nd1 : (ks ++ [k]).Nodup := by rw [← ep1]; exact putS_nodup nd
    have hb1 : (ks ++ [k]).length < scanBound := by rw [List.length_append]; exact room
    have led : w.params.followText "set-order" = true ∨ t1.led = true := by
      rcases hl with z | z
      · exact .inl z
      · exact .inr (hl1.trans z)
    have fin : ∀ h' b, Heap.SameBut a s.heap h' → SetZ P w h' a (ks ++ [k]) → Q b { s with heap := h' } := fun h' b sb r => hQ h' b sb (by rw [ep1]; exact r)
    refine wpAny_bind (gw _ ?_)
    split
    · refine wpAny_bind ?_
      rw [hashByValue_scannable 8 scn]
      refine wpAny_pure ?_
      refine setZ_tail ?_ ho hex hd g1 pk nd1 hb1 ?_ ?_ ?_ ?_
      · intro b s1 Q' q
        cases b
        · exact wpAny_pure q
        · exact wpAny_rule q
      · first | (split <;> first | exact hf1 | exact SetTable.fits_plain_off hf1) | exact hf1
      · first | (split <;> exact hr1) | exact hr1
      · first | (split <;> exact led) | exact led
      · intro h' sb r
        dsimp only
        exact wpAny_pure (fin h' _ sb r)
    · refine wpAny_bind (wpAny_pure ?_)
      simp only [↓reduceIte]
      refine setZ_tail ?_ ho hex hd g1 pk nd1 hb1 hf1 hr1 led ?_
      · intro b s1 Q' q
        cases b
        · exact wpAny_pure q
        · exact wpAny_rule q
      · intro h' sb r
        dsimp only
        exact wpAny_pure (fin h' _ sb r)
/-- the texts of a walk are put in, one behind the other -/
theorem setZ_loop {I : Addr} {fp wr : List Addr} {G : Array GenState → Array GenState → Prop} {n : Nat} {Pv : Nat → Value → Prop} {St : Nat → Shared → Prop} {R : Result → Shared → Prop}
    (W : WalksS P w A.in1 I fp wr G n Pv St) (S : Addr) (hSf : S ∉ fp) (xs : List Str) (hn : n = xs.length) (hb : xs.length + 1 < scanBound) (hval : ∀ i v, Pv i v → ∃ k t, xs[i]? = some k ∧ v = .str k t) :
    ∀ (m i : Nat) (s : Shared), n - i = m → i ≤ n → St i s → SetZ P w s.heap S (ded (xs.take i)) →
      (∀ s', Moved (S :: wr) G s s' → SetZ P w s'.heap S (ded xs) → R (.ok (.ret .none)) s') →
      codeAny (model P w) A (.builtin "set.update.loop" ⟨[.ref S, .ref I], []⟩) R s := by
  have out : S ∉ wr := fun h => hSf (W.sub _ h)
  have sub : ∀ b ∈ wr, b ∈ S :: wr := fun b hb => List.mem_cons_of_mem _ hb
  intro m
  induction m with
  | zero =>
    intro i s hm hi st hS hR
    obtain rfl : i = n := by omega
    refine codeAny_builtin F.entry_set_update_loop ?_
    rw [Around.under_plainId F.plain_set_update_loop _]
    show wpAny _ A.in1 (pyNext (.ref I) >>= _) _ _ s
    refine wpAny_bind (W.done s _ _ st fun s' mv => ?_)
    show wpAny _ A.in1 (ret Value.none) _ _ s'
    rw [List.take_of_length_le (by omega)] at hS
    exact wpAny_pure (hR s' (mv.mono sub) (hS.at fun o e => mv.heap S o out e))
  | succ m ih =>
    intro i s hm hi st hS hR
    have lt : i < n := by omega
    refine codeAny_builtin F.entry_set_update_loop ?_
    rw [Around.under_plainId F.plain_set_update_loop _]
    show wpAny _ A.in1 (pyNext (.ref I) >>= _) _ _ s
    refine wpAny_bind (W.item i s _ _ lt st fun v s' hP st' mv => ?_)
    obtain ⟨z, t, hz, rfl⟩ := hval i v hP
    have hS' : SetZ P w s'.heap S (ded (xs.take i)) := hS.at fun o e => mv.heap S o out e
    show wpAny _ A.in1 (holding [Value.str z t] (setAdd S (.str z t)) >>= _) _ _ s'
    refine wpAny_bind (wpAny_holding ?_)
    unfold setAdd
    refine wpAny_holding ?_
    refine wpAny_bind ((PySem.strKind P w).pyHash (k := z) (strKind_is _ _ _ _) ?_)
    have few : (ded (xs.take i)).length + 1 < scanBound := by
      have q := ded_len (xs.take i)
      rw [List.length_take] at q
      omega
    refine setZ_add (s := { s' with toks := s'.toks + 1 }) hS' few fun h' b sb hS2 => ?_
    have hS3 : SetZ P w h' S (ded (xs.take (i + 1))) := by
      rw [List.take_add_one, hz]
      show SetZ P w h' S (ded (xs.take i ++ [z]))
      rw [ded_snoc]
      exact hS2
    refine wpAny_pure ⟨plainId_quiet F.plain_set_update_loop _, ih (i + 1) _ (by omega) lt (W.frame _ s' _ _ st' (Nat.le_succ _) fun c hc o e => ?_) hS3 fun s2 mv2 hS4 => ?_⟩
    · rw [sb.2 c (fun z : c = S => hSf (z ▸ hc))]; exact e
    · refine hR s2 (Moved.trans W.gtrans ((mv.mono sub).then_heap (Nat.le_succ _) fun c o hc e => ?_) mv2) hS4
      rw [sb.2 c (fun z : c = S => hc (by rw [z]; exact List.mem_cons_self))]; exact e
theorem setZ_fresh {h : Heap} (ho : h.get? a = some { cls := .type "set", dict := none, data := .set #[] 0 (.fresh 0 0 (!w.params.followText "set-order")) }) : SetZ P w h a [] :=
  ⟨_, #[], 0, _, ho, ⟨rfl, rfl, rfl⟩, rfl, (fun e he => by simp at he), List.Perm.nil, List.nodup_nil, by decide, by rfl, List.Pairwise.nil, by
    show _ ∨ (!w.params.followText "set-order") = true
    cases w.params.followText "set-order"
    · exact .inr rfl
    · exact .inl rfl⟩
set_option maxRecDepth 100000 in
set_option maxHeartbeats 3200000 in
theorem call_setZ_list {l : Addr} {items : Array Value} (xs : List Str) {Q : Value → Shared → Prop} (hh : A.handled = none) (hl : s.heap.IsList l items) (sz : items.size = xs.length) (hval : ∀ (i : Nat) (v : Value), items[i]? = some v → ∃ k t, xs[i]? = some k ∧ v = .str k t)
    (hb : xs.length + 1 < scanBound) (hQ : ∀ (h' : Heap) (tk : Nat), SetZ P w h' s.heap.objs.size (ded xs) → (∀ b o, s.heap.get? b = some o → h'.get? b = some o) → Q (.ref s.heap.objs.size) { s with heap := h', toks := tk }) :
    wpAny (model P w) A (call (.type "set") [.ref l]) Q E s := by
  obtain ⟨c0, tl0, mro0⟩ := F.called_set.mro
  have made0 := F.called_set.made
  have sub0 := F.called_set.sub
  refine wpAny_call (codeAny_of_tree ?_)
  show wpAny _ _ (callAny (.type "set") _) _ _ _
  refine wpAny_pure ⟨Code.quiet_builtin _ (by decide +kernel), codeAny_builtin F.entry_type_call ?_⟩
  rw [Around.under_plain (weight_type_call_type "set" [.ref l] []) rfl]
  have nt := F.called_set.notType
  have cc := F.called_set.canCreate
  have tc := F.typeCall_set_1 (.ref l)
  repeat (any_goals (first | assumption | wp_step))
  refine codeAny_mono (code_set_led1 (.ref l) (E := E) (Q₁ := fun v s1 => v = .ref s.heap.objs.size ∧ s1 = { s with heap := s.heap.push { cls := .type "set", dict := none, data := .set #[] 0 (.fresh 0 0 (!w.params.followText "set-order")) } }) ⟨rfl, rfl⟩) fun r s1 hr => ?_
  cases r with
  | error e => exact hr
  | ok fl =>
    cases fl with
    | ret v =>
      obtain ⟨rfl, rfl⟩ := hr
      have hS : (s.heap.push { cls := .type "set", dict := none, data := .set #[] 0 (.fresh 0 0 (!w.params.followText "set-order")) }).get? s.heap.objs.size = some { cls := .type "set", dict := none, data := .set #[] 0 (.fresh 0 0 (!w.params.followText "set-order")) } := Heap.get?_push_size _ rfl
      have hT : Shared.TypeIs { s with heap := s.heap.push { cls := .type "set", dict := none, data := .set #[] 0 (.fresh 0 0 (!w.params.followText "set-order")) } } (.ref s.heap.objs.size) "set" := ⟨_, hS, rfl⟩
      have li := F.called_set.init.lookup
      have bi := F.called_set.init.bind (.ref s.heap.objs.size)
      repeat (any_goals (first | assumption | wp_step))
      refine codeAny_mono (codeAny_call_builtin (R := wants (fun r s2 => r = .none ∧ ∃ h' tk, s2 = { s with heap := h', toks := tk } ∧ SetZ P w h' s.heap.objs.size (ded xs) ∧
          (∀ b o, s.heap.get? b = some o → h'.get? b = some o)) E) F.called_set.init.plain F.entry_set_init (check_set_init_1 hT ?_)) fun r2 s2 hr2 => ?_
      · obtain ⟨ol, hol, hcl, nl, hdl⟩ := hl
        obtain ⟨ocls, odict, odata, oslots⟩ := ol
        simp only at hcl hdl
        subst hcl; subst hdl
        have hol' : (s.heap.push { cls := .type "set", dict := none, data := .set #[] 0 (.fresh 0 0 (!w.params.followText "set-order")) }).get? l = some { cls := .type "list", dict := odict, data := .seq items nl, slots := oslots } := Heap.get?_push_of_some _ hol
        have u1 := F.sub_list_set
        have u2 := F.sub_list_frozenset
        have u3 : (Value.type "list" == Value.type "dict") = false := by decide
        have hl1 : (s.heap.push { cls := .type "set", dict := none, data := .set #[] 0 (.fresh 0 0 (!w.params.followText "set-order")) }).IsList l items := ⟨_, hol', rfl, nl, rfl⟩
        unfold Builtin.«set.__init__» noKeywords Builtin.Frozenset.updateFrom
        generalize hPI : pyIter = PI
        wp_walk
        subst hPI
        refine wpAny_pyIter_list hl1 ?_
        refine wpAny_bind (wpAny_runValue ?_)
        have below : l < s.heap.objs.size := Heap.lt_size hol
        have calm3 : A.in1.in1.in1.handled = none := by simp [hh]
        have neI : l ≠ (s.heap.push { cls := .type "set", dict := none, data := .set #[] 0 (.fresh 0 0 (!w.params.followText "set-order")) }).objs.size := by rw [Heap.size_push]; exact Nat.ne_of_lt (Nat.lt_succ_of_lt below)
        have nf : s.heap.objs.size ∉ [(s.heap.push { cls := .type "set", dict := none, data := .set #[] 0 (.fresh 0 0 (!w.params.followText "set-order")) }).objs.size, l] := by
          rw [Heap.size_push]
          simp only [List.mem_cons, List.not_mem_nil, or_false, not_or]
          exact ⟨Nat.ne_of_lt (Nat.lt_succ_self _), Nat.ne_of_gt below⟩
        refine setZ_loop ((Walks.list calm3 _ l neI items).toS) s.heap.objs.size nf xs sz hb hval (items.size - 0) 0 _ (by omega) (Nat.zero_le _) ⟨⟨_, Heap.get?_push_size _ rfl, rfl, rfl⟩, (hl1.push _)⟩ ?start ?done
        case start =>
          rw [List.take_zero, show ded [] = [] by unfold ded; rfl]
          refine setZ_fresh ?_
          exact Heap.get?_push_of_some _ hS
        case done =>
          intro s' mv hS'
          obtain ⟨h', g2, d2, tk2, os2⟩ := s'
          obtain rfl : g2 = s.gens := mv.gens
          obtain rfl : d2 = s.drawn := mv.drawn
          obtain rfl : os2 = s.os := mv.os
          show wpAny _ _ _ _ _ _
          refine wpAny_pure ?_
          show wpAny _ _ (ret Value.none) _ _ _
          refine wpAny_pure ⟨rfl, h', tk2, rfl, hS', fun b o e => ?_⟩
          have lb : b < s.heap.objs.size := Heap.lt_size e
          refine mv.heap b o ?_ (Heap.get?_push_of_some _ (Heap.get?_push_of_some _ e))
          rw [Heap.size_push]
          simp only [List.mem_cons, List.not_mem_nil, or_false, not_or]
          exact ⟨Nat.ne_of_lt lb, Nat.ne_of_lt (Nat.lt_succ_of_lt lb)⟩
      · cases r2 with
        | error e => exact hr2
        | ok fl2 =>
          cases fl2 with
          | ret r =>
            obtain ⟨rfl, h', tk, rfl, hS', keep⟩ := hr2
            repeat (any_goals (first | assumption | wp_step))
            exact hQ _ _ hS' keep
          | _ => exact hr2.elim
    | _ => exact hr.elim
set_option maxRecDepth 100000 in
set_option maxHeartbeats 3200000 in
theorem call_setZ_tuple {l : Addr} {items : Array Value} (xs : List Str) {Q : Value → Shared → Prop} (hh : A.handled = none) (hl : s.heap.IsTuple l items) (sz : items.size = xs.length) (hval : ∀ (i : Nat) (v : Value), items[i]? = some v → ∃ k t, xs[i]? = some k ∧ v = .str k t)
    (hb : xs.length + 1 < scanBound) (hQ : ∀ (h' : Heap) (tk : Nat), SetZ P w h' s.heap.objs.size (ded xs) → (∀ b o, s.heap.get? b = some o → h'.get? b = some o) → Q (.ref s.heap.objs.size) { s with heap := h', toks := tk }) :
    wpAny (model P w) A (call (.type "set") [.ref l]) Q E s := by
  obtain ⟨c0, tl0, mro0⟩ := F.called_set.mro
  have made0 := F.called_set.made
  have sub0 := F.called_set.sub
  refine wpAny_call (codeAny_of_tree ?_)
  show wpAny _ _ (callAny (.type "set") _) _ _ _
  refine wpAny_pure ⟨Code.quiet_builtin _ (by decide +kernel), codeAny_builtin F.entry_type_call ?_⟩
  rw [Around.under_plain (weight_type_call_type "set" [.ref l] []) rfl]
  have nt := F.called_set.notType
  have cc := F.called_set.canCreate
  have tc := F.typeCall_set_1 (.ref l)
  repeat (any_goals (first | assumption | wp_step))
  refine codeAny_mono (code_set_led1 (.ref l) (E := E) (Q₁ := fun v s1 => v = .ref s.heap.objs.size ∧ s1 = { s with heap := s.heap.push { cls := .type "set", dict := none, data := .set #[] 0 (.fresh 0 0 (!w.params.followText "set-order")) } }) ⟨rfl, rfl⟩) fun r s1 hr => ?_
  cases r with
  | error e => exact hr
  | ok fl =>
    cases fl with
    | ret v =>
      obtain ⟨rfl, rfl⟩ := hr
      have hS : (s.heap.push { cls := .type "set", dict := none, data := .set #[] 0 (.fresh 0 0 (!w.params.followText "set-order")) }).get? s.heap.objs.size = some { cls := .type "set", dict := none, data := .set #[] 0 (.fresh 0 0 (!w.params.followText "set-order")) } := Heap.get?_push_size _ rfl
      have hT : Shared.TypeIs { s with heap := s.heap.push { cls := .type "set", dict := none, data := .set #[] 0 (.fresh 0 0 (!w.params.followText "set-order")) } } (.ref s.heap.objs.size) "set" := ⟨_, hS, rfl⟩
      have li := F.called_set.init.lookup
      have bi := F.called_set.init.bind (.ref s.heap.objs.size)
      repeat (any_goals (first | assumption | wp_step))
      refine codeAny_mono (codeAny_call_builtin (R := wants (fun r s2 => r = .none ∧ ∃ h' tk, s2 = { s with heap := h', toks := tk } ∧ SetZ P w h' s.heap.objs.size (ded xs) ∧
          (∀ b o, s.heap.get? b = some o → h'.get? b = some o)) E) F.called_set.init.plain F.entry_set_init (check_set_init_1 hT ?_)) fun r2 s2 hr2 => ?_
      · obtain ⟨ol, hol, hcl, nl, hdl⟩ := hl
        obtain ⟨ocls, odict, odata, oslots⟩ := ol
        simp only at hcl hdl
        subst hcl; subst hdl
        have hol' : (s.heap.push { cls := .type "set", dict := none, data := .set #[] 0 (.fresh 0 0 (!w.params.followText "set-order")) }).get? l = some { cls := .type "tuple", dict := odict, data := .seq items nl, slots := oslots } := Heap.get?_push_of_some _ hol
        have u1 := F.sub_tuple_set
        have u2 := F.sub_tuple_frozenset
        have u3 : (Value.type "tuple" == Value.type "dict") = false := by decide
        have hl1 : (s.heap.push { cls := .type "set", dict := none, data := .set #[] 0 (.fresh 0 0 (!w.params.followText "set-order")) }).IsTuple l items := ⟨_, hol', rfl, nl, rfl⟩
        unfold Builtin.«set.__init__» noKeywords Builtin.Frozenset.updateFrom
        generalize hPI : pyIter = PI
        wp_walk
        subst hPI
        refine wpAny_pyIter_tuple hl1 ?_
        refine wpAny_bind (wpAny_runValue ?_)
        have below : l < s.heap.objs.size := Heap.lt_size hol
        have calm3 : A.in1.in1.in1.handled = none := by simp [hh]
        have neI : l ≠ (s.heap.push { cls := .type "set", dict := none, data := .set #[] 0 (.fresh 0 0 (!w.params.followText "set-order")) }).objs.size := by rw [Heap.size_push]; exact Nat.ne_of_lt (Nat.lt_succ_of_lt below)
        have nf : s.heap.objs.size ∉ [(s.heap.push { cls := .type "set", dict := none, data := .set #[] 0 (.fresh 0 0 (!w.params.followText "set-order")) }).objs.size, l] := by
          rw [Heap.size_push]
          simp only [List.mem_cons, List.not_mem_nil, or_false, not_or]
          exact ⟨Nat.ne_of_lt (Nat.lt_succ_self _), Nat.ne_of_gt below⟩
        refine setZ_loop ((Walks.tuple calm3 _ l neI items).toS) s.heap.objs.size nf xs sz hb hval (items.size - 0) 0 _ (by omega) (Nat.zero_le _) ⟨⟨_, Heap.get?_push_size _ rfl, rfl, rfl⟩, (hl1.push _)⟩ ?start ?done
        case start =>
          rw [List.take_zero, show ded [] = [] by unfold ded; rfl]
          refine setZ_fresh ?_
          exact Heap.get?_push_of_some _ hS
        case done =>
          intro s' mv hS'
          obtain ⟨h', g2, d2, tk2, os2⟩ := s'
          obtain rfl : g2 = s.gens := mv.gens
          obtain rfl : d2 = s.drawn := mv.drawn
          obtain rfl : os2 = s.os := mv.os
          show wpAny _ _ _ _ _ _
          refine wpAny_pure ?_
          show wpAny _ _ (ret Value.none) _ _ _
          refine wpAny_pure ⟨rfl, h', tk2, rfl, hS', fun b o e => ?_⟩
          have lb : b < s.heap.objs.size := Heap.lt_size e
          refine mv.heap b o ?_ (Heap.get?_push_of_some _ (Heap.get?_push_of_some _ e))
          rw [Heap.size_push]
          simp only [List.mem_cons, List.not_mem_nil, or_false, not_or]
          exact ⟨Nat.ne_of_lt lb, Nat.ne_of_lt (Nat.lt_succ_of_lt lb)⟩
      · cases r2 with
        | error e => exact hr2
        | ok fl2 =>
          cases fl2 with
          | ret r =>
            obtain ⟨rfl, h', tk, rfl, hS', keep⟩ := hr2
            repeat (any_goals (first | assumption | wp_step))
            exact hQ _ _ hS' keep
          | _ => exact hr2.elim
    | _ => exact hr.elim
end
end DL
namespace DL
open PySem PySem.Spec PyProof.Rows L2
/-! the order of texts and of pairs of texts -/
theorem str_ext {a b : Str} (h : a.cps.toList = b.cps.toList) : a = b := by
  cases a; cases b; congr 1; exact Array.toList_inj.mp h
theorem perm_of_nodup {α : Type} [DecidableEq α] {l m : List α} (h1 : l.Nodup) (h2 : m.Nodup) (h : ∀ x, x ∈ l ↔ x ∈ m) : l.Perm m := by
  induction l generalizing m with
  | nil =>
    have : m = [] := by
      cases m with
      | nil => rfl
      | cons x r => exact absurd ((h x).mpr (by simp)) (by simp)
    rw [this]
  | cons x l ih =>
    obtain ⟨hx, hl⟩ := List.nodup_cons.mp h1
    have hm : x ∈ m := (h x).mp (by simp)
    refine (List.Perm.cons x (ih hl (h2.erase x) fun y => ?_)).trans (List.perm_cons_erase hm).symm
    rw [h2.mem_erase_iff, ← h y, List.mem_cons]
    constructor
    · intro hy
      exact ⟨fun e => hx (e ▸ hy), .inr hy⟩
    · rintro ⟨n, e | e⟩
      · exact absurd e n
      · exact e
/-! len(set(e)), sorted(set(e)) of texts -/
def tLenZ (K : PySem.W.Frag) (ta : TE) : TE := fun st H Q => ta st H fun x H1 => ∃ (l : Addr) (xs : List Str), x = .ref l ∧ (SqL K H1 l (xs.map V.str) ∨ SqT K H1 l (xs.map V.str)) ∧ xs.length ≤ 4000 ∧ Q (.int (ded xs).length) H1
section
variable {X : Cx} {pins : List (Addr × Obj)} {st : L2.St} {H : Hp} {s : Shared}
theorem vals_at {xs : List Str} {us : List Value} (r : Vals (xs.map V.str) us) (i : Nat) (v : Value) (h : us.toArray[i]? = some v) : ∃ k t, xs[i]? = some k ∧ v = .str k t := by
  rw [List.getElem?_toArray] at h
  have hl : us.length = xs.length := by rw [← r.length, List.length_map]
  have hi : i < xs.length := by rw [← hl]; exact (List.getElem?_eq_some_iff.mp h).1
  obtain ⟨u, hu, t, ht⟩ := r.get (i := i) (x := .str xs[i]) (by simp [hi])
  rw [h] at hu
  cases hu
  exact ⟨xs[i], t, List.getElem?_eq_getElem hi, ht⟩
theorem set_of {l : Addr} {xs : List Str} {Q : Value → Shared → Prop} {E : Value → Shared → Prop} (I : Inv X pins st H s) (hc : X.calm = true) (hq : SqL X.K H l (xs.map V.str) ∨ SqT X.K H l (xs.map V.str)) (hb : xs.length ≤ 4000)
    (h : ∀ (h' : Heap) (tk : Nat), SetZ X.prog X.w h' s.heap.objs.size (ded xs) → Inv X pins st H { s with heap := h', toks := tk } → s.heap.objs.size < h'.objs.size → Q (.ref s.heap.objs.size) { s with heap := h', toks := tk }) :
    wpAny (model X.prog X.w) X.A (call (.type "set") [.ref l]) Q E s := by
  have hb' : xs.length + 1 < scanBound := by unfold scanBound; omega
  have fin : ∀ (h' : Heap) (tk : Nat), SetZ X.prog X.w h' s.heap.objs.size (ded xs) → (∀ b o, s.heap.get? b = some o → h'.get? b = some o) → Q (.ref s.heap.objs.size) { s with heap := h', toks := tk } := fun h' tk hS k => by
    refine h h' tk hS (I.kept k) ?_
    obtain ⟨o, _, _, _, ho, _⟩ := hS
    exact Heap.lt_size ho
  rcases hq with hq | hq
  · obtain ⟨its, r, pl, hz⟩ := I.list hq
    exact call_setZ_list xs (I.ok.hd hc) pl.isList (by rw [List.size_toArray, ← r.length, List.length_map]) (vals_at r) hb' fin
  · obtain ⟨its, r, pl, hz⟩ := I.tuple hq
    exact call_setZ_tuple xs (I.ok.hd hc) pl (by rw [List.size_toArray, ← r.length, List.length_map]) (vals_at r) hb' fin
theorem pe_lenZ {a : Expr} {ta : TE} {p p2 q pos : Pos} (hg : Gl X "len") (hm : X.mg "len" = none) (hg2 : Gl X "set") (hm2 : X.mg "set" = none) (ha : PE X a ta) (hc : X.calm = true)
    (na : starEach [a] X.env = (false, eval a X.env) :: starEach [] X.env) : PE X (.Call (.Name "len" p) [.Call (.Name "set" p2) [a] [] q] [] pos) (tLenZ X.K ta) := by
  refine ⟨fun pins s st H Q I h => ?_⟩
  refine Call_ (ld_blt I hg hm PySem.boot_len ?_)
  refine PyProof.Rows.callWith_builtin1 (PyProof.Rows.args_cons ?_ rfl) rfl rfl
  refine Call_ (ld_blt I hg2 hm2 PyProof.Rows.boot_set ?_)
  refine PyProof.Rows.callWith_type1 (PyProof.Rows.args_cons (thn (ha.run pins s st H _ I h) fun v s1 ⟨x, H1, I1, r1, l, xs, e, hq, hb, q1⟩ => PyProof.Rows.args_nil ?_) na) na rfl
  subst e
  cases r1
  refine set_of I1 hc hq hb fun h' tk hS I2 _ => ?_
  refine PyProof.Rows.args_nil ?_
  obtain ⟨o, rows, ep, t, ho, hex, hd, _, pm, _, _, hf, _⟩ := hS
  have hn := rows_size pm
  have hl := ded_len xs
  exact call_len_set ho hex hd hf (by rw [hn]; omega) ⟨.int (ded xs).length, H1, I2.tok _, ⟨_, by rw [hn]⟩, q1⟩
variable {K : PySem.W.Frag}
def dLenZ (d : DT) : DT := fun g r f Q => d g r f fun x f1 => ∃ xs : List Str, (x = .lst (xs.map D.str) ∨ x = .tup (xs.map D.str)) ∧ xs.length ≤ 4000 ∧ Q (.int (ded xs).length) f1
theorem rp_seqZ {H : Hp} {x : D} {v : V} {xs : List Str} (h : Rp K H x v) (e : x = .lst (xs.map D.str) ∨ x = .tup (xs.map D.str)) : ∃ l, v = .ref l ∧ (SqL K H l (xs.map V.str) ∨ SqT K H l (xs.map V.str)) := by
  rcases e with rfl | rfl
  · obtain ⟨a, vs, rfl, h1, h2⟩ := h
    rw [h2.strs] at h1
    exact ⟨a, rfl, .inl (SqL.of h1)⟩
  · obtain ⟨a, vs, rfl, h1, h2⟩ := h
    rw [h2.strs] at h1
    exact ⟨a, rfl, .inr h1.sq⟩
theorem sqZ_mono {H Hs : Hp} (s : Same Hs H) {l : Addr} {ws : List V} (h : SqL K Hs l ws ∨ SqT K Hs l ws) : SqL K H l ws ∨ SqT K H l ws := by
  rcases h with h | h
  · exact .inl (s.seq h)
  · exact .inr (sqT_mono s h)
theorem de_lenZ {a : Expr} {d : DT} {p p2 q pos : Pos} (hm : X.mg "len" = none) (hm2 : X.mg "set" = none) (ha : DE X a d) (hg : Gl X "len" := by rfl) (hg2 : Gl X "set" := by rfl) (hc : X.calm = true := by rfl)
    (na : starEach [a] X.env = (false, eval a X.env) :: starEach [] X.env := by rfl) : DE X (.Call (.Name "len" p) [.Call (.Name "set" p2) [a] [] q] [] pos) (dLenZ d) :=
  .mk' (pe_lenZ hg hm hg2 hm2 ha.pe hc na) fun g r f st H Hs Q Q' A hq hd => ha.sn g r f st H Hs _ _ A (fun x f1 v H1 Hs1 s1 k1 r1 ⟨xs, e, hl, q1⟩ => by
    obtain ⟨l, rfl, hs⟩ := rp_seqZ r1 e
    exact ⟨l, xs, rfl, sqZ_mono s1.sub hs, hl, hq (.int _) f1 _ H1 Hs1 s1 k1 rfl q1⟩) hd
end
end DL
namespace DL
open PySem PySem.Spec PyProof.Rows L2
/-! f-strings of texts and numbers -/
/-! comprehensions over typed data -/
theorem lcT {α β : Type} (em : α → D) (em' : β → D) (b : α → Bool) (y : α → β) {g : Option Dk} {t : TgF} {c : DTT} {e : DT} {r : Sg} {Q : List D → Nat → Prop} : ∀ (xs : List α) (acc : List D) (f : Nat),
    (∀ x ∈ xs, ∃ l, t (em x) = some l ∧ (∀ (f : Nat) (Q : Bool → Nat → Prop), Q (b x) f → c g (setsR r l) f Q) ∧ (b x = true → ∀ (f : Nat) (Q : QD), Q (em' (y x)) f → e g (setsR r l) f Q)) →
    Q (acc ++ ((xs.filter b).map y).map em') f → dLcGo g t c e r (xs.map em) acc f Q
  | [], acc, f, _, hq => by
    rw [List.filter_nil, List.map_nil, List.map_nil, List.append_nil] at hq
    exact hq
  | x :: xs, acc, f, he, hq => by
    obtain ⟨l, hl, h1, h2⟩ := he x (by simp)
    simp only [List.map_cons, dLcGo, hl]
    refine h1 f _ ?_
    cases hb : b x with
    | true =>
      rw [if_pos rfl]
      refine h2 hb f _ (lcT em em' b y xs (acc ++ [em' (y x)]) f (fun x' hx' => he x' (by simp [hx'])) ?_)
      rw [List.filter_cons, hb, if_pos rfl, List.map_cons, List.map_cons] at hq
      rw [List.append_assoc]
      exact hq
    | false =>
      rw [if_neg Bool.false_ne_true]
      refine lcT em em' b y xs acc f (fun x' hx' => he x' (by simp [hx'])) ?_
      rw [List.filter_cons, hb, if_neg Bool.false_ne_true] at hq
      exact hq
/-- [x for x in xs if b(x)] -/
theorem lcF {α : Type} (em : α → D) (b : α → Bool) {g : Option Dk} {t : TgF} {c : DTT} {e : DT} {r : Sg} {Q : List D → Nat → Prop} (xs : List α) (f : Nat)
    (h : ∀ x ∈ xs, ∃ l, t (em x) = some l ∧ (∀ (f : Nat) (Q : Bool → Nat → Prop), Q (b x) f → c g (setsR r l) f Q) ∧ (b x = true → ∀ (f : Nat) (Q : QD), Q (em x) f → e g (setsR r l) f Q))
    (q : Q ((xs.filter b).map em) f) : dLcGo g t c e r (xs.map em) [] f Q := by
  refine lcT em em b id xs [] f h ?_
  rw [List.map_id, List.nil_append]
  exact q
/-- [y(x) for x in xs] -/
theorem lcM {α β : Type} (em : α → D) (em' : β → D) (y : α → β) {g : Option Dk} {t : TgF} {e : DT} {r : Sg} {Q : List D → Nat → Prop} (xs : List α) (f : Nat)
    (h : ∀ x ∈ xs, ∃ l, t (em x) = some l ∧ ∀ (f : Nat) (Q : QD), Q (em' (y x)) f → e g (setsR r l) f Q)
    (q : Q ((xs.map y).map em') f) : dLcGo g t dYes e r (xs.map em) [] f Q := by
  refine lcT em em' (fun _ => true) y xs [] f (fun x hx => ?_) ?_
  · obtain ⟨l, h1, h2⟩ := h x hx
    exact ⟨l, h1, fun f Q q => q, fun _ f Q q => h2 f Q q⟩
  · rw [List.filter_eq_self.mpr (fun _ _ => rfl), List.nil_append]
    exact q
theorem fil_nil {α : Type} (xs : List α) (b : α → Bool) : (xs.filter b = []) ↔ ∀ x ∈ xs, b x = false := by
  rw [List.filter_eq_nil_iff]
  constructor
  · intro h x hx
    exact Bool.eq_false_iff.mpr (h x hx)
  · intro h x hx
    rw [h x hx]
    exact Bool.false_ne_true
/-- a loop over numbers -/
theorem dFor_range {g : Option Dk} {t : TgF} {body : DTS} {E : DEnds} (I : Nat → Sg → Nat → Prop) (lo : Int) : ∀ (n : Nat) (r : Sg) (f : Nat),
    (∀ i r f (N : Sg → Nat → Prop), i < n → I i r f → (∀ r' f', I (i + 1) r' f' → N r' f') → ∃ l, t (.int (lo + i)) = some l ∧ body g (setsR r l) f { E with nx := N, ct := N, bk := E.nx }) →
    (∀ r f, I n r f → E.nx r f) → I 0 r f → dForGo g t body E (intsD lo n) r f := by
  intro n r f hs h0 h
  refine dFor_inv (fun rest r f => ∃ i, i ≤ n ∧ rest = (intsD lo n).drop i ∧ I i r f) _ _ _ ?_ ?_ ⟨0, Nat.zero_le _, rfl, h⟩
  · rintro d rest r f N ⟨i, hi, hr, hI⟩ hN
    have hlt : i < n := by
      by_cases e : i < n
      · exact e
      · rw [List.drop_of_length_le (by rw [intsD_len]; omega)] at hr
        cases hr
    have hd : (intsD lo n)[i]? = some (.int (lo + i)) := by
      unfold intsD
      rw [List.getElem?_map, List.getElem?_range hlt]
      rfl
    have hdr : (intsD lo n).drop i = .int (lo + i) :: (intsD lo n).drop (i + 1) := by
      obtain ⟨h1, h2⟩ := List.getElem?_eq_some_iff.mp hd
      rw [List.drop_eq_getElem_cons h1, h2]
    rw [hdr] at hr
    obtain ⟨rfl, rfl⟩ := List.cons.inj hr
    exact hs i r f N hlt hI fun r' f' h' => hN r' f' ⟨i + 1, by omega, rfl, h'⟩
  · rintro r f ⟨i, hi, hr, hI⟩
    have : i = n := by
      by_cases e : i < n
      · have hl := congrArg List.length hr
        rw [List.length_drop, intsD_len, List.length_nil] at hl
        omega
      · omega
    subst this
    exact h0 r f hI
/-- a loop over typed data, the part that is done told -/
theorem dFor_list {α : Type} (em : α → D) {g : Option Dk} {t : TgF} {body : DTS} {E : DEnds} (I : List α → List α → Sg → Nat → Prop) (xs : List α) (r : Sg) (f : Nat)
    (hs : ∀ done x rest r f (N : Sg → Nat → Prop), xs = done ++ x :: rest → I done (x :: rest) r f → (∀ r' f', I (done ++ [x]) rest r' f' → N r' f') → ∃ l, t (em x) = some l ∧ body g (setsR r l) f { E with nx := N, ct := N, bk := E.nx })
    (h0 : ∀ r f, I xs [] r f → E.nx r f) (h : I [] xs r f) : dForGo g t body E (xs.map em) r f := by
  refine dFor_inv (fun rest r f => ∃ done rest', xs = done ++ rest' ∧ rest = rest'.map em ∧ I done rest' r f) _ _ _ ?_ ?_ ⟨[], xs, rfl, rfl, h⟩
  · rintro d rest r f N ⟨done, rest', hx, hr, hI⟩ hN
    match rest', hr with
    | x :: rest', hr =>
      obtain ⟨rfl, rfl⟩ := List.cons.inj hr
      exact hs done x rest' r f N hx hI fun r' f' h' => hN r' f' ⟨done ++ [x], rest', by rw [hx]; simp, rfl, h'⟩
  · rintro r f ⟨done, rest', hx, hr, hI⟩
    obtain rfl : rest' = [] := by
      match rest', hr with
      | [], _ => rfl
    rw [List.append_nil] at hx
    subst hx
    exact h0 r f hI
/-! one of two numbers, by a draw -/
theorem L1 {n : Nat} (h : n ≤ 100000) : n ≤ lim := Nat.le_trans h (by decide)
/-! in, told piece by piece -/
theorem shpU {l : List Us} (h : ∀ s ∈ l, ascU s) : SeqAt.shaped (.list (pyA (l.map pairD))) = true := by rw [pyA_pairs]; exact shaped_pairs h
theorem anyS (l : List Str) (x : Str) : ((pyA (l.map D.str)).any fun z => PyData.eqv z (.str x)) = decide (x ∈ l) := by rw [pyA_strs]; exact any_strs l x
theorem anyU (l : List Us) (x : Us) : ((pyA (l.map pairD)).any fun z => PyData.eqv z (pairP x)) = decide (x ∈ l) := by rw [pyA_pairs]; exact any_pairs l x
theorem anyU' (l : List Us) (x y : Str) : ((pyA (l.map pairD)).any fun z => PyData.eqv z (D.tup [.str x, .str y]).py) = decide ((x, y) ∈ l) := anyU l (x, y)
theorem anyS' (l : List Str) (x : Str) : ((pyA (l.map D.str)).any fun z => PyData.eqv z (D.str x).py) = decide (x ∈ l) := anyS l x
/-! plain rows of texts and pairs -/
theorem plainA_of {α : Type} (em : α → D) (n : Nat) : ∀ l : List α, (∀ x ∈ l, (em x).plain = true ∧ (em x).dep ≤ n) → plainA (l.map em) = true ∧ depA (l.map em) ≤ n
  | [], _ => ⟨rfl, Nat.zero_le _⟩
  | x :: l, h => by
    obtain ⟨h1, h2⟩ := plainA_of em n l fun y hy => h y (by simp [hy])
    obtain ⟨h3, h4⟩ := h x (by simp)
    refine ⟨?_, ?_⟩
    · show ((em x).plain && plainA (l.map em)) = true
      rw [h1, h3]; rfl
    · exact Nat.max_le.mpr ⟨h4, h2⟩
theorem plT {α : Type} {em : α → D} {n : Nat} {l : List α} (hl : l.length ≤ 100000) (h : ∀ x ∈ l, (em x).plain = true ∧ (em x).dep ≤ n) : (D.tup (l.map em)).plain = true ∧ (D.tup (l.map em)).dep ≤ n + 1 := by
  obtain ⟨h1, h2⟩ := plainA_of em n l h
  refine ⟨?_, Nat.succ_le_succ h2⟩
  show (decide ((l.map em).length ≤ 100000) && plainA (l.map em)) = true
  rw [h1, List.length_map, decide_eq_true hl]; rfl
theorem cutD_takeS (l : List Str) (n : Nat) : cutD (l.map D.str) none (some (n : Int)) = (l.take n).map D.str := by rw [cutD_take, List.map_take]
theorem eqvL_nil (xs : List D) : PyData.eqv (D.lst xs).py (D.lst []).py = decide (xs = []) := by
  cases xs with
  | nil => rfl
  | cons x l => rw [decide_eq_false (by simp)]; rfl
theorem eqvM_nil {α : Type} (em : α → D) (xs : List α) : PyData.eqv (D.lst (xs.map em)).py (D.lst []).py = xs.isEmpty := by
  cases xs with
  | nil => rfl
  | cons x l => rfl
theorem cutD_drop (xs : List D) (n : Nat) (h : n ≤ xs.length) : cutD xs (some (n : Int)) none = xs.drop n := by
  unfold cutD
  rw [show HT.sIx xs.length 0 (some (n : Int)) = min n xs.length from HT.sIx_nat xs.length 0 n, HT.sIx_none, Nat.min_eq_left h]
  rw [← List.length_drop, List.take_length]
theorem cutD_drop' (xs : List D) (n : Nat) : cutD xs (some (n : Int)) none = xs.drop n := by
  by_cases h : n ≤ xs.length
  · exact cutD_drop xs n h
  · unfold cutD
    rw [show HT.sIx xs.length 0 (some (n : Int)) = min n xs.length from HT.sIx_nat xs.length 0 n, HT.sIx_none, Nat.min_eq_right (by omega), Nat.sub_self, List.take_zero, List.drop_of_length_le (by omega)]
end DL
namespace DL
open PySem PySem.Spec PyProof.Rows L2
/-! a list taken apart -/
/-! a choice by draws -/
/-! shapes -/
def Shp (n : Nat) (d : D) : Prop := d.py.canLay0 = true ∧ d.py.depth ≤ n
theorem Shp.of {n : Nat} {d : D} (h : Shp n d) (hn : n ≤ 64) : SeqAt.shaped d.py = true := by
  unfold SeqAt.shaped
  rw [h.1, decide_eq_true (Nat.le_trans h.2 hn)]
  rfl
theorem Shp.mono {n m : Nat} {d : D} (h : Shp n d) (e : n ≤ m) : Shp m d := ⟨h.1, Nat.le_trans h.2 e⟩
theorem nodup_sub_len {α : Type} [DecidableEq α] : ∀ {l m : List α}, l.Nodup → (∀ x ∈ l, x ∈ m) → l.length ≤ m.length
  | [], _, _, _ => Nat.zero_le _
  | x :: l, m, hn, hs => by
    obtain ⟨h1, h2⟩ := List.nodup_cons.mp hn
    have hx : x ∈ m := hs x (by simp)
    have ih := nodup_sub_len (m := m.erase x) h2 fun y hy => (List.mem_erase_of_ne (fun e : y = x => h1 (e ▸ hy))).2 (hs y (by simp [hy]))
    rw [List.length_erase_of_mem hx] at ih
    have : 0 < m.length := List.length_pos_of_mem hx
    rw [List.length_cons]
    omega
theorem plI {n : Nat} {xs : List D} (hl : xs.length ≤ 100000) (h : ∀ x ∈ xs, x.plain = true ∧ x.dep ≤ n) : (D.tup xs).plain = true ∧ (D.tup xs).dep ≤ n + 1 := by
  have := plT (em := fun x : D => x) (n := n) (l := xs) hl h
  rw [List.map_id'] at this
  exact this
theorem pl2 {n : Nat} {a b : D} (ha : a.plain = true ∧ a.dep ≤ n) (hb : b.plain = true ∧ b.dep ≤ n) : (D.tup [a, b]).plain = true ∧ (D.tup [a, b]).dep ≤ n + 1 := plI (show 2 ≤ 100000 by decide) fun x hx => by
  simp only [List.mem_cons, List.not_mem_nil, or_false] at hx
  rcases hx with rfl | rfl
  · exact ha
  · exact hb
end DL
namespace PySem.SeqAt
open AutoSeq1 (wpAny_loadPart')
open MeetsSeq MeetsSeq2 MeetsSeq3 SeqRoads2
theorem dlStrDict1 (b : Str) (u : Tok) (l : Addr) (es : Array DictEntry) (ep : Nat) (dd : Option Addr) (sl : Array (Option Value)) :
    Meets (Builtin.«str.__eq__» ⟨[.str b u, .ref l], []⟩) (fun _ R s => s.heap.get? l = some { cls := .type "dict", dict := dd, data := .dict es ep, slots := sl } ∧ R (.ok (.ret .notImplemented)) s) :=
  .of_wp fun prog w A R s h => by
    obtain ⟨hp, g, d, tk, os⟩ := s
    obtain ⟨hl, h⟩ := h
    wp_walk using wpAny_loadPart' hl, wpAny_load hl
    exact ⟨_, rfl, h⟩
theorem dlStrDict2 (b : Str) (u : Tok) (l : Addr) (es : Array DictEntry) (ep : Nat) (dd : Option Addr) (sl : Array (Option Value)) :
    Meets (Builtin.«dict.__eq__» ⟨[.ref l, .str b u], []⟩) (fun _ R s => s.heap.get? l = some { cls := .type "dict", dict := dd, data := .dict es ep, slots := sl } ∧ R (.ok (.ret .notImplemented)) s) :=
  .of_wp fun prog w A R s h => by
    obtain ⟨hp, g, d, tk, os⟩ := s
    obtain ⟨hl, h⟩ := h
    have f1 := F.sub_str_dict
    wp_walk using wpAny_loadPart' hl
    exact ⟨_, rfl, h⟩
theorem dlStrDict {A : Around} {s : Shared} {l : Addr} {es : Array DictEntry} {ep : Nat} {dd : Option Addr} {sl : Array (Option Value)} (b : Str) (u : Tok) (ho : s.heap.get? l = some { cls := .type "dict", dict := dd, data := .dict es ep, slots := sl }) (hu : A.units < cLine) : EqAt A s (.str b u) (.ref l) false := fun prog w E Q h => by
  unfold eqBool
  refine wpAny_holding ?_
  refine wpAny_ite_split (fun hab => absurd (eq_of_beq hab) nofun) (fun _ => ?_)
  refine wpAny_bind ?_
  refine rc_eq_decline_or (k := false) (typeIs_str s b u) ⟨_, ho, rfl⟩ (by decide) F.sub_dict_str F.slot_str_eq F.slot_dict_eq_refl ?_ ?_ ?_ (.inr hu) (wpAny_truthy_bool h)
  · exact fun _ hq => call_meets F.slot_str_eq (typeIs_str s b u) F.entry_str_eq (F.args_str_eq_2 _ _) (dlStrDict1 b u l es ep dd sl) ⟨ho, hq⟩
  · exact fun _ hq => call_meets F.slot_dict_eq_refl ⟨_, ho, rfl⟩ F.entry_dict_eq (F.args_dict_eq_2 _ _) (dlStrDict2 b u l es ep dd sl) ⟨ho, hq⟩
  · exact fun _ hq => wpAny_of_eq (rfl : isSame (.str b u) (.ref l) = pure false) hq
end PySem.SeqAt
namespace DL
open PySem PySem.Spec PyProof.Rows L2
section
variable {X : Cx} {K : PySem.W.Frag} {pins : List (Addr × Obj)} {st : L2.St} {H Hs : Hp} {s : Shared}
def strEq (a : Str) : D → Bool
  | .str c => decide (a = c)
  | _ => false
theorem str_eqAt {a : Str} {t : Tok} {y : D} {v : V} {u : Value} (I : Inv X pins st H s) (sm : Same Hs H) (hr : Rp X.K Hs y v) (rv : RelV v u) (ht : y.tyd = true) (A : Around) (hu : A.units + 1 < cLine) : SeqAt.EqAt A s (.str a t) u (strEq a y) := by
  have hu' : A.units < cLine := by omega
  cases y with
  | none => cases hr; cases (show u = Value.none from rv); exact .str_none a t
  | bool b => cases hr; cases (show u = Value.bool b from rv); exact .str_bool a t b
  | int i => cases hr; obtain ⟨t', rfl⟩ := (show ∃ t, u = Value.int i t from rv); exact .str_int a t i t'
  | str c =>
    cases hr
    obtain ⟨t', rfl⟩ := (show ∃ t, u = Value.str c t from rv)
    have := SeqAt.EqAt.str_str (A := A) (s := s) a t c t'
    rw [show (a == c) = strEq a (.str c) from Bool.beq_eq_decide_eq a c] at this
    exact this
  | tup ds =>
    obtain ⟨b, vs, rfl, h1, h2⟩ := hr
    cases (show u = Value.ref b from rv)
    obtain ⟨its, r, pl, hz⟩ := I.tuple ((tp_sq sm h1))
    exact .str_tuple a t pl hu'
  | lst ds =>
    obtain ⟨b, vs, rfl, h1, h2⟩ := hr
    cases (show u = Value.ref b from rv)
    obtain ⟨its, r, pl, hz⟩ := I.list (SqL.of (sm _ _ h1))
    exact .str_list a t pl.isList hu'
  | dct ks ds =>
    obtain ⟨b, vs, rfl, h1, h2, h3⟩ := hr
    cases (show u = Value.ref b from rv)
    obtain ⟨_, _, ws, _, o, es, ep, g1, g2, g3⟩ := (show ObjOk X.prog X.w H s.heap b (.dK (ks.zip vs)) from I.hok b _ (sm _ _ h1))
    obtain ⟨oc, od, odt, osl⟩ := o
    obtain ⟨e1, e2, e3⟩ := g2
    simp only at e1
    subst e1
    have e4 : odt = .dict es ep := g3.1
    subst e4
    exact SeqAt.dlStrDict a t g1 hu'
  | obj _ _ _ => cases ht
  | exn _ _ _ => cases ht
  | any _ => cases ht
def eqPT (a b : Str) : List D → Bool
  | [] => false
  | x :: r => match r with
    | [] => false
    | y :: r2 => match r2 with
      | [] => strEq a x && strEq b y
      | _ :: _ => false
end
/-! values with plain texts alone -/
def keyOk : Key → Bool
  | .inl _ => true
  | .inr s => decide (asc s) && decide (s.length ≤ 5000)
mutual
def D.good : D → Bool
  | .str s => decide (asc s) && decide (s.length ≤ 5000)
  | .tup xs => goodA xs
  | .lst xs => goodA xs
  | .dct ks xs => ks.all keyOk && goodA xs
  | .obj _ _ _ => false
  | .exn _ _ _ => false
  | .any _ => false
  | _ => true
def goodA : List D → Bool
  | [] => true
  | x :: xs => x.good && goodA xs
end
mutual
theorem D.good_tyd : ∀ {x : D}, x.good = true → x.tyd = true
  | .none, _ => rfl
  | .bool _, _ => rfl
  | .int _, _ => rfl
  | .str _, _ => rfl
  | .tup xs, h => goodA_tyd (xs := xs) h
  | .lst xs, h => goodA_tyd (xs := xs) h
  | .dct _ _, _ => rfl
  | .obj _ _ _, h => by cases h
  | .exn _ _ _, h => by cases h
  | .any _, h => by cases h
theorem goodA_tyd : ∀ {xs : List D}, goodA xs = true → tydA xs = true
  | [], _ => rfl
  | x :: xs, h => by
    have h' : x.good = true ∧ goodA xs = true := Bool.and_eq_true_iff.mp h
    show (x.tyd && tydA xs) = true
    rw [D.good_tyd h'.1, goodA_tyd h'.2]; rfl
end
theorem goodA_mem : ∀ {xs : List D} {x : D}, goodA xs = true → x ∈ xs → x.good = true
  | y :: ys, x, h, hx => by
    have h' : y.good = true ∧ goodA ys = true := Bool.and_eq_true_iff.mp h
    rcases List.mem_cons.mp hx with rfl | hx
    · exact h'.1
    · exact goodA_mem h'.2 hx
/-! glued names -/
theorem join_split (s : Str) : Txt.join "." (Txt.split s ".") = s := by
  have h : cd (Txt.join "." (Txt.split s ".")) = cd s := by rw [cd_join, split_cd, jn_sp]
  exact str_ext h
theorem split_ne (s : Str) : Txt.split s "." ≠ [] := fun z => sp_ne (cd s) (by rw [← split_cd, z]; rfl)
theorem split_pos (s : Str) : 0 < (Txt.split s ".").length := List.length_pos_iff.mpr (split_ne s)
end DL
namespace DL
open PySem PySem.Spec PyProof.Rows L2
/-! reads of dicts -/
section
variable {X : Cx} {K : PySem.W.Frag} {W : WX}
theorem val_some {k : Key} {ks : List Key} {vs : List V} (h : ks.length = vs.length) : (valV (ks.zip vs) k).isSome = decide (k ∈ ks) := by
  rw [← valV_any, any_zip h]
/-! list(e), a new list -/
def dListOf (t : DTA) : DTA := fun g r f Q => t g r f fun ds f1 => match ds with
  | [.lst xs] => Q xs f1
  | [.tup xs] => Q xs f1
  | _ => False
theorem dl_listOf {p pos : Pos} {e : Expr} {d : DTA} (hm : X.mg "list" = none) (ha : DA X [e] d) (hg : Gl X "list" := by rfl) (hs : starEach [e] X.env = [(false, eval e X.env)] := by rfl)
    (hpl : (backTo pos (starEach [] X.env)).any (·.1) = false := by rfl) : DL' X (.Call (.Name "list" p) [e] [] pos) (dListOf d) :=
  .mk' (pe_callTy call_list_of hg hm (by decide +kernel) ha.pa (by decide) (by decide) hs hpl) fun g ro f st H Hs Q Q' A hq hd =>
    ha.sn g ro f st H Hs _ _ A (fun ds f1 vs H1 Hs1 s1 k1 r1 q1 => by
      split at q1
      · obtain ⟨v, rfl, a, us, rfl, h1, h2⟩ := rpA1 r1
        refine ⟨a, us, rfl, .inl (SqL.of (s1.sub _ _ h1)), fun l hl => ?_⟩
        have lay : Stp none H1 Hs1 (upd H1 l (.lst us)) Hs1 := Stp.lay s1.sub hl
        exact hq _ f1 l us _ Hs1 (s1.trans lay.gen) (k1.stp lay) (s1.none0 hl) (same_none s1.sub hl) upd_same h2 q1
      · obtain ⟨v, rfl, a, us, rfl, h1, h2⟩ := rpA1 r1
        refine ⟨a, us, rfl, .inr ((tp_sq s1.sub h1)), fun l hl => ?_⟩
        have lay : Stp none H1 Hs1 (upd H1 l (.lst us)) Hs1 := Stp.lay s1.sub hl
        exact hq _ f1 l us _ Hs1 (s1.trans lay.gen) (k1.stp lay) (s1.none0 hl) (same_none s1.sub hl) upd_same h2 q1
      · exact q1.elim) hd
/-! {k: v} that a slot owns -/
/-! a comprehension over what is walked already -/
/-! what is locked stands for nothing -/
end
end DL
namespace DL
open PySem PySem.Spec PyProof.Rows L2
section
variable {X : Cx} {K : PySem.W.Frag} {W : WX}
/-! {k: v for ..} -/
/-! a dict of lists of texts in the making -/
structure DLs (H : Hp) (D : Addr) (ks : List Str) (ps : List Addr) (c : Str → List Str) (H2 : Hp) : Prop where
  same : Same H H2
  d0 : H D = none
  len : ks.length = ps.length
  dk : H2 D = some (.dK ((ks.map Sum.inr).zip (ps.map V.ref)))
  p0 : ∀ p ∈ ps, H p = none ∧ p ≠ D
  at_ : ∀ (i : Nat) (m : Str) (p : Addr), ks[i]? = some m → ps[i]? = some p → H2 p = some (.lst ((c m).map V.str))
  nd : ps.Nodup
theorem DLs.mono {H : Hp} {D : Addr} {ks : List Str} {ps : List Addr} {c : Str → List Str} {H2 H3 : Hp} (h : DLs H D ks ps c H2) (e : Same H2 H3) : DLs H D ks ps c H3 :=
  ⟨h.same.trans e, h.d0, h.len, e _ _ h.dk, h.p0, fun i m p a b => e _ _ (h.at_ i m p a b), h.nd⟩
theorem DLs.start {H : Hp} {D : Addr} {c : Str → List Str} (h : H D = none) : DLs H D [] [] c (upd H D (.dK [])) :=
  ⟨same_upd h, h, rfl, upd_same, fun p hp => by simp at hp, fun i m p a b => by simp at a, List.nodup_nil⟩
theorem key_out {ks : List Str} {vs : List V} {m : Str} (hl : ks.length = vs.length) (h : m ∉ ks) : valV ((ks.map (Sum.inr : Str → Key)).zip vs) (.inr m) = none := by
  have := val_some (k := (.inr m : Key)) (ks := ks.map Sum.inr) (vs := vs) (by rw [List.length_map]; exact hl)
  rw [decide_eq_false (fun z => by
    obtain ⟨x, hx, e⟩ := List.mem_map.mp z
    cases e
    exact h hx)] at this
  exact Option.isSome_eq_false_iff.mp this |> fun e => by simpa using e
theorem DLs.add {H : Hp} {D : Addr} {ks : List Str} {ps : List Addr} {H2 : Hp} {m : Str} {p : Addr} (h : DLs H D ks ps (fun _ => []) H2) (hp : H2 p = none) (hm : m ∉ ks) :
    DLs H D (ks ++ [m]) (ps ++ [p]) (fun _ => []) (upd (upd H2 p (.lst [])) D (.dK (putK ((ks.map Sum.inr).zip (ps.map V.ref)) (.inr m) (.ref p)))) := by
  have hpD : p ≠ D := fun z => by rw [z, h.dk] at hp; cases hp
  have hp0 : H p = none := by
    cases e : H p with
    | none => rfl
    | some o => rw [h.same _ _ e] at hp; cases hp
  have hps : ∀ q ∈ ps, q ≠ p := fun q hq z => by
    obtain ⟨i, hi, e⟩ := List.getElem_of_mem hq
    have : H2 q = some (.lst []) := h.at_ i (ks[i]'(by rw [h.len]; exact hi)) q (List.getElem?_eq_getElem _) (by rw [List.getElem?_eq_getElem hi, e])
    rw [z, hp] at this
    cases this
  refine ⟨fun b o e => ?_, h.d0, by simp [h.len], ?_, fun q hq => ?_, fun i x q a b => ?_, ?_⟩
  · rw [upd_ne (ne_of_none e h.d0), upd_ne (ne_of_none e hp0)]
    exact h.same b o e
  · rw [upd_same, putK_new _ (key_out (by rw [List.length_map]; exact h.len) hm), List.map_append, List.map_append, List.zip_append (by rw [List.length_map, List.length_map]; exact h.len)]
    rfl
  · rcases List.mem_append.mp hq with q' | q'
    · exact h.p0 q q'
    · cases List.mem_singleton.mp q'
      exact ⟨hp0, hpD⟩
  · by_cases hi : i < ps.length
    · rw [List.getElem?_append_left (by rw [h.len]; exact hi)] at a
      rw [List.getElem?_append_left hi] at b
      have hq : q ∈ ps := List.mem_of_getElem? b
      rw [upd_ne (h.p0 q hq).2, upd_ne (hps q hq)]
      exact h.at_ i x q a b
    · have hi : ps.length ≤ i := by omega
      rw [List.getElem?_append_right hi] at b
      have : i - ps.length = 0 := by
        have := (List.getElem?_eq_some_iff.mp b).1
        simp at this
        omega
      rw [this] at b
      cases b
      rw [upd_ne hpD, upd_same]
      rfl
  · rw [List.nodup_append]
    exact ⟨h.nd, by simp, fun a ha b hb => by cases List.mem_singleton.mp hb; exact hps a ha⟩
theorem DLs.app {H : Hp} {D : Addr} {ks : List Str} {ps : List Addr} {c : Str → List Str} {H2 : Hp} {m x : Str} {p : Addr} {i : Nat} (h : DLs H D ks ps c H2) (hn : ks.Nodup) (hi : ks[i]? = some m) (hp : ps[i]? = some p) :
    DLs H D ks ps (fun m' => if m' = m then c m ++ [x] else c m') (upd H2 p (.lst ((c m ++ [x]).map V.str))) := by
  have hpm : p ∈ ps := List.mem_of_getElem? hp
  obtain ⟨p0, pD⟩ := h.p0 p hpm
  refine ⟨fun b o e => ?_, h.d0, h.len, ?_, h.p0, fun j m' q a b => ?_, h.nd⟩
  · rw [upd_ne (ne_of_none e p0)]; exact h.same b o e
  · rw [upd_ne pD.symm]; exact h.dk
  · by_cases hij : j = i
    · subst hij
      rw [hi] at a
      rw [hp] at b
      cases a
      cases b
      rw [upd_same, if_pos rfl]
    · have hm : m' ≠ m := fun z => by
        subst z
        obtain ⟨hj, ej⟩ := List.getElem?_eq_some_iff.mp a
        obtain ⟨hi', ei⟩ := List.getElem?_eq_some_iff.mp hi
        exact hij ((List.getElem_inj hn).mp (ej.trans ei.symm))
      have hq : q ≠ p := fun z => by
        subst z
        obtain ⟨hj, ej⟩ := List.getElem?_eq_some_iff.mp b
        obtain ⟨hi', ei⟩ := List.getElem?_eq_some_iff.mp hp
        exact hij ((List.getElem_inj h.nd).mp (ej.trans ei.symm))
      rw [upd_ne hq, if_neg hm]
      exact h.at_ j m' q a b
open Classical in
noncomputable def shr (H2 Hs : Hp) (D : Addr) (ps : List Addr) : Hp := fun b => if b = D ∨ b ∈ ps then H2 b else Hs b
/-! while, by a number that falls -/
/-! where uses lead -/
inductive Rch (us : List Us) (s : Str) : Str → Prop where
  | refl : Rch us s s
  | step {a b : Str} : Rch us s a → (a, b) ∈ us → Rch us s b
theorem Rch.mem {us : List Us} {s m : Str} {ms : List Str} (hs : s ∈ ms) (hu : ∀ u ∈ us, u.2 ∈ ms) (h : Rch us s m) : m ∈ ms := by
  cases h with
  | refl => exact hs
  | step _ h => exact hu _ h
end
end DL
namespace DL
open PySem PySem.Spec PyProof.Rows L2
section
variable {X : Cx} {K : PySem.W.Frag} {W : WX}
/-! list * number -/
/-! what slots own is shared ahead of a statement -/
/-! a, b = [..], [..], a cell among them: both own -/
def sAsgLL (i j : Nat) (a b : DTA) : DTS := fun g r f E => a g (hide r) f fun xs f1 => b g (hide r) f1 fun ys f2 => E.nx ((r.set i (.ow xs)).set j (.ow ys)) f2
/-! xs.append(ys.pop(e)) -/
def sAppPop (i j : Nat) (de : DT) : DTS := fun g r f E => ∃ xs ys, r[i]? = some (.ow xs) ∧ r[j]? = some (.ow ys) ∧ i ≠ j ∧ de g r f fun d f' => match d with
  | .int k => ∃ (n : Nat) (y : D), k = n ∧ ys[n]? = some y ∧ n ≤ lim ∧ xs.length ≤ lim ∧ E.nx ((r.set j (.ow (ys.eraseIdx n))).set i (.ow (xs ++ [y]))) f'
  | _ => False
theorem RpA.erase {H : Hp} : ∀ {ds : List D} {vs : List V} (n : Nat), RpA K H ds vs → RpA K H (ds.eraseIdx n) (vs.eraseIdx n)
  | [], _, _, h => by cases h; rfl
  | _ :: _, _, 0, ⟨v, r, h1, h2, h3⟩ => by subst h1; exact h3
  | _ :: _, _, n + 1, ⟨v, r, h1, h2, h3⟩ => by subst h1; exact ⟨v, _, rfl, h2, RpA.erase n h3⟩
theorem snd_appPop {i j : Nat} {te : TE} {de : DT} (h : Snd K te de) : SndS K W (tDrop (tBM K "list" rAppend (tVar i) (tCons (tBM K "list" rPopAt (tVar j) (tCons te tNil)) tNil))) (sAppPop i j de) := fun g H0 Hs0 r f st H D E s e hd => by
  obtain ⟨Hs, s⟩ := s
  obtain ⟨xs, ys, hi, hj, hij, hd⟩ := hd
  obtain ⟨a, ha, n1, n0, vs, hv, hr⟩ := s.ow i _ hi rfl
  obtain ⟨b, hb, m1, m0, ws, hw, hrw⟩ := s.ow j _ hj rfl
  refine ⟨.ref a, ha, .inl ⟨rfl, vs, SqL.of hv⟩, .ref b, hb, .inl ⟨rfl, ws, SqL.of hw⟩, ?_⟩
  refine h g r f st H _ _ _ s.at (fun d f' v H' Hs' t' k' hr' q => ?_) hd
  have s' := s.after t' k'
  cases d <;> try exact q.elim
  cases hr'
  obtain ⟨n, y, rfl, hy, hnl, hxl, q⟩ := q
  obtain ⟨a', ha', n1', n0', vs', hv', hr2⟩ := s'.ow i _ hi rfl
  rw [ha] at ha'
  cases ha'
  obtain ⟨b', hb', m1', m0', ws', hw', hrw'⟩ := s'.ow j _ hj rfl
  rw [hb] at hb'
  cases hb'
  have hab : a ≠ b := fun z => by
    subst z
    exact hij (s'.inj i j _ _ a hi hj rfl rfl ha hb)
  obtain ⟨w, hwn, rw'⟩ := hrw'.get hy
  have hlt : n < ws'.length := (List.getElem?_eq_some_iff.mp hwn).1
  have hL : n ≤ 1000000 := hnl
  have sq : seqIndex? (n : Int) ws'.length = some n := by
    have hx : ixN ws'.length (n : Int) = some n := by
      unfold ixN
      rw [if_pos (by omega), if_pos (by omega)]
      rfl
    exact (ixN_seq hx).1
  refine ⟨b, ws', n, n, w, rfl, rfl, hw', by omega, by omega, sq, hwn, a, vs', w, rfl, rfl, by rw [upd_ne hab]; exact hv', hr2.lt hxl, ?_⟩
  have s5 := s'.mutOwn (o := .lst (ws'.eraseIdx n)) (u := .ow (ys.eraseIdx n)) hj rfl hb rfl ⟨_, upd_same, hrw'.erase n⟩
  have hi5 : (r.set j (.ow (ys.eraseIdx n)))[i]? = some (.ow xs) := by rw [List.getElem?_set_ne (fun z => hij z.symm)]; exact hi
  exact e.nx _ f' st _ ⟨_, s5.mutOwn (o := .lst (vs' ++ [w])) (u := .ow (xs ++ [y])) hi5 rfl ha rfl ⟨_, upd_same, hr2.append (RpA.one rw')⟩⟩ q
theorem ds_appPop {i j : Nat} {x y : Str} {e : Expr} {px py apos cpos bpos dpos pos : Pos} {d : DT} (h : DE X e d) (hi : X.N[i]? = some x := by rfl) (hj : X.N[j]? = some y := by rfl) (hv : Vis X.env.scope x := by first | exact Or.inl rfl | exact Or.inr (Or.inl rfl) | exact Or.inr (Or.inr rfl)) (hv2 : Vis X.env.scope y := by first | exact Or.inl rfl | exact Or.inr (Or.inl rfl) | exact Or.inr (Or.inr rfl))
    (hd : (x == ("__debug__" : Str)) = false := by decide) (hcd : (x == ("__classdict__" : Str)) = false := by decide) (hd2 : (y == ("__debug__" : Str)) = false := by decide) (hcd2 : (y == ("__classdict__" : Str)) = false := by decide)
    (hP : ∀ t : TE, PE X (.Name x px) (tVar i) → PE X (.Name y py) (tVar j) → PA X [e] (tCons t tNil) → PE X (.Call (.Attribute (.Name x px) "append" apos) [.Call (.Attribute (.Name y py) "pop" bpos) [e] [] dpos] [] cpos) (tBM X.K "list" rAppend (tVar i) (tCons (tBM X.K "list" rPopAt (tVar j) (tCons t tNil)) tNil)) := by
      exact fun t a b c => pe_bm PySem.F.plainAttrs_list PySem.F.slot_list_append PySem.F.type_list_append mt_append a (pa_cons (pe_bm PySem.F.plainAttrs_list PySem.F.slot_list_pop PySem.F.type_list_pop mt_popAt b c) pa_nil))
    (hs : swapsWith (.Call (.Attribute (.Name x px) "append" apos) [.Call (.Attribute (.Name y py) "pop" bpos) [e] [] dpos] [] cpos) none pos.line X.env = pure false := by rfl) (hst : starEach [e] X.env = [(false, eval e X.env)] := by rfl) :
    DS X (.Expr (.Call (.Attribute (.Name x px) "append" apos) [.Call (.Attribute (.Name y py) "pop" bpos) [e] [] dpos] [] cpos) pos) (sAppPop i j d) :=
  DS.mk' (ps_expr (hP _ (pe_var hi hv hd hcd) (pe_var hj hv2 hd2 hcd2) (pa_cons h.pe pa_nil hst)) hs) (snd_appPop h.sn)
end
end DL
namespace DL
open PySem PySem.Spec PyProof.Rows L2
/-! for x in zip(a, b) of two tuples, with one name: the pair that was given out before may be there still or not -/
abbrev ZpV (h : Heap) (z ti tz : Addr) (v : Value) (b : Bool) : Prop :=
  h.get? z = some { cls := .type "zip", dict := none, data := .fields #[v, .bool b, .bool false, .ref ti, .ref tz], slots := #[] }
/-- the pair is not there any more -/
def Fre (h : Heap) (v : Value) : Prop := v = .none ∨ ∃ T : Addr, v = rawInt T ∧ h.get? T = none
section
variable {prog : Program} {w : World} {A : Around} {E : Value → Shared → Prop} {s : Shared} {z ti tz i1 i2 l1 l2 T : Addr} {k1 k2 : Nat} {xs ys : Array Value} {x y v p q : Value} {b : Bool}
theorem loadIf_none {a : Addr} {Q : Option Obj → Shared → Prop} (ho : s.heap.get? a = none) (h : Q none s) : wpAny (model prog w) A (loadIfAlive a) Q E s := by
  have here : Q (s.heap.get? a) s := by
    rw [ho]; exact h
  exact fun _ _ _ => here
theorem free_zip {Q : Bool → Shared → Prop} (hz : ZpV s.heap z ti tz v b) (hf : Fre s.heap v) (h : Q true s) : wpAny (model prog w) A (Builtin.SmallTypes.ownedTupleIsFree (.ref z)) Q E s := by
  rcases hf with rfl | ⟨T, rfl, hT⟩
  · unfold Builtin.SmallTypes.ownedTupleIsFree
    exact wpAny_bind (wpAny_field hz rfl (x := .none) rfl (wpAny_pure h))
  · unfold Builtin.SmallTypes.ownedTupleIsFree
    refine wpAny_bind (wpAny_field hz rfl (x := rawInt T) rfl ?_)
    show wpAny (model prog w) A (loadIfAlive ((T : Int).toNat) >>= _) _ _ s
    rw [Int.toNat_natCast]
    exact wpAny_bind (loadIf_none hT (wpAny_pure h))
abbrev ZpGone (s : Shared) (z tz i1 i2 : Addr) (h' : Heap) : Prop := ∀ c o, c ≠ z → c ≠ tz → c ≠ i1 → c ≠ i2 → s.heap.get? c = some o → h'.get? c = some o
/-- the mark: nothing, or an address -/
def Mrk (v : Value) : Prop := v = .none ∨ ∃ T : Addr, v = rawInt T
end
section
variable {X : Cx} {K : PySem.W.Frag}
theorem atI_last (l : List Str) : atI (l.map DL.D.str) (-1) = l.getLast?.map DL.D.str := by
  unfold atI ixN
  rw [if_neg (by decide), List.length_map]
  cases h : l.length with
  | zero =>
    obtain rfl : l = [] := List.length_eq_zero_iff.mp h
    rfl
  | succ j =>
    rw [if_pos (by omega)]
    have e : ((-1 : Int) + ((j + 1 : Nat) : Int)).toNat = j := by omega
    show (l.map DL.D.str)[((-1 : Int) + ((j + 1 : Nat) : Int)).toNat]? = _
    rw [e, List.getElem?_map, List.getLast?_eq_getElem?, h]
    rfl
theorem zipD_strs (v w : List Str) : zipD (v.map DL.D.str) (w.map DL.D.str) = (v.zip w).map pairD := by
  unfold zipD
  rw [List.zip_map, List.map_map]
  rfl
end
end DL
namespace DL
open PySem PySem.Spec PyProof.Rows L2
/-! expressions that may raise -/
abbrev XD := D → Nat → Prop
abbrev DTX := Option Dk → Sg → Nat → QD → XD → Prop
def SndX (K : PySem.W.Frag) (W : WX) (t : TE) (dl : DTX) : Prop := ∀ (g : Option Dk) (r : Sg) (f : Nat) (st : L2.St) (H Hs : Hp) (Q : VK) (Q' : QD) (E' : XD), At K g r f st H Hs →
  (∀ d f' v H' Hs', Stp g H Hs H' Hs' → DkOk g H' Hs' f' → Rp K Hs' d v → Q' d f' → Q v H') →
  (∀ x f' cls d H' Hs', Stp g H Hs H' Hs' → DkOk g H' Hs' f' → ExR K H' Hs' x cls d → E' x f' → W cls d st H') → dl g r f Q' E' → t st H Q
def tOfX (K : PySem.W.Frag) (W : WX) (dl : DTX) : TE := fun st H Q => ∃ g r f Hs Q' E', At K g r f st H Hs ∧ (∀ d f' v H' Hs', Stp g H Hs H' Hs' → DkOk g H' Hs' f' → Rp K Hs' d v → Q' d f' → Q v H') ∧
  (∀ x f' cls d H' Hs', Stp g H Hs H' Hs' → DkOk g H' Hs' f' → ExR K H' Hs' x cls d → E' x f' → W cls d st H') ∧ dl g r f Q' E'
structure DEX (X : Cx) (e : Expr) (dl : DTX) : Prop where
  pe : PE X e (tOfX X.K (wx X) dl)
theorem DEX.sn {X : Cx} {e : Expr} {dl : DTX} (_ : DEX X e dl) : SndX X.K (wx X) (tOfX X.K (wx X) dl) dl := fun g r f st H Hs Q Q' E' a h1 h2 hd => ⟨g, r, f, Hs, Q', E', a, h1, h2, hd⟩
theorem DEX.mk' {X : Cx} {e : Expr} {t : TE} {dl : DTX} (p : PE X e t) (s : SndX X.K (wx X) t dl) : DEX X e dl := ⟨⟨fun pins sh st H Q I h => by
  obtain ⟨g, r, f, Hs, Q', E', a, h1, h2, hd⟩ := h
  exact p.run pins sh st H Q I (s g r f st H Hs Q Q' E' a h1 h2 hd)⟩⟩
section
variable {X : Cx} {K : PySem.W.Frag} {W : WX}
/-! statements of them -/
/-! raise C(e), C a class of the text with one field -/
/-! a op b by the class's own method, which may raise -/
/-! try: body, except C: suite -/
theorem EndsOk.mono {g : Option Dk} {H0 Hs0 : Hp} {E : DEnds} {D : Ends} {W' : WX} (e : EndsOk K W g H0 Hs0 E D) (h : ∀ cls d st H, W cls d st H → W' cls d st H) : EndsOk K W' g H0 Hs0 E D := ⟨e.nx, e.rt, e.bk, e.ct, fun x r f st H cls d q hx => h _ _ _ _ (e.xc x r f st H cls d q hx)⟩
end
end DL
namespace DL
open PySem PySem.Spec PyProof.Rows L2
/-! a caught exception that is looked at, kept, and looked at later -/
section
variable {X : Cx} {K : PySem.W.Frag} {W : WX} {g : Option Dk} {H0 Hs0 : Hp} {r : Sg} {f : Nat} {st : L2.St} {H Hs : Hp}
/-! its fields -/
structure KX (K : PySem.W.Frag) (c : Str) (C : Addr) : Prop where
  ns : PySem.W.nsIn K mainGlobals c = some (some (.ref C))
  xf : XfC K C
  ha : PySem.W.findIn K (.ref C) "__class__" = some (some (.builtin "object.__class__"))
  hn : PySem.W.specialIn K (.builtin "object.__class__") "__get__" = some (some (.builtin "getset_descriptor.__get__"))
  ht : PySem.W.takesIn K (.builtin "object.__class__") = some true
  hm : PySem.W.mroIn K C (.type "object") = some true
theorem KX.uniq {c : Str} {C C' : Addr} (k : KX K c C) (h : PySem.W.nsIn K mainGlobals c = some (some (.ref C'))) : C' = C := by
  have e := k.ns.symm.trans h
  cases e
  rfl
/-! isinstance of it, or of None -/
theorem KX.cls {c : Str} {C : Addr} (k : KX K c C) : (PySem.W.clsIn K C).isSome = true := by
  obtain ⟨cd, hc, _⟩ := PySem.W.any_some k.xf.hdC
  rw [hc]
  rfl
/-! small things -/
theorem DEX.e {e : Expr} {dl : DTX} (h : DEX X e dl) : DE X e (fun g r f Q => dl g r f Q fun _ _ => False) := .mk' h.pe fun g r f st H Hs Q Q' A hq hd => ⟨g, r, f, Hs, Q', fun _ _ => False, A, hq, fun _ _ _ _ _ _ _ _ _ z => z.elim, hd⟩
end
end DL
namespace DL
open PySem PySem.Spec PyProof.Rows L2
/-! places between statements, at which ways meet: behind the first, the second, .. statement -/
section
variable {g : Option Dk} {r : Sg} {f : Nat} {E : DEnds} {a b c d e h i : DTS}
theorem mid (M : Sg → Nat → Prop) (h2 : ∀ r f, M r f → b g r f E) (h1 : (∀ r f, M r f → b g r f E) → (sSeq a b) g r f E) : (sSeq a b) g r f E := h1 h2
theorem mid2 (M : Sg → Nat → Prop) (h2 : ∀ r f, M r f → c g r f E) (h1 : (∀ r f, M r f → c g r f E) → (sSeq a (sSeq b c)) g r f E) : (sSeq a (sSeq b c)) g r f E := h1 h2
end
/-! isinstance of an own error class, from the answers about the classes -/
end DL
namespace DL
open PySem PySem.Spec PyProof.Rows L2
/-! defs that are called with no repr under way -/
structure FnG (P : Program) (w : World) (K : PySem.W.Frag) (mg : Str → Option Value) (base : Heap) (k : Nat) (f : Addr) (fd : FuncData) (ps : List Str) (sp : Sp) : Prop where
  len : ∀ vs H Q E, sp vs H Q E → vs.length = ps.length
  run : ∀ (A : Around) (outer : List Env) (s : Shared) (H : Hp) (args : Args) (us : List Value) (vs : List V) (Q : VK) (E : XK), Room k A → A.guards = some [] → Env0 P w K mg base A outer s H → BindsTo s fd args (ps.zip us) → Vals vs us → sp vs H Q E →
    codeAny (model P w) A (.call (.ref f) args) (CR CX0 outer P w H s Q E) s
section
variable {P : Program} {w : World} {K : PySem.W.Frag} {mg : Str → Option Value} {base : Heap}
theorem fnG_of {x qual : Str} {st : Stmt} {f : Addr} {fd : FuncData} {N ps : List Str} {k : Nat} {sp : Sp} (F : Fun K x qual st f fd) (S : FnScope N ps (defScope st)) (len : ∀ vs H Q E, sp vs H Q E → vs.length = ps.length)
    (hb : ∀ (cdv : Value) (A : Around) (outer : List Env) (s : Shared) (H : Hp) (vs : List V) (Q : VK) (E : XK), Room k (A.deeper (envOfC qual (defScope st) s.heap.objs.size f cdv)) → A.guards = some [] → sp vs H Q E →
      ∃ t, PSs (cxOf CX0 P w K mg base N qual (defScope st) f cdv A outer s H E).nox (defBody st) t ∧ t { nx := fun _ H' => Q .non H', rt := Q } (L2.start N vs) H) : FnG P w K mg base (k + 1) f fd ps sp := by
  obtain ⟨oc, od, kV, doc, pm, an, cdv, ct, osl, rfl, lk, hcd⟩ := F.ex
  refine ⟨len, fun A outer s H args us vs Q E hr gd e0 hbd r hsp => ?_⟩
  have kIn : K.In s.heap := e0.mod.kin.keeps fun b o e => And.left (e0.bs b o e)
  have nl : s.heap.NoLimit := e0.mod.nolimit.keeps fun b o e => And.left (e0.bs b o e)
  obtain ⟨t, ht, q⟩ := hb cdv A outer s H vs Q E (hr.deeper _) gd hsp
  refine codeAny_call_function hr.depth (kIn _ _ lk) rfl S.co S.gen rfl (PySem.W.codeRec_of kIn hcd) ?_
  refine hbd _ _ _ _ (wpAny_newFunctionEnv_cells S.kind (fun p hp => ?_) fun env he s1 x => ?_)
  · rcases S.par p.1 (List.of_mem_zip (show (p.1, p.2) ∈ ps.zip us from hp)).1 with z | z
    · exact .inl z
    · exact .inr ⟨z, PySem.W.cellsFrom_some _ _ _ (.inl z)⟩
  · subst he
    refine ⟨nl.keeps x.toInCall.keep, codeAny_func (wpAny_mono (ht.nox.run [] s1 (L2.start N vs) H _ (inv_start S hr.hd e0 (len _ _ _ _ hsp) r x) q) (fun fl s' hs => ?_) fun e s' hs => hs)⟩
    cases fl with
    | next => obtain ⟨st', H', J, z⟩ := hs; exact ⟨V.non, H', J.os, J.bare, J.base, J.hok, rfl, z⟩
    | ret u => obtain ⟨v, st', H', J, rv, z⟩ := hs; exact ⟨v, H', J.os, J.bare, J.base, J.hok, rv, z⟩
    | brk => obtain ⟨_, _, _, z⟩ := hs; exact z.elim
    | cont => obtain ⟨_, _, _, z⟩ := hs; exact z.elim
theorem dfnG {x qual : Str} {st : Stmt} {f : Addr} {fd : FuncData} {N ps : List Str} {k : Nat} {S : DSp} {dl : DTS} (F : Fun K x qual st f fd) (sc : FnScope N ps (defScope st)) (len : ∀ g ds n Q, S g ds n Q → ds.length = ps.length)
    (hb : ∀ (cdv : Value) (A : Around) (outer : List Env) (s : Shared) (H : Hp) (E : XK), Room k (A.deeper (envOfC qual (defScope st) s.heap.objs.size f cdv)) → (A.deeper (envOfC qual (defScope st) s.heap.objs.size f cdv)).guards = some [] → DSs (cxOf CX0 P w K mg base N qual (defScope st) f cdv A outer s H E).nox (defBody st) dl)
    (h : ∀ g ds n Q, S g ds n Q → dl g (startR N.length ds) n { nx := fun _ n => Q .none n, rt := Q }) : FnG P w K mg base (k + 1) f fd ps (spOf K S) := by
  refine fnG_of F sc (fun vs H Q E h => ?_) (fun cdv A outer s H vs Q E hr gd hsp => ?_)
  · obtain ⟨g, Hs, ds, n, Q', h1, h2, h3, h4, h5⟩ := h
    rw [← h3.length]
    exact len g ds n Q' h4
  · obtain ⟨g, Hs, ds, n, Q', h1, h2, h3, h4, h5⟩ := hsp
    refine ⟨_, (hb cdv A outer s H E hr gd).ps, ?_⟩
    refine (hb cdv A outer s H E hr gd).sn g H Hs _ n _ H _ { nx := fun _ n => Q' .none n, rt := Q' } ⟨Hs, start_in h1 h2 h3⟩ ⟨fun r f st H' q h => ?_, fun d f v H' Hs' p k hr h => h5 d f v H' Hs' p k hr h, fun _ _ _ _ _ h => h, fun _ _ _ _ _ h => h, fun _ _ _ _ _ _ _ _ h => h.elim⟩ (h g ds n Q' h4)
    obtain ⟨Hs', q⟩ := q
    exact h5 .none f .non H' Hs' q.stp q.dk rfl h
theorem dlawG {x qual y : Str} {s0 : Stmt} {rest : List Stmt} {st : Stmt} {f : Addr} {fd : FuncData} {N : List Str} {k : Nat} {dl : DTS} (F : Fun K x qual st f fd) (sc : FnScope N [y] (defScope st)) (hN : 2 ≤ N.length) (hbody : defBody st = s0 :: rest)
    (hb : ∀ (cdv : Value) (A : Around) (outer : List Env) (s : Shared) (H : Hp) (E : XK), Room k (A.deeper (envOfC qual (defScope st) s.heap.objs.size f cdv)) → (A.deeper (envOfC qual (defScope st) s.heap.objs.size f cdv)).guards = some [] → PS (cxOf CX0 P w K mg base N qual (defScope st) f cdv A outer s H E).nox s0 (tAsg (tCall (spDeck K) [] E0 (tCons (tVar 0) tNil)) (gName 1)) ∧ DSs (cxOf CX0 P w K mg base N qual (defScope st) f cdv A outer s H E).nox rest dl)
    (h : ∀ dk : Dk, dl (some dk) (startLaw N.length dk) 1000000000000 { nx := fun _ _ => False, rt := fun d _ => d = .bool true }) : FnG P w K mg base (k + 1) f fd [y] (spLaw K) := by
  refine fnG_of F sc (fun vs H Q E h => ?_) (fun cdv A outer s H vs Q E hr gd hsp => ?_)
  · obtain ⟨a, ns, rfl, _⟩ := h
    rfl
  · obtain ⟨a, ns, rfl, hS, hlen, q⟩ := hsp
    obtain ⟨h1, h2⟩ := hb cdv A outer s H E hr gd
    refine ⟨tSeq _ (sOf K _ dl), by rw [hbody]; exact pss_cons h1 h2.ps, ?_⟩
    obtain ⟨n, hn⟩ : ∃ n, N.length = n + 2 := ⟨N.length - 2, by omega⟩
    have e0 : L2.start N [V.ref a] = some (.ref a) :: none :: List.replicate n none := by
      unfold L2.start
      rw [hn]
      rfl
    refine ⟨.ref a, by rw [e0]; rfl, a, ns, rfl, hS, hlen, fun H' dk same n1 n2 n3 hd => ?_⟩
    refine h2.sn (some dk) H' (fun _ => none) (startLaw N.length dk) 1000000000000 _ H' _ { nx := fun _ _ => False, rt := fun d _ => d = .bool true } ⟨fun _ => none, ?_⟩ ⟨fun _ _ _ _ _ h => h.elim, fun d f v H2 Hs2 _ _ hr h => ?_, fun _ _ _ _ _ h => h.elim, fun _ _ _ _ _ h => h.elim, fun _ _ _ _ _ _ _ _ h => h.elim⟩ (h dk)
    · have sub : Same (fun _ => none) H' := fun a o h => nomatch h
      refine ⟨?_, ⟨_, hd, rfl, rfl, rfl⟩, ⟨hd, rfl, rfl, rfl⟩, Stp.refl sub, fun i d hi => ?_, fun i sl hi ho => ?_, fun i j sl u b hi hj ho => ?_⟩
      · rw [e0, hn]; simp [startLaw]
      · rw [e0]
        unfold startLaw at hi
        match i, hi with
        | 0, hi => cases hi
        | 1, hi => cases hi; exact ⟨.ref dk.a, rfl, rfl⟩
        | i + 2, hi =>
          have hi : (List.replicate (N.length - 2) Sl.no)[i]? = some (.sh d) := hi
          rw [List.getElem?_replicate] at hi
          split at hi <;> cases hi
      all_goals
        exfalso
        have : ∀ (i : Nat) (s : Sl), (startLaw N.length dk)[i]? = some s → s.own = false := fun i s h => by
          have := List.mem_of_getElem? h
          unfold startLaw at this
          rcases List.mem_cons.mp this with h | h
          · rw [h]; rfl
          · rcases List.mem_cons.mp h with h | h
            · rw [h]; rfl
            · rw [(List.mem_replicate.mp h).2]; rfl
        rw [this i sl hi] at ho
        cases ho
    · subst h
      cases hr
      exact q H2
end
/-! calls of them -/
section
variable {X : Cx} {K : PySem.W.Frag}
theorem runG {k : Nat} {f : Addr} {fd : FuncData} {ps : List Str} {sp : Sp} {E : XK} {pins : List (Addr × Obj)} {st : L2.St} {H : Hp} {s : Shared} {Q : VK} {us : List Value} {vs : List V} (F : FnG X.prog X.w X.K X.mg X.base k f fd ps sp) (hr : Room k X.A) (gd : X.A.guards = some []) (hb : Binds X.K fd ps [])
    (I : Inv X pins st H s) (r : Vals vs us) (h : sp vs H Q E) : wpAny (model X.prog X.w) X.A (call (.ref f) us) (EP X pins st Q) X.xe s := by
  have hl : us.length = ps.length := by rw [← r.length]; exact F.len _ _ _ _ h
  have hb' := hb s us I.kIn (by rw [List.append_nil]; exact hl)
  rw [List.append_nil] at hb'
  refine wpAny_call (codeAny_mono (F.run X.A X.stack s H ⟨us, []⟩ us vs Q E hr gd I.env0 hb' r h) fun z s' hq => ?_)
  cases z with
  | error e => exact hq.elim
  | ok fl => cases fl with
    | ret u => exact I.after hq
    | _ => exact hq.elim
theorem pe_callG {x : Str} {k : Nat} {f : Addr} {fd : FuncData} {ps : List Str} {sp : Sp} {E : XK} {p pos : Pos} {e : Expr} {es : List Expr} {t : TA} (F : FnG X.prog X.w X.K X.mg X.base k f fd ps sp) (hr : Room k X.A) (gd : X.A.guards = some []) (hg : Gl X x) (hm : X.mg x = some (.ref f)) (hk : PySem.W.keepIn X.K (.ref f) = true) (hb : Binds X.K fd ps [])
    (ha : PA X (e :: es) t) (hdb : (x == ("__debug__" : Str)) = false := by decide) (he : starEach (e :: es) X.env = (false, eval e X.env) :: starEach es X.env := by rfl) (hpl : (backTo pos (starEach es X.env)).any (·.1) = false := by rfl) :
    PE X (.Call (.Name x p) (e :: es) [] pos) (tCall sp [] E t) := ⟨fun pins s st H Q I h =>
  wpAny_Call_Name_kw (ld_glob I hg hm (PySem.W.callWith_K (h₀ := X.base) I.ok.mod.kin hk (thn (ha.run pos pins s st H _ I h) fun us s1 q => by
    obtain ⟨vs, H1, I1, r, q⟩ := q
    rw [List.append_nil] at q
    exact ⟨I1.kIn, runG F hr gd hb I1 r q⟩) he hpl) hdb)⟩
def CalG (P : Program) (w : World) (K : PySem.W.Frag) (mg : Str → Option Value) (base : Heap) (k : Nat) (x : Str) (ps : List Str) (S : DSp) : Prop :=
  ∃ f fd, FnG P w K mg base k f fd ps (spOf K S) ∧ PySem.W.keepIn K (.ref f) = true ∧ Binds K fd ps [] ∧ mg x = some (.ref f)
theorem de_callG {x : Str} {ps : List Str} {k : Nat} {S : DSp} {p pos : Pos} {e : Expr} {es : List Expr} {d : DTA} (c : CalG X.prog X.w X.K X.mg X.base k x ps S) (hr : Room k X.A) (gd : X.A.guards = some [])
    (ha : DA X (e :: es) d) (hg : Gl X x := by rfl) (hdb : (x == ("__debug__" : Str)) = false := by decide) (hs : starEach (e :: es) X.env = (false, eval e X.env) :: starEach es X.env := by rfl)
    (hpl : (backTo pos (starEach es X.env)).any (·.1) = false := by rfl) : DE X (.Call (.Name x p) (e :: es) [] pos) (dCall S d) := by
  obtain ⟨f, fd, F, hk, hb, hm⟩ := c
  exact .mk' (pe_callG (E := E0) F hr gd hg hm hk hb ha.pa hdb hs hpl) (snd_call ha.sn)
end
/-! the end of a law whose def is called with no repr under way -/
theorem law_callG {P : Program} {w : World} {K : PySem.W.Frag} {mg mb : Str → Option Value} {k : Nat} {fa a : Addr} {fd : FuncData} {x : Str} {s₁ : Shared} {vs : List Value} {ns : List Int}
    (kIn : K.In s₁.heap) (hns : s₁.heap.Ns mainGlobals mg) (hb : s₁.heap.Ns builtinsNs mb) (hbb : ∀ x : Str, x ≠ "__name__" → mb x = bootBuiltins x) (nl : s₁.heap.NoLimit) (hg : s₁.gens = #[])
    (ha : s₁.heap.get? a = some { cls := .type "list", data := .seq vs.toArray }) (hi : IntsAre vs ns) (hl : ns.length ≤ 63) (hr : Room k callerA)
    (F : ∀ base : Heap, K.In base → base.Ns mainGlobals mg → FnG P w K mg base k fa fd [x] (spLaw K)) (hbind : ∀ (s : Shared) (u : Value), BindsTo s fd ⟨[u], []⟩ [(x, u)]) :
    codeAny (model P w) callerA (.call (.ref fa) ⟨[.ref a], []⟩) (fun r s' => r = .ok (.ret (.bool true)) ∧ OldK s₁.heap s'.heap ∧ s'.os = s₁.os ∧ AllBare s'.gens) s₁ := by
  have hlz : ns.length ≤ sizeLine := Nat.le_trans hl (by rw [sizeLine_eq]; decide)
  have main : ∀ H : Hp, (∀ b o, H b = some o → b = a ∧ K.lookup a = none ∧ ∃ u, o = .frz { cls := .type "list", data := .seq vs.toArray } u) → SqL K H a (ns.map V.int) → HOk P w H s₁.heap →
      codeAny (model P w) callerA (.call (.ref fa) ⟨[.ref a], []⟩) (fun r s' => r = .ok (.ret (.bool true)) ∧ OldK s₁.heap s'.heap ∧ s'.os = s₁.os ∧ AllBare s'.gens) s₁ := by
    intro H only sq hok
    have nsH : ∀ {b : Addr} {m : Str → Option Value}, s₁.heap.Ns b m → (hidT s₁.heap H).Ns b m := by
      rintro b m ⟨o, es, ep, e, d, z⟩
      refine ⟨o, es, ep, hidT_get e ?_, d, z⟩
      cases q : H b with
      | none => rfl
      | some u =>
        obtain ⟨rfl, _⟩ := only b u q
        rw [ha] at e
        cases e
        exact Data.noConfusion d
    have kb : K.In (hidT s₁.heap H) := fun b o e => hidT_get (kIn b o e) (by
      cases q : H b with
      | none => rfl
      | some u =>
        obtain ⟨rfl, h2, _⟩ := only b u q
        rw [h2] at e
        cases e)
    obtain ⟨mc, hm1, hm2⟩ := nl
    have e0 : Env0 P w K mg (hidT s₁.heap H) callerA [] s₁ H := {
      frames := rfl
      mod := ⟨kb, nsH hns, ⟨mb, nsH hb, hbb⟩, ⟨mc, nsH hm1, hm2⟩⟩
      bs := fun b o e => of_hidT e
      bsz := Nat.le_of_eq (hidT_size _ _)
      funs := trivial
      frf := fun b z => absurd (show b ∈ ([] : List Addr) from z) (by simp)
      hok := hok
      bare := .of_eq hg }
    refine codeAny_mono ((F _ kb (nsH hns)).run callerA [] s₁ H ⟨[.ref a], []⟩ [.ref a] [.ref a] (fun v _ => v = .bl true) (fun _ _ _ => False) hr rfl e0 (hbind s₁ (.ref a)) (.cons rfl .nil) ⟨a, ns, rfl, sq, hl, fun _ => rfl⟩) fun z s' h => ?_
    cases z with
    | error e => exact h.elim
    | ok fl => cases fl with
      | ret u =>
        obtain ⟨v, H', os, bare, un, hok', rv, q⟩ := h
        subst q
        obtain rfl : u = Value.bool true := rv
        refine ⟨rfl, OldK.of_keep fun b o e => ?_, os, bare⟩
        cases q : H b with
        | none => exact un.keep b o e q (fun z => absurd (show b ∈ ([] : List Addr) from z) (by simp)) (by simp)
        | some u =>
          obtain ⟨rfl, _, u', rfl⟩ := only b u q
          rw [ha] at e
          cases e
          exact (hok' b _ (un.frzs b _ _ q)).1
      | _ => exact h.elim
  have rv := vals_ints hi
  cases hk : K.lookup a with
  | some o =>
    have e := kIn a o hk
    rw [ha] at e
    cases e
    refine main (fun _ => none) (fun b o h => nomatch h) (.inr ⟨_, vs.toArray, _, hk, rfl, rfl, rfl, by rw [List.size_toArray, hi.length]; exact hlz, by simpa using rv⟩) fun b o h => nomatch h
  | none =>
    have self : ∀ b o, upd (fun _ => none) a (.frz { cls := .type "list", data := .seq vs.toArray } (.lst (ns.map V.int))) b = some o → b = a ∧ o = .frz { cls := .type "list", data := .seq vs.toArray } (.lst (ns.map V.int)) := fun b o h => by
      by_cases hb : b = a
      · subst hb
        rw [upd_same] at h
        cases h
        exact ⟨rfl, rfl⟩
      · rw [upd_ne hb] at h
        cases h
    refine main (upd (fun _ => none) a (.frz { cls := .type "list", data := .seq vs.toArray } (.lst (ns.map V.int)))) (fun b o h => ?_) (.inl (.inr ⟨_, upd_same⟩)) fun b o h => ?_
    · obtain ⟨rfl, rfl⟩ := self b o h
      exact ⟨rfl, hk, _, rfl⟩
    · obtain ⟨rfl, rfl⟩ := self b o h
      exact ⟨ha, by rw [List.length_map]; exact hlz, vs, _, rv, ha⟩
end DL
namespace DL
open PySem PySem.Spec PyProof.Rows L2
/-! repr -/
def keyP : Key → PyData
  | .inl i => .int i
  | .inr x => .str x
mutual
def D.sh : D → PyData
  | .none => .none
  | .bool b => .bool b
  | .int i => .int i
  | .str x => .str x
  | .tup ds => .tuple (shA ds)
  | .lst ds => .list (shA ds)
  | .dct ks ds => .dict ((ks.map keyP).zip (shA ds))
  | .obj _ _ _ => .none
  | .exn _ _ _ => .none
  | .any _ => .none
def shA : List D → List PyData
  | [] => []
  | d :: ds => d.sh :: shA ds
end
def kOk : Key → Bool
  | .inl i => decide (i.natAbs.log2 < 1920)
  | .inr x => x.cps.toList.all fun c => decide (c < 1114112)
def kWt : Key → Nat
  | .inl _ => 1921
  | .inr x => 10 * x.length + 2
mutual
/-- what may be shown -/
def D.shO : D → Bool
  | .none => true
  | .bool _ => true
  | .int i => decide (i.natAbs.log2 < 1920)
  | .str x => x.cps.toList.all fun c => decide (c < 1114112)
  | .tup ds => shOA ds
  | .lst ds => shOA ds
  | .dct ks ds => ks.all kOk && shOA ds
  | .obj _ _ _ => false
  | .exn _ _ _ => false
  | .any _ => false
def shOA : List D → Bool
  | [] => true
  | d :: ds => d.shO && shOA ds
end
mutual
/-- how long its text is, at the most -/
def D.wt : D → Nat
  | .int _ => 1921
  | .str x => 10 * x.length + 2
  | .tup ds => wtA ds + 3
  | .lst ds => wtA ds + 3
  | .dct ks ds => (ks.map fun k => kWt k + 2).sum + wtA ds + 3
  | _ => 5
def wtA : List D → Nat
  | [] => 0
  | d :: ds => d.wt + 2 + wtA ds
end
mutual
/-- how deep it is -/
def D.dp : D → Nat
  | .tup ds => dpA ds + 1
  | .lst ds => dpA ds + 1
  | .dct _ ds => dpA ds + 1
  | _ => 0
def dpA : List D → Nat
  | [] => 0
  | d :: ds => max d.dp (dpA ds)
end
theorem shA_len : ∀ ds : List D, (shA ds).length = ds.length
  | [] => rfl
  | d :: ds => by show (shA ds).length + 1 = _; rw [shA_len ds]; rfl
/-! lengths -/
theorem cps_of {x : Str} (h : (x.cps.toList.all fun c => decide (c < 1114112)) = true) : (reprText x).length ≤ 10 * x.length + 2 :=
  PySem.StrLaws.reprText_len x fun c hc => Nat.lt_trans (of_decide_eq_true (List.all_eq_true.mp h c hc)) (by decide)
theorem key_len : ∀ k : Key, kOk k = true → (keyP k).shown.length ≤ kWt k
  | .inl i, h => int_text_len_1921 (of_decide_eq_true h)
  | .inr x, h => cps_of h
mutual
theorem D.sh_len : ∀ d : D, d.shO = true → d.sh.shown.length ≤ d.wt
  | .none, _ => by decide
  | .bool b, _ => by cases b <;> decide
  | .int i, h => int_text_len_1921 (of_decide_eq_true h)
  | .str x, h => cps_of h
  | .tup ds, h => by
    have h1 := shA_lens ds h
    have h2 := tupleText_len_le (PyData.shownAll (shA ds))
    rw [PyData.shownAll_length, shA_len] at h2
    show (tupleText (PyData.shownAll (shA ds))).length ≤ wtA ds + 3
    omega
  | .lst ds, h => by
    have h1 := shA_lens ds h
    have h2 := listText_len_le (PyData.shownAll (shA ds))
    rw [PyData.shownAll_length, shA_len] at h2
    show (listText (PyData.shownAll (shA ds))).length ≤ wtA ds + 3
    omega
  | .dct ks ds, h => by
    have h : (ks.all kOk && shOA ds) = true := h
    rw [Bool.and_eq_true] at h
    have h1 := kv_lens ks ds h.1 h.2
    have h2 := dictText_len_le (PyData.shownKv ((ks.map keyP).zip (shA ds)))
    rw [PyData.shownKv_length] at h2
    show (dictText (PyData.shownKv ((ks.map keyP).zip (shA ds)))).length ≤ (ks.map fun k => kWt k + 2).sum + wtA ds + 3
    omega
  | .obj _ _ _, h => by cases h
  | .exn _ _ _, h => by cases h
  | .any _, h => by cases h
theorem shA_lens : ∀ ds : List D, shOA ds = true → ((PyData.shownAll (shA ds)).map (·.length)).sum + 2 * ds.length ≤ wtA ds
  | [], _ => Nat.le_refl _
  | d :: ds, h => by
    have h : (d.shO && shOA ds) = true := h
    rw [Bool.and_eq_true] at h
    have h1 := D.sh_len d h.1
    have h2 := shA_lens ds h.2
    show ((d.sh.shown :: PyData.shownAll (shA ds)).map (·.length)).sum + 2 * (ds.length + 1) ≤ d.wt + 2 + wtA ds
    rw [List.map_cons, List.sum_cons]
    omega
theorem kv_lens : ∀ (ks : List Key) (ds : List D), ks.all kOk = true → shOA ds = true → ((PyData.shownKv ((ks.map keyP).zip (shA ds))).map (·.length)).sum + 2 * ((ks.map keyP).zip (shA ds)).length ≤ (ks.map fun k => kWt k + 2).sum + wtA ds
  | [], ds, _, _ => by show 0 ≤ _; omega
  | k :: ks, [], _, _ => by show 0 ≤ _; omega
  | k :: ks, d :: ds, hk, hd => by
    have hd : (d.shO && shOA ds) = true := hd
    rw [Bool.and_eq_true] at hd
    rw [List.all_cons, Bool.and_eq_true] at hk
    have h1 := D.sh_len d hd.1
    have h2 := key_len k hk.1
    have h3 := kv_lens ks ds hk.2 hd.2
    show ((((keyP k).shown ++ ": " ++ d.sh.shown) :: PyData.shownKv ((ks.map keyP).zip (shA ds))).map (·.length)).sum + 2 * (((ks.map keyP).zip (shA ds)).length + 1) ≤ (kWt k + 2 + (ks.map fun k => kWt k + 2).sum) + (d.wt + 2 + wtA ds)
    rw [List.map_cons, List.sum_cons, strLen_append, strLen_append]
    have e : Str.length (": " : Str) = 2 := by decide
    omega
end
/-! depths -/
mutual
theorem D.sh_depth : ∀ d : D, d.sh.depth ≤ d.dp
  | .none => Nat.le_refl _
  | .bool _ => Nat.le_refl _
  | .int _ => Nat.le_refl _
  | .str _ => Nat.le_refl _
  | .tup ds => Nat.succ_le_succ (shA_depth ds)
  | .lst ds => Nat.succ_le_succ (shA_depth ds)
  | .dct ks ds => Nat.succ_le_succ (kv_depth ks ds)
  | .obj _ _ _ => Nat.le_refl _
  | .exn _ _ _ => Nat.le_refl _
  | .any _ => Nat.le_refl _
theorem shA_depth : ∀ ds : List D, PyData.depthAll (shA ds) ≤ dpA ds
  | [] => Nat.le_refl _
  | d :: ds => by
    have h1 := D.sh_depth d
    have h2 := shA_depth ds
    show max d.sh.depth (PyData.depthAll (shA ds)) ≤ max d.dp (dpA ds)
    omega
theorem kv_depth : ∀ (ks : List Key) (ds : List D), PyData.depthKv ((ks.map keyP).zip (shA ds)) ≤ dpA ds
  | [], ds => Nat.zero_le _
  | _ :: _, [] => Nat.zero_le _
  | k :: ks, d :: ds => by
    have h1 := D.sh_depth d
    have h2 := kv_depth ks ds
    have h3 : (keyP k).depth = 0 := by cases k <;> rfl
    show max (max (keyP k).depth d.sh.depth) (PyData.depthKv ((ks.map keyP).zip (shA ds))) ≤ max d.dp (dpA ds)
    omega
end
/-! what is read in the heap -/
section
variable {P : Program} {w : World} {K : PySem.W.Frag} {H : Hp} {h : Heap}
theorem lst_at {a : Addr} {vs : List V} (ok : HOk P w H h) (e : H a = some (.lst vs)) : ∃ (us : List Value) (n : Nat), Vals vs us ∧ h.get? a = some { cls := .type "list", data := .seq us.toArray n } := (ok a _ e).2
theorem tup_at {a : Addr} {vs : List V} (ok : HOk P w H h) (ki : K.In h) (e : TpAt K H a vs) : ∃ us : List Value, Vals vs us ∧ IsTup h a us.toArray := by
  rcases e with e | ⟨o, its, n, h1, h2, h3, _, h4⟩
  · exact (ok a _ e).2
  · exact ⟨its.toList, h4, o, ki _ _ h1, h2, n, by rw [h3]⟩
theorem kv_at : ∀ {ks : List Key} {vs : List V} {kvs : List (Key × Value)} {l : List DictEntry}, ks.length = vs.length → KV (ks.zip vs) kvs → Pairs (mixKind P w) l kvs → Vals vs (l.map (·.val)) ∧ Paired (fun k u => keyIs k u = true) ks (l.map (·.key))
  | [], [], _, _, _, .nil, .nil => ⟨.nil, .nil⟩
  | [], _ :: _, _, _, hl, _, _ => by simp at hl
  | _ :: _, [], _, _, hl, _, _ => by simp at hl
  | k :: ks, v :: vs, _, _, hl, r, hp => by
    rw [List.zip_cons_cons] at r
    cases r with
    | cons r1 r2 =>
      cases hp with
      | cons p1 p2 p3 =>
        obtain ⟨h1, h2⟩ := kv_at (by simpa using hl) r2 p3
        refine ⟨.cons (by show RelV v (DictEntry.val _); rw [p2]; exact r1.2) h1, .cons ?_ h2⟩
        have e : k = _ := r1.1
        rw [e]
        exact p1
theorem dct_at {a : Addr} {ks : List Key} {vs : List V} (ok : HOk P w H h) (e : H a = some (.dK (ks.zip vs))) (hl : ks.length = vs.length) : (a == sysModules) = false ∧ ∃ (o : Obj) (es : Array DictEntry) (ep : Nat), h.get? a = some o ∧ o.cls = .type "dict" ∧ o.data = .dict es ep ∧ Vals vs (es.toList.map (·.val)) ∧ Paired (fun k u => keyIs k u = true) ks (es.toList.map (·.key)) := by
  obtain ⟨_, hs, kvs, r, o, es, ep, ho, hx, hd, _, hp, _⟩ := ok a _ e
  obtain ⟨h1, h2⟩ := kv_at hl r hp
  exact ⟨hs, o, es, ep, ho, hx.1, hd, h1, h2⟩
theorem keys_at : ∀ {ks : List Key} {us : List Value} (n : Nat) (bs : List Addr), Paired (fun k u => keyIs k u = true) ks us → ks.all kOk = true → (∀ k ∈ ks, kWt k ≤ sizeLine) → (∃ as, ReadsAll h us (ks.map keyP) as) ∧ ReprAllK P w bs h n us (PyData.shownAll (ks.map keyP))
  | [], _, n, bs, .nil, _, _ => ⟨⟨[], .nil⟩, .nil⟩
  | k :: ks, u :: us, n, bs, .cons hk hr, ho, hz => by
    rw [List.all_cons, Bool.and_eq_true] at ho
    obtain ⟨⟨as, h1⟩, h2⟩ := keys_at n bs hr ho.2 fun k hk => hz k (List.mem_cons_of_mem _ hk)
    have hz1 := hz k (List.mem_cons_self ..)
    rcases keyIs_shape hk with ⟨i, t, rfl, rfl⟩ | ⟨x, t, rfl, rfl⟩
    · exact ⟨⟨_, .cons (.int i t) h1⟩, .cons (.of_is (ReprIs.int t (of_decide_eq_true ho.1)) _ _ _) h2⟩
    · exact ⟨⟨_, .cons (.str x t) h1⟩, .cons (.of_is (ReprIs.str x t (Nat.le_trans (cps_of ho.1) hz1)) _ _ _) h2⟩
theorem wtA_mem : ∀ {ds : List D} {d : D}, d ∈ ds → d.wt ≤ wtA ds
  | x :: xs, d, hd => by
    show d.wt ≤ x.wt + 2 + wtA xs
    rcases List.mem_cons.mp hd with e | e
    · rw [e]; omega
    · have := wtA_mem e
      omega
theorem kWt_mem : ∀ {ks : List Key} {k : Key}, k ∈ ks → kWt k ≤ (ks.map fun k => kWt k + 2).sum
  | x :: xs, k, hk => by
    rw [List.map_cons, List.sum_cons]
    rcases List.mem_cons.mp hk with e | e
    · rw [e]; omega
    · have := kWt_mem e
      omega
theorem fst_zip {α β : Type} : ∀ {l : List α} {m : List β}, l.length = m.length → (l.zip m).map (·.1) = l ∧ (l.zip m).map (·.2) = m
  | [], [], _ => ⟨rfl, rfl⟩
  | [], _ :: _, h => by simp at h
  | _ :: _, [], h => by simp at h
  | x :: l, y :: m, h => by
    obtain ⟨h1, h2⟩ := fst_zip (l := l) (m := m) (by simpa using h)
    rw [List.zip_cons_cons, List.map_cons, List.map_cons, h1, h2]
    exact ⟨rfl, rfl⟩
mutual
theorem rpK (ok : HOk P w H h) (ki : K.In h) : ∀ (d : D) (v : V) (u : Value), Rp K H d v → RelV v u → d.shO = true → d.wt ≤ sizeLine → (∃ as, Reads h u d.sh as) ∧ ∃ bs, ReadAtMost h d.sh.depth bs ∧ ReprK P w bs h d.sh.depth u d.sh.shown
  | .none, v, u, r, q, _, _ => by cases r; cases q; exact ⟨⟨_, .none⟩, [], (fun _ z => nomatch z), .of_is ReprIs.none _ _ _⟩
  | .bool b, v, u, r, q, _, _ => by cases r; cases q; exact ⟨⟨_, .bool b⟩, [], (fun _ z => nomatch z), .of_is (ReprIs.bool b) _ _ _⟩
  | .int i, v, u, r, q, ho, _ => by cases r; obtain ⟨t, rfl⟩ := q; exact ⟨⟨_, .int i t⟩, [], (fun _ z => nomatch z), .of_is (ReprIs.int t (of_decide_eq_true ho)) _ _ _⟩
  | .str x, v, u, r, q, ho, hz => by cases r; obtain ⟨t, rfl⟩ := q; exact ⟨⟨_, .str x t⟩, [], (fun _ z => nomatch z), .of_is (ReprIs.str x t (Nat.le_trans (cps_of ho) hz)) _ _ _⟩
  | .tup ds, v, u, ⟨a, vs, hv, ha, hr⟩, q, ho, hz => by
    subst hv
    cases (show u = Value.ref a from q)
    obtain ⟨us, hu, o, h1, h2, n, h3⟩ := tup_at ok ki ha
    obtain ⟨⟨as, r1⟩, bs, hb, hk⟩ := rpKA ok ki ds vs us hr hu ho (Nat.le_trans (Nat.le_add_right _ 3) hz)
    have rd : Reads h (.ref a) (.tuple (shA ds)) as := .tuple h1 h2 h3 (by simpa using r1)
    exact ⟨⟨as, rd⟩, a :: bs, ReadAtMost.cons rd (Nat.le_succ _) hb, ReprK.tuple h1 h2 h3 (not_mem_of_deeper rd (Nat.lt_succ_self _) hb) (by simpa using hk)⟩
  | .lst ds, v, u, ⟨a, vs, hv, ha, hr⟩, q, ho, hz => by
    subst hv
    cases (show u = Value.ref a from q)
    obtain ⟨us, n, hu, h1⟩ := lst_at ok ha
    obtain ⟨⟨as, r1⟩, bs, hb, hk⟩ := rpKA ok ki ds vs us hr hu ho (Nat.le_trans (Nat.le_add_right _ 3) hz)
    have rd : Reads h (.ref a) (.list (shA ds)) (a :: as) := .list h1 rfl rfl (by simpa using r1)
    refine ⟨⟨_, rd⟩, a :: bs, ReadAtMost.cons rd (Nat.le_succ _) hb, ?_⟩
    cases us with
    | nil =>
      cases hu
      have : ds = [] := List.eq_nil_of_length_eq_zero (by have := hr.length; simpa using this)
      subst this
      exact ReprK.listEmpty h1 rfl rfl
    | cons x l => exact ReprK.list h1 rfl rfl (not_mem_of_deeper rd (Nat.lt_succ_self _) hb) (by simpa using hk.length_eq) fun i y e => hk.item i y (by simpa using e)
  | .dct ks ds, v, u, ⟨a, vs, hv, ha, hl, hr⟩, q, ho, hz => by
    subst hv
    cases (show u = Value.ref a from q)
    have ho : (ks.all kOk && shOA ds) = true := ho
    rw [Bool.and_eq_true] at ho
    have hz : (ks.map fun k => kWt k + 2).sum + wtA ds + 3 ≤ sizeLine := hz
    obtain ⟨hs, o, es, ep, h1, h2, h3, hu, hk⟩ := dct_at ok ha hl
    obtain ⟨⟨as, r1⟩, bs, hb, k2⟩ := rpKA ok ki ds vs _ hr hu ho.2 (by omega)
    obtain ⟨⟨as', r2⟩, k1⟩ := keys_at (P := P) (w := w) (h := h) (PyData.depthAll (shA ds)) bs hk ho.1 fun k hk => by have := kWt_mem hk; omega
    have lz : (ks.map keyP).length = (shA ds).length := by rw [List.length_map, shA_len, hr.length, hl]
    obtain ⟨z1, z2⟩ := fst_zip lz
    have rd : Reads h (.ref a) (.dict ((ks.map keyP).zip (shA ds))) (a :: as' ++ as) := .dict h1 h2 h3 (by rw [z1]; exact r2) (by rw [z2]; exact r1)
    have dle : PyData.depthAll (shA ds) ≤ PyData.depthKv ((ks.map keyP).zip (shA ds)) := by
      have := PyData.depthAll_vals_le ((ks.map keyP).zip (shA ds))
      rw [z2] at this
      exact this
    have hb' := hb.mono dle
    refine ⟨⟨_, rd⟩, a :: bs, ReadAtMost.cons rd (Nat.le_succ _) hb', ?_⟩
    have e := ReprEntriesK.of_two es.toList _ _ (k1.more_le (fun b hb => hb) dle) (k2.more_le (fun b hb => hb) dle)
    have := ReprK.dict h1 h2 h3 hs (not_mem_of_deeper rd (Nat.lt_succ_self _) hb') e
    show ReprK P w (a :: bs) h _ _ (dictText (PyData.shownKv ((ks.map keyP).zip (shA ds))))
    rw [PyData.shownKv_eq, z1, z2]
    exact this
  | .obj _ _ _, _, _, _, _, ho, _ => by cases ho
  | .exn _ _ _, _, _, _, _, ho, _ => by cases ho
  | .any _, _, _, _, _, ho, _ => by cases ho
theorem rpKA (ok : HOk P w H h) (ki : K.In h) : ∀ (ds : List D) (vs : List V) (us : List Value), RpA K H ds vs → Vals vs us → shOA ds = true → wtA ds ≤ sizeLine → (∃ as, ReadsAll h us (shA ds) as) ∧ ∃ bs, ReadAtMost h (PyData.depthAll (shA ds)) bs ∧ ReprAllK P w bs h (PyData.depthAll (shA ds)) us (PyData.shownAll (shA ds))
  | [], vs, us, r, q, _, _ => by cases r; cases q; exact ⟨⟨_, .nil⟩, [], (fun _ z => nomatch z), .nil⟩
  | d :: ds, vs, us, ⟨v, vr, hv, r1, r2⟩, q, ho, hz => by
    subst hv
    cases q with
    | cons q1 q2 =>
      have ho : (d.shO && shOA ds) = true := ho
      rw [Bool.and_eq_true] at ho
      have hz : d.wt + 2 + wtA ds ≤ sizeLine := hz
      obtain ⟨⟨as1, a1⟩, b1, hb1, k1⟩ := rpK ok ki d v _ r1 q1 ho.1 (by omega)
      obtain ⟨⟨as2, a2⟩, b2, hb2, k2⟩ := rpKA ok ki ds vr _ r2 q2 ho.2 (by omega)
      refine ⟨⟨_, .cons a1 a2⟩, b1 ++ b2, (hb1.mono (Nat.le_max_left _ _)).append (hb2.mono (Nat.le_max_right _ _)), ?_⟩
      exact .cons ((k1.more fun b hb => List.mem_append_left _ hb).level_le (Nat.le_max_left _ _)) (k2.more_le (fun b hb => List.mem_append_right _ hb) (Nat.le_max_right _ _))
end
/-- repr of what may be shown -/
theorem repr_top {A : Around} {E : Value → Shared → Prop} {s : Shared} {Q : Value → Shared → Prop} (ok : HOk P w H s.heap) (ki : K.In s.heap) (gd : A.guards = some []) (d : D) (v : V) (u : Value) (r : Rp K H d v) (q : RelV v u) (ho : d.shO = true) (hz : d.wt ≤ sizeLine) (hu : A.units + d.dp + 1 < cLine)
    (hQ : ∀ h' t tk, (∀ b o, s.heap.get? b = some o → h'.get? b = some o) → Q (.str d.sh.shown t) { s with heap := h', toks := tk }) : wpAny (model P w) A (call (.builtin "repr") [u]) Q E s := by
  have hlen := Nat.le_trans (D.sh_len d ho) hz
  have hdp := D.sh_depth d
  cases d with
  | none => cases r; cases q; exact PySem.P.repr_of_none (hQ s.heap _ _ fun _ _ e => e)
  | bool b => cases r; cases q; exact PySem.P.repr_of_bool (hQ s.heap _ _ fun _ _ e => e)
  | int i => cases r; obtain ⟨t, rfl⟩ := q; exact PySem.P.repr_of_int (of_decide_eq_true ho) (hQ s.heap _ _ fun _ _ e => e)
  | str x => cases r; obtain ⟨t, rfl⟩ := q; exact PySem.P.repr_of_str (hQ s.heap _ _ fun _ _ e => e) hlen
  | tup ds =>
    obtain ⟨a, vs, rfl, ha, hr⟩ := r
    cases (show u = Value.ref a from q)
    obtain ⟨us, hus, o, h1, h2, n, h3⟩ := tup_at ok ki ha
    obtain ⟨⟨as, r1⟩, bs, hb, hk⟩ := rpKA ok ki ds vs us hr hus ho (Nat.le_trans (Nat.le_add_right _ 3) hz)
    have rd : Reads s.heap (.ref a) (.tuple (shA ds)) as := .tuple h1 h2 h3 (by simpa using r1)
    exact call_repr_slot (by omega) ⟨o, h1, h2⟩ F.slot_tuple_repr (call_tuple_reprK h1 h2 h3 (not_mem_of_deeper rd (Nat.lt_succ_self _) hb) (by simpa using hk) gd (fun b _ => Clear.nil b)
      (by show A.units + 1 + (PyData.depthAll (shA ds) + 1) < cLine; have : PyData.depthAll (shA ds) + 1 ≤ (D.tup ds).dp := hdp; omega) (fun _ _ e => e) (fun h' t tk hk => ⟨_, _, rfl, hQ h' t tk hk⟩) hlen)
  | lst ds =>
    obtain ⟨a, vs, rfl, ha, hr⟩ := r
    cases (show u = Value.ref a from q)
    obtain ⟨us, n, hus, h1⟩ := lst_at ok ha
    obtain ⟨⟨as, r1⟩, bs, hb, hk⟩ := rpKA ok ki ds vs us hr hus ho (Nat.le_trans (Nat.le_add_right _ 3) hz)
    have rd : Reads s.heap (.ref a) (.list (shA ds)) (a :: as) := .list h1 rfl rfl (by simpa using r1)
    refine call_repr_slot (by omega) ⟨_, h1, rfl⟩ F.slot_list_repr.toG ?_
    cases us with
    | nil =>
      cases hus
      have : ds = [] := List.eq_nil_of_length_eq_zero (by have := hr.length; simpa using this)
      subst this
      exact call_list_repr_empty ⟨_, h1, rfl⟩ h1 rfl ⟨_, _, rfl, hQ s.heap _ _ fun _ _ e => e⟩
    | cons x l => exact call_list_reprK h1 rfl rfl (not_mem_of_deeper rd (Nat.lt_succ_self _) hb) (by simpa using hk.length_eq) (fun i y e => hk.item i y (by simpa using e)) gd (fun b _ => Clear.nil b) (by show A.units + 1 + (PyData.depthAll (shA ds) + 1) < cLine; have : PyData.depthAll (shA ds) + 1 ≤ (D.lst ds).dp := hdp; omega) (fun _ _ e => e) (fun h' t tk hk => ⟨_, _, rfl, hQ h' t tk hk⟩) hlen
  | dct ks ds =>
    obtain ⟨a, vs, rfl, ha, hl, hr⟩ := r
    cases (show u = Value.ref a from q)
    have ho : (ks.all kOk && shOA ds) = true := ho
    rw [Bool.and_eq_true] at ho
    have hz : (ks.map fun k => kWt k + 2).sum + wtA ds + 3 ≤ sizeLine := hz
    obtain ⟨hs, o, es, ep, h1, h2, h3, hus, hk⟩ := dct_at ok ha hl
    obtain ⟨⟨as, r1⟩, bs, hb, k2⟩ := rpKA ok ki ds vs _ hr hus ho.2 (by omega)
    obtain ⟨⟨as', r2⟩, k1⟩ := keys_at (P := P) (w := w) (h := s.heap) (PyData.depthAll (shA ds)) bs hk ho.1 fun k hk => by have := kWt_mem hk; omega
    have lz : (ks.map keyP).length = (shA ds).length := by rw [List.length_map, shA_len, hr.length, hl]
    obtain ⟨z1, z2⟩ := fst_zip lz
    have rd : Reads s.heap (.ref a) (.dict ((ks.map keyP).zip (shA ds))) (a :: as' ++ as) := .dict h1 h2 h3 (by rw [z1]; exact r2) (by rw [z2]; exact r1)
    have dle : PyData.depthAll (shA ds) ≤ PyData.depthKv ((ks.map keyP).zip (shA ds)) := by
      have := PyData.depthAll_vals_le ((ks.map keyP).zip (shA ds))
      rw [z2] at this
      exact this
    have hb' := hb.mono dle
    have e := ReprEntriesK.of_two es.toList _ _ (k1.more_le (fun b hb => hb) dle) (k2.more_le (fun b hb => hb) dle)
    have et : (D.dct ks ds).sh.shown = dictText (List.zipWith (fun k v : Str => k ++ ": " ++ v) (PyData.shownAll (ks.map keyP)) (PyData.shownAll (shA ds))) := by
      show dictText (PyData.shownKv ((ks.map keyP).zip (shA ds))) = _
      rw [PyData.shownKv_eq, z1, z2]
    rw [et] at hlen hQ
    exact call_repr_slot (by omega) ⟨o, h1, h2⟩ F.slot_dict_repr (call_dict_reprK h1 h2 h3 hs (not_mem_of_deeper rd (Nat.lt_succ_self _) hb') e gd (fun b _ => Clear.nil b)
      (by show A.units + 1 + (PyData.depthKv ((ks.map keyP).zip (shA ds)) + 1) < cLine; have : PyData.depthKv ((ks.map keyP).zip (shA ds)) + 1 ≤ (D.dct ks ds).dp := hdp; omega) (fun _ _ e => e) (fun h' t tk hk => ⟨_, _, rfl, hQ h' t tk hk⟩) hlen)
  | obj _ _ _ => cases ho
  | exn _ _ _ => cases ho
  | any _ => cases ho
end
@[irreducible] def reprT (d : D) : Str := d.sh.shown
def oRepr : OA := fun ds Q => match ds with
  | [x] => x.shO = true ∧ x.wt ≤ 16777216 ∧ x.dp ≤ 30 ∧ Q (.str (reprT x))
  | _ => False
section
variable {X : Cx}
def rRepr (K : PySem.W.Frag) : List V → Hp → VK → Prop := fun vs H Q => ∃ v d, vs = [v] ∧ Rp K H d v ∧ d.shO = true ∧ d.wt ≤ 16777216 ∧ d.dp ≤ 30 ∧ Q (.str (reprT d)) H
theorem call_repr (gd : X.A.guards = some []) (hu : X.A.units + 64 < cLine) : CallR X (.builtin "repr") (rRepr X.K) := fun pins s st H xs us Q I r h => by
  obtain ⟨v, d, rfl, hr, ho, hz, hd, q⟩ := h
  cases r with
  | cons r1 r2 =>
    cases r2
    refine repr_top I.hok I.kIn gd d v _ hr r1 ho (by rw [sizeLine_eq]; exact hz) (by omega) fun h' t tk hk => ⟨.str (reprT d), H, I.kept hk, ⟨t, ?_⟩, q⟩
    unfold reprT
    rfl
theorem sc_repr {K : PySem.W.Frag} : SndC K (rRepr K) oRepr := fun H Hs ds vs Q Q' s rx hq hd => by
  unfold oRepr at hd
  split at hd
  · obtain ⟨h1, h2, h3, h4⟩ := hd
    obtain ⟨v, rfl, rv⟩ := rpA1 rx
    exact ⟨v, _, rfl, rv.mono s, h1, h2, h3, hq (.str (reprT _)) _ H Hs (Stp.refl s) rfl h4⟩
  · exact hd.elim
theorem de_repr {p pos : Pos} {e : Expr} {d : DTA} (gd : X.A.guards = some []) (hu : X.A.units + 64 < cLine) (hm : X.mg "repr" = none) (ha : DA X [e] d) (hg : Gl X "repr" := by rfl) (hs : starEach [e] X.env = (false, eval e X.env) :: starEach [] X.env := by rfl)
    (hpl : (backTo pos (starEach [] X.env)).any (·.1) = false := by rfl) : DE X (.Call (.Name "repr" p) [e] [] pos) (dCB oRepr d) :=
  de_callB (call_repr gd hu) sc_repr hg hm (by decide +kernel) ha (by decide) (by decide) hs hpl
end
end DL
namespace DL
open PySem PySem.Spec PyProof.Rows L2
/-! draws of other names -/
def CalDn (x : Str) (P : Program) (w : World) (K : PySem.W.Frag) (mg : Str → Option Value) (base : Heap) : Prop :=
  ∃ f fd, FnOk P w K mg base CX0 1 f fd ["_law_script"] (spDeck K) ∧ PySem.W.keepIn K (.ref f) = true ∧ Binds K fd ["_law_script"] [] ∧ mg x = some (.ref f)
theorem pull_bd {x t : Int} (x0 : 0 ≤ x) (x1 : x < 2147483647) (t0 : 0 ≤ t) (t1 : t ≤ 1000000000001) : (x * (48271 + 69621 * t) + 40692 * t * t + 59).natAbs < 2 ^ 100 := by
  have h1 : x * (48271 + 69621 * t) ≤ 2147483647 * (48271 + 69621 * 1000000000001) := Int.mul_le_mul (by omega) (by omega) (by omega) (by decide)
  have h0 : 0 ≤ x * (48271 + 69621 * t) := Int.mul_nonneg x0 (by omega)
  have h2 : 40692 * t * t ≤ 40692 * 1000000000001 * 1000000000001 := Int.mul_le_mul (by omega) t1 t0 (by decide)
  have h3 : 0 ≤ 40692 * t * t := Int.mul_nonneg (by omega) t0
  generalize x * (48271 + 69621 * t) = A at h1 h0
  generalize 40692 * t * t = B at h2 h3
  omega
theorem pull_bd2 {x t : Int} (t0 : 0 ≤ t) (t1 : t ≤ 1000000000001) : (x % 2305843009213693951 + 16807 * t).natAbs < 2 ^ 62 := by
  have h1 := Int.emod_nonneg x (show (2305843009213693951 : Int) ≠ 0 by decide)
  have h2 := Int.emod_lt_of_pos x (show (0 : Int) < 2305843009213693951 by decide)
  omega
theorem cut_ints (ns : List Int) : cutV (ns.map V.int) none (some 63) = (ns.take 63).map V.int := by
  unfold cutV
  rw [HT.sIx_none, show (63 : Int) = ((63 : Nat) : Int) from rfl, HT.sIx_nat]
  simp only [List.drop_zero, Nat.sub_zero]
  rw [← List.take_eq_take_min, List.map_take]
end DL
namespace DL
open PySem PySem.Spec PyProof.Rows L2
/-! dicts of the text, with text keys -/
inductive Ents (K : PySem.W.Frag) : List DictEntry → List (Str × D) → Prop
  | nil : Ents K [] []
  | cons {e : DictEntry} {x : Str} {t : Tok} {d : D} {es : List DictEntry} {tb : List (Str × D)} : e.key = .str x t → (∃ v, RelV v e.val ∧ ∀ H, Rp K H d v) → Ents K es tb → Ents K (e :: es) ((x, d) :: tb)
def GD (K : PySem.W.Frag) (w : World) (mg : Str → Option Value) (x : Str) (tb : List (Str × D)) : Prop := ∃ (a : Addr) (es : Array DictEntry) (n : Nat), mg x = some (.ref a) ∧ KDict K w a es n ∧ Ents K es.toList tb
section
variable {X : Cx} {K : PySem.W.Frag}
theorem DE.weak {e : Expr} {d d' : DT} (h : DE X e d) (w : ∀ g r f Q, d' g r f Q → d g r f Q) : DE X e d' := .mk' h.pe fun g ro f st H Hs Q Q' A hq hd => h.sn g ro f st H Hs Q Q' A hq (w g ro f Q' hd)
theorem DP.weak {e : Expr} {d d' : DTT} (h : DP X e d) (w : ∀ g r f Q, d' g r f Q → d g r f Q) : DP X e d' := .mk' h.pt fun g ro f st H Hs Q Q' A hq hd => h.sn g ro f st H Hs Q Q' A hq (w g ro f Q' hd)
/-! the tables, from what stands in the text -/
end
end DL
namespace DL
open PySem PySem.Spec PyProof.Rows L2
/-! any plain value in a tuple of texts -/
section
variable {X : Cx} {K : PySem.W.Frag}
def itE (d : D) : Value → Bool
  | .str a _ => strEq a d
  | _ => false
theorem any_itE {d : D} : ∀ {l : List Str} {its : List Value}, Vals (l.map V.str) its → its.any (itE d) = l.any fun a => strEq a d
  | [], _, .nil => rfl
  | a :: l, _, .cons h r => by
    obtain ⟨t, rfl⟩ := h
    rw [List.any_cons, List.any_cons, any_itE r]
    rfl
theorem mem_itE : ∀ {l : List Str} {its : List Value} {y : Value}, Vals (l.map V.str) its → y ∈ its → ∃ a t, y = .str a t
  | [], _, _, .nil, h => by cases h
  | a :: l, _, y, .cons h r, hy => by
    obtain ⟨t, rfl⟩ := h
    rcases List.mem_cons.mp hy with e | e
    · exact ⟨a, t, e⟩
    · exact mem_itE r e
def rInS (K : PySem.W.Frag) (neg : Bool) : R2 := fun x y H Q => ∃ (q : Addr) (l : List Str) (Hs : Hp) (d : D), y = .ref q ∧ SqT K H q (l.map V.str) ∧ Same Hs H ∧ Rp K Hs d x ∧ d.tyd = true ∧ Q (.bl (xb neg (l.any fun a => strEq a d))) H
theorem op_notInS (hu : X.A.units + 64 < cLine) : OpR X (compareOp .NotIn) (rInS X.K true) := by
  intro pins s st H x y v u Q I rx ry h
  obtain ⟨q, l, Hs, d, rfl, hq, sm, hr, ht, hQ⟩ := h
  cases (show u = Value.ref q from ry)
  obtain ⟨its, r, pl, _⟩ := I.tuple hq
  refine PySem.SeqAt.notIn_tupleAt (itE d) pl (fun y hy => ?_) ?_
  · obtain ⟨a, t, rfl⟩ := mem_itE r (by simpa using hy)
    exact str_eqAt I sm hr rx ht X.A.in1 (by show X.A.units + 1 + 1 < cLine; omega)
  · rw [show its.toArray.any (itE d) = l.any fun a => strEq a d from by rw [← any_itE r]; simp]
    exact ⟨.bl _, H, I, rfl, hQ⟩
def oInS (neg : Bool) : O2 := fun x y Q => ∃ l : List Str, y = .tup (l.map D.str) ∧ x.tyd = true ∧ Q (.bool (xb neg (l.any fun a => strEq a x)))
theorem sr_inS {neg : Bool} : SndR K (rInS K neg) (oInS neg) := SndR.pure fun H Hs x y vx vy Q Q' s rx ry hq hd => by
  obtain ⟨l, rfl, ht, q⟩ := hd
  obtain ⟨a, vs, rfl, h1, h2⟩ := ry
  have e := h2.strs
  subst e
  exact ⟨a, l, Hs, x, rfl, tp_sq s h1, s, rx, ht, hq (.bool _) _ rfl q⟩
theorem dp_notInS {a b : Expr} {pos : Pos} {da db : DT} (hu : X.A.units + 64 < cLine) (ha : DE X a da) (hb : DE X b db) (hm : behindInMarks .NotIn b = false := by rfl) : DP X (.Compare a [.NotIn] [b] pos) (dTest (dOp (oInS true) da db)) := dp_cmp (op_notInS hu) sr_inS ha hb hm
end
end DL
namespace DL
open PySem PySem.Spec PyProof.Rows L2
/-! s.count(t), s.strip(t) -/
section
variable {X : Cx} {K : PySem.W.Frag}
def oCount : OM := fun x ds Q => match x, ds with
  | .str a, [.str b] => Q (.int (Txt.count a b))
  | _, _ => False
theorem sm_count : SndM K (fun x xs H Q => ∃ a b, x = .str a ∧ xs = [.str b] ∧ Q (.int (Txt.count a b)) H) oCount := fun H Hs x vx ds vs Q Q' s rx rs hq hd => by
  unfold oCount at hd
  split at hd
  · obtain ⟨v, rfl, h⟩ := rpA1 rs
    cases h
    exact ⟨_, _, rx, rfl, hq (.int _) _ _ _ (Stp.refl s) rfl hd⟩
  · exact hd.elim
theorem de_count {o e : Expr} {apos pos : Pos} {d d2 : DT} (ho : DE X o d) (he : DE X e d2) (hs : starEach [e] X.env = [(false, eval e X.env)] := by rfl) (hbase : attributeBase o "count" X.env (eval o X.env) = eval o X.env := by rfl) (hline : (apos.endLine == pos.line) = true := by rfl) :
    DE X (.Call (.Attribute o "count" apos) [e] [] pos) (dM1 oCount d d2) := .mk' (pe_m1 F.slot_str_count F.type_str_count mt_count ho.pe he.pe hs hbase hline) (snd_m1 sm_count ho.sn he.sn)
end
theorem parts_len (x : Str) (n : Nat) : ∀ (cuts : List Nat) (a : Nat), (PySem.StrLaws.partsFrom x n a cuts).length = cuts.length + 1
  | [], _ => rfl
  | c :: r, a => by show (PySem.StrLaws.partsFrom x n (c + n) r).length + 1 = _; rw [parts_len x n r]; rfl
theorem count_split (s : Str) : Txt.count s "." + 1 = ((Txt.split s ".").length : Int) := by
  have hy : TL.tl (Str.ofString ".") ≠ [] := by decide
  obtain ⟨f, g, hn⟩ := PySem.StrLaws.occ_tight s (Str.ofString ".") (TL.len1 hy)
  have key := TL.parts_spl hy _ 0 f (Nat.zero_le _) g hn
  rw [List.drop_zero, ← TL.split_spl s (Str.ofString ".") hy (TL.kind_ok (by decide +kernel))] at key
  have := congrArg List.length key
  rw [List.length_map, List.length_map, parts_len] at this
  unfold Txt.count
  omega
end DL
namespace DL
open PySem PySem.Spec PyProof.Rows L2
/-! `xs == []` and `xs != []` for a list of any items -/
section
variable {X : Cx} {K : PySem.W.Frag}
def rEqE (K : PySem.W.Frag) (neg : Bool) : R2 := fun x y H Q => ∃ (p q : Addr) (vs : List V), x = .ref p ∧ y = .ref q ∧ SqL K H p vs ∧ SqL K H q [] ∧ Q (.bl (xb neg vs.isEmpty)) H
theorem op_eqE (hu : X.A.units + 64 < cLine) : OpR X (compareOp .Eq) (rEqE X.K false) := by
  intro pins s st H x y v u Q I rx ry h
  obtain ⟨p, q, vs, rfl, rfl, hp, hq, hQ⟩ := h
  cases (show v = Value.ref p from rx)
  cases (show u = Value.ref q from ry)
  obtain ⟨its, r, pl, _⟩ := I.list hp
  obtain ⟨jts, r2, pl2, _⟩ := I.list hq
  cases r2
  have f : ∀ b : Bool, b = vs.isEmpty → EP X pins st Q (.bool b) s := fun b e => ⟨.bl vs.isEmpty, H, I, (show Value.bool b = Value.bool vs.isEmpty by rw [e]), hQ⟩
  cases r with
  | nil => exact SeqAt.RcAt.lists (e := fun _ => true) pl.isList pl2.isList rfl (by omega) (fun j h1 _ => absurd h1 (Nat.not_lt_zero _)) _ _ _ _ (f true rfl)
  | cons _ _ => exact SeqAt.RcAt.lists_lengths pl.isList pl2.isList (by simp) (by omega) _ _ _ _ (f false rfl)
theorem op_neE (hu : X.A.units + 64 < cLine) : OpR X (compareOp .NotEq) (rEqE X.K true) := by
  intro pins s st H x y v u Q I rx ry h
  obtain ⟨p, q, vs, rfl, rfl, hp, hq, hQ⟩ := h
  cases (show v = Value.ref p from rx)
  cases (show u = Value.ref q from ry)
  obtain ⟨its, r, pl, _⟩ := I.list hp
  obtain ⟨jts, r2, pl2, _⟩ := I.list hq
  cases r2
  have f : ∀ b : Bool, b = !vs.isEmpty → EP X pins st Q (.bool b) s := fun b e => ⟨.bl (!vs.isEmpty), H, I, (show Value.bool b = Value.bool (!vs.isEmpty) by rw [e]), hQ⟩
  cases r with
  | nil => exact SeqAt.RcNeAt.lists (e := fun _ => true) pl.isList pl2.isList rfl (by omega) (fun j h1 _ => absurd h1 (Nat.not_lt_zero _)) _ _ _ _ (f false rfl)
  | cons _ _ => exact SeqAt.RcNeAt.lists_lengths pl.isList pl2.isList (by simp) (by omega) _ _ _ _ (f true rfl)
def oEqE (neg : Bool) : O2 := fun x y Q => ∃ xs, x = .lst xs ∧ y = .lst [] ∧ Q (.bool (xb neg xs.isEmpty))
theorem sr_eqE {neg : Bool} : SndR K (rEqE K neg) (oEqE neg) := SndR.pure fun H Hs x y vx vy Q Q' s rx ry hq hd => by
  obtain ⟨xs, rfl, rfl, q⟩ := hd
  obtain ⟨p, vs, rfl, h1, h2⟩ := rx
  obtain ⟨q', ws, rfl, h3, h4⟩ := ry
  cases h4
  refine ⟨p, q', vs, rfl, rfl, SqL.of (s _ _ h1), SqL.of (s _ _ h3), ?_⟩
  have e : vs.isEmpty = xs.isEmpty := by
    have := h2.length
    cases vs <;> cases xs <;> simp_all
  rw [e]
  exact hq (.bool _) _ rfl q
theorem de_eqE {a b : Expr} {pos : Pos} {da db : DT} (hu : X.A.units + 64 < cLine) (ha : DE X a da) (hb : DE X b db) : DE X (.Compare a [.Eq] [b] pos) (dOp (oEqE false) da db) := de_cmp (op_eqE hu) sr_eqE ha hb (nomark _)
theorem dp_neE {a b : Expr} {pos : Pos} {da db : DT} (hu : X.A.units + 64 < cLine) (ha : DE X a da) (hb : DE X b db) : DP X (.Compare a [.NotEq] [b] pos) (dTest (dOp (oEqE true) da db)) := dp_cmp (op_neE hu) sr_eqE ha hb (nomark _)
end
end DL
namespace DL
open PySem PySem.Spec PyProof.Rows L2
section
variable {X : Cx} {K : PySem.W.Frag} {W : WX}
/-! a def that calls itself, before its first step -/
theorem cal_noneK {P : Program} {w : World} {mg : Str → Option Value} {base : Heap} {x : Str} {st : Stmt} {ps : List Str} (k : Nat) (d : Df K mg x st) (hb : ∀ f fd, Fun K x x st f fd → Binds K fd ps []) (sc : ∃ N, FnScope N ps (defScope st)) : Cal P w K mg base (k + 1) x ps (fun _ _ _ _ => False) := by
  obtain ⟨f, fd, F, m⟩ := d
  obtain ⟨N, sc⟩ := sc
  refine ⟨f, fd, F.ok sc (fun vs H Q E h => ?_) (fun cdv A outer s H vs Q E hr h => ?_), F.kp, hb f fd F, m⟩
  · obtain ⟨_, _, _, _, _, _, _, _, h, _⟩ := h; exact h.elim
  · obtain ⟨_, _, _, _, _, _, _, _, h, _⟩ := h; exact h.elim
/-! str(number) -/
def oStrI : OA := fun ds Q => match ds with
  | [.int i] => i.natAbs.log2 < 1920 ∧ Q (.str (toString i))
  | _ => False
theorem sc_strI : SndC K (fun xs H Q => ∃ i, xs = [.int i] ∧ i.natAbs.log2 < 1920 ∧ Q (.str (toString i)) H) oStrI := SndC.pure fun H Hs ds vs Q Q' s rx hq hd => by
  unfold oStrI at hd
  split at hd
  · obtain ⟨v, rfl, h⟩ := rpA1 rx
    cases h
    exact ⟨_, rfl, hd.1, hq (.str _) _ rfl hd.2⟩
  · exact hd.elim
/-! a, b = e1, e2, new lists among them -/
theorem notO_new {g : Option Dk} {H0 Hs0 H Hs : Hp} {r : Sg} {f : Nat} {st : L2.St} (s : SIn K g H0 Hs0 r f st H Hs) {p : Addr} (hp : H p = none) (j : Nat) (sl : Sl) (h1 : r[j]? = some sl) (h2 : sl.own = true) : st[j]? ≠ some (some (.ref p)) := fun h3 => by
  obtain ⟨a, e, _, _, q⟩ := s.ow j sl h1 h2
  rw [h3] at e
  cases e
  obtain ⟨o, ho, _⟩ := q.ld
  rw [hp] at ho; cases ho
def sParSL (i j : Nat) (a : DT) (b : DTA) : DTS := fun g r f E => a g (hide r) f fun x f1 => b g (hide r) f1 fun ys f2 => E.nx ((r.set i (.sh x)).set j (.ow ys)) f2
theorem ds_parSL {i j : Nat} {x y : Str} {a b : Expr} {da : DT} {db : DTA} {px py pt : Pos} {kt k2 : Nat} {pt2 pos : Pos} (hN : X.N.Nodup) (ha : DE X a da) (hb : DL' X b db) (hc : X.calm = true := by rfl) (hi : X.N[i]? = some x := by rfl) (hj : X.N[j]? = some y := by rfl) (hij : i ≠ j := by decide)
    (hx : X.env.scope.names.lookup x = some .local := by rfl) (hy : X.env.scope.names.lookup y = some .local := by rfl) (hst : starEach [a, b] X.env = (false, eval a X.env) :: starEach [b] X.env := by rfl) (hst2 : starEach [b] X.env = [(false, eval b X.env)] := by rfl)
    (hw : swappedStores [.Tuple [.Name x px, .Name y py] kt pt] (.Tuple [a, b] k2 pt2) X.env = pure (some [x, y]) := by rfl)
    (hs : swapsWithSole [.Tuple [.Name x px, .Name y py] kt pt] (.Tuple [a, b] k2 pt2) pos.line X.env = pure false := by rfl) :
    DS X (.Assign [.Tuple [.Name x px, .Name y py] kt pt] (.Tuple [a, b] k2 pt2) pos) (sParSL i j da db) := DS.mk' (ps_par hc hN hi hj hij hx hy (pa_cons ha.pe (pa_cons hb.pe pa_nil hst2) hst) hw hs) (fun g H0 Hs0 r f st H D E s e hd => by
  obtain ⟨Hs, s⟩ := s
  refine ha.sn g _ f st H Hs _ _ s.atHid (fun x f1 v H1 Hs1 t1 k1 r1 q1 => ?_) hd
  have s1 := s.afterHid t1 k1
  refine hb.sn g _ f1 st H1 Hs1 _ _ s1.atHid (fun ys f2 q ws H2 Hs2 t2 k2 hq nq hw hr2 q2 => ?_) q1
  have s2 := s1.afterHid t2 k2
  refine ⟨v, .ref q, rfl, e.nx _ f2 _ H2 ⟨_, (s2.set i (r1.mono t2.ext)).setOwn j (u := .ow ys) rfl (s.stp.none0 (t1.none0 hq)) nq (fun l sl hl h1 h2 h3 => ?_) ⟨ws, hw, hr2⟩⟩ q2⟩
  by_cases hil : i = l
  · subst hil
    by_cases hlt : i < r.length
    · rw [List.getElem?_set_self hlt] at h1
      cases h1
      cases h2
    · rw [List.getElem?_eq_none (by simpa using hlt)] at h1
      cases h1
  · rw [List.getElem?_set_ne hil] at h1 h3
    exact notO_new s (t1.none0 hq) l sl h1 h2 h3)
theorem snd_parLL {i j : Nat} {ta tb : TE} {a : DTA} {b : DTA} (hij : i ≠ j) (ha : SndL K ta a) (hb : SndL K tb b) : SndS K W (tPar i j (tCons ta (tCons tb tNil))) (sAsgLL i j a b) := fun g H0 Hs0 r f st H D E s e hd => by
  obtain ⟨Hs, s⟩ := s
  refine ha g _ f st H Hs _ _ s.atHid (fun xs f1 p vs H1 Hs1 t1 k1 hp np hv hr q1 => ?_) hd
  have s1 := s.afterHid t1 k1
  refine hb g _ f1 st H1 Hs1 _ _ s1.atHid (fun ys f2 q ws H2 Hs2 t2 k2 hq nq hw hr2 q2 => ?_) q1
  have s2 := s1.afterHid t2 k2
  have kp : ¬ Dk.has g p := s.dk.out hp
  have ep : H2 p = some (.lst vs) := t2.keep p _ hv kp
  have np2 : Hs2 p = none := t2.new p _ hv np
  have hq0 : H q = none := t1.none0 hq
  have hpq : p ≠ q := fun z => by rw [z, hq] at hv; cases hv
  have s4 := s2.setOwn i (u := .ow xs) rfl (s.stp.none0 hp) np2 (fun l sl _ h1 h2 => notO_new s hp l sl h1 h2) ⟨vs, ep, hr.mono t2.ext⟩
  refine ⟨.ref p, .ref q, rfl, e.nx _ f2 _ H2 ⟨_, s4.setOwn j (u := .ow ys) rfl (s.stp.none0 hq0) nq (fun l sl hl h1 h2 h3 => ?_) ⟨ws, hw, hr2⟩⟩ q2⟩
  by_cases hil : i = l
  · subst hil
    by_cases hlt : i < st.length
    · rw [List.getElem?_set_self hlt] at h3
      cases h3
      exact hpq rfl
    · rw [List.getElem?_eq_none (by simpa using hlt)] at h3
      cases h3
  · rw [List.getElem?_set_ne hil] at h1 h3
    exact notO_new s hq0 l sl h1 h2 h3
theorem ds_parLL {i j : Nat} {x y : Str} {a b : Expr} {da db : DTA} {px py pt : Pos} {kt k2 : Nat} {pt2 pos : Pos} (hN : X.N.Nodup) (ha : DL' X a da) (hb : DL' X b db) (hc : X.calm = true := by rfl) (hi : X.N[i]? = some x := by rfl) (hj : X.N[j]? = some y := by rfl) (hij : i ≠ j := by decide)
    (hx : X.env.scope.names.lookup x = some .local := by rfl) (hy : X.env.scope.names.lookup y = some .local := by rfl) (hst : starEach [a, b] X.env = (false, eval a X.env) :: starEach [b] X.env := by rfl) (hst2 : starEach [b] X.env = [(false, eval b X.env)] := by rfl)
    (hw : swappedStores [.Tuple [.Name x px, .Name y py] kt pt] (.Tuple [a, b] k2 pt2) X.env = pure (some [x, y]) := by rfl)
    (hs : swapsWithSole [.Tuple [.Name x px, .Name y py] kt pt] (.Tuple [a, b] k2 pt2) pos.line X.env = pure false := by rfl) :
    DS X (.Assign [.Tuple [.Name x px, .Name y py] kt pt] (.Tuple [a, b] k2 pt2) pos) (sAsgLL i j da db) := DS.mk' (ps_par hc hN hi hj hij hx hy (pa_cons ha.pe (pa_cons hb.pe pa_nil hst2) hst) hw hs) (snd_parLL hij ha.sn hb.sn)
end
end DL
namespace DL
open PySem PySem.Spec PyProof.Rows L2
/-! defs that give a list that nobody else has -/
abbrev DTL := Option Dk → Sg → Nat → (List D → Nat → Prop) → Prop
def NewL (K : PySem.W.Frag) (g : Option Dk) (H Hs : Hp) (Q : VK) (Q' : List D → Nat → Prop) : Prop := ∀ xs f' p us H' Hs', Stp g H Hs H' Hs' → DkOk g H' Hs' f' → H p = none → Hs' p = none → H' p = some (.lst us) → RpA K Hs' xs us → Q' xs f' → Q (.ref p) H'
section
variable {X : Cx} {K : PySem.W.Frag} {W : WX}
/-! bodies that end in such a list -/
def sOfL (K : PySem.W.Frag) (dl : DTL) : TS := fun D st H => ∃ g H0 Hs0 r f E, SOk K g H0 Hs0 r f st H ∧ NewL K g H0 Hs0 D.rt E ∧ dl g r f E
structure DSsL (X : Cx) (sts : List Stmt) (dl : DTL) : Prop where
  ps : PSs X sts (sOfL X.K dl)
theorem DSsL.mk' {sts : List Stmt} {t : TS} {dl : DTL} (p : PSs X sts t) (s : ∀ D st H g H0 Hs0 r f E, SOk X.K g H0 Hs0 r f st H → NewL X.K g H0 Hs0 D.rt E → dl g r f E → t D st H) : DSsL X sts dl :=
  ⟨⟨fun pins sh st H D I ⟨g, H0, Hs0, r, f, E, h1, h2, h3⟩ => p.run pins sh st H D I (s D st H g H0 Hs0 r f E h1 h2 h3)⟩⟩
/-! the same for a pair, its second part such a list -/
abbrev DTP := Option Dk → Sg → Nat → (D → List D → Nat → Prop) → Prop
def NewP (K : PySem.W.Frag) (g : Option Dk) (H Hs : Hp) (Q : VK) (Q' : D → List D → Nat → Prop) : Prop := ∀ d xs f' t v p us H' Hs', Stp g H Hs H' Hs' → DkOk g H' Hs' f' → H p = none → Hs' p = none → H' p = some (.lst us) → H' t = some (.tup [v, .ref p]) → Rp K Hs' d v → RpA K Hs' xs us → Q' d xs f' → Q (.ref t) H'
def sOfP (K : PySem.W.Frag) (dl : DTP) : TS := fun D st H => ∃ g H0 Hs0 r f E, SOk K g H0 Hs0 r f st H ∧ NewP K g H0 Hs0 D.rt E ∧ dl g r f E
structure DSsP (X : Cx) (sts : List Stmt) (dl : DTP) : Prop where
  ps : PSs X sts (sOfP X.K dl)
theorem DSsP.mk' {sts : List Stmt} {t : TS} {dl : DTP} (p : PSs X sts t) (s : ∀ D st H g H0 Hs0 r f E, SOk X.K g H0 Hs0 r f st H → NewP X.K g H0 Hs0 D.rt E → dl g r f E → t D st H) : DSsP X sts dl :=
  ⟨⟨fun pins sh st H D I ⟨g, H0, Hs0, r, f, E, h1, h2, h3⟩ => p.run pins sh st H D I (s D st H g H0 Hs0 r f E h1 h2 h3)⟩⟩
end
end DL
namespace DL
open PySem PySem.Spec PyProof.Rows L2
/-! a list of lists of texts in the making -/
structure LLs (H0 : Hp) (D : Addr) (ps : List Addr) (rows : List (List Str)) (H2 : Hp) : Prop where
  d0 : H0 D = none
  len : rows.length = ps.length
  dl : H2 D = some (.lst (ps.map V.ref))
  p0 : ∀ p ∈ ps, H0 p = none ∧ p ≠ D
  at_ : ∀ (i : Nat) (r : List Str) (p : Addr), rows[i]? = some r → ps[i]? = some p → H2 p = some (.lst (r.map V.str))
  nd : ps.Nodup
/-- with the shared part beside it -/
structure LLi (g : Option Dk) (H0 Hs0 : Hp) (D : Addr) (ps : List Addr) (rows : List (List Str)) (f : Nat) (H Hs : Hp) : Prop where
  l : LLs H0 D ps rows H
  stp : Stp g H0 Hs0 H Hs
  dk : DkOk g H Hs f
  out : ∀ b, b = D ∨ b ∈ ps → Hs b = none ∧ ¬ Dk.has g b
open Classical in
noncomputable def del (Hs : Hp) (D : Addr) (ps : List Addr) : Hp := fun b => if b = D ∨ b ∈ ps then none else Hs b
section
variable {K : PySem.W.Frag} {g : Option Dk} {H0 Hs0 : Hp} {D : Addr} {ps : List Addr} {rows : List (List Str)} {f f' : Nat} {H Hs H' Hs' : Hp}
theorem shr_in {b : Addr} (h : b = D ∨ b ∈ ps) : shr H Hs D ps b = H b := if_pos h
theorem shr_out {b : Addr} (h : ¬ (b = D ∨ b ∈ ps)) : shr H Hs D ps b = Hs b := if_neg h
theorem del_in {b : Addr} (h : b = D ∨ b ∈ ps) : del Hs D ps b = none := if_pos h
theorem del_out {b : Addr} (h : ¬ (b = D ∨ b ∈ ps)) : del Hs D ps b = Hs b := if_neg h
theorem LLs.n0 (h : LLs H0 D ps rows H) {b : Addr} (hb : b = D ∨ b ∈ ps) : H0 b = none := hb.elim (fun e => e ▸ h.d0) fun e => (h.p0 b e).1
theorem LLi.sub (h : LLi g H0 Hs0 D ps rows f H Hs) : Same (shr H Hs D ps) H := fun b o e => by
  by_cases hb : b = D ∨ b ∈ ps
  · rw [shr_in hb] at e; exact e
  · rw [shr_out hb] at e; exact h.stp.sub b o e
theorem LLi.ext (h : LLi g H0 Hs0 D ps rows f H Hs) : Same Hs (shr H Hs D ps) := fun b o e => by
  have hb : ¬ (b = D ∨ b ∈ ps) := fun hb => by rw [(h.out b hb).1] at e; cases e
  rw [shr_out hb]; exact e
theorem LLi.sh (h : LLi g H0 Hs0 D ps rows f H Hs) : Stp g H0 Hs0 H (shr H Hs D ps) where
  sub := h.sub
  ext := h.stp.ext.trans h.ext
  keep := h.stp.keep
  there := h.stp.there
  new := fun b o e n => by
    have hb : ¬ (b = D ∨ b ∈ ps) := fun hb => by rw [h.l.n0 hb] at e; cases e
    rw [shr_out hb]; exact h.stp.new b o e n
theorem LLi.shk (h : LLi g H0 Hs0 D ps rows f H Hs) : DkOk g H (shr H Hs D ps) f := by
  have q := h.dk
  have o := h.out
  cases g with
  | none => trivial
  | some k =>
    obtain ⟨q0, q1, q2, q3⟩ := q
    have nn : ∀ b, Dk.has (some k) b → ¬ (b = D ∨ b ∈ ps) := fun b hb z => (o b z).2 hb
    exact ⟨q0, by rw [shr_out (nn _ (.inl rfl))]; exact q1, by rw [shr_out (nn _ (.inr (.inl rfl)))]; exact q2, by rw [shr_out (nn _ (.inr (.inr rfl)))]; exact q3⟩
abbrev rowsL (rows : List (List Str)) : DL.D := .lst (rows.map fun r => .lst (r.map DL.D.str))
theorem LLi.rp (h : LLi g H0 Hs0 D ps rows f H Hs) : Rp K (shr H Hs D ps) (rowsL rows) (.ref D) := by
  refine ⟨D, ps.map V.ref, rfl, by rw [shr_in (.inl rfl)]; exact h.l.dl, ?_⟩
  have gen : ∀ (ks : List (List Str)) (qs : List Addr), ks.length = qs.length → (∀ q ∈ qs, q ∈ ps) → (∀ (i : Nat) (r : List Str) (p : Addr), ks[i]? = some r → qs[i]? = some p → H p = some (.lst (r.map V.str))) → RpA K (shr H Hs D ps) (ks.map fun r => .lst (r.map DL.D.str)) (qs.map V.ref) := by
    intro ks
    induction ks with
    | nil => intro qs hl _ _; cases qs with
      | nil => rfl
      | cons _ _ => simp at hl
    | cons k ks ih =>
      intro qs hl hm hat
      cases qs with
      | nil => simp at hl
      | cons q qs =>
        refine ⟨.ref q, qs.map V.ref, rfl, ⟨q, k.map V.str, rfl, ?_, RpA.map (f := DL.D.str) (g := V.str) (fun x => rfl) k⟩, ih qs (by simpa using hl) (fun z hz => hm z (by simp [hz])) fun i m p a b => hat (i + 1) m p (by simpa using a) (by simpa using b)⟩
        rw [shr_in (.inr (hm q (by simp)))]
        exact hat 0 k q rfl rfl
  exact gen rows ps h.l.len (fun _ h => h) h.l.at_
/-- after an expression that saw it -/
theorem LLi.un (h : LLi g H0 Hs0 D ps rows f H Hs) (s0 : Same Hs0 H0) (s : Stp g H (shr H Hs D ps) H' Hs') (k : DkOk g H' Hs' f') : LLi g H0 Hs0 D ps rows f' H' (del Hs' D ps) ∧ Same Hs (del Hs' D ps) := by
  have st := h.sh.trans s
  have kp : ∀ b, b = D ∨ b ∈ ps → ∀ o, H b = some o → H' b = some o := fun b hb o e => s.keep b o e (h.out b hb).2
  refine ⟨⟨⟨h.l.d0, h.l.len, kp D (.inl rfl) _ h.l.dl, h.l.p0, fun i r p a b => kp p (.inr (List.mem_of_getElem? b)) _ (h.l.at_ i r p a b), h.l.nd⟩, ⟨fun b o e => ?_, fun b o e => ?_, st.keep, st.there, fun b o e n => ?_⟩, ?_, fun b hb => ⟨del_in hb, (h.out b hb).2⟩⟩, fun b o e => ?_⟩
  · by_cases hb : b = D ∨ b ∈ ps
    · rw [del_in hb] at e; cases e
    · rw [del_out hb] at e; exact st.sub b o e
  · have hb : ¬ (b = D ∨ b ∈ ps) := fun hb => by have := s0 b o e; rw [h.l.n0 hb] at this; cases this
    rw [del_out hb]; exact st.ext b o e
  · by_cases hb : b = D ∨ b ∈ ps
    · exact del_in hb
    · rw [del_out hb]; exact st.new b o e n
  · cases g with
    | none => trivial
    | some d =>
      obtain ⟨q0, q1, q2, q3⟩ := k
      have nn : ∀ b, Hs' b = none → del Hs' D ps b = none := fun b e => by
        by_cases hb : b = D ∨ b ∈ ps
        · exact del_in hb
        · rw [del_out hb]; exact e
      exact ⟨q0, nn _ q1, nn _ q2, nn _ q3⟩
  · have hb : ¬ (b = D ∨ b ∈ ps) := fun hb => by rw [(h.out b hb).1] at e; cases e
    rw [del_out hb]
    exact s.ext b o (h.ext b o e)
theorem LLi.step (h : LLi g H0 Hs0 D ps rows f H Hs) (s : Stp g H Hs H' Hs') (k : DkOk g H' Hs' f') : LLi g H0 Hs0 D ps rows f' H' Hs' := by
  have kp : ∀ b, b = D ∨ b ∈ ps → ∀ o, H b = some o → H' b = some o := fun b hb o e => s.keep b o e (h.out b hb).2
  have ex : ∀ b, b = D ∨ b ∈ ps → ∃ o, H b = some o := fun b hb => by
    rcases hb with rfl | hb
    · exact ⟨_, h.l.dl⟩
    · obtain ⟨i, hi, e⟩ := List.getElem_of_mem hb
      have hr : i < rows.length := by rw [h.l.len]; exact hi
      exact ⟨_, h.l.at_ i rows[i] b (List.getElem?_eq_getElem hr) (by rw [List.getElem?_eq_getElem hi, e])⟩
  refine ⟨⟨h.l.d0, h.l.len, kp D (.inl rfl) _ h.l.dl, h.l.p0, fun i r p a b => kp p (.inr (List.mem_of_getElem? b)) _ (h.l.at_ i r p a b), h.l.nd⟩, h.stp.trans s, k, fun b hb => ?_⟩
  obtain ⟨o, e⟩ := ex b hb
  exact ⟨s.new b o e (h.out b hb).1, (h.out b hb).2⟩
theorem LLi.nodk (h : LLi g H0 Hs0 D ps rows f H Hs) {f0 : Nat} (k0 : DkOk g H0 Hs0 f0) {p : Addr} (hp : H p = none) : H0 p = none ∧ Hs p = none ∧ ¬ Dk.has g p ∧ p ≠ D ∧ p ∉ ps := by
  have n0 : H0 p = none := none_back h.stp hp
  refine ⟨n0, same_none h.stp.sub hp, k0.out n0, fun e => ?_, fun e => ?_⟩
  · subst e; rw [h.l.dl] at hp; cases hp
  · obtain ⟨i, hi, e2⟩ := List.getElem_of_mem e
    have hr : i < rows.length := by rw [h.l.len]; exact hi
    have := h.l.at_ i rows[i] p (List.getElem?_eq_getElem hr) (by rw [List.getElem?_eq_getElem hi, e2])
    rw [hp] at this; cases this
theorem LLi.start {f0 : Nat} (s0 : Same Hs0 H0) (k0 : DkOk g H0 Hs0 f0) {H Hs : Hp} (st : Stp g H0 Hs0 H Hs) (k : DkOk g H Hs f) {p D : Addr} {x : Str} (hp : H p = none) (hD : upd H p (.lst [V.str x]) D = none) :
    LLi g H0 Hs0 D [p] [[x]] f (upd (upd H p (.lst [V.str x])) D (.lst [V.ref p])) Hs := by
  have pD : p ≠ D := fun e => by subst e; rw [upd_same] at hD; cases hD
  have hD' : H D = none := by rwa [upd_ne (fun e => pD e.symm)] at hD
  have p0 := none_back st hp
  have d0 := none_back st hD'
  have h1 : (upd (upd H p (.lst [V.str x])) D (.lst [V.ref p])) p = some (.lst [V.str x]) := by rw [upd_ne pD, upd_same]
  refine ⟨⟨d0, rfl, upd_same, fun q hq => ?_, fun i r q a b => ?_, by simp⟩, (st.mut p0 (same_none st.sub hp)).mut d0 (same_none st.sub hD'), (k.mut (k0.out p0)).mut (k0.out d0), fun b hb => ?_⟩
  · rw [List.mem_singleton.mp hq]; exact ⟨p0, pD⟩
  · cases i with
    | zero => cases a; cases b; exact h1
    | succ i => simp at a
  · rcases hb with rfl | hb
    · exact ⟨same_none st.sub hD', k0.out d0⟩
    · rw [List.mem_singleton.mp hb]; exact ⟨same_none st.sub hp, k0.out p0⟩
theorem LLi.add {f0 : Nat} (k0 : DkOk g H0 Hs0 f0) (h : LLi g H0 Hs0 D ps rows f H Hs) {p : Addr} {x : Str} (hp : H p = none) :
    LLi g H0 Hs0 D (ps ++ [p]) (rows ++ [[x]]) f (upd (upd H p (.lst [V.str x])) D (.lst ((ps ++ [p]).map V.ref))) Hs := by
  obtain ⟨n0, ns, nk, pD, pp⟩ := h.nodk k0 hp
  have od := h.out D (.inl rfl)
  refine ⟨⟨h.l.d0, by rw [List.length_append, List.length_append, h.l.len]; rfl, upd_same, fun q hq => ?_, fun i r q a b => ?_, ?_⟩, (h.stp.mut n0 ns).mut h.l.d0 od.1, (h.dk.mut nk).mut od.2, fun b hb => ?_⟩
  · rcases List.mem_append.mp hq with e | e
    · exact h.l.p0 q e
    · rw [List.mem_singleton.mp e]; exact ⟨n0, pD⟩
  · have hqD : q ≠ D := by
      rcases List.mem_append.mp (List.mem_of_getElem? b) with e | e
      · exact (h.l.p0 q e).2
      · rw [List.mem_singleton.mp e]; exact pD
    rw [upd_ne hqD]
    by_cases hi : i < ps.length
    · rw [List.getElem?_append_left hi] at b
      rw [List.getElem?_append_left (by rw [h.l.len]; exact hi)] at a
      have hqp : q ≠ p := fun e => pp (e ▸ List.mem_of_getElem? b)
      rw [upd_ne hqp]
      exact h.l.at_ i r q a b
    · have hlen : i = ps.length := by
        have := (List.getElem?_eq_some_iff.mp b).1
        rw [List.length_append, List.length_singleton] at this
        omega
      rw [List.getElem?_append_right (by omega), hlen, Nat.sub_self] at b
      rw [List.getElem?_append_right (by rw [h.l.len]; omega), hlen, h.l.len, Nat.sub_self] at a
      cases a
      cases b
      rw [upd_same]; rfl
  · rw [List.nodup_append]
    exact ⟨h.l.nd, by simp, fun a ha b hb e => pp (by rw [List.mem_singleton.mp hb] at e; exact e ▸ ha)⟩
  · rcases hb with hb | hb
    · exact h.out b (.inl hb)
    · rcases List.mem_append.mp hb with e | e
      · exact h.out b (.inr e)
      · rw [List.mem_singleton.mp e]; exact ⟨ns, nk⟩
theorem LLi.app (h : LLi g H0 Hs0 D ps rows f H Hs) {i : Nat} {p : Addr} {r : List Str} {x : Str} (hi : rows[i]? = some r) (hp : ps[i]? = some p) :
    LLi g H0 Hs0 D ps (rows.set i (r ++ [x])) f (upd H p (.lst ((r ++ [x]).map V.str))) Hs := by
  have hm := List.mem_of_getElem? hp
  obtain ⟨p0, pD⟩ := h.l.p0 p hm
  have op := h.out p (.inr hm)
  refine ⟨⟨h.l.d0, by rw [List.length_set]; exact h.l.len, by rw [upd_ne (fun e => pD e.symm)]; exact h.l.dl, h.l.p0, fun j s q a b => ?_, h.l.nd⟩, h.stp.mut p0 op.1, h.dk.mut op.2, h.out⟩
  by_cases hij : i = j
  · subst hij
    rw [hp] at b
    cases b
    rw [List.getElem?_set_self (List.getElem?_eq_some_iff.mp hi).1] at a
    cases a
    exact upd_same
  · rw [List.getElem?_set_ne hij] at a
    have hqp : q ≠ p := fun e => by
      subst e
      obtain ⟨h1, e1⟩ := List.getElem?_eq_some_iff.mp hp
      obtain ⟨h2, e2⟩ := List.getElem?_eq_some_iff.mp b
      exact hij ((List.getElem_inj h.l.nd).mp (e1.trans e2.symm))
    rw [upd_ne hqp]
    exact h.l.at_ j s q a b
end
theorem nxt {g : Option Dk} {r : Sg} {f : Nat} {E : DEnds} (h : E.nx r f) : sNext g r f E := h
section
variable {K : PySem.W.Frag} {Hs : Hp}
theorem SlOk.nil : SlOk K Hs [] [] := ⟨rfl, fun i s d h => by simp at h⟩
theorem SlOk.sh {r : Sg} {st : L2.St} {d : D} {v : V} (hv : Rp K Hs d v) (h : SlOk K Hs r st) : SlOk K Hs (.sh d :: r) (some v :: st) :=
  ⟨by rw [List.length_cons, List.length_cons, h.len], fun i s e h1 h2 => by
    cases i with
    | zero => cases h1; cases h2; exact ⟨v, rfl, hv⟩
    | succ i => exact h.get i s e (by simpa using h1) h2⟩
theorem SlOk.no {r : Sg} {st : L2.St} {o : Option V} (h : SlOk K Hs r st) : SlOk K Hs (.no :: r) (o :: st) :=
  ⟨by rw [List.length_cons, List.length_cons, h.len], fun i s e h1 h2 => by
    cases i with
    | zero => cases h1; cases h2
    | succ i => exact h.get i s e (by simpa using h1) h2⟩
end
end DL
namespace DL
open PySem PySem.Spec PyProof.Rows L2
/-! the top by one run: what is looked at, as truth values over a part of the heap -/
abbrev FrB : Type := PySem.W.Frag → Bool
abbrev AlY : Type := He.AlD × List (Option (List (Option (Str × Int))))
def obsY (ex : List FrB) (fn : List He5.DefA) (ts : List He.Tab) (K : PySem.W.Frag) : AlY :=
  (((ex.all fun f => f K) && fn.all fun d => d.ok K, fn.map fun d => He5.fnA K (d.at_ K)), ts.map fun t => He.dicW K (t.1 K))
def valY (fn : List He5.DefA) (ts : List He.Tab) (w : World) : AlY := ((true, fn.map He5.DefA.val), ts.map fun t => some (He.keysIn w.params t.2))
def SaysY (ex : List FrB) (fn : List He5.DefA) (ts : List He.Tab) (w : World) (K : PySem.W.Frag) : Prop := obsY ex fn ts K = valY fn ts w
/-! what the main names reach in n steps, each address once; the seen ones are the bits of a number -/
noncomputable def putY {β : Type} (l : List Addr) : Nat → List Addr → (Nat → List Addr → β) → β :=
  List.rec (motive := fun _ => Nat → List Addr → (Nat → List Addr → β) → β) (fun m acc k => k m acc)
    (fun a _ ih m acc k => HandSHeadRun.frNat a fun a => Bool.rec (motive := fun _ => β) (HandSHeadRun.frNat (Nat.lor m (Nat.shiftLeft 1 a)) fun m => ih m (a :: acc) k) (ih m acc k) (Nat.beq (Nat.land (Nat.shiftRight m a) 1) 1)) l
noncomputable def growY {β : Type} (g : Addr → Option Obj) (l : List Addr) : Nat → List Addr → (Nat → List Addr → β) → β :=
  List.rec (motive := fun _ => Nat → List Addr → (Nat → List Addr → β) → β) (fun m acc k => k m acc)
    (fun a _ ih m acc k => Option.rec (motive := fun _ => β) (ih m acc k) (fun o => putY (He.refsD o) m acc fun m acc => ih m acc k) (g a)) l
noncomputable def asY (g : Addr → Option Obj) (n : Nat) : List Addr → Nat → List Addr :=
  Nat.rec (motive := fun _ => List Addr → Nat → List Addr) (fun fr _ => fr) (fun _ ih fr m => fr ++ growY g fr m [] fun m new => ih new m) n
noncomputable def obsYG (n : Nat) (ex : List FrB) (fn : List He5.DefA) (ts : List He.Tab) (g : Addr → Option Obj) : AlY := obsY ex fn ts (He.frG g (asY g n [mainGlobals] 0 ++ [cStatics]))
noncomputable def hookY (n : Nat) (ex : List FrB) (fn : List He5.DefA) (ts : List He.Tab) : PySem.W.Hook where
  α := AlY
  obs := fun s => obsYG n ex fn ts s.heap.get?
  val := fun w => valY fn ts w
  says := fun w h => ∃ K : PySem.W.Frag, K.In h ∧ SaysY ex fn ts w K
  of := fun _ _ e => ⟨_, He.frG_in, e⟩
  keeps := fun _ _ _ ⟨K, hK, c⟩ k => ⟨K, PySem.W.Frag.In.keeps hK k, c⟩
theorem obsYG_eq {n : Nat} {ex : List FrB} {fn : List He5.DefA} {ts : List He.Tab} {g : Addr → Option Obj} {s : Shared} (h : ∀ a, g a = s.heap.get? a) : obsYG n ex fn ts g = (hookY n ex fn ts).obs s := by
  have e : g = s.heap.get? := funext h
  rw [e] <;> rfl
section
variable {ex : List FrB} {fn : List He5.DefA} {ts : List He.Tab} {w : World} {K : PySem.W.Frag}
theorem SaysY.fact (c : SaysY ex fn ts w K) (i : Nat) {f : FrB} (h : ex[i]? = some f := by rfl) : f K = true := by
  have c1 : ((ex.all fun f => f K) && fn.all fun d => d.ok K) = true := congrArg (fun z : AlY => z.1.1) c
  rw [Bool.and_eq_true] at c1
  exact List.all_eq_true.mp c1.1 f (List.mem_of_getElem? h)
theorem SaysY.def_ (c : SaysY ex fn ts w K) (i : Nat) {d : He5.DefA} (h : fn[i]? = some d := by rfl) : ∃ fd, FunD K d.name d.qual d.params d.body d.scope (d.dvs K) (d.kws K) (d.at_ K) fd := by
  have c1 : ((ex.all fun f => f K) && fn.all fun d => d.ok K) = true := congrArg (fun z : AlY => z.1.1) c
  rw [Bool.and_eq_true] at c1
  have e : fn.map (fun d => He5.fnA K (d.at_ K)) = fn.map He5.DefA.val := congrArg (fun z : AlY => z.1.2) c
  have e2 : (fn.map fun d => He5.fnA K (d.at_ K))[i]? = (fn.map He5.DefA.val)[i]? := by rw [e]
  rw [List.getElem?_map, List.getElem?_map, h] at e2
  exact He5.DefA.funD (Option.some.inj e2) (List.all_eq_true.mp c1.2 d (List.mem_of_getElem? h))
/-! what stands in the records -/
theorem raw_fn {x q : Str} {st : Stmt} {f : Addr} {fd : FuncData} {kws : List (Str × V)} (F : FunD K x q (defArgs st) (defBody st) (defScope st) [] kws f fd) :
    ∃ (oc : Value) (od : Option Addr) (kV dc pm : Value) (an : Option Addr) (cd ct : Value) (sl : Array (Option Value)), K.lookup f = some ⟨oc, od, .func (PySem.W.fnOf x q (defArgs st) (defBody st) (defScope st) .none kV dc pm an cd ct), sl⟩ ∧ PySem.W.codeIn K cd q = true ∧ PySem.W.keepIn K (.ref f) = true := by
  obtain ⟨oc, od, dV, kV, doc, pm, an, cdv, ct, osl, e, l, c, hd, _⟩ := F.ex
  rcases hd with ⟨_, e2⟩ | ⟨e2, _⟩
  · subst e2
    subst e
    exact ⟨oc, od, kV, doc, pm, an, cdv, ct, osl, l, c, F.kp⟩
  · exact absurd rfl e2
/-- the address, and the rest, of a record that wraps -/
def rcA (K : PySem.W.Frag) (p : Addr) (T : String) : Addr := match PySem.W.recIn K p T with
  | some (.ref a :: _) => a
  | _ => 0
def rcR (K : PySem.W.Frag) (p : Addr) (T : String) : List Value := match PySem.W.recIn K p T with
  | some (_ :: r) => r
  | _ => []
def tkOf (K : PySem.W.Frag) (x : Str) : Tok := match PySem.W.nsIn K mainGlobals x with
  | some (some (.int _ t)) => t
  | some (some (.str _ t)) => t
  | _ => default
/-! dicts of the text -/
end
theorem walk_ofYG {l : PySem.W.OpenLaw} {k : Nat} {q : Program} {loose : List Str} {XP : (Str → Option Value) → Heap → Prop} {ex : List FrB} {fn : List He5.DefA} {ts : List He.Tab} {d : DefRec} {x : Str}
    (hn : l.most = some 63) (hdf : d.params.defaults = []) (hr : Room k callerA)
    (F : ∀ (w : World) (mg : Str → Option Value) (fa : Addr) (h : Heap) (K : PySem.W.Frag), K.In h → SaysY ex fn ts w K → h.Ns mainGlobals mg → mg d.name = some (.ref fa) →
      ∃ fd : FuncData, (∀ (s : Shared) (u : Value), BindsTo s fd ⟨[u], []⟩ [(x, u)]) ∧ ∀ base : Heap, K.In base → base.Ns mainGlobals mg → FnG l.prog w K mg base k fa fd [x] (spLaw K)) :
    PySem.W.WalkO q loose XP (fun w h => ∃ K : PySem.W.Frag, K.In h ∧ SaysY ex fn ts w K) l.row.toRowW d [] (fun f vs => PySem.call f vs) :=
  Att.attach_call hn hdf fun w s₀ s₁ mg mb fa o pm cd doc a vs ns G Y ho hd hcd hmg hobj hints hlen hg => by
    obtain ⟨K, KX, c⟩ := Y
    obtain ⟨fd, hb, hF⟩ := F w mg fa _ K KX c G.T.g hmg
    exact law_callG KX G.T.g G.T.b G.T.builtins G.T.nolimit hg hobj hints hlen hr hF hb
end DL
namespace DL
open PySem PySem.Spec PyProof.Rows L2
/-! a < b < c of numbers -/
section
variable {X : Cx}
theorem dp_ltlt {a b c : Expr} {pos : Pos} {da db dc : DT} (ha : DE X a da) (hb : DE X b db) (hc : DE X c dc) (hm : lastMarks [CmpOp.Lt, CmpOp.Lt] [b, c] = false := by with_unfolding_all rfl) : DP X (.Compare a [.Lt, .Lt] [b, c] pos) (dTest (dChain (oI0 fun i j => .bool (decide (i < j))) (oI0 fun i j => .bool (decide (i < j))) da db dc)) := dp_chain op_lt op_lt (sr_I0 fun _ _ _ => rfl) (sr_I0 fun _ _ _ => rfl) ha hb hc hm
end
end DL
namespace PySem.SeqAt
open AutoSeq1 (wpAny_loadPart')
open MeetsSeq MeetsSeq2 MeetsSeq3 SeqRoads2
theorem dlTupDict1 (l b : Addr) (items : Array Value) (n : Nat) (es : Array DictEntry) (ep : Nat) (dd dd2 : Option Addr) (sl sl2 : Array (Option Value)) :
    Meets (Builtin.«tuple.__eq__» ⟨[.ref l, .ref b], []⟩) (fun _ R s => s.heap.get? l = some { cls := .type "tuple", dict := dd, data := .seq items n, slots := sl } ∧ s.heap.get? b = some { cls := .type "dict", dict := dd2, data := .dict es ep, slots := sl2 } ∧ R (.ok (.ret .notImplemented)) s) :=
  .of_wp fun prog w A R s h => by
    obtain ⟨hp, g, d, tk, os⟩ := s
    obtain ⟨hl, hb, h⟩ := h
    have f1 := F.sub_dict_tuple
    wp_walk using wpAny_loadPart' hl, wpAny_loadPart' hb, wpAny_load hb
    exact ⟨_, rfl, h⟩
theorem dlTupDict2 (l b : Addr) (items : Array Value) (n : Nat) (es : Array DictEntry) (ep : Nat) (dd dd2 : Option Addr) (sl sl2 : Array (Option Value)) :
    Meets (Builtin.«dict.__eq__» ⟨[.ref b, .ref l], []⟩) (fun _ R s => s.heap.get? l = some { cls := .type "tuple", dict := dd, data := .seq items n, slots := sl } ∧ s.heap.get? b = some { cls := .type "dict", dict := dd2, data := .dict es ep, slots := sl2 } ∧ R (.ok (.ret .notImplemented)) s) :=
  .of_wp fun prog w A R s h => by
    obtain ⟨hp, g, d, tk, os⟩ := s
    obtain ⟨hl, hb, h⟩ := h
    have f1 := F.sub_tuple_dict
    wp_walk using wpAny_loadPart' hl, wpAny_loadPart' hb, wpAny_load hl
    exact ⟨_, rfl, h⟩
theorem dlTupDict {A : Around} {s : Shared} {l b : Addr} {items : Array Value} {es : Array DictEntry} {ep : Nat} {dd : Option Addr} {sl : Array (Option Value)} (hl : s.heap.IsTuple l items)
    (ho2 : s.heap.get? b = some { cls := .type "dict", dict := dd, data := .dict es ep, slots := sl }) (hu : A.units < cLine) : EqAt A s (.ref l) (.ref b) false := by
  obtain ⟨⟨cls, dd1, data, sl1⟩, ho, hc, n, hd⟩ := id hl
  simp only at hc hd
  subst hc hd
  have hne : l ≠ b := fun e => by
    subst e
    rw [ho] at ho2
    have e := congrArg Obj.cls (Option.some.inj ho2)
    exact absurd e (by simp)
  refine .of_refs hne fun prog w E Q h => ?_
  exact (rc_eq_decline_or (k := false) ⟨_, ho, rfl⟩ ⟨_, ho2, rfl⟩ (by decide) F.sub_dict_tuple F.slot_tuple_eq F.slot_dict_eq_refl
    (fun _ hq => call_meets F.slot_tuple_eq ⟨_, ho, rfl⟩ F.entry_tuple_eq (F.args_tuple_eq_2 _ _) (dlTupDict1 l b items n es ep dd1 dd sl1 sl) ⟨ho, ho2, hq⟩)
    (fun _ hq => call_meets F.slot_dict_eq_refl ⟨_, ho2, rfl⟩ F.entry_dict_eq (F.args_dict_eq_2 _ _) (dlTupDict2 l b items n es ep dd1 dd sl1 sl) ⟨ho, ho2, hq⟩)
    (fun _ hq => wpAny_isSame_ref_other' hne ho ho2 (by simp) hq) (.inr hu) h)
end PySem.SeqAt
namespace DL
open PySem PySem.Spec PyProof.Rows L2
/-! any plain value in a tuple or a list of pairs of texts -/
def usEq (u : Us) : D → Bool
  | .tup ys => eqPT u.1 u.2 ys
  | _ => false
theorem usEq_iff {u : Us} {x : D} : usEq u x = true ↔ x = pairD u := by
  cases x with
  | tup ys =>
    match ys with
    | [] => exact ⟨(by intro h; cases h), (by intro h; cases h)⟩
    | [_] => exact ⟨(by intro h; cases h), (by intro h; cases h)⟩
    | [c, d] =>
      show (strEq u.1 c && strEq u.2 d) = true ↔ _
      rw [Bool.and_eq_true]
      constructor
      · rintro ⟨h1, h2⟩
        cases c <;> first | (cases h1; done) | skip
        cases d <;> first | (cases h2; done) | skip
        have h1 := of_decide_eq_true h1
        have h2 := of_decide_eq_true h2
        rw [← h1, ← h2]; rfl
      · intro h
        obtain ⟨rfl, rfl⟩ : c = .str u.1 ∧ d = .str u.2 := by simpa [pairD] using h
        exact ⟨decide_eq_true rfl, decide_eq_true rfl⟩
    | _ :: _ :: _ :: _ => exact ⟨(by intro h; cases h), (by intro h; cases h)⟩
  | _ => exact ⟨(by intro h; cases h), (by intro h; cases h)⟩
section
variable {X : Cx} {K : PySem.W.Frag} {pins : List (Addr × Obj)} {st : L2.St} {H Hs : Hp} {s : Shared}
/-- the value is the pair u -/
def IsU (s : Shared) (y : Value) (u : Us) : Prop := ∃ (p : Addr) (ta tb : Tok), y = .ref p ∧ s.heap.IsTuple p #[.str u.1 ta, .str u.2 tb]
theorem isTup_fun {h : Heap} {p : Addr} {a b : Array Value} (h1 : h.IsTuple p a) (h2 : h.IsTuple p b) : a = b := by
  obtain ⟨o, ho, _, n, hd⟩ := h1
  obtain ⟨o2, ho2, _, n2, hd2⟩ := h2
  rw [ho] at ho2
  cases ho2
  rw [hd] at hd2
  cases hd2
  rfl
theorem IsU.uniq {y : Value} {u w : Us} (h1 : IsU s y u) (h2 : IsU s y w) : u = w := by
  obtain ⟨p, ta, tb, rfl, t1⟩ := h1
  obtain ⟨p2, ta2, tb2, e, t2⟩ := h2
  cases e
  have e := isTup_fun t1 t2
  have e := congrArg Array.toList e
  simp only [List.cons.injEq, Value.str.injEq] at e
  exact Prod.ext e.1.1 e.2.1.1
theorem rp_str_inv {d : D} {k : Str} (ht : d.tyd = true) (h : Rp K H d (.str k)) : d = .str k := by
  cases d with
  | str c => cases h; rfl
  | none => cases h
  | bool b => cases h
  | int i => cases h
  | tup ds => obtain ⟨_, _, e, _⟩ := h; cases e
  | lst ds => obtain ⟨_, _, e, _⟩ := h; cases e
  | dct _ _ => obtain ⟨_, _, e, _⟩ := h; cases e
  | obj _ _ _ => cases ht
  | exn _ _ _ => cases ht
  | any _ => cases ht
theorem relV_str_inv {v : V} {k : Str} {t : Tok} (h : RelV v (.str k t)) : v = .str k := by
  cases v <;> first
    | (obtain ⟨t', e⟩ := (show ∃ t', Value.str k t = Value.str _ t' from h); cases e; rfl)
    | (cases h; done)
    | (obtain ⟨t', e⟩ := h; cases e; done)
theorem pair_eqAt {u : Us} {y : D} {v : V} {q u' : Value} (I : Inv X pins st H s) (sm : Same Hs H) (hq : IsU s q u) (hr : Rp X.K Hs y v) (rv : RelV v u') (ht : y.tyd = true) (A : Around) (hu : A.units + 2 < cLine) : SeqAt.EqAt A s q u' (usEq u y) := by
  have hu' : A.units < cLine := by omega
  obtain ⟨p, ta, tb, rfl, tp⟩ := hq
  cases y with
  | none => cases hr; cases (show u' = Value.none from rv); exact .tuple_none tp hu'
  | bool b => cases hr; cases (show u' = Value.bool b from rv); exact .tuple_bool b tp hu'
  | int i => cases hr; obtain ⟨t', rfl⟩ := (show ∃ t, u' = Value.int i t from rv); exact .tuple_int i t' tp hu'
  | str c => cases hr; obtain ⟨t', rfl⟩ := (show ∃ t, u' = Value.str c t from rv); exact .tuple_str c t' tp hu'
  | tup ys =>
    obtain ⟨b, ws, rfl, h1, h2⟩ := hr
    cases (show u' = Value.ref b from rv)
    obtain ⟨jts, r2, pl2, hz⟩ := I.tuple ((tp_sq sm h1))
    have hlen : jts.length = ys.length := by rw [← r2.length, ← h2.length]
    have el : ∀ (j : Nat) (h : j < jts.length), ∃ d, ys[j]? = some d ∧ ∃ w, Rp X.K Hs d w ∧ RelV w jts[j] := fun j h => by
      have hw : j < ws.length := by rw [r2.length]; exact h
      obtain ⟨d, hd, hrd⟩ := h2.getV (i := j) (List.getElem?_eq_getElem hw)
      obtain ⟨u1, hu1, ru⟩ := r2.get (i := j) (List.getElem?_eq_getElem hw)
      have e := (List.getElem?_eq_some_iff.mp hu1).2
      exact ⟨d, hd, _, hrd, by rw [e]; exact ru⟩
    by_cases hpb : p = b
    · subst hpb
      have e := congrArg Array.toList (isTup_fun tp pl2)
      have e : jts = [.str u.1 ta, .str u.2 tb] := by simpa using e.symm
      subst e
      obtain ⟨d0, hd0, w0, hr0, rv0⟩ := el 0 (Nat.zero_lt_succ _)
      obtain ⟨d1, hd1, w1, hr1, rv1⟩ := el 1 (Nat.lt_succ_self _)
      have e0 := relV_str_inv rv0
      have e1 := relV_str_inv rv1
      subst e0; subst e1
      have f0 := rp_str_inv (tydA_mem ht (List.mem_of_getElem? hd0)) hr0
      have f1 := rp_str_inv (tydA_mem ht (List.mem_of_getElem? hd1)) hr1
      subst f0; subst f1
      have hy : ys = [.str u.1, .str u.2] := by
        match ys, hlen, hd0, hd1 with
        | [a, b], _, h0, h1 =>
          cases h0; cases h1; rfl
      rw [show usEq u (.tup ys) = true from usEq_iff.mpr (by rw [hy]; rfl)]
      exact .same _
    · have key := SeqAt.RcAt.tuples (A := A) (e := fun j => if j = 0 then strEq u.1 (ys.getD 0 .none) else strEq u.2 (ys.getD 1 .none)) tp pl2 hu' (fun j h1 h2' => by
        have h1' : j < 2 := by simpa using h1
        have h3 : j < jts.length := by simpa using h2'
        obtain ⟨d, hd, w, hrd, ru⟩ := el j h3
        match j, h1', h1, h2', hd with
        | 0, _, h1, h2', hd =>
          have : ys.getD 0 .none = d := by rw [List.getD_eq_getElem?_getD, hd]; rfl
          show SeqAt.EqAt A.in1 s (.str u.1 ta) _ (strEq u.1 (ys.getD 0 .none))
          rw [this]
          exact str_eqAt I sm hrd ru (tydA_mem ht (List.mem_of_getElem? hd)) A.in1 (by show A.units + 1 + 1 < cLine; omega)
        | 1, _, h1, h2', hd =>
          have : ys.getD 1 .none = d := by rw [List.getD_eq_getElem?_getD, hd]; rfl
          show SeqAt.EqAt A.in1 s (.str u.2 tb) _ (strEq u.2 (ys.getD 1 .none))
          rw [this]
          exact str_eqAt I sm hrd ru (tydA_mem ht (List.mem_of_getElem? hd)) A.in1 (by show A.units + 1 + 1 < cLine; omega))
      have e : ((List.range (min (#[Value.str u.1 ta, Value.str u.2 tb]).size jts.toArray.size)).all (fun j => if j = 0 then strEq u.1 (ys.getD 0 .none) else strEq u.2 (ys.getD 1 .none)) && (#[Value.str u.1 ta, Value.str u.2 tb]).size == jts.toArray.size) = usEq u (.tup ys) := by
        rw [show jts.toArray.size = ys.length from by rw [List.size_toArray, hlen]]
        show ((List.range (min 2 ys.length)).all (fun j => if j = 0 then strEq u.1 (ys.getD 0 .none) else strEq u.2 (ys.getD 1 .none)) && (2 == ys.length)) = eqPT u.1 u.2 ys
        match ys with
        | [] => rfl
        | [_] => simp [eqPT]
        | [c, d] => simp [eqPT, List.range_succ]
        | c :: d :: e :: l =>
          have : (2 == (c :: d :: e :: l).length) = false := by
            rw [beq_eq_false_iff_ne]; simp only [List.length_cons]; omega
          rw [this, Bool.and_false]; rfl
      rw [e] at key
      exact .of_refs hpb key
  | lst ds =>
    obtain ⟨b, vs, rfl, h1, h2⟩ := hr
    cases (show u' = Value.ref b from rv)
    obtain ⟨its, r, pl, hz⟩ := I.list (SqL.of (sm _ _ h1))
    exact .tuple_list tp pl.isList hu'
  | dct ks ds =>
    obtain ⟨b, vs, rfl, h1, h2, h3⟩ := hr
    cases (show u' = Value.ref b from rv)
    obtain ⟨_, _, ws, _, o, es, ep, g1, g2, g3⟩ := (show ObjOk X.prog X.w H s.heap b (.dK (ks.zip vs)) from I.hok b _ (sm _ _ h1))
    obtain ⟨oc, od, odt, osl⟩ := o
    obtain ⟨e1, e2, e3⟩ := g2
    simp only at e1
    subst e1
    have e4 : odt = .dict es ep := g3.1
    subst e4
    exact SeqAt.dlTupDict tp g1 hu'
  | obj _ _ _ => cases ht
  | exn _ _ _ => cases ht
  | any _ => cases ht
theorem items_isU {us : List Us} {ws : List V} {its : List Value} (I : Inv X pins st H s) (sm : Same Hs H) (h : RpA X.K Hs (us.map pairD) ws) (r : Vals ws its) : its.length = us.length ∧ ∀ (i : Nat) (u : Us), us[i]? = some u → ∃ y, its[i]? = some y ∧ IsU s y u := by
  refine ⟨by rw [← r.length, ← h.length, List.length_map], fun i u hu => ?_⟩
  obtain ⟨v, hv, hrv⟩ := h.get (i := i) (d := pairD u) (by rw [List.getElem?_map, hu]; rfl)
  obtain ⟨y, hy, ry⟩ := r.get hv
  refine ⟨y, hy, ?_⟩
  obtain ⟨p, vs, rfl, h1, h2⟩ := hrv
  cases (show y = Value.ref p from ry)
  have e : vs = [.str u.1, .str u.2] := h2.strs (l := [u.1, u.2])
  subst e
  obtain ⟨jts, r2, pl2, _⟩ := I.tuple ((tp_sq sm h1))
  cases r2 with
  | cons ra r' =>
    cases r' with
    | cons rb r'' =>
      cases r''
      obtain ⟨ta, rfl⟩ := ra
      obtain ⟨tb, rfl⟩ := rb
      exact ⟨p, ta, tb, rfl, pl2⟩
noncomputable def itU (s : Shared) (us : List Us) (d : D) (y : Value) : Bool := @decide (∃ u ∈ us, IsU s y u ∧ usEq u d = true) (Classical.propDecidable _)
theorem itU_is {us : List Us} {d : D} {y : Value} {u : Us} (hu : u ∈ us) (h : IsU s y u) : itU s us d y = usEq u d := by
  unfold itU
  cases e : usEq u d with
  | true => exact @decide_eq_true _ (Classical.propDecidable _) ⟨u, hu, h, e⟩
  | false =>
    refine @decide_eq_false _ (Classical.propDecidable _) ?_
    rintro ⟨w, _, hw, ew⟩
    rw [hw.uniq h, e] at ew
    cases ew
theorem any_itU {us : List Us} {d : D} {its : List Value} (hl : its.length = us.length) (h : ∀ (i : Nat) (u : Us), us[i]? = some u → ∃ y, its[i]? = some y ∧ IsU s y u) : its.any (itU s us d) = us.any fun u => usEq u d := by
  rw [Bool.eq_iff_iff, List.any_eq_true, List.any_eq_true]
  constructor
  · rintro ⟨y, hy, e⟩
    obtain ⟨i, hi, rfl⟩ := List.getElem_of_mem hy
    have hi' : i < us.length := by rw [← hl]; exact hi
    obtain ⟨y, hy2, hU⟩ := h i _ (List.getElem?_eq_getElem hi')
    rw [List.getElem?_eq_getElem hi] at hy2
    cases hy2
    rw [itU_is (List.getElem_mem hi') hU] at e
    exact ⟨_, List.getElem_mem hi', e⟩
  · rintro ⟨u, hu, e⟩
    obtain ⟨i, hi, rfl⟩ := List.getElem_of_mem hu
    obtain ⟨y, hy, hU⟩ := h i _ (List.getElem?_eq_getElem hi)
    exact ⟨y, List.mem_of_getElem? hy, by rw [itU_is hu hU]; exact e⟩
theorem mem_itU {us : List Us} {its : List Value} (hl : its.length = us.length) (h : ∀ (i : Nat) (u : Us), us[i]? = some u → ∃ y, its[i]? = some y ∧ IsU s y u) {y : Value} (hy : y ∈ its) : ∃ u ∈ us, IsU s y u := by
  obtain ⟨i, hi, rfl⟩ := List.getElem_of_mem hy
  have hi' : i < us.length := by rw [← hl]; exact hi
  obtain ⟨y, hy2, hU⟩ := h i _ (List.getElem?_eq_getElem hi')
  rw [List.getElem?_eq_getElem hi] at hy2
  cases hy2
  exact ⟨_, List.getElem_mem hi', hU⟩
def rInU (K : PySem.W.Frag) (neg : Bool) : R2 := fun x y H Q => ∃ (q : Addr) (us : List Us) (ws : List V) (Hs : Hp) (d : D), y = .ref q ∧ (SqT K H q ws ∨ SqL K H q ws) ∧ RpA K Hs (us.map pairD) ws ∧ Same Hs H ∧ Rp K Hs d x ∧ d.tyd = true ∧ Q (.bl (xb neg (us.any fun u => usEq u d))) H
theorem op_inU (hu : X.A.units + 64 < cLine) : OpR X (compareOp .In) (rInU X.K false) := by
  intro pins s st H x y v u Q I rx ry h
  obtain ⟨q, us, ws, Hs, d, rfl, hq, hw, sm, hr, ht, hQ⟩ := h
  cases (show u = Value.ref q from ry)
  rcases hq with hq | hq
  · obtain ⟨its, r, pl, _⟩ := I.tuple hq
    obtain ⟨hl, hi⟩ := items_isU I sm hw r
    refine PySem.SeqAt.in_tupleAt (itU s us d) pl (fun y hy => ?_) ?_
    · obtain ⟨u, hu', hU⟩ := mem_itU hl hi (by simpa using hy)
      rw [itU_is hu' hU]
      exact pair_eqAt I sm hU hr rx ht X.A.in1 (by show X.A.units + 1 + 2 < cLine; omega)
    · rw [show its.toArray.any (itU s us d) = us.any fun u => usEq u d from by rw [← any_itU hl hi]; simp]
      exact ⟨.bl _, H, I, rfl, hQ⟩
  · obtain ⟨its, r, pl, _⟩ := I.list hq
    obtain ⟨hl, hi⟩ := items_isU I sm hw r
    refine PySem.SeqAt.in_listAt (itU s us d) pl.isList (fun y hy => ?_) ?_
    · obtain ⟨u, hu', hU⟩ := mem_itU hl hi (by simpa using hy)
      rw [itU_is hu' hU]
      exact pair_eqAt I sm hU hr rx ht X.A.in1 (by show X.A.units + 1 + 2 < cLine; omega)
    · rw [show its.toArray.any (itU s us d) = us.any fun u => usEq u d from by rw [← any_itU hl hi]; simp]
      exact ⟨.bl _, H, I, rfl, hQ⟩
theorem op_notInU (hu : X.A.units + 64 < cLine) : OpR X (compareOp .NotIn) (rInU X.K true) := by
  intro pins s st H x y v u Q I rx ry h
  obtain ⟨q, us, ws, Hs, d, rfl, hq, hw, sm, hr, ht, hQ⟩ := h
  cases (show u = Value.ref q from ry)
  rcases hq with hq | hq
  · obtain ⟨its, r, pl, _⟩ := I.tuple hq
    obtain ⟨hl, hi⟩ := items_isU I sm hw r
    refine PySem.SeqAt.notIn_tupleAt (itU s us d) pl (fun y hy => ?_) ?_
    · obtain ⟨u, hu', hU⟩ := mem_itU hl hi (by simpa using hy)
      rw [itU_is hu' hU]
      exact pair_eqAt I sm hU hr rx ht X.A.in1 (by show X.A.units + 1 + 2 < cLine; omega)
    · rw [show its.toArray.any (itU s us d) = us.any fun u => usEq u d from by rw [← any_itU hl hi]; simp]
      exact ⟨.bl _, H, I, rfl, hQ⟩
  · obtain ⟨its, r, pl, _⟩ := I.list hq
    obtain ⟨hl, hi⟩ := items_isU I sm hw r
    refine PySem.SeqAt.notIn_listAt (itU s us d) pl.isList (fun y hy => ?_) ?_
    · obtain ⟨u, hu', hU⟩ := mem_itU hl hi (by simpa using hy)
      rw [itU_is hu' hU]
      exact pair_eqAt I sm hU hr rx ht X.A.in1 (by show X.A.units + 1 + 2 < cLine; omega)
    · rw [show its.toArray.any (itU s us d) = us.any fun u => usEq u d from by rw [← any_itU hl hi]; simp]
      exact ⟨.bl _, H, I, rfl, hQ⟩
def oInU (neg : Bool) : O2 := fun x y Q => ∃ us : List Us, (y = .tup (us.map pairD) ∨ y = .lst (us.map pairD)) ∧ x.tyd = true ∧ Q (.bool (xb neg (us.any fun u => usEq u x)))
theorem sr_inU {neg : Bool} : SndR K (rInU K neg) (oInU neg) := SndR.pure fun H Hs x y vx vy Q Q' s rx ry hq hd => by
  obtain ⟨us, e, ht, q⟩ := hd
  rcases e with rfl | rfl
  · obtain ⟨a, vs, rfl, h1, h2⟩ := ry
    exact ⟨a, us, vs, Hs, x, rfl, .inl (tp_sq s h1), h2, s, rx, ht, hq (.bool _) _ rfl q⟩
  · obtain ⟨a, vs, rfl, h1, h2⟩ := ry
    exact ⟨a, us, vs, Hs, x, rfl, .inr (SqL.of (s _ _ h1)), h2, s, rx, ht, hq (.bool _) _ rfl q⟩
theorem de_inU {a b : Expr} {pos : Pos} {da db : DT} (hu : X.A.units + 64 < cLine) (ha : DE X a da) (hb : DE X b db) (hm : behindInMarks .In b = false := by rfl) : DE X (.Compare a [.In] [b] pos) (dOp (oInU false) da db) := de_cmp (op_inU hu) sr_inU ha hb hm
theorem dp_notInU {a b : Expr} {pos : Pos} {da db : DT} (hu : X.A.units + 64 < cLine) (ha : DE X a da) (hb : DE X b db) (hm : behindInMarks .NotIn b = false := by rfl) : DP X (.Compare a [.NotIn] [b] pos) (dTest (dOp (oInU true) da db)) := dp_cmp (op_notInU hu) sr_inU ha hb hm
end
end DL
namespace DL
open PySem PySem.Spec PyProof.Rows L2
/-! xs.append(F(k, P(k, xs), c)) for an owned list xs: P gives back one of its items (any, lists too) -/
section
variable {X : Cx} {K : PySem.W.Frag} {W : WX}
def sAppPk (i k0 : Nat) (SP SF : DSp) (d3 : DT) : DTS := fun g r f E => ∃ xs k, r[i]? = some (.ow xs) ∧ r[k0]? = some (.sh k) ∧ ∀ ws : List V, ws.length = xs.length → SP g [k, .lst (ws.map D.any)] f fun d f1 => ∃ (j : Nat) (w : V) (x : D), ws[j]? = some w ∧ d = .any w ∧ xs[j]? = some x ∧ d3 g (hide r) f1 fun c f2 => SF g [k, x, c] f2 fun y f3 => xs.length ≤ lim ∧ E.nx (r.set i (.ow (xs ++ [y]))) f3
theorem RpA.anys {H : Hp} : ∀ ws : List V, RpA K H (ws.map D.any) ws
  | [] => rfl
  | w :: ws => ⟨w, ws, rfl, rfl, RpA.anys ws⟩
theorem snd_appPk {i k0 : Nat} {SP SF : DSp} {E1 E2 : XK} {t3 : TE} {d3 : DT} (h3 : Snd K t3 d3) : SndS K W (tDrop (tBM K "list" rAppend (tVar i) (tCons (tCall (spOf K SF) [] E1 (tCons (tVar k0) (tCons (tCall (spOf K SP) [] E2 (tCons (tVar k0) (tCons (tVar i) tNil))) (tCons t3 tNil)))) tNil))) (sAppPk i k0 SP SF d3) := fun g H0 Hs0 r f st H D E s e hd => by
  obtain ⟨Hs, s⟩ := s
  obtain ⟨xs, k, hx, hk, hd⟩ := hd
  obtain ⟨a, ha, n1, n0, vs, hv, hr⟩ := s.ow i _ hx rfl
  obtain ⟨kv, hkv, hkr⟩ := s.sh k0 k hk
  refine ⟨.ref a, ha, .inl ⟨rfl, vs, SqL.of hv⟩, ?_⟩
  refine ⟨kv, hkv, kv, hkv, .ref a, ha, ?_⟩
  show spOf K SP ([kv, .ref a] ++ []) H _ E2
  rw [List.append_nil]
  refine ⟨g, plus r st H Hs, [k, .lst (vs.map DL.D.any)], f, _, s.plusSub, s.plusDk, ⟨kv, [.ref a], rfl, hkr.mono s.plusExt, .ref a, [], rfl, ⟨a, vs, rfl, by rw [plus_in ⟨i, _, hx, rfl, ha⟩]; exact hv, RpA.anys vs⟩, rfl⟩, hd vs hr.length.symm, fun d f1 v H1 Hs1 p k1 hr1 q1 => ?_⟩
  obtain ⟨j, w, x, hw, rfl, hxj, q1⟩ := q1
  cases (show v = w from hr1)
  have s1 := s.after p k1
  have ext := s.afterExt p
  obtain ⟨w', hw', hrw⟩ := hr.get hxj
  rw [hw] at hw'
  cases hw'
  refine h3 g (hide r) f1 st H1 _ _ _ s1.atHid (fun c f2 cv H2 Hs2 p2 k2 r2 q2 => ?_) q1
  have s2 := s1.afterHid p2 k2
  show spOf K SF ([kv, v, cv] ++ []) H2 _ E1
  rw [List.append_nil]
  refine ⟨g, Hs2, [k, x, c], f2, _, p2.sub, k2, ⟨kv, _, rfl, hkr.mono (ext.trans p2.ext), v, _, rfl, hrw.mono (ext.trans p2.ext), cv, _, rfl, r2, rfl⟩, q2, fun y f3 yv H3 Hs3 p3 k3 r3 q3 => ?_⟩
  have s3 := s2.afterHid p3 k3
  obtain ⟨hl, q⟩ := q3
  obtain ⟨a', ha', n1', n0', vs', hv', hr2⟩ := s3.ow i _ hx rfl
  rw [ha] at ha'
  cases ha'
  exact ⟨a, vs', yv, rfl, rfl, hv', hr2.lt hl, e.nx _ f3 st _ ⟨_, s3.mutOwn (u := .ow (xs ++ [y])) hx rfl ha rfl ⟨vs' ++ [yv], upd_same, hr2.append (RpA.one r3)⟩⟩ q⟩
theorem ds_appPk {i k0 kF kP : Nat} {x y fn pn : Str} {psF psP : List Str} {SP SF : DSp} {e3 : Expr} {d3 : DT} {px apos cpos pos p1 p2 p3 p4 p5 p6 p7 : Pos} (cF : Cal X.prog X.w X.K X.mg X.base kF fn psF SF) (hF : Room kF X.A) (cP : Cal X.prog X.w X.K X.mg X.base kP pn psP SP) (hPr : Room kP X.A) (h3 : DE X e3 d3)
    (hN : X.N[i]? = some x := by rfl) (hv : Vis X.env.scope x := by first | exact Or.inl rfl | exact Or.inr (Or.inl rfl) | exact Or.inr (Or.inr rfl)) (hd : (x == ("__debug__" : Str)) = false := by decide) (hcd : (x == ("__classdict__" : Str)) = false := by decide)
    (hN2 : X.N[k0]? = some y := by rfl) (hv2 : Vis X.env.scope y := by first | exact Or.inl rfl | exact Or.inr (Or.inl rfl) | exact Or.inr (Or.inr rfl)) (hd2 : (y == ("__debug__" : Str)) = false := by decide) (hcd2 : (y == ("__classdict__" : Str)) = false := by decide)
    (gF : Gl X fn := by rfl) (dF : (fn == ("__debug__" : Str)) = false := by decide) (gP : Gl X pn := by rfl) (dP : (pn == ("__debug__" : Str)) = false := by decide)
    (sP1 : starEach [.Name y p4, .Name x p5] X.env = (false, eval (.Name y p4) X.env) :: starEach [.Name x p5] X.env := by rfl) (sP2 : starEach [.Name x p5] X.env = [(false, eval (.Name x p5) X.env)] := by rfl) (sP3 : (backTo p6 (starEach [.Name x p5] X.env)).any (·.1) = false := by rfl)
    (sF1 : starEach [.Name y p2, .Call (.Name pn p3) [.Name y p4, .Name x p5] [] p6, e3] X.env = (false, eval (.Name y p2) X.env) :: starEach [.Call (.Name pn p3) [.Name y p4, .Name x p5] [] p6, e3] X.env := by rfl)
    (sF2 : starEach [.Call (.Name pn p3) [.Name y p4, .Name x p5] [] p6, e3] X.env = (false, eval (.Call (.Name pn p3) [.Name y p4, .Name x p5] [] p6) X.env) :: starEach [e3] X.env := by rfl) (sF3 : starEach [e3] X.env = [(false, eval e3 X.env)] := by rfl)
    (sF4 : (backTo p7 (starEach [.Call (.Name pn p3) [.Name y p4, .Name x p5] [] p6, e3] X.env)).any (·.1) = false := by rfl)
    (hP : ∀ t : TE, PE X (.Name x px) (tVar i) → PA X [.Call (.Name fn p1) [.Name y p2, .Call (.Name pn p3) [.Name y p4, .Name x p5] [] p6, e3] [] p7] (tCons t tNil) → PE X (.Call (.Attribute (.Name x px) "append" apos) [.Call (.Name fn p1) [.Name y p2, .Call (.Name pn p3) [.Name y p4, .Name x p5] [] p6, e3] [] p7] [] cpos) (tBM X.K "list" rAppend (tVar i) (tCons t tNil)) := by
      exact fun t a b => pe_bm PySem.F.plainAttrs_list PySem.F.slot_list_append PySem.F.type_list_append mt_append a b)
    (hs : swapsWith (.Call (.Attribute (.Name x px) "append" apos) [.Call (.Name fn p1) [.Name y p2, .Call (.Name pn p3) [.Name y p4, .Name x p5] [] p6, e3] [] p7] [] cpos) none pos.line X.env = pure false := by rfl)
    (hst : starEach [.Call (.Name fn p1) [.Name y p2, .Call (.Name pn p3) [.Name y p4, .Name x p5] [] p6, e3] [] p7] X.env = [(false, eval (.Call (.Name fn p1) [.Name y p2, .Call (.Name pn p3) [.Name y p4, .Name x p5] [] p6, e3] [] p7) X.env)] := by rfl) :
    DS X (.Expr (.Call (.Attribute (.Name x px) "append" apos) [.Call (.Name fn p1) [.Name y p2, .Call (.Name pn p3) [.Name y p4, .Name x p5] [] p6, e3] [] p7] [] cpos) pos) (sAppPk i k0 SP SF d3) := by
  obtain ⟨f1, fd1, F1, hk1, hb1, hm1⟩ := cF
  obtain ⟨f2, fd2, F2, hk2, hb2, hm2⟩ := cP
  have e1 := pe_call (pos := p6) (p := p3) F2 hPr gP hm2 hk2 hb2 .nil pass0 (pa_cons (pe_var (pos := p4) hN2 hv2 hd2 hcd2) (pa_cons (pe_var (pos := p5) hN hv hd hcd) pa_nil sP2) sP1) dP sP1 sP3
  have e2 := pe_call (pos := p7) (p := p1) F1 hF gF hm1 hk1 hb1 .nil pass0 (pa_cons (pe_var (pos := p2) hN2 hv2 hd2 hcd2) (pa_cons e1 (pa_cons h3.pe pa_nil sF3) sF2) sF1) dF sF1 sF4
  exact DS.mk' (ps_expr (hP _ (pe_var hN hv hd hcd) (pa_cons e2 pa_nil hst)) hs) (snd_appPk h3.sn)
end
end DL
namespace DL
open PySem PySem.Spec PyProof.Rows L2
/-! for x in zip(a, b) of two lists, with one name (DLB has it for tuples) -/
section
variable {prog : Program} {w : World} {A : Around} {E : Value → Shared → Prop} {s : Shared} {z ti tz i1 i2 l1 l2 T : Addr} {k1 k2 : Nat} {xs ys : Array Value} {x y v p q : Value} {b : Bool}
/-- what the next pair leaves -/
abbrev ZpAfterL (s : Shared) (z ti tz i1 i2 l1 l2 : Addr) (k1 k2 : Nat) (x y : Value) (h' : Heap) : Prop :=
  (∃ v b, ZpV h' z ti tz v b ∧ (v = .none ∨ ∃ T : Addr, v = rawInt T)) ∧ (∃ p q, IsPair h' tz p q) ∧ h'.IsListIter i1 l1 (k1 + 1) ∧ h'.IsListIter i2 l2 (k2 + 1) ∧ IsPair h' s.heap.objs.size x y ∧ h'.objs.size = s.heap.objs.size + 1 ∧
    ∀ c o, c ≠ z → c ≠ tz → c ≠ i1 → c ≠ i2 → s.heap.get? c = some o → h'.get? c = some o
theorem zipL_free_item {Q : Value → Shared → Prop} (D : ZipApart z ti tz i1 i2 l1 l2) (hz : ZpV s.heap z ti tz v b) (hf : Fre s.heap v) (hti : IsPair s.heap ti (.ref i1) (.ref i2)) (htz : IsPair s.heap tz p q)
    (h1 : s.heap.IsListIter i1 l1 k1) (h2 : s.heap.IsListIter i2 l2 k2) (hl1 : s.heap.IsList l1 xs) (hl2 : s.heap.IsList l2 ys) (hx : xs[k1]? = some x) (hy : ys[k2]? = some y)
    (hQ : ∀ h', ZpAfterL s z ti tz i1 i2 l1 l2 k1 k2 x y h' → Q (.ref s.heap.objs.size) { s with heap := h' }) :
    wpAny (model prog w) A (Builtin.«zip.__next__» ⟨[.ref z], []⟩) (fun fin s' => ∃ u, fin = .done (.ret u) ∧ Q u s') E s := by
  show wpAny (model prog w) A (field (.ref z) 2 >>= _) _ _ s
  refine wpAny_bind (wpAny_field hz rfl (x := .bool false) rfl ?_)
  show wpAny (model prog w) A (field (.ref z) 3 >>= _) _ _ s
  refine wpAny_bind (wpAny_field hz rfl (x := .ref ti) rfl ?_)
  refine wpAny_bind (wpAny_seqItems hti rfl ?_)
  show wpAny (model prog w) A (Builtin.SmallTypes.ownedTupleIsFree (.ref z) >>= _) _ _ s
  refine wpAny_bind (free_zip hz hf ?_)
  simp only [if_true]
  refine wpAny_bind (wpAny_rule ?_)
  refine wpAny_bind (wpAny_field hz rfl (x := .ref tz) rfl ?_)
  refine wpAny_bind (wpAny_setField_rec hz (by simp) fun ha za sa => ?_)
  replace za : ZpV ha z ti tz .ellipsis b := za
  refine wpAny_bind ?_
  simp only [List.zipIdx_cons, List.zipIdx_nil, List.forIn_cons, List.forIn_nil]
  refine wpAny_bind (wpAny_bind (wpAny_onRaise ?_))
  show wpAny (model prog w) A (Builtin.SmallTypes.nextOf (.ref i1) >>= _) _ _ _
  refine wpAny_bind (wpAny_nextOf_list_item (h1.extBut sa.extBut D.i1z) (hl1.extBut sa.extBut D.l1z) hx fun hb j1 sb => wpAny_pure ?_)
  have tb : IsPair hb tz p q := sb.extBut _ _ D.TOi1 (sa.extBut _ _ D.TOz htz)
  refine wpAny_bind (wpAny_seqItems tb rfl ?_)
  refine wpAny_bind (wpAny_updateSeq_pair tb fun hc tc sc => ?_)
  replace tc : IsPair hc tz x q := tc
  refine wpAny_bind (wpAny_letGo (wpAny_pure ?_))
  refine wpAny_bind (wpAny_bind (wpAny_onRaise ?_))
  show wpAny (model prog w) A (Builtin.SmallTypes.nextOf (.ref i2) >>= _) _ _ _
  have h2c := ((h2.extBut sa.extBut D.i2z).extBut sb.extBut D.i12.symm).extBut sc.extBut D.TOi2.symm
  have l2c := ((hl2.extBut sa.extBut D.l2z).extBut sb.extBut D.l2i1).extBut sc.extBut D.l2TO
  refine wpAny_bind (wpAny_nextOf_list_item (s := { s with heap := hc }) h2c l2c hy fun hd j2 sd => wpAny_pure ?_)
  have td : IsPair hd tz x q := sd.extBut _ _ D.TOi2 tc
  refine wpAny_bind (wpAny_seqItems td rfl ?_)
  refine wpAny_bind (wpAny_updateSeq_pair td fun he te se => ?_)
  replace te : IsPair he tz x y := te
  refine wpAny_bind (wpAny_letGo (wpAny_pure (wpAny_pure ?_)))
  refine wpAny_bind (wpAny_seqItems te rfl ?_)
  refine wpAny_bind (wpAny_newTuple ?_)
  have hsz : he.objs.size = s.heap.objs.size := by rw [se.1, sd.1, sc.1, sb.1, sa.1]
  have ze : ZpV he z ti tz .ellipsis b := se.extBut _ _ D.TOz.symm (sd.extBut _ _ D.i2z.symm (sc.extBut _ _ D.TOz.symm (sb.extBut _ _ D.i1z.symm za)))
  have ke : ∀ c o, c ≠ z → c ≠ tz → c ≠ i1 → c ≠ i2 → s.heap.get? c = some o → he.get? c = some o := fun c o c1 c2 c3 c4 e =>
    se.extBut _ _ c2 (sd.extBut _ _ c4 (sc.extBut _ _ c2 (sb.extBut _ _ c3 (sa.extBut _ _ c1 e))))
  have j1e : he.IsListIter i1 l1 (k1 + 1) := ((j1.extBut sc.extBut D.TOi1.symm).extBut sd.extBut D.i12).extBut se.extBut D.TOi1.symm
  have j2e : he.IsListIter i2 l2 (k2 + 1) := j2.extBut se.extBut D.TOi2.symm
  have zlt : z < he.objs.size := Heap.lt_size ze
  show wpAny (model prog w) A (Builtin.SmallTypes.ownedTupleHandOut (.ref z) (.ref he.objs.size) >>= _) _ _ _
  refine wpAny_bind ?_
  unfold Builtin.SmallTypes.ownedTupleHandOut
  have zf : ZpV (he.push { cls := .type "tuple", data := .seq #[x, y] }) z ti tz .ellipsis b := Heap.get?_push_of_some _ ze
  refine wpAny_bind (wpAny_setField_rec zf (by simp) fun hg zg sg => ?_)
  replace zg : ZpV hg z ti tz (rawInt he.objs.size) b := zg
  refine wpAny_setField_rec zg (by simp) fun hh zh sh => ?_
  replace zh : ZpV hh z ti tz (rawInt he.objs.size) false := zh
  have up : ∀ c o, c ≠ z → he.get? c = some o → hh.get? c = some o := fun c o c1 e => sh.extBut _ _ c1 (sg.extBut _ _ c1 (Heap.get?_push_of_some _ e))
  have th : IsPair hh he.objs.size x y := sh.extBut _ _ (Nat.ne_of_gt zlt) (sg.extBut _ _ (Nat.ne_of_gt zlt) (Heap.get?_push_size _ rfl))
  have zz : hh.objs.size = he.objs.size + 1 := by rw [sh.1, sg.1, Heap.size_push]
  refine wpAny_pure ⟨_, rfl, ?_⟩
  show Q (.ref he.objs.size) _
  rw [hsz] at th zz ⊢
  exact hQ hh ⟨⟨_, _, zh, .inr ⟨_, rfl⟩⟩, ⟨_, _, up _ _ D.TOz te⟩, j1e.at fun o e => up _ o D.i1z e, j2e.at fun o e => up _ o D.i2z e, th, zz, fun c o c1 c2 c3 c4 e => up c o c1 (ke c o c1 c2 c3 c4 e)⟩
theorem zipL_held_item {oT : Obj} {Q : Value → Shared → Prop} (D : ZipApart z ti tz i1 i2 l1 l2) (hz : ZpV s.heap z ti tz (rawInt T) b) (hT : s.heap.get? T = some oT) (hti : IsPair s.heap ti (.ref i1) (.ref i2)) (htz : IsPair s.heap tz p q)
    (h1 : s.heap.IsListIter i1 l1 k1) (h2 : s.heap.IsListIter i2 l2 k2) (hl1 : s.heap.IsList l1 xs) (hl2 : s.heap.IsList l2 ys) (hx : xs[k1]? = some x) (hy : ys[k2]? = some y)
    (hQ : ∀ h', ZpAfterL s z ti tz i1 i2 l1 l2 k1 k2 x y h' → Q (.ref s.heap.objs.size) { s with heap := h' }) :
    wpAny (model prog w) A (Builtin.«zip.__next__» ⟨[.ref z], []⟩) (fun fin s' => ∃ u, fin = .done (.ret u) ∧ Q u s') E s := by
  show wpAny (model prog w) A (field (.ref z) 2 >>= _) _ _ s
  refine wpAny_bind (wpAny_field hz rfl (x := .bool false) rfl ?_)
  show wpAny (model prog w) A (field (.ref z) 3 >>= _) _ _ s
  refine wpAny_bind (wpAny_field hz rfl (x := .ref ti) rfl ?_)
  refine wpAny_bind (wpAny_seqItems hti rfl ?_)
  show wpAny (model prog w) A (Builtin.SmallTypes.ownedTupleIsFree (.ref z) >>= _) _ _ s
  refine wpAny_bind (wpAny_tupleHeld_zip hz hT fun ha za sa => ?_)
  simp only [Bool.false_eq_true, if_false]
  refine wpAny_bind ?_
  rw [← Array.forIn_toList]
  simp only [List.forIn_cons, List.forIn_nil]
  refine wpAny_bind (wpAny_bind (wpAny_holding ?_))
  show wpAny (model prog w) A (Builtin.SmallTypes.nextOf (.ref i1) >>= _) _ _ _
  refine wpAny_bind (wpAny_nextOf_list_item (s := { s with heap := ha }) (h1.extBut sa.extBut D.i1z) (hl1.extBut sa.extBut D.l1z) hx fun hb j1 sb => wpAny_pure ?_)
  refine wpAny_pure ?_
  refine wpAny_bind (wpAny_bind (wpAny_holding ?_))
  show wpAny (model prog w) A (Builtin.SmallTypes.nextOf (.ref i2) >>= _) _ _ _
  have h2b := (h2.extBut sa.extBut D.i2z).extBut sb.extBut D.i12.symm
  have l2b := (hl2.extBut sa.extBut D.l2z).extBut sb.extBut D.l2i1
  refine wpAny_bind (wpAny_nextOf_list_item (s := { s with heap := hb }) h2b l2b hy fun hc j2 sc => wpAny_pure ?_)
  refine wpAny_pure (wpAny_pure ?_)
  show wpAny (model prog w) A (newTuple [x, y] >>= _) _ _ _
  refine wpAny_bind (wpAny_newTuple ?_)
  have hsz : hc.objs.size = s.heap.objs.size := by rw [sc.1, sb.1, sa.1]
  have zc : ZpV hc z ti tz (rawInt T) true := sc.extBut _ _ D.i2z.symm (sb.extBut _ _ D.i1z.symm za)
  have kc : ∀ c o, c ≠ z → c ≠ i1 → c ≠ i2 → s.heap.get? c = some o → hc.get? c = some o := fun c o c1 c2 c3 e => sc.extBut _ _ c3 (sb.extBut _ _ c2 (sa.extBut _ _ c1 e))
  have j1c : hc.IsListIter i1 l1 (k1 + 1) := j1.extBut sc.extBut D.i12
  refine wpAny_pure ⟨_, rfl, ?_⟩
  show Q (.ref hc.objs.size) _
  have tp : IsPair (hc.push { cls := .type "tuple", data := .seq #[x, y] }) hc.objs.size x y := Heap.get?_push_size _ rfl
  have sz : (hc.push { cls := .type "tuple", data := .seq #[x, y] }).objs.size = hc.objs.size + 1 := Heap.size_push ..
  have tzc : IsPair hc tz p q := kc _ _ D.TOz D.TOi1 D.TOi2 htz
  rw [hsz] at tp sz ⊢
  exact hQ _ ⟨⟨_, _, Heap.get?_push_of_some _ zc, .inr ⟨_, rfl⟩⟩, ⟨_, _, Heap.get?_push_of_some _ tzc⟩, j1c.at fun o e => Heap.get?_push_of_some _ e, j2.at fun o e => Heap.get?_push_of_some _ e, tp, sz, fun c o c1 _ c3 c4 e => Heap.get?_push_of_some _ (kc c o c1 c3 c4 e)⟩
theorem zipL_free_end {Q : Fin → Shared → Prop} (hh : A.handled = none) (D : ZipApart z ti tz i1 i2 l1 l2) (hz : ZpV s.heap z ti tz v b) (hf : Fre s.heap v) (hti : IsPair s.heap ti (.ref i1) (.ref i2)) (htz : IsPair s.heap tz p q)
    (h1 : s.heap.IsListIter i1 l1 k1) (h2 : s.heap.IsListIter i2 l2 k2) (hl1 : s.heap.IsList l1 xs) (hl2 : s.heap.IsList l2 ys) (hend : xs[k1]? = none ∨ ys[k2]? = none)
    (hE : ∀ h' e, ZpGone s z tz i1 i2 h' → (∃ o, h'.get? e = some o ∧ o.cls = .type "StopIteration") → E (.ref e) { s with heap := h' }) :
    wpAny (model prog w) A (Builtin.«zip.__next__» ⟨[.ref z], []⟩) Q E s := by
  show wpAny (model prog w) A (field (.ref z) 2 >>= _) _ _ s
  refine wpAny_bind (wpAny_field hz rfl (x := .bool false) rfl ?_)
  show wpAny (model prog w) A (field (.ref z) 3 >>= _) _ _ s
  refine wpAny_bind (wpAny_field hz rfl (x := .ref ti) rfl ?_)
  refine wpAny_bind (wpAny_seqItems hti rfl ?_)
  show wpAny (model prog w) A (Builtin.SmallTypes.ownedTupleIsFree (.ref z) >>= _) _ _ s
  refine wpAny_bind (free_zip hz hf ?_)
  simp only [if_true]
  refine wpAny_bind (wpAny_rule ?_)
  refine wpAny_bind (wpAny_field hz rfl (x := .ref tz) rfl ?_)
  refine wpAny_bind (wpAny_setField_rec hz (by simp) fun ha za sa => ?_)
  replace za : ZpV ha z ti tz .ellipsis b := za
  refine wpAny_bind ?_
  simp only [List.zipIdx_cons, List.zipIdx_nil, List.forIn_cons, List.forIn_nil]
  refine wpAny_bind (wpAny_bind (wpAny_onRaise ?_))
  show wpAny (model prog w) A (Builtin.SmallTypes.nextOf (.ref i1) >>= _) _ _ _
  cases hx : xs[k1]? with
  | none =>
    refine wpAny_bind (wpAny_nextOf_list_end (s := { s with heap := ha }) hh (h1.extBut sa.extBut D.i1z) (hl1.extBut sa.extBut D.l1z) hx fun hb e sb he => ?_)
    obtain ⟨oe, hoe, hce⟩ := he
    have zb : ZpV hb z ti tz .ellipsis b := sb _ _ D.i1z.symm za
    have ez : e ≠ z := fun x => by subst x; rw [zb] at hoe; cases hoe; simp at hce
    exact wpAny_setField_rec zb (by simp) fun hc _ sc => hE hc e (fun c o c1 _ c3 _ x => sc.extBut _ _ c1 (sb _ _ c3 (sa.extBut _ _ c1 x))) ⟨oe, sc.extBut _ _ ez hoe, hce⟩
  | some x =>
    have hy : ys[k2]? = none := hend.resolve_left (by rw [hx]; simp)
    refine wpAny_bind (wpAny_nextOf_list_item (s := { s with heap := ha }) (h1.extBut sa.extBut D.i1z) (hl1.extBut sa.extBut D.l1z) hx fun hb j1 sb => wpAny_pure ?_)
    have tb : IsPair hb tz p q := sb.extBut _ _ D.TOi1 (sa.extBut _ _ D.TOz htz)
    refine wpAny_bind (wpAny_seqItems tb rfl ?_)
    refine wpAny_bind (wpAny_updateSeq_pair tb fun hc tc sc => ?_)
    refine wpAny_bind (wpAny_letGo (wpAny_pure ?_))
    refine wpAny_bind (wpAny_bind (wpAny_onRaise ?_))
    show wpAny (model prog w) A (Builtin.SmallTypes.nextOf (.ref i2) >>= _) _ _ _
    have h2c := ((h2.extBut sa.extBut D.i2z).extBut sb.extBut D.i12.symm).extBut sc.extBut D.TOi2.symm
    have l2c := ((hl2.extBut sa.extBut D.l2z).extBut sb.extBut D.l2i1).extBut sc.extBut D.l2TO
    refine wpAny_bind (wpAny_nextOf_list_end (s := { s with heap := hc }) hh h2c l2c hy fun hd e sd he => ?_)
    obtain ⟨oe, hoe, hce⟩ := he
    have zd : ZpV hd z ti tz .ellipsis b := sd _ _ D.i2z.symm (sc.extBut _ _ D.TOz.symm (sb.extBut _ _ D.i1z.symm za))
    have ez : e ≠ z := fun x => by subst x; rw [zd] at hoe; cases hoe; simp at hce
    exact wpAny_setField_rec zd (by simp) fun hf _ sf => hE hf e (fun c o c1 c2 c3 c4 x => sf.extBut _ _ c1 (sd _ _ c4 (sc.extBut _ _ c2 (sb.extBut _ _ c3 (sa.extBut _ _ c1 x))))) ⟨oe, sf.extBut _ _ ez hoe, hce⟩
theorem zipL_held_end {oT : Obj} {Q : Fin → Shared → Prop} (hh : A.handled = none) (D : ZipApart z ti tz i1 i2 l1 l2) (hz : ZpV s.heap z ti tz (rawInt T) b) (hT : s.heap.get? T = some oT) (hti : IsPair s.heap ti (.ref i1) (.ref i2)) (htz : IsPair s.heap tz p q)
    (h1 : s.heap.IsListIter i1 l1 k1) (h2 : s.heap.IsListIter i2 l2 k2) (hl1 : s.heap.IsList l1 xs) (hl2 : s.heap.IsList l2 ys) (hend : xs[k1]? = none ∨ ys[k2]? = none)
    (hE : ∀ h' e, ZpGone s z tz i1 i2 h' → (∃ o, h'.get? e = some o ∧ o.cls = .type "StopIteration") → E (.ref e) { s with heap := h' }) :
    wpAny (model prog w) A (Builtin.«zip.__next__» ⟨[.ref z], []⟩) Q E s := by
  show wpAny (model prog w) A (field (.ref z) 2 >>= _) _ _ s
  refine wpAny_bind (wpAny_field hz rfl (x := .bool false) rfl ?_)
  show wpAny (model prog w) A (field (.ref z) 3 >>= _) _ _ s
  refine wpAny_bind (wpAny_field hz rfl (x := .ref ti) rfl ?_)
  refine wpAny_bind (wpAny_seqItems hti rfl ?_)
  show wpAny (model prog w) A (Builtin.SmallTypes.ownedTupleIsFree (.ref z) >>= _) _ _ s
  refine wpAny_bind (wpAny_tupleHeld_zip hz hT fun ha za sa => ?_)
  simp only [Bool.false_eq_true, if_false]
  refine wpAny_bind ?_
  rw [← Array.forIn_toList]
  simp only [List.forIn_cons, List.forIn_nil]
  refine wpAny_bind (wpAny_bind (wpAny_holding ?_))
  show wpAny (model prog w) A (Builtin.SmallTypes.nextOf (.ref i1) >>= _) _ _ _
  cases hx : xs[k1]? with
  | none =>
    refine wpAny_bind (wpAny_nextOf_list_end (s := { s with heap := ha }) hh (h1.extBut sa.extBut D.i1z) (hl1.extBut sa.extBut D.l1z) hx fun hb e sb he => ?_)
    exact hE hb e (fun c o c1 _ c3 _ x => sb _ _ c3 (sa.extBut _ _ c1 x)) he
  | some x =>
    have hy : ys[k2]? = none := hend.resolve_left (by rw [hx]; simp)
    refine wpAny_bind (wpAny_nextOf_list_item (s := { s with heap := ha }) (h1.extBut sa.extBut D.i1z) (hl1.extBut sa.extBut D.l1z) hx fun hb j1 sb => wpAny_pure ?_)
    refine wpAny_pure ?_
    refine wpAny_bind (wpAny_bind (wpAny_holding ?_))
    show wpAny (model prog w) A (Builtin.SmallTypes.nextOf (.ref i2) >>= _) _ _ _
    have h2b := (h2.extBut sa.extBut D.i2z).extBut sb.extBut D.i12.symm
    have l2b := (hl2.extBut sa.extBut D.l2z).extBut sb.extBut D.l2i1
    refine wpAny_bind (wpAny_nextOf_list_end (s := { s with heap := hb }) hh h2b l2b hy fun hc e sc he => ?_)
    exact hE hc e (fun c o c1 _ c3 c4 x => sc _ _ c4 (sb.extBut _ _ c3 (sa.extBut _ _ c1 x))) he
theorem pyNext_zipL_item {Q : Option Value → Shared → Prop} (D : ZipApart z ti tz i1 i2 l1 l2) (hz : ZpV s.heap z ti tz v b) (hm : Mrk v) (hti : IsPair s.heap ti (.ref i1) (.ref i2)) (htz : IsPair s.heap tz p q)
    (h1 : s.heap.IsListIter i1 l1 k1) (h2 : s.heap.IsListIter i2 l2 k2) (hl1 : s.heap.IsList l1 xs) (hl2 : s.heap.IsList l2 ys) (hx : xs[k1]? = some x) (hy : ys[k2]? = some y)
    (hQ : ∀ h', ZpAfterL s z ti tz i1 i2 l1 l2 k1 k2 x y h' → Q (some (.ref s.heap.objs.size)) { s with heap := h' }) : wpAny (model prog w) A (pyNext (.ref z)) Q E s := by
  have ty : s.TypeIs (.ref z) "zip" := ⟨_, hz, rfl⟩
  unfold pyNext
  refine wpAny_bind (wpAny_attempt (wpAny_callSpecial?_slot (name := Str.ofString "__next__") ty F.slot_zip_next (wpAny_call_entry F.slot_zip_next ty F.entry_zip_next ?_ (F.args_zip_next_1 _))))
  rcases hm with rfl | ⟨T, rfl⟩
  · exact zipL_free_item D hz (.inl rfl) hti htz h1 h2 hl1 hl2 hx hy fun h' a => wpAny_pure (hQ h' a)
  · cases hT : s.heap.get? T with
    | none => exact zipL_free_item D hz (.inr ⟨T, rfl, hT⟩) hti htz h1 h2 hl1 hl2 hx hy fun h' a => wpAny_pure (hQ h' a)
    | some o => exact zipL_held_item D hz hT hti htz h1 h2 hl1 hl2 hx hy fun h' a => wpAny_pure (hQ h' a)
theorem pyNext_zipL_end {Q : Option Value → Shared → Prop} (hh : A.handled = none) (D : ZipApart z ti tz i1 i2 l1 l2) (hz : ZpV s.heap z ti tz v b) (hm : Mrk v) (hti : IsPair s.heap ti (.ref i1) (.ref i2)) (htz : IsPair s.heap tz p q)
    (h1 : s.heap.IsListIter i1 l1 k1) (h2 : s.heap.IsListIter i2 l2 k2) (hl1 : s.heap.IsList l1 xs) (hl2 : s.heap.IsList l2 ys) (hend : xs[k1]? = none ∨ ys[k2]? = none)
    (hQ : ∀ h', ZpGone s z tz i1 i2 h' → Q none { s with heap := h' }) : wpAny (model prog w) A (pyNext (.ref z)) Q E s := by
  have ty : s.TypeIs (.ref z) "zip" := ⟨_, hz, rfl⟩
  unfold pyNext
  refine wpAny_bind (wpAny_attempt (wpAny_callSpecial?_slot (name := Str.ofString "__next__") ty F.slot_zip_next (wpAny_call_entry F.slot_zip_next ty F.entry_zip_next ?_ (F.args_zip_next_1 _))))
  have fin : ∀ h' e, ZpGone s z tz i1 i2 h' → (∃ o, h'.get? e = some o ∧ o.cls = .type "StopIteration") → wpAny (model prog w) A (isInstance (.ref e) (.type "StopIteration")) (fun b s' => wpAny (model prog w) A (if b = true then pure none else throw (.ref e)) Q E s') E { s with heap := h' } := fun h' e k ⟨o, ho, hc⟩ =>
    wpAny_isInstance (T := "StopIteration") (b := true) ⟨o, ho, hc⟩ isSubtype_stop (wpAny_pure (hQ _ k))
  rcases hm with rfl | ⟨T, rfl⟩
  · exact zipL_free_end hh D hz (.inl rfl) hti htz h1 h2 hl1 hl2 hend fun h' e k o => wpAny_bind (fin h' e k o)
  · cases hT : s.heap.get? T with
    | none => exact zipL_free_end hh D hz (.inr ⟨T, rfl, hT⟩) hti htz h1 h2 hl1 hl2 hend fun h' e k o => wpAny_bind (fin h' e k o)
    | some o => exact zipL_held_end hh D hz hT hti htz h1 h2 hl1 hl2 hend fun h' e k o => wpAny_bind (fin h' e k o)
end
theorem turn_zipNL {P : Program} {w : World} {K : PySem.W.Frag} {nm : Str} {tp : Pos} {a b z ti tz i1 i2 : Addr} (D : ZipApart z ti tz i1 i2 a b) :
    Turn P w K (.Name nm tp) (Itz K a b) [z, ti, tz, i1, i2] z (fun i h => (∃ v f, ZpV h z ti tz v f ∧ Mrk v) ∧ IsPair h ti (.ref i1) (.ref i2) ∧ (∃ x y, IsPair h tz x y) ∧ h.IsListIter i1 a i ∧ h.IsListIter i2 b i) where
  mem := by simp
  obj := fun i h st c hc => by
    obtain ⟨⟨v, f, hz, _⟩, h3, ⟨x, y, h4⟩, ⟨o1, e1, _, d1⟩, ⟨o2, e2, _, d2⟩⟩ := st
    simp only [List.mem_cons, List.not_mem_nil, or_false] at hc
    rcases hc with r | r | r | r | r <;> rw [r]
    · exact ⟨_, hz, fun v q => nomatch q⟩
    · exact ⟨_, h3, fun v q => nomatch q⟩
    · exact ⟨_, h4, fun v q => nomatch q⟩
    · exact ⟨o1, e1, fun v q => by rw [d1] at q; cases q⟩
    · exact ⟨o2, e2, fun v q => by rw [d2] at q; cases q⟩
  keep := fun i h h' st k => by
    obtain ⟨⟨v, f, hz, hm⟩, h3, ⟨x, y, h4⟩, h1, h2⟩ := st
    exact ⟨⟨v, f, k z (by simp) _ hz, hm⟩, k ti (by simp) _ h3, ⟨x, y, k tz (by simp) _ h4⟩, h1.at fun o q => k i1 (by simp) o q, h2.at fun o q => k i2 (by simp) o q⟩
  item := by
    intro X hP hw hK hc i pins s st H E I hf tn hg
    subst hP hw hK
    obtain ⟨⟨v, f, hz, hm⟩, hti, ⟨x0, y0, htz⟩, h1, h2⟩ := tn
    obtain ⟨xs, ys, x, y, hqx, hqy, hx, hy⟩ := hg
    obtain ⟨its, rv, pa, _⟩ := I.list hqx
    obtain ⟨jts, rw2, pb, _⟩ := I.list hqy
    obtain ⟨u, hu, ru⟩ := rv.get hx
    obtain ⟨u2, hu2, ru2⟩ := rw2.get hy
    have zl : z < s.heap.objs.size := Heap.lt_size hz
    refine pyNext_zipL_item D hz hm hti htz h1 h2 pa.isList pb.isList (x := u) (y := u2) (by simpa using hu) (by simpa using hu2) fun h' aft => ?_
    obtain ⟨⟨v', f', z', m'⟩, t', k1, k2, hT, hsz, hk⟩ := aft
    refine ⟨_, rfl, wpAny_pure ?_⟩
    have new : ObjOk X.prog X.w (upd H s.heap.objs.size (.tup [x, y])) h' s.heap.objs.size (.tup [x, y]) := ⟨(by decide : 2 ≤ sizeLine), [u, u2], .cons ru (.cons ru2 .nil), ⟨_, hT, rfl, _, rfl⟩⟩
    have J : Inv X pins st (upd H s.heap.objs.size (.tup [x, y])) { s with heap := h' } :=
      I.turnedNew (t' := s.toks) (ch := [z, ti, tz, i1, i2]) (fun c o hb q => hk c o (fun e => hb (by simp [e])) (fun e => hb (by simp [e])) (fun e => hb (by simp [e])) (fun e => hb (by simp [e])) q) hf (Nat.le_refl _) new
    have fr : H s.heap.objs.size = none := I.hok.fresh (Nat.le_refl _)
    refine ⟨.ref s.heap.objs.size, _, J, rfl, ⟨_, x, y, rfl, fr, rfl, fun l hl => by rw [I.list_inj hl hqx]; exact hx, fun l hl => by rw [I.list_inj hl hqy]; exact hy⟩, ⟨⟨v', f', z', m'⟩, hk _ _ D.TIz D.TITO D.TIi1 D.TIi2 hti, t', k1, k2⟩, fun c hcm => ?_⟩
    have hlt : c < s.heap.objs.size := by
      simp only [List.mem_cons, List.not_mem_nil, or_false] at hcm
      rcases hcm with r | r | r | r | r <;> rw [r]
      · exact zl
      · exact Heap.lt_size hti
      · exact Heap.lt_size htz
      · obtain ⟨_, e1, _⟩ := h1; exact Heap.lt_size e1
      · obtain ⟨_, e2, _⟩ := h2; exact Heap.lt_size e2
    rw [upd_ne (Nat.ne_of_lt hlt)]
    exact (hf c hcm).1
  done := by
    intro X hP hw hK hc i pins s st H E I hf tn hg
    subst hP hw hK
    obtain ⟨⟨v, f, hz, hm⟩, hti, ⟨x0, y0, htz⟩, h1, h2⟩ := tn
    obtain ⟨xs, ys, hqx, hqy, hend⟩ := hg
    obtain ⟨its, rv, pa, _⟩ := I.list hqx
    obtain ⟨jts, rw2, pb, _⟩ := I.list hqy
    have la := rv.length
    have lb := rw2.length
    have he : its.toArray[i]? = none ∨ jts.toArray[i]? = none := hend.imp (fun q => by simp; omega) (fun q => by simp; omega)
    exact pyNext_zipL_end (I.ok.hd hc) D hz hm hti htz h1 h2 pa.isList pb.isList he fun h' hk => ⟨rfl, I.turnedL (t' := s.toks) (ch := [z, ti, tz, i1, i2]) (fun c o hb q =>
      hk c o (fun e => hb (by simp [e])) (fun e => hb (by simp [e])) (fun e => hb (by simp [e])) (fun e => hb (by simp [e])) q) hf⟩
  self := fun A i s Q E tn h => by
    obtain ⟨v, f, hz, _⟩ := tn.1
    have ty : s.TypeIs (.ref z) "zip" := ⟨_, hz, rfl⟩
    refine wpAny_pyIter_slot ty F.slot_zip_iter (wpAny_call_entry F.slot_zip_iter ty F.entry_zip_iter ?_ (F.args_zip_iter_1 _))
    show wpAny (model P w) _ (ret (.ref z)) _ _ s
    exact wpAny_pure ⟨_, rfl, "zip", _, ty, F.slot_zip_next.lookup, h⟩
section
variable {X : Cx} {K : PySem.W.Frag}
def iZipNL (K : PySem.W.Frag) (ta : TA) : TI := fun st H R => ta st H fun vs H1 => ∃ a b xs ys, vs = [.ref a, .ref b] ∧ SqL K H1 a xs ∧ SqL K H1 b ys ∧ R (Itz K a b) H1
theorem pi_zipNL {e e2 : Expr} {ta : TA} {p pos tp : Pos} {nm : Str} (hg : Gl X "zip") (hm : X.mg "zip" = none) (ha : PA X [e, e2] ta)
    (hs : starEach [e, e2] X.env = (false, eval e X.env) :: starEach [e2] X.env := by rfl) (hpl : (backTo pos (starEach [e2] X.env)).any (·.1) = false := by rfl) :
    PI X (.Name nm tp) (.Call (.Name "zip" p) [e, e2] [] pos) (iZipNL X.K ta) := by
  refine ⟨fun pins s st H R I h => ?_⟩
  refine Call_ (ld_blt I hg hm PyProof.Rows.boot_zip (PyProof.Rows.callWith_type1 (thn (ha.run pos pins s st H _ I h) fun us s1 h1 => ?_) hs hpl))
  obtain ⟨vs, H1, I1, r1, a, b, xs, ys, rfl, hqx, hqy, q⟩ := h1
  obtain ⟨u1, us1, rfl, r, rr⟩ : ∃ u1 us1, us = u1 :: us1 ∧ RelV (.ref a) u1 ∧ Vals [.ref b] us1 := by cases r1 with | cons r rr => exact ⟨_, _, rfl, r, rr⟩
  obtain ⟨u2, us2, rfl, r', rr'⟩ : ∃ u1 us2, us1 = u1 :: us2 ∧ RelV (.ref b) u1 ∧ Vals [] us2 := by cases rr with | cons r rr => exact ⟨_, _, rfl, r, rr⟩
  obtain rfl : us2 = [] := by cases rr'; rfl
  obtain rfl : u1 = Value.ref a := r
  obtain rfl : u2 = Value.ref b := r'
  obtain ⟨its, rv, pa, _⟩ := I1.list hqx
  obtain ⟨jts, rw2, pb, _⟩ := I1.list hqy
  refine call_zip_2 pa.isList pb.isList fun h' hz hti htz h1 h2 hsz hk => wpAny_pyIter_zip hz ?_
  have J : Inv X pins st H1 { s1 with heap := h' } := I1.kept (t' := s1.toks) hk
  refine ⟨s1.heap.objs.size + 4, [s1.heap.objs.size + 4, s1.heap.objs.size + 2, s1.heap.objs.size + 3, s1.heap.objs.size, s1.heap.objs.size + 1], _, _, H1, rfl, J, turn_zipNL (PySem.W.ktu_apart s1.heap.objs.size a b pa.lt pb.lt), ⟨⟨.none, false, hz, .inl rfl⟩, hti, ⟨_, _, htz⟩, h1, h2⟩, fun c hcm => ?_, q⟩
  have hle : s1.heap.objs.size ≤ c := by
    simp only [List.mem_cons, List.not_mem_nil, or_false] at hcm
    rcases hcm with r | r | r | r | r <;> rw [r]
    · exact Nat.le_add_right _ _
    · exact Nat.le_add_right _ _
    · exact Nat.le_add_right _ _
    · exact Nat.le_refl _
    · exact Nat.le_add_right _ _
  exact I1.fpOk hle (I1.hok.fresh hle)
def dZipNL (t : DTA) : DTA := fun g r f Q => t g r f fun ds f1 => match ds with
  | [.lst xs, .lst ys] => Q (zipD xs ys) f1
  | _ => False
theorem di_zipNL {e e2 : Expr} {d : DTA} {p pos tp : Pos} {nm : Str} (hm : X.mg "zip" = none) (ha : DA X [e, e2] d) (hg : Gl X "zip" := by rfl)
    (hs : starEach [e, e2] X.env = (false, eval e X.env) :: starEach [e2] X.env := by rfl) (hpl : (backTo pos (starEach [e2] X.env)).any (·.1) = false := by rfl) :
    DI X (.Name nm tp) (.Call (.Name "zip" p) [e, e2] [] pos) (dZipNL d) := DI.mk' (pi_zipNL hg hm ha.pa hs hpl) fun g ro f st H Hs R Q' A hq hd =>
  ha.sn g ro f st H Hs _ _ A (fun ds f1 vs H1 Hs1 s1 k1 r1 q1 => by
    split at q1
    · obtain ⟨v, w, rfl, h, h'⟩ := rpA2 r1
      obtain ⟨a, vs, rfl, h1, h2⟩ := h
      obtain ⟨b, ws, rfl, h3, h4⟩ := h'
      exact ⟨a, b, vs, ws, rfl, SqL.of (s1.sub _ _ h1), SqL.of (s1.sub _ _ h3), hq _ f1 _ H1 Hs1 s1 k1 (walks_zipL h1 h2 h3 h4) q1⟩
    · exact q1.elim) hd
end
end DL
namespace DL
open PySem PySem.Spec PyProof.Rows L2
/-! list(zip(a, b)) of two lists -/
section
variable {prog : Program} {w : World} {A : Around} {E : Value → Shared → Prop} {s : Shared} {R : Result → Shared → Prop} {z ti tz i1 i2 l1 l2 S : Addr} {xs ys : Array Value} {n : Nat}
def ZSt (z ti tz i1 i2 l1 l2 : Addr) (xs ys : Array Value) (h : Heap) (i : Nat) : Prop :=
  (∃ v b, ZpV h z ti tz v b ∧ Mrk v) ∧ IsPair h ti (.ref i1) (.ref i2) ∧ (∃ x y, IsPair h tz x y) ∧ h.IsListIter i1 l1 i ∧ h.IsListIter i2 l2 i ∧ h.IsList l1 xs ∧ h.IsList l2 ys
/-- the pairs that were given out -/
def ZAcc (S : Addr) (xs ys : Array Value) (h : Heap) (acc : Array Value) (i : Nat) : Prop :=
  ∃ Ts : List Addr, acc = (Ts.map Value.ref).toArray ∧ Ts.length = i ∧ Ts.Nodup ∧ ∀ (j : Nat) (T : Addr), Ts[j]? = some T → S < T ∧ ∃ x y : Value, xs[j]? = some x ∧ ys[j]? = some y ∧ IsPair h T x y
theorem isList_keep {h h' : Heap} {a : Addr} {its : Array Value} (hl : h.IsList a its) (k : ∀ o, h.get? a = some o → h'.get? a = some o) : h'.IsList a its := by
  obtain ⟨o, ho, r⟩ := hl
  exact ⟨o, k o ho, r⟩
theorem ZSt.keep {h h' : Heap} {i : Nat} (st : ZSt z ti tz i1 i2 l1 l2 xs ys h i) (k : ∀ b ∈ [z, ti, tz, i1, i2, l1, l2], ∀ o, h.get? b = some o → h'.get? b = some o) : ZSt z ti tz i1 i2 l1 l2 xs ys h' i := by
  obtain ⟨⟨v, b, hz, hm⟩, hti, ⟨x, y, htz⟩, h1, h2, hl1, hl2⟩ := st
  exact ⟨⟨v, b, k z (by simp) _ hz, hm⟩, k ti (by simp) _ hti, ⟨x, y, k tz (by simp) _ htz⟩, h1.at fun o q => k i1 (by simp) o q, h2.at fun o q => k i2 (by simp) o q, isList_keep hl1 fun o q => k l1 (by simp) o q, isList_keep hl2 fun o q => k l2 (by simp) o q⟩
theorem ZAcc.keep {h h' : Heap} {i : Nat} {acc : Array Value} (st : ZAcc S xs ys h acc i) (k : ∀ b, S < b → ∀ o, h.get? b = some o → h'.get? b = some o) : ZAcc S xs ys h' acc i := by
  obtain ⟨Ts, h1, h2, h3, h4⟩ := st
  refine ⟨Ts, h1, h2, h3, fun j T hj => ?_⟩
  obtain ⟨q1, x, y, q2, q3, q4⟩ := h4 j T hj
  exact ⟨q1, x, y, q2, q3, k T q1 _ q4⟩
theorem ZAcc.size {h : Heap} {i : Nat} {acc : Array Value} (st : ZAcc S xs ys h acc i) : acc.size = i := by
  obtain ⟨Ts, h1, h2, _⟩ := st
  rw [h1, List.size_toArray, List.length_map, h2]
theorem zl_loop (hh : A.in1.handled = none) (D : ZipApart z ti tz i1 i2 l1 l2) (lt : ∀ b ∈ [z, ti, tz, i1, i2, l1, l2], b < S) (hn : min xs.size ys.size = n) (hn' : n ≤ sizeLine) (res : Value) :
    ∀ (k i : Nat) (s : Shared) (acc : Array Value) (c : Nat), n - i = k → i ≤ n → ZSt z ti tz i1 i2 l1 l2 xs ys s.heap i → ZAcc S xs ys s.heap acc i → s.heap.get? S = some { cls := .type "list", dict := none, data := .seq acc c, slots := #[] } →
    (∀ h' acc' c', (∀ b o, b ≠ S → b ∉ [z, ti, tz, i1, i2] → s.heap.get? b = some o → h'.get? b = some o) → h'.get? S = some { cls := .type "list", dict := none, data := .seq acc' c', slots := #[] } → ZAcc S xs ys h' acc' n → R (.ok (.ret res)) { s with heap := h' }) →
    codeAny (model prog w) A (.builtin "list.extend.loop" ⟨[.ref S, .ref z, res], []⟩) R s := by
  have ne : ∀ b ∈ [z, ti, tz, i1, i2, l1, l2], b ≠ S := fun b hb => Nat.ne_of_lt (lt b hb)
  intro k
  induction k with
  | zero =>
    intro i s acc c hk hi hst hacc hS hR
    have hin : i = n := by omega
    subst hin
    refine codeAny_builtin F.entry_extend_loop ?_
    rw [Around.under_plainId F.plain_extend_loop _]
    show wpAny _ A.in1 (pyNext (.ref z) >>= _) _ _ s
    obtain ⟨⟨v, b, hz, hm⟩, hti, ⟨x, y, htz⟩, h1, h2, hl1, hl2⟩ := hst
    refine wpAny_bind (pyNext_zipL_end hh D hz hm hti htz h1 h2 hl1 hl2 ?_ fun h' gone => ?_)
    · rcases Nat.le_total xs.size ys.size with q | q
      · exact .inl (by rw [Array.getElem?_eq_none_iff]; omega)
      · exact .inr (by rw [Array.getElem?_eq_none_iff]; omega)
    · have kp : ∀ b o, b ∉ [z, ti, tz, i1, i2] → s.heap.get? b = some o → h'.get? b = some o := fun b o hb q => gone b o (fun e => hb (by simp [e])) (fun e => hb (by simp [e])) (fun e => hb (by simp [e])) (fun e => hb (by simp [e])) q
      have big : ∀ b, S ≤ b → b ∉ [z, ti, tz, i1, i2] := fun b hb hm => Nat.lt_irrefl _ (Nat.lt_of_lt_of_le (lt b (List.mem_append_left [l1, l2] hm)) hb)
      exact wpAny_pure (hR h' acc c (fun b o _ hb q => kp b o hb q) (kp S _ (big S (Nat.le_refl _)) hS) (hacc.keep fun b hb o q => kp b o (big b (Nat.le_of_lt hb)) q))
  | succ k ih =>
    intro i s acc c hk hi hst hacc hS hR
    have hlt : i < n := by omega
    refine codeAny_builtin F.entry_extend_loop ?_
    rw [Around.under_plainId F.plain_extend_loop _]
    show wpAny _ A.in1 (pyNext (.ref z) >>= _) _ _ s
    obtain ⟨⟨v, b, hz, hm⟩, hti, ⟨x0, y0, htz⟩, h1, h2, hl1, hl2⟩ := hst
    have hx : xs[i]? = some xs[i] := Array.getElem?_eq_getElem (by omega)
    have hy : ys[i]? = some ys[i] := Array.getElem?_eq_getElem (by omega)
    refine wpAny_bind (pyNext_zipL_item D hz hm hti htz h1 h2 hl1 hl2 hx hy fun h' aft => ?_)
    obtain ⟨⟨v', b', z', m'⟩, ⟨p, q, t'⟩, k1, k2, hT, hsz, hk'⟩ := aft
    have kp : ∀ b o, b ∉ [z, ti, tz, i1, i2] → s.heap.get? b = some o → h'.get? b = some o := fun b o hb q => hk' b o (fun e => hb (by simp [e])) (fun e => hb (by simp [e])) (fun e => hb (by simp [e])) (fun e => hb (by simp [e])) q
    have big : ∀ b, S ≤ b → b ∉ [z, ti, tz, i1, i2] := fun b hb hm => Nat.lt_irrefl _ (Nat.lt_of_lt_of_le (lt b (List.mem_append_left [l1, l2] hm)) hb)
    have hS' := kp S _ (big S (Nat.le_refl _)) hS
    have hSl : S < s.heap.objs.size := Heap.lt_size hS
    show wpAny _ A.in1 (updateSeq S (·.push (.ref s.heap.objs.size)) >>= _) _ _ _
    refine wpAny_bind ?_
    have oth : ∀ b o, b ≠ S → h'.get? b = some o → (h'.update S (Obj.mapSeq (·.push (Value.ref s.heap.objs.size)))).get? b = some o := fun b o hb q => (Heap.get?_update_other _ _ (Ne.symm hb)).trans q
    have st' : ZSt z ti tz i1 i2 l1 l2 xs ys h' (i + 1) := ⟨⟨v', b', z', m'⟩, hk' _ _ D.TIz D.TITO D.TIi1 D.TIi2 hti, ⟨p, q, t'⟩, k1, k2, isList_keep hl1 fun o q => hk' _ _ D.l1z D.l1TO D.l1i1 D.l1i2 q, isList_keep hl2 fun o q => hk' _ _ D.l2z D.l2TO D.l2i1 D.l2i2 q⟩
    have ac' : ZAcc S xs ys h' (acc.push (.ref s.heap.objs.size)) (i + 1) := by
      obtain ⟨Ts, q1, q2, q3, q4⟩ := hacc
      have old : ∀ T ∈ Ts, T < s.heap.objs.size := fun T hT => by
        obtain ⟨j, hj, rfl⟩ := List.getElem_of_mem hT
        obtain ⟨_, _, _, _, _, r⟩ := q4 j _ (List.getElem?_eq_getElem hj)
        exact Heap.lt_size r
      refine ⟨Ts ++ [s.heap.objs.size], by rw [q1]; simp, by rw [List.length_append, q2]; rfl, ?_, fun j T hj => ?_⟩
      · rw [List.nodup_append]
        exact ⟨q3, by simp, fun a h1 b h2 e => Nat.lt_irrefl _ (by have := old a h1; rw [e, List.mem_singleton.mp h2] at this; exact this)⟩
      · by_cases hji : j < Ts.length
        · rw [List.getElem?_append_left hji] at hj
          obtain ⟨r1, x, y, r2, r3, r4⟩ := q4 j T hj
          exact ⟨r1, x, y, r2, r3, kp T _ (big T (Nat.le_of_lt r1)) r4⟩
        · have hj2 := (List.getElem?_eq_some_iff.mp hj).1
          rw [List.length_append, List.length_singleton] at hj2
          obtain rfl : j = i := by omega
          rw [List.getElem?_append_right (by omega), show j - Ts.length = 0 by omega] at hj
          cases hj
          exact ⟨hSl, _, _, hx, hy, hT⟩
    refine wpAny_updateSeq hS' rfl (wpAny_pure ⟨plainId_quiet F.plain_extend_loop _, ih (i + 1) _ (acc.push (.ref s.heap.objs.size)) _ (by omega) hlt (st'.keep fun b hb o q => oth b o (ne b hb) q) (ac'.keep fun b hb o q => oth b o (Nat.ne_of_gt hb) q) (Heap.get?_update_self _ hS' rfl) fun h'' acc' c' kp2 hS2 hacc2 => ?_⟩)
      (by rw [hacc.size]; omega) (by show (acc.push _).size ≤ sizeLine + 1; rw [Array.size_push, hacc.size]; omega)
    exact hR h'' acc' c' (fun b o hb hb2 q => kp2 b o hb hb2 (oth b o hb (kp b o hb2 q))) hS2 hacc2
theorem zip_no_len : typeLookup (.type "zip") "__len__" = pure none := am_miss_of_fast (by decide +kernel)
theorem zip_no_hint : typeLookup (.type "zip") "__length_hint__" = pure none := am_miss_of_fast (by decide +kernel)
/-- list.extend by a zip -/
theorem zl_extend (hh : A.in1.handled = none) (D : ZipApart z ti tz i1 i2 l1 l2) (lt : ∀ b ∈ [z, ti, tz, i1, i2, l1, l2], b < S) (hn : min xs.size ys.size = n) (hn' : n ≤ sizeLine) (res : Value) (c₀ : Nat) (hst : ZSt z ti tz i1 i2 l1 l2 xs ys s.heap 0)
    (hS : s.heap.get? S = some { cls := .type "list", data := .seq #[] c₀ })
    (hR : ∀ h' acc' c', (∀ b o, b ≠ S → b ∉ [z, ti, tz, i1, i2] → s.heap.get? b = some o → h'.get? b = some o) → h'.get? S = some { cls := .type "list", dict := none, data := .seq acc' c', slots := #[] } → ZAcc S xs ys h' acc' n → R (.ok (.ret res)) { s with heap := h' }) :
    wpAny (model prog w) A.in1 (Builtin.List.listExtendWith (.ref S) (.ref z) res)
      (fun fin s' => match fin with | .done f => R (.ok f) s' | .again c' => c'.quiet = true ∧ codeAny (model prog w) A c' R s') (fun e s' => R (.error e) s') s := by
  have hSI : S ≠ z := Nat.ne_of_gt (lt z (by simp))
  have hT : s.TypeIs (.ref z) "zip" := by
    obtain ⟨v, b, hz, _⟩ := hst.1
    exact ⟨_, hz, rfl⟩
  unfold Builtin.List.listExtendWith
  refine wpAny_bind (wpAny_typeOf hT ?_)
  have h1 : Builtin.List.listSameRef (.ref S) (.ref z) = false := by simp [Builtin.List.listSameRef, hSI]
  have h2 : (Value.type "zip" == Value.type "list") = false := by decide
  have h3 : (Value.type "zip" == Value.type "tuple") = false := by decide
  simp only [h1, h2, h3, Bool.or_false, Bool.false_eq_true, if_false]
  refine wpAny_bind (wpAny_pyIter_slot hT F.slot_zip_iter (wpAny_call_entry F.slot_zip_iter hT F.entry_zip_iter ?_ (F.args_zip_iter_1 _)))
  show wpAny _ _ (ret (.ref z)) _ _ s
  refine wpAny_pure ⟨_, rfl, "zip", _, hT, F.slot_zip_next.lookup, ?_⟩
  refine wpAny_bind (wpAny_holding ?_)
  unfold Builtin.List.listLengthHint
  refine wpAny_bind (wpAny_specialOf hT zip_no_len ?_)
  show wpAny _ A.in1 (specialOf (Value.ref z) (Str.ofString "__length_hint__") >>= _) _ _ _
  refine wpAny_bind (wpAny_specialOf hT zip_no_hint ?_)
  refine wpAny_pure ?_
  show wpAny _ A.in1 (rule "list.extend.makes-room" >>= fun _ => Builtin.List.listTouch (.ref S) >>= fun _ =>
    again (.builtin "list.extend.loop" ⟨[.ref S, .ref z, res], []⟩)) _ _ _
  refine wpAny_bind (wpAny_rule ?_)
  refine wpAny_bind ?_
  show wpAny _ A.in1 (updateSeq S (·.push .none) >>= fun _ => updateSeq S (·.pop)) _ _ _
  refine wpAny_bind (wpAny_updateSeq hS rfl ?_)
  have hS₂ := Heap.get?_update_self (Obj.mapSeq (·.push Value.none)) hS rfl
  refine wpAny_updateSeq (hz := by seq_fits) hS₂ rfl ?_
  have hS₃ := Heap.get?_update_self (Obj.mapSeq (·.pop)) hS₂ rfl
  have oth : ∀ b o, b ≠ S → s.heap.get? b = some o → ((s.heap.update S (Obj.mapSeq (·.push Value.none))).update S (Obj.mapSeq (·.pop))).get? b = some o :=
    fun b o hb e => (Heap.get?_update_other _ _ (Ne.symm hb)).trans ((Heap.get?_update_other _ _ (Ne.symm hb)).trans e)
  refine wpAny_pure ⟨plainId_quiet F.plain_extend_loop _, zl_loop hh D lt hn hn' res n 0 _ _ _ rfl (Nat.zero_le _) (hst.keep fun b hb o q => oth b o (Nat.ne_of_lt (lt b hb)) q) ⟨[], rfl, rfl, List.nodup_nil, fun j T hj => by simp at hj⟩ hS₃ fun h' acc' c' kp hS' hacc => ?_⟩
  exact hR h' acc' c' (fun b o hb hb2 q => kp b o hb hb2 (oth b o hb q)) hS' hacc
theorem zl_init (hh : A.in1.handled = none) (D : ZipApart z ti tz i1 i2 l1 l2) (lt : ∀ b ∈ [z, ti, tz, i1, i2, l1, l2], b < S) (hn : min xs.size ys.size = n) (hn' : n ≤ sizeLine) (hst : ZSt z ti tz i1 i2 l1 l2 xs ys s.heap 0)
    (hS : s.heap.get? S = some { cls := .type "list", data := .seq #[] })
    (hR : ∀ h' acc' c', (∀ b o, b ≠ S → b ∉ [z, ti, tz, i1, i2] → s.heap.get? b = some o → h'.get? b = some o) → h'.get? S = some { cls := .type "list", dict := none, data := .seq acc' c', slots := #[] } → ZAcc S xs ys h' acc' n → R (.ok (.ret .none)) { s with heap := h' }) :
    wpAny (model prog w) A.in1 (Builtin.«list.__init__» ⟨[.ref S, .ref z], []⟩)
      (fun fin s' => match fin with | .done f => R (.ok f) s' | .again c' => c'.quiet = true ∧ codeAny (model prog w) A c' R s') (fun e s' => R (.error e) s') s := by
  show wpAny _ A.in1 (do let old ← Builtin.List.listItems (.ref S); Builtin.List.listUpdate (.ref S) (fun _ => #[]); letGo old.toList.reverse; Builtin.List.listExtendWith (.ref S) (.ref z) .none) _ _ s
  refine wpAny_bind ?_
  unfold Builtin.List.listItems
  refine wpAny_bind (wpAny_seqItems hS rfl (wpAny_pure ?_))
  show wpAny _ A.in1 (updateSeq S (fun _ => #[]) >>= fun _ => letGo (#[] : Array Value).toList.reverse >>= fun _ => Builtin.List.listExtendWith (.ref S) (.ref z) .none) _ _ s
  refine wpAny_bind (wpAny_updateSeq hS rfl ?_)
  have hS₂ := Heap.get?_update_self (Obj.mapSeq (fun _ => (#[] : Array Value))) hS rfl
  have oth : ∀ b o, b ≠ S → s.heap.get? b = some o → (s.heap.update S (Obj.mapSeq (fun _ => (#[] : Array Value)))).get? b = some o :=
    fun b o hb e => (Heap.get?_update_other _ _ (Ne.symm hb)).trans e
  refine wpAny_bind (wpAny_letGo ?_)
  refine zl_extend hh D lt hn hn' .none _ (hst.keep fun b hb o q => oth b o (Nat.ne_of_lt (lt b hb)) q) hS₂ fun h' acc' c' kp hS' hacc => ?_
  exact hR h' acc' c' (fun b o hb hb2 q => kp b o hb hb2 (oth b o hb q)) hS' hacc
theorem call_list_zipL {Q : Value → Shared → Prop} (hh : A.handled = none) (D : ZipApart z ti tz i1 i2 l1 l2) (lt : ∀ b ∈ [z, ti, tz, i1, i2, l1, l2], b < s.heap.objs.size) (hn : min xs.size ys.size = n) (hn' : n ≤ sizeLine) (hst : ZSt z ti tz i1 i2 l1 l2 xs ys s.heap 0)
    (hQ : ∀ h' acc' c', (∀ b o, b ∉ [z, ti, tz, i1, i2] → s.heap.get? b = some o → h'.get? b = some o) → h'.get? s.heap.objs.size = some { cls := .type "list", dict := none, data := .seq acc' c', slots := #[] } → ZAcc s.heap.objs.size xs ys h' acc' n → Q (.ref s.heap.objs.size) { s with heap := h' }) :
    wpAny (model prog w) A (call (.type "list") [.ref z]) Q E s := by
  refine callType_codes (Q₁ := fun obj s₁ => obj = .ref s.heap.objs.size ∧ s₁ = { s with heap := s.heap.push { cls := .type "list", data := .seq #[] } }) F.called_list (F.typeCall_list_1 _) F.entry_list_init
    (code_list_new _ ⟨rfl, rfl⟩) fun obj s₁ h₁ => ?_
  obtain ⟨rfl, rfl⟩ := h₁
  have hS : (s.heap.push { cls := .type "list", data := .seq #[] }).get? s.heap.objs.size = some { cls := .type "list", data := .seq #[] } := Heap.get?_push_size _ rfl
  refine ⟨⟨_, hS, rfl⟩, F.args_list_init_2 _ _, zl_init hh D lt hn hn' (hst.keep fun b _ o e => Heap.get?_push_of_some _ e) hS fun h' acc' c' kp hS' hacc => ?_⟩
  exact ⟨rfl, hQ h' acc' c' (fun b o hb q => kp b o (Nat.ne_of_lt (Heap.lt_size q)) hb (Heap.get?_push_of_some _ q)) hS' hacc⟩
end
end DL
namespace DL
open PySem PySem.Spec PyProof.Rows L2
section
variable {X : Cx} {K : PySem.W.Frag} {pins : List (Addr × Obj)} {st : L2.St} {H H' : Hp} {s : Shared} {h h' : Heap} {l : Addr} {Ts : List Addr} {ps : List (V × V)}
/-- the heap with the new pairs and their list -/
def zipH (H : Hp) (l : Addr) (Ts : List Addr) (ps : List (V × V)) : Hp := fun c => if c = l then some (.lst (Ts.map V.ref)) else match (Ts.zip ps).find? (fun q => decide (q.1 = c)) with
  | some q => some (.tup [q.2.1, q.2.2])
  | none => H c
theorem zipH_l : zipH H l Ts ps l = some (.lst (Ts.map V.ref)) := if_pos rfl
theorem zipH_out {c : Addr} (h1 : c ≠ l) (h2 : c ∉ Ts) : zipH H l Ts ps c = H c := by
  unfold zipH
  rw [if_neg h1]
  cases e : (Ts.zip ps).find? (fun q => decide (q.1 = c)) with
  | none => rfl
  | some q =>
    have m := List.mem_of_find?_eq_some e
    have z := List.find?_some e
    have z : q.1 = c := of_decide_eq_true z
    exact absurd (z ▸ (List.of_mem_zip m).1) h2
theorem zipH_T {j : Nat} {T : Addr} {p : V × V} (hn : Ts.Nodup) (hl : l ∉ Ts) (h1 : Ts[j]? = some T) (h2 : ps[j]? = some p) : zipH H l Ts ps T = some (.tup [p.1, p.2]) := by
  have hT : T ∈ Ts := List.mem_of_getElem? h1
  unfold zipH
  rw [if_neg (show ¬ T = l from fun e => hl (by rw [← e]; exact hT))]
  have mem : (T, p) ∈ Ts.zip ps := List.mem_of_getElem? (i := j) (by rw [List.getElem?_zip_eq_some]; exact ⟨h1, h2⟩)
  cases e : (Ts.zip ps).find? (fun q => decide (q.1 = T)) with
  | none =>
    have := List.find?_eq_none.mp e _ mem
    exact absurd (decide_eq_true rfl) this
  | some q =>
    have m := List.mem_of_find?_eq_some e
    have z := List.find?_some e
    have z : q.1 = T := of_decide_eq_true z
    obtain ⟨i, hi, eq⟩ := List.getElem_of_mem m
    have hq : (Ts.zip ps)[i]? = some q := by rw [List.getElem?_eq_getElem hi, eq]
    rw [List.getElem?_zip_eq_some] at hq
    obtain ⟨a1, a2⟩ := hq
    rw [z] at a1
    obtain ⟨b1, c1⟩ := List.getElem?_eq_some_iff.mp a1
    obtain ⟨b2, c2⟩ := List.getElem?_eq_some_iff.mp h1
    have : i = j := by
      rcases Nat.lt_trichotomy i j with x | x | x
      · exact absurd (c1.trans c2.symm) (List.pairwise_iff_getElem.mp hn i j b1 b2 x)
      · exact x
      · exact absurd (c2.trans c1.symm) (List.pairwise_iff_getElem.mp hn j i b2 b1 x)
    subst this
    rw [h2] at a2
    cases a2
    rfl
theorem un_grown {P : Program} {w : World} {fs ex : List Addr} (k : ∀ b u, h.get? b = some u → h'.get? b = some u) (ext : ∀ b o, H b = some o → H' b = some o) (fr : ∀ b, b < h.objs.size → H' b = H b) : Un fs ex H H' h h' :=
  ⟨fun b u q _ _ _ => k b u q, fun b u q _ _ _ => ⟨u.slots, k b u q⟩, fun b u q n _ => by rw [fr b (Heap.lt_size q)]; exact n, fun b u q _ => ⟨u, k b u q⟩, fun b xs q => ext b _ q, fun b u xs q => ext b _ q, fun b ps q => ⟨#[], by rw [ext b _ q]; simp⟩⟩
theorem RpA.ofGet {H : Hp} : ∀ {ds : List D} {vs : List V}, ds.length = vs.length → (∀ (j : Nat) (d : D) (v : V), ds[j]? = some d → vs[j]? = some v → Rp K H d v) → RpA K H ds vs
  | [], [], _, _ => rfl
  | d :: ds, v :: vs, hl, h => ⟨v, vs, rfl, h 0 d v rfl rfl, RpA.ofGet (by simpa using hl) fun j d' v' h1 h2 => h (j + 1) d' v' (by simpa using h1) (by simpa using h2)⟩
theorem vals_refs : ∀ Ts : List Addr, Vals (Ts.map V.ref) (Ts.map Value.ref)
  | [] => .nil
  | T :: Ts => .cons rfl (vals_refs Ts)
def tListZip (K : PySem.W.Frag) (ta : TA) : TE := fun st H Q => ta st H fun vs H1 => ∃ (a b : Addr) (xs ys : List V), vs = [.ref a, .ref b] ∧ SqL K H1 a xs ∧ SqL K H1 b ys ∧ xs.length ≤ 100000 ∧
  ∀ (l : Addr) (Ts : List Addr), Ts.Nodup → l ∉ Ts → H1 l = none → (∀ T ∈ Ts, H1 T = none) → Ts.length = (xs.zip ys).length → Q (.ref l) (zipH H1 l Ts (xs.zip ys))
theorem pe_listZip {e e2 : Expr} {ta : TA} {p p2 q pos : Pos} (hg : Gl X "list") (hm : X.mg "list" = none) (hg2 : Gl X "zip") (hm2 : X.mg "zip" = none) (ha : PA X [e, e2] ta) (hc : X.calm = true)
    (hs : starEach [e, e2] X.env = (false, eval e X.env) :: starEach [e2] X.env := by rfl) (hpl : (backTo q (starEach [e2] X.env)).any (·.1) = false := by rfl) :
    PE X (.Call (.Name "list" p) [.Call (.Name "zip" p2) [e, e2] [] q] [] pos) (tListZip X.K ta) := by
  refine ⟨fun pins s st H Q I h => ?_⟩
  refine Call_ (ld_blt I hg hm (show bootBuiltins "list" = some (.type "list") by decide +kernel) ?_)
  refine PyProof.Rows.callWith_type1 (PyProof.Rows.args_cons ?_ rfl) rfl rfl
  refine Call_ (ld_blt I hg2 hm2 PyProof.Rows.boot_zip (PyProof.Rows.callWith_type1 (thn (ha.run q pins s st H _ I h) fun us s1 h1 => ?_) hs hpl))
  obtain ⟨vs, H1, I1, r1, a, b, xs, ys, rfl, hqx, hqy, hl, q1⟩ := h1
  obtain ⟨u1, us1, rfl, r, rr⟩ : ∃ u1 us1, us = u1 :: us1 ∧ RelV (.ref a) u1 ∧ Vals [.ref b] us1 := by cases r1 with | cons r rr => exact ⟨_, _, rfl, r, rr⟩
  obtain ⟨u2, us2, rfl, r', rr'⟩ : ∃ u1 us2, us1 = u1 :: us2 ∧ RelV (.ref b) u1 ∧ Vals [] us2 := by cases rr with | cons r rr => exact ⟨_, _, rfl, r, rr⟩
  obtain rfl : us2 = [] := by cases rr'; rfl
  obtain rfl : u1 = Value.ref a := r
  obtain rfl : u2 = Value.ref b := r'
  obtain ⟨its, rv, pa, _⟩ := I1.list hqx
  obtain ⟨jts, rw2, pb, _⟩ := I1.list hqy
  have hl1 := rv.length
  have hl2 := rw2.length
  refine call_zip_2 pa.isList pb.isList fun hz zz hti htz h1 h2 hsz hk => ?_
  refine PyProof.Rows.args_nil ?_
  have la := pa.lt
  have lb := pb.lt
  have lt5 : ∀ c ∈ [s1.heap.objs.size + 4, s1.heap.objs.size + 2, s1.heap.objs.size + 3, s1.heap.objs.size, s1.heap.objs.size + 1], s1.heap.objs.size ≤ c := fun c hcm => by
    simp only [List.mem_cons, List.not_mem_nil, or_false] at hcm
    rcases hcm with r | r | r | r | r <;> rw [r]
    · exact Nat.le_add_right _ _
    · exact Nat.le_add_right _ _
    · exact Nat.le_add_right _ _
    · exact Nat.le_refl _
    · exact Nat.le_add_right _ _
  have zlt := Heap.lt_size zz
  have zs : hz.objs.size = s1.heap.objs.size + 5 := hsz
  refine call_list_zipL (s := { s1 with heap := hz }) (xs := its.toArray) (ys := jts.toArray) (n := (xs.zip ys).length) (I1.ok.hd hc) (PySem.W.ktu_apart s1.heap.objs.size a b la lb) (fun c hcm => ?_) (by rw [List.size_toArray, List.size_toArray, List.length_zip, hl1, hl2]) ?_ ⟨⟨.none, false, zz, .inl rfl⟩, hti, ⟨_, _, htz⟩, h1, h2, isList_keep pa.isList fun o q => hk a o q, isList_keep pb.isList fun o q => hk b o q⟩ fun h' acc' c' kp hS hacc => ?_
  · show c < hz.objs.size
    rw [zs]
    simp only [List.mem_cons, List.not_mem_nil, or_false] at hcm
    rcases hcm with r | r | r | r | r | r | r <;> rw [r]
    · exact Nat.add_lt_add_left (by decide) _
    · exact Nat.add_lt_add_left (by decide) _
    · exact Nat.add_lt_add_left (by decide) _
    · exact Nat.lt_add_of_pos_right (by decide)
    · exact Nat.add_lt_add_left (by decide) _
    · exact Nat.lt_add_right 5 la
    · exact Nat.lt_add_right 5 lb
  · have := line63
    rw [List.length_zip]
    omega
  · obtain ⟨Ts, rfl, ht1, ht2, ht3⟩ := hacc
    have hS : h'.get? hz.objs.size = some { cls := .type "list", dict := none, data := .seq (Ts.map Value.ref).toArray c', slots := #[] } := hS
    have hle : s1.heap.objs.size ≤ hz.objs.size := by rw [zs]; exact Nat.le_add_right _ _
    have ht3 : ∀ (j : Nat) (T : Addr), Ts[j]? = some T → hz.objs.size < T ∧ ∃ x y : Value, its.toArray[j]? = some x ∧ jts.toArray[j]? = some y ∧ IsPair h' T x y := ht3
    have hTs : ∀ T ∈ Ts, hz.objs.size < T := fun T hT => by
      obtain ⟨j, hj, rfl⟩ := List.getElem_of_mem hT
      exact (ht3 j _ (List.getElem?_eq_getElem hj)).1
    have hlT : hz.objs.size ∉ Ts := fun hm => Nat.lt_irrefl _ (hTs _ hm)
    have k : ∀ b u, s1.heap.get? b = some u → h'.get? b = some u := fun b u q => kp b u (fun hm => absurd (Heap.lt_size q) (Nat.not_lt_of_le (lt5 b hm))) (hk b u q)
    have fr : ∀ b, b < s1.heap.objs.size → zipH H1 hz.objs.size Ts (xs.zip ys) b = H1 b := fun b hb => zipH_out (Nat.ne_of_lt (Nat.lt_of_lt_of_le hb hle)) (fun hm => Nat.lt_irrefl b (Nat.lt_trans (Nat.lt_of_lt_of_le hb hle) (hTs b hm)))
    have ext : ∀ b o, H1 b = some o → zipH H1 hz.objs.size Ts (xs.zip ys) b = some o := fun b o q => by rw [fr b (I1.hok.lt q)]; exact q
    have hok : HOk X.prog X.w (zipH H1 hz.objs.size Ts (xs.zip ys)) h' := fun c o q => by
      by_cases hc1 : c = hz.objs.size
      · rw [hc1] at q ⊢
        rw [zipH_l] at q
        cases q
        exact ⟨by rw [List.length_map, ht1]; have := line63; rw [List.length_zip]; omega, Ts.map Value.ref, c', vals_refs Ts, hS⟩
      · by_cases hc2 : c ∈ Ts
        · obtain ⟨j, hj, rfl⟩ := List.getElem_of_mem hc2
          obtain ⟨_, x, y, e1, e2, e3⟩ := ht3 j _ (List.getElem?_eq_getElem hj)
          have hj1 : j < xs.length := by rw [ht1, List.length_zip] at hj; omega
          have hj2 : j < ys.length := by rw [ht1, List.length_zip] at hj; omega
          obtain ⟨u, hu, ru⟩ := rv.get (List.getElem?_eq_getElem hj1)
          obtain ⟨v, hv, rv'⟩ := rw2.get (List.getElem?_eq_getElem hj2)
          rw [List.getElem?_toArray, hu] at e1
          rw [List.getElem?_toArray, hv] at e2
          have e1' : u = x := Option.some.inj e1
          have e2' : v = y := Option.some.inj e2
          rw [← e1', ← e2'] at e3
          rw [zipH_T ht2 hlT (List.getElem?_eq_getElem hj) (show (xs.zip ys)[j]? = some (xs[j], ys[j]) by rw [List.getElem?_zip_eq_some]; exact ⟨List.getElem?_eq_getElem hj1, List.getElem?_eq_getElem hj2⟩)] at q
          cases q
          exact ⟨(by decide : 2 ≤ sizeLine), [u, v], .cons ru (.cons rv' .nil), ⟨_, e3, rfl, _, rfl⟩⟩
        · rw [zipH_out hc1 hc2] at q
          exact (I1.hok c o q).stay (fun c v _ q => k c v q) (fun c q => ext c _ q) fun c xs q => ext c _ q
    have I2 : Inv X pins st (zipH H1 hz.objs.size Ts (xs.zip ys)) { s1 with heap := h' } := I1.un (t' := s1.toks) (un_grown (P := X.prog) (w := X.w) k ext fr) hok
    exact ⟨.ref hz.objs.size, _, I2, rfl, q1 hz.objs.size Ts ht2 hlT (I1.hok.fresh hle) (fun T hT => I1.hok.fresh (Nat.le_trans hle (Nat.le_of_lt (hTs T hT)))) ht1⟩
theorem stp_zip {H1 Hs1 : Hp} (s : Same Hs1 H1) (hl : H1 l = none) (hT : ∀ T ∈ Ts, H1 T = none) : Stp none H1 Hs1 (zipH H1 l Ts ps) (zipH Hs1 l Ts ps) where
  sub := fun a o h => by
    unfold zipH at h ⊢
    split at h
    · next e => rw [if_pos e]; exact h
    · next e =>
      rw [if_neg e]
      split at h
      · exact h
      · exact s a o h
  ext := fun a o h => by
    have n1 : a ≠ l := fun e => by rw [e] at h; have := s l o h; rw [hl] at this; cases this
    have n2 : a ∉ Ts := fun e => by have := s a o h; rw [hT a e] at this; cases this
    rw [zipH_out n1 n2]; exact h
  keep := fun a o h _ => by
    have n1 : a ≠ l := fun e => by rw [e, hl] at h; cases h
    have n2 : a ∉ Ts := fun e => by rw [hT a e] at h; cases h
    rw [zipH_out n1 n2]; exact h
  there := fun a o h => by
    have n1 : a ≠ l := fun e => by rw [e, hl] at h; cases h
    have n2 : a ∉ Ts := fun e => by rw [hT a e] at h; cases h
    exact ⟨o, by rw [zipH_out n1 n2]; exact h⟩
  new := fun a o h n => by
    have n1 : a ≠ l := fun e => by rw [e, hl] at h; cases h
    have n2 : a ∉ Ts := fun e => by rw [hT a e] at h; cases h
    rw [zipH_out n1 n2]; exact n
end
end DL
namespace DL
open PySem PySem.Spec PyProof.Rows L2
/-! xs = list(zip(a, b)), xs owned -/
section
variable {X : Cx} {K : PySem.W.Frag} {H : Hp} {l : Addr} {Ts : List Addr} {ps : List (V × V)}
def zipTs (H : Hp) (Ts : List Addr) (ps : List (V × V)) : Hp := fun c => match (Ts.zip ps).find? (fun q => decide (q.1 = c)) with
  | some q => some (.tup [q.2.1, q.2.2])
  | none => H c
theorem zipTs_eq {c : Addr} (h : c ≠ l) : zipTs H Ts ps c = zipH H l Ts ps c := by
  unfold zipTs zipH
  refine Eq.trans ?_ (if_neg h).symm
  cases (Ts.zip ps).find? (fun q => decide (q.1 = c)) <;> rfl
theorem zipTs_out {c : Addr} (h : c ∉ Ts) : zipTs H Ts ps c = H c := by
  unfold zipTs
  cases e : (Ts.zip ps).find? (fun q => decide (q.1 = c)) with
  | none => rfl
  | some q =>
    have m := List.mem_of_find?_eq_some e
    have z := List.find?_some e
    have z : q.1 = c := of_decide_eq_true z
    exact absurd (z ▸ (List.of_mem_zip m).1) h
theorem stp_zipL {H1 Hs1 : Hp} (s : Same Hs1 H1) (hl : H1 l = none) (hlT : l ∉ Ts) (hT : ∀ T ∈ Ts, H1 T = none) : Stp none H1 Hs1 (zipH H1 l Ts ps) (zipTs Hs1 Ts ps) := by
  have b := stp_zip (l := l) (Ts := Ts) (ps := ps) s hl hT
  have nl : ∀ a o, zipTs Hs1 Ts ps a = some o → a ≠ l := fun a o h e => by
    rw [e, zipTs_out hlT] at h
    have := s l o h
    rw [hl] at this
    cases this
  refine ⟨fun a o h => b.sub a o (by rw [← zipTs_eq (nl a o h)]; exact h), fun a o h => ?_, b.keep, b.there, fun a o h n => ?_⟩
  · have n2 : a ∉ Ts := fun e => by have := s a o h; rw [hT a e] at this; cases this
    rw [zipTs_out n2]; exact h
  · have n2 : a ∉ Ts := fun e => by rw [hT a e] at h; cases h
    rw [zipTs_out n2]; exact n
def dListZipL (t : DTA) : DTA := fun g r f Q => t g r f fun ds f1 => match ds with
  | [.lst xs, .lst ys] => xs.length ≤ 100000 ∧ Q (zipD xs ys) f1
  | _ => False
theorem dl_listZip {e e2 : Expr} {d : DTA} {p p2 q pos : Pos} (hm : X.mg "list" = none) (hm2 : X.mg "zip" = none) (ha : DA X [e, e2] d) (hg : Gl X "list" := by rfl) (hg2 : Gl X "zip" := by rfl) (hc : X.calm = true := by rfl)
    (hs : starEach [e, e2] X.env = (false, eval e X.env) :: starEach [e2] X.env := by rfl) (hpl : (backTo q (starEach [e2] X.env)).any (·.1) = false := by rfl) :
    DL' X (.Call (.Name "list" p) [.Call (.Name "zip" p2) [e, e2] [] q] [] pos) (dListZipL d) := .mk' (pe_listZip hg hm hg2 hm2 ha.pa hc hs hpl) fun g ro f st H Hs Q Q' A hq hd =>
  ha.sn g ro f st H Hs _ _ A (fun ds f1 vs H1 Hs1 s1 k1 r1 q1 => by
    split at q1
    · next xs ys =>
      obtain ⟨hl, q1⟩ := q1
      obtain ⟨v, w, rfl, h, h'⟩ := rpA2 r1
      obtain ⟨a, vs, rfl, h1, h2⟩ := h
      obtain ⟨b, ws, rfl, h3, h4⟩ := h'
      refine ⟨a, b, vs, ws, rfl, SqL.of (s1.sub _ _ h1), SqL.of (s1.sub _ _ h3), by rw [← h2.length]; exact hl, fun l Ts hn hlT hl0 hT0 hlen => ?_⟩
      have al : Stp none H1 Hs1 (zipH H1 l Ts (vs.zip ws)) (zipTs Hs1 Ts (vs.zip ws)) := stp_zipL s1.sub hl0 hlT hT0
      refine hq (zipD xs ys) f1 l (Ts.map V.ref) _ _ (s1.trans al.gen) (k1.stp al) (none_back s1 hl0) (by rw [zipTs_out hlT]; exact same_none s1.sub hl0) zipH_l (RpA.ofGet (by rw [zipD_len, List.length_map, hlen, List.length_zip, h2.length, h4.length]) fun j d v hd hv => ?_) q1
      obtain ⟨x, y, e1, e2, rfl⟩ := zipD_get hd
      obtain ⟨vx, g1, g2⟩ := h2.get e1
      obtain ⟨vy, g3, g4⟩ := h4.get e2
      rw [List.getElem?_map] at hv
      cases hT : Ts[j]? with
      | none => rw [hT] at hv; cases hv
      | some T =>
        rw [hT] at hv
        cases hv
        have hTl : T ≠ l := fun e => hlT (e ▸ List.mem_of_getElem? hT)
        have e : zipTs Hs1 Ts (vs.zip ws) T = some (.tup [vx, vy]) := by
          rw [zipTs_eq hTl]
          exact zipH_T (p := (vx, vy)) hn hlT hT (by rw [List.getElem?_zip_eq_some]; exact ⟨g1, g3⟩)
        exact ⟨T, [vx, vy], rfl, .inl e, vx, [vy], rfl, g2.mono al.ext, vy, [], rfl, g4.mono al.ext, rfl⟩
    · exact q1.elim) hd
end
end DL
namespace DL
open PySem PySem.Spec PyProof.Rows L2
def topS (i : Nat) : Stmt := PySem.Challenge.pw_mayrest_k34_chain_evidence.main.body.getD i (.Pass ⟨0, 0, 0, 0⟩)
def clsS (i j : Nat) : Stmt := match topS i with
  | .ClassDef _ _ _ b _ _ _ _ _ _ _ => b.getD j (.Pass ⟨0, 0, 0, 0⟩)
  | s => s
section
variable {P : Program} {w : World} {K : PySem.W.Frag} {mg : Str → Option Value} {base : Heap}
/-! is_name -/
abbrev s_is_name : Stmt := topS 7
theorem sc_is_name : FnScope ["value", "sign"] ["value"] (defScope s_is_name) := ⟨rfl, rfl, rfl, by decide +kernel, rfl, by decide +kernel, by decide +kernel⟩
def letL : List Nat := (Str.ofString "abcdefghijklmnopqrstuvwxyz").cps.toList
def nmB (s : Str) : Bool := decide (1 ≤ s.length) && decide (s.length ≤ 8) && (cd s).all fun c => decide (c ∈ letL)
def Sp_is_name : DSp := fun _ ds f Q => ∃ s : Str, ds = [.str s] ∧ s.length ≤ 100000 ∧ Q (.bool (nmB s)) f
set_option maxHeartbeats 2000000 in
theorem ok_is_name (d : Df K mg "is_name" s_is_name) (m_all : mg "all" = none) (m_len : mg "len" = none) (m_str : mg "str" = none) (m_isinstance : mg "isinstance" = none) (g_LETTERS : ∃ t, mg "LETTERS" = some (.str "abcdefghijklmnopqrstuvwxyz" t)) (g_MAX_LETTERS : ∃ t, mg "MAX_LETTERS" = some (.int 8 t)) : Cal P w K mg base 1 "is_name" ["value"] Sp_is_name := by
  obtain ⟨f, fd, F, m⟩ := d
  refine ⟨f, fd, dfn (k := 0) (S := Sp_is_name) F sc_is_name ?len (fun cdv A outer s H E hr => (dss_one (ds_ret (de_and (de_isi m_isinstance (da_cons (de_v 0) (da_cons (de_bltn (v := .ty "str") (u := .type "str") (by rfl) m_str (by decide +kernel) rfl) da_nil))) (de_and (de_lele de_int (de_len m_len (da_cons (de_v 0) da_nil)) (de_glob (v := .int 8) (d := .int 8) (by rfl) g_MAX_LETTERS.choose_spec ⟨_, rfl⟩ (fun _ => rfl))) (de_one (de_callB (cr_all rfl) sc_all (by rfl) m_all (by decide +kernel) (da_cons (dl_lc (own := [("sign", 1)]) rfl sc_is_name.nd (di_seq (de_v 0)) (blkOk_by (own := [("sign", 1)]) (N := ["value", "sign"]) (sc := defScope s_is_name) (by decide +kernel)) (fun _ _ _ _ _ => dg_name (i := 1) sc_is_name.nd) (fun _ _ _ _ _ => dts_nil) (fun _ _ _ _ _ => (de_in hr (de_v 1) (de_glob (v := .str "abcdefghijklmnopqrstuvwxyz") (d := .str "abcdefghijklmnopqrstuvwxyz") (by rfl) g_LETTERS.choose_spec ⟨_, rfl⟩ (fun _ => rfl))))).e da_nil)))))))) ?h, F.kp, F.binds fun _ _ _ _ _ _ us hl => match us, hl with | [_], _ => rfl, m⟩
  case len =>
    intro g ds n Q h; obtain ⟨_, rfl, _⟩ := h; rfl
  case h =>
    intro g ds n Q h
    obtain ⟨s, rfl, hl, q⟩ := h
    refine ⟨"str", true, rfl, by decide +kernel, Nat.le_trans hl (by decide), ?_⟩
    unfold nmB at q
    show if decide ((1 : Int) ≤ (s.length : Int)) = true then _ else _
    by_cases h1 : 1 ≤ s.length
    · rw [decide_eq_true (by omega : (1 : Int) ≤ s.length)]
      rw [decide_eq_true h1, Bool.true_and] at q
      show if decide ((s.length : Int) ≤ 8) = true then _ else _
      by_cases h2 : s.length ≤ 8
      · rw [decide_eq_true (by omega : (s.length : Int) ≤ 8)]
        rw [decide_eq_true h2, Bool.true_and] at q
        refine ⟨?_, ?_⟩
        · unfold signs; rw [List.length_map]; rw [TL.len_tl] at h2; exact Nat.le_trans h2 (by decide)
        refine dLcGo_pure (fun _ => true) (fun d => match d with | .str z => .bool ((cd z).all fun c => decide (c ∈ letL)) | _ => .none) _ _ _ (fun d hd => ?_) ?_
        · unfold signs at hd
          obtain ⟨c, hc, rfl⟩ := List.mem_map.mp hd
          refine ⟨_, rfl, fun f Q h => h, fun _ f Q h => ⟨c, rfl, ?_⟩⟩
          have : ((cd (⟨#[c]⟩ : Str)).all fun c => decide (c ∈ letL)) = decide (c ∈ letL) := by show ([c].all fun c => decide (c ∈ letL)) = _; simp
          have h : Q (.bool ((cd (⟨#[c]⟩ : Str)).all fun c => decide (c ∈ letL))) f := h
          rw [this] at h
          exact h
        · refine ⟨(cd s).map fun c => decide (c ∈ letL), ?_, ?_⟩
          · rw [List.filter_eq_self.mpr (fun _ _ => rfl), List.nil_append]
            unfold signs
            rw [List.map_map, List.map_map]
            apply List.map_congr_left
            intro c _
            show D.bool ((cd (⟨#[c]⟩ : Str)).all fun c => decide (c ∈ letL)) = D.bool (decide (c ∈ letL))
            congr 1
            show ([c].all fun c => decide (c ∈ letL)) = _
            simp
          · rw [show (((cd s).map fun c => decide (c ∈ letL)).all id) = (cd s).all fun c => decide (c ∈ letL) from by rw [List.all_map]; rfl]
            exact q
      · rw [decide_eq_false (by omega : ¬ (s.length : Int) ≤ 8)]
        rw [decide_eq_false h2, Bool.false_and] at q
        exact q
    · rw [decide_eq_false (by omega : ¬ (1 : Int) ≤ s.length)]
      rw [decide_eq_false h1, Bool.false_and, Bool.false_and] at q
      exact q
/-! values that may be shown -/
def D.txt : D → Str
  | .str s => s
  | _ => ""
theorem txt_strs (vs : List Str) : (vs.map D.str).map D.txt = vs := by
  rw [List.map_map]
  exact List.map_id _
theorem lcMd {β : Type} (em' : β → D) (y : D → β) {g : Option Dk} {t : TgF} {e : DT} {r : Sg} {Q : List D → Nat → Prop} (xs : List D) (f : Nat)
    (h : ∀ x ∈ xs, ∃ l, t x = some l ∧ ∀ (f : Nat) (Q : QD), Q (em' (y x)) f → e g (setsR r l) f Q) (q : Q ((xs.map y).map em') f) : dLcGo g t dYes e r xs [] f Q := by
  have := lcM (fun d : D => d) em' y xs f h q
  rwa [List.map_id'' (fun _ => rfl)] at this
theorem lcFd (b : D → Bool) {g : Option Dk} {t : TgF} {c : DTT} {e : DT} {r : Sg} {Q : List D → Nat → Prop} (xs : List D) (f : Nat)
    (h : ∀ x ∈ xs, ∃ l, t x = some l ∧ (∀ (f : Nat) (Q : Bool → Nat → Prop), Q (b x) f → c g (setsR r l) f Q) ∧ (b x = true → ∀ (f : Nat) (Q : QD), Q x f → e g (setsR r l) f Q)) (q : Q (xs.filter b) f) : dLcGo g t c e r xs [] f Q := by
  have := lcF (fun d : D => d) b xs f h (by rw [List.map_id'' (fun _ => rfl)]; exact q)
  rwa [List.map_id'' (fun _ => rfl)] at this
theorem good_isT {x : D} (h : x.good = true) : ∃ t, x.tyN = some t ∧ kitB t "tuple" = some x.isTup := by
  cases x <;> first
    | (cases h; done)
    | (refine ⟨_, rfl, ?_⟩; simp only [D.isTup]; decide +kernel)
/-! values of bounded parts -/
def big : Nat := 10 ^ 40
def kInn (s : Nat) : Key → Bool
  | .inl _ => false
  | .inr x => decide (asc x) && decide (x.length ≤ s)
mutual
def D.inn (s m : Nat) : D → Bool
  | .none => true
  | .bool _ => true
  | .int i => decide (i.natAbs ≤ big + m)
  | .str x => decide (asc x) && decide (x.length ≤ s)
  | .tup xs => innA s m xs
  | .lst xs => innA s m xs
  | .dct ks xs => ks.all (kInn s) && innA s m xs
  | .obj _ _ _ => false
  | .exn _ _ _ => false
  | .any _ => false
def innA (s m : Nat) : List D → Bool
  | [] => true
  | x :: xs => x.inn s m && innA s m xs
end
theorem innA_iff {s m : Nat} : ∀ {xs : List D}, innA s m xs = true ↔ ∀ x ∈ xs, x.inn s m = true
  | [] => ⟨fun _ _ h => (nomatch h), fun _ => rfl⟩
  | x :: xs => by
    show (x.inn s m && innA s m xs) = true ↔ _
    rw [Bool.and_eq_true, innA_iff]
    exact ⟨fun h y hy => (List.mem_cons.mp hy).elim (fun e => e ▸ h.1) (h.2 y), fun h => ⟨h x (by simp), fun y hy => h y (by simp [hy])⟩⟩
theorem kInn_ok {s : Nat} (hs : s ≤ 5000) : ∀ k : Key, kInn s k = true → keyOk k = true
  | .inl _, h => by cases h
  | .inr x, h => by
    have h : (decide (asc x) && decide (x.length ≤ s)) = true := h
    rw [Bool.and_eq_true, decide_eq_true_iff, decide_eq_true_iff] at h
    show (decide (asc x) && decide (x.length ≤ 5000)) = true
    rw [decide_eq_true h.1, decide_eq_true (Nat.le_trans h.2 hs)]; rfl
theorem asc_cps {s : Str} (h : asc s) : (s.cps.toList.all fun c => decide (c < 1114112)) = true :=
  List.all_eq_true.mpr fun c hc => decide_eq_true (Nat.lt_trans (h c hc) (by decide))
theorem kInn_sh {s : Nat} : ∀ k : Key, kInn s k = true → kOk k = true
  | .inl _, h => by cases h
  | .inr x, h => by
    have h : (decide (asc x) && decide (x.length ≤ s)) = true := h
    rw [Bool.and_eq_true, decide_eq_true_iff, decide_eq_true_iff] at h
    exact asc_cps h.1
mutual
theorem D.inn_good {s m : Nat} (hs : s ≤ 5000) : ∀ d : D, d.inn s m = true → d.good = true
  | .none, _ => rfl
  | .bool _, _ => rfl
  | .int _, _ => rfl
  | .str x, h => kInn_ok hs (.inr x) h
  | .tup xs, h => innA_good hs xs h
  | .lst xs, h => innA_good hs xs h
  | .dct ks xs, h => by
    have h : (ks.all (kInn s) && innA s m xs) = true := h
    rw [Bool.and_eq_true] at h
    show (ks.all keyOk && goodA xs) = true
    rw [innA_good hs xs h.2, Bool.and_true, List.all_eq_true]
    exact fun k hk => kInn_ok hs k (List.all_eq_true.mp h.1 k hk)
  | .obj _ _ _, h => by cases h
  | .exn _ _ _, h => by cases h
  | .any _, h => by cases h
theorem innA_good {s m : Nat} (hs : s ≤ 5000) : ∀ ds : List D, innA s m ds = true → goodA ds = true
  | [], _ => rfl
  | x :: xs, h => by
    have h : (x.inn s m && innA s m xs) = true := h
    rw [Bool.and_eq_true] at h
    show (x.good && goodA xs) = true
    rw [D.inn_good hs x h.1, innA_good hs xs h.2]; rfl
end
theorem log2_big {n m : Nat} (h : n ≤ big + m) (hm : m ≤ 1000000) : n.log2 < 1920 := by
  by_cases e : n = 0
  · subst e; decide
  · rw [Nat.log2_lt e]
    exact Nat.lt_of_le_of_lt (Nat.le_trans h (Nat.add_le_add_left hm _)) (by decide +kernel : big + 1000000 < 2 ^ 1920)
mutual
theorem D.inn_sh {s m : Nat} (hm : m ≤ 1000000) : ∀ d : D, d.inn s m = true → d.shO = true
  | .none, _ => rfl
  | .bool _, _ => rfl
  | .int i, h => decide_eq_true (log2_big (of_decide_eq_true h) hm)
  | .str x, h => kInn_sh (.inr x) h
  | .tup xs, h => innA_sh hm xs h
  | .lst xs, h => innA_sh hm xs h
  | .dct ks xs, h => by
    have h : (ks.all (kInn s) && innA s m xs) = true := h
    rw [Bool.and_eq_true] at h
    show (ks.all kOk && shOA xs) = true
    rw [innA_sh hm xs h.2, Bool.and_true, List.all_eq_true]
    exact fun k hk => kInn_sh k (List.all_eq_true.mp h.1 k hk)
  | .obj _ _ _, h => by cases h
  | .exn _ _ _, h => by cases h
  | .any _, h => by cases h
theorem innA_sh {s m : Nat} (hm : m ≤ 1000000) : ∀ ds : List D, innA s m ds = true → shOA ds = true
  | [], _ => rfl
  | x :: xs, h => by
    have h : (x.inn s m && innA s m xs) = true := h
    rw [Bool.and_eq_true] at h
    show (x.shO && shOA xs) = true
    rw [D.inn_sh hm x h.1, innA_sh hm xs h.2]; rfl
end
theorem kInn_mono {s s' : Nat} (hs : s ≤ s') : ∀ k : Key, kInn s k = true → kInn s' k = true
  | .inl _, h => by cases h
  | .inr x, h => by
    have h : (decide (asc x) && decide (x.length ≤ s)) = true := h
    rw [Bool.and_eq_true, decide_eq_true_iff, decide_eq_true_iff] at h
    show (decide (asc x) && decide (x.length ≤ s')) = true
    rw [decide_eq_true h.1, decide_eq_true (Nat.le_trans h.2 hs)]; rfl
mutual
theorem D.inn_mono {s m s' m' : Nat} (hs : s ≤ s') (hm : m ≤ m') : ∀ d : D, d.inn s m = true → d.inn s' m' = true
  | .none, _ => rfl
  | .bool _, _ => rfl
  | .int i, h => decide_eq_true (Nat.le_trans (of_decide_eq_true h) (Nat.add_le_add_left hm _))
  | .str x, h => kInn_mono hs (.inr x) h
  | .tup xs, h => innA_mono hs hm xs h
  | .lst xs, h => innA_mono hs hm xs h
  | .dct ks xs, h => by
    have h : (ks.all (kInn s) && innA s m xs) = true := h
    rw [Bool.and_eq_true] at h
    show (ks.all (kInn s') && innA s' m' xs) = true
    rw [innA_mono hs hm xs h.2, Bool.and_true, List.all_eq_true]
    exact fun k hk => kInn_mono hs k (List.all_eq_true.mp h.1 k hk)
  | .obj _ _ _, h => by cases h
  | .exn _ _ _, h => by cases h
  | .any _, h => by cases h
theorem innA_mono {s m s' m' : Nat} (hs : s ≤ s') (hm : m ≤ m') : ∀ ds : List D, innA s m ds = true → innA s' m' ds = true
  | [], _ => rfl
  | x :: xs, h => by
    have h : (x.inn s m && innA s m xs) = true := h
    rw [Bool.and_eq_true] at h
    show (x.inn s' m' && innA s' m' xs) = true
    rw [D.inn_mono hs hm x h.1, innA_mono hs hm xs h.2]; rfl
end
theorem inn_str {x : Str} {s m : Nat} (h : (D.str x).inn s m = true) : asc x ∧ x.length ≤ s := by
  have h : (decide (asc x) && decide (x.length ≤ s)) = true := h
  rw [Bool.and_eq_true, decide_eq_true_iff, decide_eq_true_iff] at h
  exact h
theorem str_inn {x : Str} {s m : Nat} (h1 : asc x) (h2 : x.length ≤ s) : (D.str x).inn s m = true := by
  show (decide (asc x) && decide (x.length ≤ s)) = true
  rw [decide_eq_true h1, decide_eq_true h2]; rfl
theorem wtA_app : ∀ (xs ys : List D), wtA (xs ++ ys) = wtA xs + wtA ys
  | [], ys => by show wtA ys = 0 + _; omega
  | x :: xs, ys => by
    show x.wt + 2 + wtA (xs ++ ys) = x.wt + 2 + wtA xs + wtA ys
    rw [wtA_app xs ys]; omega
theorem wtA_rev : ∀ xs : List D, wtA xs.reverse = wtA xs
  | [] => rfl
  | x :: xs => by
    rw [List.reverse_cons, wtA_app, wtA_rev xs]
    show _ + (x.wt + 2 + 0) = x.wt + 2 + wtA xs
    omega
theorem wtA_sub {l xs : List D} (h : l.Sublist xs) : wtA l ≤ wtA xs := by
  induction h with
  | slnil => exact Nat.le_refl _
  | cons a _ ih => show _ ≤ a.wt + 2 + _; omega
  | cons_cons a _ ih => show a.wt + 2 + _ ≤ a.wt + 2 + _; omega
theorem wtA_split {xs : List D} {j : Nat} (h : j < xs.length) : wtA xs = wtA (xs.take j) + (xs[j].wt + 2) + wtA (xs.drop (j + 1)) := by
  have e : xs = xs.take j ++ xs[j] :: xs.drop (j + 1) := by rw [← List.drop_eq_getElem_cons h, List.take_append_drop]
  conv => lhs; rw [e]
  rw [wtA_app]
  show _ + (xs[j].wt + 2 + _) = _
  omega
theorem wtA_len : ∀ xs : List D, 2 * xs.length ≤ wtA xs
  | [] => Nat.le_refl _
  | x :: xs => by
    have := wtA_len xs
    show 2 * (xs.length + 1) ≤ x.wt + 2 + wtA xs
    omega
theorem dpA_le {p : Nat} : ∀ {xs : List D}, (∀ x ∈ xs, x.dp ≤ p) → dpA xs ≤ p
  | [], _ => Nat.zero_le _
  | x :: xs, h => by
    have h1 := h x (by simp)
    have h2 := dpA_le (xs := xs) fun y hy => h y (List.mem_cons_of_mem x hy)
    show max x.dp (dpA xs) ≤ p
    omega
theorem dpA_mem : ∀ {xs : List D} {x : D}, x ∈ xs → x.dp ≤ dpA xs
  | y :: xs, x, h => by
    show x.dp ≤ max y.dp (dpA xs)
    rcases List.mem_cons.mp h with rfl | h
    · omega
    · have := dpA_mem h; omega
theorem cut_sub (xs : List D) (lo hi : Option Int) : (cutD xs lo hi).Sublist xs := (List.take_sublist _ _).trans (List.drop_sublist _ _)
theorem int_asc (i : Int) : asc (Str.ofString (toString i)) := by
  intro c hc
  have : c ∈ (Str.ofString (toString i)).cps.toList := hc
  rw [congrFun Str.ofString_eq_byList] at this
  have : c ∈ (toString i).toList.map Char.toNat := this
  obtain ⟨ch, h1, rfl⟩ := List.mem_map.mp this
  exact PySem.int_ascii i ch h1
abbrev s__law_pull : Stmt := topS 36
theorem sc__law_pull : FnScope ["_law_reel_here", "_law_many", "_law_rest", "_law_turn", "_law_mixed_here"] ["_law_reel_here", "_law_many"] (defScope s__law_pull) := ⟨rfl, rfl, rfl, by decide +kernel, rfl, by decide +kernel, by decide +kernel⟩
def Sp__law_pull : DSp := fun g ds f Q => ∃ (k : Dk) (m : Int) (f' : Nat), g = some k ∧ ds = [.any (.ref k.a), .int m] ∧ 0 < m ∧ m < 1000000000 ∧ f = f' + 1 ∧ ∀ r : Int, 0 ≤ r → r < m → Q (.int r) f'
theorem ok__law_pull (d : Df K mg "_law_pull" s__law_pull) (m_len : mg "len" = none) (m_int : mg "int" = none) : Cal P w K mg base 1 "_law_pull" ["_law_reel_here", "_law_many"] Sp__law_pull := by
  obtain ⟨f, fd, F, mm⟩ := d
  refine ⟨f, fd, ?_, F.kp, F.binds fun _ _ _ _ _ _ us hl => match us, hl with | [_, _], _ => rfl, mm⟩
  refine F.ok sc__law_pull (fun vs H Q E h => ?_) (fun cdv A outer s H vs Q E hr h => ?_)
  · obtain ⟨g, Hs, ds, n, Q', h1, h2, h3, ⟨k', m, f', e1, e2, _⟩, h5⟩ := h
    subst e2
    rw [← h3.length]
    rfl
  · obtain ⟨g, Hs, ds, n, Q', h1, h2, h3, ⟨k', m, f', e1, e2, m0, m1, e3, h4⟩, h5⟩ := h
    subst e1 e2 e3
    obtain ⟨v1, v2, rfl, r1, r2⟩ := rpA2 h3
    cases r1
    cases r2
    have dk0 := h2
    obtain ⟨⟨nab, nac, nbc, n, xs, ys, ha, hb, hc, px, py, py0, n0, nf⟩, na, nb, nc⟩ := h2
    refine ⟨_, pss_cons (ps_while PassesOwn.never (pt_cmpR (op_neD hr.units) (pe_ix ix_list (pv 0) pe_int (fun _ _ => rfl)) (pe_lst pa_nil) (nomark _))
        (pss_cons (ps_set (i := 2) sc__law_pull.nd rfl (.inl rfl) (pe_ix ix_list (pe_ix ix_list (pv 0) pe_int (fun _ _ => rfl)) pe_int (fun _ _ => rfl)))
        (pss_cons (ps_if (pt_cmpR op_gt (pv 2) pe_int (nomark _))
          (pss_cons (ps_asg (pe_op op_fdivW (pv 2) (pv 1)) (pg_sub (pe_ix ix_list (pv 0) pe_int (fun _ _ => rfl)) pe_int set_list))
          (pss_one (ps_ret (pe_op op_mod (pe_callTy call_int1 (by rfl) m_int PyProof.Rows.boot_int (pa_cons (pv 2) pa_nil)) (pv 1))))) pss_nil)
        (pss_one (ps_expr (pe_bm PySem.F.plainAttrs_list PySem.F.slot_list_pop PySem.F.type_list_pop mt_popAt (pe_ix ix_list (pv 0) pe_int (fun _ _ => rfl)) (pa_cons pe_int pa_nil)))))))
      (pss_cons (ps_asg (pe_op op_add (pe_ix ix_list (pv 0) pe_int (fun _ _ => rfl)) pe_int) (pg_sub (pv 0) pe_int set_list))
      (pss_cons (ps_set (i := 3) sc__law_pull.nd rfl (.inl rfl) (pe_ix ix_list (pv 0) pe_int (fun _ _ => rfl)))
      (pss_cons (ps_set (i := 4) sc__law_pull.nd rfl (.inl rfl) (pe_op op_mod (pe_callTy call_int1 (by rfl) m_int PyProof.Rows.boot_int (pa_cons (pe_ix ix_list (pe_ix ix_list (pv 0) pe_int (fun _ _ => rfl))
          (pe_op op_mod (pe_callTy call_int1 (by rfl) m_int PyProof.Rows.boot_int (pa_cons (pv 3) pa_nil)) (pe_callB call_len_seq (by rfl) m_len PySem.boot_len (pa_cons (pe_ix ix_list (pv 0) pe_int (fun _ _ => rfl)) pa_nil))) (fun _ _ => rfl)) pa_nil)) pe_int))
      (pss_cons (ps_set (i := 4) sc__law_pull.nd rfl (.inl rfl) (pe_op op_add (pe_op op_add (pe_op op_mul (pv 4) (pe_op op_add pe_int (pe_op op_mul pe_int (pv 3)))) (pe_op op_mul (pe_op op_mul pe_int (pv 3)) (pv 3))) pe_int))
      (pss_cons (ps_set (i := 4) sc__law_pull.nd rfl (.inl rfl) (pe_op op_add (pe_op op_mod (pe_callTy call_int1 (by rfl) m_int PyProof.Rows.boot_int (pa_cons (pe_op op_mulW (pv 4) (pv 4)) pa_nil)) pe_int) (pe_op op_mul pe_int (pv 3))))
      (pss_one (ps_ret (pe_op op_mod (pe_op op_fdiv (pe_op op_mod (pe_callTy call_int1 (by rfl) m_int PyProof.Rows.boot_int (pa_cons (pe_op op_mulW (pv 4) (pv 4)) pa_nil)) pe_int) pe_int) (pv 1))))))))), ?_⟩
    -- what stays: nothing but the deck's three lists changes
    have fin : ∀ (H3 : Hp) (n3 : Int) (x3 : List Int) (f3 : Nat) (d : D) (v : V), H3 k'.a = some (.lst [.ref k'.b, .ref k'.c, .int n3]) → H3 k'.b = some (.lst (x3.map V.int)) → H3 k'.c = some (.lst (ys.map V.int)) → (∀ x ∈ x3, (0 : Int) ≤ x) → 0 ≤ n3 → n3 + (f3 : Int) ≤ 1000000000000 →
        (∀ b o, b ≠ k'.a → b ≠ k'.b → H b = some o → H3 b = some o) → Rp K Hs d v → Q' d f3 → Q v H3 := by
      intro H3 n3 x3 f3 d v g1 g2 g3 g4 g5 g6 g7 g8 g9
      refine h5 d f3 v H3 Hs ⟨fun b o e => ?_, Same.refl _, fun b o e n => ?_, fun b o e => ?_, fun _ _ _ h => h⟩ ⟨⟨nab, nac, nbc, n3, x3, ys, g1, g2, g3, g4, py, py0, g5, g6⟩, na, nb, nc⟩ g8 g9
      · refine g7 b o (fun z => ?_) (fun z => ?_) (h1 b o e)
        · subst z; rw [na] at e; cases e
        · subst z; rw [nb] at e; cases e
      · exact g7 b o (fun z => n (.inl z)) (fun z => n (.inr (.inl z))) e
      · by_cases z : b = k'.a
        · exact ⟨_, z ▸ g1⟩
        · by_cases z' : b = k'.b
          · exact ⟨_, z' ▸ g2⟩
          · exact ⟨o, g7 b o z z' e⟩
    -- the while
    refine ⟨fun mm st H2 => ∃ y2 zs, mm = zs.length ∧ st = [some (.ref k'.a), some (.int m), y2, none, none] ∧ (∀ x ∈ zs, (0 : Int) ≤ x) ∧ H2 k'.a = some (.lst [.ref k'.b, .ref k'.c, .int n]) ∧ H2 k'.b = some (.lst (zs.map V.int)) ∧ H2 k'.c = some (.lst (ys.map V.int)) ∧ ∀ b o, b ≠ k'.a → b ≠ k'.b → H b = some o → H2 b = some o,
      ⟨xs.length, none, xs, rfl, rfl, px, ha, hb, hc, fun _ _ _ _ h => h⟩, ?_⟩
    rintro mm st H2 ⟨y2, zs, rfl, rfl, pz, ea, eb, ec, kp⟩
    refine ⟨.ref k'.a, rfl, k'.a, _, 0, _, rfl, rfl, SqL.of ea, atI0, Nat.zero_le _, fun p hp => ?_⟩
    have epb : k'.b ≠ p := ne_of_none eb hp
    have epa : k'.a ≠ p := ne_of_none ea hp
    have epc : k'.c ≠ p := ne_of_none ec hp
    refine ⟨.list (zs.map PyData.int), .list (([] : List Int).map PyData.int), dp_ints (by rw [upd_ne epb]; exact eb), dp_ints (l := []) upd_same, shaped_ints _, shaped_ints [], ?_⟩
    have ea' : upd H2 p (.lst []) k'.a = some (.lst [.ref k'.b, .ref k'.c, .int n]) := by rw [upd_ne epa]; exact ea
    have eb' : upd H2 p (.lst []) k'.b = some (.lst (zs.map V.int)) := by rw [upd_ne epb]; exact eb
    have ec' : upd H2 p (.lst []) k'.c = some (.lst (ys.map V.int)) := by rw [upd_ne epc]; exact ec
    have kp' : ∀ b o, b ≠ k'.a → b ≠ k'.b → H b = some o → upd H2 p (.lst []) b = some o := fun b o e1 e2 e => by
      have q := kp b o e1 e2 e
      rw [upd_ne (ne_of_none q hp)]
      exact q
    generalize upd H2 p (.lst []) = H3 at ea' eb' ec' kp' ⊢
    cases zs with
    | nil =>
      refine ⟨false, rfl, ?_⟩
      refine iteF ?_
      refine ⟨.ref k'.a, rfl, k'.a, _, 2, _, rfl, rfl, SqL.of ea', rfl, n, 1, rfl, rfl, .ref k'.a, rfl, k'.a, _, 2, 2, rfl, rfl, ea', rfl, ?_⟩
      generalize hH4 : upd H3 k'.a (.lst ([V.ref k'.b, V.ref k'.c, V.int n].set 2 (V.int (n + 1)))) = H4
      have fa : H4 k'.a = some (.lst [.ref k'.b, .ref k'.c, .int (n + 1)]) := by rw [← hH4, upd_same]; rfl
      have fb : H4 k'.b = some (.lst (([] : List Int).map V.int)) := by rw [← hH4, upd_ne (Ne.symm nab)]; exact eb'
      have fc : H4 k'.c = some (.lst (ys.map V.int)) := by rw [← hH4, upd_ne (Ne.symm nac)]; exact ec'
      have keep : ∀ b o, b ≠ k'.a → b ≠ k'.b → H b = some o → H4 b = some o := fun b o e1 e2 e => by
        rw [← hH4, upd_ne e1]
        exact kp' b o e1 e2 e
      -- turn
      refine ⟨.ref k'.a, rfl, k'.a, _, 2, _, rfl, rfl, SqL.of fa, rfl, ?_⟩
      have hz : (0 : Int) ≤ (n + 1) % (ys.length : Int) ∧ (n + 1) % (ys.length : Int) < ys.length := ⟨Int.emod_nonneg _ (by omega), Int.emod_lt_of_pos _ (by omega)⟩
      have hj : ((n + 1) % (ys.length : Int)).toNat < ys.length := by omega
      -- number
      refine ⟨.ref k'.a, rfl, k'.a, _, 1, _, rfl, rfl, SqL.of fa, rfl, .int (n + 1), rfl, .inl ⟨n + 1, rfl, ?_⟩⟩
      refine ⟨.ref k'.a, rfl, k'.a, _, 1, _, rfl, rfl, SqL.of fa, rfl, k'.c, ys.map V.int, rfl, .inl (SqL.of fc), n + 1, _, rfl, rfl, ?_, ?_⟩
      · rw [List.length_map]; show (0 : Int) < (ys.length : Int); omega
      refine ⟨k'.c, ys.map V.int, _, .int (ys[((n + 1) % (ys.length : Int)).toNat]'hj), rfl, rfl, SqL.of fc, ?_, .inl ⟨_, rfl, ?_⟩⟩
      · rw [List.length_map]
        have := atI_nat (xs := ys.map V.int) (j := ((n + 1) % (ys.length : Int)).toNat) (v := .int (ys[((n + 1) % (ys.length : Int)).toNat]'hj)) (by rw [List.getElem?_map, List.getElem?_eq_getElem hj]; rfl)
        rw [Int.toNat_of_nonneg hz.1] at this
        exact this
      refine ⟨_, _, rfl, rfl, by show (0 : Int) < 2147483629; decide, ?_⟩
      have num0 := Int.emod_nonneg (ys[((n + 1) % (ys.length : Int)).toNat]'hj) (show (2147483629 : Int) ≠ 0 by decide)
      have num1 := Int.lt_trans (Int.emod_lt_of_pos (ys[((n + 1) % (ys.length : Int)).toNat]'hj) (show (0 : Int) < 2147483629 by decide)) (show (2147483629 : Int) < 2147483647 by decide)
      -- mixed
      refine ⟨_, rfl, .int (n + 1), rfl, 69621, n + 1, rfl, rfl, .inl ⟨by decide, by decide⟩, 48271, _, rfl, rfl, _, _, rfl, rfl, .inl ⟨lo64 num0, hi64 num1⟩, .int (n + 1), rfl, 40692, n + 1, rfl, rfl, .inl ⟨by decide, by decide⟩, .int (n + 1), rfl, _, n + 1, rfl, rfl, .inr ⟨by omega, by omega⟩, _, _, rfl, rfl, _, 59, rfl, rfl, ?_⟩
      have b1 := pull_bd (t := n + 1) num0 num1 (by omega) (by omega)
      refine ⟨_, rfl, _, rfl, _, _, rfl, rfl, wide_mul b1 b1 (by decide) (by decide) (by decide), .inl ⟨_, rfl, _, _, rfl, rfl, by show (0 : Int) < 2305843009213693951; decide, .int (n + 1), rfl, 16807, n + 1, rfl, rfl, .inl ⟨by decide, by decide⟩, _, _, rfl, rfl, ?_⟩⟩
      generalize ((ys[((n + 1) % (ys.length : Int)).toNat]'hj) % 2147483629 * (48271 + 69621 * (n + 1)) + 40692 * (n + 1) * (n + 1) + 59) = M2
      have b2 := pull_bd2 (x := M2 * M2) (t := n + 1) (by omega) (by omega)
      refine ⟨_, rfl, _, rfl, _, _, rfl, rfl, wide_mul b2 b2 (by decide) (by decide) (by decide), .inl ⟨_, rfl, _, _, rfl, rfl, by show (0 : Int) < 2305843009213693951; decide, _, _, rfl, rfl, ⟨by decide, by decide⟩, .int m, rfl, _, m, rfl, rfl, m0, ?_⟩⟩
      exact fin H4 (n + 1) [] f' (.int _) _ fa fb fc (by simp) (by omega) (by omega) keep rfl (h4 _ (Int.emod_nonneg _ (by omega)) (Int.emod_lt_of_pos _ m0))
    | cons z zs =>
      refine ⟨true, rfl, ?_⟩
      refine iteT ?_
      have pz0 : 0 ≤ z := pz z (by simp)
      refine ⟨fun st4 H4 => ∃ y2, st4 = [some (.ref k'.a), some (.int m), y2, none, none] ∧ H4 = upd H3 k'.b (.lst (zs.map V.int)), ?_, ?_⟩
      · rintro st4 H4 ⟨y3, rfl, rfl⟩
        refine ⟨zs.length, Nat.lt_succ_self _, y3, zs, rfl, rfl, fun x hx => pz x (by simp [hx]), by rw [upd_ne nab]; exact ea', upd_same, by rw [upd_ne (Ne.symm nbc)]; exact ec', fun b o e1 e2 e => by rw [upd_ne e2]; exact kp' b o e1 e2 e⟩
      refine ⟨.ref k'.a, rfl, k'.a, _, 0, _, rfl, rfl, SqL.of ea', atI0, k'.b, _, 0, _, rfl, rfl, SqL.of eb', atI0, ?_⟩
      refine ⟨.int z, rfl, z, 0, rfl, rfl, _, rfl, ite2 (fun c => ?_) (fun c => ?_)⟩
      · -- a digit of a great cell
        refine ⟨.int z, rfl, .int m, rfl, z, m, rfl, rfl, wide_div (b := 40) m0 (by omega) (by decide) (by decide), ?_⟩
        refine ⟨.ref k'.a, rfl, k'.a, _, 0, _, rfl, rfl, SqL.of ea', atI0, k'.b, _, 0, 0, rfl, rfl, eb', ix0 _, ?_⟩
        refine ⟨.int z, rfl, .inl ⟨z, rfl, .int m, rfl, z, m, rfl, rfl, m0, ?_⟩⟩
        refine fin _ n ((z / m) :: zs) f' (.int _) _ (by rw [upd_ne nab]; exact ea') upd_same (by rw [upd_ne (Ne.symm nbc)]; exact ec') ?_ n0 (by omega) (fun b o e1 e2 e => by rw [upd_ne e2]; exact kp' b o e1 e2 e) rfl (h4 _ (Int.emod_nonneg _ (by omega)) (Int.emod_lt_of_pos _ m0))
        intro x hx
        rcases List.mem_cons.mp hx with e | e
        · rw [e]; exact Int.ediv_nonneg pz0 (by omega)
        · exact pz x (by simp [e])
      · refine ⟨.ref k'.a, rfl, k'.a, _, 0, _, rfl, rfl, SqL.of ea', atI0, .inl ⟨rfl, _, SqL.of eb'⟩, k'.b, _, 0, 0, _, rfl, rfl, eb', by decide, by decide, ?_, rfl, ?_⟩
        · exact (ixN_seq (ix0 _)).1
        · exact ⟨_, rfl, rfl⟩
/-! _law_pick -/
abbrev s__law_pick : Stmt := topS 37
theorem sc__law_pick : FnScope ["_law_reel_here", "_law_some"] ["_law_reel_here", "_law_some"] (defScope s__law_pick) := ⟨rfl, rfl, rfl, by decide +kernel, rfl, by decide +kernel, by decide +kernel⟩
def Sp__law_pick : DSp := fun g ds f Q => (∃ (k : Dk) (xs : List D), g = some k ∧ ds = [.any (.ref k.a), .lst xs] ∧ 0 < xs.length ∧ xs.length ≤ 100000 ∧ 1 ≤ f ∧ ∀ x ∈ xs, ∀ f', f ≤ f' + 1 → Q x f') ∨
  ∃ (k : Dk) (z : Str), g = some k ∧ ds = [.any (.ref k.a), .str z] ∧ 0 < z.length ∧ z.length ≤ 100000 ∧ 1 ≤ f ∧ ∀ c ∈ z.cps.toList, ∀ f', f ≤ f' + 1 → Q (.str ⟨#[c]⟩) f'
set_option maxHeartbeats 2000000 in
theorem ok__law_pick (d : Df K mg "_law_pick" s__law_pick) (m_len : mg "len" = none) (c__law_pull : Cal P w K mg base 1 "_law_pull" ["_law_reel_here", "_law_many"] Sp__law_pull) : Cal P w K mg base 2 "_law_pick" ["_law_reel_here", "_law_some"] Sp__law_pick := by
  obtain ⟨f, fd, F, m⟩ := d
  refine ⟨f, fd, dfn (k := 1) (S := Sp__law_pick) F sc__law_pick ?len (fun cdv A outer s H E hr => (dss_one (ds_ret (de_ix (de_v 1) (de_callC c__law_pull (hr.mono (by decide)) (da_cons (de_v 0) (da_cons (de_len m_len (da_cons (de_v 1) da_nil)) da_nil))))))) ?h, F.kp, F.binds fun _ _ _ _ _ _ us hl => match us, hl with | [_, _], _ => rfl, m⟩
  case len =>
    intro g ds n Q h; rcases h with ⟨_, _, _, rfl, _⟩ | ⟨_, _, _, rfl, _⟩ <;> rfl
  case h =>
    intro g ds n Q h
    rcases h with ⟨k, xs, rfl, rfl, h0, hl, hf, q⟩ | ⟨k, z, rfl, rfl, h0, hl, hf, q⟩
    · obtain ⟨f1, rfl⟩ : ∃ f1, n = f1 + 1 := ⟨n - 1, by omega⟩
      refine ⟨k, (xs.length : Int), f1, rfl, rfl, by omega, by omega, rfl, fun r r0 r1 => ?_⟩
      obtain ⟨d, hd, hm⟩ := atI_mem (xs := xs) r0 r1
      exact ⟨d, hd, q d hm f1 (Nat.le_refl _)⟩
    · obtain ⟨f1, rfl⟩ : ∃ f1, n = f1 + 1 := ⟨n - 1, by omega⟩
      refine ⟨L1 hl, k, (z.length : Int), f1, rfl, rfl, by omega, by omega, rfl, fun r r0 r1 => ?_⟩
      obtain ⟨c, hc, hm⟩ := atI_mem (xs := z.cps.toList) r0 r1
      exact ⟨L1 hl, c, hc, q c hm f1 (Nat.le_refl _)⟩
/-! _law_odd -/
abbrev s__law_odd : Stmt := topS 53
theorem sc__law_odd : FnScope ["_law_reel_here", "_law_some"] ["_law_reel_here"] (defScope s__law_odd) := ⟨rfl, rfl, rfl, by decide +kernel, rfl, by decide +kernel, by decide +kernel⟩
def Sp__law_odd : DSp := fun g ds f Q => ∃ (k : Dk), g = some k ∧ ds = [.any (.ref k.a)] ∧ 1 ≤ f ∧ ∀ v f', v.inn 10 0 = true → v.wt ≤ 2000 → v.dp ≤ 2 → f ≤ f' + 1 → Q v f'
set_option maxHeartbeats 2000000 in
theorem ok__law_odd (d : Df K mg "_law_odd" s__law_odd) (c__law_pick : Cal P w K mg base 2 "_law_pick" ["_law_reel_here", "_law_some"] Sp__law_pick) : Cal P w K mg base 3 "_law_odd" ["_law_reel_here"] Sp__law_odd := by
  obtain ⟨f, fd, F, m⟩ := d
  refine ⟨f, fd, dfn (k := 2) (S := Sp__law_odd) F sc__law_odd ?len (fun cdv A outer s H E hr => (dss_cons (ds_set false (i := 1) sc__law_odd.nd (dl_lst (da_cons de_non (da_cons de_bl (da_cons de_bl (da_cons de_int (da_cons de_int (da_cons (de_neg de_int) (da_cons de_int (da_cons (de_pow de_int de_int) (da_cons de_str (da_cons de_str (da_cons de_str (da_cons de_str (da_cons de_str (da_cons de_str (da_cons de_str da_nil)))))))))))))))).e)
      (dss_cons (ds_set false (i := 1) sc__law_odd.nd (de_add (de_v 1) (dl_lst (da_cons (de_tup da_nil) (da_cons (de_tup (da_cons de_str da_nil)) (da_cons (de_tup (da_cons de_str (da_cons de_str da_nil))) (da_cons (de_tup (da_cons (de_tup (da_cons de_str (da_cons de_str da_nil))) da_nil)) (da_cons (dl_lst da_nil).e (da_cons (dl_lst (da_cons de_str (da_cons de_str da_nil))).e (da_cons de_dict0 (da_cons (de_dict1 de_str de_str) (da_cons (de_tup (da_cons de_non da_nil)) (da_cons (de_tup (da_cons (dl_lst da_nil).e da_nil)) (da_cons (de_tup (da_cons de_str (da_cons de_int da_nil))) da_nil)))))))))))).e))
      (dss_one (ds_ret (de_callC c__law_pick (hr.mono (by decide)) (da_cons (de_v 0) (da_cons (de_v 1) da_nil)))))))) ?h, F.kp, F.binds fun _ _ _ _ _ _ us hl => match us, hl with | [_], _ => rfl, m⟩
  case len =>
    intro g ds n Q h; obtain ⟨_, _, rfl, _⟩ := h; rfl
  case h =>
    intro g ds n Q h
    obtain ⟨k, rfl, rfl, hf, q⟩ := h
    refine ⟨⟨by decide, by decide, by decide⟩, show 15 ≤ lim by decide, ?_⟩
    refine ⟨by decide, show 1 ≤ lim by decide, show 2 ≤ lim by decide, show 2 ≤ lim by decide, show 1 ≤ lim by decide, by decide, show 2 ≤ lim by decide, show 1 ≤ lim by decide, by decide, show 1 ≤ lim by decide, show 2 ≤ lim by decide, show 11 ≤ lim by decide, show 15 + 11 ≤ lim by decide, ?_⟩
    refine .inl ⟨k, _, rfl, rfl, by decide, by decide, hf, fun v hv f' hf' => ?_⟩
    simp only [List.cons_append, List.nil_append, List.mem_cons, List.not_mem_nil, or_false] at hv
    rcases hv with rfl | rfl | rfl | rfl | rfl | rfl | rfl | rfl | rfl | rfl | rfl | rfl | rfl | rfl | rfl | rfl | rfl | rfl | rfl | rfl | rfl | rfl | rfl | rfl | rfl | rfl <;> exact q _ _ (by decide +kernel) (by decide +kernel) (by decide +kernel) hf'
/-! how many items a value's parts have at the most -/
mutual
def D.tlm : D → Nat
  | .tup xs => max xs.length (tlmA xs)
  | .lst xs => max xs.length (tlmA xs)
  | _ => 0
def tlmA : List D → Nat
  | [] => 0
  | x :: xs => max x.tlm (tlmA xs)
end
theorem tlmA_le {n : Nat} : ∀ {xs : List D}, (∀ x ∈ xs, x.tlm ≤ n) → tlmA xs ≤ n
  | [], _ => Nat.zero_le _
  | x :: xs, h => Nat.max_le.mpr ⟨h x (by simp), tlmA_le fun y hy => h y (by simp [hy])⟩
theorem tlmA_mem : ∀ {xs : List D} {x : D}, x ∈ xs → x.tlm ≤ tlmA xs
  | y :: ys, x, h => by
    show x.tlm ≤ max y.tlm (tlmA ys)
    rcases List.mem_cons.mp h with rfl | h
    · omega
    · have := tlmA_mem h; omega
mutual
theorem D.tlm_wt : ∀ d : D, d.good = true → d.tlm ≤ d.wt
  | .none, _ => Nat.zero_le _
  | .bool _, _ => Nat.zero_le _
  | .int _, _ => Nat.zero_le _
  | .str _, _ => Nat.zero_le _
  | .tup xs, h => by
    have h1 := tlmA_wt xs h
    have h2 := wtA_len xs
    show max xs.length (tlmA xs) ≤ wtA xs + 3
    omega
  | .lst xs, h => by
    have h1 := tlmA_wt xs h
    have h2 := wtA_len xs
    show max xs.length (tlmA xs) ≤ wtA xs + 3
    omega
  | .dct _ _, _ => Nat.zero_le _
  | .obj _ _ _, h => by cases h
  | .exn _ _ _, h => by cases h
  | .any _, h => by cases h
theorem tlmA_wt : ∀ ds : List D, goodA ds = true → tlmA ds ≤ wtA ds
  | [], _ => Nat.zero_le _
  | x :: xs, h => by
    have h : (x.good && goodA xs) = true := h
    rw [Bool.and_eq_true] at h
    have h1 := D.tlm_wt x h.1
    have h2 := tlmA_wt xs h.2
    show max x.tlm (tlmA xs) ≤ x.wt + 2 + wtA xs
    omega
end
theorem cut_last1 (xs : List D) : (cutD xs (some (-1)) none).length ≤ 1 := by
  rcases List.eq_nil_or_concat xs with rfl | ⟨l, x, rfl⟩
  · exact Nat.zero_le _
  · rw [List.concat_eq_append]
    show (List.take _ (List.drop _ _)).length ≤ 1
    rw [List.length_take, List.length_drop]
    have e1 : HT.sIx (l ++ [x]).length 0 (some (-1)) = l.length := by
      unfold HT.sIx
      rw [List.length_append, List.length_singleton]
      simp
      omega
    rw [e1, List.length_append, List.length_singleton]
    omega
theorem swap_len (xs : List D) : (cutD xs (some 1) (some 2) ++ cutD xs none (some 1) ++ cutD xs (some 2) none).length ≤ xs.length + 1 := by
  match xs with
  | [] => exact Nat.zero_le _
  | [x] => exact (by decide : 1 ≤ 2)
  | x :: y :: r =>
    rw [show cutD (x :: y :: r) (some 2) none = (x :: y :: r).drop 2 from cutD_drop' _ 2, show cutD (x :: y :: r) none (some 1) = (x :: y :: r).take 1 from cutD_take _ 1]
    have h : (cutD (x :: y :: r) (some 1) (some 2)).length ≤ 1 := by
      show (List.take _ (List.drop _ _)).length ≤ 1
      rw [List.length_take, show HT.sIx (x :: y :: r).length 0 (some 1) = min 1 (x :: y :: r).length from HT.sIx_nat _ _ 1, show HT.sIx (x :: y :: r).length (x :: y :: r).length (some 2) = min 2 (x :: y :: r).length from HT.sIx_nat _ _ 2]
      omega
    simp only [List.length_append, List.length_drop, List.length_take, List.length_cons]
    omega
theorem swap_wt (xs : List D) : wtA (cutD xs (some 1) (some 2) ++ cutD xs none (some 1) ++ cutD xs (some 2) none) ≤ 2 * wtA xs := by
  have h1 := wtA_sub (cut_sub xs (some 1) (some 2))
  have h2 : wtA (cutD xs none (some 1)) + wtA (cutD xs (some 2) none) ≤ wtA xs := by
    rw [show cutD xs (some 2) none = xs.drop 2 from cutD_drop' _ 2, show cutD xs none (some 1) = xs.take 1 from cutD_take _ 1, ← wtA_app]
    match xs with
    | [] => exact Nat.le_refl _
    | [x] => exact Nat.le_refl _
    | x :: y :: r =>
      show wtA (x :: r) ≤ wtA (x :: y :: r)
      show x.wt + 2 + wtA r ≤ x.wt + 2 + (y.wt + 2 + wtA r)
      omega
  rw [wtA_app, wtA_app]
  omega
/-! _law_bent -/
abbrev s__law_bent : Stmt := topS 54
theorem sc__law_bent : FnScope ["_law_reel_here", "_law_value", "_law_deep", "_law_at", "_law_swapped", "_law_some"] ["_law_reel_here", "_law_value", "_law_deep"] (defScope s__law_bent) := ⟨rfl, rfl, rfl, by decide +kernel, rfl, by decide +kernel, by decide +kernel⟩
def SpR__law_bent : Nat → DSp
  | 0 => fun _ _ _ _ => False
  | n + 1 => fun g ds f Q => ∃ (k : Dk) (x : D) (m s i : Nat), g = some k ∧ ds = [.any (.ref k.a), x, .int m] ∧ m ≤ n ∧ x.inn s i = true ∧ 2000 ≤ s ∧ s ≤ 4000 ∧ i ≤ 1000 ∧ x.tlm ≤ 3000 ∧ 2 * m + 3 ≤ f ∧
    ∀ y f', y.inn (s + 2) (i + 1) = true → y.wt ≤ 2 * x.wt + 20000 → y.dp ≤ x.dp + 2 → y.tlm ≤ max x.tlm 2000 + 1 → f ≤ f' + (2 * m + 3) → Q y f'
def Sp__law_bent : DSp := SpR__law_bent 4
theorem bent_tup {xs l : List D} {s i : Nat} (hx : (D.tup xs).inn s i = true) (hm : ∀ z ∈ l, z ∈ xs) (hw : wtA l ≤ 2 * wtA xs) (hl : l.length ≤ xs.length + 1) : innA (s + 2) (i + 1) l = true ∧ wtA l + 3 ≤ 2 * (D.tup xs).wt + 20000 ∧ dpA l + 1 ≤ (D.tup xs).dp + 2 ∧ max l.length (tlmA l) ≤ max (D.tup xs).tlm 2000 + 1 := by
  refine ⟨innA_iff.mpr fun z hz => D.inn_mono (by omega) (by omega) z (innA_iff.mp hx z (hm z hz)), ?_, ?_, ?_⟩
  · show _ ≤ 2 * (wtA xs + 3) + 20000
    omega
  · have := dpA_le (p := dpA xs) fun z hz => dpA_mem (hm z hz)
    show _ ≤ dpA xs + 1 + 2
    omega
  · have := tlmA_le (n := tlmA xs) fun z hz => tlmA_mem (hm z hz)
    show _ ≤ max (max xs.length (tlmA xs)) 2000 + 1
    omega
set_option maxHeartbeats 2000000 in
theorem ok__law_bent_step {n : Nat} (d : Df K mg "_law_bent" s__law_bent) (m_str : mg "str" = none) (m_isinstance : mg "isinstance" = none) (m_int : mg "int" = none) (m_bool : mg "bool" = none) (m_tuple : mg "tuple" = none) (m_list : mg "list" = none) (m_len : mg "len" = none) (c__law_odd : Cal P w K mg base 3 "_law_odd" ["_law_reel_here"] Sp__law_odd) (c__law_pick : Cal P w K mg base 2 "_law_pick" ["_law_reel_here", "_law_some"] Sp__law_pick) (c__law_pull : Cal P w K mg base 1 "_law_pull" ["_law_reel_here", "_law_many"] Sp__law_pull) (c__law_bent : Cal P w K mg base (3 + n) "_law_bent" ["_law_reel_here", "_law_value", "_law_deep"] (SpR__law_bent n)) : Cal P w K mg base (3 + n + 1) "_law_bent" ["_law_reel_here", "_law_value", "_law_deep"] (SpR__law_bent (n + 1)) := by
  obtain ⟨f, fd, F, m⟩ := d
  refine ⟨f, fd, dfn (k := 3 + n) (S := SpR__law_bent (n + 1)) F sc__law_bent ?len (fun cdv A outer s H E hr => (dss_cons (ds_if (DW.p (dw_and (dp_val (de_isi m_isinstance (da_cons (de_v 1) (da_cons (de_bltn (v := .ty "tuple") (u := .type "tuple") (by rfl) m_tuple (by decide +kernel) rfl) da_nil)))) (dw_and (dp_gt (de_len m_len (da_cons (de_v 1) da_nil)) de_int) (dw_and (dp_gt (de_v 2) de_int) (dw_and1 (dp_gt (de_callC c__law_pull (hr.mono (by omega)) (da_cons (de_v 0) (da_cons de_int da_nil))) de_int)))))) (dss_cons (ds_set false (i := 3) sc__law_bent.nd (de_callC c__law_pull (hr.mono (by omega)) (da_cons (de_v 0) (da_cons (de_len m_len (da_cons (de_v 1) da_nil)) da_nil))))
      (dss_one (ds_ret (de_add (de_add (de_sl (de_v 1) do_none (do_some (de_v 3))) (de_tup (da_cons (de_callC c__law_bent hr (da_cons (de_v 0) (da_cons (de_ix (de_v 1) (de_v 3)) (da_cons (de_sub (de_v 2) de_int) da_nil)))) da_nil))) (de_sl (de_v 1) (do_some (de_add (de_v 3) de_int)) do_none))))) dss_nil)
      (dss_cons (ds_if (dp_val (de_isi m_isinstance (da_cons (de_v 1) (da_cons (de_bltn (v := .ty "tuple") (u := .type "tuple") (by rfl) m_tuple (by decide +kernel) rfl) da_nil)))) (dss_cons (ds_set false (i := 4) sc__law_bent.nd (de_add (de_add (de_sl (de_v 1) (do_some de_int) (do_some de_int)) (de_sl (de_v 1) do_none (do_some de_int))) (de_sl (de_v 1) (do_some de_int) do_none)))
      (dss_cons (ds_set false (i := 5) sc__law_bent.nd (dl_lst (da_cons (de_sl (de_v 1) (do_some de_int) do_none) (da_cons (de_sl (de_v 1) do_none (do_some (de_neg de_int))) (da_cons (de_add (de_v 1) (de_sl (de_v 1) (do_some (de_neg de_int)) do_none)) (da_cons (de_revT (de_v 1)) (da_cons (de_callTy call_list_of sc_list (by rfl) m_list (by decide +kernel) (da_cons (de_v 1) da_nil)) (da_cons (de_v 4) (da_cons (de_callC c__law_odd (hr.mono (by omega)) (da_cons (de_v 0) da_nil)) da_nil)))))))).e)
      (dss_one (ds_ret (de_callC c__law_pick (hr.mono (by omega)) (da_cons (de_v 0) (da_cons (de_v 5) da_nil))))))) dss_nil)
      (dss_cons (ds_if (DW.p (dw_or (dp_val (de_isi m_isinstance (da_cons (de_v 1) (da_cons (de_bltn (v := .ty "bool") (u := .type "bool") (by rfl) m_bool (by decide +kernel) rfl) da_nil)))) (dw_or1 (dp_isN (de_v 1) de_non)))) (dss_one (ds_ret (de_callC c__law_odd (hr.mono (by omega)) (da_cons (de_v 0) da_nil)))) dss_nil)
      (dss_cons (ds_if (dp_val (de_isi m_isinstance (da_cons (de_v 1) (da_cons (de_bltn (v := .ty "int") (u := .type "int") (by rfl) m_int (by decide +kernel) rfl) da_nil)))) (dss_one (ds_ret (de_callC c__law_pick (hr.mono (by omega)) (da_cons (de_v 0) (da_cons (dl_lst (da_cons (de_add (de_v 1) de_int) (da_cons (de_sub (de_v 1) de_int) (da_cons (de_eq hr.units (de_v 1) de_int) (da_cons (de_neg de_int) (da_cons (de_callTy call_str_int sc_strI (by rfl) m_str (by decide +kernel) (da_cons (de_v 1) da_nil)) (da_cons (de_callC c__law_odd (hr.mono (by omega)) (da_cons (de_v 0) da_nil)) da_nil))))))).e da_nil))))) dss_nil)
      (dss_cons (ds_if (dp_val (de_isi m_isinstance (da_cons (de_v 1) (da_cons (de_bltn (v := .ty "str") (u := .type "str") (by rfl) m_str (by decide +kernel) rfl) da_nil)))) (dss_cons (ds_set false (i := 5) sc__law_bent.nd (dl_lst (da_cons (de_add (de_v 1) de_str) (da_cons (de_sl (de_v 1) (do_some de_int) do_none) (da_cons (de_add (de_v 1) de_str) (da_cons (de_upper (de_v 1)) (da_cons (de_add (de_v 1) de_str) (da_cons (dl_lst (da_cons (de_v 1) da_nil)).e (da_cons (de_callC c__law_odd (hr.mono (by omega)) (da_cons (de_v 0) da_nil)) da_nil)))))))).e)
      (dss_one (ds_ret (de_callC c__law_pick (hr.mono (by omega)) (da_cons (de_v 0) (da_cons (de_v 5) da_nil)))))) dss_nil)
      (dss_one (ds_ret (de_callC c__law_odd (hr.mono (by omega)) (da_cons (de_v 0) da_nil)))))))))) ?h, F.kp, F.binds fun _ _ _ _ _ _ us hl => match us, hl with | [_, _, _], _ => rfl, m⟩
  case len =>
    intro g ds n Q h
    cases n <;> first | exact h.elim | skip
    all_goals (obtain ⟨_, _, _, _, _, _, rfl, _⟩ := h; rfl)
  case h =>
    intro g ds n0 Q h
    obtain ⟨k, x, m, s, i, rfl, rfl, hm, hx, s0, s1, i0, hw, hf, q⟩ := h
    have od : ∀ (f : Nat) (Q : QD), 1 ≤ f → (∀ v f', v.inn (s + 2) (i + 1) = true → v.wt ≤ 2000 → v.dp ≤ 2 ∧ v.tlm ≤ 2000 → f ≤ f' + 1 → Q v f') → Sp__law_odd (some k) [.any (.ref k.a)] f Q := fun f Q hf h => ⟨k, rfl, rfl, hf, fun v f' h1 h2 h3 h4 => h v f' (D.inn_mono (by omega) (by omega) v h1) h2 ⟨h3, Nat.le_trans (D.tlm_wt v (D.inn_good (by decide : 10 ≤ 5000) v h1)) h2⟩ h4⟩
    have pick : ∀ (xs : List D) (f : Nat), 0 < xs.length → xs.length ≤ 10 → 1 ≤ f → n0 ≤ f + (2 * m + 2) → (∀ v ∈ xs, v.inn (s + 2) (i + 1) = true ∧ v.wt ≤ 2 * x.wt + 20000 ∧ v.dp ≤ x.dp + 2 ∧ v.tlm ≤ max x.tlm 2000 + 1) → Sp__law_pick (some k) [.any (.ref k.a), .lst xs] f Q := fun xs f h1 h2 hf hf2 h => .inl ⟨k, xs, rfl, rfl, h1, by omega, hf, fun v hv f' hf' => q v f' (h v hv).1 (h v hv).2.1 (h v hv).2.2.1 (h v hv).2.2.2 (by omega)⟩
    have odx : ∀ (f : Nat), 1 ≤ f → n0 ≤ f + (2 * m + 2) → Sp__law_odd (some k) [.any (.ref k.a)] f Q := fun f hf hf2 => od f Q hf fun v f' h1 h2 h3 h4 => q v f' h1 (by omega) (by omega) (by omega) (by omega)
    cases x with
    | none => exact ⟨_, _, rfl, rfl, iteF ⟨_, _, rfl, rfl, iteF ⟨_, _, rfl, rfl, odx _ (by omega) (by omega)⟩⟩⟩
    | bool b => exact ⟨_, _, rfl, rfl, iteF ⟨_, _, rfl, rfl, iteF ⟨_, _, rfl, rfl, odx _ (by omega) (by omega)⟩⟩⟩
    | int z =>
      have hz : z.natAbs ≤ big + i := of_decide_eq_true hx
      have I : ∀ y : Int, y.natAbs ≤ big + i + 1 → (D.int y).inn (s + 2) (i + 1) = true := fun y h => decide_eq_true h
      have b1 : 1 ≤ big := by decide +kernel
      have ta := int_asc z
      have tl := int_text_len_1921 (log2_big hz (by omega))
      refine ⟨_, _, rfl, rfl, iteF ⟨_, _, rfl, rfl, iteF ⟨_, _, rfl, rfl, iteF ⟨_, _, rfl, rfl, iteT ?_⟩⟩⟩⟩
      refine ⟨log2_big hz (by omega), od _ _ (by omega) fun v f' h1 h2 h3 h4 => ⟨show 6 ≤ lim by decide, pick _ _ (show 0 < 6 by decide) (show 6 ≤ 10 by decide) (by omega) (by omega) fun u hu => ?_⟩⟩
      simp only [List.mem_cons, List.not_mem_nil, or_false] at hu
      rcases hu with rfl | rfl | rfl | rfl | rfl | rfl
      · exact ⟨I _ (by omega), by show 1921 ≤ _; omega, Nat.zero_le _, Nat.zero_le _⟩
      · exact ⟨I _ (by omega), by show 1921 ≤ _; omega, Nat.zero_le _, Nat.zero_le _⟩
      · exact ⟨rfl, by show 5 ≤ _; omega, Nat.zero_le _, Nat.zero_le _⟩
      · exact ⟨I _ (by show 1 ≤ _; omega), by show 1921 ≤ _; omega, Nat.zero_le _, Nat.zero_le _⟩
      · exact ⟨str_inn ta (by omega), by show 10 * _ + 2 ≤ _; omega, Nat.zero_le _, Nat.zero_le _⟩
      · exact ⟨h1, by omega, by omega, by omega⟩
    | str z =>
      obtain ⟨za, zl⟩ := inn_str hx
      have W : ∀ y : Str, y.length ≤ z.length + 2 → (D.str y).wt ≤ 2 * (D.str z).wt + 20000 := fun y h => by show 10 * y.length + 2 ≤ 2 * (10 * z.length + 2) + 20000; omega
      have S : ∀ y : Str, asc y → y.length ≤ z.length + 2 → (D.str y).inn (s + 2) (i + 1) = true ∧ (D.str y).wt ≤ 2 * (D.str z).wt + 20000 ∧ (D.str y).dp ≤ (D.str z).dp + 2 ∧ (D.str y).tlm ≤ max (D.str z).tlm 2000 + 1 := fun y h1 h2 => ⟨str_inn h1 (by omega), W y h2, Nat.zero_le _, Nat.zero_le _⟩
      obtain ⟨c1, _⟩ := cutS_sub z (some 1) none
      obtain ⟨u1, u2⟩ := asc_upper za
      have l1 : (Str.ofString "a").length = 1 := by decide +kernel
      have l2 : (Str.ofString ".a").length = 2 := by decide +kernel
      have l3 : (Str.ofString "\n").length = 1 := by decide +kernel
      refine ⟨_, _, rfl, rfl, iteF ⟨_, _, rfl, rfl, iteF ⟨_, _, rfl, rfl, iteF ⟨_, _, rfl, rfl, iteF ⟨_, _, rfl, rfl, iteT ?_⟩⟩⟩⟩⟩
      refine ⟨L1 (by omega), L1 (by omega), L1 (by omega), trivial, L1 (by omega), L1 (by omega), show 1 ≤ lim by decide, od _ _ (by omega) fun v f' h1 h2 h3 h4 => ⟨show 7 ≤ lim by decide, pick _ _ (show 0 < 7 by decide) (show 7 ≤ 10 by decide) (by omega) (by omega) fun u hu => ?_⟩⟩
      simp only [List.mem_cons, List.not_mem_nil, or_false] at hu
      rcases hu with rfl | rfl | rfl | rfl | rfl | rfl | rfl
      · exact S _ (asc_app za (by decide +kernel)) (by rw [app_len]; omega)
      · exact S _ (asc_cut za _ _) (by omega)
      · exact S _ (asc_app za (by decide +kernel)) (by rw [app_len]; omega)
      · exact S _ u1 (by omega)
      · exact S _ (asc_app za (by decide +kernel)) (by rw [app_len]; omega)
      · refine ⟨innA_iff.mpr fun y hy => ?_, ?_, ?_, (by decide : max 1 (max 0 0) ≤ max 0 2000 + 1)⟩
        · rw [List.mem_singleton.mp hy]; exact str_inn za (by omega)
        · show (10 * z.length + 2) + 2 + 0 + 3 ≤ 2 * (10 * z.length + 2) + 20000; omega
        · exact (by decide : 1 ≤ 0 + 2)
      · exact ⟨h1, by omega, by omega, by omega⟩
    | tup xs =>
      have tx : (D.tup xs).tlm = max xs.length (tlmA xs) := rfl
      have lx : xs.length ≤ 100000 := by
        rw [tx] at hw
        omega
      have T : ∀ l : List D, (∀ z ∈ l, z ∈ xs) → wtA l ≤ 2 * wtA xs → l.length ≤ xs.length + 1 → (D.tup l).inn (s + 2) (i + 1) = true ∧ (D.tup l).wt ≤ 2 * (D.tup xs).wt + 20000 ∧ (D.tup l).dp ≤ (D.tup xs).dp + 2 ∧ (D.tup l).tlm ≤ max (D.tup xs).tlm 2000 + 1 := fun l h1 h2 h3 => bent_tup hx h1 h2 h3
      have one : ∀ lo hi, (cutD xs lo hi).length ≤ 100000 ∧ (∀ z ∈ cutD xs lo hi, z ∈ xs) ∧ wtA (cutD xs lo hi) ≤ wtA xs := fun lo hi => ⟨Nat.le_trans (cut_sub xs lo hi).length_le lx, fun z hz => (cut_sub xs lo hi).subset hz, wtA_sub (cut_sub xs lo hi)⟩
      have dpx : (D.tup xs).dp = dpA xs + 1 := rfl
      have wx : (D.tup xs).wt = wtA xs + 3 := rfl
      simp only [List.set_cons_succ, List.set_cons_zero, setsR, startR, List.map_cons, List.map_nil, List.cons_append, List.nil_append, List.replicate_succ, List.replicate_zero, List.length_cons, List.length_nil, Nat.reduceAdd, Nat.reduceSub]
      refine mid (fun r f => ∃ a b c : Sl, r = [.sh (.any (.ref k.a)), .sh (.tup xs), .sh (.int m), a, b, c] ∧ n0 ≤ f + 1 ∧ 2 ≤ f) ?_ (fun hk => ?_)
      · rintro r f ⟨a, b, c, rfl, hf2, hf3⟩
        have e1 := one (some 1) (some 2)
        have e2 := one none (some 1)
        have e3 := one (some 2) none
        have e4 := one (some (-1)) none
        have L3 : ∀ {n : Nat}, n ≤ 300000 → n ≤ lim := fun h => Nat.le_trans h (by decide)
        refine ⟨_, _, rfl, rfl, iteT ⟨L3 (by omega), L3 (by rw [List.length_append]; omega), ?_⟩⟩
        simp only [List.set_cons_succ, List.set_cons_zero, setsR, startR, List.map_cons, List.map_nil, List.cons_append, List.nil_append, List.replicate_succ, List.replicate_zero, List.length_cons, List.length_nil, Nat.reduceAdd, Nat.reduceSub]
        refine ⟨L3 (by omega), od _ _ (by omega) fun v f' h1 h2 h3 h4 => ⟨show 7 ≤ lim by decide, ?_⟩⟩
        simp only [List.set_cons_succ, List.set_cons_zero, setsR, startR, List.map_cons, List.map_nil, List.cons_append, List.nil_append, List.replicate_succ, List.replicate_zero, List.length_cons, List.length_nil, Nat.reduceAdd, Nat.reduceSub]
        refine pick _ _ (show 0 < 7 by decide) (show 7 ≤ 10 by decide) (by omega) (by omega) fun u hu => ?_
        simp only [List.mem_cons, List.not_mem_nil, or_false] at hu
        rcases hu with rfl | rfl | rfl | rfl | rfl | rfl | rfl
        · exact T _ (one _ _).2.1 (by have := (one (some 1) none).2.2; omega) (by have := (cut_sub xs (some 1) none).length_le; omega)
        · exact T _ (one _ _).2.1 (by have := (one none (some (-1))).2.2; omega) (by have := (cut_sub xs none (some (-1))).length_le; omega)
        · refine T _ (fun z hz => ?_) (by rw [wtA_app]; have := (one (some (-1)) none).2.2; omega) (by rw [List.length_append]; have := cut_last1 xs; omega)
          rcases List.mem_append.mp hz with h | h
          · exact h
          · exact e4.2.1 z h
        · exact T _ (fun z hz => List.mem_reverse.mp hz) (by rw [wtA_rev]; omega) (by rw [List.length_reverse]; omega)
        · obtain ⟨t1, t2, t3, t4⟩ := T xs (fun z hz => hz) (by omega) (by omega)
          exact ⟨t1, t2, t3, t4⟩
        · refine T _ (fun z hz => ?_) (swap_wt xs) (swap_len xs)
          rcases List.mem_append.mp hz with h | h
          · rcases List.mem_append.mp h with h | h
            · exact e1.2.1 z h
            · exact e2.2.1 z h
          · exact e3.2.1 z h
        · exact ⟨h1, by omega, by omega, by omega⟩
      · refine ⟨_, _, rfl, rfl, ?_⟩
        show if decide ((0 : Int) < (xs.length : Int)) = true then _ else _
        by_cases h0 : 0 < xs.length
        · rw [decide_eq_true (by omega : (0 : Int) < (xs.length : Int))]
          refine iteT ?_
          show if decide ((0 : Int) < (m : Int)) = true then _ else _
          by_cases hm0 : 0 < m
          · rw [decide_eq_true (by omega : (0 : Int) < (m : Int))]
            obtain ⟨f1, rfl⟩ : ∃ f1, n0 = f1 + 2 := ⟨n0 - 2, by omega⟩
            obtain ⟨m', rfl⟩ : ∃ m', m = m' + 1 := ⟨m - 1, by omega⟩
            obtain ⟨n', rfl⟩ : ∃ n', n = n' + 1 := ⟨n - 1, by omega⟩
            refine iteT ⟨k, 4, f1 + 1, rfl, rfl, by decide, by decide, rfl, fun r r0 r1 => ?_⟩
            show if decide ((0 : Int) < r) = true then _ else _
            by_cases hr : 0 < r
            · rw [decide_eq_true hr]
              refine iteT ⟨k, (xs.length : Int), f1, rfl, rfl, by omega, by omega, rfl, fun j j0 j1 => ?_⟩
              obtain ⟨j, rfl⟩ : ∃ j' : Nat, j = j' := ⟨j.toNat, by omega⟩
              have hj : j < xs.length := by omega
              have em : ((m' + 1 : Nat) : Int) - 1 = (m' : Int) := by omega
              have mj : xs[j] ∈ xs := List.getElem_mem hj
              have wj := wtA_mem mj
              have pj := dpA_mem mj
              refine ⟨xs[j], atI_nat (List.getElem?_eq_getElem hj), ?_⟩
              have tj := tlmA_mem mj
              refine ⟨k, xs[j], m', s, i, rfl, congrArg (fun z => [D.any (.ref k.a), xs[j], D.int z]) em, by omega, innA_iff.mp hx _ mj, s0, s1, i0, by rw [tx] at hw; omega, by omega, fun y f' h1 h2 h3 h5 h4 => ⟨show 1 ≤ lim by decide, ?_⟩⟩
              have et : cutD xs none (some (j : Int)) = xs.take j := cutD_take xs j
              have ed : cutD xs (some ((j : Int) + 1)) none = xs.drop (j + 1) := by
                rw [show (j : Int) + 1 = ((j + 1 : Nat) : Int) by omega]
                exact cutD_drop' xs (j + 1)
              have t1 : (xs.take j).length ≤ 100000 := by rw [List.length_take]; omega
              have t2 : (xs.drop (j + 1)).length ≤ 100000 := by rw [List.length_drop]; omega
              have L3 : ∀ {n : Nat}, n ≤ 300000 → n ≤ lim := fun h => Nat.le_trans h (by decide)
              refine ⟨L3 (by rw [et, List.length_singleton]; omega), L3 (by show (cutD xs none (some (j : Int)) ++ [y]).length + (cutD xs (some ((j : Int) + 1)) none).length ≤ 300000; rw [et, ed, List.length_append, List.length_singleton]; omega), ?_⟩
              show Q (.tup (cutD xs none (some (j : Int)) ++ [y] ++ cutD xs (some ((j : Int) + 1)) none)) f'
              rw [et, ed]
              have sp := wtA_split hj
              have w1 : wtA [y] = y.wt + 2 := rfl
              refine q _ _ (innA_iff.mpr fun z hz => ?_) ?_ ?_ ?_ (by omega)
              · rcases List.mem_append.mp hz with h | h
                · rcases List.mem_append.mp h with h | h
                  · exact D.inn_mono (by omega) (by omega) z (innA_iff.mp hx z (List.mem_of_mem_take h))
                  · rw [List.mem_singleton.mp h]; exact h1
                · exact D.inn_mono (by omega) (by omega) z (innA_iff.mp hx z (List.mem_of_mem_drop h))
              · show wtA (xs.take j ++ [y] ++ xs.drop (j + 1)) + 3 ≤ _
                rw [wtA_app, wtA_app, wx, w1]
                omega
              · show dpA (xs.take j ++ [y] ++ xs.drop (j + 1)) + 1 ≤ _
                have : dpA (xs.take j ++ [y] ++ xs.drop (j + 1)) ≤ dpA xs + 2 := dpA_le fun z hz => by
                  rcases List.mem_append.mp hz with h | h
                  · rcases List.mem_append.mp h with h | h
                    · have := dpA_mem (List.mem_of_mem_take h); omega
                    · rw [List.mem_singleton.mp h]; omega
                  · have := dpA_mem (List.mem_of_mem_drop h); omega
                omega
              · have tl : (xs.take j ++ [y] ++ xs.drop (j + 1)).length ≤ xs.length := by
                  rw [List.length_append, List.length_append, List.length_take, List.length_drop, List.length_singleton]
                  omega
                have ta : tlmA (xs.take j ++ [y] ++ xs.drop (j + 1)) ≤ max (tlmA xs) 2000 + 1 := tlmA_le fun z hz => by
                  rcases List.mem_append.mp hz with h | h
                  · rcases List.mem_append.mp h with h | h
                    · have := tlmA_mem (List.mem_of_mem_take h); omega
                    · rw [List.mem_singleton.mp h]; omega
                  · have := tlmA_mem (List.mem_of_mem_drop h); omega
                show max (xs.take j ++ [y] ++ xs.drop (j + 1)).length (tlmA (xs.take j ++ [y] ++ xs.drop (j + 1))) ≤ max (max xs.length (tlmA xs)) 2000 + 1
                omega
            · rw [decide_eq_false hr]
              exact iteF (hk _ _ ⟨_, _, _, rfl, by omega, by omega⟩)
          · rw [decide_eq_false (by omega : ¬ (0 : Int) < (m : Int))]
            exact iteF (iteF (hk _ _ ⟨_, _, _, rfl, by omega, by omega⟩))
        · rw [decide_eq_false (by omega : ¬ (0 : Int) < (xs.length : Int))]
          exact iteF (iteF (hk _ _ ⟨_, _, _, rfl, by omega, by omega⟩))
    | obj _ _ _ => cases hx
    | exn _ _ _ => cases hx
    | any _ => cases hx
    | lst xs => exact ⟨_, _, rfl, rfl, iteF ⟨_, _, rfl, rfl, iteF ⟨_, _, rfl, rfl, iteF ⟨_, _, rfl, rfl, iteF ⟨_, _, rfl, rfl, iteF (odx _ (by omega) (by omega))⟩⟩⟩⟩⟩
    | dct ks xs => exact ⟨_, _, rfl, rfl, iteF ⟨_, _, rfl, rfl, iteF ⟨_, _, rfl, rfl, iteF ⟨_, _, rfl, rfl, iteF ⟨_, _, rfl, rfl, iteF (odx _ (by omega) (by omega))⟩⟩⟩⟩⟩
theorem ok__law_bent (d : Df K mg "_law_bent" s__law_bent) (m_str : mg "str" = none) (m_isinstance : mg "isinstance" = none) (m_int : mg "int" = none) (m_bool : mg "bool" = none) (m_tuple : mg "tuple" = none) (m_list : mg "list" = none) (m_len : mg "len" = none) (c__law_odd : Cal P w K mg base 3 "_law_odd" ["_law_reel_here"] Sp__law_odd) (c__law_pick : Cal P w K mg base 2 "_law_pick" ["_law_reel_here", "_law_some"] Sp__law_pick) (c__law_pull : Cal P w K mg base 1 "_law_pull" ["_law_reel_here", "_law_many"] Sp__law_pull) : Cal P w K mg base 7 "_law_bent" ["_law_reel_here", "_law_value", "_law_deep"] Sp__law_bent := by
  have all : ∀ n, Cal P w K mg base (3 + n) "_law_bent" ["_law_reel_here", "_law_value", "_law_deep"] (SpR__law_bent n) := by
    intro n
    induction n with
    | zero => exact cal_noneK 2 d (fun f fd F => F.binds fun _ _ _ _ _ _ us hl => match us, hl with | [_, _, _], _ => rfl) ⟨_, sc__law_bent⟩
    | succ n ih => exact ok__law_bent_step d m_str m_isinstance m_int m_bool m_tuple m_list m_len c__law_odd c__law_pick c__law_pull ih
  exact all 4
/-! values of so many changes -/
structure VB (n : Nat) (v : D) : Prop where
  i : v.inn (2000 + 2 * n) n = true
  w : v.wt + 20000 ≤ 80000 * 2 ^ n
  d : v.dp ≤ 3 + 2 * n
  t : v.tlm ≤ 2000 + n
theorem VB.step {n : Nat} {v : D} (h : VB n v) : VB (n + 1) v where
  i := D.inn_mono (by omega) (by omega) v h.i
  w := by have h0 := h.w; rw [Nat.pow_succ]; exact Nat.le_trans h0 (by rw [← Nat.mul_assoc]; exact Nat.le_mul_of_pos_right _ (by decide))
  d := by have := h.d; omega
  t := by have := h.t; omega
theorem VB.bent {n : Nat} {x y : D} (h : VB n x) (h1 : y.inn (2000 + 2 * n + 2) (n + 1) = true) (h2 : y.wt ≤ 2 * x.wt + 20000) (h3 : y.dp ≤ x.dp + 2) (h4 : y.tlm ≤ max x.tlm 2000 + 1) : VB (n + 1) y where
  i := D.inn_mono (by omega) (by omega) y h1
  w := by have h0 := h.w; rw [Nat.pow_succ, ← Nat.mul_assoc, Nat.mul_comm _ 2]; exact Nat.le_trans (show y.wt + 20000 ≤ 2 * (x.wt + 20000) by omega) (Nat.mul_le_mul_left 2 h0)
  d := by have := h.d; omega
  t := by have := h.t; omega
theorem VB.odd {v : D} (h1 : v.inn 10 0 = true) (h2 : v.wt ≤ 2000) (h3 : v.dp ≤ 2) : VB 0 v where
  i := D.inn_mono (by omega) (by omega) v h1
  w := by show v.wt + 20000 ≤ 80000 * 1; omega
  d := by omega
  t := Nat.le_trans (D.tlm_wt v (D.inn_good (s := 10) (by omega) v h1)) (by omega)
theorem VB.up {n m : Nat} {v : D} (h : VB n v) (e : n ≤ m) : VB m v := by
  induction m with
  | zero => rw [show n = 0 by omega] at h; exact h
  | succ m ih =>
    by_cases e2 : n = m + 1
    · rw [← e2]; exact h
    · exact (ih (by omega)).step
/-- a use of short texts -/
def U60 (u : Us) : Prop := ascU u ∧ u.1.length ≤ 60 ∧ u.2.length ≤ 60
theorem vb_row {l : List D} (h : ∀ z ∈ l, ∃ u : Us, z = pairD u ∧ U60 u) (hl : l.length ≤ 40) : VB 0 (.tup l) ∧ VB 0 (.lst l) := by
  have a1 : innA 2000 0 l = true := innA_iff.mpr fun z hz => by
    obtain ⟨u, rfl, h1, h2, h3⟩ := h z hz
    show innA 2000 0 [.str u.1, .str u.2] = true
    refine innA_iff.mpr fun y hy => ?_
    simp only [List.mem_cons, List.not_mem_nil, or_false] at hy
    rcases hy with rfl | rfl
    · exact str_inn h1.1 (by omega)
    · exact str_inn h1.2 (by omega)
  have a2 : wtA l ≤ 1220 * l.length := by
    clear a1 hl
    induction l with
    | nil => exact Nat.zero_le _
    | cons z l ih =>
      have := ih fun y hy => h y (by simp [hy])
      obtain ⟨u, rfl, h1, h2, h3⟩ := h z (by simp)
      show ((10 * u.1.length + 2) + 2 + ((10 * u.2.length + 2) + 2 + 0) + 3) + 2 + wtA l ≤ 1220 * (l.length + 1)
      omega
  have a3 : dpA l ≤ 2 := dpA_le fun z hz => by
    obtain ⟨u, rfl, _⟩ := h z hz
    exact (by decide : max 0 (max 0 0) + 1 ≤ 2)
  have a4 : tlmA l ≤ 2000 := tlmA_le fun z hz => by
    obtain ⟨u, rfl, _⟩ := h z hz
    exact (by decide : max 2 (max 0 (max 0 0)) ≤ 2000)
  exact ⟨⟨a1, by show wtA l + 3 + 20000 ≤ _; omega, by show dpA l + 1 ≤ _; omega, by show max l.length (tlmA l) ≤ _; omega⟩, ⟨a1, by show wtA l + 3 + 20000 ≤ _; omega, by show dpA l + 1 ≤ _; omega, by show max l.length (tlmA l) ≤ _; omega⟩⟩
theorem VB.good {v : D} (h : VB 6 v) : v.good = true := D.inn_good (by omega) v h.i
theorem VB.sh {v : D} (h : VB 6 v) : v.shO = true ∧ v.wt ≤ 16777216 ∧ v.dp ≤ 30 := ⟨D.inn_sh (by omega) v h.i, by have := h.w; omega, by have := h.d; omega⟩
theorem VB.len {v : D} (h : VB 6 v) : ∀ xs, v = .tup xs → xs.length ≤ 3000 := fun xs e => by
  have := h.t
  rw [e] at this
  have : max xs.length (tlmA xs) ≤ 2000 + 6 := this
  omega
/-- each one with the one behind it -/
def rowZ (l : List Str) : List Us := l.zip (l.drop 1)
theorem atI_lastD {xs : List D} {z : D} (h : xs.getLast? = some z) : atI xs (-1) = some z := by
  unfold atI ixN
  rw [if_neg (by decide)]
  cases hl : xs.length with
  | zero =>
    obtain rfl : xs = [] := List.length_eq_zero_iff.mp hl
    cases h
  | succ j =>
    rw [if_pos (by omega)]
    have e : ((-1 : Int) + ((j + 1 : Nat) : Int)).toNat = j := by omega
    show xs[((-1 : Int) + ((j + 1 : Nat) : Int)).toNat]? = _
    rw [List.getLast?_eq_getElem?, hl] at h
    rw [e]
    exact h
theorem flat_pairs (l : List Us) : flatA (l.map pairD) = true := by
  induction l with
  | nil => rfl
  | cons u l ih => exact ih
theorem lcFe {α : Type} (em : α → D) (b : α → Bool) {g : Option Dk} {t : TgF} {c : DTT} {e : DT} {r : Sg} {Q : List D → Nat → Prop} {ds : List D} (xs : List α) (f : Nat) (he : ds = xs.map em)
    (h : ∀ x ∈ xs, ∃ l, t (em x) = some l ∧ (∀ (f : Nat) (Q : Bool → Nat → Prop), Q (b x) f → c g (setsR r l) f Q) ∧ (b x = true → ∀ (f : Nat) (Q : QD), Q (em x) f → e g (setsR r l) f Q)) (q : Q ((xs.filter b).map em) f) : dLcGo g t c e r ds [] f Q := by
  subst he
  exact lcF em b xs f h q
theorem nodup_ixI {l : List Str} (hn : l.Nodup) {i j : Nat} (hi : i < l.length) (hj : j < l.length) (e : l[i] = l[j]) : i = j := by
  rcases Nat.lt_trichotomy i j with h | h | h
  · exact absurd e (List.pairwise_iff_getElem.mp hn i j hi hj h)
  · exact h
  · exact absurd e.symm (List.pairwise_iff_getElem.mp hn j i hj hi h)
theorem rowZ_mem {l : List Str} (hn : l.Nodup) : ∀ u ∈ rowZ l, u.1 ∈ l ∧ u.2 ∈ l ∧ u.1 ≠ u.2 := fun u hu => by
  unfold rowZ at hu
  obtain ⟨i, hi, rfl⟩ := List.getElem_of_mem hu
  rw [List.length_zip, List.length_drop] at hi
  rw [List.getElem_zip, List.getElem_drop]
  refine ⟨List.getElem_mem _, List.getElem_mem _, fun e => ?_⟩
  have := nodup_ixI hn _ _ e
  omega
theorem fst_sub : ∀ (l m : List Str), ((l.zip m).map (·.1)).Sublist l
  | [], _ => by simp
  | _ :: _, [] => by simp
  | a :: l, b :: m => (fst_sub l m).cons_cons a
theorem rowZ_nd {l : List Str} (hn : l.Nodup) : (rowZ l).Nodup := by
  have h : ((rowZ l).map (·.1)).Nodup := by
    exact hn.sublist (fst_sub l (l.drop 1))
  exact (List.pairwise_map.mp h).imp fun {a b} hab e => hab (by rw [e])
/-! _law_walk -/
abbrev s__law_walk : Stmt := topS 57
theorem sc__law_walk : FnScope ["_law_reel_here", "_law_uses_here", "_law_found", "_law_turn", "_law_some", "_law_use"] ["_law_reel_here", "_law_uses_here"] (defScope s__law_walk) := ⟨rfl, rfl, rfl, by decide +kernel, rfl, by decide +kernel, by decide +kernel⟩
def Sp__law_walk : DSp := fun g ds f Q => ∃ (k : Dk) (us : List Us), g = some k ∧ ds = [.any (.ref k.a), .lst (us.map pairD)] ∧ us.length ≤ 1000 ∧ (∀ u ∈ us, ascU u) ∧ 12 ≤ f ∧
  ∀ (ws : List Us) f', ws.length ≤ 9 → (∀ u ∈ ws, u ∈ us) → f ≤ f' + 12 → Q (.lst (ws.map pairD)) f'
set_option maxHeartbeats 2000000 in
theorem ok__law_walk (d : Df K mg "_law_walk" s__law_walk) (m_range : mg "range" = none) (c__law_pull : Cal P w K mg base 1 "_law_pull" ["_law_reel_here", "_law_many"] Sp__law_pull) (c__law_pick : Cal P w K mg base 2 "_law_pick" ["_law_reel_here", "_law_some"] Sp__law_pick) : Cal P w K mg base 3 "_law_walk" ["_law_reel_here", "_law_uses_here"] Sp__law_walk := by
  obtain ⟨f, fd, F, m⟩ := d
  refine ⟨f, fd, dfn (k := 2) (S := Sp__law_walk) F sc__law_walk ?len (fun cdv A outer s H E hr => (dss_cons (ds_setL false (i := 2) sc__law_walk.nd (dl_lst da_nil))
      (dss_cons (ds_for [] PassesOwn.never (di_range1 m_range (da_cons (de_add de_int (de_callC c__law_pull (hr.mono (by decide)) (da_cons (de_v 0) (da_cons de_int da_nil)))) da_nil)) (dg_name (i := 3) sc__law_walk.nd) (dss_cons (ds_setLc (i := 4) (own := [("_law_use", 5)]) sc__law_walk.nd (di_seq (de_v 1)) (blkOk_by (own := [("_law_use", 5)]) (N := ["_law_reel_here", "_law_uses_here", "_law_found", "_law_turn", "_law_some", "_law_use"]) (sc := defScope s__law_walk) (by decide +kernel)) (fun _ _ _ _ _ => dg_name (i := 5) sc__law_walk.nd) (fun _ _ _ _ _ => dts_one (DW.p (dw_or (dp_eq hr.units (de_v 2) (dl_lst da_nil).e) (dw_or1 (dp_eq hr.units (de_ix (de_v 5) de_int) (de_ix (de_ix (de_v 2) (de_neg de_int)) de_int)))))) (fun _ _ _ _ _ => (de_v 5)) (fun _ _ _ h => snd_setL (m := true) (i := 4) h))
      (dss_one (ds_if (dp_ne hr.units (de_v 4) (dl_lst da_nil).e) (dss_one (ds_app true (i := 2) (de_callC c__law_pick (hr.mono (by decide)) (da_cons (de_v 0) (da_cons (de_v 4) da_nil))))) dss_nil))))
      (dss_one (ds_ret (de_v 2)))))) ?h, F.kp, F.binds fun _ _ _ _ _ _ us hl => match us, hl with | [_, _], _ => rfl, m⟩
  case len =>
    intro g ds n Q h; obtain ⟨_, _, _, rfl, _⟩ := h; rfl
  case h =>
    intro g ds n Q h
    obtain ⟨k, us, rfl, rfl, hl, hu, hf, q⟩ := h
    obtain ⟨f1, rfl⟩ : ∃ f1, n = f1 + 1 := ⟨n - 1, by omega⟩
    refine ⟨Nat.zero_le _, ?_⟩
    simp only [List.set_cons_succ, List.set_cons_zero, setsR, startR, List.map_cons, List.map_nil, List.cons_append, List.nil_append, List.replicate_succ, List.replicate_zero, List.length_cons, List.length_nil, Nat.reduceAdd, Nat.reduceSub]
    refine ⟨k, 9, f1, rfl, rfl, by decide, by decide, rfl, fun r r0 r1 => ⟨by omega, by omega, ?_⟩⟩
    obtain ⟨m, hm⟩ : ∃ m : Nat, (1 + r).toNat = m := ⟨_, rfl⟩
    rw [hm]
    have hm9 : m ≤ 9 := by omega
    have lu : (us.map pairD).length ≤ lim := by rw [List.length_map]; exact L1 (by omega)
    refine dFor_range (fun i r f => ∃ (ws : List Us) (x y z : Sl), r = [.sh (.any (.ref k.a)), .sh (.lst (us.map pairD)), .ow (ws.map pairD), x, y, z] ∧ ws.length ≤ i ∧ (∀ u ∈ ws, u ∈ us) ∧ f1 ≤ f + i) 0 m _ _ ?_ ?_ ⟨[], _, _, _, rfl, Nat.le_refl _, by simp, by omega⟩
    · rintro i r f N hi ⟨ws, x, y, z, rfl, h1, h2, h3⟩ hN
      refine ⟨_, rfl, lu, ?_⟩
      have aws : ∀ u ∈ ws, ascU u := fun u h => hu u (h2 u h)
      refine lcF pairD (fun u => decide (ws = []) || (match ws.getLast? with | some z => decide (u.1 = z.2) | none => false)) us _ (fun u hu' => ⟨_, rfl, fun f Q q => ?_, fun _ f Q q => q⟩) ?_
      · refine ⟨Nat.zero_le _, shpU aws, rfl, ?_⟩
        rw [eqvL_nil, show decide (ws.map pairD = []) = decide (ws = []) from decide_eq_decide.mpr List.map_eq_nil_iff]
        by_cases h0 : ws = []
        · rw [decide_eq_true h0] at q ⊢
          exact iteT q
        · rw [decide_eq_false h0, Bool.false_or] at q
          rw [decide_eq_false h0]
          obtain ⟨c, hc⟩ : ∃ c, ws.getLast? = some c := ⟨_, List.getLast?_eq_some_getLast h0⟩
          rw [hc] at q
          refine iteF ?_
          show Exists _
          refine ⟨_, atI0, _, atI_lastD (z := pairD c) (by rw [List.getLast?_map, hc]; rfl), _, atI_nat (j := 1) rfl, ?_⟩
          exact q
      have mf : ∀ u ∈ us.filter (fun u => decide (ws = []) || (match ws.getLast? with | some z => decide (u.1 = z.2) | none => false)), u ∈ us := fun u h => (List.mem_filter.mp h).1
      have lf : (us.filter (fun u => decide (ws = []) || (match ws.getLast? with | some z => decide (u.1 = z.2) | none => false))).length ≤ 1000 := Nat.le_trans (List.length_filter_le _ _) hl
      generalize us.filter (fun u => decide (ws = []) || (match ws.getLast? with | some z => decide (u.1 = z.2) | none => false)) = so at mf lf
      refine ⟨flat_pairs so, ?_⟩
      simp only [List.set_cons_succ, List.set_cons_zero, setsR, startR, List.map_cons, List.map_nil, List.cons_append, List.nil_append, List.replicate_succ, List.replicate_zero, List.length_cons, List.length_nil, Nat.reduceAdd, Nat.reduceSub]
      have aso : ∀ u ∈ so, ascU u := fun u h => hu u (mf u h)
      refine ⟨Nat.zero_le _, shpU aso, rfl, ?_⟩
      rw [eqvL_nil, show decide (so.map pairD = []) = decide (so = []) from decide_eq_decide.mpr List.map_eq_nil_iff]
      show if (!decide (so = [])) = true then _ else _
      by_cases h0 : so = []
      · rw [decide_eq_true h0]
        refine iteF ?_
        exact hN _ _ ⟨ws, _, _, _, rfl, by omega, h2, by omega⟩
      · rw [decide_eq_false h0]
        have hp : 0 < so.length := List.length_pos_iff.mpr h0
        refine iteT ⟨_, rfl, .inl ⟨k, so.map pairD, rfl, rfl, by rw [List.length_map]; exact hp, by rw [List.length_map]; omega, by omega, fun d hd f2 hf2 => ?_⟩⟩
        obtain ⟨u, hus, rfl⟩ := List.mem_map.mp hd
        refine ⟨rfl, by rw [List.length_map]; exact L1 (by omega), hN _ _ ⟨ws ++ [u], _, _, _, by rw [List.map_append]; rfl, by rw [List.length_append, List.length_singleton]; omega, fun v hv => ?_, by omega⟩⟩
        rcases List.mem_append.mp hv with h | h
        · exact h2 v h
        · rw [List.mem_singleton.mp h]; exact mf u hus
    · rintro r f ⟨ws, x, y, z, rfl, h1, h2, h3⟩
      exact q ws f (by omega) h2 (by omega)
/-! _law_values -/
abbrev s__law_values : Stmt := topS 59
theorem sc__law_values : FnScope ["_law_reel_here", "_law_uses_here", "_law_way_here", "_law_walk_here", "_law_first", "_law_some", "_law_found", "_law_turn", "_law_value"] ["_law_reel_here", "_law_uses_here", "_law_way_here"] (defScope s__law_values) := ⟨rfl, rfl, rfl, by decide +kernel, rfl, by decide +kernel, by decide +kernel⟩
def Sp__law_values : DSp := fun g ds f Q => ∃ (k : Dk) (us way : List Us), g = some k ∧ ds = [.any (.ref k.a), .lst (us.map pairD), .lst (way.map pairD)] ∧ us.length ≤ 110 ∧ way.length ≤ 24 ∧ (∀ u ∈ us, U60 u) ∧ (∀ u ∈ way, U60 u) ∧ 200 ≤ f ∧
  ∀ (vs : List D) f', vs.length ≤ 20 → (∀ v ∈ vs, VB 6 v) → f ≤ f' + 200 → Q (.lst vs) f'
set_option maxHeartbeats 2000000 in
theorem ok__law_values (d : Df K mg "_law_values" s__law_values) (m_list : mg "list" = none) (m_range : mg "range" = none) (m_tuple : mg "tuple" = none) (m_len : mg "len" = none) (c__law_odd : Cal P w K mg base 3 "_law_odd" ["_law_reel_here"] Sp__law_odd) (c__law_bent : Cal P w K mg base 7 "_law_bent" ["_law_reel_here", "_law_value", "_law_deep"] Sp__law_bent) (c__law_pick : Cal P w K mg base 2 "_law_pick" ["_law_reel_here", "_law_some"] Sp__law_pick) (c__law_walk : Cal P w K mg base 3 "_law_walk" ["_law_reel_here", "_law_uses_here"] Sp__law_walk) (c__law_pull : Cal P w K mg base 1 "_law_pull" ["_law_reel_here", "_law_many"] Sp__law_pull) : Cal P w K mg base 8 "_law_values" ["_law_reel_here", "_law_uses_here", "_law_way_here"] Sp__law_values := by
  obtain ⟨f, fd, F, m⟩ := d
  refine ⟨f, fd, dfn (k := 7) (S := Sp__law_values) F sc__law_values ?len (fun cdv A outer s H E hr => (dss_cons (ds_par false (i := 3) (j := 4) sc__law_values.nd (de_callC c__law_walk (hr.mono (by decide)) (da_cons (de_v 0) (da_cons (de_v 1) da_nil))) (de_callC c__law_pull (hr.mono (by decide)) (da_cons (de_v 0) (da_cons de_int da_nil))))
      (dss_cons (ds_set false (i := 5) sc__law_values.nd (dl_lst (da_cons (de_v 3) (da_cons (de_v 2) (da_cons (de_sl (de_v 2) (do_some (de_v 4)) do_none) (da_cons (de_sl (de_v 2) do_none (do_some (de_sub (de_len m_len (da_cons (de_v 2) da_nil)) (de_v 4)))) (da_cons (dl_rev (de_v 3)).e da_nil)))))).e)
      (dss_cons (ds_set false (i := 5) sc__law_values.nd (de_add (de_v 5) (dl_lst (da_cons (de_add (de_v 3) (de_sl (de_v 3) (do_some (de_neg de_int)) do_none)) (da_cons (de_add (de_sl (de_v 2) do_none (do_some (de_v 4))) (de_v 3)) da_nil))).e))
      (dss_cons (ds_setLc (i := 6) (own := [("_law_value", 8)]) sc__law_values.nd (di_seq (de_v 5)) (blkOk_by (own := [("_law_value", 8)]) (N := ["_law_reel_here", "_law_uses_here", "_law_way_here", "_law_walk_here", "_law_first", "_law_some", "_law_found", "_law_turn", "_law_value"]) (sc := defScope s__law_values) (by decide +kernel)) (fun _ _ _ _ _ => dg_name (i := 8) sc__law_values.nd) (fun _ _ _ _ _ => dts_nil) (fun _ _ _ _ _ => (de_callTy call_tuple_of sc_tuple (by rfl) m_tuple (by decide +kernel) (da_cons (de_v 8) da_nil))) (fun _ _ _ h => snd_setL (m := false) (i := 6) h))
      (dss_cons (ds_for [] PassesOwn.never (di_range1 m_range (da_cons de_int da_nil)) (dg_name (i := 7) sc__law_values.nd) (dss_one (ds_appPk (i := 6) (k0 := 0) c__law_bent (hr.mono (by decide)) c__law_pick (hr.mono (by decide)) de_int)))
      (dss_one (ds_ret (de_add (de_v 6) (dl_lst (da_cons (de_callTy call_list_of sc_list (by rfl) m_list (by decide +kernel) (da_cons (de_v 2) da_nil)) (da_cons (de_callC c__law_odd (hr.mono (by decide)) (da_cons (de_v 0) da_nil)) da_nil))).e))))))))) ?h, F.kp, F.binds fun _ _ _ _ _ _ us hl => match us, hl with | [_, _, _], _ => rfl, m⟩
  case len =>
    intro g ds n Q h; obtain ⟨_, _, _, _, rfl, _⟩ := h; rfl
  case h =>
    intro g ds n Q h
    obtain ⟨k, us, way, rfl, rfl, hul, hwl, hus, hws, hf, q⟩ := h
    have lw : (way.map pairD).length = way.length := List.length_map _
    refine ⟨k, us, rfl, rfl, by omega, fun u h => (hus u h).1, by omega, fun wk f1 hkl hk hf1 => ?_⟩
    obtain ⟨f2, rfl⟩ : ∃ f2, f1 = f2 + 1 := ⟨f1 - 1, by omega⟩
    refine ⟨k, 3, f2, rfl, rfl, by decide, by decide, rfl, fun a a0 a1 => ?_⟩
    have lk : (wk.map pairD).length = wk.length := List.length_map _
    have sub : ∀ (l : List Us), (∀ u ∈ l, U60 u) → ∀ lo hi, ∀ z ∈ cutD (l.map pairD) lo hi, ∃ u : Us, z = pairD u ∧ U60 u := fun l hl lo hi z hz => by
      obtain ⟨u, hu, rfl⟩ := List.mem_map.mp ((cut_sub (l.map pairD) lo hi).subset hz)
      exact ⟨u, rfl, hl u hu⟩
    have all : ∀ (l : List Us), (∀ u ∈ l, U60 u) → ∀ z ∈ l.map pairD, ∃ u : Us, z = pairD u ∧ U60 u := fun l hl z hz => by
      obtain ⟨u, hu, rfl⟩ := List.mem_map.mp hz
      exact ⟨u, rfl, hl u hu⟩
    have hks : ∀ u ∈ wk, U60 u := fun u h => hus u (hk u h)
    have wlen : ∀ lo hi, (cutD (way.map pairD) lo hi).length ≤ 24 := fun lo hi => Nat.le_trans (cut_sub (way.map pairD) lo hi).length_le (by omega)
    have klen : ∀ lo hi, (cutD (wk.map pairD) lo hi).length ≤ 9 := fun lo hi => Nat.le_trans (cut_sub (wk.map pairD) lo hi).length_le (by omega)
    have app : ∀ {A B : List D}, (∀ z ∈ A, ∃ u : Us, z = pairD u ∧ U60 u) → (∀ z ∈ B, ∃ u : Us, z = pairD u ∧ U60 u) → ∀ z ∈ A ++ B, ∃ u : Us, z = pairD u ∧ U60 u := fun hA hB z hz => (List.mem_append.mp hz).elim (hA z) (hB z)
    have l1 := wlen (some a) none
    have l2 := wlen none (some ((((way.map pairD).length : Nat) : Int) - a))
    have l3 := wlen none (some a)
    have l4 := klen (some (-1)) none
    refine ⟨show 5 ≤ lim by decide, ?_⟩
    simp only [List.set_cons_succ, List.set_cons_zero, setsR, startR, List.map_cons, List.map_nil, List.cons_append, List.nil_append, List.replicate_succ, List.replicate_zero, List.length_cons, List.length_nil, Nat.reduceAdd, Nat.reduceSub]
    refine ⟨L1 (by omega), L1 (by omega), show 2 ≤ lim by decide, show 5 + 2 ≤ lim by decide, ?_⟩
    simp only [List.set_cons_succ, List.set_cons_zero, setsR, startR, List.map_cons, List.map_nil, List.cons_append, List.nil_append, List.replicate_succ, List.replicate_zero, List.length_cons, List.length_nil, Nat.reduceAdd, Nat.reduceSub]
    refine ⟨show 7 ≤ lim by decide, ?_⟩
    refine lcM D.lst D.tup (fun l => l) [wk.map pairD, way.map pairD, cutD (way.map pairD) (some a) none, cutD (way.map pairD) none (some ((((way.map pairD).length : Nat) : Int) - a)), (wk.map pairD).reverse, wk.map pairD ++ cutD (wk.map pairD) (some (-1)) none, cutD (way.map pairD) none (some a) ++ wk.map pairD] _ ?_ ?_
    · intro l hl
      exact ⟨_, rfl, fun f Q q => q⟩
    have base : ∀ v ∈ [D.tup (wk.map pairD), .tup (way.map pairD), .tup (cutD (way.map pairD) (some a) none), .tup (cutD (way.map pairD) none (some ((((way.map pairD).length : Nat) : Int) - a))), .tup ((wk.map pairD).reverse), .tup (wk.map pairD ++ cutD (wk.map pairD) (some (-1)) none), .tup (cutD (way.map pairD) none (some a) ++ wk.map pairD)], VB 0 v := fun v hv => by
      simp only [List.mem_cons, List.not_mem_nil, or_false] at hv
      rcases hv with rfl | rfl | rfl | rfl | rfl | rfl | rfl
      · exact (vb_row (all wk hks) (by omega)).1
      · exact (vb_row (all way hws) (by omega)).1
      · exact (vb_row (sub way hws _ _) (by omega)).1
      · exact (vb_row (sub way hws _ _) (by omega)).1
      · exact (vb_row (fun z hz => all wk hks z (List.mem_reverse.mp hz)) (by rw [List.length_reverse]; omega)).1
      · exact (vb_row (app (all wk hks) (sub wk hks _ _)) (by rw [List.length_append]; omega)).1
      · exact (vb_row (app (sub way hws _ _) (all wk hks)) (by rw [List.length_append]; omega)).1
    generalize hG : [D.tup (wk.map pairD), .tup (way.map pairD), .tup (cutD (way.map pairD) (some a) none), .tup (cutD (way.map pairD) none (some ((((way.map pairD).length : Nat) : Int) - a))), .tup ((wk.map pairD).reverse), .tup (wk.map pairD ++ cutD (wk.map pairD) (some (-1)) none), .tup (cutD (way.map pairD) none (some a) ++ wk.map pairD)] = G at base
    have lG : G.length = 7 := by rw [← hG]; rfl
    simp only [List.set_cons_succ, List.set_cons_zero, setsR, startR, List.map_cons, List.map_nil, List.cons_append, List.nil_append, List.replicate_succ, List.replicate_zero, List.length_cons, List.length_nil, Nat.reduceAdd, Nat.reduceSub]
    refine ⟨by decide, by decide, ?_⟩
    refine dFor_range (fun i r' f => ∃ (vs : List D) (z x y : Sl), r' = [.sh (.any (.ref k.a)), .sh (.lst (us.map pairD)), .sh (.lst (way.map pairD)), .sh (.lst (wk.map pairD)), .sh (.int a), z, .ow vs, x, y] ∧ vs.length = 7 + i ∧ (∀ v ∈ vs, VB i v) ∧ f2 ≤ f + 12 * i) 0 6 _ _ ?_ ?_ ⟨G, _, .no, .no, by rw [← hG]; rfl, lG, base, by omega⟩
    · rintro i r' f N hi ⟨vs, z, x, y, rfl, hvl, hvb, hfi⟩ hN
      refine ⟨_, rfl, vs, _, rfl, rfl, fun ws hws => ?_⟩
      refine .inl ⟨k, ws.map D.any, rfl, rfl, by rw [List.length_map]; omega, by rw [List.length_map]; omega, by omega, fun d hd f3 hf3 => ?_⟩
      obtain ⟨w, hw, rfl⟩ := List.mem_map.mp hd
      obtain ⟨j, hj, rfl⟩ := List.getElem_of_mem hw
      have hj' : j < vs.length := by omega
      have hb := hvb vs[j] (List.getElem_mem hj')
      refine ⟨j, ws[j], vs[j], List.getElem?_eq_getElem hj, rfl, List.getElem?_eq_getElem hj', ?_⟩
      refine ⟨k, vs[j], 3, 2000 + 2 * i, i, rfl, rfl, by decide, hb.i, by omega, by omega, by omega, by have := hb.t; omega, by omega, fun y f4 h1 h2 h3 h4 h5 => ?_⟩
      refine ⟨L1 (by omega), hN _ _ ⟨vs ++ [y], _, _, _, rfl, by rw [List.length_append, hvl, List.length_singleton]; omega, fun z hz => ?_, by omega⟩⟩
      rcases List.mem_append.mp hz with h | h
      · exact (hvb z h).step
      · rw [List.mem_singleton.mp h]; exact hb.bent h1 h2 h3 h4
    · rintro r' f ⟨vs, z, x, y, rfl, hvl, hvb, hfi⟩
      refine ⟨k, rfl, rfl, by omega, fun v f4 h1 h2 h3 h4 => ⟨show 2 ≤ lim by decide, L1 (by show vs.length + 2 ≤ _; omega), ?_⟩⟩
      refine q _ _ (by rw [List.length_append]; show vs.length + 2 ≤ 20; omega) (fun z hz => ?_) (by omega)
      rcases List.mem_append.mp hz with h | h
      · exact (hvb z h).up (by omega)
      · simp only [List.mem_cons, List.not_mem_nil, or_false] at h
        rcases h with rfl | rfl
        · exact (vb_row (all way hws) (by omega)).2.up (by omega)
        · exact (VB.odd h1 h2 h3).up (by omega)
/-! is_path -/
abbrev s_is_path : Stmt := topS 8
theorem sc_is_path : FnScope ["value", "names", "name"] ["value"] (defScope s_is_path) := ⟨rfl, rfl, rfl, by decide +kernel, rfl, by decide +kernel, by decide +kernel⟩
def pathB (s : Str) : Bool := decide ((Txt.split s ".").length ≤ 6) && (Txt.split s ".").all nmB
def isPathD : D → Bool
  | .str s => pathB s
  | _ => false
def Sp_is_path : DSp := fun _ ds f Q => ∃ x : D, ds = [x] ∧ x.tyd = true ∧ (∀ s, x = .str s → s.length ≤ 100000) ∧ Q (.bool (isPathD x)) f
theorem tyd_isi {x : D} (h : x.tyd = true) : ∃ t, x.tyN = some t ∧ kitB t "str" = some x.isSt := by
  cases x <;> first
    | (cases h; done)
    | (refine ⟨_, rfl, ?_⟩; simp only [D.isSt]; decide +kernel)
theorem split_part_len {s x : Str} (h : x ∈ Txt.split s ".") : x.length ≤ s.length := by
  have hm : cd x ∈ sp (cd s) := by rw [← split_cd]; exact List.mem_map_of_mem h
  have : ∀ (l n : List Nat), n ∈ sp l → n.length ≤ l.length := by
    intro l
    induction l with
    | nil => intro n hn; simp [sp] at hn; simp [hn]
    | cons c r ih =>
      intro n hn
      unfold sp at hn
      split at hn
      · rcases List.mem_cons.mp hn with e | e
        · simp [e]
        · have := ih n e; simp only [List.length_cons]; omega
      · cases e : sp r with
        | nil => exact absurd e (sp_ne r)
        | cons a t =>
          rw [e] at hn ih
          rcases List.mem_cons.mp hn with e' | e'
          · subst e'; have := ih a (by simp); simp only [List.length_cons]; omega
          · have := ih n (by simp [e']); simp only [List.length_cons]; omega
  rw [TL.len_tl, TL.len_tl]
  exact this _ _ hm
set_option maxHeartbeats 2000000 in
theorem ok_is_path (d : Df K mg "is_path" s_is_path) (m_all : mg "all" = none) (m_len : mg "len" = none) (m_str : mg "str" = none) (m_isinstance : mg "isinstance" = none) (g_MAX_NAMES : ∃ t, mg "MAX_NAMES" = some (.int 6 t)) (c_is_name : Cal P w K mg base 1 "is_name" ["value"] Sp_is_name) : Cal P w K mg base 2 "is_path" ["value"] Sp_is_path := by
  obtain ⟨f, fd, F, m⟩ := d
  refine ⟨f, fd, dfn (k := 1) (S := Sp_is_path) F sc_is_path ?len (fun cdv A outer s H E hr => (dss_cons (ds_if (dp_not (dp_val (de_isi m_isinstance (da_cons (de_v 0) (da_cons (de_bltn (v := .ty "str") (u := .type "str") (by rfl) m_str (by decide +kernel) rfl) da_nil))))) (dss_one (ds_ret de_bl)) dss_nil)
      (dss_cons (ds_set false (i := 1) sc_is_path.nd (dl_split (de_v 0) de_str).e)
      (dss_one (ds_ret (de_and (de_le (de_len m_len (da_cons (de_v 1) da_nil)) (de_glob (v := .int 6) (d := .int 6) (by rfl) g_MAX_NAMES.choose_spec ⟨_, rfl⟩ (fun _ => rfl))) (de_one (de_callB (cr_all rfl) sc_all (by rfl) m_all (by decide +kernel) (da_cons (dl_lc (own := [("name", 2)]) rfl sc_is_path.nd (di_seq (de_v 1)) (blkOk_by (own := [("name", 2)]) (N := ["value", "names", "name"]) (sc := defScope s_is_path) (by decide +kernel)) (fun _ _ _ _ _ => dg_name (i := 2) sc_is_path.nd) (fun _ _ _ _ _ => dts_nil) (fun _ _ _ _ _ => (de_callC c_is_name (hr.mono (by decide)) (da_cons (de_v 2) da_nil)))).e da_nil))))))))) ?h, F.kp, F.binds fun _ _ _ _ _ _ us hl => match us, hl with | [_], _ => rfl, m⟩
  case len =>
    intro g ds n Q h; obtain ⟨_, rfl, _⟩ := h; rfl
  case h =>
    intro g ds n Q h
    obtain ⟨x, rfl, hx, hl, q⟩ := h
    obtain ⟨t, ht, hk⟩ := tyd_isi hx
    refine ⟨t, _, ht, hk, ?_⟩
    cases x with
    | str s =>
      have hs := hl s rfl
      refine ⟨by decide +kernel, Nat.le_trans hs (by decide), ?_⟩
      show if decide ((((Txt.split s ".").map D.str).length : Int) ≤ 6) = true then _ else _
      rw [List.length_map]
      have q : Q (.bool (decide ((Txt.split s ".").length ≤ 6) && (Txt.split s ".").all nmB)) n := q
      by_cases h6 : (Txt.split s ".").length ≤ 6
      · rw [decide_eq_true (by omega : ((Txt.split s ".").length : Int) ≤ 6)]
        rw [decide_eq_true h6, Bool.true_and] at q
        refine ⟨by rw [List.length_map]; exact Nat.le_trans h6 (by decide), ?_⟩
        refine dLcGo_pure (fun _ => true) (fun d => match d with | .str z => .bool (nmB z) | _ => .none) _ _ _ (fun d hd => ?_) ?_
        · obtain ⟨z, hz, rfl⟩ := List.mem_map.mp hd
          exact ⟨_, rfl, fun f Q h => h, fun _ f Q h => ⟨z, rfl, Nat.le_trans (split_part_len hz) hs, h⟩⟩
        · refine ⟨(Txt.split s ".").map nmB, ?_, ?_⟩
          · rw [List.filter_eq_self.mpr (fun _ _ => rfl), List.nil_append, List.map_map, List.map_map]; rfl
          · rw [show (((Txt.split s ".").map nmB).all id) = (Txt.split s ".").all nmB from by rw [List.all_map]; rfl]
            exact q
      · rw [decide_eq_false (by omega : ¬ ((Txt.split s ".").length : Int) ≤ 6)]
        rw [decide_eq_false h6, Bool.false_and] at q
        exact q
    | obj _ _ _ => cases hx
    | any _ => cases hx
    | _ => exact q
/-! covers -/
abbrev s_covers : Stmt := topS 9
theorem sc_covers : FnScope ["path", "other"] ["path", "other"] (defScope s_covers) := ⟨rfl, rfl, rfl, by decide +kernel, rfl, by decide +kernel, by decide +kernel⟩
def Sp_covers : DSp := fun _ ds f Q => ∃ p o : Str, ds = [.str p, .str o] ∧ p.length ≤ 100000 ∧ Q (.bool (cov p o)) f
set_option maxHeartbeats 2000000 in
theorem ok_covers (d : Df K mg "covers" s_covers) : Cal P w K mg base 1 "covers" ["path", "other"] Sp_covers := by
  obtain ⟨f, fd, F, m⟩ := d
  refine ⟨f, fd, dfn (k := 0) (S := Sp_covers) F sc_covers ?len (fun cdv A outer s H E hr => (dss_one (ds_ret (de_or (de_eq hr.units (de_v 1) (de_v 0)) (de_one (de_starts (de_v 1) (de_add (de_v 0) de_str))))))) ?h, F.kp, F.binds fun _ _ _ _ _ _ us hl => match us, hl with | [_, _], _ => rfl, m⟩
  case len =>
    intro g ds n Q h; obtain ⟨_, _, rfl, _⟩ := h; rfl
  case h =>
    intro g ds n Q h
    obtain ⟨p, o, rfl, hl, q⟩ := h
    unfold cov at q
    show if decide (o = p) = true then Q (.bool true) n else _
    cases e : decide (o = p) with
    | true => rw [e] at q; exact q
    | false =>
      rw [e] at q
      refine iteF ⟨trivial, ?_, q⟩
      exact Nat.le_trans (Nat.add_le_add_right hl 1) (by decide)
/-! overlap -/
abbrev s_overlap : Stmt := topS 10
theorem sc_overlap : FnScope ["path", "other"] ["path", "other"] (defScope s_overlap) := ⟨rfl, rfl, rfl, by decide +kernel, rfl, by decide +kernel, by decide +kernel⟩
def Sp_overlap : DSp := fun _ ds f Q => ∃ p o : Str, ds = [.str p, .str o] ∧ p.length ≤ 100000 ∧ o.length ≤ 100000 ∧ Q (.bool (cov p o || cov o p)) f
set_option maxHeartbeats 2000000 in
theorem ok_overlap (d : Df K mg "overlap" s_overlap) (c_covers : Cal P w K mg base 1 "covers" ["path", "other"] Sp_covers) : Cal P w K mg base 2 "overlap" ["path", "other"] Sp_overlap := by
  obtain ⟨f, fd, F, m⟩ := d
  refine ⟨f, fd, dfn (k := 1) (S := Sp_overlap) F sc_overlap ?len (fun cdv A outer s H E hr => (dss_one (ds_ret (de_or (de_callC c_covers (hr.mono (by decide)) (da_cons (de_v 0) (da_cons (de_v 1) da_nil))) (de_one (de_callC c_covers (hr.mono (by decide)) (da_cons (de_v 1) (da_cons (de_v 0) da_nil)))))))) ?h, F.kp, F.binds fun _ _ _ _ _ _ us hl => match us, hl with | [_, _], _ => rfl, m⟩
  case len =>
    intro g ds n Q h; obtain ⟨_, _, rfl, _⟩ := h; rfl
  case h =>
    intro g ds n Q h
    obtain ⟨p, o, rfl, h1, h2, q⟩ := h
    refine ⟨p, o, rfl, h1, ?_⟩
    cases e : cov p o with
    | true => rw [e] at q; exact q
    | false =>
      rw [e] at q
      exact ⟨o, p, rfl, h2, q⟩
/-! first_overlap -/
abbrev s_first_overlap : Stmt := topS 12
theorem sc_first_overlap : FnScope ["paths", "others", "path", "other"] ["paths", "others"] (defScope s_first_overlap) := ⟨rfl, rfl, rfl, by decide +kernel, rfl, by decide +kernel, by decide +kernel⟩
def ovl (p o : Str) : Bool := cov p o || cov o p
def firstOv (ps os : List Str) : D := match ps.find? fun p => os.any (ovl p) with
  | some p => .str p
  | none => .none
def short (l : List Str) : Prop := l.length ≤ 1000 ∧ ∀ s ∈ l, s.length ≤ 10000 ∧ asc s
def Sp_first_overlap : DSp := fun _ ds f Q => ∃ ps os : List Str, ds = [.tup (ps.map D.str), .tup (os.map D.str)] ∧ short ps ∧ short os ∧ Q (firstOv ps os) f
theorem any_filter (os : List Str) (b : Str → Bool) : decide (os.filter b = []) = !os.any b := by
  induction os with
  | nil => rfl
  | cons x l ih =>
    rw [List.filter_cons, List.any_cons]
    cases b x with
    | true => simp
    | false => simpa using ih
set_option maxHeartbeats 2000000 in
theorem ok_first_overlap (d : Df K mg "first_overlap" s_first_overlap) (c_overlap : Cal P w K mg base 2 "overlap" ["path", "other"] Sp_overlap) : Cal P w K mg base 3 "first_overlap" ["paths", "others"] Sp_first_overlap := by
  obtain ⟨f, fd, F, m⟩ := d
  refine ⟨f, fd, dfn (k := 2) (S := Sp_first_overlap) F sc_first_overlap ?len (fun cdv A outer s H E hr => (dss_cons (ds_for [] PassesOwn.never (di_seq (de_v 0)) (dg_name (i := 2) sc_first_overlap.nd) (dss_one (ds_if (dp_ne hr.units (dl_lc (own := [("other", 3)]) rfl sc_first_overlap.nd (di_seq (de_v 1)) (blkOk_by (own := [("other", 3)]) (N := ["paths", "others", "path", "other"]) (sc := defScope s_first_overlap) (by decide +kernel)) (fun _ _ _ _ _ => dg_name (i := 3) sc_first_overlap.nd) (fun _ _ _ _ _ => dts_one (dp_val (de_callC c_overlap (hr.mono (by decide)) (da_cons (de_v 2) (da_cons (de_v 3) da_nil))))) (fun _ _ _ _ _ => (de_v 3))).e (dl_lst da_nil).e) (dss_one (ds_ret (de_v 2))) dss_nil)))
      (dss_one (ds_ret de_non)))) ?h, F.kp, F.binds fun _ _ _ _ _ _ us hl => match us, hl with | [_, _], _ => rfl, m⟩
  case len =>
    intro g ds n Q h; obtain ⟨_, _, rfl, _⟩ := h; rfl
  case h =>
    intro g ds n Q h
    obtain ⟨ps, os, rfl, hp, ho, q⟩ := h
    refine dFor_inv (fun rest r f => f = n ∧ ∃ (ms : List Str) (a c e : Sl), rest = ms.map D.str ∧ r = [a, .sh (.tup (os.map D.str)), c, e] ∧ (∀ m ∈ ms, m ∈ ps) ∧ firstOv ms os = firstOv ps os) _ _ _ ?_ ?_ ⟨rfl, ps, _, _, _, rfl, rfl, fun _ h => h, rfl⟩
    · rintro d rest r f N ⟨rfl, ms, a, c, e, hms, rfl, hsub, heq⟩ hN
      match ms, hms with
      | m :: ms, hms =>
      obtain ⟨rfl, rfl⟩ := List.cons.inj hms
      refine ⟨_, rfl, ?_⟩
      have hm := hp.2 m (hsub m (by simp))
      refine ⟨by rw [List.length_map]; exact Nat.le_trans ho.1 (by decide), ?_⟩
      refine dLcGo_pure (fun d => match d with | .str z => ovl m z | _ => false) id _ _ _ (fun d hd => ?_) ?_
      · obtain ⟨z, hz, rfl⟩ := List.mem_map.mp hd
        have hz' := ho.2 z hz
        exact ⟨_, rfl, fun f Q h => ⟨m, z, rfl, Nat.le_trans hm.1 (by decide), Nat.le_trans hz'.1 (by decide), h⟩, fun _ f Q h => h⟩
      · rw [List.map_id, List.nil_append, filter_strs _ (ovl m) _ (fun s => rfl)]
        refine ⟨by decide, ?_⟩
        show oEq true (.lst ((os.filter (ovl m)).map D.str)) (.lst (([] : List Str).map D.str)) _
        refine oEq_lst (m := []) (fun s hs => (ho.2 s (List.mem_filter.mp hs).1).2) (by simp) ?_
        show if (!decide (os.filter (ovl m) = [])) = true then _ else _
        rw [any_filter, Bool.not_not]
        unfold firstOv at heq
        rw [List.find?_cons] at heq
        cases hb : os.any (ovl m) with
        | true =>
          rw [hb] at heq
          have : firstOv ps os = .str m := heq.symm
          rw [this] at q
          exact q
        | false =>
          rw [hb] at heq
          exact hN _ _ ⟨rfl, ms, _, _, _, rfl, rfl, fun m' h' => hsub m' (by simp [h']), heq⟩
    · rintro r f ⟨rfl, ms, a, c, e, hms, rfl, hsub, heq⟩
      obtain rfl : ms = [] := by
        match ms, hms with
        | [], _ => rfl
      rw [← heq] at q
      exact q
def rpB (s : Str) : Bool := pathB s && decide ((Txt.split s ".").length ≤ 4)
def ovlL : List Str → Bool
  | [] => false
  | p :: ps => ps.any (fun q => ovl q p) || ovlL ps
theorem ovlL_snoc (ps : List Str) (q : Str) : ovlL (ps ++ [q]) = (ovlL ps || ps.any (fun p => ovl q p)) := by
  induction ps with
  | nil => rfl
  | cons p ps ih =>
    show ((ps ++ [q]).any (fun q => ovl q p) || ovlL (ps ++ [q])) = ((ps.any (fun q => ovl q p) || ovlL ps) || (ovl q p || ps.any fun p => ovl q p))
    rw [ih, List.any_append, List.any_cons, List.any_nil, Bool.or_false]
    cases ps.any (fun q => ovl q p) <;> cases ovl q p <;> cases ovlL ps <;> simp
theorem ovlL_pre {A B : List Str} (h : ovlL (A ++ B) = false) : ovlL A = false := by
  induction A with
  | nil => rfl
  | cons p A ih =>
    have h : (((A ++ B).any fun q => ovl q p) || ovlL (A ++ B)) = false := h
    rw [Bool.or_eq_false_iff, List.any_append, Bool.or_eq_false_iff] at h
    show ((A.any fun q => ovl q p) || ovlL A) = false
    rw [h.1.1, ih h.2]
    rfl
abbrev tps (l : List Str) : D := .tup (l.map D.str)
inductive Rl where
  | forbid (ss ts : List Str) (ch : Bool)
  | layers (rows : List (List Str)) (ch : Bool)
  | stairs (rows : List (List Str))
  | apart (ps : List Str) (ch : Bool)
  | only (ts us : List Str)
  | face (p : Str) (es : List Str)
  | noring (ps : List Str)
def howS (ch : Bool) : Str := if ch = true then "chain" else "direct"
def Rl.wd : Rl → Str
  | .forbid _ _ _ => "forbid"
  | .layers _ _ => "layers"
  | .stairs _ => "stairs"
  | .apart _ _ => "apart"
  | .only _ _ => "only"
  | .face _ _ => "face"
  | .noring _ => "noring"
def Rl.items : Rl → List D
  | .forbid ss ts ch => [tps ss, tps ts, .str (howS ch)]
  | .layers rows ch => [.tup (rows.map tps), .str (howS ch)]
  | .stairs rows => [.tup (rows.map tps)]
  | .apart ps ch => [tps ps, .str (howS ch)]
  | .only ts us => [tps ts, tps us]
  | .face p es => [.str p, tps es]
  | .noring ps => [tps ps]
def Rl.d (r : Rl) : D := .tup (.str r.wd :: r.items)
def Rl.par : Rl → List Str
  | .forbid ss ts _ => ss ++ ts
  | .layers rows _ => rows.flatten
  | .stairs rows => rows.flatten
  | .apart ps _ => ps
  | .only ts us => ts ++ us
  | .face _ es => es
  | .noring ps => ps
def rPs (l m : Nat) (ps : List Str) : Prop := l ≤ ps.length ∧ ps.length ≤ m ∧ ∀ p ∈ ps, rpB p = true
def rRows (rows : List (List Str)) : Prop := 2 ≤ rows.length ∧ rows.length ≤ 5 ∧ ∀ r ∈ rows, rPs 1 4 r
/-- all items are as described -/
def Rl.form : Rl → Prop
  | .forbid ss ts _ => rPs 1 6 ss ∧ rPs 1 6 ts
  | .layers rows _ => rRows rows
  | .stairs rows => rRows rows
  | .apart ps _ => rPs 2 6 ps
  | .only ts us => rPs 1 6 ts ∧ rPs 0 6 us
  | .face p es => rpB p = true ∧ rPs 0 6 es ∧ ∀ e ∈ es, cov p e = true ∧ e ≠ p
  | .noring ps => rPs 2 6 ps
/-! modules_error -/
abbrev s_modules_error : Stmt := topS 29
theorem sc_modules_error : FnScope ["modules", "index", "path"] ["modules"] (defScope s_modules_error) := ⟨rfl, rfl, rfl, by decide +kernel, rfl, by decide +kernel, by decide +kernel⟩
structure PVm (ms : List Str) : Prop where
  len : ms.length ≤ 24
  path : ∀ m ∈ ms, PathN 6 m
  apart : ms.Pairwise fun a b => ovl b a = false
def Sp_modules_error : DSp := fun _ ds f Q => ∃ ms : List Str, ds = [.tup (ms.map D.str)] ∧ PVm ms ∧ Q .none f
theorem isName_nmB {s : Str} (h : isName s) : nmB s = true := by
  unfold nmB
  rw [decide_eq_true h.1, decide_eq_true h.2.1]
  show (cd s).all _ = true
  rw [List.all_eq_true]
  intro c hc
  have hb := h.2.2 c hc
  have : ∀ c : Nat, 97 ≤ c → c ≤ 122 → c ∈ letL := by
    intro c h1 h2
    have h3 : c < 123 := by omega
    revert h1 h2
    have : ∀ c < 123, 97 ≤ c → c ≤ 122 → c ∈ letL := by decide +kernel
    exact this c h3
  exact decide_eq_true (this c hb.1 hb.2)
theorem PathN.splits {m : Nat} {x : Str} (h : PathN m x) : 1 ≤ (Txt.split x ".").length ∧ (Txt.split x ".").length ≤ m ∧ (∀ n ∈ Txt.split x ".", isName n) ∧ Txt.join "." (Txt.split x ".") = x := by
  obtain ⟨ns, n1, n2, n3, rfl⟩ := h
  rw [split_join_names (fun z => by rw [z] at n1; simp at n1) n3]
  exact ⟨n1, n2, n3, rfl⟩
theorem PathN.pathB {x : Str} (h : PathN 6 x) : pathB x = true := by
  obtain ⟨h1, h2, h3, h4⟩ := h.splits
  unfold DL.pathB
  rw [decide_eq_true h2, Bool.true_and, List.all_eq_true]
  exact fun n hn => isName_nmB (h3 n hn)
theorem PVm.short {ms : List Str} (h : PVm ms) : short ms := ⟨Nat.le_trans h.len (by decide), fun s hs => ⟨Nat.le_trans (h.path s hs).len (by decide), (h.path s hs).asc⟩⟩
theorem PVm.sub {l m : List Str} (h : PVm m) (p : l.Sublist m) : PVm l := ⟨Nat.le_trans p.length_le h.len, fun s hs => h.path s (p.subset hs), h.apart.sublist p⟩
theorem ovl_self (m : Str) : ovl m m = true := by
  unfold ovl cov
  rw [decide_eq_true (rfl : m = m)]
  rfl
theorem PVm.nd {m : List Str} (h : PVm m) : m.Nodup := h.apart.imp fun {a b} e z => by
  rw [z, ovl_self] at e
  cases e
theorem PVm.asc {m : List Str} (h : PVm m) : ∀ s ∈ m, asc s := fun s hs => (h.path s hs).asc
set_option maxHeartbeats 2000000 in
theorem ok_modules_error (d : Df K mg "modules_error" s_modules_error) (m_enumerate : mg "enumerate" = none) (m_len : mg "len" = none) (m_tuple : mg "tuple" = none) (m_isinstance : mg "isinstance" = none) (g_MAX_MODULES : ∃ t, mg "MAX_MODULES" = some (.int 24 t)) (c_first_overlap : Cal P w K mg base 3 "first_overlap" ["paths", "others"] Sp_first_overlap) (c_is_path : Cal P w K mg base 2 "is_path" ["value"] Sp_is_path) : Cal P w K mg base 4 "modules_error" ["modules"] Sp_modules_error := by
  obtain ⟨f, fd, F, m⟩ := d
  refine ⟨f, fd, dfn (k := 3) (S := Sp_modules_error) F sc_modules_error ?len (fun cdv A outer s H E hr => (dss_cons (ds_if (DW.p (dw_or (dp_not (dp_val (de_isi m_isinstance (da_cons (de_v 0) (da_cons (de_bltn (v := .ty "tuple") (u := .type "tuple") (by rfl) m_tuple (by decide +kernel) rfl) da_nil))))) (dw_or1 (dp_gt (de_len m_len (da_cons (de_v 0) da_nil)) (de_glob (v := .int 24) (d := .int 24) (by rfl) g_MAX_MODULES.choose_spec ⟨_, rfl⟩ (fun _ => rfl)))))) (dss_one (ds_ret (de_tup (da_cons de_non (da_cons de_str da_nil))))) dss_nil)
      (dss_cons (ds_for [] PassesOwn.never (di_enum m_enumerate (da_cons (de_v 0) da_nil)) (dg_tup rfl (dgs_cons (dg_name (i := 1) sc_modules_error.nd) (dgs_cons (dg_name (i := 2) sc_modules_error.nd) dgs_nil))) (dss_cons (ds_if (dp_not (dp_val (de_callC c_is_path (hr.mono (by decide)) (da_cons (de_v 2) da_nil)))) (dss_one (ds_ret (de_tup (da_cons (de_v 1) (da_cons de_str da_nil))))) dss_nil)
      (dss_one (ds_if (dp_notN (de_callC c_first_overlap (hr.mono (by decide)) (da_cons (de_tup (da_cons (de_v 2) da_nil)) (da_cons (de_sl (de_v 0) do_none (do_some (de_v 1))) da_nil))) de_non) (dss_one (ds_ret (de_tup (da_cons (de_v 1) (da_cons de_str da_nil))))) dss_nil))))
      (dss_one (ds_ret de_non))))) ?h, F.kp, F.binds fun _ _ _ _ _ _ us hl => match us, hl with | [_], _ => rfl, m⟩
  case len =>
    intro g ds n Q h; obtain ⟨_, rfl, _⟩ := h; rfl
  case h =>
    intro g ds n Q h
    obtain ⟨ms, rfl, hv, q⟩ := h
    refine ⟨"tuple", true, rfl, by decide +kernel, ?_⟩
    show if decide ((((ms.map D.str).length : Int)) > 24) = true then _ else _
    rw [List.length_map, decide_eq_false (by have := hv.len; omega)]
    refine iteF ?_
    refine dFor_inv (fun rest r f => f = n ∧ ∃ (i : Nat) (a c : Sl), rest = (enumD (ms.map D.str)).drop i ∧ r = [.sh (.tup (ms.map D.str)), a, c]) _ _ _ ?_ (fun r f ⟨e, _⟩ => by subst e; exact q) ⟨rfl, 0, _, _, rfl, rfl⟩
    rintro d rest r f N ⟨rfl, i, a, c, hr, rfl⟩ hN
    have hd : (enumD (ms.map D.str))[i]? = some d := by
      have := congrArg List.head? hr
      rw [List.head?_drop] at this
      exact this.symm
    obtain ⟨x, hx, rfl⟩ := enumD_get hd
    rw [List.getElem?_map] at hx
    cases em : ms[i]? with
    | none => rw [em] at hx; cases hx
    | some m =>
      rw [em] at hx
      cases hx
      have hm : m ∈ ms := List.mem_of_getElem? em
      have hp := hv.path m hm
      refine ⟨_, rfl, .str m, rfl, rfl, fun s e => ?_, ?_⟩
      · cases e
        exact Nat.le_trans hp.len (by decide)
      · show if (!pathB m) = true then _ else _
        rw [hp.pathB]
        have hi : i < ms.length := (List.getElem?_eq_some_iff.mp em).1
        have et : cutD (ms.map D.str) none (some (i : Int)) = (ms.take i).map D.str := by rw [cutD_take, List.map_take]
        have hno : firstOv [m] (ms.take i) = .none := by
          unfold firstOv
          rw [List.find?_cons]
          have : (ms.take i).any (ovl m) = false := by
            rw [List.any_eq_false]
            intro z hz
            obtain ⟨j, hj, ez⟩ := List.getElem_of_mem hz
            rw [List.length_take] at hj
            rw [List.getElem_take] at ez
            have := List.pairwise_iff_getElem.mp hv.apart j i (by omega) hi (by omega)
            obtain ⟨_, e2⟩ := List.getElem?_eq_some_iff.mp em
            rw [ez, e2] at this
            rw [this]
            decide
          rw [this]
          rfl
        refine iteF ⟨show 1 ≤ lim by decide, [m], ms.take i, ?_, ⟨show 1 ≤ 1000 by decide, fun s hs => by rw [List.mem_singleton.mp hs]; exact hv.short.2 m hm⟩, ⟨Nat.le_trans (by rw [List.length_take]; exact Nat.min_le_right _ _) hv.short.1, fun s hs => hv.short.2 s (List.mem_of_mem_take hs)⟩, ?_⟩
        · show [D.tup [D.str m], D.tup (cutD (ms.map D.str) none (some (i : Int)))] = _
          rw [et]
          rfl
        · rw [hno]
          refine hN _ _ ⟨rfl, i + 1, _, _, ?_, rfl⟩
          rw [← List.tail_drop, ← hr]
          rfl
theorem nmB_isName {s : Str} (h : nmB s = true) : isName s := by
  unfold nmB at h
  rw [Bool.and_eq_true, Bool.and_eq_true, decide_eq_true_iff, decide_eq_true_iff, List.all_eq_true] at h
  refine ⟨h.1.1, h.1.2, fun c hc => ?_⟩
  have := of_decide_eq_true (h.2 c hc)
  have all : ∀ c ∈ letL, 97 ≤ c ∧ c ≤ 122 := by decide +kernel
  exact all c this
theorem rp_path {s : Str} : rpB s = true ↔ PathN 4 s := by
  unfold rpB
  rw [Bool.and_eq_true, decide_eq_true_iff]
  constructor
  · rintro ⟨h1, h2⟩
    unfold pathB at h1
    rw [Bool.and_eq_true, List.all_eq_true] at h1
    exact ⟨Txt.split s ".", split_pos s, h2, fun n hn => nmB_isName (h1.2 n hn), (join_split s).symm⟩
  · intro h
    exact ⟨(h.mono (by decide)).pathB, h.splits.2.1⟩
theorem rp_asc {s : Str} (h : rpB s = true) : asc s ∧ s.length ≤ 36 := ⟨(rp_path.mp h).asc, (rp_path.mp h).len⟩
/-! covered -/
abbrev s_covered : Stmt := topS 11
theorem sc_covered : FnScope ["paths", "path", "other"] ["paths", "path"] (defScope s_covered) := ⟨rfl, rfl, rfl, by decide +kernel, rfl, by decide +kernel, by decide +kernel⟩
def covd (ps : List Str) (x : Str) : D := match ps.find? (fun p => cov p x) with
  | some p => .str p
  | none => .none
def Sp_covered : DSp := fun _ ds f Q => ∃ (ps : List Str) (x : Str), (ds = [.tup (ps.map D.str), .str x] ∨ ds = [.lst (ps.map D.str), .str x]) ∧ (∀ p ∈ ps, p.length ≤ 100000) ∧ Q (covd ps x) f
set_option maxHeartbeats 2000000 in
theorem ok_covered (d : Df K mg "covered" s_covered) (c_covers : Cal P w K mg base 1 "covers" ["path", "other"] Sp_covers) : Cal P w K mg base 2 "covered" ["paths", "path"] Sp_covered := by
  obtain ⟨f, fd, F, m⟩ := d
  refine ⟨f, fd, dfn (k := 1) (S := Sp_covered) F sc_covered ?len (fun cdv A outer s H E hr => (dss_cons (ds_for [] PassesOwn.never (di_seq (de_v 0)) (dg_name (i := 2) sc_covered.nd) (dss_one (ds_if (dp_val (de_callC c_covers (hr.mono (by decide)) (da_cons (de_v 2) (da_cons (de_v 1) da_nil)))) (dss_one (ds_ret (de_v 2))) dss_nil)))
      (dss_one (ds_ret de_non)))) ?h, F.kp, F.binds fun _ _ _ _ _ _ us hl => match us, hl with | [_, _], _ => rfl, m⟩
  case len =>
    intro g ds n Q h; obtain ⟨_, _, rfl | rfl, _⟩ := h <;> rfl
  case h =>
    intro g ds n Q h
    obtain ⟨ps, x, hds, hl, q⟩ := h
    have main : ∀ (ps : List Str) (r : Sg), (∀ p ∈ ps, p.length ≤ 100000) → r.length = 3 → r[1]? = some (.sh (.str x)) → Q (covd ps x) n →
        dForGo g (tgN 2) (sIf (dTest (dCall Sp_covers (dCons (dVar 2) (dCons (dVar 1) dNil)))) (sRet (dVar 2)) sNext) { nx := fun r' f' => sRet (dC .none) g r' f' { nx := fun _ n => Q .none n, rt := Q }, rt := Q } (ps.map D.str) r n := by
      intro ps
      induction ps with
      | nil => intro r _ _ _ h; exact h
      | cons p ps ih =>
        intro r hl h3 h1 h
        obtain ⟨a, b, c, rfl⟩ : ∃ a b c, r = [a, b, c] := by
          match r, h3 with
          | [a, b, c], _ => exact ⟨a, b, c, rfl⟩
        cases h1
        refine ⟨p, x, rfl, hl p (by simp), ?_⟩
        unfold covd at h
        rw [List.find?_cons] at h
        cases e : cov p x with
        | true => rw [e] at h; exact h
        | false =>
          rw [e] at h
          exact ih [a, .sh (.str x), .sh (.str p)] (fun p hp => hl p (by simp [hp])) rfl rfl h
    rcases hds with rfl | rfl
    · exact main ps _ hl rfl rfl q
    · exact main ps _ hl rfl rfl q
/-! where a module stands for a rule -/
def homeO (ps : List Str) (m : Str) : Option Str := ps.find? fun p => cov p m
def oD : Option Str → D
  | some s => .str s
  | none => .none
theorem covd_eq (ps : List Str) (m : Str) : covd ps m = oD (homeO ps m) := by
  unfold covd homeO oD
  cases List.find? (fun p => cov p m) ps <;> rfl
def rowAt : Nat → List (List Str) → Str → Option (Nat × Str)
  | _, [], _ => none
  | i, r :: rs, m => match homeO r m with
    | some p => some (i, p)
    | none => rowAt (i + 1) rs m
def rowD : Option (Nat × Str) → D
  | some (i, p) => .tup [.int i, .str p]
  | none => .tup [.none, .none]
def placeR : Rl → Str → D
  | .forbid ss ts _, m => .tup [oD (homeO ss m), oD (homeO ts m)]
  | .only ts us, m => .tup [oD (homeO ts m), oD (homeO us m)]
  | .face p es, m => .tup [oD (homeO [p] m), oD (homeO es m)]
  | .layers rows _, m => rowD (rowAt 0 rows m)
  | .stairs rows, m => rowD (rowAt 0 rows m)
  | .apart ps _, m => .tup [.none, oD (homeO ps m)]
  | .noring ps, m => .tup [.none, oD (homeO ps m)]
def rowBar (st : Bool) : Option (Nat × Str) → Option (Nat × Str) → Bool
  | some (i, p), some (j, q) => if st = true then !(decide (j = i) || decide (j = i + 1)) else (decide (p ≠ q) && decide (j ≤ i))
  | _, _ => false
/-- the rule bars a use of b by a (not for "noring") -/
def barB : Rl → Str → Str → Bool
  | .forbid ss ts _, a, b => (homeO ss a).isSome && (homeO ts b).isSome
  | .only ts us, a, b => (homeO ts b).isSome && (decide (homeO ts a ≠ homeO ts b) && (homeO us a).isNone)
  | .face p es, a, b => cov p b && (!cov p a && (homeO es b).isNone)
  | .layers rows _, a, b => rowBar false (rowAt 0 rows a) (rowAt 0 rows b)
  | .stairs rows, a, b => rowBar true (rowAt 0 rows a) (rowAt 0 rows b)
  | .apart ps _, a, b => (homeO ps a).isSome && ((homeO ps b).isSome && decide (homeO ps a ≠ homeO ps b))
  | .noring _, _, _ => false
def longB : Rl → Bool
  | .forbid _ _ ch => ch
  | .layers _ ch => ch
  | .apart _ ch => ch
  | _ => false
theorem homeO_mem {ps : List Str} {m p : Str} (h : homeO ps m = some p) : p ∈ ps ∧ cov p m = true := ⟨List.mem_of_find?_eq_some h, by simpa using List.find?_some h⟩
/-- a text of a rule's item -/
structure PsOk (ps : List Str) : Prop where
  len : ps.length ≤ 20
  ok : ∀ p ∈ ps, asc p ∧ p.length ≤ 100
theorem PsOk.of {l m : Nat} {ps : List Str} (h : rPs l m ps) (hm : m ≤ 20) : PsOk ps := ⟨Nat.le_trans h.2.1 hm, fun p hp => ⟨(rp_asc (h.2.2 p hp)).1, Nat.le_trans (rp_asc (h.2.2 p hp)).2 (by decide)⟩⟩
/-! _law_is_long -/
abbrev s__law_is_long : Stmt := topS 50
theorem sc__law_is_long : FnScope ["_law_rule"] ["_law_rule"] (defScope s__law_is_long) := ⟨rfl, rfl, rfl, by decide +kernel, rfl, by decide +kernel, by decide +kernel⟩
def Sp__law_is_long : DSp := fun _ ds f Q => ∃ (r : Rl), ds = [r.d] ∧ r.form ∧ Q (.bool (longB r)) f
set_option maxHeartbeats 2000000 in
theorem ok__law_is_long (d : Df K mg "_law_is_long" s__law_is_long) : Cal P w K mg base 1 "_law_is_long" ["_law_rule"] Sp__law_is_long := by
  obtain ⟨f, fd, F, m⟩ := d
  refine ⟨f, fd, dfn (k := 0) (S := Sp__law_is_long) F sc__law_is_long ?len (fun cdv A outer s H E hr => (dss_one (ds_ret (de_and (de_in hr (de_ix (de_v 0) de_int) (de_tup (da_cons de_str (da_cons de_str (da_cons de_str da_nil))))) (de_one (de_eq hr.units (de_ix (de_v 0) (de_neg de_int)) de_str)))))) ?h, F.kp, F.binds fun _ _ _ _ _ _ us hl => match us, hl with | [_], _ => rfl, m⟩
  case len =>
    intro g ds n Q h; obtain ⟨_, rfl, _⟩ := h; rfl
  case h =>
    intro g ds n Q h
    obtain ⟨r, rfl, hr, q⟩ := h
    have aw : asc r.wd := by cases r <;> (simp only [Rl.wd]; decide +kernel)
    refine ⟨_, atI0, show 3 ≤ lim by decide, oIn_strs (l := ["forbid", "layers", "apart"]) (by decide +kernel) aw ?_⟩
    cases r with
    | forbid ss ts ch => exact iteT ⟨.str (howS ch), rfl, by cases ch <;> exact q⟩
    | layers rows ch => exact iteT ⟨.str (howS ch), rfl, by cases ch <;> exact q⟩
    | apart ps ch => exact iteT ⟨.str (howS ch), rfl, by cases ch <;> exact q⟩
    | _ => exact q
/-! _law_under -/
abbrev s__law_under : Stmt := topS 40
theorem sc__law_under : FnScope ["_law_path", "_law_other"] ["_law_path", "_law_other"] (defScope s__law_under) := ⟨rfl, rfl, rfl, by decide +kernel, rfl, by decide +kernel, by decide +kernel⟩
def Sp__law_under : DSp := fun _ ds f Q => ∃ p o : Str, ds = [.str p, .str o] ∧ p.length ≤ 100000 ∧ Q (.bool (cov p o)) f
set_option maxHeartbeats 2000000 in
theorem ok__law_under (d : Df K mg "_law_under" s__law_under) : Cal P w K mg base 1 "_law_under" ["_law_path", "_law_other"] Sp__law_under := by
  obtain ⟨f, fd, F, m⟩ := d
  refine ⟨f, fd, dfn (k := 0) (S := Sp__law_under) F sc__law_under ?len (fun cdv A outer s H E hr => (dss_one (ds_ret (de_or (de_eq hr.units (de_v 1) (de_v 0)) (de_one (de_starts (de_v 1) (de_add (de_v 0) de_str))))))) ?h, F.kp, F.binds fun _ _ _ _ _ _ us hl => match us, hl with | [_, _], _ => rfl, m⟩
  case len =>
    intro g ds n Q h; obtain ⟨_, _, rfl, _⟩ := h; rfl
  case h =>
    intro g ds n Q h
    obtain ⟨p, o, rfl, hl, q⟩ := h
    unfold cov at q
    show if decide (o = p) = true then Q (.bool true) n else _
    cases e : decide (o = p) with
    | true => rw [e] at q; exact q
    | false =>
      rw [e] at q
      refine iteF ⟨trivial, ?_, q⟩
      exact Nat.le_trans (Nat.add_le_add_right hl 1) (by decide)
/-! _law_home -/
abbrev s__law_home : Stmt := topS 42
theorem sc__law_home : FnScope ["_law_paths", "_law_module", "_law_path"] ["_law_paths", "_law_module"] (defScope s__law_home) := ⟨rfl, rfl, rfl, by decide +kernel, rfl, by decide +kernel, by decide +kernel⟩
def Sp__law_home : DSp := fun _ ds f Q => ∃ (ps : List Str) (x : Str), ds = [.tup (ps.map D.str), .str x] ∧ (∀ p ∈ ps, p.length ≤ 100000) ∧ Q (oD (homeO ps x)) f
set_option maxHeartbeats 2000000 in
theorem ok__law_home (d : Df K mg "_law_home" s__law_home) (c__law_under : Cal P w K mg base 1 "_law_under" ["_law_path", "_law_other"] Sp__law_under) : Cal P w K mg base 2 "_law_home" ["_law_paths", "_law_module"] Sp__law_home := by
  obtain ⟨f, fd, F, m⟩ := d
  refine ⟨f, fd, dfn (k := 1) (S := Sp__law_home) F sc__law_home ?len (fun cdv A outer s H E hr => (dss_cons (ds_for [] PassesOwn.never (di_seq (de_v 0)) (dg_name (i := 2) sc__law_home.nd) (dss_one (ds_if (dp_val (de_callC c__law_under (hr.mono (by decide)) (da_cons (de_v 2) (da_cons (de_v 1) da_nil)))) (dss_one (ds_ret (de_v 2))) dss_nil)))
      (dss_one (ds_ret de_non)))) ?h, F.kp, F.binds fun _ _ _ _ _ _ us hl => match us, hl with | [_, _], _ => rfl, m⟩
  case len =>
    intro g ds n Q h; obtain ⟨_, _, rfl, _⟩ := h; rfl
  case h =>
    intro g ds n Q h
    obtain ⟨ps, x, rfl, hl, q⟩ := h
    have main : ∀ (ps : List Str) (r : Sg), (∀ p ∈ ps, p.length ≤ 100000) → r.length = 3 → r[1]? = some (.sh (.str x)) → Q (oD (homeO ps x)) n →
        dForGo g (tgN 2) (sIf (dTest (dCall Sp__law_under (dCons (dVar 2) (dCons (dVar 1) dNil)))) (sRet (dVar 2)) sNext) { nx := fun r' f' => sRet (dC .none) g r' f' { nx := fun _ n => Q .none n, rt := Q }, rt := Q } (ps.map D.str) r n := by
      intro ps
      induction ps with
      | nil => intro r _ _ _ h; exact h
      | cons p ps ih =>
        intro r hl h3 h1 h
        obtain ⟨a, b, c, rfl⟩ : ∃ a b c, r = [a, b, c] := by
          match r, h3 with
          | [a, b, c], _ => exact ⟨a, b, c, rfl⟩
        cases h1
        refine ⟨p, x, rfl, hl p (by simp), ?_⟩
        unfold homeO at h
        rw [List.find?_cons] at h
        cases e : cov p x with
        | true => rw [e] at h; exact h
        | false =>
          rw [e] at h
          exact ih [a, .sh (.str x), .sh (.str p)] (fun p hp => hl p (by simp [hp])) rfl rfl h
    exact main ps _ hl rfl rfl q
theorem eqv_oD (x y : Option Str) : PyData.eqv (oD x).py (oD y).py = decide (x = y) := by
  cases x with
  | none => cases y <;> rfl
  | some a =>
    cases y with
    | none => rfl
    | some b =>
      show (a == b) = _
      rw [Bool.beq_eq_decide_eq]
      exact decide_eq_decide.mpr ⟨fun h => by rw [h], fun h => Option.some.inj h⟩
theorem shp_oD {x : Option Str} (h : ∀ s, x = some s → asc s) : SeqAt.shaped (oD x).py = true := by
  cases x with
  | none => rfl
  | some s => exact shaped_str (h s rfl)
theorem oEq_oD {neg : Bool} {x y : Option Str} {Q : D → Prop} (hx : ∀ s, x = some s → asc s) (hy : ∀ s, y = some s → asc s) (h : Q (.bool (xb neg (decide (x = y))))) : oEq neg (oD x) (oD y) Q := by
  refine oEq_data (shp_oD hx) (shp_oD hy) ?_
  rw [eqv_oD]
  exact h
theorem home_asc {l k : Nat} {ps : List Str} (h : rPs l k ps) (m : Str) : ∀ s, homeO ps m = some s → asc s := fun s e => (rp_asc (h.2.2 s (homeO_mem e).1)).1
theorem rowAt_mem {m p : Str} {j : Nat} : ∀ {rows : List (List Str)} {i : Nat}, rowAt i rows m = some (j, p) → i ≤ j ∧ ∃ r, rows[j - i]? = some r ∧ homeO r m = some p
  | [], _, h => by cases h
  | r :: rows, i, h => by
    unfold rowAt at h
    cases e : homeO r m with
    | some q =>
      rw [e] at h
      cases h
      exact ⟨Nat.le_refl _, r, by rw [Nat.sub_self]; rfl, e⟩
    | none =>
      rw [e] at h
      obtain ⟨h1, r', h2, h3⟩ := rowAt_mem h
      refine ⟨by omega, r', ?_, h3⟩
      rw [show j - i = (j - (i + 1)) + 1 by omega, List.getElem?_cons_succ]
      exact h2
theorem rowAt_asc {rows : List (List Str)} (h : rRows rows) {i j : Nat} {m p : Str} (e : rowAt i rows m = some (j, p)) : asc p := by
  obtain ⟨_, r, h1, h2⟩ := rowAt_mem e
  exact home_asc (h.2.2 r (List.mem_of_getElem? h1)) m p h2
/-! rules without overlapping paths -/
theorem cov_two {p q m : Str} (h1 : cov p m = true) (h2 : cov q m = true) : ovl p q = true := by
  unfold ovl
  rw [cov_take, decide_eq_true_iff] at h1 h2
  rw [Bool.or_eq_true, cov_take, cov_take, decide_eq_true_iff, decide_eq_true_iff]
  rcases Nat.le_total (Txt.split p ".").length (Txt.split q ".").length with h | h
  · left
    rw [← h2, List.take_take, Nat.min_eq_left h]
    exact h1
  · right
    rw [← h1, List.take_take, Nat.min_eq_left h]
    exact h2
theorem ovlL_right {A B : List Str} (h : ovlL (A ++ B) = false) : ovlL B = false := by
  induction A with
  | nil => exact h
  | cons p A ih =>
    have h : (((A ++ B).any fun q => ovl q p) || ovlL (A ++ B)) = false := h
    exact ih (Bool.or_eq_false_iff.mp h).2
theorem ovlL_two {A B : List Str} (h : ovlL (A ++ B) = false) {p q : Str} (hp : p ∈ A) (hq : q ∈ B) : ovl q p = false := by
  induction A with
  | nil => cases hp
  | cons x A ih =>
    have h : (((A ++ B).any fun q => ovl q x) || ovlL (A ++ B)) = false := h
    obtain ⟨h1, h2⟩ := Bool.or_eq_false_iff.mp h
    rcases List.mem_cons.mp hp with rfl | hp
    · have := List.any_eq_false.mp h1 q (List.mem_append_right _ hq)
      simpa using this
    · exact ih h2 hp
theorem ovlL_inj {A : List Str} (h : ovlL A = false) {p q : Str} (hp : p ∈ A) (hq : q ∈ A) (ho : ovl p q = true) : p = q := by
  induction A with
  | nil => cases hp
  | cons x A ih =>
    have h : ((A.any fun q => ovl q x) || ovlL A) = false := h
    obtain ⟨h1, h2⟩ := Bool.or_eq_false_iff.mp h
    have key : ∀ z ∈ A, ovl z x = false := fun z hz => by simpa using List.any_eq_false.mp h1 z hz
    have sym : ∀ a b, ovl a b = ovl b a := fun a b => by unfold ovl; rw [Bool.or_comm]
    rcases List.mem_cons.mp hp with e | hp2 <;> rcases List.mem_cons.mp hq with e2 | hq2
    · rw [e, e2]
    · rw [e, sym, key q hq2] at ho; cases ho
    · rw [e2, key p hp2] at ho; cases ho
    · exact ih h2 hp2 hq2
theorem homeO_iff {A : List Str} (h : ovlL A = false) {p m : Str} (hp : p ∈ A) : homeO A m = some p ↔ cov p m = true := by
  constructor
  · exact fun e => (homeO_mem e).2
  · intro hc
    cases e : homeO A m with
    | none =>
      have := List.find?_eq_none.mp e p hp
      rw [hc] at this
      exact absurd rfl this
    | some q =>
      obtain ⟨h1, h2⟩ := homeO_mem e
      rw [ovlL_inj h h1 hp (cov_two h2 hc)]
theorem homeO_some {A : List Str} {p m : Str} (hp : p ∈ A) (hc : cov p m = true) : (homeO A m).isSome = true := by
  cases e : homeO A m with
  | none =>
    have := List.find?_eq_none.mp e p hp
    rw [hc] at this
    exact absurd rfl this
  | some q => rfl
def covIx (rows : List (List Str)) (m : Str) : List Nat := (List.range rows.length).filter fun i => (homeO (rows.getD i []) m).isSome
def covAt : Nat → List (List Str) → Str → List Nat
  | _, [], _ => []
  | i, r :: rows, m => if (homeO r m).isSome = true then i :: covAt (i + 1) rows m else covAt (i + 1) rows m
theorem covAt_eq (all : List (List Str)) (m : Str) : ∀ (rows : List (List Str)) (s : Nat), (∀ j, j < rows.length → all.getD (s + j) [] = rows.getD j []) → (List.range' s rows.length).filter (fun i => (homeO (all.getD i []) m).isSome) = covAt s rows m
  | [], _, _ => rfl
  | r :: rows, s, h => by
    rw [List.length_cons, List.range'_succ, List.filter_cons]
    have h0 : all.getD s [] = r := h 0 (by simp)
    rw [h0, covAt_eq all m rows (s + 1) fun j hj => by
      have := h (j + 1) (by simp; omega)
      rw [show s + 1 + j = s + (j + 1) by omega, this]
      rfl]
    rfl
theorem covIx_eq (rows : List (List Str)) (m : Str) : covIx rows m = covAt 0 rows m := by
  unfold covIx
  rw [List.range_eq_range']
  exact covAt_eq rows m rows 0 fun j _ => by rw [Nat.zero_add]
theorem covAt_nil {m p : Str} (hp : cov p m = true) : ∀ (rows : List (List Str)) (s : Nat), (∀ q ∈ rows.flatten, ovl q p = false) → covAt s rows m = [] ∧ rowAt s rows m = none
  | [], _, _ => ⟨rfl, rfl⟩
  | r :: rows, s, h => by
    obtain ⟨i1, i2⟩ := covAt_nil hp rows (s + 1) fun q hq => h q (by rw [List.flatten_cons]; exact List.mem_append_right _ hq)
    have e : homeO r m = none := by
      cases e : homeO r m with
      | none => rfl
      | some q =>
        obtain ⟨h1, h2⟩ := homeO_mem e
        have := h q (by rw [List.flatten_cons]; exact List.mem_append_left _ h1)
        rw [cov_two h2 hp] at this
        cases this
    unfold covAt rowAt
    rw [e]
    exact ⟨i1, i2⟩
theorem covAt_row {m : Str} : ∀ (rows : List (List Str)) (s : Nat), ovlL rows.flatten = false → covAt s rows m = match rowAt s rows m with | some (j, _) => [j] | none => []
  | [], _, _ => rfl
  | r :: rows, s, h => by
    rw [List.flatten_cons] at h
    unfold covAt rowAt
    cases e : homeO r m with
    | none => exact covAt_row rows (s + 1) (ovlL_right h)
    | some p =>
      obtain ⟨h1, h2⟩ := homeO_mem e
      rw [(covAt_nil h2 rows (s + 1) fun q hq => ovlL_two h h1 hq).1]
      rfl
theorem covIx_row {rows : List (List Str)} (h : ovlL rows.flatten = false) (m : Str) : covIx rows m = match rowAt 0 rows m with | some (j, _) => [j] | none => [] := by rw [covIx_eq]; exact covAt_row rows 0 h
theorem rowAt_one {rows : List (List Str)} (h : ovlL rows.flatten = false) {a b p : Str} {i j : Nat} (ha : rowAt 0 rows a = some (i, p)) (hb : rowAt 0 rows b = some (j, p)) : i = j := by
  obtain ⟨_, r, h1, h2⟩ := rowAt_mem ha
  obtain ⟨_, r', h3, h4⟩ := rowAt_mem hb
  rw [Nat.sub_zero] at h1 h3
  obtain ⟨m1, c1⟩ := homeO_mem h2
  obtain ⟨m2, c2⟩ := homeO_mem h4
  have : i ∈ covIx rows b := by
    unfold covIx
    rw [List.mem_filter, List.mem_range]
    refine ⟨(List.getElem?_eq_some_iff.mp h1).1, ?_⟩
    rw [List.getD_eq_getElem?_getD, h1]
    exact homeO_some m1 c2
  rw [covIx_row h, hb] at this
  simpa using this
/-! _law_bars -/
abbrev s__law_bars : Stmt := topS 49
theorem sc__law_bars : FnScope ["_law_rule", "_law_one", "_law_other", "_law_kind", "_law_paths", "_law_a", "_law_b", "_law_same_here", "_law_goal", "_law_inner", "_law_k"] ["_law_rule", "_law_one", "_law_other"] (defScope s__law_bars) := ⟨rfl, rfl, rfl, by decide +kernel, rfl, by decide +kernel, by decide +kernel⟩
def Sp__law_bars : DSp := fun _ ds f Q => ∃ (r : Rl) (a b : Str), ds = [r.d, .str a, .str b] ∧ r.form ∧ ovlL r.par = false ∧ r.wd ≠ "noring" ∧ asc a ∧ asc b ∧ Q (.bool (barB r a b)) f
set_option maxHeartbeats 2000000 in
theorem ok__law_bars (d : Df K mg "_law_bars" s__law_bars) (m_range : mg "range" = none) (m_len : mg "len" = none) (c__law_home : Cal P w K mg base 2 "_law_home" ["_law_paths", "_law_module"] Sp__law_home) (c__law_under : Cal P w K mg base 1 "_law_under" ["_law_path", "_law_other"] Sp__law_under) : Cal P w K mg base 3 "_law_bars" ["_law_rule", "_law_one", "_law_other"] Sp__law_bars := by
  obtain ⟨f, fd, F, m⟩ := d
  refine ⟨f, fd, dfn (k := 2) (S := Sp__law_bars) F sc__law_bars ?len (fun cdv A outer s H E hr => (dss_cons (ds_asg false (de_tup (da_cons (de_ix (de_v 0) de_int) (da_cons (de_ix (de_v 0) de_int) da_nil))) (dg_tup rfl (dgs_cons (dg_name (i := 3) sc__law_bars.nd) (dgs_cons (dg_name (i := 4) sc__law_bars.nd) dgs_nil))))
      (dss_cons (ds_if (dp_eq hr.units (de_v 3) de_str) (dss_one (ds_ret (de_and (de_notN (de_callC c__law_home (hr.mono (by decide)) (da_cons (de_v 4) (da_cons (de_v 1) da_nil))) de_non) (de_one (de_notN (de_callC c__law_home (hr.mono (by decide)) (da_cons (de_ix (de_v 0) de_int) (da_cons (de_v 2) da_nil))) de_non))))) dss_nil)
      (dss_cons (ds_if (dp_eq hr.units (de_v 3) de_str) (dss_cons (ds_set false (i := 8) sc__law_bars.nd (de_callC c__law_home (hr.mono (by decide)) (da_cons (de_v 4) (da_cons (de_v 2) da_nil))))
      (dss_one (ds_ret (de_and (de_notN (de_v 8) de_non) (de_one (de_isN (de_callC c__law_home (hr.mono (by decide)) (da_cons (de_add (de_tup (da_cons (de_v 8) da_nil)) (de_ix (de_v 0) de_int)) (da_cons (de_v 1) da_nil))) de_non)))))) dss_nil)
      (dss_cons (ds_if (dp_eq hr.units (de_v 3) de_str) (dss_cons (ds_set false (i := 9) sc__law_bars.nd (de_and (de_callC c__law_under (hr.mono (by decide)) (da_cons (de_v 4) (da_cons (de_v 2) da_nil))) (de_one (de_not (de_callC c__law_under (hr.mono (by decide)) (da_cons (de_v 4) (da_cons (de_v 1) da_nil)))))))
      (dss_one (ds_ret (de_and (de_v 9) (de_one (de_isN (de_callC c__law_home (hr.mono (by decide)) (da_cons (de_ix (de_v 0) de_int) (da_cons (de_v 2) da_nil))) de_non)))))) dss_nil)
      (dss_cons (ds_if (dp_eq hr.units (de_v 3) de_str) (dss_cons (ds_par false (i := 5) (j := 6) sc__law_bars.nd (de_callC c__law_home (hr.mono (by decide)) (da_cons (de_v 4) (da_cons (de_v 1) da_nil))) (de_callC c__law_home (hr.mono (by decide)) (da_cons (de_v 4) (da_cons (de_v 2) da_nil))))
      (dss_one (ds_ret (de_and (de_notN (de_v 5) de_non) (de_and (de_notN (de_v 6) de_non) (de_one (de_ne hr.units (de_v 5) (de_v 6)))))))) dss_nil)
      (dss_cons (ds_setLc (i := 5) (own := [("_law_k", 10)]) sc__law_bars.nd (di_range1 m_range (da_cons (de_len m_len (da_cons (de_v 4) da_nil)) da_nil)) (blkOk_by (own := [("_law_k", 10)]) (N := ["_law_rule", "_law_one", "_law_other", "_law_kind", "_law_paths", "_law_a", "_law_b", "_law_same_here", "_law_goal", "_law_inner", "_law_k"]) (sc := defScope s__law_bars) (by decide +kernel)) (fun _ _ _ _ _ => dg_name (i := 10) sc__law_bars.nd) (fun _ _ _ _ _ => dts_one (dp_notN (de_callC c__law_home (hr.mono (by decide)) (da_cons (de_ix (de_v 4) (de_v 10)) (da_cons (de_v 1) da_nil))) de_non)) (fun _ _ _ _ _ => (de_v 10)) (fun _ _ _ h => snd_set (m := false) (i := 5) h.e))
      (dss_cons (ds_setLc (i := 6) (own := [("_law_k", 10)]) sc__law_bars.nd (di_range1 m_range (da_cons (de_len m_len (da_cons (de_v 4) da_nil)) da_nil)) (blkOk_by (own := [("_law_k", 10)]) (N := ["_law_rule", "_law_one", "_law_other", "_law_kind", "_law_paths", "_law_a", "_law_b", "_law_same_here", "_law_goal", "_law_inner", "_law_k"]) (sc := defScope s__law_bars) (by decide +kernel)) (fun _ _ _ _ _ => dg_name (i := 10) sc__law_bars.nd) (fun _ _ _ _ _ => dts_one (dp_notN (de_callC c__law_home (hr.mono (by decide)) (da_cons (de_ix (de_v 4) (de_v 10)) (da_cons (de_v 2) da_nil))) de_non)) (fun _ _ _ _ _ => (de_v 10)) (fun _ _ _ h => snd_set (m := false) (i := 6) h.e))
      (dss_cons (ds_if (DW.p (dw_or (dp_notInS hr.units (de_v 3) (de_tup (da_cons de_str (da_cons de_str da_nil)))) (dw_or (dp_eq hr.units (de_v 5) (dl_lst da_nil).e) (dw_or1 (dp_eq hr.units (de_v 6) (dl_lst da_nil).e))))) (dss_one (ds_ret de_bl)) dss_nil)
      (dss_cons (ds_if (dp_eq hr.units (de_v 3) de_str) (dss_one (ds_ret (de_not (de_lele (de_ix (de_v 5) de_int) (de_ix (de_v 6) de_int) (de_add (de_ix (de_v 5) de_int) de_int))))) dss_nil)
      (dss_cons (ds_set false (i := 7) sc__law_bars.nd (de_and (de_eq hr.units (de_v 5) (de_v 6)) (de_one (de_eq hr.units (de_callC c__law_home (hr.mono (by decide)) (da_cons (de_ix (de_v 4) (de_ix (de_v 5) de_int)) (da_cons (de_v 1) da_nil))) (de_callC c__law_home (hr.mono (by decide)) (da_cons (de_ix (de_v 4) (de_ix (de_v 6) de_int)) (da_cons (de_v 2) da_nil)))))))
      (dss_one (ds_ret (de_and (de_not (de_v 7)) (de_one (de_le (de_ix (de_v 6) de_int) (de_ix (de_v 5) de_int))))))))))))))))) ?h, F.kp, F.binds fun _ _ _ _ _ _ us hl => match us, hl with | [_, _, _], _ => rfl, m⟩
  case len =>
    intro g ds n Q h; obtain ⟨_, _, _, rfl, _⟩ := h; rfl
  case h =>
    intro g ds n Q h
    obtain ⟨r, a, b, rfl, hr, ho, hw, ha, hb, q⟩ := h
    have T : ∀ {l k : Nat} {ps : List Str}, rPs l k ps → ∀ p ∈ ps, p.length ≤ 100000 := fun h p hp => Nat.le_trans (rp_asc (h.2.2 p hp)).2 (by decide)
    cases r with
    | forbid ss ts ch =>
      refine ⟨_, atI0, _, atI_nat (j := 1) rfl, show 2 ≤ lim by decide, ?_⟩
      have q : Q (.bool ((homeO ss a).isSome && (homeO ts b).isSome)) n := q
      show Exists _
      refine ⟨ss, a, rfl, T hr.1, ?_⟩
      cases h1 : homeO ss a with
      | none => rw [h1] at q; exact q
      | some p =>
        rw [h1] at q
        show Exists _
        refine ⟨_, atI_nat (j := 2) rfl, ts, b, rfl, T hr.2, ?_⟩
        cases h2 : homeO ts b with
        | none => rw [h2] at q; exact q
        | some p => rw [h2] at q; exact q
    | only ts us =>
      refine ⟨_, atI0, _, atI_nat (j := 1) rfl, show 2 ≤ lim by decide, ?_⟩
      have q : Q (.bool ((homeO ts b).isSome && (decide (homeO ts a ≠ homeO ts b) && (homeO us a).isNone))) n := q
      have ho : ovlL (ts ++ us) = false := ho
      show Exists _
      refine ⟨ts, b, rfl, T hr.1, ?_⟩
      cases h1 : homeO ts b with
      | none => rw [h1] at q; exact q
      | some p =>
        rw [h1] at q
        obtain ⟨hp, _⟩ := homeO_mem h1
        show _ ∧ _
        refine ⟨show 1 ≤ lim by decide, _, atI_nat (j := 2) rfl, ?_, ?_⟩
        · rw [List.length_map]; exact L1 (by have := hr.2.2.1; simp; omega)
        show Exists _
        refine ⟨p :: us, a, rfl, fun x hx => ?_, ?_⟩
        · rcases List.mem_cons.mp hx with rfl | hx
          · exact T hr.1 _ hp
          · exact T hr.2 x hx
        have e : homeO (p :: us) a = if cov p a = true then some p else homeO us a := by
          unfold homeO
          rw [List.find?_cons]
          cases cov p a <;> rfl
        rw [e]
        have e2 := homeO_iff (ovlL_pre ho) (m := a) hp
        cases h2 : cov p a with
        | true =>
          rw [decide_eq_false (fun h => h (e2.mpr h2))] at q
          exact q
        | false =>
          have h5 : homeO ts a ≠ some p := fun h => by rw [e2.mp h] at h2; cases h2
          rw [decide_eq_true h5] at q
          rw [if_neg Bool.false_ne_true]
          cases h3 : homeO us a with
          | none => rw [h3] at q; exact q
          | some p => rw [h3] at q; exact q
    | face p es =>
      refine ⟨_, atI0, _, atI_nat (j := 1) rfl, show 2 ≤ lim by decide, ?_⟩
      have q : Q (.bool (cov p b && (!cov p a && (homeO es b).isNone))) n := q
      have pl : p.length ≤ 100000 := Nat.le_trans (rp_asc hr.1).2 (by decide)
      show Exists _
      refine ⟨p, b, rfl, pl, ?_⟩
      cases h1 : cov p b with
      | false => rw [h1] at q; exact q
      | true =>
        rw [h1] at q
        show Exists _
        refine ⟨p, a, rfl, pl, ?_⟩
        cases h2 : cov p a with
        | true => rw [h2] at q; exact q
        | false =>
          rw [h2] at q
          show Exists _
          refine ⟨_, atI_nat (j := 2) rfl, es, b, rfl, T hr.2.1, ?_⟩
          cases h3 : homeO es b with
          | none => rw [h3] at q; exact q
          | some p => rw [h3] at q; exact q
    | apart ps ch =>
      refine ⟨_, atI0, _, atI_nat (j := 1) rfl, show 2 ≤ lim by decide, ?_⟩
      have q : Q (.bool ((homeO ps a).isSome && ((homeO ps b).isSome && decide (homeO ps a ≠ homeO ps b)))) n := q
      show Exists _
      refine ⟨ps, a, rfl, T hr, ps, b, rfl, T hr, ?_⟩
      cases h1 : homeO ps a with
      | none => rw [h1] at q; exact q
      | some p =>
        rw [h1] at q
        cases h2 : homeO ps b with
        | none => rw [h2] at q; exact q
        | some p' =>
          rw [h2] at q
          show oEq true (oD (some p)) (oD (some p')) (fun z => Q z n)
          refine oEq_oD (x := some p) (y := some p') (fun s e => by cases e; exact home_asc hr a p h1) (fun s e => by cases e; exact home_asc hr b p' h2) ?_
          by_cases h3 : p = p'
          · subst h3
            rw [decide_eq_false (fun h => h rfl)] at q
            rw [decide_eq_true rfl]
            exact q
          · have h4 : ¬ (some p = some p') := fun e => h3 (Option.some.inj e)
            rw [decide_eq_true h4] at q
            rw [decide_eq_false h4]
            exact q
    | layers rows ch =>
      refine ⟨_, atI0, _, atI_nat (j := 1) rfl, show 2 ≤ lim by decide, ?_⟩
      have q : Q (.bool (rowBar false (rowAt 0 rows a) (rowAt 0 rows b))) n := q
      have ho : ovlL rows.flatten = false := ho
      have hl5 : rows.length ≤ 5 := hr.2.1
      have el : (((rows.map tps).length : Int)).toNat = rows.length := by rw [List.length_map]; omega
      have lm : (rows.map tps).length = rows.length := List.length_map _
      have at_ : ∀ i, i < rows.length → atI (rows.map tps) ((0 : Int) + (i : Int)) = some (tps (rows.getD i [])) := fun i hi => by
        rw [Int.zero_add]
        exact atI_nat (by rw [List.getElem?_map, List.getD_eq_getElem?_getD, List.getElem?_eq_getElem hi]; rfl)
      have rl : ∀ i, i < rows.length → ∀ p ∈ rows.getD i [], p.length ≤ 100000 := fun i hi p hp => by
        rw [List.getD_eq_getElem?_getD, List.getElem?_eq_getElem hi] at hp
        exact T (hr.2.2 _ (List.getElem_mem hi)) p hp
      show _ ∧ _
      refine ⟨by omega, by omega, by rw [intsD_len, el]; exact L1 (by omega), ?_⟩
      rw [el]
      refine lcF (fun i : Nat => D.int (0 + (i : Int))) (fun i => (homeO (rows.getD i []) a).isSome) (List.range rows.length) _ (fun i hi => ⟨_, rfl, fun f Q q => ?_, fun _ f Q q => q⟩) ?_
      · have hi := List.mem_range.mp hi
        refine ⟨_, at_ i hi, rows.getD i [], a, rfl, rl i hi, ?_⟩
        cases e : homeO (rows.getD i []) a <;> (rw [e] at q; exact q)
      rw [show (List.range rows.length).filter (fun i => (homeO (rows.getD i []) a).isSome) = covIx rows a from rfl, covIx_row ho]
      show _ ∧ _
      refine ⟨by omega, by omega, by rw [intsD_len, el]; exact L1 (by omega), ?_⟩
      rw [el]
      refine lcF (fun i : Nat => D.int (0 + (i : Int))) (fun i => (homeO (rows.getD i []) b).isSome) (List.range rows.length) _ (fun i hi => ⟨_, rfl, fun f Q q => ?_, fun _ f Q q => q⟩) ?_
      · have hi := List.mem_range.mp hi
        refine ⟨_, at_ i hi, rows.getD i [], b, rfl, rl i hi, ?_⟩
        cases e : homeO (rows.getD i []) b <;> (rw [e] at q; exact q)
      rw [show (List.range rows.length).filter (fun i => (homeO (rows.getD i []) b).isSome) = covIx rows b from rfl, covIx_row ho]
      show _ ∧ _
      refine ⟨show 2 ≤ lim by decide, ["layers", "stairs"], rfl, rfl, ?_⟩
      rcases hA : rowAt 0 rows a with _ | ⟨i, p⟩
      · rw [hA] at q
        show _ ∧ _ ∧ _
        exact ⟨Nat.zero_le _, rfl, rfl, q⟩
      show _ ∧ _ ∧ _
      refine ⟨Nat.zero_le _, rfl, rfl, ?_⟩
      rcases hB : rowAt 0 rows b with _ | ⟨j, p'⟩
      · rw [hA, hB] at q
        show _ ∧ _ ∧ _
        exact ⟨Nat.zero_le _, rfl, rfl, q⟩
      show _ ∧ _ ∧ _
      refine ⟨Nat.zero_le _, rfl, rfl, ?_⟩
      rw [hA, hB] at q
      have hp : homeO (rows.getD i []) a = some p ∧ i < rows.length := by
        obtain ⟨_, r, h1, h2⟩ := rowAt_mem hA
        rw [Nat.sub_zero] at h1
        refine ⟨?_, (List.getElem?_eq_some_iff.mp h1).1⟩
        rw [List.getD_eq_getElem?_getD, h1]
        exact h2
      have hp' : homeO (rows.getD j []) b = some p' ∧ j < rows.length := by
        obtain ⟨_, r, h1, h2⟩ := rowAt_mem hB
        rw [Nat.sub_zero] at h1
        refine ⟨?_, (List.getElem?_eq_some_iff.mp h1).1⟩
        rw [List.getD_eq_getElem?_getD, h1]
        exact h2
      have q : Q (.bool (decide (p ≠ p') && decide (j ≤ i))) n := q
      have ele : decide (((0 : Int) + (j : Int)) ≤ (0 : Int) + (i : Int)) = decide (j ≤ i) := decide_eq_decide.mpr (by omega)
      show _ ∧ _ ∧ _
      refine ⟨rfl, rfl, ?_⟩
      generalize hc : PyData.eqv _ _ = c
      have hc2 : c = decide (i = j) := by
        rw [← hc]
        show ((((0 : Int) + (i : Int)) == ((0 : Int) + (j : Int))) && true) = _
        rw [Bool.and_true, Bool.beq_eq_decide_eq]
        exact decide_eq_decide.mpr (by omega)
      clear hc
      by_cases hij : i = j
      · rw [decide_eq_true hij] at hc2
        subst hc2
        show Exists _
        refine ⟨_, atI0, _, at_ i hp.2, rows.getD i [], a, rfl, rl i hp.2, _, atI0, _, at_ j hp'.2, rows.getD j [], b, rfl, rl j hp'.2, ?_⟩
        rw [hp.1, hp'.1]
        refine oEq_oD (x := some p) (y := some p') (fun s e => by cases e; exact rowAt_asc hr hA) (fun s e => by cases e; exact rowAt_asc hr hB) ?_
        by_cases h3 : p = p'
        · subst h3
          rw [decide_eq_false (fun h => h rfl)] at q
          rw [decide_eq_true rfl]
          exact q
        · have h4 : ¬ (some p = some p') := fun e => h3 (Option.some.inj e)
          rw [decide_eq_true h3] at q
          rw [decide_eq_false h4]
          show Exists _
          refine ⟨_, atI0, _, atI0, ?_⟩
          show Q (.bool (decide (((0 : Int) + (j : Int)) ≤ (0 : Int) + (i : Int)))) n
          rw [ele]
          exact q
      · rw [decide_eq_false hij] at hc2
        subst hc2
        have h3 : p ≠ p' := fun e => hij (rowAt_one ho hA (e ▸ hB))
        rw [decide_eq_true h3] at q
        show Exists _
        refine ⟨_, atI0, _, atI0, ?_⟩
        show Q (.bool (decide (((0 : Int) + (j : Int)) ≤ (0 : Int) + (i : Int)))) n
        rw [ele]
        exact q
    | stairs rows =>
      refine ⟨_, atI0, _, atI_nat (j := 1) rfl, show 2 ≤ lim by decide, ?_⟩
      have q : Q (.bool (rowBar true (rowAt 0 rows a) (rowAt 0 rows b))) n := q
      have ho : ovlL rows.flatten = false := ho
      have hl5 : rows.length ≤ 5 := hr.2.1
      have el : (((rows.map tps).length : Int)).toNat = rows.length := by rw [List.length_map]; omega
      have lm : (rows.map tps).length = rows.length := List.length_map _
      have at_ : ∀ i, i < rows.length → atI (rows.map tps) ((0 : Int) + (i : Int)) = some (tps (rows.getD i [])) := fun i hi => by
        rw [Int.zero_add]
        exact atI_nat (by rw [List.getElem?_map, List.getD_eq_getElem?_getD, List.getElem?_eq_getElem hi]; rfl)
      have rl : ∀ i, i < rows.length → ∀ p ∈ rows.getD i [], p.length ≤ 100000 := fun i hi p hp => by
        rw [List.getD_eq_getElem?_getD, List.getElem?_eq_getElem hi] at hp
        exact T (hr.2.2 _ (List.getElem_mem hi)) p hp
      show _ ∧ _
      refine ⟨by omega, by omega, by rw [intsD_len, el]; exact L1 (by omega), ?_⟩
      rw [el]
      refine lcF (fun i : Nat => D.int (0 + (i : Int))) (fun i => (homeO (rows.getD i []) a).isSome) (List.range rows.length) _ (fun i hi => ⟨_, rfl, fun f Q q => ?_, fun _ f Q q => q⟩) ?_
      · have hi := List.mem_range.mp hi
        refine ⟨_, at_ i hi, rows.getD i [], a, rfl, rl i hi, ?_⟩
        cases e : homeO (rows.getD i []) a <;> (rw [e] at q; exact q)
      rw [show (List.range rows.length).filter (fun i => (homeO (rows.getD i []) a).isSome) = covIx rows a from rfl, covIx_row ho]
      show _ ∧ _
      refine ⟨by omega, by omega, by rw [intsD_len, el]; exact L1 (by omega), ?_⟩
      rw [el]
      refine lcF (fun i : Nat => D.int (0 + (i : Int))) (fun i => (homeO (rows.getD i []) b).isSome) (List.range rows.length) _ (fun i hi => ⟨_, rfl, fun f Q q => ?_, fun _ f Q q => q⟩) ?_
      · have hi := List.mem_range.mp hi
        refine ⟨_, at_ i hi, rows.getD i [], b, rfl, rl i hi, ?_⟩
        cases e : homeO (rows.getD i []) b <;> (rw [e] at q; exact q)
      rw [show (List.range rows.length).filter (fun i => (homeO (rows.getD i []) b).isSome) = covIx rows b from rfl, covIx_row ho]
      show _ ∧ _
      refine ⟨show 2 ≤ lim by decide, ["layers", "stairs"], rfl, rfl, ?_⟩
      rcases hA : rowAt 0 rows a with _ | ⟨i, p⟩
      · rw [hA] at q
        show _ ∧ _ ∧ _
        exact ⟨Nat.zero_le _, rfl, rfl, q⟩
      show _ ∧ _ ∧ _
      refine ⟨Nat.zero_le _, rfl, rfl, ?_⟩
      rcases hB : rowAt 0 rows b with _ | ⟨j, p'⟩
      · rw [hA, hB] at q
        show _ ∧ _ ∧ _
        exact ⟨Nat.zero_le _, rfl, rfl, q⟩
      show _ ∧ _ ∧ _
      refine ⟨Nat.zero_le _, rfl, rfl, ?_⟩
      rw [hA, hB] at q
      have q : Q (.bool (!(decide (j = i) || decide (j = i + 1)))) n := q
      show Exists _
      refine ⟨_, atI0, _, atI0, ?_⟩
      show if decide (((0 : Int) + (i : Int)) ≤ (0 : Int) + (j : Int)) = true then _ else _
      by_cases h1 : i ≤ j
      · rw [decide_eq_true (show ((0 : Int) + (i : Int)) ≤ (0 : Int) + (j : Int) by omega)]
        refine iteT ?_
        show Exists _
        refine ⟨_, atI0, ?_⟩
        show Q (.bool (!decide (((0 : Int) + (j : Int)) ≤ (0 : Int) + (i : Int) + 1))) n
        have e : decide (((0 : Int) + (j : Int)) ≤ (0 : Int) + (i : Int) + 1) = (decide (j = i) || decide (j = i + 1)) := by
          rw [← Bool.decide_or]
          exact decide_eq_decide.mpr (by omega)
        rw [e]
        exact q
      · rw [decide_eq_false (show ¬ ((0 : Int) + (i : Int)) ≤ (0 : Int) + (j : Int) by omega)]
        rw [decide_eq_false (show ¬ j = i by omega), decide_eq_false (show ¬ j = i + 1 by omega)] at q
        exact iteF q
    | noring ps => exact absurd rfl hw
/-! evidence against a rule: rows of uses -/
def inU (us : List Us) (x : D) : Bool := us.any fun u => usEq u x
theorem inU_iff {us : List Us} {x : D} : inU us x = true ↔ ∃ u ∈ us, x = pairD u := by
  unfold inU
  rw [List.any_eq_true]
  exact ⟨fun ⟨u, h, e⟩ => ⟨u, h, usEq_iff.mp e⟩, fun ⟨u, h, e⟩ => ⟨u, h, usEq_iff.mpr e⟩⟩
theorem allU_pairs {us : List Us} : ∀ {xs : List D}, xs.all (inU us) = true → ∃ ws : List Us, xs = ws.map pairD ∧ ∀ w ∈ ws, w ∈ us
  | [], _ => ⟨[], rfl, by simp⟩
  | x :: xs, h => by
    rw [List.all_cons, Bool.and_eq_true] at h
    obtain ⟨u, hu, rfl⟩ := inU_iff.mp h.1
    obtain ⟨ws, rfl, hw⟩ := allU_pairs h.2
    exact ⟨u :: ws, rfl, fun w h => (List.mem_cons.mp h).elim (fun e => e ▸ hu) (hw w)⟩
def toU2 : D → Us
  | .tup [.str a, .str b] => (a, b)
  | _ => ("", "")
theorem toU2_pairs (ws : List Us) : (ws.map pairD).map toU2 = ws := by
  rw [List.map_map]
  exact List.map_id _
/-- the last one ahead -/
def rotR {α : Type} (l : List α) : List α := l.getLast?.toList ++ l.dropLast
def diffS (l : List Str) : Bool := decide ((ded l).length = l.length)
def evRing (ps : List Str) (ws : List Us) : Bool :=
  decide (2 ≤ ws.length) && ((ws.all fun w => (homeO ps w.1).isSome) && (diffS (ws.filterMap fun w => homeO ps w.1) && decide (rotR (ws.map fun w => homeO ps w.2) = ws.map fun w => homeO ps w.1)))
/-- the modules of a row of uses -/
def chU (w : Us) (ws : List Us) : List Str := w.1 :: (w :: ws).map (·.2)
def lastU (w : Us) (ws : List Us) : Us := (w :: ws).getLast (List.cons_ne_nil _ _)
def evChain (r : Rl) (w : Us) (ws : List Us) : Bool :=
  (decide (ws = []) || longB r) && (diffS (chU w ws) && (decide ((w :: ws).map (·.1) = (chU w ws).dropLast) && barB r w.1 (lastU w ws).2))
def evW : Rl → List Us → Bool
  | .noring ps, ws => evRing ps ws
  | _, [] => false
  | r, w :: ws => evChain r w ws
def evB (us : List Us) (r : Rl) : D → Bool
  | .tup xs => decide (0 < xs.length) && (xs.all (inU us) && evW r (xs.map toU2))
  | _ => false
/-- with the program's bound -/
def evP (us : List Us) (r : Rl) : D → Bool
  | .tup xs => (decide (0 < xs.length) && decide (xs.length < 24)) && (xs.all (inU us) && evW r (xs.map toU2))
  | _ => false
theorem diffS_iff {l : List Str} : diffS l = true ↔ l.Nodup := by
  unfold diffS
  rw [decide_eq_true_iff]
  constructor
  · intro h
    induction l with
    | nil => exact List.nodup_nil
    | cons x l ih =>
      have hs : ∀ y ∈ ded (x :: l), y ∈ x :: l := fun y hy => ded_mem.mp hy
      rw [List.nodup_cons]
      by_cases hx : x ∈ l
      · exfalso
        have h1 : (ded (x :: l)).length ≤ (ded l).length := by
          have sub : ∀ y ∈ ded (x :: l), y ∈ ded l := fun y hy => by
            have := ded_mem.mp hy
            rcases List.mem_cons.mp this with rfl | h
            · exact ded_mem.mpr hx
            · exact ded_mem.mpr h
          exact nodup_sub_len (ded_nodup (x :: l)) sub
        have := ded_len l
        rw [h, List.length_cons] at h1
        omega
      · refine ⟨hx, ih ?_⟩
        have p : (ded (x :: l)).Perm (x :: ded l) := perm_of_nodup (ded_nodup _) (List.nodup_cons.mpr ⟨fun z => hx (ded_mem.mp z), ded_nodup l⟩) fun y => by
          rw [ded_mem, List.mem_cons, List.mem_cons, ded_mem]
        have := p.length_eq
        rw [List.length_cons] at this
        rw [List.length_cons] at h
        omega
  · intro h
    exact (perm_of_nodup (ded_nodup l) h fun x => ded_mem).length_eq
theorem chain_len {ms : List Str} {l : List Str} (h : l.Nodup) (hs : ∀ x ∈ l, x ∈ ms) : l.length ≤ ms.length := nodup_sub_len h hs
theorem evP_eq {us : List Us} {ms : List Str} {r : Rl} (hu : ∀ u ∈ us, u.1 ∈ ms ∧ u.2 ∈ ms) (hm : ms.length ≤ 24) (hr : r.form) (v : D) : evP us r v = evB us r v := by
  cases v with
  | tup xs =>
    show ((decide (0 < xs.length) && decide (xs.length < 24)) && (xs.all (inU us) && evW r (xs.map toU2))) = (decide (0 < xs.length) && (xs.all (inU us) && evW r (xs.map toU2)))
    cases ha : xs.all (inU us) with
    | false => simp
    | true =>
      cases hw : evW r (xs.map toU2) with
      | false => simp
      | true =>
        obtain ⟨ws, rfl, hws⟩ := allU_pairs ha
        rw [toU2_pairs] at hw
        have key : ws.length < 24 := by
          have ring : ∀ ps : List Str, ps.length ≤ 20 → evRing ps ws = true → ws.length < 24 := fun ps hp h => by
            unfold evRing at h
            rw [Bool.and_eq_true, Bool.and_eq_true, Bool.and_eq_true] at h
            obtain ⟨h0, h1, h2, h3⟩ := h
            have nd := diffS_iff.mp h2
            have len : (ws.filterMap fun w => homeO ps w.1).length = ws.length := by
              clear hws ha hw h2 nd h0 h3
              induction ws with
              | nil => rfl
              | cons w ws ih =>
                rw [List.all_cons, Bool.and_eq_true] at h1
                obtain ⟨p, hp⟩ := Option.isSome_iff_exists.mp h1.1
                rw [List.filterMap_cons, hp]
                show _ + 1 = _ + 1
                rw [ih h1.2]
            have sub : ∀ x ∈ ws.filterMap (fun w => homeO ps w.1), x ∈ ps := fun x hx => by
              obtain ⟨w, _, e⟩ := List.mem_filterMap.mp hx
              exact (homeO_mem e).1
            have := chain_len nd sub
            omega
          have chn : r.wd ≠ "noring" → ws.length < 24 := fun hn => by
            cases ws with
            | nil => decide
            | cons w ws =>
              have h : evChain r w ws = true := by
                cases r <;> first | exact hw | exact absurd rfl hn
              unfold evChain at h
              rw [Bool.and_eq_true, Bool.and_eq_true, Bool.and_eq_true] at h
              obtain ⟨_, h1, h2, _⟩ := h
              have nd := diffS_iff.mp h1
              have sub : ∀ x ∈ chU w ws, x ∈ ms := fun x hx => by
                rcases List.mem_cons.mp hx with rfl | hx
                · exact (hu w (hws w (by simp))).1
                · obtain ⟨z, hz, rfl⟩ := List.mem_map.mp hx
                  exact (hu z (hws z hz)).2
              have := chain_len nd sub
              unfold chU at this
              rw [List.length_cons, List.length_map] at this
              omega
          cases r with
          | noring ps => exact ring ps (by have := hr.2.1; omega) hw
          | _ => exact chn (by simp only [Rl.wd]; decide +kernel)
        rw [decide_eq_true (show (ws.map pairD).length < 24 by rw [List.length_map]; exact key), Bool.and_true]
  | _ => rfl
/-- values of little depth that may be laid out -/
def lyO (x : D) : Prop := x.py.canLay0 = true ∧ x.py.depth ≤ 30
theorem lyO_str {s : Str} (h : asc s) : lyO (.str s) := by
  have := shaped_str h
  unfold SeqAt.shaped at this
  rw [Bool.and_eq_true] at this
  exact ⟨this.1, (by decide : (1 : Nat) ≤ 30) |> fun _ => Nat.zero_le _⟩
theorem lyO_oD {x : Option Str} (h : ∀ s, x = some s → asc s) : lyO (oD x) := by
  cases x with
  | none => exact ⟨rfl, Nat.zero_le _⟩
  | some s => exact lyO_str (h s rfl)
theorem lyO_list {l : List D} (h : ∀ x ∈ l, lyO x) : SeqAt.shaped (D.lst l).py = true := by
  have h1 : ∀ l : List D, (∀ x ∈ l, lyO x) → PyData.canLayAll0 (pyA l) = true ∧ PyData.depthAll (pyA l) ≤ 30 := by
    intro l
    induction l with
    | nil => exact fun _ => ⟨rfl, Nat.zero_le _⟩
    | cons x l ih =>
      intro h
      obtain ⟨i1, i2⟩ := ih fun y hy => h y (by simp [hy])
      obtain ⟨x1, x2⟩ := h x (by simp)
      refine ⟨?_, Nat.max_le.mpr ⟨x2, i2⟩⟩
      show (x.py.canLay0 && PyData.canLayAll0 (pyA l)) = true
      rw [x1, i1]; rfl
  obtain ⟨i1, i2⟩ := h1 l h
  unfold SeqAt.shaped
  show (PyData.canLayAll0 (pyA l) && decide (PyData.depth (.list (pyA l)) ≤ 64)) = true
  rw [i1]
  show (true && decide (PyData.depthAll (pyA l) + 1 ≤ 64)) = true
  rw [decide_eq_true (by omega)]; rfl
theorem shp_oDs {l : List (Option Str)} (h : ∀ x ∈ l, ∀ s, x = some s → asc s) : SeqAt.shaped (D.lst (l.map oD)).py = true := lyO_list fun x hx => by
  obtain ⟨o, ho, rfl⟩ := List.mem_map.mp hx
  exact lyO_oD (h o ho)
theorem any_none (l : List (Option Str)) : ((pyA (l.map oD)).any fun z => PyData.eqv z (D.none).py) = !(l.all fun o => o.isSome) := by
  induction l with
  | nil => rfl
  | cons o l ih =>
    show (PyData.eqv (oD o).py .none || _) = !(o.isSome && _)
    rw [ih]
    cases o <;> simp [oD, D.py, PyData.eqv]
theorem eqv_oDs (l m : List (Option Str)) : PyData.eqv (D.lst (l.map oD)).py (D.lst (m.map oD)).py = decide (l = m) := by
  have : ∀ l m : List (Option Str), PyData.eqvAll (pyA (l.map oD)) (pyA (m.map oD)) = decide (l = m) := by
    intro l
    induction l with
    | nil => intro m; cases m <;> rfl
    | cons a l ih =>
      intro m
      cases m with
      | nil => rfl
      | cons b m =>
        show (PyData.eqv (oD a).py (oD b).py && PyData.eqvAll (pyA (l.map oD)) (pyA (m.map oD))) = _
        rw [ih, eqv_oD, ← Bool.decide_and]
        exact decide_eq_decide.mpr ⟨fun ⟨h1, h2⟩ => by rw [h1, h2], fun h => by cases h; exact ⟨rfl, rfl⟩⟩
  exact this l m
theorem eqvLSe (l m : List Str) : PyData.eqv (D.lst (l.map D.str)).py (D.lst (m.map D.str)).py = decide (l = m) := by
  have : ∀ l m : List Str, PyData.eqvAll (pyA (l.map D.str)) (pyA (m.map D.str)) = decide (l = m) := by
    intro l
    induction l with
    | nil => intro m; cases m <;> rfl
    | cons a l ih =>
      intro m
      cases m with
      | nil => rfl
      | cons b m =>
        show ((a == b) && PyData.eqvAll (pyA (l.map D.str)) (pyA (m.map D.str))) = _
        rw [ih, Bool.beq_eq_decide_eq, ← Bool.decide_and]
        exact decide_eq_decide.mpr ⟨fun ⟨h1, h2⟩ => by rw [h1, h2], fun h => by cases h; exact ⟨rfl, rfl⟩⟩
  exact this l m
theorem all_some (l : List (Option Str)) (h : (l.all fun o => o.isSome) = true) : l.map oD = (l.filterMap id).map D.str ∧ (l.filterMap id).length = l.length := by
  induction l with
  | nil => exact ⟨rfl, rfl⟩
  | cons o l ih =>
    rw [List.all_cons, Bool.and_eq_true] at h
    obtain ⟨s, rfl⟩ := Option.isSome_iff_exists.mp h.1
    obtain ⟨i1, i2⟩ := ih h.2
    rw [List.filterMap_cons]
    exact ⟨congrArg (D.str s :: ·) i1, congrArg (· + 1) i2⟩
theorem cutD_last (xs : List D) : cutD xs (some (-1)) none = xs.getLast?.toList := by
  rcases List.eq_nil_or_concat xs with rfl | ⟨l, x, rfl⟩
  · rfl
  · rw [List.concat_eq_append]
    have e1 : HT.sIx (l ++ [x]).length 0 (some (-1)) = l.length := by
      unfold HT.sIx
      rw [List.length_append, List.length_singleton]
      simp
      omega
    have e2 : HT.sIx (l ++ [x]).length (l ++ [x]).length none = (l ++ [x]).length := rfl
    unfold cutD
    rw [e1, e2, List.length_append, List.length_singleton]
    simp
def rowU (w : Us) (ws : List Us) : List Str := (w :: ws).map (·.1) ++ [(lastU w ws).2]
theorem lastU_app (w : Us) (ws : List Us) : ((w :: ws).map (·.2)).dropLast ++ [(lastU w ws).2] = (w :: ws).map (·.2) := by
  have e : (lastU w ws).2 = ((w :: ws).map (·.2)).getLast (by simp) := by
    unfold lastU
    rw [List.getLast_map]
  rw [e, List.dropLast_concat_getLast]
theorem evChain_row (r : Rl) (w : Us) (ws : List Us) : evChain r w ws = ((decide (ws = []) || longB r) && (diffS (rowU w ws) && (decide (((w :: ws).map (·.2)).dropLast = ((w :: ws).map (·.1)).drop 1) && barB r w.1 (lastU w ws).2))) := by
  have ech : chU w ws = w.1 :: (w :: ws).map (·.2) := rfl
  have edl : (chU w ws).dropLast = w.1 :: ((w :: ws).map (·.2)).dropLast := by
    rw [ech]
    exact List.dropLast_cons_of_ne_nil (by simp)
  have e1 : decide ((w :: ws).map (·.1) = (chU w ws).dropLast) = decide (((w :: ws).map (·.2)).dropLast = ((w :: ws).map (·.1)).drop 1) := by
    refine decide_eq_decide.mpr ?_
    rw [edl]
    show w.1 :: ws.map (·.1) = w.1 :: _ ↔ _ = ws.map (·.1)
    rw [List.cons.injEq]
    exact ⟨fun h => h.2.symm, fun h => ⟨rfl, h.symm⟩⟩
  unfold evChain
  rw [e1]
  by_cases h : ((w :: ws).map (·.2)).dropLast = ((w :: ws).map (·.1)).drop 1
  · have : rowU w ws = chU w ws := by
      unfold rowU
      rw [ech, ← lastU_app w ws, h]
      rfl
    rw [this]
  · rw [decide_eq_false h]
    simp
/-! is_ring_of -/
abbrev s_is_ring_of : Stmt := topS 18
theorem sc_is_ring_of : FnScope ["paths", "value", "begins", "ends", "user", "used"] ["paths", "value"] (defScope s_is_ring_of) := ⟨rfl, rfl, rfl, by decide +kernel, rfl, by decide +kernel, by decide +kernel⟩
def Sp_is_ring_of : DSp := fun _ ds f Q => ∃ (ps : List Str) (ws : List Us), ds = [tps ps, .tup (ws.map pairD)] ∧ (∀ p ∈ ps, asc p ∧ p.length ≤ 1000) ∧ ws.length ≤ 3000 ∧ Q (.bool (evRing ps ws)) f
set_option maxHeartbeats 2000000 in
theorem ok_is_ring_of (d : Df K mg "is_ring_of" s_is_ring_of) (m_len : mg "len" = none) (m_set : mg "set" = none) (c_covered : Cal P w K mg base 2 "covered" ["paths", "path"] Sp_covered) : Cal P w K mg base 3 "is_ring_of" ["paths", "value"] Sp_is_ring_of := by
  obtain ⟨f, fd, F, m⟩ := d
  refine ⟨f, fd, dfn (k := 2) (S := Sp_is_ring_of) F sc_is_ring_of ?len (fun cdv A outer s H E hr => (dss_cons (ds_setLc (i := 2) (own := [("user", 4), ("used", 5)]) sc_is_ring_of.nd (di_seq (de_v 1)) (blkOk_by (own := [("user", 4), ("used", 5)]) (N := ["paths", "value", "begins", "ends", "user", "used"]) (sc := defScope s_is_ring_of) (by decide +kernel)) (fun _ _ _ _ _ => dg_tup rfl (dgs_cons (dg_name (i := 4) sc_is_ring_of.nd) (dgs_cons (dg_name (i := 5) sc_is_ring_of.nd) dgs_nil))) (fun _ _ _ _ _ => dts_nil) (fun _ _ _ _ _ => (de_callC c_covered (hr.mono (by decide)) (da_cons (de_v 0) (da_cons (de_v 4) da_nil)))) (fun _ _ _ h => snd_set (m := false) (i := 2) h.e))
      (dss_cons (ds_setLc (i := 3) (own := [("user", 4), ("used", 5)]) sc_is_ring_of.nd (di_seq (de_v 1)) (blkOk_by (own := [("user", 4), ("used", 5)]) (N := ["paths", "value", "begins", "ends", "user", "used"]) (sc := defScope s_is_ring_of) (by decide +kernel)) (fun _ _ _ _ _ => dg_tup rfl (dgs_cons (dg_name (i := 4) sc_is_ring_of.nd) (dgs_cons (dg_name (i := 5) sc_is_ring_of.nd) dgs_nil))) (fun _ _ _ _ _ => dts_nil) (fun _ _ _ _ _ => (de_callC c_covered (hr.mono (by decide)) (da_cons (de_v 0) (da_cons (de_v 5) da_nil)))) (fun _ _ _ h => snd_set (m := false) (i := 3) h.e))
      (dss_cons (ds_if (DW.p (dw_or (dp_lt (de_len m_len (da_cons (de_v 1) da_nil)) de_int) (dw_or (dp_in hr de_non (de_v 2)) (dw_or1 (dp_ne hr.units (de_lenZ m_len m_set (de_v 2)) (de_len m_len (da_cons (de_v 2) da_nil))))))) (dss_one (ds_ret de_bl)) dss_nil)
      (dss_one (ds_ret (de_eq hr.units (de_add (de_sl (de_v 3) (do_some (de_neg de_int)) do_none) (de_sl (de_v 3) do_none (do_some (de_neg de_int)))) (de_v 2)))))))) ?h, F.kp, F.binds fun _ _ _ _ _ _ us hl => match us, hl with | [_, _], _ => rfl, m⟩
  case len =>
    intro g ds n Q h; obtain ⟨_, _, rfl, _⟩ := h; rfl
  case h =>
    intro g ds n Q h
    obtain ⟨ps, ws, rfl, hp, hl, q⟩ := h
    have hp' : ∀ p ∈ ps, p.length ≤ 100000 := fun p h => Nat.le_trans (hp p h).2 (by decide)
    have lw : (ws.map pairD).length ≤ lim := by rw [List.length_map]; exact L1 (by omega)
    refine ⟨lw, ?_⟩
    refine lcM pairD oD (fun v => homeO ps v.1) ws _ (fun v hv => ⟨_, rfl, fun f Q q => ⟨ps, v.1, .inl rfl, hp', by rw [covd_eq]; exact q⟩⟩) ?_
    refine ⟨lw, ?_⟩
    refine lcM pairD oD (fun v => homeO ps v.2) ws _ (fun v hv => ⟨_, rfl, fun f Q q => ⟨ps, v.2, .inl rfl, hp', by rw [covd_eq]; exact q⟩⟩) ?_
    have ln : (ws.map pairD).length = ws.length := List.length_map _
    show if decide (((ws.map pairD).length : Int) < 2) = true then _ else _
    by_cases h2 : ws.length < 2
    · rw [decide_eq_true (by rw [ln]; omega)]
      have e : evRing ps ws = false := by unfold evRing; rw [decide_eq_false (by omega)]; rfl
      rw [e] at q
      exact q
    rw [decide_eq_false (by rw [ln]; omega)]
    refine iteF ?_
    have ab : ∀ x ∈ ws.map (fun v => homeO ps v.1), ∀ s, x = some s → asc s := fun x hx s e => by
      obtain ⟨v, _, rfl⟩ := List.mem_map.mp hx
      exact (hp s (homeO_mem e).1).1
    have ae : ∀ x ∈ ws.map (fun v => homeO ps v.2), ∀ s, x = some s → asc s := fun x hx s e => by
      obtain ⟨v, _, rfl⟩ := List.mem_map.mp hx
      exact (hp s (homeO_mem e).1).1
    refine ⟨rfl, shp_oDs ab, ?_⟩
    rw [any_none]
    unfold evRing at q
    rw [decide_eq_true (by omega : 2 ≤ ws.length), Bool.true_and] at q
    have ea : (ws.all fun w => (homeO ps w.1).isSome) = ((ws.map fun v => homeO ps v.1).all fun o => o.isSome) := by rw [List.all_map]; rfl
    have ef : (ws.filterMap fun w => homeO ps w.1) = (ws.map fun v => homeO ps v.1).filterMap id := by rw [List.filterMap_map]; rfl
    rw [ea, ef] at q
    have lb : (ws.map fun v => homeO ps v.1).length = ws.length := List.length_map _
    have le : (ws.map fun v => homeO ps v.2).length = ws.length := List.length_map _
    generalize (ws.map fun v => homeO ps v.1) = B at *
    generalize (ws.map fun v => homeO ps v.2) = E at *
    cases hB : B.all fun o => o.isSome with
    | false => rw [hB] at q; exact q
    | true =>
      rw [hB, Bool.true_and] at q
      obtain ⟨e1, e2⟩ := all_some B hB
      show Exists _
      refine ⟨B.filterMap id, .inl (congrArg D.lst e1), by omega, ?_⟩
      show if (xb true (decide ((((ded (B.filterMap id)).length : Nat) : Int) = (((B.map oD).length : Nat) : Int)))) = true then _ else _
      have ec : decide ((((ded (B.filterMap id)).length : Nat) : Int) = (((B.map oD).length : Nat) : Int)) = diffS (B.filterMap id) := by
        unfold diffS
        rw [List.length_map, e2]
        exact decide_eq_decide.mpr Int.ofNat_inj
      rw [ec]
      cases hd : diffS (B.filterMap id) with
      | false => rw [hd] at q; exact q
      | true =>
        rw [hd, Bool.true_and] at q
        have c1 : cutD (E.map oD) (some (-1)) none = E.getLast?.toList.map oD := by
          rw [cutD_last, List.getLast?_map]
          cases E.getLast? <;> rfl
        have c2 : cutD (E.map oD) none (some (-1)) = E.dropLast.map oD := by rw [cutD_init, List.map_dropLast]
        have hr : ∀ x ∈ rotR E, x ∈ E := fun x hx => by
          rcases List.mem_append.mp hx with h | h
          · exact List.mem_of_getLast? (by simpa using h)
          · exact List.dropLast_subset E h
        have lr : (cutD (E.map oD) (some (-1)) none).length + (cutD (E.map oD) none (some (-1))).length ≤ lim := by
          rw [c1, c2, List.length_map, List.length_map, List.length_dropLast]
          have : E.getLast?.toList.length ≤ 1 := by cases E.getLast? <;> simp
          exact L1 (by omega)
        show _ ∧ _
        refine ⟨lr, ?_⟩
        have ea : cutD (E.map oD) (some (-1)) none ++ cutD (E.map oD) none (some (-1)) = (rotR E).map oD := by rw [c1, c2, ← List.map_append]; rfl
        rw [ea]
        show oEq false (D.lst ((rotR E).map oD)) (D.lst (B.map oD)) (fun z => Q z n)
        refine oEq_data (shp_oDs fun x hx => ae x (hr x hx)) (shp_oDs ab) ?_
        rw [eqv_oDs]
        exact q
/-! is_chained -/
abbrev s_is_chained : Stmt := topS 14
theorem sc_is_chained : FnScope ["rule"] ["rule"] (defScope s_is_chained) := ⟨rfl, rfl, rfl, by decide +kernel, rfl, by decide +kernel, by decide +kernel⟩
def Sp_is_chained : DSp := fun _ ds f Q => ∃ (r : Rl), ds = [r.d] ∧ r.form ∧ Q (.bool (longB r)) f
set_option maxHeartbeats 2000000 in
theorem ok_is_chained (d : Df K mg "is_chained" s_is_chained) : Cal P w K mg base 1 "is_chained" ["rule"] Sp_is_chained := by
  obtain ⟨f, fd, F, m⟩ := d
  refine ⟨f, fd, dfn (k := 0) (S := Sp_is_chained) F sc_is_chained ?len (fun cdv A outer s H E hr => (dss_one (ds_ret (de_and (de_in hr (de_ix (de_v 0) de_int) (de_tup (da_cons de_str (da_cons de_str (da_cons de_str da_nil))))) (de_one (de_eq hr.units (de_ix (de_v 0) (de_neg de_int)) de_str)))))) ?h, F.kp, F.binds fun _ _ _ _ _ _ us hl => match us, hl with | [_], _ => rfl, m⟩
  case len =>
    intro g ds n Q h; obtain ⟨_, rfl, _⟩ := h; rfl
  case h =>
    intro g ds n Q h
    obtain ⟨r, rfl, hr, q⟩ := h
    have aw : asc r.wd := by cases r <;> (simp only [Rl.wd]; decide +kernel)
    refine ⟨_, atI0, show 3 ≤ lim by decide, oIn_strs (l := ["forbid", "layers", "apart"]) (by decide +kernel) aw ?_⟩
    cases r with
    | forbid ss ts ch => exact iteT ⟨.str (howS ch), rfl, by cases ch <;> exact q⟩
    | layers rows ch => exact iteT ⟨.str (howS ch), rfl, by cases ch <;> exact q⟩
    | apart ps ch => exact iteT ⟨.str (howS ch), rfl, by cases ch <;> exact q⟩
    | _ => exact q
/-! is_barred -/
abbrev s_is_barred : Stmt := topS 17
theorem sc_is_barred : FnScope ["rule", "one", "other"] ["rule", "one", "other"] (defScope s_is_barred) := ⟨rfl, rfl, rfl, by decide +kernel, rfl, by decide +kernel, by decide +kernel⟩
def Sp_is_barred : DSp := fun _ ds f Q => ∃ (r : Rl) (a b : Str), ds = [r.d, placeR r a, placeR r b] ∧ r.form ∧ r.wd ≠ "noring" ∧ Q (.bool (barB r a b)) f
set_option maxHeartbeats 2000000 in
theorem ok_is_barred (d : Df K mg "is_barred" s_is_barred) : Cal P w K mg base 1 "is_barred" ["rule", "one", "other"] Sp_is_barred := by
  obtain ⟨f, fd, F, m⟩ := d
  refine ⟨f, fd, dfn (k := 0) (S := Sp_is_barred) F sc_is_barred ?len (fun cdv A outer s H E hr => (dss_cons (ds_if (dp_eq hr.units (de_ix (de_v 0) de_int) de_str) (dss_one (ds_ret (de_and (de_notN (de_ix (de_v 1) de_int) de_non) (de_one (de_notN (de_ix (de_v 2) de_int) de_non))))) dss_nil)
      (dss_cons (ds_if (dp_eq hr.units (de_ix (de_v 0) de_int) de_str) (dss_one (ds_ret (de_and (de_notN (de_ix (de_v 2) de_int) de_non) (de_and (de_ne hr.units (de_ix (de_v 1) de_int) (de_ix (de_v 2) de_int)) (de_one (de_isN (de_ix (de_v 1) de_int) de_non)))))) dss_nil)
      (dss_cons (ds_if (dp_eq hr.units (de_ix (de_v 0) de_int) de_str) (dss_one (ds_ret (de_and (de_notN (de_ix (de_v 2) de_int) de_non) (de_and (de_isN (de_ix (de_v 1) de_int) de_non) (de_one (de_isN (de_ix (de_v 2) de_int) de_non)))))) dss_nil)
      (dss_cons (ds_if (DW.p (dw_or (dp_isN (de_ix (de_v 1) de_int) de_non) (dw_or1 (dp_isN (de_ix (de_v 2) de_int) de_non)))) (dss_one (ds_ret de_bl)) dss_nil)
      (dss_cons (ds_if (dp_eq hr.units (de_ix (de_v 0) de_int) de_str) (dss_one (ds_ret (de_notIn hr (de_ix (de_v 2) de_int) (de_tup (da_cons (de_ix (de_v 1) de_int) (da_cons (de_add (de_ix (de_v 1) de_int) de_int) da_nil)))))) dss_nil)
      (dss_one (ds_ret (de_and (de_ne hr.units (de_ix (de_v 1) de_int) (de_ix (de_v 2) de_int)) (de_one (de_or (de_eq hr.units (de_ix (de_v 0) de_int) de_str) (de_one (de_le (de_ix (de_v 2) de_int) (de_ix (de_v 1) de_int)))))))))))))) ?h, F.kp, F.binds fun _ _ _ _ _ _ us hl => match us, hl with | [_, _, _], _ => rfl, m⟩
  case len =>
    intro g ds n Q h; obtain ⟨_, _, _, rfl, _⟩ := h; rfl
  case h =>
    intro g ds n Q h
    obtain ⟨r, a, b, rfl, hr, hw, q⟩ := h
    refine ⟨_, atI0, ?_⟩
    cases r with
    | forbid ss ts ch =>
      simp only [placeR, barB] at q ⊢
      show Exists _
      refine ⟨_, atI0, ?_⟩
      cases h1 : homeO ss a with
      | none => rw [h1] at q; exact q
      | some p =>
        rw [h1] at q
        show Exists _
        refine ⟨_, atI_nat (j := 1) rfl, ?_⟩
        cases h2 : homeO ts b with
        | none => rw [h2] at q; exact q
        | some p => rw [h2] at q; exact q
    | only ts us =>
      simp only [placeR, barB] at q ⊢
      show Exists _
      refine ⟨_, atI0, ?_⟩
      show Exists _
      refine ⟨_, atI0, ?_⟩
      cases h1 : homeO ts b with
      | none => rw [h1] at q; exact q
      | some p =>
        rw [h1] at q
        show Exists _
        refine ⟨_, atI0, ?_⟩
        show Exists _
        refine ⟨_, atI0, ?_⟩
        refine oEq_oD (x := homeO ts a) (y := some p) (home_asc hr.1 a) (fun s e => by cases e; exact home_asc hr.1 b p h1) ?_
        by_cases h2 : homeO ts a = some p
        · rw [decide_eq_false (fun h => h h2)] at q
          rw [decide_eq_true h2]
          exact q
        · rw [decide_eq_true h2] at q
          rw [decide_eq_false h2]
          show Exists _
          refine ⟨_, atI_nat (j := 1) rfl, ?_⟩
          cases h3 : homeO us a with
          | none => rw [h3] at q; exact q
          | some p => rw [h3] at q; exact q
    | face p es =>
      simp only [placeR, barB] at q ⊢
      have hc : ∀ m, homeO [p] m = if cov p m = true then some p else none := fun m => by
        unfold homeO
        rw [List.find?_cons]
        cases cov p m <;> rfl
      rw [hc a, hc b]
      show Exists _
      refine ⟨_, atI0, ?_⟩
      show Exists _
      refine ⟨_, atI0, ?_⟩
      show Exists _
      refine ⟨_, atI0, ?_⟩
      cases h1 : cov p b with
      | false => rw [h1] at q; exact q
      | true =>
        rw [h1] at q
        show Exists _
        refine ⟨_, atI0, ?_⟩
        cases h2 : cov p a with
        | true => rw [h2] at q; exact q
        | false =>
          rw [h2] at q
          show Exists _
          refine ⟨_, atI_nat (j := 1) rfl, ?_⟩
          cases h3 : homeO es b with
          | none => rw [h3] at q; exact q
          | some p => rw [h3] at q; exact q
    | layers rows ch =>
      simp only [placeR, barB] at q ⊢
      have ha : ∀ i p, rowAt 0 rows a = some (i, p) → asc p := fun i p e => rowAt_asc hr e
      have hb : ∀ i p, rowAt 0 rows b = some (i, p) → asc p := fun i p e => rowAt_asc hr e
      generalize rowAt 0 rows a = x at *
      generalize rowAt 0 rows b = y at *
      rcases x with _ | ⟨i, p⟩
      · show Exists _
        refine ⟨_, atI0, ?_⟩
        show Exists _
        refine ⟨_, atI0, ?_⟩
        show Exists _
        refine ⟨_, atI_nat (j := 1) rfl, ?_⟩
        exact q
      rcases y with _ | ⟨j, p'⟩
      · show Exists _
        refine ⟨_, atI0, ?_⟩
        show Exists _
        refine ⟨_, atI0, ?_⟩
        show Exists _
        refine ⟨_, atI_nat (j := 1) rfl, ?_⟩
        show Exists _
        refine ⟨_, atI_nat (j := 1) rfl, ?_⟩
        exact q
      show Exists _
      refine ⟨_, atI0, ?_⟩
      show Exists _
      refine ⟨_, atI0, ?_⟩
      show Exists _
      refine ⟨_, atI_nat (j := 1) rfl, ?_⟩
      show Exists _
      refine ⟨_, atI_nat (j := 1) rfl, ?_⟩
      show Exists _
      refine ⟨_, atI0, ?_⟩
      show Exists _
      refine ⟨_, atI_nat (j := 1) rfl, ?_⟩
      show Exists _
      refine ⟨_, atI_nat (j := 1) rfl, ?_⟩
      refine oEq_oD (x := some p) (y := some p') (fun s e => by cases e; exact ha i p rfl) (fun s e => by cases e; exact hb j p' rfl) ?_
      have q : Q (.bool (decide (p ≠ p') && decide (j ≤ i))) n := q
      by_cases h3 : p = p'
      · subst h3
        rw [decide_eq_false (fun h => h rfl)] at q
        rw [decide_eq_true rfl]
        exact q
      · rw [decide_eq_true h3] at q
        rw [decide_eq_false (fun e : some p = some p' => h3 (Option.some.inj e))]
        show Exists _
        refine ⟨_, atI0, ?_⟩
        show Exists _
        refine ⟨_, atI0, ?_⟩
        show Exists _
        refine ⟨_, atI0, ?_⟩
        show Q (.bool (decide ((j : Int) ≤ (i : Int)))) n
        rw [show decide ((j : Int) ≤ (i : Int)) = decide (j ≤ i) from decide_eq_decide.mpr Int.ofNat_le]
        exact q
    | stairs rows =>
      simp only [placeR, barB] at q ⊢
      generalize rowAt 0 rows a = x at *
      generalize rowAt 0 rows b = y at *
      rcases x with _ | ⟨i, p⟩
      · show Exists _
        refine ⟨_, atI0, ?_⟩
        show Exists _
        refine ⟨_, atI0, ?_⟩
        show Exists _
        refine ⟨_, atI_nat (j := 1) rfl, ?_⟩
        exact q
      rcases y with _ | ⟨j, p'⟩
      · show Exists _
        refine ⟨_, atI0, ?_⟩
        show Exists _
        refine ⟨_, atI0, ?_⟩
        show Exists _
        refine ⟨_, atI_nat (j := 1) rfl, ?_⟩
        show Exists _
        refine ⟨_, atI_nat (j := 1) rfl, ?_⟩
        exact q
      show Exists _
      refine ⟨_, atI0, ?_⟩
      show Exists _
      refine ⟨_, atI0, ?_⟩
      show Exists _
      refine ⟨_, atI_nat (j := 1) rfl, ?_⟩
      show Exists _
      refine ⟨_, atI_nat (j := 1) rfl, ?_⟩
      show Exists _
      refine ⟨_, atI0, ?_⟩
      show Exists _
      refine ⟨_, atI0, ?_⟩
      show Exists _
      refine ⟨_, atI0, ?_⟩
      show Exists _
      refine ⟨_, atI0, ?_⟩
      show _ ∧ _
      refine ⟨show 2 ≤ lim by decide, ?_⟩
      have e : ((pyA [D.int i, .int ((i : Int) + 1)]).any fun z => PyData.eqv z (D.int j).py) = (decide (j = i) || decide (j = i + 1)) := by
        show (((i : Int) == (j : Int)) || ((((i : Int) + 1) == (j : Int)) || false)) = _
        rw [Bool.beq_eq_decide_eq, Bool.beq_eq_decide_eq, Bool.or_false]
        congr 1
        · exact decide_eq_decide.mpr ⟨fun h => by omega, fun h => by omega⟩
        · exact decide_eq_decide.mpr ⟨fun h => by omega, fun h => by omega⟩
      refine ⟨rfl, rfl, ?_⟩
      rw [e]
      exact q
    | apart ps ch =>
      simp only [placeR, barB] at q ⊢
      show Exists _
      refine ⟨_, atI0, ?_⟩
      show Exists _
      refine ⟨_, atI0, ?_⟩
      show Exists _
      refine ⟨_, atI_nat (j := 1) rfl, ?_⟩
      cases h1 : homeO ps a with
      | none => rw [h1] at q; exact q
      | some p =>
        rw [h1] at q
        show Exists _
        refine ⟨_, atI_nat (j := 1) rfl, ?_⟩
        cases h2 : homeO ps b with
        | none => rw [h2] at q; exact q
        | some p' =>
          rw [h2] at q
          show Exists _
          refine ⟨_, atI0, ?_⟩
          show Exists _
          refine ⟨_, atI_nat (j := 1) rfl, ?_⟩
          show Exists _
          refine ⟨_, atI_nat (j := 1) rfl, ?_⟩
          refine oEq_oD (x := some p) (y := some p') (fun s e => by cases e; exact home_asc hr a p h1) (fun s e => by cases e; exact home_asc hr b p' h2) ?_
          by_cases h3 : p = p'
          · subst h3
            rw [decide_eq_false (fun h => h rfl)] at q
            rw [decide_eq_true rfl]
            exact q
          · have h4 : ¬ (some p = some p') := fun e => h3 (Option.some.inj e)
            rw [decide_eq_true h4] at q
            rw [decide_eq_false h4]
            show Exists _
            refine ⟨_, atI0, ?_⟩
            exact q
    | noring ps => exact absurd rfl hw
/-! place_of -/
abbrev s_place_of : Stmt := topS 16
theorem sc_place_of : FnScope ["rule", "module", "index", "row", "path"] ["rule", "module"] (defScope s_place_of) := ⟨rfl, rfl, rfl, by decide +kernel, rfl, by decide +kernel, by decide +kernel⟩
def emRow (p : List Str × Nat) : D := .tup [.int p.2, tps p.1]
theorem enum_rows (rows : List (List Str)) : enumD (rows.map tps) = (rows.zipIdx 0).map emRow := by
  unfold enumD
  rw [List.mapIdx_eq_zipIdx_map, List.zipIdx_map, List.map_map]
  rfl
def Sp_place_of : DSp := fun _ ds f Q => ∃ (r : Rl) (m : Str), ds = [r.d, .str m] ∧ r.form ∧ Q (placeR r m) f
set_option maxHeartbeats 2000000 in
theorem ok_place_of (d : Df K mg "place_of" s_place_of) (m_enumerate : mg "enumerate" = none) (c_covered : Cal P w K mg base 2 "covered" ["paths", "path"] Sp_covered) : Cal P w K mg base 3 "place_of" ["rule", "module"] Sp_place_of := by
  obtain ⟨f, fd, F, m⟩ := d
  refine ⟨f, fd, dfn (k := 2) (S := Sp_place_of) F sc_place_of ?len (fun cdv A outer s H E hr => (dss_cons (ds_if (dp_in hr (de_ix (de_v 0) de_int) (de_tup (da_cons de_str (da_cons de_str da_nil)))) (dss_one (ds_ret (de_tup (da_cons (de_callC c_covered (hr.mono (by decide)) (da_cons (de_ix (de_v 0) de_int) (da_cons (de_v 1) da_nil))) (da_cons (de_callC c_covered (hr.mono (by decide)) (da_cons (de_ix (de_v 0) de_int) (da_cons (de_v 1) da_nil))) da_nil))))) dss_nil)
      (dss_cons (ds_if (dp_eq hr.units (de_ix (de_v 0) de_int) de_str) (dss_one (ds_ret (de_tup (da_cons (de_callC c_covered (hr.mono (by decide)) (da_cons (de_tup (da_cons (de_ix (de_v 0) de_int) da_nil)) (da_cons (de_v 1) da_nil))) (da_cons (de_callC c_covered (hr.mono (by decide)) (da_cons (de_ix (de_v 0) de_int) (da_cons (de_v 1) da_nil))) da_nil))))) dss_nil)
      (dss_cons (ds_if (dp_in hr (de_ix (de_v 0) de_int) (de_tup (da_cons de_str (da_cons de_str da_nil)))) (dss_cons (ds_for [] PassesOwn.never (di_enum m_enumerate (da_cons (de_ix (de_v 0) de_int) da_nil)) (dg_tup rfl (dgs_cons (dg_name (i := 2) sc_place_of.nd) (dgs_cons (dg_name (i := 3) sc_place_of.nd) dgs_nil))) (dss_cons (ds_set false (i := 4) sc_place_of.nd (de_callC c_covered (hr.mono (by decide)) (da_cons (de_v 3) (da_cons (de_v 1) da_nil))))
      (dss_one (ds_if (dp_notN (de_v 4) de_non) (dss_one (ds_ret (de_tup (da_cons (de_v 2) (da_cons (de_v 4) da_nil))))) dss_nil))))
      (dss_one (ds_ret (de_tup (da_cons de_non (da_cons de_non da_nil)))))) dss_nil)
      (dss_one (ds_ret (de_tup (da_cons de_non (da_cons (de_callC c_covered (hr.mono (by decide)) (da_cons (de_ix (de_v 0) de_int) (da_cons (de_v 1) da_nil))) da_nil))))))))) ?h, F.kp, F.binds fun _ _ _ _ _ _ us hl => match us, hl with | [_, _], _ => rfl, m⟩
  case len =>
    intro g ds n Q h; obtain ⟨_, _, rfl, _⟩ := h; rfl
  case h =>
    intro g ds n Q h
    obtain ⟨r, m, rfl, hr, q⟩ := h
    have aw : asc r.wd := by cases r <;> (simp only [Rl.wd]; decide +kernel)
    have T : ∀ {l k : Nat} {ps : List Str}, rPs l k ps → ∀ p ∈ ps, p.length ≤ 100000 := fun h p hp => Nat.le_trans (rp_asc (h.2.2 p hp)).2 (by decide)
    refine ⟨_, atI0, show 2 ≤ lim by decide, oIn_strs (l := ["forbid", "only"]) (by decide +kernel) aw ?_⟩
    have R : ∀ (rows : List (List Str)) (d : D), rRows rows → Q (rowD (rowAt 0 rows m)) n → ∀ (E : DEnds), E.rt = Q →
        (∀ a b c, E.nx [.sh d, .sh (.str m), a, b, c] n → True) → (∀ a b c, Q (.tup [.none, .none]) n → E.nx [.sh d, .sh (.str m), a, b, c] n) →
        dForGo g (tgTup [tgN 2, tgN 3]) (sSeq (sSet false 4 (dCall Sp_covered (dCons (dVar 3) (dCons (dVar 1) dNil)))) (sIf (dTest (dOp (oIsN true) (dVar 4) (dC D.none))) (sRet (dTup (dCons (dVar 2) (dCons (dVar 4) dNil)))) sNext)) E (enumD (rows.map tps)) [.sh d, .sh (.str m), .no, .no, .no] n := fun rows d hrr q E hE _ hnx => by
      rw [enum_rows]
      have main : ∀ (rows : List (List Str)) (i : Nat) (a b c : Sl), (∀ r ∈ rows, ∀ p ∈ r, p.length ≤ 100000) → Q (rowD (rowAt i rows m)) n → dForGo g (tgTup [tgN 2, tgN 3]) (sSeq (sSet false 4 (dCall Sp_covered (dCons (dVar 3) (dCons (dVar 1) dNil)))) (sIf (dTest (dOp (oIsN true) (dVar 4) (dC D.none))) (sRet (dTup (dCons (dVar 2) (dCons (dVar 4) dNil)))) sNext)) E ((rows.zipIdx i).map emRow) [.sh d, .sh (.str m), a, b, c] n := by
        intro rows
        induction rows with
        | nil => intro i a b c _ q; exact hnx a b c q
        | cons r rows ih =>
          intro i a b c hl q
          refine ⟨r, m, .inl rfl, hl r (by simp), ?_⟩
          rw [covd_eq]
          unfold rowAt at q
          cases e : homeO r m with
          | some p =>
            rw [e] at q
            show _ ∧ _
            refine ⟨show 2 ≤ lim by decide, ?_⟩
            show E.rt _ _
            rw [hE]
            exact q
          | none =>
            rw [e] at q
            exact ih (i + 1) _ _ _ (fun x hx => hl x (by simp [hx])) q
      exact main rows 0 _ _ _ (fun r h => T (hrr.2.2 r h)) q
    cases r with
    | forbid ss ts ch =>
      refine iteT ⟨_, atI_nat (j := 1) rfl, ss, m, .inl rfl, T hr.1, _, atI_nat (j := 2) rfl, ts, m, .inl rfl, T hr.2, show 2 ≤ lim by decide, ?_⟩
      rw [covd_eq, covd_eq]
      exact q
    | only ts us =>
      refine iteT ⟨_, atI_nat (j := 1) rfl, ts, m, .inl rfl, T hr.1, _, atI_nat (j := 2) rfl, us, m, .inl rfl, T hr.2, show 2 ≤ lim by decide, ?_⟩
      rw [covd_eq, covd_eq]
      exact q
    | face p es =>
      refine iteF ⟨_, atI0, ?_⟩
      show Exists _
      refine ⟨_, atI_nat (j := 1) rfl, show 1 ≤ lim by decide, [p], m, .inl rfl, fun x hx => ?_, _, atI_nat (j := 2) rfl, es, m, .inl rfl, T hr.2.1, show 2 ≤ lim by decide, ?_⟩
      · rw [List.mem_singleton.mp hx]; exact Nat.le_trans (rp_asc hr.1).2 (by decide)
      rw [covd_eq, covd_eq]
      exact q
    | layers rows ch =>
      refine iteF ⟨_, atI0, ?_⟩
      show Exists _
      refine ⟨_, atI0, show 2 ≤ lim by decide, oIn_strs (l := ["layers", "stairs"]) (by decide +kernel) aw ?_⟩
      show Exists _
      refine ⟨_, atI_nat (j := 1) rfl, ?_⟩
      exact R rows _ hr q _ rfl (fun _ _ _ _ => trivial) (fun a b c q => ⟨show 2 ≤ lim by decide, q⟩)
    | stairs rows =>
      refine iteF ⟨_, atI0, ?_⟩
      show Exists _
      refine ⟨_, atI0, show 2 ≤ lim by decide, oIn_strs (l := ["layers", "stairs"]) (by decide +kernel) aw ?_⟩
      show Exists _
      refine ⟨_, atI_nat (j := 1) rfl, ?_⟩
      exact R rows _ hr q _ rfl (fun _ _ _ _ => trivial) (fun a b c q => ⟨show 2 ≤ lim by decide, q⟩)
    | apart ps ch =>
      refine iteF ⟨_, atI0, ?_⟩
      show Exists _
      refine ⟨_, atI0, show 2 ≤ lim by decide, oIn_strs (l := ["layers", "stairs"]) (by decide +kernel) aw ?_⟩
      show Exists _
      refine ⟨_, atI_nat (j := 1) rfl, ps, m, .inl rfl, T hr, show 2 ≤ lim by decide, ?_⟩
      rw [covd_eq]
      exact q
    | noring ps =>
      refine iteF ⟨_, atI0, ?_⟩
      show Exists _
      refine ⟨_, atI0, show 2 ≤ lim by decide, oIn_strs (l := ["layers", "stairs"]) (by decide +kernel) aw ?_⟩
      show Exists _
      refine ⟨_, atI_nat (j := 1) rfl, ps, m, .inl rfl, T hr, show 2 ≤ lim by decide, ?_⟩
      rw [covd_eq]
      exact q
/-! is_evidence -/
abbrev s_is_evidence : Stmt := topS 19
theorem sc_is_evidence : FnScope ["uses", "rule", "value", "chain", "user", "used", "use"] ["uses", "rule", "value"] (defScope s_is_evidence) := ⟨rfl, rfl, rfl, by decide +kernel, rfl, by decide +kernel, by decide +kernel⟩
def Sp_is_evidence : DSp := fun _ ds f Q => ∃ (us : List Us) (r : Rl) (v : D), ds = [.tup (us.map pairD), r.d, v] ∧ r.form ∧ (∀ u ∈ us, ascU u) ∧ v.good = true ∧ (∀ xs, v = .tup xs → xs.length ≤ 3000) ∧ Q (.bool (evP us r v)) f
set_option maxHeartbeats 2000000 in
theorem ok_is_evidence (d : Df K mg "is_evidence" s_is_evidence) (m_len : mg "len" = none) (m_set : mg "set" = none) (m_all : mg "all" = none) (m_tuple : mg "tuple" = none) (m_isinstance : mg "isinstance" = none) (g_MAX_MODULES : ∃ t, mg "MAX_MODULES" = some (.int 24 t)) (c_is_barred : Cal P w K mg base 1 "is_barred" ["rule", "one", "other"] Sp_is_barred) (c_place_of : Cal P w K mg base 3 "place_of" ["rule", "module"] Sp_place_of) (c_is_chained : Cal P w K mg base 1 "is_chained" ["rule"] Sp_is_chained) (c_is_ring_of : Cal P w K mg base 3 "is_ring_of" ["paths", "value"] Sp_is_ring_of) : Cal P w K mg base 4 "is_evidence" ["uses", "rule", "value"] Sp_is_evidence := by
  obtain ⟨f, fd, F, m⟩ := d
  refine ⟨f, fd, dfn (k := 3) (S := Sp_is_evidence) F sc_is_evidence ?len (fun cdv A outer s H E hr => (dss_cons (ds_if (DW.p (dw_or (dp_not (dp_val (de_isi m_isinstance (da_cons (de_v 2) (da_cons (de_bltn (v := .ty "tuple") (u := .type "tuple") (by rfl) m_tuple (by decide +kernel) rfl) da_nil))))) (dw_or (dp_not (dp_ltlt de_int (de_len m_len (da_cons (de_v 2) da_nil)) (de_glob (v := .int 24) (d := .int 24) (by rfl) g_MAX_MODULES.choose_spec ⟨_, rfl⟩ (fun _ => rfl)))) (dw_or1 (dp_not (dp_val (de_callB (cr_all rfl) sc_all (by rfl) m_all (by decide +kernel) (da_cons (dl_lc (own := [("use", 6)]) rfl sc_is_evidence.nd (di_seq (de_v 2)) (blkOk_by (own := [("use", 6)]) (N := ["uses", "rule", "value", "chain", "user", "used", "use"]) (sc := defScope s_is_evidence) (by decide +kernel)) (fun _ _ _ _ _ => dg_name (i := 6) sc_is_evidence.nd) (fun _ _ _ _ _ => dts_nil) (fun _ _ _ _ _ => (de_inU hr.units (de_v 6) (de_v 0)))).e da_nil)))))))) (dss_one (ds_ret de_bl)) dss_nil)
      (dss_cons (ds_if (dp_eq hr.units (de_ix (de_v 1) de_int) de_str) (dss_one (ds_ret (de_callC c_is_ring_of (hr.mono (by decide)) (da_cons (de_ix (de_v 1) de_int) (da_cons (de_v 2) da_nil))))) dss_nil)
      (dss_cons (ds_set false (i := 3) sc_is_evidence.nd (de_add (dl_lst (da_cons (de_ix (de_ix (de_v 2) de_int) de_int) da_nil)).e (dl_lc (own := [("user", 4), ("used", 5)]) rfl sc_is_evidence.nd (di_seq (de_v 2)) (blkOk_by (own := [("user", 4), ("used", 5)]) (N := ["uses", "rule", "value", "chain", "user", "used", "use"]) (sc := defScope s_is_evidence) (by decide +kernel)) (fun _ _ _ _ _ => dg_tup rfl (dgs_cons (dg_name (i := 4) sc_is_evidence.nd) (dgs_cons (dg_name (i := 5) sc_is_evidence.nd) dgs_nil))) (fun _ _ _ _ _ => dts_nil) (fun _ _ _ _ _ => (de_v 5))).e))
      (dss_cons (ds_if (DW.p (dw_or (DW.p (dw_and (dp_gt (de_len m_len (da_cons (de_v 2) da_nil)) de_int) (dw_and1 (dp_not (dp_val (de_callC c_is_chained (hr.mono (by decide)) (da_cons (de_v 1) da_nil))))))) (dw_or1 (dp_ne hr.units (de_lenZ m_len m_set (de_v 3)) (de_len m_len (da_cons (de_v 3) da_nil)))))) (dss_one (ds_ret de_bl)) dss_nil)
      (dss_cons (ds_if (dp_ne hr.units (dl_lc (own := [("user", 4), ("used", 5)]) rfl sc_is_evidence.nd (di_seq (de_v 2)) (blkOk_by (own := [("user", 4), ("used", 5)]) (N := ["uses", "rule", "value", "chain", "user", "used", "use"]) (sc := defScope s_is_evidence) (by decide +kernel)) (fun _ _ _ _ _ => dg_tup rfl (dgs_cons (dg_name (i := 4) sc_is_evidence.nd) (dgs_cons (dg_name (i := 5) sc_is_evidence.nd) dgs_nil))) (fun _ _ _ _ _ => dts_nil) (fun _ _ _ _ _ => (de_v 4))).e (de_sl (de_v 3) do_none (do_some (de_neg de_int)))) (dss_one (ds_ret de_bl)) dss_nil)
      (dss_one (ds_ret (de_callC c_is_barred (hr.mono (by decide)) (da_cons (de_v 1) (da_cons (de_callC c_place_of (hr.mono (by decide)) (da_cons (de_v 1) (da_cons (de_ix (de_v 3) de_int) da_nil))) (da_cons (de_callC c_place_of (hr.mono (by decide)) (da_cons (de_v 1) (da_cons (de_ix (de_v 3) (de_neg de_int)) da_nil))) da_nil)))))))))))) ?h, F.kp, F.binds fun _ _ _ _ _ _ us hl => match us, hl with | [_, _, _], _ => rfl, m⟩
  case len =>
    intro g ds n Q h; obtain ⟨_, _, _, rfl, _⟩ := h; rfl
  case h =>
    intro g ds n Q h
    obtain ⟨us, r, v, rfl, hr, hus, hv, hl, q⟩ := h
    obtain ⟨t, ht, hk⟩ := good_isT hv
    refine ⟨t, _, ht, hk, ?_⟩
    cases v with
    | tup xs =>
      have hl := hl xs rfl
      have q : Q (.bool ((decide (0 < xs.length) && decide (xs.length < 24)) && (xs.all (inU us) && evW r (xs.map toU2)))) n := q
      show if decide ((0 : Int) < ((xs.length : Nat) : Int)) = true then _ else _
      by_cases h0 : 0 < xs.length
      case neg =>
        rw [decide_eq_false (by omega : ¬ (0 : Int) < ((xs.length : Nat) : Int))]
        rw [decide_eq_false h0] at q
        exact iteF q
      rw [decide_eq_true (by omega : (0 : Int) < ((xs.length : Nat) : Int))]
      refine iteT ?_
      show if (!decide (((xs.length : Nat) : Int) < 24)) = true then _ else _
      by_cases h24 : xs.length < 24
      case neg =>
        rw [decide_eq_false (by omega : ¬ ((xs.length : Nat) : Int) < 24)]
        rw [decide_eq_false h24, Bool.and_false] at q
        exact iteT q
      rw [decide_eq_true (by omega : ((xs.length : Nat) : Int) < 24)]
      refine iteF ?_
      rw [decide_eq_true h0, decide_eq_true h24, Bool.true_and, Bool.true_and] at q
      have lx : xs.length ≤ lim := L1 (by omega)
      refine ⟨lx, ?_⟩
      refine lcMd D.bool (inU us) xs _ (fun x hx => ⟨_, rfl, fun f Q q => ⟨us, .inl rfl, D.good_tyd (goodA_mem hv hx), q⟩⟩) ?_
      show Exists _
      refine ⟨xs.map (inU us), rfl, ?_⟩
      show if (!((xs.map (inU us)).all id)) = true then _ else _
      rw [show (xs.map (inU us)).all id = xs.all (inU us) by rw [List.all_map]; rfl]
      cases ha : xs.all (inU us) with
      | false => rw [ha] at q; exact iteT q
      | true =>
        rw [ha, Bool.true_and] at q
        obtain ⟨ws, rfl, hws⟩ := allU_pairs ha
        rw [toU2_pairs] at q
        have hln : (ws.map pairD).length = ws.length := List.length_map _
        refine iteF ?_
        show Exists _
        refine ⟨_, atI0, ?_⟩
        show if decide (r.wd = "noring") = true then _ else _
        by_cases hw : r.wd = "noring"
        · rw [decide_eq_true hw]
          refine iteT ?_
          cases r with
          | noring ps =>
            show Exists _
            exact ⟨_, atI_nat (j := 1) rfl, ps, ws, rfl, fun p hp => ⟨(rp_asc (hr.2.2 p hp)).1, Nat.le_trans (rp_asc (hr.2.2 p hp)).2 (by decide)⟩, by omega, q⟩
          | _ => exact absurd hw (by simp only [Rl.wd]; decide +kernel)
        · rw [decide_eq_false hw]
          refine iteF ?_
          obtain ⟨w, rest, rfl⟩ : ∃ w rest, ws = w :: rest := by
            cases ws with
            | nil => exact absurd h0 (by decide)
            | cons w rest => exact ⟨w, rest, rfl⟩
          have q : Q (.bool (evChain r w rest)) n := by
            cases r <;> first | exact q | exact absurd rfl hw
          have hwa : ∀ u ∈ w :: rest, ascU u := fun u hu => hus u (hws u hu)
          refine ⟨_, atI0, _, atI0, show 1 ≤ lim by decide, lx, ?_⟩
          refine lcM pairD D.str (fun v => v.2) (w :: rest) _ (fun v hv => ⟨_, rfl, fun f Q q => q⟩) ?_
          show _ ∧ _
          have lch : (chU w rest).length = rest.length + 2 := by unfold chU; rw [List.length_cons, List.length_map, List.length_cons]
          have ach : ∀ s ∈ chU w rest, asc s := fun s hs => by
            rcases List.mem_cons.mp hs with rfl | hs
            · exact (hwa w (by simp)).1
            · obtain ⟨z, hz, rfl⟩ := List.mem_map.mp hs
              exact (hwa z hz).2
          have lre : rest.length ≤ 3000 := by rw [List.length_cons] at hln; omega
          refine ⟨L1 (by show 1 + (((w :: rest).map (fun v => v.2)).map D.str).length ≤ 100000; rw [List.length_map, List.length_map, List.length_cons]; omega), ?_⟩
          unfold evChain at q
          have lz : ((((w :: rest).map pairD).length : Nat) : Int) = (rest.length : Int) + 1 := by rw [hln, List.length_cons]; omega
          show if decide ((1 : Int) < ((((w :: rest).map pairD).length : Nat) : Int)) = true then _ else _
          rw [lz]
          rcases (show rest = [] ∨ (rest ≠ [] ∧ longB r = false) ∨ (rest ≠ [] ∧ longB r = true) by by_cases h1 : rest = [] <;> cases longB r <;> simp [h1]) with h1 | ⟨h1, h2⟩ | ⟨h1, h2⟩
          · rw [decide_eq_false (by rw [h1]; decide : ¬ (1 : Int) < (rest.length : Int) + 1)]
            refine iteF ?_
            rw [decide_eq_true h1, Bool.true_or, Bool.true_and] at q
            show Exists _
            refine ⟨chU w rest, .inl rfl, by omega, ?_⟩
            show if (xb true (decide ((((ded (chU w rest)).length : Nat) : Int) = ((((chU w rest).map D.str).length : Nat) : Int)))) = true then _ else _
            rw [show decide ((((ded (chU w rest)).length : Nat) : Int) = ((((chU w rest).map D.str).length : Nat) : Int)) = diffS (chU w rest) from by
              unfold diffS
              rw [List.length_map]
              exact decide_eq_decide.mpr Int.ofNat_inj]
            cases hd : diffS (chU w rest) with
            | false => rw [hd] at q; exact iteT q
            | true =>
              rw [hd, Bool.true_and] at q
              refine iteF ?_
              show _ ∧ _
              refine ⟨lx, ?_⟩
              refine lcM pairD D.str (fun v => v.1) (w :: rest) _ (fun v hv => ⟨_, rfl, fun f Q q => q⟩) ?_
              have ec2 : cutD ((chU w rest).map D.str) none (some (-1)) = (chU w rest).dropLast.map D.str := by rw [cutD_init, List.map_dropLast]
              have af : ∀ s ∈ (w :: rest).map (fun v => v.1), asc s := fun s hs => by
                obtain ⟨z, hz, rfl⟩ := List.mem_map.mp hs
                exact (hwa z hz).1
              show _ ∧ _ ∧ _
              refine ⟨shaped_strs af, (show SeqAt.shaped (D.lst (cutD ((chU w rest).map D.str) none (some (-1)))).py = true by rw [ec2]; exact shaped_strs fun s hs => ach s (List.dropLast_subset _ hs)), ?_⟩
              have e3 : PyData.eqv (D.lst (((w :: rest).map (fun v => v.1)).map D.str)).py (D.lst (cutD ((chU w rest).map D.str) none (some (-1)))).py = decide ((w :: rest).map (fun v => v.1) = (chU w rest).dropLast) := by
                rw [ec2]
                exact eqvLSe _ _
              generalize hc : PyData.eqv _ _ = c
              have hc2 : c = decide ((w :: rest).map (fun v => v.1) = (chU w rest).dropLast) := by rw [← hc]; exact e3
              subst hc2
              cases he : decide ((w :: rest).map (fun v => v.1) = (chU w rest).dropLast) with
              | false => rw [he] at q; exact iteT q
              | true =>
                rw [he, Bool.true_and] at q
                refine iteF ?_
                have last : atI ((chU w rest).map D.str) (-1) = some (.str (lastU w rest).2) := by
                  rw [atI_last]
                  have : (chU w rest).getLast? = some (lastU w rest).2 := by
                    unfold chU lastU
                    rw [List.getLast?_cons, List.getLast?_map, List.getLast?_eq_some_getLast (List.cons_ne_nil _ _)]
                    rfl
                  rw [this]
                  rfl
                show Exists _
                exact ⟨_, atI0, r, w.1, rfl, hr, _, last, r, (lastU w rest).2, rfl, hr, r, w.1, (lastU w rest).2, rfl, hr, hw, q⟩
          · have : 0 < rest.length := List.length_pos_iff.mpr h1
            rw [decide_eq_true (by omega : (1 : Int) < (rest.length : Int) + 1)]
            refine iteT ⟨r, rfl, hr, ?_⟩
            show if (!longB r) = true then _ else _
            rw [h2] at q ⊢
            rw [decide_eq_false h1] at q
            exact iteT q
          · have : 0 < rest.length := List.length_pos_iff.mpr h1
            rw [decide_eq_true (by omega : (1 : Int) < (rest.length : Int) + 1)]
            refine iteT ⟨r, rfl, hr, ?_⟩
            show if (!longB r) = true then _ else _
            rw [h2, Bool.or_true, Bool.true_and] at q
            rw [h2]
            refine iteF ?_
            show Exists _
            refine ⟨chU w rest, .inl rfl, by omega, ?_⟩
            show if (xb true (decide ((((ded (chU w rest)).length : Nat) : Int) = ((((chU w rest).map D.str).length : Nat) : Int)))) = true then _ else _
            rw [show decide ((((ded (chU w rest)).length : Nat) : Int) = ((((chU w rest).map D.str).length : Nat) : Int)) = diffS (chU w rest) from by
              unfold diffS
              rw [List.length_map]
              exact decide_eq_decide.mpr Int.ofNat_inj]
            cases hd : diffS (chU w rest) with
            | false => rw [hd] at q; exact iteT q
            | true =>
              rw [hd, Bool.true_and] at q
              refine iteF ?_
              show _ ∧ _
              refine ⟨lx, ?_⟩
              refine lcM pairD D.str (fun v => v.1) (w :: rest) _ (fun v hv => ⟨_, rfl, fun f Q q => q⟩) ?_
              have ec2 : cutD ((chU w rest).map D.str) none (some (-1)) = (chU w rest).dropLast.map D.str := by rw [cutD_init, List.map_dropLast]
              have af : ∀ s ∈ (w :: rest).map (fun v => v.1), asc s := fun s hs => by
                obtain ⟨z, hz, rfl⟩ := List.mem_map.mp hs
                exact (hwa z hz).1
              show _ ∧ _ ∧ _
              refine ⟨shaped_strs af, (show SeqAt.shaped (D.lst (cutD ((chU w rest).map D.str) none (some (-1)))).py = true by rw [ec2]; exact shaped_strs fun s hs => ach s (List.dropLast_subset _ hs)), ?_⟩
              have e3 : PyData.eqv (D.lst (((w :: rest).map (fun v => v.1)).map D.str)).py (D.lst (cutD ((chU w rest).map D.str) none (some (-1)))).py = decide ((w :: rest).map (fun v => v.1) = (chU w rest).dropLast) := by
                rw [ec2]
                exact eqvLSe _ _
              generalize hc : PyData.eqv _ _ = c
              have hc2 : c = decide ((w :: rest).map (fun v => v.1) = (chU w rest).dropLast) := by rw [← hc]; exact e3
              subst hc2
              cases he : decide ((w :: rest).map (fun v => v.1) = (chU w rest).dropLast) with
              | false => rw [he] at q; exact iteT q
              | true =>
                rw [he, Bool.true_and] at q
                refine iteF ?_
                have last : atI ((chU w rest).map D.str) (-1) = some (.str (lastU w rest).2) := by
                  rw [atI_last]
                  have : (chU w rest).getLast? = some (lastU w rest).2 := by
                    unfold chU lastU
                    rw [List.getLast?_cons, List.getLast?_map, List.getLast?_eq_some_getLast (List.cons_ne_nil _ _)]
                    rfl
                  rw [this]
                  rfl
                show Exists _
                exact ⟨_, atI0, r, w.1, rfl, hr, _, last, r, (lastU w rest).2, rfl, hr, r, w.1, (lastU w rest).2, rfl, hr, hw, q⟩
    | obj _ _ _ => cases hv
    | exn _ _ _ => cases hv
    | any _ => cases hv
    | _ => exact q
/-! _law_evidence -/
abbrev s__law_evidence : Stmt := topS 51
theorem sc__law_evidence : FnScope ["_law_uses_here", "_law_rule", "_law_value", "_law_firsts", "_law_lasts", "_law_row", "_law_heads", "_law_behind", "_law_use", "_law_one"] ["_law_uses_here", "_law_rule", "_law_value"] (defScope s__law_evidence) := ⟨rfl, rfl, rfl, by decide +kernel, rfl, by decide +kernel, by decide +kernel⟩
def Sp__law_evidence : DSp := fun _ ds f Q => ∃ (us : List Us) (r : Rl) (v : D), ds = [.lst (us.map pairD), r.d, v] ∧ r.form ∧ ovlL r.par = false ∧ (∀ u ∈ us, ascU u) ∧ v.good = true ∧ (∀ xs, v = .tup xs → xs.length ≤ 3000) ∧ Q (.bool (evB us r v)) f
set_option maxHeartbeats 2000000 in
theorem ok__law_evidence (d : Df K mg "_law_evidence" s__law_evidence) (m_len : mg "len" = none) (m_set : mg "set" = none) (m_tuple : mg "tuple" = none) (m_isinstance : mg "isinstance" = none) (c__law_bars : Cal P w K mg base 3 "_law_bars" ["_law_rule", "_law_one", "_law_other"] Sp__law_bars) (c__law_is_long : Cal P w K mg base 1 "_law_is_long" ["_law_rule"] Sp__law_is_long) (c__law_home : Cal P w K mg base 2 "_law_home" ["_law_paths", "_law_module"] Sp__law_home) : Cal P w K mg base 4 "_law_evidence" ["_law_uses_here", "_law_rule", "_law_value"] Sp__law_evidence := by
  obtain ⟨f, fd, F, m⟩ := d
  refine ⟨f, fd, dfn (k := 3) (S := Sp__law_evidence) F sc__law_evidence ?len (fun cdv A outer s H E hr => (dss_cons (ds_if (DW.p (dw_or (dp_not (dp_val (de_isi m_isinstance (da_cons (de_v 2) (da_cons (de_bltn (v := .ty "tuple") (u := .type "tuple") (by rfl) m_tuple (by decide +kernel) rfl) da_nil))))) (dw_or1 (dp_eq hr.units (de_len m_len (da_cons (de_v 2) da_nil)) de_int)))) (dss_one (ds_ret de_bl)) dss_nil)
      (dss_cons (ds_if (dp_neE hr.units (dl_lc (own := [("_law_use", 8)]) rfl sc__law_evidence.nd (di_seq (de_v 2)) (blkOk_by (own := [("_law_use", 8)]) (N := ["_law_uses_here", "_law_rule", "_law_value", "_law_firsts", "_law_lasts", "_law_row", "_law_heads", "_law_behind", "_law_use", "_law_one"]) (sc := defScope s__law_evidence) (by decide +kernel)) (fun _ _ _ _ _ => dg_name (i := 8) sc__law_evidence.nd) (fun _ _ _ _ _ => dts_one (DW.p (dw_or (dp_not (dp_val (de_isi m_isinstance (da_cons (de_v 8) (da_cons (de_bltn (v := .ty "tuple") (u := .type "tuple") (by rfl) m_tuple (by decide +kernel) rfl) da_nil))))) (dw_or1 (dp_notInU hr.units (de_v 8) (de_v 0)))))) (fun _ _ _ _ _ => (de_v 8))).e (dl_lst da_nil).e) (dss_one (ds_ret de_bl)) dss_nil)
      (dss_cons (ds_par false (i := 3) (j := 4) sc__law_evidence.nd (dl_lc (own := [("_law_use", 8)]) rfl sc__law_evidence.nd (di_seq (de_v 2)) (blkOk_by (own := [("_law_use", 8)]) (N := ["_law_uses_here", "_law_rule", "_law_value", "_law_firsts", "_law_lasts", "_law_row", "_law_heads", "_law_behind", "_law_use", "_law_one"]) (sc := defScope s__law_evidence) (by decide +kernel)) (fun _ _ _ _ _ => dg_name (i := 8) sc__law_evidence.nd) (fun _ _ _ _ _ => dts_nil) (fun _ _ _ _ _ => (de_ix (de_v 8) de_int))).e (dl_lc (own := [("_law_use", 8)]) rfl sc__law_evidence.nd (di_seq (de_v 2)) (blkOk_by (own := [("_law_use", 8)]) (N := ["_law_uses_here", "_law_rule", "_law_value", "_law_firsts", "_law_lasts", "_law_row", "_law_heads", "_law_behind", "_law_use", "_law_one"]) (sc := defScope s__law_evidence) (by decide +kernel)) (fun _ _ _ _ _ => dg_name (i := 8) sc__law_evidence.nd) (fun _ _ _ _ _ => dts_nil) (fun _ _ _ _ _ => (de_ix (de_v 8) de_int))).e)
      (dss_cons (ds_if (dp_eq hr.units (de_ix (de_v 1) de_int) de_str) (dss_cons (ds_setLc (i := 6) (own := [("_law_one", 9)]) sc__law_evidence.nd (di_seq (de_v 3)) (blkOk_by (own := [("_law_one", 9)]) (N := ["_law_uses_here", "_law_rule", "_law_value", "_law_firsts", "_law_lasts", "_law_row", "_law_heads", "_law_behind", "_law_use", "_law_one"]) (sc := defScope s__law_evidence) (by decide +kernel)) (fun _ _ _ _ _ => dg_name (i := 9) sc__law_evidence.nd) (fun _ _ _ _ _ => dts_nil) (fun _ _ _ _ _ => (de_callC c__law_home (hr.mono (by decide)) (da_cons (de_ix (de_v 1) de_int) (da_cons (de_v 9) da_nil)))) (fun _ _ _ h => snd_set (m := false) (i := 6) h.e))
      (dss_cons (ds_setLc (i := 7) (own := [("_law_one", 9)]) sc__law_evidence.nd (di_seq (de_v 4)) (blkOk_by (own := [("_law_one", 9)]) (N := ["_law_uses_here", "_law_rule", "_law_value", "_law_firsts", "_law_lasts", "_law_row", "_law_heads", "_law_behind", "_law_use", "_law_one"]) (sc := defScope s__law_evidence) (by decide +kernel)) (fun _ _ _ _ _ => dg_name (i := 9) sc__law_evidence.nd) (fun _ _ _ _ _ => dts_nil) (fun _ _ _ _ _ => (de_callC c__law_home (hr.mono (by decide)) (da_cons (de_ix (de_v 1) de_int) (da_cons (de_v 9) da_nil)))) (fun _ _ _ h => snd_set (m := false) (i := 7) h.e))
      (dss_cons (ds_if (DW.p (dw_or (dp_lt (de_len m_len (da_cons (de_v 2) da_nil)) de_int) (dw_or (dp_in hr de_non (de_v 6)) (dw_or1 (dp_lt (de_lenZ m_len m_set (de_v 6)) (de_len m_len (da_cons (de_v 6) da_nil))))))) (dss_one (ds_ret de_bl)) dss_nil)
      (dss_one (ds_ret (de_eq hr.units (de_add (de_sl (de_v 7) (do_some (de_neg de_int)) do_none) (de_sl (de_v 7) do_none (do_some (de_neg de_int)))) (de_v 6))))))) dss_nil)
      (dss_cons (ds_set false (i := 5) sc__law_evidence.nd (de_add (de_v 3) (de_sl (de_v 4) (do_some (de_neg de_int)) do_none)))
      (dss_cons (ds_if (DW.p (dw_or (DW.p (dw_and (dp_gt (de_len m_len (da_cons (de_v 2) da_nil)) de_int) (dw_and1 (dp_not (dp_val (de_callC c__law_is_long (hr.mono (by decide)) (da_cons (de_v 1) da_nil))))))) (dw_or1 (dp_lt (de_lenZ m_len m_set (de_v 5)) (de_len m_len (da_cons (de_v 5) da_nil)))))) (dss_one (ds_ret de_bl)) dss_nil)
      (dss_one (ds_ret (de_and (de_eq hr.units (de_sl (de_v 4) do_none (do_some (de_neg de_int))) (de_sl (de_v 3) (do_some de_int) do_none)) (de_one (de_callC c__law_bars (hr.mono (by decide)) (da_cons (de_v 1) (da_cons (de_ix (de_v 5) de_int) (da_cons (de_ix (de_v 5) (de_neg de_int)) da_nil))))))))))))))) ?h, F.kp, F.binds fun _ _ _ _ _ _ us hl => match us, hl with | [_, _, _], _ => rfl, m⟩
  case len =>
    intro g ds n Q h; obtain ⟨_, _, _, rfl, _⟩ := h; rfl
  case h =>
    intro g ds n Q h
    obtain ⟨us, r, v, rfl, hr, ho, hus, hv, hl, q⟩ := h
    obtain ⟨t, ht, hk⟩ := good_isT hv
    refine ⟨t, _, ht, hk, ?_⟩
    cases v with
    | tup xs =>
      have hl := hl xs rfl
      have lx : xs.length ≤ lim := L1 (by omega)
      have q : Q (.bool (decide (0 < xs.length) && (xs.all (inU us) && evW r (xs.map toU2)))) n := q
      show if decide (((xs.length : Nat) : Int) = 0) = true then _ else _
      by_cases h0 : 0 < xs.length
      case neg =>
        rw [decide_eq_true (by omega : ((xs.length : Nat) : Int) = 0)]
        rw [decide_eq_false h0] at q
        exact iteT q
      rw [decide_eq_false (by omega : ¬ ((xs.length : Nat) : Int) = 0)]
      refine iteF ?_
      rw [decide_eq_true h0, Bool.true_and] at q
      refine ⟨lx, ?_⟩
      refine lcFd (fun x => !inU us x) xs _ (fun x hx => ⟨_, rfl, fun f Q q => ?_, fun _ f Q q => q⟩) ?_
      · have gx := goodA_mem hv hx
        obtain ⟨t, ht, hk⟩ := good_isT gx
        refine ⟨t, _, ht, hk, ?_⟩
        cases hT : x.isTup with
        | false =>
          have : inU us x = false := by
            cases hi : inU us x with
            | false => rfl
            | true =>
              obtain ⟨u, _, rfl⟩ := inU_iff.mp hi
              cases hT
          rw [this] at q
          exact iteT q
        | true =>
          refine iteF ⟨us, .inr rfl, D.good_tyd gx, q⟩
      refine ⟨Nat.zero_le _, _, rfl, rfl, ?_⟩
      have e : (xs.filter fun x => !inU us x).isEmpty = xs.all (inU us) := by
        rw [Bool.eq_iff_iff, List.isEmpty_iff, List.filter_eq_nil_iff, List.all_eq_true]
        exact ⟨fun h x hx => by simpa using h x hx, fun h x hx => by simpa using h x hx⟩
      show if (xb true (xs.filter fun x => !inU us x).isEmpty) = true then _ else _
      rw [e]
      cases ha : xs.all (inU us) with
      | false => rw [ha] at q; exact iteT q
      | true =>
        rw [ha, Bool.true_and] at q
        obtain ⟨ws, rfl, hws⟩ := allU_pairs ha
        rw [toU2_pairs] at q
        have hln : (ws.map pairD).length = ws.length := List.length_map _
        refine iteF ⟨lx, ?_⟩
        refine lcM pairD D.str (fun v => v.1) ws _ (fun v hv => ⟨_, rfl, fun f Q q => ⟨_, atI0, q⟩⟩) ?_
        refine ⟨lx, ?_⟩
        refine lcM pairD D.str (fun v => v.2) ws _ (fun v hv => ⟨_, rfl, fun f Q q => ⟨_, atI_nat (j := 1) rfl, q⟩⟩) ?_
        show Exists _
        refine ⟨_, atI0, ?_⟩
        show if decide (r.wd = "noring") = true then _ else _
        by_cases hw : r.wd = "noring"
        · rw [decide_eq_true hw]
          refine iteT ?_
          cases r with
          | noring ps =>
            have hp' : ∀ p ∈ ps, p.length ≤ 100000 := fun p hp => Nat.le_trans (rp_asc (hr.2.2 p hp)).2 (by decide)
            have q : Q (.bool (evRing ps ws)) n := q
            have ln := hln
            have hws2 : ∀ p ∈ ps, asc p := fun p hp => (rp_asc (hr.2.2 p hp)).1
            refine ⟨by rw [List.length_map, List.length_map]; exact L1 (by omega), ?_⟩
            refine lcM D.str oD (fun s => homeO ps s) (ws.map (fun v => v.1)) _ ?_ ?_
            · exact fun s hs => ⟨_, rfl, fun f Q q => ⟨_, atI_nat (j := 1) rfl, ps, s, rfl, hp', q⟩⟩
            refine ⟨by rw [List.length_map, List.length_map]; exact L1 (by omega), ?_⟩
            refine lcM D.str oD (fun s => homeO ps s) (ws.map (fun v => v.2)) _ ?_ ?_
            · exact fun s hs => ⟨_, rfl, fun f Q q => ⟨_, atI_nat (j := 1) rfl, ps, s, rfl, hp', q⟩⟩
            have eB : (ws.map (fun v => v.1)).map (fun s => homeO ps s) = ws.map (fun v => homeO ps v.1) := by rw [List.map_map]; rfl
            have eE : (ws.map (fun v => v.2)).map (fun s => homeO ps s) = ws.map (fun v => homeO ps v.2) := by rw [List.map_map]; rfl
            rw [eB, eE]
            show if decide (((ws.map pairD).length : Int) < 2) = true then _ else _
            by_cases h2 : ws.length < 2
            · rw [decide_eq_true (by rw [ln]; omega)]
              have e : evRing ps ws = false := by unfold evRing; rw [decide_eq_false (by omega)]; rfl
              rw [e] at q
              exact q
            rw [decide_eq_false (by rw [ln]; omega)]
            refine iteF ?_
            have ab : ∀ x ∈ ws.map (fun v => homeO ps v.1), ∀ s, x = some s → asc s := fun x hx s e => by
              obtain ⟨v, _, rfl⟩ := List.mem_map.mp hx
              exact hws2 s (homeO_mem e).1
            have ae : ∀ x ∈ ws.map (fun v => homeO ps v.2), ∀ s, x = some s → asc s := fun x hx s e => by
              obtain ⟨v, _, rfl⟩ := List.mem_map.mp hx
              exact hws2 s (homeO_mem e).1
            refine ⟨rfl, shp_oDs ab, ?_⟩
            rw [any_none]
            unfold evRing at q
            rw [decide_eq_true (by omega : 2 ≤ ws.length), Bool.true_and] at q
            have ea : (ws.all fun w => (homeO ps w.1).isSome) = ((ws.map fun v => homeO ps v.1).all fun o => o.isSome) := by rw [List.all_map]; rfl
            have ef : (ws.filterMap fun w => homeO ps w.1) = (ws.map fun v => homeO ps v.1).filterMap id := by rw [List.filterMap_map]; rfl
            rw [ea, ef] at q
            have lb : (ws.map fun v => homeO ps v.1).length = ws.length := List.length_map _
            have le : (ws.map fun v => homeO ps v.2).length = ws.length := List.length_map _
            clear eB eE ea ef
            generalize (ws.map fun v => homeO ps v.1) = B at *
            generalize (ws.map fun v => homeO ps v.2) = E at *
            cases hB : B.all fun o => o.isSome with
            | false => rw [hB] at q; exact q
            | true =>
              rw [hB, Bool.true_and] at q
              obtain ⟨e1, e2⟩ := all_some B hB
              show Exists _
              refine ⟨B.filterMap id, .inl (congrArg D.lst e1), by omega, ?_⟩
              show if decide ((((ded (B.filterMap id)).length : Nat) : Int) < (((B.map oD).length : Nat) : Int)) = true then _ else _
              have ec : decide ((((ded (B.filterMap id)).length : Nat) : Int) < (((B.map oD).length : Nat) : Int)) = !diffS (B.filterMap id) := by
                unfold diffS
                have := ded_len (B.filterMap id)
                rw [List.length_map, ← e2, ← decide_not]
                exact decide_eq_decide.mpr ⟨fun h => by omega, fun h => by omega⟩
              rw [ec]
              cases hd : diffS (B.filterMap id) with
              | false => rw [hd] at q; exact q
              | true =>
                rw [hd, Bool.true_and] at q
                have c1 : cutD (E.map oD) (some (-1)) none = E.getLast?.toList.map oD := by
                  rw [cutD_last, List.getLast?_map]
                  cases E.getLast? <;> rfl
                have c2 : cutD (E.map oD) none (some (-1)) = E.dropLast.map oD := by rw [cutD_init, List.map_dropLast]
                have hr : ∀ x ∈ rotR E, x ∈ E := fun x hx => by
                  rcases List.mem_append.mp hx with h | h
                  · exact List.mem_of_getLast? (by simpa using h)
                  · exact List.dropLast_subset E h
                have lr : (cutD (E.map oD) (some (-1)) none).length + (cutD (E.map oD) none (some (-1))).length ≤ lim := by
                  rw [c1, c2, List.length_map, List.length_map, List.length_dropLast]
                  have : E.getLast?.toList.length ≤ 1 := by cases E.getLast? <;> simp
                  exact L1 (by omega)
                show _ ∧ _
                refine ⟨lr, ?_⟩
                have ea : cutD (E.map oD) (some (-1)) none ++ cutD (E.map oD) none (some (-1)) = (rotR E).map oD := by rw [c1, c2, ← List.map_append]; rfl
                rw [ea]
                show oEq false (D.lst ((rotR E).map oD)) (D.lst (B.map oD)) (fun z => Q z n)
                refine oEq_data (shp_oDs fun x hx => ae x (hr x hx)) (shp_oDs ab) ?_
                rw [eqv_oDs]
                exact q
          | _ => exact absurd hw (by simp only [Rl.wd]; decide +kernel)
        · rw [decide_eq_false hw]
          refine iteF ?_
          obtain ⟨w, rest, rfl⟩ : ∃ w rest, ws = w :: rest := by
            cases ws with
            | nil => exact absurd h0 (by decide)
            | cons w rest => exact ⟨w, rest, rfl⟩
          have q : Q (.bool (evChain r w rest)) n := by
            cases r <;> first | exact q | exact absurd rfl hw
          have hwa : ∀ u ∈ w :: rest, ascU u := fun u hu => hus u (hws u hu)
          have lre : rest.length ≤ 3000 := by rw [List.length_cons] at hln; omega
          have lrow : (rowU w rest).length = rest.length + 2 := by unfold rowU; rw [List.length_append, List.length_map, List.length_cons, List.length_singleton]
          have al : asc (lastU w rest).2 := (hwa _ (List.getLast_mem _)).2
          have c1 : cutD (((w :: rest).map (fun v => v.2)).map D.str) (some (-1)) none = [D.str (lastU w rest).2] := by
            rw [cutD_last, List.getLast?_map, List.getLast?_map, List.getLast?_eq_some_getLast (List.cons_ne_nil _ _)]
            rfl
          have c2 : cutD (((w :: rest).map (fun v => v.2)).map D.str) none (some (-1)) = ((w :: rest).map (fun v => v.2)).dropLast.map D.str := by rw [cutD_init, List.map_dropLast]
          have c3 : cutD (((w :: rest).map (fun v => v.1)).map D.str) (some 1) none = (((w :: rest).map (fun v => v.1)).drop 1).map D.str := by
            rw [show cutD (((w :: rest).map (fun v => v.1)).map D.str) (some 1) none = (((w :: rest).map (fun v => v.1)).map D.str).drop 1 from cutD_drop' _ 1, List.map_drop]
          have er : ((w :: rest).map (fun v => v.1)).map D.str ++ cutD (((w :: rest).map (fun v => v.2)).map D.str) (some (-1)) none = (rowU w rest).map D.str := by
            rw [c1]
            unfold rowU
            rw [List.map_append]
            rfl
          have af : ∀ s ∈ (w :: rest).map (fun v => v.1), asc s := fun s hs => by
            obtain ⟨z, hz, rfl⟩ := List.mem_map.mp hs
            exact (hwa z hz).1
          have ale : ∀ s ∈ (w :: rest).map (fun v => v.2), asc s := fun s hs => by
            obtain ⟨z, hz, rfl⟩ := List.mem_map.mp hs
            exact (hwa z hz).2
          have s1 : SeqAt.shaped (D.lst (cutD (((w :: rest).map (fun v => v.2)).map D.str) none (some (-1)))).py = true := by rw [c2]; exact shaped_strs fun s hs => ale s (List.dropLast_subset _ hs)
          have s2 : SeqAt.shaped (D.lst (cutD (((w :: rest).map (fun v => v.1)).map D.str) (some 1) none)).py = true := by rw [c3]; exact shaped_strs fun s hs => af s (List.mem_of_mem_drop hs)
          have e3 : PyData.eqv (D.lst (cutD (((w :: rest).map (fun v => v.2)).map D.str) none (some (-1)))).py (D.lst (cutD (((w :: rest).map (fun v => v.1)).map D.str) (some 1) none)).py = decide (((w :: rest).map (fun v => v.2)).dropLast = ((w :: rest).map (fun v => v.1)).drop 1) := by
            rw [c2, c3]
            exact eqvLSe _ _
          have last : atI ((rowU w rest).map D.str) (-1) = some (.str (lastU w rest).2) := by
            rw [atI_last]
            unfold rowU
            rw [List.getLast?_concat]
            rfl
          show _ ∧ _
          refine ⟨by rw [← List.length_append, er, List.length_map, lrow]; exact L1 (by omega), ?_⟩
          rw [er]
          rw [evChain_row] at q
          have lz : ((((w :: rest).map pairD).length : Nat) : Int) = (rest.length : Int) + 1 := by rw [hln, List.length_cons]; omega
          show if decide ((1 : Int) < ((((w :: rest).map pairD).length : Nat) : Int)) = true then _ else _
          rw [lz]
          rcases (show rest = [] ∨ (rest ≠ [] ∧ longB r = false) ∨ (rest ≠ [] ∧ longB r = true) by by_cases h1 : rest = [] <;> cases longB r <;> simp [h1]) with h1 | ⟨h1, h2⟩ | ⟨h1, h2⟩
          · rw [decide_eq_false (by rw [h1]; decide : ¬ (1 : Int) < (rest.length : Int) + 1)]
            refine iteF ?_
            rw [decide_eq_true h1, Bool.true_or, Bool.true_and] at q
            show Exists _
            refine ⟨rowU w rest, .inl rfl, by omega, ?_⟩
            show if decide ((((ded (rowU w rest)).length : Nat) : Int) < ((((rowU w rest).map D.str).length : Nat) : Int)) = true then _ else _
            rw [show decide ((((ded (rowU w rest)).length : Nat) : Int) < ((((rowU w rest).map D.str).length : Nat) : Int)) = !diffS (rowU w rest) from by
              unfold diffS
              have := ded_len (rowU w rest)
              rw [List.length_map, ← decide_not]
              exact decide_eq_decide.mpr ⟨fun h => by omega, fun h => by omega⟩]
            cases hd : diffS (rowU w rest) with
            | false => rw [hd] at q; exact iteT q
            | true =>
              rw [hd, Bool.true_and] at q
              refine iteF ?_
              show _ ∧ _ ∧ _
              refine ⟨s1, s2, ?_⟩
              generalize hc : PyData.eqv _ _ = c
              have hc2 : c = decide (((w :: rest).map (fun v => v.2)).dropLast = ((w :: rest).map (fun v => v.1)).drop 1) := by rw [← hc]; exact e3
              subst hc2
              cases he : decide (((w :: rest).map (fun v => v.2)).dropLast = ((w :: rest).map (fun v => v.1)).drop 1) with
              | false => rw [he] at q; exact q
              | true =>
                rw [he, Bool.true_and] at q
                show Exists _
                refine ⟨_, atI0, _, last, ?_⟩
                exact ⟨r, w.1, (lastU w rest).2, rfl, hr, ho, hw, (hwa w (by simp)).1, al, q⟩
          · have : 0 < rest.length := List.length_pos_iff.mpr h1
            rw [decide_eq_true (by omega : (1 : Int) < (rest.length : Int) + 1)]
            refine iteT ⟨r, rfl, hr, ?_⟩
            show if (!longB r) = true then _ else _
            rw [h2] at q ⊢
            rw [decide_eq_false h1] at q
            exact iteT q
          · have : 0 < rest.length := List.length_pos_iff.mpr h1
            rw [decide_eq_true (by omega : (1 : Int) < (rest.length : Int) + 1)]
            refine iteT ⟨r, rfl, hr, ?_⟩
            show if (!longB r) = true then _ else _
            rw [h2, Bool.or_true, Bool.true_and] at q
            rw [h2]
            refine iteF ?_
            show Exists _
            refine ⟨rowU w rest, .inl rfl, by omega, ?_⟩
            show if decide ((((ded (rowU w rest)).length : Nat) : Int) < ((((rowU w rest).map D.str).length : Nat) : Int)) = true then _ else _
            rw [show decide ((((ded (rowU w rest)).length : Nat) : Int) < ((((rowU w rest).map D.str).length : Nat) : Int)) = !diffS (rowU w rest) from by
              unfold diffS
              have := ded_len (rowU w rest)
              rw [List.length_map, ← decide_not]
              exact decide_eq_decide.mpr ⟨fun h => by omega, fun h => by omega⟩]
            cases hd : diffS (rowU w rest) with
            | false => rw [hd] at q; exact iteT q
            | true =>
              rw [hd, Bool.true_and] at q
              refine iteF ?_
              show _ ∧ _ ∧ _
              refine ⟨s1, s2, ?_⟩
              generalize hc : PyData.eqv _ _ = c
              have hc2 : c = decide (((w :: rest).map (fun v => v.2)).dropLast = ((w :: rest).map (fun v => v.1)).drop 1) := by rw [← hc]; exact e3
              subst hc2
              cases he : decide (((w :: rest).map (fun v => v.2)).dropLast = ((w :: rest).map (fun v => v.1)).drop 1) with
              | false => rw [he] at q; exact q
              | true =>
                rw [he, Bool.true_and] at q
                show Exists _
                refine ⟨_, atI0, _, last, ?_⟩
                exact ⟨r, w.1, (lastU w rest).2, rfl, hr, ho, hw, (hwa w (by simp)).1, al, q⟩
    | obj _ _ _ => cases hv
    | exn _ _ _ => cases hv
    | any _ => cases hv
    | _ => exact q
/-! is_pair -/
abbrev s_is_pair : Stmt := topS 28
theorem sc_is_pair : FnScope ["value"] ["value"] (defScope s_is_pair) := ⟨rfl, rfl, rfl, by decide +kernel, rfl, by decide +kernel, by decide +kernel⟩
def isPrg : D → Bool
  | .obj c _ _ => decide (c = "Program")
  | _ => false
def okO (x : D) : Prop := x.tyd = true ∨ isPrg x = true
def strNe : D → D → Bool
  | .str a, .str b => decide (a ≠ b)
  | _, _ => false
def pairL : List D → Bool
  | [] => false
  | a :: r => match r with
    | [] => false
    | b :: r2 => match r2 with
      | [] => strNe a b
      | _ :: _ => false
def pairB : D → Bool
  | .tup xs => pairL xs
  | _ => false
def Sp_is_pair : DSp := fun _ ds f Q => ∃ x : D, ds = [x] ∧ okO x ∧ Q (.bool (pairB x)) f
set_option maxHeartbeats 2000000 in
theorem ok_is_pair (d : Df K mg "is_pair" s_is_pair) (m_str : mg "str" = none) (m_isinstance : mg "isinstance" = none) (m_len : mg "len" = none) (m_tuple : mg "tuple" = none) {C_Program : Addr} (o_Program : KO K "Program" C_Program) : Cal P w K mg base 1 "is_pair" ["value"] Sp_is_pair := by
  obtain ⟨f, fd, F, m⟩ := d
  refine ⟨f, fd, dfn (k := 0) (S := Sp_is_pair) F sc_is_pair ?len (fun cdv A outer s H E hr => (dss_cons (ds_if (DW.p (dw_or (dp_not (dp_val (de_isiO o_Program m_isinstance (da_cons (de_v 0) (da_cons (de_bltn (v := .ty "tuple") (u := .type "tuple") (by rfl) m_tuple (by decide +kernel) rfl) da_nil))))) (dw_or1 (dp_ne hr.units (de_len m_len (da_cons (de_v 0) da_nil)) de_int)))) (dss_one (ds_ret de_bl)) dss_nil)
      (dss_one (ds_ret (de_and (de_isiO o_Program m_isinstance (da_cons (de_ix (de_v 0) de_int) (da_cons (de_bltn (v := .ty "str") (u := .type "str") (by rfl) m_str (by decide +kernel) rfl) da_nil))) (de_and (de_isiO o_Program m_isinstance (da_cons (de_ix (de_v 0) de_int) (da_cons (de_bltn (v := .ty "str") (u := .type "str") (by rfl) m_str (by decide +kernel) rfl) da_nil))) (de_one (de_ne hr.units (de_ix (de_v 0) de_int) (de_ix (de_v 0) de_int))))))))) ?h, F.kp, F.binds fun _ _ _ _ _ _ us hl => match us, hl with | [_], _ => rfl, m⟩
  case len =>
    intro g ds n Q h; obtain ⟨_, rfl, _⟩ := h; rfl
  case h =>
    intro g ds n Q h
    obtain ⟨x, rfl, hx, q⟩ := h
    cases x with
    | tup xs =>
      have hxs : tydA xs = true := by
        rcases hx with h | h
        · exact h
        · cases h
      refine ⟨"tuple", true, rfl, by decide +kernel, ?_⟩
      match xs, hxs, q with
      | [], _, q => exact q
      | [_], _, q => exact q
      | [a, b], hxs, q =>
        have h2 : a.tyd = true ∧ b.tyd = true := by
          have := Bool.and_eq_true_iff.mp hxs
          exact ⟨this.1, (Bool.and_eq_true_iff.mp this.2).1⟩
        refine ⟨a, atI0, ?_⟩
        cases a with
        | str sa =>
          refine ⟨"str", true, rfl, by decide +kernel, b, atI_nat (j := 1) rfl, ?_⟩
          cases b with
          | str sb =>
            refine ⟨"str", true, rfl, by decide +kernel, .str sa, atI0, .str sb, atI_nat (j := 1) rfl, ?_⟩
            have q : Q (.bool (decide (sa ≠ sb))) n := q
            have e : decide (sa ≠ sb) = !decide (sa = sb) := by by_cases h : sa = sb <;> simp [h]
            rw [e] at q
            exact q
          | any v => cases h2.2
          | obj _ _ _ => cases h2.2
          | exn _ _ _ => cases h2.2
          | _ => exact ⟨_, false, rfl, by decide +kernel, q⟩
        | any v => cases h2.1
        | obj _ _ _ => cases h2.1
        | exn _ _ _ => cases h2.1
        | _ => exact ⟨_, false, rfl, by decide +kernel, q⟩
      | a :: b :: c :: l, _, q =>
        have e : (!decide (((a :: b :: c :: l).length : Int) = 2)) = true := by
          rw [decide_eq_false (by simp only [List.length_cons]; omega)]
          rfl
        refine iteF ?_
        exact q
    | any v =>
      rcases hx with h | h
      · cases h
      · cases h
    | exn _ _ _ =>
      rcases hx with h | h
      · cases h
      · cases h
    | obj c ns xs =>
      rcases hx with h | h
      · cases h
      · exact ⟨of_decide_eq_true h, .inl rfl, q⟩
    | _ => exact ⟨_, false, rfl, by decide +kernel, q⟩
/-! uses_error -/
abbrev s_uses_error : Stmt := topS 30
theorem sc_uses_error : FnScope ["modules", "uses", "index", "use"] ["modules", "uses"] (defScope s_uses_error) := ⟨rfl, rfl, rfl, by decide +kernel, rfl, by decide +kernel, by decide +kernel⟩
structure PVu (ms : List Str) (us : List Us) : Prop where
  len : us.length ≤ 200
  mem : ∀ u ∈ us, u.1 ∈ ms ∧ u.2 ∈ ms ∧ u.1 ≠ u.2
  nd : us.Nodup
def Sp_uses_error : DSp := fun _ ds f Q => ∃ (ms : List Str) (us : List Us), ds = [.tup (ms.map D.str), .tup (us.map pairD)] ∧ PVm ms ∧ PVu ms us ∧ Q .none f
theorem PVu.asc {ms : List Str} {us : List Us} (hm : PVm ms) (h : PVu ms us) : ∀ u ∈ us, ascU u := fun u hu => ⟨(hm.path _ (h.mem u hu).1).asc, (hm.path _ (h.mem u hu).2.1).asc⟩
theorem PVu.sub {m : List Str} {us vs : List Us} (h : PVu m us) (p : vs.Sublist us) : PVu m vs := ⟨Nat.le_trans p.length_le h.len, fun u hu => h.mem u (p.subset hu), h.nd.sublist p⟩
set_option maxHeartbeats 2000000 in
theorem ok_uses_error (d : Df K mg "uses_error" s_uses_error) (m_enumerate : mg "enumerate" = none) (m_len : mg "len" = none) (m_tuple : mg "tuple" = none) (m_isinstance : mg "isinstance" = none) (g_MAX_USES : ∃ t, mg "MAX_USES" = some (.int 200 t)) (c_is_pair : Cal P w K mg base 1 "is_pair" ["value"] Sp_is_pair) : Cal P w K mg base 2 "uses_error" ["modules", "uses"] Sp_uses_error := by
  obtain ⟨f, fd, F, m⟩ := d
  refine ⟨f, fd, dfn (k := 1) (S := Sp_uses_error) F sc_uses_error ?len (fun cdv A outer s H E hr => (dss_cons (ds_if (DW.p (dw_or (dp_not (dp_val (de_isi m_isinstance (da_cons (de_v 1) (da_cons (de_bltn (v := .ty "tuple") (u := .type "tuple") (by rfl) m_tuple (by decide +kernel) rfl) da_nil))))) (dw_or1 (dp_gt (de_len m_len (da_cons (de_v 1) da_nil)) (de_glob (v := .int 200) (d := .int 200) (by rfl) g_MAX_USES.choose_spec ⟨_, rfl⟩ (fun _ => rfl)))))) (dss_one (ds_ret (de_tup (da_cons de_non (da_cons de_str da_nil))))) dss_nil)
      (dss_cons (ds_for [] PassesOwn.never (di_enum m_enumerate (da_cons (de_v 1) da_nil)) (dg_tup rfl (dgs_cons (dg_name (i := 2) sc_uses_error.nd) (dgs_cons (dg_name (i := 3) sc_uses_error.nd) dgs_nil))) (dss_cons (ds_if (DW.p (dw_or (dp_not (dp_val (de_callC c_is_pair (hr.mono (by decide)) (da_cons (de_v 3) da_nil)))) (dw_or (dp_notIn hr (de_ix (de_v 3) de_int) (de_v 0)) (dw_or1 (dp_notIn hr (de_ix (de_v 3) de_int) (de_v 0)))))) (dss_one (ds_ret (de_tup (da_cons (de_v 2) (da_cons de_str da_nil))))) dss_nil)
      (dss_one (ds_if (dp_in hr (de_v 3) (de_sl (de_v 1) do_none (do_some (de_v 2)))) (dss_one (ds_ret (de_tup (da_cons (de_v 2) (da_cons de_str da_nil))))) dss_nil))))
      (dss_one (ds_ret de_non))))) ?h, F.kp, F.binds fun _ _ _ _ _ _ us hl => match us, hl with | [_, _], _ => rfl, m⟩
  case len =>
    intro g ds n Q h; obtain ⟨_, _, rfl, _⟩ := h; rfl
  case h =>
    intro g ds n Q h
    obtain ⟨ms, us, rfl, hm, hv, q⟩ := h
    refine ⟨"tuple", true, rfl, by decide +kernel, ?_⟩
    show if decide ((((us.map pairD).length : Int)) > 200) = true then _ else _
    rw [List.length_map, decide_eq_false (by have := hv.len; omega)]
    refine iteF ?_
    have hasc := hv.asc hm
    refine dFor_inv (fun rest r f => f = n ∧ ∃ (i : Nat) (a c : Sl), rest = (enumD (us.map pairD)).drop i ∧ r = [.sh (.tup (ms.map D.str)), .sh (.tup (us.map pairD)), a, c]) _ _ _ ?_ (fun r f ⟨e, _⟩ => by subst e; exact q) ⟨rfl, 0, _, _, rfl, rfl⟩
    rintro d rest r f N ⟨rfl, i, a, c, hr, rfl⟩ hN
    have hd : (enumD (us.map pairD))[i]? = some d := by
      have := congrArg List.head? hr
      rw [List.head?_drop] at this
      exact this.symm
    obtain ⟨x, hx, rfl⟩ := enumD_get hd
    rw [List.getElem?_map] at hx
    cases em : us[i]? with
    | none => rw [em] at hx; cases hx
    | some u =>
      rw [em] at hx
      cases hx
      have hu : u ∈ us := List.mem_of_getElem? em
      obtain ⟨h1, h2, h3⟩ := hv.mem u hu
      obtain ⟨a1, a2⟩ := hasc u hu
      have hi : i < us.length := (List.getElem?_eq_some_iff.mp em).1
      have et : cutD (us.map pairD) none (some (i : Int)) = (us.take i).map pairD := by rw [cutD_take, List.map_take]
      refine ⟨_, rfl, pairD u, rfl, .inl rfl, ?_⟩
      show if (!decide (u.1 ≠ u.2)) = true then _ else _
      rw [decide_eq_true h3]
      refine iteF ⟨.str u.1, atI0, ?_⟩
      have hms : ∀ s ∈ ms, asc s := fun s hs => (hm.path s hs).asc
      refine ⟨shaped_str a1, shaped_strsT hms, ?_⟩
      have e1 : ((pyA (ms.map D.str)).any fun z => PyData.eqv z (D.str u.1).py) = true := by rw [pyA_strs]; exact (any_strs ms u.1).trans (decide_eq_true h1)
      have e2 : ((pyA (ms.map D.str)).any fun z => PyData.eqv z (D.str u.2).py) = true := by rw [pyA_strs]; exact (any_strs ms u.2).trans (decide_eq_true h2)
      rw [e1]
      refine iteF ⟨.str u.2, atI_nat (j := 1) rfl, shaped_str a2, shaped_strsT hms, ?_⟩
      rw [e2]
      refine iteF ?_
      have hno : u ∉ us.take i := fun hz => by
        obtain ⟨j, hj, ez⟩ := List.getElem_of_mem hz
        rw [List.length_take] at hj
        rw [List.getElem_take] at ez
        have := List.pairwise_iff_getElem.mp hv.nd j i (by omega) hi (by omega)
        obtain ⟨_, e3⟩ := List.getElem?_eq_some_iff.mp em
        exact this (ez.trans e3.symm)
      have hta : ∀ s ∈ us.take i, ascU s := fun s hs => hasc s (List.mem_of_mem_take hs)
      have e3 : ((pyA (cutD (us.map pairD) none (some (i : Int)))).any fun z => PyData.eqv z (pairD u).py) = false := by rw [et, pyA_pairs]; exact (any_pairs _ u).trans (decide_eq_false hno)
      refine ⟨shaped_pair ⟨a1, a2⟩, by rw [et, pyA_pairs]; exact shaped_pairsT hta, ?_⟩
      rw [e3]
      refine hN _ _ ⟨rfl, i + 1, _, _, ?_, rfl⟩
      rw [← List.tail_drop, ← hr]
      rfl
/-! program_error -/
abbrev s_program_error : Stmt := topS 31
theorem sc_program_error : FnScope ["modules", "uses", "error"] ["modules", "uses"] (defScope s_program_error) := ⟨rfl, rfl, rfl, by decide +kernel, rfl, by decide +kernel, by decide +kernel⟩
def Sp_program_error : DSp := fun _ ds f Q => ∃ (ms : List Str) (us : List Us), ds = [.tup (ms.map D.str), .tup (us.map pairD)] ∧ PVm ms ∧ PVu ms us ∧ Q .none f
set_option maxHeartbeats 2000000 in
theorem ok_program_error (d : Df K mg "program_error" s_program_error) (c_uses_error : Cal P w K mg base 2 "uses_error" ["modules", "uses"] Sp_uses_error) (c_modules_error : Cal P w K mg base 4 "modules_error" ["modules"] Sp_modules_error) : Cal P w K mg base 5 "program_error" ["modules", "uses"] Sp_program_error := by
  obtain ⟨f, fd, F, m⟩ := d
  refine ⟨f, fd, dfn (k := 4) (S := Sp_program_error) F sc_program_error ?len (fun cdv A outer s H E hr => (dss_cons (ds_set false (i := 2) sc_program_error.nd (de_callC c_modules_error (hr.mono (by decide)) (da_cons (de_v 0) da_nil)))
      (dss_cons (ds_if (dp_isN (de_v 2) de_non) (dss_one (ds_set false (i := 2) sc_program_error.nd (de_callC c_uses_error (hr.mono (by decide)) (da_cons (de_v 0) (da_cons (de_v 1) da_nil))))) dss_nil)
      (dss_one (ds_ret (de_v 2)))))) ?h, F.kp, F.binds fun _ _ _ _ _ _ us hl => match us, hl with | [_, _], _ => rfl, m⟩
  case len =>
    intro g ds n Q h; obtain ⟨_, _, rfl, _⟩ := h; rfl
  case h =>
    intro g ds n Q h
    obtain ⟨ms, us, rfl, hm, hv, q⟩ := h
    exact ⟨ms, rfl, hm, ms, us, rfl, hm, hv, q⟩
/-! parts_of -/
abbrev s_parts_of : Stmt := topS 32
theorem sc_parts_of : FnScope ["modules", "found", "module", "names", "many"] ["modules"] (defScope s_parts_of) := ⟨rfl, rfl, rfl, by decide +kernel, rfl, by decide +kernel, by decide +kernel⟩
def isPart (ms : List Str) (x : Str) : Prop := ∃ m ∈ ms, ∃ k, 1 ≤ k ∧ k ≤ (Txt.split m ".").length ∧ x = Txt.join "." ((Txt.split m ".").take k)
structure Parts (ms ks : List Str) : Prop where
  nd : ks.Nodup
  mem : ∀ x, x ∈ ks ↔ isPart ms x
def Sp_parts_of : DSp := fun _ ds f Q => ∃ ms : List Str, ds = [.tup (ms.map D.str)] ∧ PVm ms ∧ ∀ ks, Parts ms ks → Q (.tup ((sortS ks).map D.str)) f
theorem join_take {m : Str} {k : Nat} (h : PathN 6 m) (h1 : 1 ≤ k) : PathN 6 (Txt.join "." ((Txt.split m ".").take k)) := by
  obtain ⟨s1, s2, s3, s4⟩ := h.splits
  refine ⟨_, by rw [List.length_take]; omega, by rw [List.length_take]; omega, fun n hn => s3 n (List.mem_of_mem_take hn), rfl⟩
theorem intsD_cons (lo : Int) (n : Nat) : intsD lo (n + 1) = .int lo :: intsD (lo + 1) n := by
  unfold intsD
  rw [List.range_succ_eq_map, List.map_cons, List.map_map]
  refine congr (congrArg _ (by simp)) ?_
  apply List.map_congr_left
  intro i _
  show D.int _ = D.int _
  congr 1
  show lo + ((i + 1 : Nat) : Int) = lo + 1 + (i : Int)
  omega
theorem putKs_strs (ks : List Str) (x : Str) : putKs (ks.map Sum.inr) (.inr x) = (putS ks x).map Sum.inr := by
  unfold putKs putS
  have e : (Sum.inr x : Key) ∈ ks.map Sum.inr ↔ x ∈ ks := by
    constructor
    · intro h
      obtain ⟨y, hy, e⟩ := List.mem_map.mp h
      cases e
      exact hy
    · exact List.mem_map_of_mem
  by_cases h : x ∈ ks
  · rw [if_pos (e.mpr h), if_pos h]
  · rw [if_neg fun z => h (e.mp z), if_neg h, List.map_append]
    rfl
theorem isPart.pathG {ms : List Str} {x : Str} (hm : ∀ m ∈ ms, PathN 6 m) (h : isPart ms x) : PathN 6 x := by
  obtain ⟨m, hmm, k, h1, h2, rfl⟩ := h
  exact join_take (hm m hmm) h1
theorem isPart.path {ms : List Str} {x : Str} (hm : PVm ms) (h : isPart ms x) : PathN 6 x := h.pathG hm.path
theorem Parts.len {ms ks : List Str} (hm : ∀ m ∈ ms, PathN 6 m) (h : Parts ms ks) : ks.length ≤ 6 * ms.length := by
  have hsub : ∀ x ∈ ks, x ∈ ms.flatMap (fun m => (List.range 6).map fun k => Txt.join "." ((Txt.split m ".").take (k + 1))) := fun x hx => by
    obtain ⟨m, h1, k, h2, h3, h4⟩ := (h.mem x).mp hx
    have := (hm m h1).splits.2.1
    refine List.mem_flatMap.mpr ⟨m, h1, List.mem_map.mpr ⟨k - 1, List.mem_range.mpr (by omega), ?_⟩⟩
    rw [h4, show k - 1 + 1 = k by omega]
  refine Nat.le_trans (nodup_sub_len h.nd hsub) ?_
  rw [List.length_flatMap]
  have : ∀ l : List Str, (l.map fun m => ((List.range 6).map fun k => Txt.join "." ((Txt.split m ".").take (k + 1))).length).sum = 6 * l.length := by
    intro l
    induction l with
    | nil => rfl
    | cons x l ih => rw [List.map_cons, List.sum_cons, ih, List.length_map, List.length_range, List.length_cons]; omega
  rw [this]
  exact Nat.le_refl _
set_option maxHeartbeats 2000000 in
theorem ok_parts_of (d : Df K mg "parts_of" s_parts_of) (m_sorted : mg "sorted" = none) (m_tuple : mg "tuple" = none) (m_range : mg "range" = none) (m_len : mg "len" = none) : Cal P w K mg base 1 "parts_of" ["modules"] Sp_parts_of := by
  obtain ⟨f, fd, F, m⟩ := d
  refine ⟨f, fd, dfn (k := 0) (S := Sp_parts_of) F sc_parts_of ?len (fun cdv A outer s H E hr => (dss_cons (ds_setD0 (i := 1) sc_parts_of.nd)
      (dss_cons (ds_for [] PassesOwn.never (di_seq (de_v 0)) (dg_name (i := 2) sc_parts_of.nd) (dss_cons (ds_set false (i := 3) sc_parts_of.nd (dl_split (de_v 2) de_str).e)
      (dss_one (ds_for [] PassesOwn.never (di_range2 m_range (da_cons de_int (da_cons (de_add (de_len m_len (da_cons (de_v 3) da_nil)) de_int) da_nil))) (dg_name (i := 4) sc_parts_of.nd) (dss_one (ds_setKey false hr (i := 1) (de_join de_str (de_sl (de_v 3) do_none (do_some (de_v 4)))) de_bl))))))
      (dss_one (ds_ret (de_callTy call_tuple_of sc_tuple (by rfl) m_tuple (by decide +kernel) (da_cons (de_sorted hr m_sorted (da_cons (de_v 1) da_nil)) da_nil))))))) ?h, F.kp, F.binds fun _ _ _ _ _ _ us hl => match us, hl with | [_], _ => rfl, m⟩
  case len =>
    intro g ds n Q h; obtain ⟨_, rfl, _⟩ := h; rfl
  case h =>
    intro g ds n Q h
    obtain ⟨ms, rfl, hm, q⟩ := h
    refine dFor_inv (fun rest r f => f = n ∧ ∃ (done rest' : List Str) (ks : List Str) (xs : List D) (a b c : Sl), rest = rest'.map D.str ∧ ms = done ++ rest' ∧ r = [.sh (.tup (ms.map D.str)), .od (ks.map Sum.inr) xs, a, b, c] ∧ Parts done ks ∧ ks.length ≤ 6 * done.length) _ _ _ ?_ ?_ ⟨rfl, [], ms, [], [], _, _, _, rfl, rfl, rfl, ⟨List.nodup_nil, fun x => ⟨fun h => by simp at h, fun ⟨_, h, _⟩ => by simp at h⟩⟩, by simp⟩
    · rintro d rest r n0 N ⟨en0, done, rest', ks, xs, a, b, c, hr, hms, rfl, hp, hl⟩ hN
      match rest', hr with
      | m :: rest', hr =>
      obtain ⟨rfl, rfl⟩ := List.cons.inj hr
      have hmm : m ∈ ms := by rw [hms]; simp
      have hpath := hm.path m hmm
      obtain ⟨s1, s2, s3, s4⟩ := hpath.splits
      refine ⟨_, rfl, by decide +kernel, Nat.le_trans hpath.len (by decide), ?_⟩
      refine ⟨?rng, ?_⟩
      case rng => simp only [List.length_map]; omega
      refine dFor_inv (fun rest2 r f => f = n0 ∧ ∃ (j : Nat) (ks2 : List Str) (xs2 : List D) (c : Sl), rest2 = intsD (1 + (j : Int)) ((Txt.split m ".").length - j) ∧ j ≤ (Txt.split m ".").length ∧ r = [.sh (.tup (ms.map D.str)), .od (ks2.map Sum.inr) xs2, .sh (.str m), .sh (.lst ((Txt.split m ".").map D.str)), c] ∧ ks2.Nodup ∧ (∀ x, x ∈ ks2 ↔ isPart done x ∨ ∃ k, 1 ≤ k ∧ k ≤ j ∧ x = Txt.join "." ((Txt.split m ".").take k)) ∧ ks2.length ≤ 6 * done.length + j) _ _ _ ?_ ?_ ⟨rfl, 0, ks, xs, _, ?_, Nat.zero_le _, rfl, hp.nd, fun x => ?_, by omega⟩
      · rintro d2 rest2 r f N2 ⟨rfl, j, ks2, xs2, c2, hr2, hj, rfl, nd2, mem2, len2⟩ hN2
        obtain ⟨t, ht⟩ : ∃ t, (Txt.split m ".").length - j = t + 1 := by
          cases e : (Txt.split m ".").length - j with
          | zero => rw [e] at hr2; cases hr2
          | succ t => exact ⟨t, rfl⟩
        rw [ht, intsD_cons] at hr2
        obtain ⟨rfl, rfl⟩ := List.cons.inj hr2
        have hdl : done.length ≤ 24 := by have := hm.len; rw [hms, List.length_append] at this; omega
        have ej : (1 + (j : Int)) = ((j + 1 : Nat) : Int) := by omega
        have et : cutD ((Txt.split m ".").map D.str) none (some (1 + (j : Int))) = ((Txt.split m ".").take (j + 1)).map D.str := by rw [ej, cutD_take, List.map_take]
        refine ⟨_, rfl, ks2.map Sum.inr, xs2, rfl, trivial, (Txt.split m ".").take (j + 1), et, join_names _ (fun n hn => Nat.le_trans (s3 n (List.mem_of_mem_take hn)).2.1 (by decide)) (by rw [List.length_take]; omega) _ (by decide +kernel), _, rfl, by rw [List.length_map]; exact Nat.le_trans (by omega : ks2.length ≤ 200) (by decide), ?_⟩
        rw [putKs_strs]
        refine hN2 _ _ ⟨rfl, j + 1, putS ks2 (Txt.join "." ((Txt.split m ".").take (j + 1))), _, _, ?_, by omega, rfl, putS_nodup nd2, fun x => ?_, ?_⟩
        · rw [show (Txt.split m ".").length - (j + 1) = t by omega, show (1 + ((j + 1 : Nat) : Int)) = 1 + (j : Int) + 1 by omega]
        · rw [putS_mem, mem2 x]
          constructor
          · rintro ((h | ⟨k, h1, h2, h3⟩) | h)
            · exact .inl h
            · exact .inr ⟨k, h1, by omega, h3⟩
            · exact .inr ⟨j + 1, by omega, by omega, h⟩
          · rintro (h | ⟨k, h1, h2, h3⟩)
            · exact .inl (.inl h)
            · by_cases hk : k = j + 1
              · subst hk; exact .inr h3
              · exact .inl (.inr ⟨k, h1, by omega, h3⟩)
        · have := putS_len ks2 (Txt.join "." ((Txt.split m ".").take (j + 1)))
          omega
      · rintro r f ⟨rfl, j, ks2, xs2, c2, hr2, hj, rfl, nd2, mem2, len2⟩
        have hjl : j = (Txt.split m ".").length := by
          cases e : (Txt.split m ".").length - j with
          | zero => omega
          | succ t => rw [e, intsD_cons] at hr2; cases hr2
        subst hjl
        refine hN _ _ ⟨en0, done ++ [m], rest', ks2, xs2, _, _, _, rfl, by rw [hms]; simp, rfl, ⟨nd2, fun x => ?_⟩, by rw [List.length_append]; simp; omega⟩
        rw [mem2 x]
        constructor
        · rintro (⟨m', h1, h2⟩ | ⟨k, h1, h2, h3⟩)
          · exact ⟨m', by simp [h1], h2⟩
          · exact ⟨m, by simp, k, h1, h2, h3⟩
        · rintro ⟨m', h1, k, h2, h3, h4⟩
          rcases List.mem_append.mp h1 with h | h
          · exact .inl ⟨m', h, k, h2, h3, h4⟩
          · rw [List.mem_singleton.mp h] at h3 h4
            exact .inr ⟨k, h2, h3, h4⟩
      · show intsD 1 (((((Txt.split m ".").map D.str).length : Int) + 1) - 1).toNat = _
        rw [List.length_map]
        congr 1
        omega
      · rw [hp.mem x]
        constructor
        · exact .inl
        · rintro (h | ⟨k, h1, h2, _⟩)
          · exact h
          · omega
    · rintro r f ⟨rfl, done, rest', ks, xs, a, b, c, hr, hms, rfl, hp, hl⟩
      obtain rfl : rest' = [] := by
        match rest', hr with
        | [], _ => rfl
      rw [List.append_nil] at hms
      subst hms
      have hk : (ks.map Sum.inr).map keyD = ks.map D.str := by rw [List.map_map]; rfl
      refine ⟨?_, ?_⟩
      · rw [hk]
        exact sorts_strs (Nat.le_trans hl (Nat.le_trans (Nat.mul_le_mul_left 6 hm.len) (by decide))) fun s hs => ((hp.mem s).mp hs).path hm |>.asc
      · rw [hk, sortD_strs]
        exact q ks hp
/-! Program.__init__ -/
abbrev s_Program___init__ : Stmt := clsS 33 0
theorem sc_Program___init__ : FnScope ["self", "modules", "uses", "error"] ["self", "modules", "uses"] (defScope s_Program___init__) := ⟨rfl, rfl, rfl, by decide +kernel, rfl, by decide +kernel, by decide +kernel⟩
def prgD (ms : List Str) (us : List Us) (ks : List Str) : D := .obj "Program" ["places", "links", "heads"] [.tup ((sortS ms).map D.str), .tup ((sortU us).map pairD), .tup ((sortS ks).map D.str)]
def Sp_Program___init__ : DSp := fun _ ds f Q => ∃ (ms : List Str) (us : List Us), ds = [.tup (ms.map D.str), .tup (us.map pairD)] ∧ PVm ms ∧ PVu ms us ∧ ∀ ks, Parts ms ks → Q (prgD ms us ks) f
set_option maxHeartbeats 2000000 in
theorem ok_Program___init__ (m_sorted : mg "sorted" = none) (m_tuple : mg "tuple" = none) {C_Program : Addr} (k_Program : KC K "Program" C_Program) (n_Program_heads : NoAttr K C_Program "heads") (n_Program_links : NoAttr K C_Program "links") (n_Program_places : NoAttr K C_Program "places") (c_parts_of : Cal P w K mg base 1 "parts_of" ["modules"] Sp_parts_of) (c_program_error : Cal P w K mg base 5 "program_error" ["modules", "uses"] Sp_program_error) (mg_Program : mg "Program" = some (.ref C_Program)) (d : ∃ f fd, Fun K "__init__" "Program.__init__" s_Program___init__ f fd ∧ Mk K C_Program f) : Mkr P w K mg base 6 "Program" ["self", "modules", "uses"] Sp_Program___init__ := by
  obtain ⟨f, fd, F, M⟩ := d
  refine ⟨C_Program, f, fd, M, dinit (k := 5) (S := Sp_Program___init__) (c := "Program") F sc_Program___init__ ?len (fun cdv A outer s H E hr => (dss_cons (ds_set false (i := 3) sc_Program___init__.nd (de_callC c_program_error (hr.mono (by decide)) (da_cons (de_v 1) (da_cons (de_v 2) da_nil))))
      (dss_cons (ds_if (dp_notN (de_v 3) de_non) (dss_one ds_never) dss_nil)
      (dss_cons (ds_fldO false (i := 0) k_Program n_Program_places (de_callTy call_tuple_of sc_tuple (by rfl) m_tuple (by decide +kernel) (da_cons (de_sorted hr m_sorted (da_cons (de_v 1) da_nil)) da_nil)))
      (dss_cons (ds_fldO false (i := 0) k_Program n_Program_links (de_callTy call_tuple_of sc_tuple (by rfl) m_tuple (by decide +kernel) (da_cons (de_sorted hr m_sorted (da_cons (de_v 2) da_nil)) da_nil)))
      (dss_one (ds_fldO false (i := 0) k_Program n_Program_heads (de_callC c_parts_of (hr.mono (by decide)) (da_cons (de_v 1) da_nil))))))))) ?h, F.binds fun _ _ _ _ _ _ us hl => match us, hl with | [_, _, _], _ => rfl, k_Program.ns, mg_Program⟩
  case len =>
    intro g ds n Q h; obtain ⟨_, _, rfl, _⟩ := h; rfl
  case h =>
    intro a g ds n Q h
    obtain ⟨ms, us, rfl, hm, hv, q⟩ := h
    refine ⟨ms, us, rfl, hm, hv, ?_⟩
    have hs1 : Sorts (ms.map D.str) := sorts_strs (Nat.le_trans hm.len (by decide)) fun s hs => (hm.path s hs).asc
    have hs2 : Sorts (us.map pairD) := sorts_pairs (Nat.le_trans hv.len (by decide)) (hv.asc hm)
    refine ⟨a, [], [], rfl, by decide, by decide, hs1, ?_⟩
    refine ⟨a, ["places"], _, rfl, by decide, by decide, hs2, ?_⟩
    refine ⟨a, ["places", "links"], _, rfl, by decide, by decide, ms, rfl, hm, fun ks hk => ?_⟩
    refine ⟨["places", "links", "heads"], _, rfl, ?_⟩
    have := q ks hk
    unfold prgD at this
    rw [← sortD_strs ms, ← sortD_pairs us] at this
    exact this
/-! Program.uses -/
abbrev s_Program_uses : Stmt := clsS 33 2
theorem sc_Program_uses : FnScope ["self"] ["self"] (defScope s_Program_uses) := ⟨rfl, rfl, rfl, by decide +kernel, rfl, by decide +kernel, by decide +kernel⟩
def Sp_Program_uses : DSp := fun _ ds f Q => ∃ (ms : List Str) (us : List Us) (ks : List Str), ds = [prgD ms us ks] ∧ Q (.tup ((sortU us).map pairD)) f
set_option maxHeartbeats 2000000 in
theorem ok_Program_uses {C_Program : Addr} (k_Program : KC K "Program" C_Program) (n_Program_links : NoAttr K C_Program "links") (d : ∃ p f fd, Fun K "uses" "Program.uses" s_Program_uses f fd ∧ PropOf K C_Program "uses" p f) : CalP P w K mg base 1 "Program" "uses" ["self"] Sp_Program_uses := by
  obtain ⟨p, f, fd, F, M⟩ := d
  refine ⟨C_Program, p, f, fd, k_Program, M, dfn (k := 0) (S := Sp_Program_uses) F sc_Program_uses ?len (fun cdv A outer s H E hr => (dss_one (ds_ret (de_fld k_Program n_Program_links (de_v 0))))) ?h, F.binds fun _ _ _ _ _ _ us hl => match us, hl with | [_], _ => rfl⟩
  case len =>
    intro g ds n Q h; obtain ⟨_, _, _, rfl, _⟩ := h; rfl
  case h =>
    intro g ds n Q h
    obtain ⟨ms, us, ks, rfl, q⟩ := h
    exact ⟨rfl, _, rfl, q⟩
/-! break_holds -/
abbrev s_break_holds : Stmt := topS 20
theorem sc_break_holds : FnScope ["program", "rule", "value"] ["program", "rule", "value"] (defScope s_break_holds) := ⟨rfl, rfl, rfl, by decide +kernel, rfl, by decide +kernel, by decide +kernel⟩
def Sp_break_holds : DSp := fun _ ds f Q => ∃ (ms ks : List Str) (us : List Us) (r : Rl) (v : D), ds = [prgD ms us ks, r.d, v] ∧ r.form ∧ (∀ u ∈ us, ascU u) ∧ v.good = true ∧ (∀ xs, v = .tup xs → xs.length ≤ 3000) ∧ Q (.bool (evP us r v)) f
theorem inU_sort (us : List Us) (x : D) : inU (sortU us) x = inU us x := by
  rw [Bool.eq_iff_iff, inU_iff, inU_iff]
  exact ⟨fun ⟨u, h, e⟩ => ⟨u, mem_sortU.mp h, e⟩, fun ⟨u, h, e⟩ => ⟨u, mem_sortU.mpr h, e⟩⟩
theorem evP_sort (us : List Us) (r : Rl) (v : D) : evP (sortU us) r v = evP us r v := by
  cases v with
  | tup xs =>
    show ((decide (0 < xs.length) && decide (xs.length < 24)) && (xs.all (inU (sortU us)) && evW r (xs.map toU2))) = ((decide (0 < xs.length) && decide (xs.length < 24)) && (xs.all (inU us) && evW r (xs.map toU2)))
    rw [show inU (sortU us) = inU us from funext fun x => inU_sort us x]
  | _ => rfl
set_option maxHeartbeats 2000000 in
theorem ok_break_holds (d : Df K mg "break_holds" s_break_holds) (c_is_evidence : Cal P w K mg base 4 "is_evidence" ["uses", "rule", "value"] Sp_is_evidence) (c_Program_uses : CalP P w K mg base 1 "Program" "uses" ["self"] Sp_Program_uses) : Cal P w K mg base 5 "break_holds" ["program", "rule", "value"] Sp_break_holds := by
  obtain ⟨f, fd, F, m⟩ := d
  refine ⟨f, fd, dfn (k := 4) (S := Sp_break_holds) F sc_break_holds ?len (fun cdv A outer s H E hr => (dss_one (ds_ret (de_callC c_is_evidence (hr.mono (by decide)) (da_cons (de_prop c_Program_uses (hr.mono (by decide)) (de_v 0)) (da_cons (de_v 1) (da_cons (de_v 2) da_nil))))))) ?h, F.kp, F.binds fun _ _ _ _ _ _ us hl => match us, hl with | [_, _, _], _ => rfl, m⟩
  case len =>
    intro g ds n Q h; obtain ⟨_, _, _, _, _, rfl, _⟩ := h; rfl
  case h =>
    intro g ds n Q h
    obtain ⟨ms, ks, us, r, v, rfl, hr, hus, hv, hl, q⟩ := h
    refine ⟨rfl, ?_⟩
    refine ⟨ms, us, ks, rfl, sortU us, r, v, rfl, hr, fun v hv => hus v (mem_sortU.mp hv), hv, hl, ?_⟩
    rw [evP_sort]
    exact q
theorem emp_all {α : Type} (b : α → Bool) : ∀ l : List α, (l.filter fun x => !b x).isEmpty = l.all b
  | [] => rfl
  | x :: l => by
    rw [List.filter_cons, List.all_cons]
    cases b x with
    | true => exact emp_all b l
    | false => rfl
/-! _law_same -/
abbrev s__law_same : Stmt := topS 52
theorem sc__law_same : FnScope ["_law_found", "_law_due", "_law_a", "_law_b"] ["_law_found", "_law_due"] (defScope s__law_same) := ⟨rfl, rfl, rfl, by decide +kernel, rfl, by decide +kernel, by decide +kernel⟩
structure Tys (x : D) (tn : String) : Prop where
  t : x.tyN = some tn
  tup : kitB tn "tuple" = some x.isTup
  lst : kitB tn "list" = some x.isLst
  str : kitB tn "str" = some x.isSt
  bl : kitB tn "bool" = some x.isBl
  int : kitB tn "int" = some x.isIn
  tl : ["tuple", "list"].foldr (fun n r => (kitB tn n).bind fun c => if c then some true else r) (some false) = some (x.isTup || x.isLst)
theorem tys_of {x : D} (h : x.tyd = true) : ∃ t, Tys x t := by
  cases x <;> first
    | (cases h; done)
    | (refine ⟨_, rfl, ?_, ?_, ?_, ?_, ?_, ?_⟩ <;> simp only [D.isTup, D.isLst, D.isSt, D.isBl, D.isIn, Bool.or_false, Bool.or_true] <;> decide +kernel)
def SpR__law_same : Nat → DSp
  | 0 => fun _ _ _ _ => False
  | n + 1 => fun g ds f Q => ∃ x y : D, ds = [x, y] ∧ x.tyd = true ∧ y.plain = true ∧ y.dep ≤ n ∧ Q (.bool (deqD x y)) f
def Sp__law_same : DSp := SpR__law_same 7
set_option maxHeartbeats 2000000 in
theorem ok__law_same_step {n : Nat} (d : Df K mg "_law_same" s__law_same) (m_bool : mg "bool" = none) (m_isinstance : mg "isinstance" = none) (m_int : mg "int" = none) (m_str : mg "str" = none) (m_list : mg "list" = none) (m_tuple : mg "tuple" = none) (m_zip : mg "zip" = none) (m_len : mg "len" = none) (c__law_same : Cal P w K mg base (1 + n) "_law_same" ["_law_found", "_law_due"] (SpR__law_same n)) : Cal P w K mg base (1 + n + 1) "_law_same" ["_law_found", "_law_due"] (SpR__law_same (n + 1)) := by
  obtain ⟨f, fd, F, m⟩ := d
  refine ⟨f, fd, dfn (k := 1 + n) (S := SpR__law_same (n + 1)) F sc__law_same ?len (fun cdv A outer s H E hr => (dss_cons (ds_if (dp_val (de_isiT m_isinstance (da_cons (de_v 1) (da_cons (de_tup (da_cons (de_bltn (v := .ty "tuple") (u := .type "tuple") (by rfl) m_tuple (by decide +kernel) rfl) (da_cons (de_bltn (v := .ty "list") (u := .type "list") (by rfl) m_list (by decide +kernel) rfl) da_nil))) da_nil)))) (dss_cons (ds_if (DW.p (dw_or (dp_ne hr.units (de_isi m_isinstance (da_cons (de_v 0) (da_cons (de_bltn (v := .ty "tuple") (u := .type "tuple") (by rfl) m_tuple (by decide +kernel) rfl) da_nil))) (de_isi m_isinstance (da_cons (de_v 1) (da_cons (de_bltn (v := .ty "tuple") (u := .type "tuple") (by rfl) m_tuple (by decide +kernel) rfl) da_nil)))) (dw_or1 (dp_ne hr.units (de_isi m_isinstance (da_cons (de_v 0) (da_cons (de_bltn (v := .ty "list") (u := .type "list") (by rfl) m_list (by decide +kernel) rfl) da_nil))) (de_isi m_isinstance (da_cons (de_v 1) (da_cons (de_bltn (v := .ty "list") (u := .type "list") (by rfl) m_list (by decide +kernel) rfl) da_nil))))))) (dss_one (ds_ret de_bl)) dss_nil)
      (dss_one (ds_ret (de_and (de_eq hr.units (de_len m_len (da_cons (de_v 0) da_nil)) (de_len m_len (da_cons (de_v 1) da_nil))) (de_one (de_eqE hr.units (dl_lc (own := [("_law_a", 2), ("_law_b", 3)]) rfl sc__law_same.nd (di_zip m_zip (da_cons (de_v 0) (da_cons (de_v 1) da_nil))) (blkOk_by (own := [("_law_a", 2), ("_law_b", 3)]) (N := ["_law_found", "_law_due", "_law_a", "_law_b"]) (sc := defScope s__law_same) (by decide +kernel)) (fun _ _ _ _ _ => dg_tup rfl (dgs_cons (dg_name (i := 2) sc__law_same.nd) (dgs_cons (dg_name (i := 3) sc__law_same.nd) dgs_nil))) (fun _ _ _ _ _ => dts_one (dp_not (dp_val (de_callC c__law_same hr (da_cons (de_v 2) (da_cons (de_v 3) da_nil)))))) (fun _ _ _ _ _ => de_int)).e (dl_lst da_nil).e)))))) dss_nil)
      (dss_cons (ds_if (dp_isN (de_v 1) de_non) (dss_one (ds_ret (de_isN (de_v 0) de_non))) dss_nil)
      (dss_cons (ds_if (dp_val (de_isi m_isinstance (da_cons (de_v 1) (da_cons (de_bltn (v := .ty "str") (u := .type "str") (by rfl) m_str (by decide +kernel) rfl) da_nil)))) (dss_one (ds_ret (de_and (de_isi m_isinstance (da_cons (de_v 0) (da_cons (de_bltn (v := .ty "str") (u := .type "str") (by rfl) m_str (by decide +kernel) rfl) da_nil))) (de_one (de_eq hr.units (de_v 0) (de_v 1)))))) dss_nil)
      (dss_one (ds_ret (de_and (de_isi m_isinstance (da_cons (de_v 0) (da_cons (de_bltn (v := .ty "int") (u := .type "int") (by rfl) m_int (by decide +kernel) rfl) da_nil))) (de_and (de_eq hr.units (de_isi m_isinstance (da_cons (de_v 0) (da_cons (de_bltn (v := .ty "bool") (u := .type "bool") (by rfl) m_bool (by decide +kernel) rfl) da_nil))) (de_isi m_isinstance (da_cons (de_v 1) (da_cons (de_bltn (v := .ty "bool") (u := .type "bool") (by rfl) m_bool (by decide +kernel) rfl) da_nil)))) (de_one (de_eq hr.units (de_v 0) (de_v 1))))))))))) ?h, F.kp, F.binds fun _ _ _ _ _ _ us hl => match us, hl with | [_, _], _ => rfl, m⟩
  case len =>
    intro g ds n Q h
    cases n <;> first | exact h.elim | skip
    all_goals (obtain ⟨_, _, rfl, _⟩ := h; rfl)
  case h =>
    intro g ds n0 Q h
    obtain ⟨x, y, rfl, hx, hy, hd, q⟩ := h
    have hyt : y.tyd = true := D.plain_tyd hy
    obtain ⟨ty, Ty⟩ := tys_of hyt
    obtain ⟨tx, Tx⟩ := tys_of hx
    refine ⟨by decide, ty, ["tuple", "list"], y.isTup || y.isLst, Ty.t, rfl, Ty.tl, ?_⟩
    have seqc : ∀ (xs ys : List D), tydA xs = true → plainA ys = true → depA ys + 1 ≤ n → ∀ (zs acc : List D), (∀ z ∈ zs, ∃ a b, z = .tup [a, b] ∧ a ∈ xs ∧ b ∈ ys) →
        ∀ (r : Sg) (Q' : List D → Nat → Prop), r.length = 4 → Q' (acc ++ (zs.filter fun z => !zeq z).map fun _ => D.int 1) n0 →
        dLcGo g (tgTup [tgN 2, tgN 3]) (dNot (dTest (dCall (SpR__law_same n) (dCons (dVar 2) (dCons (dVar 3) dNil))))) (dC (D.int 1)) r zs acc n0 Q' := by
      intro xs ys hxs hys hdp zs
      induction zs with
      | nil => intro acc _ r Q' _ h; rw [List.filter_nil, List.map_nil, List.append_nil] at h; exact h
      | cons z zs ih =>
        intro acc hz r Q' hr h
        obtain ⟨a, b, rfl, ha, hb⟩ := hz z (by simp)
        obtain ⟨r0, r1, r2, r3, rfl⟩ : ∃ r0 r1 r2 r3, r = [r0, r1, r2, r3] := by
          match r, hr with
          | [r0, r1, r2, r3], _ => exact ⟨r0, r1, r2, r3, rfl⟩
        obtain ⟨n, rfl⟩ : ∃ n', n = n' + 1 := ⟨n - 1, by omega⟩
        refine ⟨a, b, rfl, tydA_mem hxs ha, plainA_mem hys hb, Nat.le_trans (depA_mem hb) (by omega), ?_⟩
        show if (!deqD a b) = true then _ else _
        have ez : zeq (.tup [a, b]) = deqD a b := rfl
        rw [List.filter_cons, ez] at h
        cases hq : deqD a b with
        | true =>
          rw [hq] at h
          exact iteF (ih acc (fun z hz' => hz z (by simp [hz'])) _ Q' rfl h)
        | false =>
          rw [hq] at h
          refine iteT (ih (acc ++ [D.int 1]) (fun z hz' => hz z (by simp [hz'])) _ Q' rfl ?_)
          rw [List.append_assoc]
          exact h
    have zmem : ∀ (xs ys : List D), ∀ z ∈ zipD xs ys, ∃ a b, z = .tup [a, b] ∧ a ∈ xs ∧ b ∈ ys := fun xs ys z hz => by
      unfold zipD at hz
      obtain ⟨p, hp, rfl⟩ := List.mem_map.mp hz
      exact ⟨p.1, p.2, rfl, (List.of_mem_zip hp).1, (List.of_mem_zip hp).2⟩
    have zall : ∀ (xs ys : List D), xs.length = ys.length → (zipD xs ys).all zeq = deqA xs ys := fun xs ys h => by
      rw [deqA_all h]
      unfold zipD
      rw [List.all_map]
      rfl
    have fin : ∀ (xs ys : List D) (x y : D), tydA xs = true → plainA ys = true → depA ys + 1 ≤ n → ys.length ≤ 100000 → xs.length = ys.length → Q (.bool (deqA xs ys)) n0 →
        ((zipD xs ys).length ≤ lim ∧ dLcGo g (tgTup [tgN 2, tgN 3]) (dNot (dTest (dCall (SpR__law_same n) (dCons (dVar 2) (dCons (dVar 3) dNil))))) (dC (D.int 1)) [.sh x, .sh y, .no, .no] (zipD xs ys) [] n0 fun ds f1 => ([] : List D).length ≤ lim ∧ oEqE false (.lst ds) (.lst []) fun z => Q z f1) := by
      intro xs ys x y h1 h2 h3 h4 h5 h6
      refine ⟨by rw [zipD_len]; exact Nat.le_trans (Nat.min_le_right _ _) (Nat.le_trans h4 (by decide)), ?_⟩
      refine seqc xs ys h1 h2 h3 (zipD xs ys) [] (zmem xs ys) _ _ rfl ⟨Nat.zero_le _, _, rfl, rfl, ?_⟩
      rw [List.nil_append]
      show Q (.bool (((zipD xs ys).filter fun z => !zeq z).map (fun _ => D.int 1)).isEmpty) n0
      rw [List.isEmpty_map, emp_all, zall xs ys h5]
      exact h6
    cases y with
    | none =>
      cases x <;> first | (cases hx; done) | exact q
    | str b =>
      cases x <;> first
        | (cases hx; done)
        | exact ⟨_, _, Ty.t, Ty.str, _, _, Tx.t, Tx.str, q⟩
    | bool b =>
      cases x <;> first
        | (cases hx; done)
        | exact ⟨_, _, Ty.t, Ty.str, _, _, Tx.t, Tx.int, q⟩
        | exact ⟨_, _, Ty.t, Ty.str, _, _, Tx.t, Tx.int, _, _, Tx.t, Tx.bl, _, _, Ty.t, Ty.bl, q⟩
    | int b =>
      cases x <;> first
        | (cases hx; done)
        | exact ⟨_, _, Ty.t, Ty.str, _, _, Tx.t, Tx.int, q⟩
        | exact ⟨_, _, Ty.t, Ty.str, _, _, Tx.t, Tx.int, _, _, Tx.t, Tx.bl, _, _, Ty.t, Ty.bl, q⟩
    | tup ys =>
      have hp := Bool.and_eq_true_iff.mp hy
      cases x with
      | tup xs =>
        refine ⟨_, _, Tx.t, Tx.tup, _, _, Ty.t, Ty.tup, _, _, Tx.t, Tx.lst, _, _, Ty.t, Ty.lst, ?_⟩
        show if decide ((xs.length : Int) = (ys.length : Int)) = true then _ else _
        by_cases hl : (xs.length : Int) = (ys.length : Int)
        · rw [decide_eq_true hl]
          exact iteT (fin xs ys _ _ hx hp.2 hd (of_decide_eq_true hp.1) (by omega) q)
        · rw [decide_eq_false hl]
          refine iteF ?_
          have := deqA_len (xs := xs) (ys := ys) (fun e => hl (by rw [e]))
          rw [show deqD (.tup xs) (.tup ys) = deqA xs ys from rfl, this] at q
          exact q
      | obj _ _ _ => cases hx
      | exn _ _ _ => cases hx
      | any _ => cases hx
      | _ => exact ⟨_, _, Tx.t, Tx.tup, _, _, Ty.t, Ty.tup, q⟩
    | lst ys =>
      have hp := Bool.and_eq_true_iff.mp hy
      cases x with
      | lst xs =>
        refine ⟨_, _, Tx.t, Tx.tup, _, _, Ty.t, Ty.tup, _, _, Tx.t, Tx.lst, _, _, Ty.t, Ty.lst, ?_⟩
        show if decide ((xs.length : Int) = (ys.length : Int)) = true then _ else _
        by_cases hl : (xs.length : Int) = (ys.length : Int)
        · rw [decide_eq_true hl]
          exact iteT (fin xs ys _ _ hx hp.2 hd (of_decide_eq_true hp.1) (by omega) q)
        · rw [decide_eq_false hl]
          refine iteF ?_
          have := deqA_len (xs := xs) (ys := ys) (fun e => hl (by rw [e]))
          rw [show deqD (.lst xs) (.lst ys) = deqA xs ys from rfl, this] at q
          exact q
      | tup xs => exact ⟨_, _, Tx.t, Tx.tup, _, _, Ty.t, Ty.tup, q⟩
      | obj _ _ _ => cases hx
      | exn _ _ _ => cases hx
      | any _ => cases hx
      | _ => exact ⟨_, _, Tx.t, Tx.tup, _, _, Ty.t, Ty.tup, _, _, Tx.t, Tx.lst, _, _, Ty.t, Ty.lst, q⟩
    | _ => cases hy
theorem ok__law_same (d : Df K mg "_law_same" s__law_same) (m_bool : mg "bool" = none) (m_isinstance : mg "isinstance" = none) (m_int : mg "int" = none) (m_str : mg "str" = none) (m_list : mg "list" = none) (m_tuple : mg "tuple" = none) (m_zip : mg "zip" = none) (m_len : mg "len" = none) : Cal P w K mg base 8 "_law_same" ["_law_found", "_law_due"] Sp__law_same := by
  have all : ∀ n, Cal P w K mg base (1 + n) "_law_same" ["_law_found", "_law_due"] (SpR__law_same n) := by
    intro n
    induction n with
    | zero => exact cal_noneK 0 d (fun f fd F => F.binds fun _ _ _ _ _ _ us hl => match us, hl with | [_, _], _ => rfl) ⟨_, sc__law_same⟩
    | succ n ih => exact ok__law_same_step d m_bool m_isinstance m_int m_str m_list m_tuple m_zip m_len ih
  exact all 7
/-! _law_all_judged -/
abbrev s__law_all_judged : Stmt := topS 61
theorem sc__law_all_judged : FnScope ["_law_reel_here", "_law_modules_here", "_law_uses_here", "_law_way_here", "_law_rule", "_law_program", "_law_value", "_law_kept", "_law_due"] ["_law_reel_here", "_law_modules_here", "_law_uses_here", "_law_way_here", "_law_rule"] (defScope s__law_all_judged) := ⟨rfl, rfl, rfl, by decide +kernel, rfl, by decide +kernel, by decide +kernel⟩
def Sp__law_all_judged : DSp := fun g ds f Q => ∃ (k : Dk) (ms : List Str) (us way : List Us) (r : Rl), g = some k ∧ ds = [.any (.ref k.a), .lst (ms.map D.str), .lst (us.map pairD), .lst (way.map pairD), r.d] ∧ PVm ms ∧ PVu ms us ∧ us.length ≤ 110 ∧ way.length ≤ 24 ∧ (∀ u ∈ way, u ∈ us) ∧ r.form ∧ ovlL r.par = false ∧ 200 ≤ f ∧
  ∀ f', f ≤ f' + 200 → Q (.bool true) f'
set_option maxHeartbeats 2000000 in
theorem ok__law_all_judged (d : Df K mg "_law_all_judged" s__law_all_judged) (m_repr : mg "repr" = none) (m_tuple : mg "tuple" = none) {C_Program : Addr} (k_Program : KC K "Program" C_Program) (c__law_values : Cal P w K mg base 8 "_law_values" ["_law_reel_here", "_law_uses_here", "_law_way_here"] Sp__law_values) (c__law_same : Cal P w K mg base 8 "_law_same" ["_law_found", "_law_due"] Sp__law_same) (c_break_holds : Cal P w K mg base 5 "break_holds" ["program", "rule", "value"] Sp_break_holds) (c__law_evidence : Cal P w K mg base 4 "_law_evidence" ["_law_uses_here", "_law_rule", "_law_value"] Sp__law_evidence) (c_Program___init__ : Mkr P w K mg base 6 "Program" ["self", "modules", "uses"] Sp_Program___init__) : CalG P w K mg base 9 "_law_all_judged" ["_law_reel_here", "_law_modules_here", "_law_uses_here", "_law_way_here", "_law_rule"] Sp__law_all_judged := by
  obtain ⟨f, fd, F, m⟩ := d
  refine ⟨f, fd, dfnG (k := 8) (S := Sp__law_all_judged) F sc__law_all_judged ?len (fun cdv A outer s H E hr gd => (dss_cons (ds_set false (i := 5) sc__law_all_judged.nd (de_make c_Program___init__ (hr.mono (by decide)) (da_cons (de_callTy call_tuple_of sc_tuple (by rfl) m_tuple (by decide +kernel) (da_cons (de_v 1) da_nil)) (da_cons (de_callTy call_tuple_of sc_tuple (by rfl) m_tuple (by decide +kernel) (da_cons (de_v 2) da_nil)) da_nil))))
      (dss_cons (ds_for [] PassesOwn.never (di_seq (de_callC c__law_values (hr.mono (by decide)) (da_cons (de_v 0) (da_cons (de_v 2) (da_cons (de_v 3) da_nil))))) (dg_name (i := 6) sc__law_all_judged.nd) (dss_cons (ds_par false (i := 7) (j := 8) sc__law_all_judged.nd (de_repr gd hr.units m_repr (da_cons (de_v 6) da_nil)) (de_callC c__law_evidence (hr.mono (by decide)) (da_cons (de_v 2) (da_cons (de_v 4) (da_cons (de_v 6) da_nil)))))
      (dss_one (ds_if (DW.p (dw_or (dp_not (dp_val (de_callC c__law_same (hr.mono (by decide)) (da_cons (de_callC c_break_holds (hr.mono (by decide)) (da_cons (de_v 5) (da_cons (de_v 4) (da_cons (de_v 6) da_nil)))) (da_cons (de_v 8) da_nil))))) (dw_or1 (dp_ne hr.units (de_repr gd hr.units m_repr (da_cons (de_v 6) da_nil)) (de_v 7))))) (dss_one (ds_ret de_bl)) dss_nil))))
      (dss_one (ds_ret de_bl))))) ?h, F.kp, F.binds fun _ _ _ _ _ _ us hl => match us, hl with | [_, _, _, _, _], _ => rfl, m⟩
  case len =>
    intro g ds n Q h; obtain ⟨_, _, _, _, _, _, rfl, _⟩ := h; rfl
  case h =>
    intro g ds n Q h
    obtain ⟨k, ms, us, way, r, rfl, rfl, hm, hu, hul, hwl, hw, hr, ho, hf, q⟩ := h
    have au := hu.asc hm
    have m60 : ∀ s ∈ ms, s.length ≤ 60 := fun s h => Nat.le_trans (hm.path s h).len (by decide : 9 * 6 ≤ 60)
    have u60 : ∀ u ∈ us, U60 u := fun u h => ⟨au u h, m60 _ (hu.mem u h).1, m60 _ (hu.mem u h).2.1⟩
    refine ⟨ms, us, rfl, hm, hu, fun ks hk => ?_⟩
    refine ⟨k, us, way, rfl, rfl, by omega, by omega, u60, fun u h => u60 u (hw u h), by omega, fun vs f4 hvl hvb hf4 => ?_⟩
    simp only [List.set_cons_succ, List.set_cons_zero, setsR, startR, List.map_cons, List.map_nil, List.cons_append, List.nil_append, List.replicate_succ, List.replicate_zero, List.length_cons, List.length_nil, Nat.reduceAdd, Nat.reduceSub]
    refine dFor_inv (fun rest rr f => f = f4 ∧ (∀ v ∈ rest, VB 6 v) ∧ ∃ x y z : Sl, rr = [.sh (.any (.ref k.a)), .sh (.lst (ms.map D.str)), .sh (.lst (us.map pairD)), .sh (.lst (way.map pairD)), .sh r.d, .sh (prgD ms us ks), x, y, z]) vs _ _ ?_ ?_ ⟨rfl, hvb, _, _, _, rfl⟩
    · rintro v rest rr f N2 ⟨rfl, hr2, x, y, z, rfl⟩ hN2
      have hv := hr2 v (by simp)
      obtain ⟨so, sw, sd⟩ := hv.sh
      refine ⟨_, rfl, so, sw, sd, ?_⟩
      refine ⟨us, r, v, rfl, hr, ho, au, hv.good, hv.len, ?_⟩
      simp only [List.set_cons_succ, List.set_cons_zero, setsR, startR, List.map_cons, List.map_nil, List.cons_append, List.nil_append, List.replicate_succ, List.replicate_zero, List.length_cons, List.length_nil, Nat.reduceAdd, Nat.reduceSub]
      refine ⟨ms, ks, us, r, v, rfl, hr, au, hv.good, hv.len, ?_⟩
      rw [evP_eq (ms := ms) (fun u h => ⟨(hu.mem u h).1, (hu.mem u h).2.1⟩) hm.len hr v]
      refine ⟨_, _, rfl, rfl, rfl, Nat.zero_le _, ?_⟩
      rw [deqD_refl _ rfl]
      refine iteF ⟨so, sw, sd, ?_⟩
      show if (xb true (decide (reprT v = reprT v))) = true then _ else _
      rw [decide_eq_true rfl]
      exact iteF (hN2 _ _ ⟨rfl, fun z hz => hr2 z (List.mem_cons_of_mem _ hz), _, _, _, rfl⟩)
    · rintro rr f ⟨rfl, _, x, y, z, rfl⟩
      exact q _ hf4
/-! _law_names -/
abbrev s__law_names : Stmt := topS 39
theorem sc__law_names : FnScope ["_law_reel_here", "_law_many", "_law_letters", "_law_size", "_law_same_here", "_law_place", "_law_first", "_law_base", "_law_found", "_law_turn", "_law_row", "_law_k"] ["_law_reel_here", "_law_many"] (defScope s__law_names) := ⟨rfl, rfl, rfl, by decide +kernel, rfl, by decide +kernel, by decide +kernel⟩
def chr1 (c : Nat) : Str := ⟨#[c]⟩
theorem letter_eq {r : Int} (h0 : 0 ≤ r) (h1 : r < 26) : atI (Str.ofString "abcdefghijklmnopqrstuvwxyz").cps.toList r = some (97 + r.toNat) := by
  obtain ⟨j, rfl⟩ : ∃ j : Nat, r = j := ⟨r.toNat, by omega⟩
  refine atI_nat ?_
  rw [show (Str.ofString "abcdefghijklmnopqrstuvwxyz").cps.toList = List.range' 97 26 from by decide +kernel]
  rw [List.getElem?_range' (by omega)]
  show some (97 + 1 * j) = some (97 + ((j : Int)).toNat)
  rw [Int.toNat_natCast, Nat.one_mul]
theorem cs_of : ∀ {ys : List D}, (∀ y ∈ ys, ∃ c : Nat, y = .str (chr1 c) ∧ 97 ≤ c ∧ c ≤ 122) → ∃ cs : List Nat, ys = cs.map (fun c => D.str (chr1 c)) ∧ ∀ c ∈ cs, 97 ≤ c ∧ c ≤ 122
  | [], _ => ⟨[], rfl, by simp⟩
  | y :: ys, h => by
    obtain ⟨c, rfl, hc⟩ := h y (by simp)
    obtain ⟨cs, rfl, hcs⟩ := cs_of (ys := ys) fun z hz => h z (by simp [hz])
    exact ⟨c :: cs, rfl, fun d hd => (List.mem_cons.mp hd).elim (fun e => e ▸ hc) (hcs d)⟩
theorem cd_codes (cs : List Nat) : cd (Txt.join "" (cs.map chr1)) = cs := by
  rw [join_nil_cd, List.map_map]
  induction cs with
  | nil => rfl
  | cons c cs ih => rw [List.map_cons, List.flatten_cons, ih]; rfl
theorem codes_name {cs : List Nat} (h : ∀ c ∈ cs, 97 ≤ c ∧ c ≤ 122) (h1 : 1 ≤ cs.length) (h2 : cs.length ≤ 8) : isName (Txt.join "" (cs.map chr1)) :=
  letters_name _ (fun n hn => by
    obtain ⟨c, hc, rfl⟩ := List.mem_map.mp hn
    exact ⟨c, rfl, h c hc⟩) (by rw [List.length_map]; exact h1) (by rw [List.length_map]; exact h2)
def Sp__law_names : DSp := fun g ds f Q => ∃ (k : Dk) (m : Nat), g = some k ∧ ds = [.any (.ref k.a), .int m] ∧ m ≤ 26 ∧ 250 ≤ f ∧
  ∀ (l : List Str) f', l.length = m → (∀ n ∈ l, isName n) → l.Nodup → f ≤ f' + 250 → Q (.lst (l.map D.str)) f'
set_option maxHeartbeats 2000000 in
theorem ok__law_names (d : Df K mg "_law_names" s__law_names) (m_range : mg "range" = none) (m_int : mg "int" = none) (m_list : mg "list" = none) (c__law_pick : Cal P w K mg base 2 "_law_pick" ["_law_reel_here", "_law_some"] Sp__law_pick) (c__law_pull : Cal P w K mg base 1 "_law_pull" ["_law_reel_here", "_law_many"] Sp__law_pull) : Cal P w K mg base 3 "_law_names" ["_law_reel_here", "_law_many"] Sp__law_names := by
  obtain ⟨f, fd, F, m⟩ := d
  refine ⟨f, fd, dfn (k := 2) (S := Sp__law_names) F sc__law_names ?len (fun cdv A outer s H E hr => (dss_cons (ds_set false (i := 2) sc__law_names.nd de_str)
      (dss_cons (ds_par false (i := 3) (j := 4) sc__law_names.nd (de_add de_int (de_callC c__law_pull (hr.mono (by decide)) (da_cons (de_v 0) (da_cons de_int da_nil)))) (de_eq hr.units (de_callC c__law_pull (hr.mono (by decide)) (da_cons (de_v 0) (da_cons de_int da_nil))) de_int))
      (dss_cons (ds_par false (i := 5) (j := 6) sc__law_names.nd (de_callC c__law_pull (hr.mono (by decide)) (da_cons (de_v 0) (da_cons (de_v 3) da_nil))) (de_callC c__law_pull (hr.mono (by decide)) (da_cons (de_v 0) (da_cons de_int da_nil))))
      (dss_cons (ds_parSL (i := 7) (j := 8) sc__law_names.nd ((dl_lc (own := [("_law_k", 11)]) rfl sc__law_names.nd (di_range1 m_range (da_cons (de_v 3) da_nil)) (blkOk_by (own := [("_law_k", 11)]) (N := ["_law_reel_here", "_law_many", "_law_letters", "_law_size", "_law_same_here", "_law_place", "_law_first", "_law_base", "_law_found", "_law_turn", "_law_row", "_law_k"]) (sc := defScope s__law_names) (by decide +kernel)) (fun _ _ _ _ _ => dg_name (i := 11) sc__law_names.nd) (fun _ _ _ _ _ => dts_nil) (fun _ _ _ _ _ => (de_callC c__law_pick (hr.mono (by decide)) (da_cons (de_v 0) (da_cons (de_v 2) da_nil))))).e) (dl_lst da_nil))
      (dss_cons (ds_for [] PassesOwn.never (di_range1 m_range (da_cons (de_v 1) da_nil)) (dg_name (i := 9) sc__law_names.nd) (dss_cons (ds_setL false (i := 10) sc__law_names.nd (dl_listOf m_list (da_cons (de_v 7) da_nil)))
      (dss_cons (ds_if (dp_not (dp_val (de_v 4))) (dss_one (ds_setLc (i := 10) (own := [("_law_k", 11)]) sc__law_names.nd (di_range1 m_range (da_cons (de_v 3) da_nil)) (blkOk_by (own := [("_law_k", 11)]) (N := ["_law_reel_here", "_law_many", "_law_letters", "_law_size", "_law_same_here", "_law_place", "_law_first", "_law_base", "_law_found", "_law_turn", "_law_row", "_law_k"]) (sc := defScope s__law_names) (by decide +kernel)) (fun _ _ _ _ _ => dg_name (i := 11) sc__law_names.nd) (fun _ _ _ _ _ => dts_nil) (fun _ _ _ _ _ => (de_callC c__law_pick (hr.mono (by decide)) (da_cons (de_v 0) (da_cons (de_v 2) da_nil)))) (fun _ _ _ h => snd_setL (m := false) (i := 10) h))) dss_nil)
      (dss_cons (ds_setIx false (i := 10) (de_v 5) (de_ix (de_v 2) (de_mod (de_callTy call_int1 sc_int (by rfl) m_int PyProof.Rows.boot_int (da_cons (de_add (de_v 6) (de_v 9)) da_nil)) de_int)))
      (dss_one (ds_app true (i := 8) (de_join de_str (de_v 10))))))))
      (dss_one (ds_ret (de_v 8))))))))) ?h, F.kp, F.binds fun _ _ _ _ _ _ us hl => match us, hl with | [_, _], _ => rfl, m⟩
  case len =>
    intro g ds n Q h; obtain ⟨_, _, _, rfl, _⟩ := h; rfl
  case h =>
    intro g ds n Q h
    obtain ⟨k, m, rfl, rfl, hm, hf, q⟩ := h
    obtain ⟨f1, rfl⟩ : ∃ f1, n = f1 + 250 := ⟨n - 250, by omega⟩
    have lc : ∀ c ∈ (Str.ofString "abcdefghijklmnopqrstuvwxyz").cps.toList, 97 ≤ c ∧ c ≤ 122 := by decide +kernel
    refine ⟨k, 8, f1 + 249, rfl, rfl, by decide, by decide, rfl, fun sz s0 s1 => ?_⟩
    refine ⟨k, 2, f1 + 248, rfl, rfl, by decide, by decide, rfl, fun sm m0 m1 => ?_⟩
    obtain ⟨z, hz⟩ : ∃ z : Nat, 1 + sz = (z : Int) := ⟨(1 + sz).toNat, by omega⟩
    rw [hz]
    simp only [List.set_cons_succ, List.set_cons_zero, setsR, startR, List.map_cons, List.map_nil, List.cons_append, List.nil_append, List.replicate_succ, List.replicate_zero, List.length_cons, List.length_nil, Nat.reduceAdd, Nat.reduceSub]
    refine ⟨k, (z : Int), f1 + 247, rfl, rfl, by omega, by omega, rfl, fun pl p0 p1 => ?_⟩
    refine ⟨k, 26, f1 + 246, rfl, rfl, by decide, by decide, rfl, fun fi i0 i1 => ?_⟩
    refine ⟨by omega, by omega, by rw [intsD_len]; exact L1 (by omega), ?_⟩
    refine dLcGo_each (P := fun y => ∃ c : Nat, y = .str (chr1 c) ∧ 97 ≤ c ∧ c ≤ 122) 1 _ _ _ (by rw [intsD_len]; omega) (fun d _ => ⟨_, rfl, fun f Q hf hq => .inr ⟨k, _, rfl, rfl, by decide +kernel, by decide +kernel, hf, fun c hc f' hf' => hq _ _ ⟨c, rfl, lc c hc⟩ hf'⟩⟩) (fun ys f' hl hy hf' => ?_)
    rw [intsD_len] at hl hf'
    obtain ⟨bs, rfl, hbs⟩ := cs_of hy
    rw [List.length_map] at hl
    refine ⟨Nat.zero_le _, ?_⟩
    simp only [List.set_cons_succ, List.set_cons_zero, setsR, startR, List.map_cons, List.map_nil, List.cons_append, List.nil_append, List.replicate_succ, List.replicate_zero, List.length_cons, List.length_nil, Nat.reduceAdd, Nat.reduceSub]
    refine ⟨by omega, by omega, ?_⟩
    have e0 : ((m : Int)).toNat = m := by omega
    rw [e0]
    refine dFor_range (fun i r f => ∃ (x y w : Sl) (l : List Str), r = [.sh (.any (.ref k.a)), .sh (.int m), .sh (.str (Str.ofString "abcdefghijklmnopqrstuvwxyz")), .sh (.int z), .sh (.bool (xb false (decide (sm = 0)))), .sh (.int pl), .sh (.int fi), .sh (.lst (bs.map fun c => .str (chr1 c))), .ow (l.map D.str), x, y, w] ∧ l.length = i ∧ (∀ n ∈ l, isName n) ∧ (∀ j (h : j < l.length), (cd l[j])[pl.toNat]? = some (97 + ((fi + (j : Int)) % 26).toNat)) ∧ f1 + 238 ≤ f + 8 * i) 0 m _ _ ?_ ?_ ⟨_, _, _, [], rfl, rfl, by simp, by simp, by omega⟩
    · rintro i r f N hi ⟨x, y, w, l, rfl, hl2, hn, hc, hf2⟩ hN
      refine ⟨_, rfl, ?_⟩
      refine mid2 (fun r f => ∃ (cs : List Nat) (w : Sl), r = [.sh (.any (.ref k.a)), .sh (.int m), .sh (.str (Str.ofString "abcdefghijklmnopqrstuvwxyz")), .sh (.int z), .sh (.bool (xb false (decide (sm = 0)))), .sh (.int pl), .sh (.int fi), .sh (.lst (bs.map fun c => .str (chr1 c))), .ow (l.map D.str), .sh (.int (0 + (i : Int))), .ow (cs.map fun c => .str (chr1 c)), w] ∧ cs.length = z ∧ (∀ c ∈ cs, 97 ≤ c ∧ c ≤ 122) ∧ f1 + 238 ≤ f + 8 * i + 8) ?_ (fun hk => ?_)
      · rintro r f ⟨cs, w, rfl, hcl, hcs, hf3⟩
        have hj : pl.toNat < cs.length := by omega
        have hix : ixN (cs.map fun c => D.str (chr1 c)).length pl = some pl.toNat := by
          unfold ixN
          rw [if_pos p0, List.length_map, if_pos (by omega)]
        refine ⟨_, rfl, show (0 : Int) < 26 by decide, by decide +kernel, _, letter_eq (Int.emod_nonneg _ (by decide)) (Int.emod_lt_of_pos _ (by decide)), pl.toNat, hix, ?_⟩
        generalize hv : 97 + ((fi + (0 + (i : Int))) % 26).toNat = v
        have es : (cs.map (fun c => D.str (chr1 c))).set pl.toNat (D.str ⟨#[v]⟩) = ((cs.set pl.toNat v).map chr1).map D.str := by
          rw [List.map_map, List.map_set]; rfl
        rw [es]
        generalize hcs' : cs.set pl.toNat v = cs'
        have l' : cs'.length = z := by rw [← hcs', List.length_set]; exact hcl
        have at' : cs'[pl.toNat]? = some v := by rw [← hcs']; exact List.getElem?_set_self hj
        have ok' : ∀ c ∈ cs', 97 ≤ c ∧ c ≤ 122 := fun c hc => by
          rw [← hcs'] at hc
          rcases List.mem_or_eq_of_mem_set hc with h | h
          · exact hcs c h
          · rw [h]; omega
        have nm := codes_name ok' (by omega) (by omega)
        simp only [List.set_cons_succ, List.set_cons_zero, setsR, startR, List.map_cons, List.map_nil, List.cons_append, List.nil_append, List.replicate_succ, List.replicate_zero, List.length_cons, List.length_nil, Nat.reduceAdd, Nat.reduceSub]
        refine ⟨_, rfl, trivial, cs'.map chr1, rfl, join_names _ (fun x hx => ?_) (by rw [List.length_map]; omega) _ (by decide +kernel), rfl, by rw [List.length_map]; exact L1 (by omega), hN _ _ ⟨_, _, _, l ++ [Txt.join "" (cs'.map chr1)], by rw [List.map_append]; rfl, by rw [List.length_append, hl2]; rfl, fun x hx => ?_, fun j hj' => ?_, by omega⟩⟩
        · obtain ⟨c, _, rfl⟩ := List.mem_map.mp hx
          exact (by decide : 1 ≤ 1000)
        · rcases List.mem_append.mp hx with h | h
          · exact hn x h
          · rw [List.mem_singleton.mp h]; exact nm
        · rw [List.length_append] at hj'
          have hj' : j < l.length + 1 := hj'
          by_cases hjl : j < l.length
          · rw [List.getElem_append_left hjl]
            exact hc j hjl
          · have : j = l.length := by omega
            subst this
            rw [List.getElem_append_right (Nat.le_refl _)]
            simp only [Nat.sub_self, List.getElem_cons_zero]
            rw [cd_codes, at', ← hv, hl2, Int.zero_add]
      · show if (!(xb false (decide (sm = 0)))) = true then _ else _
        by_cases e : sm = 0
        · rw [decide_eq_true e] at hk ⊢
          exact iteF (hk _ _ ⟨bs, _, rfl, by omega, hbs, by omega⟩)
        · rw [decide_eq_false e] at hk ⊢
          refine iteT ⟨by omega, by omega, by rw [intsD_len]; exact L1 (by omega), ?_⟩
          refine dLcGo_each (P := fun y => ∃ c : Nat, y = .str (chr1 c) ∧ 97 ≤ c ∧ c ≤ 122) 1 _ _ _ (by rw [intsD_len]; omega) (fun d _ => ⟨_, rfl, fun f Q hf hq => .inr ⟨k, _, rfl, rfl, by decide +kernel, by decide +kernel, hf, fun c hc f' hf' => hq _ _ ⟨c, rfl, lc c hc⟩ hf'⟩⟩) (fun ys f' hl hy hf' => ?_)
          rw [intsD_len] at hl hf'
          obtain ⟨cs, rfl, hcs⟩ := cs_of hy
          rw [List.length_map] at hl
          exact hk _ _ ⟨cs, _, rfl, by omega, hcs, by omega⟩
    · rintro r f ⟨x, y, w, l, rfl, hl2, hn, hc, hf2⟩
      refine q l f hl2 hn ?_ (by omega)
      refine List.pairwise_iff_getElem.mpr fun i j hi hj hij e => ?_
      have h1 := hc i hi
      have h2 := hc j hj
      rw [e, h2] at h1
      have h1 := Option.some.inj h1
      omega
/-- rows of names, no two of which begin alike -/
structure Wn (ls : List (List Str)) : Prop where
  ok : ∀ ns ∈ ls, 1 ≤ ns.length ∧ ns.length ≤ 4 ∧ ∀ n ∈ ns, isName n
  nd : (ls.map List.head?).Nodup
theorem Wn.path {ls : List (List Str)} (h : Wn ls) {ns : List Str} (hn : ns ∈ ls) : rpB (Txt.join "." ns) = true := by
  obtain ⟨h1, h2, h3⟩ := h.ok ns hn
  exact rp_path.mpr ⟨ns, h1, h2, h3, rfl⟩
theorem Wn.sub {ls l : List (List Str)} (h : Wn ls) (s : l.Sublist ls) : Wn l := ⟨fun ns hn => h.ok ns (s.subset hn), h.nd.sublist (s.map _)⟩
theorem cov_names {a b : List Str} (ha : a ≠ []) (hb : b ≠ []) (na : ∀ n ∈ a, isName n) (nb : ∀ n ∈ b, isName n) : cov (Txt.join "." a) (Txt.join "." b) = decide (b.take a.length = a) := by
  rw [cov_take, split_join_names ha na, split_join_names hb nb]
theorem ovl_names {a b : List Str} (ha : a ≠ []) (hb : b ≠ []) (na : ∀ n ∈ a, isName n) (nb : ∀ n ∈ b, isName n) (hh : a.head? ≠ b.head?) : ovl (Txt.join "." a) (Txt.join "." b) = false := by
  have aux : ∀ {a b : List Str}, a ≠ [] → a.head? ≠ b.head? → ¬ b.take a.length = a := fun {a b} ha hh e => by
    cases a with
    | nil => exact ha rfl
    | cons x a =>
      cases b with
      | nil => cases e
      | cons y b =>
        rw [List.length_cons, List.take_succ_cons] at e
        exact hh (by rw [List.head?_cons, List.head?_cons, (List.cons.inj e).1])
  unfold ovl
  rw [cov_names ha hb na nb, cov_names hb ha nb na, decide_eq_false (aux ha hh), decide_eq_false (aux hb fun e => hh e.symm)]
  rfl
theorem join_one (n : Str) : Txt.join "." [n] = n := by
  refine TL.ext_tl ?_
  show cd _ = cd _
  rw [cd_join]
  rfl
/-! a long row of modules -/
def longR (n0 n1 n2 n3 : Str) (t : List Str) : List (List Str) := [n0, n2] :: (t.map (fun n => [n]) ++ [[n1, n3]])
def longM (n0 n1 n2 n3 : Str) (t : List Str) : List Str := (longR n0 n1 n2 n3 t).map (Txt.join ".")
theorem long_mem {n0 n1 n2 n3 : Str} {t : List Str} (hn : ∀ n ∈ n0 :: n1 :: n2 :: n3 :: t, isName n) : ∀ ns ∈ longR n0 n1 n2 n3 t, ns ≠ [] ∧ ns.length ≤ 2 ∧ ∀ n ∈ ns, isName n := fun ns h => by
  unfold longR at h
  rcases List.mem_cons.mp h with rfl | h
  · refine ⟨by simp, by simp, fun n h => hn n ?_⟩
    simp only [List.mem_cons, List.not_mem_nil, or_false] at h ⊢
    rcases h with h | h <;> simp [h]
  · rcases List.mem_append.mp h with h | h
    · obtain ⟨m, hm, rfl⟩ := List.mem_map.mp h
      exact ⟨by simp, by simp, fun n h => by rw [List.mem_singleton.mp h]; exact hn m (by simp [hm])⟩
    · rw [List.mem_singleton.mp h]
      refine ⟨by simp, by simp, fun n h => hn n ?_⟩
      simp only [List.mem_cons, List.not_mem_nil, or_false] at h ⊢
      rcases h with h | h <;> simp [h]
theorem long_pvm {n0 n1 n2 n3 : Str} {t : List Str} (hn : ∀ n ∈ n0 :: n1 :: n2 :: n3 :: t, isName n) (hnd : (n0 :: n1 :: n2 :: n3 :: t).Nodup) (hl : t.length ≤ 22) : PVm (longM n0 n1 n2 n3 t) where
  len := by
    unfold longM longR
    rw [List.length_map, List.length_cons, List.length_append, List.length_map, List.length_singleton]
    omega
  path := fun m hm => by
    obtain ⟨ns, h, rfl⟩ := List.mem_map.mp hm
    obtain ⟨h1, h2, h3⟩ := long_mem hn ns h
    exact ⟨ns, List.length_pos_iff.mpr h1, by omega, h3, rfl⟩
  apart := by
    unfold longM
    rw [List.pairwise_map]
    have hh : ((longR n0 n1 n2 n3 t).map List.head?).Nodup := by
      have e : (longR n0 n1 n2 n3 t).map List.head? = (n0 :: (t ++ [n1])).map some := by
        unfold longR
        simp [Function.comp_def]
      rw [e]
      have nd : (n0 :: (t ++ [n1])).Nodup := by
        obtain ⟨a1, a2⟩ := List.nodup_cons.mp hnd
        obtain ⟨b1, b2⟩ := List.nodup_cons.mp a2
        obtain ⟨_, c2⟩ := List.nodup_cons.mp b2
        obtain ⟨_, d2⟩ := List.nodup_cons.mp c2
        refine List.nodup_cons.mpr ⟨fun h => a1 ?_, List.nodup_append.mpr ⟨d2, by simp, fun x hx y hy e => b1 ?_⟩⟩
        · rcases List.mem_append.mp h with h | h
          · simp [h]
          · rw [List.mem_singleton.mp h]; simp
        · rw [← List.mem_singleton.mp hy, ← e]; simp [hx]
      show List.Pairwise _ _
      rw [List.pairwise_map]
      exact nd.imp fun h e => h (Option.some.inj e)
    have hp : (longR n0 n1 n2 n3 t).Pairwise fun a b => a.head? ≠ b.head? := List.pairwise_map.mp hh
    refine hp.imp_of_mem fun {a b} ha hb h => ?_
    obtain ⟨a1, a2, a3⟩ := long_mem hn a ha
    obtain ⟨b1, b2, b3⟩ := long_mem hn b hb
    exact ovl_names b1 a1 b3 a3 (fun e => h e.symm)
theorem long_D {n0 n1 n2 n3 : Str} {t : List Str} : [D.str (n0 ++ "." ++ n2)] ++ t.map D.str ++ [D.str (n1 ++ "." ++ n3)] = (longM n0 n1 n2 n3 t).map D.str := by
  have j : ∀ a b : Str, a ++ "." ++ b = Txt.join "." [a, b] := fun a b => by
    have := join_snoc [a] b (by simp)
    rw [join_one] at this
    exact this
  unfold longM longR
  rw [j, j, List.map_cons, List.map_append, List.map_map, List.map_cons, List.map_append, List.map_map]
  have e : t.map D.str = t.map (D.str ∘ ((Txt.join ".") ∘ fun n => [n])) := List.map_congr_left fun n _ => by
    show D.str n = D.str (Txt.join "." [n])
    rw [join_one]
  rw [e]
  rfl
theorem name_ovl {a b : Str} (ha : isName a) (hb : isName b) (h : a ≠ b) : ovl a b = false := by
  have := ovl_names (a := [a]) (b := [b]) (by simp) (by simp) (fun n h => by rw [List.mem_singleton.mp h]; exact ha) (fun n h => by rw [List.mem_singleton.mp h]; exact hb) (by simpa using h)
  rwa [join_one, join_one] at this
theorem name_rp {a : Str} (ha : isName a) : rpB a = true := rp_path.mpr ⟨[a], Nat.le_refl 1, show 1 ≤ 4 by decide, fun n h => by rw [List.mem_singleton.mp h]; exact ha, (join_one a).symm⟩
structure Spots (l : List Str) : Prop where
  nd : l.Nodup
  len : l.length ≤ 10
  rp : ∀ s ∈ l, rpB s = true
  two : ∃ a b, a ∈ l ∧ b ∈ l ∧ ∀ s ∈ l, ovl s a = false ∨ ovl s b = false
theorem Spots.asc {l : List Str} (h : Spots l) : ∀ s ∈ l, asc s ∧ s.length ≤ 36 := fun s hs => rp_asc (h.rp s hs)
/-- paths that begin with one of some names -/
structure SpG (nm : List Str) (l : List Str) : Prop where
  nd : l.Nodup
  hd : ∀ s ∈ l, ∃ ns : List Str, ns ≠ [] ∧ ns.length ≤ 4 ∧ (∀ n ∈ ns, isName n) ∧ s = Txt.join "." ns
  ab : ∃ a b, nm[0]? = some a ∧ nm[1]? = some b ∧ a ∈ l ∧ b ∈ l ∧ a ≠ b ∧ isName a ∧ isName b
theorem SpG.spots {nm l : List Str} (h : SpG nm l) (hl : l.length ≤ 10) : Spots l := by
  refine ⟨h.nd, hl, fun s hs => ?_, ?_⟩
  · obtain ⟨ns, h1, h2, h3, rfl⟩ := h.hd s hs
    exact rp_path.mpr ⟨ns, List.length_pos_iff.mpr h1, h2, h3, rfl⟩
  · obtain ⟨a, b, _, _, ha, hb, hn, na, nb⟩ := h.ab
    refine ⟨a, b, ha, hb, fun s hs => ?_⟩
    obtain ⟨ns, h1, h2, h3, rfl⟩ := h.hd s hs
    have key : ∀ c : Str, isName c → ns.head? ≠ some c → ovl (Txt.join "." ns) c = false := fun c hc hh => by
      have := ovl_names (a := ns) (b := [c]) h1 (by simp) h3 (fun n hn => by rw [List.mem_singleton.mp hn]; exact hc) hh
      rwa [join_one] at this
    by_cases e : ns.head? = some a
    · exact .inr (key b nb fun e2 => hn (by rw [e] at e2; exact Option.some.inj e2))
    · exact .inl (key a na e)
theorem cut_ab (xs : List D) (a b : Nat) (h : b ≤ xs.length) : cutD xs (some (a : Int)) (some (b : Int)) = (xs.drop a).take (b - a) := by
  unfold cutD
  rw [show HT.sIx xs.length 0 (some (a : Int)) = min a xs.length from HT.sIx_nat xs.length 0 a, show HT.sIx xs.length xs.length (some (b : Int)) = min b xs.length from HT.sIx_nat xs.length xs.length b, Nat.min_eq_left h]
  by_cases ha : a ≤ xs.length
  · rw [Nat.min_eq_left ha]
  · rw [Nat.min_eq_right (by omega), List.drop_of_length_le (Nat.le_refl _), List.drop_of_length_le (by omega), List.take_nil, List.take_nil]
/-! _law_long_case -/
abbrev s__law_long_case : Stmt := topS 60
theorem sc__law_long_case : FnScope ["_law_reel_here", "_law_names_here", "_law_many", "_law_ends", "_law_row", "_law_uses_here", "_law_turn", "_law_one", "_law_other", "_law_rule", "_law_use"] ["_law_reel_here"] (defScope s__law_long_case) := ⟨rfl, rfl, rfl, by decide +kernel, rfl, by decide +kernel, by decide +kernel⟩
def Sp__law_long_case : DSp := fun g ds f Q => ∃ (k : Dk), g = some k ∧ ds = [.any (.ref k.a)] ∧ 300 ≤ f ∧
  ∀ (row : List Str) (us : List Us) (r : Rl) f', PVm row → PVu row us → us.length ≤ 30 → (∀ u ∈ rowZ row, u ∈ us) → r.form → ovlL r.par = false → f ≤ f' + 300 → Q (.tup [.lst (row.map D.str), .lst (us.map pairD), r.d]) f'
set_option maxHeartbeats 2000000 in
theorem ok__law_long_case (d : Df K mg "_law_long_case" s__law_long_case) (m_range : mg "range" = none) (m_list : mg "list" = none) (m_zip : mg "zip" = none) (c__law_pull : Cal P w K mg base 1 "_law_pull" ["_law_reel_here", "_law_many"] Sp__law_pull) (c__law_pick : Cal P w K mg base 2 "_law_pick" ["_law_reel_here", "_law_some"] Sp__law_pick) (c__law_names : Cal P w K mg base 3 "_law_names" ["_law_reel_here", "_law_many"] Sp__law_names) : Cal P w K mg base 4 "_law_long_case" ["_law_reel_here"] Sp__law_long_case := by
  obtain ⟨f, fd, F, m⟩ := d
  refine ⟨f, fd, dfn (k := 3) (S := Sp__law_long_case) F sc__law_long_case ?len (fun cdv A outer s H E hr => (dss_cons (ds_set false (i := 1) sc__law_long_case.nd (de_callC c__law_names (hr.mono (by decide)) (da_cons (de_v 0) (da_cons de_int da_nil))))
      (dss_cons (ds_set false (i := 2) sc__law_long_case.nd (de_add de_int (de_callC c__law_pull (hr.mono (by decide)) (da_cons (de_v 0) (da_cons de_int da_nil)))))
      (dss_cons (ds_set false (i := 3) sc__law_long_case.nd (dl_lst (da_cons (de_add (de_add (de_ix (de_v 1) de_int) de_str) (de_ix (de_v 1) de_int)) (da_cons (de_add (de_add (de_ix (de_v 1) de_int) de_str) (de_ix (de_v 1) de_int)) da_nil))).e)
      (dss_cons (ds_set false (i := 4) sc__law_long_case.nd (de_add (de_add (de_sl (de_v 3) do_none (do_some de_int)) (de_sl (de_v 1) (do_some de_int) (do_some (de_add de_int (de_v 2))))) (de_sl (de_v 3) (do_some de_int) do_none)))
      (dss_cons (ds_setL false (i := 5) sc__law_long_case.nd (dl_listZip m_list m_zip (da_cons (de_v 4) (da_cons (de_sl (de_v 4) (do_some de_int) do_none) da_nil))))
      (dss_cons (ds_for [] PassesOwn.never (di_range1 m_range (da_cons (de_callC c__law_pull (hr.mono (by decide)) (da_cons (de_v 0) (da_cons de_int da_nil))) da_nil)) (dg_name (i := 6) sc__law_long_case.nd) (dss_cons (ds_set false (i := 10) sc__law_long_case.nd (de_tup (da_cons (de_callC c__law_pick (hr.mono (by decide)) (da_cons (de_v 0) (da_cons (de_v 4) da_nil))) (da_cons (de_callC c__law_pick (hr.mono (by decide)) (da_cons (de_v 0) (da_cons (de_v 4) da_nil))) da_nil))))
      (dss_one (ds_if (DW.p (dw_and (dp_ne hr.units (de_ix (de_v 10) de_int) (de_ix (de_v 10) de_int)) (dw_and1 (dp_notIn hr (de_v 10) (de_v 5))))) (dss_one (ds_app false (i := 5) (de_v 10))) dss_nil))))
      (dss_cons (ds_par false (i := 7) (j := 8) sc__law_long_case.nd (de_tup (da_cons (de_ix (de_v 1) de_int) da_nil)) (de_tup (da_cons (de_ix (de_v 1) de_int) da_nil)))
      (dss_cons (ds_set false (i := 9) sc__law_long_case.nd (de_tup (da_cons de_str (da_cons (de_v 7) (da_cons (de_v 8) (da_cons de_str da_nil))))))
      (dss_cons (ds_if (dp_eq hr.units (de_callC c__law_pull (hr.mono (by decide)) (da_cons (de_v 0) (da_cons de_int da_nil))) de_int) (dss_one (ds_set false (i := 9) sc__law_long_case.nd (de_callC c__law_pick (hr.mono (by decide)) (da_cons (de_v 0) (da_cons (dl_lst (da_cons (de_tup (da_cons de_str (da_cons (de_add (de_v 8) (de_v 7)) (da_cons de_str da_nil)))) (da_cons (de_tup (da_cons de_str (da_cons (de_tup (da_cons (de_v 8) (da_cons (de_v 7) da_nil))) (da_cons de_str da_nil)))) da_nil))).e da_nil))))) dss_nil)
      (dss_one (ds_ret (de_tup (da_cons (de_v 4) (da_cons (de_v 5) (da_cons (de_v 9) da_nil)))))))))))))))) ?h, F.kp, F.binds fun _ _ _ _ _ _ us hl => match us, hl with | [_], _ => rfl, m⟩
  case len =>
    intro g ds n Q h; obtain ⟨_, _, rfl, _⟩ := h; rfl
  case h =>
    intro g ds n Q h
    obtain ⟨k, rfl, rfl, hf, q⟩ := h
    refine ⟨k, 26, rfl, rfl, by decide, by omega, fun nm f1 hnl hn hnd hf1 => ?_⟩
    match nm, hnl, hn, hnd with
    | n0 :: n1 :: n2 :: n3 :: t, hnl, hn, hnd =>
      have htl : t.length = 22 := by simpa using hnl
      have asn : ∀ s ∈ n0 :: n1 :: n2 :: n3 :: t, s.length ≤ 8 := fun s h => (hn s h).2.1
      simp only [List.set_cons_succ, List.set_cons_zero, setsR, startR, List.map_cons, List.map_nil, List.cons_append, List.nil_append, List.replicate_succ, List.replicate_zero, List.length_cons, List.length_nil, Nat.reduceAdd, Nat.reduceSub]
      obtain ⟨f2, rfl⟩ : ∃ f2, f1 = f2 + 1 := ⟨f1 - 1, by omega⟩
      refine ⟨k, 14, f2, rfl, rfl, by decide, by decide, rfl, fun r r0 r1 => ?_⟩
      obtain ⟨r, rfl⟩ : ∃ r' : Nat, r = r' := ⟨r.toNat, by omega⟩
      have l1 : (Str.ofString ".").length = 1 := by decide +kernel
      have a0 := asn n0 (by simp)
      have a1 := asn n1 (by simp)
      have a2 := asn n2 (by simp)
      have a3 := asn n3 (by simp)
      refine ⟨_, atI0, L1 (by omega), _, atI_nat (j := 2) rfl, L1 (by rw [app_len]; omega), _, atI_nat (j := 1) rfl, L1 (by omega), _, atI_nat (j := 3) rfl, L1 (by rw [app_len]; omega), show 2 ≤ lim by decide, ?_⟩
      simp only [List.set_cons_succ, List.set_cons_zero, setsR, startR, List.map_cons, List.map_nil, List.cons_append, List.nil_append, List.replicate_succ, List.replicate_zero, List.length_cons, List.length_nil, Nat.reduceAdd, Nat.reduceSub]
      have c1 : ∀ a b : D, cutD [a, b] none (some 1) = [a] := fun a b => rfl
      have c2 : ∀ a b : D, cutD [a, b] (some 1) none = [b] := fun a b => rfl
      have c3 : cutD (D.str n0 :: D.str n1 :: D.str n2 :: D.str n3 :: t.map D.str) (some 4) (some ((2 : Int) + ((11 : Int) + (r : Int)))) = (t.take (9 + r)).map D.str := by
        have := cut_ab (D.str n0 :: D.str n1 :: D.str n2 :: D.str n3 :: t.map D.str) 4 (13 + r) (by simp only [List.length_cons, List.length_map]; omega)
        rw [show ((2 : Int) + ((11 : Int) + (r : Int))) = ((13 + r : Nat) : Int) by omega]
        rw [show cutD (D.str n0 :: D.str n1 :: D.str n2 :: D.str n3 :: t.map D.str) (some 4) (some ((13 + r : Nat) : Int)) = _ from this, List.map_take]
        show (t.map D.str).take (13 + r - 4) = _
        rw [show 13 + r - 4 = 9 + r by omega]
      have er : cutD [D.str (n0 ++ "." ++ n2), D.str (n1 ++ "." ++ n3)] none (some 1) ++ cutD (D.str n0 :: D.str n1 :: D.str n2 :: D.str n3 :: t.map D.str) (some 4) (some ((2 : Int) + ((11 : Int) + (r : Int)))) ++ cutD [D.str (n0 ++ "." ++ n2), D.str (n1 ++ "." ++ n3)] (some 1) none = (longM n0 n1 n2 n3 (t.take (9 + r))).map D.str := by
        rw [c1, c2, c3]
        exact long_D
      have ltk : (t.take (9 + r)).length ≤ 22 := by rw [List.length_take]; omega
      have hn' : ∀ n ∈ n0 :: n1 :: n2 :: n3 :: t.take (9 + r), isName n := fun n h => hn n (by
        simp only [List.mem_cons] at h ⊢
        rcases h with h | h | h | h | h
        · exact .inl h
        · exact .inr (.inl h)
        · exact .inr (.inr (.inl h))
        · exact .inr (.inr (.inr (.inl h)))
        · exact .inr (.inr (.inr (.inr (List.mem_of_mem_take h)))))
      have hnd' : (n0 :: n1 :: n2 :: n3 :: t.take (9 + r)).Nodup := hnd.sublist ((((List.take_sublist _ _).cons_cons n3).cons_cons n2).cons_cons n1 |>.cons_cons n0)
      have hrow := long_pvm hn' hnd' ltk
      have lrow : (longM n0 n1 n2 n3 (t.take (9 + r))).length = (t.take (9 + r)).length + 2 := by
        unfold longM longR
        rw [List.length_map, List.length_cons, List.length_append, List.length_map, List.length_singleton]
      refine mid (fun r' f' => ∃ z, z = D.lst ((longM n0 n1 n2 n3 (t.take (9 + r))).map D.str) ∧ r' = [.sh (.any (.ref k.a)), .sh (.lst (D.str n0 :: D.str n1 :: D.str n2 :: D.str n3 :: t.map D.str)), .sh (.int ((11 : Int) + (r : Int))), .sh (.lst [D.str (n0 ++ "." ++ n2), D.str (n1 ++ "." ++ n3)]), .sh z, .no, .no, .no, .no, .no, .no] ∧ f' = f2) ?_ (fun hk => ⟨by rw [c1, c3, List.length_map]; exact L1 (by show 1 + _ ≤ _; omega), by rw [List.length_append, c1, c2, c3, List.length_map]; exact L1 (by show 1 + _ + 1 ≤ _; omega), hk _ _ ⟨_, congrArg D.lst er, rfl, rfl⟩⟩)
      rintro r' f' ⟨z, rfl, rfl, rfl⟩
      generalize longM n0 n1 n2 n3 (t.take (9 + r)) = row at hrow lrow
      have h01 : n0 ≠ n1 := fun e => (List.nodup_cons.mp hnd).1 (by rw [e]; simp)
      clear er c3 hn' hnd' hnd
      have lro : row.length ≤ 24 := hrow.len
      have arow := hrow.asc
      have d1 : cutD (row.map D.str) (some 1) none = (row.drop 1).map D.str := by rw [show cutD (row.map D.str) (some 1) none = (row.map D.str).drop 1 from cutD_drop' _ 1, List.map_drop]
      have ez : zipD (row.map D.str) (cutD (row.map D.str) (some 1) none) = (rowZ row).map pairD := by rw [d1, zipD_strs]; rfl
      have hz := rowZ_mem hrow.nd
      have hzl : (rowZ row).length ≤ 23 := by unfold rowZ; rw [List.length_zip, List.length_drop]; omega
      have hu0 : PVu row (rowZ row) := ⟨by omega, hz, rowZ_nd hrow.nd⟩
      refine ⟨by rw [List.length_map]; omega, ?_⟩
      simp only [List.set_cons_succ, List.set_cons_zero, setsR, startR, List.map_cons, List.map_nil, List.cons_append, List.nil_append, List.replicate_succ, List.replicate_zero, List.length_cons, List.length_nil, Nat.reduceAdd, Nat.reduceSub]
      rw [ez]
      obtain ⟨f3, rfl⟩ : ∃ f3, f' = f3 + 1 := ⟨f' - 1, by omega⟩
      refine ⟨k, 5, f3, rfl, rfl, by decide, by decide, rfl, fun m m0 m1 => ⟨by omega, by omega, ?_⟩⟩
      obtain ⟨m, rfl⟩ : ∃ m' : Nat, m = m' := ⟨m.toNat, by omega⟩
      rw [show ((m : Int)).toNat = m from Int.toNat_natCast m]
      have hm5 : m < 5 := by omega
      have prow : 0 < row.length := by omega
      refine dFor_range (fun i r' f => ∃ (us : List Us) (x y : Sl), r' = [.sh (.any (.ref k.a)), .sh (.lst (D.str n0 :: D.str n1 :: D.str n2 :: D.str n3 :: t.map D.str)), .sh (.int ((11 : Int) + (r : Int))), .sh (.lst [D.str (n0 ++ "." ++ n2), D.str (n1 ++ "." ++ n3)]), .sh (.lst (row.map D.str)), .ow (us.map pairD), x, .no, .no, .no, y] ∧ PVu row us ∧ us.length ≤ 23 + i ∧ (∀ u ∈ rowZ row, u ∈ us) ∧ f3 ≤ f + 2 * i) 0 m _ _ ?_ ?_ ⟨rowZ row, _, _, rfl, hu0, by omega, fun u h => h, by omega⟩
      · rintro i r' f N hi ⟨us, x, y, rfl, hu, hul, hin, hfi⟩ hN
        have au := hu.asc hrow
        refine ⟨_, rfl, .inl ⟨k, row.map D.str, rfl, rfl, by rw [List.length_map]; omega, by rw [List.length_map]; omega, by omega, fun v1 hv1 g1 hg1 => .inl ⟨k, row.map D.str, rfl, rfl, by rw [List.length_map]; omega, by rw [List.length_map]; omega, by omega, fun v2 hv2 g2 hg2 => ?_⟩⟩⟩
        obtain ⟨a, ha, rfl⟩ := List.mem_map.mp hv1
        obtain ⟨b, hb, rfl⟩ := List.mem_map.mp hv2
        refine ⟨show 2 ≤ lim by decide, ?_⟩
        simp only [List.set_cons_succ, List.set_cons_zero, setsR, startR, List.map_cons, List.map_nil, List.cons_append, List.nil_append, List.replicate_succ, List.replicate_zero, List.length_cons, List.length_nil, Nat.reduceAdd, Nat.reduceSub]
        refine ⟨_, atI0, _, atI_nat (j := 1) rfl, ?_⟩
        show if (xb true (decide (a = b))) = true then _ else _
        by_cases hab : a = b
        · rw [decide_eq_true hab]
          exact iteF (hN _ _ ⟨us, _, _, rfl, hu, by omega, hin, by omega⟩)
        · rw [decide_eq_false hab]
          refine iteT ⟨shaped_pair (u := (a, b)) ⟨arow a ha, arow b hb⟩, shpU au, ?_⟩
          rw [anyU']
          show if (!decide ((a, b) ∈ us)) = true then _ else _
          by_cases hmem : (a, b) ∈ us
          · rw [decide_eq_true hmem]
            exact iteF (hN _ _ ⟨us, _, _, rfl, hu, by omega, hin, by omega⟩)
          · rw [decide_eq_false hmem]
            refine iteT ⟨_, rfl, by rw [List.length_map]; exact L1 (by omega), hN _ _ ⟨us ++ [(a, b)], _, _, by rw [List.map_append]; rfl, ⟨by rw [List.length_append, List.length_singleton]; omega, fun u h => ?_, ?_⟩, by rw [List.length_append, List.length_singleton]; omega, fun u h => List.mem_append_left _ (hin u h), by omega⟩⟩
            · rcases List.mem_append.mp h with h | h
              · exact hu.mem u h
              · rw [List.mem_singleton.mp h]; exact ⟨ha, hb, hab⟩
            · rw [List.nodup_append]
              exact ⟨hu.nd, by simp, fun x h1 y h2 e => hmem (by rw [← List.mem_singleton.mp h2, ← e]; exact h1)⟩
      · rintro r' f ⟨us, x, y, rfl, hu, hul, hin, hfi⟩
        have i0 := hn n0 (by simp)
        have i1 := hn n1 (by simp)
        have ne01 : n0 ≠ n1 := fun e => h01 e
        have o01 := name_ovl i0 i1 ne01
        have o10 := name_ovl i1 i0 ne01.symm
        have fin : ∀ (r : Rl) (f' : Nat), r.form → ovlL r.par = false → f3 ≤ f' + 20 → Q (.tup [.lst (row.map D.str), .lst (us.map pairD), r.d]) f' := fun r f' h1 h2 h3 => q row us r f' hrow hu (by omega) hin h1 h2 (by omega)
        have rp0 : rPs 1 6 [n0] := ⟨Nat.le_refl _, show 1 ≤ 6 by decide, fun p hp => by rw [List.mem_singleton.mp hp]; exact name_rp i0⟩
        have rp1 : rPs 1 6 [n1] := ⟨Nat.le_refl _, show 1 ≤ 6 by decide, fun p hp => by rw [List.mem_singleton.mp hp]; exact name_rp i1⟩
        have ol01 : ovlL [n0, n1] = false := by
          show ((ovl n1 n0 || false) || (false || false)) = false
          rw [o10]; rfl
        have ol10 : ovlL [n1, n0] = false := by
          show ((ovl n0 n1 || false) || (false || false)) = false
          rw [o01]; rfl
        obtain ⟨g, rfl⟩ : ∃ g, f = g + 1 := ⟨f - 1, by omega⟩
        refine ⟨_, atI0, show 1 ≤ lim by decide, _, atI_nat (j := 1) rfl, show 1 ≤ lim by decide, ?_⟩
        simp only [List.set_cons_succ, List.set_cons_zero, setsR, startR, List.map_cons, List.map_nil, List.cons_append, List.nil_append, List.replicate_succ, List.replicate_zero, List.length_cons, List.length_nil, Nat.reduceAdd, Nat.reduceSub]
        refine ⟨show 4 ≤ lim by decide, ?_⟩
        simp only [List.set_cons_succ, List.set_cons_zero, setsR, startR, List.map_cons, List.map_nil, List.cons_append, List.nil_append, List.replicate_succ, List.replicate_zero, List.length_cons, List.length_nil, Nat.reduceAdd, Nat.reduceSub]
        refine ⟨k, 2, g, rfl, rfl, by decide, by decide, rfl, fun z z0 z1 => ?_⟩
        show if decide (z = 0) = true then _ else _
        by_cases hz0 : z = 0
        · rw [decide_eq_true hz0]
          refine iteT ⟨show 1 + 1 ≤ lim by decide, show 3 ≤ lim by decide, show 2 ≤ lim by decide, show 3 ≤ lim by decide, show 2 ≤ lim by decide, ?_⟩
          refine .inl ⟨k, _, rfl, rfl, by exact (show 0 < 2 by decide), by exact (show 2 ≤ 100000 by decide), by omega, fun d hd g2 hg2 => ⟨show 3 ≤ lim by decide, ?_⟩⟩
          simp only [List.mem_cons, List.not_mem_nil, or_false] at hd
          rcases hd with rfl | rfl
          · exact fin (.apart [n1, n0] true) _ ⟨Nat.le_refl _, show 2 ≤ 6 by decide, fun p hp => by
              simp only [List.mem_cons, List.not_mem_nil, or_false] at hp
              rcases hp with rfl | rfl
              · exact name_rp i1
              · exact name_rp i0⟩ ol10 (by omega)
          · exact fin (.layers [[n1], [n0]] true) _ ⟨Nat.le_refl _, show 2 ≤ 5 by decide, fun p hp => by
              simp only [List.mem_cons, List.not_mem_nil, or_false] at hp
              rcases hp with rfl | rfl
              · exact ⟨Nat.le_refl _, show 1 ≤ 4 by decide, rp1.2.2⟩
              · exact ⟨Nat.le_refl _, show 1 ≤ 4 by decide, rp0.2.2⟩⟩ ol10 (by omega)
        · rw [decide_eq_false hz0]
          refine iteF ?_
          show _ ∧ _
          refine ⟨show 3 ≤ lim by decide, ?_⟩
          exact fin (.forbid [n0] [n1] true) _ ⟨rp0, rp1⟩ ol01 (by omega)
/-! _law_mixed -/
abbrev s__law_mixed : Stmt := topS 38
theorem sc__law_mixed : FnScope ["_law_reel_here", "_law_some", "_law_rest", "_law_found", "_law_turn"] ["_law_reel_here", "_law_some"] (defScope s__law_mixed) := ⟨rfl, rfl, rfl, by decide +kernel, rfl, by decide +kernel, by decide +kernel⟩
def Sp__law_mixed : DSp := fun g ds f Q => ∃ (k : Dk) (xs : List D) (o : D), g = some k ∧ ds = [.any (.ref k.a), o] ∧ (o = .lst xs ∨ o = .tup xs) ∧ xs.length ≤ 1000 ∧ xs.length ≤ f ∧ ∀ ys f', ys.Perm xs → f ≤ f' + xs.length → Q (.lst ys) f'
theorem erase_permD {α : Type} : ∀ (l : List α) (n : Nat) (h : n < l.length), (l[n] :: l.eraseIdx n).Perm l
  | _ :: _, 0, _ => List.Perm.refl _
  | x :: l, n + 1, h => by
    have h : n < l.length := Nat.lt_of_succ_lt_succ h
    show (l[n] :: x :: l.eraseIdx n).Perm (x :: l)
    exact (List.Perm.swap x l[n] (l.eraseIdx n)).trans ((erase_permD l n h).cons x)
set_option maxHeartbeats 2000000 in
theorem ok__law_mixed (d : Df K mg "_law_mixed" s__law_mixed) (m_range : mg "range" = none) (m_len : mg "len" = none) (m_list : mg "list" = none) (c__law_pull : Cal P w K mg base 1 "_law_pull" ["_law_reel_here", "_law_many"] Sp__law_pull) : Cal P w K mg base 2 "_law_mixed" ["_law_reel_here", "_law_some"] Sp__law_mixed := by
  obtain ⟨f, fd, F, m⟩ := d
  refine ⟨f, fd, dfn (k := 1) (S := Sp__law_mixed) F sc__law_mixed ?len (fun cdv A outer s H E hr => (dss_cons (ds_parLL (i := 2) (j := 3) sc__law_mixed.nd (dl_listOf m_list (da_cons (de_v 1) da_nil)) (dl_lst da_nil))
      (dss_cons (ds_for [] PassesOwn.never (di_range1 m_range (da_cons (de_len m_len (da_cons (de_v 1) da_nil)) da_nil)) (dg_name (i := 4) sc__law_mixed.nd) (dss_one (ds_appPop (i := 3) (j := 2) (de_callC c__law_pull (hr.mono (by decide)) (da_cons (de_v 0) (da_cons (de_len m_len (da_cons (de_v 2) da_nil)) da_nil))))))
      (dss_one (ds_ret (de_v 3)))))) ?h, F.kp, F.binds fun _ _ _ _ _ _ us hl => match us, hl with | [_, _], _ => rfl, m⟩
  case len =>
    intro g ds n Q h; obtain ⟨_, _, _, _, rfl, _⟩ := h; rfl
  case h =>
    intro g ds n Q h
    obtain ⟨k, xs, o, rfl, rfl, ho, hl, hf, q⟩ := h
    rcases ho with rfl | rfl
    all_goals
      refine ⟨Nat.zero_le _, ?_⟩
      refine ⟨by omega, by omega, ?_⟩
      rw [show ((xs.length : Int)).toNat = xs.length by omega]
      refine dFor_range (fun i r f => ∃ (x : Sl) (o : D) (ys rs : List D), r = [.sh (.any (.ref k.a)), .sh o, .ow rs, .ow ys, x] ∧ (ys ++ rs).Perm xs ∧ ys.length = i ∧ n ≤ f + i) 0 xs.length _ _ ?_ ?_ ⟨_, _, [], xs, rfl, List.Perm.refl _, rfl, by omega⟩
      · rintro i r f N hi ⟨x, o, ys, rs, rfl, hp, hml, hfi⟩ hN
        have hl' := hp.length_eq
        rw [List.length_append, hml] at hl'
        obtain ⟨f5, rfl⟩ : ∃ f5, f = f5 + 1 := ⟨f - 1, by omega⟩
        refine ⟨_, rfl, _, _, rfl, rfl, by decide, ?_⟩
        refine ⟨k, (rs.length : Int), f5, rfl, rfl, by omega, by omega, rfl, fun r0 r0a r0b => ?_⟩
        have hr : r0.toNat < rs.length := by omega
        refine ⟨r0.toNat, rs[r0.toNat], by omega, List.getElem?_eq_getElem hr, L1 (by omega), L1 (by omega), ?_⟩
        refine hN _ _ ⟨_, _, ys ++ [rs[r0.toNat]], rs.eraseIdx r0.toNat, rfl, ?_, by rw [List.length_append, hml]; rfl, by omega⟩
        refine List.Perm.trans ?_ hp
        rw [List.append_assoc]
        exact List.Perm.append_left ys (erase_permD rs r0.toNat hr)
      · rintro r f ⟨x, o, ys, rs, rfl, hp, hml, hfi⟩
        have hrs : rs = [] := by
          have hl := hp.length_eq
          rw [List.length_append, hml] at hl
          exact List.eq_nil_of_length_eq_zero (by omega)
        subst hrs
        rw [List.append_nil] at hp
        exact q ys f hp (by omega)
/-! _law_meet -/
abbrev s__law_meet : Stmt := topS 41
theorem sc__law_meet : FnScope ["_law_path", "_law_other"] ["_law_path", "_law_other"] (defScope s__law_meet) := ⟨rfl, rfl, rfl, by decide +kernel, rfl, by decide +kernel, by decide +kernel⟩
def Sp__law_meet : DSp := fun _ ds f Q => ∃ p o : Str, ds = [.str p, .str o] ∧ p.length ≤ 100000 ∧ o.length ≤ 100000 ∧ Q (.bool (cov p o || cov o p)) f
set_option maxHeartbeats 2000000 in
theorem ok__law_meet (d : Df K mg "_law_meet" s__law_meet) (c__law_under : Cal P w K mg base 1 "_law_under" ["_law_path", "_law_other"] Sp__law_under) : Cal P w K mg base 2 "_law_meet" ["_law_path", "_law_other"] Sp__law_meet := by
  obtain ⟨f, fd, F, m⟩ := d
  refine ⟨f, fd, dfn (k := 1) (S := Sp__law_meet) F sc__law_meet ?len (fun cdv A outer s H E hr => (dss_one (ds_ret (de_or (de_callC c__law_under (hr.mono (by decide)) (da_cons (de_v 0) (da_cons (de_v 1) da_nil))) (de_one (de_callC c__law_under (hr.mono (by decide)) (da_cons (de_v 1) (da_cons (de_v 0) da_nil)))))))) ?h, F.kp, F.binds fun _ _ _ _ _ _ us hl => match us, hl with | [_, _], _ => rfl, m⟩
  case len =>
    intro g ds n Q h; obtain ⟨_, _, rfl, _⟩ := h; rfl
  case h =>
    intro g ds n Q h
    obtain ⟨p, o, rfl, h1, h2, q⟩ := h
    refine ⟨p, o, rfl, h1, ?_⟩
    cases e : cov p o with
    | true => rw [e] at q; exact q
    | false =>
      rw [e] at q
      exact ⟨o, p, rfl, h2, q⟩
/-! _law_alone -/
abbrev s__law_alone : Stmt := topS 44
theorem sc__law_alone : FnScope ["_law_reel_here", "_law_paths", "_law_limit", "_law_found", "_law_path", "_law_one"] ["_law_reel_here", "_law_paths", "_law_limit"] (defScope s__law_alone) := ⟨rfl, rfl, rfl, by decide +kernel, rfl, by decide +kernel, by decide +kernel⟩
def Sp__law_alone : DSp := fun g ds f Q => ∃ (k : Dk) (ps : List Str) (m : Nat), g = some k ∧ ds = [.any (.ref k.a), .lst (ps.map D.str), .int m] ∧ ps.length ≤ 100 ∧ ps.Nodup ∧ (∀ p ∈ ps, asc p ∧ p.length ≤ 1000) ∧ ps.length ≤ f ∧
  ∀ (l : List Str) f', l.length ≤ m → l.Nodup → (∀ p ∈ l, p ∈ ps) → ovlL l = false → (l.length < m → ∀ p ∈ ps, ∃ q ∈ l, ovl q p = true) → f ≤ f' + ps.length → Q (.lst (l.map D.str)) f'
theorem ovl_sym (a b : Str) : ovl a b = ovl b a := by unfold ovl; rw [Bool.or_comm]
theorem ovl_refl (m : Str) : ovl m m = true := by
  unfold ovl cov
  rw [decide_eq_true rfl]; rfl
theorem perm_map_str {ys : List D} {ps : List Str} (h : ys.Perm (ps.map D.str)) : ∃ l : List Str, ys = l.map D.str ∧ l.Perm ps := by
  refine ⟨ys.map D.txt, ?_, ?_⟩
  · rw [List.map_map]
    refine (List.map_id ys).symm.trans (List.map_congr_left fun y hy => ?_)
    obtain ⟨s, _, rfl⟩ := List.mem_map.mp (h.mem_iff.mp hy)
    rfl
  · have := h.map D.txt
    rwa [txt_strs] at this
set_option maxHeartbeats 2000000 in
theorem ok__law_alone (d : Df K mg "_law_alone" s__law_alone) (m_len : mg "len" = none) (c__law_mixed : Cal P w K mg base 2 "_law_mixed" ["_law_reel_here", "_law_some"] Sp__law_mixed) (c__law_meet : Cal P w K mg base 2 "_law_meet" ["_law_path", "_law_other"] Sp__law_meet) : Cal P w K mg base 3 "_law_alone" ["_law_reel_here", "_law_paths", "_law_limit"] Sp__law_alone := by
  obtain ⟨f, fd, F, m⟩ := d
  refine ⟨f, fd, dfn (k := 2) (S := Sp__law_alone) F sc__law_alone ?len (fun cdv A outer s H E hr => (dss_cons (ds_setL false (i := 3) sc__law_alone.nd (dl_lst da_nil))
      (dss_cons (ds_for [] PassesOwn.never (di_seq (de_callC c__law_mixed (hr.mono (by decide)) (da_cons (de_v 0) (da_cons (de_v 1) da_nil)))) (dg_name (i := 4) sc__law_alone.nd) (dss_one (ds_if (DW.p (dw_and (dp_lt (de_len m_len (da_cons (de_v 3) da_nil)) (de_v 2)) (dw_and1 (dp_eq hr.units (dl_lc (own := [("_law_one", 5)]) rfl sc__law_alone.nd (di_seq (de_v 3)) (blkOk_by (own := [("_law_one", 5)]) (N := ["_law_reel_here", "_law_paths", "_law_limit", "_law_found", "_law_path", "_law_one"]) (sc := defScope s__law_alone) (by decide +kernel)) (fun _ _ _ _ _ => dg_name (i := 5) sc__law_alone.nd) (fun _ _ _ _ _ => dts_one (dp_val (de_callC c__law_meet (hr.mono (by decide)) (da_cons (de_v 5) (da_cons (de_v 4) da_nil))))) (fun _ _ _ _ _ => (de_v 5))).e (dl_lst da_nil).e)))) (dss_one (ds_app false (i := 3) (de_v 4))) dss_nil)))
      (dss_one (ds_ret (de_v 3)))))) ?h, F.kp, F.binds fun _ _ _ _ _ _ us hl => match us, hl with | [_, _, _], _ => rfl, m⟩
  case len =>
    intro g ds n Q h; obtain ⟨_, _, _, _, rfl, _⟩ := h; rfl
  case h =>
    intro g ds n Q h
    obtain ⟨k, ps, m, rfl, rfl, hl, hnd, ha, hf, q⟩ := h
    refine ⟨Nat.zero_le _, ?_⟩
    simp only [List.set_cons_succ, List.set_cons_zero, setsR, startR, List.map_cons, List.map_nil, List.cons_append, List.nil_append, List.replicate_succ, List.replicate_zero, List.length_cons, List.length_nil, Nat.reduceAdd, Nat.reduceSub]
    refine ⟨k, ps.map D.str, _, rfl, rfl, .inl rfl, by rw [List.length_map]; omega, by rw [List.length_map]; omega, fun ys f1 hp hf1 => ?_⟩
    rw [List.length_map] at hf1
    obtain ⟨xs, rfl, hq⟩ := perm_map_str hp
    clear hp
    have hp := hq
    refine dFor_list D.str (fun done rest r f => f1 = f ∧ ∃ (l : List Str) (x y : Sl), r = [.sh (.any (.ref k.a)), .sh (.lst (ps.map D.str)), .sh (.int m), .ow (l.map D.str), x, y] ∧ l.length ≤ m ∧ l.Sublist done ∧ ovlL l = false ∧ (l.length < m → ∀ p ∈ done, ∃ q ∈ l, ovl q p = true)) xs _ _ ?_ ?_ ⟨rfl, [], _, _, rfl, Nat.zero_le _, List.Sublist.refl _, rfl, fun _ p hp => nomatch hp⟩
    · rintro done p rest r f N hx ⟨rfl, l, x, y, rfl, h1, h2, h3, h4⟩ hN
      have hpp : p ∈ ps := hp.subset (by rw [hx]; simp)
      have hlp : ∀ o ∈ l, o ∈ ps := fun o ho => hp.mem_iff.mp (by rw [hx]; exact List.mem_append_left _ (h2.subset ho))
      have hll : l.length ≤ 100 := by
        have := h2.length_le
        have e := hp.length_eq
        rw [hx, List.length_append] at e
        omega
      refine ⟨_, rfl, ?_⟩
      show if decide (((l.map D.str).length : Int) < (m : Int)) = true then _ else _
      rw [List.length_map]
      by_cases hm : l.length < m
      · rw [decide_eq_true (by omega)]
        refine iteT ⟨by rw [List.length_map]; exact L1 (by omega), ?_⟩
        refine lcF D.str (fun o => ovl o p) l _ (fun o ho => ⟨_, rfl, fun f Q q => ⟨o, p, rfl, Nat.le_trans (ha o (hlp o ho)).2 (by decide), Nat.le_trans (ha p hpp).2 (by decide), q⟩, fun _ f Q q => q⟩) ?_
        refine ⟨Nat.zero_le _, shaped_strs (fun z hz => (ha z (hlp z (List.mem_filter.mp hz).1)).1), rfl, ?_⟩
        rw [eqvM_nil]
        show if (l.filter fun o => ovl o p).isEmpty = true then _ else _
        cases he : (l.filter fun o => ovl o p).isEmpty with
        | true =>
          have hno : ∀ o ∈ l, ovl o p = false := fun o ho => by
            have := List.filter_eq_nil_iff.mp (List.isEmpty_iff.mp he) o ho
            simpa using this
          refine iteT ⟨_, rfl, by rw [List.length_map]; exact L1 (by omega), hN _ _ ⟨rfl, l ++ [p], _, _, by rw [List.map_append]; rfl, by rw [List.length_append, List.length_singleton]; omega, h2.append (List.Sublist.refl _), ?_, fun hlt z hz => ?_⟩⟩
          · rw [ovlL_snoc, h3, Bool.false_or, List.any_eq_false]
            exact fun o ho => by rw [ovl_sym, hno o ho]; exact Bool.false_ne_true
          · rcases List.mem_append.mp hz with h | h
            · obtain ⟨o, ho, e⟩ := h4 hm z h
              exact ⟨o, List.mem_append_left _ ho, e⟩
            · rw [List.mem_singleton.mp h]
              exact ⟨p, by simp, ovl_refl p⟩
        | false =>
          refine iteF (nxt (g := some k) (hN _ _ ⟨rfl, l, _, _, rfl, h1, h2.trans (List.sublist_append_left _ _), h3, fun hlt z hz => ?_⟩))
          rcases List.mem_append.mp hz with h | h
          · exact h4 hm z h
          · rw [List.mem_singleton.mp h]
            have : ∃ o ∈ l, ovl o p = true := by
              have hne : (l.filter fun o => ovl o p) ≠ [] := fun e => by rw [e] at he; cases he
              obtain ⟨o, ho⟩ := List.exists_mem_of_ne_nil _ hne
              exact ⟨o, (List.mem_filter.mp ho).1, (List.mem_filter.mp ho).2⟩
            exact this
      · rw [decide_eq_false (by omega)]
        exact iteF (nxt (g := some k) (hN _ _ ⟨rfl, l, _, _, rfl, h1, h2.trans (List.sublist_append_left _ _), h3, fun hlt => absurd hlt hm⟩))
    · rintro r f ⟨rfl, l, x, y, rfl, h1, h2, h3, h4⟩
      exact q l f1 h1 ((hp.nodup_iff.mpr hnd).sublist h2) (fun p h => hp.mem_iff.mp (h2.subset h)) h3 (fun hlt p h => h4 hlt p (hp.mem_iff.mpr h)) hf1
/-- rows in the making -/
structure RowI (ps : List Str) (i : Nat) (rows : List (List Str)) : Prop where
  fl : rows.flatten = ps.take i
  n1 : 1 ≤ rows.length
  n5 : rows.length ≤ 5
  ok : ∀ r ∈ rows, 1 ≤ r.length ∧ r.length ≤ 4
  two : i = ps.length → 2 ≤ rows.length
theorem flat_ge : ∀ (l : List (List Str)), (∀ r ∈ l, 1 ≤ r.length) → l.length ≤ l.flatten.length
  | [], _ => Nat.le_refl _
  | r :: l, h => by
    have h1 := h r (by simp)
    have h2 := flat_ge l fun x hx => h x (by simp [hx])
    rw [List.flatten_cons, List.length_append, List.length_cons]
    omega
theorem take_nxt {α : Type} {l : List α} {i : Nat} {x : α} (h : l[i]? = some x) : l.take (i + 1) = l.take i ++ [x] := by rw [List.take_succ, h]; rfl
theorem RowI.add {ps : List Str} {i : Nat} {rows : List (List Str)} {x : Str} (h : RowI ps i rows) (hi : ps[i]? = some x) (h5 : rows.length < 5) : RowI ps (i + 1) (rows ++ [[x]]) := by
  have n1 := h.n1
  refine ⟨?_, by rw [List.length_append]; omega, by rw [List.length_append, List.length_singleton]; omega, fun r hr => ?_, fun _ => by rw [List.length_append, List.length_singleton]; omega⟩
  · rw [List.flatten_append, h.fl, take_nxt hi]; rfl
  · rcases List.mem_append.mp hr with e | e
    · exact h.ok r e
    · rw [List.mem_singleton.mp e]; exact ⟨Nat.le_refl _, show 1 ≤ 4 by decide⟩
theorem RowI.app {ps : List Str} {i : Nat} {rows : List (List Str)} {r : List Str} {x : Str} (h : RowI ps i rows) (hi : ps[i]? = some x) (h6 : ps.length ≤ 6) (hr : rows[rows.length - 1]? = some r)
    (c1 : r.length = 4 → ¬ rows.length < 5) (c2 : i + 1 = ps.length → rows.length ≠ 1) : RowI ps (i + 1) (rows.set (rows.length - 1) (r ++ [x])) := by
  have n1 := h.n1
  have n5 := h.n5
  have il : i < ps.length := (List.getElem?_eq_some_iff.mp hi).1
  have hne : rows ≠ [] := fun e => by rw [e] at n1; simp at n1
  have er : rows = rows.dropLast ++ [r] := by
    have := List.dropLast_concat_getLast hne
    rw [List.getLast_eq_getElem] at this
    rw [List.getElem?_eq_getElem (by omega)] at hr
    rw [Option.some.inj hr] at this
    exact this.symm
  have es : rows.set (rows.length - 1) (r ++ [x]) = rows.dropLast ++ [r ++ [x]] := by
    have ln : rows.length - 1 = rows.dropLast.length := by rw [List.length_dropLast]
    rw [ln]
    generalize rows.dropLast = d at er
    subst er
    rw [List.set_append_right _ _ (Nat.le_refl _), Nat.sub_self]
    rfl
  have fl : rows.dropLast.flatten ++ r = ps.take i := by
    have := h.fl
    rw [er, List.flatten_append] at this
    simpa using this
  have okd : ∀ q ∈ rows.dropLast, q ∈ rows := fun q hq => (List.dropLast_sublist _).subset hq
  have rm : r ∈ rows := by rw [er]; simp
  have hr4 := (h.ok r rm).2
  refine ⟨?_, by rw [List.length_set]; exact n1, by rw [List.length_set]; exact n5, fun q hq => ?_, fun e => ?_⟩
  · rw [es, List.flatten_append, take_nxt hi, ← fl]
    simp
  · rw [es] at hq
    rcases List.mem_append.mp hq with e | e
    · exact h.ok q (okd q e)
    · rw [List.mem_singleton.mp e, List.length_append, List.length_singleton]
      refine ⟨by omega, ?_⟩
      have ge := flat_ge rows.dropLast fun q hq => (h.ok q (okd q hq)).1
      have fll := congrArg List.length fl
      rw [List.length_append, List.length_take, List.length_dropLast] at *
      by_cases c : rows.length < 5
      · have : r.length ≠ 4 := fun e => c1 e c
        omega
      · omega
  · rw [List.length_set]
    have := c2 e
    omega
abbrev s__law_rows : Stmt := topS 45
theorem sc__law_rows : FnScope ["_law_reel_here", "_law_paths", "_law_rows_here", "_law_path", "_law_again", "_law_row"] ["_law_reel_here", "_law_paths"] (defScope s__law_rows) := ⟨rfl, rfl, rfl, by decide +kernel, rfl, by decide +kernel, by decide +kernel⟩
def Sp__law_rows : DSp := fun g ds f Q => ∃ (k : Dk) (ps : List Str), g = some k ∧ ds = [.any (.ref k.a), .lst (ps.map D.str)] ∧ 2 ≤ ps.length ∧ ps.length ≤ 6 ∧ (∀ p ∈ ps, asc p ∧ p.length ≤ 1000) ∧ 6 ≤ f ∧
  ∀ (rows : List (List Str)) f', rows.flatten = ps → 2 ≤ rows.length → rows.length ≤ 5 → (∀ r ∈ rows, 1 ≤ r.length ∧ r.length ≤ 4) → f ≤ f' + 6 → Q (.tup (rows.map tps)) f'
def rwC : DT := dOrV (dOp (oEq false) (dCall Sp__law_pull (dCons (dVar 0) (dCons (dC (D.int 2)) dNil))) (dC (D.int 0)))
  (dOrV (dOp (oEq false) (dCB oLen (dCons (dOp oIx (dVar 2) (dNeg (dC (D.int 1)))) dNil)) (dC (D.int 4)))
    (dAndV (dOp (oEq false) (dCB oLen (dCons (dVar 2) dNil)) (dC (D.int 1))) (dOp (oEq false) (dVar 3) (dOp oIx (dVar 1) (dNeg (dC (D.int 1)))))))
def rwT : DTT := dAnd (dTest (dVar 4)) (dTest (dOp (oI0 fun i j => D.bool (decide (i < j))) (dCB oLen (dCons (dVar 2) dNil)) (dC (D.int 5))))
theorem atI_end {α : Type} {l : List α} {x : α} (h : l[l.length - 1]? = some x) : atI l (-1) = some x := by
  have hl := (List.getElem?_eq_some_iff.mp h).1
  unfold atI ixN
  rw [if_neg (by decide), if_pos (by omega)]
  show l[((l.length : Int) + (-1)).toNat]? = some x
  rw [show ((l.length : Int) + (-1)).toNat = l.length - 1 by omega]
  exact h
theorem rows_body {H0 Hs0 : Hp} {n0 : Nat} {k : Dk} {D : Addr} {qs : List Addr} {rows : List (List Str)} {f : Nat} {H Hs : Hp} {ps : List Str} {i : Nat} {x : Str} {vp : V} {a4 a5 : Option V} {N : L2.St → Hp → Prop} {Q : VK} {bk ct : L2.St → Hp → Prop}
    (s0 : Same Hs0 H0) (k0 : DkOk (some k) H0 Hs0 n0) (h : LLi (some k) H0 Hs0 D qs rows (f + 1) H Hs) (rp : Rp K Hs (.lst (ps.map DL.D.str)) vp) (hi : ps[i]? = some x) (R : RowI ps i rows) (h6 : ps.length ≤ 6) (hasc : ∀ p ∈ ps, asc p ∧ p.length ≤ 1000)
    (hN : ∀ qs' rows' f' H' Hs' b, f ≤ f' → LLi (some k) H0 Hs0 D qs' rows' f' H' Hs' → Same Hs Hs' → RowI ps (i + 1) rows' → N [some (.ref k.a), some vp, some (.ref D), some (.str x), b, a5] H') :
    tSeq (tAsg (tOf K rwC) (gName 4)) (tIfS (tOfT K rwT) (tDrop (tBM K "list" rAppend (tVar 2) (tCons (tLst (tCons (tVar 3) tNil)) tNil))) (tDrop (tBM K "list" rAppend (tOp (rIx K) (tVar 2) (tOf K (dNeg (dC (.int 1))))) (tCons (tVar 3) tNil))))
      { nx := N, rt := Q, bk := bk, ct := ct } [some (.ref k.a), some vp, some (.ref D), some (.str x), a4, a5] H := by
  obtain ⟨r, hr⟩ : ∃ r, rows[rows.length - 1]? = some r := ⟨_, List.getElem?_eq_getElem (by have := R.n1; omega)⟩
  have hrm := List.mem_of_getElem? hr
  have hr4 := (R.ok r hrm).2
  have hr1 := (R.ok r hrm).1
  have n1 := R.n1
  have n5 := R.n5
  have il : i < ps.length := (List.getElem?_eq_some_iff.mp hi).1
  have sl : ∀ {H Hs' f' a4 z} (_ : LLi (some k) H0 Hs0 D qs rows f' H Hs') (_ : Same Hs Hs') (_ : z = Sl.no ∨ ∃ d v, z = .sh d ∧ a4 = some v ∧ ∀ H, Rp K H d v), At K (some k) [.sh (.any (.ref k.a)), .sh (.lst (ps.map DL.D.str)), .sh (rowsL rows), .sh (.str x), z, .no] f' [some (.ref k.a), some vp, some (.ref D), some (.str x), a4, a5] H (shr H Hs' D qs) := fun {H Hs' f' a4 z} h e hz => by
    refine ⟨h.sub, h.shk, .sh rfl (.sh ((rp.mono e).mono h.ext) (.sh h.rp (.sh rfl ?_)))⟩
    rcases hz with rfl | ⟨d, v, rfl, rfl, hv⟩
    · exact .no (.no .nil)
    · exact .sh (hv _) (.no .nil)
  have lastL : atI (rows.map fun r => DL.D.lst (r.map DL.D.str)) (-1) = some (.lst (r.map DL.D.str)) := atI_end (by rw [List.length_map, List.getElem?_map, hr]; rfl)
  obtain ⟨y, hy⟩ : ∃ y, ps[ps.length - 1]? = some y := ⟨_, List.getElem?_eq_getElem (by omega)⟩
  have lastP : atI (ps.map DL.D.str) (-1) = some (.str y) := atI_end (by rw [List.length_map, List.getElem?_map, hy]; rfl)
  have ax := hasc x (List.mem_of_getElem? hi)
  have ay := hasc y (List.mem_of_getElem? hy)
  refine ⟨some k, _, _, _, fun d f' => ∃ b, d = .bool b ∧ f ≤ f' ∧ (r.length = 4 → b = true) ∧ (rows.length = 1 → x = y → b = true), sl h (Same.refl _) (.inl rfl), ?_, ?_⟩
  · rintro d f1 v H1 Hs1 s1 k1 r1 ⟨b, rfl, hf1, c1, c2⟩
    cases r1
    obtain ⟨h1, e1⟩ := h.un s0 s1 k1
    refine ⟨some k, _, _, _, fun c f' => f' = f1 ∧ c = (b && decide (rows.length < 5)), sl h1 e1 (.inr ⟨.bool b, .bl b, rfl, rfl, fun _ => rfl⟩), ?_, ?_⟩
    · rintro c f2 H2 Hs2 s2 k2 ⟨rfl, rfl⟩
      obtain ⟨h2, e2⟩ := h1.un s0 s2 k2
      cases hb : (b && decide (rows.length < 5)) with
      | true =>
        rw [Bool.and_eq_true, decide_eq_true_iff] at hb
        rw [if_pos rfl]
        refine ⟨.ref D, rfl, .inl ⟨rfl, _, SqL.of h2.l.dl⟩, .str x, rfl, lim_le (show 1 ≤ lim by decide), fun p hp => ⟨D, qs.map V.ref, _, rfl, rfl, ?_, ?_, ?_⟩⟩
        · rw [upd_ne (ne_of_none h2.l.dl hp)]; exact h2.l.dl
        · rw [List.length_map, ← h2.l.len]; exact lim_lt (L1 (by omega))
        · have h3 := h2.add k0 (x := x) hp
          rw [List.map_append] at h3
          exact hN _ _ _ _ _ _ hf1 h3 (e1.trans e2) (R.add hi hb.2)
      | false =>
        rw [if_neg Bool.false_ne_true]
        refine ⟨.ref D, rfl, some k, _, _, _, fun d f' => d = .int (-1) ∧ f' = f2, sl h2 (e1.trans e2) (.inl rfl), ?_, ⟨rfl, rfl⟩⟩
        rintro d f3 v H3 Hs3 s3 k3 r3 ⟨rfl, rfl⟩
        cases r3
        obtain ⟨h3, e3⟩ := h2.un s0 s3 k3
        have ql : qs.length = rows.length := h3.l.len.symm
        obtain ⟨p, hp⟩ : ∃ p, qs[rows.length - 1]? = some p := ⟨_, List.getElem?_eq_getElem (by omega)⟩
        have hat := h3.l.at_ _ _ _ hr hp
        refine .inl ⟨D, _, -1, .ref p, rfl, rfl, SqL.of h3.l.dl, atI_end (by rw [List.length_map, ql, List.getElem?_map, hp]; rfl), .inl ⟨rfl, _, SqL.of hat⟩, .str x, rfl, p, _, _, rfl, rfl, hat, ?_, ?_⟩
        · rw [List.length_map]; exact lim_lt (L1 (by omega))
        · have h4 := h3.app (x := x) hr hp
          rw [List.map_append] at h4
          refine hN _ _ _ _ _ _ hf1 h4 ((e1.trans e2).trans e3) (R.app hi h6 hr (fun e4 c => ?_) fun ei e1' => ?_)
          · rw [c1 e4, decide_eq_true c] at hb; cases hb
          · have : x = y := by
              rw [show ps.length - 1 = i by omega, hi] at hy
              exact Option.some.inj hy
            rw [c2 e1' this, decide_eq_true (by omega)] at hb; cases hb
    · show if b = true then _ else _
      cases b with
      | true =>
        refine iteT ⟨rfl, ?_⟩
        rw [List.length_map, Bool.true_and]
        exact decide_eq_decide.mpr (by omega)
      | false => exact iteF ⟨rfl, rfl⟩
  · refine ⟨k, 2, f, rfl, rfl, by decide, by decide, rfl, fun r0 r0a r0b => ?_⟩
    show if decide (r0 = 0) = true then _ else _
    by_cases c0 : r0 = 0
    · rw [decide_eq_true c0]
      exact iteT ⟨true, rfl, Nat.le_refl _, fun _ => rfl, fun _ _ => rfl⟩
    rw [decide_eq_false c0]
    refine iteF ⟨_, lastL, ?_⟩
    show if decide (((r.map DL.D.str).length : Int) = 4) = true then _ else _
    rw [List.length_map]
    by_cases c4 : r.length = 4
    · rw [decide_eq_true (by omega)]
      exact iteT ⟨true, rfl, Nat.le_refl _, fun _ => rfl, fun _ _ => rfl⟩
    rw [decide_eq_false (by omega)]
    refine iteF ?_
    show if decide (((rows.map fun r => DL.D.lst (r.map DL.D.str)).length : Int) = 1) = true then _ else _
    rw [List.length_map]
    by_cases c1 : rows.length = 1
    · rw [decide_eq_true (by omega)]
      refine iteT ⟨_, lastP, ?_⟩
      show ∃ b, DL.D.bool (xb false (decide (x = y))) = .bool b ∧ _
      exact ⟨decide (x = y), by simp [xb], Nat.le_refl _, fun e => absurd e c4, fun _ e => decide_eq_true e⟩
    · rw [decide_eq_false (by omega)]
      exact iteF ⟨false, rfl, Nat.le_refl _, fun e => absurd e c4, fun e => absurd e c1⟩
theorem ok__law_rows (d : Df K mg "_law_rows" s__law_rows) (m_len : mg "len" = none) (m_tuple : mg "tuple" = none) (c__law_pull : Cal P w K mg base 1 "_law_pull" ["_law_reel_here", "_law_many"] Sp__law_pull) : Cal P w K mg base 2 "_law_rows" ["_law_reel_here", "_law_paths"] Sp__law_rows := by
  obtain ⟨f, fd, F, mm⟩ := d
  refine ⟨f, fd, ?_, F.kp, F.binds fun _ _ _ _ _ _ us hl => match us, hl with | [_, _], _ => rfl, mm⟩
  refine F.ok sc__law_rows (fun vs H Q E h => ?_) (fun cdv A outer s H vs Q E hr h => ?_)
  · obtain ⟨g, Hs, ds, n, Q', h1, h2, h3, ⟨_, _, _, rfl, _⟩, h5⟩ := h
    rw [← h3.length]; rfl
  · obtain ⟨g, Hs, ds, n, Q', h1, h2, h3, ⟨k, ps, rfl, rfl, hl2, hl6, hasc, hf, hQ⟩, h5⟩ := h
    obtain ⟨vk, vp, rfl, rk, rp⟩ := rpA2 h3
    refine ⟨_, pss_cons (ps_set (i := 2) sc__law_rows.nd rfl (Or.inl rfl) (pe_lst (pa_cons (pe_lst (pa_cons (de_ix (de_v 1) de_int).pe pa_nil)) pa_nil)) rfl (.inl rfl))
      (pss_cons (ps_for PassesOwn.never rfl (di_seq (de_sl (de_v 1) (do_some de_int) do_none)).pi (dg_name (i := 3) sc__law_rows.nd).pg
        (pss_cons (ps_set (i := 4) sc__law_rows.nd rfl (Or.inl rfl) (de_or (de_eq hr.units (de_callC c__law_pull (hr.mono (by decide)) (da_cons (de_v 0) (da_cons de_int da_nil))) de_int) (de_or (de_eq hr.units (de_len m_len (da_cons (de_ix (de_v 2) (de_neg de_int)) da_nil)) de_int) (de_one (de_and (de_eq hr.units (de_len m_len (da_cons (de_v 2) da_nil)) de_int) (de_one (de_eq hr.units (de_v 3) (de_ix (de_v 1) (de_neg de_int)))))))).pe rfl (.inl rfl))
        (pss_one (ps_if (DW.p (dw_and (dp_val (de_v 4)) (dw_and1 (dp_lt (de_len m_len (da_cons (de_v 2) da_nil)) de_int)))).pt
          (pss_one (ps_expr (pe_bm PySem.F.plainAttrs_list PySem.F.slot_list_append PySem.F.type_list_append mt_append (pv 2) (pa_cons (pe_lst (pa_cons (pv 3) pa_nil)) pa_nil))))
          (pss_one (ps_expr (pe_bm PySem.F.plainAttrs_list PySem.F.slot_list_append PySem.F.type_list_append mt_append (pe_ix ix_seq (pv 2) (de_neg de_int).pe (fun _ _ => rfl)) (pa_cons (pv 3) pa_nil))))))))
      (pss_one (ps_ret (de_callTy call_tuple_of sc_tuple (by rfl) m_tuple (by decide +kernel) (da_cons (dl_lc (own := [("_law_row", 5)]) rfl sc__law_rows.nd (di_seq (de_v 2)) (blkOk_by (own := [("_law_row", 5)]) (N := ["_law_reel_here", "_law_paths", "_law_rows_here", "_law_path", "_law_again", "_law_row"]) (sc := defScope s__law_rows) (by decide +kernel)) (fun _ _ _ _ _ => dg_name (i := 5) sc__law_rows.nd) (fun _ _ _ _ _ => dts_nil) (fun _ _ _ _ _ => (de_callTy call_tuple_of sc_tuple (by rfl) m_tuple (by decide +kernel) (da_cons (de_v 5) da_nil)))).e da_nil)).pe))), ?_⟩
    cases rk
    obtain ⟨x0, hx0⟩ : ∃ x, ps[0]? = some x := ⟨_, List.getElem?_eq_getElem (by omega)⟩
    refine ⟨some k, [.sh (.any (.ref k.a)), .sh (.lst (ps.map D.str)), .no, .no, .no, .no], n, Hs, fun d f' => d = .str x0 ∧ f' = n, ⟨h1, h2, .sh rfl (.sh rp (.no (.no (.no (.no .nil)))))⟩, ?_, ⟨_, atI_nat (j := 0) (by rw [List.getElem?_map, hx0]; rfl), rfl, rfl⟩⟩
    rintro d f1 v H1 Hs1 s1 k1 r1 ⟨rfl, rfl⟩
    cases r1
    refine ⟨lim_le (show 1 ≤ lim by decide), fun p hp => ⟨lim_le (show 1 ≤ lim by decide), fun D hD => ?_⟩⟩
    have l0 := LLi.start h1 h2 s1 k1 hp hD
    refine ⟨some k, [.sh (.any (.ref k.a)), .sh (.lst (ps.map DL.D.str)), .no, .no, .no, .no], f1, Hs1, fun ds f' => ds = (ps.drop 1).map DL.D.str ∧ f' = f1, ⟨l0.stp.sub, l0.dk, .sh rfl (.sh (rp.mono s1.ext) (.no (.no (.no (.no .nil)))))⟩, ?_, ?_⟩
    · rintro ds f2 J H2 Hs2 s2 k2 wk ⟨rfl, rfl⟩
      have l1 := l0.step s2 k2
      have rp2 := (rp.mono s1.ext).mono s2.ext
      have dl : (ps.drop 1).length = ps.length - 1 := List.length_drop
      refine ⟨fun i m st2 H3 => m = (ps.drop 1).length - i ∧ i ≤ (ps.drop 1).length ∧ ∃ qs rows f3 Hs3 a3 a4, st2 = [some (.ref k.a), some vp, some (.ref D), a3, a4, none] ∧ LLi (some k) H Hs D qs rows f3 H3 Hs3 ∧ Same Hs2 Hs3 ∧ RowI ps (i + 1) rows ∧ f2 ≤ f3 + i,
        ⟨_, rfl, Nat.zero_le _, _, _, _, _, _, _, rfl, l1, Same.refl _, ?_, Nat.le_refl _⟩, ?_⟩
      · exact ⟨by rw [take_nxt hx0]; rfl, Nat.le_refl _, show 1 ≤ 5 by decide, fun r hr => by rw [List.mem_singleton.mp hr]; exact ⟨Nat.le_refl _, show 1 ≤ 4 by decide⟩, fun e => by omega⟩
      · rintro i m st2 H3 ⟨rfl, hil, qs, rows, f3, Hs3, a3, a4, rfl, l3, e3, R, hf3⟩
        by_cases hlt : i < (ps.drop 1).length
        · have hgd : ((ps.drop 1).map DL.D.str)[i]? = some (.str (ps.drop 1)[i]) := by rw [List.getElem?_map, List.getElem?_eq_getElem hlt]; rfl
          have hix : ps[i + 1]? = some (ps.drop 1)[i] := by
            have : (ps.drop 1)[i]? = some (ps.drop 1)[i] := List.getElem?_eq_getElem hlt
            rw [List.getElem?_drop] at this
            rwa [Nat.add_comm] at this
          obtain ⟨hgo, hy⟩ := wk.go i _ H3 Hs3 e3 l3.stp.sub hgd
          refine .inr ⟨hgo, fun st3 H4 => i + 1 ≤ (ps.drop 1).length ∧ ∃ qs rows f3 Hs3 a3 a4, st3 = [some (.ref k.a), some vp, some (.ref D), a3, a4, none] ∧ LLi (some k) H Hs D qs rows f3 H4 Hs3 ∧ Same Hs2 Hs3 ∧ RowI ps (i + 1 + 1) rows ∧ f2 ≤ f3 + (i + 1), fun st3 H4 h => ⟨_, by omega, rfl, h⟩, fun v H4 hv => ?_⟩
          obtain ⟨Hs4, s4, r4⟩ := hy v H4 hv
          refine ⟨Hs4, _, [(3, _)], s4.sub, r4, rfl, fun ws hws => ?_⟩
          obtain ⟨v1, w1, rfl, q1, q2⟩ := hws
          cases q1
          cases q2
          obtain ⟨f4, rfl⟩ : ∃ f4, f3 = f4 + 1 := ⟨f3 - 1, by omega⟩
          have l4 := l3.step s4.gen (l3.dk.stp s4)
          exact rows_body h1 h2 l4 ((rp2.mono e3).mono s4.ext) hix R hl6 hasc fun qs' rows' f' H' Hs' b hf' l5 e5 R5 => ⟨hlt, qs', rows', f', Hs', _, _, rfl, l5, (e3.trans s4.ext).trans e5, R5, by omega⟩
        · have ei : i = (ps.drop 1).length := by omega
          have st0 := wk.stop H3 (fun a o h => l3.stp.sub a o (e3 a o h))
          rw [List.length_map, ← ei] at st0
          refine .inl ⟨st0, ?_⟩
          refine ⟨some k, [.sh (.any (.ref k.a)), .sh (.lst (ps.map DL.D.str)), .sh (rowsL rows), .no, .no, .no], f3, shr H3 Hs3 D qs, Q', ⟨l3.sub, l3.shk, .sh rfl (.sh ((rp2.mono e3).mono l3.ext) (.sh l3.rp (.no (.no (.no .nil)))))⟩, fun d f' v H' Hs' s k hr q => h5 d f' v H' Hs' (l3.sh.trans s) k hr q, ?_⟩
          refine ⟨by rw [List.length_map]; have := R.n5; exact L1 (by omega), ?_⟩
          refine lcM (fun r : List Str => DL.D.lst (r.map DL.D.str)) tps id rows _ (fun r hr => ⟨_, rfl, fun f Q q => ?_⟩) ?_
          · exact q
          · rw [List.map_id]
            have fl := R.fl
            rw [List.take_of_length_le (by omega)] at fl
            exact hQ rows f3 fl (R.two (by omega)) R.n5 R.ok (by omega)
    · refine ⟨?_, rfl⟩
      show cutD (ps.map DL.D.str) (some ((1 : Nat) : Int)) none = _
      rw [cutD_drop', List.map_drop]
/-! _law_rule_of -/
abbrev s__law_rule_of : Stmt := topS 46
theorem sc__law_rule_of : FnScope ["_law_reel_here", "_law_kind", "_law_spots_here", "_law_how", "_law_paths", "_law_cut", "_law_head", "_law_below", "_law_path"] ["_law_reel_here", "_law_kind", "_law_spots_here"] (defScope s__law_rule_of) := ⟨rfl, rfl, rfl, by decide +kernel, rfl, by decide +kernel, by decide +kernel⟩
def Sp__law_rule_of : DSp := fun g ds f Q => ∃ (k : Dk) (kd : Str) (sp : List Str), g = some k ∧ ds = [.any (.ref k.a), .str kd, .lst (sp.map D.str)] ∧ kd ∈ (["forbid", "layers", "stairs", "apart", "only", "face", "noring"] : List Str) ∧ Spots sp ∧ 30 ≤ f ∧
  ∀ (r : Rl) f', r.form → ovlL r.par = false → r.wd = kd → (∀ p ∈ r.par, p ∈ sp) → f ≤ f' + 30 → Q r.d f'
set_option maxHeartbeats 2000000 in
theorem ok__law_rule_of (d : Df K mg "_law_rule_of" s__law_rule_of) (m_tuple : mg "tuple" = none) (m_len : mg "len" = none) (c__law_alone : Cal P w K mg base 3 "_law_alone" ["_law_reel_here", "_law_paths", "_law_limit"] Sp__law_alone) (c__law_pull : Cal P w K mg base 1 "_law_pull" ["_law_reel_here", "_law_many"] Sp__law_pull) (c__law_under : Cal P w K mg base 1 "_law_under" ["_law_path", "_law_other"] Sp__law_under) (c__law_pick : Cal P w K mg base 2 "_law_pick" ["_law_reel_here", "_law_some"] Sp__law_pick) (c__law_rows : Cal P w K mg base 2 "_law_rows" ["_law_reel_here", "_law_paths"] Sp__law_rows) : Cal P w K mg base 4 "_law_rule_of" ["_law_reel_here", "_law_kind", "_law_spots_here"] Sp__law_rule_of := by
  obtain ⟨f, fd, F, m⟩ := d
  refine ⟨f, fd, dfn (k := 3) (S := Sp__law_rule_of) F sc__law_rule_of ?len (fun cdv A outer s H E hr => (dss_cons (ds_par false (i := 3) (j := 4) sc__law_rule_of.nd (de_callC c__law_pick (hr.mono (by decide)) (da_cons (de_v 0) (da_cons (dl_lst (da_cons de_str (da_cons de_str da_nil))).e da_nil))) (de_callC c__law_alone (hr.mono (by decide)) (da_cons (de_v 0) (da_cons (de_v 2) (da_cons (de_add de_int (de_callC c__law_pull (hr.mono (by decide)) (da_cons (de_v 0) (da_cons de_int da_nil)))) da_nil)))))
      (dss_cons (ds_set false (i := 5) sc__law_rule_of.nd (de_add de_int (de_callC c__law_pull (hr.mono (by decide)) (da_cons (de_v 0) (da_cons (de_sub (de_len m_len (da_cons (de_v 4) da_nil)) de_int) da_nil)))))
      (dss_cons (ds_if (dp_eq hr.units (de_v 1) de_str) (dss_one (ds_ret (de_tup (da_cons (de_v 1) (da_cons (de_callTy call_tuple_of sc_tuple (by rfl) m_tuple (by decide +kernel) (da_cons (de_sl (de_v 4) do_none (do_some (de_v 5))) da_nil)) (da_cons (de_callTy call_tuple_of sc_tuple (by rfl) m_tuple (by decide +kernel) (da_cons (de_sl (de_v 4) (do_some (de_v 5)) do_none) da_nil)) (da_cons (de_v 3) da_nil))))))) dss_nil)
      (dss_cons (ds_if (dp_eq hr.units (de_v 1) de_str) (dss_one (ds_ret (de_tup (da_cons (de_v 1) (da_cons (de_callC c__law_rows (hr.mono (by decide)) (da_cons (de_v 0) (da_cons (de_v 4) da_nil))) (da_cons (de_v 3) da_nil)))))) dss_nil)
      (dss_cons (ds_if (dp_eq hr.units (de_v 1) de_str) (dss_one (ds_ret (de_tup (da_cons (de_v 1) (da_cons (de_callC c__law_rows (hr.mono (by decide)) (da_cons (de_v 0) (da_cons (de_v 4) da_nil))) da_nil))))) dss_nil)
      (dss_cons (ds_if (dp_eq hr.units (de_v 1) de_str) (dss_one (ds_ret (de_tup (da_cons (de_v 1) (da_cons (de_callTy call_tuple_of sc_tuple (by rfl) m_tuple (by decide +kernel) (da_cons (de_v 4) da_nil)) (da_cons (de_v 3) da_nil)))))) dss_nil)
      (dss_cons (ds_if (dp_eq hr.units (de_v 1) de_str) (dss_one (ds_ret (de_tup (da_cons (de_v 1) (da_cons (de_callTy call_tuple_of sc_tuple (by rfl) m_tuple (by decide +kernel) (da_cons (de_sl (de_v 4) do_none (do_some (de_v 5))) da_nil)) (da_cons (de_callTy call_tuple_of sc_tuple (by rfl) m_tuple (by decide +kernel) (da_cons (de_sl (de_v 4) (do_some (de_v 5)) (do_some (de_add (de_v 5) (de_callC c__law_pull (hr.mono (by decide)) (da_cons (de_v 0) (da_cons de_int da_nil)))))) da_nil)) da_nil)))))) dss_nil)
      (dss_cons (ds_if (dp_eq hr.units (de_v 1) de_str) (dss_one (ds_ret (de_tup (da_cons (de_v 1) (da_cons (de_callTy call_tuple_of sc_tuple (by rfl) m_tuple (by decide +kernel) (da_cons (de_v 4) da_nil)) da_nil))))) dss_nil)
      (dss_cons (ds_set false (i := 6) sc__law_rule_of.nd (de_callC c__law_pick (hr.mono (by decide)) (da_cons (de_v 0) (da_cons (de_v 2) da_nil))))
      (dss_cons (ds_setLc (i := 7) (own := [("_law_path", 8)]) sc__law_rule_of.nd (di_seq (de_v 2)) (blkOk_by (own := [("_law_path", 8)]) (N := ["_law_reel_here", "_law_kind", "_law_spots_here", "_law_how", "_law_paths", "_law_cut", "_law_head", "_law_below", "_law_path"]) (sc := defScope s__law_rule_of) (by decide +kernel)) (fun _ _ _ _ _ => dg_name (i := 8) sc__law_rule_of.nd) (fun _ _ _ _ _ => dts_one (DW.p (dw_and (dp_ne hr.units (de_v 8) (de_v 6)) (dw_and1 (dp_val (de_callC c__law_under (hr.mono (by decide)) (da_cons (de_v 6) (da_cons (de_v 8) da_nil)))))))) (fun _ _ _ _ _ => (de_v 8)) (fun _ _ _ h => snd_set (m := false) (i := 7) h.e))
      (dss_one (ds_ret (de_tup (da_cons de_str (da_cons (de_v 6) (da_cons (de_callTy call_tuple_of sc_tuple (by rfl) m_tuple (by decide +kernel) (da_cons (de_callC c__law_alone (hr.mono (by decide)) (da_cons (de_v 0) (da_cons (de_v 7) (da_cons (de_callC c__law_pull (hr.mono (by decide)) (da_cons (de_v 0) (da_cons de_int da_nil))) da_nil)))) da_nil)) da_nil))))))))))))))))) ?h, F.kp, F.binds fun _ _ _ _ _ _ us hl => match us, hl with | [_, _, _], _ => rfl, m⟩
  case len =>
    intro g ds n Q h; obtain ⟨_, _, _, _, rfl, _⟩ := h; rfl
  case h =>
    intro g ds n Q h
    obtain ⟨k, kd, sp, rfl, rfl, hkd, hs, hf, q⟩ := h
    obtain ⟨f1, rfl⟩ : ∃ f1, n = f1 + 30 := ⟨n - 30, by omega⟩
    have hsl := hs.len
    have hsa : ∀ p ∈ sp, asc p ∧ p.length ≤ 1000 := fun p hp => ⟨(hs.asc p hp).1, Nat.le_trans (hs.asc p hp).2 (by decide)⟩
    refine ⟨show 2 ≤ lim by decide, .inl ⟨k, _, rfl, rfl, by exact (show 0 < 2 by decide), by exact (show 2 ≤ 100000 by decide), by omega, fun od hod f2 hf2 => ?_⟩⟩
    obtain ⟨ch, rfl⟩ : ∃ ch : Bool, od = .str (howS ch) := by
      simp only [List.mem_cons, List.not_mem_nil, or_false] at hod
      rcases hod with rfl | rfl
      · exact ⟨false, rfl⟩
      · exact ⟨true, rfl⟩
    clear hod
    obtain ⟨f3, rfl⟩ : ∃ f3, f2 = f3 + 1 := ⟨f2 - 1, by omega⟩
    refine ⟨k, 5, f3, rfl, rfl, by decide, by decide, rfl, fun r0 r0a r0b => ?_⟩
    obtain ⟨m, hm⟩ : ∃ m : Nat, 2 + r0 = (m : Int) := ⟨(2 + r0).toNat, by omega⟩
    refine ⟨k, sp, m, rfl, by rw [← hm], by omega, hs.nd, hsa, by omega, fun l f4 l1 l2 l3 l4 l5 hf4 => ?_⟩
    have ll2 : 2 ≤ l.length := by
      obtain ⟨a, b, ha, hb, hab⟩ := hs.two
      by_cases c : l.length < m
      · obtain ⟨x, hx, ex⟩ := l5 c a ha
        obtain ⟨y, hy, ey⟩ := l5 c b hb
        have ne : x ≠ y := fun e => by
          subst e
          rcases hab x (l3 x hx) with h | h
          · rw [h] at ex; cases ex
          · rw [h] at ey; cases ey
        match l, hx, hy with
        | [], hx, _ => cases hx
        | [z], hx, hy => exact absurd ((List.mem_singleton.mp hx).trans (List.mem_singleton.mp hy).symm) ne
        | _ :: _ :: _, _, _ => simp
      · omega
    have ll6 : l.length ≤ 6 := by omega
    have lrp : ∀ p ∈ l, rpB p = true := fun p hp => hs.rp p (l3 p hp)
    have hq : ∀ (r : Rl), r.form → ovlL r.par = false → r.wd = kd → (∀ p ∈ r.par, p ∈ sp) → ∀ f', f4 ≤ f' + 18 → Q r.d f' := fun r h1 h2 h3 h4 f' h => q r f' h1 h2 h3 h4 (by omega)
    clear q
    obtain ⟨f5, rfl⟩ : ∃ f5, f4 = f5 + 1 := ⟨f4 - 1, by omega⟩
    refine ⟨k, ((l.map D.str).length : Int) - 1, f5, rfl, rfl, by rw [List.length_map]; omega, by rw [List.length_map]; omega, rfl, fun r1 r1a r1b => ?_⟩
    rw [List.length_map] at r1b
    obtain ⟨c, hc⟩ : ∃ c : Nat, 1 + r1 = (c : Int) := ⟨(1 + r1).toNat, by omega⟩
    have c1 : 1 ≤ c := by omega
    have c2 : c < l.length := by omega
    unfold oAdd
    dsimp only
    rw [hc]
    simp only [List.set_cons_succ, List.set_cons_zero, setsR, startR, List.map_cons, List.map_nil, List.cons_append, List.nil_append, List.replicate_succ, List.replicate_zero, List.length_cons, List.length_nil, Nat.reduceAdd, Nat.reduceSub]
    have take : cutD (l.map D.str) none (some (c : Int)) = (l.take c).map D.str := by rw [cutD_take, List.map_take]
    have drop : cutD (l.map D.str) (some (c : Int)) none = (l.drop c).map D.str := by rw [cutD_drop', List.map_drop]
    have PS : ∀ (t : List Str) (lo hi : Nat), t.Sublist l → lo ≤ t.length → t.length ≤ hi → rPs lo hi t := fun t lo hi hs h1 h2 => ⟨h1, h2, fun p hp => lrp p (hs.subset hp)⟩
    have tl : (l.take c).length = c := by rw [List.length_take]; omega
    have dl : (l.drop c).length = l.length - c := List.length_drop
    have ltd : l.take c ++ l.drop c = l := List.take_append_drop c l
    show if decide (kd = "forbid") = true then _ else _
    by_cases e1 : kd = "forbid"
    · rw [decide_eq_true e1]
      subst e1
      refine iteT ⟨show 4 ≤ lim by decide, ?_⟩
      show Q (.tup [.str "forbid", .tup (cutD (l.map D.str) none (some (c : Int))), .tup (cutD (l.map D.str) (some (c : Int)) none), .str (howS ch)]) f5
      rw [take, drop]
      refine hq (.forbid _ _ ch) ⟨PS _ 1 6 (List.take_sublist _ _) (by omega) (by omega), PS _ 1 6 (List.drop_sublist _ _) (by omega) (by omega)⟩ ?_ rfl ?_ f5 (by omega)
      · show ovlL (_ ++ _) = false
        rw [ltd]; exact l4
      · intro p hp
        have hp : p ∈ l.take c ++ l.drop c := hp
        rw [ltd] at hp
        exact l3 p hp
    rw [decide_eq_false e1]
    refine iteF ?_
    have rows : ∀ {R : List (List Str) → Prop}, (∀ rows : List (List Str), rRows rows → ovlL rows.flatten = false → (∀ p ∈ rows.flatten, p ∈ sp) → R rows) → ∀ (rows : List (List Str)), rows.flatten = l → 2 ≤ rows.length → rows.length ≤ 5 → (∀ r ∈ rows, 1 ≤ r.length ∧ r.length ≤ 4) → R rows := fun {R} h rows e h2 h5 hr => by
      refine h rows ⟨h2, h5, fun r hr' => ⟨(hr r hr').1, (hr r hr').2, fun p hp => lrp p (by rw [← e]; exact List.mem_flatten.mpr ⟨r, hr', hp⟩)⟩⟩ (by rw [e]; exact l4) (by rw [e]; exact l3)
    show if decide (kd = "layers") = true then _ else _
    by_cases e2 : kd = "layers"
    · rw [decide_eq_true e2]
      subst e2
      refine iteT ⟨k, l, rfl, rfl, ll2, ll6, fun p hp => hsa p (l3 p hp), by omega, fun rs f6 h1 h2 h3 h4 h5 => ?_⟩
      refine ⟨show 3 ≤ lim by decide, rows (R := fun rs => Q (Rl.d (.layers rs ch)) f6) (fun rs h6 h7 h8 => ?_) rs h1 h2 h3 h4⟩
      exact hq (.layers rs ch) h6 h7 rfl h8 f6 (by omega)
    rw [decide_eq_false e2]
    refine iteF ?_
    show if decide (kd = "stairs") = true then _ else _
    by_cases e3 : kd = "stairs"
    · rw [decide_eq_true e3]
      subst e3
      refine iteT ⟨k, l, rfl, rfl, ll2, ll6, fun p hp => hsa p (l3 p hp), by omega, fun rs f6 h1 h2 h3 h4 h5 => ?_⟩
      refine ⟨show 2 ≤ lim by decide, rows (R := fun rs => Q (Rl.d (.stairs rs)) f6) (fun rs h6 h7 h8 => ?_) rs h1 h2 h3 h4⟩
      exact hq (.stairs rs) h6 h7 rfl h8 f6 (by omega)
    rw [decide_eq_false e3]
    refine iteF ?_
    show if decide (kd = "apart") = true then _ else _
    by_cases e4 : kd = "apart"
    · rw [decide_eq_true e4]
      subst e4
      exact iteT ⟨show 3 ≤ lim by decide, hq (.apart l ch) (PS l 2 6 (List.Sublist.refl _) ll2 ll6) l4 rfl l3 f5 (by omega)⟩
    rw [decide_eq_false e4]
    refine iteF ?_
    show if decide (kd = "only") = true then _ else _
    by_cases e5 : kd = "only"
    · rw [decide_eq_true e5]
      subst e5
      obtain ⟨f6, rfl⟩ : ∃ f6, f5 = f6 + 1 := ⟨f5 - 1, by omega⟩
      refine iteT ⟨k, 5, f6, rfl, rfl, by decide, by decide, rfl, fun r2 r2a r2b => ⟨show 3 ≤ lim by decide, ?_⟩⟩
      obtain ⟨u, hu⟩ : ∃ u : Nat, (c : Int) + r2 = ((c + u : Nat) : Int) := ⟨r2.toNat, by omega⟩
      show Q (.tup [.str "only", .tup (cutD (l.map D.str) none (some (c : Int))), .tup (cutD (l.map D.str) (some (c : Int)) (some ((c : Int) + r2)))]) f6
      have cu : cutD (l.map D.str) (some (c : Int)) (some ((c + u : Nat) : Int)) = ((l.drop c).take u).map D.str := by
        unfold cutD
        rw [HT.sIx_nat, HT.sIx_nat, List.length_map, Nat.min_eq_left (by omega : c ≤ l.length), List.map_take, List.map_drop]
        by_cases h : c + u ≤ l.length
        · rw [Nat.min_eq_left h, Nat.add_sub_cancel_left]
        · rw [Nat.min_eq_right (by omega), List.take_of_length_le (by rw [List.length_drop, List.length_map]; omega), List.take_of_length_le (by rw [List.length_drop, List.length_map]; omega)]
      rw [hu, take, cu]
      have el : l.take c ++ (l.drop c).take u = l.take (c + u) := List.take_add.symm
      refine hq (.only _ _) ⟨PS _ 1 6 (List.take_sublist _ _) (by omega) (by omega), PS _ 0 6 ((List.take_sublist _ _).trans (List.drop_sublist _ _)) (Nat.zero_le _) (by rw [List.length_take]; omega)⟩ ?_ rfl ?_ f6 (by omega)
      · show ovlL (_ ++ _) = false
        rw [el]
        exact ovlL_pre (B := l.drop (c + u)) (by rw [List.take_append_drop]; exact l4)
      · intro p hp
        have hp : p ∈ l.take c ++ (l.drop c).take u := hp
        rw [el] at hp
        exact l3 p (List.mem_of_mem_take hp)
    rw [decide_eq_false e5]
    refine iteF ?_
    show if decide (kd = "noring") = true then _ else _
    by_cases e6 : kd = "noring"
    · rw [decide_eq_true e6]
      subst e6
      exact iteT ⟨show 2 ≤ lim by decide, hq (.noring l) (PS l 2 6 (List.Sublist.refl _) ll2 ll6) l4 rfl l3 f5 (by omega)⟩
    rw [decide_eq_false e6]
    refine iteF ?_
    have e7 : kd = "face" := by
      simp only [List.mem_cons, List.not_mem_nil, or_false] at hkd
      rcases hkd with h | h | h | h | h | h | h
      · exact absurd h e1
      · exact absurd h e2
      · exact absurd h e3
      · exact absurd h e4
      · exact absurd h e5
      · exact h
      · exact absurd h e6
    subst e7
    have spos : 0 < sp.length := List.length_pos_of_mem hs.two.choose_spec.choose_spec.1
    refine .inl ⟨k, _, rfl, rfl, by rw [List.length_map]; exact spos, by rw [List.length_map]; omega, by omega, fun d hd f6 hf6 => ?_⟩
    obtain ⟨p, hp, rfl⟩ := List.mem_map.mp hd
    simp only [List.set_cons_succ, List.set_cons_zero, setsR, startR, List.map_cons, List.map_nil, List.cons_append, List.nil_append, List.replicate_succ, List.replicate_zero, List.length_cons, List.length_nil, Nat.reduceAdd, Nat.reduceSub]
    have al := fun x hx => (hsa x hx).2
    refine ⟨by rw [List.length_map]; exact L1 (by omega), ?_⟩
    refine lcF D.str (fun x => !decide (x = p) && cov p x) sp _ (fun x hx => ⟨_, rfl, fun f Q q => ?_, fun _ f Q q => q⟩) ?_
    · show if (xb true (decide (x = p))) = true then _ else _
      by_cases e : x = p
      · rw [decide_eq_true e] at q ⊢
        exact iteF q
      · rw [decide_eq_false e] at q ⊢
        exact iteT ⟨p, x, rfl, Nat.le_trans (al p hp) (by decide), q⟩
    · generalize hB : (sp.filter fun x => !decide (x = p) && cov p x) = B
      have hBs : B.Sublist sp := by rw [← hB]; exact List.filter_sublist
      have hBm : ∀ e ∈ B, cov p e = true ∧ e ≠ p := fun e he => by
        rw [← hB] at he
        have := (List.mem_filter.mp he).2
        rw [Bool.and_eq_true, Bool.not_eq_true', decide_eq_false_iff_not] at this
        exact ⟨this.2, this.1⟩
      have hBl := hBs.length_le
      obtain ⟨f7, rfl⟩ : ∃ f7, f6 = f7 + 1 := ⟨f6 - 1, by omega⟩
      refine ⟨k, 4, f7, rfl, rfl, by decide, by decide, rfl, fun r3 r3a r3b => ?_⟩
      obtain ⟨t, rfl⟩ : ∃ t : Nat, r3 = (t : Int) := ⟨r3.toNat, by omega⟩
      refine ⟨k, B, t, rfl, rfl, by omega, hs.nd.sublist hBs, fun x hx => hsa x (hBs.subset hx), by omega, fun es f8 q1 q2 q3 q4 q5 q6 => ⟨show 3 ≤ lim by decide, ?_⟩⟩
      exact hq (.face p es) ⟨hs.rp p hp, ⟨Nat.zero_le _, by omega, fun e he => hs.rp e (hBs.subset (q3 e he))⟩, fun e he => hBm e (q3 e he)⟩ q4 rfl (fun e he => hBs.subset (q3 e he)) f8 (by omega)
/-! _law_long_rule -/
abbrev s__law_long_rule : Stmt := topS 56
theorem sc__law_long_rule : FnScope ["_law_reel_here", "_law_spots_here", "_law_kind"] ["_law_reel_here", "_law_spots_here"] (defScope s__law_long_rule) := ⟨rfl, rfl, rfl, by decide +kernel, rfl, by decide +kernel, by decide +kernel⟩
def setLong : Rl → Rl
  | .forbid ss ts _ => .forbid ss ts true
  | .layers rows _ => .layers rows true
  | .apart ps _ => .apart ps true
  | r => r
def Sp__law_long_rule : DSp := fun g ds f Q => ∃ (k : Dk) (sp : List Str), g = some k ∧ ds = [.any (.ref k.a), .lst (sp.map D.str)] ∧ Spots sp ∧ 40 ≤ f ∧
  ∀ (r : Rl) f', r.form → ovlL r.par = false → f ≤ f' + 40 → Q r.d f'
set_option maxHeartbeats 2000000 in
theorem ok__law_long_rule (d : Df K mg "_law_long_rule" s__law_long_rule) (c__law_rule_of : Cal P w K mg base 4 "_law_rule_of" ["_law_reel_here", "_law_kind", "_law_spots_here"] Sp__law_rule_of) (c__law_pick : Cal P w K mg base 2 "_law_pick" ["_law_reel_here", "_law_some"] Sp__law_pick) : Cal P w K mg base 5 "_law_long_rule" ["_law_reel_here", "_law_spots_here"] Sp__law_long_rule := by
  obtain ⟨f, fd, F, m⟩ := d
  refine ⟨f, fd, dfn (k := 4) (S := Sp__law_long_rule) F sc__law_long_rule ?len (fun cdv A outer s H E hr => (dss_cons (ds_set false (i := 2) sc__law_long_rule.nd (de_callC c__law_pick (hr.mono (by decide)) (da_cons (de_v 0) (da_cons (dl_lst (da_cons de_str (da_cons de_str (da_cons de_str da_nil)))).e da_nil))))
      (dss_one (ds_ret (de_add (de_sl (de_callC c__law_rule_of (hr.mono (by decide)) (da_cons (de_v 0) (da_cons (de_v 2) (da_cons (de_v 1) da_nil)))) do_none (do_some (de_neg de_int))) (de_tup (da_cons de_str da_nil))))))) ?h, F.kp, F.binds fun _ _ _ _ _ _ us hl => match us, hl with | [_, _], _ => rfl, m⟩
  case len =>
    intro g ds n Q h; obtain ⟨_, _, _, rfl, _⟩ := h; rfl
  case h =>
    intro g ds n Q h
    obtain ⟨k, sp, rfl, rfl, hs, hf, q⟩ := h
    refine ⟨show 3 ≤ lim by decide, .inl ⟨k, _, rfl, rfl, by exact (show 0 < 3 by decide), by exact (show 3 ≤ 100000 by decide), by omega, fun kd hkd f1 hf1 => ?_⟩⟩
    obtain ⟨w, rfl, hw⟩ : ∃ w : Str, kd = .str w ∧ w ∈ (["forbid", "layers", "apart"] : List Str) := by
      simp only [List.mem_cons, List.not_mem_nil, or_false] at hkd
      rcases hkd with rfl | rfl | rfl
      · exact ⟨_, rfl, by simp⟩
      · exact ⟨_, rfl, by simp⟩
      · exact ⟨_, rfl, by simp⟩
    simp only [List.set_cons_succ, List.set_cons_zero, setsR, startR, List.map_cons, List.map_nil, List.cons_append, List.nil_append, List.replicate_succ, List.replicate_zero, List.length_cons, List.length_nil, Nat.reduceAdd, Nat.reduceSub]
    refine ⟨k, w, sp, rfl, rfl, ?_, hs, by omega, fun r f2 hr ho hwd _ hf2 => ?_⟩
    · simp only [List.mem_cons, List.not_mem_nil, or_false] at hw ⊢
      rcases hw with h | h | h <;> simp [h]
    have key : ∀ (r : Rl), r.wd ∈ (["forbid", "layers", "apart"] : List Str) → r.form → ovlL r.par = false → (setLong r).form ∧ ovlL (setLong r).par = false ∧ ∃ its : List D, r.d = .tup its ∧ its.length ≤ 100 ∧ (setLong r).d = .tup (cutD its none (some (-1)) ++ [.str "chain"]) := fun r hw hr ho => by
      cases r with
      | forbid ss ts ch => exact ⟨hr, ho, _, rfl, (by decide : 4 ≤ 100), by rw [cutD_init]; rfl⟩
      | layers rows ch => exact ⟨hr, ho, _, rfl, (by decide : 3 ≤ 100), by rw [cutD_init]; rfl⟩
      | apart ps ch => exact ⟨hr, ho, _, rfl, (by decide : 3 ≤ 100), by rw [cutD_init]; rfl⟩
      | _ => exact absurd hw (by simp only [Rl.wd]; decide +kernel)
    obtain ⟨h1, h2, its, h3, h4, h5⟩ := key r (by rw [hwd]; exact hw) hr ho
    rw [h3]
    have lc : (cutD its none (some (-1))).length ≤ 100 := Nat.le_trans (cut_sub its none (some (-1))).length_le h4
    refine ⟨show 1 ≤ lim by decide, L1 (by show (cutD its none (some (-1))).length + 1 ≤ _; omega), ?_⟩
    have := q (setLong r) f2 h1 h2 (by omega)
    rw [h5] at this
    exact this
theorem Spots.pos {l : List Str} (h : Spots l) : 0 < l.length := by
  obtain ⟨a, _, ha, _⟩ := h.two
  exact List.length_pos_of_mem ha
/-! _law_spots -/
abbrev s__law_spots : Stmt := topS 43
theorem sc__law_spots : FnScope ["_law_reel_here", "_law_names_here", "_law_found", "_law_turn", "_law_path"] ["_law_reel_here", "_law_names_here"] (defScope s__law_spots) := ⟨rfl, rfl, rfl, by decide +kernel, rfl, by decide +kernel, by decide +kernel⟩
def Sp__law_spots : DSp := fun g ds f Q => ∃ (k : Dk) (nm : List Str), g = some k ∧ ds = [.any (.ref k.a), .lst (nm.map D.str)] ∧ 4 ≤ nm.length ∧ nm.length ≤ 26 ∧ (∀ n ∈ nm, isName n) ∧ nm.Nodup ∧ 25 ≤ f ∧
  ∀ l f', Spots l → f ≤ f' + 25 → Q (.lst (l.map D.str)) f'
set_option maxHeartbeats 2000000 in
theorem ok__law_spots (d : Df K mg "_law_spots" s__law_spots) (m_range : mg "range" = none) (c__law_pull : Cal P w K mg base 1 "_law_pull" ["_law_reel_here", "_law_many"] Sp__law_pull) (c__law_pick : Cal P w K mg base 2 "_law_pick" ["_law_reel_here", "_law_some"] Sp__law_pick) : Cal P w K mg base 3 "_law_spots" ["_law_reel_here", "_law_names_here"] Sp__law_spots := by
  obtain ⟨f, fd, F, m⟩ := d
  refine ⟨f, fd, dfn (k := 2) (S := Sp__law_spots) F sc__law_spots ?len (fun cdv A outer s H E hr => (dss_cons (ds_setL false (i := 2) sc__law_spots.nd (dl_lst (da_cons (de_ix (de_v 1) de_int) (da_cons (de_ix (de_v 1) de_int) da_nil))))
      (dss_cons (ds_for [] PassesOwn.never (di_range1 m_range (da_cons (de_add de_int (de_callC c__law_pull (hr.mono (by decide)) (da_cons (de_v 0) (da_cons de_int da_nil)))) da_nil)) (dg_name (i := 3) sc__law_spots.nd) (dss_cons (ds_set true (i := 4) sc__law_spots.nd (de_add (de_add (de_callC c__law_pick (hr.mono (by decide)) (da_cons (de_v 0) (da_cons (de_v 2) da_nil))) de_str) (de_callC c__law_pick (hr.mono (by decide)) (da_cons (de_v 0) (da_cons (de_sl (de_v 1) do_none (do_some de_int)) da_nil)))))
      (dss_cons (ds_if (dp_eq hr.units (de_callC c__law_pull (hr.mono (by decide)) (da_cons (de_v 0) (da_cons de_int da_nil))) de_int) (dss_one (ds_set false (i := 4) sc__law_spots.nd (de_ix (de_v 1) de_int))) dss_nil)
      (dss_one (ds_if (DW.p (dw_and (dp_notIn hr (de_v 4) (de_v 2)) (dw_and1 (dp_lt (de_count (de_v 4) de_str) de_int)))) (dss_one (ds_app false (i := 2) (de_v 4))) dss_nil)))))
      (dss_one (ds_ret (de_v 2)))))) ?h, F.kp, F.binds fun _ _ _ _ _ _ us hl => match us, hl with | [_, _], _ => rfl, m⟩
  case len =>
    intro g ds n Q h; obtain ⟨_, _, _, rfl, _⟩ := h; rfl
  case h =>
    intro g ds n Q h
    obtain ⟨k, nm, rfl, rfl, h4, h26, hn, hnd, hf, q⟩ := h
    obtain ⟨f1, rfl⟩ : ∃ f1, n = f1 + 1 := ⟨n - 1, by omega⟩
    have hnn : ∀ (j : Nat) (hj : j < nm.length), isName nm[j] := fun j hj => hn _ (List.getElem_mem hj)
    have at' : ∀ (j : Nat) (hj : j < nm.length), atI (nm.map D.str) (j : Int) = some (.str nm[j]) := fun j hj => atI_nat (by rw [List.getElem?_map, List.getElem?_eq_getElem hj]; rfl)
    have l1 : (Str.ofString ".").length = 1 := by decide +kernel
    refine ⟨_, at' 0 (by omega), _, at' 1 (by omega), show 2 ≤ lim by decide, ?_⟩
    simp only [List.set_cons_succ, List.set_cons_zero, setsR, startR, List.map_cons, List.map_nil, List.cons_append, List.nil_append, List.replicate_succ, List.replicate_zero, List.length_cons, List.length_nil, Nat.reduceAdd, Nat.reduceSub]
    refine ⟨k, 7, f1, rfl, rfl, by decide, by decide, rfl, fun r0 r0a r0b => ⟨by omega, by omega, ?_⟩⟩
    generalize hm : (2 + r0).toNat = m
    have hm8 : m ≤ 8 := by omega
    have g0 : SpG nm [nm[0], nm[1]] := by
      have ne : nm[0] ≠ nm[1] := fun e => by have := (List.getElem_inj hnd).mp e; omega
      refine ⟨by simp [ne], fun s hs => ?_, nm[0], nm[1], List.getElem?_eq_getElem (by omega), List.getElem?_eq_getElem (by omega), by simp, by simp, ne, hnn 0 (by omega), hnn 1 (by omega)⟩
      simp only [List.mem_cons, List.not_mem_nil, or_false] at hs
      rcases hs with rfl | rfl
      · exact ⟨[nm[0]], by simp, show 1 ≤ 4 by decide, fun n h => by rw [List.mem_singleton.mp h]; exact hnn 0 (by omega), (join_one _).symm⟩
      · exact ⟨[nm[1]], by simp, show 1 ≤ 4 by decide, fun n h => by rw [List.mem_singleton.mp h]; exact hnn 1 (by omega), (join_one _).symm⟩
    refine dFor_range (fun i r f => ∃ (l : List Str) (x y : Sl), r = [.sh (.any (.ref k.a)), .sh (.lst (nm.map D.str)), .ow (l.map D.str), x, y] ∧ SpG nm l ∧ l.length ≤ 2 + i ∧ f1 ≤ f + 3 * i) 0 m _ _ ?_ ?_ ⟨_, _, _, rfl, g0, Nat.le_refl _, by omega⟩
    · rintro i r f N hi ⟨l, x, y, rfl, hg, hll, hfi⟩ hN
      obtain ⟨f2, rfl⟩ : ∃ f2, f = f2 + 3 := ⟨f - 3, by omega⟩
      refine ⟨_, rfl, ?_⟩
      have lasc : ∀ s ∈ l, asc s ∧ s.length ≤ 36 := fun s hs => by
        obtain ⟨ns, h1, h2, h3, rfl⟩ := hg.hd s hs
        exact rp_asc (rp_path.mpr ⟨ns, List.length_pos_iff.mpr h1, h2, h3, rfl⟩)
      have lpos : 0 < l.length := by
        obtain ⟨a, _, _, _, ha, _⟩ := hg.ab
        exact List.length_pos_of_mem ha
      refine mid2 (fun r f => ∃ (ns : List Str) (x : Sl), r = [.sh (.any (.ref k.a)), .sh (.lst (nm.map D.str)), .ow (l.map D.str), x, .sh (.str (Txt.join "." ns))] ∧ ns ≠ [] ∧ ns.length ≤ 5 ∧ (∀ n ∈ ns, isName n) ∧ f2 ≤ f) ?_ (fun hk => ?_)
      · rintro r f ⟨ns, x, rfl, h1, h2, h3, hf3⟩
        have pn : PathN 5 (Txt.join "." ns) := ⟨ns, List.length_pos_iff.mpr h1, h2, h3, rfl⟩
        have e := count_split (Txt.join "." ns)
        rw [split_join_names h1 h3] at e
        refine ⟨shaped_str pn.asc, shaped_strs (fun s hs => (lasc s hs).1), ?_⟩
        rw [anyS']
        by_cases hi' : Txt.join "." ns ∈ l
        · rw [decide_eq_true hi']
          exact iteF (hN _ _ ⟨l, _, _, rfl, hg, by omega, by omega⟩)
        · rw [decide_eq_false hi']
          refine iteT ⟨trivial, ?_⟩
          show if decide (Txt.count (Txt.join "." ns) "." < 4) = true then _ else _
          by_cases h4' : ns.length ≤ 4
          · rw [decide_eq_true (by omega)]
            refine iteT ⟨_, rfl, by rw [List.length_map]; exact L1 (by omega), hN _ _ ⟨l ++ [Txt.join "." ns], _, _, by rw [List.map_append]; rfl, ⟨?_, fun s hs => ?_, ?_⟩, by rw [List.length_append, List.length_singleton]; omega, by omega⟩⟩
            · rw [List.nodup_append]
              exact ⟨hg.nd, by simp, fun a ha b hb e => hi' (by rw [List.mem_singleton.mp hb] at e; exact e ▸ ha)⟩
            · rcases List.mem_append.mp hs with h | h
              · exact hg.hd s h
              · rw [List.mem_singleton.mp h]; exact ⟨ns, h1, h4', h3, rfl⟩
            · obtain ⟨a, b, q1, q2, q3, q4, q5⟩ := hg.ab
              exact ⟨a, b, q1, q2, List.mem_append_left _ q3, List.mem_append_left _ q4, q5⟩
          · rw [decide_eq_false (by omega)]
            exact iteF (hN _ _ ⟨l, _, _, rfl, hg, by omega, by omega⟩)
      · dsimp only at hk
        refine .inl ⟨k, l.map D.str, rfl, rfl, by rw [List.length_map]; exact lpos, by rw [List.length_map]; omega, by omega, fun d hd f3 hf3 => ?_⟩
        obtain ⟨p, hp, rfl⟩ := List.mem_map.mp hd
        obtain ⟨ns, h1, h2, h3, rfl⟩ := hg.hd p hp
        have hpl := (lasc _ hp).2
        obtain ⟨f4, rfl⟩ : ∃ f4, f3 = f4 + 2 := ⟨f3 - 2, by omega⟩
        refine ⟨L1 (by rw [l1]; omega), .inl ⟨k, _, rfl, rfl, ?_, ?_, by omega, fun d hd f5 hf5 => ?_⟩⟩
        · show 0 < (cutD (nm.map D.str) none (some ((4 : Nat) : Int))).length
          rw [cutD_takeS, List.length_map, List.length_take]; omega
        · show (cutD (nm.map D.str) none (some ((4 : Nat) : Int))).length ≤ 100000
          rw [cutD_takeS, List.length_map, List.length_take]; omega
        · have hd : d ∈ cutD (nm.map D.str) none (some ((4 : Nat) : Int)) := hd
          rw [cutD_takeS] at hd
          obtain ⟨w, hw, rfl⟩ := List.mem_map.mp hd
          have hw := hn w (List.mem_of_mem_take hw)
          have hwl := hw.2.1
          obtain ⟨f6, rfl⟩ : ∃ f6, f5 = f6 + 1 := ⟨f5 - 1, by omega⟩
          refine ⟨L1 (by rw [app_len, l1]; omega), rfl, ?_⟩
          refine ⟨k, 6, f6, rfl, rfl, by decide, by decide, rfl, fun r r0 r1 => ?_⟩
          show if decide (r = 0) = true then _ else _
          by_cases hr : r = 0
          · rw [decide_eq_true hr]
            refine iteT ⟨_, at' 2 (by omega), ?_⟩
            dsimp only
            refine hk _ _ ?_
            exact ⟨[nm[2]], _, by rw [join_one]; try rfl, by simp, show 1 ≤ 5 by decide, fun n h => by rw [List.mem_singleton.mp h]; exact hnn 2 (by omega), by omega⟩
          · rw [decide_eq_false hr]
            refine iteF (nxt ?_)
            dsimp only
            refine hk _ _ ?_
            refine ⟨ns ++ [w], _, by rw [← join_snoc ns w h1]; try rfl, by simp, by rw [List.length_append, List.length_singleton]; omega, fun n h => ?_, by omega⟩
            rcases List.mem_append.mp h with h | h
            · exact h3 n h
            · rw [List.mem_singleton.mp h]; exact hw
    · rintro r f ⟨l, x, y, rfl, hg, hll, hfi⟩
      exact q l f (hg.spots (by omega)) (by omega)
/-! _law_modules -/
abbrev s__law_modules : Stmt := topS 47
theorem sc__law_modules : FnScope ["_law_reel_here", "_law_spots_here", "_law_leaves", "_law_found", "_law_leaf", "_law_head", "_law_path", "_law_one"] ["_law_reel_here", "_law_spots_here", "_law_leaves"] (defScope s__law_modules) := ⟨rfl, rfl, rfl, by decide +kernel, rfl, by decide +kernel, by decide +kernel⟩
theorem PVm.snoc {ms : List Str} {p : Str} (h : PVm ms) (hl : ms.length < 24) (hp : PathN 6 p) (hn : ∀ m ∈ ms, ovl m p = false) : PVm (ms ++ [p]) where
  len := by rw [List.length_append]; exact hl
  path := fun m hm => by
    rcases List.mem_append.mp hm with e | e
    · exact h.path m e
    · rw [List.mem_singleton.mp e]; exact hp
  apart := by
    rw [List.pairwise_append]
    refine ⟨h.apart, by simp, fun a ha b hb => ?_⟩
    rw [List.mem_singleton.mp hb]
    have := hn a ha
    unfold ovl at this ⊢
    rw [Bool.or_comm]
    exact this
theorem pvm_nil : PVm [] := ⟨by decide, by simp, by simp⟩
theorem path_leaf {h l : Str} (hh : rpB h = true) (hl : isName l) : PathN 6 (h ++ "." ++ l) := by
  obtain ⟨ns, n1, n2, n3, rfl⟩ := rp_path.mp hh
  exact ⟨ns ++ [l], by rw [List.length_append]; omega, by rw [List.length_append, List.length_singleton]; omega, fun n hn => (List.mem_append.mp hn).elim (n3 n) (fun e => by rw [List.mem_singleton.mp e]; exact hl), join_snoc ns l (fun e => by rw [e] at n1; exact absurd n1 (by decide))⟩
theorem path_name {s : Str} (h : isName s) : PathN 6 s := ⟨[s], show 1 ≤ 1 by decide, show 1 ≤ 6 by decide, fun n hn => by rw [List.mem_singleton.mp hn]; exact h, by
  have : Txt.join "." [s] = s := by
    refine str_ext ?_
    show cd (Txt.join "." [s]) = cd s
    rw [cd_join]
    rfl
  exact this.symm⟩
def Sp__law_modules : DSp := fun g ds f Q => ∃ (k : Dk) (sp lv : List Str), g = some k ∧ ds = [.any (.ref k.a), .lst (sp.map D.str), .lst (lv.map D.str)] ∧ 0 < sp.length ∧ sp.length ≤ 100 ∧ (∀ s ∈ sp, rpB s = true) ∧ lv.length ≤ 24 ∧ (∀ s ∈ lv, isName s) ∧ 2 * lv.length ≤ f ∧
  ∀ (ms : List Str) f', ms.length ≤ lv.length → PVm ms → f ≤ f' + 2 * lv.length → Q (.lst (ms.map D.str)) f'
set_option maxHeartbeats 2000000 in
theorem ok__law_modules (d : Df K mg "_law_modules" s__law_modules) (c__law_meet : Cal P w K mg base 2 "_law_meet" ["_law_path", "_law_other"] Sp__law_meet) (c__law_pick : Cal P w K mg base 2 "_law_pick" ["_law_reel_here", "_law_some"] Sp__law_pick) : Cal P w K mg base 3 "_law_modules" ["_law_reel_here", "_law_spots_here", "_law_leaves"] Sp__law_modules := by
  obtain ⟨f, fd, F, m⟩ := d
  refine ⟨f, fd, dfn (k := 2) (S := Sp__law_modules) F sc__law_modules ?len (fun cdv A outer s H E hr => (dss_cons (ds_setL false (i := 3) sc__law_modules.nd (dl_lst da_nil))
      (dss_cons (ds_for [] PassesOwn.never (di_seq (de_v 2)) (dg_name (i := 4) sc__law_modules.nd) (dss_cons (ds_set false (i := 5) sc__law_modules.nd (de_callC c__law_pick (hr.mono (by decide)) (da_cons (de_v 0) (da_cons (de_v 1) da_nil))))
      (dss_cons (ds_set false (i := 6) sc__law_modules.nd (de_callC c__law_pick (hr.mono (by decide)) (da_cons (de_v 0) (da_cons (dl_lst (da_cons (de_add (de_add (de_v 5) de_str) (de_v 4)) (da_cons (de_add (de_add (de_v 5) de_str) (de_v 4)) (da_cons (de_v 5) (da_cons (de_v 4) da_nil))))).e da_nil))))
      (dss_cons (ds_if (dp_ne hr.units (dl_lc (own := [("_law_one", 7)]) rfl sc__law_modules.nd (di_seq (de_v 3)) (blkOk_by (own := [("_law_one", 7)]) (N := ["_law_reel_here", "_law_spots_here", "_law_leaves", "_law_found", "_law_leaf", "_law_head", "_law_path", "_law_one"]) (sc := defScope s__law_modules) (by decide +kernel)) (fun _ _ _ _ _ => dg_name (i := 7) sc__law_modules.nd) (fun _ _ _ _ _ => dts_one (dp_val (de_callC c__law_meet (hr.mono (by decide)) (da_cons (de_v 7) (da_cons (de_v 6) da_nil))))) (fun _ _ _ _ _ => (de_v 7))).e (dl_lst da_nil).e) (dss_one (ds_set false (i := 6) sc__law_modules.nd (de_add (de_add (de_v 5) de_str) (de_v 4)))) dss_nil)
      (dss_one (ds_if (dp_eq hr.units (dl_lc (own := [("_law_one", 7)]) rfl sc__law_modules.nd (di_seq (de_v 3)) (blkOk_by (own := [("_law_one", 7)]) (N := ["_law_reel_here", "_law_spots_here", "_law_leaves", "_law_found", "_law_leaf", "_law_head", "_law_path", "_law_one"]) (sc := defScope s__law_modules) (by decide +kernel)) (fun _ _ _ _ _ => dg_name (i := 7) sc__law_modules.nd) (fun _ _ _ _ _ => dts_one (dp_val (de_callC c__law_meet (hr.mono (by decide)) (da_cons (de_v 7) (da_cons (de_v 6) da_nil))))) (fun _ _ _ _ _ => (de_v 7))).e (dl_lst da_nil).e) (dss_one (ds_app false (i := 3) (de_v 6))) dss_nil))))))
      (dss_one (ds_ret (de_v 3)))))) ?h, F.kp, F.binds fun _ _ _ _ _ _ us hl => match us, hl with | [_, _, _], _ => rfl, m⟩
  case len =>
    intro g ds n Q h; obtain ⟨_, _, _, _, rfl, _⟩ := h; rfl
  case h =>
    intro g ds n Q h
    obtain ⟨k, sp, lv, rfl, rfl, h0, hl, hsp, hll, hlv, hf, q⟩ := h
    have l1 : (Str.ofString ".").length = 1 := by decide +kernel
    refine ⟨Nat.zero_le _, ?_⟩
    refine dFor_list D.str (fun done rest r f => ∃ (ms : List Str) (a b c d : Sl), r = [.sh (.any (.ref k.a)), .sh (.lst (sp.map D.str)), .sh (.lst (lv.map D.str)), .ow (ms.map D.str), a, b, c, d] ∧ PVm ms ∧ ms.length ≤ done.length ∧ n ≤ f + 2 * done.length) lv _ _ ?_ ?_ ⟨[], _, _, _, _, rfl, pvm_nil, Nat.le_refl _, Nat.le_refl _⟩
    · rintro done lf rest r f N hx ⟨ms, a, b, c, d, rfl, hv, hl2, hfi⟩ hN
      have hlf : isName lf := hlv lf (by rw [hx]; simp)
      have hdl : done.length < lv.length := by rw [hx, List.length_append, List.length_cons]; omega
      have hlfl := hlf.2.1
      refine ⟨_, rfl, .inl ⟨k, _, rfl, rfl, by rw [List.length_map]; exact h0, by rw [List.length_map]; omega, by omega, fun hd hhd f3 hf3 => ?_⟩⟩
      obtain ⟨h, hh, rfl⟩ := List.mem_map.mp hhd
      obtain ⟨q1, q2⟩ := rp_asc (hsp h hh)
      have c1 : h.length + (Str.ofString ".").length ≤ lim := L1 (by omega)
      have c2 : (h ++ Str.ofString ".").length + lf.length ≤ lim := L1 (by rw [app_len]; omega)
      refine ⟨c1, c2, c1, c2, show 4 ≤ lim by decide, ?_⟩
      refine .inl ⟨k, _, rfl, rfl, by exact (show 0 < 4 by decide), by exact (show 4 ≤ 100000 by decide), by omega, fun pd hpd f4 hf4 => ?_⟩
      obtain ⟨p, rfl, hpp⟩ : ∃ p, pd = .str p ∧ PathN 6 p := by
        simp only [List.mem_cons, List.not_mem_nil, or_false] at hpd
        rcases hpd with rfl | rfl | rfl | rfl
        · exact ⟨_, rfl, path_leaf (hsp h hh) hlf⟩
        · exact ⟨_, rfl, path_leaf (hsp h hh) hlf⟩
        · exact ⟨_, rfl, (rp_path.mp (hsp h hh)).mono (by decide)⟩
        · exact ⟨_, rfl, path_name hlf⟩
      clear hpd
      simp only [List.set_cons_succ, List.set_cons_zero, setsR, startR, List.map_cons, List.map_nil, List.cons_append, List.nil_append, List.replicate_succ, List.replicate_zero, List.length_cons, List.length_nil, Nat.reduceAdd, Nat.reduceSub]
      have hml : ∀ m ∈ ms, m.length ≤ 54 := fun m hm => (hv.path m hm).len
      have msl : (ms.map D.str).length ≤ lim := by rw [List.length_map]; exact L1 (by have := hv.len; omega)
      refine mid (fun r f => ∃ (p : Str) (a b c d : Sl), r = [.sh (.any (.ref k.a)), .sh (.lst (sp.map D.str)), .sh (.lst (lv.map D.str)), .ow (ms.map D.str), a, b, .sh (.str p), d] ∧ PathN 6 p ∧ f4 = f) ?_ (fun hk => ?_)
      · rintro r f ⟨p, a, b, c, d, rfl, hp, rfl⟩
        have hpl : p.length ≤ 54 := hp.len
        refine ⟨msl, ?_⟩
        refine lcF D.str (fun z => ovl z p) ms _ (fun z hz => ⟨_, rfl, fun f Q h => ⟨z, p, rfl, by have := hml z hz; omega, by omega, h⟩, fun _ f Q h => h⟩) ?_
        refine ⟨show 0 ≤ lim by decide, ?_⟩
        show oEq false (.lst ((ms.filter fun z => ovl z p).map D.str)) (.lst (([] : List Str).map D.str)) _
        refine oEq_lst (m := []) (fun s hs => (hv.path s (List.mem_filter.mp hs).1).asc) (by simp) ?_
        show if decide (ms.filter (fun z => ovl z p) = []) = true then _ else _
        by_cases hc : ms.filter (fun z => ovl z p) = []
        · rw [decide_eq_true hc]
          refine iteT ⟨ms.map D.str, rfl, msl, ?_⟩
          refine hN _ _ ⟨ms ++ [p], _, _, _, _, by rw [List.map_append]; rfl, hv.snoc (by omega) hp ((fil_nil _ _).mp hc), by rw [List.length_append, List.length_append]; simp; omega, by rw [List.length_append, List.length_singleton]; omega⟩
        · rw [decide_eq_false hc]
          exact hN _ _ ⟨ms, _, _, _, _, rfl, hv, by rw [List.length_append]; omega, by rw [List.length_append, List.length_singleton]; omega⟩
      · have hpl : p.length ≤ 54 := hpp.len
        refine ⟨msl, ?_⟩
        refine lcF D.str (fun z => ovl z p) ms _ (fun z hz => ⟨_, rfl, fun f Q h => ⟨z, p, rfl, by have := hml z hz; omega, by omega, h⟩, fun _ f Q h => h⟩) ?_
        refine ⟨show 0 ≤ lim by decide, ?_⟩
        show oEq true (.lst ((ms.filter fun z => ovl z p).map D.str)) (.lst (([] : List Str).map D.str)) _
        refine oEq_lst (m := []) (fun s hs => (hv.path s (List.mem_filter.mp hs).1).asc) (by simp) ?_
        show if (!decide (ms.filter (fun z => ovl z p) = [])) = true then _ else _
        by_cases hc : ms.filter (fun z => ovl z p) = []
        · rw [decide_eq_true hc]
          refine iteF (nxt (g := some k) ?_)
          exact hk _ _ ⟨_, _, _, .no, _, rfl, hpp, rfl⟩
        · rw [decide_eq_false hc]
          refine iteT ⟨c1, c2, ?_⟩
          exact hk _ _ ⟨_, _, _, .no, _, rfl, path_leaf (hsp h hh) hlf, rfl⟩
    · rintro r f ⟨ms, a, b, c, d, rfl, hv, hl2, hfi⟩
      exact q ms f hl2 hv hfi
/-! _law_uses -/
abbrev s__law_uses : Stmt := topS 48
theorem sc__law_uses : FnScope ["_law_reel_here", "_law_modules_here", "_law_limit", "_law_found", "_law_tries", "_law_turn", "_law_one", "_law_other"] ["_law_reel_here", "_law_modules_here", "_law_limit"] (defScope s__law_uses) := ⟨rfl, rfl, rfl, by decide +kernel, rfl, by decide +kernel, by decide +kernel⟩
def Sp__law_uses : DSp := fun g ds f Q => ∃ (k : Dk) (ms : List Str) (m : Nat), g = some k ∧ ds = [.any (.ref k.a), .lst (ms.map D.str), .int m] ∧ PVm ms ∧ m ≤ 200 ∧ 2 * m + 2 ≤ f ∧
  ∀ (us : List Us) f', us.length ≤ m → PVu ms us → f ≤ f' + (2 * m + 2) → Q (.lst (us.map pairD)) f'
set_option maxHeartbeats 2000000 in
theorem ok__law_uses (d : Df K mg "_law_uses" s__law_uses) (m_range : mg "range" = none) (m_len : mg "len" = none) (m_int : mg "int" = none) (c__law_pick : Cal P w K mg base 2 "_law_pick" ["_law_reel_here", "_law_some"] Sp__law_pick) (c__law_pull : Cal P w K mg base 1 "_law_pull" ["_law_reel_here", "_law_many"] Sp__law_pull) : Cal P w K mg base 3 "_law_uses" ["_law_reel_here", "_law_modules_here", "_law_limit"] Sp__law_uses := by
  obtain ⟨f, fd, F, m⟩ := d
  refine ⟨f, fd, dfn (k := 2) (S := Sp__law_uses) F sc__law_uses ?len (fun cdv A outer s H E hr => (dss_cons (ds_setL false (i := 3) sc__law_uses.nd (dl_lst da_nil))
      (dss_cons (ds_set false (i := 4) sc__law_uses.nd (de_callC c__law_pick (hr.mono (by decide)) (da_cons (de_v 0) (da_cons (dl_lst (da_cons (de_v 2) (da_cons (de_callC c__law_pull (hr.mono (by decide)) (da_cons (de_v 0) (da_cons (de_add (de_v 2) de_int) da_nil))) da_nil))).e da_nil))))
      (dss_cons (ds_for [] PassesOwn.never (di_range1 m_range (da_cons (de_mul (de_v 4) (de_callTy call_int1 sc_int (by rfl) m_int PyProof.Rows.boot_int (da_cons (de_gt (de_len m_len (da_cons (de_v 1) da_nil)) de_int) da_nil))) da_nil)) (dg_name (i := 5) sc__law_uses.nd) (dss_cons (ds_par false (i := 6) (j := 7) sc__law_uses.nd (de_callC c__law_pick (hr.mono (by decide)) (da_cons (de_v 0) (da_cons (de_v 1) da_nil))) (de_callC c__law_pick (hr.mono (by decide)) (da_cons (de_v 0) (da_cons (de_v 1) da_nil))))
      (dss_one (ds_if (DW.p (dw_and (dp_ne hr.units (de_v 6) (de_v 7)) (dw_and1 (dp_notIn hr (de_tup (da_cons (de_v 6) (da_cons (de_v 7) da_nil))) (de_v 3))))) (dss_one (ds_app false (i := 3) (de_tup (da_cons (de_v 6) (da_cons (de_v 7) da_nil))))) dss_nil))))
      (dss_one (ds_ret (de_v 3))))))) ?h, F.kp, F.binds fun _ _ _ _ _ _ us hl => match us, hl with | [_, _, _], _ => rfl, m⟩
  case len =>
    intro g ds n Q h; obtain ⟨_, _, _, _, rfl, _⟩ := h; rfl
  case h =>
    intro g ds n Q h
    obtain ⟨k, ms, m, rfl, rfl, hv, hm, hf, q⟩ := h
    obtain ⟨f2, rfl⟩ : ∃ f2, n = f2 + 2 := ⟨n - 2, by omega⟩
    have hml : (ms.map D.str).length = ms.length := List.length_map _
    refine ⟨Nat.zero_le _, k, (m : Int) + 1, f2 + 1, rfl, rfl, by omega, by omega, rfl, fun r0 r0a r0b => ⟨show 2 ≤ lim by decide, ?_⟩⟩
    refine .inl ⟨k, _, rfl, rfl, by exact (show 0 < 2 by decide), by exact (show 2 ≤ 100000 by decide), by omega, fun vd hvd f3 hf3 => ?_⟩
    obtain ⟨v, rfl, hv2⟩ : ∃ v : Int, vd = .int v ∧ 0 ≤ v ∧ v ≤ m := by
      simp only [List.mem_cons, List.not_mem_nil, or_false] at hvd
      rcases hvd with rfl | rfl
      · exact ⟨_, rfl, by omega, by omega⟩
      · exact ⟨_, rfl, by omega, by omega⟩
    clear hvd
    simp only [List.set_cons_succ, List.set_cons_zero, setsR, startR, List.map_cons, List.map_nil, List.cons_append, List.nil_append, List.replicate_succ, List.replicate_zero, List.length_cons, List.length_nil, Nat.reduceAdd, Nat.reduceSub]
    show CMul v (if decide ((1 : Int) < ((ms.map D.str).length : Int)) then 1 else 0) ∧ _
    rw [hml]
    have hw : ∃ w : Nat, v * (if decide ((1 : Int) < (ms.length : Int)) = true then 1 else 0) = (w : Int) ∧ w ≤ m ∧ (0 < w → 2 ≤ ms.length) := by
      by_cases hc : (1 : Int) < (ms.length : Int)
      · rw [if_pos (decide_eq_true hc), Int.mul_one]
        exact ⟨v.toNat, by omega, by omega, fun _ => by omega⟩
      · rw [if_neg (by rw [decide_eq_false hc]; exact Bool.false_ne_true), Int.mul_zero]
        exact ⟨0, rfl, Nat.zero_le _, fun h => absurd h (by decide)⟩
    obtain ⟨w, ew, w1, w2⟩ := hw
    refine ⟨.inl ⟨by omega, by omega⟩, ?_⟩
    show (_ ∧ _ ∧ _)
    rw [ew]
    refine ⟨by omega, by omega, ?_⟩
    rw [show ((w : Int)).toNat = w from rfl]
    refine dFor_range (fun i r f => ∃ (us : List Us) (a b c d4 : Sl), r = [.sh (.any (.ref k.a)), .sh (.lst (ms.map D.str)), .sh (.int m), .ow (us.map pairD), a, b, c, d4] ∧ PVu ms us ∧ us.length ≤ i ∧ f2 ≤ f + 2 * i) 0 _ _ _ ?_ ?_ ⟨[], _, _, _, _, rfl, ⟨by decide, by simp, by simp⟩, Nat.le_refl _, by omega⟩
    · rintro i r f N hi ⟨us, a, b, c, d4, rfl, hu, hl, hfi⟩ hN
      have h2 : 2 ≤ ms.length := w2 (by omega)
      refine ⟨_, rfl, .inl ⟨k, _, rfl, rfl, by rw [hml]; omega, by rw [hml]; have := hv.len; omega, by omega, fun xd hxd f4 hf4 => ?_⟩⟩
      obtain ⟨x, hx, rfl⟩ := List.mem_map.mp hxd
      refine .inl ⟨k, _, rfl, rfl, by rw [hml]; omega, by rw [hml]; have := hv.len; omega, by omega, fun yd hyd f5 hf5 => ?_⟩
      obtain ⟨y, hy, rfl⟩ := List.mem_map.mp hyd
      show if (!decide (x = y)) = true then _ else _
      have ax := (hv.path x hx).asc
      have ay := (hv.path y hy).asc
      have hasc := hu.asc hv
      by_cases hxy : x = y
      · rw [decide_eq_true hxy]
        exact hN _ _ ⟨us, _, _, _, _, rfl, hu, by omega, by omega⟩
      · rw [decide_eq_false hxy]
        refine iteT ⟨show 2 ≤ lim by decide, ?_⟩
        refine ⟨shaped_pair (u := (x, y)) ⟨ax, ay⟩, shpU hasc, ?_⟩
        rw [anyU']
        show if (!decide ((x, y) ∈ us)) = true then _ else _
        by_cases hin : (x, y) ∈ us
        · rw [decide_eq_true hin]
          exact hN _ _ ⟨us, _, _, _, _, rfl, hu, by omega, by omega⟩
        · rw [decide_eq_false hin]
          refine iteT ⟨us.map pairD, rfl, show 2 ≤ lim by decide, by rw [List.length_map]; exact L1 (by have := hu.len; omega), ?_⟩
          refine hN _ _ ⟨us ++ [(x, y)], _, _, _, _, by rw [List.map_append]; rfl, ⟨by rw [List.length_append]; simp; omega, fun u hu' => ?_, ?_⟩, by rw [List.length_append]; simp; omega, by omega⟩
          · rcases List.mem_append.mp hu' with e | e
            · exact hu.mem u e
            · rw [List.mem_singleton.mp e]; exact ⟨hx, hy, hxy⟩
          · rw [List.nodup_append]
            refine ⟨hu.nd, by simp, fun a ha b hb e => ?_⟩
            rw [List.mem_singleton.mp hb] at e
            exact hin (e ▸ ha)
    · rintro r f ⟨us, a, b, c, d4, rfl, hu, hl, hfi⟩
      exact q us f (by omega) hu (by omega)
/-! _law_case -/
abbrev s__law_case : Stmt := topS 55
theorem sc__law_case : FnScope ["_law_reel_here", "_law_names_here", "_law_spots_here", "_law_many", "_law_modules_here"] ["_law_reel_here"] (defScope s__law_case) := ⟨rfl, rfl, rfl, by decide +kernel, rfl, by decide +kernel, by decide +kernel⟩
def Sp__law_case : DSp := fun g ds f Q => ∃ (k : Dk), g = some k ∧ ds = [.any (.ref k.a)] ∧ 400 ≤ f ∧
  ∀ (sp ms : List Str) (us : List Us) f', Spots sp → ms.length ≤ 8 → PVm ms → us.length ≤ 20 → PVu ms us → f ≤ f' + 400 → Q (.tup [.lst (sp.map D.str), .lst (ms.map D.str), .lst (us.map pairD)]) f'
set_option maxHeartbeats 2000000 in
theorem ok__law_case (d : Df K mg "_law_case" s__law_case) (c__law_uses : Cal P w K mg base 3 "_law_uses" ["_law_reel_here", "_law_modules_here", "_law_limit"] Sp__law_uses) (c__law_modules : Cal P w K mg base 3 "_law_modules" ["_law_reel_here", "_law_spots_here", "_law_leaves"] Sp__law_modules) (c__law_pick : Cal P w K mg base 2 "_law_pick" ["_law_reel_here", "_law_some"] Sp__law_pick) (c__law_pull : Cal P w K mg base 1 "_law_pull" ["_law_reel_here", "_law_many"] Sp__law_pull) (c__law_spots : Cal P w K mg base 3 "_law_spots" ["_law_reel_here", "_law_names_here"] Sp__law_spots) (c__law_names : Cal P w K mg base 3 "_law_names" ["_law_reel_here", "_law_many"] Sp__law_names) : Cal P w K mg base 4 "_law_case" ["_law_reel_here"] Sp__law_case := by
  obtain ⟨f, fd, F, m⟩ := d
  refine ⟨f, fd, dfn (k := 3) (S := Sp__law_case) F sc__law_case ?len (fun cdv A outer s H E hr => (dss_cons (ds_set false (i := 1) sc__law_case.nd (de_callC c__law_names (hr.mono (by decide)) (da_cons (de_v 0) (da_cons de_int da_nil))))
      (dss_cons (ds_set false (i := 2) sc__law_case.nd (de_callC c__law_spots (hr.mono (by decide)) (da_cons (de_v 0) (da_cons (de_v 1) da_nil))))
      (dss_cons (ds_set false (i := 3) sc__law_case.nd (de_callC c__law_pick (hr.mono (by decide)) (da_cons (de_v 0) (da_cons (dl_lst (da_cons de_int (da_cons de_int (da_cons (de_callC c__law_pull (hr.mono (by decide)) (da_cons (de_v 0) (da_cons de_int da_nil))) da_nil)))).e da_nil))))
      (dss_cons (ds_set false (i := 4) sc__law_case.nd (de_callC c__law_modules (hr.mono (by decide)) (da_cons (de_v 0) (da_cons (de_v 2) (da_cons (de_sl (de_v 1) (do_some de_int) (do_some (de_add de_int (de_v 3)))) da_nil)))))
      (dss_one (ds_ret (de_tup (da_cons (de_v 2) (da_cons (de_v 4) (da_cons (de_callC c__law_uses (hr.mono (by decide)) (da_cons (de_v 0) (da_cons (de_v 4) (da_cons de_int da_nil)))) da_nil))))))))))) ?h, F.kp, F.binds fun _ _ _ _ _ _ us hl => match us, hl with | [_], _ => rfl, m⟩
  case len =>
    intro g ds n Q h; obtain ⟨_, _, rfl, _⟩ := h; rfl
  case h =>
    intro g ds n Q h
    obtain ⟨k, rfl, rfl, hf, q⟩ := h
    refine ⟨k, 14, rfl, rfl, by decide, by omega, fun nm f1 hnl hn hnd hf1 => ?_⟩
    refine ⟨k, nm, rfl, rfl, by omega, by omega, hn, hnd, by omega, fun sp f2 hs hf2 => ?_⟩
    simp only [List.set_cons_succ, List.set_cons_zero, setsR, startR, List.map_cons, List.map_nil, List.cons_append, List.nil_append, List.replicate_succ, List.replicate_zero, List.length_cons, List.length_nil, Nat.reduceAdd, Nat.reduceSub]
    obtain ⟨f3, rfl⟩ : ∃ f3, f2 = f3 + 1 := ⟨f2 - 1, by omega⟩
    refine ⟨k, 9, f3, rfl, rfl, by decide, by decide, rfl, fun r r0 r1 => ⟨show 3 ≤ lim by decide, ?_⟩⟩
    refine .inl ⟨k, _, rfl, rfl, by exact (show 0 < 3 by decide), by exact (show 3 ≤ 100000 by decide), by omega, fun vd hvd f4 hf4 => ?_⟩
    obtain ⟨v, rfl, hv⟩ : ∃ v : Nat, vd = .int v ∧ v ≤ 8 := by
      simp only [List.mem_cons, List.not_mem_nil, or_false] at hvd
      rcases hvd with rfl | rfl | rfl
      · exact ⟨6, rfl, by decide⟩
      · exact ⟨8, rfl, by decide⟩
      · exact ⟨r.toNat, by rw [Int.toNat_of_nonneg r0], by omega⟩
    clear hvd
    simp only [List.set_cons_succ, List.set_cons_zero, setsR, startR, List.map_cons, List.map_nil, List.cons_append, List.nil_append, List.replicate_succ, List.replicate_zero, List.length_cons, List.length_nil, Nat.reduceAdd, Nat.reduceSub]
    obtain ⟨lv, hlv, elv⟩ := List.sublist_map_iff.mp (cut_sub (nm.map D.str) (some (5 : Int)) (some ((5 : Int) + (v : Int))))
    have hll : lv.length ≤ v := by
      have h1 : (lv.map D.str).length ≤ v := by
        rw [← elv]
        show (List.take _ _).length ≤ v
        rw [List.length_take]
        have e1 : HT.sIx (nm.map D.str).length 0 (some (5 : Int)) = min 5 (nm.map D.str).length := HT.sIx_nat _ _ 5
        have e2 : HT.sIx (nm.map D.str).length (nm.map D.str).length (some ((5 : Int) + (v : Int))) = min (5 + v) (nm.map D.str).length := HT.sIx_nat _ _ (5 + v)
        rw [e1, e2]
        have : (nm.map D.str).length = 14 := by rw [List.length_map]; exact hnl
        omega
      rwa [List.length_map] at h1
    refine ⟨k, sp, lv, rfl, congrArg (fun z => [D.any (.ref k.a), .lst (sp.map D.str), .lst z]) elv, hs.pos, by have := hs.len; omega, hs.rp, by omega, fun s h => hn s (hlv.subset h), by omega, fun ms f5 hml hm hf5 => ?_⟩
    simp only [List.set_cons_succ, List.set_cons_zero, setsR, startR, List.map_cons, List.map_nil, List.cons_append, List.nil_append, List.replicate_succ, List.replicate_zero, List.length_cons, List.length_nil, Nat.reduceAdd, Nat.reduceSub]
    refine ⟨k, ms, 20, rfl, rfl, hm, by decide, by omega, fun us f6 hul hu hf6 => ⟨show 3 ≤ lim by decide, ?_⟩⟩
    exact q sp ms us f6 hs (by omega) hm hul hu (by omega)
/-! _law_way -/
abbrev s__law_way : Stmt := topS 58
theorem sc__law_way : FnScope ["_law_reel_here", "_law_modules_here", "_law_uses_here", "_law_row", "_law_way_here", "_law_use"] ["_law_reel_here", "_law_modules_here", "_law_uses_here"] (defScope s__law_way) := ⟨rfl, rfl, rfl, by decide +kernel, rfl, by decide +kernel, by decide +kernel⟩
def Sp__law_way : DSp := fun g ds f Q => ∃ (k : Dk) (ms : List Str) (us : List Us), g = some k ∧ ds = [.any (.ref k.a), .lst (ms.map D.str), .lst (us.map pairD)] ∧ PVm ms ∧ PVu ms us ∧ us.length ≤ 100 ∧ 40 ≤ f ∧
  ∀ (us2 way : List Us) f', us2.length ≤ 110 → PVu ms us2 → way.length ≤ 8 → (∀ u ∈ way, u ∈ us2) → f ≤ f' + 40 → Q (.tup [.lst (us2.map pairD), .lst (way.map pairD)]) f'
set_option maxHeartbeats 2000000 in
theorem ok__law_way (d : Df K mg "_law_way" s__law_way) (m_list : mg "list" = none) (m_zip : mg "zip" = none) (c__law_mixed : Cal P w K mg base 2 "_law_mixed" ["_law_reel_here", "_law_some"] Sp__law_mixed) (c__law_pull : Cal P w K mg base 1 "_law_pull" ["_law_reel_here", "_law_many"] Sp__law_pull) : Cal P w K mg base 3 "_law_way" ["_law_reel_here", "_law_modules_here", "_law_uses_here"] Sp__law_way := by
  obtain ⟨f, fd, F, m⟩ := d
  refine ⟨f, fd, dfn (k := 2) (S := Sp__law_way) F sc__law_way ?len (fun cdv A outer s H E hr => (dss_cons (ds_set false (i := 3) sc__law_way.nd (de_sl (de_callC c__law_mixed (hr.mono (by decide)) (da_cons (de_v 0) (da_cons (de_v 1) da_nil))) do_none (do_some (de_add de_int (de_callC c__law_pull (hr.mono (by decide)) (da_cons (de_v 0) (da_cons de_int da_nil)))))))
      (dss_cons (ds_setLc (i := 4) (own := [("_law_use", 5)]) sc__law_way.nd (di_zipNL m_zip (da_cons (de_v 3) (da_cons (de_sl (de_v 3) (do_some de_int) do_none) da_nil))) (blkOk_by (own := [("_law_use", 5)]) (N := ["_law_reel_here", "_law_modules_here", "_law_uses_here", "_law_row", "_law_way_here", "_law_use"]) (sc := defScope s__law_way) (by decide +kernel)) (fun _ _ _ _ _ => dg_name (i := 5) sc__law_way.nd) (fun _ _ _ _ _ => dts_one (dp_notIn hr (de_v 5) (de_v 2))) (fun _ _ _ _ _ => (de_v 5)) (fun _ _ _ h => snd_set (m := false) (i := 4) h.e))
      (dss_one (ds_ret (de_tup (da_cons (de_add (de_v 2) (de_v 4)) (da_cons (dl_listZip m_list m_zip (da_cons (de_v 3) (da_cons (de_sl (de_v 3) (do_some de_int) do_none) da_nil))).e da_nil)))))))) ?h, F.kp, F.binds fun _ _ _ _ _ _ us hl => match us, hl with | [_, _, _], _ => rfl, m⟩
  case len =>
    intro g ds n Q h; obtain ⟨_, _, _, _, rfl, _⟩ := h; rfl
  case h =>
    intro g ds n Q h
    obtain ⟨k, ms, us, rfl, rfl, hm, hu, hl, hf, q⟩ := h
    have lm := hm.len
    have am := hm.asc
    have au := hu.asc hm
    have lms : (ms.map D.str).length = ms.length := List.length_map _
    refine ⟨k, ms.map D.str, _, rfl, rfl, .inl rfl, by omega, by omega, fun ys f1 hp hf1 => ?_⟩
    obtain ⟨os, rfl, hq⟩ := perm_map_str hp
    clear hp
    obtain ⟨f2, rfl⟩ : ∃ f2, f1 = f2 + 1 := ⟨f1 - 1, by omega⟩
    refine ⟨k, 7, f2, rfl, rfl, by decide, by decide, rfl, fun r r0 r1 => ?_⟩
    obtain ⟨r, rfl⟩ : ∃ r' : Nat, r = r' := ⟨r.toNat, by omega⟩
    have ec : cutD (os.map D.str) none (some ((2 : Int) + (r : Int))) = (os.take (2 + r)).map D.str := cutD_takeS os (2 + r)
    have hnd : (os.take (2 + r)).Nodup := ((hq.nodup_iff.mpr hm.nd).sublist (List.take_sublist _ _))
    have hlen : (os.take (2 + r)).length ≤ 8 := by rw [List.length_take]; omega
    have hsub : ∀ p ∈ os.take (2 + r), p ∈ ms := fun p hp => hq.mem_iff.mp (List.mem_of_mem_take hp)
    simp only [List.set_cons_succ, List.set_cons_zero, setsR, startR, List.map_cons, List.map_nil, List.cons_append, List.nil_append, List.replicate_succ, List.replicate_zero, List.length_cons, List.length_nil, Nat.reduceAdd, Nat.reduceSub]
    simp only [oAdd, oSl]
    rw [ec]
    generalize os.take (2 + r) = l at hnd hlen hsub
    clear ec hq
    have d1 : cutD (l.map D.str) (some 1) none = (l.drop 1).map D.str := by rw [show cutD (l.map D.str) (some 1) none = (l.map D.str).drop 1 from cutD_drop' _ 1, List.map_drop]
    have ez : zipD (l.map D.str) (cutD (l.map D.str) (some 1) none) = (rowZ l).map pairD := by rw [d1, zipD_strs]; rfl
    have hz := rowZ_mem hnd
    have hzl : (rowZ l).length ≤ 7 := by unfold rowZ; rw [List.length_zip, List.length_drop]; omega
    have az : ∀ u ∈ rowZ l, ascU u := fun u h => ⟨am _ (hsub _ (hz u h).1), am _ (hsub _ (hz u h).2.1)⟩
    refine ⟨by rw [ez, List.length_map]; exact L1 (by omega), ?_⟩
    refine lcFe pairD (fun u => !decide (u ∈ us)) (rowZ l) _ ez ?_ ?_
    · exact fun u hu' => ⟨_, rfl, fun f Q q => ⟨shaped_pair (az u hu'), shpU au, by rw [show ((pyA (us.map pairD)).any fun z => PyData.eqv z (pairD u).py) = decide (u ∈ us) from anyU us u]; exact q⟩, fun _ f Q q => q⟩
    have lfw : ((rowZ l).filter fun u => !decide (u ∈ us)).length ≤ 7 := Nat.le_trans (List.length_filter_le _ _) hzl
    have mfw : ∀ u ∈ (rowZ l).filter (fun u => !decide (u ∈ us)), u ∈ rowZ l ∧ u ∉ us := fun u hu' => by
      obtain ⟨h1, h2⟩ := List.mem_filter.mp hu'
      exact ⟨h1, by simpa using h2⟩
    have nfw := (rowZ_nd hnd).filter fun u => !decide (u ∈ us)
    have allz : ∀ u ∈ rowZ l, u ∈ us ++ (rowZ l).filter fun u => !decide (u ∈ us) := fun u h => by
      by_cases hin : u ∈ us
      · exact List.mem_append_left _ hin
      · exact List.mem_append_right _ (List.mem_filter.mpr ⟨h, by simpa using hin⟩)
    generalize (rowZ l).filter (fun u => !decide (u ∈ us)) = nw at lfw mfw nfw allz
    have hu2 : PVu ms (us ++ nw) := ⟨by rw [List.length_append]; omega, fun u h => (List.mem_append.mp h).elim (hu.mem u) fun h => by
        obtain ⟨h1, h2, h3⟩ := hz u (mfw u h).1
        exact ⟨hsub _ h1, hsub _ h2, h3⟩, List.nodup_append.mpr ⟨hu.nd, nfw, fun x h1 y h2 e => (mfw y h2).2 (e ▸ h1)⟩⟩
    refine ⟨by rw [List.length_map, List.length_map]; exact L1 (by omega), ?_⟩
    show _ ∧ _
    refine ⟨by rw [List.length_map]; omega, show 2 ≤ lim by decide, ?_⟩
    rw [ez, ← List.map_append]
    exact q (us ++ nw) (rowZ l) f2 (by rw [List.length_append]; omega) hu2 (by omega) allz (by omega)
abbrev s__law_reel : Stmt := topS 35
theorem sc__law_reel : FnScope ["_law_script", "_law_great", "_law_small", "_law_number"] ["_law_script"] (defScope s__law_reel) := ⟨rfl, rfl, rfl, by decide +kernel, rfl, by decide +kernel, by decide +kernel⟩
theorem ok__law_reel (d : Df K mg "_law_reel" s__law_reel) (m_len : mg "len" = none) (m_abs : mg "abs" = none) (m_int : mg "int" = none) : CalDn "_law_reel" P w K mg base := by
  obtain ⟨f, fd, F, mm⟩ := d
  refine ⟨f, fd, ?_, F.kp, F.binds fun _ _ _ _ _ _ us hl => match us, hl with | [_], _ => rfl, mm⟩
  refine F.ok sc__law_reel (fun vs H Q E h => ?_) (fun cdv A outer s H vs Q E hr h => ?_)
  · obtain ⟨a, ns, rfl, _⟩ := h
    rfl
  · obtain ⟨a, ns, rfl, hS, hlen, q⟩ := h
    refine ⟨_, pss_cons (ps_setLc (i := 1) (own := [("_law_number", 3)]) (g := gName 3) rfl sc__law_reel.nd rfl rfl (sw_true rfl rfl rfl (by decide +kernel)) (pi_list (pe_slice sl_list (pv 0) po_none (po_some pe_int))) (blkOk_by (N := ["_law_script", "_law_great", "_law_small", "_law_number"]) (sc := defScope s__law_reel) (by decide +kernel))
        (fun _ _ _ _ _ => pg_name (i := 3) sc__law_reel.nd rfl (Or.inl rfl)) (fun _ _ _ _ _ => pts_one (pt_cmpR op_ge (pe_callB call_abs (by rfl) m_abs (by decide +kernel) (pa_cons (pv 3) pa_nil)) (pe_op op_pow pe_int pe_int) (nomark _))) (fun _ _ _ _ _ => pe_callB call_abs (by rfl) m_abs (by decide +kernel) (pa_cons (pv 3) pa_nil)))
      (pss_cons (ps_setLc (i := 2) (own := [("_law_number", 3)]) (g := gName 3) rfl sc__law_reel.nd rfl rfl (sw_true rfl rfl rfl (by decide +kernel)) (pi_list (pe_slice sl_list (pv 0) po_none (po_some pe_int))) (blkOk_by (N := ["_law_script", "_law_great", "_law_small", "_law_number"]) (sc := defScope s__law_reel) (by decide +kernel))
        (fun _ _ _ _ _ => pg_name (i := 3) sc__law_reel.nd rfl (Or.inl rfl)) (fun _ _ _ _ _ => pts_one (pt_cmpR op_lt (pe_callB call_abs (by rfl) m_abs (by decide +kernel) (pa_cons (pv 3) pa_nil)) (pe_op op_pow pe_int pe_int) (nomark _)))
        (fun _ _ _ _ _ => pe_op op_add (pe_op op_mul pe_int (pe_callB call_abs (by rfl) m_abs (by decide +kernel) (pa_cons (pv 3) pa_nil))) (pe_callTy call_int1 (by rfl) m_int PyProof.Rows.boot_int (pa_cons (pe_cmpR op_lt (pv 3) pe_int (nomark _)) pa_nil))))
      (pss_one (ps_ret (pe_lst (pa_cons (pv 1)
        (pa_cons (pe_op op_cat (pv 2) (pe_lst (pa_cons (pe_op op_add (pe_callB call_len_seq (by rfl) m_len PySem.boot_len (pa_cons (pv 0) pa_nil)) pe_int) pa_nil)))
        (pa_cons pe_int pa_nil))))))), ?_⟩
    have ab : ∀ i : Int, 0 ≤ (if i < 0 then -i else i) := fun i => by split <;> omega
    have lt : (ns.take 63).length ≤ 63 := by rw [List.length_take]; omega
    -- the great ones
    refine ⟨.ref a, rfl, 63, rfl, a, _, rfl, hS, fun p1 hp1 => ?_⟩
    rw [cut_ints]
    generalize hms : ns.take 63 = ms at lt
    have e1 : upd H p1 (.lst (ms.map V.int)) p1 = some (.lst (ms.map V.int)) := upd_same
    have sp1 : Same H (upd H p1 (.lst (ms.map V.int))) := same_upd hp1
    generalize upd H p1 (.lst (ms.map V.int)) = H1 at e1 sp1
    refine ⟨p1, rfl, ⟨_, SqL.of e1⟩, fun B hB => ?_⟩
    refine lc_list (K := K) (a := p1) (xs := ms.map V.int) (fun i H2 => Same H1 H2 ∧ ∃ zs : List Int, H2 B = some (.lst (zs.map V.int)) ∧ zs.length ≤ i ∧ ∀ z ∈ zs, 0 ≤ z) ⟨same_upd hB, [], upd_same, Nat.le_refl _, by simp⟩ (fun i H2 _ h2 => SqL.of (h2.1 _ _ e1)) (fun i x H2 hx h2 => ?_) (fun H2 h2 => ?_)
    · obtain ⟨s2, zs, e2, l2, p2⟩ := h2
      have hil : i < ms.length := by
        have := (List.getElem?_eq_some_iff.mp hx).1
        simpa using this
      rw [List.getElem?_map, List.getElem?_eq_getElem hil] at hx
      cases hx
      refine ⟨rfl, .int ms[i], rfl, ms[i], rfl, 10, 18, rfl, rfl, ⟨by decide, by decide, by decide⟩, _, _, rfl, rfl, _, rfl, ite2 (fun _ => ?_) (fun _ => ?_)⟩
      · refine ⟨.int ms[i], rfl, ms[i], rfl, zs.map V.int, e2, ?_, fun b o e => ?_, zs ++ [if ms[i] < 0 then -ms[i] else ms[i]], ?_, ?_, ?_⟩
        · rw [List.length_map]
          exact lim_lt (Nat.le_trans l2 (Nat.le_trans (Nat.le_of_lt hil) (Nat.le_trans lt (by decide))))
        · rw [upd_ne (ne_of_none e hB)]
          exact s2 b o e
        · rw [upd_same, List.map_append]; rfl
        · simp; omega
        · intro z hz
          rcases List.mem_append.mp hz with h | h
          · exact p2 z h
          · rw [List.mem_singleton.mp h]; exact ab _
      · exact ⟨s2, zs, e2, Nat.le_trans l2 (Nat.le_succ i), p2⟩
    obtain ⟨s2, zs, e2, l2, p2⟩ := h2
    -- the small ones
    have hS2 : SqL K H2 a (ns.map V.int) := (sp1.trans s2).seq hS
    refine ⟨.ref a, rfl, 63, rfl, a, _, rfl, hS2, fun p3 hp3 => ?_⟩
    rw [cut_ints, hms]
    have e3 : upd H2 p3 (.lst (ms.map V.int)) p3 = some (.lst (ms.map V.int)) := upd_same
    have sp3 : Same H2 (upd H2 p3 (.lst (ms.map V.int))) := same_upd hp3
    generalize upd H2 p3 (.lst (ms.map V.int)) = H3 at e3 sp3
    refine ⟨p3, rfl, ⟨_, SqL.of e3⟩, fun D hD => ?_⟩
    refine lc_list (K := K) (a := p3) (xs := ms.map V.int) (fun i H4 => Same H3 H4 ∧ ∃ ws : List Int, H4 D = some (.lst (ws.map V.int)) ∧ ws.length ≤ i ∧ ∀ z ∈ ws, 0 ≤ z) ⟨same_upd hD, [], upd_same, Nat.le_refl _, by simp⟩ (fun i H2 _ h2 => SqL.of (h2.1 _ _ e3)) (fun i x H4 hx h4 => ?_) (fun H4 h4 => ?_)
    · obtain ⟨s4, ws, e4, l4, p4⟩ := h4
      have hil : i < ms.length := by
        have := (List.getElem?_eq_some_iff.mp hx).1
        simpa using this
      rw [List.getElem?_map, List.getElem?_eq_getElem hil] at hx
      cases hx
      refine ⟨rfl, .int ms[i], rfl, ms[i], rfl, 10, 18, rfl, rfl, ⟨by decide, by decide, by decide⟩, _, _, rfl, rfl, _, rfl, ite2 (fun _ => ?_) (fun _ => ?_)⟩
      · refine ⟨.int ms[i], rfl, ms[i], rfl, 2, _, rfl, rfl, .inl ⟨by decide, by decide⟩, .int ms[i], rfl, ms[i], 0, rfl, rfl, .inr ⟨_, rfl, _, _, rfl, rfl, ws.map V.int, e4, ?_, fun b o e => ?_, ws ++ [2 * (if ms[i] < 0 then -ms[i] else ms[i]) + (if decide (ms[i] < 0) = true then 1 else 0)], ?_, ?_, ?_⟩⟩
        · rw [List.length_map]
          exact lim_lt (Nat.le_trans l4 (Nat.le_trans (Nat.le_of_lt hil) (Nat.le_trans lt (by decide))))
        · rw [upd_ne (ne_of_none e hD)]
          exact s4 b o e
        · rw [upd_same, List.map_append]; rfl
        · simp; omega
        · intro z hz
          rcases List.mem_append.mp hz with h | h
          · exact p4 z h
          · rw [List.mem_singleton.mp h]
            have := ab ms[i]
            split <;> omega
      · exact ⟨s4, ws, e4, Nat.le_trans l4 (Nat.le_succ i), p4⟩
    obtain ⟨s4, ws, e4, l4, p4⟩ := h4
    rw [List.length_map] at l4
    have s14 : Same H2 H4 := sp3.trans s4
    have eB : H4 B = some (.lst (zs.map V.int)) := s14 _ _ e2
    have nBD : B ≠ D := fun z => by
      have : H3 B = some (.lst (zs.map V.int)) := sp3 _ _ e2
      rw [z, hD] at this
      cases this
    have hS4 : SqL K H4 a (ns.map V.int) := s14.seq hS2
    -- [great, small + [len(script) + 37], 0]
    refine ⟨.ref B, rfl, .ref D, rfl, .ref a, rfl, a, ns.map V.int, rfl, .inl hS4, _, 37, rfl, rfl, by show 1 ≤ sizeLine; decide, fun T hT => ?_⟩
    have nDT : D ≠ T := ne_of_none e4 hT
    have nBT : B ≠ T := ne_of_none eB hT
    refine ⟨D, T, _, _, rfl, rfl, by rw [upd_ne nDT]; exact e4, upd_same, ?_, fun C hC => ?_⟩
    · rw [List.length_map]
      show ws.length + 1 ≤ sizeLine
      exact lim_le (Nat.le_trans (Nat.succ_le_succ (Nat.le_trans l4 lt)) (by decide))
    have nBC : B ≠ C := fun e => by
      rw [← e, upd_ne nBT, eB] at hC
      cases hC
    refine ⟨by show 3 ≤ sizeLine; decide, fun p hp => ?_⟩
    have gB : upd (upd H4 T (.lst [V.int (((ns.map V.int).length : Int) + 37)])) C (.lst (ws.map V.int ++ [V.int (((ns.map V.int).length : Int) + 37)])) B = some (.lst (zs.map V.int)) := by
      rw [upd_ne nBC, upd_ne nBT]
      exact eB
    have nBp : B ≠ p := ne_of_none gB hp
    have nCp : C ≠ p := ne_of_none upd_same hp
    have sT : Same H4 (upd H4 T (.lst [V.int (((ns.map V.int).length : Int) + 37)])) := same_upd hT
    have sC := same_upd (o := .lst (ws.map V.int ++ [V.int (((ns.map V.int).length : Int) + 37)])) hC
    have sp := same_upd (o := .lst [V.ref B, V.ref C, V.int 0]) hp
    have s04 : Same H H4 := (sp1.trans s2).trans s14
    have all := ((s04.trans sT).trans sC).trans sp
    have h0 : ∀ {b : Addr} {H' : Hp}, Same H H' → H' b = none → H b = none := fun s h => s.free h
    refine q _ ⟨p, B, C⟩ all ?_ ?_ ?_ ⟨fun e => nBp e.symm, fun e => nCp e.symm, nBC, 0, zs, ws ++ [(((ns.map V.int).length : Int) + 37)], upd_same, ?_, ?_, p2, ?_, ?_, by decide, by decide⟩
    · exact h0 ((s04.trans sT).trans sC) hp
    · exact h0 sp1 hB
    · exact h0 (s04.trans sT) hC
    · rw [upd_ne nBp]; exact gB
    · rw [upd_ne nCp, upd_same, List.map_append]; rfl
    · intro y hy
      rcases List.mem_append.mp hy with h | h
      · exact p4 y h
      · rw [List.mem_singleton.mp h]; omega
    · simp
/-! law -/
abbrev s_law : Stmt := topS 62
theorem sc_law : FnScope ["_law_script", "_law_reel_here", "_law_turn", "_law_modules_here", "_law_uses_here", "_law_rule", "_law_spots_here", "_law_way_here", "_law_kinds", "_law_kind"] ["_law_script"] (defScope s_law) := ⟨rfl, rfl, rfl, by decide +kernel, rfl, by decide +kernel, by decide +kernel⟩
set_option maxHeartbeats 4000000 in
theorem ok_law {f : Addr} {fd : FuncData} (F : Fun K "law" "law" s_law f fd) (c__law_deck : CalDn "_law_reel" P w K mg base) (m_list : mg "list" = none) (m_zip : mg "zip" = none) (m_range : mg "range" = none) (c__law_all_judged : CalG P w K mg base 9 "_law_all_judged" ["_law_reel_here", "_law_modules_here", "_law_uses_here", "_law_way_here", "_law_rule"] Sp__law_all_judged) (c__law_long_case : Cal P w K mg base 4 "_law_long_case" ["_law_reel_here"] Sp__law_long_case) (c__law_pull : Cal P w K mg base 1 "_law_pull" ["_law_reel_here", "_law_many"] Sp__law_pull) (c__law_rule_of : Cal P w K mg base 4 "_law_rule_of" ["_law_reel_here", "_law_kind", "_law_spots_here"] Sp__law_rule_of) (c__law_long_rule : Cal P w K mg base 5 "_law_long_rule" ["_law_reel_here", "_law_spots_here"] Sp__law_long_rule) (c__law_pick : Cal P w K mg base 2 "_law_pick" ["_law_reel_here", "_law_some"] Sp__law_pick) (c__law_way : Cal P w K mg base 3 "_law_way" ["_law_reel_here", "_law_modules_here", "_law_uses_here"] Sp__law_way) (c__law_case : Cal P w K mg base 4 "_law_case" ["_law_reel_here"] Sp__law_case) : FnG P w K mg base 10 f fd ["_law_script"] (spLaw K) := by
  obtain ⟨fD, fdD, GD, kD, bD, mD⟩ := c__law_deck
  refine dlawG F sc_law (by decide) rfl (fun cdv A outer s H E hr gd => ⟨ps_set (i := 1) sc_law.nd rfl (.inl rfl) (pe_call GD (hr.mono (by decide)) (by rfl) mD kD bD .nil pass0 (pa_cons (pv 0) pa_nil)), (dss_cons (ds_for [] PassesOwn.never (di_range1 m_range (da_cons de_int da_nil)) (dg_name (i := 2) sc_law.nd) (dss_cons (ds_asg false (de_callC c__law_case (hr.mono (by decide)) (da_cons (de_v 1) da_nil)) (dg_tup rfl (dgs_cons (dg_name (i := 6) sc_law.nd) (dgs_cons (dg_name (i := 3) sc_law.nd) (dgs_cons (dg_name (i := 4) sc_law.nd) dgs_nil)))))
      (dss_cons (ds_asg false (de_callC c__law_way (hr.mono (by decide)) (da_cons (de_v 1) (da_cons (de_v 3) (da_cons (de_v 4) da_nil)))) (dg_tup rfl (dgs_cons (dg_name (i := 4) sc_law.nd) (dgs_cons (dg_name (i := 7) sc_law.nd) dgs_nil))))
      (dss_cons (ds_set false (i := 8) sc_law.nd (dl_lst (da_cons de_str (da_cons de_str (da_cons de_str (da_cons de_str (da_cons de_str (da_cons de_str da_nil))))))).e)
      (dss_cons (ds_set false (i := 9) sc_law.nd (de_callC c__law_pick (hr.mono (by decide)) (da_cons (de_v 1) (da_cons (de_v 8) da_nil))))
      (dss_one (ds_for [] PassesOwn.never (di_seq (dl_lst (da_cons (de_callC c__law_long_rule (hr.mono (by decide)) (da_cons (de_v 1) (da_cons (de_v 6) da_nil))) (da_cons (de_callC c__law_rule_of (hr.mono (by decide)) (da_cons (de_v 1) (da_cons (de_v 9) (da_cons (de_v 6) da_nil)))) da_nil))).e) (dg_name (i := 5) sc_law.nd) (dss_one (ds_if (dp_not (dp_val (de_callG c__law_all_judged (hr.mono (by decide)) gd (da_cons (de_v 1) (da_cons (de_v 3) (da_cons (de_v 4) (da_cons (de_v 7) (da_cons (de_v 5) da_nil)))))))) (dss_one (ds_ret de_bl)) dss_nil)))))))))
      (dss_cons (ds_if (dp_gt (de_callC c__law_pull (hr.mono (by decide)) (da_cons (de_v 1) (da_cons de_int da_nil))) de_int) (dss_one (ds_ret de_bl)) dss_nil)
      (dss_cons (ds_asg false (de_callC c__law_long_case (hr.mono (by decide)) (da_cons (de_v 1) da_nil)) (dg_tup rfl (dgs_cons (dg_name (i := 3) sc_law.nd) (dgs_cons (dg_name (i := 4) sc_law.nd) (dgs_cons (dg_name (i := 5) sc_law.nd) dgs_nil)))))
      (dss_one (ds_ret (de_callG c__law_all_judged (hr.mono (by decide)) gd (da_cons (de_v 1) (da_cons (de_v 3) (da_cons (de_v 4) (da_cons (dl_listZip m_list m_zip (da_cons (de_v 3) (da_cons (de_sl (de_v 3) (do_some de_int) do_none) da_nil))).e (da_cons (de_v 5) da_nil)))))))))))⟩) ?h
  case h =>
    intro dk
    refine ⟨by decide, by decide, ?_⟩
    refine dFor_range (fun i r f => ∃ a b c d e h j k : Sl, r = [.no, .sh (.any (.ref dk.a)), a, b, c, d, e, h, j, k] ∧ 1000000000000 ≤ f + 2000 * i) 0 _ _ _ ?_ ?_ ⟨_, _, _, _, _, _, _, _, rfl, by omega⟩
    · rintro i r f N hi ⟨a, b, c, d, e, h, j, k, rfl, hf⟩ hN
      have hi : i < 3 := hi
      refine ⟨_, rfl, dk, rfl, rfl, by omega, fun sp ms us f1 hs hml hm hul hu hf1 => ?_⟩
      simp only [List.set_cons_succ, List.set_cons_zero, setsR, startR, List.map_cons, List.map_nil, List.cons_append, List.nil_append, List.replicate_succ, List.replicate_zero, List.length_cons, List.length_nil, Nat.reduceAdd, Nat.reduceSub]
      refine ⟨dk, ms, us, rfl, rfl, hm, hu, by omega, by omega, fun us2 way f2 hl2 hu2 hwl hw hf2 => ?_⟩
      simp only [List.set_cons_succ, List.set_cons_zero, setsR, startR, List.map_cons, List.map_nil, List.cons_append, List.nil_append, List.replicate_succ, List.replicate_zero, List.length_cons, List.length_nil, Nat.reduceAdd, Nat.reduceSub]
      refine ⟨show 6 ≤ lim by decide, ?_⟩
      simp only [List.set_cons_succ, List.set_cons_zero, setsR, startR, List.map_cons, List.map_nil, List.cons_append, List.nil_append, List.replicate_succ, List.replicate_zero, List.length_cons, List.length_nil, Nat.reduceAdd, Nat.reduceSub]
      refine .inl ⟨dk, _, rfl, rfl, by exact (show 0 < 6 by decide), by exact (show 6 ≤ 100000 by decide), by omega, fun kd hkd f3 hf3 => ?_⟩
      obtain ⟨w, rfl, hw2⟩ : ∃ w : Str, kd = .str w ∧ w ∈ (["only", "face", "stairs", "forbid", "apart", "layers"] : List Str) := by
        simp only [List.mem_cons, List.not_mem_nil, or_false] at hkd
        rcases hkd with rfl | rfl | rfl | rfl | rfl | rfl <;> exact ⟨_, rfl, by simp⟩
      simp only [List.set_cons_succ, List.set_cons_zero, setsR, startR, List.map_cons, List.map_nil, List.cons_append, List.nil_append, List.replicate_succ, List.replicate_zero, List.length_cons, List.length_nil, Nat.reduceAdd, Nat.reduceSub]
      refine ⟨dk, sp, rfl, rfl, hs, by omega, fun r1 f4 hr1 ho1 hf4 => ?_⟩
      refine ⟨dk, w, sp, rfl, rfl, ?_, hs, by omega, fun r2 f5 hr2 ho2 _ _ hf5 => ⟨show 2 ≤ lim by decide, ?_⟩⟩
      · simp only [List.mem_cons, List.not_mem_nil, or_false] at hw2 ⊢
        rcases hw2 with h | h | h | h | h | h <;> simp [h]
      refine ⟨dk, ms, us2, way, r1, rfl, rfl, hm, hu2, by omega, by omega, hw, hr1, ho1, by omega, fun f6 hf6 => ?_⟩
      refine iteF ?_
      refine ⟨dk, ms, us2, way, r2, rfl, rfl, hm, hu2, by omega, by omega, hw, hr2, ho2, by omega, fun f7 hf7 => ?_⟩
      refine iteF ?_
      exact hN _ _ ⟨_, _, _, _, _, _, _, _, rfl, by omega⟩
    · rintro r f ⟨a, b, c, d, e, h, j, k, rfl, hf⟩
      have hf : 1000000000000 ≤ f + 2000 * 3 := hf
      obtain ⟨f1, rfl⟩ : ∃ f1, f = f1 + 1 := ⟨f - 1, by omega⟩
      refine ⟨dk, 3, f1, rfl, rfl, by decide, by decide, rfl, fun x x0 x1 => ?_⟩
      show if decide ((0 : Int) < x) = true then _ else _
      by_cases hx : (0 : Int) < x
      · rw [decide_eq_true hx]
        exact iteT rfl
      · rw [decide_eq_false hx]
        refine iteF ?_
        refine ⟨dk, rfl, rfl, by omega, fun row us r f2 hrow hu hul hin hr ho hf2 => ?_⟩
        simp only [List.set_cons_succ, List.set_cons_zero, setsR, startR, List.map_cons, List.map_nil, List.cons_append, List.nil_append, List.replicate_succ, List.replicate_zero, List.length_cons, List.length_nil, Nat.reduceAdd, Nat.reduceSub]
        have d1 : cutD (row.map D.str) (some 1) none = (row.drop 1).map D.str := by rw [show cutD (row.map D.str) (some 1) none = (row.map D.str).drop 1 from cutD_drop' _ 1, List.map_drop]
        have ez : zipD (row.map D.str) (cutD (row.map D.str) (some 1) none) = (rowZ row).map pairD := by rw [d1, zipD_strs]; rfl
        have lro := hrow.len
        have hzl : (rowZ row).length ≤ 24 := by unfold rowZ; rw [List.length_zip, List.length_drop]; omega
        refine ⟨by rw [List.length_map]; omega, ?_⟩
        exact ⟨dk, row, us, rowZ row, r, rfl, congrArg (fun z => [D.any (.ref dk.a), .lst (row.map D.str), .lst (us.map pairD), .lst z, r.d]) ez, hrow, hu, by omega, hzl, hin, hr, ho, by omega, fun f' _ => rfl⟩
end
theorem all_mk {l : PySem.W.OpenLaw} {w : World} {K : PySem.W.Frag} {h : Heap} {mg : Str → Option Value} {fa : Addr} (X : K.In h) (G : h.Ns mainGlobals mg) (hfa : mg "law" = some (.ref fa))
    {C_Program : Addr} (kc0_Program : PySem.W.nsIn K mainGlobals "Program" = some (some (.ref C_Program))) (kc1_Program : PySem.W.plainGet K C_Program Str.empty = true) (kc2_Program : PySem.W.hasDictIn K C_Program = true) (kc3_Program : PySem.W.plainOver K C_Program = true) (kc4_Program : PySem.W.findIn K (.ref C_Program) "__setattr__" = some (some (.builtin "object.__setattr__")))
    (ko0_Program : PySem.W.findIn K (.ref C_Program) "__class__" = some (some (.builtin "object.__class__"))) (ko1_Program : PySem.W.specialIn K (.builtin "object.__class__") "__get__" = some (some (.builtin "getset_descriptor.__get__"))) (ko2_Program : PySem.W.takesIn K (.builtin "object.__class__") = some true) (ko3_Program : PySem.W.mroIn K C_Program (.type "object") = some true)
    (ko4_Program : PySem.W.subIn K (.ref C_Program) (.type "tuple") = some false) (ko5_Program : PySem.W.subIn K (.ref C_Program) (.type "str") = some false)
    (kn_n_Program_heads : PySem.W.findIn K (.ref C_Program) "heads" = some none)
    (kn_n_Program_links : PySem.W.findIn K (.ref C_Program) "links" = some none)
    (kn_n_Program_places : PySem.W.findIn K (.ref C_Program) "places" = some none)
    {f0 : Addr} {od0 an0 : Option Addr} {sl0 : Array (Option Value)} {oc0 kV0 dc0 pm0 cd0 ct0 : Value}
    (a0 : PySem.W.nsIn K mainGlobals "is_name" = some (some (.ref f0))) (l0 : K.lookup f0 = some ⟨oc0, od0, .func (PySem.W.fnOf "is_name" "is_name" (defArgs s_is_name) (defBody s_is_name) (defScope s_is_name) .none kV0 dc0 pm0 an0 cd0 ct0), sl0⟩) (c0 : PySem.W.codeIn K cd0 "is_name" = true) (k0 : PySem.W.keepIn K (.ref f0) = true)
    {f1 : Addr} {od1 an1 : Option Addr} {sl1 : Array (Option Value)} {oc1 kV1 dc1 pm1 cd1 ct1 : Value}
    (a1 : PySem.W.nsIn K mainGlobals "_law_pull" = some (some (.ref f1))) (l1 : K.lookup f1 = some ⟨oc1, od1, .func (PySem.W.fnOf "_law_pull" "_law_pull" (defArgs s__law_pull) (defBody s__law_pull) (defScope s__law_pull) .none kV1 dc1 pm1 an1 cd1 ct1), sl1⟩) (c1 : PySem.W.codeIn K cd1 "_law_pull" = true) (k1 : PySem.W.keepIn K (.ref f1) = true)
    {f2 : Addr} {od2 an2 : Option Addr} {sl2 : Array (Option Value)} {oc2 kV2 dc2 pm2 cd2 ct2 : Value}
    (a2 : PySem.W.nsIn K mainGlobals "_law_pick" = some (some (.ref f2))) (l2 : K.lookup f2 = some ⟨oc2, od2, .func (PySem.W.fnOf "_law_pick" "_law_pick" (defArgs s__law_pick) (defBody s__law_pick) (defScope s__law_pick) .none kV2 dc2 pm2 an2 cd2 ct2), sl2⟩) (c2 : PySem.W.codeIn K cd2 "_law_pick" = true) (k2 : PySem.W.keepIn K (.ref f2) = true)
    {f3 : Addr} {od3 an3 : Option Addr} {sl3 : Array (Option Value)} {oc3 kV3 dc3 pm3 cd3 ct3 : Value}
    (a3 : PySem.W.nsIn K mainGlobals "_law_odd" = some (some (.ref f3))) (l3 : K.lookup f3 = some ⟨oc3, od3, .func (PySem.W.fnOf "_law_odd" "_law_odd" (defArgs s__law_odd) (defBody s__law_odd) (defScope s__law_odd) .none kV3 dc3 pm3 an3 cd3 ct3), sl3⟩) (c3 : PySem.W.codeIn K cd3 "_law_odd" = true) (k3 : PySem.W.keepIn K (.ref f3) = true)
    {f4 : Addr} {od4 an4 : Option Addr} {sl4 : Array (Option Value)} {oc4 kV4 dc4 pm4 cd4 ct4 : Value}
    (a4 : PySem.W.nsIn K mainGlobals "_law_bent" = some (some (.ref f4))) (l4 : K.lookup f4 = some ⟨oc4, od4, .func (PySem.W.fnOf "_law_bent" "_law_bent" (defArgs s__law_bent) (defBody s__law_bent) (defScope s__law_bent) .none kV4 dc4 pm4 an4 cd4 ct4), sl4⟩) (c4 : PySem.W.codeIn K cd4 "_law_bent" = true) (k4 : PySem.W.keepIn K (.ref f4) = true)
    {f5 : Addr} {od5 an5 : Option Addr} {sl5 : Array (Option Value)} {oc5 kV5 dc5 pm5 cd5 ct5 : Value}
    (a5 : PySem.W.nsIn K mainGlobals "_law_walk" = some (some (.ref f5))) (l5 : K.lookup f5 = some ⟨oc5, od5, .func (PySem.W.fnOf "_law_walk" "_law_walk" (defArgs s__law_walk) (defBody s__law_walk) (defScope s__law_walk) .none kV5 dc5 pm5 an5 cd5 ct5), sl5⟩) (c5 : PySem.W.codeIn K cd5 "_law_walk" = true) (k5 : PySem.W.keepIn K (.ref f5) = true)
    {f6 : Addr} {od6 an6 : Option Addr} {sl6 : Array (Option Value)} {oc6 kV6 dc6 pm6 cd6 ct6 : Value}
    (a6 : PySem.W.nsIn K mainGlobals "_law_values" = some (some (.ref f6))) (l6 : K.lookup f6 = some ⟨oc6, od6, .func (PySem.W.fnOf "_law_values" "_law_values" (defArgs s__law_values) (defBody s__law_values) (defScope s__law_values) .none kV6 dc6 pm6 an6 cd6 ct6), sl6⟩) (c6 : PySem.W.codeIn K cd6 "_law_values" = true) (k6 : PySem.W.keepIn K (.ref f6) = true)
    {f7 : Addr} {od7 an7 : Option Addr} {sl7 : Array (Option Value)} {oc7 kV7 dc7 pm7 cd7 ct7 : Value}
    (a7 : PySem.W.nsIn K mainGlobals "is_path" = some (some (.ref f7))) (l7 : K.lookup f7 = some ⟨oc7, od7, .func (PySem.W.fnOf "is_path" "is_path" (defArgs s_is_path) (defBody s_is_path) (defScope s_is_path) .none kV7 dc7 pm7 an7 cd7 ct7), sl7⟩) (c7 : PySem.W.codeIn K cd7 "is_path" = true) (k7 : PySem.W.keepIn K (.ref f7) = true)
    {f8 : Addr} {od8 an8 : Option Addr} {sl8 : Array (Option Value)} {oc8 kV8 dc8 pm8 cd8 ct8 : Value}
    (a8 : PySem.W.nsIn K mainGlobals "covers" = some (some (.ref f8))) (l8 : K.lookup f8 = some ⟨oc8, od8, .func (PySem.W.fnOf "covers" "covers" (defArgs s_covers) (defBody s_covers) (defScope s_covers) .none kV8 dc8 pm8 an8 cd8 ct8), sl8⟩) (c8 : PySem.W.codeIn K cd8 "covers" = true) (k8 : PySem.W.keepIn K (.ref f8) = true)
    {f9 : Addr} {od9 an9 : Option Addr} {sl9 : Array (Option Value)} {oc9 kV9 dc9 pm9 cd9 ct9 : Value}
    (a9 : PySem.W.nsIn K mainGlobals "overlap" = some (some (.ref f9))) (l9 : K.lookup f9 = some ⟨oc9, od9, .func (PySem.W.fnOf "overlap" "overlap" (defArgs s_overlap) (defBody s_overlap) (defScope s_overlap) .none kV9 dc9 pm9 an9 cd9 ct9), sl9⟩) (c9 : PySem.W.codeIn K cd9 "overlap" = true) (k9 : PySem.W.keepIn K (.ref f9) = true)
    {f10 : Addr} {od10 an10 : Option Addr} {sl10 : Array (Option Value)} {oc10 kV10 dc10 pm10 cd10 ct10 : Value}
    (a10 : PySem.W.nsIn K mainGlobals "first_overlap" = some (some (.ref f10))) (l10 : K.lookup f10 = some ⟨oc10, od10, .func (PySem.W.fnOf "first_overlap" "first_overlap" (defArgs s_first_overlap) (defBody s_first_overlap) (defScope s_first_overlap) .none kV10 dc10 pm10 an10 cd10 ct10), sl10⟩) (c10 : PySem.W.codeIn K cd10 "first_overlap" = true) (k10 : PySem.W.keepIn K (.ref f10) = true)
    {f11 : Addr} {od11 an11 : Option Addr} {sl11 : Array (Option Value)} {oc11 kV11 dc11 pm11 cd11 ct11 : Value}
    (a11 : PySem.W.nsIn K mainGlobals "modules_error" = some (some (.ref f11))) (l11 : K.lookup f11 = some ⟨oc11, od11, .func (PySem.W.fnOf "modules_error" "modules_error" (defArgs s_modules_error) (defBody s_modules_error) (defScope s_modules_error) .none kV11 dc11 pm11 an11 cd11 ct11), sl11⟩) (c11 : PySem.W.codeIn K cd11 "modules_error" = true) (k11 : PySem.W.keepIn K (.ref f11) = true)
    {f12 : Addr} {od12 an12 : Option Addr} {sl12 : Array (Option Value)} {oc12 kV12 dc12 pm12 cd12 ct12 : Value}
    (a12 : PySem.W.nsIn K mainGlobals "covered" = some (some (.ref f12))) (l12 : K.lookup f12 = some ⟨oc12, od12, .func (PySem.W.fnOf "covered" "covered" (defArgs s_covered) (defBody s_covered) (defScope s_covered) .none kV12 dc12 pm12 an12 cd12 ct12), sl12⟩) (c12 : PySem.W.codeIn K cd12 "covered" = true) (k12 : PySem.W.keepIn K (.ref f12) = true)
    {f13 : Addr} {od13 an13 : Option Addr} {sl13 : Array (Option Value)} {oc13 kV13 dc13 pm13 cd13 ct13 : Value}
    (a13 : PySem.W.nsIn K mainGlobals "_law_is_long" = some (some (.ref f13))) (l13 : K.lookup f13 = some ⟨oc13, od13, .func (PySem.W.fnOf "_law_is_long" "_law_is_long" (defArgs s__law_is_long) (defBody s__law_is_long) (defScope s__law_is_long) .none kV13 dc13 pm13 an13 cd13 ct13), sl13⟩) (c13 : PySem.W.codeIn K cd13 "_law_is_long" = true) (k13 : PySem.W.keepIn K (.ref f13) = true)
    {f14 : Addr} {od14 an14 : Option Addr} {sl14 : Array (Option Value)} {oc14 kV14 dc14 pm14 cd14 ct14 : Value}
    (a14 : PySem.W.nsIn K mainGlobals "_law_under" = some (some (.ref f14))) (l14 : K.lookup f14 = some ⟨oc14, od14, .func (PySem.W.fnOf "_law_under" "_law_under" (defArgs s__law_under) (defBody s__law_under) (defScope s__law_under) .none kV14 dc14 pm14 an14 cd14 ct14), sl14⟩) (c14 : PySem.W.codeIn K cd14 "_law_under" = true) (k14 : PySem.W.keepIn K (.ref f14) = true)
    {f15 : Addr} {od15 an15 : Option Addr} {sl15 : Array (Option Value)} {oc15 kV15 dc15 pm15 cd15 ct15 : Value}
    (a15 : PySem.W.nsIn K mainGlobals "_law_home" = some (some (.ref f15))) (l15 : K.lookup f15 = some ⟨oc15, od15, .func (PySem.W.fnOf "_law_home" "_law_home" (defArgs s__law_home) (defBody s__law_home) (defScope s__law_home) .none kV15 dc15 pm15 an15 cd15 ct15), sl15⟩) (c15 : PySem.W.codeIn K cd15 "_law_home" = true) (k15 : PySem.W.keepIn K (.ref f15) = true)
    {f16 : Addr} {od16 an16 : Option Addr} {sl16 : Array (Option Value)} {oc16 kV16 dc16 pm16 cd16 ct16 : Value}
    (a16 : PySem.W.nsIn K mainGlobals "_law_bars" = some (some (.ref f16))) (l16 : K.lookup f16 = some ⟨oc16, od16, .func (PySem.W.fnOf "_law_bars" "_law_bars" (defArgs s__law_bars) (defBody s__law_bars) (defScope s__law_bars) .none kV16 dc16 pm16 an16 cd16 ct16), sl16⟩) (c16 : PySem.W.codeIn K cd16 "_law_bars" = true) (k16 : PySem.W.keepIn K (.ref f16) = true)
    {f17 : Addr} {od17 an17 : Option Addr} {sl17 : Array (Option Value)} {oc17 kV17 dc17 pm17 cd17 ct17 : Value}
    (a17 : PySem.W.nsIn K mainGlobals "is_ring_of" = some (some (.ref f17))) (l17 : K.lookup f17 = some ⟨oc17, od17, .func (PySem.W.fnOf "is_ring_of" "is_ring_of" (defArgs s_is_ring_of) (defBody s_is_ring_of) (defScope s_is_ring_of) .none kV17 dc17 pm17 an17 cd17 ct17), sl17⟩) (c17 : PySem.W.codeIn K cd17 "is_ring_of" = true) (k17 : PySem.W.keepIn K (.ref f17) = true)
    {f18 : Addr} {od18 an18 : Option Addr} {sl18 : Array (Option Value)} {oc18 kV18 dc18 pm18 cd18 ct18 : Value}
    (a18 : PySem.W.nsIn K mainGlobals "is_chained" = some (some (.ref f18))) (l18 : K.lookup f18 = some ⟨oc18, od18, .func (PySem.W.fnOf "is_chained" "is_chained" (defArgs s_is_chained) (defBody s_is_chained) (defScope s_is_chained) .none kV18 dc18 pm18 an18 cd18 ct18), sl18⟩) (c18 : PySem.W.codeIn K cd18 "is_chained" = true) (k18 : PySem.W.keepIn K (.ref f18) = true)
    {f19 : Addr} {od19 an19 : Option Addr} {sl19 : Array (Option Value)} {oc19 kV19 dc19 pm19 cd19 ct19 : Value}
    (a19 : PySem.W.nsIn K mainGlobals "is_barred" = some (some (.ref f19))) (l19 : K.lookup f19 = some ⟨oc19, od19, .func (PySem.W.fnOf "is_barred" "is_barred" (defArgs s_is_barred) (defBody s_is_barred) (defScope s_is_barred) .none kV19 dc19 pm19 an19 cd19 ct19), sl19⟩) (c19 : PySem.W.codeIn K cd19 "is_barred" = true) (k19 : PySem.W.keepIn K (.ref f19) = true)
    {f20 : Addr} {od20 an20 : Option Addr} {sl20 : Array (Option Value)} {oc20 kV20 dc20 pm20 cd20 ct20 : Value}
    (a20 : PySem.W.nsIn K mainGlobals "place_of" = some (some (.ref f20))) (l20 : K.lookup f20 = some ⟨oc20, od20, .func (PySem.W.fnOf "place_of" "place_of" (defArgs s_place_of) (defBody s_place_of) (defScope s_place_of) .none kV20 dc20 pm20 an20 cd20 ct20), sl20⟩) (c20 : PySem.W.codeIn K cd20 "place_of" = true) (k20 : PySem.W.keepIn K (.ref f20) = true)
    {f21 : Addr} {od21 an21 : Option Addr} {sl21 : Array (Option Value)} {oc21 kV21 dc21 pm21 cd21 ct21 : Value}
    (a21 : PySem.W.nsIn K mainGlobals "is_evidence" = some (some (.ref f21))) (l21 : K.lookup f21 = some ⟨oc21, od21, .func (PySem.W.fnOf "is_evidence" "is_evidence" (defArgs s_is_evidence) (defBody s_is_evidence) (defScope s_is_evidence) .none kV21 dc21 pm21 an21 cd21 ct21), sl21⟩) (c21 : PySem.W.codeIn K cd21 "is_evidence" = true) (k21 : PySem.W.keepIn K (.ref f21) = true)
    {f22 : Addr} {od22 an22 : Option Addr} {sl22 : Array (Option Value)} {oc22 kV22 dc22 pm22 cd22 ct22 : Value}
    (a22 : PySem.W.nsIn K mainGlobals "_law_evidence" = some (some (.ref f22))) (l22 : K.lookup f22 = some ⟨oc22, od22, .func (PySem.W.fnOf "_law_evidence" "_law_evidence" (defArgs s__law_evidence) (defBody s__law_evidence) (defScope s__law_evidence) .none kV22 dc22 pm22 an22 cd22 ct22), sl22⟩) (c22 : PySem.W.codeIn K cd22 "_law_evidence" = true) (k22 : PySem.W.keepIn K (.ref f22) = true)
    {f23 : Addr} {od23 an23 : Option Addr} {sl23 : Array (Option Value)} {oc23 kV23 dc23 pm23 cd23 ct23 : Value}
    (a23 : PySem.W.nsIn K mainGlobals "is_pair" = some (some (.ref f23))) (l23 : K.lookup f23 = some ⟨oc23, od23, .func (PySem.W.fnOf "is_pair" "is_pair" (defArgs s_is_pair) (defBody s_is_pair) (defScope s_is_pair) .none kV23 dc23 pm23 an23 cd23 ct23), sl23⟩) (c23 : PySem.W.codeIn K cd23 "is_pair" = true) (k23 : PySem.W.keepIn K (.ref f23) = true)
    {f24 : Addr} {od24 an24 : Option Addr} {sl24 : Array (Option Value)} {oc24 kV24 dc24 pm24 cd24 ct24 : Value}
    (a24 : PySem.W.nsIn K mainGlobals "uses_error" = some (some (.ref f24))) (l24 : K.lookup f24 = some ⟨oc24, od24, .func (PySem.W.fnOf "uses_error" "uses_error" (defArgs s_uses_error) (defBody s_uses_error) (defScope s_uses_error) .none kV24 dc24 pm24 an24 cd24 ct24), sl24⟩) (c24 : PySem.W.codeIn K cd24 "uses_error" = true) (k24 : PySem.W.keepIn K (.ref f24) = true)
    {f25 : Addr} {od25 an25 : Option Addr} {sl25 : Array (Option Value)} {oc25 kV25 dc25 pm25 cd25 ct25 : Value}
    (a25 : PySem.W.nsIn K mainGlobals "program_error" = some (some (.ref f25))) (l25 : K.lookup f25 = some ⟨oc25, od25, .func (PySem.W.fnOf "program_error" "program_error" (defArgs s_program_error) (defBody s_program_error) (defScope s_program_error) .none kV25 dc25 pm25 an25 cd25 ct25), sl25⟩) (c25 : PySem.W.codeIn K cd25 "program_error" = true) (k25 : PySem.W.keepIn K (.ref f25) = true)
    {f26 : Addr} {od26 an26 : Option Addr} {sl26 : Array (Option Value)} {oc26 kV26 dc26 pm26 cd26 ct26 : Value}
    (a26 : PySem.W.nsIn K mainGlobals "parts_of" = some (some (.ref f26))) (l26 : K.lookup f26 = some ⟨oc26, od26, .func (PySem.W.fnOf "parts_of" "parts_of" (defArgs s_parts_of) (defBody s_parts_of) (defScope s_parts_of) .none kV26 dc26 pm26 an26 cd26 ct26), sl26⟩) (c26 : PySem.W.codeIn K cd26 "parts_of" = true) (k26 : PySem.W.keepIn K (.ref f26) = true)
    {f27 : Addr} {od27 an27 : Option Addr} {sl27 : Array (Option Value)} {oc27 kV27 dc27 pm27 cd27 ct27 : Value}
    (a27 : PySem.W.findIn K (.ref C_Program) "__init__" = some (some (.ref f27))) (ma27 : PySem.W.isFn K (.ref f27) = true)
    (mb27 : PySem.W.makesIn K C_Program = true) (mc27 : PySem.W.keepIn K (.ref C_Program) = true)
    (l27 : K.lookup f27 = some ⟨oc27, od27, .func (PySem.W.fnOf "__init__" "Program.__init__" (defArgs s_Program___init__) (defBody s_Program___init__) (defScope s_Program___init__) .none kV27 dc27 pm27 an27 cd27 ct27), sl27⟩) (c27 : PySem.W.codeIn K cd27 "Program.__init__" = true) (k27 : PySem.W.keepIn K (.ref f27) = true)
    {f28 : Addr} {od28 an28 : Option Addr} {sl28 : Array (Option Value)} {oc28 kV28 dc28 pm28 cd28 ct28 : Value}
    {pr28 : Addr} {rs28 : List Value} (a28 : PySem.W.findIn K (.ref C_Program) "uses" = some (some (.ref pr28))) (pa28 : PySem.W.specialIn K (.ref pr28) "__get__" = some (some (.builtin "property.__get__"))) (pb28 : PySem.W.takesIn K (.ref pr28) = some true) (pc28 : PySem.W.recIn K pr28 "property" = some (.ref f28 :: rs28))
    (l28 : K.lookup f28 = some ⟨oc28, od28, .func (PySem.W.fnOf "uses" "Program.uses" (defArgs s_Program_uses) (defBody s_Program_uses) (defScope s_Program_uses) .none kV28 dc28 pm28 an28 cd28 ct28), sl28⟩) (c28 : PySem.W.codeIn K cd28 "Program.uses" = true) (k28 : PySem.W.keepIn K (.ref f28) = true)
    {f29 : Addr} {od29 an29 : Option Addr} {sl29 : Array (Option Value)} {oc29 kV29 dc29 pm29 cd29 ct29 : Value}
    (a29 : PySem.W.nsIn K mainGlobals "break_holds" = some (some (.ref f29))) (l29 : K.lookup f29 = some ⟨oc29, od29, .func (PySem.W.fnOf "break_holds" "break_holds" (defArgs s_break_holds) (defBody s_break_holds) (defScope s_break_holds) .none kV29 dc29 pm29 an29 cd29 ct29), sl29⟩) (c29 : PySem.W.codeIn K cd29 "break_holds" = true) (k29 : PySem.W.keepIn K (.ref f29) = true)
    {f30 : Addr} {od30 an30 : Option Addr} {sl30 : Array (Option Value)} {oc30 kV30 dc30 pm30 cd30 ct30 : Value}
    (a30 : PySem.W.nsIn K mainGlobals "_law_same" = some (some (.ref f30))) (l30 : K.lookup f30 = some ⟨oc30, od30, .func (PySem.W.fnOf "_law_same" "_law_same" (defArgs s__law_same) (defBody s__law_same) (defScope s__law_same) .none kV30 dc30 pm30 an30 cd30 ct30), sl30⟩) (c30 : PySem.W.codeIn K cd30 "_law_same" = true) (k30 : PySem.W.keepIn K (.ref f30) = true)
    {f31 : Addr} {od31 an31 : Option Addr} {sl31 : Array (Option Value)} {oc31 kV31 dc31 pm31 cd31 ct31 : Value}
    (a31 : PySem.W.nsIn K mainGlobals "_law_all_judged" = some (some (.ref f31))) (l31 : K.lookup f31 = some ⟨oc31, od31, .func (PySem.W.fnOf "_law_all_judged" "_law_all_judged" (defArgs s__law_all_judged) (defBody s__law_all_judged) (defScope s__law_all_judged) .none kV31 dc31 pm31 an31 cd31 ct31), sl31⟩) (c31 : PySem.W.codeIn K cd31 "_law_all_judged" = true) (k31 : PySem.W.keepIn K (.ref f31) = true)
    {f32 : Addr} {od32 an32 : Option Addr} {sl32 : Array (Option Value)} {oc32 kV32 dc32 pm32 cd32 ct32 : Value}
    (a32 : PySem.W.nsIn K mainGlobals "_law_names" = some (some (.ref f32))) (l32 : K.lookup f32 = some ⟨oc32, od32, .func (PySem.W.fnOf "_law_names" "_law_names" (defArgs s__law_names) (defBody s__law_names) (defScope s__law_names) .none kV32 dc32 pm32 an32 cd32 ct32), sl32⟩) (c32 : PySem.W.codeIn K cd32 "_law_names" = true) (k32 : PySem.W.keepIn K (.ref f32) = true)
    {f33 : Addr} {od33 an33 : Option Addr} {sl33 : Array (Option Value)} {oc33 kV33 dc33 pm33 cd33 ct33 : Value}
    (a33 : PySem.W.nsIn K mainGlobals "_law_long_case" = some (some (.ref f33))) (l33 : K.lookup f33 = some ⟨oc33, od33, .func (PySem.W.fnOf "_law_long_case" "_law_long_case" (defArgs s__law_long_case) (defBody s__law_long_case) (defScope s__law_long_case) .none kV33 dc33 pm33 an33 cd33 ct33), sl33⟩) (c33 : PySem.W.codeIn K cd33 "_law_long_case" = true) (k33 : PySem.W.keepIn K (.ref f33) = true)
    {f34 : Addr} {od34 an34 : Option Addr} {sl34 : Array (Option Value)} {oc34 kV34 dc34 pm34 cd34 ct34 : Value}
    (a34 : PySem.W.nsIn K mainGlobals "_law_mixed" = some (some (.ref f34))) (l34 : K.lookup f34 = some ⟨oc34, od34, .func (PySem.W.fnOf "_law_mixed" "_law_mixed" (defArgs s__law_mixed) (defBody s__law_mixed) (defScope s__law_mixed) .none kV34 dc34 pm34 an34 cd34 ct34), sl34⟩) (c34 : PySem.W.codeIn K cd34 "_law_mixed" = true) (k34 : PySem.W.keepIn K (.ref f34) = true)
    {f35 : Addr} {od35 an35 : Option Addr} {sl35 : Array (Option Value)} {oc35 kV35 dc35 pm35 cd35 ct35 : Value}
    (a35 : PySem.W.nsIn K mainGlobals "_law_meet" = some (some (.ref f35))) (l35 : K.lookup f35 = some ⟨oc35, od35, .func (PySem.W.fnOf "_law_meet" "_law_meet" (defArgs s__law_meet) (defBody s__law_meet) (defScope s__law_meet) .none kV35 dc35 pm35 an35 cd35 ct35), sl35⟩) (c35 : PySem.W.codeIn K cd35 "_law_meet" = true) (k35 : PySem.W.keepIn K (.ref f35) = true)
    {f36 : Addr} {od36 an36 : Option Addr} {sl36 : Array (Option Value)} {oc36 kV36 dc36 pm36 cd36 ct36 : Value}
    (a36 : PySem.W.nsIn K mainGlobals "_law_alone" = some (some (.ref f36))) (l36 : K.lookup f36 = some ⟨oc36, od36, .func (PySem.W.fnOf "_law_alone" "_law_alone" (defArgs s__law_alone) (defBody s__law_alone) (defScope s__law_alone) .none kV36 dc36 pm36 an36 cd36 ct36), sl36⟩) (c36 : PySem.W.codeIn K cd36 "_law_alone" = true) (k36 : PySem.W.keepIn K (.ref f36) = true)
    {f37 : Addr} {od37 an37 : Option Addr} {sl37 : Array (Option Value)} {oc37 kV37 dc37 pm37 cd37 ct37 : Value}
    (a37 : PySem.W.nsIn K mainGlobals "_law_rows" = some (some (.ref f37))) (l37 : K.lookup f37 = some ⟨oc37, od37, .func (PySem.W.fnOf "_law_rows" "_law_rows" (defArgs s__law_rows) (defBody s__law_rows) (defScope s__law_rows) .none kV37 dc37 pm37 an37 cd37 ct37), sl37⟩) (c37 : PySem.W.codeIn K cd37 "_law_rows" = true) (k37 : PySem.W.keepIn K (.ref f37) = true)
    {f38 : Addr} {od38 an38 : Option Addr} {sl38 : Array (Option Value)} {oc38 kV38 dc38 pm38 cd38 ct38 : Value}
    (a38 : PySem.W.nsIn K mainGlobals "_law_rule_of" = some (some (.ref f38))) (l38 : K.lookup f38 = some ⟨oc38, od38, .func (PySem.W.fnOf "_law_rule_of" "_law_rule_of" (defArgs s__law_rule_of) (defBody s__law_rule_of) (defScope s__law_rule_of) .none kV38 dc38 pm38 an38 cd38 ct38), sl38⟩) (c38 : PySem.W.codeIn K cd38 "_law_rule_of" = true) (k38 : PySem.W.keepIn K (.ref f38) = true)
    {f39 : Addr} {od39 an39 : Option Addr} {sl39 : Array (Option Value)} {oc39 kV39 dc39 pm39 cd39 ct39 : Value}
    (a39 : PySem.W.nsIn K mainGlobals "_law_long_rule" = some (some (.ref f39))) (l39 : K.lookup f39 = some ⟨oc39, od39, .func (PySem.W.fnOf "_law_long_rule" "_law_long_rule" (defArgs s__law_long_rule) (defBody s__law_long_rule) (defScope s__law_long_rule) .none kV39 dc39 pm39 an39 cd39 ct39), sl39⟩) (c39 : PySem.W.codeIn K cd39 "_law_long_rule" = true) (k39 : PySem.W.keepIn K (.ref f39) = true)
    {f40 : Addr} {od40 an40 : Option Addr} {sl40 : Array (Option Value)} {oc40 kV40 dc40 pm40 cd40 ct40 : Value}
    (a40 : PySem.W.nsIn K mainGlobals "_law_spots" = some (some (.ref f40))) (l40 : K.lookup f40 = some ⟨oc40, od40, .func (PySem.W.fnOf "_law_spots" "_law_spots" (defArgs s__law_spots) (defBody s__law_spots) (defScope s__law_spots) .none kV40 dc40 pm40 an40 cd40 ct40), sl40⟩) (c40 : PySem.W.codeIn K cd40 "_law_spots" = true) (k40 : PySem.W.keepIn K (.ref f40) = true)
    {f41 : Addr} {od41 an41 : Option Addr} {sl41 : Array (Option Value)} {oc41 kV41 dc41 pm41 cd41 ct41 : Value}
    (a41 : PySem.W.nsIn K mainGlobals "_law_modules" = some (some (.ref f41))) (l41 : K.lookup f41 = some ⟨oc41, od41, .func (PySem.W.fnOf "_law_modules" "_law_modules" (defArgs s__law_modules) (defBody s__law_modules) (defScope s__law_modules) .none kV41 dc41 pm41 an41 cd41 ct41), sl41⟩) (c41 : PySem.W.codeIn K cd41 "_law_modules" = true) (k41 : PySem.W.keepIn K (.ref f41) = true)
    {f42 : Addr} {od42 an42 : Option Addr} {sl42 : Array (Option Value)} {oc42 kV42 dc42 pm42 cd42 ct42 : Value}
    (a42 : PySem.W.nsIn K mainGlobals "_law_uses" = some (some (.ref f42))) (l42 : K.lookup f42 = some ⟨oc42, od42, .func (PySem.W.fnOf "_law_uses" "_law_uses" (defArgs s__law_uses) (defBody s__law_uses) (defScope s__law_uses) .none kV42 dc42 pm42 an42 cd42 ct42), sl42⟩) (c42 : PySem.W.codeIn K cd42 "_law_uses" = true) (k42 : PySem.W.keepIn K (.ref f42) = true)
    {f43 : Addr} {od43 an43 : Option Addr} {sl43 : Array (Option Value)} {oc43 kV43 dc43 pm43 cd43 ct43 : Value}
    (a43 : PySem.W.nsIn K mainGlobals "_law_case" = some (some (.ref f43))) (l43 : K.lookup f43 = some ⟨oc43, od43, .func (PySem.W.fnOf "_law_case" "_law_case" (defArgs s__law_case) (defBody s__law_case) (defScope s__law_case) .none kV43 dc43 pm43 an43 cd43 ct43), sl43⟩) (c43 : PySem.W.codeIn K cd43 "_law_case" = true) (k43 : PySem.W.keepIn K (.ref f43) = true)
    {f44 : Addr} {od44 an44 : Option Addr} {sl44 : Array (Option Value)} {oc44 kV44 dc44 pm44 cd44 ct44 : Value}
    (a44 : PySem.W.nsIn K mainGlobals "_law_way" = some (some (.ref f44))) (l44 : K.lookup f44 = some ⟨oc44, od44, .func (PySem.W.fnOf "_law_way" "_law_way" (defArgs s__law_way) (defBody s__law_way) (defScope s__law_way) .none kV44 dc44 pm44 an44 cd44 ct44), sl44⟩) (c44 : PySem.W.codeIn K cd44 "_law_way" = true) (k44 : PySem.W.keepIn K (.ref f44) = true)
    {f45 : Addr} {od45 an45 : Option Addr} {sl45 : Array (Option Value)} {oc45 kV45 dc45 pm45 cd45 ct45 : Value}
    (a45 : PySem.W.nsIn K mainGlobals "_law_reel" = some (some (.ref f45))) (l45 : K.lookup f45 = some ⟨oc45, od45, .func (PySem.W.fnOf "_law_reel" "_law_reel" (defArgs s__law_reel) (defBody s__law_reel) (defScope s__law_reel) .none kV45 dc45 pm45 an45 cd45 ct45), sl45⟩) (c45 : PySem.W.codeIn K cd45 "_law_reel" = true) (k45 : PySem.W.keepIn K (.ref f45) = true)
    {f46 : Addr} {od46 an46 : Option Addr} {sl46 : Array (Option Value)} {oc46 kV46 dc46 pm46 cd46 ct46 : Value}
    (a46 : PySem.W.nsIn K mainGlobals "law" = some (some (.ref f46))) (l46 : K.lookup f46 = some ⟨oc46, od46, .func (PySem.W.fnOf "law" "law" (defArgs s_law) (defBody s_law) (defScope s_law) .none kV46 dc46 pm46 an46 cd46 ct46), sl46⟩) (c46 : PySem.W.codeIn K cd46 "law" = true) (k46 : PySem.W.keepIn K (.ref f46) = true)
    (z_all : PySem.W.nsIn K mainGlobals "all" = some none)
    (z_len : PySem.W.nsIn K mainGlobals "len" = some none)
    (z_str : PySem.W.nsIn K mainGlobals "str" = some none)
    (z_isinstance : PySem.W.nsIn K mainGlobals "isinstance" = some none)
    (z_int : PySem.W.nsIn K mainGlobals "int" = some none)
    (z_bool : PySem.W.nsIn K mainGlobals "bool" = some none)
    (z_tuple : PySem.W.nsIn K mainGlobals "tuple" = some none)
    (z_list : PySem.W.nsIn K mainGlobals "list" = some none)
    (z_range : PySem.W.nsIn K mainGlobals "range" = some none)
    (z_enumerate : PySem.W.nsIn K mainGlobals "enumerate" = some none)
    (z_set : PySem.W.nsIn K mainGlobals "set" = some none)
    (z_sorted : PySem.W.nsIn K mainGlobals "sorted" = some none)
    (z_zip : PySem.W.nsIn K mainGlobals "zip" = some none)
    (z_repr : PySem.W.nsIn K mainGlobals "repr" = some none)
    (z_abs : PySem.W.nsIn K mainGlobals "abs" = some none)
    {tk_LETTERS : Tok} (y_LETTERS : PySem.W.nsIn K mainGlobals "LETTERS" = some (some (.str "abcdefghijklmnopqrstuvwxyz" tk_LETTERS)))
    {tk_MAX_LETTERS : Tok} (y_MAX_LETTERS : PySem.W.nsIn K mainGlobals "MAX_LETTERS" = some (some (.int 8 tk_MAX_LETTERS)))
    {tk_MAX_NAMES : Tok} (y_MAX_NAMES : PySem.W.nsIn K mainGlobals "MAX_NAMES" = some (some (.int 6 tk_MAX_NAMES)))
    {tk_MAX_MODULES : Tok} (y_MAX_MODULES : PySem.W.nsIn K mainGlobals "MAX_MODULES" = some (some (.int 24 tk_MAX_MODULES)))
    {tk_MAX_USES : Tok} (y_MAX_USES : PySem.W.nsIn K mainGlobals "MAX_USES" = some (some (.int 200 tk_MAX_USES))) :
    ∃ fd : FuncData, (∀ (s : Shared) (v : Value), BindsTo s fd ⟨[v], []⟩ [("_law_script", v)]) ∧ ∀ base : Heap, K.In base → base.Ns mainGlobals mg → FnG l.prog w K mg base 10 fa fd ["_law_script"] (spLaw K) := by
  have e := hfa.symm.trans (PySem.W.mg_of X G a46)
  cases e
  have m_all := PySem.W.mg_none_of X G z_all
  have m_len := PySem.W.mg_none_of X G z_len
  have m_str := PySem.W.mg_none_of X G z_str
  have m_isinstance := PySem.W.mg_none_of X G z_isinstance
  have m_int := PySem.W.mg_none_of X G z_int
  have m_bool := PySem.W.mg_none_of X G z_bool
  have m_tuple := PySem.W.mg_none_of X G z_tuple
  have m_list := PySem.W.mg_none_of X G z_list
  have m_range := PySem.W.mg_none_of X G z_range
  have m_enumerate := PySem.W.mg_none_of X G z_enumerate
  have m_set := PySem.W.mg_none_of X G z_set
  have m_sorted := PySem.W.mg_none_of X G z_sorted
  have m_zip := PySem.W.mg_none_of X G z_zip
  have m_repr := PySem.W.mg_none_of X G z_repr
  have m_abs := PySem.W.mg_none_of X G z_abs
  have g_LETTERS : ∃ t, mg "LETTERS" = some (.str "abcdefghijklmnopqrstuvwxyz" t) := ⟨_, PySem.W.mg_of X G y_LETTERS⟩
  have g_MAX_LETTERS : ∃ t, mg "MAX_LETTERS" = some (.int 8 t) := ⟨_, PySem.W.mg_of X G y_MAX_LETTERS⟩
  have g_MAX_NAMES : ∃ t, mg "MAX_NAMES" = some (.int 6 t) := ⟨_, PySem.W.mg_of X G y_MAX_NAMES⟩
  have g_MAX_MODULES : ∃ t, mg "MAX_MODULES" = some (.int 24 t) := ⟨_, PySem.W.mg_of X G y_MAX_MODULES⟩
  have g_MAX_USES : ∃ t, mg "MAX_USES" = some (.int 200 t) := ⟨_, PySem.W.mg_of X G y_MAX_USES⟩
  have k_Program : KC K "Program" C_Program := ⟨kc0_Program, ⟨kc1_Program, kc2_Program, kc3_Program, kc4_Program⟩⟩
  have mg_Program : mg "Program" = some (.ref C_Program) := PySem.W.mg_of X G kc0_Program
  have o_Program : KO K "Program" C_Program := ⟨k_Program, ⟨ko0_Program, ko1_Program, ko2_Program, ko3_Program⟩, ko4_Program, ko5_Program⟩
  have n_Program_heads : NoAttr K C_Program "heads" := kn_n_Program_heads
  have n_Program_links : NoAttr K C_Program "links" := kn_n_Program_links
  have n_Program_places : NoAttr K C_Program "places" := kn_n_Program_places
  refine ⟨PySem.W.fnOf "law" "law" (defArgs s_law) (defBody s_law) (defScope s_law) .none kV46 dc46 pm46 an46 cd46 ct46, fun s v => .of_eq rfl, fun base _ _ => ?_⟩
  have d_is_name : Df K mg "is_name" s_is_name := ⟨_, _, fun_mk l0 c0 k0, PySem.W.mg_of X G a0⟩
  have d__law_pull : Df K mg "_law_pull" s__law_pull := ⟨_, _, fun_mk l1 c1 k1, PySem.W.mg_of X G a1⟩
  have d__law_pick : Df K mg "_law_pick" s__law_pick := ⟨_, _, fun_mk l2 c2 k2, PySem.W.mg_of X G a2⟩
  have d__law_odd : Df K mg "_law_odd" s__law_odd := ⟨_, _, fun_mk l3 c3 k3, PySem.W.mg_of X G a3⟩
  have d__law_bent : Df K mg "_law_bent" s__law_bent := ⟨_, _, fun_mk l4 c4 k4, PySem.W.mg_of X G a4⟩
  have d__law_walk : Df K mg "_law_walk" s__law_walk := ⟨_, _, fun_mk l5 c5 k5, PySem.W.mg_of X G a5⟩
  have d__law_values : Df K mg "_law_values" s__law_values := ⟨_, _, fun_mk l6 c6 k6, PySem.W.mg_of X G a6⟩
  have d_is_path : Df K mg "is_path" s_is_path := ⟨_, _, fun_mk l7 c7 k7, PySem.W.mg_of X G a7⟩
  have d_covers : Df K mg "covers" s_covers := ⟨_, _, fun_mk l8 c8 k8, PySem.W.mg_of X G a8⟩
  have d_overlap : Df K mg "overlap" s_overlap := ⟨_, _, fun_mk l9 c9 k9, PySem.W.mg_of X G a9⟩
  have d_first_overlap : Df K mg "first_overlap" s_first_overlap := ⟨_, _, fun_mk l10 c10 k10, PySem.W.mg_of X G a10⟩
  have d_modules_error : Df K mg "modules_error" s_modules_error := ⟨_, _, fun_mk l11 c11 k11, PySem.W.mg_of X G a11⟩
  have d_covered : Df K mg "covered" s_covered := ⟨_, _, fun_mk l12 c12 k12, PySem.W.mg_of X G a12⟩
  have d__law_is_long : Df K mg "_law_is_long" s__law_is_long := ⟨_, _, fun_mk l13 c13 k13, PySem.W.mg_of X G a13⟩
  have d__law_under : Df K mg "_law_under" s__law_under := ⟨_, _, fun_mk l14 c14 k14, PySem.W.mg_of X G a14⟩
  have d__law_home : Df K mg "_law_home" s__law_home := ⟨_, _, fun_mk l15 c15 k15, PySem.W.mg_of X G a15⟩
  have d__law_bars : Df K mg "_law_bars" s__law_bars := ⟨_, _, fun_mk l16 c16 k16, PySem.W.mg_of X G a16⟩
  have d_is_ring_of : Df K mg "is_ring_of" s_is_ring_of := ⟨_, _, fun_mk l17 c17 k17, PySem.W.mg_of X G a17⟩
  have d_is_chained : Df K mg "is_chained" s_is_chained := ⟨_, _, fun_mk l18 c18 k18, PySem.W.mg_of X G a18⟩
  have d_is_barred : Df K mg "is_barred" s_is_barred := ⟨_, _, fun_mk l19 c19 k19, PySem.W.mg_of X G a19⟩
  have d_place_of : Df K mg "place_of" s_place_of := ⟨_, _, fun_mk l20 c20 k20, PySem.W.mg_of X G a20⟩
  have d_is_evidence : Df K mg "is_evidence" s_is_evidence := ⟨_, _, fun_mk l21 c21 k21, PySem.W.mg_of X G a21⟩
  have d__law_evidence : Df K mg "_law_evidence" s__law_evidence := ⟨_, _, fun_mk l22 c22 k22, PySem.W.mg_of X G a22⟩
  have d_is_pair : Df K mg "is_pair" s_is_pair := ⟨_, _, fun_mk l23 c23 k23, PySem.W.mg_of X G a23⟩
  have d_uses_error : Df K mg "uses_error" s_uses_error := ⟨_, _, fun_mk l24 c24 k24, PySem.W.mg_of X G a24⟩
  have d_program_error : Df K mg "program_error" s_program_error := ⟨_, _, fun_mk l25 c25 k25, PySem.W.mg_of X G a25⟩
  have d_parts_of : Df K mg "parts_of" s_parts_of := ⟨_, _, fun_mk l26 c26 k26, PySem.W.mg_of X G a26⟩
  have d_break_holds : Df K mg "break_holds" s_break_holds := ⟨_, _, fun_mk l29 c29 k29, PySem.W.mg_of X G a29⟩
  have d__law_same : Df K mg "_law_same" s__law_same := ⟨_, _, fun_mk l30 c30 k30, PySem.W.mg_of X G a30⟩
  have d__law_all_judged : Df K mg "_law_all_judged" s__law_all_judged := ⟨_, _, fun_mk l31 c31 k31, PySem.W.mg_of X G a31⟩
  have d__law_names : Df K mg "_law_names" s__law_names := ⟨_, _, fun_mk l32 c32 k32, PySem.W.mg_of X G a32⟩
  have d__law_long_case : Df K mg "_law_long_case" s__law_long_case := ⟨_, _, fun_mk l33 c33 k33, PySem.W.mg_of X G a33⟩
  have d__law_mixed : Df K mg "_law_mixed" s__law_mixed := ⟨_, _, fun_mk l34 c34 k34, PySem.W.mg_of X G a34⟩
  have d__law_meet : Df K mg "_law_meet" s__law_meet := ⟨_, _, fun_mk l35 c35 k35, PySem.W.mg_of X G a35⟩
  have d__law_alone : Df K mg "_law_alone" s__law_alone := ⟨_, _, fun_mk l36 c36 k36, PySem.W.mg_of X G a36⟩
  have d__law_rows : Df K mg "_law_rows" s__law_rows := ⟨_, _, fun_mk l37 c37 k37, PySem.W.mg_of X G a37⟩
  have d__law_rule_of : Df K mg "_law_rule_of" s__law_rule_of := ⟨_, _, fun_mk l38 c38 k38, PySem.W.mg_of X G a38⟩
  have d__law_long_rule : Df K mg "_law_long_rule" s__law_long_rule := ⟨_, _, fun_mk l39 c39 k39, PySem.W.mg_of X G a39⟩
  have d__law_spots : Df K mg "_law_spots" s__law_spots := ⟨_, _, fun_mk l40 c40 k40, PySem.W.mg_of X G a40⟩
  have d__law_modules : Df K mg "_law_modules" s__law_modules := ⟨_, _, fun_mk l41 c41 k41, PySem.W.mg_of X G a41⟩
  have d__law_uses : Df K mg "_law_uses" s__law_uses := ⟨_, _, fun_mk l42 c42 k42, PySem.W.mg_of X G a42⟩
  have d__law_case : Df K mg "_law_case" s__law_case := ⟨_, _, fun_mk l43 c43 k43, PySem.W.mg_of X G a43⟩
  have d__law_way : Df K mg "_law_way" s__law_way := ⟨_, _, fun_mk l44 c44 k44, PySem.W.mg_of X G a44⟩
  have d__law_reel : Df K mg "_law_reel" s__law_reel := ⟨_, _, fun_mk l45 c45 k45, PySem.W.mg_of X G a45⟩
  have c_is_name := ok_is_name (P := l.prog) (w := w) (mg := mg) (base := base) d_is_name m_all m_len m_str m_isinstance g_LETTERS g_MAX_LETTERS
  have c__law_pull := ok__law_pull (P := l.prog) (w := w) (mg := mg) (base := base) d__law_pull m_len m_int
  have c__law_pick := ok__law_pick (P := l.prog) (w := w) (mg := mg) (base := base) d__law_pick m_len c__law_pull
  have c__law_odd := ok__law_odd (P := l.prog) (w := w) (mg := mg) (base := base) d__law_odd c__law_pick
  have c__law_bent := ok__law_bent (P := l.prog) (w := w) (mg := mg) (base := base) d__law_bent m_str m_isinstance m_int m_bool m_tuple m_list m_len c__law_odd c__law_pick c__law_pull
  have c__law_walk := ok__law_walk (P := l.prog) (w := w) (mg := mg) (base := base) d__law_walk m_range c__law_pull c__law_pick
  have c__law_values := ok__law_values (P := l.prog) (w := w) (mg := mg) (base := base) d__law_values m_list m_range m_tuple m_len c__law_odd c__law_bent c__law_pick c__law_walk c__law_pull
  have c_is_path := ok_is_path (P := l.prog) (w := w) (mg := mg) (base := base) d_is_path m_all m_len m_str m_isinstance g_MAX_NAMES c_is_name
  have c_covers := ok_covers (P := l.prog) (w := w) (mg := mg) (base := base) d_covers 
  have c_overlap := ok_overlap (P := l.prog) (w := w) (mg := mg) (base := base) d_overlap c_covers
  have c_first_overlap := ok_first_overlap (P := l.prog) (w := w) (mg := mg) (base := base) d_first_overlap c_overlap
  have c_modules_error := ok_modules_error (P := l.prog) (w := w) (mg := mg) (base := base) d_modules_error m_enumerate m_len m_tuple m_isinstance g_MAX_MODULES c_first_overlap c_is_path
  have c_covered := ok_covered (P := l.prog) (w := w) (mg := mg) (base := base) d_covered c_covers
  have c__law_is_long := ok__law_is_long (P := l.prog) (w := w) (mg := mg) (base := base) d__law_is_long 
  have c__law_under := ok__law_under (P := l.prog) (w := w) (mg := mg) (base := base) d__law_under 
  have c__law_home := ok__law_home (P := l.prog) (w := w) (mg := mg) (base := base) d__law_home c__law_under
  have c__law_bars := ok__law_bars (P := l.prog) (w := w) (mg := mg) (base := base) d__law_bars m_range m_len c__law_home c__law_under
  have c_is_ring_of := ok_is_ring_of (P := l.prog) (w := w) (mg := mg) (base := base) d_is_ring_of m_len m_set c_covered
  have c_is_chained := ok_is_chained (P := l.prog) (w := w) (mg := mg) (base := base) d_is_chained 
  have c_is_barred := ok_is_barred (P := l.prog) (w := w) (mg := mg) (base := base) d_is_barred 
  have c_place_of := ok_place_of (P := l.prog) (w := w) (mg := mg) (base := base) d_place_of m_enumerate c_covered
  have c_is_evidence := ok_is_evidence (P := l.prog) (w := w) (mg := mg) (base := base) d_is_evidence m_len m_set m_all m_tuple m_isinstance g_MAX_MODULES c_is_barred c_place_of c_is_chained c_is_ring_of
  have c__law_evidence := ok__law_evidence (P := l.prog) (w := w) (mg := mg) (base := base) d__law_evidence m_len m_set m_tuple m_isinstance c__law_bars c__law_is_long c__law_home
  have c_is_pair := ok_is_pair (P := l.prog) (w := w) (mg := mg) (base := base) d_is_pair m_str m_isinstance m_len m_tuple o_Program
  have c_uses_error := ok_uses_error (P := l.prog) (w := w) (mg := mg) (base := base) d_uses_error m_enumerate m_len m_tuple m_isinstance g_MAX_USES c_is_pair
  have c_program_error := ok_program_error (P := l.prog) (w := w) (mg := mg) (base := base) d_program_error c_uses_error c_modules_error
  have c_parts_of := ok_parts_of (P := l.prog) (w := w) (mg := mg) (base := base) d_parts_of m_sorted m_tuple m_range m_len
  have c_Program___init__ := ok_Program___init__ (P := l.prog) (w := w) (mg := mg) (base := base) m_sorted m_tuple k_Program n_Program_heads n_Program_links n_Program_places c_parts_of c_program_error (PySem.W.mg_of X G kc0_Program) ⟨_, _, fun_mk l27 c27 k27, ⟨mb27, a27, ma27, mc27⟩⟩
  have c_Program_uses := ok_Program_uses (P := l.prog) (w := w) (mg := mg) (base := base) k_Program n_Program_links ⟨_, _, _, fun_mk l28 c28 k28, ⟨a28, pa28, pb28, _, pc28⟩⟩
  have c_break_holds := ok_break_holds (P := l.prog) (w := w) (mg := mg) (base := base) d_break_holds c_is_evidence c_Program_uses
  have c__law_same := ok__law_same (P := l.prog) (w := w) (mg := mg) (base := base) d__law_same m_bool m_isinstance m_int m_str m_list m_tuple m_zip m_len
  have c__law_all_judged := ok__law_all_judged (P := l.prog) (w := w) (mg := mg) (base := base) d__law_all_judged m_repr m_tuple k_Program c__law_values c__law_same c_break_holds c__law_evidence c_Program___init__
  have c__law_names := ok__law_names (P := l.prog) (w := w) (mg := mg) (base := base) d__law_names m_range m_int m_list c__law_pick c__law_pull
  have c__law_long_case := ok__law_long_case (P := l.prog) (w := w) (mg := mg) (base := base) d__law_long_case m_range m_list m_zip c__law_pull c__law_pick c__law_names
  have c__law_mixed := ok__law_mixed (P := l.prog) (w := w) (mg := mg) (base := base) d__law_mixed m_range m_len m_list c__law_pull
  have c__law_meet := ok__law_meet (P := l.prog) (w := w) (mg := mg) (base := base) d__law_meet c__law_under
  have c__law_alone := ok__law_alone (P := l.prog) (w := w) (mg := mg) (base := base) d__law_alone m_len c__law_mixed c__law_meet
  have c__law_rows := ok__law_rows (P := l.prog) (w := w) (mg := mg) (base := base) d__law_rows m_len m_tuple c__law_pull
  have c__law_rule_of := ok__law_rule_of (P := l.prog) (w := w) (mg := mg) (base := base) d__law_rule_of m_tuple m_len c__law_alone c__law_pull c__law_under c__law_pick c__law_rows
  have c__law_long_rule := ok__law_long_rule (P := l.prog) (w := w) (mg := mg) (base := base) d__law_long_rule c__law_rule_of c__law_pick
  have c__law_spots := ok__law_spots (P := l.prog) (w := w) (mg := mg) (base := base) d__law_spots m_range c__law_pull c__law_pick
  have c__law_modules := ok__law_modules (P := l.prog) (w := w) (mg := mg) (base := base) d__law_modules c__law_meet c__law_pick
  have c__law_uses := ok__law_uses (P := l.prog) (w := w) (mg := mg) (base := base) d__law_uses m_range m_len m_int c__law_pick c__law_pull
  have c__law_case := ok__law_case (P := l.prog) (w := w) (mg := mg) (base := base) d__law_case c__law_uses c__law_modules c__law_pick c__law_pull c__law_spots c__law_names
  have c__law_way := ok__law_way (P := l.prog) (w := w) (mg := mg) (base := base) d__law_way m_list m_zip c__law_mixed c__law_pull
  have c__law_reel := ok__law_reel (P := l.prog) (w := w) (mg := mg) (base := base) d__law_reel m_len m_abs m_int
  exact ok_law (fun_mk l46 c46 k46) c__law_reel m_list m_zip m_range c__law_all_judged c__law_long_case c__law_pull c__law_rule_of c__law_long_rule c__law_pick c__law_way c__law_case
set_option maxHeartbeats 0
def exs0 : List FrB := [fun K => decide (PySem.W.nsIn K mainGlobals "Program" = some (some (.ref (He.ga K "Program")))),
  fun K => PySem.W.plainGet K (He.ga K "Program") Str.empty,
  fun K => PySem.W.hasDictIn K (He.ga K "Program"),
  fun K => PySem.W.plainOver K (He.ga K "Program"),
  fun K => decide (PySem.W.findIn K (.ref (He.ga K "Program")) "__setattr__" = some (some (.builtin "object.__setattr__"))),
  fun K => decide (PySem.W.findIn K (.ref (He.ga K "Program")) "__class__" = some (some (.builtin "object.__class__"))),
  fun K => decide (PySem.W.specialIn K (.builtin "object.__class__") "__get__" = some (some (.builtin "getset_descriptor.__get__"))),
  fun K => decide (PySem.W.takesIn K (.builtin "object.__class__") = some true),
  fun K => decide (PySem.W.mroIn K (He.ga K "Program") (.type "object") = some true),
  fun K => decide (PySem.W.subIn K (.ref (He.ga K "Program")) (.type "tuple") = some false),
  fun K => decide (PySem.W.subIn K (.ref (He.ga K "Program")) (.type "str") = some false),
  fun K => decide (PySem.W.findIn K (.ref (He.ga K "Program")) "heads" = some none)]
def exs1 : List FrB := [fun K => decide (PySem.W.findIn K (.ref (He.ga K "Program")) "links" = some none),
  fun K => decide (PySem.W.findIn K (.ref (He.ga K "Program")) "places" = some none),
  fun K => decide (PySem.W.nsIn K mainGlobals "is_name" = some (some (.ref (He.ga K "is_name")))),
  fun K => decide (PySem.W.nsIn K mainGlobals "_law_pull" = some (some (.ref (He.ga K "_law_pull")))),
  fun K => decide (PySem.W.nsIn K mainGlobals "_law_pick" = some (some (.ref (He.ga K "_law_pick")))),
  fun K => decide (PySem.W.nsIn K mainGlobals "_law_odd" = some (some (.ref (He.ga K "_law_odd")))),
  fun K => decide (PySem.W.nsIn K mainGlobals "_law_bent" = some (some (.ref (He.ga K "_law_bent")))),
  fun K => decide (PySem.W.nsIn K mainGlobals "_law_walk" = some (some (.ref (He.ga K "_law_walk")))),
  fun K => decide (PySem.W.nsIn K mainGlobals "_law_values" = some (some (.ref (He.ga K "_law_values")))),
  fun K => decide (PySem.W.nsIn K mainGlobals "is_path" = some (some (.ref (He.ga K "is_path")))),
  fun K => decide (PySem.W.nsIn K mainGlobals "covers" = some (some (.ref (He.ga K "covers")))),
  fun K => decide (PySem.W.nsIn K mainGlobals "overlap" = some (some (.ref (He.ga K "overlap"))))]
def exs2 : List FrB := [fun K => decide (PySem.W.nsIn K mainGlobals "first_overlap" = some (some (.ref (He.ga K "first_overlap")))),
  fun K => decide (PySem.W.nsIn K mainGlobals "modules_error" = some (some (.ref (He.ga K "modules_error")))),
  fun K => decide (PySem.W.nsIn K mainGlobals "covered" = some (some (.ref (He.ga K "covered")))),
  fun K => decide (PySem.W.nsIn K mainGlobals "_law_is_long" = some (some (.ref (He.ga K "_law_is_long")))),
  fun K => decide (PySem.W.nsIn K mainGlobals "_law_under" = some (some (.ref (He.ga K "_law_under")))),
  fun K => decide (PySem.W.nsIn K mainGlobals "_law_home" = some (some (.ref (He.ga K "_law_home")))),
  fun K => decide (PySem.W.nsIn K mainGlobals "_law_bars" = some (some (.ref (He.ga K "_law_bars")))),
  fun K => decide (PySem.W.nsIn K mainGlobals "is_ring_of" = some (some (.ref (He.ga K "is_ring_of")))),
  fun K => decide (PySem.W.nsIn K mainGlobals "is_chained" = some (some (.ref (He.ga K "is_chained")))),
  fun K => decide (PySem.W.nsIn K mainGlobals "is_barred" = some (some (.ref (He.ga K "is_barred")))),
  fun K => decide (PySem.W.nsIn K mainGlobals "place_of" = some (some (.ref (He.ga K "place_of")))),
  fun K => decide (PySem.W.nsIn K mainGlobals "is_evidence" = some (some (.ref (He.ga K "is_evidence"))))]
def exs3 : List FrB := [fun K => decide (PySem.W.nsIn K mainGlobals "_law_evidence" = some (some (.ref (He.ga K "_law_evidence")))),
  fun K => decide (PySem.W.nsIn K mainGlobals "is_pair" = some (some (.ref (He.ga K "is_pair")))),
  fun K => decide (PySem.W.nsIn K mainGlobals "uses_error" = some (some (.ref (He.ga K "uses_error")))),
  fun K => decide (PySem.W.nsIn K mainGlobals "program_error" = some (some (.ref (He.ga K "program_error")))),
  fun K => decide (PySem.W.nsIn K mainGlobals "parts_of" = some (some (.ref (He.ga K "parts_of")))),
  fun K => decide (PySem.W.findIn K (.ref (He.ga K "Program")) "__init__" = some (some (.ref (He.ma K (He.ga K "Program") "__init__")))),
  fun K => PySem.W.isFn K (.ref (He.ma K (He.ga K "Program") "__init__")),
  fun K => PySem.W.makesIn K (He.ga K "Program"),
  fun K => PySem.W.keepIn K (.ref (He.ga K "Program")),
  fun K => decide (PySem.W.findIn K (.ref (He.ga K "Program")) "uses" = some (some (.ref (He.ma K (He.ga K "Program") "uses")))),
  fun K => decide (PySem.W.specialIn K (.ref (He.ma K (He.ga K "Program") "uses")) "__get__" = some (some (.builtin "property.__get__"))),
  fun K => decide (PySem.W.takesIn K (.ref (He.ma K (He.ga K "Program") "uses")) = some true)]
def exs4 : List FrB := [fun K => decide (PySem.W.recIn K (He.ma K (He.ga K "Program") "uses") "property" = some (.ref (rcA K (He.ma K (He.ga K "Program") "uses") "property") :: (rcR K (He.ma K (He.ga K "Program") "uses") "property"))),
  fun K => decide (PySem.W.nsIn K mainGlobals "break_holds" = some (some (.ref (He.ga K "break_holds")))),
  fun K => decide (PySem.W.nsIn K mainGlobals "_law_same" = some (some (.ref (He.ga K "_law_same")))),
  fun K => decide (PySem.W.nsIn K mainGlobals "_law_all_judged" = some (some (.ref (He.ga K "_law_all_judged")))),
  fun K => decide (PySem.W.nsIn K mainGlobals "_law_names" = some (some (.ref (He.ga K "_law_names")))),
  fun K => decide (PySem.W.nsIn K mainGlobals "_law_long_case" = some (some (.ref (He.ga K "_law_long_case")))),
  fun K => decide (PySem.W.nsIn K mainGlobals "_law_mixed" = some (some (.ref (He.ga K "_law_mixed")))),
  fun K => decide (PySem.W.nsIn K mainGlobals "_law_meet" = some (some (.ref (He.ga K "_law_meet")))),
  fun K => decide (PySem.W.nsIn K mainGlobals "_law_alone" = some (some (.ref (He.ga K "_law_alone")))),
  fun K => decide (PySem.W.nsIn K mainGlobals "_law_rows" = some (some (.ref (He.ga K "_law_rows")))),
  fun K => decide (PySem.W.nsIn K mainGlobals "_law_rule_of" = some (some (.ref (He.ga K "_law_rule_of")))),
  fun K => decide (PySem.W.nsIn K mainGlobals "_law_long_rule" = some (some (.ref (He.ga K "_law_long_rule"))))]
def exs5 : List FrB := [fun K => decide (PySem.W.nsIn K mainGlobals "_law_spots" = some (some (.ref (He.ga K "_law_spots")))),
  fun K => decide (PySem.W.nsIn K mainGlobals "_law_modules" = some (some (.ref (He.ga K "_law_modules")))),
  fun K => decide (PySem.W.nsIn K mainGlobals "_law_uses" = some (some (.ref (He.ga K "_law_uses")))),
  fun K => decide (PySem.W.nsIn K mainGlobals "_law_case" = some (some (.ref (He.ga K "_law_case")))),
  fun K => decide (PySem.W.nsIn K mainGlobals "_law_way" = some (some (.ref (He.ga K "_law_way")))),
  fun K => decide (PySem.W.nsIn K mainGlobals "_law_reel" = some (some (.ref (He.ga K "_law_reel")))),
  fun K => decide (PySem.W.nsIn K mainGlobals "law" = some (some (.ref (He.ga K "law")))),
  fun K => decide (PySem.W.nsIn K mainGlobals "all" = some none),
  fun K => decide (PySem.W.nsIn K mainGlobals "len" = some none),
  fun K => decide (PySem.W.nsIn K mainGlobals "str" = some none),
  fun K => decide (PySem.W.nsIn K mainGlobals "isinstance" = some none),
  fun K => decide (PySem.W.nsIn K mainGlobals "int" = some none)]
def exs6 : List FrB := [fun K => decide (PySem.W.nsIn K mainGlobals "bool" = some none),
  fun K => decide (PySem.W.nsIn K mainGlobals "tuple" = some none),
  fun K => decide (PySem.W.nsIn K mainGlobals "list" = some none),
  fun K => decide (PySem.W.nsIn K mainGlobals "range" = some none),
  fun K => decide (PySem.W.nsIn K mainGlobals "enumerate" = some none),
  fun K => decide (PySem.W.nsIn K mainGlobals "set" = some none),
  fun K => decide (PySem.W.nsIn K mainGlobals "sorted" = some none),
  fun K => decide (PySem.W.nsIn K mainGlobals "zip" = some none),
  fun K => decide (PySem.W.nsIn K mainGlobals "repr" = some none),
  fun K => decide (PySem.W.nsIn K mainGlobals "abs" = some none),
  fun K => decide (PySem.W.nsIn K mainGlobals "LETTERS" = some (some (.str "abcdefghijklmnopqrstuvwxyz" (tkOf K "LETTERS")))),
  fun K => decide (PySem.W.nsIn K mainGlobals "MAX_LETTERS" = some (some (.int 8 (tkOf K "MAX_LETTERS"))))]
def exs7 : List FrB := [fun K => decide (PySem.W.nsIn K mainGlobals "MAX_NAMES" = some (some (.int 6 (tkOf K "MAX_NAMES")))),
  fun K => decide (PySem.W.nsIn K mainGlobals "MAX_MODULES" = some (some (.int 24 (tkOf K "MAX_MODULES")))),
  fun K => decide (PySem.W.nsIn K mainGlobals "MAX_USES" = some (some (.int 200 (tkOf K "MAX_USES"))))]
def exsR : List (List FrB) := [exs0, exs1, exs2, exs3, exs4, exs5, exs6, exs7]
def exR : List FrB := exsR.map fun l => fun K => l.all fun f => f K
def fnsR : List He5.DefA := [⟨fun K => (He.ga K "is_name"), "is_name", "is_name", defArgs s_is_name, defBody s_is_name, defScope s_is_name, [], []⟩,
  ⟨fun K => (He.ga K "_law_pull"), "_law_pull", "_law_pull", defArgs s__law_pull, defBody s__law_pull, defScope s__law_pull, [], []⟩,
  ⟨fun K => (He.ga K "_law_pick"), "_law_pick", "_law_pick", defArgs s__law_pick, defBody s__law_pick, defScope s__law_pick, [], []⟩,
  ⟨fun K => (He.ga K "_law_odd"), "_law_odd", "_law_odd", defArgs s__law_odd, defBody s__law_odd, defScope s__law_odd, [], []⟩,
  ⟨fun K => (He.ga K "_law_bent"), "_law_bent", "_law_bent", defArgs s__law_bent, defBody s__law_bent, defScope s__law_bent, [], []⟩,
  ⟨fun K => (He.ga K "_law_walk"), "_law_walk", "_law_walk", defArgs s__law_walk, defBody s__law_walk, defScope s__law_walk, [], []⟩,
  ⟨fun K => (He.ga K "_law_values"), "_law_values", "_law_values", defArgs s__law_values, defBody s__law_values, defScope s__law_values, [], []⟩,
  ⟨fun K => (He.ga K "is_path"), "is_path", "is_path", defArgs s_is_path, defBody s_is_path, defScope s_is_path, [], []⟩,
  ⟨fun K => (He.ga K "covers"), "covers", "covers", defArgs s_covers, defBody s_covers, defScope s_covers, [], []⟩,
  ⟨fun K => (He.ga K "overlap"), "overlap", "overlap", defArgs s_overlap, defBody s_overlap, defScope s_overlap, [], []⟩,
  ⟨fun K => (He.ga K "first_overlap"), "first_overlap", "first_overlap", defArgs s_first_overlap, defBody s_first_overlap, defScope s_first_overlap, [], []⟩,
  ⟨fun K => (He.ga K "modules_error"), "modules_error", "modules_error", defArgs s_modules_error, defBody s_modules_error, defScope s_modules_error, [], []⟩,
  ⟨fun K => (He.ga K "covered"), "covered", "covered", defArgs s_covered, defBody s_covered, defScope s_covered, [], []⟩,
  ⟨fun K => (He.ga K "_law_is_long"), "_law_is_long", "_law_is_long", defArgs s__law_is_long, defBody s__law_is_long, defScope s__law_is_long, [], []⟩,
  ⟨fun K => (He.ga K "_law_under"), "_law_under", "_law_under", defArgs s__law_under, defBody s__law_under, defScope s__law_under, [], []⟩,
  ⟨fun K => (He.ga K "_law_home"), "_law_home", "_law_home", defArgs s__law_home, defBody s__law_home, defScope s__law_home, [], []⟩,
  ⟨fun K => (He.ga K "_law_bars"), "_law_bars", "_law_bars", defArgs s__law_bars, defBody s__law_bars, defScope s__law_bars, [], []⟩,
  ⟨fun K => (He.ga K "is_ring_of"), "is_ring_of", "is_ring_of", defArgs s_is_ring_of, defBody s_is_ring_of, defScope s_is_ring_of, [], []⟩,
  ⟨fun K => (He.ga K "is_chained"), "is_chained", "is_chained", defArgs s_is_chained, defBody s_is_chained, defScope s_is_chained, [], []⟩,
  ⟨fun K => (He.ga K "is_barred"), "is_barred", "is_barred", defArgs s_is_barred, defBody s_is_barred, defScope s_is_barred, [], []⟩,
  ⟨fun K => (He.ga K "place_of"), "place_of", "place_of", defArgs s_place_of, defBody s_place_of, defScope s_place_of, [], []⟩,
  ⟨fun K => (He.ga K "is_evidence"), "is_evidence", "is_evidence", defArgs s_is_evidence, defBody s_is_evidence, defScope s_is_evidence, [], []⟩,
  ⟨fun K => (He.ga K "_law_evidence"), "_law_evidence", "_law_evidence", defArgs s__law_evidence, defBody s__law_evidence, defScope s__law_evidence, [], []⟩,
  ⟨fun K => (He.ga K "is_pair"), "is_pair", "is_pair", defArgs s_is_pair, defBody s_is_pair, defScope s_is_pair, [], []⟩,
  ⟨fun K => (He.ga K "uses_error"), "uses_error", "uses_error", defArgs s_uses_error, defBody s_uses_error, defScope s_uses_error, [], []⟩,
  ⟨fun K => (He.ga K "program_error"), "program_error", "program_error", defArgs s_program_error, defBody s_program_error, defScope s_program_error, [], []⟩,
  ⟨fun K => (He.ga K "parts_of"), "parts_of", "parts_of", defArgs s_parts_of, defBody s_parts_of, defScope s_parts_of, [], []⟩,
  ⟨fun K => (He.ma K (He.ga K "Program") "__init__"), "__init__", "Program.__init__", defArgs s_Program___init__, defBody s_Program___init__, defScope s_Program___init__, [], []⟩,
  ⟨fun K => (rcA K (He.ma K (He.ga K "Program") "uses") "property"), "uses", "Program.uses", defArgs s_Program_uses, defBody s_Program_uses, defScope s_Program_uses, [], []⟩,
  ⟨fun K => (He.ga K "break_holds"), "break_holds", "break_holds", defArgs s_break_holds, defBody s_break_holds, defScope s_break_holds, [], []⟩,
  ⟨fun K => (He.ga K "_law_same"), "_law_same", "_law_same", defArgs s__law_same, defBody s__law_same, defScope s__law_same, [], []⟩,
  ⟨fun K => (He.ga K "_law_all_judged"), "_law_all_judged", "_law_all_judged", defArgs s__law_all_judged, defBody s__law_all_judged, defScope s__law_all_judged, [], []⟩,
  ⟨fun K => (He.ga K "_law_names"), "_law_names", "_law_names", defArgs s__law_names, defBody s__law_names, defScope s__law_names, [], []⟩,
  ⟨fun K => (He.ga K "_law_long_case"), "_law_long_case", "_law_long_case", defArgs s__law_long_case, defBody s__law_long_case, defScope s__law_long_case, [], []⟩,
  ⟨fun K => (He.ga K "_law_mixed"), "_law_mixed", "_law_mixed", defArgs s__law_mixed, defBody s__law_mixed, defScope s__law_mixed, [], []⟩,
  ⟨fun K => (He.ga K "_law_meet"), "_law_meet", "_law_meet", defArgs s__law_meet, defBody s__law_meet, defScope s__law_meet, [], []⟩,
  ⟨fun K => (He.ga K "_law_alone"), "_law_alone", "_law_alone", defArgs s__law_alone, defBody s__law_alone, defScope s__law_alone, [], []⟩,
  ⟨fun K => (He.ga K "_law_rows"), "_law_rows", "_law_rows", defArgs s__law_rows, defBody s__law_rows, defScope s__law_rows, [], []⟩,
  ⟨fun K => (He.ga K "_law_rule_of"), "_law_rule_of", "_law_rule_of", defArgs s__law_rule_of, defBody s__law_rule_of, defScope s__law_rule_of, [], []⟩,
  ⟨fun K => (He.ga K "_law_long_rule"), "_law_long_rule", "_law_long_rule", defArgs s__law_long_rule, defBody s__law_long_rule, defScope s__law_long_rule, [], []⟩,
  ⟨fun K => (He.ga K "_law_spots"), "_law_spots", "_law_spots", defArgs s__law_spots, defBody s__law_spots, defScope s__law_spots, [], []⟩,
  ⟨fun K => (He.ga K "_law_modules"), "_law_modules", "_law_modules", defArgs s__law_modules, defBody s__law_modules, defScope s__law_modules, [], []⟩,
  ⟨fun K => (He.ga K "_law_uses"), "_law_uses", "_law_uses", defArgs s__law_uses, defBody s__law_uses, defScope s__law_uses, [], []⟩,
  ⟨fun K => (He.ga K "_law_case"), "_law_case", "_law_case", defArgs s__law_case, defBody s__law_case, defScope s__law_case, [], []⟩,
  ⟨fun K => (He.ga K "_law_way"), "_law_way", "_law_way", defArgs s__law_way, defBody s__law_way, defScope s__law_way, [], []⟩,
  ⟨fun K => (He.ga K "_law_reel"), "_law_reel", "_law_reel", defArgs s__law_reel, defBody s__law_reel, defScope s__law_reel, [], []⟩,
  ⟨fun K => (He.ga K "law"), "law", "law", defArgs s_law, defBody s_law, defScope s_law, [], []⟩]
def tabsR : List He.Tab := []
def loose0 : List PySem.Str := ["_wall", "MAX_MODULES", "MAX_NAMES", "MAX_USES", "LETTERS", "MAX_LETTERS", "is_name", "is_path", "covers", "overlap", "covered", "first_overlap"]
def loose1 : List PySem.Str := ["is_chained", "place_of", "is_barred", "is_ring_of", "is_evidence", "break_holds", "RestError", "BadProgram", "BadUse", "Clash", "TooMany", "is_pair"]
def loose2 : List PySem.Str := ["modules_error", "uses_error", "program_error", "parts_of", "Program", "_law_reel", "_law_pull", "_law_pick", "_law_mixed", "_law_names", "_law_under", "_law_meet"]
def loose3 : List PySem.Str := ["_law_home", "_law_spots", "_law_alone", "_law_rows", "_law_rule_of", "_law_modules", "_law_uses", "_law_bars", "_law_is_long", "_law_evidence", "_law_same", "_law_odd"]
def loose4 : List PySem.Str := ["_law_bent", "_law_case", "_law_long_rule", "_law_walk", "_law_way", "_law_values", "_law_long_case", "_law_all_judged"]
def looseR : List PySem.Str := loose0 ++ loose1 ++ loose2 ++ loose3 ++ loose4
noncomputable abbrev hkR : PySem.W.Hook := hookY 6 exR fnsR tabsR
noncomputable def obR (s : PySem.W.SharedT) : AlY := obsYG 6 exR fnsR tabsR (HandSHeadRun.getT s)
theorem obR_eq (s : PySem.W.SharedT) : obR s = hkR.obs s.abs := obsYG_eq (HandSHeadRun.getT_eq s)
theorem runR0 (w : World) : HandSHeadRun.RunEq (PySem.W.OpenLaw.row PySem.Challenge.rw_mayrest_k34_chain_evidence) (PySem.W.view (PySem.W.OpenLaw.row PySem.Challenge.rw_mayrest_k34_chain_evidence).prog [62]) hkR obR 20000 looseR (w.withFollow "special-get-raises" false) := by
  intro os
  kernel_rfl
theorem runR1 (w : World) : HandSHeadRun.RunEq (PySem.W.OpenLaw.row PySem.Challenge.rw_mayrest_k34_chain_evidence) (PySem.W.view (PySem.W.OpenLaw.row PySem.Challenge.rw_mayrest_k34_chain_evidence).prog [62]) hkR obR 20000 looseR (w.withFollow "special-get-raises" true) := by
  intro os
  kernel_rfl
theorem runR (w : World) : HandSHeadRun.RunEq (PySem.W.OpenLaw.row PySem.Challenge.rw_mayrest_k34_chain_evidence) (PySem.W.view (PySem.W.OpenLaw.row PySem.Challenge.rw_mayrest_k34_chain_evidence).prog [62]) hkR obR 20000 looseR w := PySem.W.byRow2 "special-get-raises" (P := fun w => HandSHeadRun.RunEq (PySem.W.OpenLaw.row PySem.Challenge.rw_mayrest_k34_chain_evidence) (PySem.W.view (PySem.W.OpenLaw.row PySem.Challenge.rw_mayrest_k34_chain_evidence).prog [62]) hkR obR 20000 looseR w) runR0 runR1 w
set_option maxHeartbeats 0
theorem factsR {l : PySem.W.OpenLaw} {w : World} {K : PySem.W.Frag} {h : Heap} {mg : Str → Option Value} {fa : Addr} (X : K.In h) (G : h.Ns mainGlobals mg) (hfa : mg "law" = some (.ref fa)) (c : SaysY exR fnsR tabsR w K) :
    ∃ fd : FuncData, (∀ (s : Shared) (v : Value), BindsTo s fd ⟨[v], []⟩ [("_law_script", v)]) ∧ ∀ base : Heap, K.In base → base.Ns mainGlobals mg → FnG l.prog w K mg base 10 fa fd ["_law_script"] (spLaw K) := by
  have fact : ∀ (i j : Nat) {l : List FrB} {f : FrB}, exsR[i]? = some l → l[j]? = some f → f K = true := fun i j {l f} h1 h2 => List.all_eq_true.mp (c.fact i (f := fun K => l.all fun f => f K) (by unfold exR; rw [List.getElem?_map, h1]; rfl)) f (List.mem_of_getElem? h2)
  obtain ⟨_, F0⟩ : ∃ fd, FunD K "is_name" "is_name" (defArgs s_is_name) (defBody s_is_name) (defScope s_is_name) [] [] (He.ga K "is_name") fd := c.def_ 0 rfl
  obtain ⟨_, _, _, _, _, _, _, _, _, l0, c0, k0⟩ := raw_fn F0
  obtain ⟨_, F1⟩ : ∃ fd, FunD K "_law_pull" "_law_pull" (defArgs s__law_pull) (defBody s__law_pull) (defScope s__law_pull) [] [] (He.ga K "_law_pull") fd := c.def_ 1 rfl
  obtain ⟨_, _, _, _, _, _, _, _, _, l1, c1, k1⟩ := raw_fn F1
  obtain ⟨_, F2⟩ : ∃ fd, FunD K "_law_pick" "_law_pick" (defArgs s__law_pick) (defBody s__law_pick) (defScope s__law_pick) [] [] (He.ga K "_law_pick") fd := c.def_ 2 rfl
  obtain ⟨_, _, _, _, _, _, _, _, _, l2, c2, k2⟩ := raw_fn F2
  obtain ⟨_, F3⟩ : ∃ fd, FunD K "_law_odd" "_law_odd" (defArgs s__law_odd) (defBody s__law_odd) (defScope s__law_odd) [] [] (He.ga K "_law_odd") fd := c.def_ 3 rfl
  obtain ⟨_, _, _, _, _, _, _, _, _, l3, c3, k3⟩ := raw_fn F3
  obtain ⟨_, F4⟩ : ∃ fd, FunD K "_law_bent" "_law_bent" (defArgs s__law_bent) (defBody s__law_bent) (defScope s__law_bent) [] [] (He.ga K "_law_bent") fd := c.def_ 4 rfl
  obtain ⟨_, _, _, _, _, _, _, _, _, l4, c4, k4⟩ := raw_fn F4
  obtain ⟨_, F5⟩ : ∃ fd, FunD K "_law_walk" "_law_walk" (defArgs s__law_walk) (defBody s__law_walk) (defScope s__law_walk) [] [] (He.ga K "_law_walk") fd := c.def_ 5 rfl
  obtain ⟨_, _, _, _, _, _, _, _, _, l5, c5, k5⟩ := raw_fn F5
  obtain ⟨_, F6⟩ : ∃ fd, FunD K "_law_values" "_law_values" (defArgs s__law_values) (defBody s__law_values) (defScope s__law_values) [] [] (He.ga K "_law_values") fd := c.def_ 6 rfl
  obtain ⟨_, _, _, _, _, _, _, _, _, l6, c6, k6⟩ := raw_fn F6
  obtain ⟨_, F7⟩ : ∃ fd, FunD K "is_path" "is_path" (defArgs s_is_path) (defBody s_is_path) (defScope s_is_path) [] [] (He.ga K "is_path") fd := c.def_ 7 rfl
  obtain ⟨_, _, _, _, _, _, _, _, _, l7, c7, k7⟩ := raw_fn F7
  obtain ⟨_, F8⟩ : ∃ fd, FunD K "covers" "covers" (defArgs s_covers) (defBody s_covers) (defScope s_covers) [] [] (He.ga K "covers") fd := c.def_ 8 rfl
  obtain ⟨_, _, _, _, _, _, _, _, _, l8, c8, k8⟩ := raw_fn F8
  obtain ⟨_, F9⟩ : ∃ fd, FunD K "overlap" "overlap" (defArgs s_overlap) (defBody s_overlap) (defScope s_overlap) [] [] (He.ga K "overlap") fd := c.def_ 9 rfl
  obtain ⟨_, _, _, _, _, _, _, _, _, l9, c9, k9⟩ := raw_fn F9
  obtain ⟨_, F10⟩ : ∃ fd, FunD K "first_overlap" "first_overlap" (defArgs s_first_overlap) (defBody s_first_overlap) (defScope s_first_overlap) [] [] (He.ga K "first_overlap") fd := c.def_ 10 rfl
  obtain ⟨_, _, _, _, _, _, _, _, _, l10, c10, k10⟩ := raw_fn F10
  obtain ⟨_, F11⟩ : ∃ fd, FunD K "modules_error" "modules_error" (defArgs s_modules_error) (defBody s_modules_error) (defScope s_modules_error) [] [] (He.ga K "modules_error") fd := c.def_ 11 rfl
  obtain ⟨_, _, _, _, _, _, _, _, _, l11, c11, k11⟩ := raw_fn F11
  obtain ⟨_, F12⟩ : ∃ fd, FunD K "covered" "covered" (defArgs s_covered) (defBody s_covered) (defScope s_covered) [] [] (He.ga K "covered") fd := c.def_ 12 rfl
  obtain ⟨_, _, _, _, _, _, _, _, _, l12, c12, k12⟩ := raw_fn F12
  obtain ⟨_, F13⟩ : ∃ fd, FunD K "_law_is_long" "_law_is_long" (defArgs s__law_is_long) (defBody s__law_is_long) (defScope s__law_is_long) [] [] (He.ga K "_law_is_long") fd := c.def_ 13 rfl
  obtain ⟨_, _, _, _, _, _, _, _, _, l13, c13, k13⟩ := raw_fn F13
  obtain ⟨_, F14⟩ : ∃ fd, FunD K "_law_under" "_law_under" (defArgs s__law_under) (defBody s__law_under) (defScope s__law_under) [] [] (He.ga K "_law_under") fd := c.def_ 14 rfl
  obtain ⟨_, _, _, _, _, _, _, _, _, l14, c14, k14⟩ := raw_fn F14
  obtain ⟨_, F15⟩ : ∃ fd, FunD K "_law_home" "_law_home" (defArgs s__law_home) (defBody s__law_home) (defScope s__law_home) [] [] (He.ga K "_law_home") fd := c.def_ 15 rfl
  obtain ⟨_, _, _, _, _, _, _, _, _, l15, c15, k15⟩ := raw_fn F15
  obtain ⟨_, F16⟩ : ∃ fd, FunD K "_law_bars" "_law_bars" (defArgs s__law_bars) (defBody s__law_bars) (defScope s__law_bars) [] [] (He.ga K "_law_bars") fd := c.def_ 16 rfl
  obtain ⟨_, _, _, _, _, _, _, _, _, l16, c16, k16⟩ := raw_fn F16
  obtain ⟨_, F17⟩ : ∃ fd, FunD K "is_ring_of" "is_ring_of" (defArgs s_is_ring_of) (defBody s_is_ring_of) (defScope s_is_ring_of) [] [] (He.ga K "is_ring_of") fd := c.def_ 17 rfl
  obtain ⟨_, _, _, _, _, _, _, _, _, l17, c17, k17⟩ := raw_fn F17
  obtain ⟨_, F18⟩ : ∃ fd, FunD K "is_chained" "is_chained" (defArgs s_is_chained) (defBody s_is_chained) (defScope s_is_chained) [] [] (He.ga K "is_chained") fd := c.def_ 18 rfl
  obtain ⟨_, _, _, _, _, _, _, _, _, l18, c18, k18⟩ := raw_fn F18
  obtain ⟨_, F19⟩ : ∃ fd, FunD K "is_barred" "is_barred" (defArgs s_is_barred) (defBody s_is_barred) (defScope s_is_barred) [] [] (He.ga K "is_barred") fd := c.def_ 19 rfl
  obtain ⟨_, _, _, _, _, _, _, _, _, l19, c19, k19⟩ := raw_fn F19
  obtain ⟨_, F20⟩ : ∃ fd, FunD K "place_of" "place_of" (defArgs s_place_of) (defBody s_place_of) (defScope s_place_of) [] [] (He.ga K "place_of") fd := c.def_ 20 rfl
  obtain ⟨_, _, _, _, _, _, _, _, _, l20, c20, k20⟩ := raw_fn F20
  obtain ⟨_, F21⟩ : ∃ fd, FunD K "is_evidence" "is_evidence" (defArgs s_is_evidence) (defBody s_is_evidence) (defScope s_is_evidence) [] [] (He.ga K "is_evidence") fd := c.def_ 21 rfl
  obtain ⟨_, _, _, _, _, _, _, _, _, l21, c21, k21⟩ := raw_fn F21
  obtain ⟨_, F22⟩ : ∃ fd, FunD K "_law_evidence" "_law_evidence" (defArgs s__law_evidence) (defBody s__law_evidence) (defScope s__law_evidence) [] [] (He.ga K "_law_evidence") fd := c.def_ 22 rfl
  obtain ⟨_, _, _, _, _, _, _, _, _, l22, c22, k22⟩ := raw_fn F22
  obtain ⟨_, F23⟩ : ∃ fd, FunD K "is_pair" "is_pair" (defArgs s_is_pair) (defBody s_is_pair) (defScope s_is_pair) [] [] (He.ga K "is_pair") fd := c.def_ 23 rfl
  obtain ⟨_, _, _, _, _, _, _, _, _, l23, c23, k23⟩ := raw_fn F23
  obtain ⟨_, F24⟩ : ∃ fd, FunD K "uses_error" "uses_error" (defArgs s_uses_error) (defBody s_uses_error) (defScope s_uses_error) [] [] (He.ga K "uses_error") fd := c.def_ 24 rfl
  obtain ⟨_, _, _, _, _, _, _, _, _, l24, c24, k24⟩ := raw_fn F24
  obtain ⟨_, F25⟩ : ∃ fd, FunD K "program_error" "program_error" (defArgs s_program_error) (defBody s_program_error) (defScope s_program_error) [] [] (He.ga K "program_error") fd := c.def_ 25 rfl
  obtain ⟨_, _, _, _, _, _, _, _, _, l25, c25, k25⟩ := raw_fn F25
  obtain ⟨_, F26⟩ : ∃ fd, FunD K "parts_of" "parts_of" (defArgs s_parts_of) (defBody s_parts_of) (defScope s_parts_of) [] [] (He.ga K "parts_of") fd := c.def_ 26 rfl
  obtain ⟨_, _, _, _, _, _, _, _, _, l26, c26, k26⟩ := raw_fn F26
  obtain ⟨_, F27⟩ : ∃ fd, FunD K "__init__" "Program.__init__" (defArgs s_Program___init__) (defBody s_Program___init__) (defScope s_Program___init__) [] [] (He.ma K (He.ga K "Program") "__init__") fd := c.def_ 27 rfl
  obtain ⟨_, _, _, _, _, _, _, _, _, l27, c27, k27⟩ := raw_fn F27
  obtain ⟨_, F28⟩ : ∃ fd, FunD K "uses" "Program.uses" (defArgs s_Program_uses) (defBody s_Program_uses) (defScope s_Program_uses) [] [] (rcA K (He.ma K (He.ga K "Program") "uses") "property") fd := c.def_ 28 rfl
  obtain ⟨_, _, _, _, _, _, _, _, _, l28, c28, k28⟩ := raw_fn F28
  obtain ⟨_, F29⟩ : ∃ fd, FunD K "break_holds" "break_holds" (defArgs s_break_holds) (defBody s_break_holds) (defScope s_break_holds) [] [] (He.ga K "break_holds") fd := c.def_ 29 rfl
  obtain ⟨_, _, _, _, _, _, _, _, _, l29, c29, k29⟩ := raw_fn F29
  obtain ⟨_, F30⟩ : ∃ fd, FunD K "_law_same" "_law_same" (defArgs s__law_same) (defBody s__law_same) (defScope s__law_same) [] [] (He.ga K "_law_same") fd := c.def_ 30 rfl
  obtain ⟨_, _, _, _, _, _, _, _, _, l30, c30, k30⟩ := raw_fn F30
  obtain ⟨_, F31⟩ : ∃ fd, FunD K "_law_all_judged" "_law_all_judged" (defArgs s__law_all_judged) (defBody s__law_all_judged) (defScope s__law_all_judged) [] [] (He.ga K "_law_all_judged") fd := c.def_ 31 rfl
  obtain ⟨_, _, _, _, _, _, _, _, _, l31, c31, k31⟩ := raw_fn F31
  obtain ⟨_, F32⟩ : ∃ fd, FunD K "_law_names" "_law_names" (defArgs s__law_names) (defBody s__law_names) (defScope s__law_names) [] [] (He.ga K "_law_names") fd := c.def_ 32 rfl
  obtain ⟨_, _, _, _, _, _, _, _, _, l32, c32, k32⟩ := raw_fn F32
  obtain ⟨_, F33⟩ : ∃ fd, FunD K "_law_long_case" "_law_long_case" (defArgs s__law_long_case) (defBody s__law_long_case) (defScope s__law_long_case) [] [] (He.ga K "_law_long_case") fd := c.def_ 33 rfl
  obtain ⟨_, _, _, _, _, _, _, _, _, l33, c33, k33⟩ := raw_fn F33
  obtain ⟨_, F34⟩ : ∃ fd, FunD K "_law_mixed" "_law_mixed" (defArgs s__law_mixed) (defBody s__law_mixed) (defScope s__law_mixed) [] [] (He.ga K "_law_mixed") fd := c.def_ 34 rfl
  obtain ⟨_, _, _, _, _, _, _, _, _, l34, c34, k34⟩ := raw_fn F34
  obtain ⟨_, F35⟩ : ∃ fd, FunD K "_law_meet" "_law_meet" (defArgs s__law_meet) (defBody s__law_meet) (defScope s__law_meet) [] [] (He.ga K "_law_meet") fd := c.def_ 35 rfl
  obtain ⟨_, _, _, _, _, _, _, _, _, l35, c35, k35⟩ := raw_fn F35
  obtain ⟨_, F36⟩ : ∃ fd, FunD K "_law_alone" "_law_alone" (defArgs s__law_alone) (defBody s__law_alone) (defScope s__law_alone) [] [] (He.ga K "_law_alone") fd := c.def_ 36 rfl
  obtain ⟨_, _, _, _, _, _, _, _, _, l36, c36, k36⟩ := raw_fn F36
  obtain ⟨_, F37⟩ : ∃ fd, FunD K "_law_rows" "_law_rows" (defArgs s__law_rows) (defBody s__law_rows) (defScope s__law_rows) [] [] (He.ga K "_law_rows") fd := c.def_ 37 rfl
  obtain ⟨_, _, _, _, _, _, _, _, _, l37, c37, k37⟩ := raw_fn F37
  obtain ⟨_, F38⟩ : ∃ fd, FunD K "_law_rule_of" "_law_rule_of" (defArgs s__law_rule_of) (defBody s__law_rule_of) (defScope s__law_rule_of) [] [] (He.ga K "_law_rule_of") fd := c.def_ 38 rfl
  obtain ⟨_, _, _, _, _, _, _, _, _, l38, c38, k38⟩ := raw_fn F38
  obtain ⟨_, F39⟩ : ∃ fd, FunD K "_law_long_rule" "_law_long_rule" (defArgs s__law_long_rule) (defBody s__law_long_rule) (defScope s__law_long_rule) [] [] (He.ga K "_law_long_rule") fd := c.def_ 39 rfl
  obtain ⟨_, _, _, _, _, _, _, _, _, l39, c39, k39⟩ := raw_fn F39
  obtain ⟨_, F40⟩ : ∃ fd, FunD K "_law_spots" "_law_spots" (defArgs s__law_spots) (defBody s__law_spots) (defScope s__law_spots) [] [] (He.ga K "_law_spots") fd := c.def_ 40 rfl
  obtain ⟨_, _, _, _, _, _, _, _, _, l40, c40, k40⟩ := raw_fn F40
  obtain ⟨_, F41⟩ : ∃ fd, FunD K "_law_modules" "_law_modules" (defArgs s__law_modules) (defBody s__law_modules) (defScope s__law_modules) [] [] (He.ga K "_law_modules") fd := c.def_ 41 rfl
  obtain ⟨_, _, _, _, _, _, _, _, _, l41, c41, k41⟩ := raw_fn F41
  obtain ⟨_, F42⟩ : ∃ fd, FunD K "_law_uses" "_law_uses" (defArgs s__law_uses) (defBody s__law_uses) (defScope s__law_uses) [] [] (He.ga K "_law_uses") fd := c.def_ 42 rfl
  obtain ⟨_, _, _, _, _, _, _, _, _, l42, c42, k42⟩ := raw_fn F42
  obtain ⟨_, F43⟩ : ∃ fd, FunD K "_law_case" "_law_case" (defArgs s__law_case) (defBody s__law_case) (defScope s__law_case) [] [] (He.ga K "_law_case") fd := c.def_ 43 rfl
  obtain ⟨_, _, _, _, _, _, _, _, _, l43, c43, k43⟩ := raw_fn F43
  obtain ⟨_, F44⟩ : ∃ fd, FunD K "_law_way" "_law_way" (defArgs s__law_way) (defBody s__law_way) (defScope s__law_way) [] [] (He.ga K "_law_way") fd := c.def_ 44 rfl
  obtain ⟨_, _, _, _, _, _, _, _, _, l44, c44, k44⟩ := raw_fn F44
  obtain ⟨_, F45⟩ : ∃ fd, FunD K "_law_reel" "_law_reel" (defArgs s__law_reel) (defBody s__law_reel) (defScope s__law_reel) [] [] (He.ga K "_law_reel") fd := c.def_ 45 rfl
  obtain ⟨_, _, _, _, _, _, _, _, _, l45, c45, k45⟩ := raw_fn F45
  obtain ⟨_, F46⟩ : ∃ fd, FunD K "law" "law" (defArgs s_law) (defBody s_law) (defScope s_law) [] [] (He.ga K "law") fd := c.def_ 46 rfl
  obtain ⟨_, _, _, _, _, _, _, _, _, l46, c46, k46⟩ := raw_fn F46
  exact all_mk X G hfa (of_decide_eq_true (fact 0 0 rfl rfl))
    (fact 0 1 rfl rfl)
    (fact 0 2 rfl rfl)
    (fact 0 3 rfl rfl)
    (of_decide_eq_true (fact 0 4 rfl rfl))
    (of_decide_eq_true (fact 0 5 rfl rfl))
    (of_decide_eq_true (fact 0 6 rfl rfl))
    (of_decide_eq_true (fact 0 7 rfl rfl))
    (of_decide_eq_true (fact 0 8 rfl rfl))
    (of_decide_eq_true (fact 0 9 rfl rfl))
    (of_decide_eq_true (fact 0 10 rfl rfl))
    (of_decide_eq_true (fact 0 11 rfl rfl))
    (of_decide_eq_true (fact 1 0 rfl rfl))
    (of_decide_eq_true (fact 1 1 rfl rfl))
    (of_decide_eq_true (fact 1 2 rfl rfl))
    l0
    c0
    k0
    (of_decide_eq_true (fact 1 3 rfl rfl))
    l1
    c1
    k1
    (of_decide_eq_true (fact 1 4 rfl rfl))
    l2
    c2
    k2
    (of_decide_eq_true (fact 1 5 rfl rfl))
    l3
    c3
    k3
    (of_decide_eq_true (fact 1 6 rfl rfl))
    l4
    c4
    k4
    (of_decide_eq_true (fact 1 7 rfl rfl))
    l5
    c5
    k5
    (of_decide_eq_true (fact 1 8 rfl rfl))
    l6
    c6
    k6
    (of_decide_eq_true (fact 1 9 rfl rfl))
    l7
    c7
    k7
    (of_decide_eq_true (fact 1 10 rfl rfl))
    l8
    c8
    k8
    (of_decide_eq_true (fact 1 11 rfl rfl))
    l9
    c9
    k9
    (of_decide_eq_true (fact 2 0 rfl rfl))
    l10
    c10
    k10
    (of_decide_eq_true (fact 2 1 rfl rfl))
    l11
    c11
    k11
    (of_decide_eq_true (fact 2 2 rfl rfl))
    l12
    c12
    k12
    (of_decide_eq_true (fact 2 3 rfl rfl))
    l13
    c13
    k13
    (of_decide_eq_true (fact 2 4 rfl rfl))
    l14
    c14
    k14
    (of_decide_eq_true (fact 2 5 rfl rfl))
    l15
    c15
    k15
    (of_decide_eq_true (fact 2 6 rfl rfl))
    l16
    c16
    k16
    (of_decide_eq_true (fact 2 7 rfl rfl))
    l17
    c17
    k17
    (of_decide_eq_true (fact 2 8 rfl rfl))
    l18
    c18
    k18
    (of_decide_eq_true (fact 2 9 rfl rfl))
    l19
    c19
    k19
    (of_decide_eq_true (fact 2 10 rfl rfl))
    l20
    c20
    k20
    (of_decide_eq_true (fact 2 11 rfl rfl))
    l21
    c21
    k21
    (of_decide_eq_true (fact 3 0 rfl rfl))
    l22
    c22
    k22
    (of_decide_eq_true (fact 3 1 rfl rfl))
    l23
    c23
    k23
    (of_decide_eq_true (fact 3 2 rfl rfl))
    l24
    c24
    k24
    (of_decide_eq_true (fact 3 3 rfl rfl))
    l25
    c25
    k25
    (of_decide_eq_true (fact 3 4 rfl rfl))
    l26
    c26
    k26
    (of_decide_eq_true (fact 3 5 rfl rfl))
    (fact 3 6 rfl rfl)
    (fact 3 7 rfl rfl)
    (fact 3 8 rfl rfl)
    l27
    c27
    k27
    (of_decide_eq_true (fact 3 9 rfl rfl))
    (of_decide_eq_true (fact 3 10 rfl rfl))
    (of_decide_eq_true (fact 3 11 rfl rfl))
    (of_decide_eq_true (fact 4 0 rfl rfl))
    l28
    c28
    k28
    (of_decide_eq_true (fact 4 1 rfl rfl))
    l29
    c29
    k29
    (of_decide_eq_true (fact 4 2 rfl rfl))
    l30
    c30
    k30
    (of_decide_eq_true (fact 4 3 rfl rfl))
    l31
    c31
    k31
    (of_decide_eq_true (fact 4 4 rfl rfl))
    l32
    c32
    k32
    (of_decide_eq_true (fact 4 5 rfl rfl))
    l33
    c33
    k33
    (of_decide_eq_true (fact 4 6 rfl rfl))
    l34
    c34
    k34
    (of_decide_eq_true (fact 4 7 rfl rfl))
    l35
    c35
    k35
    (of_decide_eq_true (fact 4 8 rfl rfl))
    l36
    c36
    k36
    (of_decide_eq_true (fact 4 9 rfl rfl))
    l37
    c37
    k37
    (of_decide_eq_true (fact 4 10 rfl rfl))
    l38
    c38
    k38
    (of_decide_eq_true (fact 4 11 rfl rfl))
    l39
    c39
    k39
    (of_decide_eq_true (fact 5 0 rfl rfl))
    l40
    c40
    k40
    (of_decide_eq_true (fact 5 1 rfl rfl))
    l41
    c41
    k41
    (of_decide_eq_true (fact 5 2 rfl rfl))
    l42
    c42
    k42
    (of_decide_eq_true (fact 5 3 rfl rfl))
    l43
    c43
    k43
    (of_decide_eq_true (fact 5 4 rfl rfl))
    l44
    c44
    k44
    (of_decide_eq_true (fact 5 5 rfl rfl))
    l45
    c45
    k45
    (of_decide_eq_true (fact 5 6 rfl rfl))
    l46
    c46
    k46
    (of_decide_eq_true (fact 5 7 rfl rfl))
    (of_decide_eq_true (fact 5 8 rfl rfl))
    (of_decide_eq_true (fact 5 9 rfl rfl))
    (of_decide_eq_true (fact 5 10 rfl rfl))
    (of_decide_eq_true (fact 5 11 rfl rfl))
    (of_decide_eq_true (fact 6 0 rfl rfl))
    (of_decide_eq_true (fact 6 1 rfl rfl))
    (of_decide_eq_true (fact 6 2 rfl rfl))
    (of_decide_eq_true (fact 6 3 rfl rfl))
    (of_decide_eq_true (fact 6 4 rfl rfl))
    (of_decide_eq_true (fact 6 5 rfl rfl))
    (of_decide_eq_true (fact 6 6 rfl rfl))
    (of_decide_eq_true (fact 6 7 rfl rfl))
    (of_decide_eq_true (fact 6 8 rfl rfl))
    (of_decide_eq_true (fact 6 9 rfl rfl))
    (of_decide_eq_true (fact 6 10 rfl rfl))
    (of_decide_eq_true (fact 6 11 rfl rfl))
    (of_decide_eq_true (fact 7 0 rfl rfl))
    (of_decide_eq_true (fact 7 1 rfl rfl))
    (of_decide_eq_true (fact 7 2 rfl rfl))
end DL
open PySem PySem.W PySem.Calls PyProof.Rows
set_option maxHeartbeats 0 in
theorem PySem.Challenge.cw_mayrest_k34_chain_evidence_holds : PySem.Challenge.rw_mayrest_k34_chain_evidence.Holds := by
  w_on; o_law
  refine HandSHeadRun.head_any (r := OpenLaw.row PySem.Challenge.rw_mayrest_k34_chain_evidence) (q := view (OpenLaw.row PySem.Challenge.rw_mayrest_k34_chain_evidence).prog [62]) (H := DL.hkR) (ob := DL.obR) (M := 20000) (loose := DL.looseR) (d := HandSHeadRun.topDef (OpenLaw.row PySem.Challenge.rw_mayrest_k34_chain_evidence).prog 62) (kwd := []) DL.obR_eq
    (by kernel_rfl) (fun s => by kernel_rfl) DL.runR (by kernel_rfl) (by kernel_rfl) (by kernel_rfl) (by rfl) (by first | assumption | decide +kernel) (by decide +kernel) ⟨rfl, rfl, rfl, rfl, rfl, by decide +kernel⟩ ?hw ?hc
  case hw => w_witness2
  case hc =>
    refine DL.walk_ofYG (l := PySem.Challenge.rw_mayrest_k34_chain_evidence) (k := 10) (x := "_law_script") rfl (by kernel_rfl) ⟨rfl, by decide, by decide⟩ ?_
    intro w mg fa h K KX c G hmg0
    have hmg : mg ("law" : PySem.Str) = some (.ref fa) := by
      have e : (HandSHeadRun.topDef (OpenLaw.row PySem.Challenge.rw_mayrest_k34_chain_evidence).prog 62).name = ("law" : PySem.Str) := by kernel_rfl
      rw [← e]
      exact hmg0
    exact DL.factsR KX G hmg c
