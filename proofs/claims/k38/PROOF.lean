import PyProof.Rows.All
import HandS.Exc
import Wide.All
import OpenK.AllK
import Wide.FinOn
import HandS.ForMost
import HandS.IsInst
import HandS.TupAny
import HandS.Deep
import HandS.Style
import HandS.Wide
import HandS.Zip
import HandS.Property
import HandS.More
import HandS.Small
import KE.SortData
import KE.KDictSum
import KE.GoesMore
import KE.GoesEnum
import HandS.Set
import HandS.SetFor
import HandS.Strs
import KE.KCallOwn
import HandS.FStr
import HandS.NoneIn
import KE.KEqNest
import PyProof.EqKinds
import HandS.DictComp
import HandS.MakeKwOnly
import KE.DataMinMax
import HandS.TupLe
import KE.KDictZip
import HandS.Star
import HandS.ClsMeth
import HandS.CallLocal
import HandS.ExcInit
import HandS.ExcOwn
import HandS.TryOnly
import HandS.ExcField
import HandS.ExcIs
import HandS.ExcValue
import KE.KExcIs
import PyProof.ReprRoads
import PyProof.StrLawsRepr
import PyProof.ReprLen
import HandS.StrMore
import PyProof.NeKinds
import KE.KStateDown
import HandS.Head0
import HandS.Head1
import HandS.Head2
import HandS.HeadEnd
import HandS.HeadHook1
import HandS.HeadHook2
import HandS.HeadHook3
import HandS.HeadNt
import PyProof.ListStr
import HandS.Flow
import PyProof.ListNew
import KE.GoesEnumKw
import PyProof.Rows.CallKwBuiltin
import KE.DataMinKey
import KE.SortKeyHeap
import HandS.Lambda
import HandS.EndTab
import KE.KNestM
import HandS.Iter
import HandS.GenList
import PySem.Challenge.RW_mayrest_k38_first_rings
set_option Elab.async false
set_option linter.all false
set_option maxRecDepth 100000
set_option autoImplicit false
namespace DL
open PySem PySem.Spec PyProof.Rows L2
/-! plain data, and how a value of the heap stands for it -/
inductive D where
  | none
  | bool (b : Bool)
  | int (i : Int)
  | str (x : Str)
  | tup (xs : List D)
  | lst (xs : List D)
  | dct (ks : List Key) (xs : List D)
  | dtt (ks : List (List Key)) (xs : List D)
  | ktup (xs : List Str)
  | obj (c : Str) (ns : List Str) (xs : List D)
  | exn (c : Str) (ns : List Str) (xs : List D)
  | any (v : V)
/-- an exception that was caught, at a -/
def ExK (C dd a : Addr) : HO := .ext fun h => ∃ (oe : Obj) (vs : Array Value), h.get? a = some oe ∧ oe.cls = .ref C ∧ oe.dict = some dd ∧ oe.data = .fields vs
/-- a tuple -/
def TpAt (K : PySem.W.Frag) (H : Hp) (a : Addr) (xs : List V) : Prop := H a = some (.tup xs)
/-- a tuple of the text -/
def KtAt (K : PySem.W.Frag) (a : Addr) (xs : List V) : Prop := ∃ (o : Obj) (its : Array Value) (n : Nat), K.lookup a = some o ∧ o.cls = .type "tuple" ∧ o.data = .seq its n ∧ its.size ≤ sizeLine ∧ Vals xs its.toList
theorem KtAt.sq {K : PySem.W.Frag} {a : Addr} {xs : List V} (H : Hp) (h : KtAt K a xs) : SqT K H a xs := .inr h
section
variable {K : PySem.W.Frag} {H H' : Hp} {a : Addr} {xs : List V}
theorem TpAt.mono (e : Same H H') (h : TpAt K H a xs) : TpAt K H' a xs := e _ _ h
theorem TpAt.sq (h : TpAt K H a xs) : SqT K H a xs := .inl (.inl h)
theorem tp_sq (e : Same H H') (h : TpAt K H a xs) : SqT K H' a xs := (h.mono e).sq
theorem sqT_mono (e : Same H H') (h : SqT K H a xs) : SqT K H' a xs := by
  rcases h with (h | ⟨o, h⟩) | h
  · exact .inl (.inl (e _ _ h))
  · exact .inl (.inr ⟨o, e _ _ h⟩)
  · exact .inr h
end
mutual
def Rp (K : PySem.W.Frag) (H : Hp) : D → V → Prop
  | .none, v => v = .non
  | .bool b, v => v = .bl b
  | .int i, v => v = .int i
  | .str x, v => v = .str x
  | .tup ds, v => ∃ a vs, v = .ref a ∧ TpAt K H a vs ∧ RpA K H ds vs
  | .lst ds, v => ∃ a vs, v = .ref a ∧ H a = some (.lst vs) ∧ RpA K H ds vs
  | .dct ks ds, v => ∃ a vs, v = .ref a ∧ H a = some (.dK (ks.zip vs)) ∧ ks.length = vs.length ∧ RpA K H ds vs
  | .dtt ks ds, v => ∃ a vs, v = .ref a ∧ H a = some (.dT (ks.zip vs)) ∧ ks.length = vs.length ∧ RpA K H ds vs
  | .ktup xs, v => ∃ a, v = .ref a ∧ KtAt K a (xs.map V.str)
  | .obj c ns ds, v => ∃ C a dx vs, PySem.W.nsIn K mainGlobals c = some (some (.ref C)) ∧ v = .ref a ∧ H a = some (.ins C dx (ns.zip vs)) ∧ H dx = some (.own a) ∧ ns.length = vs.length ∧ RpA K H ds vs
  | .exn c ns ds, v => ∃ C a dd vs, PySem.W.nsIn K mainGlobals c = some (some (.ref C)) ∧ v = .ref a ∧ H a = some (ExK C dd a) ∧ H dd = some (.xd (ns.zip vs)) ∧ ns.length = vs.length ∧ RpA K H ds vs
  | .any w, v => v = w
def RpA (K : PySem.W.Frag) (H : Hp) : List D → List V → Prop
  | [], vs => vs = []
  | d :: ds, vs => ∃ v r, vs = v :: r ∧ Rp K H d v ∧ RpA K H ds r
end
section
variable {K : PySem.W.Frag} {H H' : Hp}
mutual
theorem Rp.mono (e : Same H H') : ∀ (d : D) (v : V), Rp K H d v → Rp K H' d v
  | .none, _, h => h
  | .bool _, _, h => h
  | .int _, _, h => h
  | .str _, _, h => h
  | .tup ds, _, ⟨a, vs, h1, h2, h3⟩ => ⟨a, vs, h1, h2.mono e, RpA.mono e ds vs h3⟩
  | .lst ds, _, ⟨a, vs, h1, h2, h3⟩ => ⟨a, vs, h1, e _ _ h2, RpA.mono e ds vs h3⟩
  | .dct ks ds, _, ⟨a, vs, h1, h2, h3, h4⟩ => ⟨a, vs, h1, e _ _ h2, h3, RpA.mono e ds vs h4⟩
  | .dtt ks ds, _, ⟨a, vs, h1, h2, h3, h4⟩ => ⟨a, vs, h1, e _ _ h2, h3, RpA.mono e ds vs h4⟩
  | .ktup _, _, h => h
  | .obj c ns ds, _, ⟨C, a, dx, vs, h0, h1, h2, h3, h4, h5⟩ => ⟨C, a, dx, vs, h0, h1, e _ _ h2, e _ _ h3, h4, RpA.mono e ds vs h5⟩
  | .exn c ns ds, _, ⟨C, a, dx, vs, h0, h1, h2, h3, h4, h5⟩ => ⟨C, a, dx, vs, h0, h1, e _ _ h2, e _ _ h3, h4, RpA.mono e ds vs h5⟩
  | .any _, _, h => h
theorem RpA.mono (e : Same H H') : ∀ (ds : List D) (vs : List V), RpA K H ds vs → RpA K H' ds vs
  | [], _, h => h
  | d :: ds, _, ⟨v, r, h1, h2, h3⟩ => ⟨v, r, h1, Rp.mono e d v h2, RpA.mono e ds r h3⟩
end
theorem RpA.length : ∀ {ds : List D} {vs : List V}, RpA K H ds vs → ds.length = vs.length
  | [], _, h => by cases h; rfl
  | _ :: _, _, ⟨_, _, h1, _, h3⟩ => by subst h1; simp [RpA.length h3]
theorem RpA.get : ∀ {ds : List D} {vs : List V} {i : Nat} {d : D}, RpA K H ds vs → ds[i]? = some d → ∃ v, vs[i]? = some v ∧ Rp K H d v
  | [], _, _, _, _, e => by simp at e
  | d :: ds, _, 0, _, ⟨v, r, h1, h2, h3⟩, e => by simp at e; subst e; subst h1; exact ⟨v, rfl, h2⟩
  | d :: ds, _, i + 1, _, ⟨v, r, h1, h2, h3⟩, e => by subst h1; simpa using RpA.get h3 (by simpa using e)
theorem RpA.append : ∀ {ds es : List D} {vs ws : List V}, RpA K H ds vs → RpA K H es ws → RpA K H (ds ++ es) (vs ++ ws)
  | [], _, _, _, h, q => by cases h; exact q
  | d :: ds, _, _, _, ⟨v, r, h1, h2, h3⟩, q => by subst h1; exact ⟨v, r ++ _, rfl, h2, RpA.append h3 q⟩
theorem RpA.take : ∀ {ds : List D} {vs : List V} (n : Nat), RpA K H ds vs → RpA K H (ds.take n) (vs.take n)
  | _, _, 0, _ => rfl
  | [], _, _ + 1, h => by cases h; rfl
  | _ :: _, _, n + 1, ⟨v, r, h1, h2, h3⟩ => by subst h1; exact ⟨v, _, rfl, h2, RpA.take n h3⟩
theorem RpA.drop : ∀ {ds : List D} {vs : List V} (n : Nat), RpA K H ds vs → RpA K H (ds.drop n) (vs.drop n)
  | _, _, 0, h => h
  | [], _, _ + 1, h => by cases h; rfl
  | _ :: _, _, n + 1, ⟨v, r, h1, h2, h3⟩ => by subst h1; exact RpA.drop n h3
theorem RpA.one {d : D} {v : V} (h : Rp K H d v) : RpA K H [d] [v] := ⟨v, [], rfl, h, rfl⟩
theorem RpA.set : ∀ {ds : List D} {vs : List V} {d : D} {v : V} (n : Nat), RpA K H ds vs → Rp K H d v → RpA K H (ds.set n d) (vs.set n v)
  | [], _, _, _, _, h, _ => by cases h; rfl
  | _ :: _, _, _, _, 0, ⟨v, r, h1, h2, h3⟩, q => by subst h1; exact ⟨_, _, rfl, q, h3⟩
  | _ :: _, _, _, _, n + 1, ⟨v, r, h1, h2, h3⟩, q => by subst h1; exact ⟨_, _, rfl, h2, RpA.set n h3 q⟩
theorem RpA.reverse : ∀ {ds : List D} {vs : List V}, RpA K H ds vs → RpA K H ds.reverse vs.reverse
  | [], _, h => by cases h; rfl
  | d :: ds, _, ⟨v, r, h1, h2, h3⟩ => by subst h1; rw [List.reverse_cons, List.reverse_cons]; exact RpA.append (RpA.reverse h3) (RpA.one h2)
theorem RpA.map {α : Type} {f : α → D} {g : α → V} (h : ∀ x, Rp K H (f x) (g x)) : ∀ l : List α, RpA K H (l.map f) (l.map g)
  | [] => rfl
  | x :: l => ⟨_, _, rfl, h x, RpA.map h l⟩
theorem RpA.strs : ∀ {l : List Str} {vs : List V}, RpA K H (l.map D.str) vs → vs = l.map V.str
  | [], _, h => h
  | x :: l, _, ⟨v, r, h1, h2, h3⟩ => by subst h1; cases h2; rw [RpA.strs h3]; rfl
theorem RpA.bools : ∀ {l : List Bool} {vs : List V}, RpA K H (l.map D.bool) vs → vs = l.map V.bl
  | [], _, h => h
  | x :: l, _, ⟨v, r, h1, h2, h3⟩ => by subst h1; cases h2; rw [RpA.bools h3]; rfl
end
/-! data without lists and dicts -/
mutual
def D.flat : D → Bool
  | .none => true
  | .bool _ => true
  | .int _ => true
  | .str _ => true
  | .tup ds => flatA ds
  | .lst _ => false
  | .dct _ _ => false
  | .dtt _ _ => false
  | .ktup _ => true
  | .obj _ _ _ => false
  | .exn _ _ _ => false
  | .any _ => true
def flatA : List D → Bool
  | [] => true
  | d :: ds => d.flat && flatA ds
end
def isLD : HO → Bool
  | .lst _ => true
  | .dK _ => true
  | .dT _ => true
  | .ins _ _ _ => true
  | _ => false
section
variable {K : PySem.W.Frag} {H H' : Hp}
mutual
theorem Rp.flat (e : ∀ a o, H a = some o → isLD o = false → H' a = some o) : ∀ (d : D) (v : V), d.flat = true → Rp K H d v → Rp K H' d v
  | .none, _, _, h => h
  | .bool _, _, _, h => h
  | .int _, _, _, h => h
  | .str _, _, _, h => h
  | .tup ds, _, f, ⟨a, vs, h1, h2, h3⟩ => ⟨a, vs, h1, e _ _ h2 rfl, RpA.flat e ds vs f h3⟩
  | .lst ds, _, f, _ => by cases f
  | .dct ks ds, _, f, _ => by cases f
  | .dtt ks ds, _, f, _ => by cases f
  | .ktup _, _, _, h => h
  | .obj _ _ _, _, f, _ => by cases f
  | .exn _ _ _, _, f, _ => by cases f
  | .any _, _, _, h => h
theorem RpA.flat (e : ∀ a o, H a = some o → isLD o = false → H' a = some o) : ∀ (ds : List D) (vs : List V), flatA ds = true → RpA K H ds vs → RpA K H' ds vs
  | [], _, _, h => h
  | d :: ds, _, f, ⟨v, r, h1, h2, h3⟩ => by
    have f' : d.flat = true ∧ flatA ds = true := Bool.and_eq_true_iff.mp f
    exact ⟨v, r, h1, Rp.flat e d v f'.1 h2, RpA.flat e ds r f'.2 h3⟩
end
end
/-! the deck of draws -/
structure Dk where
  a : Addr
  b : Addr
  c : Addr
  /-- the tables of code objects that lambdas are put in, and the lambdas' names -/
  t : List (Addr × Str)
def Dk.has (g : Option Dk) (x : Addr) : Prop := match g with
  | none => False
  | some k => x = k.a ∨ x = k.b ∨ x = k.c ∨ x ∈ k.t.map (·.1)
/-- the table at P: the code objects that it tells are shared, and of the name q -/
def TabH (H Hs : Hp) (P : Addr) (q : Str) : Prop := ∃ ps : Array Value, H P = some (.tbl ps) ∧ TriplesOk ps.toList ∧ ∀ (pos : Pos) (cv : Value), codeAmong pos ps.toList = some cv → ∃ c, cv = .ref c ∧ Hs c = some (LamX.CodeO c q)
structure TbOk (k : Dk) (H Hs : Hp) : Prop where
  nd : (k.t.map (·.1)).Nodup
  at_ : ∀ p ∈ k.t, Hs p.1 = none ∧ TabH H Hs p.1 p.2
structure DkAt (k : Dk) (H : Hp) (f : Nat) : Prop where
  ab : k.a ≠ k.b
  ac : k.a ≠ k.c
  bc : k.b ≠ k.c
  at_ : ∃ (n : Int) (xs ys : List Int), H k.a = some (.lst [.ref k.b, .ref k.c, .int n]) ∧ H k.b = some (.lst (xs.map V.int)) ∧ H k.c = some (.lst (ys.map V.int)) ∧
    (∀ x ∈ xs, 0 ≤ x) ∧ (∀ y ∈ ys, 0 ≤ y) ∧ 0 < ys.length ∧ 0 ≤ n ∧ n + f ≤ 1000000000000
def DkOk (g : Option Dk) (H Hs : Hp) (f : Nat) : Prop := match g with
  | none => True
  | some k => DkAt k H f ∧ Hs k.a = none ∧ Hs k.b = none ∧ Hs k.c = none ∧ TbOk k H Hs
/-! from a heap and its shared part to later ones -/
structure Stp (g : Option Dk) (H Hs H' Hs' : Hp) : Prop where
  sub : Same Hs' H'
  ext : Same Hs Hs'
  keep : ∀ a o, H a = some o → ¬ Dk.has g a → H' a = some o
  there : ∀ a o, H a = some o → ∃ o', H' a = some o'
  new : ∀ a o, H a = some o → Hs a = none → Hs' a = none
theorem Stp.refl {g : Option Dk} {H Hs : Hp} (h : Same Hs H) : Stp g H Hs H Hs := ⟨h, Same.refl _, fun _ _ h _ => h, fun _ o h => ⟨o, h⟩, fun _ _ _ h => h⟩
theorem Stp.trans {g : Option Dk} {H Hs H1 Hs1 H2 Hs2 : Hp} (p : Stp g H Hs H1 Hs1) (q : Stp g H1 Hs1 H2 Hs2) : Stp g H Hs H2 Hs2 where
  sub := q.sub
  ext := p.ext.trans q.ext
  keep := fun a o h n => q.keep a o (p.keep a o h n) n
  there := fun a o h => by
    obtain ⟨o', h'⟩ := p.there a o h
    exact q.there a o' h'
  new := fun a o h n => by
    obtain ⟨o', h'⟩ := p.there a o h
    exact q.new a o' h' (p.new a o h n)
/-- a new object, shared -/
theorem Stp.alloc {g : Option Dk} {H Hs : Hp} {p : Addr} {o : HO} (s : Same Hs H) (hp : H p = none) : Stp g H Hs (upd H p o) (upd Hs p o) where
  sub := fun a u h => by
    by_cases e : a = p
    · subst e; rw [upd_same] at h ⊢; exact h
    · rw [upd_ne e] at h ⊢; exact s a u h
  ext := fun a u h => by
    have : a ≠ p := fun e => by subst e; rw [s a u h] at hp; cases hp
    rw [upd_ne this]; exact h
  keep := fun a u h _ => by rw [upd_ne (ne_of_none h hp)]; exact h
  there := fun a u h => ⟨u, by rw [upd_ne (ne_of_none h hp)]; exact h⟩
  new := fun a u h n => by rw [upd_ne (ne_of_none h hp)]; exact n
/-- a new object, not shared -/
theorem Stp.lay {g : Option Dk} {H Hs : Hp} {p : Addr} {o : HO} (s : Same Hs H) (hp : H p = none) : Stp g H Hs (upd H p o) Hs where
  sub := fun a u h => by
    have : a ≠ p := fun e => by subst e; rw [s a u h] at hp; cases hp
    rw [upd_ne this]; exact s a u h
  ext := Same.refl _
  keep := fun a u h _ => by rw [upd_ne (ne_of_none h hp)]; exact h
  there := fun a u h => ⟨u, by rw [upd_ne (ne_of_none h hp)]; exact h⟩
  new := fun a u h n => n
/-- an object that stands is shared from now on -/
theorem Stp.share {g : Option Dk} {H Hs H' Hs' : Hp} {p : Addr} {o : HO} (s : Stp g H Hs H' Hs') (h0 : H p = none) (h1 : H' p = some o) (h2 : Hs' p = none) : Stp g H Hs H' (upd Hs' p o) where
  sub := fun a u h => by
    by_cases e : a = p
    · subst e; rw [upd_same] at h; cases h; exact h1
    · rw [upd_ne e] at h; exact s.sub a u h
  ext := fun a u h => by
    have q := s.ext a u h
    rw [upd_ne (ne_of_none q h2)]; exact q
  keep := s.keep
  there := s.there
  new := fun a u h n => by rw [upd_ne (ne_of_none h h0)]; exact s.new a u h n
theorem TbOk.nil {a b c : Addr} {H Hs : Hp} : TbOk ⟨a, b, c, []⟩ H Hs := ⟨List.nodup_nil, fun _ h => nomatch h⟩
/-- the tables stay where they stand, the shared ones stay -/
theorem TbOk.to {k : Dk} {H Hs H' Hs' : Hp} (h : TbOk k H Hs) (a : ∀ p ∈ k.t.map (·.1), ∀ o, H p = some o → Hs p = none → H' p = some o ∧ Hs' p = none) (c : ∀ b o, Hs b = some o → b ∉ k.t.map (·.1) → (∃ q, o = LamX.CodeO b q) → Hs' b = some o) : TbOk k H' Hs' := ⟨h.nd, fun p hp => by
  obtain ⟨h1, ps, h2, h3, h4⟩ := h.at_ p hp
  obtain ⟨e1, e2⟩ := a p.1 (List.mem_map.mpr ⟨p, hp, rfl⟩) _ h2 h1
  refine ⟨e2, ps, e1, h3, fun pos cv hc => ?_⟩
  obtain ⟨x, e, hx⟩ := h4 pos cv hc
  refine ⟨x, e, c x _ hx (fun hm => ?_) ⟨_, rfl⟩⟩
  obtain ⟨p', hp', e'⟩ := List.mem_map.mp hm
  have := (h.at_ p' hp').1
  rw [e', hx] at this
  cases this⟩
theorem DkOk.step {g : Option Dk} {H Hs H' Hs' : Hp} {f : Nat} (h : DkOk g H Hs f) (k : ∀ a o, H a = some o → H' a = some o) (n : ∀ a o, H a = some o → Hs a = none → Hs' a = none) (e : Same Hs Hs') : DkOk g H' Hs' f := by
  cases g with
  | none => trivial
  | some d =>
    obtain ⟨⟨e1, e2, e3, n', xs, ys, h1, h2, h3, h4⟩, n1, n2, n3, tb⟩ := h
    exact ⟨⟨e1, e2, e3, n', xs, ys, k _ _ h1, k _ _ h2, k _ _ h3, h4⟩, n _ _ h1 n1, n _ _ h2 n2, n _ _ h3 n3, tb.to (fun p _ o hp hn => ⟨k _ _ hp, n _ _ hp hn⟩) fun b o hb _ _ => e b o hb⟩
theorem DkOk.stp {g : Option Dk} {H Hs H' Hs' : Hp} {f : Nat} (h : DkOk g H Hs f) (s : Stp none H Hs H' Hs') : DkOk g H' Hs' f := h.step (fun a o e => s.keep a o e id) s.new s.ext
theorem Stp.gen {g : Option Dk} {H Hs H' Hs' : Hp} (s : Stp none H Hs H' Hs') : Stp g H Hs H' Hs' := ⟨s.sub, s.ext, fun a o h _ => s.keep a o h id, s.there, s.new⟩
end DL
namespace DL
open PySem PySem.Spec PyProof.Rows L2
/-! slots -/
inductive Sl where
  | no
  | sh (d : D)
  | ow (xs : List D)
  | od (ks : List Key) (xs : List D)
  | ot (ks : List (List Key)) (xs : List D)
  | oi (a : Addr) (c : Str) (ns : List Str) (xs : List D)
def Sl.d : Sl → Option D
  | .no => none
  | .sh d => some d
  | .ow xs => some (.lst xs)
  | .od ks xs => some (.dct ks xs)
  | .ot ks xs => some (.dtt ks xs)
  | .oi _ _ _ _ => none
abbrev Sg := List Sl
structure SlOk (K : PySem.W.Frag) (Hs : Hp) (r : Sg) (st : L2.St) : Prop where
  len : r.length = st.length
  get : ∀ (i : Nat) (s : Sl) (d : D), r[i]? = some s → s.d = some d → ∃ v, st[i]? = some (some v) ∧ Rp K Hs d v
theorem SlOk.mono {K : PySem.W.Frag} {Hs Hs' : Hp} {r : Sg} {st : L2.St} (h : SlOk K Hs r st) (e : Same Hs Hs') : SlOk K Hs' r st :=
  ⟨h.len, fun i s d h1 h2 => by
    obtain ⟨v, h3, h4⟩ := h.get i s d h1 h2
    exact ⟨v, h3, h4.mono e⟩⟩
theorem SlOk.set {K : PySem.W.Frag} {Hs : Hp} {r : Sg} {st : L2.St} (h : SlOk K Hs r st) (j : Nat) {d : D} {v : V} (hv : Rp K Hs d v) : SlOk K Hs (r.set j (.sh d)) (st.set j (some v)) :=
  ⟨by simp [h.len], fun i s e h1 h2 => by
    by_cases hij : j = i
    · subst hij
      by_cases hl : j < r.length
      · rw [List.getElem?_set_self hl] at h1
        cases h1
        cases h2
        exact ⟨v, List.getElem?_set_self (h.len ▸ hl), hv⟩
      · rw [List.getElem?_eq_none (by simpa using hl)] at h1
        cases h1
    · rw [List.getElem?_set_ne hij] at h1
      rw [List.getElem?_set_ne hij]
      exact h.get i s e h1 h2⟩
abbrev QD := D → Nat → Prop
abbrev DT := Option Dk → Sg → Nat → QD → Prop
abbrev DTT := Option Dk → Sg → Nat → (Bool → Nat → Prop) → Prop
abbrev DTA := Option Dk → Sg → Nat → (List D → Nat → Prop) → Prop
structure At (K : PySem.W.Frag) (g : Option Dk) (r : Sg) (f : Nat) (st : L2.St) (H Hs : Hp) : Prop where
  sub : Same Hs H
  dk : DkOk g H Hs f
  sl : SlOk K Hs r st
theorem At.step {K : PySem.W.Frag} {g : Option Dk} {r : Sg} {f f' : Nat} {st : L2.St} {H Hs H' Hs' : Hp} (a : At K g r f st H Hs) (s : Stp g H Hs H' Hs') (k : DkOk g H' Hs' f') : At K g r f' st H' Hs' :=
  ⟨s.sub, k, a.sl.mono s.ext⟩
def Snd (K : PySem.W.Frag) (t : TE) (dl : DT) : Prop := ∀ (g : Option Dk) (r : Sg) (f : Nat) (st : L2.St) (H Hs : Hp) (Q : VK) (Q' : QD), At K g r f st H Hs →
  (∀ d f' v H' Hs', Stp g H Hs H' Hs' → DkOk g H' Hs' f' → Rp K Hs' d v → Q' d f' → Q v H') → dl g r f Q' → t st H Q
def SndT (K : PySem.W.Frag) (t : TT) (dl : DTT) : Prop := ∀ (g : Option Dk) (r : Sg) (f : Nat) (st : L2.St) (H Hs : Hp) (Q : Bool → Hp → Prop) (Q' : Bool → Nat → Prop), At K g r f st H Hs →
  (∀ b f' H' Hs', Stp g H Hs H' Hs' → DkOk g H' Hs' f' → Q' b f' → Q b H') → dl g r f Q' → t st H Q
def SndA (K : PySem.W.Frag) (t : TA) (dl : DTA) : Prop := ∀ (g : Option Dk) (r : Sg) (f : Nat) (st : L2.St) (H Hs : Hp) (Q : List V → Hp → Prop) (Q' : List D → Nat → Prop), At K g r f st H Hs →
  (∀ ds f' vs H' Hs', Stp g H Hs H' Hs' → DkOk g H' Hs' f' → RpA K Hs' ds vs → Q' ds f' → Q vs H') → dl g r f Q' → t st H Q
/-- a list that is new -/
def SndL (K : PySem.W.Frag) (t : TE) (dl : DTA) : Prop := ∀ (g : Option Dk) (r : Sg) (f : Nat) (st : L2.St) (H Hs : Hp) (Q : VK) (Q' : List D → Nat → Prop), At K g r f st H Hs →
  (∀ ds f' p vs H' Hs', Stp g H Hs H' Hs' → DkOk g H' Hs' f' → H p = none → Hs' p = none → H' p = some (.lst vs) → RpA K Hs' ds vs → Q' ds f' → Q (.ref p) H') → dl g r f Q' → t st H Q
/-! the widest reading that data allow -/
def tOf (K : PySem.W.Frag) (dl : DT) : TE := fun st H Q => ∃ g r f Hs Q', At K g r f st H Hs ∧ (∀ d f' v H' Hs', Stp g H Hs H' Hs' → DkOk g H' Hs' f' → Rp K Hs' d v → Q' d f' → Q v H') ∧ dl g r f Q'
def tOfT (K : PySem.W.Frag) (dl : DTT) : TT := fun st H Q => ∃ g r f Hs Q', At K g r f st H Hs ∧ (∀ b f' H' Hs', Stp g H Hs H' Hs' → DkOk g H' Hs' f' → Q' b f' → Q b H') ∧ dl g r f Q'
def tOfA (K : PySem.W.Frag) (dl : DTA) : TA := fun st H Q => ∃ g r f Hs Q', At K g r f st H Hs ∧ (∀ ds f' vs H' Hs', Stp g H Hs H' Hs' → DkOk g H' Hs' f' → RpA K Hs' ds vs → Q' ds f' → Q vs H') ∧ dl g r f Q'
def tOfL (K : PySem.W.Frag) (dl : DTA) : TE := fun st H Q => ∃ g r f Hs Q', At K g r f st H Hs ∧ (∀ ds f' p vs H' Hs', Stp g H Hs H' Hs' → DkOk g H' Hs' f' → H p = none → Hs' p = none → H' p = some (.lst vs) → RpA K Hs' ds vs → Q' ds f' → Q (.ref p) H') ∧ dl g r f Q'
structure DE (X : Cx) (e : Expr) (dl : DT) : Prop where
  pe : PE X e (tOf X.K dl)
structure DP (X : Cx) (e : Expr) (dl : DTT) : Prop where
  pt : PT X e (tOfT X.K dl)
structure DW (X : Cx) (e : Expr) (dl : DTT) : Prop where
  pw : PW X e (tOfT X.K dl)
structure DA (X : Cx) (es : List Expr) (dl : DTA) : Prop where
  pa : PA X es (tOfA X.K dl)
structure DL' (X : Cx) (e : Expr) (dl : DTA) : Prop where
  pe : PE X e (tOfL X.K dl)
theorem DE.sn {X : Cx} {e : Expr} {dl : DT} (_ : DE X e dl) : Snd X.K (tOf X.K dl) dl := fun g r f st H Hs Q Q' a hq hd => ⟨g, r, f, Hs, Q', a, hq, hd⟩
theorem DP.sn {X : Cx} {e : Expr} {dl : DTT} (_ : DP X e dl) : SndT X.K (tOfT X.K dl) dl := fun g r f st H Hs Q Q' a hq hd => ⟨g, r, f, Hs, Q', a, hq, hd⟩
theorem DW.sn {X : Cx} {e : Expr} {dl : DTT} (_ : DW X e dl) : SndT X.K (tOfT X.K dl) dl := fun g r f st H Hs Q Q' a hq hd => ⟨g, r, f, Hs, Q', a, hq, hd⟩
theorem DA.sn {X : Cx} {es : List Expr} {dl : DTA} (_ : DA X es dl) : SndA X.K (tOfA X.K dl) dl := fun g r f st H Hs Q Q' a hq hd => ⟨g, r, f, Hs, Q', a, hq, hd⟩
theorem DL'.sn {X : Cx} {e : Expr} {dl : DTA} (_ : DL' X e dl) : SndL X.K (tOfL X.K dl) dl := fun g r f st H Hs Q Q' a hq hd => ⟨g, r, f, Hs, Q', a, hq, hd⟩
theorem DE.mk' {X : Cx} {e : Expr} {t : TE} {dl : DT} (p : PE X e t) (s : Snd X.K t dl) : DE X e dl := ⟨⟨fun pins sh st H Q I ⟨g, r, f, Hs, Q', a, hq, hd⟩ => p.run pins sh st H Q I (s g r f st H Hs Q Q' a hq hd)⟩⟩
theorem DP.mk' {X : Cx} {e : Expr} {t : TT} {dl : DTT} (p : PT X e t) (s : SndT X.K t dl) : DP X e dl := ⟨⟨fun pins sh st H Q I ⟨g, r, f, Hs, Q', a, hq, hd⟩ => p.run pins sh st H Q I (s g r f st H Hs Q Q' a hq hd)⟩⟩
theorem DW.mk' {X : Cx} {e : Expr} {t : TT} {dl : DTT} (p : PW X e t) (s : SndT X.K t dl) : DW X e dl := ⟨⟨fun whole pins sh st H Q I ⟨g, r, f, Hs, Q', a, hq, hd⟩ => p.run whole pins sh st H Q I (s g r f st H Hs Q Q' a hq hd)⟩⟩
theorem DA.mk' {X : Cx} {es : List Expr} {t : TA} {dl : DTA} (p : PA X es t) (s : SndA X.K t dl) : DA X es dl := ⟨⟨fun pos pins sh st H Q I ⟨g, r, f, Hs, Q', a, hq, hd⟩ => p.run pos pins sh st H Q I (s g r f st H Hs Q Q' a hq hd)⟩⟩
theorem DL'.mk' {X : Cx} {e : Expr} {t : TE} {dl : DTA} (p : PE X e t) (s : SndL X.K t dl) : DL' X e dl := ⟨⟨fun pins sh st H Q I ⟨g, r, f, Hs, Q', a, hq, hd⟩ => p.run pins sh st H Q I (s g r f st H Hs Q Q' a hq hd)⟩⟩
def dOfL (dl : DTA) : DT := fun g r f Q => dl g r f fun ds f' => Q (.lst ds) f'
theorem DkOk.share {g : Option Dk} {H Hs : Hp} {f : Nat} {p : Addr} {o : HO} (h : DkOk g H Hs f) (n : ¬ Dk.has g p) (hp : Hs p = none) : DkOk g H (upd Hs p o) f := by
  cases g with
  | none => trivial
  | some k =>
    obtain ⟨h0, h1, h2, h3, tb⟩ := h
    refine ⟨h0, ?_, ?_, ?_, tb.to (fun a ha u h1 h2 => ⟨h1, ?_⟩) fun b u hb _ _ => ?_⟩
    · rw [upd_ne fun e => n (.inl e.symm)]; exact h1
    · rw [upd_ne fun e => n (.inr (.inl e.symm))]; exact h2
    · rw [upd_ne fun e => n (.inr (.inr (.inl e.symm)))]; exact h3
    · rw [upd_ne fun e => n (.inr (.inr (.inr (by rw [← e]; exact ha))))]; exact h2
    · rw [upd_ne fun e => by rw [e, hp] at hb; cases hb]; exact hb
theorem DkOk.out {g : Option Dk} {H Hs : Hp} {f : Nat} {p : Addr} (h : DkOk g H Hs f) (n : H p = none) : ¬ Dk.has g p := by
  cases g with
  | none => exact id
  | some k =>
    obtain ⟨⟨_, _, _, _, _, _, h1, h2, h3, _⟩, _, _, _, tb⟩ := h
    rintro (e | e | e | e)
    · rw [e, h1] at n; cases n
    · rw [e, h2] at n; cases n
    · rw [e, h3] at n; cases n
    · obtain ⟨x, hx, rfl⟩ := List.mem_map.mp e
      obtain ⟨_, ps, e1, _⟩ := tb.at_ x hx
      rw [e1] at n; cases n
theorem DkOk.mut {g : Option Dk} {H Hs : Hp} {f : Nat} {p : Addr} {o : HO} (h : DkOk g H Hs f) (n : ¬ Dk.has g p) : DkOk g (upd H p o) Hs f := by
  cases g with
  | none => trivial
  | some k =>
    obtain ⟨⟨e1, e2, e3, n', xs, ys, h1, h2, h3, h4⟩, q1, q2, q3, tb⟩ := h
    refine ⟨⟨e1, e2, e3, n', xs, ys, ?_, ?_, ?_, h4⟩, q1, q2, q3, tb.to (fun a ha u h1 h2 => ⟨?_, h2⟩) fun b u hb _ _ => hb⟩
    · rw [upd_ne fun e => n (.inl e.symm)]; exact h1
    · rw [upd_ne fun e => n (.inr (.inl e.symm))]; exact h2
    · rw [upd_ne fun e => n (.inr (.inr (.inl e.symm)))]; exact h3
    · rw [upd_ne fun e => n (.inr (.inr (.inr (by rw [← e]; exact ha))))]; exact h1
theorem Stp.mut {g : Option Dk} {H Hs H' Hs' : Hp} {p : Addr} {o : HO} (s : Stp g H Hs H' Hs') (h0 : H p = none) (h2 : Hs' p = none) : Stp g H Hs (upd H' p o) Hs' where
  sub := fun a u h => by rw [upd_ne (ne_of_none h h2)]; exact s.sub a u h
  ext := s.ext
  keep := fun a u h n => by rw [upd_ne (ne_of_none h h0)]; exact s.keep a u h n
  there := fun a u h => by rw [upd_ne (ne_of_none h h0)]; exact s.there a u h
  new := s.new
section
variable {X : Cx} {K : PySem.W.Frag}
theorem SndL.e {t : TE} {dl : DTA} (h : SndL K t dl) : Snd K t (dOfL dl) := fun g r f st H Hs Q Q' a hq hd =>
  h g r f st H Hs Q _ a (fun ds f' p vs H' Hs' s k h0 h1 h2 hr q => hq (.lst ds) f' (.ref p) H' _ (s.share h0 h2 h1) (k.share (a.dk.out h0) h1) ⟨p, vs, rfl, upd_same, hr.mono (fun b u e => by rw [upd_ne (ne_of_none e h1)]; exact e)⟩ q) hd
theorem DL'.e {e : Expr} {dl : DTA} (h : DL' X e dl) : DE X e (dOfL dl) := .mk' (h.pe) (h.sn.e)
/-! names, constants -/
def dVar (i : Nat) : DT := fun _ r f Q => match r[i]? with
  | some s => match s.d with
    | some d => Q d f
    | none => False
  | none => False
theorem snd_var (i : Nat) : Snd K (tVar i) (dVar i) := fun g r f st H Hs Q Q' a hq hd => by
  unfold dVar at hd
  split at hd
  · next s e =>
    split at hd
    · next d e2 =>
      obtain ⟨v, h1, h2⟩ := a.sl.get i s d e e2
      exact ⟨v, h1, hq d f v H Hs (Stp.refl a.sub) a.dk h2 hd⟩
    · exact hd.elim
  · exact hd.elim
def dC (d : D) : DT := fun _ _ f Q => Q d f
theorem snd_c {d : D} {v : V} (h : ∀ H, Rp K H d v) : Snd K (tC v) (dC d) := fun g r f st H Hs Q Q' a hq hd => hq d f v H Hs (Stp.refl a.sub) a.dk (h Hs) hd
theorem de_v (i : Nat) {x : Str} {pos : Pos} (hN : X.N[i]? = some x := by rfl) (hv : Vis X.env.scope x := by first | exact Or.inl rfl | exact Or.inr (Or.inl rfl) | exact Or.inr (Or.inr rfl)) (hd : (x == ("__debug__" : Str)) = false := by decide)
    (hcd : (x == ("__classdict__" : Str)) = false := by decide) : DE X (.Name x pos) (dVar i) := .mk' (pe_var hN hv hd hcd) (snd_var i)
theorem de_int {i : Int} {j pos} : DE X (.Constant (.int i) j pos) (dC (.int i)) := .mk' (pe_int) (snd_c fun _ => rfl)
theorem de_bl {b : Bool} {j pos} : DE X (.Constant (.bool b) j pos) (dC (.bool b)) := .mk' (pe_bl) (snd_c fun _ => rfl)
theorem de_non {j pos} : DE X (.Constant .none j pos) (dC .none) := .mk' (pe_non) (snd_c fun _ => rfl)
theorem de_str {x : Str} {j pos} : DE X (.Constant (.str x) j pos) (dC (.str x)) := .mk' (pe_str) (snd_c fun _ => rfl)
theorem de_glob {x : Str} {v : V} {u : Value} {pos : Pos} {d : D} (hg : Gl X x) (hm : X.mg x = some u) (r : RelV v u) (hr : ∀ H, Rp X.K H d v) (hd : (x == ("__debug__" : Str)) = false := by decide) : DE X (.Name x pos) (dC d) := .mk' (pe_glob hg hm r hd) (snd_c hr)
theorem de_bltn {x : Str} {v : V} {u : Value} {pos : Pos} (hg : Gl X x) (hm : X.mg x = none) (hv : bootBuiltins x = some u) (r : RelV v u) (hn : x ≠ "__name__" := by decide) (hd : (x == ("__debug__" : Str)) = false := by decide) :
    DE X (.Name x pos) (dC (.any v)) := .mk' (pe_bltn hg hm hv r hn hd) (snd_c fun _ => rfl)
/-! operators by values -/
abbrev O2 := D → D → (D → Prop) → Prop
def SndR (K : PySem.W.Frag) (r : R2) (op : O2) : Prop := ∀ (H Hs : Hp) (x y : D) (vx vy : V) (Q : VK) (Q' : D → Prop), Same Hs H → Rp K Hs x vx → Rp K Hs y vy →
  (∀ z v H' Hs', Stp none H Hs H' Hs' → Rp K Hs' z v → Q' z → Q v H') → op x y Q' → r vx vy H Q
def dOp (op : O2) (a b : DT) : DT := fun g r f Q => a g r f fun x f1 => b g r f1 fun y f2 => op x y fun z => Q z f2
theorem snd_op {r : R2} {op : O2} {ta tb : TE} {a b : DT} (hr : SndR K r op) (ha : Snd K ta a) (hb : Snd K tb b) : Snd K (tOp r ta tb) (dOp op a b) := fun g ro f st H Hs Q Q' A hq hd =>
  ha g ro f st H Hs _ _ A (fun x f1 vx H1 Hs1 s1 k1 r1 q1 => hb g ro f1 st H1 Hs1 _ _ (A.step s1 k1) (fun y f2 vy H2 Hs2 s2 k2 r2 q2 =>
    hr H2 Hs2 x y vx vy Q _ s2.sub (r1.mono s2.ext) r2 (fun z v H3 Hs3 s3 r3 q3 => hq z f2 v H3 Hs3 ((s1.trans s2).trans s3.gen) (k2.stp s3) r3 q3) q2) q1) hd
theorem SndR.or {r r' : R2} {op op' : O2} (h : SndR K r op) (h' : SndR K r' op') : SndR K (fun x y H Q => r x y H Q ∨ r' x y H Q) (fun x y Q => op x y Q ∨ op' x y Q) := fun H Hs x y vx vy Q Q' s rx ry hq hd => by
  rcases hd with hd | hd
  · exact .inl (h H Hs x y vx vy Q Q' s rx ry hq hd)
  · exact .inr (h' H Hs x y vx vy Q Q' s rx ry hq hd)
theorem SndR.weak {r : R2} {op op' : O2} (h : SndR K r op) (w : ∀ x y Q, op' x y Q → op x y Q) : SndR K r op' := fun H Hs x y vx vy Q Q' s rx ry hq hd => h H Hs x y vx vy Q Q' s rx ry hq (w x y Q' hd)
theorem de_op {a b : Expr} {op : Operator} {pos : Pos} {r : R2} {o : O2} {da db : DT} (ho : OpR X (binaryOp op) r) (hr : SndR X.K r o) (ha : DE X a da) (hb : DE X b db) : DE X (.BinOp a op b pos) (dOp o da db) := .mk' (pe_op ho ha.pe hb.pe) (snd_op hr ha.sn hb.sn)
theorem de_cmp {a b : Expr} {op : CmpOp} {pos : Pos} {r : R2} {o : O2} {da db : DT} (ho : OpR X (compareOp op) r) (hr : SndR X.K r o) (ha : DE X a da) (hb : DE X b db) (hm : behindInMarks op b = false) : DE X (.Compare a [op] [b] pos) (dOp o da db) := .mk' (pe_cmpR ho ha.pe hb.pe hm) (snd_op hr ha.sn hb.sn)
def dTest (a : DT) : DTT := fun g r f Q => a g r f fun x f1 => match x with
  | .bool b => Q b f1
  | _ => False
theorem snd_test {ta : TE} {a : DT} (ha : Snd K ta a) : SndT K (tTest ta) (dTest a) := fun g ro f st H Hs Q Q' A hq hd =>
  ha g ro f st H Hs _ _ A (fun x f1 v H1 Hs1 s1 k1 r1 q1 => by
    cases x with
    | bool b => exact ⟨b, r1, hq b f1 H1 Hs1 s1 k1 q1⟩
    | _ => exact q1.elim) hd
theorem snd_B {ta : TE} {a : DT} (ha : Snd K ta a) : SndT K (tB ta) (dTest a) := fun g ro f st H Hs Q Q' A hq hd =>
  ha g ro f st H Hs _ _ A (fun x f1 v H1 Hs1 s1 k1 r1 q1 => by
    cases x with
    | bool b => exact ⟨b, r1, hq b f1 H1 Hs1 s1 k1 q1⟩
    | _ => exact q1.elim) hd
theorem dp_cmp {a b : Expr} {op : CmpOp} {pos : Pos} {r : R2} {o : O2} {da db : DT} (ho : OpR X (compareOp op) r) (hr : SndR X.K r o) (ha : DE X a da) (hb : DE X b db) (hm : behindInMarks op b = false) : DP X (.Compare a [op] [b] pos) (dTest (dOp o da db)) :=
  .mk' (pt_cmpR ho ha.pe hb.pe hm) (snd_test (snd_op hr ha.sn hb.sn))
theorem dp_val {e : Expr} {d : DT} (h : DE X e d) (he : ∀ whole, isTrue e X.env whole = (do let v ← whole; standAt e.pos; holding [v] (truthy v)) := by intro _; rfl) : DP X e (dTest d) := .mk' (pt_val h.pe he) (snd_B h.sn)
def dChain (o o' : O2) (a b c : DT) : DT := fun g r f Q => a g r f fun x f1 => b g r f1 fun y f2 => o x y fun z => match z with
  | .bool k => if k = true then c g r f2 fun w f3 => o' y w fun z' => Q z' f3 else Q (.bool false) f2
  | _ => False
end
end DL
namespace DL
open PySem PySem.Spec PyProof.Rows L2
section
variable {X : Cx} {K : PySem.W.Frag}
theorem snd_chain {r r' : R2} {o o' : O2} {ta tb tc : TE} {a b c : DT} (hr : SndR K r o) (hr' : SndR K r' o') (ha : Snd K ta a) (hb : Snd K tb b) (hc : Snd K tc c) : Snd K (tChain r r' ta tb tc) (dChain o o' a b c) := fun g ro f st H Hs Q Q' A hq hd =>
  ha g ro f st H Hs _ _ A (fun x f1 vx H1 Hs1 s1 k1 r1 q1 => hb g ro f1 st H1 Hs1 _ _ (A.step s1 k1) (fun y f2 vy H2 Hs2 s2 k2 r2 q2 =>
    hr H2 Hs2 x y vx vy _ _ s2.sub (r1.mono s2.ext) r2 (fun z v H3 Hs3 s3 r3 q3 => by
      cases z with
      | bool k =>
        refine ⟨k, r3, ?_⟩
        cases k with
        | true =>
          rw [if_pos rfl]
          replace q3 : c g ro f2 fun w f3 => o' y w fun z' => Q' z' f3 := q3
          have A3 := (A.step s1 k1).step s2 k2 |>.step s3.gen (k2.stp s3)
          exact hc g ro f2 st H3 Hs3 _ _ A3 (fun w f3 vw H4 Hs4 s4 k4 r4 q4 => hr' H4 Hs4 y w vy vw _ _ s4.sub ((r2.mono s3.ext).mono s4.ext) r4 (fun z v H5 Hs5 s5 r5 q5 =>
            hq z f3 v H5 Hs5 ((((s1.trans s2).trans s3.gen).trans s4).trans s5.gen) (k4.stp s5) r5 q5) q4) q3
        | false =>
          rw [if_neg Bool.false_ne_true]
          exact hq (.bool false) f2 (.bl false) H3 Hs3 ((s1.trans s2).trans s3.gen) (k2.stp s3) rfl q3
      | _ => exact q3.elim) q2) q1) hd
theorem de_chain {a b c : Expr} {op op' : CmpOp} {pos : Pos} {r r' : R2} {o o' : O2} {da db dc : DT} (ho : OpR X (compareOp op) r) (ho' : OpR X (compareOp op') r') (hr : SndR X.K r o) (hr' : SndR X.K r' o')
    (ha : DE X a da) (hb : DE X b db) (hc : DE X c dc) (hm : lastMarks [op, op'] [b, c] = false := by with_unfolding_all rfl) : DE X (.Compare a [op, op'] [b, c] pos) (dChain o o' da db dc) :=
  .mk' (pe_chain ho ho' ha.pe hb.pe hc.pe hm) (snd_chain hr hr' ha.sn hb.sn hc.sn)
/-! and, or, not, if -/
def dAnd (a b : DTT) : DTT := fun g r f Q => a g r f fun c f1 => if c = true then b g r f1 Q else Q false f1
def dOr (a b : DTT) : DTT := fun g r f Q => a g r f fun c f1 => if c = true then Q true f1 else b g r f1 Q
def dNot (a : DTT) : DTT := fun g r f Q => a g r f fun c f1 => Q (!c) f1
theorem snd_and {t u : TT} {a b : DTT} (ha : SndT K t a) (hb : SndT K u b) : SndT K (tAnd t u) (dAnd a b) := fun g ro f st H Hs Q Q' A hq hd =>
  ha g ro f st H Hs _ _ A (fun c f1 H1 Hs1 s1 k1 q1 => by
    cases c with
    | true => exact hb g ro f1 st H1 Hs1 _ _ (A.step s1 k1) (fun d f2 H2 Hs2 s2 k2 q2 => hq d f2 H2 Hs2 (s1.trans s2) k2 q2) q1
    | false => exact hq false f1 H1 Hs1 s1 k1 q1) hd
theorem snd_or {t u : TT} {a b : DTT} (ha : SndT K t a) (hb : SndT K u b) : SndT K (tOr t u) (dOr a b) := fun g ro f st H Hs Q Q' A hq hd =>
  ha g ro f st H Hs _ _ A (fun c f1 H1 Hs1 s1 k1 q1 => by
    cases c with
    | false => exact hb g ro f1 st H1 Hs1 _ _ (A.step s1 k1) (fun d f2 H2 Hs2 s2 k2 q2 => hq d f2 H2 Hs2 (s1.trans s2) k2 q2) q1
    | true => exact hq true f1 H1 Hs1 s1 k1 q1) hd
theorem snd_not {t : TT} {a : DTT} (ha : SndT K t a) : SndT K (tNot t) (dNot a) := fun g ro f st H Hs Q Q' A hq hd =>
  ha g ro f st H Hs _ _ A (fun c f1 H1 Hs1 s1 k1 q1 => hq (!c) f1 H1 Hs1 s1 k1 q1) hd
theorem dw_and1 {a : Expr} {pos : Pos} {d : DTT} (h : DP X a d) : DW X (.BoolOp .And [a] pos) d := .mk' (pw_and1 h.pt) (h.sn)
theorem dw_or1 {a : Expr} {pos : Pos} {d : DTT} (h : DP X a d) : DW X (.BoolOp .Or [a] pos) d := .mk' (pw_or1 h.pt) (h.sn)
theorem dw_and {a b : Expr} {rest : List Expr} {pos : Pos} {d e : DTT} (h : DP X a d) (h' : DW X (.BoolOp .And (b :: rest) pos) e) : DW X (.BoolOp .And (a :: b :: rest) pos) (dAnd d e) := .mk' (pw_and h.pt h'.pw) (snd_and h.sn h'.sn)
theorem dw_or {a b : Expr} {rest : List Expr} {pos : Pos} {d e : DTT} (h : DP X a d) (h' : DW X (.BoolOp .Or (b :: rest) pos) e) : DW X (.BoolOp .Or (a :: b :: rest) pos) (dOr d e) := .mk' (pw_or h.pt h'.pw) (snd_or h.sn h'.sn)
theorem DW.p {a : Expr} {d : DTT} (h : DW X a d) : DP X a d := .mk' (h.pw.pt) (h.sn)
theorem dp_not {a : Expr} {pos : Pos} {d : DTT} (h : DP X a d) : DP X (.UnaryOp .Not a pos) (dNot d) := .mk' (pt_not h.pt) (snd_not h.sn)
def dAndV (a b : DT) : DT := fun g r f Q => a g r f fun x f1 => match x with
  | .bool c => if c = true then b g r f1 Q else Q (.bool false) f1
  | _ => False
def dOrV (a b : DT) : DT := fun g r f Q => a g r f fun x f1 => match x with
  | .bool c => if c = true then Q (.bool true) f1 else b g r f1 Q
  | _ => False
theorem snd_andV {t u : TE} {a b : DT} (ha : Snd K t a) (hb : Snd K u b) : Snd K (tAndV t u) (dAndV a b) := fun g ro f st H Hs Q Q' A hq hd =>
  ha g ro f st H Hs _ _ A (fun x f1 v H1 Hs1 s1 k1 r1 q1 => by
    cases x with
    | bool c =>
      refine ⟨c, r1, ?_⟩
      cases c with
      | true => exact hb g ro f1 st H1 Hs1 _ _ (A.step s1 k1) (fun d f2 v H2 Hs2 s2 k2 r2 q2 => hq d f2 v H2 Hs2 (s1.trans s2) k2 r2 q2) q1
      | false => exact hq (.bool false) f1 _ H1 Hs1 s1 k1 rfl q1
    | _ => exact q1.elim) hd
theorem snd_orV {t u : TE} {a b : DT} (ha : Snd K t a) (hb : Snd K u b) : Snd K (tOrV t u) (dOrV a b) := fun g ro f st H Hs Q Q' A hq hd =>
  ha g ro f st H Hs _ _ A (fun x f1 v H1 Hs1 s1 k1 r1 q1 => by
    cases x with
    | bool c =>
      refine ⟨c, r1, ?_⟩
      cases c with
      | false => exact hb g ro f1 st H1 Hs1 _ _ (A.step s1 k1) (fun d f2 v H2 Hs2 s2 k2 r2 q2 => hq d f2 v H2 Hs2 (s1.trans s2) k2 r2 q2) q1
      | true => exact hq (.bool true) f1 _ H1 Hs1 s1 k1 rfl q1
    | _ => exact q1.elim) hd
theorem de_one {a : Expr} {op} {pos : Pos} {d : DT} (h : DE X a d) : DE X (.BoolOp op [a] pos) d := .mk' (pe_one h.pe) (h.sn)
theorem de_and {a b : Expr} {rest : List Expr} {pos : Pos} {d e : DT} (h : DE X a d) (h' : DE X (.BoolOp .And (b :: rest) pos) e) : DE X (.BoolOp .And (a :: b :: rest) pos) (dAndV d e) := .mk' (pe_and h.pe h'.pe) (snd_andV h.sn h'.sn)
theorem de_or {a b : Expr} {rest : List Expr} {pos : Pos} {d e : DT} (h : DE X a d) (h' : DE X (.BoolOp .Or (b :: rest) pos) e) : DE X (.BoolOp .Or (a :: b :: rest) pos) (dOrV d e) := .mk' (pe_or h.pe h'.pe) (snd_orV h.sn h'.sn)
def dIf (c : DTT) (a b : DT) : DT := fun g r f Q => c g r f fun k f1 => if k = true then a g r f1 Q else b g r f1 Q
theorem snd_if {tc : TT} {ta tb : TE} {c : DTT} {a b : DT} (hc : SndT K tc c) (ha : Snd K ta a) (hb : Snd K tb b) : Snd K (tIf tc ta tb) (dIf c a b) := fun g ro f st H Hs Q Q' A hq hd =>
  hc g ro f st H Hs _ _ A (fun k f1 H1 Hs1 s1 k1 q1 => by
    cases k with
    | true => exact ha g ro f1 st H1 Hs1 _ _ (A.step s1 k1) (fun d f2 v H2 Hs2 s2 k2 r2 q2 => hq d f2 v H2 Hs2 (s1.trans s2) k2 r2 q2) q1
    | false => exact hb g ro f1 st H1 Hs1 _ _ (A.step s1 k1) (fun d f2 v H2 Hs2 s2 k2 r2 q2 => hq d f2 v H2 Hs2 (s1.trans s2) k2 r2 q2) q1) hd
theorem de_ifExp {c a b : Expr} {pos : Pos} {dc : DTT} {da db : DT} (hc : DP X c dc) (ha : DE X a da) (hb : DE X b db) : DE X (.IfExp c a b pos) (dIf dc da db) := .mk' (pe_ifExp hc.pt ha.pe hb.pe) (snd_if hc.sn ha.sn hb.sn)
/-! argument lists, displays -/
def dNil : DTA := fun _ _ f Q => Q [] f
def dCons (a : DT) (t : DTA) : DTA := fun g r f Q => a g r f fun x f1 => t g r f1 fun xs f2 => Q (x :: xs) f2
theorem snd_nil : SndA K tNil dNil := fun g ro f st H Hs Q Q' A hq hd => hq [] f [] H Hs (Stp.refl A.sub) A.dk rfl hd
theorem snd_cons {ta : TE} {t : TA} {a : DT} {d : DTA} (ha : Snd K ta a) (ht : SndA K t d) : SndA K (tCons ta t) (dCons a d) := fun g ro f st H Hs Q Q' A hq hd =>
  ha g ro f st H Hs _ _ A (fun x f1 v H1 Hs1 s1 k1 r1 q1 => ht g ro f1 st H1 Hs1 _ _ (A.step s1 k1) (fun ds f2 vs H2 Hs2 s2 k2 r2 q2 =>
    hq (x :: ds) f2 (v :: vs) H2 Hs2 (s1.trans s2) k2 ⟨v, vs, rfl, r1.mono s2.ext, r2⟩ q2) q1) hd
theorem da_nil : DA X [] dNil := .mk' (pa_nil) (snd_nil)
theorem da_cons {e : Expr} {es : List Expr} {d : DT} {dl : DTA} (h : DE X e d) (h' : DA X es dl) (hs : starEach (e :: es) X.env = (false, eval e X.env) :: starEach es X.env := by rfl) : DA X (e :: es) (dCons d dl) := .mk' (pa_cons h.pe h'.pa hs) (snd_cons h.sn h'.sn)
def lim : Nat := 1000000
theorem lim_le {n : Nat} (h : n ≤ lim) : n ≤ sizeLine := Nat.le_trans h (by decide)
theorem lim_lt {n : Nat} (h : n ≤ lim) : n < sizeLine := Nat.lt_of_le_of_lt h (by decide)
def dTup (t : DTA) : DT := fun g r f Q => t g r f fun ds f1 => ds.length ≤ lim ∧ Q (.tup ds) f1
theorem RpA.le {H : Hp} {ds : List D} {vs : List V} (h : RpA K H ds vs) (l : ds.length ≤ lim) : vs.length ≤ sizeLine := by rw [← h.length]; exact lim_le l
theorem RpA.lt {H : Hp} {ds : List D} {vs : List V} (h : RpA K H ds vs) (l : ds.length ≤ lim) : vs.length < sizeLine := by rw [← h.length]; exact lim_lt l
theorem rp_tup {H : Hp} {p : Addr} {ds : List D} {vs : List V} (hr : RpA K H ds vs) (hn : H p = none) : Rp K (upd H p (.tup vs)) (.tup ds) (.ref p) :=
  ⟨p, vs, rfl, upd_same, hr.mono fun b u e => by rw [upd_ne (ne_of_none e hn)]; exact e⟩
theorem rp_lst {H : Hp} {p : Addr} {ds : List D} {vs : List V} (hr : RpA K H ds vs) (hn : H p = none) : Rp K (upd H p (.lst vs)) (.lst ds) (.ref p) :=
  ⟨p, vs, rfl, upd_same, hr.mono fun b u e => by rw [upd_ne (ne_of_none e hn)]; exact e⟩
theorem same_none {H Hs : Hp} {p : Addr} (s : Same Hs H) (h : H p = none) : Hs p = none := by
  cases e : Hs p with
  | none => rfl
  | some o => rw [s p o e] at h; cases h
theorem snd_tup {t : TA} {d : DTA} (h : SndA K t d) : Snd K (tTup t) (dTup d) := fun g ro f st H Hs Q Q' A hq hd =>
  h g ro f st H Hs _ _ A (fun ds f1 vs H1 Hs1 s1 k1 r1 q1 => ⟨r1.le q1.1, fun p hp => by
    have al : Stp none H1 Hs1 (upd H1 p (.tup vs)) (upd Hs1 p (.tup vs)) := Stp.alloc s1.sub hp
    exact hq (.tup ds) f1 (.ref p) _ _ (s1.trans al.gen) (k1.stp al) (rp_tup r1 (same_none s1.sub hp)) q1.2⟩) hd
theorem de_tup {es : List Expr} {x1} {pos : Pos} {d : DTA} (h : DA X es d) : DE X (.Tuple es x1 pos) (dTup d) := .mk' (pe_tup h.pa) (snd_tup h.sn)
def dLst (t : DTA) : DTA := fun g r f Q => t g r f fun ds f1 => ds.length ≤ lim ∧ Q ds f1
theorem snd_lst {t : TA} {d : DTA} (h : SndA K t d) : SndL K (tLst t) (dLst d) := fun g ro f st H Hs Q Q' A hq hd =>
  h g ro f st H Hs _ _ A (fun ds f1 vs H1 Hs1 s1 k1 r1 q1 => ⟨r1.le q1.1, fun p hp => by
    have al : Stp none H1 Hs1 (upd H1 p (.lst vs)) Hs1 := Stp.lay s1.sub hp
    refine hq ds f1 p vs _ _ (s1.trans al.gen) (k1.stp al) ?_ (same_none s1.sub hp) upd_same r1 q1.2
    cases e : H p with
    | none => rfl
    | some o =>
      obtain ⟨o', e'⟩ := s1.there p o e
      rw [e'] at hp; cases hp⟩) hd
theorem dl_lst {es : List Expr} {pos : Pos} {d : DTA} (h : DA X es d) : DL' X (.List es pos) (dLst d) := .mk' (pe_lst h.pa) (snd_lst h.sn)
/-! plain results -/
theorem SndR.pure {r : R2} {op : O2} (h : ∀ H Hs x y vx vy (Q : VK) (Q' : D → Prop), Same Hs H → Rp K Hs x vx → Rp K Hs y vy → (∀ z v, Rp K Hs z v → Q' z → Q v H) → op x y Q' → r vx vy H Q) : SndR K r op := fun H Hs x y vx vy Q Q' s rx ry hq hd =>
  h H Hs x y vx vy Q Q' s rx ry (fun z v rz q => hq z v H Hs (Stp.refl s) rz q) hd
def oI0 (g : Int → Int → D) : O2 := fun x y Q => match x, y with
  | .int i, .int j => Q (g i j)
  | _, _ => False
def oI (C : Int → Int → Prop) (g : Int → Int → D) : O2 := fun x y Q => match x, y with
  | .int i, .int j => C i j ∧ Q (g i j)
  | _, _ => False
theorem sr_I0 {g : Int → Int → V} {g' : Int → Int → D} (hg : ∀ i j H, Rp K H (g' i j) (g i j)) : SndR K (rI0 g) (oI0 g') := SndR.pure fun H Hs x y vx vy Q Q' s rx ry hq hd => by
  cases x <;> try exact hd.elim
  cases y <;> try exact hd.elim
  exact ⟨_, _, rx, ry, hq _ _ (hg _ _ _) hd⟩
theorem sr_I {C : Int → Int → Prop} {g : Int → Int → V} {g' : Int → Int → D} (hg : ∀ i j H, Rp K H (g' i j) (g i j)) : SndR K (rI C g) (oI C g') := SndR.pure fun H Hs x y vx vy Q Q' s rx ry hq hd => by
  cases x <;> try exact hd.elim
  cases y <;> try exact hd.elim
  exact ⟨_, _, rx, ry, hd.1, hq _ _ (hg _ _ _) hd.2⟩
def oAddS : O2 := fun x y Q => match x, y with
  | .str i, .str j => i.length + j.length ≤ lim ∧ Q (.str (i ++ j))
  | _, _ => False
theorem sr_addS : SndR K (fun x y H Q => ∃ i j, x = .str i ∧ y = .str j ∧ i.length + j.length ≤ sizeLine ∧ Q (.str (i ++ j)) H) oAddS := SndR.pure fun H Hs x y vx vy Q Q' s rx ry hq hd => by
  cases x <;> try exact hd.elim
  cases y <;> try exact hd.elim
  exact ⟨_, _, rx, ry, lim_le hd.1, hq (.str _) _ rfl hd.2⟩
def oCat : O2 := fun x y Q => match x, y with
  | .lst i, .lst j => i.length + j.length ≤ lim ∧ Q (.lst (i ++ j))
  | _, _ => False
theorem sr_cat : SndR K rCat oCat := fun H Hs x y vx vy Q Q' s rx ry hq hd => by
  cases x <;> try exact hd.elim
  cases y <;> try exact hd.elim
  obtain ⟨a, vs, rfl, h1, h2⟩ := rx
  obtain ⟨b, ws, rfl, h3, h4⟩ := ry
  refine ⟨a, b, vs, ws, rfl, rfl, s _ _ h1, s _ _ h3, ?_, fun p hp => ?_⟩
  · rw [← h2.length, ← h4.length]; exact lim_le hd.1
  · exact hq _ _ _ _ (Stp.alloc s hp) (rp_lst (h2.append h4) (same_none s hp)) hd.2
def oCatT : O2 := fun x y Q => match x, y with
  | .tup i, .tup j => i.length + j.length ≤ lim ∧ Q (.tup (i ++ j))
  | _, _ => False
theorem sr_catT : SndR K (rCatA K) oCatT := fun H Hs x y vx vy Q Q' s rx ry hq hd => by
  cases x <;> try exact hd.elim
  cases y <;> try exact hd.elim
  obtain ⟨a, vs, rfl, h1, h2⟩ := rx
  obtain ⟨b, ws, rfl, h3, h4⟩ := ry
  refine ⟨a, b, vs, ws, rfl, rfl, (tp_sq s h1), (tp_sq s h3), ?_, fun e => ?_, fun _ e => ?_, fun _ _ p hp => ?_⟩
  · rw [← h2.length, ← h4.length]; exact lim_le hd.1
  · have := h2.append h4
    rw [e] at this
    exact hq (.tup _) _ _ _ (Stp.refl s) ⟨b, ws, rfl, h3, this⟩ hd.2
  · have := h2.append h4
    rw [e, List.append_nil] at this
    exact hq (.tup _) _ _ _ (Stp.refl s) ⟨a, vs, rfl, h1, this⟩ hd.2
  · exact hq _ _ _ _ (Stp.alloc s hp) (rp_tup (h2.append h4) (same_none s hp)) hd.2
/-- x + y of any of the four kinds -/
def oAdd : O2 := fun x y Q => match x, y with
  | .int i, .int j => Q (.int (i + j))
  | .str i, .str j => i.length + j.length ≤ lim ∧ Q (.str (i ++ j))
  | .lst i, .lst j => i.length + j.length ≤ lim ∧ Q (.lst (i ++ j))
  | .tup i, .tup j => i.length + j.length ≤ lim ∧ Q (.tup (i ++ j))
  | _, _ => False
def rAddA (K : PySem.W.Frag) : R2 := fun x y H Q => rI0 (fun i j => .int (i + j)) x y H Q ∨ ((∃ i j, x = .str i ∧ y = .str j ∧ i.length + j.length ≤ sizeLine ∧ Q (.str (i ++ j)) H) ∨ (rCat x y H Q ∨ rCatA K x y H Q))
theorem op_addA : OpR X (binaryOp .Add) (rAddA X.K) := op_add.or (op_add_str.or (op_cat.or op_catA))
theorem sr_add : SndR K (rAddA K) oAdd := ((sr_I0 (g' := fun i j => .int (i + j)) fun _ _ _ => rfl).or (sr_addS.or (sr_cat.or sr_catT))).weak fun x y Q h => by
  cases x <;> cases y <;> first | exact h.elim | exact .inl h | exact .inr (.inl h) | exact .inr (.inr (.inl h)) | exact .inr (.inr (.inr h))
theorem de_add {a b : Expr} {pos : Pos} {da db : DT} (ha : DE X a da) (hb : DE X b db) : DE X (.BinOp a .Add b pos) (dOp oAdd da db) := de_op op_addA sr_add ha hb
theorem de_sub {a b : Expr} {pos : Pos} {da db : DT} (ha : DE X a da) (hb : DE X b db) : DE X (.BinOp a .Sub b pos) (dOp (oI0 fun i j => .int (i - j)) da db) := de_op op_sub (sr_I0 fun _ _ _ => rfl) ha hb
theorem de_mul {a b : Expr} {pos : Pos} {da db : DT} (ha : DE X a da) (hb : DE X b db) : DE X (.BinOp a .Mult b pos) (dOp (oI CMul fun i j => .int (i * j)) da db) := de_op op_mul (sr_I fun _ _ _ => rfl) ha hb
theorem de_mod {a b : Expr} {pos : Pos} {da db : DT} (ha : DE X a da) (hb : DE X b db) : DE X (.BinOp a .Mod b pos) (dOp (oI (fun _ j => 0 < j) fun i j => .int (i % j)) da db) := de_op op_mod (sr_I fun _ _ _ => rfl) ha hb
def dNeg (a : DT) : DT := fun g r f Q => a g r f fun x f1 => match x with
  | .int i => Q (.int (-i)) f1
  | _ => False
theorem de_neg {a : Expr} {pos : Pos} {d : DT} (h : DE X a d) : DE X (.UnaryOp .USub a pos) (dNeg d) := .mk' (pe_un un_neg h.pe) (fun g ro f st H Hs Q Q' A hq hd =>
  h.sn g ro f st H Hs _ _ A (fun x f1 v H1 Hs1 s1 k1 r1 q1 => by
    cases x <;> try exact q1.elim
    exact ⟨_, r1, hq (.int (-_)) f1 _ H1 Hs1 s1 k1 rfl q1⟩) hd)
/-! == and != -/
mutual
def D.py : D → PyData
  | .none => .none
  | .bool b => .bool b
  | .int i => .int i
  | .str x => .str x
  | .tup ds => .tuple (pyA ds)
  | .lst ds => .list (pyA ds)
  | .dct _ _ => .dict []
  | .dtt _ _ => .dict []
  | .ktup _ => .dict []
  | .obj _ _ _ => .dict []
  | .exn _ _ _ => .dict []
  | .any _ => .dict []
def pyA : List D → List PyData
  | [] => []
  | d :: ds => d.py :: pyA ds
end
mutual
theorem Rp.dp {H : Hp} : ∀ (d : D) (v : V), Rp K H d v → d.py.canLay0 = true → Dp K H v d.py
  | .none, _, h, _ => by cases h; exact .non
  | .bool _, _, h, _ => by cases h; exact .bl _
  | .int _, _, h, _ => by cases h; exact .int _
  | .str _, _, h, _ => by cases h; exact .str _
  | .tup ds, _, ⟨a, vs, h1, h2, h3⟩, c => by cases h1; exact .tup h2.sq (RpA.dp ds vs h3 c)
  | .lst ds, _, ⟨a, vs, h1, h2, h3⟩, c => by cases h1; exact .lst (SqL.of h2) (RpA.dp ds vs h3 c)
  | .dct _ _, _, _, c => by simp [D.py, PyData.canLay0] at c
  | .dtt _ _, _, _, c => by simp [D.py, PyData.canLay0] at c
  | .ktup _, _, _, c => by simp [D.py, PyData.canLay0] at c
  | .obj _ _ _, _, _, c => by simp [D.py, PyData.canLay0] at c
  | .exn _ _ _, _, _, c => by simp [D.py, PyData.canLay0] at c
  | .any _, _, _, c => by simp [D.py, PyData.canLay0] at c
theorem RpA.dp {H : Hp} : ∀ (ds : List D) (vs : List V), RpA K H ds vs → PyData.canLayAll0 (pyA ds) = true → DpAll K H vs (pyA ds)
  | [], _, h, _ => by cases h; exact .nil
  | d :: ds, _, ⟨v, r, h1, h2, h3⟩, c => by
    have c' : d.py.canLay0 = true ∧ PyData.canLayAll0 (pyA ds) = true := Bool.and_eq_true_iff.mp c
    cases h1
    exact .cons (Rp.dp d v h2 c'.1) (RpA.dp ds r h3 c'.2)
end
theorem Rp.dpS {H : Hp} {d : D} {v : V} (h : Rp K H d v) (c : SeqAt.shaped d.py = true) : Dp K H v d.py := h.dp d v (Bool.and_eq_true_iff.mp c).1
theorem dp_mono {H H' : Hp} (e : Same H H') {v : V} {d : PyData} (h : Dp K H v d) : Dp K H' v d := by
  refine Dp.rec (motive_1 := fun v d _ => Dp K H' v d) (motive_2 := fun vs ds _ => DpAll K H' vs ds) .non .bl .int .str ?_ ?_ .nil ?_ h
  · intro a xs ds h1 _ h2; exact .lst (e.seq h1) h2
  · intro a xs ds h1 _ h2; exact .tup (sqT_mono e h1) h2
  · intro v vs d ds _ _ h1 h2; exact .cons h1 h2
def xb (neg b : Bool) : Bool := match neg with
  | true => !b
  | false => b
def seq : D → D → Option Bool
  | .none, .none => some true
  | .none, .int _ => some false
  | .none, .bool _ => some false
  | .none, .str _ => some false
  | .int _, .none => some false
  | .bool _, .none => some false
  | .str _, .none => some false
  | .int a, .int b => some (decide (a = b))
  | .bool a, .bool b => some (decide (a = b))
  | .str a, .str b => some (decide (a = b))
  | .int _, .str _ => some false
  | .str _, .int _ => some false
  | .bool _, .str _ => some false
  | .str _, .bool _ => some false
  | _, _ => Option.none
def oEq (neg : Bool) : O2 := fun x y Q => match seq x y with
  | some b => Q (.bool (xb neg b))
  | Option.none => SeqAt.shaped x.py = true ∧ SeqAt.shaped y.py = true ∧ Q (.bool (xb neg (PyData.eqv x.py y.py)))
theorem seq_eqv : ∀ (x y : D) (b : Bool), seq x y = some b → PyData.eqv x.py y.py = b := by
  have es : ∀ a b : Str, (a == b) = decide (a = b) := fun a b => Bool.beq_eq_decide_eq a b
  intro x y b h
  cases x <;> cases y <;> simp only [seq, Option.some.injEq, reduceCtorEq] at h <;> subst h <;> simp [D.py, PyData.eqv]
  all_goals first | exact es _ _ | exact Bool.beq_eq_decide_eq _ _
theorem oEq_data {x y : D} {neg : Bool} {Q : D → Prop} (hx : SeqAt.shaped x.py = true) (hy : SeqAt.shaped y.py = true) (h : Q (.bool (xb neg (PyData.eqv x.py y.py)))) : oEq neg x y Q := by
  unfold oEq
  split
  · next b e => rw [seq_eqv x y b e] at h; exact h
  · exact ⟨hx, hy, h⟩
theorem sr_eqD : SndR K (rEqD K) (fun x y Q => SeqAt.shaped x.py = true ∧ SeqAt.shaped y.py = true ∧ Q (.bool (PyData.eqv x.py y.py))) := SndR.pure fun H Hs x y vx vy Q Q' s rx ry hq hd =>
  ⟨x.py, y.py, dp_mono s (rx.dpS hd.1), dp_mono s (ry.dpS hd.2.1), hd.1, hd.2.1, hq (.bool _) _ rfl hd.2.2⟩
theorem sr_neD : SndR K (rNeD K) (fun x y Q => SeqAt.shaped x.py = true ∧ SeqAt.shaped y.py = true ∧ Q (.bool (!PyData.eqv x.py y.py))) := SndR.pure fun H Hs x y vx vy Q Q' s rx ry hq hd =>
  ⟨x.py, y.py, dp_mono s (rx.dpS hd.1), dp_mono s (ry.dpS hd.2.1), hd.1, hd.2.1, hq (.bool _) _ rfl hd.2.2⟩
theorem seq_V {H : Hp} : ∀ (x y : D) (vx vy : V) (b : Bool), Rp K H x vx → Rp K H y vy → seq x y = some b → scal vx vy = true ∧ decide (vx = vy) = b := by
  intro x y vx vy b rx ry h
  cases x <;> cases y <;> simp only [seq, Option.some.injEq, reduceCtorEq] at h <;> subst h <;> cases rx <;> cases ry <;> simp [scal]
theorem sr_eqS : SndR K rEq (fun x y Q => ∃ b, seq x y = some b ∧ Q (.bool b)) := SndR.pure fun H Hs x y vx vy Q Q' s rx ry hq hd => by
  obtain ⟨b, e, h⟩ := hd
  obtain ⟨h1, h2⟩ := seq_V x y vx vy b rx ry e
  exact ⟨h1, hq (.bool b) _ (by rw [h2]; rfl) h⟩
theorem sr_neS : SndR K rNe (fun x y Q => ∃ b, seq x y = some b ∧ Q (.bool (!b))) := SndR.pure fun H Hs x y vx vy Q Q' s rx ry hq hd => by
  obtain ⟨b, e, h⟩ := hd
  obtain ⟨h1, h2⟩ := seq_V x y vx vy b rx ry e
  exact ⟨h1, hq (.bool (!b)) _ (by rw [h2]; rfl) h⟩
def rEqA (K : PySem.W.Frag) : R2 := fun x y H Q => rEq x y H Q ∨ rEqD K x y H Q
def rNeA (K : PySem.W.Frag) : R2 := fun x y H Q => rNe x y H Q ∨ rNeD K x y H Q
theorem sr_eq : SndR K (rEqA K) (oEq false) := (sr_eqS.or sr_eqD).weak fun x y Q h => by
  unfold oEq at h
  simp only [xb] at h
  split at h
  · next b e => exact .inl ⟨b, e, h⟩
  · exact .inr h
theorem sr_ne : SndR K (rNeA K) (oEq true) := (sr_neS.or sr_neD).weak fun x y Q h => by
  unfold oEq at h
  simp only [xb] at h
  split at h
  · next b e => exact .inl ⟨b, e, h⟩
  · exact .inr h
theorem de_eq {a b : Expr} {pos : Pos} {da db : DT} (hu : X.A.units + 64 < cLine) (ha : DE X a da) (hb : DE X b db) : DE X (.Compare a [.Eq] [b] pos) (dOp (oEq false) da db) := de_cmp (op_eq.or (op_eqD hu)) sr_eq ha hb (nomark _)
theorem de_ne {a b : Expr} {pos : Pos} {da db : DT} (hu : X.A.units + 64 < cLine) (ha : DE X a da) (hb : DE X b db) : DE X (.Compare a [.NotEq] [b] pos) (dOp (oEq true) da db) := de_cmp (op_ne.or (op_neD hu)) sr_ne ha hb (nomark _)
theorem dp_eq {a b : Expr} {pos : Pos} {da db : DT} (hu : X.A.units + 64 < cLine) (ha : DE X a da) (hb : DE X b db) : DP X (.Compare a [.Eq] [b] pos) (dTest (dOp (oEq false) da db)) := dp_cmp (op_eq.or (op_eqD hu)) sr_eq ha hb (nomark _)
theorem dp_ne {a b : Expr} {pos : Pos} {da db : DT} (hu : X.A.units + 64 < cLine) (ha : DE X a da) (hb : DE X b db) : DP X (.Compare a [.NotEq] [b] pos) (dTest (dOp (oEq true) da db)) := dp_cmp (op_ne.or (op_neD hu)) sr_ne ha hb (nomark _)
/-! < <= > >= of numbers -/
theorem de_le {a b : Expr} {pos : Pos} {da db : DT} (ha : DE X a da) (hb : DE X b db) : DE X (.Compare a [.LtE] [b] pos) (dOp (oI0 fun i j => .bool (decide (i ≤ j))) da db) := de_cmp op_le (sr_I0 fun _ _ _ => rfl) ha hb (nomark _)
theorem de_gt {a b : Expr} {pos : Pos} {da db : DT} (ha : DE X a da) (hb : DE X b db) : DE X (.Compare a [.Gt] [b] pos) (dOp (oI0 fun i j => .bool (decide (j < i))) da db) := de_cmp op_gt (sr_I0 fun _ _ _ => rfl) ha hb (nomark _)
theorem dp_lt {a b : Expr} {pos : Pos} {da db : DT} (ha : DE X a da) (hb : DE X b db) : DP X (.Compare a [.Lt] [b] pos) (dTest (dOp (oI0 fun i j => .bool (decide (i < j))) da db)) := dp_cmp op_lt (sr_I0 fun _ _ _ => rfl) ha hb (nomark _)
theorem dp_gt {a b : Expr} {pos : Pos} {da db : DT} (ha : DE X a da) (hb : DE X b db) : DP X (.Compare a [.Gt] [b] pos) (dTest (dOp (oI0 fun i j => .bool (decide (j < i))) da db)) := dp_cmp op_gt (sr_I0 fun _ _ _ => rfl) ha hb (nomark _)
/-- a <= b <= c of numbers -/
theorem de_lele {a b c : Expr} {pos : Pos} {da db dc : DT} (ha : DE X a da) (hb : DE X b db) (hc : DE X c dc) (hm : lastMarks [CmpOp.LtE, CmpOp.LtE] [b, c] = false := by with_unfolding_all rfl) : DE X (.Compare a [.LtE, .LtE] [b, c] pos) (dChain (oI0 fun i j => .bool (decide (i ≤ j))) (oI0 fun i j => .bool (decide (i ≤ j))) da db dc) := de_chain op_le op_le (sr_I0 fun _ _ _ => rfl) (sr_I0 fun _ _ _ => rfl) ha hb hc hm
/-! is None -/
def D.isN : D → Bool
  | .none => true
  | .any v => decide (v = .non)
  | _ => false
def oIsN (neg : Bool) : O2 := fun x y Q => match y with
  | .none => Q (.bool (xb neg x.isN))
  | _ => False
theorem isN_V {H : Hp} : ∀ (x : D) (v : V), Rp K H x v → decide (v = .non) = x.isN := by
  intro x v h
  cases x <;> try (cases h; rfl)
  · obtain ⟨a, vs, rfl, _⟩ := h; rfl
  · obtain ⟨a, vs, rfl, _⟩ := h; rfl
  · obtain ⟨a, vs, rfl, _⟩ := h; rfl
  · obtain ⟨a, vs, rfl, _⟩ := h; rfl
  · obtain ⟨a, rfl, _⟩ := h; rfl
  · obtain ⟨C, a, dx, vs, _, rfl, _⟩ := h; rfl
  · obtain ⟨C, a, dx, vs, _, rfl, _⟩ := h; rfl
theorem sr_isN : SndR K (fun x y H Q => y = .non ∧ Q (.bl (decide (x = .non))) H) (oIsN false) := SndR.pure fun H Hs x y vx vy Q Q' s rx ry hq hd => by
  cases y <;> try exact hd.elim
  refine ⟨ry, ?_⟩
  rw [isN_V _ _ rx]
  exact hq (.bool _) _ rfl (by simpa [oIsN, xb] using hd)
theorem sr_notN : SndR K (fun x y H Q => y = .non ∧ Q (.bl (!decide (x = .non))) H) (oIsN true) := SndR.pure fun H Hs x y vx vy Q Q' s rx ry hq hd => by
  cases y <;> try exact hd.elim
  refine ⟨ry, ?_⟩
  rw [isN_V _ _ rx]
  exact hq (.bool _) _ rfl (by simpa [oIsN, xb] using hd)
theorem de_isN {a b : Expr} {pos : Pos} {da db : DT} (ha : DE X a da) (hb : DE X b db) : DE X (.Compare a [.Is] [b] pos) (dOp (oIsN false) da db) := de_cmp op_isN sr_isN ha hb (nomark _)
theorem de_notN {a b : Expr} {pos : Pos} {da db : DT} (ha : DE X a da) (hb : DE X b db) : DE X (.Compare a [.IsNot] [b] pos) (dOp (oIsN true) da db) := de_cmp op_notN sr_notN ha hb (nomark _)
theorem dp_isN {a b : Expr} {pos : Pos} {da db : DT} (ha : DE X a da) (hb : DE X b db) : DP X (.Compare a [.Is] [b] pos) (dTest (dOp (oIsN false) da db)) := dp_cmp op_isN sr_isN ha hb (nomark _)
theorem dp_notN {a b : Expr} {pos : Pos} {da db : DT} (ha : DE X a da) (hb : DE X b db) : DP X (.Compare a [.IsNot] [b] pos) (dTest (dOp (oIsN true) da db)) := dp_cmp op_notN sr_notN ha hb (nomark _)
end
end DL
namespace DL
open PySem PySem.Spec PyProof.Rows L2
section
variable {X : Cx} {K : PySem.W.Frag}
/-! calls of built-ins by values -/
abbrev OA := List D → (D → Prop) → Prop
def SndC (K : PySem.W.Frag) (r : List V → Hp → VK → Prop) (op : OA) : Prop := ∀ (H Hs : Hp) (ds : List D) (vs : List V) (Q : VK) (Q' : D → Prop), Same Hs H → RpA K Hs ds vs →
  (∀ z v H' Hs', Stp none H Hs H' Hs' → Rp K Hs' z v → Q' z → Q v H') → op ds Q' → r vs H Q
def dCB (op : OA) (t : DTA) : DT := fun g r f Q => t g r f fun ds f1 => op ds fun z => Q z f1
theorem snd_cb {r : List V → Hp → VK → Prop} {op : OA} {t : TA} {d : DTA} (hr : SndC K r op) (ht : SndA K t d) : Snd K (tCB r t) (dCB op d) := fun g ro f st H Hs Q Q' A hq hd =>
  ht g ro f st H Hs _ _ A (fun ds f1 vs H1 Hs1 s1 k1 r1 q1 => hr H1 Hs1 ds vs Q _ s1.sub r1 (fun z v H2 Hs2 s2 r2 q2 => hq z f1 v H2 Hs2 (s1.trans s2.gen) (k1.stp s2) r2 q2) q1) hd
theorem SndC.or {r r' : List V → Hp → VK → Prop} {op op' : OA} (h : SndC K r op) (h' : SndC K r' op') : SndC K (fun xs H Q => r xs H Q ∨ r' xs H Q) (fun xs Q => op xs Q ∨ op' xs Q) := fun H Hs ds vs Q Q' s rx hq hd => by
  rcases hd with hd | hd
  · exact .inl (h H Hs ds vs Q Q' s rx hq hd)
  · exact .inr (h' H Hs ds vs Q Q' s rx hq hd)
theorem SndC.weak {r : List V → Hp → VK → Prop} {op op' : OA} (h : SndC K r op) (w : ∀ ds Q, op' ds Q → op ds Q) : SndC K r op' := fun H Hs ds vs Q Q' s rx hq hd => h H Hs ds vs Q Q' s rx hq (w ds Q' hd)
theorem SndC.pure {r : List V → Hp → VK → Prop} {op : OA} (h : ∀ H Hs ds vs (Q : VK) (Q' : D → Prop), Same Hs H → RpA K Hs ds vs → (∀ z v, Rp K Hs z v → Q' z → Q v H) → op ds Q' → r vs H Q) : SndC K r op := fun H Hs ds vs Q Q' s rx hq hd =>
  h H Hs ds vs Q Q' s rx (fun z v rz q => hq z v H Hs (Stp.refl s) rz q) hd
theorem de_callB {x : Str} {id : String} {p pos : Pos} {e : Expr} {es : List Expr} {d : DTA} {r : List V → Hp → VK → Prop} {op : OA} (hc : CallR X (.builtin id) r) (hr : SndC X.K r op) (hg : Gl X x) (hm : X.mg x = none) (hv : bootBuiltins x = some (.builtin id)) (ha : DA X (e :: es) d)
    (hn : x ≠ "__name__" := by decide) (hdb : (x == ("__debug__" : Str)) = false := by decide) (hs : starEach (e :: es) X.env = (false, eval e X.env) :: starEach es X.env := by rfl)
    (hpl : (backTo pos (starEach es X.env)).any (·.1) = false := by rfl) : DE X (.Call (.Name x p) (e :: es) [] pos) (dCB op d) :=
  .mk' (pe_callB hc hg hm hv ha.pa hn hdb hs hpl) (snd_cb hr ha.sn)
theorem de_callTy {x : Str} {T : String} {p pos : Pos} {e : Expr} {es : List Expr} {d : DTA} {r : List V → Hp → VK → Prop} {op : OA} (hc : CallR X (.type T) r) (hr : SndC X.K r op) (hg : Gl X x) (hm : X.mg x = none) (hv : bootBuiltins x = some (.type T)) (ha : DA X (e :: es) d)
    (hn : x ≠ "__name__" := by decide) (hdb : (x == ("__debug__" : Str)) = false := by decide) (hs : starEach (e :: es) X.env = (false, eval e X.env) :: starEach es X.env := by rfl)
    (hpl : (backTo pos (starEach es X.env)).any (·.1) = false := by rfl) : DE X (.Call (.Name x p) (e :: es) [] pos) (dCB op d) :=
  .mk' (pe_callTy hc hg hm hv ha.pa hn hdb hs hpl) (snd_cb hr ha.sn)
/-- len -/
def oLen : OA := fun ds Q => match ds with
  | [.str x] => x.length ≤ lim ∧ Q (.int x.length)
  | [.lst xs] => Q (.int xs.length)
  | [.tup xs] => Q (.int xs.length)
  | [.ktup xs] => Q (.int xs.length)
  | _ => False
theorem rpA1 {H : Hp} {d : D} {vs : List V} (h : RpA K H [d] vs) : ∃ v, vs = [v] ∧ Rp K H d v := by
  obtain ⟨v, r, h1, h2, h3⟩ := h
  cases h3
  exact ⟨v, h1, h2⟩
theorem rpA2 {H : Hp} {d e : D} {vs : List V} (h : RpA K H [d, e] vs) : ∃ v w, vs = [v, w] ∧ Rp K H d v ∧ Rp K H e w := by
  obtain ⟨v, r, h1, h2, h3⟩ := h
  obtain ⟨w, rfl, h4⟩ := rpA1 h3
  exact ⟨v, w, h1, h2, h4⟩
theorem sc_len : SndC K (fun xs H Q => ∃ x n, xs = [x] ∧ LenV K x H n ∧ Q (.int n) H) oLen := SndC.pure fun H Hs ds vs Q Q' s rx hq hd => by
  unfold oLen at hd
  split at hd
  · obtain ⟨v, rfl, h⟩ := rpA1 rx
    cases h
    exact ⟨_, _, rfl, ⟨lim_le hd.1, rfl⟩, hq (.int _) _ rfl hd.2⟩
  · obtain ⟨v, rfl, a, vs, rfl, h1, h2⟩ := rpA1 rx
    exact ⟨_, _, rfl, .inl ⟨vs, SqL.of (s _ _ h1), rfl⟩, hq (.int _) _ (by rw [h2.length]; rfl) hd⟩
  · obtain ⟨v, rfl, a, vs, rfl, h1, h2⟩ := rpA1 rx
    exact ⟨_, _, rfl, .inr ⟨vs, (tp_sq s h1), rfl⟩, hq (.int _) _ (by rw [h2.length]; rfl) hd⟩
  · obtain ⟨v, rfl, a, rfl, h1⟩ := rpA1 rx
    exact ⟨_, _, rfl, .inr ⟨_, h1.sq _, rfl⟩, hq (.int _) _ (by rw [List.length_map]; rfl) hd⟩
  · exact hd.elim
theorem de_len {p pos : Pos} {e : Expr} {d : DTA} (hm : X.mg "len" = none) (ha : DA X [e] d) (hg : Gl X "len" := by rfl) (hs : starEach [e] X.env = [(false, eval e X.env)] := by rfl) : DE X (.Call (.Name "len" p) [e] [] pos) (dCB oLen d) :=
  de_callB call_len sc_len hg hm PySem.boot_len ha (by decide) (by decide) hs (by rfl)
/-- all, any -/
def oAll (all : Bool) : OA := fun ds Q => match ds with
  | [.lst xs] => ∃ bs : List Bool, xs = bs.map D.bool ∧ Q (.bool (if all then bs.all id else bs.any id))
  | _ => False
theorem sc_all : SndC K (rAll K) (oAll true) := SndC.pure fun H Hs ds vs Q Q' s rx hq hd => by
  unfold oAll at hd
  split at hd
  · obtain ⟨bs, rfl, q⟩ := hd
    obtain ⟨v, rfl, a, vs, rfl, h1, h2⟩ := rpA1 rx
    have e := h2.bools
    subst e
    exact ⟨a, bs, rfl, SqL.of (s _ _ h1), hq (.bool _) _ rfl q⟩
  · exact hd.elim
/-- int(n) -/
def oInt : OA := fun ds Q => match ds with
  | [.int i] => Q (.int i)
  | [.bool b] => Q (.int (if b then 1 else 0))
  | _ => False
theorem sc_int : SndC K (fun xs H Q => (∃ i, xs = [.int i] ∧ Q (.int i) H) ∨ ∃ k, xs = [.bl k] ∧ Q (.int (if k then 1 else 0)) H) oInt := SndC.pure fun H Hs ds vs Q Q' s rx hq hd => by
  unfold oInt at hd
  split at hd
  · obtain ⟨v, rfl, h1⟩ := rpA1 rx
    cases h1
    exact .inl ⟨_, rfl, hq (.int _) _ rfl hd⟩
  · obtain ⟨v, rfl, h1⟩ := rpA1 rx
    cases h1
    exact .inr ⟨_, rfl, hq (.int _) _ rfl hd⟩
  · exact hd.elim
/-- tuple(xs) -/
def oTuple : OA := fun ds Q => match ds with
  | [.lst xs] => Q (.tup xs)
  | [.tup xs] => Q (.tup xs)
  | _ => False
theorem sc_tuple : SndC K (fun xs H Q => ∃ p ys, xs = [.ref p] ∧ ((SqL K H p ys ∧ ∀ l, H l = none → Q (.ref l) (upd H l (.tup ys))) ∨ (SqT K H p ys ∧ Q (.ref p) H))) oTuple := fun H Hs ds vs Q Q' s rx hq hd => by
  unfold oTuple at hd
  split at hd
  · obtain ⟨v, rfl, a, vs, rfl, h1, h2⟩ := rpA1 rx
    exact ⟨a, vs, rfl, .inl ⟨SqL.of (s _ _ h1), fun l hl => hq (.tup _) _ _ _ (Stp.alloc s hl) (rp_tup h2 (same_none s hl)) hd⟩⟩
  · obtain ⟨v, rfl, a, vs, rfl, h1, h2⟩ := rpA1 rx
    exact ⟨a, vs, rfl, .inr ⟨(tp_sq s h1), hq (.tup _) _ _ _ (Stp.refl s) ⟨a, vs, rfl, h1, h2⟩ hd⟩⟩
  · exact hd.elim
/-- isinstance(x, T), T built in; (T1, T2) -/
def D.tyN : D → Option String
  | .none => some "NoneType"
  | .bool _ => some "bool"
  | .int _ => some "int"
  | .str _ => some "str"
  | .tup _ => some "tuple"
  | .lst _ => some "list"
  | .dct _ _ => some "dict"
  | _ => Option.none
theorem tyT {H : Hp} {a : Addr} {vs : List V} (h : SqT K H a vs) : TyX K H (.ref a) (.type "tuple") := by
  rcases h with (h | ⟨o, h⟩) | ⟨o, its, n, h1, h2, _⟩
  · exact .base (.tup h)
  · exact .fTuple h
  · exact .kTuple h1 h2
theorem tyN_ok {H : Hp} {d : D} {v : V} {n : String} (h : Rp K H d v) (e : d.tyN = some n) : TyX K H v (.type n) := by
  cases d <;> simp only [D.tyN, Option.some.injEq, reduceCtorEq] at e <;> subst e
  · cases h; exact .base .non
  · cases h; exact .base (.bl _)
  · cases h; exact .base (.int _)
  · cases h; exact .base (.str _)
  · obtain ⟨a, vs, rfl, h1, _⟩ := h
    exact tyT h1.sq
  · obtain ⟨a, vs, rfl, h1, _⟩ := h; exact .base (.lst h1)
  · obtain ⟨a, vs, rfl, h1, _⟩ := h; exact .base (.dK h1)
def oIsi : OA := fun ds Q => match ds with
  | [x, .any (.ty n)] => ∃ t b, x.tyN = some t ∧ kitB t n = some b ∧ Q (.bool b)
  | _ => False
theorem sc_isi : SndC K (rIsi K) oIsi := SndC.pure fun H Hs ds vs Q Q' s rx hq hd => by
  unfold oIsi at hd
  split at hd
  · obtain ⟨t, b, h1, h2, h3⟩ := hd
    obtain ⟨v, w, rfl, h4, h5⟩ := rpA2 rx
    cases h5
    exact ⟨v, _, _, _, b, rfl, .ty _, tyN_ok (h4.mono s) h1, kit_ty h2, hq (.bool _) _ rfl h3⟩
  · exact hd.elim
theorem de_isi {p pos : Pos} {e e2 : Expr} {d : DTA} (hm : X.mg "isinstance" = none) (ha : DA X [e, e2] d) (hg : Gl X "isinstance" := by rfl) (hs : starEach [e, e2] X.env = (false, eval e X.env) :: starEach [e2] X.env := by rfl)
    (hpl : (backTo pos (starEach [e2] X.env)).any (·.1) = false := by rfl) : DE X (.Call (.Name "isinstance" p) [e, e2] [] pos) (dCB oIsi d) :=
  de_callB call_isi sc_isi hg hm (by decide +kernel) ha (by decide) (by decide) hs hpl
/-! methods of texts -/
abbrev OM := D → List D → (D → Prop) → Prop
def SndM (K : PySem.W.Frag) (r : V → List V → Hp → VK → Prop) (op : OM) : Prop := ∀ (H Hs : Hp) (x : D) (vx : V) (ds : List D) (vs : List V) (Q : VK) (Q' : D → Prop), Same Hs H → Rp K Hs x vx → RpA K Hs ds vs →
  (∀ z v H' Hs', Stp none H Hs H' Hs' → Rp K Hs' z v → Q' z → Q v H') → op x ds Q' → r vx vs H Q
def D.isStr : D → Prop
  | .str _ => True
  | _ => False
def dM1 (op : OM) (o e : DT) : DT := fun g r f Q => o g r f fun x f1 => x.isStr ∧ e g r f1 fun y f2 => op x [y] fun z => Q z f2
theorem isStr_V {H : Hp} {d : D} {v : V} (h : Rp K H d v) (i : d.isStr) : ∃ a, v = .str a := by
  cases d <;> first | exact i.elim | exact ⟨_, h⟩
theorem snd_m1 {r : V → List V → Hp → VK → Prop} {op : OM} {to te : TE} {o e : DT} (hr : SndM K r op) (ho : Snd K to o) (he : Snd K te e) : Snd K (tM1 r to te) (dM1 op o e) := fun g ro f st H Hs Q Q' A hq hd =>
  ho g ro f st H Hs _ _ A (fun x f1 vx H1 Hs1 s1 k1 r1 q1 => ⟨isStr_V r1 q1.1, he g ro f1 st H1 Hs1 _ _ (A.step s1 k1) (fun y f2 vy H2 Hs2 s2 k2 r2 q2 =>
    hr H2 Hs2 x vx [y] [vy] Q _ s2.sub (r1.mono s2.ext) (RpA.one r2) (fun z v H3 Hs3 s3 r3 q3 => hq z f2 v H3 Hs3 ((s1.trans s2).trans s3.gen) (k2.stp s3) r3 q3) q2) q1.2⟩) hd
def oStarts : OM := fun x ds Q => match x, ds with
  | .str a, [.str b] => Q (.bool (Txt.startswith a b))
  | _, _ => False
theorem sm_starts : SndM K (fun x xs H Q => ∃ a b, x = .str a ∧ xs = [.str b] ∧ Q (.bl (Txt.startswith a b)) H) oStarts := fun H Hs x vx ds vs Q Q' s rx rs hq hd => by
  unfold oStarts at hd
  split at hd
  · obtain ⟨v, rfl, h⟩ := rpA1 rs
    cases h
    exact ⟨_, _, rx, rfl, hq (.bool _) _ _ _ (Stp.refl s) rfl hd⟩
  · exact hd.elim
theorem de_starts {o e : Expr} {apos pos : Pos} {d d2 : DT} (ho : DE X o d) (he : DE X e d2) (hs : starEach [e] X.env = [(false, eval e X.env)] := by rfl) (hbase : attributeBase o "startswith" X.env (eval o X.env) = eval o X.env := by rfl) (hline : (apos.endLine == pos.line) = true := by rfl) :
    DE X (.Call (.Attribute o "startswith" apos) [e] [] pos) (dM1 oStarts d d2) := .mk' (pe_m1 F.slot_str_startswith F.type_str_startswith mt_startswith ho.pe he.pe hs hbase hline) (snd_m1 sm_starts ho.sn he.sn)
def oJoin : OM := fun x ds Q => match x, ds with
  | .str a, [.lst xs] => ∃ ys : List Str, xs = ys.map D.str ∧ (ys.map (·.length)).sum + ys.length * a.length ≤ 16777216 ∧ Q (.str (Txt.join a ys))
  | .str a, [.tup xs] => ∃ ys : List Str, xs = ys.map D.str ∧ (ys.map (·.length)).sum + ys.length * a.length ≤ 16777216 ∧ Q (.str (Txt.join a ys))
  | _, _ => False
theorem sm_join : SndM K (fun x xs H Q => ∃ a p, ∃ ys : List Str, x = .str a ∧ xs = [.ref p] ∧ (SqL K H p (ys.map V.str) ∨ SqT K H p (ys.map V.str)) ∧ (ys.map (·.length)).sum + ys.length * a.length ≤ 16777216 ∧ Q (.str (Txt.join a ys)) H) oJoin := fun H Hs x vx ds vs Q Q' s rx rs hq hd => by
  unfold oJoin at hd
  split at hd
  · obtain ⟨ys, rfl, h1, h2⟩ := hd
    obtain ⟨v, rfl, a, vs, rfl, h3, h4⟩ := rpA1 rs
    have e := h4.strs
    subst e
    exact ⟨_, a, ys, rx, rfl, .inl (SqL.of (s _ _ h3)), h1, hq (.str _) _ _ _ (Stp.refl s) rfl h2⟩
  · obtain ⟨ys, rfl, h1, h2⟩ := hd
    obtain ⟨v, rfl, a, vs, rfl, h3, h4⟩ := rpA1 rs
    have e := h4.strs
    subst e
    exact ⟨_, a, ys, rx, rfl, .inr ((tp_sq s h3)), h1, hq (.str _) _ _ _ (Stp.refl s) rfl h2⟩
  · exact hd.elim
theorem de_join {o e : Expr} {apos pos : Pos} {d d2 : DT} (ho : DE X o d) (he : DE X e d2) (hs : starEach [e] X.env = [(false, eval e X.env)] := by rfl) (hbase : attributeBase o "join" X.env (eval o X.env) = eval o X.env := by rfl) (hline : (apos.endLine == pos.line) = true := by rfl) :
    DE X (.Call (.Attribute o "join" apos) [e] [] pos) (dM1 oJoin d d2) :=
  .mk' (pe_join ho.pe he.pe hs hbase hline) (snd_m1 sm_join ho.sn he.sn)
/-- x.split(sep): a new list -/
def dSplit (o e : DT) : DTA := fun g r f Q => o g r f fun x f1 => match x with
  | .str a => e g r f1 fun y f2 => match y with
    | .str b => (b.length == 0) = false ∧ a.length ≤ lim ∧ Q ((Txt.split a b).map D.str) f2
    | _ => False
  | _ => False
theorem dl_split {o e : Expr} {apos pos : Pos} {d d2 : DT} (ho : DE X o d) (he : DE X e d2) (hs : starEach [e] X.env = [(false, eval e X.env)] := by rfl) (hbase : attributeBase o "split" X.env (eval o X.env) = eval o X.env := by rfl) (hline : (apos.endLine == pos.line) = true := by rfl) :
    DL' X (.Call (.Attribute o "split" apos) [e] [] pos) (dSplit d d2) :=
  .mk' (pe_split ho.pe he.pe hs hbase hline) (fun g ro f st H Hs Q Q' A hq hd =>
    ho.sn g ro f st H Hs _ _ A (fun x f1 vx H1 Hs1 s1 k1 r1 q1 => by
      cases x <;> try exact q1.elim
      next a =>
      refine ⟨⟨a, r1⟩, he.sn g ro f1 st H1 Hs1 _ _ (A.step s1 k1) (fun y f2 vy H2 Hs2 s2 k2 r2 q2 => ?_) q1⟩
      cases y <;> try exact q2.elim
      next b =>
      cases r1
      cases r2
      refine ⟨a, b, rfl, rfl, q2.1, Nat.le_trans (Nat.add_le_add_right q2.2.1 2) (by decide), fun p hp => ?_⟩
      have al : Stp none H2 Hs2 (upd H2 p (.lst ((Txt.split a b).map V.str))) Hs2 := Stp.lay s2.sub hp
      refine hq _ f2 p _ _ _ ((s1.trans s2).trans al.gen) (k2.stp al) ?_ (same_none s2.sub hp) upd_same (RpA.map (f := D.str) (g := V.str) (fun _ => rfl) _) q2.2.2
      cases e : H p with
      | none => rfl
      | some o =>
        obtain ⟨o', e'⟩ := (s1.trans s2).there p o e
        rw [e'] at hp; cases hp) hd)
end
end DL
namespace DL
open PySem PySem.Spec PyProof.Rows L2
section
variable {X : Cx} {K : PySem.W.Frag}
/-! items and slices -/
def oIx : O2 := fun x y Q => match x, y with
  | .lst xs, .int i => ∃ d, atI xs i = some d ∧ Q d
  | .tup xs, .int i => ∃ d, atI xs i = some d ∧ Q d
  | .ktup xs, .int i => ∃ d, atI (xs.map D.str) i = some d ∧ Q d
  | .str z, .int i => z.length ≤ lim ∧ ∃ c, atI z.cps.toList i = some c ∧ Q (.str ⟨#[c]⟩)
  | _, _ => False
theorem atI_rp {H : Hp} {ds : List D} {vs : List V} {i : Int} {d : D} (h : RpA K H ds vs) (e : atI ds i = some d) : ∃ v, atI vs i = some v ∧ Rp K H d v := by
  unfold atI at e ⊢
  rw [h.length] at e
  cases e2 : ixN vs.length i with
  | none => rw [e2] at e; cases e
  | some j =>
    rw [e2] at e
    obtain ⟨v, h1, h2⟩ := h.get (i := j) (d := d) e
    exact ⟨v, h1, h2⟩
theorem sr_ix : SndR K (rIx K) oIx := SndR.pure fun H Hs x y vx vy Q Q' s rx ry hq hd => by
  unfold oIx at hd
  split at hd
  · obtain ⟨d, e, q⟩ := hd
    obtain ⟨a, vs, rfl, h1, h2⟩ := rx
    obtain ⟨v, h3, h4⟩ := atI_rp h2 e
    exact .inl ⟨a, vs, _, v, rfl, ry, SqL.of (s _ _ h1), h3, hq d v h4 q⟩
  · obtain ⟨d, e, q⟩ := hd
    obtain ⟨a, vs, rfl, h1, h2⟩ := rx
    obtain ⟨v, h3, h4⟩ := atI_rp h2 e
    exact .inr (.inl ⟨a, vs, _, v, rfl, ry, (tp_sq s h1), h3, hq d v h4 q⟩)
  · obtain ⟨d, e, q⟩ := hd
    obtain ⟨a, rfl, h1⟩ := rx
    obtain ⟨v, h3, h4⟩ := atI_rp (RpA.map (f := D.str) (g := V.str) (fun _ => rfl) _) e
    exact .inr (.inl ⟨a, _, _, v, rfl, ry, h1.sq _, h3, hq d v h4 q⟩)
  · obtain ⟨hz, c, e, q⟩ := hd
    exact .inr (.inr ⟨_, _, c, rx, ry, lim_le hz, e, hq (.str _) _ rfl q⟩)
  · exact hd.elim
theorem de_ix {a b : Expr} {pos : Pos} {da db : DT} (ha : DE X a da) (hb : DE X b db) (hs : PlainIx b := by exact fun _ _ => rfl) : DE X (.Subscript a b pos) (dOp oIx da db) := .mk' (pe_ix ix_seq ha.pe hb.pe hs) (snd_op sr_ix ha.sn hb.sn)
abbrev DTO := Option Dk → Sg → Nat → (Option Int → Nat → Prop) → Prop
def SndO (K : PySem.W.Frag) (t : TO) (dl : DTO) : Prop := ∀ (g : Option Dk) (r : Sg) (f : Nat) (st : L2.St) (H Hs : Hp) (Q : Option Int → Hp → Prop) (Q' : Option Int → Nat → Prop), At K g r f st H Hs →
  (∀ b f' H' Hs', Stp g H Hs H' Hs' → DkOk g H' Hs' f' → Q' b f' → Q b H') → dl g r f Q' → t st H Q
def tOfO (K : PySem.W.Frag) (dl : DTO) : TO := fun st H Q => ∃ g r f Hs Q', At K g r f st H Hs ∧ (∀ b f' H' Hs', Stp g H Hs H' Hs' → DkOk g H' Hs' f' → Q' b f' → Q b H') ∧ dl g r f Q'
structure DO (X : Cx) (e : Option Expr) (dl : DTO) : Prop where
  po : PO X e (tOfO X.K dl)
theorem DO.sn {e : Option Expr} {dl : DTO} (_ : DO X e dl) : SndO X.K (tOfO X.K dl) dl := fun g r f st H Hs Q Q' a hq hd => ⟨g, r, f, Hs, Q', a, hq, hd⟩
theorem DO.mk' {e : Option Expr} {t : TO} {dl : DTO} (p : PO X e t) (s : SndO X.K t dl) : DO X e dl := ⟨⟨fun pins sh st H Q I ⟨g, r, f, Hs, Q', a, hq, hd⟩ => p.run pins sh st H Q I (s g r f st H Hs Q Q' a hq hd)⟩⟩
theorem do_none : DO X none (fun _ _ f Q => Q none f) := .mk' (po_none) (fun g ro f st H Hs Q Q' A hq hd => hq none f H Hs (Stp.refl A.sub) A.dk hd)
def dPart (d : DT) : DTO := fun g r f Q => d g r f fun x f1 => match x with
  | .int i => Q (some i) f1
  | _ => False
theorem do_some {e : Expr} {d : DT} (h : DE X e d) : DO X (some e) (dPart d) := .mk' (po_some h.pe) (fun g ro f st H Hs Q Q' A hq hd =>
  h.sn g ro f st H Hs _ _ A (fun x f1 v H1 Hs1 s1 k1 r1 q1 => by
    cases x <;> try exact q1.elim
    exact ⟨_, r1, hq _ f1 H1 Hs1 s1 k1 q1⟩) hd)
def cutD (xs : List D) (lo hi : Option Int) : List D := (xs.drop (HT.sIx xs.length 0 lo)).take (HT.sIx xs.length xs.length hi - HT.sIx xs.length 0 lo)
theorem cut_rp {H : Hp} {ds : List D} {vs : List V} {lo hi : Option Int} (h : RpA K H ds vs) : RpA K H (cutD ds lo hi) (cutV vs lo hi) := by
  unfold cutD cutV
  rw [h.length]
  exact (h.drop _).take _
abbrev O3 := D → Option Int → Option Int → (D → Prop) → Prop
def oSl : O3 := fun x lo hi Q => match x with
  | .lst xs => Q (.lst (cutD xs lo hi))
  | .tup xs => Q (.tup (cutD xs lo hi))
  | .str z => z.length ≤ lim ∧ Q (.str (cutS z lo hi))
  | _ => False
def rSl (K : PySem.W.Frag) : V → Option Int → Option Int → Hp → VK → Prop := fun x lo hi H Q => rSlL K x lo hi H Q ∨ (rSlA K x lo hi H Q ∨ rSlS x lo hi H Q)
theorem cutD_whole {xs : List D} {lo hi : Option Int} (h : HT.sIx xs.length 0 lo = 0 ∧ HT.sIx xs.length xs.length hi = xs.length) : cutD xs lo hi = xs := by
  unfold cutD
  rw [h.1, h.2]
  simp
theorem sl_all : SlR X (rSl X.K) := sl_list.or (sl_tupA.or sl_str)
def dSl (a : DT) (lo hi : DTO) : DT := fun g r f Q => a g r f fun x f1 => lo g r f1 fun i f2 => hi g r f2 fun j f3 => oSl x i j fun z => Q z f3
theorem sr_sl {H Hs : Hp} {x : D} {vx : V} {lo hi : Option Int} {Q : VK} {Q' : D → Prop} (s : Same Hs H) (rx : Rp K Hs x vx) (hq : ∀ z v H' Hs', Stp none H Hs H' Hs' → Rp K Hs' z v → Q' z → Q v H') (hd : oSl x lo hi Q') : rSl K vx lo hi H Q := by
  cases x <;> try exact hd.elim
  · exact .inr (.inr ⟨_, rx, lim_le hd.1, hq (.str _) _ _ _ (Stp.refl s) rfl hd.2⟩)
  · obtain ⟨a, vs, rfl, h1, h2⟩ := rx
    refine .inr (.inl ⟨a, vs, rfl, (tp_sq s h1), fun e => ?_, fun e p hp => ?_⟩)
    · rw [← h2.length] at e
      exact hq (.tup _) _ _ _ (Stp.refl s) ⟨a, vs, rfl, h1, by rw [cutD_whole e]; exact h2⟩ hd
    · exact hq (.tup _) _ _ _ (Stp.alloc s hp) (rp_tup (cut_rp h2) (same_none s hp)) hd
  · obtain ⟨a, vs, rfl, h1, h2⟩ := rx
    exact .inl ⟨a, vs, rfl, SqL.of (s _ _ h1), fun p hp => hq (.lst _) _ _ _ (Stp.alloc s hp) (rp_lst (cut_rp h2) (same_none s hp)) hd⟩
theorem de_sl {e : Expr} {lo hi : Option Expr} {p2 pos : Pos} {d : DT} {dl dh : DTO} (he : DE X e d) (hl : DO X lo dl) (hh : DO X hi dh) : DE X (.Subscript e (.Slice lo hi none p2) pos) (dSl d dl dh) :=
  .mk' (pe_slice sl_all he.pe hl.po hh.po) (fun g ro f st H Hs Q Q' A hq hd =>
    he.sn g ro f st H Hs _ _ A (fun x f1 v H1 Hs1 s1 k1 r1 q1 => hl.sn g ro f1 st H1 Hs1 _ _ (A.step s1 k1) (fun i f2 H2 Hs2 s2 k2 q2 =>
      hh.sn g ro f2 st H2 Hs2 _ _ ((A.step s1 k1).step s2 k2) (fun j f3 H3 Hs3 s3 k3 q3 =>
        sr_sl s3.sub ((r1.mono s2.ext).mono s3.ext) (fun z v H4 Hs4 s4 r4 q4 => hq z f3 v H4 Hs4 (((s1.trans s2).trans s3).trans s4.gen) (k3.stp s4) r4 q4) q3) q2) q1) hd)
theorem none_back {g : Option Dk} {H Hs H' Hs' : Hp} {p : Addr} (s : Stp g H Hs H' Hs') (h : H' p = none) : H p = none := by
  cases e : H p with
  | none => rfl
  | some o =>
    obtain ⟨o', e'⟩ := s.there p o e
    rw [e'] at h; cases h
/-! calls of defs -/
abbrev DSp := Option Dk → List D → Nat → QD → Prop
def spOf (K : PySem.W.Frag) (S : DSp) : Sp := fun vs H Q _ => ∃ (g : Option Dk) (Hs : Hp) (ds : List D) (f : Nat) (Q' : QD), Same Hs H ∧ DkOk g H Hs f ∧ RpA K Hs ds vs ∧ S g ds f Q' ∧
  ∀ d f' v H' Hs', Stp g H Hs H' Hs' → DkOk g H' Hs' f' → Rp K Hs' d v → Q' d f' → Q v H'
def dCall (S : DSp) (t : DTA) : DT := fun g r f Q => t g r f fun ds f1 => S g ds f1 Q
theorem snd_call {S : DSp} {E : XK} {t : TA} {d : DTA} (ht : SndA K t d) : Snd K (tCall (spOf K S) [] E t) (dCall S d) := fun g ro f st H Hs Q Q' A hq hd =>
  ht g ro f st H Hs _ _ A (fun ds f1 vs H1 Hs1 s1 k1 r1 q1 => by
    show spOf K S (vs ++ []) H1 Q E
    rw [List.append_nil]
    exact ⟨g, Hs1, ds, f1, Q', s1.sub, k1, r1, q1, fun d f' v H' Hs' s2 k2 r2 q2 => hq d f' v H' Hs' (s1.trans s2) k2 r2 q2⟩) hd
/-! what is walked -/
structure Walks (K : PySem.W.Frag) (J : It) (Hb : Hp) (ds : List D) : Prop where
  go : ∀ (i : Nat) (d : D) (H Hs : Hp), Same Hb Hs → Same Hs H → ds[i]? = some d → J.go i H ∧ ∀ x H', J.yld i H x H' → ∃ Hs', Stp none H Hs H' Hs' ∧ Rp K Hs' d x
  stop : ∀ H, Same Hb H → J.stop ds.length H
def SndI (K : PySem.W.Frag) (wi : TI) (dl : DTA) : Prop := ∀ (g : Option Dk) (r : Sg) (f : Nat) (st : L2.St) (H Hs : Hp) (R : It → Hp → Prop) (Q' : List D → Nat → Prop), At K g r f st H Hs →
  (∀ ds f' J H' Hs', Stp g H Hs H' Hs' → DkOk g H' Hs' f' → Walks K J Hs' ds → Q' ds f' → R J H') → dl g r f Q' → wi st H R
def tOfI (K : PySem.W.Frag) (dl : DTA) : TI := fun st H R => ∃ g r f Hs Q', At K g r f st H Hs ∧ (∀ ds f' J H' Hs', Stp g H Hs H' Hs' → DkOk g H' Hs' f' → Walks K J Hs' ds → Q' ds f' → R J H') ∧ dl g r f Q'
structure DI (X : Cx) (tg e : Expr) (dl : DTA) : Prop where
  pi : PI X tg e (tOfI X.K dl)
theorem DI.sn {tg e : Expr} {dl : DTA} (_ : DI X tg e dl) : SndI X.K (tOfI X.K dl) dl := fun g r f st H Hs Q Q' a hq hd => ⟨g, r, f, Hs, Q', a, hq, hd⟩
theorem DI.mk' {tg e : Expr} {wi : TI} {dl : DTA} (p : PI X tg e wi) (s : SndI X.K wi dl) : DI X tg e dl := ⟨⟨fun pins sh st H R I ⟨g, r, f, Hs, Q', a, hq, hd⟩ => p.run pins sh st H R I (s g r f st H Hs R Q' a hq hd)⟩⟩
/-- a list, a tuple, a text -/
def iSeq (K : PySem.W.Frag) (tl : TE) : TI := fun st H R => tl st H fun x H1 => (∃ a, x = .ref a ∧ (((∃ xs, SqL K H1 a xs) ∧ R (Itl K a) H1) ∨ ((∃ xs, SqT K H1 a xs) ∧ R (Itt K a) H1))) ∨ ∃ z, x = .str z ∧ R (Its z) H1
theorem pi_seq {tg l : Expr} {tl : TE} (hl : PE X l tl) : PI X tg l (iSeq X.K tl) := by
  refine ⟨fun pins s st H R I h => ?_⟩
  refine thn (hl.run pins s st H _ I h) fun v s1 ⟨x, H1, I1, r1, q1⟩ => ?_
  rcases q1 with ⟨a, e, (⟨⟨xs, hq⟩, q⟩ | ⟨⟨xs, hq⟩, q⟩)⟩ | ⟨z, e, q⟩
  · subst e
    cases r1
    obtain ⟨its, rv, p, hz⟩ := I1.list hq
    refine wpAny_pyIter_list p.isList ?_
    refine ⟨s1.heap.objs.size, [s1.heap.objs.size], _, _, H1, rfl, I1.kept (t' := s1.toks) fun b o e => Heap.get?_push_of_some _ e, turn_list a _, ⟨_, Heap.get?_push_size _ rfl, rfl, rfl⟩, fun b hb => ?_, q⟩
    have e : b = s1.heap.objs.size := by simpa using hb
    subst e
    exact I1.fpOk (Nat.le_refl _) (I1.hok.fresh (Nat.le_refl _))
  · subst e
    cases r1
    obtain ⟨its, rv, p, hz⟩ := I1.tuple hq
    refine wpAny_pyIter_tuple (show s1.heap.IsTuple a its.toArray from p) ?_
    refine ⟨s1.heap.objs.size, [s1.heap.objs.size], _, _, H1, rfl, I1.kept (t' := s1.toks) fun b o e => Heap.get?_push_of_some _ e, turn_tuple a _, ⟨_, Heap.get?_push_size _ rfl, rfl, rfl⟩, fun b hb => ?_, q⟩
    have e : b = s1.heap.objs.size := by simpa using hb
    subst e
    exact I1.fpOk (Nat.le_refl _) (I1.hok.fresh (Nat.le_refl _))
  · subst e
    obtain ⟨t, rfl⟩ := r1
    cases ha : z.cps.all (· < 128)
    · exact wpAny_pyIter_wide ha (pi_one (tk := s1.toks) I1 _ (turn_str _ z t "str_iterator" (.inr rfl)) ⟨_, Heap.get?_push_size _ rfl, rfl, rfl⟩ q)
    · exact wpAny_pyIter_ascii ha (pi_one (tk := s1.toks) I1 _ (turn_str _ z t "str_ascii_iterator" (.inl rfl)) ⟨_, Heap.get?_push_size _ rfl, rfl, rfl⟩ q)
def signs (z : Str) : List D := z.cps.toList.map fun c => .str ⟨#[c]⟩
def dSeq' (d : DT) : DTA := fun g r f Q => d g r f fun x f1 => match x with
  | .lst xs => Q xs f1
  | .tup xs => Q xs f1
  | .str z => Q (signs z) f1
  | _ => False
theorem walks_list {Hb : Hp} {a : Addr} {vs : List V} {ds : List D} (h1 : Hb a = some (.lst vs)) (h2 : RpA K Hb ds vs) : Walks K (Itl K a) Hb ds where
  go := fun i d H Hs s1 s2 e => by
    obtain ⟨v, hv, hr⟩ := h2.get e
    have q : SqL K H a vs := SqL.of (s2 _ _ (s1 _ _ h1))
    refine ⟨⟨vs, v, q, hv⟩, ?_⟩
    rintro x H' ⟨rfl, hx⟩
    have := hx vs q
    rw [hv] at this
    cases this
    exact ⟨Hs, Stp.refl s2, hr.mono s1⟩
  stop := fun H s => ⟨vs, SqL.of (s _ _ h1), by rw [h2.length]; exact Nat.le_refl _⟩
theorem walks_tup {Hb : Hp} {a : Addr} {vs : List V} {ds : List D} (h1 : TpAt K Hb a vs) (h2 : RpA K Hb ds vs) : Walks K (Itt K a) Hb ds where
  go := fun i d H Hs s1 s2 e => by
    obtain ⟨v, hv, hr⟩ := h2.get e
    have q : SqT K H a vs := sqT_mono s2 (tp_sq s1 h1)
    refine ⟨⟨vs, v, q, hv⟩, ?_⟩
    rintro x H' ⟨rfl, hx⟩
    have := hx vs q
    rw [hv] at this
    cases this
    exact ⟨Hs, Stp.refl s2, hr.mono s1⟩
  stop := fun H s => ⟨vs, tp_sq s h1, by rw [h2.length]; exact Nat.le_refl _⟩
theorem walks_str {Hb : Hp} {z : Str} : Walks K (Its z) Hb (signs z) where
  go := fun i d H Hs s1 s2 e => by
    unfold signs at e
    rw [List.getElem?_map] at e
    cases ec : z.cps.toList[i]? with
    | none => rw [ec] at e; cases e
    | some c =>
      rw [ec] at e
      cases e
      have hl : i < z.cps.size := by
        have := List.getElem?_eq_some_iff.mp ec
        simpa using this.1
      refine ⟨hl, ?_⟩
      rintro x H' ⟨rfl, c', hc, rfl⟩
      have : c' = c := by
        rw [Array.getElem?_toList] at ec
        rw [hc] at ec
        exact Option.some.inj ec
      subst this
      exact ⟨Hs, Stp.refl s2, rfl⟩
  stop := fun H s => by
    show z.cps.size ≤ (signs z).length
    unfold signs
    simp
theorem di_seq {tg l : Expr} {d : DT} (h : DE X l d) : DI X tg l (dSeq' d) := .mk' (pi_seq h.pe) (fun g ro f st H Hs R Q' A hq hd =>
  h.sn g ro f st H Hs _ _ A (fun x f1 v H1 Hs1 s1 k1 r1 q1 => by
    cases x <;> try exact q1.elim
    · exact .inr ⟨_, r1, hq _ f1 _ H1 Hs1 s1 k1 walks_str q1⟩
    · obtain ⟨a, vs, rfl, h1, h2⟩ := r1
      exact .inl ⟨a, rfl, .inr ⟨⟨vs, (tp_sq s1.sub h1)⟩, hq _ f1 _ H1 Hs1 s1 k1 (walks_tup h1 h2) q1⟩⟩
    · obtain ⟨a, vs, rfl, h1, h2⟩ := r1
      exact .inl ⟨a, rfl, .inl ⟨⟨vs, SqL.of (s1.sub _ _ h1)⟩, hq _ f1 _ H1 Hs1 s1 k1 (walks_list h1 h2) q1⟩⟩) hd)
def intsD (lo : Int) (n : Nat) : List D := (List.range n).map fun (i : Nat) => D.int (lo + (i : Int))
theorem walks_range {Hb : Hp} {lo : Int} {n : Nat} : Walks K (Itr lo n) Hb (intsD lo n) where
  go := fun i d H Hs s1 s2 e => by
    unfold intsD at e
    rw [List.getElem?_map] at e
    by_cases hl : i < n
    · rw [List.getElem?_range hl] at e
      cases e
      refine ⟨hl, ?_⟩
      rintro x H' ⟨rfl, rfl⟩
      exact ⟨Hs, Stp.refl s2, rfl⟩
    · rw [List.getElem?_eq_none (by simpa using hl)] at e
      cases e
  stop := fun H s => by
    show n ≤ (intsD lo n).length
    unfold intsD
    simp
def dRng1 (t : DTA) : DTA := fun g r f Q => t g r f fun ds f1 => match ds with
  | [.int j] => -(2 ^ 62) ≤ j ∧ j < 2 ^ 62 ∧ Q (intsD 0 j.toNat) f1
  | _ => False
theorem di_range1 {tg a : Expr} {d : DTA} {p pos : Pos} (hm : X.mg "range" = none) (ha : DA X [a] d) (hg : Gl X "range" := by rfl) (hs : starEach [a] X.env = [(false, eval a X.env)] := by rfl) : DI X tg (.Call (.Name "range" p) [a] [] pos) (dRng1 d) :=
  .mk' (pi_range1 hg hm ha.pa hs) (fun g ro f st H Hs R Q' A hq hd =>
    ha.sn g ro f st H Hs _ _ A (fun ds f1 vs H1 Hs1 s1 k1 r1 q1 => by
      split at q1
      · obtain ⟨v, rfl, h⟩ := rpA1 r1
        cases h
        exact ⟨_, rfl, q1.1, q1.2.1, hq _ f1 _ H1 Hs1 s1 k1 walks_range q1.2.2⟩
      · exact q1.elim) hd)
def dRng2 (t : DTA) : DTA := fun g r f Q => t g r f fun ds f1 => match ds with
  | [.int i, .int j] => (-(2 ^ 62) ≤ i ∧ i < 2 ^ 62 ∧ -(2 ^ 62) ≤ j ∧ j < 2 ^ 62) ∧ Q (intsD i (j - i).toNat) f1
  | _ => False
theorem di_range2 {tg a b : Expr} {d : DTA} {p pos : Pos} (hm : X.mg "range" = none) (ha : DA X [a, b] d) (hg : Gl X "range" := by rfl) (hs : starEach [a, b] X.env = [(false, eval a X.env), (false, eval b X.env)] := by rfl) (hs2 : starEach [b] X.env = [(false, eval b X.env)] := by rfl) : DI X tg (.Call (.Name "range" p) [a, b] [] pos) (dRng2 d) :=
  .mk' (pi_range2 hg hm ha.pa hs hs2) (fun g ro f st H Hs R Q' A hq hd =>
    ha.sn g ro f st H Hs _ _ A (fun ds f1 vs H1 Hs1 s1 k1 r1 q1 => by
      split at q1
      · obtain ⟨v, w, rfl, h, h'⟩ := rpA2 r1
        cases h
        cases h'
        exact ⟨_, _, rfl, q1.1, hq _ f1 _ H1 Hs1 s1 k1 walks_range q1.2⟩
      · exact q1.elim) hd)
end
end DL
namespace DL
open PySem PySem.Spec PyProof.Rows L2
/-! targets -/
abbrev TgF := D → Option (List (Nat × D))
def setsR (r : Sg) : List (Nat × D) → Sg
  | [] => r
  | (i, d) :: l => setsR (r.set i (.sh d)) l
def setsV (st : L2.St) : List Nat → List V → L2.St
  | i :: is, v :: vs => setsV (st.set i (some v)) is vs
  | _, _ => st
section
variable {X : Cx} {K : PySem.W.Frag}
theorem SlOk.sets {Hs : Hp} : ∀ {l : List (Nat × D)} {vs : List V} {r : Sg} {st : L2.St}, SlOk K Hs r st → RpA K Hs (l.map (·.2)) vs → SlOk K Hs (setsR r l) (setsV st (l.map (·.1)) vs)
  | [], _, _, _, h, _ => by
    have e : ∀ (st : L2.St) (vs : List V), setsV st [] vs = st := fun st vs => by cases vs <;> rfl
    show SlOk K Hs _ (setsV _ [] _)
    rw [e]
    exact h
  | (i, d) :: l, _, r, st, h, ⟨v, vr, h1, h2, h3⟩ => by
    subst h1
    show SlOk K Hs (setsR (r.set i (.sh d)) l) (setsV (st.set i (some v)) (l.map (·.1)) vr)
    exact SlOk.sets (SlOk.set h i h2) h3
theorem wipe_set {st : L2.St} {i : Nat} {x : Option V} : ∀ {vs : List Nat}, i ∈ vs → wipe (st.set i x) vs = wipe st vs
  | v :: vs, h => by
    unfold wipe
    by_cases e : i ∈ vs
    · rw [wipe_set e]
    · have hv : i = v := by
        rcases List.mem_cons.mp h with h | h
        · exact h
        · exact absurd h e
      subst hv
      have : ∀ (vs : List Nat), i ∉ vs → wipe (st.set i x) vs = (wipe st vs).set i x := by
        intro vs
        induction vs with
        | nil => intro _; rfl
        | cons w ws ih =>
          intro hn
          have h1 : i ≠ w := fun e => hn (by simp [e])
          have h2 : i ∉ ws := fun e => hn (by simp [e])
          unfold wipe
          rw [ih h2, List.set_comm _ _ h1]
      rw [this vs e, List.set_set]
theorem wipe_sets {ws : List Nat} : ∀ {is : List Nat} {vs : List V} {st : L2.St}, (∀ i ∈ is, i ∈ ws) → wipe (setsV st is vs) ws = wipe st ws
  | [], _, _, _ => by unfold setsV; rfl
  | _ :: _, [], _, _ => by unfold setsV; rfl
  | i :: is, v :: vs, st, h => by
    unfold setsV
    rw [wipe_sets (fun j hj => h j (by simp [hj])), wipe_set (h i (by simp))]
theorem wipe_idem {st : L2.St} : ∀ {vs : List Nat} (ws : List Nat), (∀ i ∈ vs, i ∈ ws) → L2.wipe (L2.wipe st vs) ws = L2.wipe st ws
  | [], _, _ => rfl
  | v :: vs, ws, h => by
    show L2.wipe ((L2.wipe st vs).set v none) ws = _
    rw [wipe_set (h v (by simp)), wipe_idem ws fun i hi => h i (by simp [hi])]
theorem wipe_wipe_sets {vs is : List Nat} {us : List V} {st : L2.St} (h : ∀ i ∈ is, i ∈ vs) : L2.wipe (setsV (L2.wipe st vs) is us) vs = L2.wipe st vs := by
  rw [wipe_sets h, wipe_idem vs fun _ h => h]
def SndG (K : PySem.W.Frag) (is : List Nat) (g : TG) (t : TgF) : Prop := (∀ d l, t d = some l → l.map (·.1) = is) ∧ ∀ (H Hs : Hp) (st : L2.St) (d : D) (v : V) (Q : L2.St → Hp → Prop) (l : List (Nat × D)), Same Hs H → Rp K Hs d v → t d = some l →
  (∀ vs, RpA K Hs (l.map (·.2)) vs → Q (setsV st is vs) H) → g v st H Q
def gOf (K : PySem.W.Frag) (is : List Nat) (t : TgF) : TG := fun v st H Q => ∃ Hs d l, Same Hs H ∧ Rp K Hs d v ∧ t d = some l ∧ ∀ vs, RpA K Hs (l.map (·.2)) vs → Q (setsV st is vs) H
structure DG (X : Cx) (tg : Expr) (is : List Nat) (t : TgF) : Prop where
  pg : PG X tg (gOf X.K is t)
  ix : ∀ d l, t d = some l → l.map (·.1) = is
theorem DG.sn {tg : Expr} {is : List Nat} {t : TgF} (h : DG X tg is t) : SndG X.K is (gOf X.K is t) t := ⟨h.ix, fun H Hs st d v Q l s hr e hq => ⟨Hs, d, l, s, hr, e, hq⟩⟩
theorem DG.mk' {tg : Expr} {is : List Nat} {g : TG} {t : TgF} (p : PG X tg g) (s : SndG X.K is g t) : DG X tg is t := ⟨⟨fun pins sh st H v u Q I r ⟨Hs, d, l, h1, h2, h3, h4⟩ => p.run pins sh st H v u Q I r (s.2 H Hs st d v Q l h1 h2 h3 h4)⟩, s.1⟩
def tgN (i : Nat) : TgF := fun d => some [(i, d)]
theorem sg_name (i : Nat) : SndG K [i] (gName i) (tgN i) := ⟨fun d l e => by cases e; rfl, fun H Hs st d v Q l s rx e h => by
  cases e
  exact h [v] (RpA.one rx)⟩
theorem dg_name {i : Nat} {x : Str} {pos : Pos} (hN : X.N.Nodup) (hi : X.N[i]? = some x := by rfl) (hx : Loc X.env.scope x := by first | exact Or.inl rfl | exact Or.inr rfl) (hf : X.fn x = true ∨ X.env.scope.names.lookup x = some .local := by first | exact .inl rfl | exact .inr rfl | assumption) : DG X (.Name x pos) [i] (tgN i) := .mk' (pg_name hN hi hx hf) (sg_name i)
def tgT : List TgF → List D → Option (List (Nat × D))
  | [], [] => some []
  | t :: ts, d :: ds => (t d).bind fun l => (tgT ts ds).map fun m => l ++ m
  | _, _ => none
def tgTup (ts : List TgF) : TgF := fun d => match d with
  | .tup ds => tgT ts ds
  | _ => none
def SndGs (K : PySem.W.Frag) (is : List Nat) (g : TGs) (ts : List TgF) : Prop := (∀ ds l, tgT ts ds = some l → l.map (·.1) = is) ∧ ∀ (H Hs : Hp) (st : L2.St) (ds : List D) (vs : List V) (Q : L2.St → Hp → Prop) (l : List (Nat × D)), Same Hs H → RpA K Hs ds vs → tgT ts ds = some l →
  (∀ ws, RpA K Hs (l.map (·.2)) ws → Q (setsV st is ws) H) → g vs st H Q
def gOfs (K : PySem.W.Frag) (is : List Nat) (ts : List TgF) : TGs := fun vs st H Q => ∃ Hs ds l, Same Hs H ∧ RpA K Hs ds vs ∧ tgT ts ds = some l ∧ ∀ ws, RpA K Hs (l.map (·.2)) ws → Q (setsV st is ws) H
structure DGs (X : Cx) (tgs : List Expr) (is : List Nat) (ts : List TgF) : Prop where
  pg : PGs X tgs (gOfs X.K is ts)
  ix : ∀ ds l, tgT ts ds = some l → l.map (·.1) = is
theorem DGs.sn {tgs : List Expr} {is : List Nat} {ts : List TgF} (h : DGs X tgs is ts) : SndGs X.K is (gOfs X.K is ts) ts := ⟨h.ix, fun H Hs st ds vs Q l s hr e hq => ⟨Hs, ds, l, s, hr, e, hq⟩⟩
theorem DGs.mk' {tgs : List Expr} {is : List Nat} {g : TGs} {ts : List TgF} (p : PGs X tgs g) (s : SndGs X.K is g ts) : DGs X tgs is ts := ⟨⟨fun pins sh st H vs us Q I r ⟨Hs, ds, l, h1, h2, h3, h4⟩ => p.run pins sh st H vs us Q I r (s.2 H Hs st ds vs Q l h1 h2 h3 h4)⟩, s.1⟩
theorem setsV_append : ∀ (is js : List Nat) (vs ws : List V) (st : L2.St), is.length = vs.length → setsV st (is ++ js) (vs ++ ws) = setsV (setsV st is vs) js ws
  | [], js, vs, ws, st, h => by cases vs with
    | nil => rfl
    | cons v r => simp at h
  | i :: is, js, [], ws, st, h => by simp at h
  | i :: is, js, v :: vs, ws, st, h => by
    show setsV (st.set i (some v)) (is ++ js) (vs ++ ws) = _
    rw [setsV_append is js vs ws _ (by simpa using h)]
    rfl
theorem RpA.split {H : Hp} : ∀ {a b : List D} {vs : List V}, RpA K H (a ++ b) vs → ∃ p q, vs = p ++ q ∧ RpA K H a p ∧ RpA K H b q
  | [], _, vs, h => ⟨[], vs, rfl, rfl, h⟩
  | d :: a, b, _, ⟨v, r, h1, h2, h3⟩ => by
    subst h1
    obtain ⟨p, q, rfl, h4, h5⟩ := RpA.split h3
    exact ⟨v :: p, q, rfl, ⟨v, p, rfl, h2, h4⟩, h5⟩
theorem sgs_nil : SndGs K [] gNil [] := by
  refine ⟨fun ds l e => ?_, fun H Hs st ds vs Q l s rx e h => ?_⟩
  · cases ds with
    | nil => cases e; rfl
    | cons _ _ => cases e
  · cases ds with
    | nil => cases e; cases rx; exact ⟨rfl, h [] rfl⟩
    | cons _ _ => cases e
theorem sgs_cons {is js : List Nat} {g : TG} {u : TGs} {t : TgF} {ts : List TgF} (h1 : SndG K is g t) (h2 : SndGs K js u ts) : SndGs K (is ++ js) (gCons g u) (t :: ts) := by
  refine ⟨fun ds l e => ?_, fun H Hs st ds vs Q l s rx e h => ?_⟩
  · cases ds with
    | nil => cases e
    | cons d ds =>
      simp only [tgT] at e
      cases e1 : t d with
      | none => rw [e1] at e; cases e
      | some l1 =>
        rw [e1] at e
        cases e2 : tgT ts ds with
        | none => rw [e2] at e; cases e
        | some l2 =>
          rw [e2] at e
          cases e
          rw [List.map_append, h1.1 d l1 e1, h2.1 ds l2 e2]
  · cases ds with
    | nil => cases e
    | cons d ds =>
      simp only [tgT] at e
      cases e1 : t d with
      | none => rw [e1] at e; cases e
      | some l1 =>
        rw [e1] at e
        cases e2 : tgT ts ds with
        | none => rw [e2] at e; cases e
        | some l2 =>
          rw [e2] at e
          cases e
          obtain ⟨v, r, rfl, q1, q2⟩ := rx
          refine ⟨v, r, rfl, h1.2 H Hs st d v _ l1 s q1 e1 fun ws1 hw1 => h2.2 H Hs _ ds r Q l2 s q2 e2 fun ws2 hw2 => ?_⟩
          have hh := h (ws1 ++ ws2) (by rw [List.map_append]; exact hw1.append hw2)
          rw [setsV_append _ _ _ _ _ (by rw [← h1.1 d l1 e1, ← hw1.length]; simp)] at hh
          exact hh
theorem sg_tup {is : List Nat} {g : TGs} {ts : List TgF} {n : Nat} (h : SndGs K is g ts) (hn : ∀ ds l, tgT ts ds = some l → ds.length = n) : SndG K is (gTup K n g) (tgTup ts) := ⟨fun d l e => by
    cases d <;> first | (cases e; done) | exact h.1 _ l e, fun H Hs st d v Q l s rx e q => by
  cases d <;> try (cases e; done)
  obtain ⟨a, vs, rfl, h1, h2⟩ := rx
  exact ⟨a, vs, rfl, (tp_sq s h1), by rw [← h2.length]; exact hn _ l e, h.2 H Hs st _ vs Q l s h2 e q⟩⟩
theorem tgT_len : ∀ {ts : List TgF} {ds : List D} {l : List (Nat × D)}, tgT ts ds = some l → ds.length = ts.length
  | [], [], _, _ => rfl
  | [], _ :: _, _, e => by cases e
  | _ :: _, [], _, e => by cases e
  | t :: ts, d :: ds, l, e => by
    simp only [tgT] at e
    cases e1 : t d with
    | none => rw [e1] at e; cases e
    | some l1 =>
      rw [e1] at e
      cases e2 : tgT ts ds with
      | none => rw [e2] at e; cases e
      | some l2 => simp [tgT_len e2]
theorem dgs_nil : DGs X [] [] [] := .mk' (pgs_nil) (sgs_nil)
theorem dgs_cons {e : Expr} {es : List Expr} {is js : List Nat} {t : TgF} {ts : List TgF} (h1 : DG X e is t) (h2 : DGs X es js ts)
    (hs : (assignEach (e :: es) X.env).map (·.2) = assign e X.env :: (assignEach es X.env).map (·.2) := by rfl) : DGs X (e :: es) (is ++ js) (t :: ts) := .mk' (pgs_cons h1.pg h2.pg hs) (sgs_cons h1.sn h2.sn)
theorem dg_tup {es : List Expr} {k n : Nat} {pos : Pos} {is : List Nat} {ts : List TgF} (hc : X.calm = true) (h : DGs X es is ts) (hn : (assignEach es X.env).length = n := by rfl) (hst : (assignEach es X.env).findIdx? (·.1) = none := by rfl) (hl : ts.length = n := by rfl) :
    DG X (.Tuple es k pos) is (tgTup ts) := .mk' (pg_tup hc h.pg hn hst) (sg_tup h.sn fun ds l e => by rw [tgT_len e, hl])
/-! comprehensions -/
def wipeR (r : Sg) : List Nat → Sg
  | [] => r
  | v :: vs => (wipeR r vs).set v .no
theorem SlOk.wipe {Hs : Hp} {r : Sg} {st : L2.St} (h : SlOk K Hs r st) : ∀ vs : List Nat, SlOk K Hs (wipeR r vs) (L2.wipe st vs)
  | [] => h
  | v :: vs => by
    have ih := SlOk.wipe h vs
    refine ⟨by unfold wipeR L2.wipe; simp [ih.len], fun i s d h1 h2 => ?_⟩
    unfold wipeR at h1
    unfold L2.wipe
    by_cases e : v = i
    · subst e
      by_cases hl : v < (wipeR r vs).length
      · rw [List.getElem?_set_self hl] at h1
        cases h1
        cases h2
      · rw [List.getElem?_eq_none (by simpa using hl)] at h1
        cases h1
    · rw [List.getElem?_set_ne e] at h1
      rw [List.getElem?_set_ne e]
      exact ih.get i s d h1 h2
def dLcGo (g : Option Dk) (t : TgF) (c : DTT) (e : DT) (r : Sg) : List D → List D → Nat → (List D → Nat → Prop) → Prop
  | [], acc, f, Q => Q acc f
  | d :: ds, acc, f, Q => match t d with
    | none => False
    | some l => c g (setsR r l) f fun b f1 => if b = true then e g (setsR r l) f1 fun y f2 => dLcGo g t c e r ds (acc ++ [y]) f2 Q else dLcGo g t c e r ds acc f1 Q
def dLc (i : DTA) (t : TgF) (c : DTT) (e : DT) (vs : List Nat) : DTA := fun g r f Q => i g r f fun ds f1 => ds.length ≤ lim ∧ dLcGo g t c e (wipeR r vs) ds [] f1 Q
structure DTs (X : Cx) (ifs : List Expr) (d : DTT) : Prop where
  pt : PTs X ifs (tOfT X.K d)
theorem DTs.sn {ifs : List Expr} {dl : DTT} (_ : DTs X ifs dl) : SndT X.K (tOfT X.K dl) dl := fun g r f st H Hs Q Q' a hq hd => ⟨g, r, f, Hs, Q', a, hq, hd⟩
theorem DTs.mk' {ifs : List Expr} {t : TT} {dl : DTT} (p : PTs X ifs t) (s : SndT X.K t dl) : DTs X ifs dl := ⟨⟨fun pins sh st H Q I ⟨g, r, f, Hs, Q', a, hq, hd⟩ => p.run pins sh st H Q I (s g r f st H Hs Q Q' a hq hd)⟩⟩
def dYes : DTT := fun _ _ f Q => Q true f
theorem dts_nil : DTs X [] dYes := .mk' (pts_nil) (fun g r f st H Hs Q Q' A hq hd => hq true f H Hs (Stp.refl A.sub) A.dk hd)
theorem dts_one {c : Expr} {d : DTT} (h : DP X c d) : DTs X [c] d := .mk' (pts_one h.pt) (h.sn)
theorem snd_lc {wi : TI} {gt : TG} {tt : TT} {te : TE} {vs is : List Nat} {i : DTA} {t : TgF} {c : DTT} {e : DT} (hi : SndI K wi i) (hg : SndG K is gt t) (hc : SndT K tt c) (he : Snd K te e) (hs : ∀ j ∈ is, j ∈ vs) : SndL K (tLc wi gt tt te vs) (dLc i t c e vs) := by
  intro g r f st H Hs Q Q' A hq hd
  refine hi g r f st H Hs _ _ A (fun ds f1 J H1 Hs1 s1 k1 wk q1 => ?_) hd
  intro D hD
  have hDs : Hs1 D = none := same_none s1.sub hD
  have hDk : ¬ Dk.has g D := k1.out hD
  refine ⟨fun i m H2 => m = ds.length - i ∧ i ≤ ds.length ∧ ∃ f2 Hs2 acc ws, Stp g H1 Hs1 H2 Hs2 ∧ DkOk g H2 Hs2 f2 ∧ Hs2 D = none ∧ H2 D = some (.lst ws) ∧ RpA K Hs2 acc ws ∧ acc.length ≤ i ∧ dLcGo g t c e (wipeR r vs) (ds.drop i) acc f2 Q', ⟨ds.length, rfl, Nat.zero_le _, f1, Hs1, [], [], ?_, ?_, hDs, upd_same, rfl, Nat.le_refl _, q1.2⟩, ?_⟩
  · exact (Stp.lay s1.sub hD : Stp none H1 Hs1 (upd H1 D (.lst [])) Hs1).gen
  · exact k1.mut hDk
  rintro i m H2 ⟨rfl, hil, f2, Hs2, acc, ws, s2, k2, n2, e2, r2, l2, q2⟩
  by_cases hlt : i < ds.length
  · have hgd : ds[i]? = some ds[i] := List.getElem?_eq_getElem hlt
    have hdr : ds.drop i = ds[i] :: ds.drop (i + 1) := List.drop_eq_getElem_cons hlt
    rw [hdr] at q2
    obtain ⟨hgo, hy⟩ := wk.go i _ H2 Hs2 s2.ext s2.sub hgd
    refine .inr ⟨hgo, fun H3 => i + 1 ≤ ds.length ∧ ∃ f2 Hs2 acc ws, Stp g H1 Hs1 H3 Hs2 ∧ DkOk g H3 Hs2 f2 ∧ Hs2 D = none ∧ H3 D = some (.lst ws) ∧ RpA K Hs2 acc ws ∧ acc.length ≤ i + 1 ∧ dLcGo g t c e (wipeR r vs) (ds.drop (i + 1)) acc f2 Q', fun H3 h3 => ⟨_, by omega, rfl, h3⟩, fun x H3 hx => ?_⟩
    obtain ⟨Hs3, s3, r3⟩ := hy x H3 hx
    simp only [dLcGo] at q2
    cases et : t ds[i] with
    | none => rw [et] at q2; exact q2.elim
    | some l =>
      rw [et] at q2
      replace q2 : c g (setsR (wipeR r vs) l) f2 fun b f1 => if b = true then e g (setsR (wipeR r vs) l) f1 fun y f2 => dLcGo g t c e (wipeR r vs) (ds.drop (i + 1)) (acc ++ [y]) f2 Q' else dLcGo g t c e (wipeR r vs) (ds.drop (i + 1)) acc f1 Q' := q2
      have sl0 : SlOk K Hs3 (wipeR r vs) (L2.wipe st vs) := (((A.sl.mono s1.ext).mono s2.ext).mono s3.ext).wipe vs
      refine hg.2 H3 Hs3 _ _ x _ l s3.sub r3 et fun us hus => ⟨wipe_wipe_sets hs, ?_⟩
      have A3 : At K g (setsR (wipeR r vs) l) f2 (setsV (L2.wipe st vs) is us) H3 Hs3 := ⟨s3.sub, k2.stp s3, by
        have := SlOk.sets sl0 hus
        rw [hg.1 _ l et] at this
        exact this⟩
      refine hc g _ f2 _ H3 Hs3 _ _ A3 (fun b f4 H4 Hs4 s4 k4 q4 => ?_) q2
      have t4 : Stp g H1 Hs1 H4 Hs4 := (s2.trans s3.gen).trans s4
      have keepD : ∀ {H5 Hs5 : Hp}, Stp g H1 Hs1 H5 Hs5 → True := fun _ => trivial
      have n3 : Hs3 D = none := s3.new D _ e2 n2
      have e3 : H3 D = some (.lst ws) := s3.keep D _ e2 id
      have n4 : Hs4 D = none := s4.new D _ e3 n3
      have e4 : H4 D = some (.lst ws) := s4.keep D _ e3 hDk
      cases b with
      | false =>
        rw [if_neg Bool.false_ne_true]
        exact ⟨hlt, f4, Hs4, acc, ws, t4, k4, n4, e4, (r2.mono s3.ext).mono s4.ext, by omega, q4⟩
      | true =>
        rw [if_pos rfl]
        refine he g _ f4 _ H4 Hs4 _ _ (A3.step s4 k4) (fun y f5 v H5 Hs5 s5 k5 r5 q5 => ?_) q4
        have n5 : Hs5 D = none := s5.new D _ e4 n4
        have e5 : H5 D = some (.lst ws) := s5.keep D _ e4 hDk
        have r5' : RpA K Hs5 acc ws := ((r2.mono s3.ext).mono s4.ext).mono s5.ext
        refine ⟨ws, e5, ?_, hlt, f5, Hs5, acc ++ [y], ws ++ [v], (t4.trans s5).mut hD n5, k5.mut hDk, n5, upd_same, r5'.append (RpA.one r5), by simp; omega, q5⟩
        rw [← r5'.length]
        have := q1.1
        exact lim_lt (by omega)
  · have ei : i = ds.length := by omega
    subst ei
    rw [List.drop_length] at q2
    refine .inl ⟨wk.stop H2 (fun a o h => s2.sub a o (s2.ext a o h)), ?_⟩
    exact hq acc f2 D ws H2 Hs2 (s1.trans s2) k2 (none_back s1 hD) n2 e2 r2 q2
theorem dl_lc {elt tg iter : Expr} {ifs : List Expr} {scope : Scope} {own : List (Str × Nat)} {pos : Pos} {is : List Nat} {i : DTA} {t : TgF} {c : DTT} {e : DT} (hc : X.calm = true) (hN : X.N.Nodup) (hi : DI X tg iter i) (ok : BlkOk X.N X.env.scope scope own)
    (hg : ∀ (s : Shared) (H : Hp) (C : Addr) (cl : List (Str × Addr)) (fp : List Addr), DG (X.blk s H scope (compEnvC scope cl C X.env) fp) tg is t) (ht : ∀ (s : Shared) (H : Hp) (C : Addr) (cl : List (Str × Addr)) (fp : List Addr), DTs (X.blk s H scope (compEnvC scope cl C X.env) fp) ifs c)
    (he : ∀ (s : Shared) (H : Hp) (C : Addr) (cl : List (Str × Addr)) (fp : List Addr), DE (X.blk s H scope (compEnvC scope cl C X.env) fp) elt e) (hs : ∀ x, foldedSetIterable iter X.env x = pure x := by intro _; rfl) (hsub : ∀ j ∈ is, j ∈ own.map (·.2) := by decide) :
    DL' X (.ListComp elt [⟨tg, iter, ifs, 0⟩] scope pos) (dLc i t c e (own.map (·.2))) := by
  refine DL'.mk' (pe_lc (g := gOf X.K is t) (tt := tOfT X.K c) (te := tOf X.K e) hc hN hi.pi ok (fun s H C cl fp => (hg s H C cl fp).pg) (fun s H C cl fp => (ht s H C cl fp).pt) (fun s H C cl fp => (he s H C cl fp).pe) hs) ?_
  intro g r f st H Hs Q Q' A
  exact snd_lc hi.sn (hg X.s_0 H 0 [] []).sn (ht X.s_0 H 0 [] []).sn (he X.s_0 H 0 [] []).sn hsub g r f st H Hs Q Q' A
end
end DL
namespace DL
open PySem PySem.Spec PyProof.Rows L2
/-! statements: slots that own a list or a dict -/
def Sl.own : Sl → Bool
  | .ow _ => true
  | .od _ _ => true
  | .ot _ _ => true
  | .oi _ _ _ _ => true
  | _ => false
def OwAt (K : PySem.W.Frag) (H0 H Hs : Hp) (a : Addr) : Sl → Prop
  | .ow xs => ∃ vs, H a = some (.lst vs) ∧ RpA K Hs xs vs
  | .od ks xs => ∃ vs, H a = some (.dK (ks.zip vs)) ∧ ks.length = vs.length ∧ RpA K Hs xs vs
  | .ot ks xs => ∃ vs, H a = some (.dT (ks.zip vs)) ∧ ks.length = vs.length ∧ RpA K Hs xs vs
  | .oi b c ns xs => b = a ∧ ∃ C dx vs, PySem.W.nsIn K mainGlobals c = some (some (.ref C)) ∧ H a = some (.ins C dx (ns.zip vs)) ∧ H dx = some (.own a) ∧ Hs dx = none ∧ H0 dx = none ∧ ns.length = vs.length ∧ RpA K Hs xs vs
  | _ => False
structure SIn (K : PySem.W.Frag) (g : Option Dk) (H0 Hs0 : Hp) (r : Sg) (f : Nat) (st : L2.St) (H Hs : Hp) : Prop where
  len : r.length = st.length
  dk0 : ∃ f0, DkOk g H0 Hs0 f0
  dk : DkOk g H Hs f
  stp : Stp g H0 Hs0 H Hs
  sh : ∀ (i : Nat) (d : D), r[i]? = some (.sh d) → ∃ v, st[i]? = some (some v) ∧ Rp K Hs d v
  ow : ∀ (i : Nat) (s : Sl), r[i]? = some s → s.own = true → ∃ a, st[i]? = some (some (.ref a)) ∧ Hs a = none ∧ H0 a = none ∧ OwAt K H0 H Hs a s
  inj : ∀ (i j : Nat) (s u : Sl) (a : Addr), r[i]? = some s → r[j]? = some u → s.own = true → u.own = true → st[i]? = some (some (.ref a)) → st[j]? = some (some (.ref a)) → i = j
def SOk (K : PySem.W.Frag) (g : Option Dk) (H0 Hs0 : Hp) (r : Sg) (f : Nat) (st : L2.St) (H : Hp) : Prop := ∃ Hs, SIn K g H0 Hs0 r f st H Hs
/-- an exception of a class of the text: its data, the class and the dict at which it stands -/
def ExR (K : PySem.W.Frag) (H Hs : Hp) : D → Value → Option Addr → Prop
  | .obj c ns xs, cls, d => ∃ C, PySem.W.nsIn K mainGlobals c = some (some (.ref C)) ∧ cls = .ref C ∧ ((ns = [] ∧ xs = [] ∧ d = Option.none) ∨ ∃ dd vs, d = some dd ∧ Hs dd = some (.xd (ns.zip vs)) ∧ ns.length = vs.length ∧ RpA K Hs xs vs)
  | _, _, _ => False
structure DEnds where
  nx : Sg → Nat → Prop
  rt : QD
  bk : Sg → Nat → Prop := fun _ _ => False
  ct : Sg → Nat → Prop := fun _ _ => False
  xc : D → Sg → Nat → Prop := fun _ _ _ => False
/-- what a body wants of exceptions, at the most -/
def wx (X : Cx) : WX := fun cls d st H => Takes X (fun cls' d' st' H' => cls' = cls ∧ d' = d ∧ st' = st ∧ H' = H)
abbrev DTS := Option Dk → Sg → Nat → DEnds → Prop
structure EndsOk (K : PySem.W.Frag) (W : WX) (g : Option Dk) (H0 Hs0 : Hp) (E : DEnds) (D : Ends) : Prop where
  nx : ∀ r f st H, SOk K g H0 Hs0 r f st H → E.nx r f → D.nx st H
  rt : ∀ d f v H Hs, Stp g H0 Hs0 H Hs → DkOk g H Hs f → Rp K Hs d v → E.rt d f → D.rt v H
  bk : ∀ r f st H, SOk K g H0 Hs0 r f st H → E.bk r f → D.bk st H
  ct : ∀ r f st H, SOk K g H0 Hs0 r f st H → E.ct r f → D.ct st H
  xc : ∀ x r f st H cls d, (∃ Hs, SIn K g H0 Hs0 r f st H Hs ∧ ExR K H Hs x cls d) → E.xc x r f → W cls d st H
def SndS (K : PySem.W.Frag) (W : WX) (t : TS) (dl : DTS) : Prop := ∀ (g : Option Dk) (H0 Hs0 : Hp) (r : Sg) (f : Nat) (st : L2.St) (H : Hp) (D : Ends) (E : DEnds), SOk K g H0 Hs0 r f st H → EndsOk K W g H0 Hs0 E D → dl g r f E → t D st H
def sOf (K : PySem.W.Frag) (W : WX) (dl : DTS) : TS := fun D st H => ∃ g H0 Hs0 r f E, SOk K g H0 Hs0 r f st H ∧ EndsOk K W g H0 Hs0 E D ∧ dl g r f E
structure DS (X : Cx) (st : Stmt) (dl : DTS) : Prop where
  ps : PS X st (sOf X.K (wx X) dl)
structure DSs (X : Cx) (st : List Stmt) (dl : DTS) : Prop where
  ps : PSs X st (sOf X.K (wx X) dl)
theorem DS.sn {X : Cx} {st : Stmt} {dl : DTS} (_ : DS X st dl) : SndS X.K (wx X) (sOf X.K (wx X) dl) dl := fun g H0 Hs0 r f st H D E s e h => ⟨g, H0, Hs0, r, f, E, s, e, h⟩
theorem DSs.sn {X : Cx} {st : List Stmt} {dl : DTS} (_ : DSs X st dl) : SndS X.K (wx X) (sOf X.K (wx X) dl) dl := fun g H0 Hs0 r f st H D E s e h => ⟨g, H0, Hs0, r, f, E, s, e, h⟩
theorem DS.mk' {X : Cx} {st : Stmt} {t : TS} {dl : DTS} (p : PS X st t) (s : SndS X.K (wx X) t dl) : DS X st dl := ⟨⟨fun pins sh st H D I ⟨g, H0, Hs0, r, f, E, h1, h2, h3⟩ => p.run pins sh st H D I (s g H0 Hs0 r f st H D E h1 h2 h3)⟩⟩
theorem DSs.mk' {X : Cx} {st : List Stmt} {t : TS} {dl : DTS} (p : PSs X st t) (s : SndS X.K (wx X) t dl) : DSs X st dl := ⟨⟨fun pins sh st H D I ⟨g, H0, Hs0, r, f, E, h1, h2, h3⟩ => p.run pins sh st H D I (s g H0 Hs0 r f st H D E h1 h2 h3)⟩⟩
/-- the addresses that slots own -/
def Owned (r : Sg) (st : L2.St) (a : Addr) : Prop := ∃ (i : Nat) (s : Sl), r[i]? = some s ∧ s.own = true ∧ st[i]? = some (some (.ref a))
open Classical in
noncomputable def plus (r : Sg) (st : L2.St) (H Hs : Hp) : Hp := fun a => if Owned r st a then H a else Hs a
open Classical in
noncomputable def minus (r : Sg) (st : L2.St) (Hs : Hp) : Hp := fun a => if Owned r st a then none else Hs a
section
variable {X : Cx} {K : PySem.W.Frag} {g : Option Dk} {H0 Hs0 : Hp} {r : Sg} {f f' : Nat} {st : L2.St} {H Hs H' Hs' : Hp}
theorem plus_in {a : Addr} (h : Owned r st a) : plus r st H Hs a = H a := if_pos h
theorem plus_out {a : Addr} (h : ¬ Owned r st a) : plus r st H Hs a = Hs a := if_neg h
theorem minus_in {a : Addr} (h : Owned r st a) : minus r st Hs a = none := if_pos h
theorem minus_out {a : Addr} (h : ¬ Owned r st a) : minus r st Hs a = Hs a := if_neg h
theorem SIn.owned (s : SIn K g H0 Hs0 r f st H Hs) {a : Addr} (h : Owned r st a) : Hs a = none ∧ H0 a = none ∧ ∃ sl, sl.own = true ∧ OwAt K H0 H Hs a sl := by
  obtain ⟨i, sl, h1, h2, h3⟩ := h
  obtain ⟨b, e, h4, h5, h6⟩ := s.ow i sl h1 h2
  rw [h3] at e
  cases e
  exact ⟨h4, h5, sl, h2, h6⟩
theorem OwAt.ld {a : Addr} {sl : Sl} (h : OwAt K H0 H Hs a sl) : ∃ o, H a = some o ∧ isLD o = true := by
  cases sl with
  | ow xs => obtain ⟨vs, h1, _⟩ := h; exact ⟨_, h1, rfl⟩
  | od ks xs => obtain ⟨vs, h1, _⟩ := h; exact ⟨_, h1, rfl⟩
  | ot ks xs => obtain ⟨vs, h1, _⟩ := h; exact ⟨_, h1, rfl⟩
  | oi b c ns xs => obtain ⟨_, C, dx, vs, _, h1, _⟩ := h; exact ⟨_, h1, rfl⟩
  | _ => exact h.elim
theorem SIn.plusSub (s : SIn K g H0 Hs0 r f st H Hs) : Same (plus r st H Hs) H := fun a o h => by
  by_cases e : Owned r st a
  · rw [plus_in e] at h; exact h
  · rw [plus_out e] at h; exact s.stp.sub a o h
theorem SIn.plusExt (s : SIn K g H0 Hs0 r f st H Hs) : Same Hs (plus r st H Hs) := fun a o h => by
  by_cases e : Owned r st a
  · rw [(s.owned e).1] at h; cases h
  · rw [plus_out e]; exact h
theorem SIn.notDk (s : SIn K g H0 Hs0 r f st H Hs) {a : Addr} (h : Owned r st a) : ¬ Dk.has g a := by
  obtain ⟨f0, k⟩ := s.dk0
  exact k.out (s.owned h).2.1
theorem SIn.plusDk (s : SIn K g H0 Hs0 r f st H Hs) : DkOk g H (plus r st H Hs) f := by
  have k := s.dk
  cases g with
  | none => trivial
  | some d =>
    obtain ⟨k0, n1, n2, n3, tb⟩ := k
    refine ⟨k0, ?_, ?_, ?_, tb.to (fun a ha u h1 h2 => ⟨h1, ?_⟩) fun b u hb _ _ => s.plusExt b u hb⟩
    · rw [plus_out fun e => s.notDk e (.inl rfl)]; exact n1
    · rw [plus_out fun e => s.notDk e (.inr (.inl rfl))]; exact n2
    · rw [plus_out fun e => s.notDk e (.inr (.inr (.inl rfl)))]; exact n3
    · rw [plus_out fun e => s.notDk e (.inr (.inr (.inr ha)))]; exact h2
theorem SIn.notOwnedDx (s : SIn K g H0 Hs0 r f st H Hs) {dx a : Addr} (h : H dx = some (.own a)) : ¬ Owned r st dx := fun e => by
  obtain ⟨_, _, sl, _, q⟩ := s.owned e
  obtain ⟨o, ho, ld⟩ := q.ld
  rw [h] at ho
  cases ho
  cases ld
theorem SIn.dkDx (s : SIn K g H0 Hs0 r f st H Hs) {dx : Addr} (h : H0 dx = none) : ¬ Dk.has g dx := by
  obtain ⟨f0, k⟩ := s.dk0
  exact k.out h
/-- the state with all slots to be read -/
theorem SIn.at (s : SIn K g H0 Hs0 r f st H Hs) : At K g r f st H (plus r st H Hs) := ⟨s.plusSub, s.plusDk, s.len, fun i sl d h1 h2 => by
  cases sl with
  | no => cases h2
  | sh e =>
    cases h2
    obtain ⟨v, h3, h4⟩ := s.sh i _ h1
    exact ⟨v, h3, h4.mono s.plusExt⟩
  | ow xs =>
    cases h2
    obtain ⟨a, h3, h4, h5, vs, h6, h7⟩ := s.ow i _ h1 rfl
    exact ⟨.ref a, h3, a, vs, rfl, by rw [plus_in ⟨i, _, h1, rfl, h3⟩]; exact h6, h7.mono s.plusExt⟩
  | od ks xs =>
    cases h2
    obtain ⟨a, h3, h4, h5, vs, h6, h7, h8⟩ := s.ow i _ h1 rfl
    exact ⟨.ref a, h3, a, vs, rfl, by rw [plus_in ⟨i, _, h1, rfl, h3⟩]; exact h6, h7, h8.mono s.plusExt⟩
  | ot ks xs =>
    cases h2
    obtain ⟨a, h3, h4, h5, vs, h6, h7, h8⟩ := s.ow i _ h1 rfl
    exact ⟨.ref a, h3, a, vs, rfl, by rw [plus_in ⟨i, _, h1, rfl, h3⟩]; exact h6, h7, h8.mono s.plusExt⟩
  | oi b c ns xs => cases h2⟩
/-- the slots that own are hidden -/
def hide (r : Sg) : Sg := r.map fun s => if s.own then .no else s
theorem hide_get {i : Nat} : (hide r)[i]? = (r[i]?).map fun s => if s.own then .no else s := by unfold hide; rw [List.getElem?_map]
theorem SIn.atHid (s : SIn K g H0 Hs0 r f st H Hs) : At K g (hide r) f st H Hs := ⟨s.stp.sub, s.dk, by unfold hide; rw [List.length_map]; exact s.len, fun i sl d h1 h2 => by
  rw [hide_get] at h1
  cases e : r[i]? with
  | none => rw [e] at h1; cases h1
  | some u =>
    rw [e] at h1
    cases u with
    | no => cases h1; cases h2
    | sh d' => cases h1; cases h2; exact s.sh i _ e
    | ow xs => cases h1; cases h2
    | od ks xs => cases h1; cases h2
    | ot ks xs => cases h1; cases h2
    | oi b c ns xs => cases h1; cases h2⟩
/-- behind an expression: the shared part without what slots own -/
theorem SIn.after (s : SIn K g H0 Hs0 r f st H Hs) (p : Stp g H (plus r st H Hs) H' Hs') (k : DkOk g H' Hs' f') : SIn K g H0 Hs0 r f' st H' (minus r st Hs') := by
  have ext : Same Hs (minus r st Hs') := fun a o h => by
    have no : ¬ Owned r st a := fun e => by rw [(s.owned e).1] at h; cases h
    rw [minus_out no]
    exact p.ext a o (s.plusExt a o h)
  have keepO : ∀ a, Owned r st a → H' a = H a := fun a e => by
    obtain ⟨_, _, sl, _, q⟩ := s.owned e
    obtain ⟨o, ho, _⟩ := q.ld
    rw [ho]
    exact p.keep a o ho (s.notDk e)
  refine ⟨s.len, s.dk0, ?_, ⟨?_, s.stp.ext.trans ext, fun a o h n => p.keep a o (s.stp.keep a o h n) n, fun a o h => ?_, fun a o h n => ?_⟩, fun i d h => ?_, fun i sl h1 h2 => ?_, s.inj⟩
  · cases g with
    | none => trivial
    | some d =>
      obtain ⟨k0, n1, n2, n3, tb⟩ := k
      refine ⟨k0, ?_, ?_, ?_, tb.to (fun a ha u h1 h2 => ⟨h1, ?_⟩) fun b u hb _ hc => ?_⟩
      · rw [minus_out fun e => s.notDk e (.inl rfl)]; exact n1
      · rw [minus_out fun e => s.notDk e (.inr (.inl rfl))]; exact n2
      · rw [minus_out fun e => s.notDk e (.inr (.inr (.inl rfl)))]; exact n3
      · rw [minus_out fun e => s.notDk e (.inr (.inr (.inr ha)))]; exact h2
      · obtain ⟨q, rfl⟩ := hc
        rw [minus_out fun e => ?_]
        · exact hb
        · obtain ⟨_, _, sl, _, q'⟩ := s.owned e
          obtain ⟨o, ho, ld⟩ := q'.ld
          have h1 := p.keep b o ho (s.notDk e)
          rw [p.sub b _ hb] at h1
          cases h1
          unfold LamX.CodeO at ld
          cases ld
  · intro a o h
    by_cases e : Owned r st a
    · rw [minus_in e] at h; cases h
    · rw [minus_out e] at h; exact p.sub a o h
  · obtain ⟨o', h'⟩ := s.stp.there a o h
    exact p.there a o' h'
  · by_cases e : Owned r st a
    · exact minus_in e
    · rw [minus_out e]
      obtain ⟨o', h'⟩ := s.stp.there a o h
      refine p.new a o' h' ?_
      rw [plus_out e]
      exact s.stp.new a o h n
  · obtain ⟨v, h3, h4⟩ := s.sh i d h
    exact ⟨v, h3, h4.mono ext⟩
  · obtain ⟨a, h3, h4, h5, h6⟩ := s.ow i sl h1 h2
    have e : Owned r st a := ⟨i, sl, h1, h2, h3⟩
    refine ⟨a, h3, minus_in e, h5, ?_⟩
    cases sl with
    | ow xs => obtain ⟨vs, q1, q2⟩ := h6; exact ⟨vs, by rw [keepO a e]; exact q1, q2.mono ext⟩
    | od ks xs => obtain ⟨vs, q1, q2, q3⟩ := h6; exact ⟨vs, by rw [keepO a e]; exact q1, q2, q3.mono ext⟩
    | ot ks xs => obtain ⟨vs, q1, q2, q3⟩ := h6; exact ⟨vs, by rw [keepO a e]; exact q1, q2, q3.mono ext⟩
    | oi b c ns xs =>
      obtain ⟨qa, C, dx, vs, q0, q1, q2, q3, q4, q5, q6⟩ := h6
      have nd := s.notOwnedDx q2
      exact ⟨qa, C, dx, vs, q0, by rw [keepO a e]; exact q1, p.keep dx _ q2 (s.dkDx q4), by rw [minus_out nd]; exact p.new dx _ q2 (by rw [plus_out nd]; exact q3), q4, q5, q6.mono ext⟩
    | _ => exact h6.elim
theorem SIn.afterHid (s : SIn K g H0 Hs0 r f st H Hs) (p : Stp g H Hs H' Hs') (k : DkOk g H' Hs' f') : SIn K g H0 Hs0 r f' st H' Hs' := by
  have keepO : ∀ a, Owned r st a → H' a = H a := fun a e => by
    obtain ⟨_, _, sl, _, q⟩ := s.owned e
    obtain ⟨o, ho, _⟩ := q.ld
    rw [ho]
    exact p.keep a o ho (s.notDk e)
  refine ⟨s.len, s.dk0, k, s.stp.trans p, fun i d h => ?_, fun i sl h1 h2 => ?_, s.inj⟩
  · obtain ⟨v, h3, h4⟩ := s.sh i d h
    exact ⟨v, h3, h4.mono p.ext⟩
  · obtain ⟨a, h3, h4, h5, h6⟩ := s.ow i sl h1 h2
    have e : Owned r st a := ⟨i, sl, h1, h2, h3⟩
    obtain ⟨o, ho, _⟩ := h6.ld
    refine ⟨a, h3, p.new a o ho h4, h5, ?_⟩
    cases sl with
    | ow xs => obtain ⟨vs, q1, q2⟩ := h6; exact ⟨vs, by rw [keepO a e]; exact q1, q2.mono p.ext⟩
    | od ks xs => obtain ⟨vs, q1, q2, q3⟩ := h6; exact ⟨vs, by rw [keepO a e]; exact q1, q2, q3.mono p.ext⟩
    | ot ks xs => obtain ⟨vs, q1, q2, q3⟩ := h6; exact ⟨vs, by rw [keepO a e]; exact q1, q2, q3.mono p.ext⟩
    | oi b c ns xs =>
      obtain ⟨qa, C, dx, vs, q0, q1, q2, q3, q4, q5, q6⟩ := h6
      exact ⟨qa, C, dx, vs, q0, by rw [keepO a e]; exact q1, p.keep dx _ q2 (s.dkDx q4), p.new dx _ q2 q3, q4, q5, q6.mono p.ext⟩
    | _ => exact h6.elim
theorem SIn.flatV (s : SIn K g H0 Hs0 r f st H Hs) (p : Stp g H (plus r st H Hs) H' Hs') {d : D} {v : V} (fl : d.flat = true) (h : Rp K Hs' d v) : Rp K (minus r st Hs') d v :=
  h.flat (fun a o e l => by
    by_cases q : Owned r st a
    · obtain ⟨_, _, sl, _, w⟩ := s.owned q
      obtain ⟨o', ho, ld⟩ := w.ld
      have := p.keep a o' ho (s.notDk q)
      rw [p.sub a o e] at this
      cases this
      rw [ld] at l
      cases l
    · rw [minus_out q]; exact e) d v fl
/-- a slot is stored -/
theorem SIn.set (s : SIn K g H0 Hs0 r f st H Hs) (i : Nat) {d : D} {v : V} (h : Rp K Hs d v) : SIn K g H0 Hs0 (r.set i (.sh d)) f (st.set i (some v)) H Hs := by
  have low : ∀ (j : Nat) (u : Sl), (r.set i (.sh d))[j]? = some u → (j = i ∧ u = .sh d ∧ i < r.length) ∨ (j ≠ i ∧ r[j]? = some u) := fun j u e => by
    by_cases q : i = j
    · subst q
      by_cases hl : i < r.length
      · rw [List.getElem?_set_self hl] at e
        cases e
        exact .inl ⟨rfl, rfl, hl⟩
      · rw [List.getElem?_eq_none (by simpa using hl)] at e
        cases e
    · rw [List.getElem?_set_ne q] at e
      exact .inr ⟨fun z => q z.symm, e⟩
  refine ⟨by simp [s.len], s.dk0, s.dk, s.stp, fun j e hj => ?_, fun j u hj ho => ?_, fun j l u w a hj hl ho ho' h1 h2 => ?_⟩
  · rcases low j _ hj with ⟨rfl, q, hl⟩ | ⟨hne, q⟩
    · cases q
      exact ⟨v, List.getElem?_set_self (s.len ▸ hl), h⟩
    · rw [List.getElem?_set_ne (fun z => hne z.symm)]
      exact s.sh j e q
  · rcases low j u hj with ⟨rfl, q, hl⟩ | ⟨hne, q⟩
    · subst q; cases ho
    · rw [List.getElem?_set_ne (fun z => hne z.symm)]
      exact s.ow j u q ho
  · rcases low j u hj with ⟨rfl, q, hl'⟩ | ⟨hne, q⟩
    · subst q; cases ho
    · rcases low l w hl with ⟨rfl, q', hl'⟩ | ⟨hne', q'⟩
      · subst q'; cases ho'
      · rw [List.getElem?_set_ne (fun z => hne z.symm)] at h1
        rw [List.getElem?_set_ne (fun z => hne' z.symm)] at h2
        exact s.inj j l u w a q q' ho ho' h1 h2
theorem SIn.sets : ∀ {l : List (Nat × D)} {vs : List V} {r : Sg} {st : L2.St}, SIn K g H0 Hs0 r f st H Hs → RpA K Hs (l.map (·.2)) vs → SIn K g H0 Hs0 (setsR r l) f (setsV st (l.map (·.1)) vs) H Hs
  | [], _, _, _, h, _ => by
    have e : ∀ (st : L2.St) (vs : List V), setsV st [] vs = st := fun st vs => by cases vs <;> rfl
    show SIn K g H0 Hs0 _ f (setsV _ [] _) H Hs
    rw [e]
    exact h
  | (i, d) :: l, _, r, st, h, ⟨v, vr, h1, h2, h3⟩ => by
    subst h1
    show SIn K g H0 Hs0 (setsR (r.set i (.sh d)) l) f (setsV (st.set i (some v)) (l.map (·.1)) vr) H Hs
    exact SIn.sets (SIn.set h i h2) h3
/-- an object that is new belongs to a slot -/
theorem SIn.setOwn (s : SIn K g H0 Hs0 r f st H Hs) (i : Nat) {a : Addr} {u : Sl} (hu : u.own = true) (n0 : H0 a = none) (n1 : Hs a = none) (no : ∀ j s, j ≠ i → r[j]? = some s → s.own = true → st[j]? ≠ some (some (.ref a))) (h : OwAt K H0 H Hs a u) :
    SIn K g H0 Hs0 (r.set i u) f (st.set i (some (.ref a))) H Hs := by
  have low : ∀ (j : Nat) (w : Sl), (r.set i u)[j]? = some w → (j = i ∧ w = u ∧ i < r.length) ∨ (j ≠ i ∧ r[j]? = some w) := fun j w e => by
    by_cases q : i = j
    · subst q
      by_cases hl : i < r.length
      · rw [List.getElem?_set_self hl] at e
        cases e
        exact .inl ⟨rfl, rfl, hl⟩
      · rw [List.getElem?_eq_none (by simpa using hl)] at e
        cases e
    · rw [List.getElem?_set_ne q] at e
      exact .inr ⟨fun z => q z.symm, e⟩
  have self : ∀ {l : Nat}, l < r.length → (st.set l (some (.ref a)))[l]? = some (some (V.ref a)) := fun hl => List.getElem?_set_self (s.len ▸ hl)
  refine ⟨by simp [s.len], s.dk0, s.dk, s.stp, fun j e hj => ?_, fun j w hj ho => ?_, fun j l w w' b hj hl ho ho' h1 h2 => ?_⟩
  · rcases low j _ hj with ⟨rfl, q, hl⟩ | ⟨hne, q⟩
    · rw [← q] at hu; cases hu
    · rw [List.getElem?_set_ne (fun z => hne z.symm)]
      exact s.sh j e q
  · rcases low j w hj with ⟨rfl, q, hl⟩ | ⟨hne, q⟩
    · subst q
      exact ⟨a, self hl, n1, n0, h⟩
    · rw [List.getElem?_set_ne (fun z => hne z.symm)]
      exact s.ow j w q ho
  · rcases low j w hj with ⟨rfl, q, hl1⟩ | ⟨hne, q⟩
    · rcases low l w' hl with ⟨rfl, q', hl2⟩ | ⟨hne', q'⟩
      · rfl
      · rw [self hl1] at h1
        cases h1
        rw [List.getElem?_set_ne (fun z => hne' z.symm)] at h2
        exact absurd h2 (no l w' hne' q' ho')
    · rw [List.getElem?_set_ne (fun z => hne z.symm)] at h1
      rcases low l w' hl with ⟨rfl, q', hl2⟩ | ⟨hne', q'⟩
      · rw [self hl2] at h2
        cases h2
        exact absurd h1 (no j w hne q ho)
      · rw [List.getElem?_set_ne (fun z => hne' z.symm)] at h2
        exact s.inj j l w w' b q q' ho ho' h1 h2
/-- an owned object is changed -/
theorem SIn.mutOwn (s : SIn K g H0 Hs0 r f st H Hs) {i : Nat} {a : Addr} {w u : Sl} {o : HO} (hw : r[i]? = some w) (how : w.own = true) (hst : st[i]? = some (some (.ref a))) (hu : u.own = true) (h : OwAt K H0 (upd H a o) Hs a u) :
    SIn K g H0 Hs0 (r.set i u) f st (upd H a o) Hs := by
  have ho : Owned r st a := ⟨i, w, hw, how, hst⟩
  obtain ⟨n1, n0, _⟩ := s.owned ho
  have hil : i < r.length := (List.getElem?_eq_some_iff.mp hw).1
  have low : ∀ (j : Nat) (w : Sl), (r.set i u)[j]? = some w → (j = i ∧ w = u) ∨ (j ≠ i ∧ r[j]? = some w) := fun j w e => by
    by_cases q : i = j
    · subst q
      rw [List.getElem?_set_self hil] at e
      cases e
      exact .inl ⟨rfl, rfl⟩
    · rw [List.getElem?_set_ne q] at e
      exact .inr ⟨fun z => q z.symm, e⟩
  refine ⟨by simp [s.len], s.dk0, s.dk.mut (s.notDk ho), s.stp.mut n0 n1, fun j e hj => ?_, fun j w' hj ho' => ?_, fun j l x y b hj hl ho1 ho2 h1 h2 => ?_⟩
  · rcases low j _ hj with ⟨rfl, q⟩ | ⟨hne, q⟩
    · rw [← q] at hu; cases hu
    · exact s.sh j e q
  · rcases low j w' hj with ⟨rfl, q⟩ | ⟨hne, q⟩
    · subst q
      exact ⟨a, hst, n1, n0, h⟩
    · obtain ⟨b, h3, h4, h5, h6⟩ := s.ow j w' q ho'
      have hab : b ≠ a := fun e => by
        subst e
        exact hne (s.inj j i w' w b q hw ho' how h3 hst)
      refine ⟨b, h3, h4, h5, ?_⟩
      cases w' with
      | ow xs => obtain ⟨vs, q1, q2⟩ := h6; exact ⟨vs, by rw [upd_ne hab]; exact q1, q2⟩
      | od ks xs => obtain ⟨vs, q1, q2⟩ := h6; exact ⟨vs, by rw [upd_ne hab]; exact q1, q2⟩
      | ot ks xs => obtain ⟨vs, q1, q2⟩ := h6; exact ⟨vs, by rw [upd_ne hab]; exact q1, q2⟩
      | oi b c ns xs =>
        obtain ⟨qa, C, dx, vs, q0, q1, q2, q3⟩ := h6
        have hda : dx ≠ a := fun z => s.notOwnedDx q2 (z ▸ ho)
        exact ⟨qa, C, dx, vs, q0, by rw [upd_ne hab]; exact q1, by rw [upd_ne hda]; exact q2, q3⟩
      | _ => exact h6.elim
  · have hx : ∃ x', r[j]? = some x' ∧ x'.own = true := by
      rcases low j x hj with ⟨rfl, _⟩ | ⟨_, q⟩
      · exact ⟨w, hw, how⟩
      · exact ⟨x, q, ho1⟩
    have hy : ∃ x', r[l]? = some x' ∧ x'.own = true := by
      rcases low l y hl with ⟨rfl, _⟩ | ⟨_, q⟩
      · exact ⟨w, hw, how⟩
      · exact ⟨y, q, ho2⟩
    obtain ⟨x', hx1, hx2⟩ := hx
    obtain ⟨y', hy1, hy2⟩ := hy
    exact s.inj j l x' y' b hx1 hy1 hx2 hy2 h1 h2
/-- what a slot owns is shared from now on -/
def frz1 : Sl → Sl
  | .ow xs => .sh (.lst xs)
  | .od ks xs => .sh (.dct ks xs)
  | .ot ks xs => .sh (.dtt ks xs)
  | s => s
def frz (r : Sg) (l : List Nat) : Sg := l.foldl (fun r i => match r[i]? with | some s => r.set i (frz1 s) | none => r) r
theorem SIn.frz1 (s : SIn K g H0 Hs0 r f st H Hs) {i : Nat} {w : Sl} (hw : r[i]? = some w) : ∃ Hs', SIn K g H0 Hs0 (r.set i (frz1 w)) f st H Hs' := by
  have same : ∀ w', w = w' → (r.set i w') = r := fun w' e => by
    subst e
    obtain ⟨hl, e⟩ := List.getElem?_eq_some_iff.mp hw
    rw [← e, List.set_getElem_self]
  by_cases hoi : DL.frz1 w = w
  · rw [hoi, same w rfl]; exact ⟨Hs, s⟩
  by_cases how : w.own = true
  · obtain ⟨a, hst, n1, n0, hat⟩ := s.ow i w hw how
    obtain ⟨o, ho, ld⟩ := hat.ld
    have own : Owned r st a := ⟨i, w, hw, how, hst⟩
    have ext : Same Hs (upd Hs a o) := fun b u e => by rw [upd_ne (ne_of_none e n1)]; exact e
    have hil : i < r.length := (List.getElem?_eq_some_iff.mp hw).1
    have hd : ∃ d, DL.frz1 w = .sh d ∧ Rp K (upd Hs a o) d (.ref a) := by
      cases w with
      | ow xs =>
        obtain ⟨vs, q1, q2⟩ := hat
        rw [q1] at ho; cases ho
        exact ⟨_, rfl, a, vs, rfl, upd_same, q2.mono ext⟩
      | od ks xs =>
        obtain ⟨vs, q1, q2, q3⟩ := hat
        rw [q1] at ho; cases ho
        exact ⟨_, rfl, a, vs, rfl, upd_same, q2, q3.mono ext⟩
      | ot ks xs =>
        obtain ⟨vs, q1, q2, q3⟩ := hat
        rw [q1] at ho; cases ho
        exact ⟨_, rfl, a, vs, rfl, upd_same, q2, q3.mono ext⟩
      | oi b c ns xs => exact absurd rfl hoi
      | _ => cases how
    obtain ⟨d, ed, hd⟩ := hd
    rw [ed]
    have low : ∀ (j : Nat) (w' : Sl), (r.set i (.sh d))[j]? = some w' → (j = i ∧ w' = .sh d) ∨ (j ≠ i ∧ r[j]? = some w') := fun j w' e => by
      by_cases q : i = j
      · subst q
        rw [List.getElem?_set_self hil] at e
        cases e
        exact .inl ⟨rfl, rfl⟩
      · rw [List.getElem?_set_ne q] at e
        exact .inr ⟨fun z => q z.symm, e⟩
    refine ⟨upd Hs a o, by simp [s.len], s.dk0, s.dk.share (s.notDk own) n1, s.stp.share n0 ho n1, fun j e hj => ?_, fun j w' hj ho' => ?_, fun j l x y b hj hl ho1 ho2 h1 h2 => ?_⟩
    · rcases low j _ hj with ⟨rfl, q⟩ | ⟨hne, q⟩
      · cases q
        exact ⟨.ref a, hst, hd⟩
      · obtain ⟨v, h3, h4⟩ := s.sh j e q
        exact ⟨v, h3, h4.mono ext⟩
    · rcases low j w' hj with ⟨rfl, q⟩ | ⟨hne, q⟩
      · subst q; cases ho'
      · obtain ⟨b, h3, h4, h5, h6⟩ := s.ow j w' q ho'
        have hab : b ≠ a := fun e => by
          subst e
          exact hne (s.inj j i w' w b q hw ho' how h3 hst)
        refine ⟨b, h3, by rw [upd_ne hab]; exact h4, h5, ?_⟩
        cases w' with
        | ow xs => obtain ⟨vs, q1, q2⟩ := h6; exact ⟨vs, q1, q2.mono ext⟩
        | od ks xs => obtain ⟨vs, q1, q2, q3⟩ := h6; exact ⟨vs, q1, q2, q3.mono ext⟩
        | ot ks xs => obtain ⟨vs, q1, q2, q3⟩ := h6; exact ⟨vs, q1, q2, q3.mono ext⟩
        | oi b c ns xs =>
          obtain ⟨qa, C, dx, vs, q0, q1, q2, q3, q4, q5, q6⟩ := h6
          have hda : dx ≠ a := fun z => s.notOwnedDx q2 (z ▸ own)
          exact ⟨qa, C, dx, vs, q0, q1, q2, by rw [upd_ne hda]; exact q3, q4, q5, q6.mono ext⟩
        | _ => exact h6.elim
    · rcases low j x hj with ⟨rfl, q⟩ | ⟨_, q⟩
      · subst q; cases ho1
      · rcases low l y hl with ⟨rfl, q'⟩ | ⟨_, q'⟩
        · subst q'; cases ho2
        · exact s.inj j l x y b q q' ho1 ho2 h1 h2
  · have : DL.frz1 w = w := by cases w <;> first | rfl | exact absurd rfl how
    rw [this, same w rfl]
    exact ⟨Hs, s⟩
theorem SIn.frz : ∀ (l : List Nat) {r : Sg} {Hs : Hp}, SIn K g H0 Hs0 r f st H Hs → ∃ Hs', SIn K g H0 Hs0 (frz r l) f st H Hs'
  | [], _, _, s => ⟨_, s⟩
  | i :: l, r, Hs, s => by
    show ∃ Hs', SIn K g H0 Hs0 (DL.frz (match r[i]? with | some s => r.set i (DL.frz1 s) | none => r) l) f st H Hs'
    cases e : r[i]? with
    | none => exact SIn.frz l s
    | some w =>
      obtain ⟨Hs1, s1⟩ := s.frz1 e
      exact SIn.frz l s1
end
end DL
namespace DL
open PySem PySem.Spec PyProof.Rows L2
section
variable {X : Cx} {K : PySem.W.Frag} {W : WX}
theorem SIn.stpPlus {g : Option Dk} {H0 Hs0 : Hp} {r : Sg} {f : Nat} {st : L2.St} {H Hs : Hp} (s : SIn K g H0 Hs0 r f st H Hs) : Stp g H0 Hs0 H (plus r st H Hs) where
  sub := s.plusSub
  ext := s.stp.ext.trans s.plusExt
  keep := s.stp.keep
  there := s.stp.there
  new := fun a o h n => by
    have no : ¬ Owned r st a := fun e => by rw [(s.owned e).2.1] at h; cases h
    rw [plus_out no]
    exact s.stp.new a o h n
theorem SIn.afterExt {g : Option Dk} {H0 Hs0 : Hp} {r : Sg} {f : Nat} {st : L2.St} {H Hs H' Hs' : Hp} (s : SIn K g H0 Hs0 r f st H Hs) (p : Stp g H (plus r st H Hs) H' Hs') : Same Hs (minus r st Hs') := fun a o h => by
  have no : ¬ Owned r st a := fun e => by rw [(s.owned e).1] at h; cases h
  rw [minus_out no]
  exact p.ext a o (s.plusExt a o h)
/-! another base: what is shared now is to stay -/
def mix (Hb H0 : Hp) : Hp := fun a => match Hb a with
  | some o => some o
  | none => H0 a
theorem mix_some {Hb H0 : Hp} {a : Addr} {o : HO} (h : Hb a = some o) : mix Hb H0 a = some o := by unfold mix; rw [h]
theorem mix_none {Hb H0 : Hp} {a : Addr} (h : Hb a = none) : mix Hb H0 a = H0 a := by unfold mix; rw [h]
theorem Stp.unmix {g : Option Dk} {H0 Hs0 H1 Hb H Hs : Hp} (p : Stp g H0 Hs0 H1 Hb) (q : Stp g (mix Hb H0) Hb H Hs) : Stp g H0 Hs0 H Hs where
  sub := q.sub
  ext := p.ext.trans q.ext
  keep := fun a o h n => by
    cases e : Hb a with
    | none => exact q.keep a o (by rw [mix_none e]; exact h) n
    | some o' =>
      have e1 := p.keep a o h n
      rw [p.sub a o' e] at e1
      cases e1
      exact q.keep a o (mix_some e) n
  there := fun a o h => by
    cases e : Hb a with
    | none => exact q.there a o (by rw [mix_none e]; exact h)
    | some o' => exact q.there a o' (mix_some e)
  new := fun a o h n => by
    have nb := p.new a o h n
    exact q.new a o (by rw [mix_none nb]; exact h) nb
theorem OwAt.reb {H0 H0' H Hs : Hp} {a : Addr} {sl : Sl} (e : ∀ dx, H0 dx = none → Hs dx = none → H0' dx = none) (h : OwAt K H0 H Hs a sl) : OwAt K H0' H Hs a sl := by
  cases sl with
  | oi b c ns xs =>
    obtain ⟨qa, C, dx, vs, q0, q1, q2, q3, q4, q5⟩ := h
    exact ⟨qa, C, dx, vs, q0, q1, q2, q3, e dx q4 q3, q5⟩
  | _ => exact h
theorem SIn.rebase {g : Option Dk} {H0 Hs0 Hb : Hp} {r : Sg} {f : Nat} {st : L2.St} {H Hs : Hp} (s : SIn K g H0 Hs0 r f st H Hs) (h1 : Same Hs0 Hb) (h2 : Same Hb Hs) : SIn K g (mix Hb H0) Hb r f st H Hs where
  len := s.len
  dk0 := by
    obtain ⟨f0, k⟩ := s.dk0
    refine ⟨f0, ?_⟩
    have kk := s.dk
    cases g with
    | none => trivial
    | some d =>
      obtain ⟨_, m1, m2, m3, tk⟩ := kk
      have n1 := same_none h2 m1
      have n2 := same_none h2 m2
      have n3 := same_none h2 m3
      obtain ⟨⟨e1, e2, e3, n', xs, ys, k1, k2, k3, k4⟩, _, _, _, tb⟩ := k
      refine ⟨⟨e1, e2, e3, n', xs, ys, by rw [mix_none n1]; exact k1, by rw [mix_none n2]; exact k2, by rw [mix_none n3]; exact k3, k4⟩, n1, n2, n3, tb.to (fun a ha u q1 _ => ?_) fun b u hb _ _ => h1 b u hb⟩
      obtain ⟨p, hp, rfl⟩ := List.mem_map.mp ha
      have n4 := same_none h2 (tk.at_ p hp).1
      exact ⟨by rw [mix_none n4]; exact q1, n4⟩
  dk := s.dk
  stp := by
    refine ⟨s.stp.sub, h2, fun a o h n => ?_, fun a o h => ?_, fun a o h n => ?_⟩
    · cases e : Hb a with
      | none => rw [mix_none e] at h; exact s.stp.keep a o h n
      | some o' => rw [mix_some e] at h; cases h; exact s.stp.sub a o (h2 a o e)
    · cases e : Hb a with
      | none => rw [mix_none e] at h; exact s.stp.there a o h
      | some o' => exact ⟨o', s.stp.sub a o' (h2 a o' e)⟩
    · rw [mix_none n] at h
      exact s.stp.new a o h (same_none h1 n)
  sh := s.sh
  ow := fun i sl hi ho => by
    obtain ⟨a, q1, q2, q3, q4⟩ := s.ow i sl hi ho
    exact ⟨a, q1, q2, by rw [mix_none (same_none h2 q2)]; exact q3, q4.reb fun dx z1 z2 => by rw [mix_none (same_none h2 z2)]; exact z1⟩
  inj := s.inj
theorem SIn.unbase {g : Option Dk} {H0 Hs0 H1 Hb : Hp} {r : Sg} {f : Nat} {st : L2.St} {H Hs : Hp} (p : Stp g H0 Hs0 H1 Hb) (k : ∃ f0, DkOk g H0 Hs0 f0) (s : SIn K g (mix Hb H0) Hb r f st H Hs) : SIn K g H0 Hs0 r f st H Hs where
  len := s.len
  dk0 := k
  dk := s.dk
  stp := p.unmix s.stp
  sh := s.sh
  ow := fun i sl hi ho => by
    obtain ⟨a, q1, q2, q3, q4⟩ := s.ow i sl hi ho
    exact ⟨a, q1, q2, by rw [mix_none (same_none s.stp.ext q2)] at q3; exact q3, q4.reb fun dx z1 z2 => by rw [mix_none (same_none s.stp.ext z2)] at z1; exact z1⟩
  inj := s.inj
/-- an expression's value, flat with all slots in sight (true), or any with the owning slots hidden (false) -/
def evM (m : Bool) (dl : DT) : DT := fun g r f Q => match m with
  | true => dl g r f fun d f' => d.flat = true ∧ Q d f'
  | false => dl g (hide r) f Q
theorem snd_evM {t : TE} {dl : DT} (h : Snd K t dl) {m : Bool} {g : Option Dk} {H0 Hs0 : Hp} {r : Sg} {f : Nat} {st : L2.St} {H Hs : Hp} {Q : VK} {Q' : QD} (s : SIn K g H0 Hs0 r f st H Hs)
    (hq : ∀ d f' v H' Hs', SIn K g H0 Hs0 r f' st H' Hs' → Same Hs Hs' → Rp K Hs' d v → Q' d f' → Q v H') (hd : evM m dl g r f Q') : t st H Q := by
  cases m with
  | true => exact h g r f st H _ Q _ s.at (fun d f' v H' Hs' p k hr q => hq d f' v H' _ (s.after p k) (s.afterExt p) (s.flatV p q.1 hr) q.2) hd
  | false => exact h g (hide r) f st H _ Q Q' s.atHid (fun d f' v H' Hs' p k hr q => hq d f' v H' _ (s.afterHid p k) p.ext hr q) hd
/-- a new list's items, flat with all slots in sight, or any with the owning slots hidden -/
def evL (m : Bool) (dl : DTA) : DTA := fun g r f Q => match m with
  | true => dl g r f fun ds f' => flatA ds = true ∧ Q ds f'
  | false => dl g (hide r) f Q
theorem Stp.none0 {g : Option Dk} {H Hs H' Hs' : Hp} (s : Stp g H Hs H' Hs') {p : Addr} (h : H' p = none) : H p = none := none_back s h
theorem snd_evL {t : TE} {dl : DTA} (h : SndL K t dl) {m : Bool} {g : Option Dk} {H0 Hs0 : Hp} {r : Sg} {f : Nat} {st : L2.St} {H Hs : Hp} {Q : VK} {Q' : List D → Nat → Prop} (s : SIn K g H0 Hs0 r f st H Hs)
    (hq : ∀ ds f' p vs H' Hs', SIn K g H0 Hs0 r f' st H' Hs' → H p = none → Hs' p = none → H0 p = none → H' p = some (.lst vs) → RpA K Hs' ds vs → (∀ (j : Nat) (sl : Sl), r[j]? = some sl → sl.own = true → st[j]? ≠ some (some (.ref p))) → Q' ds f' → Q (.ref p) H') (hd : evL m dl g r f Q') : t st H Q := by
  have notO : ∀ p, H p = none → ∀ (j : Nat) (sl : Sl), r[j]? = some sl → sl.own = true → st[j]? ≠ some (some (.ref p)) := fun p hp j sl h1 h2 h3 => by
    obtain ⟨a, e, _, _, q⟩ := s.ow j sl h1 h2
    rw [h3] at e
    cases e
    obtain ⟨o, ho, _⟩ := q.ld
    rw [hp] at ho; cases ho
  cases m with
  | true => exact h g r f st H _ Q _ s.at (fun ds f' p vs H' Hs' sp k n0 n1 e hr q => by
      have no : ¬ Owned r st p := fun ⟨j, sl, h1, h2, h3⟩ => notO p n0 j sl h1 h2 h3
      refine hq ds f' p vs H' _ (s.after sp k) n0 (by rw [minus_out no]; exact n1) (s.stp.none0 n0) e ?_ (notO p n0) q.2
      exact hr.flat (fun a o e l => by
        by_cases w : Owned r st a
        · obtain ⟨_, _, sl, _, u⟩ := s.owned w
          obtain ⟨o', ho, ld⟩ := u.ld
          have := sp.keep a o' ho (s.notDk w)
          rw [sp.sub a o e] at this
          cases this
          rw [ld] at l
          cases l
        · rw [minus_out w]; exact e) ds vs q.1) hd
  | false => exact h g (hide r) f st H _ Q Q' s.atHid (fun ds f' p vs H' Hs' sp k n0 n1 e hr q => hq ds f' p vs H' _ (s.afterHid sp k) n0 n1 (s.stp.none0 n0) e hr (notO p n0) q) hd
/-! blocks -/
def sNext : DTS := fun _ r f E => E.nx r f
def sSeq (a b : DTS) : DTS := fun g r f E => a g r f { E with nx := fun r' f' => b g r' f' E }
theorem dss_nil : DSs X [] sNext := .mk' (pss_nil) (fun g H0 Hs0 r f st H D E s e h => e.nx r f st H s h)
theorem dss_one {st : Stmt} {d : DTS} (h : DS X st d) : DSs X [st] d := .mk' (pss_one h.ps) (h.sn)
theorem dss_cons {st : Stmt} {rest : List Stmt} {d e : DTS} (h1 : DS X st d) (h2 : DSs X rest e) : DSs X (st :: rest) (sSeq d e) := .mk' (pss_cons h1.ps h2.ps) (fun g H0 Hs0 r f st H D E s e h =>
  h1.sn g H0 Hs0 r f st H _ { E with nx := fun r' f' => _ } s ⟨fun r' f' st' H' s' h' => h2.sn g H0 Hs0 r' f' st' H' D E s' e h', e.rt, e.bk, e.ct, e.xc⟩ h)
def sNever : DTS := fun _ _ _ _ => False
theorem ds_never {st : Stmt} : DS X st sNever := .mk' (ps_never) (fun _ _ _ _ _ _ _ _ _ _ _ h => h)
def sIf (c : DTT) (a b : DTS) : DTS := fun g r f E => c g r f fun k f1 => if k = true then a g r f1 E else b g r f1 E
theorem ds_if {c : Expr} {a b : List Stmt} {pos : Pos} {dc : DTT} {d e : DTS} (hc : DP X c dc) (ha : DSs X a d) (hb : DSs X b e) : DS X (.If c a b pos) (sIf dc d e) := .mk' (ps_if hc.pt ha.ps hb.ps) (fun g H0 Hs0 r f st H D E s e h => by
  obtain ⟨Hs, s⟩ := s
  refine hc.sn g r f st H _ _ _ s.at (fun k f1 H1 Hs1 s1 k1 q1 => ?_) h
  cases k with
  | true => exact ha.sn g H0 Hs0 r f1 st H1 D E ⟨_, s.after s1 k1⟩ e q1
  | false => exact hb.sn g H0 Hs0 r f1 st H1 D E ⟨_, s.after s1 k1⟩ e q1)
def sRet (dl : DT) : DTS := fun g r f E => dl g r f E.rt
theorem ds_ret {e : Expr} {pos : Pos} {d : DT} (h : DE X e d) : DS X (.Return (some e) pos) (sRet d) := .mk' (ps_ret h.pe) (fun g H0 Hs0 r f st H D E s e hd => by
  obtain ⟨Hs, s⟩ := s
  exact h.sn g r f st H _ _ _ s.at (fun d f1 v H1 Hs1 s1 k1 r1 q1 => e.rt d f1 v H1 Hs1 (s.stpPlus.trans s1) k1 r1 q1) hd)
/-! assignments -/
def sSet (m : Bool) (i : Nat) (dl : DT) : DTS := fun g r f E => evM m dl g r f fun d f' => E.nx (r.set i (.sh d)) f'
theorem snd_set {m : Bool} {i : Nat} {t : TE} {d : DT} (h : Snd K t d) : SndS K W (tAsg t (gName i)) (sSet m i d) := fun g H0 Hs0 r f st H D E s e hd => by
  obtain ⟨Hs, s⟩ := s
  exact snd_evM h s (fun d f' v H' Hs' s' _ hr q => e.nx _ f' _ H' ⟨_, s'.set i hr⟩ q) hd
theorem ds_set (m : Bool) {i : Nat} {x : Str} {e : Expr} {pos pos' : Pos} {d : DT} (hN : X.N.Nodup) (h : DE X e d) (hi : X.N[i]? = some x := by rfl) (hx : Loc X.env.scope x := by first | exact Or.inl rfl | exact Or.inr rfl)
    (hs : swapsWith e (some (.Name x pos')) pos.line X.env = pure false := by rfl) (hf : X.fn x = true ∨ X.env.scope.names.lookup x = some .local := by first | exact .inl rfl | exact .inr rfl | assumption) :
    DS X (.Assign [.Name x pos'] e pos) (sSet m i d) := .mk' (ps_set hN hi hx h.pe hs hf) (snd_set h.sn)
def sSetL (m : Bool) (i : Nat) (dl : DTA) : DTS := fun g r f E => evL m dl g r f fun ds f' => E.nx (r.set i (.ow ds)) f'
theorem snd_setL {m : Bool} {i : Nat} {t : TE} {d : DTA} (h : SndL K t d) : SndS K W (tAsg t (gName i)) (sSetL m i d) := fun g H0 Hs0 r f st H D E s e hd => by
  obtain ⟨Hs, s⟩ := s
  exact snd_evL h s (fun ds f' p vs H' Hs' s' n n1 n0 hp hr no q => e.nx _ f' _ H' ⟨_, s'.setOwn i (u := .ow ds) rfl n0 n1 (fun j sl _ h1 h2 => no j sl h1 h2) ⟨vs, hp, hr⟩⟩ q) hd
theorem ds_setL (m : Bool) {i : Nat} {x : Str} {e : Expr} {pos pos' : Pos} {d : DTA} (hN : X.N.Nodup) (h : DL' X e d) (hi : X.N[i]? = some x := by rfl) (hx : Loc X.env.scope x := by first | exact Or.inl rfl | exact Or.inr rfl)
    (hs : swapsWith e (some (.Name x pos')) pos.line X.env = pure false := by rfl) (hf : X.fn x = true ∨ X.env.scope.names.lookup x = some .local := by first | exact .inl rfl | exact .inr rfl | assumption) :
    DS X (.Assign [.Name x pos'] e pos) (sSetL m i d) := .mk' (ps_set hN hi hx h.pe hs hf) (snd_setL h.sn)
/-- y = [..] on one line -/
theorem ds_setLc {i : Nat} {y : Str} {py : Pos} {elt tg iter : Expr} {ifs : List Expr} {scope : Scope} {own : List (Str × Nat)} {pos spos : Pos} {is : List Nat} {di : DTA} {t : TgF} {c : DTT} {e : DT} {dl : DTS} (hN : X.N.Nodup) (hi : DI X tg iter di) (ok : BlkOk X.N X.env.scope scope own)
    (hg : ∀ (s : Shared) (H : Hp) (C : Addr) (cl : List (Str × Addr)) (fp : List Addr), DG (X.blk s H scope (compEnvC scope cl C X.env) fp) tg is t) (ht : ∀ (s : Shared) (H : Hp) (C : Addr) (cl : List (Str × Addr)) (fp : List Addr), DTs (X.blk s H scope (compEnvC scope cl C X.env) fp) ifs c)
    (he : ∀ (s : Shared) (H : Hp) (C : Addr) (cl : List (Str × Addr)) (fp : List Addr), DE (X.blk s H scope (compEnvC scope cl C X.env) fp) elt e)
    (hsn : ∀ (K : PySem.W.Frag) (W : WX) (t' : TE), SndL K t' (dLc di t c e (own.map (·.2))) → SndS K W (tAsg t' (gName i)) dl)
    (hy : X.N[i]? = some y := by rfl) (hyl : X.env.scope.names.lookup y = some .local := by rfl) (hc : X.calm = true := by rfl)
    (hsw : swapsWith (.ListComp elt [⟨tg, iter, ifs, 0⟩] scope pos) (some (.Name y py)) spos.line X.env = pure true := by exact sw_true rfl rfl rfl (by decide +kernel)) (hs : ∀ x, foldedSetIterable iter X.env x = pure x := by intro _; rfl) (hsub : ∀ j ∈ is, j ∈ own.map (·.2) := by decide) :
    DS X (.Assign [.Name y py] (.ListComp elt [⟨tg, iter, ifs, 0⟩] scope pos) spos) dl :=
  DS.mk' (ps_setLc (g := gOf X.K is t) (tt := tOfT X.K c) (te := tOf X.K e) hc hN hy hyl hsw hi.pi ok (fun s H C cl fp => (hg s H C cl fp).pg) (fun s H C cl fp => (ht s H C cl fp).pt) (fun s H C cl fp => (he s H C cl fp).pe) hs)
    (hsn X.K _ _ (snd_lc hi.sn (hg X.s_0 (fun _ => none) 0 [] []).sn (ht X.s_0 (fun _ => none) 0 [] []).sn (he X.s_0 (fun _ => none) 0 [] []).sn hsub))
/-- target = value: a tuple taken apart -/
def sAsg (m : Bool) (dl : DT) (t : TgF) : DTS := fun g r f E => evM m dl g r f fun d f' => match t d with
  | some l => E.nx (setsR r l) f'
  | none => False
theorem ds_asg (m : Bool) {tg e : Expr} {pos : Pos} {is : List Nat} {d : DT} {t : TgF} (h : DE X e d) (hg : DG X tg is t) (hs : swapsWithSole [tg] e pos.line X.env = pure false := by rfl) (hw : swappedStores [tg] e X.env = pure none := by rfl) (h1 : (assignEach [tg] X.env).map (·.2) = [assign tg X.env] := by rfl) : DS X (.Assign [tg] e pos) (sAsg m d t) :=
  .mk' (ps_asg h.pe hg.pg hs hw h1) (fun g H0 Hs0 r f st H D E s e hd => by
    obtain ⟨Hs, s⟩ := s
    refine snd_evM h.sn s (fun d f' v H' Hs' s' _ hr q => ?_) hd
    cases et : t d with
    | none => rw [et] at q; exact q.elim
    | some l =>
      rw [et] at q
      refine hg.sn.2 H' Hs' st d v _ l s'.stp.sub hr et fun vs hv => ?_
      have s2 := s'.sets hv
      rw [hg.sn.1 d l et] at s2
      exact e.nx _ f' _ H' ⟨_, s2⟩ q)
/-- a, b = e1, e2 -/
def sPar (m : Bool) (i j : Nat) (a b : DT) : DTS := fun g r f E => evM m a g r f fun x f1 => evM m b g r f1 fun y f2 => E.nx ((r.set i (.sh x)).set j (.sh y)) f2
theorem ds_par (m : Bool) {i j : Nat} {x y : Str} {a b : Expr} {da db : DT} {px py pt : Pos} {kt k2 : Nat} {pt2 pos : Pos} (hN : X.N.Nodup) (ha : DE X a da) (hb : DE X b db) (hc : X.calm = true := by rfl) (hi : X.N[i]? = some x := by rfl) (hj : X.N[j]? = some y := by rfl) (hij : i ≠ j := by decide)
    (hx : X.env.scope.names.lookup x = some .local := by rfl) (hy : X.env.scope.names.lookup y = some .local := by rfl) (hst : starEach [a, b] X.env = (false, eval a X.env) :: starEach [b] X.env := by rfl) (hst2 : starEach [b] X.env = [(false, eval b X.env)] := by rfl)
    (hw : swappedStores [.Tuple [.Name x px, .Name y py] kt pt] (.Tuple [a, b] k2 pt2) X.env = pure (some [x, y]) := by rfl)
    (hs : swapsWithSole [.Tuple [.Name x px, .Name y py] kt pt] (.Tuple [a, b] k2 pt2) pos.line X.env = pure false := by rfl) :
    DS X (.Assign [.Tuple [.Name x px, .Name y py] kt pt] (.Tuple [a, b] k2 pt2) pos) (sPar m i j da db) := DS.mk' (ps_par hc hN hi hj hij hx hy (pa_cons ha.pe (pa_cons hb.pe pa_nil hst2) hst) hw hs) (fun g H0 Hs0 r f st H D E s e hd => by
  obtain ⟨Hs, s⟩ := s
  refine snd_evM ha.sn s (fun x f1 v H1 Hs1 s1 _ r1 q1 => ?_) hd
  refine snd_evM hb.sn s1 (fun y f2 w H2 Hs2 s2 e2 r2 q2 => ?_) q1
  exact ⟨v, w, rfl, e.nx _ f2 _ H2 ⟨_, (s2.set i (r1.mono e2)).set j r2⟩ q2⟩)
/-! loops -/
def dForGo (g : Option Dk) (t : TgF) (body : DTS) (E : DEnds) : List D → Sg → Nat → Prop
  | [], r, f => E.nx r f
  | d :: ds, r, f => match t d with
    | none => False
    | some l => body g (setsR r l) f { E with nx := fun r' f' => dForGo g t body E ds r' f', ct := fun r' f' => dForGo g t body E ds r' f', bk := E.nx }
def sFor (fz : List Nat) (i : DTA) (t : TgF) (body : DTS) : DTS := fun g r f E => i g (hide (frz r fz)) f fun ds f1 => dForGo g t body E ds (frz r fz) f1
theorem snd_for {fz : List Nat} {wi : TI} {gt : TG} {tb : TS} {is : List Nat} {i : DTA} {t : TgF} {body : DTS} (hi : SndI K wi i) (hg : SndG K is gt t) (hb : SndS K W tb body) : SndS K W (tFor wi gt tb) (sFor fz i t body) := fun g H0 Hs0 r f st H D E s e hd => by
  obtain ⟨Hs, s⟩ := s
  obtain ⟨Hs, s⟩ := s.frz fz
  refine hi g _ f st H Hs _ _ s.atHid (fun ds f1 J H1 Hs1 s1 k1 wk q1 => ?_) hd
  have sb := s.afterHid s1 k1
  refine ⟨fun i m st2 H2 => m = ds.length - i ∧ i ≤ ds.length ∧ ∃ r2 f2 Hs2, SIn K g H0 Hs0 r2 f2 st2 H2 Hs2 ∧ Same Hs1 Hs2 ∧ dForGo g t body E (ds.drop i) r2 f2, ⟨ds.length, rfl, Nat.zero_le _, _, f1, Hs1, sb, Same.refl _, q1⟩, ?_⟩
  rintro i m st2 H2 ⟨rfl, hil, r2, f2, Hs2, s2, e2, q2⟩
  by_cases hlt : i < ds.length
  · have hgd : ds[i]? = some ds[i] := List.getElem?_eq_getElem hlt
    have hdr : ds.drop i = ds[i] :: ds.drop (i + 1) := List.drop_eq_getElem_cons hlt
    rw [hdr] at q2
    obtain ⟨hgo, hy⟩ := wk.go i _ H2 Hs2 e2 s2.stp.sub hgd
    refine .inr ⟨hgo, fun st3 H3 => i + 1 ≤ ds.length ∧ ∃ r2 f2 Hs2, SIn K g H0 Hs0 r2 f2 st3 H3 Hs2 ∧ Same Hs1 Hs2 ∧ dForGo g t body E (ds.drop (i + 1)) r2 f2, fun st3 H3 h3 => ⟨_, by omega, rfl, h3⟩, fun x H3 hx => ?_⟩
    obtain ⟨Hs3, s3, r3⟩ := hy x H3 hx
    simp only [dForGo] at q2
    cases et : t ds[i] with
    | none => rw [et] at q2; exact q2.elim
    | some l =>
      rw [et] at q2
      replace q2 : body g (setsR r2 l) f2 { E with nx := fun r' f' => dForGo g t body E (ds.drop (i + 1)) r' f', ct := fun r' f' => dForGo g t body E (ds.drop (i + 1)) r' f', bk := E.nx } := q2
      have s2' := s2.afterHid s3.gen (s2.dk.stp s3)
      refine hg.2 H3 Hs3 _ _ x _ l s3.sub r3 et fun us hus => ?_
      have s4 := s2'.sets hus
      rw [hg.1 _ l et] at s4
      have s5 := s4.rebase sb.stp.ext (e2.trans s3.ext)
      refine hb g _ _ _ f2 _ H3 _ { E with nx := fun r' f' => dForGo g t body E (ds.drop (i + 1)) r' f', ct := fun r' f' => dForGo g t body E (ds.drop (i + 1)) r' f', bk := E.nx } ⟨_, s5⟩ ⟨fun r' f' st' H' q h => ?_, fun d f' v H' Hs' p k hr h => e.rt d f' v H' Hs' (sb.stp.unmix p) k hr h, fun r' f' st' H' q h => ?_, fun r' f' st' H' q h => ?_, fun x' r' f' st' H' cls d' q h => ?_⟩ q2
      · obtain ⟨Hs6, q⟩ := q
        exact ⟨hlt, r', f', Hs6, q.unbase sb.stp s.dk0, q.stp.ext, h⟩
      · obtain ⟨Hs6, q⟩ := q
        exact e.nx r' f' st' H' ⟨_, q.unbase sb.stp s.dk0⟩ h
      · obtain ⟨Hs6, q⟩ := q
        exact ⟨hlt, r', f', Hs6, q.unbase sb.stp s.dk0, q.stp.ext, h⟩
      · obtain ⟨Hs6, q, q'⟩ := q
        exact e.xc x' r' f' st' H' cls d' ⟨_, q.unbase sb.stp s.dk0, q'⟩ h
  · have ei : i = ds.length := by omega
    subst ei
    rw [List.drop_length] at q2
    exact .inl ⟨wk.stop H2 (fun a o h => s2.stp.sub a o (e2 a o h)), e.nx r2 f2 st2 H2 ⟨_, s2⟩ q2⟩
theorem ds_for (fz : List Nat) {tg iter : Expr} {body : List Stmt} {pos : Pos} {is : List Nat} {i : DTA} {t : TgF} {db : DTS} (hp : PassesOwn (model X.prog X.w) X.A X.env X.xe) (hi : DI X tg iter i) (hg : DG X tg is t) (hb : DSs X body db) (hc : X.calm = true := by rfl)
    (hs : ∀ x, foldedSetIterable iter X.env x = pure x := by intro _; rfl) : DS X (.For tg iter body [] pos) (sFor fz i t db) := .mk' (ps_for hp hc hi.pi hg.pg hb.ps hs) (snd_for hi.sn hg.sn hb.sn)
def dWhileN (g : Option Dk) (c : DTT) (body : DTS) (E : DEnds) : Nat → Sg → Nat → Prop
  | 0, _, _ => False
  | n + 1, r, f => c g r f fun b f1 => if b = true then body g r f1 { E with nx := fun r' f' => dWhileN g c body E n r' f', ct := fun r' f' => dWhileN g c body E n r' f', bk := E.nx } else E.nx r f1
def sWhile (c : DTT) (body : DTS) : DTS := fun g r f E => ∃ n, dWhileN g c body E n r f
theorem snd_while {tc : TT} {tb : TS} {c : DTT} {body : DTS} (hc : SndT K tc c) (hb : SndS K W tb body) : SndS K W (tWhile tc tb) (sWhile c body) := fun g H0 Hs0 r f st H D E s e hd => by
  obtain ⟨n, hd⟩ := hd
  refine ⟨fun m st2 H2 => ∃ r2 f2, SOk K g H0 Hs0 r2 f2 st2 H2 ∧ dWhileN g c body E m r2 f2, ⟨n, r, f, s, hd⟩, ?_⟩
  rintro m st2 H2 ⟨r2, f2, ⟨Hs2, s2⟩, q2⟩
  cases m with
  | zero => exact q2.elim
  | succ m =>
    refine hc g r2 f2 st2 H2 _ _ _ s2.at (fun b f3 H3 Hs3 s3 k3 q3 => ?_) q2
    have s4 := s2.after s3 k3
    cases b with
    | false => exact e.nx r2 f3 st2 H3 ⟨_, s4⟩ q3
    | true =>
      rw [if_pos rfl]
      rw [if_pos rfl] at q3
      refine ⟨fun st4 H4 => ∃ r4 f4, SOk K g H0 Hs0 r4 f4 st4 H4 ∧ dWhileN g c body E m r4 f4, fun st4 H4 h4 => ⟨m, Nat.lt_succ_self m, h4⟩, ?_⟩
      exact hb g H0 Hs0 r2 f3 st2 H3 _ { E with nx := fun r' f' => dWhileN g c body E m r' f', ct := fun r' f' => dWhileN g c body E m r' f', bk := E.nx } ⟨_, s4⟩ ⟨fun r' f' st' H' q h => ⟨r', f', q, h⟩, e.rt, e.nx, fun r' f' st' H' q h => ⟨r', f', q, h⟩, e.xc⟩ q3
theorem ds_while {c : Expr} {body : List Stmt} {pos : Pos} {dc : DTT} {db : DTS} (hp : PassesOwn (model X.prog X.w) X.A X.env X.xe) (hc : DP X c dc) (hb : DSs X body db) : DS X (.While c body [] pos) (sWhile dc db) := .mk' (ps_while hp hc.pt hb.ps) (snd_while hc.sn hb.sn)
/-! stores into what a slot owns -/
def sApp (m : Bool) (i : Nat) (dl : DT) : DTS := fun g r f E => ∃ xs, r[i]? = some (.ow xs) ∧ evM m dl g r f fun d f' => xs.length ≤ lim ∧ E.nx (r.set i (.ow (xs ++ [d]))) f'
theorem snd_app {m : Bool} {i : Nat} {t : TE} {d : DT} (h : Snd K t d) : SndS K W (tDrop (tBM K "list" rAppend (tVar i) (tCons t tNil))) (sApp m i d) := fun g H0 Hs0 r f st H D E s e hd => by
  obtain ⟨Hs, s⟩ := s
  obtain ⟨xs, hx, hd⟩ := hd
  obtain ⟨a, ha, n1, n0, vs, hv, hr⟩ := s.ow i _ hx rfl
  refine ⟨.ref a, ha, .inl ⟨rfl, vs, SqL.of hv⟩, ?_⟩
  refine snd_evM h s (fun d f' v H' Hs' s' _ hr' q => ?_) hd
  obtain ⟨hl, q⟩ := q
  obtain ⟨a', ha', n1', n0', vs', hv', hr2⟩ := s'.ow i _ hx rfl
  rw [ha] at ha'
  cases ha'
  exact ⟨a, vs', v, rfl, rfl, hv', hr2.lt hl, e.nx _ f' st _ ⟨_, s'.mutOwn (u := .ow (xs ++ [d])) hx rfl ha rfl ⟨vs' ++ [v], upd_same, hr2.append (RpA.one hr')⟩⟩ q⟩
theorem ds_app (m : Bool) {i : Nat} {x : Str} {e : Expr} {px apos cpos pos : Pos} {d : DT} (h : DE X e d) (hN : X.N[i]? = some x := by rfl) (hv : Vis X.env.scope x := by first | exact Or.inl rfl | exact Or.inr (Or.inl rfl) | exact Or.inr (Or.inr rfl)) (hd : (x == ("__debug__" : Str)) = false := by decide)
    (hcd : (x == ("__classdict__" : Str)) = false := by decide) (hP : ∀ t : TE, PE X (.Name x px) (tVar i) → PA X [e] (tCons t tNil) → PE X (.Call (.Attribute (.Name x px) "append" apos) [e] [] cpos) (tBM X.K "list" rAppend (tVar i) (tCons t tNil)) := by
      exact fun t a b => pe_bm PySem.F.plainAttrs_list PySem.F.slot_list_append PySem.F.type_list_append mt_append a b)
    (hs : swapsWith (.Call (.Attribute (.Name x px) "append" apos) [e] [] cpos) none pos.line X.env = pure false := by rfl) (hst : starEach [e] X.env = [(false, eval e X.env)] := by rfl) :
    DS X (.Expr (.Call (.Attribute (.Name x px) "append" apos) [e] [] cpos) pos) (sApp m i d) :=
  DS.mk' (ps_expr (hP _ (pe_var hN hv hd hcd) (pa_cons h.pe pa_nil hst)) hs) (snd_app h.sn)
/-- xs[k] = e -/
def sSetIx (m : Bool) (i : Nat) (dk dl : DT) : DTS := fun g r f E => ∃ xs, r[i]? = some (.ow xs) ∧ evM m dl g r f fun d f1 => dk g r f1 fun k f2 => match k with
  | .int k => ∃ j, ixN xs.length k = some j ∧ E.nx (r.set i (.ow (xs.set j d))) f2
  | _ => False
theorem snd_setIx {m : Bool} {i : Nat} {tk t : TE} {dk d : DT} (hk : Snd K tk dk) (h : Snd K t d) : SndS K W (tAsg t (gSub (tVar i) tk rSetL)) (sSetIx m i dk d) := fun g H0 Hs0 r f st H D E s e hd => by
  obtain ⟨Hs, s⟩ := s
  obtain ⟨xs, hx, hd⟩ := hd
  obtain ⟨a, ha, n1, n0, vs, hv, hr⟩ := s.ow i _ hx rfl
  refine snd_evM h s (fun d f' v H' Hs' s' _ hr' q => ?_) hd
  refine ⟨.ref a, ha, ?_⟩
  refine hk g r f' st H' _ _ _ s'.at (fun k f2 w H2 Hs2 s2 k2 r2 q2 => ?_) q
  have s3 := s'.after s2 k2
  cases k <;> try exact q2.elim
  obtain ⟨j, hj, q2⟩ := q2
  obtain ⟨a', ha', n1', n0', vs', hv', hr2⟩ := s3.ow i _ hx rfl
  rw [ha] at ha'
  cases ha'
  exact ⟨a, vs', _, j, rfl, r2, hv', by rw [← hr2.length]; exact hj, e.nx _ f2 st _ ⟨_, s3.mutOwn (u := .ow (xs.set j d)) hx rfl ha rfl ⟨vs'.set j v, upd_same, hr2.set j (hr'.mono (s'.afterExt s2))⟩⟩ q2⟩
theorem ds_setIx (m : Bool) {i : Nat} {x : Str} {e k : Expr} {px spos pos : Pos} {dk d : DT} (hk : DE X k dk) (h : DE X e d) (hN : X.N[i]? = some x := by rfl) (hv : Vis X.env.scope x := by first | exact Or.inl rfl | exact Or.inr (Or.inl rfl) | exact Or.inr (Or.inr rfl)) (hd : (x == ("__debug__" : Str)) = false := by decide)
    (hcd : (x == ("__classdict__" : Str)) = false := by decide)
    (ha : ∀ v, assign (.Subscript (.Name x px) k spos) X.env v = (do
      let ov ← holding [v] (eval (.Name x px) X.env)
      let iv ← holding [v, ov] (eval k X.env)
      standAt spos
      holding [v, ov, iv] (setItem ov iv v)
      release [v, ov, iv] []) := by intro _; rfl)
    (hs : swapsWithSole [.Subscript (.Name x px) k spos] e pos.line X.env = pure false := by rfl) (hw : swappedStores [.Subscript (.Name x px) k spos] e X.env = pure none := by rfl) (h1 : (assignEach [.Subscript (.Name x px) k spos] X.env).map (·.2) = [assign (.Subscript (.Name x px) k spos) X.env] := by rfl) :
    DS X (.Assign [.Subscript (.Name x px) k spos] e pos) (sSetIx m i dk d) :=
  .mk' (ps_asg h.pe (pg_sub (pe_var hN hv hd hcd) hk.pe set_list ha) hs hw h1) (snd_setIx hk.sn h.sn)
/-! a def -/
def startR (n : Nat) (ds : List D) : Sg := ds.map .sh ++ List.replicate (n - ds.length) .no
theorem start_in {g : Option Dk} {H Hs : Hp} {f : Nat} {ds : List D} {vs : List V} {N : List Str} (hs : Same Hs H) (hk : DkOk g H Hs f) (hr : RpA K Hs ds vs) : SIn K g H Hs (startR N.length ds) f (L2.start N vs) H Hs := by
  refine ⟨by simp [startR, L2.start, hr.length], ⟨f, hk⟩, hk, Stp.refl hs, fun i d h => ?_, fun i s h ho => ?_, fun i j s u a h1 h2 ho => ?_⟩
  · unfold startR at h
    unfold L2.start
    by_cases hl : i < ds.length
    · rw [List.getElem?_append_left (by simpa using hl), List.getElem?_map] at h
      rw [List.getElem?_append_left (by simpa [← hr.length] using hl), List.getElem?_map]
      rw [List.getElem?_eq_getElem hl] at h
      cases h
      obtain ⟨v, h1, h2⟩ := hr.get (List.getElem?_eq_getElem hl)
      exact ⟨v, by rw [h1]; rfl, h2⟩
    · rw [List.getElem?_append_right (by simpa using hl)] at h
      rw [List.getElem?_replicate] at h
      split at h
      · cases h
      · cases h
  all_goals
    exfalso
    have : ∀ (i : Nat) (s : Sl), (startR N.length ds)[i]? = some s → s.own = false := fun i s h => by
      have := List.mem_of_getElem? h
      unfold startR at this
      rcases List.mem_append.mp this with h | h
      · obtain ⟨d, _, rfl⟩ := List.mem_map.mp h
        rfl
      · rw [(List.mem_replicate.mp h).2]
        rfl
  · rw [this i s h] at ho; cases ho
  · rw [this i s h1] at ho; cases ho
variable {P : Program} {w : World} {mg : Str → Option Value} {base : Heap}
theorem dfn {x qual : Str} {st : Stmt} {f : Addr} {fd : FuncData} {N ps : List Str} {k : Nat} {S : DSp} {dl : DTS} (F : Fun K x qual st f fd) (sc : FnScope N ps (defScope st)) (len : ∀ g ds n Q, S g ds n Q → ds.length = ps.length)
    (hb : ∀ (cdv : Value) (A : Around) (outer : List Env) (s : Shared) (H : Hp) (E : XK), Room k (A.deeper (envOfC qual (defScope st) s.heap.objs.size f cdv)) → DSs (cxOf CX0 P w K mg base N qual (defScope st) f cdv A outer s H E).nox (defBody st) dl)
    (h : ∀ g ds n Q, S g ds n Q → dl g (startR N.length ds) n { nx := fun _ n => Q .none n, rt := Q }) : FnOk P w K mg base CX0 (k + 1) f fd ps (spOf K S) := by
  refine F.ok sc (fun vs H Q E h => ?_) (fun cdv A outer s H vs Q E hr hsp => ?_)
  · obtain ⟨g, Hs, ds, n, Q', h1, h2, h3, h4, h5⟩ := h
    rw [← h3.length]
    exact len g ds n Q' h4
  · obtain ⟨g, Hs, ds, n, Q', h1, h2, h3, h4, h5⟩ := hsp
    refine ⟨_, (hb cdv A outer s H E hr).ps, ?_⟩
    refine (hb cdv A outer s H E hr).sn g H Hs _ n _ H _ { nx := fun _ n => Q' .none n, rt := Q' } ⟨Hs, start_in h1 h2 h3⟩ ⟨fun r f st H' q h => ?_, fun d f v H' Hs' p k hr h => h5 d f v H' Hs' p k hr h, fun _ _ _ _ _ h => h, fun _ _ _ _ _ h => h, fun _ _ _ _ _ _ _ _ h => h.elim⟩ (h g ds n Q' h4)
    obtain ⟨Hs', q⟩ := q
    exact h5 .none f .non H' Hs' q.stp q.dk rfl h
end
end DL
namespace DL
open PySem PySem.Spec PyProof.Rows L2
/-! a def as its callers see it -/
def Df (K : PySem.W.Frag) (mg : Str → Option Value) (x : Str) (st : Stmt) : Prop := ∃ f fd, Fun K x x st f fd ∧ mg x = some (.ref f)
def Cal (P : Program) (w : World) (K : PySem.W.Frag) (mg : Str → Option Value) (base : Heap) (k : Nat) (x : Str) (ps : List Str) (S : DSp) : Prop :=
  ∃ f fd, FnOk P w K mg base CX0 k f fd ps (spOf K S) ∧ PySem.W.keepIn K (.ref f) = true ∧ Binds K fd ps [] ∧ mg x = some (.ref f)
section
variable {X : Cx} {K : PySem.W.Frag} {W : WX}
theorem de_callC {x : Str} {ps : List Str} {k : Nat} {S : DSp} {p pos : Pos} {e : Expr} {es : List Expr} {d : DTA} (c : Cal X.prog X.w X.K X.mg X.base k x ps S) (hr : Room k X.A)
    (ha : DA X (e :: es) d) (hg : Gl X x := by rfl) (hdb : (x == ("__debug__" : Str)) = false := by decide) (hs : starEach (e :: es) X.env = (false, eval e X.env) :: starEach es X.env := by rfl)
    (hpl : (backTo pos (starEach es X.env)).any (·.1) = false := by rfl) : DE X (.Call (.Name x p) (e :: es) [] pos) (dCall S d) := by
  obtain ⟨f, fd, F, hk, hb, hm⟩ := c
  exact .mk' (pe_call F hr hg hm hk hb .nil pass0 ha.pa hdb hs hpl) (snd_call ha.sn)
/-- isinstance(x, (T1, T2, ..)) -/
def oIsiT : OA := fun ds Q => match ds with
  | [x, .tup cs] => ∃ (t : String) (ns : List String) (b : Bool), x.tyN = some t ∧ cs = ns.map (fun n => .any (.ty n)) ∧ ns.foldr (fun n r => (kitB t n).bind fun c => if c then some true else r) (some false) = some b ∧ Q (.bool b)
  | _ => False
theorem cls_all {H : Hp} : ∀ {ns : List String} {vs : List V}, RpA K H (ns.map fun n => D.any (.ty n)) vs → Paired ClsV vs (ns.map Value.type)
  | [], _, h => by cases h; exact .nil
  | n :: ns, _, ⟨v, r, h1, h2, h3⟩ => by subst h1; cases h2; exact .cons (.ty n) (cls_all h3)
theorem kit_any {t : String} : ∀ {ns : List String} {b : Bool}, ns.foldr (fun n r => (kitB t n).bind fun c => if c then some true else r) (some false) = some b → PySem.W.kitAny K (.type t) (ns.map Value.type) = some b
  | [], b, h => by cases h; rfl
  | n :: ns, b, h => by
    simp only [List.foldr_cons] at h
    cases e : kitB t n with
    | none => rw [e] at h; cases h
    | some c =>
      rw [e] at h
      refine kitAny_cons (kit_ty e) (fun hc => ?_) (fun hc => ?_)
      · subst hc; exact kit_any (by simpa using h)
      · subst hc; simpa using h.symm
def rIsiU (K : PySem.W.Frag) : List V → Hp → VK → Prop := fun xs H Q => ∃ (x : V) (tp : Addr) (cs : List V) (t : Value) (ws : List Value) (b : Bool), xs = [x, .ref tp] ∧ SqT K H tp cs ∧ Paired ClsV cs ws ∧ TyX K H x t ∧ PySem.W.kitAny K t ws = some b ∧ Q (.bl b) H
theorem call_isiU : CallR X (.builtin "isinstance") (rIsiU X.K) := fun pins s st H xs us Q I r h => by
  obtain ⟨x, tp, cs, t, ws, b, rfl, hT, k, ty, e, q⟩ := h
  obtain ⟨u1, u2, rfl, r1, r2⟩ := vals2 r
  cases (show u2 = Value.ref tp from r2)
  obtain ⟨PP, Z, p, hx⟩ := kit_of I r1 ty
  obtain ⟨its, rv, ⟨o, h1, h2, n, h3⟩, _⟩ := I.tuple hT
  have e3 := ClsV.all k rv
  subst e3
  cases o
  cases h2
  cases h3
  exact PySem.W.kia_tup Z I.kIn p h1 e hx fun tk => ⟨.bl b, H, I.tok tk, rfl, q⟩
theorem sc_isiT : SndC K (rIsiU K) oIsiT := SndC.pure fun H Hs ds vs Q Q' s rx hq hd => by
  unfold oIsiT at hd
  split at hd
  · obtain ⟨t, ns, b, h1, rfl, h2, h3⟩ := hd
    obtain ⟨v, w, rfl, h4, a, vs, rfl, h5, h6⟩ := rpA2 rx
    exact ⟨v, a, vs, _, _, b, rfl, (tp_sq s h5), cls_all h6, tyN_ok (h4.mono s) h1, kit_any h2, hq (.bool _) _ rfl h3⟩
  · exact hd.elim
theorem de_isiT {p pos : Pos} {e e2 : Expr} {d : DTA} (hm : X.mg "isinstance" = none) (ha : DA X [e, e2] d) (hg : Gl X "isinstance" := by rfl) (hs : starEach [e, e2] X.env = (false, eval e X.env) :: starEach [e2] X.env := by rfl)
    (hpl : (backTo pos (starEach [e2] X.env)).any (·.1) = false := by rfl) : DE X (.Call (.Name "isinstance" p) [e, e2] [] pos) (dCB oIsiT d) :=
  de_callB call_isiU sc_isiT hg hm (by decide +kernel) ha (by decide) (by decide) hs hpl
/-! loops over plain data -/
theorem dLcGo_each {P : D → Prop} {g : Option Dk} {t : TgF} {e : DT} {r : Sg} (c : Nat) {Q : List D → Nat → Prop} : ∀ (ds acc : List D) (f : Nat), ds.length * c ≤ f →
    (∀ d ∈ ds, ∃ l, t d = some l ∧ ∀ (f : Nat) (Q : QD), c ≤ f → (∀ y f', P y → f ≤ f' + c → Q y f') → e g (setsR r l) f Q) →
    (∀ ys f', ys.length = ds.length → (∀ y ∈ ys, P y) → f ≤ f' + ds.length * c → Q (acc ++ ys) f') → dLcGo g t dYes e r ds acc f Q
  | [], acc, f, hf, he, hq => by
    have := hq [] f rfl (by simp) (by simp)
    rw [List.append_nil] at this
    exact this
  | d :: ds, acc, f, hf, he, hq => by
    obtain ⟨l, hl, h⟩ := he d (by simp)
    have hlen : (d :: ds).length * c = c + ds.length * c := by rw [List.length_cons, Nat.add_mul, Nat.one_mul, Nat.add_comm]
    rw [hlen] at hf
    simp only [dLcGo, hl, dYes, if_true]
    refine h f _ (by omega) fun y f' hy hf' => dLcGo_each c ds (acc ++ [y]) f' (by omega) (fun d' hd' => he d' (by simp [hd'])) fun ys f'' h1 h2 h3 => ?_
    have := hq (y :: ys) f'' (by simp [h1]) (fun z hz => by
      rcases List.mem_cons.mp hz with e | e
      · rw [e]; exact hy
      · exact h2 z e) (by rw [hlen]; omega)
    rw [List.append_assoc]
    exact this
theorem dLcGo_pure {g : Option Dk} {t : TgF} {c : DTT} {e : DT} {r : Sg} (b : D → Bool) (y : D → D) {Q : List D → Nat → Prop} : ∀ (ds acc : List D) (f : Nat),
    (∀ d ∈ ds, ∃ l, t d = some l ∧ (∀ (f : Nat) (Q : Bool → Nat → Prop), Q (b d) f → c g (setsR r l) f Q) ∧ (b d = true → ∀ (f : Nat) (Q : QD), Q (y d) f → e g (setsR r l) f Q)) →
    Q (acc ++ (ds.filter b).map y) f → dLcGo g t c e r ds acc f Q
  | [], acc, f, he, hq => by
    rw [List.filter_nil, List.map_nil, List.append_nil] at hq
    exact hq
  | d :: ds, acc, f, he, hq => by
    obtain ⟨l, hl, h1, h2⟩ := he d (by simp)
    simp only [dLcGo, hl]
    refine h1 f _ ?_
    cases hb : b d with
    | true =>
      rw [if_pos rfl]
      refine h2 hb f _ (dLcGo_pure b y ds (acc ++ [y d]) f (fun d' hd' => he d' (by simp [hd'])) ?_)
      rw [List.filter_cons, hb, if_pos rfl, List.map_cons] at hq
      rw [List.append_assoc]
      exact hq
    | false =>
      rw [if_neg Bool.false_ne_true]
      refine dLcGo_pure b y ds acc f (fun d' hd' => he d' (by simp [hd'])) ?_
      rw [List.filter_cons, hb, if_neg Bool.false_ne_true] at hq
      exact hq
theorem dFor_inv {g : Option Dk} {t : TgF} {body : DTS} {E : DEnds} (I : List D → Sg → Nat → Prop) : ∀ (ds : List D) (r : Sg) (f : Nat),
    (∀ d rest r f (N : Sg → Nat → Prop), I (d :: rest) r f → (∀ r' f', I rest r' f' → N r' f') → ∃ l, t d = some l ∧ body g (setsR r l) f { E with nx := N, ct := N, bk := E.nx }) →
    (∀ r f, I [] r f → E.nx r f) → I ds r f → dForGo g t body E ds r f
  | [], r, f, _, h0, h => h0 r f h
  | d :: ds, r, f, hs, h0, h => by
    obtain ⟨l, hl, hb⟩ := hs d ds r f (fun r' f' => dForGo g t body E ds r' f') h (fun r' f' h' => dFor_inv I ds r' f' hs h0 h')
    simp only [dForGo, hl]
    exact hb
end
/-! the law's own def -/
def spLaw (K : PySem.W.Frag) : Sp := fun vs H Q _ => ∃ (a : Addr) (ns : List Int), vs = [.ref a] ∧ SqL K H a (ns.map V.int) ∧ ns.length ≤ 63 ∧ ∀ H', Q (.bl true) H'
def spDeck (K : PySem.W.Frag) : Sp := fun vs H Q _ => ∃ (a : Addr) (ns : List Int), vs = [.ref a] ∧ SqL K H a (ns.map V.int) ∧ ns.length ≤ 63 ∧
  ∀ (H' : Hp) (k : Dk), Same H H' → H k.a = none → H k.b = none → H k.c = none → DkAt k H' 1000000000000 → Q (.ref k.a) H'
def startLaw (n : Nat) (k : Dk) : Sg := .no :: .sh (.any (.ref k.a)) :: List.replicate (n - 2) .no
def spLawT (T : List (Addr × Str)) (K : PySem.W.Frag) : Sp := fun vs H Q E => (∀ p ∈ T, H p.1 = some (.tbl #[])) ∧ spLaw K vs H Q E
theorem dlawT {T : List (Addr × Str)} (nd : (T.map (·.1)).Nodup) {P : Program} {w : World} {K : PySem.W.Frag} {mg : Str → Option Value} {base : Heap} {x qual y : Str} {s0 : Stmt} {rest : List Stmt} {st : Stmt} {f : Addr} {fd : FuncData} {N : List Str} {k : Nat} {dl : DTS} (F : Fun K x qual st f fd) (sc : FnScope N [y] (defScope st)) (hN : 2 ≤ N.length) (hbody : defBody st = s0 :: rest)
    (hb : ∀ (cdv : Value) (A : Around) (outer : List Env) (s : Shared) (H : Hp) (E : XK), Room k (A.deeper (envOfC qual (defScope st) s.heap.objs.size f cdv)) → PS (cxOf CX0 P w K mg base N qual (defScope st) f cdv A outer s H E).nox s0 (tAsg (tCall (spDeck K) [] E0 (tCons (tVar 0) tNil)) (gName 1)) ∧ DSs (cxOf CX0 P w K mg base N qual (defScope st) f cdv A outer s H E).nox rest dl)
    (h : ∀ dk : Dk, dk.t = T → dl (some dk) (startLaw N.length dk) 1000000000000 { nx := fun _ _ => False, rt := fun d _ => d = .bool true }) : FnOk P w K mg base CX0 (k + 1) f fd [y] (spLawT T K) := by
  refine F.ok sc (fun vs H Q E h => ?_) (fun cdv A outer s H vs Q E hr hsp => ?_)
  · obtain ⟨_, a, ns, rfl, _⟩ := h
    rfl
  · obtain ⟨hT, a, ns, rfl, hS, hlen, q⟩ := hsp
    obtain ⟨h1, h2⟩ := hb cdv A outer s H E hr
    refine ⟨tSeq _ (sOf K _ dl), by rw [hbody]; exact pss_cons h1 h2.ps, ?_⟩
    obtain ⟨n, hn⟩ : ∃ n, N.length = n + 2 := ⟨N.length - 2, by omega⟩
    have e0 : L2.start N [V.ref a] = some (.ref a) :: none :: List.replicate n none := by
      unfold L2.start
      rw [hn]
      rfl
    refine ⟨.ref a, by rw [e0]; rfl, a, ns, rfl, hS, hlen, fun H' dk0 same n1 n2 n3 hd0 => ?_⟩
    obtain ⟨ka, kb, kc, kt⟩ := dk0
    obtain ⟨dk, hdk⟩ : ∃ dk : Dk, dk = ⟨ka, kb, kc, T⟩ := ⟨_, rfl⟩
    have hd : DkAt dk H' 1000000000000 := by rw [hdk]; exact ⟨hd0.ab, hd0.ac, hd0.bc, hd0.at_⟩
    have tb : TbOk dk H' (fun _ => none) := by
      rw [hdk]
      exact ⟨nd, fun p hp => ⟨rfl, #[], same _ _ (hT p hp), True.intro, fun pos cv hc => by
        have z : codeAmong pos [] = some cv := hc
        simp [codeAmong] at z⟩⟩
    have eka : ka = dk.a := by rw [hdk]
    show _
    refine h2.sn (some dk) H' (fun _ => none) (startLaw N.length dk) 1000000000000 _ H' _ { nx := fun _ _ => False, rt := fun d _ => d = .bool true } ⟨fun _ => none, ?_⟩ ⟨fun _ _ _ _ _ h => h.elim, fun d f v H2 Hs2 _ _ hr h => ?_, fun _ _ _ _ _ h => h.elim, fun _ _ _ _ _ h => h.elim, fun _ _ _ _ _ _ _ _ h => h.elim⟩ (h dk (by rw [hdk]))
    · have sub : Same (fun _ => none) H' := fun a o h => nomatch h
      refine ⟨?_, ⟨_, hd, rfl, rfl, rfl, tb⟩, ⟨hd, rfl, rfl, rfl, tb⟩, Stp.refl sub, fun i d hi => ?_, fun i sl hi ho => ?_, fun i j sl u b hi hj ho => ?_⟩
      · rw [e0, hn]; simp [startLaw]
      · rw [e0]
        unfold startLaw at hi
        match i, hi with
        | 0, hi => cases hi
        | 1, hi => cases hi; exact ⟨.ref dk.a, by rw [← eka]; rfl, rfl⟩
        | i + 2, hi =>
          have hi : (List.replicate (N.length - 2) Sl.no)[i]? = some (.sh d) := hi
          rw [List.getElem?_replicate] at hi
          split at hi <;> cases hi
      all_goals
        exfalso
        have : ∀ (i : Nat) (s : Sl), (startLaw N.length dk)[i]? = some s → s.own = false := fun i s h => by
          have := List.mem_of_getElem? h
          unfold startLaw at this
          rcases List.mem_cons.mp this with h | h
          · rw [h]; rfl
          · rcases List.mem_cons.mp h with h | h
            · rw [h]; rfl
            · rw [(List.mem_replicate.mp h).2]; rfl
        rw [this i sl hi] at ho
        cases ho
    · subst h
      cases hr
      exact q H2
end DL
namespace DL
open PySem PySem.Spec PyProof.Rows L2
/-! texts as lists of codes; names between dots -/
abbrev cd (s : Str) : List Nat := TL.tl s
def sp : List Nat → List (List Nat)
  | [] => [[]]
  | c :: r => if c = 46 then [] :: sp r else match sp r with
    | [] => [[c]]
    | h :: t => (c :: h) :: t
theorem sp_ne : ∀ l : List Nat, sp l ≠ []
  | [] => by simp [sp]
  | c :: r => by
    unfold sp
    split
    · simp
    · split <;> simp
theorem spl_sp : ∀ (l acc : List Nat), TL.spl [46] 0 acc l = match sp l with
    | [] => [acc]
    | h :: t => (acc ++ h) :: t
  | [], acc => by rw [TL.spl_nil]; simp [sp]
  | c :: r, acc => by
    by_cases h : c = 46
    · subst h
      have hp : TL.pre [46] (46 :: r) = true := TL.pre_self [46] r
      rw [TL.spl_hit hp]
      have := spl_sp r []
      unfold sp
      rw [if_pos rfl]
      simp only [List.length_singleton, Nat.sub_self, List.append_nil]
      rw [this]
      cases e : sp r with
      | nil => exact absurd e (sp_ne r)
      | cons h t => simp
    · rw [TL.spl_miss (TL.pre_of_head [] r h), spl_sp r (acc ++ [c])]
      rw [sp, if_neg h]
      cases e : sp r with
      | nil => exact absurd e (sp_ne r)
      | cons h t => simp
theorem split_cd (x : Str) : (Txt.split x ".").map cd = sp (cd x) := by
  have := TL.split_spl x "." (by decide +kernel) (TL.kind_ok (by decide +kernel))
  rw [show TL.tl (Str.ofString ".") = [46] from by decide +kernel, spl_sp] at this
  rw [this]
  cases e : sp (cd x) with
  | nil => exact absurd e (sp_ne _)
  | cons h t => rfl
def jn : List (List Nat) → List Nat
  | [] => []
  | [a] => a
  | a :: b :: r => a ++ 46 :: jn (b :: r)
theorem joinL_jn : ∀ l : List (List Nat), TL.joinL [46] l = jn l
  | [] => rfl
  | [a] => rfl
  | a :: b :: r => by
    have := joinL_jn (b :: r)
    show a ++ ([46] ++ TL.joinL [46] (b :: r)) = a ++ 46 :: jn (b :: r)
    rw [this]
    rfl
theorem jn_sp : ∀ l : List Nat, jn (sp l) = l
  | [] => rfl
  | c :: r => by
    have ih := jn_sp r
    unfold sp
    split
    · next h =>
      subst h
      cases e : sp r with
      | nil => exact absurd e (sp_ne r)
      | cons h t =>
        rw [e] at ih
        show [] ++ 46 :: jn (h :: t) = 46 :: r
        rw [ih]
        rfl
    · cases e : sp r with
      | nil => exact absurd e (sp_ne r)
      | cons h t =>
        rw [e] at ih
        cases t with
        | nil => show c :: h = c :: r; rw [← ih]; rfl
        | cons b t => show (c :: h) ++ 46 :: jn (b :: t) = c :: r; rw [← ih]; rfl
theorem sp_one : ∀ {a : List Nat}, 46 ∉ a → sp a = [a]
  | [], _ => rfl
  | c :: r, h => by
    have hc : c ≠ 46 := fun e => h (by simp [e])
    have hr : 46 ∉ r := fun e => h (by simp [e])
    unfold sp
    rw [if_neg hc, sp_one hr]
theorem sp_app : ∀ (a r : List Nat), sp (a ++ 46 :: r) = sp a ++ sp r
  | [], r => by
    show sp (46 :: r) = [[]] ++ sp r
    rw [show sp (46 :: r) = if (46 : Nat) = 46 then [] :: sp r else _ from rfl, if_pos rfl]
    rfl
  | c :: a, r => by
    have ih := sp_app a r
    show sp (c :: (a ++ 46 :: r)) = _
    rw [sp, sp]
    by_cases h : c = 46
    · rw [if_pos h, if_pos h, ih]; rfl
    · rw [if_neg h, if_neg h, ih]
      cases e : sp a with
      | nil => exact absurd e (sp_ne a)
      | cons hd t => rfl
theorem jn_app : ∀ (a b : List (List Nat)), a ≠ [] → b ≠ [] → jn (a ++ b) = jn a ++ 46 :: jn b
  | [], _, h, _ => absurd rfl h
  | [x], [], _, h => absurd rfl h
  | [x], b :: r, _, _ => rfl
  | x :: y :: a, b, _, hb => by
    have := jn_app (y :: a) b (by simp) hb
    show x ++ 46 :: jn ((y :: a) ++ b) = (x ++ 46 :: jn (y :: a)) ++ 46 :: jn b
    rw [this]
    simp
theorem sp_jn : ∀ {l : List (List Nat)}, l ≠ [] → (∀ n ∈ l, 46 ∉ n) → sp (jn l) = l
  | [], h, _ => absurd rfl h
  | [a], _, h => sp_one (h a (by simp))
  | a :: b :: r, _, h => by
    show sp (a ++ 46 :: jn (b :: r)) = _
    rw [sp_app, sp_one (h a (by simp)), sp_jn (by simp) fun n hn => h n (by simp [hn])]
    rfl
theorem sp_inj {a b : List Nat} (h : sp a = sp b) : a = b := by rw [← jn_sp a, h, jn_sp]
/-- covering, by codes -/
theorem cov_iff (p o : List Nat) : (sp o).take (sp p).length = sp p ↔ o = p ∨ (p ++ [46]).isPrefixOf o = true := by
  constructor
  · intro h
    have e : sp o = sp p ++ (sp o).drop (sp p).length := by rw [← h, List.length_take]; rw [show min (sp p).length (sp o).length = (sp p).length from by have := congrArg List.length h; rw [List.length_take] at this; exact this]; rw [List.take_append_drop]
    by_cases hr : (sp o).drop (sp p).length = []
    · rw [hr, List.append_nil] at e
      exact .inl (sp_inj e)
    · right
      have := congrArg jn e
      rw [jn_sp, jn_app _ _ (sp_ne p) hr, jn_sp] at this
      rw [this, List.isPrefixOf_iff_prefix]
      exact ⟨jn ((sp o).drop (sp p).length), by simp⟩
  · rintro (h | h)
    · rw [h, List.take_length]
    · rw [List.isPrefixOf_iff_prefix] at h
      obtain ⟨r, rfl⟩ := h
      rw [List.append_assoc]
      show List.take _ (sp (p ++ 46 :: r)) = _
      rw [sp_app, List.take_left']
      rfl
theorem starts_cd (x y : Str) : Txt.startswith x y = (cd y).isPrefixOf (cd x) := by
  have hx : x.length = (cd x).length := TL.len_tl x
  have hy : y.length = (cd y).length := TL.len_tl y
  unfold Txt.startswith Builtin.Str.subAt
  rw [Bool.eq_iff_iff, Bool.and_eq_true, decide_eq_true_iff, List.isPrefixOf_iff_prefix, beq_iff_eq]
  constructor
  · rintro ⟨_, h⟩
    have e := congrArg Array.toList h
    rw [Array.toList_extract] at e
    simp only [Nat.zero_add, List.extract_eq_drop_take, List.drop_zero, Nat.sub_zero] at e
    exact ⟨(cd x).drop y.length, by show y.cps.toList ++ _ = _; rw [← e]; exact List.take_append_drop _ _⟩
  · rintro ⟨r, h⟩
    have hl := congrArg List.length h
    rw [List.length_append] at hl
    refine ⟨by omega, ?_⟩
    apply Array.toList_inj.mp
    rw [Array.toList_extract]
    simp only [Nat.zero_add, List.extract_eq_drop_take, List.drop_zero, Nat.sub_zero]
    show List.take y.length (cd x) = cd y
    rw [← h, hy, List.take_left']
    rfl
/-- path covers other -/
def cov (p o : Str) : Bool := decide (o = p) || Txt.startswith o (p ++ ".")
theorem cov_take (p o : Str) : cov p o = decide ((Txt.split o ".").take (Txt.split p ".").length = Txt.split p ".") := by
  have e1 := split_cd p
  have e2 := split_cd o
  have hl : (Txt.split p ".").length = (sp (cd p)).length := by rw [← e1, List.length_map]
  unfold cov
  rw [Bool.eq_iff_iff, Bool.or_eq_true, decide_eq_true_iff, decide_eq_true_iff, starts_cd, show cd (p ++ ".") = cd p ++ cd "." from TL.tl_append p ".", show cd (Str.ofString ".") = [46] from by decide +kernel]
  constructor
  · intro h
    have := (cov_iff (cd p) (cd o)).mpr (h.imp (fun e => by rw [e]) id)
    apply TL.map_tl_inj
    rw [List.map_take, hl]
    show List.take _ ((Txt.split o ".").map cd) = (Txt.split p ".").map cd
    rw [e1, e2]
    exact this
  · intro h
    have := congrArg (List.map cd) h
    rw [List.map_take, hl, e1, e2] at this
    exact ((cov_iff (cd p) (cd o)).mp this).imp (fun e => TL.ext_tl e) id
/-! plain texts -/
def asc (s : Str) : Prop := ∀ c ∈ cd s, c < 128
theorem asc_ok {s : Str} (h : asc s) : PyData.strOk s = true := by
  unfold PyData.strOk
  rw [Array.all_eq_true_iff_forall_mem]
  intro c hc
  have := h c (by simpa [cd, TL.tl] using hc)
  exact decide_eq_true (by omega)
theorem pyA_strs : ∀ l : List Str, pyA (l.map D.str) = l.map PyData.str
  | [] => rfl
  | x :: l => by show PyData.str x :: pyA (l.map D.str) = _; rw [pyA_strs l]; rfl
theorem lay_strs : ∀ {l : List Str}, (∀ s ∈ l, asc s) → PyData.canLayAll0 (l.map PyData.str) = true
  | [], _ => rfl
  | x :: l, h => Bool.and_eq_true_iff.mpr ⟨asc_ok (h x (by simp)), lay_strs fun s hs => h s (by simp [hs])⟩
theorem depth_strs : ∀ l : List Str, PyData.depthAll (l.map PyData.str) = 0
  | [] => rfl
  | x :: l => by show max 0 (PyData.depthAll (l.map PyData.str)) = 0; rw [depth_strs l]; rfl
theorem eqvAll_strs : ∀ l m : List Str, PyData.eqvAll (l.map PyData.str) (m.map PyData.str) = decide (l = m)
  | [], [] => rfl
  | [], _ :: _ => rfl
  | _ :: _, [] => rfl
  | x :: l, y :: m => by
    show ((x == y) && PyData.eqvAll (l.map PyData.str) (m.map PyData.str)) = _
    rw [eqvAll_strs l m, Bool.eq_iff_iff]
    simp
theorem shaped_strs {l : List Str} (h : ∀ s ∈ l, asc s) : SeqAt.shaped (D.lst (l.map D.str)).py = true := by
  show (PyData.canLayAll0 (pyA (l.map D.str)) && decide (PyData.depthAll (pyA (l.map D.str)) + 1 ≤ 64)) = true
  rw [pyA_strs, lay_strs h, depth_strs]
  rfl
theorem shaped_strsT {l : List Str} (h : ∀ s ∈ l, asc s) : SeqAt.shaped (D.tup (l.map D.str)).py = true := shaped_strs h
theorem oEq_lst {l m : List Str} {neg : Bool} {Q : D → Prop} (hl : ∀ s ∈ l, asc s) (hm : ∀ s ∈ m, asc s) (h : Q (.bool (xb neg (decide (l = m))))) : oEq neg (.lst (l.map D.str)) (.lst (m.map D.str)) Q := by
  refine oEq_data (shaped_strs hl) (shaped_strs hm) ?_
  show Q (.bool (xb neg (PyData.eqvAll (pyA (l.map D.str)) (pyA (m.map D.str)))))
  rw [pyA_strs, pyA_strs, eqvAll_strs]
  exact h
theorem cutD_take (xs : List D) (n : Nat) : cutD xs none (some (n : Int)) = xs.take n := by
  unfold cutD
  rw [HT.sIx_none, HT.sIx_nat]
  simp only [List.drop_zero, Nat.sub_zero]
  rw [← List.take_eq_take_min]
section
variable {K : PySem.W.Frag}
theorem shaped_ints (l : List Int) : SeqAt.shaped (.list (l.map PyData.int)) = true := by
  have h1 : PyData.canLayAll0 (l.map PyData.int) = true := by
    induction l with
    | nil => rfl
    | cons x l ih => exact Bool.and_eq_true_iff.mpr ⟨rfl, ih⟩
  have h2 : PyData.depthAll (l.map PyData.int) = 0 := by
    clear h1
    induction l with
    | nil => rfl
    | cons x l ih =>
      show max 0 (PyData.depthAll (l.map PyData.int)) = 0
      rw [ih]
      rfl
  unfold SeqAt.shaped
  show (PyData.canLayAll0 (l.map PyData.int) && decide (PyData.depthAll (l.map PyData.int) + 1 ≤ 64)) = true
  rw [h1, h2]
  rfl
theorem dp_ints {H : Hp} {a : Addr} {l : List Int} (h : H a = some (.lst (l.map V.int))) : Dp K H (.ref a) (.list (l.map PyData.int)) := by
  refine .lst (SqL.of h) ?_
  clear h
  induction l with
  | nil => exact .nil
  | cons x l ih => exact .cons (.int x) ih
theorem lo64 {x : Int} (h : 0 ≤ x) : -(2 ^ 64) < x := by omega
theorem hi64 {x : Int} (h : x < 2147483647) : x < 2 ^ 64 := by omega
theorem ix0 (n : Nat) : ixN (n + 1) 0 = some 0 := by
  unfold ixN
  rw [if_pos (by decide), if_pos (by omega)]
  rfl
theorem atI0 {α : Type} {x : α} {l : List α} : atI (x :: l) 0 = some x := atI_nat (j := 0) rfl
theorem same_upd {H : Hp} {p : Addr} {o : HO} (h : H p = none) : Same H (upd H p o) := fun b x e => by
  rw [upd_ne (ne_of_none e h)]
  exact e
end
end DL
namespace DL
open PySem PySem.Spec PyProof.Rows L2
/-! names and paths -/
def isName (s : Str) : Prop := 1 ≤ s.length ∧ s.length ≤ 8 ∧ ∀ c ∈ cd s, 97 ≤ c ∧ c ≤ 122
def PathN (m : Nat) (s : Str) : Prop := ∃ ns : List Str, 1 ≤ ns.length ∧ ns.length ≤ m ∧ (∀ n ∈ ns, isName n) ∧ s = Txt.join "." ns
theorem cd_join (ns : List Str) : cd (Txt.join "." ns) = jn (ns.map cd) := by
  rw [TL.join_eq]
  show TL.tl (Str.join "." ns) = _
  rw [TL.tl_join, show TL.tl (Str.ofString ".") = [46] from by decide +kernel, joinL_jn]
theorem jn_len : ∀ {l : List (List Nat)}, (∀ n ∈ l, n.length ≤ 8) → (jn l).length ≤ 9 * l.length
  | [], _ => Nat.zero_le _
  | [a], h => by have := h a (by simp); simp only [jn, List.length_singleton]; omega
  | a :: b :: r, h => by
    have ih := jn_len (l := b :: r) fun n hn => h n (by simp [hn])
    have := h a (by simp)
    simp only [jn, List.length_append, List.length_cons] at ih ⊢
    omega
theorem jn_mem {c : Nat} : ∀ {l : List (List Nat)}, c ∈ jn l → c = 46 ∨ ∃ n ∈ l, c ∈ n
  | [], h => by simp [jn] at h
  | [a], h => .inr ⟨a, by simp, h⟩
  | a :: b :: r, h => by
    have h : c ∈ a ++ 46 :: jn (b :: r) := h
    rcases List.mem_append.mp h with h | h
    · exact .inr ⟨a, by simp, h⟩
    · rcases List.mem_cons.mp h with h | h
      · exact .inl h
      · rcases jn_mem (l := b :: r) h with h | ⟨n, h1, h2⟩
        · exact .inl h
        · exact .inr ⟨n, by simp [h1], h2⟩
theorem isName.asc {s : Str} (h : isName s) : asc s := fun c hc => by have := h.2.2 c hc; omega
theorem isName.cdl {s : Str} (h : isName s) : (cd s).length ≤ 8 := by have := h.2.1; rw [TL.len_tl] at this; exact this
theorem PathN.mono {m n : Nat} {s : Str} (h : PathN m s) (e : m ≤ n) : PathN n s := by
  obtain ⟨ns, h1, h2, h3, h4⟩ := h
  exact ⟨ns, h1, by omega, h3, h4⟩
theorem PathN.len {m : Nat} {s : Str} (h : PathN m s) : s.length ≤ 9 * m := by
  obtain ⟨ns, h1, h2, h3, rfl⟩ := h
  have : (cd (Txt.join "." ns)).length ≤ 9 * (ns.map cd).length := by
    rw [cd_join]
    exact jn_len fun n hn => by
      obtain ⟨s, hs, rfl⟩ := List.mem_map.mp hn
      exact (h3 s hs).cdl
  rw [List.length_map] at this
  rw [TL.len_tl]
  show (cd (Txt.join "." ns)).length ≤ 9 * m
  omega
theorem PathN.asc {m : Nat} {s : Str} (h : PathN m s) : asc s := by
  obtain ⟨ns, h1, h2, h3, rfl⟩ := h
  intro c hc
  rw [cd_join] at hc
  rcases jn_mem hc with e | ⟨n, hn, e⟩
  · omega
  · obtain ⟨s, hs, rfl⟩ := List.mem_map.mp hn
    exact (h3 s hs).asc c e
theorem join_names (ns : List Str) (h : ∀ n ∈ ns, n.length ≤ 1000) (hl : ns.length ≤ 1000) (a : Str) (ha : a.length ≤ 8) : (ns.map (·.length)).sum + ns.length * a.length ≤ 16777216 := by
  have : ∀ ns : List Str, (∀ n ∈ ns, n.length ≤ 1000) → (ns.map (·.length)).sum ≤ 1000 * ns.length := by
    intro ns
    induction ns with
    | nil => intro _; exact Nat.le_refl _
    | cons x l ih =>
      intro h
      have h1 := h x (by simp)
      have h2 := ih fun n hn => h n (by simp [hn])
      simp only [List.map_cons, List.sum_cons, List.length_cons]
      omega
  have h1 := this ns h
  have h2 : ns.length * a.length ≤ ns.length * 8 := Nat.mul_le_mul_left _ ha
  omega
theorem atI_mem {α : Type} {xs : List α} {r : Int} (h0 : 0 ≤ r) (h1 : r < xs.length) : ∃ d, atI xs r = some d ∧ d ∈ xs := by
  have hl : r.toNat < xs.length := by omega
  have := atI_nat (xs := xs) (j := r.toNat) (v := xs[r.toNat]) (List.getElem?_eq_getElem hl)
  rw [Int.toNat_of_nonneg h0] at this
  exact ⟨_, this, List.getElem_mem hl⟩
theorem join_nil_cd (ns : List Str) : cd (Txt.join "" ns) = (ns.map cd).flatten := by
  rw [TL.join_eq]
  show TL.tl (Str.join "" ns) = _
  rw [TL.tl_join, show TL.tl (Str.ofString "") = [] from by decide +kernel]
  have : ∀ l : List (List Nat), TL.joinL [] l = l.flatten := by
    intro l
    induction l with
    | nil => rfl
    | cons a l ih =>
      cases l with
      | nil => simp [TL.joinL]
      | cons b l => show a ++ ([] ++ TL.joinL [] (b :: l)) = _; rw [ih]; rfl
  exact this _
/-- texts of one small letter each, glued -/
theorem letters_name (ns : List Str) (h : ∀ n ∈ ns, ∃ c, cd n = [c] ∧ 97 ≤ c ∧ c ≤ 122) (h1 : 1 ≤ ns.length) (h2 : ns.length ≤ 8) : isName (Txt.join "" ns) := by
  have e : ∀ ns : List Str, (∀ n ∈ ns, ∃ c, cd n = [c] ∧ 97 ≤ c ∧ c ≤ 122) → ((ns.map cd).flatten).length = ns.length ∧ ∀ c ∈ (ns.map cd).flatten, 97 ≤ c ∧ c ≤ 122 := by
    intro ns
    induction ns with
    | nil => intro _; simp
    | cons x l ih =>
      intro h
      obtain ⟨c, hc, hb⟩ := h x (by simp)
      obtain ⟨i1, i2⟩ := ih fun n hn => h n (by simp [hn])
      rw [List.map_cons, List.flatten_cons, hc]
      refine ⟨by simp only [List.length_append, List.length_cons, List.length_nil, i1]; omega, fun d hd => ?_⟩
      rcases List.mem_append.mp hd with e | e
      · rw [List.mem_singleton.mp e]; exact hb
      · exact i2 d e
  obtain ⟨i1, i2⟩ := e ns h
  have hl : (Txt.join "" ns).length = ns.length := by rw [TL.len_tl]; show (cd (Txt.join "" ns)).length = _; rw [join_nil_cd, i1]
  refine ⟨by omega, by omega, fun c hc => ?_⟩
  rw [join_nil_cd] at hc
  exact i2 c hc
theorem intsD_len (lo : Int) (n : Nat) : (intsD lo n).length = n := by unfold intsD; simp
end DL
namespace DL
open PySem PySem.Spec PyProof.Rows L2
section
variable {X : Cx} {K : PySem.W.Frag}
/-! zip of two lists, of two tuples -/
def zipD (xs ys : List D) : List D := (xs.zip ys).map fun p => .tup [p.1, p.2]
theorem zipD_get {xs ys : List D} {i : Nat} {d : D} (h : (zipD xs ys)[i]? = some d) : ∃ x y, xs[i]? = some x ∧ ys[i]? = some y ∧ d = .tup [x, y] := by
  unfold zipD at h
  rw [List.getElem?_map] at h
  cases e : (xs.zip ys)[i]? with
  | none => rw [e] at h; cases h
  | some p =>
    rw [e] at h
    cases h
    obtain ⟨h1, h2⟩ := List.getElem?_zip_eq_some.mp e
    exact ⟨p.1, p.2, h1, h2, rfl⟩
theorem zipD_len (xs ys : List D) : (zipD xs ys).length = min xs.length ys.length := by unfold zipD; rw [List.length_map, List.length_zip]
def dZip (t : DTA) : DTA := fun g r f Q => t g r f fun ds f1 => match ds with
  | [.lst xs, .lst ys] => Q (zipD xs ys) f1
  | [.tup xs, .tup ys] => Q (zipD xs ys) f1
  | _ => False
theorem pair_stp {H Hs : Hp} {T : Addr} {x y : V} {dx dy : D} (s : Same Hs H) (hT : H T = none) (h1 : Rp K Hs dx x) (h2 : Rp K Hs dy y) : ∃ Hs', Stp none H Hs (upd H T (.tup [x, y])) Hs' ∧ Rp K Hs' (.tup [dx, dy]) (.ref T) :=
  ⟨upd Hs T (.tup [x, y]), Stp.alloc s hT, rp_tup ⟨x, [y], rfl, h1, RpA.one h2⟩ (same_none s hT)⟩
theorem walks_zipL {Hb : Hp} {a b : Addr} {vs ws : List V} {ds es : List D} (h1 : Hb a = some (.lst vs)) (h2 : RpA K Hb ds vs) (h3 : Hb b = some (.lst ws)) (h4 : RpA K Hb es ws) : Walks K (Itz K a b) Hb (zipD ds es) where
  go := fun i d H Hs s1 s2 e => by
    obtain ⟨x, y, ex, ey, rfl⟩ := zipD_get e
    obtain ⟨v, hv, hr⟩ := h2.get ex
    obtain ⟨u, hu, hq⟩ := h4.get ey
    have q1 : SqL K H a vs := SqL.of (s2 _ _ (s1 _ _ h1))
    have q2 : SqL K H b ws := SqL.of (s2 _ _ (s1 _ _ h3))
    refine ⟨⟨vs, ws, v, u, q1, q2, hv, hu⟩, ?_⟩
    rintro z H' ⟨T, x', y', rfl, hT, rfl, hx, hy⟩
    have e1 := hx vs q1
    have e2 := hy ws q2
    rw [hv] at e1; rw [hu] at e2
    cases e1; cases e2
    exact pair_stp s2 hT (hr.mono s1) (hq.mono s1)
  stop := fun H s => ⟨vs, ws, SqL.of (s _ _ h1), SqL.of (s _ _ h3), by
    have := zipD_len ds es
    rw [h2.length, h4.length] at this
    omega⟩
theorem walks_zipT {Hb : Hp} {a b : Addr} {vs ws : List V} {ds es : List D} (h1 : TpAt K Hb a vs) (h2 : RpA K Hb ds vs) (h3 : TpAt K Hb b ws) (h4 : RpA K Hb es ws) : Walks K (RZ.ItzT K a b) Hb (zipD ds es) where
  go := fun i d H Hs s1 s2 e => by
    obtain ⟨x, y, ex, ey, rfl⟩ := zipD_get e
    obtain ⟨v, hv, hr⟩ := h2.get ex
    obtain ⟨u, hu, hq⟩ := h4.get ey
    have q1 : SqT K H a vs := (tp_sq (s1.trans s2) h1)
    have q2 : SqT K H b ws := (tp_sq (s1.trans s2) h3)
    refine ⟨⟨vs, ws, v, u, q1, q2, hv, hu⟩, ?_⟩
    rintro z H' ⟨T, x', y', rfl, hT, rfl, hx, hy⟩
    have e1 := hx vs q1
    have e2 := hy ws q2
    rw [hv] at e1; rw [hu] at e2
    cases e1; cases e2
    exact pair_stp s2 hT (hr.mono s1) (hq.mono s1)
  stop := fun H s => ⟨vs, ws, (tp_sq s h1), (tp_sq s h3), by
    have := zipD_len ds es
    rw [h2.length, h4.length] at this
    omega⟩
theorem di_zip {e e2 : Expr} {d : DTA} {p pos tpos : Pos} {elts : List Expr} {kk : Nat} (hm : X.mg "zip" = none) (ha : DA X [e, e2] d) (hg : Gl X "zip" := by rfl)
    (hs : starEach [e, e2] X.env = (false, eval e X.env) :: starEach [e2] X.env := by rfl) (hpl : (backTo pos (starEach [e2] X.env)).any (·.1) = false := by rfl) :
    DI X (.Tuple elts kk tpos) (.Call (.Name "zip" p) [e, e2] [] pos) (dZip d) := DI.mk' (RZ.pi_zipA hg hm ha.pa hs hpl) fun g ro f st H Hs R Q' A hq hd =>
  ha.sn g ro f st H Hs _ _ A (fun ds f1 vs H1 Hs1 s1 k1 r1 q1 => by
    split at q1
    · obtain ⟨v, w, rfl, h, h'⟩ := rpA2 r1
      obtain ⟨a, vs, rfl, h1, h2⟩ := h
      obtain ⟨b, ws, rfl, h3, h4⟩ := h'
      exact ⟨a, b, vs, ws, rfl, .inl ⟨SqL.of (s1.sub _ _ h1), SqL.of (s1.sub _ _ h3), hq _ f1 _ H1 Hs1 s1 k1 (walks_zipL h1 h2 h3 h4) q1⟩⟩
    · obtain ⟨v, w, rfl, h, h'⟩ := rpA2 r1
      obtain ⟨a, vs, rfl, h1, h2⟩ := h
      obtain ⟨b, ws, rfl, h3, h4⟩ := h'
      exact ⟨a, b, vs, ws, rfl, .inr ⟨(tp_sq s1.sub h1), (tp_sq s1.sub h3), hq _ f1 _ H1 Hs1 s1 k1 (walks_zipT h1 h2 h3 h4) q1⟩⟩
    · exact q1.elim) hd
end
def D.isTup : D → Bool
  | .tup _ => true
  | _ => false
def D.isLst : D → Bool
  | .lst _ => true
  | _ => false
def D.isSt : D → Bool
  | .str _ => true
  | _ => false
def D.isBl : D → Bool
  | .bool _ => true
  | _ => false
def D.isIn : D → Bool
  | .int _ => true
  | .bool _ => true
  | _ => false
/-! data that are told apart sign by sign -/
mutual
def deqD : D → D → Bool
  | .none, .none => true
  | .bool a, .bool b => decide (a = b)
  | .int a, .int b => decide (a = b)
  | .str a, .str b => decide (a = b)
  | .tup xs, .tup ys => deqA xs ys
  | .lst xs, .lst ys => deqA xs ys
  | _, _ => false
def deqA : List D → List D → Bool
  | [], [] => true
  | x :: xs, y :: ys => deqD x y && deqA xs ys
  | _, _ => false
end
def zeq : D → Bool
  | .tup [a, b] => deqD a b
  | _ => false
mutual
/-- no objects within; dicts as they are -/
def D.tyd : D → Bool
  | .tup xs => tydA xs
  | .lst xs => tydA xs
  | .dtt _ _ => false
  | .ktup _ => false
  | .obj _ _ _ => false
  | .exn _ _ _ => false
  | .any _ => false
  | _ => true
def tydA : List D → Bool
  | [] => true
  | x :: xs => x.tyd && tydA xs
end
mutual
def D.plain : D → Bool
  | .tup xs => decide (xs.length ≤ 100000) && plainA xs
  | .lst xs => decide (xs.length ≤ 100000) && plainA xs
  | .dct _ _ => false
  | .dtt _ _ => false
  | .ktup _ => false
  | .obj _ _ _ => false
  | .exn _ _ _ => false
  | .any _ => false
  | _ => true
def plainA : List D → Bool
  | [] => true
  | x :: xs => x.plain && plainA xs
end
mutual
def D.dep : D → Nat
  | .tup xs => depA xs + 1
  | .lst xs => depA xs + 1
  | _ => 0
def depA : List D → Nat
  | [] => 0
  | x :: xs => max x.dep (depA xs)
end
mutual
theorem D.plain_tyd : ∀ {x : D}, x.plain = true → x.tyd = true
  | .none, _ => rfl
  | .bool _, _ => rfl
  | .int _, _ => rfl
  | .str _, _ => rfl
  | .tup xs, h => plainA_tyd (xs := xs) (Bool.and_eq_true_iff.mp h).2
  | .lst xs, h => plainA_tyd (xs := xs) (Bool.and_eq_true_iff.mp h).2
  | .dct _ _, h => by cases h
  | .dtt _ _, h => by cases h
  | .ktup _, h => by cases h
  | .obj _ _ _, h => by cases h
  | .exn _ _ _, h => by cases h
  | .any _, h => by cases h
theorem plainA_tyd : ∀ {xs : List D}, plainA xs = true → tydA xs = true
  | [], _ => rfl
  | x :: xs, h => by
    have h : (x.plain && plainA xs) = true := h
    rw [Bool.and_eq_true] at h
    show (x.tyd && tydA xs) = true
    rw [D.plain_tyd h.1, plainA_tyd h.2]
    rfl
end
theorem tydA_mem : ∀ {xs : List D} {x : D}, tydA xs = true → x ∈ xs → x.tyd = true
  | y :: ys, x, h, hx => by
    have h : (y.tyd && tydA ys) = true := h
    rw [Bool.and_eq_true] at h
    rcases List.mem_cons.mp hx with e | e
    · rw [e]; exact h.1
    · exact tydA_mem h.2 e
theorem plainA_mem : ∀ {xs : List D} {x : D}, plainA xs = true → x ∈ xs → x.plain = true
  | y :: ys, x, h, hx => by
    have h : (y.plain && plainA ys) = true := h
    rw [Bool.and_eq_true] at h
    rcases List.mem_cons.mp hx with e | e
    · rw [e]; exact h.1
    · exact plainA_mem h.2 e
theorem depA_mem : ∀ {xs : List D} {x : D}, x ∈ xs → x.dep ≤ depA xs
  | y :: ys, x, hx => by
    show x.dep ≤ max y.dep (depA ys)
    rcases List.mem_cons.mp hx with e | e
    · rw [e]; exact Nat.le_max_left _ _
    · exact Nat.le_trans (depA_mem e) (Nat.le_max_right _ _)
theorem deqA_len : ∀ {xs ys : List D}, xs.length ≠ ys.length → deqA xs ys = false
  | [], [], h => absurd rfl h
  | [], _ :: _, _ => rfl
  | _ :: _, [], _ => rfl
  | x :: xs, y :: ys, h => by
    show (deqD x y && deqA xs ys) = false
    rw [deqA_len fun e => h (by simp [e]), Bool.and_false]
theorem deqA_all : ∀ {xs ys : List D}, xs.length = ys.length → deqA xs ys = (xs.zip ys).all fun p => deqD p.1 p.2
  | [], [], _ => rfl
  | [], _ :: _, h => by simp at h
  | _ :: _, [], h => by simp at h
  | x :: xs, y :: ys, h => by
    show (deqD x y && deqA xs ys) = _
    rw [deqA_all (by simpa using h), List.zip_cons_cons, List.all_cons]
mutual
theorem deqD_refl : ∀ x : D, x.plain = true → deqD x x = true
  | .none, _ => rfl
  | .bool _, _ => decide_eq_true rfl
  | .int _, _ => decide_eq_true rfl
  | .str _, _ => decide_eq_true rfl
  | .tup xs, h => deqA_refl xs (Bool.and_eq_true_iff.mp h).2
  | .lst xs, h => deqA_refl xs (Bool.and_eq_true_iff.mp h).2
  | .dct _ _, h => by cases h
  | .dtt _ _, h => by cases h
  | .ktup _, h => by cases h
  | .obj _ _ _, h => by cases h
  | .exn _ _ _, h => by cases h
  | .any _, h => by cases h
theorem deqA_refl : ∀ xs : List D, plainA xs = true → deqA xs xs = true
  | [], _ => rfl
  | x :: xs, h => by
    have h : (x.plain && plainA xs) = true := h
    rw [Bool.and_eq_true] at h
    show (deqD x x && deqA xs xs) = true
    rw [deqD_refl x h.1, deqA_refl xs h.2]
    rfl
end
end DL
namespace DL
open PySem PySem.Spec PyProof.Rows L2
theorem split_join_names {ns : List Str} (h0 : ns ≠ []) (h : ∀ n ∈ ns, isName n) : Txt.split (Txt.join "." ns) "." = ns := by
  apply TL.map_tl_inj
  show List.map cd _ = List.map cd _
  rw [split_cd, cd_join, sp_jn (by simpa using h0)]
  intro n hn hm
  obtain ⟨s, hs, rfl⟩ := List.mem_map.mp hn
  have := (h s hs).2.2 46 hm
  omega
theorem join_snoc (ns : List Str) (n : Str) (h : ns ≠ []) : Txt.join "." ns ++ "." ++ n = Txt.join "." (ns ++ [n]) := by
  apply TL.ext_tl
  show cd _ = cd _
  rw [cd_join, List.map_append, List.map_singleton, jn_app _ _ (by simpa using h) (by simp)]
  show TL.tl _ = _
  rw [TL.tl_append, TL.tl_append, show TL.tl (Str.ofString ".") = [46] from by decide +kernel]
  show cd (Txt.join "." ns) ++ [46] ++ cd n = _
  rw [cd_join]
  simp [jn]
end DL
namespace DL
open PySem PySem.Spec PyProof.Rows L2
section
variable {X : Cx} {K : PySem.W.Frag}
/-! x in y -/
def rInT (K : PySem.W.Frag) (neg : Bool) : R2 := fun x y H Q => ∃ d ds, Dp K H x d ∧ Dp K H y (.tuple ds) ∧ SeqAt.shaped d = true ∧ SeqAt.shaped (.tuple ds) = true ∧ Q (.bl (xb neg (ds.any fun z => PyData.eqv z d))) H
theorem op_inT (hu : X.A.units + 65 < cLine) : OpR X (compareOp .In) (rInT X.K false) := by
  intro pins s st H x y v u Q I rx ry h
  obtain ⟨d, ds, hd, he, sd, se, q⟩ := h
  obtain ⟨as, r1⟩ := Dp.reads I d x v hd rx
  obtain ⟨bs, r2⟩ := Dp.reads I (.tuple ds) y u he ry
  exact SeqAt.in_tuple_reads r2 r1 (SeqAt.canLay_of_shaped se) (SeqAt.canLay_of_shaped sd) (room_in_shaped sd hu) ⟨.bl _, H, I, rfl, q⟩
theorem op_notInT (hu : X.A.units + 65 < cLine) : OpR X (compareOp .NotIn) (rInT X.K true) := by
  intro pins s st H x y v u Q I rx ry h
  obtain ⟨d, ds, hd, he, sd, se, q⟩ := h
  obtain ⟨as, r1⟩ := Dp.reads I d x v hd rx
  obtain ⟨bs, r2⟩ := Dp.reads I (.tuple ds) y u he ry
  exact SeqAt.notIn_tuple_reads r2 r1 (SeqAt.canLay_of_shaped se) (SeqAt.canLay_of_shaped sd) (room_in_shaped sd hu) ⟨.bl _, H, I, rfl, q⟩
def rSign (neg : Bool) : R2 := fun x y H Q => ∃ (c : Nat) (z : Str), x = .str ⟨#[c]⟩ ∧ y = .str z ∧ Q (.bl (xb neg (decide (c ∈ z.cps.toList)))) H
def rInA (K : PySem.W.Frag) : R2 := fun x y H Q => rSign false x y H Q ∨ (rInD K x y H Q ∨ rInT K false x y H Q)
def rNotInA (K : PySem.W.Frag) : R2 := fun x y H Q => rSign true x y H Q ∨ (rNotInD K x y H Q ∨ rInT K true x y H Q)
theorem op_inA (hu : X.A.units + 65 < cLine) : OpR X (compareOp .In) (rInA X.K) := (show OpR X (compareOp .In) (rSign false) from op_in_sign).or ((op_inD hu).or (op_inT hu))
theorem op_notInA (hu : X.A.units + 65 < cLine) : OpR X (compareOp .NotIn) (rNotInA X.K) := (show OpR X (compareOp .NotIn) (rSign true) from op_notIn_sign).or ((op_notInD hu).or (op_notInT hu))
def oIn (neg : Bool) : O2 := fun x y Q => match y with
  | .str z => ∃ c : Nat, x = .str ⟨#[c]⟩ ∧ Q (.bool (xb neg (decide (c ∈ z.cps.toList))))
  | .lst ys => SeqAt.shaped x.py = true ∧ SeqAt.shaped (.list (pyA ys)) = true ∧ Q (.bool (xb neg ((pyA ys).any fun z => PyData.eqv z x.py)))
  | .tup ys => SeqAt.shaped x.py = true ∧ SeqAt.shaped (.tuple (pyA ys)) = true ∧ Q (.bool (xb neg ((pyA ys).any fun z => PyData.eqv z x.py)))
  | _ => False
theorem sr_in : SndR K (rInA K) (oIn false) := SndR.pure fun H Hs x y vx vy Q Q' s rx ry hq hd => by
  cases y <;> try exact hd.elim
  · obtain ⟨c, rfl, h⟩ := hd
    exact .inl ⟨c, _, rx, ry, hq (.bool _) _ rfl h⟩
  · next ys => exact .inr (.inr ⟨x.py, pyA ys, dp_mono s (rx.dpS hd.1), dp_mono s (Rp.dpS (d := .tup ys) ry hd.2.1), hd.1, hd.2.1, hq (.bool _) _ rfl hd.2.2⟩)
  · next ys => exact .inr (.inl ⟨x.py, pyA ys, dp_mono s (rx.dpS hd.1), dp_mono s (Rp.dpS (d := .lst ys) ry hd.2.1), hd.1, hd.2.1, hq (.bool _) _ rfl hd.2.2⟩)
theorem sr_notIn : SndR K (rNotInA K) (oIn true) := SndR.pure fun H Hs x y vx vy Q Q' s rx ry hq hd => by
  cases y <;> try exact hd.elim
  · obtain ⟨c, rfl, h⟩ := hd
    exact .inl ⟨c, _, rx, ry, hq (.bool _) _ rfl h⟩
  · next ys => exact .inr (.inr ⟨x.py, pyA ys, dp_mono s (rx.dpS hd.1), dp_mono s (Rp.dpS (d := .tup ys) ry hd.2.1), hd.1, hd.2.1, hq (.bool _) _ rfl hd.2.2⟩)
  · next ys => exact .inr (.inl ⟨x.py, pyA ys, dp_mono s (rx.dpS hd.1), dp_mono s (Rp.dpS (d := .lst ys) ry hd.2.1), hd.1, hd.2.1, hq (.bool _) _ rfl hd.2.2⟩)
theorem room65 {k : Nat} {A : Around} (r : Room k A) : A.units + 65 < cLine := by have := r.un; omega
theorem de_in {k : Nat} {a b : Expr} {pos : Pos} {da db : DT} (hr : Room k X.A) (ha : DE X a da) (hb : DE X b db) (hm : behindInMarks .In b = false := by rfl) : DE X (.Compare a [.In] [b] pos) (dOp (oIn false) da db) := de_cmp (op_inA (room65 hr)) sr_in ha hb hm
theorem de_notIn {k : Nat} {a b : Expr} {pos : Pos} {da db : DT} (hr : Room k X.A) (ha : DE X a da) (hb : DE X b db) (hm : behindInMarks .NotIn b = false := by rfl) : DE X (.Compare a [.NotIn] [b] pos) (dOp (oIn true) da db) := de_cmp (op_notInA (room65 hr)) sr_notIn ha hb hm
theorem dp_in {k : Nat} {a b : Expr} {pos : Pos} {da db : DT} (hr : Room k X.A) (ha : DE X a da) (hb : DE X b db) (hm : behindInMarks .In b = false := by rfl) : DP X (.Compare a [.In] [b] pos) (dTest (dOp (oIn false) da db)) := dp_cmp (op_inA (room65 hr)) sr_in ha hb hm
theorem dp_notIn {k : Nat} {a b : Expr} {pos : Pos} {da db : DT} (hr : Room k X.A) (ha : DE X a da) (hb : DE X b db) (hm : behindInMarks .NotIn b = false := by rfl) : DP X (.Compare a [.NotIn] [b] pos) (dTest (dOp (oIn true) da db)) := dp_cmp (op_notInA (room65 hr)) sr_notIn ha hb hm
/-! text * number -/
def CMulS (x : Str) (n : Int) : Prop := 0 ≤ n ∧ n ≤ 100000 ∧ x.length * n.toNat ≤ lim
theorem CMulS.ok {x : Str} {n : Int} (h : CMulS x n) : MulOk x n := by
  obtain ⟨h0, h1, h2⟩ := h
  refine ⟨?_, fun a b c => ?_, fun a b => ?_⟩
  · rw [decide_eq_false (by omega), decide_eq_false (by omega)]; rfl
  · have h3 : (x.length : Int) ≤ (2 ^ 63 - 1) / n := by
      rw [Int.le_ediv_iff_mul_le (by omega)]
      have e : (x.length : Int) * n = ((x.length * n.toNat : Nat) : Int) := by rw [Int.natCast_mul, Int.toNat_of_nonneg h0]
      rw [e]
      have : lim = 1000000 := rfl
      omega
    omega
  · unfold Builtin.Str.tooLong
    exact decide_eq_false (by have := lim_le h2; omega)
/-! {} and {k: v} -/
end
end DL
namespace DL
open PySem PySem.Spec PyProof.Rows L2
/-! instances of own classes -/
structure KC (K : PySem.W.Frag) (c : Str) (C : Addr) : Prop where
  ns : PySem.W.nsIn K mainGlobals c = some (some (.ref C))
  cls : Cls K C
theorem KC.uniq {K : PySem.W.Frag} {c : Str} {C C' : Addr} (k : KC K c C) (h : PySem.W.nsIn K mainGlobals c = some (some (.ref C'))) : C' = C := by
  have := k.ns
  rw [h] at this
  cases this
  rfl
section
variable {X : Cx} {K : PySem.W.Frag} {W : WX}
theorem lookup_zip {H : Hp} {f : Str} {y : D} : ∀ {ns : List Str} {xs : List D} {vs : List V}, RpA K H xs vs → (ns.zip xs).lookup f = some y → ∃ v, (ns.zip vs).lookup f = some v ∧ Rp K H y v
  | [], _, _, _, h => by simp at h
  | _ :: _, [], _, _, h => by simp at h
  | n :: ns, x :: xs, _, ⟨v, r, h1, h2, h3⟩, h => by
    subst h1
    rw [List.zip_cons_cons, List.lookup_cons] at h ⊢
    cases e : f == n with
    | true => rw [e] at h; cases h; exact ⟨v, rfl, h2⟩
    | false => rw [e] at h; exact lookup_zip h3 h
theorem putF_new {f : Str} {v : V} : ∀ {ns : List Str} {vs : List V}, ns.length = vs.length → f ∉ ns → putF f v (ns.zip vs) = (ns ++ [f]).zip (vs ++ [v])
  | [], [], _, _ => rfl
  | n :: ns, w :: vs, hl, h => by
    have e : n ≠ f := fun e => h (by simp [e])
    show (if n = f then _ else _) = _
    rw [if_neg e]
    show (n, w) :: putF f v (ns.zip vs) = _
    rw [putF_new (by simpa using hl) fun e => h (by simp [e])]
    rfl
/-! e.f -/
def dFld (c f : Str) (dl : DT) : DT := fun g r n Q => dl g r n fun d n1 => match d with
  | .obj c' ns xs => c' = c ∧ ∃ y, (ns.zip xs).lookup f = some y ∧ Q y n1
  | _ => False
theorem snd_fld {c f : Str} {C : Addr} {t : TE} {d : DT} (k : KC K c C) (n : NoAttr K C f) (h : Snd K t d) : Snd K (tFld K t f) (dFld c f d) := fun g r fu st H Hs Q Q' A hq hd =>
  h g r fu st H Hs _ _ A (fun x f1 v H1 Hs1 s1 k1 r1 q1 => by
    cases x <;> try exact q1.elim
    obtain ⟨rfl, y, hy, q1⟩ := q1
    obtain ⟨C', a, dx, vs, h0, rfl, h2, h3, h4, h5⟩ := r1
    cases k.uniq h0
    obtain ⟨w, hw, rw'⟩ := lookup_zip h5 hy
    exact ⟨a, C, dx, _, w, rfl, s1.sub _ _ h2, k.cls, n, hw, hq y f1 w H1 Hs1 s1 k1 rw' q1⟩) hd
theorem de_fld {c f : Str} {C : Addr} {e : Expr} {pos : Pos} {d : DT} (k : KC X.K c C) (n : NoAttr X.K C f) (h : DE X e d) (hb : attributeBase e f X.env (eval e X.env) = eval e X.env := by rfl) : DE X (.Attribute e f pos) (dFld c f d) :=
  .mk' (pe_fld h.pe hb) (snd_fld k n h.sn)
/-! self.f = e under __init__ -/
def sFldO (m : Bool) (i : Nat) (c f : Str) (dl : DT) : DTS := fun g r n E => ∃ a ns xs, r[i]? = some (.oi a c ns xs) ∧ f ∉ ns ∧ ns.length < 900 ∧ evM m dl g r n fun d n' => E.nx (r.set i (.oi a c (ns ++ [f]) (xs ++ [d]))) n'
theorem snd_fldO {m : Bool} {i : Nat} {c f : Str} {C : Addr} {t : TE} {d : DT} (k : KC K c C) (n : NoAttr K C f) (h : Snd K t d) : SndS K W (sFld K (tVar i) t f) (sFldO m i c f d) := fun g H0 Hs0 r fu st H D E s e hd => by
  obtain ⟨Hs, s⟩ := s
  obtain ⟨a, ns, xs, hx, hf, hl, hd⟩ := hd
  refine snd_evM h s (fun d f' v H' Hs' s' _ hr q => ?_) hd
  obtain ⟨_, ha, n1, n0, rfl, C', dx, vs, h0, q1, q2, q3, q4, q5, q6⟩ := s'.ow i _ hx rfl
  cases k.uniq h0
  have ho : Owned r st a := ⟨i, _, hx, rfl, ha⟩
  have hne : dx ≠ a := fun z => s'.notOwnedDx q2 (z ▸ ho)
  refine ⟨.ref a, ha, a, C, dx, ns.zip vs, rfl, q1, k.cls, n, ?_, e.nx _ f' st _ ⟨Hs', ?_⟩ q⟩
  · rw [List.length_zip]; omega
  · refine s'.mutOwn (u := .oi a c (ns ++ [f]) (xs ++ [d])) hx rfl ha rfl ⟨rfl, C, dx, vs ++ [v], h0, ?_, by rw [upd_ne hne]; exact q2, q3, q4, by simp [q5], q6.append (RpA.one hr)⟩
    rw [upd_same, putF_new q5 hf]
theorem ds_fldO (m : Bool) {i : Nat} {c f x : Str} {C : Addr} {e : Expr} {px apos pos : Pos} {d : DT} (k : KC X.K c C) (n : NoAttr X.K C f) (h : DE X e d) (hN : X.N[i]? = some x := by rfl) (hv : Vis X.env.scope x := by first | exact Or.inl rfl | exact Or.inr (Or.inl rfl) | exact Or.inr (Or.inr rfl)) (hd : (x == ("__debug__" : Str)) = false := by decide)
    (hcd : (x == ("__classdict__" : Str)) = false := by decide) (hs : swapsWith e (some (.Attribute (.Name x px) f apos)) pos.line X.env = pure false := by rfl) : DS X (.Assign [.Attribute (.Name x px) f apos] e pos) (sFldO m i c f d) :=
  .mk' (ps_fld (pe_var hN hv hd hcd) h.pe hs) (snd_fldO k n h.sn)
/-! C(..) -/
def spInit (K : PySem.W.Frag) (c : Str) (S : DSp) : Sp := fun vs H Q _ => ∃ (C x dx : Addr) (us : List V) (H1 : Hp) (g : Option Dk) (Hs : Hp) (ds : List D) (f : Nat) (Q' : QD), PySem.W.nsIn K mainGlobals c = some (some (.ref C)) ∧ vs = .ref x :: us ∧
  H = upd (upd H1 dx (.own x)) x (.ins C dx []) ∧ H1 x = none ∧ H1 dx = none ∧ dx ≠ x ∧ Same Hs H1 ∧ DkOk g H1 Hs f ∧ RpA K Hs ds us ∧ S g ds f Q' ∧
  ∀ d f' H' Hs', Stp g H1 Hs H' Hs' → DkOk g H' Hs' f' → Rp K Hs' d (.ref x) → Q' d f' → Q .non H'
structure Mkr (P : Program) (w : World) (K : PySem.W.Frag) (mg : Str → Option Value) (base : Heap) (k : Nat) (c : Str) (ps : List Str) (S : DSp) : Prop where
  ex : ∃ C f fd, Mk K C f ∧ FnOk P w K mg base CX0 k f fd ps (spInit K c S) ∧ Binds K fd ps [] ∧ PySem.W.nsIn K mainGlobals c = some (some (.ref C)) ∧ mg c = some (.ref C)
theorem snd_make {c : Str} {C : Addr} {S : DSp} {E : XK} {t : TA} {d : DTA} (h0 : PySem.W.nsIn K mainGlobals c = some (some (.ref C))) (ht : SndA K t d) : Snd K (tMake C (spInit K c S) [] E t) (dCall S d) := fun g ro f st H Hs Q Q' A hq hd =>
  ht g ro f st H Hs _ _ A (fun ds f1 vs H1 Hs1 s1 k1 r1 q1 => fun x dx hx hdx hne => by
    show spInit K c S (.ref x :: (vs ++ [])) _ _ E
    rw [List.append_nil]
    exact ⟨C, x, dx, vs, H1, g, Hs1, ds, f1, Q', h0, rfl, rfl, hx, hdx, hne, s1.sub, k1, r1, q1, fun d f' H' Hs' s2 k2 r2 q2 => ⟨rfl, hq d f' (.ref x) H' Hs' (s1.trans s2) k2 r2 q2⟩⟩) hd
theorem de_make {c : Str} {ps : List Str} {k : Nat} {S : DSp} {p pos : Pos} {e : Expr} {es : List Expr} {d : DTA} (m : Mkr X.prog X.w X.K X.mg X.base k c ps S) (hr : Room (k + 1) X.A)
    (ha : DA X (e :: es) d) (hg : Gl X c := by rfl) (hdb : (c == ("__debug__" : Str)) = false := by decide) (hs : starEach (e :: es) X.env = (false, eval e X.env) :: starEach es X.env := by rfl)
    (hpl : (backTo pos (starEach es X.env)).any (·.1) = false := by rfl) : DE X (.Call (.Name c p) (e :: es) [] pos) (dCall S d) := by
  obtain ⟨C, f, fd, M, F, hb, h0, hm⟩ := m.ex
  exact .mk' (pe_make M F hr hg hm hb .nil pass0 ha.pa hdb hs hpl) (snd_make h0 ha.sn)
/-- the instance under __init__ is shared -/
theorem SIn.shareO {g : Option Dk} {H0 Hs0 : Hp} {r : Sg} {f : Nat} {st : L2.St} {H Hs : Hp} (s : SIn K g H0 Hs0 r f st H Hs) {i : Nat} {c : Str} {ns : List Str} {xs : List D} {a : Addr} (hi : r[i]? = some (.oi a c ns xs)) :
    ∃ Hs', Stp g H0 Hs0 H Hs' ∧ DkOk g H Hs' f ∧ Rp K Hs' (.obj c ns xs) (.ref a) := by
  obtain ⟨_, ha, n1, n0, rfl, C, dx, vs, h0, q1, q2, q3, q4, q5, q6⟩ := s.ow i _ hi rfl
  have ho : Owned r st a := ⟨i, _, hi, rfl, ha⟩
  have hne : dx ≠ a := fun z => s.notOwnedDx q2 (z ▸ ho)
  have na : (upd Hs dx (.own a)) a = none := by rw [upd_ne fun z => hne z.symm]; exact n1
  refine ⟨upd (upd Hs dx (.own a)) a (.ins C dx (ns.zip vs)), (s.stp.share q4 q2 q3).share n0 q1 na, (s.dk.share (s.dkDx q4) q3).share (s.notDk ho) na, C, a, dx, vs, h0, rfl, upd_same, by rw [upd_ne hne, upd_same], q5, q6.mono fun b u e => ?_⟩
  rw [upd_ne (ne_of_none e n1), upd_ne (ne_of_none e q3)]
  exact e
/-! a def __init__ -/
def startI (n : Nat) (a : Addr) (c : Str) (ds : List D) : Sg := .oi a c [] [] :: (ds.map .sh ++ List.replicate (n - ds.length) .no)
variable {P : Program} {w : World} {mg : Str → Option Value} {base : Heap}
theorem dinit {x qual c : Str} {st : Stmt} {f : Addr} {fd : FuncData} {nm : Str} {N ps : List Str} {k : Nat} {S : DSp} {dl : DTS} (F : Fun K x qual st f fd) (sc : FnScope (nm :: N) (nm :: ps) (defScope st)) (len : ∀ g ds n Q, S g ds n Q → ds.length = ps.length)
    (hb : ∀ (cdv : Value) (A : Around) (outer : List Env) (s : Shared) (H : Hp) (E : XK), Room k (A.deeper (envOfC qual (defScope st) s.heap.objs.size f cdv)) → DSs (cxOf CX0 P w K mg base (nm :: N) qual (defScope st) f cdv A outer s H E).nox (defBody st) dl)
    (h : ∀ a g ds n Q, S g ds n Q → dl g (startI N.length a c ds) n { nx := fun r n => ∃ ns xs, r[0]? = some (.oi a c ns xs) ∧ Q (.obj c ns xs) n, rt := fun _ _ => False }) : FnOk P w K mg base CX0 (k + 1) f fd (nm :: ps) (spInit K c S) := by
  refine F.ok sc (fun vs H Q E h => ?_) (fun cdv A outer s H vs Q E hr hsp => ?_)
  · obtain ⟨C, x, dx, us, H1, g, Hs, ds, n, Q', h0, rfl, _, _, _, _, h1, h2, h3, h4, h5⟩ := h
    show us.length + 1 = ps.length + 1
    rw [← h3.length, len g ds n Q' h4]
  · obtain ⟨C, x, dx, us, H1, g, Hs, ds, n, Q', h0, rfl, rfl, hx, hdx, hne, h1, h2, h3, h4, h5⟩ := hsp
    refine ⟨_, (hb cdv A outer s _ E hr).ps, ?_⟩
    have l1 : Stp g H1 Hs (upd H1 dx (.own x)) Hs := Stp.lay h1 hdx
    have hx1 : upd H1 dx (.own x) x = none := by rw [upd_ne fun z => hne z.symm]; exact hx
    have l2 : Stp g H1 Hs (upd (upd H1 dx (.own x)) x (.ins C dx [])) Hs := l1.trans (Stp.lay l1.sub hx1)
    have nx' := h2.out hx
    have ndx := h2.out hdx
    have hsx : Hs x = none := same_none h1 hx
    have hsdx : Hs dx = none := same_none h1 hdx
    have S0 : SIn K g H1 Hs (startR N.length ds) n (L2.start N us) H1 Hs := start_in h1 h2 h3
    have no : ∀ (i : Nat) (s : Sl), (startR N.length ds)[i]? = some s → s.own = false := fun i s h => by
      have := List.mem_of_getElem? h
      unfold startR at this
      rcases List.mem_append.mp this with h | h
      · obtain ⟨d, _, rfl⟩ := List.mem_map.mp h
        rfl
      · rw [(List.mem_replicate.mp h).2]
        rfl
    have st0 : L2.start (nm :: N) (.ref x :: us) = some (.ref x) :: L2.start N us := by
      unfold L2.start
      simp
    have SI : SIn K g H1 Hs (startI N.length x c ds) n (L2.start (nm :: N) (.ref x :: us)) (upd (upd H1 dx (.own x)) x (.ins C dx [])) Hs := by
      rw [st0]
      refine ⟨by show (startR N.length ds).length + 1 = (L2.start N us).length + 1; rw [S0.len], ⟨n, h2⟩, (h2.mut ndx).mut nx', l2, fun i d hi => ?_, fun i sl hi ho => ?_, fun i j sl u b hi hj ho ho' h1' h2' => ?_⟩
      · cases i with
        | zero => cases hi
        | succ i => exact S0.sh i d hi
      · cases i with
        | zero =>
          cases hi
          exact ⟨x, rfl, hsx, hx, rfl, C, dx, [], h0, upd_same, by rw [upd_ne hne, upd_same], hsdx, hdx, rfl, rfl⟩
        | succ i => rw [no i sl hi] at ho; cases ho
      · cases i with
        | zero =>
          cases j with
          | zero => rfl
          | succ j => rw [no j u hj] at ho'; cases ho'
        | succ i => rw [no i sl hi] at ho; cases ho
    refine (hb cdv A outer s (upd (upd H1 dx (.own x)) x (.ins C dx [])) E hr).sn g H1 Hs _ n _ _ _ { nx := fun r n => ∃ ns xs, r[0]? = some (.oi x c ns xs) ∧ Q' (.obj c ns xs) n, rt := fun _ _ => False } ⟨Hs, SI⟩ ⟨fun r f st H' q h => ?_, fun d f v H' Hs' p k hr h => h.elim, fun _ _ _ _ _ h => h, fun _ _ _ _ _ h => h, fun _ _ _ _ _ _ _ _ h => h.elim⟩ (h x g ds n Q' h4)
    obtain ⟨Hs', q⟩ := q
    obtain ⟨ns, xs, e, h⟩ := h
    obtain ⟨Hs2, p, kk, rr⟩ := q.shareO e
    exact h5 _ f H' Hs2 p kk rr h
end
/-! methods, properties, in -/
def CalP (P : Program) (w : World) (K : PySem.W.Frag) (mg : Str → Option Value) (base : Heap) (k : Nat) (c m : Str) (ps : List Str) (S : DSp) : Prop :=
  ∃ C p f fd, KC K c C ∧ PropOf K C m p f ∧ FnOk P w K mg base CX0 k f fd ps (spOf K S) ∧ Binds K fd ps []
section
variable {X : Cx} {K : PySem.W.Frag} {W : WX}
def dProp (c : Str) (S : DSp) (o : DT) : DT := fun g r n Q => o g r n fun d n1 => match d with
  | .obj c' ns xs => c' = c ∧ S g [.obj c' ns xs] n1 Q
  | _ => False
theorem snd_prop {c : Str} {C : Addr} {S : DSp} {E : XK} {to : TE} {o : DT} (k : KC K c C) (ho : Snd K to o) : Snd K (tProp C (spOf K S) [] E to) (dProp c S o) := fun g ro f st H Hs Q Q' A hq hd =>
  ho g ro f st H Hs _ _ A (fun x f1 v H1 Hs1 s1 k1 r1 q1 => by
    cases x <;> try exact q1.elim
    next c' ns xs =>
    obtain ⟨rfl, q1⟩ := q1
    have r0 := r1
    obtain ⟨C', a, dx, vs, h0, rfl, h2, h3, h4, h5⟩ := r1
    cases k.uniq h0
    exact ⟨a, dx, _, rfl, s1.sub _ _ h2, g, Hs1, [.obj c' ns xs], f1, Q', s1.sub, k1, RpA.one r0, q1, fun d f' v H' Hs' s3 k3 r3 q3 => hq d f' v H' Hs' (s1.trans s3) k3 r3 q3⟩) hd
theorem de_prop {c m : Str} {k : Nat} {ps : List Str} {S : DSp} {o : Expr} {pos : Pos} {d : DT} (cp : CalP X.prog X.w X.K X.mg X.base k c m ps S) (hr : Room (k + 1) X.A) (ho : DE X o d) (hb' : attributeBase o m X.env (eval o X.env) = eval o X.env := by rfl) : DE X (.Attribute o m pos) (dProp c S d) := by
  obtain ⟨C, p, f, fd, kc, M, F, hb⟩ := cp
  exact .mk' (pe_prop ho.pe kc.cls M F hr hb .nil pass0 hb') (snd_prop kc ho.sn)
/-! x in o, by the class's own __contains__ -/
/-! isinstance with instances of own classes among the values -/
structure KTy (K : PySem.W.Frag) (C : Addr) : Prop where
  ha : PySem.W.findIn K (.ref C) "__class__" = some (some (.builtin "object.__class__"))
  hn : PySem.W.specialIn K (.builtin "object.__class__") "__get__" = some (some (.builtin "getset_descriptor.__get__"))
  htk : PySem.W.takesIn K (.builtin "object.__class__") = some true
  hm : PySem.W.mroIn K C (.type "object") = some true
end
end DL
namespace DL
open PySem PySem.Spec PyProof.Rows L2
/-! sorted(..) of data that can be compared: a list, a tuple, a dict's keys -/
section
variable {prog : Program} {w : World} {A : Around} {E : Value → Shared → Prop} {s : Shared}
theorem collect_tup {l : Addr} {vs : List Value} {Q : List Value → Shared → Prop} (hl : IsTup s.heap l vs.toArray)
    (h : Q vs { s with heap := (s.heap.push (seqObj "list" #[] 0)).update s.heap.objs.size (Obj.mapSeq (· ++ vs.toArray)) }) (hsz : vs.length ≤ sizeLine) :
    wpAny (model prog w) A (collect (.ref l)) Q E s := by
  obtain ⟨o, ho, hc, n, hd⟩ := id hl
  unfold collect
  refine wpAny_bind (wpAny_runValue (codeAny_builtin entry_proto_collect' ?_))
  show wpAny _ _ (do again (.builtin "list.__iadd__" ⟨[← newList [], .ref l], []⟩)) _ _ s
  refine wpAny_bind (wpAny_newList (wpAny_pure ⟨Code.quiet_builtin _ (by decide +kernel), codeAny_builtin entry_list_iadd' ?_⟩))
  show wpAny _ _ (Builtin.List.listExtendWith (.ref s.heap.objs.size) (.ref l) (.ref s.heap.objs.size)) _ _ { s with heap := s.heap.push (seqObj "list" #[] 0) }
  unfold Builtin.List.listExtendWith
  have ho' : (s.heap.push (seqObj "list" #[] 0)).get? l = some o := Heap.get?_push_of_some _ ho
  refine wpAny_bind (wpAny_typeOf (T := "tuple") ⟨o, ho', hc⟩ ?_)
  have ht : (Value.type "tuple" == Value.type "tuple") = true := by rfl
  rw [if_pos (by rw [ht]; simp)]
  refine wpAny_bind (listItems_at ho' hd ?_)
  refine wpAny_bind (listItems_at (xs := #[]) (n := 0) (Heap.get?_push_size _ rfl) rfl ?_)
  rw [if_neg (by simp)]
  refine wpAny_bind (listUpdate_at (xs := #[]) (n := 0) (Heap.get?_push_size _ rfl) rfl ?_ (Nat.zero_le _) (by show (#[] ++ vs.toArray).size ≤ sizeLine + 1; simp only [Array.size_append, List.size_toArray, List.length_nil]; omega))
  refine wpAny_pure ?_
  show wpAny (model prog w) A (do
      let o ← load s.heap.objs.size
      match o.data with
      | .seq xs _ => pure xs.toList
      | _ => unsupported "internal:collect") Q E { s with heap := (s.heap.push (seqObj "list" #[] 0)).update s.heap.objs.size (Obj.mapSeq (· ++ vs.toArray)) }
  refine wpAny_bind (wpAny_load (get?_update_seq (Heap.get?_push_size _ rfl) _) ?_)
  show wpAny _ _ (pure ((#[] : Array Value) ++ vs.toArray).toList) Q E _
  rw [show ((#[] : Array Value) ++ vs.toArray).toList = vs by simp]
  exact wpAny_pure h
theorem copied_old {h : Heap} {vs : List Value} {b : Addr} {o : Obj} (e : h.get? b = some o) : ((h.push (seqObj "list" #[] 0)).update h.objs.size (Obj.mapSeq (· ++ vs.toArray))).get? b = some o := by
  rw [Heap.get?_update_ne _ _ _ _ (Nat.ne_of_lt (Heap.lt_size e))]
  exact Heap.get?_push_of_some _ e
end
mutual
theorem reads_lt {h : Heap} : ∀ {v : Value} {d : PyData} {as : List Addr}, Reads h v d as → ∀ x ∈ as, x < h.objs.size
  | _, _, _, .none, x, hx => by cases hx
  | _, _, _, .bool b, x, hx => by cases hx
  | _, _, _, .int i t, x, hx => by cases hx
  | _, _, _, .str y t, x, hx => by cases hx
  | _, _, _, .list h1 h2 h3 h4, x, hx => by
    rcases List.mem_cons.mp hx with rfl | hx
    · exact Heap.lt_size h1
    · exact readsA_lt h4 x hx
  | _, _, _, .tuple h1 h2 h3 h4, x, hx => readsA_lt h4 x hx
  | _, _, _, .dict h1 h2 h3 h4 h5, x, hx => by
    rcases List.mem_append.mp hx with hx | hx
    · rcases List.mem_cons.mp hx with rfl | hx
      · exact Heap.lt_size h1
      · exact readsA_lt h4 x hx
    · exact readsA_lt h5 x hx
theorem readsA_lt {h : Heap} : ∀ {vs : List Value} {ds : List PyData} {as : List Addr}, ReadsAll h vs ds as → ∀ x ∈ as, x < h.objs.size
  | _, _, _, .nil, x, hx => by cases hx
  | _, _, _, .cons h1 h2, x, hx => by
    rcases List.mem_append.mp hx with hx | hx
    · exact reads_lt h1 x hx
    · exact readsA_lt h2 x hx
end
def Src (K : PySem.W.Frag) (H : Hp) (a : Addr) (xs : List V) : Prop := SqL K H a xs ∨ SqT K H a xs ∨ ∃ kvs : List (Key × V), Rd H a (.dK kvs) ∧ xs = kvs.map fun kv => kV kv.1
section
variable {X : Cx} {pins : List (Addr × Obj)} {st : L2.St} {H : Hp} {s : Shared}
theorem collect_src {a : Addr} {xs : List V} {A : Around} {R : List Value → Shared → Prop} {E : Value → Shared → Prop} (I : Inv X pins st H s) (hc : A.handled = none) (h : Src X.K H a xs) (hl : xs.length ≤ sizeLine)
    (q : ∀ (h' : Heap) (tk : Nat) (us : List Value), (∀ b o, s.heap.get? b = some o → h'.get? b = some o) → Vals xs us → R us { s with heap := h', toks := tk }) : wpAny (model X.prog X.w) A (collect (.ref a)) R E s := by
  rcases h with h | h | ⟨kvs, h, rfl⟩
  · obtain ⟨its, rv, hp, hz⟩ := I.list h
    exact collect_list hp.isList (q _ _ its (fun b o e => copied_old e) rv) (by rw [← rv.length]; exact hz)
  · obtain ⟨its, rv, hp, hz⟩ := I.tuple h
    exact collect_tup hp (q _ _ its (fun b o e => copied_old e) rv) (by rw [← rv.length]; exact hz)
  · obtain ⟨z, lo, vs, rel, dd⟩ := dk_rd I.hok h
    obtain ⟨ep, hat⟩ := dd.dictAt
    have ek : (kvs.map fun kv => kV kv.1) = vs.map fun p => kV p.1 := by
      have e := congrArg (List.map kV) rel.keys
      rw [List.map_map, List.map_map] at e
      exact e
    refine PySem.W.kdu_collect (PySem.W.kdl_dict (knd := mixKind X.prog X.w) (kvs := vs) (ep := ep) lo) hc hat (by rw [← rel.length]; exact z) fun h' tk acc hk hacc => ?_
    refine q h' tk acc.toList hk ?_
    rw [ek]
    refine keys_at (by rw [Array.length_toList, hacc.1]) fun j v e => ?_
    exact hacc.2 j v (by rw [← Array.getElem?_toList]; exact e)
def rSortA (K : PySem.W.Frag) : List V → Hp → VK → Prop := fun vs H Q => ∃ (a : Addr) (bs : List (V × PyData)), vs = [.ref a] ∧ Src K H a (bs.map (·.1)) ∧ bs.length ≤ lim ∧ (∀ b ∈ bs, Dp K H b.1 b.2) ∧ PySem.W.AllAlike (bs.map (·.2)) ∧ PySem.W.Sortable (bs.map (·.2)) ∧ (∀ b ∈ bs, b.2.depth ≤ 30) ∧
  ∀ p, H p = none → Q (.ref p) (upd H p (.lst ((bs.mergeSort (PySem.W.dataLe false (·.2))).map (·.1))))
theorem each_vals : ∀ {bs : List (V × PyData)} {us : List Value}, Vals (bs.map (·.1)) us → PySem.W.EachIs (fun v (b : V × PyData) => RelV b.1 v) us bs
  | [], _, h => by cases h; exact .nil
  | b :: bs, _, h => by
    rw [List.map_cons] at h
    cases h with
    | cons r t => exact .cons r (each_vals t)
theorem vals_each : ∀ {bs : List (V × PyData)} {us : List Value}, PySem.W.EachIs (fun v (b : V × PyData) => RelV b.1 v) us bs → Vals (bs.map (·.1)) us
  | [], _, h => by cases h; exact .nil
  | b :: bs, _, h => by
    cases h with
    | cons r t => exact .cons r (vals_each t)
theorem cr_sortA (hc : X.calm = true) (hu : X.A.units + 64 < cLine) : CallR X (.builtin "sorted") (rSortA X.K) := by
  intro pins s st H vs us Q I r h
  obtain ⟨a, bs, rfl, hs, hl, hdp, hal, hk, hde, q⟩ := h
  rw [Vals.ref1 r]
  refine Calls.call_function_entry PyProof.Rows.kind_sorted PyProof.Rows.plain_sorted PyProof.Rows.entry_sorted (PyProof.Rows.args_sorted1 _) ?_
  unfold Builtin.«sorted»
  refine wpAny_bind (m := checkCount "sorted" 1 1 _) (wpAny_pure ?_)
  have hL : bs.length ≤ sizeLine := lim_le hl
  refine wpAny_bind (collect_src (A := X.A.in1) I (I.ok.hd hc) hs (by rw [List.length_map]; exact hL) fun h' tk ws keep rv => ?_)
  have I1 : Inv X pins st H { s with heap := h', toks := tk } := I.kept keep
  have hwl : ws.length = bs.length := by rw [← rv.length, List.length_map]
  refine wpAny_bind (wpAny_newList ?_ (by rw [hwl]; exact hL))
  have hoL : (h'.push (seqObj "list" ws.toArray 0)).get? h'.objs.size = some (seqObj "list" ws.toArray 0) := Heap.get?_push_size _ rfl
  show wpAny _ _ _ _ _ { s with heap := h'.push (seqObj "list" ws.toArray 0), toks := tk }
  have e := each_vals rv
  have er : PySem.W.EachIs (fun v (b : V × PyData) => ∃ as, Reads (h'.push (seqObj "list" ws.toArray 0)) v b.2 as ∧ h'.objs.size ∉ as) ws bs := by
    refine (PySem.W.each_mem e).mono fun v b ⟨rb, hb⟩ => ?_
    obtain ⟨as, ra⟩ := Dp.reads I1 b.2 b.1 v (hdp b hb) rb
    refine ⟨as, PyProof.Rows.Reads.keeps (fun _ _ z => Heap.get?_push_of_some _ z) ra, fun z => ?_⟩
    exact Nat.lt_irrefl _ (reads_lt ra _ z)
  refine wpAny_bind (wpAny_holding (PySem.W.list_sort_data (A := X.A.in1) (s := { s with heap := h'.push (seqObj "list" ws.toArray 0), toks := tk }) hoL e er hal hk hL (fun b hb => ?_) fun out ho hout => ?_))
  · have := hde b hb
    show X.A.units + 1 + 1 + b.2.depth < cLine
    omega
  · obtain ⟨e', he'⟩ := PyProof.Rows.sortedHeap_at (vs := ws) (out := out.toArray) hoL
    have hv := vals_each hout
    have hlen : ((bs.mergeSort (PySem.W.dataLe false (·.2))).map (·.1)).length ≤ sizeLine := by rw [List.length_map, List.length_mergeSort]; exact hL
    refine wpAny_pure ⟨_, rfl, .ref h'.objs.size, upd H h'.objs.size (.lst _), I1.laid (t' := tk) (fun b u e => ?_) (Nat.le_refl _)
      (show ObjOk X.prog X.w _ _ _ (.lst _) from ⟨hlen, out, e', hv, he'⟩), rfl, q _ (I1.hok.fresh (Nat.le_refl _))⟩
    have hb : b < h'.objs.size := Heap.lt_size e
    rw [PyProof.Rows.sortedHeap_old (Nat.ne_of_lt hb) (by rw [size_push']; exact Nat.lt_succ_of_lt hb)]
    exact Heap.get?_push_of_some _ e
variable {K : PySem.W.Frag}
def sortD (xs : List D) : List D := xs.mergeSort (PySem.W.dataLe false D.py)
structure Sorts (xs : List D) : Prop where
  len : xs.length ≤ lim
  lay : PyData.canLayAll0 (pyA xs) = true
  al : PySem.W.AllAlike (xs.map D.py)
  so : PySem.W.Sortable (xs.map D.py)
  dep : ∀ x ∈ xs, x.py.depth ≤ 30
def keyD : Key → D
  | .inl i => .int i
  | .inr x => .str x
def oSorted : OA := fun ds Q => match ds with
  | [.lst xs] => Sorts xs ∧ Q (.lst (sortD xs))
  | [.tup xs] => Sorts xs ∧ Q (.lst (sortD xs))
  | [.dct ks _] => Sorts (ks.map keyD) ∧ Q (.lst (sortD (ks.map keyD)))
  | _ => False
theorem RpA.zip_snd {H : Hp} : ∀ {ds : List D} {vs : List V}, RpA K H ds vs → (vs.zip (ds.map D.py)).map (·.1) = vs ∧ (vs.zip (ds.map D.py)).map (·.2) = ds.map D.py ∧ (vs.zip ds).map (fun p => (p.1, p.2.py)) = vs.zip (ds.map D.py) ∧ (vs.zip ds).map (·.2) = ds
  | [], _, h => by cases h; exact ⟨rfl, rfl, rfl, rfl⟩
  | d :: ds, _, ⟨v, r, h1, h2, h3⟩ => by
    subst h1
    obtain ⟨e1, e2, e3, e4⟩ := RpA.zip_snd h3
    simp [e1, e2, e3, e4]
theorem RpA.zip_rp {H : Hp} : ∀ {ds : List D} {vs : List V}, RpA K H ds vs → ∀ p ∈ vs.zip ds, Rp K H p.2 p.1
  | [], _, h, p, hp => by cases h; simp at hp
  | d :: ds, _, ⟨v, r, h1, h2, h3⟩, p, hp => by
    subst h1
    rw [List.zip_cons_cons] at hp
    rcases List.mem_cons.mp hp with rfl | hp
    · exact h2
    · exact RpA.zip_rp h3 p hp
theorem RpA.of_pairs {H : Hp} : ∀ (l : List (V × D)), (∀ p ∈ l, Rp K H p.2 p.1) → RpA K H (l.map (·.2)) (l.map (·.1))
  | [], _ => rfl
  | p :: l, h => ⟨_, _, rfl, h p (by simp), RpA.of_pairs l fun q hq => h q (by simp [hq])⟩
theorem pyA_map : ∀ xs : List D, pyA xs = xs.map D.py
  | [] => rfl
  | x :: xs => by rw [List.map_cons, ← pyA_map xs]; rfl
theorem lay_mem {xs : List D} (h : PyData.canLayAll0 (pyA xs) = true) : ∀ x ∈ xs, x.py.canLay0 = true := by
  induction xs with
  | nil => intro x hx; cases hx
  | cons y ys ih =>
    intro x hx
    have h' : y.py.canLay0 = true ∧ PyData.canLayAll0 (pyA ys) = true := Bool.and_eq_true_iff.mp h
    rcases List.mem_cons.mp hx with rfl | hx
    · exact h'.1
    · exact ih h'.2 x hx
theorem sort_core {H Hs : Hp} {xs : List D} {vs : List V} {a : Addr} {Q : VK} {Q' : D → Prop} (s : Same Hs H) (rx : RpA K Hs xs vs) (hs : Sorts xs) (src : Src K H a vs)
    (hq : ∀ z v H' Hs', Stp none H Hs H' Hs' → Rp K Hs' z v → Q' z → Q v H') (q : Q' (.lst (sortD xs))) : rSortA K [.ref a] H Q := by
  obtain ⟨e1, e2, e3, e4⟩ := rx.zip_snd
  have hlen := rx.length
  refine ⟨a, vs.zip (xs.map D.py), rfl, by rw [e1]; exact src, ?_, fun b hb => ?_, by rw [e2]; exact hs.al, by rw [e2]; exact hs.so, fun b hb => ?_, fun p hp => ?_⟩
  · rw [List.length_zip, List.length_map, hlen, Nat.min_self, ← hlen]; exact hs.len
  · rw [← e3] at hb
    obtain ⟨p, hp, rfl⟩ := List.mem_map.mp hb
    have hd : p.2 ∈ xs := by rw [← e4]; exact List.mem_map_of_mem hp
    exact dp_mono s ((rx.zip_rp p hp).dp _ _ (lay_mem hs.lay _ hd))
  · have : b.2 ∈ xs.map D.py := by rw [← e2]; exact List.mem_map_of_mem hb
    obtain ⟨x, hx, e⟩ := List.mem_map.mp this
    rw [← e]
    exact hs.dep x hx
  · have m1 : ((vs.zip xs).mergeSort (fun p q => PySem.W.dataLe false D.py p.2 q.2)).map (fun p => (p.1, p.2.py)) = (vs.zip (xs.map D.py)).mergeSort (PySem.W.dataLe false (·.2)) := by
      rw [← e3]
      exact List.map_mergeSort fun _ _ _ _ => rfl
    have m2 : ((vs.zip xs).mergeSort (fun p q => PySem.W.dataLe false D.py p.2 q.2)).map (·.2) = sortD xs := by
      unfold sortD
      conv => rhs; rw [← e4]
      exact List.map_mergeSort fun _ _ _ _ => rfl
    rw [← m1, List.map_map]
    have al : Stp none H Hs (upd H p (.lst (List.map ((fun x : V × PyData => x.1) ∘ fun p : V × D => (p.1, p.2.py)) ((vs.zip xs).mergeSort (fun p q => PySem.W.dataLe false D.py p.2 q.2))))) (upd Hs p (.lst (List.map ((fun x : V × PyData => x.1) ∘ fun p : V × D => (p.1, p.2.py)) ((vs.zip xs).mergeSort (fun p q => PySem.W.dataLe false D.py p.2 q.2))))) := Stp.alloc s hp
    refine hq (.lst (sortD xs)) _ _ _ al ⟨p, _, rfl, upd_same, ?_⟩ q
    rw [← m2]
    refine (RpA.of_pairs _ fun q hq => ?_).mono al.ext
    exact rx.zip_rp q ((List.mergeSort_perm _ _).mem_iff.mp hq)
theorem keys_rp {H : Hp} : ∀ ks : List Key, RpA K H (ks.map keyD) (ks.map kV)
  | [] => rfl
  | k :: ks => ⟨_, _, rfl, by cases k <;> rfl, keys_rp ks⟩
theorem sc_sorted : SndC K (rSortA K) oSorted := fun H Hs ds vs Q Q' s rx hq hd => by
  unfold oSorted at hd
  split at hd
  · next xs =>
    obtain ⟨v, r, rfl, ⟨a, us, rfl, h1, h2⟩, h3⟩ := rx
    cases h3
    exact sort_core s h2 hd.1 (.inl (SqL.of (s _ _ h1))) hq hd.2
  · next xs =>
    obtain ⟨v, r, rfl, ⟨a, us, rfl, h1, h2⟩, h3⟩ := rx
    cases h3
    exact sort_core s h2 hd.1 (.inr (.inl (tp_sq s h1))) hq hd.2
  · next ks xs =>
    obtain ⟨v, r, rfl, ⟨a, us, rfl, h1, h2, h3⟩, h4⟩ := rx
    cases h4
    refine sort_core s (keys_rp ks) hd.1 (.inr (.inr ⟨ks.zip us, .inl (s _ _ h1), ?_⟩)) hq hd.2
    have : ∀ (ks : List Key) (us : List V), ks.length = us.length → ks.map kV = (ks.zip us).map fun kv => kV kv.1 := by
      intro ks
      induction ks with
      | nil => intro us _; rfl
      | cons k ks ih =>
        intro us hl
        cases us with
        | nil => simp at hl
        | cons u us => simp only [List.zip_cons_cons, List.map_cons]; rw [← ih us (by simpa using hl)]
    exact this ks us h2
  · exact hd.elim
theorem de_sorted {k : Nat} {p pos : Pos} {e : Expr} {d : DTA} (hr : Room k X.A) (hm : X.mg "sorted" = none) (ha : DA X [e] d) (hc : X.calm = true := by rfl) (hg : Gl X "sorted" := by rfl) (hs : starEach [e] X.env = (false, eval e X.env) :: starEach [] X.env := by rfl)
    (hpl : (backTo pos (starEach [] X.env)).any (·.1) = false := by rfl) : DE X (.Call (.Name "sorted" p) [e] [] pos) (dCB oSorted d) :=
  de_callB (cr_sortA hc hr.units) sc_sorted hg hm (by decide +kernel) ha (by decide) (by decide) hs hpl
end
end DL
namespace PySem
open Sem (wp)
open AutoSeq1 (wpAny_loadPart')
set_option maxHeartbeats 1000000 in
theorem meets_enumerate_newT (l : Addr) (items : Array Value) (n : Nat) (dct : Option Addr) (sl : Array (Option Value)) :
    Meets (Builtin.«enumerate.__new__» ⟨[.type "enumerate", .ref l], []⟩) (fun _ R s => s.heap.get? l = some { cls := .type "tuple", dict := dct, data := .seq items n, slots := sl } ∧
      R (.ok (.ret (.ref (s.heap.push { cls := .type "tuple_iterator", data := .fields #[.ref l, .int 0 0] }).objs.size)))
        { s with heap := (s.heap.push { cls := .type "tuple_iterator", data := .fields #[.ref l, .int 0 0] }).push { cls := .type "enumerate", data := .fields #[.none, .bool false, .ref s.heap.objs.size, rawInt 0, .none, .none] } }) :=
  .of_wp fun prog w A R s h => by
    obtain ⟨hp, g, d, tk, os⟩ := s; obtain ⟨hl, h⟩ := h
    have hsub := sub_enumerate
    have hL : Heap.IsTuple (Shared.heap ⟨hp, g, d, tk, os⟩) l items := ⟨_, hl, rfl, n, rfl⟩
    wp_walk using wpAny_loadPart' hl
    refine wpAny_stack_any fun st => wpAny_pure ?_
    split
    · rename_i c _ _ _ _ _
      cases (c == Value.type "enumerate")
      · wp_walk using wpAny_loadPart' hl, wpAny_pyIter_tuple hL
        exact ⟨_, rfl, h⟩
      · wp_walk using wpAny_loadPart' hl, wpAny_pyIter_tuple hL
        exact ⟨_, rfl, h⟩
    · wp_walk using wpAny_loadPart' hl, wpAny_pyIter_tuple hL
      exact ⟨_, rfl, h⟩
section
variable {prog : Program} {w : World} {A : Around} {E : Value → Shared → Prop} {s : Shared}
theorem call_enumerate_tuple {l : Addr} {items : Array Value} {Q : Value → Shared → Prop} (hL : s.heap.IsTuple l items)
    (h : ∀ h', IsEnum h' (s.heap.objs.size + 1) s.heap.objs.size 0 .none → h'.IsTupleIter s.heap.objs.size l 0 → h'.objs.size = s.heap.objs.size + 2 →
      (∀ b o, s.heap.get? b = some o → h'.get? b = some o) → Q (.ref (s.heap.objs.size + 1)) { s with heap := h' }) :
    wpAny (model prog w) A (call (.type "enumerate") [.ref l]) Q E s := by
  obtain ⟨⟨c, dct, dt, sl⟩, hl, hc, n, hd⟩ := hL
  replace hc : c = .type "tuple" := hc
  replace hd : dt = .seq items n := hd
  subst hc hd
  refine callType_new F.called_enumerate (by decide) (F.typeCall_enumerate_1 _) (F.newCall_enumerate_1 _) (fun obj => F.args_object_init_2 obj _) F.entry_enumerate_new
    (meets_enumerate_newT l items n dct sl) ⟨hl, ?_⟩
  have hz : (s.heap.push { cls := .type "tuple_iterator", data := .fields #[.ref l, .int 0 0] }).objs.size = s.heap.objs.size + 1 := Heap.size_push ..
  show _ ∧ _
  rw [hz]
  have he : IsEnum ((s.heap.push { cls := .type "tuple_iterator", data := .fields #[.ref l, .int 0 0] }).push
      { cls := .type "enumerate", data := .fields #[.none, .bool false, .ref s.heap.objs.size, rawInt 0, .none, .none] }) (s.heap.objs.size + 1) s.heap.objs.size 0 .none := by
    have := Heap.get?_push_size (s.heap.push { cls := .type "tuple_iterator", data := .fields #[.ref l, .int 0 0] })
      (o := { cls := .type "enumerate", data := .fields #[.none, .bool false, .ref s.heap.objs.size, rawInt 0, .none, .none] }) rfl
    rw [hz] at this; exact this
  refine ⟨⟨_, he, rfl⟩, h _ he ⟨_, Heap.get?_push_of_some _ (Heap.get?_push_size _ rfl), rfl, rfl⟩ (by rw [Heap.size_push, hz]) fun b o x => Heap.get?_push_of_some _ (Heap.get?_push_of_some _ x)⟩
theorem wpAny_pyNext_enumT_end {e it l : Addr} {i : Nat} {items : Array Value} {old : Value} {Q : Option Value → Shared → Prop} (hh : A.handled = none)
    (he : IsEnum s.heap e it i old) (hit : s.heap.IsTupleIter it l i) (hl : s.heap.IsTuple l items) (hx : items[i]? = none)
    (hQ : ∀ h', Heap.ExtBut it s.heap h' → Q none { s with heap := h' }) : wpAny (model prog w) A (pyNext (.ref e)) Q E s := by
  have hT : s.TypeIs (.ref e) "enumerate" := ⟨_, he, rfl⟩
  unfold pyNext
  refine wpAny_bind (wpAny_attempt (wpAny_callSpecial?_slot (name := Str.ofString "__next__") hT F.slot_enumerate_next
    (wpAny_call_entry F.slot_enumerate_next hT F.entry_enumerate_next ?_ (F.args_enumerate_next_1 _))))
  show wpAny _ _ (field (.ref e) 2 >>= _) _ _ _
  refine wpAny_bind (wpAny_field he rfl (x := .ref it) rfl ?_)
  refine wpAny_bind (wpAny_nextOf_tuple_end hh hit hl hx fun h' x he' hx' => ?_)
  obtain ⟨o, ho, hc⟩ := hx'
  refine wpAny_bind (wpAny_isInstance (T := "StopIteration") (b := true) ⟨o, ho, hc⟩ isSubtype_stop ?_)
  exact wpAny_pure (hQ _ he')
end
end PySem
namespace DL
open PySem PySem.Spec PyProof.Rows L2
def IteT (K : PySem.W.Frag) (a : Addr) : It :=
  ⟨fun i H => ∃ (xs : List V) (x : V), SqT K H a xs ∧ xs[i]? = some x, fun i H v H' => ∃ T x, v = .ref T ∧ H T = none ∧ H' = upd H T (.tup [.int (i : Nat), x]) ∧ ∀ xs, SqT K H a xs → xs[i]? = some x, fun i H => ∃ xs : List V, SqT K H a xs ∧ xs.length ≤ i⟩
theorem cls_ne {h : Heap} {a b : Addr} {o p : Obj} {x y : String} (h1 : h.get? a = some o) (h2 : h.get? b = some p) (c1 : o.cls = .type x) (c2 : p.cls = .type y) (n : x ≠ y) : a ≠ b := fun e => by
  subst e
  rw [h1] at h2
  cases h2
  rw [c1] at c2
  cases c2
  exact n rfl
theorem turn_enumT {P : Program} {w : World} {K : PySem.W.Frag} {elts : List Expr} {kk : Nat} {tpos : Pos} (a e it : Addr) :
    Turn P w K (.Tuple elts kk tpos) (IteT K a) [e, it] e (fun i h => (∃ old, IsEnum h e it ((i : Nat) : Int) old) ∧ h.IsTupleIter it a i ∧ e ≠ it) where
  mem := by simp
  obj := fun i h st b hb => by
    obtain ⟨⟨old, he⟩, ⟨o, ho, hc, hd⟩, _⟩ := st
    have e' : b = e ∨ b = it := by simpa using hb
    rcases e' with z | z
    · rw [z]; exact ⟨_, he, fun v q => nomatch q⟩
    · rw [z]; exact ⟨o, ho, fun v q => by rw [hd] at q; cases q⟩
  keep := fun i h h' st k => let ⟨⟨old, he⟩, hi, hne⟩ := st; ⟨⟨old, k e (by simp) _ he⟩, hi.at fun o q => k it (by simp) o q, hne⟩
  item := by
    intro X hP hw hK hc i pins s st H E I hf stt hg
    subst hP hw hK
    obtain ⟨⟨old, he⟩, hit, hne⟩ := stt
    obtain ⟨xs, x, hq, hx⟩ := hg
    obtain ⟨its, rv, p, hz⟩ := I.tuple hq
    obtain ⟨u, hu, ru⟩ := rv.get hx
    have hel : e < s.heap.objs.size := Heap.lt_size he
    have hil : it < s.heap.objs.size := by obtain ⟨_, q, _⟩ := hit; exact Heap.lt_size q
    have ht : s.heap.IsTuple a its.toArray := p
    obtain ⟨ot, hot, hct, nt, hdt⟩ := id p
    obtain ⟨oi, hoi, hci, hdi⟩ := id hit
    have n1 : a ≠ it := cls_ne hot hoi hct hci (by decide)
    have n2 : e ≠ a := cls_ne he hot rfl hct (by decide)
    have D := Draws.tuple (prog := X.prog) (w := X.w) (A := X.A.in1) (I.ok.hd hc) it a n1 its.toArray
    have hlt : i < its.toArray.size := by
      have := (List.getElem?_eq_some_iff.mp hu).1
      simpa using this
    refine wpAny_pyNext_enum_itemD D he ⟨hit, ht⟩ hlt hne (by simp [hne, n2]) fun x' h' tk hP' ho st' hT hsz hk => ?_
    have ex : x' = u := by
      have e1 : its.toArray[i]? = some u := by simpa using hu
      rw [hP'] at e1
      exact Option.some.inj e1
    subst ex
    refine ⟨_, rfl, wpAny_letOwnedTupleGo_enum (s := { s with heap := h', toks := tk + 1 }) ho fun h'' he' sb => ?_⟩
    have hT2 : h''.get? s.heap.objs.size = some { cls := .type "tuple", data := .seq #[.int i tk, x'] } := (sb.2 _ (Nat.ne_of_gt hel)).trans hT
    have new : ObjOk X.prog X.w (upd H s.heap.objs.size (.tup [.int (i : Nat), x])) h'' s.heap.objs.size (.tup [.int (i : Nat), x]) :=
      ⟨by show 2 ≤ sizeLine; decide, [.int i tk, x'], .cons ⟨_, rfl⟩ (.cons ru .nil), ⟨_, hT2, rfl, _, rfl⟩⟩
    have I1 : Inv X pins st (upd H s.heap.objs.size (.tup [.int (i : Nat), x])) { s with heap := h'', toks := tk + 1 } :=
      I.turnedNew (ch := [e, it]) (fun b ob hb q => (sb.2 b (fun z => hb (by simp [z]))).trans (hk b ob (fun z => hb (by simp [z])) (fun z => hb (by simp [z])) q)) hf (Nat.le_refl _) new
    refine ⟨.ref s.heap.objs.size, _, I1, rfl, ⟨_, x, rfl, I.hok.fresh (Nat.le_refl _), rfl, fun ys hy => by rw [I.tuple_inj hy hq]; exact hx⟩, ⟨⟨x', ?_⟩, st'.1.at fun o q => (sb.2 it (Ne.symm hne)).trans q, hne⟩, fun b hb => ?_⟩
    · have e1 : ((i + 1 : Nat) : Int) = (i : Int) + 1 := by omega
      rw [e1]; exact he'
    · have hb' : b < s.heap.objs.size := by
        have e' : b = e ∨ b = it := by simpa using hb
        rcases e' with z | z
        · rw [z]; exact hel
        · rw [z]; exact hil
      rw [upd_ne (Nat.ne_of_lt hb')]
      exact (hf b hb).1
  done := by
    intro X hP hw hK hc i pins s st H E I hf stt hg
    subst hP hw hK
    obtain ⟨⟨old, he⟩, hit, hne⟩ := stt
    obtain ⟨xs, hq, hx⟩ := hg
    obtain ⟨its, rv, p, hz⟩ := I.tuple hq
    obtain ⟨f0, f1, f2, f3, f4, f5⟩ := hf it (by simp)
    have hl := rv.length
    exact wpAny_pyNext_enumT_end (I.ok.hd hc) he hit p (by simp; omega) fun h' eb => ⟨rfl, I.turned (t' := s.toks) (fun b o hb q => eb b o hb q) f0 f1 f3 f4 f5⟩
  self := fun A i s Q E st h => let ⟨⟨_, he⟩, _⟩ := st; wpAny_pyIter_enum he h
def iEnumA (K : PySem.W.Frag) (ta : TA) : TI := fun st H R => ta st H fun vs H1 => ∃ a xs, vs = [.ref a] ∧ ((SqL K H1 a xs ∧ R (Ite K a) H1) ∨ (SqT K H1 a xs ∧ R (IteT K a) H1))
theorem pi_enumA {X : Cx} {e : Expr} {ta : TA} {p pos tpos : Pos} {elts : List Expr} {kk : Nat} (hg : Gl X "enumerate") (hm : X.mg "enumerate" = none) (ha : PA X [e] ta) (hs : starEach [e] X.env = [(false, eval e X.env)] := by rfl) :
    PI X (.Tuple elts kk tpos) (.Call (.Name "enumerate" p) [e] [] pos) (iEnumA X.K ta) := by
  refine ⟨fun pins s st H R I h => ?_⟩
  refine Call_ (ld_blt I hg hm boot_enumerate (PyProof.Rows.callWith_type1 (thn (ha.run pos pins s st H _ I h) fun us s1 ⟨vs, H1, I1, r1, q1⟩ => ?_) hs rfl))
  obtain ⟨a, xs, ex, q⟩ := q1
  subst ex
  cases r1 with
  | cons r rr =>
    cases rr
    cases r
    rcases q with ⟨hq, q⟩ | ⟨hq, q⟩
    · obtain ⟨its, rv, p', hz⟩ := I1.list hq
      refine call_enumerate_list p'.isList fun h' he hit hsz hk => wpAny_pyIter_enum he ?_
      have I2 : Inv X pins st H1 { s1 with heap := h' } := I1.kept (t' := s1.toks) hk
      refine ⟨s1.heap.objs.size + 1, [s1.heap.objs.size + 1, s1.heap.objs.size], _, _, H1, rfl, I2, turn_enum a (s1.heap.objs.size + 1) s1.heap.objs.size, ⟨⟨.none, he⟩, hit, Nat.succ_ne_self _⟩, fun b hb => ?_, q⟩
      have e' : b = s1.heap.objs.size + 1 ∨ b = s1.heap.objs.size := by simpa using hb
      have hle : s1.heap.objs.size ≤ b := by
        rcases e' with z | z
        · rw [z]; exact Nat.le_add_right _ _
        · rw [z]; exact Nat.le_refl _
      exact I1.fpOk hle (I1.hok.fresh hle)
    · obtain ⟨its, rv, p', hz⟩ := I1.tuple hq
      refine call_enumerate_tuple p' fun h' he hit hsz hk => wpAny_pyIter_enum he ?_
      have I2 : Inv X pins st H1 { s1 with heap := h' } := I1.kept (t' := s1.toks) hk
      refine ⟨s1.heap.objs.size + 1, [s1.heap.objs.size + 1, s1.heap.objs.size], _, _, H1, rfl, I2, turn_enumT a (s1.heap.objs.size + 1) s1.heap.objs.size, ⟨⟨.none, he⟩, hit, Nat.succ_ne_self _⟩, fun b hb => ?_, q⟩
      have e' : b = s1.heap.objs.size + 1 ∨ b = s1.heap.objs.size := by simpa using hb
      have hle : s1.heap.objs.size ≤ b := by
        rcases e' with z | z
        · rw [z]; exact Nat.le_add_right _ _
        · rw [z]; exact Nat.le_refl _
      exact I1.fpOk hle (I1.hok.fresh hle)
section
variable {X : Cx} {K : PySem.W.Frag}
def enumD (xs : List D) : List D := xs.mapIdx fun i x => .tup [.int i, x]
theorem enumD_get {xs : List D} {i : Nat} {d : D} (h : (enumD xs)[i]? = some d) : ∃ x, xs[i]? = some x ∧ d = .tup [.int i, x] := by
  unfold enumD at h
  rw [List.getElem?_mapIdx] at h
  cases e : xs[i]? with
  | none => rw [e] at h; cases h
  | some x => rw [e] at h; cases h; exact ⟨x, rfl, rfl⟩
theorem enumD_len (xs : List D) : (enumD xs).length = xs.length := by unfold enumD; rw [List.length_mapIdx]
def dEnum (t : DTA) : DTA := fun g r f Q => t g r f fun ds f1 => match ds with
  | [.lst xs] => Q (enumD xs) f1
  | [.tup xs] => Q (enumD xs) f1
  | _ => False
theorem walks_enumL {Hb : Hp} {a : Addr} {vs : List V} {ds : List D} (h1 : Hb a = some (.lst vs)) (h2 : RpA K Hb ds vs) : Walks K (Ite K a) Hb (enumD ds) where
  go := fun i d H Hs s1 s2 e => by
    obtain ⟨x, ex, rfl⟩ := enumD_get e
    obtain ⟨v, hv, hr⟩ := h2.get ex
    have q1 : SqL K H a vs := SqL.of (s2 _ _ (s1 _ _ h1))
    refine ⟨⟨vs, v, q1, hv⟩, ?_⟩
    rintro z H' ⟨T, x', rfl, hT, rfl, hx⟩
    have e1 := hx vs q1
    rw [hv] at e1
    cases e1
    exact pair_stp s2 hT rfl (hr.mono s1)
  stop := fun H s => ⟨vs, SqL.of (s _ _ h1), by rw [enumD_len, h2.length]; exact Nat.le_refl _⟩
theorem walks_enumT {Hb : Hp} {a : Addr} {vs : List V} {ds : List D} (h1 : TpAt K Hb a vs) (h2 : RpA K Hb ds vs) : Walks K (IteT K a) Hb (enumD ds) where
  go := fun i d H Hs s1 s2 e => by
    obtain ⟨x, ex, rfl⟩ := enumD_get e
    obtain ⟨v, hv, hr⟩ := h2.get ex
    have q1 : SqT K H a vs := (tp_sq (s1.trans s2) h1)
    refine ⟨⟨vs, v, q1, hv⟩, ?_⟩
    rintro z H' ⟨T, x', rfl, hT, rfl, hx⟩
    have e1 := hx vs q1
    rw [hv] at e1
    cases e1
    exact pair_stp s2 hT rfl (hr.mono s1)
  stop := fun H s => ⟨vs, (tp_sq s h1), by rw [enumD_len, h2.length]; exact Nat.le_refl _⟩
theorem di_enum {e : Expr} {d : DTA} {p pos tpos : Pos} {elts : List Expr} {kk : Nat} (hm : X.mg "enumerate" = none) (ha : DA X [e] d) (hg : Gl X "enumerate" := by rfl)
    (hs : starEach [e] X.env = [(false, eval e X.env)] := by rfl) : DI X (.Tuple elts kk tpos) (.Call (.Name "enumerate" p) [e] [] pos) (dEnum d) := DI.mk' (pi_enumA hg hm ha.pa hs) fun g ro f st H Hs R Q' A hq hd =>
  ha.sn g ro f st H Hs _ _ A (fun ds f1 vs H1 Hs1 s1 k1 r1 q1 => by
    split at q1
    · obtain ⟨v, r, rfl, ⟨a, us, rfl, h1, h2⟩, h3⟩ := r1
      cases h3
      exact ⟨a, us, rfl, .inl ⟨SqL.of (s1.sub _ _ h1), hq _ f1 _ H1 Hs1 s1 k1 (walks_enumL h1 h2) q1⟩⟩
    · obtain ⟨v, r, rfl, ⟨a, us, rfl, h1, h2⟩, h3⟩ := r1
      cases h3
      exact ⟨a, us, rfl, .inr ⟨(tp_sq s1.sub h1), hq _ f1 _ H1 Hs1 s1 k1 (walks_enumT h1 h2) q1⟩⟩
    · exact q1.elim) hd
end
end DL
namespace DL
open PySem PySem.Spec PyProof.Rows L2
/-! dicts that a slot owns -/
def D.key : D → Option Key
  | .int i => some (.inl i)
  | .str x => some (.inr x)
  | _ => Option.none
instance decKey (k : Key) (ks : List Key) : Decidable (k ∈ ks) := @List.instDecidableMemOfLawfulBEq Key instBEqOfDecidableEq inferInstance k ks
def putKs (ks : List Key) (k : Key) : List Key := if k ∈ ks then ks else ks ++ [k]
def putXs (ks : List Key) (xs : List D) (k : Key) (d : D) : List D := if k ∈ ks then (ks.zip xs).map fun p => if p.1 = k then d else p.2 else xs ++ [d]
section
variable {X : Cx} {K : PySem.W.Frag} {W : WX}
theorem key_v {H : Hp} {d : D} {v : V} {k : Key} (h : Rp K H d v) (e : d.key = some k) : v = kV k := by
  cases d <;> simp only [D.key, reduceCtorEq, Option.some.injEq] at e <;> subst e <;> cases h <;> rfl
theorem any_zip {k : Key} : ∀ {ks : List Key} {vs : List V}, ks.length = vs.length → ((ks.zip vs).any fun kv => decide (kv.1 = k)) = decide (k ∈ ks)
  | [], _, _ => by simp
  | _ :: _, [], h => by simp at h
  | a :: ks, v :: vs, h => by
    rw [List.zip_cons_cons, List.any_cons, any_zip (by simpa using h)]
    by_cases e : a = k
    · simp [e]
    · simp [e, Ne.symm e]
theorem put_zip {k : Key} {v : V} : ∀ {ks : List Key} {vs : List V}, ks.length = vs.length → (ks.zip vs).map (fun kv => if kv.1 = k then (kv.1, v) else kv) = ks.zip ((ks.zip vs).map fun kv => if kv.1 = k then v else kv.2)
  | [], _, _ => by simp
  | _ :: _, [], h => by simp at h
  | a :: ks, w :: vs, h => by
    simp only [List.zip_cons_cons, List.map_cons]
    rw [put_zip (by simpa using h)]
    by_cases e : a = k <;> simp [e]
theorem putXs_rp {H : Hp} {k : Key} {d : D} {v : V} (hd : Rp K H d v) : ∀ {ks : List Key} {xs : List D} {vs : List V}, RpA K H xs vs → RpA K H ((ks.zip xs).map fun p => if p.1 = k then d else p.2) ((ks.zip vs).map fun p => if p.1 = k then v else p.2)
  | [], _, _, _ => by simp [RpA]
  | _ :: _, [], _, h => by cases h; simp [RpA]
  | a :: ks, x :: xs, _, ⟨w, r, h1, h2, h3⟩ => by
    subst h1
    simp only [List.zip_cons_cons, List.map_cons]
    refine ⟨_, _, rfl, ?_, putXs_rp hd h3⟩
    by_cases e : a = k
    · rw [if_pos e, if_pos e]; exact hd
    · rw [if_neg e, if_neg e]; exact h2
theorem put_rp {H : Hp} {ks : List Key} {xs : List D} {vs : List V} {k : Key} {d : D} {v : V} (hl : ks.length = vs.length) (h : RpA K H xs vs) (hd : Rp K H d v) :
    ∃ vs', putK (ks.zip vs) k v = (putKs ks k).zip vs' ∧ (putKs ks k).length = vs'.length ∧ RpA K H (putXs ks xs k d) vs' := by
  unfold putK putKs putXs
  rw [any_zip hl]
  by_cases e : k ∈ ks
  · rw [decide_eq_true e, if_pos rfl, if_pos e, if_pos e]
    refine ⟨_, put_zip hl, ?_, putXs_rp hd h⟩
    rw [List.length_map, List.length_zip, hl, Nat.min_self]
  · rw [decide_eq_false e, if_neg Bool.false_ne_true, if_neg e, if_neg e]
    refine ⟨vs ++ [v], ?_, by simp [hl], h.append (RpA.one hd)⟩
    rw [List.zip_append hl]
    rfl
def sSetD0 (i : Nat) : DTS := fun _ r f E => E.nx (r.set i (.od [] [])) f
theorem ds_setD0 {i : Nat} {x : Str} {dpos pos pos' : Pos} (hN : X.N.Nodup) (hi : X.N[i]? = some x := by rfl) (hx : Loc X.env.scope x := by first | exact Or.inl rfl | exact Or.inr rfl)
    (hs : swapsWith (.Dict [] [] dpos) (some (.Name x pos')) pos.line X.env = pure false := by rfl) (hf : X.fn x = true ∨ X.env.scope.names.lookup x = some .local := by first | exact .inl rfl | exact .inr rfl | assumption) :
    DS X (.Assign [.Name x pos'] (.Dict [] [] dpos) pos) (sSetD0 i) := .mk' (ps_set hN hi hx pe_dnewK hs hf) fun g H0 Hs0 r f st H D E s e hd => by
  obtain ⟨Hs, s⟩ := s
  intro p hp
  have lay : Stp g H Hs (upd H p (.dK [])) Hs := Stp.lay s.stp.sub hp
  have s1 := s.afterHid lay (s.dk.mut (s.dk.out hp))
  refine e.nx _ f _ _ ⟨_, s1.setOwn i (u := .od [] []) rfl (s.stp.none0 hp) (same_none s.stp.sub hp) (fun j sl _ h1 h2 h3 => ?_) ⟨[], upd_same, rfl, rfl⟩⟩ hd
  obtain ⟨a, e', _, _, q⟩ := s.ow j sl h1 h2
  rw [h3] at e'
  cases e'
  obtain ⟨o, ho, _⟩ := q.ld
  rw [hp] at ho
  cases ho
def sSetKey (m : Bool) (i : Nat) (dk dl : DT) : DTS := fun g r f E => ∃ ks xs, r[i]? = some (.od ks xs) ∧ evM m dl g r f fun d f1 => dk g r f1 fun k f2 => ∃ key, k.key = some key ∧ ks.length ≤ lim ∧ E.nx (r.set i (.od (putKs ks key) (putXs ks xs key d))) f2
theorem snd_setKey {m : Bool} {i : Nat} {tk t : TE} {dk d : DT} (hk : Snd K tk dk) (h : Snd K t d) : SndS K W (tAsg t (gSub (tVar i) tk rSetD)) (sSetKey m i dk d) := fun g H0 Hs0 r f st H D E s e hd => by
  obtain ⟨Hs, s⟩ := s
  obtain ⟨ks, xs, hx, hd⟩ := hd
  obtain ⟨a, ha, n1, n0, vs, hv, hl, hr⟩ := s.ow i _ hx rfl
  refine snd_evM h s (fun d f' v H' Hs' s' _ hr' q => ?_) hd
  refine ⟨.ref a, ha, ?_⟩
  refine hk g r f' st H' _ _ _ s'.at (fun k f2 w H2 Hs2 s2 k2 r2 q2 => ?_) q
  have s3 := s'.after s2 k2
  obtain ⟨key, hkey, hlim, q2⟩ := q2
  obtain ⟨a', ha', n1', n0', vs', hv', hl', hr2⟩ := s3.ow i _ hx rfl
  rw [ha] at ha'
  cases ha'
  rw [key_v r2 hkey]
  obtain ⟨us, e1, e2, e3⟩ := put_rp (k := key) hl' hr2 (hr'.mono (s'.afterExt s2))
  refine ⟨a, _, rfl, DPut.k hv' ?_, e.nx _ f2 st _ ⟨_, s3.mutOwn (u := .od (putKs ks key) (putXs ks xs key d)) hx rfl ha rfl ⟨us, by rw [upd_same, e1], e2, e3⟩⟩ q2⟩
  rw [List.length_zip]
  exact Nat.lt_of_le_of_lt (Nat.min_le_left _ _) (lim_lt hlim)
theorem ds_setKey (m : Bool) {k' : Nat} {i : Nat} {x : Str} {e k : Expr} {px spos pos : Pos} {dk d : DT} (hr : Room k' X.A) (hk : DE X k dk) (h : DE X e d) (hN : X.N[i]? = some x := by rfl) (hv : Vis X.env.scope x := by first | exact Or.inl rfl | exact Or.inr (Or.inl rfl) | exact Or.inr (Or.inr rfl)) (hd : (x == ("__debug__" : Str)) = false := by decide)
    (hcd : (x == ("__classdict__" : Str)) = false := by decide)
    (ha : ∀ v, assign (.Subscript (.Name x px) k spos) X.env v = (do
      let ov ← holding [v] (eval (.Name x px) X.env)
      let iv ← holding [v, ov] (eval k X.env)
      standAt spos
      holding [v, ov, iv] (setItem ov iv v)
      release [v, ov, iv] []) := by intro _; rfl)
    (hs : swapsWithSole [.Subscript (.Name x px) k spos] e pos.line X.env = pure false := by rfl) (hw : swappedStores [.Subscript (.Name x px) k spos] e X.env = pure none := by rfl) (h1 : (assignEach [.Subscript (.Name x px) k spos] X.env).map (·.2) = [assign (.Subscript (.Name x px) k spos) X.env] := by rfl) :
    DS X (.Assign [.Subscript (.Name x px) k spos] e pos) (sSetKey m i dk d) :=
  .mk' (ps_asg h.pe (pg_sub (pe_var hN hv hd hcd) hk.pe (set_dict (hu_of hr)) ha) hs hw h1) (snd_setKey hk.sn h.sn)
end
end DL
namespace DL
open PySem PySem.Spec PyProof.Rows L2
section
variable {X : Cx} {K : PySem.W.Frag}
/-! t[::-1] -/
/-! list(xs) -/
/-! isinstance(x, T), instances of one own class among the values -/
structure KO (K : PySem.W.Frag) (c : Str) (C : Addr) : Prop where
  kc : KC K c C
  ty : KTy K C
  tup : PySem.W.subIn K (.ref C) (.type "tuple") = some false
  str : PySem.W.subIn K (.ref C) (.type "str") = some false
theorem KO.one {c : Str} {C : Addr} (k : KO K c C) : PySem.W.kitOne K (.ref C) (.type "tuple") = some false ∧ PySem.W.kitOne K (.ref C) (.type "str") = some false := by
  unfold PySem.W.kitOne PySem.W.kitCls
  have h1 : (Value.ref C == Value.type "tuple") = false := rfl
  have h2 : (Value.ref C == Value.type "str") = false := rfl
  rw [h1, h2, if_neg Bool.false_ne_true, if_neg Bool.false_ne_true]
  show (if PySem.W.kitMeta "tuple" = true then PySem.W.subIn K (.ref C) (.type "tuple") else none) = _ ∧ (if PySem.W.kitMeta "str" = true then PySem.W.subIn K (.ref C) (.type "str") else none) = _
  rw [if_pos (by decide +kernel), if_pos (by decide +kernel)]
  exact ⟨k.tup, k.str⟩
def oIsiO (c : Str) : OA := fun ds Q => match ds with
  | [.obj c' _ _, .any (.ty n)] => c' = c ∧ (n = "tuple" ∨ n = "str") ∧ Q (.bool false)
  | [x, .any (.ty n)] => ∃ t b, x.tyN = some t ∧ kitB t n = some b ∧ Q (.bool b)
  | _ => False
theorem sc_isiO {c : Str} {C : Addr} (k : KO K c C) : SndC K (rIsi K) (oIsiO c) := SndC.pure fun H Hs ds vs Q Q' s rx hq hd => by
  unfold oIsiO at hd
  split at hd
  · obtain ⟨rfl, hn, q⟩ := hd
    obtain ⟨v, w, rfl, h4, h5⟩ := rpA2 rx
    cases h5
    obtain ⟨C', a, dx, us, h0, rfl, h2, h3, h6⟩ := h4
    cases k.kc.uniq h0
    refine ⟨.ref a, _, .ref C, _, false, rfl, .ty _, .base (.ins (s _ _ h2) k.kc.cls k.ty.ha k.ty.hn k.ty.htk k.ty.hm), ?_, hq (.bool _) _ rfl q⟩
    rcases hn with rfl | rfl
    · exact k.one.1
    · exact k.one.2
  · obtain ⟨t, b, h1, h2, h3⟩ := hd
    obtain ⟨v, w, rfl, h4, h5⟩ := rpA2 rx
    cases h5
    exact ⟨v, _, _, _, b, rfl, .ty _, tyN_ok (h4.mono s) h1, kit_ty h2, hq (.bool _) _ rfl h3⟩
  · exact hd.elim
theorem de_isiO {c : Str} {C : Addr} {p pos : Pos} {e e2 : Expr} {d : DTA} (k : KO X.K c C) (hm : X.mg "isinstance" = none) (ha : DA X [e, e2] d) (hg : Gl X "isinstance" := by rfl) (hs : starEach [e, e2] X.env = (false, eval e X.env) :: starEach [e2] X.env := by rfl)
    (hpl : (backTo pos (starEach [e2] X.env)).any (·.1) = false := by rfl) : DE X (.Call (.Name "isinstance" p) [e, e2] [] pos) (dCB (oIsiO c) d) :=
  de_callB call_isi (sc_isiO k) hg hm (by decide +kernel) ha (by decide) (by decide) hs hpl
end
end DL
namespace DL
open PySem PySem.Spec PyProof.Rows L2
/-! texts: length and signs -/
theorem app_len (a b : Str) : (a ++ b).length = a.length + b.length := by rw [TL.len_tl, TL.tl_append, List.length_append, ← TL.len_tl, ← TL.len_tl]
instance decAsc (s : Str) : Decidable (asc s) := by unfold asc; infer_instance
theorem filter_strs (ps : List Str) (p : Str → Bool) (q : D → Bool) (h : ∀ s, q (.str s) = p s) : (ps.map D.str).filter q = (ps.filter p).map D.str := by
  rw [List.filter_map]
  congr 1
  apply List.filter_congr
  intro s _
  exact h s
/-! pairs of texts -/
abbrev Us := Str × Str
def pairD (u : Us) : D := .tup [.str u.1, .str u.2]
def pairP (u : Us) : PyData := .tuple [.str u.1, .str u.2]
theorem pyA_pairs : ∀ l : List Us, pyA (l.map pairD) = l.map pairP
  | [] => rfl
  | x :: l => by show (pairD x).py :: pyA (l.map pairD) = _; rw [pyA_pairs l]; rfl
def ascU (u : Us) : Prop := asc u.1 ∧ asc u.2
theorem lay_pair {u : Us} (h : ascU u) : (pairP u).canLay0 = true := by
  show (PyData.strOk u.1 && (PyData.strOk u.2 && true)) = true
  rw [asc_ok h.1, asc_ok h.2]
  rfl
theorem lay_pairs : ∀ {l : List Us}, (∀ s ∈ l, ascU s) → PyData.canLayAll0 (l.map pairP) = true
  | [], _ => rfl
  | x :: l, h => Bool.and_eq_true_iff.mpr ⟨lay_pair (h x (by simp)), lay_pairs fun s hs => h s (by simp [hs])⟩
theorem depth_pairs : ∀ l : List Us, PyData.depthAll (l.map pairP) ≤ 1
  | [] => Nat.zero_le _
  | x :: l => by
    show max 1 (PyData.depthAll (l.map pairP)) ≤ 1
    have := depth_pairs l
    omega
theorem eqv_pair (u v : Us) : PyData.eqv (pairP u) (pairP v) = decide (u = v) := by
  show ((u.1 == v.1) && ((u.2 == v.2) && true)) = _
  rw [Bool.eq_iff_iff]
  simp [Prod.ext_iff]
theorem shaped_pairs {l : List Us} (h : ∀ s ∈ l, ascU s) : SeqAt.shaped (.list (l.map pairP)) = true := by
  show (PyData.canLayAll0 (l.map pairP) && decide (PyData.depthAll (l.map pairP) + 1 ≤ 64)) = true
  rw [lay_pairs h, decide_eq_true (by have := depth_pairs l; omega)]
  rfl
theorem shaped_pairsT {l : List Us} (h : ∀ s ∈ l, ascU s) : SeqAt.shaped (.tuple (l.map pairP)) = true := shaped_pairs h
theorem shaped_pair {u : Us} (h : ascU u) : SeqAt.shaped (pairP u) = true := by
  show ((pairP u).canLay0 && decide (1 ≤ 64)) = true
  rw [lay_pair h]
  rfl
theorem shaped_str {s : Str} (h : asc s) : SeqAt.shaped (.str s) = true := by
  show (PyData.strOk s && decide (0 ≤ 64)) = true
  rw [asc_ok h]
  rfl
/-! in, ==, of rows of texts and of pairs -/
theorem any_strs (l : List Str) (x : Str) : ((l.map PyData.str).any fun z => PyData.eqv z (.str x)) = decide (x ∈ l) := by
  rw [List.any_map, Bool.eq_iff_iff, List.any_eq_true, decide_eq_true_iff]
  constructor
  · rintro ⟨y, hy, e⟩
    have : (y == x) = true := e
    rw [← beq_iff_eq.mp this]
    exact hy
  · intro h
    exact ⟨x, h, (beq_self_eq_true x : (x == x) = true)⟩
theorem any_pairs (l : List Us) (x : Us) : ((l.map pairP).any fun z => PyData.eqv z (pairP x)) = decide (x ∈ l) := by
  rw [List.any_map, Bool.eq_iff_iff, List.any_eq_true, decide_eq_true_iff]
  constructor
  · rintro ⟨y, hy, e⟩
    have e : PyData.eqv (pairP y) (pairP x) = true := e
    rw [eqv_pair] at e
    rw [← of_decide_eq_true e]
    exact hy
  · intro h
    refine ⟨x, h, ?_⟩
    show PyData.eqv (pairP x) (pairP x) = true
    rw [eqv_pair]
    exact decide_eq_true rfl
theorem oIn_strs {neg : Bool} {l : List Str} {x : Str} {Q : D → Prop} (hl : ∀ s ∈ l, asc s) (hx : asc x) (h : Q (.bool (xb neg (decide (x ∈ l))))) : oIn neg (.str x) (.tup (l.map D.str)) Q := by
  refine ⟨shaped_str hx, shaped_strsT hl, ?_⟩
  rw [pyA_strs]
  show Q (.bool (xb neg ((l.map PyData.str).any fun z => PyData.eqv z (.str x))))
  rw [any_strs]
  exact h
/-! sorting them -/
def leS (a b : Str) : Bool := PySem.W.dataLe false D.py (.str a) (.str b)
@[irreducible] def sortS (l : List Str) : List Str := l.mergeSort leS
def leU (a b : Us) : Bool := PySem.W.dataLe false D.py (pairD a) (pairD b)
@[irreducible] def sortU (l : List Us) : List Us := l.mergeSort leU
theorem sortD_strs (l : List Str) : sortD (l.map D.str) = (sortS l).map D.str := by
  unfold sortD sortS
  rw [List.map_mergeSort (r := leS) (s := PySem.W.dataLe false D.py) (f := D.str) fun _ _ _ _ => rfl]
theorem sortD_pairs (l : List Us) : sortD (l.map pairD) = (sortU l).map pairD := by
  unfold sortD sortU
  rw [List.map_mergeSort (r := leU) (s := PySem.W.dataLe false D.py) (f := pairD) fun _ _ _ _ => rfl]
theorem sortS_perm (l : List Str) : (sortS l).Perm l := by unfold sortS; exact List.mergeSort_perm _ _
theorem sortU_perm (l : List Us) : (sortU l).Perm l := by unfold sortU; exact List.mergeSort_perm _ _
theorem mem_sortS {l : List Str} {x : Str} : x ∈ sortS l ↔ x ∈ l := (sortS_perm l).mem_iff
theorem mem_sortU {l : List Us} {x : Us} : x ∈ sortU l ↔ x ∈ l := (sortU_perm l).mem_iff
theorem sorts_strs {l : List Str} (hl : l.length ≤ lim) (h : ∀ s ∈ l, asc s) : Sorts (l.map D.str) where
  len := by rw [List.length_map]; exact hl
  lay := by rw [pyA_strs]; exact lay_strs h
  al := by rw [List.map_map]; exact PySem.W.AllAlike.of fun _ _ => rfl
  so := by rw [List.map_map]; exact PySem.W.Sortable.others fun b => ⟨fun e => by simp [D.py] at e, fun xs e => by simp [D.py] at e⟩
  dep := fun x hx => by
    obtain ⟨s, _, rfl⟩ := List.mem_map.mp hx
    exact Nat.zero_le _
theorem sorts_pairs {l : List Us} (hl : l.length ≤ lim) (h : ∀ s ∈ l, ascU s) : Sorts (l.map pairD) where
  len := by rw [List.length_map]; exact hl
  lay := by rw [pyA_pairs]; exact lay_pairs h
  al := by rw [List.map_map]; exact PySem.W.AllAlike.of fun _ _ => rfl
  so := by rw [List.map_map]; exact PySem.W.Sortable.tuples fun b => ⟨_, _, rfl⟩
  dep := fun x hx => by
    obtain ⟨s, _, rfl⟩ := List.mem_map.mp hx
    show 1 ≤ 30
    decide
end DL
namespace DL
open PySem PySem.Spec PyProof.Rows L2
/-! sets of texts: the members in the order in which they came -/
def putS (ks : List Str) (x : Str) : List Str := if x ∈ ks then ks else ks ++ [x]
theorem putS_nodup {ks : List Str} {x : Str} (h : ks.Nodup) : (putS ks x).Nodup := by
  unfold putS
  by_cases hx : x ∈ ks
  · rw [if_pos hx]; exact h
  · rw [if_neg hx, List.nodup_append]
    refine ⟨h, by simp, fun a ha b hb e => ?_⟩
    rw [List.mem_singleton.mp hb] at e
    exact hx (e ▸ ha)
theorem putS_mem {ks : List Str} {x y : Str} : y ∈ putS ks x ↔ y ∈ ks ∨ y = x := by
  unfold putS
  by_cases hx : x ∈ ks
  · rw [if_pos hx]
    exact ⟨.inl, fun h => h.elim id fun e => e ▸ hx⟩
  · rw [if_neg hx]; simp
theorem putS_len (ks : List Str) (x : Str) : (putS ks x).length ≤ ks.length + 1 := by
  unfold putS
  split
  · omega
  · simp
@[irreducible] def ded (l : List Str) : List Str := l.foldl putS []
theorem ded_snoc (l : List Str) (x : Str) : ded (l ++ [x]) = putS (ded l) x := by unfold ded; rw [List.foldl_append]; rfl
theorem ded_all (l : List Str) : (ded l).Nodup ∧ (ded l).length ≤ l.length ∧ ∀ x, x ∈ ded l ↔ x ∈ l := by
  have : ∀ (n : Nat) (l : List Str), l.length = n → (ded l).Nodup ∧ (ded l).length ≤ l.length ∧ ∀ x, x ∈ ded l ↔ x ∈ l := by
    intro n
    induction n with
    | zero =>
      intro l hl
      obtain rfl : l = [] := List.length_eq_zero_iff.mp hl
      unfold ded
      exact ⟨List.nodup_nil, Nat.le_refl _, fun x => Iff.rfl⟩
    | succ n ih =>
      intro l hl
      have hne : l ≠ [] := fun z => by rw [z] at hl; simp at hl
      have e := List.dropLast_concat_getLast hne
      have hd : l.dropLast.length = n := by rw [List.length_dropLast, hl]; rfl
      obtain ⟨i1, i2, i3⟩ := ih _ hd
      rw [← e, ded_snoc]
      refine ⟨putS_nodup i1, ?_, fun x => ?_⟩
      · have := putS_len (ded l.dropLast) (l.getLast hne)
        rw [List.length_append, List.length_singleton]
        omega
      · rw [putS_mem, i3, List.mem_append, List.mem_singleton]
  exact this _ l rfl
theorem ded_mem {l : List Str} {x : Str} : x ∈ ded l ↔ x ∈ l := (ded_all l).2.2 x
theorem ded_len (l : List Str) : (ded l).length ≤ l.length := (ded_all l).2.1
def txtOf (e : Int × Value) : Str := match e.2 with
  | .str k _ => k
  | _ => Str.empty
def TxtRow (P : Program) (w : World) (e : Int × Value) : Prop := ∃ k tk, e.2 = Value.str k tk ∧ e.1 = (PySem.strKind P w).hash k
/-- the set of the texts ks at a -/
def SetZ (P : Program) (w : World) (h : Heap) (a : Addr) (ks : List Str) : Prop :=
  ∃ o rows ep t, h.get? a = some o ∧ o.ExactSet ∧ o.data = .set rows ep t ∧ (∀ e ∈ rows.toList, TxtRow P w e) ∧ (rows.toList.map txtOf).Perm ks ∧ ks.Nodup ∧ ks.length < scanBound ∧ t.fits rows.size = true ∧ Ris t.place.toList ∧
    (w.params.followText "set-order" = true ∨ t.led = true)
section
variable {P : Program} {w : World} {A : Around} {E : Value → Shared → Prop} {s : Shared} {a : Addr} {ks : List Str}
theorem SetZ.at {h h' : Heap} (R : SetZ P w h a ks) (k : ∀ o, h.get? a = some o → h'.get? a = some o) : SetZ P w h' a ks := by
  obtain ⟨o, rows, ep, t, ho, rest⟩ := R
  exact ⟨o, rows, ep, t, k o ho, rest⟩
end
end DL
namespace DL
open PySem PySem.Spec PyProof.Rows L2
/-! the order of texts and of pairs of texts -/
theorem leS_eq (a b : Str) : leS a b = decide (a.cps.toList ≤ b.cps.toList) := congrFun (congrFun (PySem.W.dataLe_str (fun x : Str => x)) a) b
theorem leS_trans (a b c : Str) (h1 : leS a b = true) (h2 : leS b c = true) : leS a c = true := by
  rw [leS_eq, decide_eq_true_iff] at *
  exact List.le_trans h1 h2
theorem leS_total (a b : Str) : (leS a b || leS b a) = true := by
  rw [leS_eq, leS_eq, Bool.or_eq_true, decide_eq_true_iff, decide_eq_true_iff]
  exact List.le_total _ _
theorem str_ext {a b : Str} (h : a.cps.toList = b.cps.toList) : a = b := by
  cases a; cases b; congr 1; exact Array.toList_inj.mp h
theorem leS_antisymm {a b : Str} (h1 : leS a b = true) (h2 : leS b a = true) : a = b := by
  rw [leS_eq, decide_eq_true_iff] at *
  exact str_ext (List.le_antisymm h1 h2)
theorem leS_refl (a : Str) : leS a a = true := by
  have := leS_total a a
  rwa [Bool.or_self] at this
theorem sortS_len (l : List Str) : (sortS l).length = l.length := (sortS_perm l).length_eq
theorem leU_eq (a b : Us) : leU a b = (if b.1 = a.1 then (if b.2 = a.2 then true else leS a.2 b.2) else leS a.1 b.1) := by
  show (!PySem.W.dataLt (.tuple [.str b.1, .str b.2]) (.tuple [.str a.1, .str a.2])) = _
  rw [PySem.W.dataLt_pair rfl rfl]
  have e : ∀ x y : Str, PyData.eqv (.str x) (.str y) = decide (x = y) := fun x y => Bool.beq_eq_decide_eq x y
  rw [e, e]
  by_cases h1 : b.1 = a.1
  · rw [if_pos h1, decide_eq_true h1, if_pos rfl]
    by_cases h2 : b.2 = a.2
    · rw [if_pos h2, decide_eq_true h2, if_pos rfl]; rfl
    · rw [if_neg h2, decide_eq_false h2, if_neg Bool.false_ne_true]; rfl
  · rw [if_neg h1, decide_eq_false h1, if_neg Bool.false_ne_true]; rfl
theorem leU_iff (a b : Us) : leU a b = true ↔ (a.1 = b.1 ∧ leS a.2 b.2 = true) ∨ (a.1 ≠ b.1 ∧ leS a.1 b.1 = true) := by
  rw [leU_eq]
  by_cases h1 : b.1 = a.1
  · rw [if_pos h1]
    by_cases h2 : b.2 = a.2
    · rw [if_pos h2, h2]
      simp [h1, leS_refl]
    · rw [if_neg h2]
      simp [h1]
  · rw [if_neg h1]
    have : a.1 ≠ b.1 := fun e => h1 e.symm
    simp [this]
theorem leU_trans (a b c : Us) (h1 : leU a b = true) (h2 : leU b c = true) : leU a c = true := by
  rw [leU_iff] at *
  rcases h1 with ⟨e1, l1⟩ | ⟨n1, l1⟩ <;> rcases h2 with ⟨e2, l2⟩ | ⟨n2, l2⟩
  · exact .inl ⟨e1.trans e2, leS_trans _ _ _ l1 l2⟩
  · exact .inr ⟨by rw [e1]; exact n2, by rw [e1]; exact l2⟩
  · exact .inr ⟨by rw [← e2]; exact n1, by rw [← e2]; exact l1⟩
  · refine .inr ⟨fun e => ?_, leS_trans _ _ _ l1 l2⟩
    rw [← e] at l2
    exact n1 (leS_antisymm l1 l2)
theorem leU_total (a b : Us) : (leU a b || leU b a) = true := by
  rw [Bool.or_eq_true, leU_iff, leU_iff]
  by_cases h : a.1 = b.1
  · have := leS_total a.2 b.2
    rw [Bool.or_eq_true] at this
    rcases this with l | l
    · exact .inl (.inl ⟨h, l⟩)
    · exact .inr (.inl ⟨h.symm, l⟩)
  · have := leS_total a.1 b.1
    rw [Bool.or_eq_true] at this
    rcases this with l | l
    · exact .inl (.inr ⟨h, l⟩)
    · exact .inr (.inr ⟨fun e => h e.symm, l⟩)
theorem leU_antisymm {a b : Us} (h1 : leU a b = true) (h2 : leU b a = true) : a = b := by
  rw [leU_iff] at h1 h2
  rcases h1 with ⟨e1, l1⟩ | ⟨n1, l1⟩ <;> rcases h2 with ⟨e2, l2⟩ | ⟨n2, l2⟩
  · exact Prod.ext e1 (leS_antisymm l1 l2)
  · exact absurd e1.symm n2
  · exact absurd e2.symm n1
  · exact absurd (leS_antisymm l1 l2) n1
theorem sortU_sorted (l : List Us) : (sortU l).Pairwise fun a b => leU a b = true := by unfold sortU; exact List.pairwise_mergeSort leU_trans leU_total l
theorem sortU_len (l : List Us) : (sortU l).length = l.length := (sortU_perm l).length_eq
/-! len(set(e)), sorted(set(e)) of texts -/
end DL
namespace DL
open PySem PySem.Spec PyProof.Rows L2
/-! f-strings of texts and numbers -/
/-! comprehensions over typed data -/
theorem lcT {α β : Type} (em : α → D) (em' : β → D) (b : α → Bool) (y : α → β) {g : Option Dk} {t : TgF} {c : DTT} {e : DT} {r : Sg} {Q : List D → Nat → Prop} : ∀ (xs : List α) (acc : List D) (f : Nat),
    (∀ x ∈ xs, ∃ l, t (em x) = some l ∧ (∀ (f : Nat) (Q : Bool → Nat → Prop), Q (b x) f → c g (setsR r l) f Q) ∧ (b x = true → ∀ (f : Nat) (Q : QD), Q (em' (y x)) f → e g (setsR r l) f Q)) →
    Q (acc ++ ((xs.filter b).map y).map em') f → dLcGo g t c e r (xs.map em) acc f Q
  | [], acc, f, _, hq => by
    rw [List.filter_nil, List.map_nil, List.map_nil, List.append_nil] at hq
    exact hq
  | x :: xs, acc, f, he, hq => by
    obtain ⟨l, hl, h1, h2⟩ := he x (by simp)
    simp only [List.map_cons, dLcGo, hl]
    refine h1 f _ ?_
    cases hb : b x with
    | true =>
      rw [if_pos rfl]
      refine h2 hb f _ (lcT em em' b y xs (acc ++ [em' (y x)]) f (fun x' hx' => he x' (by simp [hx'])) ?_)
      rw [List.filter_cons, hb, if_pos rfl, List.map_cons, List.map_cons] at hq
      rw [List.append_assoc]
      exact hq
    | false =>
      rw [if_neg Bool.false_ne_true]
      refine lcT em em' b y xs acc f (fun x' hx' => he x' (by simp [hx'])) ?_
      rw [List.filter_cons, hb, if_neg Bool.false_ne_true] at hq
      exact hq
/-- [x for x in xs if b(x)] -/
theorem lcF {α : Type} (em : α → D) (b : α → Bool) {g : Option Dk} {t : TgF} {c : DTT} {e : DT} {r : Sg} {Q : List D → Nat → Prop} (xs : List α) (f : Nat)
    (h : ∀ x ∈ xs, ∃ l, t (em x) = some l ∧ (∀ (f : Nat) (Q : Bool → Nat → Prop), Q (b x) f → c g (setsR r l) f Q) ∧ (b x = true → ∀ (f : Nat) (Q : QD), Q (em x) f → e g (setsR r l) f Q))
    (q : Q ((xs.filter b).map em) f) : dLcGo g t c e r (xs.map em) [] f Q := by
  refine lcT em em b id xs [] f h ?_
  rw [List.map_id, List.nil_append]
  exact q
/-- [y(x) for x in xs] -/
theorem lcM {α β : Type} (em : α → D) (em' : β → D) (y : α → β) {g : Option Dk} {t : TgF} {e : DT} {r : Sg} {Q : List D → Nat → Prop} (xs : List α) (f : Nat)
    (h : ∀ x ∈ xs, ∃ l, t (em x) = some l ∧ ∀ (f : Nat) (Q : QD), Q (em' (y x)) f → e g (setsR r l) f Q)
    (q : Q ((xs.map y).map em') f) : dLcGo g t dYes e r (xs.map em) [] f Q := by
  refine lcT em em' (fun _ => true) y xs [] f (fun x hx => ?_) ?_
  · obtain ⟨l, h1, h2⟩ := h x hx
    exact ⟨l, h1, fun f Q q => q, fun _ f Q q => h2 f Q q⟩
  · rw [List.filter_eq_self.mpr (fun _ _ => rfl), List.nil_append]
    exact q
theorem fil_nil {α : Type} (xs : List α) (b : α → Bool) : (xs.filter b = []) ↔ ∀ x ∈ xs, b x = false := by
  rw [List.filter_eq_nil_iff]
  constructor
  · intro h x hx
    exact Bool.eq_false_iff.mpr (h x hx)
  · intro h x hx
    rw [h x hx]
    exact Bool.false_ne_true
/-- a loop over numbers -/
theorem dFor_range {g : Option Dk} {t : TgF} {body : DTS} {E : DEnds} (I : Nat → Sg → Nat → Prop) (lo : Int) : ∀ (n : Nat) (r : Sg) (f : Nat),
    (∀ i r f (N : Sg → Nat → Prop), i < n → I i r f → (∀ r' f', I (i + 1) r' f' → N r' f') → ∃ l, t (.int (lo + i)) = some l ∧ body g (setsR r l) f { E with nx := N, ct := N, bk := E.nx }) →
    (∀ r f, I n r f → E.nx r f) → I 0 r f → dForGo g t body E (intsD lo n) r f := by
  intro n r f hs h0 h
  refine dFor_inv (fun rest r f => ∃ i, i ≤ n ∧ rest = (intsD lo n).drop i ∧ I i r f) _ _ _ ?_ ?_ ⟨0, Nat.zero_le _, rfl, h⟩
  · rintro d rest r f N ⟨i, hi, hr, hI⟩ hN
    have hlt : i < n := by
      by_cases e : i < n
      · exact e
      · rw [List.drop_of_length_le (by rw [intsD_len]; omega)] at hr
        cases hr
    have hd : (intsD lo n)[i]? = some (.int (lo + i)) := by
      unfold intsD
      rw [List.getElem?_map, List.getElem?_range hlt]
      rfl
    have hdr : (intsD lo n).drop i = .int (lo + i) :: (intsD lo n).drop (i + 1) := by
      obtain ⟨h1, h2⟩ := List.getElem?_eq_some_iff.mp hd
      rw [List.drop_eq_getElem_cons h1, h2]
    rw [hdr] at hr
    obtain ⟨rfl, rfl⟩ := List.cons.inj hr
    exact hs i r f N hlt hI fun r' f' h' => hN r' f' ⟨i + 1, by omega, rfl, h'⟩
  · rintro r f ⟨i, hi, hr, hI⟩
    have : i = n := by
      by_cases e : i < n
      · have hl := congrArg List.length hr
        rw [List.length_drop, intsD_len, List.length_nil] at hl
        omega
      · omega
    subst this
    exact h0 r f hI
/-- a loop over typed data, the part that is done told -/
theorem dFor_list {α : Type} (em : α → D) {g : Option Dk} {t : TgF} {body : DTS} {E : DEnds} (I : List α → List α → Sg → Nat → Prop) (xs : List α) (r : Sg) (f : Nat)
    (hs : ∀ done x rest r f (N : Sg → Nat → Prop), xs = done ++ x :: rest → I done (x :: rest) r f → (∀ r' f', I (done ++ [x]) rest r' f' → N r' f') → ∃ l, t (em x) = some l ∧ body g (setsR r l) f { E with nx := N, ct := N, bk := E.nx })
    (h0 : ∀ r f, I xs [] r f → E.nx r f) (h : I [] xs r f) : dForGo g t body E (xs.map em) r f := by
  refine dFor_inv (fun rest r f => ∃ done rest', xs = done ++ rest' ∧ rest = rest'.map em ∧ I done rest' r f) _ _ _ ?_ ?_ ⟨[], xs, rfl, rfl, h⟩
  · rintro d rest r f N ⟨done, rest', hx, hr, hI⟩ hN
    match rest', hr with
    | x :: rest', hr =>
      obtain ⟨rfl, rfl⟩ := List.cons.inj hr
      exact hs done x rest' r f N hx hI fun r' f' h' => hN r' f' ⟨done ++ [x], rest', by rw [hx]; simp, rfl, h'⟩
  · rintro r f ⟨done, rest', hx, hr, hI⟩
    obtain rfl : rest' = [] := by
      match rest', hr with
      | [], _ => rfl
    rw [List.append_nil] at hx
    subst hx
    exact h0 r f hI
/-! one of two numbers, by a draw -/
theorem L1 {n : Nat} (h : n ≤ 100000) : n ≤ lim := Nat.le_trans h (by decide)
/-! in, told piece by piece -/
theorem shpS {l : List Str} (h : ∀ s ∈ l, asc s) : SeqAt.shaped (.list (pyA (l.map D.str))) = true := shaped_strs h
theorem shpU {l : List Us} (h : ∀ s ∈ l, ascU s) : SeqAt.shaped (.list (pyA (l.map pairD))) = true := by rw [pyA_pairs]; exact shaped_pairs h
theorem anyS (l : List Str) (x : Str) : ((pyA (l.map D.str)).any fun z => PyData.eqv z (.str x)) = decide (x ∈ l) := by rw [pyA_strs]; exact any_strs l x
theorem anyU (l : List Us) (x : Us) : ((pyA (l.map pairD)).any fun z => PyData.eqv z (pairP x)) = decide (x ∈ l) := by rw [pyA_pairs]; exact any_pairs l x
theorem anyU' (l : List Us) (x y : Str) : ((pyA (l.map pairD)).any fun z => PyData.eqv z (D.tup [.str x, .str y]).py) = decide ((x, y) ∈ l) := anyU l (x, y)
theorem anyS' (l : List Str) (x : Str) : ((pyA (l.map D.str)).any fun z => PyData.eqv z (D.str x).py) = decide (x ∈ l) := anyS l x
theorem anyU2 (l : List Us) (x : Us) : ((pyA (l.map pairD)).any fun z => PyData.eqv z (pairD x).py) = decide (x ∈ l) := anyU l x
/-! plain rows of texts and pairs -/
theorem plainA_of {α : Type} (em : α → D) (n : Nat) : ∀ l : List α, (∀ x ∈ l, (em x).plain = true ∧ (em x).dep ≤ n) → plainA (l.map em) = true ∧ depA (l.map em) ≤ n
  | [], _ => ⟨rfl, Nat.zero_le _⟩
  | x :: l, h => by
    obtain ⟨h1, h2⟩ := plainA_of em n l fun y hy => h y (by simp [hy])
    obtain ⟨h3, h4⟩ := h x (by simp)
    refine ⟨?_, ?_⟩
    · show ((em x).plain && plainA (l.map em)) = true
      rw [h1, h3]; rfl
    · exact Nat.max_le.mpr ⟨h4, h2⟩
theorem plT {α : Type} {em : α → D} {n : Nat} {l : List α} (hl : l.length ≤ 100000) (h : ∀ x ∈ l, (em x).plain = true ∧ (em x).dep ≤ n) : (D.tup (l.map em)).plain = true ∧ (D.tup (l.map em)).dep ≤ n + 1 := by
  obtain ⟨h1, h2⟩ := plainA_of em n l h
  refine ⟨?_, Nat.succ_le_succ h2⟩
  show (decide ((l.map em).length ≤ 100000) && plainA (l.map em)) = true
  rw [h1, List.length_map, decide_eq_true hl]; rfl
theorem cutD_takeS (l : List Str) (n : Nat) : cutD (l.map D.str) none (some (n : Int)) = (l.take n).map D.str := by rw [cutD_take, List.map_take]
theorem eqvL_nil (xs : List D) : PyData.eqv (D.lst xs).py (D.lst []).py = decide (xs = []) := by
  cases xs with
  | nil => rfl
  | cons x l => rw [decide_eq_false (by simp)]; rfl
theorem eqvM_nil {α : Type} (em : α → D) (xs : List α) : PyData.eqv (D.lst (xs.map em)).py (D.lst []).py = xs.isEmpty := by
  cases xs with
  | nil => rfl
  | cons x l => rfl
theorem cutD_drop (xs : List D) (n : Nat) (h : n ≤ xs.length) : cutD xs (some (n : Int)) none = xs.drop n := by
  unfold cutD
  rw [show HT.sIx xs.length 0 (some (n : Int)) = min n xs.length from HT.sIx_nat xs.length 0 n, HT.sIx_none, Nat.min_eq_left h]
  rw [← List.length_drop, List.take_length]
theorem cutD_drop' (xs : List D) (n : Nat) : cutD xs (some (n : Int)) none = xs.drop n := by
  by_cases h : n ≤ xs.length
  · exact cutD_drop xs n h
  · unfold cutD
    rw [show HT.sIx xs.length 0 (some (n : Int)) = min n xs.length from HT.sIx_nat xs.length 0 n, HT.sIx_none, Nat.min_eq_right (by omega), Nat.sub_self, List.take_zero, List.drop_of_length_le (by omega)]
end DL
namespace DL
open PySem PySem.Spec PyProof.Rows L2
/-! a list taken apart -/
/-! a choice by draws -/
/-! shapes -/
def Shp (n : Nat) (d : D) : Prop := d.py.canLay0 = true ∧ d.py.depth ≤ n
theorem Shp.of {n : Nat} {d : D} (h : Shp n d) (hn : n ≤ 64) : SeqAt.shaped d.py = true := by
  unfold SeqAt.shaped
  rw [h.1, decide_eq_true (Nat.le_trans h.2 hn)]
  rfl
theorem Shp.mono {n m : Nat} {d : D} (h : Shp n d) (e : n ≤ m) : Shp m d := ⟨h.1, Nat.le_trans h.2 e⟩
theorem nodup_sub_len {α : Type} [DecidableEq α] : ∀ {l m : List α}, l.Nodup → (∀ x ∈ l, x ∈ m) → l.length ≤ m.length
  | [], _, _, _ => Nat.zero_le _
  | x :: l, m, hn, hs => by
    obtain ⟨h1, h2⟩ := List.nodup_cons.mp hn
    have hx : x ∈ m := hs x (by simp)
    have ih := nodup_sub_len (m := m.erase x) h2 fun y hy => (List.mem_erase_of_ne (fun e : y = x => h1 (e ▸ hy))).2 (hs y (by simp [hy]))
    rw [List.length_erase_of_mem hx] at ih
    have : 0 < m.length := List.length_pos_of_mem hx
    rw [List.length_cons]
    omega
theorem plI {n : Nat} {xs : List D} (hl : xs.length ≤ 100000) (h : ∀ x ∈ xs, x.plain = true ∧ x.dep ≤ n) : (D.tup xs).plain = true ∧ (D.tup xs).dep ≤ n + 1 := by
  have := plT (em := fun x : D => x) (n := n) (l := xs) hl h
  rw [List.map_id'] at this
  exact this
theorem pl2 {n : Nat} {a b : D} (ha : a.plain = true ∧ a.dep ≤ n) (hb : b.plain = true ∧ b.dep ≤ n) : (D.tup [a, b]).plain = true ∧ (D.tup [a, b]).dep ≤ n + 1 := plI (show 2 ≤ 100000 by decide) fun x hx => by
  simp only [List.mem_cons, List.not_mem_nil, or_false] at hx
  rcases hx with rfl | rfl
  · exact ha
  · exact hb
end DL
namespace PySem.SeqAt
open AutoSeq1 (wpAny_loadPart')
open MeetsSeq MeetsSeq2 MeetsSeq3 SeqRoads2
end PySem.SeqAt
namespace DL
open PySem PySem.Spec PyProof.Rows L2
/-! values with plain texts alone -/
/-! glued names -/
theorem join_split (s : Str) : Txt.join "." (Txt.split s ".") = s := by
  have h : cd (Txt.join "." (Txt.split s ".")) = cd s := by rw [cd_join, split_cd, jn_sp]
  exact str_ext h
theorem split_ne (s : Str) : Txt.split s "." ≠ [] := fun z => sp_ne (cd s) (by rw [← split_cd, z]; rfl)
theorem split_pos (s : Str) : 0 < (Txt.split s ".").length := List.length_pos_iff.mpr (split_ne s)
end DL
namespace DL
open PySem PySem.Spec PyProof.Rows L2
/-! reads of dicts -/
def lookD (ks : List Key) (xs : List D) (k : Key) : Option D := ((ks.zip xs).find? fun p => decide (p.1 = k)).map (·.2)
section
variable {X : Cx} {K : PySem.W.Frag} {W : WX}
theorem look_rp {H : Hp} {k : Key} : ∀ {ks : List Key} {xs : List D} {vs : List V} {d : D}, RpA K H xs vs → lookD ks xs k = some d → ∃ v, valV (ks.zip vs) k = some v ∧ Rp K H d v
  | [], xs, vs, d, h, e => by simp [lookD] at e
  | _ :: _, [], vs, d, h, e => by simp [lookD] at e
  | a :: ks, x :: xs, _, d, ⟨v, r, h1, h2, h3⟩, e => by
    subst h1
    by_cases q : a = k
    · have : lookD (a :: ks) (x :: xs) k = some x := by simp [lookD, q]
      rw [this] at e
      cases e
      exact ⟨v, by rw [List.zip_cons_cons]; exact valV_pos q, h2⟩
    · have : lookD (a :: ks) (x :: xs) k = lookD ks xs k := by simp [lookD, q]
      rw [this] at e
      obtain ⟨w, h4, h5⟩ := look_rp h3 e
      exact ⟨w, by rw [List.zip_cons_cons, valV_neg q]; exact h4, h5⟩
theorem val_some {k : Key} {ks : List Key} {vs : List V} (h : ks.length = vs.length) : (valV (ks.zip vs) k).isSome = decide (k ∈ ks) := by
  rw [← valV_any, any_zip h]
def rDIn (neg : Bool) : R2 := fun x y H Q => ∃ a o, y = .ref a ∧ DGet H a x o ∧ Q (.bl (xb neg o.isSome)) H
theorem op_din (hu : X.A.units + 1 < cLine) : OpR X (compareOp .In) (rDIn false) := fun pins s st H x y v u Q I rx ry h => by
  obtain ⟨a, o, rfl, g, q⟩ := h
  obtain rfl : u = Value.ref a := ry
  exact d_in hu I g rx fun s3 I3 => ⟨.bl _, H, I3, rfl, q⟩
theorem op_dnotIn (hu : X.A.units + 1 < cLine) : OpR X (compareOp .NotIn) (rDIn true) := fun pins s st H x y v u Q I rx ry h => by
  obtain ⟨a, o, rfl, g, q⟩ := h
  obtain rfl : u = Value.ref a := ry
  exact d_notIn hu I g rx fun s3 I3 => ⟨.bl _, H, I3, rfl, q⟩
def oDIn (neg : Bool) : O2 := fun x y Q => match y with
  | .dct ks _ => ∃ k, x.key = some k ∧ Q (.bool (xb neg (decide (k ∈ ks))))
  | _ => False
theorem sr_din (neg : Bool) : SndR K (rDIn neg) (oDIn neg) := SndR.pure fun H Hs x y vx vy Q Q' s rx ry hq hd => by
  cases y <;> try exact hd.elim
  obtain ⟨k, e, q⟩ := hd
  obtain ⟨a, vs, rfl, h1, h2, h3⟩ := ry
  rw [key_v rx e]
  refine ⟨a, _, rfl, DGet.k (s _ _ h1), ?_⟩
  rw [val_some h2]
  exact hq (.bool _) _ rfl q
theorem room1 {k : Nat} {A : Around} (r : Room k A) : A.units + 1 < cLine := by have := r.un; omega
theorem dp_din {k : Nat} {a b : Expr} {pos : Pos} {da db : DT} (hr : Room k X.A) (ha : DE X a da) (hb : DE X b db) (hm : behindInMarks .In b = false := by rfl) : DP X (.Compare a [.In] [b] pos) (dTest (dOp (oDIn false) da db)) := dp_cmp (op_din (room1 hr)) (sr_din false) ha hb hm
theorem dp_dnotIn {k : Nat} {a b : Expr} {pos : Pos} {da db : DT} (hr : Room k X.A) (ha : DE X a da) (hb : DE X b db) (hm : behindInMarks .NotIn b = false := by rfl) : DP X (.Compare a [.NotIn] [b] pos) (dTest (dOp (oDIn true) da db)) := dp_cmp (op_dnotIn (room1 hr)) (sr_din true) ha hb hm
def dDGet (a b : DT) : DT := fun g r f Q => a g r f fun x f1 => b g r f1 fun y f2 => match x with
  | .dct ks xs => ∃ k d, y.key = some k ∧ lookD ks xs k = some d ∧ Q d f2
  | _ => False
theorem de_dget {k : Nat} {a b : Expr} {pos : Pos} {da db : DT} (hr : Room k X.A) (ha : DE X a da) (hb : DE X b db) (hs : NoSl b := by intro _ _; rfl) : DE X (.Subscript a b pos) (dDGet da db) :=
  .mk' (pe_dget (room1 hr) ha.pe hb.pe hs) fun g ro f st H Hs Q Q' A hq hd =>
    ha.sn g ro f st H Hs _ _ A (fun x f1 vx H1 Hs1 s1 k1 r1 q1 => hb.sn g ro f1 st H1 Hs1 _ _ (A.step s1 k1) (fun y f2 vy H2 Hs2 s2 k2 r2 q2 => by
      cases x <;> try exact q2.elim
      obtain ⟨key, d, e1, e2, q⟩ := q2
      obtain ⟨p, vs, rfl, h1, h2, h3⟩ := r1.mono s2.ext
      obtain ⟨v, h4, h5⟩ := look_rp h3 e2
      rw [key_v r2 e1]
      exact ⟨p, v, rfl, h4 ▸ DGet.k (s2.sub _ _ h1), hq d f2 v H2 Hs2 (s1.trans s2) k2 h5 q⟩) q1) hd
/-! list(e), a new list -/
def dListOf (t : DTA) : DTA := fun g r f Q => t g r f fun ds f1 => match ds with
  | [.lst xs] => Q xs f1
  | [.tup xs] => Q xs f1
  | _ => False
theorem dl_listOf {p pos : Pos} {e : Expr} {d : DTA} (hm : X.mg "list" = none) (ha : DA X [e] d) (hg : Gl X "list" := by rfl) (hs : starEach [e] X.env = [(false, eval e X.env)] := by rfl)
    (hpl : (backTo pos (starEach [] X.env)).any (·.1) = false := by rfl) : DL' X (.Call (.Name "list" p) [e] [] pos) (dListOf d) :=
  .mk' (pe_callTy call_list_of hg hm (by decide +kernel) ha.pa (by decide) (by decide) hs hpl) fun g ro f st H Hs Q Q' A hq hd =>
    ha.sn g ro f st H Hs _ _ A (fun ds f1 vs H1 Hs1 s1 k1 r1 q1 => by
      split at q1
      · obtain ⟨v, rfl, a, us, rfl, h1, h2⟩ := rpA1 r1
        refine ⟨a, us, rfl, .inl (SqL.of (s1.sub _ _ h1)), fun l hl => ?_⟩
        have lay : Stp none H1 Hs1 (upd H1 l (.lst us)) Hs1 := Stp.lay s1.sub hl
        exact hq _ f1 l us _ Hs1 (s1.trans lay.gen) (k1.stp lay) (s1.none0 hl) (same_none s1.sub hl) upd_same h2 q1
      · obtain ⟨v, rfl, a, us, rfl, h1, h2⟩ := rpA1 r1
        refine ⟨a, us, rfl, .inr ((tp_sq s1.sub h1)), fun l hl => ?_⟩
        have lay : Stp none H1 Hs1 (upd H1 l (.lst us)) Hs1 := Stp.lay s1.sub hl
        exact hq _ f1 l us _ Hs1 (s1.trans lay.gen) (k1.stp lay) (s1.none0 hl) (same_none s1.sub hl) upd_same h2 q1
      · exact q1.elim) hd
/-! {k: v} that a slot owns -/
theorem SIn.mutFree {g : Option Dk} {H0 Hs0 : Hp} {r : Sg} {f : Nat} {st : L2.St} {H Hs : Hp} (s : SIn K g H0 Hs0 r f st H Hs) {p : Addr} {o o' : HO} (n0 : H0 p = none) (n1 : Hs p = none) (hp : H p = some o') (no : ¬ Owned r st p) (hx : ∀ a, o' ≠ .own a := by intro _ z; cases z) : SIn K g H0 Hs0 r f st (upd H p o) Hs where
  len := s.len
  dk0 := s.dk0
  dk := by
    obtain ⟨f0, k0⟩ := s.dk0
    exact s.dk.mut (k0.out n0)
  stp := s.stp.mut n0 n1
  sh := s.sh
  ow := fun i sl h1 h2 => by
    obtain ⟨a, h3, h4, h5, h6⟩ := s.ow i sl h1 h2
    have hap : a ≠ p := fun e => no (e ▸ ⟨i, sl, h1, h2, h3⟩)
    refine ⟨a, h3, h4, h5, ?_⟩
    cases sl with
    | ow xs => obtain ⟨vs, q1, q2⟩ := h6; exact ⟨vs, by rw [upd_ne hap]; exact q1, q2⟩
    | od ks xs => obtain ⟨vs, q1, q2⟩ := h6; exact ⟨vs, by rw [upd_ne hap]; exact q1, q2⟩
    | ot ks xs => obtain ⟨vs, q1, q2⟩ := h6; exact ⟨vs, by rw [upd_ne hap]; exact q1, q2⟩
    | oi b c ns xs =>
      obtain ⟨qa, C, dx, vs, q0, q1, q2, q3⟩ := h6
      have hda : dx ≠ p := fun z => by rw [z, hp] at q2; cases q2; exact hx _ rfl
      exact ⟨qa, C, dx, vs, q0, by rw [upd_ne hap]; exact q1, by rw [upd_ne hda]; exact q2, q3⟩
    | _ => exact h6.elim
  inj := s.inj
def sSetD1 (i : Nat) (dk dv : DT) : DTS := fun g r f E => dk g (hide r) f fun x f1 => dv g (hide r) f1 fun y f2 => ∃ k, x.key = some k ∧ E.nx (r.set i (.od [k] [y])) f2
theorem ds_setD1 {i : Nat} {x : Str} {k v : Expr} {dpos pos pos' : Pos} {dk dv : DT} (hN : X.N.Nodup) (hk : DE X k dk) (hv : DE X v dv) (hi : X.N[i]? = some x := by rfl) (hx : Loc X.env.scope x := by first | exact Or.inl rfl | exact Or.inr rfl)
    (hs : swapsWith (.Dict [some k] [v] dpos) (some (.Name x pos')) pos.line X.env = pure false := by rfl) (hf : X.fn x = true ∨ X.env.scope.names.lookup x = some .local := by first | exact .inl rfl | exact .inr rfl | assumption) :
    DS X (.Assign [.Name x pos'] (.Dict [some k] [v] dpos) pos) (sSetD1 i dk dv) := .mk' (ps_set hN hi hx (pe_disp (pps_cons hk.pe hv.pe pps_nil) (by rfl) (by rfl) (fun z => by cases z) (show 1 ≤ 15 by decide)) hs hf) fun g H0 Hs0 r f st H D E s e hd => by
  obtain ⟨Hs, s⟩ := s
  intro p hp
  have lay : Stp g H Hs (upd H p (.dK [])) Hs := Stp.lay s.stp.sub hp
  have nk := s.dk.out hp
  have s1 := s.afterHid lay (s.dk.mut nk)
  have n0 : Hs p = none := same_none s.stp.sub hp
  have notO : ∀ (j : Nat) (sl : Sl), r[j]? = some sl → sl.own = true → st[j]? ≠ some (some (.ref p)) := fun j sl h1 h2 h3 => by
    obtain ⟨a, e', _, _, q⟩ := s.ow j sl h1 h2
    rw [h3] at e'
    cases e'
    obtain ⟨o, ho, _⟩ := q.ld
    rw [hp] at ho
    cases ho
  refine hk.sn g _ f st _ Hs _ _ s1.atHid (fun x f1 vx H1 Hs1 t1 k1 r1 q1 => ?_) hd
  have s2 := s1.afterHid t1 k1
  refine hv.sn g _ f1 st H1 Hs1 _ _ s2.atHid (fun y f2 vy H2 Hs2 t2 k2 r2 q2 => ?_) q1
  have s3 := s2.afterHid t2 k2
  obtain ⟨key, ek, q⟩ := q2
  have e1 : H1 p = some (.dK []) := t1.keep p _ upd_same nk
  have e2 : H2 p = some (.dK []) := t2.keep p _ e1 nk
  have n1 : Hs1 p = none := t1.new p _ upd_same n0
  have n2 : Hs2 p = none := t2.new p _ e1 n1
  refine ⟨e2, [(key, vy)], by rw [key_v r1 ek]; rfl, (by decide : 1 ≤ 15), ?_⟩
  have s4 := s3.mutFree (o := .dK [(key, vy)]) (s.stp.none0 hp) n2 e2 (fun ⟨j, sl, h1, h2, h3⟩ => notO j sl h1 h2 h3)
  exact e.nx _ f2 _ _ ⟨_, s4.setOwn i (u := .od [key] [y]) rfl (s.stp.none0 hp) n2 (fun j sl _ h1 h2 => notO j sl h1 h2) ⟨[vy], upd_same, rfl, RpA.one r2⟩⟩ q
/-! a comprehension over what is walked already -/
/-! what is locked stands for nothing -/
end
end DL
namespace DL
open PySem PySem.Spec PyProof.Rows L2
section
variable {X : Cx} {K : PySem.W.Frag} {W : WX}
/-! {k: v for ..} -/
abbrev DTD := Option Dk → Sg → Nat → (List Key → List D → Nat → Prop) → Prop
def SndD (K : PySem.W.Frag) (t : TE) (dl : DTD) : Prop := ∀ (g : Option Dk) (r : Sg) (f : Nat) (st : L2.St) (H Hs : Hp) (Q : VK) (Q' : List Key → List D → Nat → Prop), At K g r f st H Hs →
  (∀ ks xs f' p vs H' Hs', Stp g H Hs H' Hs' → DkOk g H' Hs' f' → H p = none → Hs' p = none → H' p = some (.dK (ks.zip vs)) → ks.length = vs.length → RpA K Hs' xs vs → Q' ks xs f' → Q (.ref p) H') → dl g r f Q' → t st H Q
def dDcGo (g : Option Dk) (t : TgF) (c : DTT) (k v : DT) (r : Sg) : List D → List Key → List D → Nat → (List Key → List D → Nat → Prop) → Prop
  | [], ks, xs, f, Q => Q ks xs f
  | d :: ds, ks, xs, f, Q => match t d with
    | none => False
    | some l => c g (setsR r l) f fun b f1 => if b = true then k g (setsR r l) f1 fun x f2 => v g (setsR r l) f2 fun y f3 => ∃ key, x.key = some key ∧ dDcGo g t c k v r ds (putKs ks key) (putXs ks xs key y) f3 Q else dDcGo g t c k v r ds ks xs f1 Q
def dDc (i : DTA) (t : TgF) (c : DTT) (k v : DT) (vs : List Nat) : DTD := fun g r f Q => i g r f fun ds f1 => ds.length ≤ lim ∧ dDcGo g t c k v (wipeR r vs) ds [] [] f1 Q
theorem putKs_len (ks : List Key) (k : Key) : (putKs ks k).length ≤ ks.length + 1 := by
  unfold putKs
  split
  · omega
  · simp
theorem snd_dc {wi : TI} {gt : TG} {tt : TT} {tk tv : TE} {vs is : List Nat} {i : DTA} {t : TgF} {c : DTT} {k e : DT} (hi : SndI K wi i) (hg : SndG K is gt t) (hc : SndT K tt c) (hk : Snd K tk k) (he : Snd K tv e) (hs : ∀ j ∈ is, j ∈ vs) : SndD K (tDc wi gt tt tk tv vs) (dDc i t c k e vs) := by
  intro g r f st H Hs Q Q' A hq hd
  refine hi g r f st H Hs _ _ A (fun ds f1 J H1 Hs1 s1 k1 wk q1 => ?_) hd
  intro D hD
  have hDs : Hs1 D = none := same_none s1.sub hD
  have hDk : ¬ Dk.has g D := k1.out hD
  refine ⟨fun i m H2 => m = ds.length - i ∧ i ≤ ds.length ∧ ∃ f2 Hs2 ks acc ws, Stp g H1 Hs1 H2 Hs2 ∧ DkOk g H2 Hs2 f2 ∧ Hs2 D = none ∧ H2 D = some (.dK (ks.zip ws)) ∧ ks.length = ws.length ∧ RpA K Hs2 acc ws ∧ ks.length ≤ i ∧ dDcGo g t c k e (wipeR r vs) (ds.drop i) ks acc f2 Q', ⟨ds.length, rfl, Nat.zero_le _, f1, Hs1, [], [], [], ?_, ?_, hDs, upd_same, rfl, rfl, Nat.le_refl _, q1.2⟩, ?_⟩
  · exact (Stp.lay s1.sub hD : Stp none H1 Hs1 (upd H1 D (.dK [])) Hs1).gen
  · exact k1.mut hDk
  rintro i m H2 ⟨rfl, hil, f2, Hs2, ks, acc, ws, s2, k2, n2, e2, ln2, r2, l2, q2⟩
  by_cases hlt : i < ds.length
  · have hgd : ds[i]? = some ds[i] := List.getElem?_eq_getElem hlt
    have hdr : ds.drop i = ds[i] :: ds.drop (i + 1) := List.drop_eq_getElem_cons hlt
    rw [hdr] at q2
    obtain ⟨hgo, hy⟩ := wk.go i _ H2 Hs2 s2.ext s2.sub hgd
    refine .inr ⟨hgo, fun H3 => i + 1 ≤ ds.length ∧ ∃ f2 Hs2 ks acc ws, Stp g H1 Hs1 H3 Hs2 ∧ DkOk g H3 Hs2 f2 ∧ Hs2 D = none ∧ H3 D = some (.dK (ks.zip ws)) ∧ ks.length = ws.length ∧ RpA K Hs2 acc ws ∧ ks.length ≤ i + 1 ∧ dDcGo g t c k e (wipeR r vs) (ds.drop (i + 1)) ks acc f2 Q', fun H3 h3 => ⟨_, by omega, rfl, h3⟩, fun x H3 hx => ?_⟩
    obtain ⟨Hs3, s3, r3⟩ := hy x H3 hx
    simp only [dDcGo] at q2
    cases et : t ds[i] with
    | none => rw [et] at q2; exact q2.elim
    | some l =>
      rw [et] at q2
      replace q2 : c g (setsR (wipeR r vs) l) f2 fun b f1 => if b = true then k g (setsR (wipeR r vs) l) f1 fun x f2 => e g (setsR (wipeR r vs) l) f2 fun y f3 => ∃ key, x.key = some key ∧ dDcGo g t c k e (wipeR r vs) (ds.drop (i + 1)) (putKs ks key) (putXs ks acc key y) f3 Q' else dDcGo g t c k e (wipeR r vs) (ds.drop (i + 1)) ks acc f1 Q' := q2
      have sl0 : SlOk K Hs3 (wipeR r vs) (L2.wipe st vs) := (((A.sl.mono s1.ext).mono s2.ext).mono s3.ext).wipe vs
      refine hg.2 H3 Hs3 _ _ x _ l s3.sub r3 et fun us hus => ⟨wipe_wipe_sets hs, ?_⟩
      have A3 : At K g (setsR (wipeR r vs) l) f2 (setsV (L2.wipe st vs) is us) H3 Hs3 := ⟨s3.sub, k2.stp s3, by
        have := SlOk.sets sl0 hus
        rw [hg.1 _ l et] at this
        exact this⟩
      refine hc g _ f2 _ H3 Hs3 _ _ A3 (fun b f4 H4 Hs4 s4 k4 q4 => ?_) q2
      have t4 : Stp g H1 Hs1 H4 Hs4 := (s2.trans s3.gen).trans s4
      have n3 : Hs3 D = none := s3.new D _ e2 n2
      have e3 : H3 D = some (.dK (ks.zip ws)) := s3.keep D _ e2 id
      have n4 : Hs4 D = none := s4.new D _ e3 n3
      have e4 : H4 D = some (.dK (ks.zip ws)) := s4.keep D _ e3 hDk
      cases b with
      | false =>
        rw [if_neg Bool.false_ne_true]
        exact ⟨hlt, f4, Hs4, ks, acc, ws, t4, k4, n4, e4, ln2, (r2.mono s3.ext).mono s4.ext, by omega, q4⟩
      | true =>
        rw [if_pos rfl]
        refine hk g _ f4 _ H4 Hs4 _ _ (A3.step s4 k4) (fun kx f5 kv H5 Hs5 s5 k5 r5 q5 => ?_) q4
        have n5 : Hs5 D = none := s5.new D _ e4 n4
        have e5 : H5 D = some (.dK (ks.zip ws)) := s5.keep D _ e4 hDk
        refine he g _ f5 _ H5 Hs5 _ _ ((A3.step s4 k4).step s5 k5) (fun y f6 v H6 Hs6 s6 k6 r6 q6 => ?_) q5
        have n6 : Hs6 D = none := s6.new D _ e5 n5
        have e6 : H6 D = some (.dK (ks.zip ws)) := s6.keep D _ e5 hDk
        obtain ⟨key, ek, q6⟩ := q6
        have r6' : RpA K Hs6 acc ws := (((r2.mono s3.ext).mono s4.ext).mono s5.ext).mono s6.ext
        obtain ⟨ws', p1, p2, p3⟩ := put_rp (k := key) ln2 r6' r6
        refine ⟨_, key, key_v r5 ek, e6, ?_, hlt, f6, Hs6, putKs ks key, putXs ks acc key y, ws', ((t4.trans s5).trans s6).mut hD n6, k6.mut hDk, n6, ?_, p2, p3, ?_, q6⟩
        · rw [List.length_zip]
          have := q1.1
          exact lim_lt (by omega)
        · rw [upd_same, p1]
        · have := putKs_len ks key
          omega
  · have ei : i = ds.length := by omega
    subst ei
    rw [List.drop_length] at q2
    refine .inl ⟨wk.stop H2 (fun a o h => s2.sub a o (s2.ext a o h)), ?_⟩
    exact hq ks acc f2 D ws H2 Hs2 (s1.trans s2) k2 (none_back s1 hD) n2 e2 ln2 r2 q2
/-! a dict of lists of texts in the making -/
structure DLs (H : Hp) (D : Addr) (ks : List Str) (ps : List Addr) (c : Str → List Str) (H2 : Hp) : Prop where
  same : Same H H2
  d0 : H D = none
  len : ks.length = ps.length
  dk : H2 D = some (.dK ((ks.map Sum.inr).zip (ps.map V.ref)))
  p0 : ∀ p ∈ ps, H p = none ∧ p ≠ D
  at_ : ∀ (i : Nat) (m : Str) (p : Addr), ks[i]? = some m → ps[i]? = some p → H2 p = some (.lst ((c m).map V.str))
  nd : ps.Nodup
theorem DLs.mono {H : Hp} {D : Addr} {ks : List Str} {ps : List Addr} {c : Str → List Str} {H2 H3 : Hp} (h : DLs H D ks ps c H2) (e : Same H2 H3) : DLs H D ks ps c H3 :=
  ⟨h.same.trans e, h.d0, h.len, e _ _ h.dk, h.p0, fun i m p a b => e _ _ (h.at_ i m p a b), h.nd⟩
theorem DLs.start {H : Hp} {D : Addr} {c : Str → List Str} (h : H D = none) : DLs H D [] [] c (upd H D (.dK [])) :=
  ⟨same_upd h, h, rfl, upd_same, fun p hp => by simp at hp, fun i m p a b => by simp at a, List.nodup_nil⟩
theorem key_out {ks : List Str} {vs : List V} {m : Str} (hl : ks.length = vs.length) (h : m ∉ ks) : valV ((ks.map (Sum.inr : Str → Key)).zip vs) (.inr m) = none := by
  have := val_some (k := (.inr m : Key)) (ks := ks.map Sum.inr) (vs := vs) (by rw [List.length_map]; exact hl)
  rw [decide_eq_false (fun z => by
    obtain ⟨x, hx, e⟩ := List.mem_map.mp z
    cases e
    exact h hx)] at this
  exact Option.isSome_eq_false_iff.mp this |> fun e => by simpa using e
theorem DLs.add {H : Hp} {D : Addr} {ks : List Str} {ps : List Addr} {H2 : Hp} {m : Str} {p : Addr} (h : DLs H D ks ps (fun _ => []) H2) (hp : H2 p = none) (hm : m ∉ ks) :
    DLs H D (ks ++ [m]) (ps ++ [p]) (fun _ => []) (upd (upd H2 p (.lst [])) D (.dK (putK ((ks.map Sum.inr).zip (ps.map V.ref)) (.inr m) (.ref p)))) := by
  have hpD : p ≠ D := fun z => by rw [z, h.dk] at hp; cases hp
  have hp0 : H p = none := by
    cases e : H p with
    | none => rfl
    | some o => rw [h.same _ _ e] at hp; cases hp
  have hps : ∀ q ∈ ps, q ≠ p := fun q hq z => by
    obtain ⟨i, hi, e⟩ := List.getElem_of_mem hq
    have : H2 q = some (.lst []) := h.at_ i (ks[i]'(by rw [h.len]; exact hi)) q (List.getElem?_eq_getElem _) (by rw [List.getElem?_eq_getElem hi, e])
    rw [z, hp] at this
    cases this
  refine ⟨fun b o e => ?_, h.d0, by simp [h.len], ?_, fun q hq => ?_, fun i x q a b => ?_, ?_⟩
  · rw [upd_ne (ne_of_none e h.d0), upd_ne (ne_of_none e hp0)]
    exact h.same b o e
  · rw [upd_same, putK_new _ (key_out (by rw [List.length_map]; exact h.len) hm), List.map_append, List.map_append, List.zip_append (by rw [List.length_map, List.length_map]; exact h.len)]
    rfl
  · rcases List.mem_append.mp hq with q' | q'
    · exact h.p0 q q'
    · cases List.mem_singleton.mp q'
      exact ⟨hp0, hpD⟩
  · by_cases hi : i < ps.length
    · rw [List.getElem?_append_left (by rw [h.len]; exact hi)] at a
      rw [List.getElem?_append_left hi] at b
      have hq : q ∈ ps := List.mem_of_getElem? b
      rw [upd_ne (h.p0 q hq).2, upd_ne (hps q hq)]
      exact h.at_ i x q a b
    · have hi : ps.length ≤ i := by omega
      rw [List.getElem?_append_right hi] at b
      have : i - ps.length = 0 := by
        have := (List.getElem?_eq_some_iff.mp b).1
        simp at this
        omega
      rw [this] at b
      cases b
      rw [upd_ne hpD, upd_same]
      rfl
  · rw [List.nodup_append]
    exact ⟨h.nd, by simp, fun a ha b hb => by cases List.mem_singleton.mp hb; exact hps a ha⟩
theorem DLs.app {H : Hp} {D : Addr} {ks : List Str} {ps : List Addr} {c : Str → List Str} {H2 : Hp} {m x : Str} {p : Addr} {i : Nat} (h : DLs H D ks ps c H2) (hn : ks.Nodup) (hi : ks[i]? = some m) (hp : ps[i]? = some p) :
    DLs H D ks ps (fun m' => if m' = m then c m ++ [x] else c m') (upd H2 p (.lst ((c m ++ [x]).map V.str))) := by
  have hpm : p ∈ ps := List.mem_of_getElem? hp
  obtain ⟨p0, pD⟩ := h.p0 p hpm
  refine ⟨fun b o e => ?_, h.d0, h.len, ?_, h.p0, fun j m' q a b => ?_, h.nd⟩
  · rw [upd_ne (ne_of_none e p0)]; exact h.same b o e
  · rw [upd_ne pD.symm]; exact h.dk
  · by_cases hij : j = i
    · subst hij
      rw [hi] at a
      rw [hp] at b
      cases a
      cases b
      rw [upd_same, if_pos rfl]
    · have hm : m' ≠ m := fun z => by
        subst z
        obtain ⟨hj, ej⟩ := List.getElem?_eq_some_iff.mp a
        obtain ⟨hi', ei⟩ := List.getElem?_eq_some_iff.mp hi
        exact hij ((List.getElem_inj hn).mp (ej.trans ei.symm))
      have hq : q ≠ p := fun z => by
        subst z
        obtain ⟨hj, ej⟩ := List.getElem?_eq_some_iff.mp b
        obtain ⟨hi', ei⟩ := List.getElem?_eq_some_iff.mp hp
        exact hij ((List.getElem_inj h.nd).mp (ej.trans ei.symm))
      rw [upd_ne hq, if_neg hm]
      exact h.at_ j m' q a b
open Classical in
noncomputable def shr (H2 Hs : Hp) (D : Addr) (ps : List Addr) : Hp := fun b => if b = D ∨ b ∈ ps then H2 b else Hs b
/-! while, by a number that falls -/
theorem dWhile_inv {g : Option Dk} {c : DTT} {body : DTS} {E : DEnds} (I : Nat → Sg → Nat → Prop)
    (hs : ∀ n r f (N : Sg → Nat → Prop), I n r f → (∀ m r' f', m < n → I m r' f' → N r' f') → c g r f fun b f1 => if b = true then body g r f1 { E with nx := N, ct := N, bk := E.nx } else E.nx r f1) {n : Nat} {r : Sg} {f : Nat} (h : I n r f) : sWhile c body g r f E := by
  have all : ∀ k m r f, m < k → I m r f → dWhileN g c body E k r f := by
    intro k
    induction k with
    | zero => intro m r f h; exact absurd h (Nat.not_lt_zero _)
    | succ k ih =>
      intro m r f hm hI
      exact hs m r f _ hI fun m' r' f' h' hI' => ih m' r' f' (by omega) hI'
  exact ⟨n + 1, all (n + 1) n r f (Nat.lt_succ_self n) h⟩
/-! where uses lead -/
inductive Rch (us : List Us) (s : Str) : Str → Prop where
  | refl : Rch us s s
  | step {a b : Str} : Rch us s a → (a, b) ∈ us → Rch us s b
theorem Rch.mem {us : List Us} {s m : Str} {ms : List Str} (hs : s ∈ ms) (hu : ∀ u ∈ us, u.2 ∈ ms) (h : Rch us s m) : m ∈ ms := by
  cases h with
  | refl => exact hs
  | step _ h => exact hu _ h
def usesOf (us : List Us) (m : Str) : List Str := (us.filter fun u => decide (u.1 = m)).map (·.2)
def lnkD (ms : List Str) (us : List Us) : D := .dct (ms.map Sum.inr) (ms.map fun m => .lst ((usesOf us m).map DL.D.str))
theorem mem_usesOf {us : List Us} {m b : Str} : b ∈ usesOf us m ↔ (m, b) ∈ us := by
  unfold usesOf
  rw [List.mem_map]
  constructor
  · rintro ⟨u, hu, rfl⟩
    have h := List.mem_filter.mp hu
    rw [← of_decide_eq_true h.2]
    exact h.1
  · intro h
    exact ⟨_, List.mem_filter.mpr ⟨h, decide_eq_true rfl⟩, rfl⟩
theorem look_map {f : Str → D} {m : Str} : ∀ {ms : List Str}, m ∈ ms → lookD (ms.map Sum.inr) (ms.map f) (.inr m) = some (f m)
  | [], h => by simp at h
  | k :: ms, h => by
    by_cases e : k = m
    · subst e
      simp [lookD]
    · have := look_map (f := f) (ms := ms) (List.mem_of_ne_of_mem (fun z => e z.symm) h)
      simpa [lookD, e] using this
theorem mem_inr {m : Str} {ms : List Str} : (Sum.inr m : Key) ∈ ms.map (Sum.inr : Str → Key) ↔ m ∈ ms := by
  rw [List.mem_map]
  exact ⟨fun ⟨x, hx, e⟩ => by cases e; exact hx, fun h => ⟨m, h, rfl⟩⟩
theorem putKs_new {ks : List Str} {m : Str} (h : m ∉ ks) : putKs (ks.map Sum.inr) (.inr m) = (ks ++ [m]).map Sum.inr := by
  unfold putKs
  rw [if_neg (fun z => h (mem_inr.mp z)), List.map_append]
  rfl
theorem putXs_new {ks : List Str} {m : Str} {xs : List D} {d : D} (h : m ∉ ks) : putXs (ks.map Sum.inr) xs (.inr m) d = xs ++ [d] := by
  unfold putXs
  rw [if_neg (fun z => h (mem_inr.mp z))]
theorem flatA_strs : ∀ l : List Str, flatA (l.map DL.D.str) = true
  | [] => rfl
  | _ :: l => flatA_strs l
end
end DL
namespace DL
open PySem PySem.Spec PyProof.Rows L2
section
variable {X : Cx} {K : PySem.W.Frag} {W : WX}
/-! list * number -/
/-! what slots own is shared ahead of a statement -/
def sFrz (l : List Nat) (dl : DTS) : DTS := fun g r f E => dl g (frz r l) f E
theorem ds_frz (l : List Nat) {st : Stmt} {d : DTS} (h : DS X st d) : DS X st (sFrz l d) := .mk' h.ps fun g H0 Hs0 r f st H D E s e hd => by
  obtain ⟨Hs, s⟩ := s
  exact h.sn g H0 Hs0 _ f st H D E (s.frz l) e hd
/-! a, b = [..], [..], a cell among them: both own -/
def sAsgLL (i j : Nat) (a b : DTA) : DTS := fun g r f E => a g (hide r) f fun xs f1 => b g (hide r) f1 fun ys f2 => E.nx ((r.set i (.ow xs)).set j (.ow ys)) f2
/-! xs.append(ys.pop(e)) -/
def sAppPop (i j : Nat) (de : DT) : DTS := fun g r f E => ∃ xs ys, r[i]? = some (.ow xs) ∧ r[j]? = some (.ow ys) ∧ i ≠ j ∧ de g r f fun d f' => match d with
  | .int k => ∃ (n : Nat) (y : D), k = n ∧ ys[n]? = some y ∧ n ≤ lim ∧ xs.length ≤ lim ∧ E.nx ((r.set j (.ow (ys.eraseIdx n))).set i (.ow (xs ++ [y]))) f'
  | _ => False
theorem RpA.erase {H : Hp} : ∀ {ds : List D} {vs : List V} (n : Nat), RpA K H ds vs → RpA K H (ds.eraseIdx n) (vs.eraseIdx n)
  | [], _, _, h => by cases h; rfl
  | _ :: _, _, 0, ⟨v, r, h1, h2, h3⟩ => by subst h1; exact h3
  | _ :: _, _, n + 1, ⟨v, r, h1, h2, h3⟩ => by subst h1; exact ⟨v, _, rfl, h2, RpA.erase n h3⟩
theorem snd_appPop {i j : Nat} {te : TE} {de : DT} (h : Snd K te de) : SndS K W (tDrop (tBM K "list" rAppend (tVar i) (tCons (tBM K "list" rPopAt (tVar j) (tCons te tNil)) tNil))) (sAppPop i j de) := fun g H0 Hs0 r f st H D E s e hd => by
  obtain ⟨Hs, s⟩ := s
  obtain ⟨xs, ys, hi, hj, hij, hd⟩ := hd
  obtain ⟨a, ha, n1, n0, vs, hv, hr⟩ := s.ow i _ hi rfl
  obtain ⟨b, hb, m1, m0, ws, hw, hrw⟩ := s.ow j _ hj rfl
  refine ⟨.ref a, ha, .inl ⟨rfl, vs, SqL.of hv⟩, .ref b, hb, .inl ⟨rfl, ws, SqL.of hw⟩, ?_⟩
  refine h g r f st H _ _ _ s.at (fun d f' v H' Hs' t' k' hr' q => ?_) hd
  have s' := s.after t' k'
  cases d <;> try exact q.elim
  cases hr'
  obtain ⟨n, y, rfl, hy, hnl, hxl, q⟩ := q
  obtain ⟨a', ha', n1', n0', vs', hv', hr2⟩ := s'.ow i _ hi rfl
  rw [ha] at ha'
  cases ha'
  obtain ⟨b', hb', m1', m0', ws', hw', hrw'⟩ := s'.ow j _ hj rfl
  rw [hb] at hb'
  cases hb'
  have hab : a ≠ b := fun z => by
    subst z
    exact hij (s'.inj i j _ _ a hi hj rfl rfl ha hb)
  obtain ⟨w, hwn, rw'⟩ := hrw'.get hy
  have hlt : n < ws'.length := (List.getElem?_eq_some_iff.mp hwn).1
  have hL : n ≤ 1000000 := hnl
  have sq : seqIndex? (n : Int) ws'.length = some n := by
    have hx : ixN ws'.length (n : Int) = some n := by
      unfold ixN
      rw [if_pos (by omega), if_pos (by omega)]
      rfl
    exact (ixN_seq hx).1
  refine ⟨b, ws', n, n, w, rfl, rfl, hw', by omega, by omega, sq, hwn, a, vs', w, rfl, rfl, by rw [upd_ne hab]; exact hv', hr2.lt hxl, ?_⟩
  have s5 := s'.mutOwn (o := .lst (ws'.eraseIdx n)) (u := .ow (ys.eraseIdx n)) hj rfl hb rfl ⟨_, upd_same, hrw'.erase n⟩
  have hi5 : (r.set j (.ow (ys.eraseIdx n)))[i]? = some (.ow xs) := by rw [List.getElem?_set_ne (fun z => hij z.symm)]; exact hi
  exact e.nx _ f' st _ ⟨_, s5.mutOwn (o := .lst (vs' ++ [w])) (u := .ow (xs ++ [y])) hi5 rfl ha rfl ⟨_, upd_same, hr2.append (RpA.one rw')⟩⟩ q
theorem ds_appPop {i j : Nat} {x y : Str} {e : Expr} {px py apos cpos bpos dpos pos : Pos} {d : DT} (h : DE X e d) (hi : X.N[i]? = some x := by rfl) (hj : X.N[j]? = some y := by rfl) (hv : Vis X.env.scope x := by first | exact Or.inl rfl | exact Or.inr (Or.inl rfl) | exact Or.inr (Or.inr rfl)) (hv2 : Vis X.env.scope y := by first | exact Or.inl rfl | exact Or.inr (Or.inl rfl) | exact Or.inr (Or.inr rfl))
    (hd : (x == ("__debug__" : Str)) = false := by decide) (hcd : (x == ("__classdict__" : Str)) = false := by decide) (hd2 : (y == ("__debug__" : Str)) = false := by decide) (hcd2 : (y == ("__classdict__" : Str)) = false := by decide)
    (hP : ∀ t : TE, PE X (.Name x px) (tVar i) → PE X (.Name y py) (tVar j) → PA X [e] (tCons t tNil) → PE X (.Call (.Attribute (.Name x px) "append" apos) [.Call (.Attribute (.Name y py) "pop" bpos) [e] [] dpos] [] cpos) (tBM X.K "list" rAppend (tVar i) (tCons (tBM X.K "list" rPopAt (tVar j) (tCons t tNil)) tNil)) := by
      exact fun t a b c => pe_bm PySem.F.plainAttrs_list PySem.F.slot_list_append PySem.F.type_list_append mt_append a (pa_cons (pe_bm PySem.F.plainAttrs_list PySem.F.slot_list_pop PySem.F.type_list_pop mt_popAt b c) pa_nil))
    (hs : swapsWith (.Call (.Attribute (.Name x px) "append" apos) [.Call (.Attribute (.Name y py) "pop" bpos) [e] [] dpos] [] cpos) none pos.line X.env = pure false := by rfl) (hst : starEach [e] X.env = [(false, eval e X.env)] := by rfl) :
    DS X (.Expr (.Call (.Attribute (.Name x px) "append" apos) [.Call (.Attribute (.Name y py) "pop" bpos) [e] [] dpos] [] cpos) pos) (sAppPop i j d) :=
  DS.mk' (ps_expr (hP _ (pe_var hi hv hd hcd) (pe_var hj hv2 hd2 hcd2) (pa_cons h.pe pa_nil hst)) hs) (snd_appPop h.sn)
end
end DL
namespace DL
open PySem PySem.Spec PyProof.Rows L2
section
variable {X : Cx} {K : PySem.W.Frag} {W : WX}
/-! x += e, whole numbers -/
/-! y = {..} on one line, shared -/
/-! d.get(k, z) -/
theorem look_none {k : Key} : ∀ {ks : List Key} {xs : List D}, k ∉ ks → lookD ks xs k = none
  | [], _, _ => rfl
  | _ :: _, [], _ => rfl
  | a :: ks, x :: xs, h => by
    have e : a ≠ k := fun z => h (by simp [z])
    have := look_none (ks := ks) (xs := xs) fun z => h (List.mem_cons_of_mem _ z)
    simpa [lookD, e] using this
theorem look_opt {H : Hp} {k : Key} {ks : List Key} {xs : List D} {vs : List V} (hl : ks.length = vs.length) (h : RpA K H xs vs) {z : D} {vz : V} (hz : Rp K H z vz) : Rp K H ((lookD ks xs k).getD z) ((valV (ks.zip vs) k).getD vz) := by
  cases e : lookD ks xs k with
  | some d =>
    obtain ⟨v, h1, h2⟩ := look_rp h e
    rw [h1]
    exact h2
  | none =>
    cases e2 : valV (ks.zip vs) k with
    | none => exact hz
    | some v =>
      have h1 := val_some (k := k) hl
      rw [e2] at h1
      have hk : k ∈ ks := of_decide_eq_true h1.symm
      obtain ⟨i, hi, ei⟩ := List.getElem_of_mem hk
      exfalso
      have : lookD ks xs k ≠ none := by
        unfold lookD
        intro q
        rw [Option.map_eq_none_iff, List.find?_eq_none] at q
        have hx : i < xs.length := by rw [h.length, ← hl]; exact hi
        have := q (ks[i], xs[i]) (by
          have : (ks.zip xs)[i]? = some (ks[i], xs[i]) := by rw [List.getElem?_zip_eq_some]; exact ⟨List.getElem?_eq_getElem hi, List.getElem?_eq_getElem hx⟩
          exact List.mem_of_getElem? this)
        simp [ei] at this
      exact this e
def dDGet2 (a b c : DT) : DT := fun g r f Q => a g r f fun x f1 => match x with
  | .dct ks xs => b g r f1 fun y f2 => c g r f2 fun z f3 => ∃ k, y.key = some k ∧ Q ((lookD ks xs k).getD z) f3
  | _ => False
theorem de_dget2 {k : Nat} {o e z : Expr} {apos cpos : Pos} {da db dc : DT} (hr : Room k X.A) (ho : DE X o da) (he : DE X e db) (hz : DE X z dc) (m : M2 X o "get" apos e z cpos := by constructor <;> rfl) : DE X (.Call (.Attribute o "get" apos) [e, z] [] cpos) (dDGet2 da db dc) :=
  .mk' (pe_dget2 (room1 hr) ho.pe he.pe hz.pe m) fun g ro f st H Hs Q Q' A hq hd =>
    ho.sn g ro f st H Hs _ _ A (fun x f1 vx H1 Hs1 s1 k1 r1 q1 => by
      cases x <;> try exact q1.elim
      obtain ⟨p, vs, rfl, h1, h2, h3⟩ := r1
      refine ⟨p, rfl, .inl ⟨_, .inl (s1.sub _ _ h1)⟩, ?_⟩
      refine he.sn g ro f1 st H1 Hs1 _ _ (A.step s1 k1) (fun y f2 vy H2 Hs2 s2 k2 r2 q2 => ?_) q1
      refine hz.sn g ro f2 st H2 Hs2 _ _ ((A.step s1 k1).step s2 k2) (fun w f3 vw H3 Hs3 s3 k3 r3 q3 => ?_) q2
      obtain ⟨key, ek, q⟩ := q3
      rw [key_v r2 ek]
      have e1 := s3.sub _ _ (s3.ext _ _ (s2.ext _ _ h1))
      exact ⟨_, DGet.k e1, hq _ f3 _ H3 Hs3 ((s1.trans s2).trans s3) k3 (look_opt h2 ((h3.mono s2.ext).mono s3.ext) r3) q⟩) hd
/-- {x: val(x) for x in texts}, no text twice -/
theorem dcM (val : Str → D) {g : Option Dk} {t : TgF} {k v : DT} {r : Sg} {Q : List Key → List D → Nat → Prop} : ∀ (rest done : List Str) (f : Nat), (done ++ rest).Nodup →
    (∀ x ∈ rest, ∃ l, t (.str x) = some l ∧ (∀ (f : Nat) (Q : QD), Q (.str x) f → k g (setsR r l) f Q) ∧ ∀ (f : Nat) (Q : QD), Q (val x) f → v g (setsR r l) f Q) →
    Q ((done ++ rest).map Sum.inr) ((done ++ rest).map val) f → dDcGo g t dYes k v r (rest.map DL.D.str) (done.map Sum.inr) (done.map val) f Q
  | [], done, f, _, _, q => by rw [List.append_nil] at q; exact q
  | x :: rest, done, f, hn, he, q => by
    obtain ⟨l, hl, h1, h2⟩ := he x (by simp)
    have hx : x ∉ done := fun z => (List.nodup_append.mp hn).2.2 x z x (by simp) rfl
    simp only [List.map_cons, dDcGo, hl]
    refine (h1 f _ (h2 f _ ⟨.inr x, rfl, ?_⟩) : k g (setsR r l) f fun x f2 => v g (setsR r l) f2 fun y f3 => ∃ key, x.key = some key ∧ dDcGo g t dYes k v r (rest.map DL.D.str) (putKs (done.map Sum.inr) key) (putXs (done.map Sum.inr) (done.map val) key y) f3 Q)
    rw [putKs_new hx, putXs_new hx, show done.map val ++ [val x] = (done ++ [x]).map val from by rw [List.map_append]; rfl]
    have e : done ++ x :: rest = (done ++ [x]) ++ rest := by simp
    rw [e] at hn q
    exact dcM val rest (done ++ [x]) f hn (fun y hy => he y (by simp [hy])) q
end
end DL
namespace DL
open PySem PySem.Spec PyProof.Rows L2
section
variable {X : Cx} {K : PySem.W.Frag}
/-! x < y of alike data -/
/-! min(xs) of alike data -/
def rMinD (K : PySem.W.Frag) : List V → Hp → VK → Prop := fun vs H Q => ∃ (a : Addr) (ys : List V) (d : PyData) (ds : List PyData), vs = [.ref a] ∧ (SqL K H a ys ∨ SqT K H a ys) ∧ DpAll K H ys (d :: ds) ∧ PySem.W.AlikeAll (d :: ds) ∧ PyData.depthAll (d :: ds) ≤ 30 ∧ PyData.canLayAll0 (d :: ds) = true ∧
  ∀ (i : Nat) (y : V) (e : PyData), ys[i]? = some y → (d :: ds)[i]? = some e → e = PySem.W.minD d ds → Q y H
theorem readsAll_get {h : Heap} : ∀ {us : List Value} {ds : List PyData} {as : List Addr}, ReadsAll h us ds as → ∀ (i : Nat) (u : Value), us[i]? = some u → ∃ d bs, ds[i]? = some d ∧ Reads h u d bs
  | _, _, _, .nil, i, u, e => by simp at e
  | _, _, _, .cons h1 h2, 0, u, e => by
    simp at e
    subst e
    exact ⟨_, _, rfl, h1⟩
  | _, _, _, .cons h1 h2, i + 1, u, e => by
    obtain ⟨d, bs, e1, e2⟩ := readsAll_get h2 i u (by simpa using e)
    exact ⟨d, bs, by simpa using e1, e2⟩
theorem vals_getU : ∀ {ys : List V} {its : List Value} {i : Nat} {v : Value}, Vals ys its → its[i]? = some v → ∃ y, ys[i]? = some y ∧ RelV y v
  | _, _, i, v, .nil, e => by simp at e
  | _, _, 0, v, .cons r _, e => by
    simp at e
    subst e
    exact ⟨_, rfl, r⟩
  | _, _, i + 1, v, .cons _ rs, e => by
    obtain ⟨y, h1, h2⟩ := vals_getU rs (by simpa using e)
    exact ⟨y, by simpa using h1, h2⟩
theorem cr_minD (hc : X.calm = true) (hu : X.A.units + 64 < cLine) : CallR X (.builtin "min") (rMinD X.K) := by
  intro pins s st H vs us Q I r h
  obtain ⟨a, ys, d, ds, rfl, hs, hdp, hal, hde, hcl, q⟩ := h
  rw [Vals.ref1 r]
  have fin : ∀ (its : List Value), Vals ys its → ∀ (i : Nat) (v : Value) (h' : Heap) (tk : Nat) (bs : List Addr), its.toArray[i]? = some v → Reads h' v (PySem.W.minD d ds) bs → (∀ b o, s.heap.get? b = some o → h'.get? b = some o) → EP X pins st Q v { s with heap := h', toks := tk } := fun its rv i v h' tk bs e1 r1 keep => by
    have I1 : Inv X pins st H { s with heap := h', toks := tk } := I.kept keep
    obtain ⟨as, ra⟩ := Dp.readsAll I1 (d :: ds) ys its hdp rv
    have e1 : its[i]? = some v := by simpa using e1
    obtain ⟨e, cs, e2, r2⟩ := readsAll_get ra i v e1
    have ee : e = PySem.W.minD d ds := (Reads.unique r2 _ _ r1).1
    obtain ⟨y, hy, ry⟩ := vals_getU rv e1
    exact ⟨y, H, I1, ry, q i y e hy e2 ee⟩
  rcases hs with hs | hs
  · obtain ⟨its, rv, hp, hz⟩ := I.list hs
    obtain ⟨as, ra⟩ := Dp.readsAll I (d :: ds) ys its hdp rv
    exact PySem.W.min_list_data (I.ok.hd hc) hp.isList (by simpa using ra) hal (by omega) (fin its rv)
  · obtain ⟨its, rv, hp, hz⟩ := I.tuple hs
    obtain ⟨as, ra⟩ := Dp.readsAll I (d :: ds) ys its hdp rv
    exact PySem.W.min_tuple_data (I.ok.hd hc) hp (by simpa using ra) hal (by omega) (fin its rv)
def minOk (x : D) (xs : List D) (Q : D → Prop) : Prop := PyData.canLayAll0 (pyA (x :: xs)) = true ∧ PySem.W.AlikeAll (pyA (x :: xs)) ∧ PyData.depthAll (pyA (x :: xs)) ≤ 30 ∧ ∀ d ∈ x :: xs, d.py = PySem.W.minD x.py (pyA xs) → Q d
def oMinD : OA := fun ds Q => match ds with
  | [.lst (x :: xs)] => minOk x xs Q
  | [.tup (x :: xs)] => minOk x xs Q
  | _ => False
theorem pyA_get : ∀ {ds : List D} {i : Nat} {e : PyData}, (pyA ds)[i]? = some e → ∃ d, ds[i]? = some d ∧ d.py = e
  | [], _, _, h => by simp [pyA] at h
  | d :: ds, 0, e, h => ⟨d, rfl, by simpa [pyA] using h⟩
  | d :: ds, i + 1, e, h => by
    obtain ⟨z, h1, h2⟩ := pyA_get (ds := ds) (i := i) (e := e) (by simpa [pyA] using h)
    exact ⟨z, by simpa using h1, h2⟩
theorem sc_minD : SndC K (rMinD K) oMinD := SndC.pure fun H Hs ds vs Q Q' s rx hq hd => by
  have go : ∀ (x : D) (xs : List D) (a : Addr) (us : List V), RpA K Hs (x :: xs) us → minOk x xs Q' → (SqL K H a us ∨ SqT K H a us) → rMinD K [.ref a] H Q := fun x xs a us h2 hm hs => by
    obtain ⟨m1, m2, m3, m4⟩ := hm
    refine ⟨a, us, x.py, pyA xs, rfl, hs, ?_, m2, m3, m1, fun i y e hy he em => ?_⟩
    · have := RpA.dp (x :: xs) us (h2.mono s) m1
      exact this
    · obtain ⟨d, hd1, hd2⟩ := pyA_get (ds := x :: xs) (i := i) (e := e) he
      obtain ⟨v, hv1, hv2⟩ := h2.get hd1
      rw [hy] at hv1
      cases hv1
      exact hq d y hv2 (m4 d (List.mem_of_getElem? hd1) (hd2.trans em))
  unfold oMinD at hd
  split at hd
  · obtain ⟨v, rfl, a, us, rfl, h1, h2⟩ := rpA1 rx
    exact go _ _ a us h2 hd (.inl (SqL.of (s _ _ h1)))
  · obtain ⟨v, rfl, a, us, rfl, h1, h2⟩ := rpA1 rx
    exact go _ _ a us h2 hd (.inr ((tp_sq s h1)))
  · exact hd.elim
theorem de_minD {k : Nat} {p pos : Pos} {e : Expr} {d : DTA} (hr : Room k X.A) (hm : X.mg "min" = none) (ha : DA X [e] d) (hc : X.calm = true := by rfl) (hg : Gl X "min" := by rfl) (hs : starEach [e] X.env = (false, eval e X.env) :: starEach [] X.env := by rfl)
    (hpl : (backTo pos (starEach [] X.env)).any (·.1) = false := by rfl) : DE X (.Call (.Name "min" p) [e] [] pos) (dCB oMinD d) :=
  de_callB (cr_minD hc hr.units) sc_minD hg hm (by decide +kernel) ha (by decide) (by decide) hs hpl
end
end DL
namespace DL
open PySem PySem.Spec PyProof.Rows L2
/-! the least of some texts -/
/-! writing at a key that is there -/
theorem put_upd {l : List Str} {f : Str → D} {m : Str} {v : D} (h : m ∈ l) : putKs (l.map Sum.inr) (.inr m) = l.map Sum.inr ∧ putXs (l.map Sum.inr) (l.map f) (.inr m) v = l.map fun x => if x = m then v else f x := by
  unfold putKs putXs
  rw [if_pos (mem_inr.mpr h), if_pos (mem_inr.mpr h)]
  refine ⟨rfl, ?_⟩
  have : ∀ l : List Str, ((l.map (Sum.inr : Str → Key)).zip (l.map f)).map (fun p => if p.1 = (.inr m : Key) then v else p.2) = l.map fun x => if x = m then v else f x := by
    intro l
    induction l with
    | nil => rfl
    | cons x l ih =>
      simp only [List.map_cons, List.zip_cons_cons, ih]
      congr 1
      by_cases e : x = m
      · rw [if_pos e, if_pos (by rw [e])]
      · rw [if_neg e, if_neg (fun z => e (Sum.inr.inj z))]
  exact this l
end DL
namespace DL
open PySem PySem.Spec PyProof.Rows L2
/-! for x in zip(a, b) of two tuples, with one name: the pair that was given out before may be there still or not -/
abbrev ZpV (h : Heap) (z ti tz : Addr) (v : Value) (b : Bool) : Prop :=
  h.get? z = some { cls := .type "zip", dict := none, data := .fields #[v, .bool b, .bool false, .ref ti, .ref tz], slots := #[] }
/-- the pair is not there any more -/
def Fre (h : Heap) (v : Value) : Prop := v = .none ∨ ∃ T : Addr, v = rawInt T ∧ h.get? T = none
section
variable {prog : Program} {w : World} {A : Around} {E : Value → Shared → Prop} {s : Shared} {z ti tz i1 i2 l1 l2 T : Addr} {k1 k2 : Nat} {xs ys : Array Value} {x y v p q : Value} {b : Bool}
theorem loadIf_none {a : Addr} {Q : Option Obj → Shared → Prop} (ho : s.heap.get? a = none) (h : Q none s) : wpAny (model prog w) A (loadIfAlive a) Q E s := by
  have here : Q (s.heap.get? a) s := by
    rw [ho]; exact h
  exact fun _ _ _ => here
theorem free_zip {Q : Bool → Shared → Prop} (hz : ZpV s.heap z ti tz v b) (hf : Fre s.heap v) (h : Q true s) : wpAny (model prog w) A (Builtin.SmallTypes.ownedTupleIsFree (.ref z)) Q E s := by
  rcases hf with rfl | ⟨T, rfl, hT⟩
  · unfold Builtin.SmallTypes.ownedTupleIsFree
    exact wpAny_bind (wpAny_field hz rfl (x := .none) rfl (wpAny_pure h))
  · unfold Builtin.SmallTypes.ownedTupleIsFree
    refine wpAny_bind (wpAny_field hz rfl (x := rawInt T) rfl ?_)
    show wpAny (model prog w) A (loadIfAlive ((T : Int).toNat) >>= _) _ _ s
    rw [Int.toNat_natCast]
    exact wpAny_bind (loadIf_none hT (wpAny_pure h))
/-- what the next pair leaves -/
abbrev ZpAfter (s : Shared) (z ti tz i1 i2 l1 l2 : Addr) (k1 k2 : Nat) (x y : Value) (h' : Heap) : Prop :=
  (∃ v b, ZpV h' z ti tz v b ∧ (v = .none ∨ ∃ T : Addr, v = rawInt T)) ∧ (∃ p q, IsPair h' tz p q) ∧ h'.IsTupleIter i1 l1 (k1 + 1) ∧ h'.IsTupleIter i2 l2 (k2 + 1) ∧ IsPair h' s.heap.objs.size x y ∧ h'.objs.size = s.heap.objs.size + 1 ∧
    ∀ c o, c ≠ z → c ≠ tz → c ≠ i1 → c ≠ i2 → s.heap.get? c = some o → h'.get? c = some o
theorem zip_free_item {Q : Value → Shared → Prop} (D : ZipApart z ti tz i1 i2 l1 l2) (hz : ZpV s.heap z ti tz v b) (hf : Fre s.heap v) (hti : IsPair s.heap ti (.ref i1) (.ref i2)) (htz : IsPair s.heap tz p q)
    (h1 : s.heap.IsTupleIter i1 l1 k1) (h2 : s.heap.IsTupleIter i2 l2 k2) (hl1 : s.heap.IsTuple l1 xs) (hl2 : s.heap.IsTuple l2 ys) (hx : xs[k1]? = some x) (hy : ys[k2]? = some y)
    (hQ : ∀ h', ZpAfter s z ti tz i1 i2 l1 l2 k1 k2 x y h' → Q (.ref s.heap.objs.size) { s with heap := h' }) :
    wpAny (model prog w) A (Builtin.«zip.__next__» ⟨[.ref z], []⟩) (fun fin s' => ∃ u, fin = .done (.ret u) ∧ Q u s') E s := by
  show wpAny (model prog w) A (field (.ref z) 2 >>= _) _ _ s
  refine wpAny_bind (wpAny_field hz rfl (x := .bool false) rfl ?_)
  show wpAny (model prog w) A (field (.ref z) 3 >>= _) _ _ s
  refine wpAny_bind (wpAny_field hz rfl (x := .ref ti) rfl ?_)
  refine wpAny_bind (wpAny_seqItems hti rfl ?_)
  show wpAny (model prog w) A (Builtin.SmallTypes.ownedTupleIsFree (.ref z) >>= _) _ _ s
  refine wpAny_bind (free_zip hz hf ?_)
  simp only [if_true]
  refine wpAny_bind (wpAny_rule ?_)
  refine wpAny_bind (wpAny_field hz rfl (x := .ref tz) rfl ?_)
  refine wpAny_bind (wpAny_setField_rec hz (by simp) fun ha za sa => ?_)
  replace za : ZpV ha z ti tz .ellipsis b := za
  refine wpAny_bind ?_
  simp only [List.zipIdx_cons, List.zipIdx_nil, List.forIn_cons, List.forIn_nil]
  refine wpAny_bind (wpAny_bind (wpAny_onRaise ?_))
  show wpAny (model prog w) A (Builtin.SmallTypes.nextOf (.ref i1) >>= _) _ _ _
  refine wpAny_bind (RZ.nextOf_tuple_item (h1.extBut sa.extBut D.i1z) (hl1.extBut sa.extBut D.l1z) hx fun hb j1 sb => wpAny_pure ?_)
  have tb : IsPair hb tz p q := sb.extBut _ _ D.TOi1 (sa.extBut _ _ D.TOz htz)
  refine wpAny_bind (wpAny_seqItems tb rfl ?_)
  refine wpAny_bind (wpAny_updateSeq_pair tb fun hc tc sc => ?_)
  replace tc : IsPair hc tz x q := tc
  refine wpAny_bind (wpAny_letGo (wpAny_pure ?_))
  refine wpAny_bind (wpAny_bind (wpAny_onRaise ?_))
  show wpAny (model prog w) A (Builtin.SmallTypes.nextOf (.ref i2) >>= _) _ _ _
  have h2c := ((h2.extBut sa.extBut D.i2z).extBut sb.extBut D.i12.symm).extBut sc.extBut D.TOi2.symm
  have l2c := ((hl2.extBut sa.extBut D.l2z).extBut sb.extBut D.l2i1).extBut sc.extBut D.l2TO
  refine wpAny_bind (RZ.nextOf_tuple_item (s := { s with heap := hc }) h2c l2c hy fun hd j2 sd => wpAny_pure ?_)
  have td : IsPair hd tz x q := sd.extBut _ _ D.TOi2 tc
  refine wpAny_bind (wpAny_seqItems td rfl ?_)
  refine wpAny_bind (wpAny_updateSeq_pair td fun he te se => ?_)
  replace te : IsPair he tz x y := te
  refine wpAny_bind (wpAny_letGo (wpAny_pure (wpAny_pure ?_)))
  refine wpAny_bind (wpAny_seqItems te rfl ?_)
  refine wpAny_bind (wpAny_newTuple ?_)
  have hsz : he.objs.size = s.heap.objs.size := by rw [se.1, sd.1, sc.1, sb.1, sa.1]
  have ze : ZpV he z ti tz .ellipsis b := se.extBut _ _ D.TOz.symm (sd.extBut _ _ D.i2z.symm (sc.extBut _ _ D.TOz.symm (sb.extBut _ _ D.i1z.symm za)))
  have ke : ∀ c o, c ≠ z → c ≠ tz → c ≠ i1 → c ≠ i2 → s.heap.get? c = some o → he.get? c = some o := fun c o c1 c2 c3 c4 e =>
    se.extBut _ _ c2 (sd.extBut _ _ c4 (sc.extBut _ _ c2 (sb.extBut _ _ c3 (sa.extBut _ _ c1 e))))
  have j1e : he.IsTupleIter i1 l1 (k1 + 1) := ((j1.extBut sc.extBut D.TOi1.symm).extBut sd.extBut D.i12).extBut se.extBut D.TOi1.symm
  have j2e : he.IsTupleIter i2 l2 (k2 + 1) := j2.extBut se.extBut D.TOi2.symm
  have zlt : z < he.objs.size := Heap.lt_size ze
  show wpAny (model prog w) A (Builtin.SmallTypes.ownedTupleHandOut (.ref z) (.ref he.objs.size) >>= _) _ _ _
  refine wpAny_bind ?_
  unfold Builtin.SmallTypes.ownedTupleHandOut
  have zf : ZpV (he.push { cls := .type "tuple", data := .seq #[x, y] }) z ti tz .ellipsis b := Heap.get?_push_of_some _ ze
  refine wpAny_bind (wpAny_setField_rec zf (by simp) fun hg zg sg => ?_)
  replace zg : ZpV hg z ti tz (rawInt he.objs.size) b := zg
  refine wpAny_setField_rec zg (by simp) fun hh zh sh => ?_
  replace zh : ZpV hh z ti tz (rawInt he.objs.size) false := zh
  have up : ∀ c o, c ≠ z → he.get? c = some o → hh.get? c = some o := fun c o c1 e => sh.extBut _ _ c1 (sg.extBut _ _ c1 (Heap.get?_push_of_some _ e))
  have th : IsPair hh he.objs.size x y := sh.extBut _ _ (Nat.ne_of_gt zlt) (sg.extBut _ _ (Nat.ne_of_gt zlt) (Heap.get?_push_size _ rfl))
  have zz : hh.objs.size = he.objs.size + 1 := by rw [sh.1, sg.1, Heap.size_push]
  refine wpAny_pure ⟨_, rfl, ?_⟩
  show Q (.ref he.objs.size) _
  rw [hsz] at th zz ⊢
  exact hQ hh ⟨⟨_, _, zh, .inr ⟨_, rfl⟩⟩, ⟨_, _, up _ _ D.TOz te⟩, j1e.at fun o e => up _ o D.i1z e, j2e.at fun o e => up _ o D.i2z e, th, zz, fun c o c1 c2 c3 c4 e => up c o c1 (ke c o c1 c2 c3 c4 e)⟩
theorem zip_held_item {oT : Obj} {Q : Value → Shared → Prop} (D : ZipApart z ti tz i1 i2 l1 l2) (hz : ZpV s.heap z ti tz (rawInt T) b) (hT : s.heap.get? T = some oT) (hti : IsPair s.heap ti (.ref i1) (.ref i2)) (htz : IsPair s.heap tz p q)
    (h1 : s.heap.IsTupleIter i1 l1 k1) (h2 : s.heap.IsTupleIter i2 l2 k2) (hl1 : s.heap.IsTuple l1 xs) (hl2 : s.heap.IsTuple l2 ys) (hx : xs[k1]? = some x) (hy : ys[k2]? = some y)
    (hQ : ∀ h', ZpAfter s z ti tz i1 i2 l1 l2 k1 k2 x y h' → Q (.ref s.heap.objs.size) { s with heap := h' }) :
    wpAny (model prog w) A (Builtin.«zip.__next__» ⟨[.ref z], []⟩) (fun fin s' => ∃ u, fin = .done (.ret u) ∧ Q u s') E s := by
  show wpAny (model prog w) A (field (.ref z) 2 >>= _) _ _ s
  refine wpAny_bind (wpAny_field hz rfl (x := .bool false) rfl ?_)
  show wpAny (model prog w) A (field (.ref z) 3 >>= _) _ _ s
  refine wpAny_bind (wpAny_field hz rfl (x := .ref ti) rfl ?_)
  refine wpAny_bind (wpAny_seqItems hti rfl ?_)
  show wpAny (model prog w) A (Builtin.SmallTypes.ownedTupleIsFree (.ref z) >>= _) _ _ s
  refine wpAny_bind (wpAny_tupleHeld_zip hz hT fun ha za sa => ?_)
  simp only [Bool.false_eq_true, if_false]
  refine wpAny_bind ?_
  rw [← Array.forIn_toList]
  simp only [List.forIn_cons, List.forIn_nil]
  refine wpAny_bind (wpAny_bind (wpAny_holding ?_))
  show wpAny (model prog w) A (Builtin.SmallTypes.nextOf (.ref i1) >>= _) _ _ _
  refine wpAny_bind (RZ.nextOf_tuple_item (s := { s with heap := ha }) (h1.extBut sa.extBut D.i1z) (hl1.extBut sa.extBut D.l1z) hx fun hb j1 sb => wpAny_pure ?_)
  refine wpAny_pure ?_
  refine wpAny_bind (wpAny_bind (wpAny_holding ?_))
  show wpAny (model prog w) A (Builtin.SmallTypes.nextOf (.ref i2) >>= _) _ _ _
  have h2b := (h2.extBut sa.extBut D.i2z).extBut sb.extBut D.i12.symm
  have l2b := (hl2.extBut sa.extBut D.l2z).extBut sb.extBut D.l2i1
  refine wpAny_bind (RZ.nextOf_tuple_item (s := { s with heap := hb }) h2b l2b hy fun hc j2 sc => wpAny_pure ?_)
  refine wpAny_pure (wpAny_pure ?_)
  show wpAny (model prog w) A (newTuple [x, y] >>= _) _ _ _
  refine wpAny_bind (wpAny_newTuple ?_)
  have hsz : hc.objs.size = s.heap.objs.size := by rw [sc.1, sb.1, sa.1]
  have zc : ZpV hc z ti tz (rawInt T) true := sc.extBut _ _ D.i2z.symm (sb.extBut _ _ D.i1z.symm za)
  have kc : ∀ c o, c ≠ z → c ≠ i1 → c ≠ i2 → s.heap.get? c = some o → hc.get? c = some o := fun c o c1 c2 c3 e => sc.extBut _ _ c3 (sb.extBut _ _ c2 (sa.extBut _ _ c1 e))
  have j1c : hc.IsTupleIter i1 l1 (k1 + 1) := j1.extBut sc.extBut D.i12
  refine wpAny_pure ⟨_, rfl, ?_⟩
  show Q (.ref hc.objs.size) _
  have tp : IsPair (hc.push { cls := .type "tuple", data := .seq #[x, y] }) hc.objs.size x y := Heap.get?_push_size _ rfl
  have sz : (hc.push { cls := .type "tuple", data := .seq #[x, y] }).objs.size = hc.objs.size + 1 := Heap.size_push ..
  have tzc : IsPair hc tz p q := kc _ _ D.TOz D.TOi1 D.TOi2 htz
  rw [hsz] at tp sz ⊢
  exact hQ _ ⟨⟨_, _, Heap.get?_push_of_some _ zc, .inr ⟨_, rfl⟩⟩, ⟨_, _, Heap.get?_push_of_some _ tzc⟩, j1c.at fun o e => Heap.get?_push_of_some _ e, j2.at fun o e => Heap.get?_push_of_some _ e, tp, sz, fun c o c1 _ c3 c4 e => Heap.get?_push_of_some _ (kc c o c1 c3 c4 e)⟩
abbrev ZpGone (s : Shared) (z tz i1 i2 : Addr) (h' : Heap) : Prop := ∀ c o, c ≠ z → c ≠ tz → c ≠ i1 → c ≠ i2 → s.heap.get? c = some o → h'.get? c = some o
theorem zip_free_end {Q : Fin → Shared → Prop} (hh : A.handled = none) (D : ZipApart z ti tz i1 i2 l1 l2) (hz : ZpV s.heap z ti tz v b) (hf : Fre s.heap v) (hti : IsPair s.heap ti (.ref i1) (.ref i2)) (htz : IsPair s.heap tz p q)
    (h1 : s.heap.IsTupleIter i1 l1 k1) (h2 : s.heap.IsTupleIter i2 l2 k2) (hl1 : s.heap.IsTuple l1 xs) (hl2 : s.heap.IsTuple l2 ys) (hend : xs[k1]? = none ∨ ys[k2]? = none)
    (hE : ∀ h' e, ZpGone s z tz i1 i2 h' → (∃ o, h'.get? e = some o ∧ o.cls = .type "StopIteration") → E (.ref e) { s with heap := h' }) :
    wpAny (model prog w) A (Builtin.«zip.__next__» ⟨[.ref z], []⟩) Q E s := by
  show wpAny (model prog w) A (field (.ref z) 2 >>= _) _ _ s
  refine wpAny_bind (wpAny_field hz rfl (x := .bool false) rfl ?_)
  show wpAny (model prog w) A (field (.ref z) 3 >>= _) _ _ s
  refine wpAny_bind (wpAny_field hz rfl (x := .ref ti) rfl ?_)
  refine wpAny_bind (wpAny_seqItems hti rfl ?_)
  show wpAny (model prog w) A (Builtin.SmallTypes.ownedTupleIsFree (.ref z) >>= _) _ _ s
  refine wpAny_bind (free_zip hz hf ?_)
  simp only [if_true]
  refine wpAny_bind (wpAny_rule ?_)
  refine wpAny_bind (wpAny_field hz rfl (x := .ref tz) rfl ?_)
  refine wpAny_bind (wpAny_setField_rec hz (by simp) fun ha za sa => ?_)
  replace za : ZpV ha z ti tz .ellipsis b := za
  refine wpAny_bind ?_
  simp only [List.zipIdx_cons, List.zipIdx_nil, List.forIn_cons, List.forIn_nil]
  refine wpAny_bind (wpAny_bind (wpAny_onRaise ?_))
  show wpAny (model prog w) A (Builtin.SmallTypes.nextOf (.ref i1) >>= _) _ _ _
  cases hx : xs[k1]? with
  | none =>
    refine wpAny_bind (RZ.nextOf_tuple_end (s := { s with heap := ha }) hh (h1.extBut sa.extBut D.i1z) (hl1.extBut sa.extBut D.l1z) hx fun hb e sb he => ?_)
    obtain ⟨oe, hoe, hce⟩ := he
    have zb : ZpV hb z ti tz .ellipsis b := sb _ _ D.i1z.symm za
    have ez : e ≠ z := fun x => by subst x; rw [zb] at hoe; cases hoe; simp at hce
    exact wpAny_setField_rec zb (by simp) fun hc _ sc => hE hc e (fun c o c1 _ c3 _ x => sc.extBut _ _ c1 (sb _ _ c3 (sa.extBut _ _ c1 x))) ⟨oe, sc.extBut _ _ ez hoe, hce⟩
  | some x =>
    have hy : ys[k2]? = none := hend.resolve_left (by rw [hx]; simp)
    refine wpAny_bind (RZ.nextOf_tuple_item (s := { s with heap := ha }) (h1.extBut sa.extBut D.i1z) (hl1.extBut sa.extBut D.l1z) hx fun hb j1 sb => wpAny_pure ?_)
    have tb : IsPair hb tz p q := sb.extBut _ _ D.TOi1 (sa.extBut _ _ D.TOz htz)
    refine wpAny_bind (wpAny_seqItems tb rfl ?_)
    refine wpAny_bind (wpAny_updateSeq_pair tb fun hc tc sc => ?_)
    refine wpAny_bind (wpAny_letGo (wpAny_pure ?_))
    refine wpAny_bind (wpAny_bind (wpAny_onRaise ?_))
    show wpAny (model prog w) A (Builtin.SmallTypes.nextOf (.ref i2) >>= _) _ _ _
    have h2c := ((h2.extBut sa.extBut D.i2z).extBut sb.extBut D.i12.symm).extBut sc.extBut D.TOi2.symm
    have l2c := ((hl2.extBut sa.extBut D.l2z).extBut sb.extBut D.l2i1).extBut sc.extBut D.l2TO
    refine wpAny_bind (RZ.nextOf_tuple_end (s := { s with heap := hc }) hh h2c l2c hy fun hd e sd he => ?_)
    obtain ⟨oe, hoe, hce⟩ := he
    have zd : ZpV hd z ti tz .ellipsis b := sd _ _ D.i2z.symm (sc.extBut _ _ D.TOz.symm (sb.extBut _ _ D.i1z.symm za))
    have ez : e ≠ z := fun x => by subst x; rw [zd] at hoe; cases hoe; simp at hce
    exact wpAny_setField_rec zd (by simp) fun hf _ sf => hE hf e (fun c o c1 c2 c3 c4 x => sf.extBut _ _ c1 (sd _ _ c4 (sc.extBut _ _ c2 (sb.extBut _ _ c3 (sa.extBut _ _ c1 x))))) ⟨oe, sf.extBut _ _ ez hoe, hce⟩
theorem zip_held_end {oT : Obj} {Q : Fin → Shared → Prop} (hh : A.handled = none) (D : ZipApart z ti tz i1 i2 l1 l2) (hz : ZpV s.heap z ti tz (rawInt T) b) (hT : s.heap.get? T = some oT) (hti : IsPair s.heap ti (.ref i1) (.ref i2)) (htz : IsPair s.heap tz p q)
    (h1 : s.heap.IsTupleIter i1 l1 k1) (h2 : s.heap.IsTupleIter i2 l2 k2) (hl1 : s.heap.IsTuple l1 xs) (hl2 : s.heap.IsTuple l2 ys) (hend : xs[k1]? = none ∨ ys[k2]? = none)
    (hE : ∀ h' e, ZpGone s z tz i1 i2 h' → (∃ o, h'.get? e = some o ∧ o.cls = .type "StopIteration") → E (.ref e) { s with heap := h' }) :
    wpAny (model prog w) A (Builtin.«zip.__next__» ⟨[.ref z], []⟩) Q E s := by
  show wpAny (model prog w) A (field (.ref z) 2 >>= _) _ _ s
  refine wpAny_bind (wpAny_field hz rfl (x := .bool false) rfl ?_)
  show wpAny (model prog w) A (field (.ref z) 3 >>= _) _ _ s
  refine wpAny_bind (wpAny_field hz rfl (x := .ref ti) rfl ?_)
  refine wpAny_bind (wpAny_seqItems hti rfl ?_)
  show wpAny (model prog w) A (Builtin.SmallTypes.ownedTupleIsFree (.ref z) >>= _) _ _ s
  refine wpAny_bind (wpAny_tupleHeld_zip hz hT fun ha za sa => ?_)
  simp only [Bool.false_eq_true, if_false]
  refine wpAny_bind ?_
  rw [← Array.forIn_toList]
  simp only [List.forIn_cons, List.forIn_nil]
  refine wpAny_bind (wpAny_bind (wpAny_holding ?_))
  show wpAny (model prog w) A (Builtin.SmallTypes.nextOf (.ref i1) >>= _) _ _ _
  cases hx : xs[k1]? with
  | none =>
    refine wpAny_bind (RZ.nextOf_tuple_end (s := { s with heap := ha }) hh (h1.extBut sa.extBut D.i1z) (hl1.extBut sa.extBut D.l1z) hx fun hb e sb he => ?_)
    exact hE hb e (fun c o c1 _ c3 _ x => sb _ _ c3 (sa.extBut _ _ c1 x)) he
  | some x =>
    have hy : ys[k2]? = none := hend.resolve_left (by rw [hx]; simp)
    refine wpAny_bind (RZ.nextOf_tuple_item (s := { s with heap := ha }) (h1.extBut sa.extBut D.i1z) (hl1.extBut sa.extBut D.l1z) hx fun hb j1 sb => wpAny_pure ?_)
    refine wpAny_pure ?_
    refine wpAny_bind (wpAny_bind (wpAny_holding ?_))
    show wpAny (model prog w) A (Builtin.SmallTypes.nextOf (.ref i2) >>= _) _ _ _
    have h2b := (h2.extBut sa.extBut D.i2z).extBut sb.extBut D.i12.symm
    have l2b := (hl2.extBut sa.extBut D.l2z).extBut sb.extBut D.l2i1
    refine wpAny_bind (RZ.nextOf_tuple_end (s := { s with heap := hb }) hh h2b l2b hy fun hc e sc he => ?_)
    exact hE hc e (fun c o c1 _ c3 c4 x => sc _ _ c4 (sb.extBut _ _ c3 (sa.extBut _ _ c1 x))) he
/-- the mark: nothing, or an address -/
def Mrk (v : Value) : Prop := v = .none ∨ ∃ T : Addr, v = rawInt T
theorem pyNext_zipV_item {Q : Option Value → Shared → Prop} (D : ZipApart z ti tz i1 i2 l1 l2) (hz : ZpV s.heap z ti tz v b) (hm : Mrk v) (hti : IsPair s.heap ti (.ref i1) (.ref i2)) (htz : IsPair s.heap tz p q)
    (h1 : s.heap.IsTupleIter i1 l1 k1) (h2 : s.heap.IsTupleIter i2 l2 k2) (hl1 : s.heap.IsTuple l1 xs) (hl2 : s.heap.IsTuple l2 ys) (hx : xs[k1]? = some x) (hy : ys[k2]? = some y)
    (hQ : ∀ h', ZpAfter s z ti tz i1 i2 l1 l2 k1 k2 x y h' → Q (some (.ref s.heap.objs.size)) { s with heap := h' }) : wpAny (model prog w) A (pyNext (.ref z)) Q E s := by
  have ty : s.TypeIs (.ref z) "zip" := ⟨_, hz, rfl⟩
  unfold pyNext
  refine wpAny_bind (wpAny_attempt (wpAny_callSpecial?_slot (name := Str.ofString "__next__") ty F.slot_zip_next (wpAny_call_entry F.slot_zip_next ty F.entry_zip_next ?_ (F.args_zip_next_1 _))))
  rcases hm with rfl | ⟨T, rfl⟩
  · exact zip_free_item D hz (.inl rfl) hti htz h1 h2 hl1 hl2 hx hy fun h' a => wpAny_pure (hQ h' a)
  · cases hT : s.heap.get? T with
    | none => exact zip_free_item D hz (.inr ⟨T, rfl, hT⟩) hti htz h1 h2 hl1 hl2 hx hy fun h' a => wpAny_pure (hQ h' a)
    | some o => exact zip_held_item D hz hT hti htz h1 h2 hl1 hl2 hx hy fun h' a => wpAny_pure (hQ h' a)
theorem pyNext_zipV_end {Q : Option Value → Shared → Prop} (hh : A.handled = none) (D : ZipApart z ti tz i1 i2 l1 l2) (hz : ZpV s.heap z ti tz v b) (hm : Mrk v) (hti : IsPair s.heap ti (.ref i1) (.ref i2)) (htz : IsPair s.heap tz p q)
    (h1 : s.heap.IsTupleIter i1 l1 k1) (h2 : s.heap.IsTupleIter i2 l2 k2) (hl1 : s.heap.IsTuple l1 xs) (hl2 : s.heap.IsTuple l2 ys) (hend : xs[k1]? = none ∨ ys[k2]? = none)
    (hQ : ∀ h', ZpGone s z tz i1 i2 h' → Q none { s with heap := h' }) : wpAny (model prog w) A (pyNext (.ref z)) Q E s := by
  have ty : s.TypeIs (.ref z) "zip" := ⟨_, hz, rfl⟩
  unfold pyNext
  refine wpAny_bind (wpAny_attempt (wpAny_callSpecial?_slot (name := Str.ofString "__next__") ty F.slot_zip_next (wpAny_call_entry F.slot_zip_next ty F.entry_zip_next ?_ (F.args_zip_next_1 _))))
  have fin : ∀ h' e, ZpGone s z tz i1 i2 h' → (∃ o, h'.get? e = some o ∧ o.cls = .type "StopIteration") → wpAny (model prog w) A (isInstance (.ref e) (.type "StopIteration")) (fun b s' => wpAny (model prog w) A (if b = true then pure none else throw (.ref e)) Q E s') E { s with heap := h' } := fun h' e k ⟨o, ho, hc⟩ =>
    wpAny_isInstance (T := "StopIteration") (b := true) ⟨o, ho, hc⟩ isSubtype_stop (wpAny_pure (hQ _ k))
  rcases hm with rfl | ⟨T, rfl⟩
  · exact zip_free_end hh D hz (.inl rfl) hti htz h1 h2 hl1 hl2 hend fun h' e k o => wpAny_bind (fin h' e k o)
  · cases hT : s.heap.get? T with
    | none => exact zip_free_end hh D hz (.inr ⟨T, rfl, hT⟩) hti htz h1 h2 hl1 hl2 hend fun h' e k o => wpAny_bind (fin h' e k o)
    | some o => exact zip_held_end hh D hz hT hti htz h1 h2 hl1 hl2 hend fun h' e k o => wpAny_bind (fin h' e k o)
end
section
variable {X : Cx} {K : PySem.W.Frag}
theorem zipD_strs (v w : List Str) : zipD (v.map DL.D.str) (w.map DL.D.str) = (v.zip w).map pairD := by
  unfold zipD
  rw [List.zip_map, List.map_map]
  rfl
end
end DL
namespace DL
open PySem PySem.Spec PyProof.Rows L2
section
variable {X : Cx} {K : PySem.W.Frag}
/-! [e for x in xs if c for y in ys if d] -/
/-! {k: v for x in xs} as a value -/
def dDcE (dl : DTD) : DT := fun g r f Q => dl g r f fun ks xs f' => Q (.dct ks xs) f'
theorem de_dc {kx vx tg iter : Expr} {ifs : List Expr} {scope : Scope} {own : List (Str × Nat)} {pos : Pos} {is : List Nat} {di : DTA} {t : TgF} {c : DTT} {k e : DT} (hN : X.N.Nodup) (hi : DI X tg iter di) (ok : BlkOk X.N X.env.scope scope own)
    (hg : ∀ (s : Shared) (H : Hp) (C : Addr) (cl : List (Str × Addr)) (fp : List Addr), DG (X.blk s H scope (compEnvC scope cl C X.env) fp) tg is t) (ht : ∀ (s : Shared) (H : Hp) (C : Addr) (cl : List (Str × Addr)) (fp : List Addr), DTs (X.blk s H scope (compEnvC scope cl C X.env) fp) ifs c)
    (hk : ∀ (s : Shared) (H : Hp) (C : Addr) (cl : List (Str × Addr)) (fp : List Addr), DE (X.blk s H scope (compEnvC scope cl C X.env) fp) kx k)
    (he : ∀ (s : Shared) (H : Hp) (C : Addr) (cl : List (Str × Addr)) (fp : List Addr), DE (X.blk s H scope (compEnvC scope cl C X.env) fp) vx e)
    (hc : X.calm = true := by rfl) (hs : ∀ x, foldedSetIterable iter X.env x = pure x := by intro _; rfl) (hsub : ∀ j ∈ is, j ∈ own.map (·.2) := by decide) :
    DE X (.DictComp kx vx [⟨tg, iter, ifs, 0⟩] scope pos) (dDcE (dDc di t c k e (own.map (·.2)))) :=
  DE.mk' (pe_dc (g := gOf X.K is t) (tt := tOfT X.K c) (tk := tOf X.K k) (tv := tOf X.K e) hc hN hi.pi ok (fun s H C cl fp => (hg s H C cl fp).pg) (fun s H C cl fp => (ht s H C cl fp).pt) (fun s H C cl fp => (hk s H C cl fp).pe) (fun s H C cl fp => (he s H C cl fp).pe) hs)
    fun g r f st H Hs Q Q' A hq hd => snd_dc hi.sn (hg X.s_0 (fun _ => none) 0 [] []).sn (ht X.s_0 (fun _ => none) 0 [] []).sn (hk X.s_0 (fun _ => none) 0 [] []).sn (he X.s_0 (fun _ => none) 0 [] []).sn hsub g r f st H Hs Q _ A
      (fun ks xs f' p vs H' Hs' s' k' hp np hv hl hr q => hq (.dct ks xs) f' (.ref p) H' _ (s'.share hp hv np) (k'.share (A.dk.out hp) np) ⟨p, vs, rfl, upd_same, hl, hr.mono fun b u z => by rw [upd_ne (ne_of_none z np)]; exact z⟩ q) hd
end
end DL
namespace DL
open PySem PySem.Spec PyProof.Rows L2
/-! expressions that may raise -/
abbrev XD := D → Nat → Prop
abbrev DTX := Option Dk → Sg → Nat → QD → XD → Prop
def SndX (K : PySem.W.Frag) (W : WX) (t : TE) (dl : DTX) : Prop := ∀ (g : Option Dk) (r : Sg) (f : Nat) (st : L2.St) (H Hs : Hp) (Q : VK) (Q' : QD) (E' : XD), At K g r f st H Hs →
  (∀ d f' v H' Hs', Stp g H Hs H' Hs' → DkOk g H' Hs' f' → Rp K Hs' d v → Q' d f' → Q v H') →
  (∀ x f' cls d H' Hs', Stp g H Hs H' Hs' → DkOk g H' Hs' f' → ExR K H' Hs' x cls d → E' x f' → W cls d st H') → dl g r f Q' E' → t st H Q
def tOfX (K : PySem.W.Frag) (W : WX) (dl : DTX) : TE := fun st H Q => ∃ g r f Hs Q' E', At K g r f st H Hs ∧ (∀ d f' v H' Hs', Stp g H Hs H' Hs' → DkOk g H' Hs' f' → Rp K Hs' d v → Q' d f' → Q v H') ∧
  (∀ x f' cls d H' Hs', Stp g H Hs H' Hs' → DkOk g H' Hs' f' → ExR K H' Hs' x cls d → E' x f' → W cls d st H') ∧ dl g r f Q' E'
structure DEX (X : Cx) (e : Expr) (dl : DTX) : Prop where
  pe : PE X e (tOfX X.K (wx X) dl)
theorem DEX.sn {X : Cx} {e : Expr} {dl : DTX} (_ : DEX X e dl) : SndX X.K (wx X) (tOfX X.K (wx X) dl) dl := fun g r f st H Hs Q Q' E' a h1 h2 hd => ⟨g, r, f, Hs, Q', E', a, h1, h2, hd⟩
theorem DEX.mk' {X : Cx} {e : Expr} {t : TE} {dl : DTX} (p : PE X e t) (s : SndX X.K (wx X) t dl) : DEX X e dl := ⟨⟨fun pins sh st H Q I h => by
  obtain ⟨g, r, f, Hs, Q', E', a, h1, h2, hd⟩ := h
  exact p.run pins sh st H Q I (s g r f st H Hs Q Q' E' a h1 h2 hd)⟩⟩
section
variable {X : Cx} {K : PySem.W.Frag} {W : WX}
/-! statements of them -/
/-! raise C(e), C a class of the text with one field -/
/-! a op b by the class's own method, which may raise -/
/-! try: body, except C: suite -/
theorem EndsOk.mono {g : Option Dk} {H0 Hs0 : Hp} {E : DEnds} {D : Ends} {W' : WX} (e : EndsOk K W g H0 Hs0 E D) (h : ∀ cls d st H, W cls d st H → W' cls d st H) : EndsOk K W' g H0 Hs0 E D := ⟨e.nx, e.rt, e.bk, e.ct, fun x r f st H cls d q hx => h _ _ _ _ (e.xc x r f st H cls d q hx)⟩
end
end DL
namespace DL
open PySem PySem.Spec PyProof.Rows L2
/-! a caught exception that is looked at, kept, and looked at later -/
section
variable {X : Cx} {K : PySem.W.Frag} {W : WX} {g : Option Dk} {H0 Hs0 : Hp} {r : Sg} {f : Nat} {st : L2.St} {H Hs : Hp}
/-! its fields -/
structure KX (K : PySem.W.Frag) (c : Str) (C : Addr) : Prop where
  ns : PySem.W.nsIn K mainGlobals c = some (some (.ref C))
  xf : XfC K C
  ha : PySem.W.findIn K (.ref C) "__class__" = some (some (.builtin "object.__class__"))
  hn : PySem.W.specialIn K (.builtin "object.__class__") "__get__" = some (some (.builtin "getset_descriptor.__get__"))
  ht : PySem.W.takesIn K (.builtin "object.__class__") = some true
  hm : PySem.W.mroIn K C (.type "object") = some true
theorem KX.uniq {c : Str} {C C' : Addr} (k : KX K c C) (h : PySem.W.nsIn K mainGlobals c = some (some (.ref C'))) : C' = C := by
  have e := k.ns.symm.trans h
  cases e
  rfl
/-! isinstance of it, or of None -/
theorem KX.cls {c : Str} {C : Addr} (k : KX K c C) : (PySem.W.clsIn K C).isSome = true := by
  obtain ⟨cd, hc, _⟩ := PySem.W.any_some k.xf.hdC
  rw [hc]
  rfl
/-! small things -/
theorem DEX.e {e : Expr} {dl : DTX} (h : DEX X e dl) : DE X e (fun g r f Q => dl g r f Q fun _ _ => False) := .mk' h.pe fun g r f st H Hs Q Q' A hq hd => ⟨g, r, f, Hs, Q', fun _ _ => False, A, hq, fun _ _ _ _ _ _ _ _ _ z => z.elim, hd⟩
end
end DL
namespace DL
open PySem PySem.Spec PyProof.Rows L2
/-! places between statements, at which ways meet: behind the first, the second, .. statement -/
section
variable {g : Option Dk} {r : Sg} {f : Nat} {E : DEnds} {a b c d e h i : DTS}
theorem mid (M : Sg → Nat → Prop) (h2 : ∀ r f, M r f → b g r f E) (h1 : (∀ r f, M r f → b g r f E) → (sSeq a b) g r f E) : (sSeq a b) g r f E := h1 h2
theorem mid2 (M : Sg → Nat → Prop) (h2 : ∀ r f, M r f → c g r f E) (h1 : (∀ r f, M r f → c g r f E) → (sSeq a (sSeq b c)) g r f E) : (sSeq a (sSeq b c)) g r f E := h1 h2
end
/-! isinstance of an own error class, from the answers about the classes -/
end DL
namespace DL
open PySem PySem.Spec PyProof.Rows L2
/-! repr -/
def keyP : Key → PyData
  | .inl i => .int i
  | .inr x => .str x
mutual
def D.sh : D → PyData
  | .none => .none
  | .bool b => .bool b
  | .int i => .int i
  | .str x => .str x
  | .tup ds => .tuple (shA ds)
  | .lst ds => .list (shA ds)
  | .dct ks ds => .dict ((ks.map keyP).zip (shA ds))
  | .dtt _ _ => .none
  | .ktup _ => .none
  | .obj _ _ _ => .none
  | .exn _ _ _ => .none
  | .any _ => .none
def shA : List D → List PyData
  | [] => []
  | d :: ds => d.sh :: shA ds
end
def kOk : Key → Bool
  | .inl i => decide (i.natAbs.log2 < 1920)
  | .inr x => x.cps.toList.all fun c => decide (c < 1114112)
def kWt : Key → Nat
  | .inl _ => 1921
  | .inr x => 10 * x.length + 2
mutual
/-- how deep it is -/
def D.dp : D → Nat
  | .tup ds => dpA ds + 1
  | .lst ds => dpA ds + 1
  | .dct _ ds => dpA ds + 1
  | _ => 0
def dpA : List D → Nat
  | [] => 0
  | d :: ds => max d.dp (dpA ds)
end
/-! lengths -/
theorem cps_of {x : Str} (h : (x.cps.toList.all fun c => decide (c < 1114112)) = true) : (reprText x).length ≤ 10 * x.length + 2 :=
  PySem.StrLaws.reprText_len x fun c hc => Nat.lt_trans (of_decide_eq_true (List.all_eq_true.mp h c hc)) (by decide)
/-! depths -/
/-! what is read in the heap -/
section
variable {P : Program} {w : World} {K : PySem.W.Frag} {H : Hp} {h : Heap}
theorem keys_at : ∀ {ks : List Key} {us : List Value} (n : Nat) (bs : List Addr), Paired (fun k u => keyIs k u = true) ks us → ks.all kOk = true → (∀ k ∈ ks, kWt k ≤ sizeLine) → (∃ as, ReadsAll h us (ks.map keyP) as) ∧ ReprAllK P w bs h n us (PyData.shownAll (ks.map keyP))
  | [], _, n, bs, .nil, _, _ => ⟨⟨[], .nil⟩, .nil⟩
  | k :: ks, u :: us, n, bs, .cons hk hr, ho, hz => by
    rw [List.all_cons, Bool.and_eq_true] at ho
    obtain ⟨⟨as, h1⟩, h2⟩ := keys_at n bs hr ho.2 fun k hk => hz k (List.mem_cons_of_mem _ hk)
    have hz1 := hz k (List.mem_cons_self ..)
    rcases keyIs_shape hk with ⟨i, t, rfl, rfl⟩ | ⟨x, t, rfl, rfl⟩
    · exact ⟨⟨_, .cons (.int i t) h1⟩, .cons (.of_is (ReprIs.int t (of_decide_eq_true ho.1)) _ _ _) h2⟩
    · exact ⟨⟨_, .cons (.str x t) h1⟩, .cons (.of_is (ReprIs.str x t (Nat.le_trans (cps_of ho.1) hz1)) _ _ _) h2⟩
end
end DL
namespace DL
open PySem PySem.Spec PyProof.Rows L2
/-! draws of other names -/
def CalDn (x : Str) (P : Program) (w : World) (K : PySem.W.Frag) (mg : Str → Option Value) (base : Heap) : Prop :=
  ∃ f fd, FnOk P w K mg base CX0 1 f fd ["_law_script"] (spDeck K) ∧ PySem.W.keepIn K (.ref f) = true ∧ Binds K fd ["_law_script"] [] ∧ mg x = some (.ref f)
theorem pull_bd {x t : Int} (x0 : 0 ≤ x) (x1 : x < 2147483647) (t0 : 0 ≤ t) (t1 : t ≤ 1000000000001) : (x * (48271 + 69621 * t) + 40692 * t * t + 59).natAbs < 2 ^ 100 := by
  have h1 : x * (48271 + 69621 * t) ≤ 2147483647 * (48271 + 69621 * 1000000000001) := Int.mul_le_mul (by omega) (by omega) (by omega) (by decide)
  have h0 : 0 ≤ x * (48271 + 69621 * t) := Int.mul_nonneg x0 (by omega)
  have h2 : 40692 * t * t ≤ 40692 * 1000000000001 * 1000000000001 := Int.mul_le_mul (by omega) t1 t0 (by decide)
  have h3 : 0 ≤ 40692 * t * t := Int.mul_nonneg (by omega) t0
  generalize x * (48271 + 69621 * t) = A at h1 h0
  generalize 40692 * t * t = B at h2 h3
  omega
theorem pull_bd2 {x t : Int} (t0 : 0 ≤ t) (t1 : t ≤ 1000000000001) : (x % 2305843009213693951 + 16807 * t).natAbs < 2 ^ 62 := by
  have h1 := Int.emod_nonneg x (show (2305843009213693951 : Int) ≠ 0 by decide)
  have h2 := Int.emod_lt_of_pos x (show (0 : Int) < 2305843009213693951 by decide)
  omega
theorem cut_ints (ns : List Int) : cutV (ns.map V.int) none (some 63) = (ns.take 63).map V.int := by
  unfold cutV
  rw [HT.sIx_none, show (63 : Int) = ((63 : Nat) : Int) from rfl, HT.sIx_nat]
  simp only [List.drop_zero, Nat.sub_zero]
  rw [← List.take_eq_take_min, List.map_take]
end DL
namespace DL
open PySem PySem.Spec PyProof.Rows L2
/-! dicts of the text, with text keys -/
inductive Ents (K : PySem.W.Frag) : List DictEntry → List (Str × D) → Prop
  | nil : Ents K [] []
  | cons {e : DictEntry} {x : Str} {t : Tok} {d : D} {es : List DictEntry} {tb : List (Str × D)} : e.key = .str x t → (∃ v, RelV v e.val ∧ ∀ H, Rp K H d v) → Ents K es tb → Ents K (e :: es) ((x, d) :: tb)
def GD (K : PySem.W.Frag) (w : World) (mg : Str → Option Value) (x : Str) (tb : List (Str × D)) : Prop := ∃ (a : Addr) (es : Array DictEntry) (n : Nat), mg x = some (.ref a) ∧ KDict K w a es n ∧ Ents K es.toList tb
section
variable {X : Cx} {K : PySem.W.Frag}
theorem DE.weak {e : Expr} {d d' : DT} (h : DE X e d) (w : ∀ g r f Q, d' g r f Q → d g r f Q) : DE X e d' := .mk' h.pe fun g ro f st H Hs Q Q' A hq hd => h.sn g ro f st H Hs Q Q' A hq (w g ro f Q' hd)
theorem DP.weak {e : Expr} {d d' : DTT} (h : DP X e d) (w : ∀ g r f Q, d' g r f Q → d g r f Q) : DP X e d' := .mk' h.pt fun g ro f st H Hs Q Q' A hq hd => h.sn g ro f st H Hs Q Q' A hq (w g ro f Q' hd)
/-! the tables, from what stands in the text -/
end
end DL
namespace DL
open PySem PySem.Spec PyProof.Rows L2
/-! s.count(t), s.strip(t) -/
section
variable {X : Cx} {K : PySem.W.Frag}
def oCount : OM := fun x ds Q => match x, ds with
  | .str a, [.str b] => Q (.int (Txt.count a b))
  | _, _ => False
theorem sm_count : SndM K (fun x xs H Q => ∃ a b, x = .str a ∧ xs = [.str b] ∧ Q (.int (Txt.count a b)) H) oCount := fun H Hs x vx ds vs Q Q' s rx rs hq hd => by
  unfold oCount at hd
  split at hd
  · obtain ⟨v, rfl, h⟩ := rpA1 rs
    cases h
    exact ⟨_, _, rx, rfl, hq (.int _) _ _ _ (Stp.refl s) rfl hd⟩
  · exact hd.elim
theorem de_count {o e : Expr} {apos pos : Pos} {d d2 : DT} (ho : DE X o d) (he : DE X e d2) (hs : starEach [e] X.env = [(false, eval e X.env)] := by rfl) (hbase : attributeBase o "count" X.env (eval o X.env) = eval o X.env := by rfl) (hline : (apos.endLine == pos.line) = true := by rfl) :
    DE X (.Call (.Attribute o "count" apos) [e] [] pos) (dM1 oCount d d2) := .mk' (pe_m1 F.slot_str_count F.type_str_count mt_count ho.pe he.pe hs hbase hline) (snd_m1 sm_count ho.sn he.sn)
end
theorem parts_len (x : Str) (n : Nat) : ∀ (cuts : List Nat) (a : Nat), (PySem.StrLaws.partsFrom x n a cuts).length = cuts.length + 1
  | [], _ => rfl
  | c :: r, a => by show (PySem.StrLaws.partsFrom x n (c + n) r).length + 1 = _; rw [parts_len x n r]; rfl
theorem count_split (s : Str) : Txt.count s "." + 1 = ((Txt.split s ".").length : Int) := by
  have hy : TL.tl (Str.ofString ".") ≠ [] := by decide
  obtain ⟨f, g, hn⟩ := PySem.StrLaws.occ_tight s (Str.ofString ".") (TL.len1 hy)
  have key := TL.parts_spl hy _ 0 f (Nat.zero_le _) g hn
  rw [List.drop_zero, ← TL.split_spl s (Str.ofString ".") hy (TL.kind_ok (by decide +kernel))] at key
  have := congrArg List.length key
  rw [List.length_map, List.length_map, parts_len] at this
  unfold Txt.count
  omega
end DL
namespace DL
open PySem PySem.Spec PyProof.Rows L2
/-! `xs == []` and `xs != []` for a list of any items -/
section
variable {X : Cx} {K : PySem.W.Frag}
def rEqE (K : PySem.W.Frag) (neg : Bool) : R2 := fun x y H Q => ∃ (p q : Addr) (vs : List V), x = .ref p ∧ y = .ref q ∧ SqL K H p vs ∧ SqL K H q [] ∧ Q (.bl (xb neg vs.isEmpty)) H
theorem op_eqE (hu : X.A.units + 64 < cLine) : OpR X (compareOp .Eq) (rEqE X.K false) := by
  intro pins s st H x y v u Q I rx ry h
  obtain ⟨p, q, vs, rfl, rfl, hp, hq, hQ⟩ := h
  cases (show v = Value.ref p from rx)
  cases (show u = Value.ref q from ry)
  obtain ⟨its, r, pl, _⟩ := I.list hp
  obtain ⟨jts, r2, pl2, _⟩ := I.list hq
  cases r2
  have f : ∀ b : Bool, b = vs.isEmpty → EP X pins st Q (.bool b) s := fun b e => ⟨.bl vs.isEmpty, H, I, (show Value.bool b = Value.bool vs.isEmpty by rw [e]), hQ⟩
  cases r with
  | nil => exact SeqAt.RcAt.lists (e := fun _ => true) pl.isList pl2.isList rfl (by omega) (fun j h1 _ => absurd h1 (Nat.not_lt_zero _)) _ _ _ _ (f true rfl)
  | cons _ _ => exact SeqAt.RcAt.lists_lengths pl.isList pl2.isList (by simp) (by omega) _ _ _ _ (f false rfl)
theorem op_neE (hu : X.A.units + 64 < cLine) : OpR X (compareOp .NotEq) (rEqE X.K true) := by
  intro pins s st H x y v u Q I rx ry h
  obtain ⟨p, q, vs, rfl, rfl, hp, hq, hQ⟩ := h
  cases (show v = Value.ref p from rx)
  cases (show u = Value.ref q from ry)
  obtain ⟨its, r, pl, _⟩ := I.list hp
  obtain ⟨jts, r2, pl2, _⟩ := I.list hq
  cases r2
  have f : ∀ b : Bool, b = !vs.isEmpty → EP X pins st Q (.bool b) s := fun b e => ⟨.bl (!vs.isEmpty), H, I, (show Value.bool b = Value.bool (!vs.isEmpty) by rw [e]), hQ⟩
  cases r with
  | nil => exact SeqAt.RcNeAt.lists (e := fun _ => true) pl.isList pl2.isList rfl (by omega) (fun j h1 _ => absurd h1 (Nat.not_lt_zero _)) _ _ _ _ (f false rfl)
  | cons _ _ => exact SeqAt.RcNeAt.lists_lengths pl.isList pl2.isList (by simp) (by omega) _ _ _ _ (f true rfl)
def oEqE (neg : Bool) : O2 := fun x y Q => ∃ xs, x = .lst xs ∧ y = .lst [] ∧ Q (.bool (xb neg xs.isEmpty))
theorem sr_eqE {neg : Bool} : SndR K (rEqE K neg) (oEqE neg) := SndR.pure fun H Hs x y vx vy Q Q' s rx ry hq hd => by
  obtain ⟨xs, rfl, rfl, q⟩ := hd
  obtain ⟨p, vs, rfl, h1, h2⟩ := rx
  obtain ⟨q', ws, rfl, h3, h4⟩ := ry
  cases h4
  refine ⟨p, q', vs, rfl, rfl, SqL.of (s _ _ h1), SqL.of (s _ _ h3), ?_⟩
  have e : vs.isEmpty = xs.isEmpty := by
    have := h2.length
    cases vs <;> cases xs <;> simp_all
  rw [e]
  exact hq (.bool _) _ rfl q
theorem dp_eqE {a b : Expr} {pos : Pos} {da db : DT} (hu : X.A.units + 64 < cLine) (ha : DE X a da) (hb : DE X b db) : DP X (.Compare a [.Eq] [b] pos) (dTest (dOp (oEqE false) da db)) := dp_cmp (op_eqE hu) sr_eqE ha hb (nomark _)
theorem de_eqE {a b : Expr} {pos : Pos} {da db : DT} (hu : X.A.units + 64 < cLine) (ha : DE X a da) (hb : DE X b db) : DE X (.Compare a [.Eq] [b] pos) (dOp (oEqE false) da db) := de_cmp (op_eqE hu) sr_eqE ha hb (nomark _)
theorem dp_neE {a b : Expr} {pos : Pos} {da db : DT} (hu : X.A.units + 64 < cLine) (ha : DE X a da) (hb : DE X b db) : DP X (.Compare a [.NotEq] [b] pos) (dTest (dOp (oEqE true) da db)) := dp_cmp (op_neE hu) sr_eqE ha hb (nomark _)
end
end DL
namespace DL
open PySem PySem.Spec PyProof.Rows L2
section
variable {X : Cx} {K : PySem.W.Frag} {W : WX}
/-! a def that calls itself, before its first step -/
theorem cal_noneK {P : Program} {w : World} {mg : Str → Option Value} {base : Heap} {x : Str} {st : Stmt} {ps : List Str} (k : Nat) (d : Df K mg x st) (hb : ∀ f fd, Fun K x x st f fd → Binds K fd ps []) (sc : ∃ N, FnScope N ps (defScope st)) : Cal P w K mg base (k + 1) x ps (fun _ _ _ _ => False) := by
  obtain ⟨f, fd, F, m⟩ := d
  obtain ⟨N, sc⟩ := sc
  refine ⟨f, fd, F.ok sc (fun vs H Q E h => ?_) (fun cdv A outer s H vs Q E hr h => ?_), F.kp, hb f fd F, m⟩
  · obtain ⟨_, _, _, _, _, _, _, _, h, _⟩ := h; exact h.elim
  · obtain ⟨_, _, _, _, _, _, _, _, h, _⟩ := h; exact h.elim
/-! str(number) -/
/-! a, b = e1, e2, new lists among them -/
theorem notO_new {g : Option Dk} {H0 Hs0 H Hs : Hp} {r : Sg} {f : Nat} {st : L2.St} (s : SIn K g H0 Hs0 r f st H Hs) {p : Addr} (hp : H p = none) (j : Nat) (sl : Sl) (h1 : r[j]? = some sl) (h2 : sl.own = true) : st[j]? ≠ some (some (.ref p)) := fun h3 => by
  obtain ⟨a, e, _, _, q⟩ := s.ow j sl h1 h2
  rw [h3] at e
  cases e
  obtain ⟨o, ho, _⟩ := q.ld
  rw [hp] at ho; cases ho
def sParSL (i j : Nat) (a : DT) (b : DTA) : DTS := fun g r f E => a g (hide r) f fun x f1 => b g (hide r) f1 fun ys f2 => E.nx ((r.set i (.sh x)).set j (.ow ys)) f2
theorem ds_parSL {i j : Nat} {x y : Str} {a b : Expr} {da : DT} {db : DTA} {px py pt : Pos} {kt k2 : Nat} {pt2 pos : Pos} (hN : X.N.Nodup) (ha : DE X a da) (hb : DL' X b db) (hc : X.calm = true := by rfl) (hi : X.N[i]? = some x := by rfl) (hj : X.N[j]? = some y := by rfl) (hij : i ≠ j := by decide)
    (hx : X.env.scope.names.lookup x = some .local := by rfl) (hy : X.env.scope.names.lookup y = some .local := by rfl) (hst : starEach [a, b] X.env = (false, eval a X.env) :: starEach [b] X.env := by rfl) (hst2 : starEach [b] X.env = [(false, eval b X.env)] := by rfl)
    (hw : swappedStores [.Tuple [.Name x px, .Name y py] kt pt] (.Tuple [a, b] k2 pt2) X.env = pure (some [x, y]) := by rfl)
    (hs : swapsWithSole [.Tuple [.Name x px, .Name y py] kt pt] (.Tuple [a, b] k2 pt2) pos.line X.env = pure false := by rfl) :
    DS X (.Assign [.Tuple [.Name x px, .Name y py] kt pt] (.Tuple [a, b] k2 pt2) pos) (sParSL i j da db) := DS.mk' (ps_par hc hN hi hj hij hx hy (pa_cons ha.pe (pa_cons hb.pe pa_nil hst2) hst) hw hs) (fun g H0 Hs0 r f st H D E s e hd => by
  obtain ⟨Hs, s⟩ := s
  refine ha.sn g _ f st H Hs _ _ s.atHid (fun x f1 v H1 Hs1 t1 k1 r1 q1 => ?_) hd
  have s1 := s.afterHid t1 k1
  refine hb.sn g _ f1 st H1 Hs1 _ _ s1.atHid (fun ys f2 q ws H2 Hs2 t2 k2 hq nq hw hr2 q2 => ?_) q1
  have s2 := s1.afterHid t2 k2
  refine ⟨v, .ref q, rfl, e.nx _ f2 _ H2 ⟨_, (s2.set i (r1.mono t2.ext)).setOwn j (u := .ow ys) rfl (s.stp.none0 (t1.none0 hq)) nq (fun l sl hl h1 h2 h3 => ?_) ⟨ws, hw, hr2⟩⟩ q2⟩
  by_cases hil : i = l
  · subst hil
    by_cases hlt : i < r.length
    · rw [List.getElem?_set_self hlt] at h1
      cases h1
      cases h2
    · rw [List.getElem?_eq_none (by simpa using hlt)] at h1
      cases h1
  · rw [List.getElem?_set_ne hil] at h1 h3
    exact notO_new s (t1.none0 hq) l sl h1 h2 h3)
theorem snd_parLL {i j : Nat} {ta tb : TE} {a : DTA} {b : DTA} (hij : i ≠ j) (ha : SndL K ta a) (hb : SndL K tb b) : SndS K W (tPar i j (tCons ta (tCons tb tNil))) (sAsgLL i j a b) := fun g H0 Hs0 r f st H D E s e hd => by
  obtain ⟨Hs, s⟩ := s
  refine ha g _ f st H Hs _ _ s.atHid (fun xs f1 p vs H1 Hs1 t1 k1 hp np hv hr q1 => ?_) hd
  have s1 := s.afterHid t1 k1
  refine hb g _ f1 st H1 Hs1 _ _ s1.atHid (fun ys f2 q ws H2 Hs2 t2 k2 hq nq hw hr2 q2 => ?_) q1
  have s2 := s1.afterHid t2 k2
  have kp : ¬ Dk.has g p := s.dk.out hp
  have ep : H2 p = some (.lst vs) := t2.keep p _ hv kp
  have np2 : Hs2 p = none := t2.new p _ hv np
  have hq0 : H q = none := t1.none0 hq
  have hpq : p ≠ q := fun z => by rw [z, hq] at hv; cases hv
  have s4 := s2.setOwn i (u := .ow xs) rfl (s.stp.none0 hp) np2 (fun l sl _ h1 h2 => notO_new s hp l sl h1 h2) ⟨vs, ep, hr.mono t2.ext⟩
  refine ⟨.ref p, .ref q, rfl, e.nx _ f2 _ H2 ⟨_, s4.setOwn j (u := .ow ys) rfl (s.stp.none0 hq0) nq (fun l sl hl h1 h2 h3 => ?_) ⟨ws, hw, hr2⟩⟩ q2⟩
  by_cases hil : i = l
  · subst hil
    by_cases hlt : i < st.length
    · rw [List.getElem?_set_self hlt] at h3
      cases h3
      exact hpq rfl
    · rw [List.getElem?_eq_none (by simpa using hlt)] at h3
      cases h3
  · rw [List.getElem?_set_ne hil] at h1 h3
    exact notO_new s hq0 l sl h1 h2 h3
theorem ds_parLL {i j : Nat} {x y : Str} {a b : Expr} {da db : DTA} {px py pt : Pos} {kt k2 : Nat} {pt2 pos : Pos} (hN : X.N.Nodup) (ha : DL' X a da) (hb : DL' X b db) (hc : X.calm = true := by rfl) (hi : X.N[i]? = some x := by rfl) (hj : X.N[j]? = some y := by rfl) (hij : i ≠ j := by decide)
    (hx : X.env.scope.names.lookup x = some .local := by rfl) (hy : X.env.scope.names.lookup y = some .local := by rfl) (hst : starEach [a, b] X.env = (false, eval a X.env) :: starEach [b] X.env := by rfl) (hst2 : starEach [b] X.env = [(false, eval b X.env)] := by rfl)
    (hw : swappedStores [.Tuple [.Name x px, .Name y py] kt pt] (.Tuple [a, b] k2 pt2) X.env = pure (some [x, y]) := by rfl)
    (hs : swapsWithSole [.Tuple [.Name x px, .Name y py] kt pt] (.Tuple [a, b] k2 pt2) pos.line X.env = pure false := by rfl) :
    DS X (.Assign [.Tuple [.Name x px, .Name y py] kt pt] (.Tuple [a, b] k2 pt2) pos) (sAsgLL i j da db) := DS.mk' (ps_par hc hN hi hj hij hx hy (pa_cons ha.pe (pa_cons hb.pe pa_nil hst2) hst) hw hs) (snd_parLL hij ha.sn hb.sn)
end
end DL
namespace DL
open PySem PySem.Spec PyProof.Rows L2
/-! defs that give a list that nobody else has -/
abbrev DTL := Option Dk → Sg → Nat → (List D → Nat → Prop) → Prop
def NewL (K : PySem.W.Frag) (g : Option Dk) (H Hs : Hp) (Q : VK) (Q' : List D → Nat → Prop) : Prop := ∀ xs f' p us H' Hs', Stp g H Hs H' Hs' → DkOk g H' Hs' f' → H p = none → Hs' p = none → H' p = some (.lst us) → RpA K Hs' xs us → Q' xs f' → Q (.ref p) H'
section
variable {X : Cx} {K : PySem.W.Frag} {W : WX}
/-! bodies that end in such a list -/
def sOfL (K : PySem.W.Frag) (dl : DTL) : TS := fun D st H => ∃ g H0 Hs0 r f E, SOk K g H0 Hs0 r f st H ∧ NewL K g H0 Hs0 D.rt E ∧ dl g r f E
structure DSsL (X : Cx) (sts : List Stmt) (dl : DTL) : Prop where
  ps : PSs X sts (sOfL X.K dl)
theorem DSsL.mk' {sts : List Stmt} {t : TS} {dl : DTL} (p : PSs X sts t) (s : ∀ D st H g H0 Hs0 r f E, SOk X.K g H0 Hs0 r f st H → NewL X.K g H0 Hs0 D.rt E → dl g r f E → t D st H) : DSsL X sts dl :=
  ⟨⟨fun pins sh st H D I ⟨g, H0, Hs0, r, f, E, h1, h2, h3⟩ => p.run pins sh st H D I (s D st H g H0 Hs0 r f E h1 h2 h3)⟩⟩
/-! the same for a pair, its second part such a list -/
abbrev DTP := Option Dk → Sg → Nat → (D → List D → Nat → Prop) → Prop
def NewP (K : PySem.W.Frag) (g : Option Dk) (H Hs : Hp) (Q : VK) (Q' : D → List D → Nat → Prop) : Prop := ∀ d xs f' t v p us H' Hs', Stp g H Hs H' Hs' → DkOk g H' Hs' f' → H p = none → Hs' p = none → H' p = some (.lst us) → H' t = some (.tup [v, .ref p]) → Rp K Hs' d v → RpA K Hs' xs us → Q' d xs f' → Q (.ref t) H'
def sOfP (K : PySem.W.Frag) (dl : DTP) : TS := fun D st H => ∃ g H0 Hs0 r f E, SOk K g H0 Hs0 r f st H ∧ NewP K g H0 Hs0 D.rt E ∧ dl g r f E
structure DSsP (X : Cx) (sts : List Stmt) (dl : DTP) : Prop where
  ps : PSs X sts (sOfP X.K dl)
theorem DSsP.mk' {sts : List Stmt} {t : TS} {dl : DTP} (p : PSs X sts t) (s : ∀ D st H g H0 Hs0 r f E, SOk X.K g H0 Hs0 r f st H → NewP X.K g H0 Hs0 D.rt E → dl g r f E → t D st H) : DSsP X sts dl :=
  ⟨⟨fun pins sh st H D I ⟨g, H0, Hs0, r, f, E, h1, h2, h3⟩ => p.run pins sh st H D I (s D st H g H0 Hs0 r f E h1 h2 h3)⟩⟩
end
end DL
namespace DL
open PySem PySem.Spec PyProof.Rows L2
/-! a list of lists of texts in the making -/
structure LLs (H0 : Hp) (D : Addr) (ps : List Addr) (rows : List (List Str)) (H2 : Hp) : Prop where
  d0 : H0 D = none
  len : rows.length = ps.length
  dl : H2 D = some (.lst (ps.map V.ref))
  p0 : ∀ p ∈ ps, H0 p = none ∧ p ≠ D
  at_ : ∀ (i : Nat) (r : List Str) (p : Addr), rows[i]? = some r → ps[i]? = some p → H2 p = some (.lst (r.map V.str))
  nd : ps.Nodup
/-- with the shared part beside it -/
structure LLi (g : Option Dk) (H0 Hs0 : Hp) (D : Addr) (ps : List Addr) (rows : List (List Str)) (f : Nat) (H Hs : Hp) : Prop where
  l : LLs H0 D ps rows H
  stp : Stp g H0 Hs0 H Hs
  dk : DkOk g H Hs f
  out : ∀ b, b = D ∨ b ∈ ps → Hs b = none ∧ ¬ Dk.has g b
open Classical in
noncomputable def del (Hs : Hp) (D : Addr) (ps : List Addr) : Hp := fun b => if b = D ∨ b ∈ ps then none else Hs b
section
variable {K : PySem.W.Frag} {g : Option Dk} {H0 Hs0 : Hp} {D : Addr} {ps : List Addr} {rows : List (List Str)} {f f' : Nat} {H Hs H' Hs' : Hp}
theorem shr_in {b : Addr} (h : b = D ∨ b ∈ ps) : shr H Hs D ps b = H b := if_pos h
theorem shr_out {b : Addr} (h : ¬ (b = D ∨ b ∈ ps)) : shr H Hs D ps b = Hs b := if_neg h
theorem del_in {b : Addr} (h : b = D ∨ b ∈ ps) : del Hs D ps b = none := if_pos h
theorem del_out {b : Addr} (h : ¬ (b = D ∨ b ∈ ps)) : del Hs D ps b = Hs b := if_neg h
theorem LLs.n0 (h : LLs H0 D ps rows H) {b : Addr} (hb : b = D ∨ b ∈ ps) : H0 b = none := hb.elim (fun e => e ▸ h.d0) fun e => (h.p0 b e).1
theorem LLi.sub (h : LLi g H0 Hs0 D ps rows f H Hs) : Same (shr H Hs D ps) H := fun b o e => by
  by_cases hb : b = D ∨ b ∈ ps
  · rw [shr_in hb] at e; exact e
  · rw [shr_out hb] at e; exact h.stp.sub b o e
theorem LLi.ext (h : LLi g H0 Hs0 D ps rows f H Hs) : Same Hs (shr H Hs D ps) := fun b o e => by
  have hb : ¬ (b = D ∨ b ∈ ps) := fun hb => by rw [(h.out b hb).1] at e; cases e
  rw [shr_out hb]; exact e
theorem LLi.sh (h : LLi g H0 Hs0 D ps rows f H Hs) : Stp g H0 Hs0 H (shr H Hs D ps) where
  sub := h.sub
  ext := h.stp.ext.trans h.ext
  keep := h.stp.keep
  there := h.stp.there
  new := fun b o e n => by
    have hb : ¬ (b = D ∨ b ∈ ps) := fun hb => by rw [h.l.n0 hb] at e; cases e
    rw [shr_out hb]; exact h.stp.new b o e n
theorem LLi.shk (h : LLi g H0 Hs0 D ps rows f H Hs) : DkOk g H (shr H Hs D ps) f := by
  have q := h.dk
  have o := h.out
  cases g with
  | none => trivial
  | some k =>
    obtain ⟨q0, q1, q2, q3, tb⟩ := q
    have nn : ∀ b, Dk.has (some k) b → ¬ (b = D ∨ b ∈ ps) := fun b hb z => (o b z).2 hb
    refine ⟨q0, by rw [shr_out (nn _ (.inl rfl))]; exact q1, by rw [shr_out (nn _ (.inr (.inl rfl)))]; exact q2, by rw [shr_out (nn _ (.inr (.inr (.inl rfl))))]; exact q3, tb.to (fun x hx u h1 h2 => ⟨h1, by rw [shr_out (nn _ (.inr (.inr (.inr hx))))]; exact h2⟩) fun b u hb _ _ => ?_⟩
    rw [shr_out fun z => by rw [(o b z).1] at hb; cases hb]; exact hb
abbrev rowsL (rows : List (List Str)) : DL.D := .lst (rows.map fun r => .lst (r.map DL.D.str))
theorem LLi.rp (h : LLi g H0 Hs0 D ps rows f H Hs) : Rp K (shr H Hs D ps) (rowsL rows) (.ref D) := by
  refine ⟨D, ps.map V.ref, rfl, by rw [shr_in (.inl rfl)]; exact h.l.dl, ?_⟩
  have gen : ∀ (ks : List (List Str)) (qs : List Addr), ks.length = qs.length → (∀ q ∈ qs, q ∈ ps) → (∀ (i : Nat) (r : List Str) (p : Addr), ks[i]? = some r → qs[i]? = some p → H p = some (.lst (r.map V.str))) → RpA K (shr H Hs D ps) (ks.map fun r => .lst (r.map DL.D.str)) (qs.map V.ref) := by
    intro ks
    induction ks with
    | nil => intro qs hl _ _; cases qs with
      | nil => rfl
      | cons _ _ => simp at hl
    | cons k ks ih =>
      intro qs hl hm hat
      cases qs with
      | nil => simp at hl
      | cons q qs =>
        refine ⟨.ref q, qs.map V.ref, rfl, ⟨q, k.map V.str, rfl, ?_, RpA.map (f := DL.D.str) (g := V.str) (fun x => rfl) k⟩, ih qs (by simpa using hl) (fun z hz => hm z (by simp [hz])) fun i m p a b => hat (i + 1) m p (by simpa using a) (by simpa using b)⟩
        rw [shr_in (.inr (hm q (by simp)))]
        exact hat 0 k q rfl rfl
  exact gen rows ps h.l.len (fun _ h => h) h.l.at_
/-- after an expression that saw it -/
theorem LLi.un (h : LLi g H0 Hs0 D ps rows f H Hs) (s0 : Same Hs0 H0) (s : Stp g H (shr H Hs D ps) H' Hs') (k : DkOk g H' Hs' f') : LLi g H0 Hs0 D ps rows f' H' (del Hs' D ps) ∧ Same Hs (del Hs' D ps) := by
  have st := h.sh.trans s
  have kp : ∀ b, b = D ∨ b ∈ ps → ∀ o, H b = some o → H' b = some o := fun b hb o e => s.keep b o e (h.out b hb).2
  refine ⟨⟨⟨h.l.d0, h.l.len, kp D (.inl rfl) _ h.l.dl, h.l.p0, fun i r p a b => kp p (.inr (List.mem_of_getElem? b)) _ (h.l.at_ i r p a b), h.l.nd⟩, ⟨fun b o e => ?_, fun b o e => ?_, st.keep, st.there, fun b o e n => ?_⟩, ?_, fun b hb => ⟨del_in hb, (h.out b hb).2⟩⟩, fun b o e => ?_⟩
  · by_cases hb : b = D ∨ b ∈ ps
    · rw [del_in hb] at e; cases e
    · rw [del_out hb] at e; exact st.sub b o e
  · have hb : ¬ (b = D ∨ b ∈ ps) := fun hb => by have := s0 b o e; rw [h.l.n0 hb] at this; cases this
    rw [del_out hb]; exact st.ext b o e
  · by_cases hb : b = D ∨ b ∈ ps
    · exact del_in hb
    · rw [del_out hb]; exact st.new b o e n
  · cases g with
    | none => trivial
    | some d =>
      obtain ⟨q0, q1, q2, q3, tb⟩ := k
      have nn : ∀ b, Hs' b = none → del Hs' D ps b = none := fun b e => by
        by_cases hb : b = D ∨ b ∈ ps
        · exact del_in hb
        · rw [del_out hb]; exact e
      refine ⟨q0, nn _ q1, nn _ q2, nn _ q3, tb.to (fun x hx u h1 h2 => ⟨h1, nn _ h2⟩) fun b u hb _ hq => ?_⟩
      obtain ⟨q, rfl⟩ := hq
      rw [del_out fun z => ?_]
      · exact hb
      · rcases z with rfl | z
        · have := kp b (.inl rfl) _ h.l.dl
          rw [s.sub b _ hb] at this; cases this
        · obtain ⟨i, hi, e2⟩ := List.getElem_of_mem z
          have hr : i < rows.length := by rw [h.l.len]; exact hi
          have := kp b (.inr z) _ (h.l.at_ i rows[i] b (List.getElem?_eq_getElem hr) (by rw [List.getElem?_eq_getElem hi, e2]))
          rw [s.sub b _ hb] at this; cases this
  · have hb : ¬ (b = D ∨ b ∈ ps) := fun hb => by rw [(h.out b hb).1] at e; cases e
    rw [del_out hb]
    exact s.ext b o (h.ext b o e)
theorem LLi.step (h : LLi g H0 Hs0 D ps rows f H Hs) (s : Stp g H Hs H' Hs') (k : DkOk g H' Hs' f') : LLi g H0 Hs0 D ps rows f' H' Hs' := by
  have kp : ∀ b, b = D ∨ b ∈ ps → ∀ o, H b = some o → H' b = some o := fun b hb o e => s.keep b o e (h.out b hb).2
  have ex : ∀ b, b = D ∨ b ∈ ps → ∃ o, H b = some o := fun b hb => by
    rcases hb with rfl | hb
    · exact ⟨_, h.l.dl⟩
    · obtain ⟨i, hi, e⟩ := List.getElem_of_mem hb
      have hr : i < rows.length := by rw [h.l.len]; exact hi
      exact ⟨_, h.l.at_ i rows[i] b (List.getElem?_eq_getElem hr) (by rw [List.getElem?_eq_getElem hi, e])⟩
  refine ⟨⟨h.l.d0, h.l.len, kp D (.inl rfl) _ h.l.dl, h.l.p0, fun i r p a b => kp p (.inr (List.mem_of_getElem? b)) _ (h.l.at_ i r p a b), h.l.nd⟩, h.stp.trans s, k, fun b hb => ?_⟩
  obtain ⟨o, e⟩ := ex b hb
  exact ⟨s.new b o e (h.out b hb).1, (h.out b hb).2⟩
theorem LLi.nodk (h : LLi g H0 Hs0 D ps rows f H Hs) {f0 : Nat} (k0 : DkOk g H0 Hs0 f0) {p : Addr} (hp : H p = none) : H0 p = none ∧ Hs p = none ∧ ¬ Dk.has g p ∧ p ≠ D ∧ p ∉ ps := by
  have n0 : H0 p = none := none_back h.stp hp
  refine ⟨n0, same_none h.stp.sub hp, k0.out n0, fun e => ?_, fun e => ?_⟩
  · subst e; rw [h.l.dl] at hp; cases hp
  · obtain ⟨i, hi, e2⟩ := List.getElem_of_mem e
    have hr : i < rows.length := by rw [h.l.len]; exact hi
    have := h.l.at_ i rows[i] p (List.getElem?_eq_getElem hr) (by rw [List.getElem?_eq_getElem hi, e2])
    rw [hp] at this; cases this
theorem LLi.start {f0 : Nat} (s0 : Same Hs0 H0) (k0 : DkOk g H0 Hs0 f0) {H Hs : Hp} (st : Stp g H0 Hs0 H Hs) (k : DkOk g H Hs f) {p D : Addr} {x : Str} (hp : H p = none) (hD : upd H p (.lst [V.str x]) D = none) :
    LLi g H0 Hs0 D [p] [[x]] f (upd (upd H p (.lst [V.str x])) D (.lst [V.ref p])) Hs := by
  have pD : p ≠ D := fun e => by subst e; rw [upd_same] at hD; cases hD
  have hD' : H D = none := by rwa [upd_ne (fun e => pD e.symm)] at hD
  have p0 := none_back st hp
  have d0 := none_back st hD'
  have h1 : (upd (upd H p (.lst [V.str x])) D (.lst [V.ref p])) p = some (.lst [V.str x]) := by rw [upd_ne pD, upd_same]
  refine ⟨⟨d0, rfl, upd_same, fun q hq => ?_, fun i r q a b => ?_, by simp⟩, (st.mut p0 (same_none st.sub hp)).mut d0 (same_none st.sub hD'), (k.mut (k0.out p0)).mut (k0.out d0), fun b hb => ?_⟩
  · rw [List.mem_singleton.mp hq]; exact ⟨p0, pD⟩
  · cases i with
    | zero => cases a; cases b; exact h1
    | succ i => simp at a
  · rcases hb with rfl | hb
    · exact ⟨same_none st.sub hD', k0.out d0⟩
    · rw [List.mem_singleton.mp hb]; exact ⟨same_none st.sub hp, k0.out p0⟩
theorem LLi.add {f0 : Nat} (k0 : DkOk g H0 Hs0 f0) (h : LLi g H0 Hs0 D ps rows f H Hs) {p : Addr} {x : Str} (hp : H p = none) :
    LLi g H0 Hs0 D (ps ++ [p]) (rows ++ [[x]]) f (upd (upd H p (.lst [V.str x])) D (.lst ((ps ++ [p]).map V.ref))) Hs := by
  obtain ⟨n0, ns, nk, pD, pp⟩ := h.nodk k0 hp
  have od := h.out D (.inl rfl)
  refine ⟨⟨h.l.d0, by rw [List.length_append, List.length_append, h.l.len]; rfl, upd_same, fun q hq => ?_, fun i r q a b => ?_, ?_⟩, (h.stp.mut n0 ns).mut h.l.d0 od.1, (h.dk.mut nk).mut od.2, fun b hb => ?_⟩
  · rcases List.mem_append.mp hq with e | e
    · exact h.l.p0 q e
    · rw [List.mem_singleton.mp e]; exact ⟨n0, pD⟩
  · have hqD : q ≠ D := by
      rcases List.mem_append.mp (List.mem_of_getElem? b) with e | e
      · exact (h.l.p0 q e).2
      · rw [List.mem_singleton.mp e]; exact pD
    rw [upd_ne hqD]
    by_cases hi : i < ps.length
    · rw [List.getElem?_append_left hi] at b
      rw [List.getElem?_append_left (by rw [h.l.len]; exact hi)] at a
      have hqp : q ≠ p := fun e => pp (e ▸ List.mem_of_getElem? b)
      rw [upd_ne hqp]
      exact h.l.at_ i r q a b
    · have hlen : i = ps.length := by
        have := (List.getElem?_eq_some_iff.mp b).1
        rw [List.length_append, List.length_singleton] at this
        omega
      rw [List.getElem?_append_right (by omega), hlen, Nat.sub_self] at b
      rw [List.getElem?_append_right (by rw [h.l.len]; omega), hlen, h.l.len, Nat.sub_self] at a
      cases a
      cases b
      rw [upd_same]; rfl
  · rw [List.nodup_append]
    exact ⟨h.l.nd, by simp, fun a ha b hb e => pp (by rw [List.mem_singleton.mp hb] at e; exact e ▸ ha)⟩
  · rcases hb with hb | hb
    · exact h.out b (.inl hb)
    · rcases List.mem_append.mp hb with e | e
      · exact h.out b (.inr e)
      · rw [List.mem_singleton.mp e]; exact ⟨ns, nk⟩
theorem LLi.app (h : LLi g H0 Hs0 D ps rows f H Hs) {i : Nat} {p : Addr} {r : List Str} {x : Str} (hi : rows[i]? = some r) (hp : ps[i]? = some p) :
    LLi g H0 Hs0 D ps (rows.set i (r ++ [x])) f (upd H p (.lst ((r ++ [x]).map V.str))) Hs := by
  have hm := List.mem_of_getElem? hp
  obtain ⟨p0, pD⟩ := h.l.p0 p hm
  have op := h.out p (.inr hm)
  refine ⟨⟨h.l.d0, by rw [List.length_set]; exact h.l.len, by rw [upd_ne (fun e => pD e.symm)]; exact h.l.dl, h.l.p0, fun j s q a b => ?_, h.l.nd⟩, h.stp.mut p0 op.1, h.dk.mut op.2, h.out⟩
  by_cases hij : i = j
  · subst hij
    rw [hp] at b
    cases b
    rw [List.getElem?_set_self (List.getElem?_eq_some_iff.mp hi).1] at a
    cases a
    exact upd_same
  · rw [List.getElem?_set_ne hij] at a
    have hqp : q ≠ p := fun e => by
      subst e
      obtain ⟨h1, e1⟩ := List.getElem?_eq_some_iff.mp hp
      obtain ⟨h2, e2⟩ := List.getElem?_eq_some_iff.mp b
      exact hij ((List.getElem_inj h.l.nd).mp (e1.trans e2.symm))
    rw [upd_ne hqp]
    exact h.l.at_ j s q a b
end
theorem nxt {g : Option Dk} {r : Sg} {f : Nat} {E : DEnds} (h : E.nx r f) : sNext g r f E := h
section
variable {K : PySem.W.Frag} {Hs : Hp}
theorem SlOk.nil : SlOk K Hs [] [] := ⟨rfl, fun i s d h => by simp at h⟩
theorem SlOk.sh {r : Sg} {st : L2.St} {d : D} {v : V} (hv : Rp K Hs d v) (h : SlOk K Hs r st) : SlOk K Hs (.sh d :: r) (some v :: st) :=
  ⟨by rw [List.length_cons, List.length_cons, h.len], fun i s e h1 h2 => by
    cases i with
    | zero => cases h1; cases h2; exact ⟨v, rfl, hv⟩
    | succ i => exact h.get i s e (by simpa using h1) h2⟩
theorem SlOk.no {r : Sg} {st : L2.St} {o : Option V} (h : SlOk K Hs r st) : SlOk K Hs (.no :: r) (o :: st) :=
  ⟨by rw [List.length_cons, List.length_cons, h.len], fun i s e h1 h2 => by
    cases i with
    | zero => cases h1; cases h2
    | succ i => exact h.get i s e (by simpa using h1) h2⟩
end
end DL
namespace DL
open PySem PySem.Spec PyProof.Rows L2
/-! the top by one run: what is looked at, as truth values over a part of the heap -/
abbrev FrB : Type := PySem.W.Frag → Bool
abbrev AlY : Type := He.AlD × List (Option (List (Option (Str × Int))))
def obsY (ex : List FrB) (fn : List He5.DefA) (ts : List He.Tab) (K : PySem.W.Frag) : AlY :=
  (((ex.all fun f => f K) && fn.all fun d => d.ok K, fn.map fun d => He5.fnA K (d.at_ K)), ts.map fun t => He.dicW K (t.1 K))
def valY (fn : List He5.DefA) (ts : List He.Tab) (w : World) : AlY := ((true, fn.map He5.DefA.val), ts.map fun t => some (He.keysIn w.params t.2))
def SaysY (ex : List FrB) (fn : List He5.DefA) (ts : List He.Tab) (w : World) (K : PySem.W.Frag) : Prop := obsY ex fn ts K = valY fn ts w
/-! what the main names reach in n steps, each address once; the seen ones are the bits of a number -/
noncomputable def putY {β : Type} (l : List Addr) : Nat → List Addr → (Nat → List Addr → β) → β :=
  List.rec (motive := fun _ => Nat → List Addr → (Nat → List Addr → β) → β) (fun m acc k => k m acc)
    (fun a _ ih m acc k => HandSHeadRun.frNat a fun a => Bool.rec (motive := fun _ => β) (HandSHeadRun.frNat (Nat.lor m (Nat.shiftLeft 1 a)) fun m => ih m (a :: acc) k) (ih m acc k) (Nat.beq (Nat.land (Nat.shiftRight m a) 1) 1)) l
noncomputable def growY {β : Type} (g : Addr → Option Obj) (l : List Addr) : Nat → List Addr → (Nat → List Addr → β) → β :=
  List.rec (motive := fun _ => Nat → List Addr → (Nat → List Addr → β) → β) (fun m acc k => k m acc)
    (fun a _ ih m acc k => Option.rec (motive := fun _ => β) (ih m acc k) (fun o => putY (He.refsD o) m acc fun m acc => ih m acc k) (g a)) l
noncomputable def asY (g : Addr → Option Obj) (n : Nat) : List Addr → Nat → List Addr :=
  Nat.rec (motive := fun _ => List Addr → Nat → List Addr) (fun fr _ => fr) (fun _ ih fr m => fr ++ growY g fr m [] fun m new => ih new m) n
section
variable {ex : List FrB} {fn : List He5.DefA} {ts : List He.Tab} {w : World} {K : PySem.W.Frag}
theorem SaysY.fact (c : SaysY ex fn ts w K) (i : Nat) {f : FrB} (h : ex[i]? = some f := by rfl) : f K = true := by
  have c1 : ((ex.all fun f => f K) && fn.all fun d => d.ok K) = true := congrArg (fun z : AlY => z.1.1) c
  rw [Bool.and_eq_true] at c1
  exact List.all_eq_true.mp c1.1 f (List.mem_of_getElem? h)
theorem SaysY.def_ (c : SaysY ex fn ts w K) (i : Nat) {d : He5.DefA} (h : fn[i]? = some d := by rfl) : ∃ fd, FunD K d.name d.qual d.params d.body d.scope (d.dvs K) (d.kws K) (d.at_ K) fd := by
  have c1 : ((ex.all fun f => f K) && fn.all fun d => d.ok K) = true := congrArg (fun z : AlY => z.1.1) c
  rw [Bool.and_eq_true] at c1
  have e : fn.map (fun d => He5.fnA K (d.at_ K)) = fn.map He5.DefA.val := congrArg (fun z : AlY => z.1.2) c
  have e2 : (fn.map fun d => He5.fnA K (d.at_ K))[i]? = (fn.map He5.DefA.val)[i]? := by rw [e]
  rw [List.getElem?_map, List.getElem?_map, h] at e2
  exact He5.DefA.funD (Option.some.inj e2) (List.all_eq_true.mp c1.2 d (List.mem_of_getElem? h))
/-! what stands in the records -/
theorem raw_fn {x q : Str} {st : Stmt} {f : Addr} {fd : FuncData} {kws : List (Str × V)} (F : FunD K x q (defArgs st) (defBody st) (defScope st) [] kws f fd) :
    ∃ (oc : Value) (od : Option Addr) (kV dc pm : Value) (an : Option Addr) (cd ct : Value) (sl : Array (Option Value)), K.lookup f = some ⟨oc, od, .func (PySem.W.fnOf x q (defArgs st) (defBody st) (defScope st) .none kV dc pm an cd ct), sl⟩ ∧ PySem.W.codeIn K cd q = true ∧ PySem.W.keepIn K (.ref f) = true := by
  obtain ⟨oc, od, dV, kV, doc, pm, an, cdv, ct, osl, e, l, c, hd, _⟩ := F.ex
  rcases hd with ⟨_, e2⟩ | ⟨e2, _⟩
  · subst e2
    subst e
    exact ⟨oc, od, kV, doc, pm, an, cdv, ct, osl, l, c, F.kp⟩
  · exact absurd rfl e2
/-- the address, and the rest, of a record that wraps -/
def rcA (K : PySem.W.Frag) (p : Addr) (T : String) : Addr := match PySem.W.recIn K p T with
  | some (.ref a :: _) => a
  | _ => 0
def rcR (K : PySem.W.Frag) (p : Addr) (T : String) : List Value := match PySem.W.recIn K p T with
  | some (_ :: r) => r
  | _ => []
def tkOf (K : PySem.W.Frag) (x : Str) : Tok := match PySem.W.nsIn K mainGlobals x with
  | some (some (.int _ t)) => t
  | some (some (.str _ t)) => t
  | _ => default
/-! dicts of the text -/
end
end DL
namespace DL
open PySem PySem.Spec PyProof.Rows L2
section
variable {X : Cx} {K : PySem.W.Frag}
/-! a new list xs + ys -/
def dCatL (a b : DT) : DTA := fun g r f Q => a g r f fun x f1 => b g r f1 fun y f2 => match x, y with
  | .lst i, .lst j => i.length + j.length ≤ lim ∧ Q (i ++ j) f2
  | _, _ => False
theorem dl_cat {a b : Expr} {pos : Pos} {da db : DT} (ha : DE X a da) (hb : DE X b db) : DL' X (.BinOp a .Add b pos) (dCatL da db) :=
  .mk' (pe_op op_cat ha.pe hb.pe) fun g ro f st H Hs Q Q' A hq hd =>
    ha.sn g ro f st H Hs _ _ A (fun x f1 vx H1 Hs1 s1 k1 r1 q1 => hb.sn g ro f1 st H1 Hs1 _ _ (A.step s1 k1) (fun y f2 vy H2 Hs2 s2 k2 r2 q2 => by
      cases x <;> try exact q2.elim
      cases y <;> try exact q2.elim
      obtain ⟨a, vs, rfl, h1, h2⟩ := r1.mono s2.ext
      obtain ⟨b, ws, rfl, h3, h4⟩ := r2
      refine ⟨a, b, vs, ws, rfl, rfl, s2.sub _ _ h1, s2.sub _ _ h3, ?_, fun p hp => ?_⟩
      · rw [← h2.length, ← h4.length]; exact lim_le q2.1
      · have al : Stp none H2 Hs2 (upd H2 p (.lst (vs ++ ws))) Hs2 := Stp.lay s2.sub hp
        exact hq _ f2 p _ _ _ ((s1.trans s2).trans al.gen) (k2.stp al) ((s1.trans s2).none0 hp) (same_none s2.sub hp) upd_same (h2.append h4) q2.2) q1) hd
/-! `s or t` of texts, as a value -/
end
end DL
namespace PySem.SeqAt
open AutoSeq1 (wpAny_loadPart')
open MeetsSeq MeetsSeq2 MeetsSeq3 SeqRoads2
end PySem.SeqAt
namespace DL
open PySem PySem.Spec PyProof.Rows L2
/-! any plain value in a tuple or a list of pairs of texts -/
section
variable {X : Cx} {K : PySem.W.Frag} {pins : List (Addr × Obj)} {st : L2.St} {H Hs : Hp} {s : Shared}
/-- the value is the pair u -/
def IsU (s : Shared) (y : Value) (u : Us) : Prop := ∃ (p : Addr) (ta tb : Tok), y = .ref p ∧ s.heap.IsTuple p #[.str u.1 ta, .str u.2 tb]
theorem isTup_fun {h : Heap} {p : Addr} {a b : Array Value} (h1 : h.IsTuple p a) (h2 : h.IsTuple p b) : a = b := by
  obtain ⟨o, ho, _, n, hd⟩ := h1
  obtain ⟨o2, ho2, _, n2, hd2⟩ := h2
  rw [ho] at ho2
  cases ho2
  rw [hd] at hd2
  cases hd2
  rfl
theorem IsU.uniq {y : Value} {u w : Us} (h1 : IsU s y u) (h2 : IsU s y w) : u = w := by
  obtain ⟨p, ta, tb, rfl, t1⟩ := h1
  obtain ⟨p2, ta2, tb2, e, t2⟩ := h2
  cases e
  have e := isTup_fun t1 t2
  have e := congrArg Array.toList e
  simp only [List.cons.injEq, Value.str.injEq] at e
  exact Prod.ext e.1.1 e.2.1.1
end
end DL
namespace DL
open PySem PySem.Spec PyProof.Rows L2
/-! list(zip(a, b)) of two lists -/
section
variable {prog : Program} {w : World} {A : Around} {E : Value → Shared → Prop} {s : Shared} {R : Result → Shared → Prop} {z ti tz i1 i2 l1 l2 S : Addr} {xs ys : Array Value} {n : Nat}
def ZSt (z ti tz i1 i2 l1 l2 : Addr) (xs ys : Array Value) (h : Heap) (i : Nat) : Prop :=
  (∃ v b, ZpV h z ti tz v b ∧ Mrk v) ∧ IsPair h ti (.ref i1) (.ref i2) ∧ (∃ x y, IsPair h tz x y) ∧ h.IsListIter i1 l1 i ∧ h.IsListIter i2 l2 i ∧ h.IsList l1 xs ∧ h.IsList l2 ys
/-- the pairs that were given out -/
def ZAcc (S : Addr) (xs ys : Array Value) (h : Heap) (acc : Array Value) (i : Nat) : Prop :=
  ∃ Ts : List Addr, acc = (Ts.map Value.ref).toArray ∧ Ts.length = i ∧ Ts.Nodup ∧ ∀ (j : Nat) (T : Addr), Ts[j]? = some T → S < T ∧ ∃ x y : Value, xs[j]? = some x ∧ ys[j]? = some y ∧ IsPair h T x y
theorem isList_keep {h h' : Heap} {a : Addr} {its : Array Value} (hl : h.IsList a its) (k : ∀ o, h.get? a = some o → h'.get? a = some o) : h'.IsList a its := by
  obtain ⟨o, ho, r⟩ := hl
  exact ⟨o, k o ho, r⟩
theorem ZSt.keep {h h' : Heap} {i : Nat} (st : ZSt z ti tz i1 i2 l1 l2 xs ys h i) (k : ∀ b ∈ [z, ti, tz, i1, i2, l1, l2], ∀ o, h.get? b = some o → h'.get? b = some o) : ZSt z ti tz i1 i2 l1 l2 xs ys h' i := by
  obtain ⟨⟨v, b, hz, hm⟩, hti, ⟨x, y, htz⟩, h1, h2, hl1, hl2⟩ := st
  exact ⟨⟨v, b, k z (by simp) _ hz, hm⟩, k ti (by simp) _ hti, ⟨x, y, k tz (by simp) _ htz⟩, h1.at fun o q => k i1 (by simp) o q, h2.at fun o q => k i2 (by simp) o q, isList_keep hl1 fun o q => k l1 (by simp) o q, isList_keep hl2 fun o q => k l2 (by simp) o q⟩
theorem ZAcc.keep {h h' : Heap} {i : Nat} {acc : Array Value} (st : ZAcc S xs ys h acc i) (k : ∀ b, S < b → ∀ o, h.get? b = some o → h'.get? b = some o) : ZAcc S xs ys h' acc i := by
  obtain ⟨Ts, h1, h2, h3, h4⟩ := st
  refine ⟨Ts, h1, h2, h3, fun j T hj => ?_⟩
  obtain ⟨q1, x, y, q2, q3, q4⟩ := h4 j T hj
  exact ⟨q1, x, y, q2, q3, k T q1 _ q4⟩
theorem ZAcc.size {h : Heap} {i : Nat} {acc : Array Value} (st : ZAcc S xs ys h acc i) : acc.size = i := by
  obtain ⟨Ts, h1, h2, _⟩ := st
  rw [h1, List.size_toArray, List.length_map, h2]
theorem zip_no_len : typeLookup (.type "zip") "__len__" = pure none := am_miss_of_fast (by decide +kernel)
theorem zip_no_hint : typeLookup (.type "zip") "__length_hint__" = pure none := am_miss_of_fast (by decide +kernel)
end
end DL
namespace DL
open PySem PySem.Spec PyProof.Rows L2
section
variable {X : Cx} {K : PySem.W.Frag} {pins : List (Addr × Obj)} {st : L2.St} {H H' : Hp} {s : Shared} {h h' : Heap} {l : Addr} {Ts : List Addr} {ps : List (V × V)}
/-- the heap with the new pairs and their list -/
def zipH (H : Hp) (l : Addr) (Ts : List Addr) (ps : List (V × V)) : Hp := fun c => if c = l then some (.lst (Ts.map V.ref)) else match (Ts.zip ps).find? (fun q => decide (q.1 = c)) with
  | some q => some (.tup [q.2.1, q.2.2])
  | none => H c
theorem zipH_T {j : Nat} {T : Addr} {p : V × V} (hn : Ts.Nodup) (hl : l ∉ Ts) (h1 : Ts[j]? = some T) (h2 : ps[j]? = some p) : zipH H l Ts ps T = some (.tup [p.1, p.2]) := by
  have hT : T ∈ Ts := List.mem_of_getElem? h1
  unfold zipH
  rw [if_neg (show ¬ T = l from fun e => hl (by rw [← e]; exact hT))]
  have mem : (T, p) ∈ Ts.zip ps := List.mem_of_getElem? (i := j) (by rw [List.getElem?_zip_eq_some]; exact ⟨h1, h2⟩)
  cases e : (Ts.zip ps).find? (fun q => decide (q.1 = T)) with
  | none =>
    have := List.find?_eq_none.mp e _ mem
    exact absurd (decide_eq_true rfl) this
  | some q =>
    have m := List.mem_of_find?_eq_some e
    have z := List.find?_some e
    have z : q.1 = T := of_decide_eq_true z
    obtain ⟨i, hi, eq⟩ := List.getElem_of_mem m
    have hq : (Ts.zip ps)[i]? = some q := by rw [List.getElem?_eq_getElem hi, eq]
    rw [List.getElem?_zip_eq_some] at hq
    obtain ⟨a1, a2⟩ := hq
    rw [z] at a1
    obtain ⟨b1, c1⟩ := List.getElem?_eq_some_iff.mp a1
    obtain ⟨b2, c2⟩ := List.getElem?_eq_some_iff.mp h1
    have : i = j := by
      rcases Nat.lt_trichotomy i j with x | x | x
      · exact absurd (c1.trans c2.symm) (List.pairwise_iff_getElem.mp hn i j b1 b2 x)
      · exact x
      · exact absurd (c2.trans c1.symm) (List.pairwise_iff_getElem.mp hn j i b2 b1 x)
    subst this
    rw [h2] at a2
    cases a2
    rfl
theorem un_grown {P : Program} {w : World} {fs ex : List Addr} (k : ∀ b u, h.get? b = some u → h'.get? b = some u) (ext : ∀ b o, H b = some o → H' b = some o) (fr : ∀ b, b < h.objs.size → H' b = H b) : Un fs ex H H' h h' :=
  ⟨fun b u q _ _ _ => k b u q, fun b u q _ _ _ => ⟨u.slots, k b u q⟩, fun b u q n _ => by rw [fr b (Heap.lt_size q)]; exact n, fun b u q _ => ⟨u, k b u q⟩, fun b xs q => ext b _ q, fun b u xs q => ext b _ q, fun b ps q => ⟨#[], by rw [ext b _ q]; simp⟩⟩
theorem RpA.ofGet {H : Hp} : ∀ {ds : List D} {vs : List V}, ds.length = vs.length → (∀ (j : Nat) (d : D) (v : V), ds[j]? = some d → vs[j]? = some v → Rp K H d v) → RpA K H ds vs
  | [], [], _, _ => rfl
  | d :: ds, v :: vs, hl, h => ⟨v, vs, rfl, h 0 d v rfl rfl, RpA.ofGet (by simpa using hl) fun j d' v' h1 h2 => h (j + 1) d' v' (by simpa using h1) (by simpa using h2)⟩
theorem vals_refs : ∀ Ts : List Addr, Vals (Ts.map V.ref) (Ts.map Value.ref)
  | [] => .nil
  | T :: Ts => .cons rfl (vals_refs Ts)
end
end DL
namespace DL
open PySem PySem.Spec PyProof.Rows L2
/-! xs = list(zip(a, b)), xs owned -/
section
variable {X : Cx} {K : PySem.W.Frag} {H : Hp} {l : Addr} {Ts : List Addr} {ps : List (V × V)}
def zipTs (H : Hp) (Ts : List Addr) (ps : List (V × V)) : Hp := fun c => match (Ts.zip ps).find? (fun q => decide (q.1 = c)) with
  | some q => some (.tup [q.2.1, q.2.2])
  | none => H c
theorem zipTs_eq {c : Addr} (h : c ≠ l) : zipTs H Ts ps c = zipH H l Ts ps c := by
  unfold zipTs zipH
  refine Eq.trans ?_ (if_neg h).symm
  cases (Ts.zip ps).find? (fun q => decide (q.1 = c)) <;> rfl
theorem zipTs_out {c : Addr} (h : c ∉ Ts) : zipTs H Ts ps c = H c := by
  unfold zipTs
  cases e : (Ts.zip ps).find? (fun q => decide (q.1 = c)) with
  | none => rfl
  | some q =>
    have m := List.mem_of_find?_eq_some e
    have z := List.find?_some e
    have z : q.1 = c := of_decide_eq_true z
    exact absurd (z ▸ (List.of_mem_zip m).1) h
end
end DL
namespace DL
open PySem PySem.Spec PyProof.Rows L2
/-! lambda x: (len(x), x), as a key -/
section
variable {prog : Program} {w : World} {A : Around} {s : Shared} {mg mb : Str → Option Value}
theorem lamB_eval {E : Value → Shared → Prop} {env : Env} {Q : Value → Shared → Prop} {m : Str → Option Value} {x : Str} {a : Addr} {its : Array Value} {j : Nat} {p1 p2 p3 p4 p5 : Pos}
    (hk : env.scope.kind = .function) (hl : env.kindOf x = some .local) (hn : s.heap.Ns env.locals m) (hm : m x = some (.ref a)) (hd : (x == ("__debug__" : Str)) = false)
    (hgl : env.kindOf "len" = some .globalImplicit) (hG : s.heap.Ns env.globals mg) (hml : mg "len" = none) (hB : s.heap.Ns env.builtins mb) (hbl : mb "len" = some (.builtin "len"))
    (ht : IsTup s.heap a its) (hz : (its.size : Int) < 2 ^ 63)
    (q : ∀ t k, s.toks ≤ k → Q (.ref s.heap.objs.size) { s with heap := s.heap.push { cls := .type "tuple", data := .seq #[.int its.size t, .ref a] }, toks := k }) :
    wpAny (model prog w) A (eval (.Tuple [.Call (.Name "len" p1) [.Name x p2] [] p3, .Name x p4] j p5) env) Q E s := by
  refine wpAny_Tuple_spliced ?_
  show wpAny _ _ (spliced [(false, eval (.Call (.Name "len" p1) [.Name x p2] [] p3) env), (false, eval (.Name x p4) env)]) _ _ s
  refine Calls.spliced_cons (wpAny_Call_Name_kw (Calls.Name_function_global hk hgl (Calls.loadGlobal_builtin hG hml hB hbl ?_) (by decide)))
  refine PyProof.Rows.callWith_builtin1 ?_ (by rfl) (by rfl)
  show wpAny _ _ (spliced [(false, eval (.Name x p2) env)]) _ _ s
  refine Calls.spliced_cons (wpAny_Name (wpAny_loadName_local hk hl hn hm (Calls.spliced_nil ?_)) hd)
  refine len_tuple ht hz ?_
  refine Calls.spliced_cons (wpAny_Name (wpAny_loadName_local hk hl hn hm (Calls.spliced_nil ⟨show 2 ≤ sizeLine by decide, ?_⟩)) hd)
  exact q _ _ (by show s.toks ≤ s.toks + 1 + 1; omega)
/-- a key (n, v), new -/
def KeyAt (n : Int) (v : Value) (s1 : Shared) (k : Value) (s2 : Shared) : Prop := ∃ h' tk t tn, k = .ref t ∧ s2 = { s1 with heap := h', toks := tk } ∧ (∀ b o, s1.heap.get? b = some o → h'.get? b = some o) ∧ s1.toks ≤ tk ∧ s1.heap.objs.size ≤ t ∧ h'.get? t = some { cls := .type "tuple", data := .seq #[.int n tn, v] }
theorem lamB_call {f c' a : Addr} {q x : Str} {params : Arguments} {scope : Scope} {pm ctv : Value} {j : Nat} {p1 p2 p3 p4 p5 : Pos} {ds : List PyData} {bs : List Addr}
    (ho : s.heap.get? f = some (PySem.W.kla_obj "<lambda>" q params (.Tuple [.Call (.Name "len" p1) [.Name x p2] [] p3, .Name x p4] j p5) scope [] pm c' ctv)) (hcd : s.heap.CodeRec (.ref c') q)
    (hco : scope.isCoroutine = false) (hgen : scope.isGenerator = false) (hk : scope.kind = .function) (hcell : ∀ y ∈ scope.names, y.2 ≠ .cell) (hlx : scope.names.lookup x = some .local) (hll : scope.names.lookup ("len" : Str) = some .globalImplicit) (hd : (x == ("__debug__" : Str)) = false)
    (hbind : ∀ v, bindArgs (PySem.W.kla_fn "<lambda>" q params (.Tuple [.Call (.Name "len" p1) [.Name x p2] [] p3, .Name x p4] j p5) scope [] pm (.ref c') ctv) ⟨[v], []⟩ = pure [(x, v)])
    (hG : s.heap.Ns mainGlobals mg) (hml : mg "len" = none) (hB : s.heap.Ns builtinsNs mb) (hbl : mb "len" = some (.builtin "len")) (lim : s.heap.NoLimit) (hroom : A.depth < recursionLimit)
    (rd : Reads s.heap (.ref a) (.tuple ds) bs) (hz : (ds.length : Int) < 2 ^ 63) :
    wpAny (model prog w) A (call (.ref f) [.ref a]) (KeyAt ds.length (.ref a) s) (fun _ _ => False) s := by
  refine wpAny_call ?_
  refine PySem.W.kla_callFunE hroom ho rfl hco hgen rfl hcd ?_
  rw [hbind]
  refine wpAny_pure (wpAny_newFunctionEnv hcell (fun y hy => by rw [List.mem_singleton.mp hy]; exact hlx) (fun h₁ hns hsb => ⟨lim.fresh _ hsb, ?_⟩) hk)
  show codeAny _ _ (.expr _ (PySem.W.envX q scope s.heap.objs.size f (.ref c') [])) _ _
  have kp : ∀ b o, s.heap.get? b = some o → h₁.get? b = some o := fun b o e => hsb.extBut b o (Nat.ne_of_lt (Heap.lt_size e)) (Heap.get?_push_of_some _ e)
  have rd1 := PySem.W.reads_keeps kp rd
  have hxv : ([(x, Value.ref a)] : List (Str × Value)).reverse.lookup x = some (.ref a) := by
    show List.lookup x [(x, Value.ref a)] = _
    rw [List.lookup_cons, beq_self_eq_true]
  obtain ⟨o, its, n, e1, e2, e3, ra⟩ : ∃ o its n, h₁.get? a = some o ∧ o.cls = .type "tuple" ∧ o.data = .seq its n ∧ ReadsAll h₁ its.toList ds bs := by
    cases rd1 with
    | tuple h1 h2 h3 h4 => exact ⟨_, _, _, h1, h2, h3, h4⟩
  have hsz : its.size = ds.length := PySem.W.readsAll_len ra
  refine PySem.W.kla_codeExpr ?_
  refine lamB_eval (mg := mg) (mb := mb) (m := fun y => ([(x, Value.ref a)] : List (Str × Value)).reverse.lookup y) (its := its) hk hlx hns hxv hd hll ?_ hml ?_ hbl ⟨o, e1, e2, n, e3⟩ (by rw [hsz]; exact hz) fun t k htk => ?_
  · exact hG.keeps kp
  · exact hB.keeps kp
  · rw [← hsz]
    exact ⟨_, _, _, t, rfl, rfl, fun b u e => Heap.get?_push_of_some _ (kp b u e), Nat.le_trans (Nat.le_add_right _ _) htk, by rw [hsb.1]; exact Nat.le_of_lt (by rw [show (s.heap.push _).objs.size = s.heap.objs.size + 1 from Array.size_push ..]; exact Nat.lt_succ_self _), Heap.get?_push_size _ rfl⟩
theorem depth_mem : ∀ {ds : List PyData} {d : PyData}, d ∈ ds → d.depth ≤ PyData.depthAll ds
  | x :: xs, d, h => by
    show d.depth ≤ max x.depth (PyData.depthAll xs)
    rcases List.mem_cons.mp h with rfl | h
    · exact Nat.le_max_left _ _
    · exact Nat.le_trans (depth_mem h) (Nat.le_max_right _ _)
theorem min_lam_list {E Q : Value → Shared → Prop} {l f : Addr} {vs : Array Value} {d : Value} {ds : List PyData} {as : List Addr} {N : PyData → Int} (hh : A.handled = none) (hl : s.heap.IsList l vs) (hr : ReadsAll s.heap vs.toList ds as)
    (hal : PySem.W.AlikeAll (ds.map fun e => .tuple [.int (N e), e])) (hu : A.units + 1 + PyData.depthAll (ds.map fun e => .tuple [.int (N e), e]) < cLine)
    (turn : ∀ (i : Nat) (v : Value) (e : PyData), vs[i]? = some v → ds[i]? = some e → ∀ (h : Heap) (tk : Nat), (∀ b o, s.heap.get? b = some o → h.get? b = some o) →
      wpAny (model prog w) A.in1 (call (.ref f) [v]) (KeyAt (N e) v { s with heap := h, toks := tk }) (fun _ _ => False) { s with heap := h, toks := tk })
    (h0 : ds = [] → ∀ h' tk, (∀ b o, s.heap.get? b = some o → h'.get? b = some o) → Q d { s with heap := h', toks := tk })
    (h1 : ∀ (e : PyData) (es : List PyData) (i : Nat) (v : Value) (y : PyData) h' tk, ds = e :: es → vs[i]? = some v → ds[i]? = some y → (PyData.tuple [.int (N y), y]) = PySem.W.minD (.tuple [.int (N e), e]) (es.map fun e => .tuple [.int (N e), e]) →
      (∀ b o, s.heap.get? b = some o → h'.get? b = some o) → Q v { s with heap := h', toks := tk }) :
    wpAny (model prog w) A (call (.builtin "min") [.ref l] [(Str.ofString "key", .ref f), (Str.ofString "default", d)]) Q E s := by
  have hn : vs.size = ds.length := PySem.W.readsAll_len hr
  generalize hks : (ds.map fun e => PyData.tuple [.int (N e), e]) = ks at hal hu
  have kl : ks.length = ds.length := by rw [← hks, List.length_map]
  refine call_min_walkKD (PySem.W.iter_listW (A := A.in1) hh hl fun s₂ e W st hfp hw hk => ?_)
  have old : ∀ {b : Addr} {o : Obj}, s.heap.get? b = some o → b ∉ [s₂.heap.objs.size, s.heap.objs.size] := fun {b o} eb hb => by
    rcases List.mem_cons.mp hb with z | z
    · have h := Heap.lt_size (hk b o eb)
      rw [z] at h
      exact Nat.lt_irrefl _ h
    · have h := Heap.lt_size eb
      rw [List.mem_singleton.mp z] at h
      exact Nat.lt_irrefl _ h
  have lt2 : s.heap.objs.size < s₂.heap.objs.size := hfp _ (by simp)
  refine ⟨_, _, _, _, _, _, _, (fun s' => ∃ h' tk, s' = { s with heap := h', toks := tk } ∧ (∀ b o, s.heap.get? b = some o → h'.get? b = some o)),
    (fun i k s' => ∃ t tn v y, k = .ref t ∧ t ∉ [s₂.heap.objs.size, s.heap.objs.size] ∧ vs[i]? = some v ∧ ds[i]? = some y ∧ s'.heap.get? t = some { cls := .type "tuple", data := .seq #[.int (N y) tn, v] }),
    (fun i j => PySem.W.dataLt (ks.getD i .none) (ks.getD j .none)), rfl, W, st, hfp, ⟨?_, ?_, ?_, ?_⟩, ⟨s₂.heap, s₂.toks, by subst e; rfl, hk⟩, ?_, ?_⟩
  · rintro s1 s1' ⟨h', tk, rfl, g⟩ m
    obtain ⟨hp, gn, dr, tk', os⟩ := s1'
    obtain rfl : gn = s.gens := m.gens
    obtain rfl : dr = s.drawn := m.drawn
    obtain rfl : os = s.os := m.os
    exact ⟨hp, tk', rfl, fun b o eb => m.heap b o (old eb) (g b o eb)⟩
  · rintro i k s1 s1' ⟨t, tn, v, y, rfl, nt, hv, hy, ht⟩ m
    exact ⟨t, tn, v, y, rfl, nt, hv, hy, m.heap t _ nt ht⟩
  · rintro i v s1 o Q' E' hi hP ⟨h', tk, rfl, g⟩ hst hS hQ
    obtain ⟨y, hy⟩ : ∃ y, ds[i]? = some y := ⟨_, List.getElem?_eq_getElem (by omega)⟩
    refine wpAny_mono (turn i v y hP hy h' tk g) (fun k s2 post => ?_) fun _ _ z => z.elim
    obtain ⟨h2, tk2, t, tn, rfl, rfl, g2, htk, hsz, ht⟩ := post
    have hS2 : s₂.heap.objs.size < h'.objs.size := Heap.lt_size hS
    refine hQ _ _ ⟨h2, tk2, rfl, fun b o eb => g2 b o (g b o eb)⟩ (W.frame _ _ h2 tk2 hst htk fun b _ o eb => g2 b o eb) (g2 _ _ hS) ⟨t, tn, v, y, rfl, fun z => ?_, hP, hy, ht⟩ ?_
    · have hsz : h'.objs.size ≤ t := hsz
      simp only [List.mem_cons, List.not_mem_nil, or_false] at z
      rcases z with z | z
      · rw [z] at hsz; exact Nat.lt_irrefl _ (Nat.lt_of_lt_of_le hS2 hsz)
      · rw [z] at hsz; exact Nat.lt_irrefl _ (Nat.lt_of_lt_of_le (Nat.lt_trans lt2 hS2) hsz)
    · rintro j k' ⟨t', tn', v', y', rfl, nt', hv', hy', ht'⟩
      exact ⟨t', tn', v', y', rfl, nt', hv', hy', g2 _ _ ht'⟩
  · rintro i j ki kj s1 Q' E' ⟨h', tk, rfl, g⟩ ⟨t, tn, v, y, rfl, nt, hv, hy, ht⟩ ⟨t', tn', v', y', rfl, nt', hv', hy', ht'⟩ hq
    have rd : ∀ {i : Nat} {v : Value} {y : PyData} {t : Addr} {tn : Tok}, vs[i]? = some v → ds[i]? = some y → h'.get? t = some { cls := .type "tuple", data := .seq #[.int (N y) tn, v] } → ∃ bs, Reads h' (.ref t) (ks.getD i .none) bs ∧ ks.getD i .none ∈ ks := fun {i v y t tn} hv hy ht => by
      obtain ⟨bs, r, hi, _, _⟩ := PySem.W.readsAll_atA hr i v hv
      have e1 : ds.getD i .none = y := by rw [List.getD_eq_getElem?_getD, hy]; rfl
      have e2 : ks.getD i .none = .tuple [.int (N y), y] := by rw [List.getD_eq_getElem?_getD, ← hks, List.getElem?_map, hy]; rfl
      rw [e1] at r
      rw [e2]
      refine ⟨[] ++ (bs ++ []), .tuple ht rfl rfl (.cons (.int _ _) (.cons (PySem.W.reads_keeps g r) .nil)), ?_⟩
      rw [← hks]
      exact List.mem_map.mpr ⟨y, List.mem_of_getElem? hy, rfl⟩
    obtain ⟨b1, r1, m1⟩ := rd hv hy ht
    obtain ⟨b2, r2, m2⟩ := rd hv' hy' ht'
    refine PySem.W.rcLt_alike _ _ A.in1 _ _ _ _ _ r1 r2 (hal.1 _ m1 _ m2) (hal.2 _ m1) ?_ prog w E' Q' hq
    have d1 := depth_mem m1
    have := Nat.min_le_left (ks.getD i .none).depth (ks.getD j .none).depth
    show A.units + 1 + _ < _
    omega
  · rintro hz s' ⟨h', tk, rfl, g⟩
    exact h0 (List.eq_nil_of_length_eq_zero (by omega)) h' tk g
  · rintro hp v s' hP ⟨h', tk, rfl, g⟩
    cases ds with
    | nil => exact absurd hp (by rw [hn]; exact Nat.lt_irrefl 0)
    | cons y ys =>
      subst hks
      have e1 : vs.size - 1 = (ys.map fun e => PyData.tuple [.int (N e), e]).length := by rw [hn, List.length_map]; rfl
      have e2 := PySem.W.argBest_fold PySem.W.dataLt PyData.none (.tuple [.int (N y), y]) (ys.map fun e => PyData.tuple [.int (N e), e]) _ (Nat.le_refl _)
      rw [List.take_length] at e2
      rw [e1] at hP
      obtain ⟨e3, e4⟩ := e2
      have hi : argBest (fun i j => PySem.W.dataLt (((y :: ys).map fun e => PyData.tuple [.int (N e), e]).getD i .none) (((y :: ys).map fun e => PyData.tuple [.int (N e), e]).getD j .none)) (ys.map fun e => PyData.tuple [.int (N e), e]).length ≤ ys.length := by
        rw [List.length_map] at e3 ⊢
        exact e3
      obtain ⟨z, hz⟩ : ∃ z, (y :: ys)[argBest (fun i j => PySem.W.dataLt (((y :: ys).map fun e => PyData.tuple [.int (N e), e]).getD i .none) (((y :: ys).map fun e => PyData.tuple [.int (N e), e]).getD j .none)) (ys.map fun e => PyData.tuple [.int (N e), e]).length]? = some z := ⟨_, List.getElem?_eq_getElem (Nat.lt_succ_of_le hi)⟩
      refine h1 y ys _ v z h' tk rfl hP hz ?_ g
      have e5 : ((y :: ys).map fun e => PyData.tuple [.int (N e), e]).getD (argBest (fun i j => PySem.W.dataLt (((y :: ys).map fun e => PyData.tuple [.int (N e), e]).getD i .none) (((y :: ys).map fun e => PyData.tuple [.int (N e), e]).getD j .none)) (ys.map fun e => PyData.tuple [.int (N e), e]).length) .none = .tuple [.int (N z), z] := by
        rw [List.getD_eq_getElem?_getD, List.getElem?_map, hz]; rfl
      rw [← e5]
      exact e4
end
/-! a lambda is made -/
/-- the maker's table as before, or with the code object of the lambda at pos, that is new -/
def MkL (H : Hp) (P : Addr) (q : Str) (H1 : Hp) : Prop := H1 = H ∨ ∃ (c' : Addr) (ps : Array Value) (pos : Pos), H P = some (.tbl ps) ∧ TriplesOk ps.toList ∧ H c' = none ∧ P ≠ c' ∧
  H1 = upd (upd H P (.tbl (ps ++ #[rawInt pos.line, rawInt pos.col, .ref c']))) c' (LamX.CodeO c' q)
section
variable {X : Cx} {pins : List (Addr × Obj)} {σ : L2.St} {H : Hp} {s : Shared}
theorem lam_mk {c P : Addr} {q : Str} {params : Arguments} {body : Expr} {scope : Scope} {pos : Pos} {E Q : Value → Shared → Prop} (I : Inv X pins σ H s) (TB : LamX.TabB X.base X.mg c P) (hcode : X.env.code = .ref c) (hq : X.env.qual ++ "<lambda>" = q) (hT : LamX.TabS H P q)
    (hdef : defaultsOf params X.env = ([], [])) (hfree : ∀ y ∈ scope.names, y.2 ≠ .free)
    (h : ∀ (f c' : Addr) (pm ctv : Value) (H1 : Hp) (s' : Shared), Inv X pins σ H1 s' → MkL H P q H1 → s'.heap.get? f = some (PySem.W.kla_obj "<lambda>" q params body scope [] pm c' ctv) → s'.heap.CodeRec (.ref c') q → Q (.ref f) s') :
    wpAny (model X.prog X.w) X.A (eval (.Lambda params body scope pos) X.env) Q E s := by
  have eclo : ∀ (cells : List (Str × Addr)) (l : List (Str × NameKind)), (∀ y ∈ l, y.2 ≠ .free) → cloFrom cells l [] = [] := by
    intro cells l
    induction l with
    | nil => exact fun _ => rfl
    | cons y l ih =>
      intro hl
      obtain ⟨n, k⟩ := y
      have hk : (k == NameKind.free) = false := by
        have := hl (n, k) (by simp)
        cases k <;> first | rfl | exact absurd rfl this
      show (if (k == .free) = true then _ else cloFrom cells l []) = []
      rw [hk, if_neg Bool.false_ne_true]
      exact ih fun y hy => hl y (by simp [hy])
  have eC := eclo X.env.cells scope.names hfree
  have hfr : ∀ y ∈ scope.names, y.2 = .free → ∃ c, X.env.cells.lookup y.1 = some c := fun y hy e => absurd e (hfree y hy)
  have hclo := closure_ok hfr
  rw [eC] at hclo
  obtain ⟨ps, hP, ht, ha⟩ := hT
  refine PySem.W.kla_eval hdef ?_
  rw [hq]
  have bP : s.heap.BuiltinsAt X.mg P := TB.bm.keeps I.bk
  have hP' : s.heap.get? P = some { cls := .none, data := .fields ps } := I.hok P _ hP
  cases hc : codeAmong pos ps.toList with
  | none =>
    refine PySem.W.kla_makeFunction (mg := X.mg) (c := c) (P := P) (ps := ps) hclo I.ok.glob (I.mod.glob.keeps I.bk) hcode (TB.code.keeps I.bk) hP' ht hc TB.gP bP fun c' ctv h' tk hx hge hlt hrec htb => ?_
    have hrec' := hrec
    obtain ⟨c2, oc, vs, t, e2, hoc, hd, hv⟩ := hrec'
    cases e2
    have nC : H c' = none := I.hok.fresh hge
    have I1 := LamX.inv_table (t' := tk) (more := #[rawInt pos.line, rawInt pos.col, .ref c']) (h' := h'.push (PySem.W.kla_obj "<lambda>" q params body scope [] ((X.mg "__name__").getD .none) c' ctv)) I hP
      (fun b o hb e => Heap.get?_push_of_some _ (hx b o hb e)) (Heap.get?_push_of_some _ htb) hge ⟨oc, vs, t, Heap.get?_push_of_some _ hoc, hd, hv⟩
    exact h h'.objs.size c' ((X.mg "__name__").getD .none) ctv _ _ I1 (.inr ⟨c', ps, pos, hP, ht, nC, ne_of_none hP nC, rfl⟩) (Heap.get?_push_size _ rfl) ⟨c', oc, vs, t, rfl, Heap.get?_push_of_some _ hoc, hd, hv⟩
  | some cv =>
    obtain ⟨c', e, hco⟩ := ha pos cv hc
    subst e
    refine PySem.W.kla_makeFunctionHit (mg := X.mg) (c := c) (P := P) (ps := ps) hclo I.ok.glob (I.mod.glob.keeps I.bk) hcode (TB.code.keeps I.bk) hP' ht hc bP fun ctv h' tk hx hsz => ?_
    have I1 : Inv X pins σ H { s with heap := h'.push (PySem.W.kla_obj "<lambda>" q params body scope [] ((X.mg "__name__").getD .none) c' ctv), toks := tk } := I.kept fun b o e => Heap.get?_push_of_some _ (hx b o e)
    obtain ⟨⟨oc, vs, t, hoc, hdc, hvc⟩, _, _⟩ := I1.hok c' _ hco
    exact h h'.objs.size c' ((X.mg "__name__").getD .none) ctv H _ I1 (.inl rfl) (Heap.get?_push_size _ rfl) ⟨c', oc, vs, t, rfl, hoc, hdc, hvc⟩
end
/-! min(e, key=lambda x: (len(x), x), default=None) -/
def lenP : PyData → Int
  | .tuple xs => xs.length
  | _ => 0
def lkey (e : PyData) : PyData := .tuple [.int (lenP e), e]
/-- the lambda's names -/
structure LamP (scope : Scope) (x : Str) : Prop where
  co : scope.isCoroutine = false
  gen : scope.isGenerator = false
  kind : scope.kind = .function
  own : ∀ y ∈ scope.names, y.2 ≠ .cell ∧ y.2 ≠ .free
  x : scope.names.lookup x = some .local
  len : scope.names.lookup ("len" : Str) = some .globalImplicit
def rMinL (K : PySem.W.Frag) (v : V) (H : Hp) (Q : VK) : Prop := ∃ (a : Addr) (ys : List V) (ds : List PyData), v = .ref a ∧ SqL K H a ys ∧ DpAll K H ys ds ∧ (∀ e ∈ ds, ∃ es, e = .tuple es ∧ es.length ≤ 1000000) ∧ PySem.W.AlikeAll (ds.map lkey) ∧ PyData.depthAll (ds.map lkey) ≤ 40 ∧
  (ds = [] → Q .non H) ∧ ∀ (e : PyData) (es : List PyData) (i : Nat) (y : V) (z : PyData), ds = e :: es → ys[i]? = some y → ds[i]? = some z → lkey z = PySem.W.minD (lkey e) (es.map lkey) → Q y H
section
variable {X : Cx}
theorem pe_minLam {c P : Addr} {q x : Str} {k : Nat} {e : Expr} {te : TE} {params : Arguments} {scope : Scope} {j j2 : Nat} {p p1 p2 p3 p4 p5 p6 pos lpos kp1 kp2 : Pos} (hr : Room (k + 2) X.A) (hc : X.calm = true) (he : PE X e te)
    (TB : LamX.TabB X.base X.mg c P) (hcode : X.env.code = .ref c) (hq : X.env.qual ++ "<lambda>" = q) (hdef : defaultsOf params X.env = ([], [])) (L : LamP scope x) (hd : (x == ("__debug__" : Str)) = false) (hg : Gl X "min") (hm : X.mg "min" = none) (hml : X.mg "len" = none)
    (hbind : ∀ (pm cv ctv v : Value), bindArgs (PySem.W.kla_fn "<lambda>" q params (.Tuple [.Call (.Name "len" p1) [.Name x p2] [] p3, .Name x p4] j p5) scope [] pm cv ctv) ⟨[v], []⟩ = pure [(x, v)])
    (hst : backTo pos (starEach [e] X.env) = (false, eval e X.env) :: backTo pos (starEach [] X.env) := by rfl) (hpl : (backTo pos (starEach [e] X.env)).any (·.1) = false := by rfl)
    (hall : (backToKw pos (keywordEach [⟨some "key", .Lambda params (.Tuple [.Call (.Name "len" p1) [.Name x p2] [] p3, .Name x p4] j p5) scope lpos, kp1⟩, ⟨some "default", .Constant .none j2 p6, kp2⟩] X.env)).all (·.1.isSome) = true := by rfl)
    (hnone : (backToKw pos (keywordEach [⟨some "key", .Lambda params (.Tuple [.Call (.Name "len" p1) [.Name x p2] [] p3, .Name x p4] j p5) scope lpos, kp1⟩, ⟨some "default", .Constant .none j2 p6, kp2⟩] X.env)).any (·.1.isNone) = false := by rfl)
    (hks : (backToKw pos (keywordEach [⟨some "key", .Lambda params (.Tuple [.Call (.Name "len" p1) [.Name x p2] [] p3, .Name x p4] j p5) scope lpos, kp1⟩, ⟨some "default", .Constant .none j2 p6, kp2⟩] X.env)).filterMap (·.1) = [Str.ofString "key", Str.ofString "default"] := by rfl) :
    PE X (.Call (.Name "min" p) [e] [⟨some "key", .Lambda params (.Tuple [.Call (.Name "len" p1) [.Name x p2] [] p3, .Name x p4] j p5) scope lpos, kp1⟩, ⟨some "default", .Constant .none j2 p6, kp2⟩] pos)
      (fun σ H Q => te σ H fun v H1 => LamX.TabS H1 P q ∧ ∀ H2, MkL H1 P q H2 → rMinL X.K v H2 Q) := by
  refine ⟨fun pins s σ H Q I h => ?_⟩
  refine wpAny_Call_Name_kw (ld_blt (u := .builtin "min") I hg hm (by decide +kernel) ?_)
  refine PyProof.Rows.callWith_kw ?_ hst hpl hall hnone
  rw [hks]
  rw [hst]
  refine Calls.spliced_cons (thn (he.run pins s σ H _ I h) fun u s1 ⟨v, H1, I1, r1, hT, q1⟩ => Calls.spliced_nil ?_)
  show wpAny _ _ (evalAll [do let v ← eval (.Lambda params (.Tuple [.Call (.Name "len" p1) [.Name x p2] [] p3, .Name x p4] j p5) scope lpos) X.env; standAt pos; pure v, do let v ← eval (.Constant .none j2 p6) X.env; standAt pos; pure v]) _ _ s1
  refine wpAny_evalAll_cons (wpAny_bind (lam_mk I1 TB hcode hq hT hdef (fun y hy => (L.own y hy).2) fun f c' pm ctv H2 s2 I2 mk hf hrec => wpAny_bind (wpAny_standAt (wpAny_pure ?_))))
  refine wpAny_evalAll_cons (wpAny_bind (Constant_none (wpAny_bind (wpAny_standAt (wpAny_pure (wpAny_evalAll_nil ?_))))))
  obtain ⟨a, ys, ds, rfl, hs, hdp, hsh, hal, hde, h0, h1⟩ := q1 H2 mk
  rw [show u = Value.ref a from r1]
  show wpAny _ _ (call (.builtin "min") [.ref a] [(Str.ofString "key", .ref f), (Str.ofString "default", .none)]) _ _ s2
  obtain ⟨its, rv, hp, hz⟩ := I2.list hs
  obtain ⟨as, ra⟩ := Dp.readsAll I2 ds ys its hdp rv
  obtain ⟨mb, b1, b2⟩ := I2.mod.blt
  have hu := hr.units
  refine min_lam_list (N := lenP) (I2.ok.hd hc) hp.isList (by simpa using ra) hal (by show X.A.units + 1 + PyData.depthAll (ds.map lkey) < cLine; omega) (fun i v e hv hee h' tk g => ?_) (fun hd0 h' tk g => ?_) fun e es i v z h' tk hds hv hz' hkey g => ?_
  · obtain ⟨es, rfl, hel⟩ := hsh e (List.mem_of_getElem? hee)
    obtain ⟨bs, r, _, _, _⟩ := PySem.W.readsAll_atA (vs := its.toArray) (by simpa using ra) i v hv
    rw [List.getD_eq_getElem?_getD, hee] at r
    have r : Reads s2.heap v (.tuple es) bs := r
    obtain ⟨b, rfl⟩ : ∃ b, v = .ref b := by
      cases r with
      | tuple h1 h2 h3 h4 => exact ⟨_, rfl⟩
    obtain ⟨c2, oc, cvs, ct, e2, hoc, hd2, hv2⟩ := hrec
    exact lamB_call (s := { s2 with heap := h', toks := tk }) (g _ _ hf) ⟨c2, oc, cvs, ct, e2, g _ _ hoc, hd2, hv2⟩ L.co L.gen L.kind (fun y hy => (L.own y hy).1) L.x L.len hd (hbind _ _ _) ((I2.mod.glob.keeps I2.bk).keeps g) hml ((b1.keeps I2.bk).keeps g) ((b2 _ (by decide)).trans (by decide +kernel)) (I2.nolimit.keeps g) hr.depth (PySem.W.reads_keeps g r) (by omega)
  · exact ⟨.non, H2, I2.kept g, rfl, h0 hd0⟩
  · have hv' : its[i]? = some v := by simpa using hv
    obtain ⟨y, hy, ry⟩ := vals_getU rv hv'
    exact ⟨y, H2, I2.kept g, ry, h1 e es i y z hds hy hz' hkey⟩
end
end DL
namespace DL
open PySem PySem.Spec PyProof.Rows L2
/-! min(e, key=lambda x: (len(x), x), default=None) over plain data -/
/-- the tables of the law, that its specs name -/
class Tbs where
  t : List (Addr × Str)
theorem TbOk.neL {k : Dk} {H Hs : Hp} {x a : Addr} {l : List V} (t : TbOk k H Hs) (hx : x ∈ k.t.map (·.1)) (h : H a = some (.lst l)) : x ≠ a := fun e => by
  obtain ⟨p, hp, rfl⟩ := List.mem_map.mp hx
  obtain ⟨_, ps, h1, _⟩ := t.at_ p hp
  rw [e, h] at h1
  cases h1
theorem nodup_key : ∀ {l : List (Addr × Str)} {p : Addr × Str} {P : Addr} {q : Str}, (l.map (·.1)).Nodup → p ∈ l → (P, q) ∈ l → p.1 = P → p = (P, q)
  | [], _, _, _, _, hp, _, _ => nomatch hp
  | x :: l, p, P, q, nd, hp, hm, hb => by
    rw [List.map_cons, List.nodup_cons] at nd
    rcases List.mem_cons.mp hp with rfl | hp
    · rcases List.mem_cons.mp hm with h | hm
      · exact h.symm
      · exact absurd (List.mem_map.mpr ⟨_, hm, hb.symm⟩) nd.1
    · rcases List.mem_cons.mp hm with h | hm
      · exact absurd (List.mem_map.mpr ⟨p, hp, by rw [hb, ← h]⟩) nd.1
      · exact nodup_key nd.2 hp hm hb
theorem mkL_stp {k : Dk} {f : Nat} {H Hs H2 : Hp} {P : Addr} {q : Str} (s : Same Hs H) (d : DkOk (some k) H Hs f) (hm : (P, q) ∈ k.t) (m : MkL H P q H2) : ∃ Hs2, Stp (some k) H Hs H2 Hs2 ∧ DkOk (some k) H2 Hs2 f := by
  rcases m with rfl | ⟨c', ps, pos, hP, ht, nC, nPc, rfl⟩
  · exact ⟨Hs, Stp.refl s, d⟩
  · obtain ⟨⟨e1, e2, e3, n', xs, ys, h1, h2, h3, h4⟩, q1, q2, q3, tb⟩ := d
    have nsP : Hs P = none := (tb.at_ _ hm).1
    have at_ : ∀ b o, H b = some o → b ≠ P → upd (upd H P (.tbl (ps ++ #[rawInt pos.line, rawInt pos.col, .ref c']))) c' (LamX.CodeO c' q) b = some o := fun b o e hb => by rw [upd_ne (ne_of_none e nC), upd_ne hb]; exact e
    have atS : ∀ b o, H b = some o → upd Hs c' (LamX.CodeO c' q) b = Hs b := fun b o e => upd_ne (ne_of_none e nC)
    have nS : ∀ b o, Hs b = some o → b ≠ P := fun b o e z => by rw [z, nsP] at e; cases e
    have ka : ∀ b o, H b = some o → (∀ ts, o ≠ .tbl ts) → b ≠ P := fun b o e n z => by rw [z, hP] at e; exact n _ (Option.some.inj e).symm
    have eL : (ps ++ #[rawInt pos.line, rawInt pos.col, .ref c']).toList = ps.toList ++ [rawInt pos.line, rawInt pos.col, .ref c'] := by simp
    refine ⟨upd Hs c' (LamX.CodeO c' q), ⟨fun b o e => ?_, fun b o e => ?_, fun b o e n => ?_, fun b o e => ?_, fun b o e n => ?_⟩, ⟨e1, e2, e3, n', xs, ys, at_ _ _ h1 (ka _ _ h1 fun ts z => by cases z), at_ _ _ h2 (ka _ _ h2 fun ts z => by cases z), at_ _ _ h3 (ka _ _ h3 fun ts z => by cases z), h4⟩,
      (atS _ _ h1).trans q1, (atS _ _ h2).trans q2, (atS _ _ h3).trans q3, tb.nd, fun p hp => ?_⟩
    · by_cases hb : b = c'
      · subst hb; rw [upd_same] at e ⊢; exact e
      · rw [upd_ne hb] at e
        exact at_ b o (s b o e) (nS b o e)
    · rw [atS b o (s b o e)]; exact e
    · exact at_ b o e fun z => n (.inr (.inr (.inr (by rw [z]; exact List.mem_map.mpr ⟨_, hm, rfl⟩))))
    · by_cases hb : b = P
      · subst hb; exact ⟨_, by rw [upd_ne nPc, upd_same]⟩
      · exact ⟨o, at_ b o e hb⟩
    · rw [atS b o e]; exact n
    · obtain ⟨n1, ps', a1, a2, a3⟩ := tb.at_ p hp
      refine ⟨(atS _ _ a1).trans n1, ?_⟩
      by_cases hb : p.1 = P
      · have hpq : p = (P, q) := by exact nodup_key tb.nd hp hm hb
        subst hpq
        rw [hP] at a1
        cases a1
        refine ⟨_, by rw [upd_ne nPc, upd_same], by rw [eL]; exact PySem.TriplesOk_snoc _ _ _ _ ht, fun p' cv hcv => ?_⟩
        rw [eL] at hcv
        rcases LamX.among_app _ ht hcv with z | z
        · obtain ⟨c0, u1, u2⟩ := a3 p' cv z
          exact ⟨c0, u1, (atS _ _ (s _ _ u2)).trans u2⟩
        · exact ⟨c', z, upd_same⟩
      · refine ⟨ps', at_ _ _ a1 hb, a2, fun p' cv hcv => ?_⟩
        obtain ⟨c0, u1, u2⟩ := a3 p' cv hcv
        exact ⟨c0, u1, (atS _ _ (s _ _ u2)).trans u2⟩
def keysL (xs : List D) : List PyData := (pyA xs).map lkey
def minLOk (xs : List D) (Q : D → Prop) : Prop := PyData.canLayAll0 (pyA xs) = true ∧ (∀ e ∈ pyA xs, ∃ es, e = .tuple es ∧ es.length ≤ 1000000) ∧ PySem.W.AlikeAll (keysL xs) ∧ PyData.depthAll (keysL xs) ≤ 40 ∧
  (xs = [] → Q .none) ∧ ∀ x xs' y, xs = x :: xs' → y ∈ xs → lkey y.py = PySem.W.minD (lkey x.py) (keysL xs') → Q y
def oMinL (x : D) (Q : D → Prop) : Prop := match x with
  | .lst xs => minLOk xs Q
  | _ => False
def dMinL (P : Addr) (q : Str) (d : DT) : DT := fun g r f Q => ∃ k, g = some k ∧ (P, q) ∈ k.t ∧ d (some k) r f fun x f1 => oMinL x fun y => Q y f1
section
variable {X : Cx} {K : PySem.W.Frag}
theorem snd_minL {t : TE} {d : DT} {P : Addr} {q : Str} (h : Snd K t d) : Snd K (fun σ H Q => t σ H fun v H1 => LamX.TabS H1 P q ∧ ∀ H2, MkL H1 P q H2 → rMinL K v H2 Q) (dMinL P q d) := by
  intro g r f st H Hs Q Q' A hq hd
  obtain ⟨k, rfl, hm, hd⟩ := hd
  refine h (some k) r f st H Hs _ _ A (fun x f1 v H1 Hs1 s1 k1 rx hx => ?_) hd
  obtain ⟨_, _, _, _, tb⟩ := id k1
  obtain ⟨nP, ps, t1, t2, t3⟩ := tb.at_ _ hm
  refine ⟨⟨ps, t1, t2, fun pos cv hc => ?_⟩, fun H2 mk => ?_⟩
  · obtain ⟨c, e, z⟩ := t3 pos cv hc
    exact ⟨c, e, s1.sub _ _ z⟩
  · obtain ⟨Hs2, s2, k2⟩ := mkL_stp s1.sub k1 hm mk
    have st2 := s1.trans s2
    cases x with
    | lst xs =>
      obtain ⟨m1, m2, m3, m4, m5, m6⟩ := hx
      obtain ⟨a, us, rfl, ha, hr⟩ := rx
      have hr2 := hr.mono s2.ext
      have ha2 : Hs2 a = some (.lst us) := s2.ext _ _ ha
      refine ⟨a, us, pyA xs, rfl, SqL.of (s2.sub _ _ ha2), RpA.dp xs us (hr2.mono s2.sub) m1, m2, m3, m4, fun e => ?_, fun e es i y z hds hy hz hk => ?_⟩
      · have hx : xs = [] := by
          cases xs with
          | nil => rfl
          | cons x xs => cases e
        exact hq .none f1 .non H2 Hs2 st2 k2 rfl (m5 hx)
      · obtain ⟨d', hd1, hd2⟩ := pyA_get hz
        obtain ⟨v, hv1, hv2⟩ := hr2.get hd1
        rw [hy] at hv1
        cases hv1
        cases xs with
        | nil => cases hds
        | cons x xs' =>
          have hds' : x.py :: pyA xs' = e :: es := hds
          cases hds'
          exact hq d' f1 y H2 Hs2 st2 k2 hv2 (m6 x xs' d' rfl (List.mem_of_getElem? hd1) (by rw [hd2]; exact hk))
    | _ => exact hx.elim
/-- a def's code object and its table -/
structure LamK (K : PySem.W.Frag) (mg : Str → Option Value) (base : Heap) (x : Str) (P : Addr) : Prop where
  ex : ∃ (f c : Addr) (fd : FuncData) (oc : Value) (od : Option Addr) (sl : Array (Option Value)), mg x = some (.ref f) ∧ K.lookup f = some ⟨oc, od, .func fd, sl⟩ ∧ fd.code = .ref c ∧ LamX.TabB base mg c P
theorem de_minLam {c P : Addr} {q x : Str} {k : Nat} {e : Expr} {d : DT} {params : Arguments} {scope : Scope} {j j2 : Nat} {p p1 p2 p3 p4 p5 p6 pos lpos kp1 kp2 : Pos} (hr : Room (k + 2) X.A) (TB : LamX.TabB X.base X.mg c P) (hcode : X.env.code = .ref c) (hm : X.mg "min" = none) (hml : X.mg "len" = none) (he : DE X e d)
    (hc : X.calm = true := by rfl) (hq : X.env.qual ++ "<lambda>" = q := by rfl) (hdef : defaultsOf params X.env = ([], []) := by rfl) (L : LamP scope x := by exact ⟨rfl, rfl, rfl, by decide, rfl, rfl⟩) (hd : (x == ("__debug__" : Str)) = false := by decide) (hg : Gl X "min" := by rfl)
    (hbind : ∀ (pm cv ctv v : Value), bindArgs (PySem.W.kla_fn "<lambda>" q params (.Tuple [.Call (.Name "len" p1) [.Name x p2] [] p3, .Name x p4] j p5) scope [] pm cv ctv) ⟨[v], []⟩ = pure [(x, v)] := by intro _ _ _ _; rfl)
    (hst : backTo pos (starEach [e] X.env) = (false, eval e X.env) :: backTo pos (starEach [] X.env) := by rfl) (hpl : (backTo pos (starEach [e] X.env)).any (·.1) = false := by rfl)
    (hall : (backToKw pos (keywordEach [⟨some "key", .Lambda params (.Tuple [.Call (.Name "len" p1) [.Name x p2] [] p3, .Name x p4] j p5) scope lpos, kp1⟩, ⟨some "default", .Constant .none j2 p6, kp2⟩] X.env)).all (·.1.isSome) = true := by rfl)
    (hnone : (backToKw pos (keywordEach [⟨some "key", .Lambda params (.Tuple [.Call (.Name "len" p1) [.Name x p2] [] p3, .Name x p4] j p5) scope lpos, kp1⟩, ⟨some "default", .Constant .none j2 p6, kp2⟩] X.env)).any (·.1.isNone) = false := by rfl)
    (hks : (backToKw pos (keywordEach [⟨some "key", .Lambda params (.Tuple [.Call (.Name "len" p1) [.Name x p2] [] p3, .Name x p4] j p5) scope lpos, kp1⟩, ⟨some "default", .Constant .none j2 p6, kp2⟩] X.env)).filterMap (·.1) = [Str.ofString "key", Str.ofString "default"] := by rfl) :
    DE X (.Call (.Name "min" p) [e] [⟨some "key", .Lambda params (.Tuple [.Call (.Name "len" p1) [.Name x p2] [] p3, .Name x p4] j p5) scope lpos, kp1⟩, ⟨some "default", .Constant .none j2 p6, kp2⟩] pos) (dMinL P q d) :=
  .mk' (pe_minLam hr hc he.pe TB hcode hq hdef L hd hg hm hml hbind hst hpl hall hnone hks) (snd_minL he.sn)
end
section
variable {P : Program} {w : World} {K : PySem.W.Frag} {mg : Str → Option Value} {base : Heap}
/-- a def in which lambdas are made -/
theorem dfnLam {x qual : Str} {st : Stmt} {f Pt : Addr} {fd : FuncData} {N ps : List Str} {k : Nat} {S : DSp} {dl : DTS} (hmg : mg x = some (.ref f)) (lam : LamK K mg base x Pt) (F : Fun K x qual st f fd) (sc : FnScope N ps (defScope st)) (len : ∀ g ds n Q, S g ds n Q → ds.length = ps.length)
    (hb : ∀ (cdv : Value) (c : Addr) (A : Around) (outer : List Env) (s : Shared) (H : Hp) (E : XK), cdv = .ref c → LamX.TabB base mg c Pt → Room k (A.deeper (envOfC qual (defScope st) s.heap.objs.size f cdv)) → DSs (cxOf CX0 P w K mg base N qual (defScope st) f cdv A outer s H E).nox (defBody st) dl)
    (h : ∀ g ds n Q, S g ds n Q → dl g (startR N.length ds) n { nx := fun _ n => Q .none n, rt := Q }) : FnOk P w K mg base CX0 (k + 1) f fd ps (spOf K S) := by
  obtain ⟨f', c, fd', oc', od', sl', hm', lk', hcd', TB⟩ := lam.ex
  rw [hmg] at hm'
  cases hm'
  obtain ⟨oc, od, kV, doc, pm, an, cdv, ct, osl, rfl, lk, hcd⟩ := F.ex
  rw [lk] at lk'
  cases lk'
  have hcv : cdv = .ref c := hcd'
  refine fn_of lk hcd sc (fun vs H Q E h => ?_) fun A outer s H vs Q E hr hsp => ?_
  · obtain ⟨g, Hs, ds, n, Q', h1, h2, h3, h4, h5⟩ := h
    rw [← h3.length]
    exact len g ds n Q' h4
  · obtain ⟨g, Hs, ds, n, Q', h1, h2, h3, h4, h5⟩ := hsp
    have hb := hb cdv c A outer s H E hcv TB hr
    refine ⟨_, hb.ps.nox, ?_⟩
    refine hb.sn g H Hs _ n _ H _ { nx := fun _ n => Q' .none n, rt := Q' } ⟨Hs, start_in h1 h2 h3⟩ ⟨fun r f st H' q h => ?_, fun d f v H' Hs' p k hr h => h5 d f v H' Hs' p k hr h, fun _ _ _ _ _ h => h, fun _ _ _ _ _ h => h, fun _ _ _ _ _ _ _ _ h => h.elim⟩ (h g ds n Q' h4)
    obtain ⟨Hs', q⟩ := q
    exact h5 .none f .non H' Hs' q.stp q.dk rfl h
end
end DL
namespace DL
open PySem PySem.Spec PyProof.Rows L2
/-! dicts whose keys are tuples -/
abbrev TKey : Type := List Key
def D.tkey : D → Option TKey
  | .tup ds => ds.mapM D.key
  | _ => Option.none
instance decTKey (k : TKey) (ks : List TKey) : Decidable (k ∈ ks) := @List.instDecidableMemOfLawfulBEq TKey instBEqOfDecidableEq inferInstance k ks
def putTs (ks : List TKey) (k : TKey) : List TKey := if k ∈ ks then ks else ks ++ [k]
def putTx (ks : List TKey) (xs : List D) (k : TKey) (d : D) : List D := if k ∈ ks then (ks.zip xs).map fun p => if p.1 = k then d else p.2 else xs ++ [d]
def lookT (ks : List TKey) (xs : List D) (k : TKey) : Option D := ((ks.zip xs).find? fun p => decide (p.1 = k)).map (·.2)
section
variable {X : Cx} {K : PySem.W.Frag} {W : WX}
theorem keys_v {H : Hp} : ∀ {ds : List D} {vs : List V} {k : TKey}, RpA K H ds vs → ds.mapM D.key = some k → vs = k.map kV
  | [], _, k, h, e => by
    cases h
    have e : some [] = some k := e
    cases e
    rfl
  | d :: ds, _, k, ⟨v, r, h1, h2, h3⟩, e => by
    subst h1
    rw [List.mapM_cons] at e
    cases e1 : d.key with
    | none => rw [e1] at e; cases e
    | some x =>
      cases e2 : ds.mapM D.key with
      | none => rw [e1, e2] at e; cases e
      | some l =>
        rw [e1, e2] at e
        have e : some (x :: l) = some k := e
        cases e
        rw [List.map_cons, ← keys_v h3 e2, key_v h2 e1]
theorem tkey_v {H : Hp} {d : D} {v : V} {k : TKey} (h : Rp K H d v) (e : d.tkey = some k) : ∃ b, v = .ref b ∧ H b = some (.tup (k.map kV)) := by
  cases d with
  | tup ds =>
    obtain ⟨b, vs, rfl, h1, h2⟩ := h
    have e : ds.mapM D.key = some k := e
    have h1 : H b = some (.tup vs) := h1
    rw [keys_v h2 e] at h1
    exact ⟨b, rfl, h1⟩
  | _ => cases e
theorem any_zipT {k : TKey} : ∀ {ks : List TKey} {vs : List V}, ks.length = vs.length → ((ks.zip vs).any fun kv => decide (kv.1 = k)) = decide (k ∈ ks)
  | [], _, _ => by simp
  | _ :: _, [], h => by simp at h
  | a :: ks, v :: vs, h => by
    rw [List.zip_cons_cons, List.any_cons, any_zipT (by simpa using h)]
    by_cases e : a = k
    · simp [e]
    · simp [e, Ne.symm e]
theorem put_zipT {k : TKey} {v : V} : ∀ {ks : List TKey} {vs : List V}, ks.length = vs.length → (ks.zip vs).map (fun kv => if kv.1 = k then (kv.1, v) else kv) = ks.zip ((ks.zip vs).map fun kv => if kv.1 = k then v else kv.2)
  | [], _, _ => by simp
  | _ :: _, [], h => by simp at h
  | a :: ks, w :: vs, h => by
    simp only [List.zip_cons_cons, List.map_cons]
    rw [put_zipT (by simpa using h)]
    by_cases e : a = k <;> simp [e]
theorem putTx_rp {H : Hp} {k : TKey} {d : D} {v : V} (hd : Rp K H d v) : ∀ {ks : List TKey} {xs : List D} {vs : List V}, RpA K H xs vs → RpA K H ((ks.zip xs).map fun p => if p.1 = k then d else p.2) ((ks.zip vs).map fun p => if p.1 = k then v else p.2)
  | [], _, _, _ => by simp [RpA]
  | _ :: _, [], _, h => by cases h; simp [RpA]
  | a :: ks, x :: xs, _, ⟨w, r, h1, h2, h3⟩ => by
    subst h1
    simp only [List.zip_cons_cons, List.map_cons]
    refine ⟨_, _, rfl, ?_, putTx_rp hd h3⟩
    by_cases e : a = k
    · rw [if_pos e, if_pos e]; exact hd
    · rw [if_neg e, if_neg e]; exact h2
theorem put_rpT {H : Hp} {ks : List TKey} {xs : List D} {vs : List V} {k : TKey} {d : D} {v : V} (hl : ks.length = vs.length) (h : RpA K H xs vs) (hd : Rp K H d v) :
    ∃ vs', putK (ks.zip vs) k v = (putTs ks k).zip vs' ∧ (putTs ks k).length = vs'.length ∧ RpA K H (putTx ks xs k d) vs' := by
  unfold putK putTs putTx
  rw [any_zipT hl]
  by_cases e : k ∈ ks
  · rw [decide_eq_true e, if_pos rfl, if_pos e, if_pos e]
    refine ⟨_, put_zipT hl, ?_, putTx_rp hd h⟩
    rw [List.length_map, List.length_zip, hl, Nat.min_self]
  · rw [decide_eq_false e, if_neg Bool.false_ne_true, if_neg e, if_neg e]
    refine ⟨vs ++ [v], ?_, by simp [hl], h.append (RpA.one hd)⟩
    rw [List.zip_append hl]
    rfl
theorem look_rpT {H : Hp} {k : TKey} : ∀ {ks : List TKey} {xs : List D} {vs : List V} {d : D}, RpA K H xs vs → lookT ks xs k = some d → ∃ v, valV (ks.zip vs) k = some v ∧ Rp K H d v
  | [], xs, vs, d, h, e => by simp [lookT] at e
  | _ :: _, [], vs, d, h, e => by simp [lookT] at e
  | a :: ks, x :: xs, _, d, ⟨v, r, h1, h2, h3⟩, e => by
    subst h1
    by_cases q : a = k
    · have : lookT (a :: ks) (x :: xs) k = some x := by simp [lookT, q]
      rw [this] at e
      cases e
      exact ⟨v, by rw [List.zip_cons_cons]; exact valV_pos q, h2⟩
    · have : lookT (a :: ks) (x :: xs) k = lookT ks xs k := by simp [lookT, q]
      rw [this] at e
      obtain ⟨w, h4, h5⟩ := look_rpT h3 e
      exact ⟨w, by rw [List.zip_cons_cons, valV_neg q]; exact h4, h5⟩
theorem val_someT {k : TKey} {ks : List TKey} {vs : List V} (h : ks.length = vs.length) : (valV (ks.zip vs) k).isSome = decide (k ∈ ks) := by
  rw [← valV_any, any_zipT h]
/-! k in d, k not in d, d[k] -/
def oDInT (neg : Bool) : O2 := fun x y Q => match y with
  | .dtt ks _ => ∃ k, x.tkey = some k ∧ Q (.bool (xb neg (decide (k ∈ ks))))
  | _ => False
theorem sr_dinT (neg : Bool) : SndR K (rDIn neg) (oDInT neg) := SndR.pure fun H Hs x y vx vy Q Q' s rx ry hq hd => by
  cases y <;> try exact hd.elim
  obtain ⟨k, e, q⟩ := hd
  obtain ⟨a, vs, rfl, h1, h2, h3⟩ := ry
  obtain ⟨b, rfl, hb⟩ := tkey_v rx e
  refine ⟨a, _, rfl, DGet.t (s _ _ h1) (s _ _ hb), ?_⟩
  rw [val_someT h2]
  exact hq (.bool _) _ rfl q
theorem dp_dinT {k : Nat} {a b : Expr} {pos : Pos} {da db : DT} (hr : Room k X.A) (ha : DE X a da) (hb : DE X b db) (hm : behindInMarks .In b = false := by rfl) : DP X (.Compare a [.In] [b] pos) (dTest (dOp (oDInT false) da db)) := dp_cmp (op_din (room1 hr)) (sr_dinT false) ha hb hm
theorem dp_dnotInT {k : Nat} {a b : Expr} {pos : Pos} {da db : DT} (hr : Room k X.A) (ha : DE X a da) (hb : DE X b db) (hm : behindInMarks .NotIn b = false := by rfl) : DP X (.Compare a [.NotIn] [b] pos) (dTest (dOp (oDInT true) da db)) := dp_cmp (op_dnotIn (room1 hr)) (sr_dinT true) ha hb hm
def dDGetT (a b : DT) : DT := fun g r f Q => a g r f fun x f1 => b g r f1 fun y f2 => match x with
  | .dtt ks xs => ∃ k d, y.tkey = some k ∧ lookT ks xs k = some d ∧ Q d f2
  | _ => False
theorem de_dgetT {k : Nat} {a b : Expr} {pos : Pos} {da db : DT} (hr : Room k X.A) (ha : DE X a da) (hb : DE X b db) (hs : NoSl b := by intro _ _; rfl) : DE X (.Subscript a b pos) (dDGetT da db) :=
  .mk' (pe_dget (room1 hr) ha.pe hb.pe hs) fun g ro f st H Hs Q Q' A hq hd =>
    ha.sn g ro f st H Hs _ _ A (fun x f1 vx H1 Hs1 s1 k1 r1 q1 => hb.sn g ro f1 st H1 Hs1 _ _ (A.step s1 k1) (fun y f2 vy H2 Hs2 s2 k2 r2 q2 => by
      cases x <;> try exact q2.elim
      obtain ⟨key, d, e1, e2, q⟩ := q2
      obtain ⟨p, vs, rfl, h1, h2, h3⟩ := r1.mono s2.ext
      obtain ⟨v, h4, h5⟩ := look_rpT h3 e2
      obtain ⟨b, rfl, hb⟩ := tkey_v r2 e1
      exact ⟨p, v, rfl, h4 ▸ DGet.t (s2.sub _ _ h1) (s2.sub _ _ hb), hq d f2 v H2 Hs2 (s1.trans s2) k2 h5 q⟩) q1) hd
/-! d = {}, d[k] = e -/
def sSetT0 (i : Nat) : DTS := fun _ r f E => E.nx (r.set i (.ot [] [])) f
theorem ds_setT0 {i : Nat} {x : Str} {dpos pos pos' : Pos} (hN : X.N.Nodup) (hi : X.N[i]? = some x := by rfl) (hx : Loc X.env.scope x := by first | exact Or.inl rfl | exact Or.inr rfl)
    (hs : swapsWith (.Dict [] [] dpos) (some (.Name x pos')) pos.line X.env = pure false := by rfl) (hf : X.fn x = true ∨ X.env.scope.names.lookup x = some .local := by first | exact .inl rfl | exact .inr rfl | assumption) :
    DS X (.Assign [.Name x pos'] (.Dict [] [] dpos) pos) (sSetT0 i) := .mk' (ps_set hN hi hx pe_dnewT hs hf) fun g H0 Hs0 r f st H D E s e hd => by
  obtain ⟨Hs, s⟩ := s
  intro p hp
  have lay : Stp g H Hs (upd H p (.dT [])) Hs := Stp.lay s.stp.sub hp
  have s1 := s.afterHid lay (s.dk.mut (s.dk.out hp))
  refine e.nx _ f _ _ ⟨_, s1.setOwn i (u := .ot [] []) rfl (s.stp.none0 hp) (same_none s.stp.sub hp) (fun j sl _ h1 h2 h3 => ?_) ⟨[], upd_same, rfl, rfl⟩⟩ hd
  obtain ⟨a, e', _, _, q⟩ := s.ow j sl h1 h2
  rw [h3] at e'
  cases e'
  obtain ⟨o, ho, _⟩ := q.ld
  rw [hp] at ho
  cases ho
def sSetKeyT (m : Bool) (i : Nat) (dk dl : DT) : DTS := fun g r f E => ∃ ks xs, r[i]? = some (.ot ks xs) ∧ evM m dl g r f fun d f1 => dk g (hide r) f1 fun k f2 => ∃ key, k.tkey = some key ∧ ks.length ≤ lim ∧ E.nx (r.set i (.ot (putTs ks key) (putTx ks xs key d))) f2
theorem snd_setKeyT {m : Bool} {i : Nat} {tk t : TE} {dk d : DT} (hk : Snd K tk dk) (h : Snd K t d) : SndS K W (tAsg t (gSub (tVar i) tk rSetD)) (sSetKeyT m i dk d) := fun g H0 Hs0 r f st H D E s e hd => by
  obtain ⟨Hs, s⟩ := s
  obtain ⟨ks, xs, hx, hd⟩ := hd
  obtain ⟨a, ha, n1, n0, vs, hv, hl, hr⟩ := s.ow i _ hx rfl
  refine snd_evM h s (fun d f' v H' Hs' s' _ hr' q => ?_) hd
  refine ⟨.ref a, ha, ?_⟩
  refine hk g (hide r) f' st H' Hs' _ _ s'.atHid (fun k f2 w H2 Hs2 s2 k2 r2 q2 => ?_) q
  have s3 := s'.afterHid s2 k2
  obtain ⟨key, hkey, hlim, q2⟩ := q2
  obtain ⟨a', ha', n1', n0', vs', hv', hl', hr2⟩ := s3.ow i _ hx rfl
  rw [ha] at ha'
  cases ha'
  obtain ⟨b, rfl, hb⟩ := tkey_v r2 hkey
  obtain ⟨us, e1, e2, e3⟩ := put_rpT (k := key) hl' hr2 (hr'.mono s2.ext)
  refine ⟨a, _, rfl, DPut.t hv' (s2.sub _ _ hb) ?_, e.nx _ f2 st _ ⟨_, s3.mutOwn (u := .ot (putTs ks key) (putTx ks xs key d)) hx rfl ha rfl ⟨us, by rw [upd_same, e1], e2, e3⟩⟩ q2⟩
  rw [List.length_zip]
  exact Nat.lt_of_le_of_lt (Nat.min_le_left _ _) (lim_lt hlim)
theorem ds_setKeyT (m : Bool) {k' : Nat} {i : Nat} {x : Str} {e k : Expr} {px spos pos : Pos} {dk d : DT} (hr : Room k' X.A) (hk : DE X k dk) (h : DE X e d) (hN : X.N[i]? = some x := by rfl) (hv : Vis X.env.scope x := by first | exact Or.inl rfl | exact Or.inr (Or.inl rfl) | exact Or.inr (Or.inr rfl)) (hd : (x == ("__debug__" : Str)) = false := by decide)
    (hcd : (x == ("__classdict__" : Str)) = false := by decide)
    (ha : ∀ v, assign (.Subscript (.Name x px) k spos) X.env v = (do
      let ov ← holding [v] (eval (.Name x px) X.env)
      let iv ← holding [v, ov] (eval k X.env)
      standAt spos
      holding [v, ov, iv] (setItem ov iv v)
      release [v, ov, iv] []) := by intro _; rfl)
    (hs : swapsWithSole [.Subscript (.Name x px) k spos] e pos.line X.env = pure false := by rfl) (hw : swappedStores [.Subscript (.Name x px) k spos] e X.env = pure none := by rfl) (h1 : (assignEach [.Subscript (.Name x px) k spos] X.env).map (·.2) = [assign (.Subscript (.Name x px) k spos) X.env] := by rfl) :
    DS X (.Assign [.Subscript (.Name x px) k spos] e pos) (sSetKeyT m i dk d) :=
  .mk' (ps_asg h.pe (pg_sub (pe_var hN hv hd hcd) hk.pe (set_dict (hu_of hr)) ha) hs hw h1) (snd_setKeyT hk.sn h.sn)
end
/-! keys of two texts -/
def kPair (u : Str × Str) : TKey := [.inr u.1, .inr u.2]
theorem kPair_inj {u v : Str × Str} (h : kPair u = kPair v) : u = v := by
  unfold kPair at h
  simp only [List.cons.injEq, Sum.inr.injEq, and_true] at h
  exact Prod.ext h.1 h.2
theorem kPair_mem {u : Str × Str} {l : List (Str × Str)} : kPair u ∈ l.map kPair ↔ u ∈ l := by
  rw [List.mem_map]
  exact ⟨fun ⟨v, h1, h2⟩ => kPair_inj h2 ▸ h1, fun h => ⟨u, h, rfl⟩⟩
theorem lookT_pair {val : Str × Str → D} {u : Str × Str} : ∀ {l : List (Str × Str)}, u ∈ l → lookT (l.map kPair) (l.map val) (kPair u) = some (val u)
  | v :: l, h => by
    by_cases e : v = u
    · subst e; simp [lookT]
    · have hm : u ∈ l := by
        rcases List.mem_cons.mp h with h | h
        · exact absurd h.symm e
        · exact h
      have ih := lookT_pair (val := val) hm
      have ne : ¬ kPair v = kPair u := fun z => e (kPair_inj z)
      unfold lookT at ih ⊢
      rw [List.map_cons, List.map_cons, List.zip_cons_cons, List.find?_cons_of_neg (by simpa using ne)]
      exact ih
end DL
namespace DL
open PySem PySem.Spec PyProof.Rows L2
/-! tuple(zip(a, b)) of two tuples -/
section
variable {prog : Program} {w : World} {A : Around} {E : Value → Shared → Prop} {s : Shared} {R : Result → Shared → Prop} {z ti tz i1 i2 l1 l2 S : Addr} {xs ys : Array Value} {n : Nat}
theorem isTup_keep {h h' : Heap} {a : Addr} {its : Array Value} (hl : h.IsTuple a its) (k : ∀ o, h.get? a = some o → h'.get? a = some o) : h'.IsTuple a its := by
  obtain ⟨o, ho, r⟩ := hl
  exact ⟨o, k o ho, r⟩
def ZStT (z ti tz i1 i2 l1 l2 : Addr) (xs ys : Array Value) (h : Heap) (i : Nat) : Prop :=
  (∃ v b, ZpV h z ti tz v b ∧ Mrk v) ∧ IsPair h ti (.ref i1) (.ref i2) ∧ (∃ x y, IsPair h tz x y) ∧ h.IsTupleIter i1 l1 i ∧ h.IsTupleIter i2 l2 i ∧ h.IsTuple l1 xs ∧ h.IsTuple l2 ys
theorem ZStT.keep {h h' : Heap} {i : Nat} (st : ZStT z ti tz i1 i2 l1 l2 xs ys h i) (k : ∀ b ∈ [z, ti, tz, i1, i2, l1, l2], ∀ o, h.get? b = some o → h'.get? b = some o) : ZStT z ti tz i1 i2 l1 l2 xs ys h' i := by
  obtain ⟨⟨v, b, hz, hm⟩, hti, ⟨x, y, htz⟩, h1, h2, hl1, hl2⟩ := st
  exact ⟨⟨v, b, k z (by simp) _ hz, hm⟩, k ti (by simp) _ hti, ⟨x, y, k tz (by simp) _ htz⟩, h1.at fun o q => k i1 (by simp) o q, h2.at fun o q => k i2 (by simp) o q, isTup_keep hl1 fun o q => k l1 (by simp) o q, isTup_keep hl2 fun o q => k l2 (by simp) o q⟩
theorem zt_loop (hh : A.in1.handled = none) (D : ZipApart z ti tz i1 i2 l1 l2) (lt : ∀ b ∈ [z, ti, tz, i1, i2, l1, l2], b < S) (hn : min xs.size ys.size = n) (hn' : n ≤ sizeLine) (res : Value) :
    ∀ (k i : Nat) (s : Shared) (acc : Array Value) (c : Nat), n - i = k → i ≤ n → ZStT z ti tz i1 i2 l1 l2 xs ys s.heap i → ZAcc S xs ys s.heap acc i → s.heap.get? S = some { cls := .type "list", dict := none, data := .seq acc c, slots := #[] } →
    (∀ h' acc' c', (∀ b o, b ≠ S → b ∉ [z, ti, tz, i1, i2] → s.heap.get? b = some o → h'.get? b = some o) → h'.get? S = some { cls := .type "list", dict := none, data := .seq acc' c', slots := #[] } → ZAcc S xs ys h' acc' n → R (.ok (.ret res)) { s with heap := h' }) →
    codeAny (model prog w) A (.builtin "list.extend.loop" ⟨[.ref S, .ref z, res], []⟩) R s := by
  have ne : ∀ b ∈ [z, ti, tz, i1, i2, l1, l2], b ≠ S := fun b hb => Nat.ne_of_lt (lt b hb)
  intro k
  induction k with
  | zero =>
    intro i s acc c hk hi hst hacc hS hR
    have hin : i = n := by omega
    subst hin
    refine codeAny_builtin F.entry_extend_loop ?_
    rw [Around.under_plainId F.plain_extend_loop _]
    show wpAny _ A.in1 (pyNext (.ref z) >>= _) _ _ s
    obtain ⟨⟨v, b, hz, hm⟩, hti, ⟨x, y, htz⟩, h1, h2, hl1, hl2⟩ := hst
    refine wpAny_bind (pyNext_zipV_end hh D hz hm hti htz h1 h2 hl1 hl2 ?_ fun h' gone => ?_)
    · rcases Nat.le_total xs.size ys.size with q | q
      · exact .inl (by rw [Array.getElem?_eq_none_iff]; omega)
      · exact .inr (by rw [Array.getElem?_eq_none_iff]; omega)
    · have kp : ∀ b o, b ∉ [z, ti, tz, i1, i2] → s.heap.get? b = some o → h'.get? b = some o := fun b o hb q => gone b o (fun e => hb (by simp [e])) (fun e => hb (by simp [e])) (fun e => hb (by simp [e])) (fun e => hb (by simp [e])) q
      have big : ∀ b, S ≤ b → b ∉ [z, ti, tz, i1, i2] := fun b hb hm => Nat.lt_irrefl _ (Nat.lt_of_lt_of_le (lt b (List.mem_append_left [l1, l2] hm)) hb)
      exact wpAny_pure (hR h' acc c (fun b o _ hb q => kp b o hb q) (kp S _ (big S (Nat.le_refl _)) hS) (hacc.keep fun b hb o q => kp b o (big b (Nat.le_of_lt hb)) q))
  | succ k ih =>
    intro i s acc c hk hi hst hacc hS hR
    have hlt : i < n := by omega
    refine codeAny_builtin F.entry_extend_loop ?_
    rw [Around.under_plainId F.plain_extend_loop _]
    show wpAny _ A.in1 (pyNext (.ref z) >>= _) _ _ s
    obtain ⟨⟨v, b, hz, hm⟩, hti, ⟨x0, y0, htz⟩, h1, h2, hl1, hl2⟩ := hst
    have hx : xs[i]? = some xs[i] := Array.getElem?_eq_getElem (by omega)
    have hy : ys[i]? = some ys[i] := Array.getElem?_eq_getElem (by omega)
    refine wpAny_bind (pyNext_zipV_item D hz hm hti htz h1 h2 hl1 hl2 hx hy fun h' aft => ?_)
    obtain ⟨⟨v', b', z', m'⟩, ⟨p, q, t'⟩, k1, k2, hT, hsz, hk'⟩ := aft
    have kp : ∀ b o, b ∉ [z, ti, tz, i1, i2] → s.heap.get? b = some o → h'.get? b = some o := fun b o hb q => hk' b o (fun e => hb (by simp [e])) (fun e => hb (by simp [e])) (fun e => hb (by simp [e])) (fun e => hb (by simp [e])) q
    have big : ∀ b, S ≤ b → b ∉ [z, ti, tz, i1, i2] := fun b hb hm => Nat.lt_irrefl _ (Nat.lt_of_lt_of_le (lt b (List.mem_append_left [l1, l2] hm)) hb)
    have hS' := kp S _ (big S (Nat.le_refl _)) hS
    have hSl : S < s.heap.objs.size := Heap.lt_size hS
    show wpAny _ A.in1 (updateSeq S (·.push (.ref s.heap.objs.size)) >>= _) _ _ _
    refine wpAny_bind ?_
    have oth : ∀ b o, b ≠ S → h'.get? b = some o → (h'.update S (Obj.mapSeq (·.push (Value.ref s.heap.objs.size)))).get? b = some o := fun b o hb q => (Heap.get?_update_other _ _ (Ne.symm hb)).trans q
    have st' : ZStT z ti tz i1 i2 l1 l2 xs ys h' (i + 1) := ⟨⟨v', b', z', m'⟩, hk' _ _ D.TIz D.TITO D.TIi1 D.TIi2 hti, ⟨p, q, t'⟩, k1, k2, isTup_keep hl1 fun o q => hk' _ _ D.l1z D.l1TO D.l1i1 D.l1i2 q, isTup_keep hl2 fun o q => hk' _ _ D.l2z D.l2TO D.l2i1 D.l2i2 q⟩
    have ac' : ZAcc S xs ys h' (acc.push (.ref s.heap.objs.size)) (i + 1) := by
      obtain ⟨Ts, q1, q2, q3, q4⟩ := hacc
      have old : ∀ T ∈ Ts, T < s.heap.objs.size := fun T hT => by
        obtain ⟨j, hj, rfl⟩ := List.getElem_of_mem hT
        obtain ⟨_, _, _, _, _, r⟩ := q4 j _ (List.getElem?_eq_getElem hj)
        exact Heap.lt_size r
      refine ⟨Ts ++ [s.heap.objs.size], by rw [q1]; simp, by rw [List.length_append, q2]; rfl, ?_, fun j T hj => ?_⟩
      · rw [List.nodup_append]
        exact ⟨q3, by simp, fun a h1 b h2 e => Nat.lt_irrefl _ (by have := old a h1; rw [e, List.mem_singleton.mp h2] at this; exact this)⟩
      · by_cases hji : j < Ts.length
        · rw [List.getElem?_append_left hji] at hj
          obtain ⟨r1, x, y, r2, r3, r4⟩ := q4 j T hj
          exact ⟨r1, x, y, r2, r3, kp T _ (big T (Nat.le_of_lt r1)) r4⟩
        · have hj2 := (List.getElem?_eq_some_iff.mp hj).1
          rw [List.length_append, List.length_singleton] at hj2
          obtain rfl : j = i := by omega
          rw [List.getElem?_append_right (by omega), show j - Ts.length = 0 by omega] at hj
          cases hj
          exact ⟨hSl, _, _, hx, hy, hT⟩
    refine wpAny_updateSeq hS' rfl (wpAny_pure ⟨plainId_quiet F.plain_extend_loop _, ih (i + 1) _ (acc.push (.ref s.heap.objs.size)) _ (by omega) hlt (st'.keep fun b hb o q => oth b o (ne b hb) q) (ac'.keep fun b hb o q => oth b o (Nat.ne_of_gt hb) q) (Heap.get?_update_self _ hS' rfl) fun h'' acc' c' kp2 hS2 hacc2 => ?_⟩)
      (by rw [hacc.size]; omega) (by show (acc.push _).size ≤ sizeLine + 1; rw [Array.size_push, hacc.size]; omega)
    exact hR h'' acc' c' (fun b o hb hb2 q => kp2 b o hb hb2 (oth b o hb (kp b o hb2 q))) hS2 hacc2
/-- list.extend by a zip -/
theorem zt_extend (hh : A.in1.handled = none) (D : ZipApart z ti tz i1 i2 l1 l2) (lt : ∀ b ∈ [z, ti, tz, i1, i2, l1, l2], b < S) (hn : min xs.size ys.size = n) (hn' : n ≤ sizeLine) (res : Value) (c₀ : Nat) (hst : ZStT z ti tz i1 i2 l1 l2 xs ys s.heap 0)
    (hS : s.heap.get? S = some { cls := .type "list", data := .seq #[] c₀ })
    (hR : ∀ h' acc' c', (∀ b o, b ≠ S → b ∉ [z, ti, tz, i1, i2] → s.heap.get? b = some o → h'.get? b = some o) → h'.get? S = some { cls := .type "list", dict := none, data := .seq acc' c', slots := #[] } → ZAcc S xs ys h' acc' n → R (.ok (.ret res)) { s with heap := h' }) :
    wpAny (model prog w) A.in1 (Builtin.List.listExtendWith (.ref S) (.ref z) res)
      (fun fin s' => match fin with | .done f => R (.ok f) s' | .again c' => c'.quiet = true ∧ codeAny (model prog w) A c' R s') (fun e s' => R (.error e) s') s := by
  have hSI : S ≠ z := Nat.ne_of_gt (lt z (by simp))
  have hT : s.TypeIs (.ref z) "zip" := by
    obtain ⟨v, b, hz, _⟩ := hst.1
    exact ⟨_, hz, rfl⟩
  unfold Builtin.List.listExtendWith
  refine wpAny_bind (wpAny_typeOf hT ?_)
  have h1 : Builtin.List.listSameRef (.ref S) (.ref z) = false := by simp [Builtin.List.listSameRef, hSI]
  have h2 : (Value.type "zip" == Value.type "list") = false := by decide
  have h3 : (Value.type "zip" == Value.type "tuple") = false := by decide
  simp only [h1, h2, h3, Bool.or_false, Bool.false_eq_true, if_false]
  refine wpAny_bind (wpAny_pyIter_slot hT F.slot_zip_iter (wpAny_call_entry F.slot_zip_iter hT F.entry_zip_iter ?_ (F.args_zip_iter_1 _)))
  show wpAny _ _ (ret (.ref z)) _ _ s
  refine wpAny_pure ⟨_, rfl, "zip", _, hT, F.slot_zip_next.lookup, ?_⟩
  refine wpAny_bind (wpAny_holding ?_)
  unfold Builtin.List.listLengthHint
  refine wpAny_bind (wpAny_specialOf hT zip_no_len ?_)
  show wpAny _ A.in1 (specialOf (Value.ref z) (Str.ofString "__length_hint__") >>= _) _ _ _
  refine wpAny_bind (wpAny_specialOf hT zip_no_hint ?_)
  refine wpAny_pure ?_
  show wpAny _ A.in1 (rule "list.extend.makes-room" >>= fun _ => Builtin.List.listTouch (.ref S) >>= fun _ =>
    again (.builtin "list.extend.loop" ⟨[.ref S, .ref z, res], []⟩)) _ _ _
  refine wpAny_bind (wpAny_rule ?_)
  refine wpAny_bind ?_
  show wpAny _ A.in1 (updateSeq S (·.push .none) >>= fun _ => updateSeq S (·.pop)) _ _ _
  refine wpAny_bind (wpAny_updateSeq hS rfl ?_)
  have hS₂ := Heap.get?_update_self (Obj.mapSeq (·.push Value.none)) hS rfl
  refine wpAny_updateSeq (hz := by seq_fits) hS₂ rfl ?_
  have hS₃ := Heap.get?_update_self (Obj.mapSeq (·.pop)) hS₂ rfl
  have oth : ∀ b o, b ≠ S → s.heap.get? b = some o → ((s.heap.update S (Obj.mapSeq (·.push Value.none))).update S (Obj.mapSeq (·.pop))).get? b = some o :=
    fun b o hb e => (Heap.get?_update_other _ _ (Ne.symm hb)).trans ((Heap.get?_update_other _ _ (Ne.symm hb)).trans e)
  refine wpAny_pure ⟨plainId_quiet F.plain_extend_loop _, zt_loop hh D lt hn hn' res n 0 _ _ _ rfl (Nat.zero_le _) (hst.keep fun b hb o q => oth b o (Nat.ne_of_lt (lt b hb)) q) ⟨[], rfl, rfl, List.nodup_nil, fun j T hj => by simp at hj⟩ hS₃ fun h' acc' c' kp hS' hacc => ?_⟩
  exact hR h' acc' c' (fun b o hb hb2 q => kp b o hb hb2 (oth b o hb q)) hS' hacc
theorem collect_zipT {Q : List Value → Shared → Prop} (hh : A.handled = none) (D : ZipApart z ti tz i1 i2 l1 l2) (lt : ∀ b ∈ [z, ti, tz, i1, i2, l1, l2], b < s.heap.objs.size) (hn : min xs.size ys.size = n) (hn' : n ≤ sizeLine) (hst : ZStT z ti tz i1 i2 l1 l2 xs ys s.heap 0)
    (hQ : ∀ h' acc, (∀ b o, b ∉ [z, ti, tz, i1, i2] → s.heap.get? b = some o → h'.get? b = some o) → ZAcc s.heap.objs.size xs ys h' acc n → s.heap.objs.size < h'.objs.size → Q acc.toList { s with heap := h' }) : wpAny (model prog w) A (collect (.ref z)) Q E s := by
  unfold collect
  refine wpAny_bind (wpAny_runValue (codeAny_builtin F.entry_proto_collect ?_))
  rw [Around.under_plainId F.plain_proto_collect _]
  show wpAny _ A.in1 (newList [] >>= fun l => again (.builtin "list.__iadd__" ⟨[l, .ref z], []⟩)) _ _ s
  refine wpAny_bind (wpAny_newObj_type ?_)
  refine wpAny_pure ⟨plainId_quiet F.plain_list_iadd _, codeAny_builtin F.entry_list_iadd ?_⟩
  rw [Around.under_plainId F.plain_list_iadd _]
  show wpAny _ A.in1 (Builtin.List.listExtendWith (.ref s.heap.objs.size) (.ref z) (.ref s.heap.objs.size)) _ _ _
  have hS₁ : (s.heap.push { cls := .type "list", data := .seq ([] : List Value).toArray }).get? s.heap.objs.size = some { cls := .type "list", data := .seq ([] : List Value).toArray } := Heap.get?_push_size _ rfl
  refine zt_extend (R := fun r s' => match r with
      | .ok (.ret v) => wpAny (model prog w) A (match v with
          | .ref a => do
            match (← load a).data with
              | .seq xs _ => pure xs.toList
              | _ => unsupported "internal:collect"
          | _ => unsupported "internal:collect") Q E s'
      | .ok _ => False
      | .error e => E e s') (s := { s with heap := s.heap.push { cls := .type "list", data := .seq ([] : List Value).toArray } }) hh D lt hn hn' _ 0 (hst.keep fun b _ o e => Heap.get?_push_of_some _ e) hS₁ fun h' acc' c' kp hS' hacc => ?_
  show wpAny _ A (load s.heap.objs.size >>= _) _ _ _
  refine wpAny_bind (wpAny_load hS' ?_)
  exact wpAny_pure (hQ h' acc' (fun b o hb q => kp b o (Nat.ne_of_lt (Heap.lt_size q)) hb (Heap.get?_push_of_some _ q)) hacc (Heap.lt_size hS'))
theorem meets_tuple_new_zip (z ti tz i1 i2 l1 l2 : Addr) (xs ys : Array Value) (n : Nat) :
    Meets (Builtin.«tuple.__new__» ⟨[.type "tuple", .ref z], []⟩)
      (fun A R s => A.handled = none ∧ ZipApart z ti tz i1 i2 l1 l2 ∧ (∀ b ∈ [z, ti, tz, i1, i2, l1, l2], b < s.heap.objs.size) ∧ min xs.size ys.size = n ∧ n ≤ sizeLine ∧ ZStT z ti tz i1 i2 l1 l2 xs ys s.heap 0 ∧
        ∀ (h' : Heap) (acc : Array Value), (∀ b o, b ∉ [z, ti, tz, i1, i2] → s.heap.get? b = some o → h'.get? b = some o) → ZAcc s.heap.objs.size xs ys h' acc n → s.heap.objs.size < h'.objs.size →
        R (.ok (.ret (.ref h'.objs.size))) { s with heap := h'.push { cls := .type "tuple", data := .seq acc } }) :=
  .of_wp fun prog w A R s h => by
    obtain ⟨hh, D, lt, hn, hn', hst, h⟩ := h
    have hsub := sub_tuple_self
    have hinit := init_tuple_lookup
    have hmh := madeHere_tuple
    have hT : s.TypeIs (.ref z) "zip" := by
      obtain ⟨v, b, hz, _⟩ := hst.1
      exact ⟨_, hz, rfl⟩
    have hh1 : A.in1.handled = none := hh
    wp_walk using wpAny_typeOf hT, collect_zipT hh1 D lt hn hn' hst
    intro h' acc hk hacc hlt
    show wpAny _ _ (Builtin.Tuple.tupleExact acc.toList.toArray >>= fun v => ret v) _ _ _
    unfold Builtin.Tuple.tupleExact
    refine wpAny_bind (wpAny_newObj_type ?_ (show acc.toList.toArray.size ≤ sizeLine by simp only [Array.toArray_toList]; rw [hacc.size]; exact hn'))
    refine wpAny_pure ⟨_, rfl, ?_⟩
    have e : acc.toList.toArray = acc := by simp
    rw [e]
    exact h h' acc hk hacc hlt
theorem call_tuple_zip {Q : Value → Shared → Prop} (hh : A.handled = none) (D : ZipApart z ti tz i1 i2 l1 l2) (lt : ∀ b ∈ [z, ti, tz, i1, i2, l1, l2], b < s.heap.objs.size) (hn : min xs.size ys.size = n) (hn' : n ≤ sizeLine) (hst : ZStT z ti tz i1 i2 l1 l2 xs ys s.heap 0)
    (hQ : ∀ h' acc, (∀ b o, b ∉ [z, ti, tz, i1, i2] → s.heap.get? b = some o → h'.get? b = some o) → ZAcc s.heap.objs.size xs ys h' acc n → s.heap.objs.size < h'.objs.size → Q (.ref h'.objs.size) { s with heap := h'.push { cls := .type "tuple", data := .seq acc } }) :
    wpAny (model prog w) A (call (.type "tuple") [.ref z]) Q E s :=
  callType_new F.called_tuple (by decide) (F.typeCall_tuple_1 _) (F.newCall_tuple_1 _) (fun obj => F.args_object_init_2 obj _) F.entry_tuple_new
    (meets_tuple_new_zip z ti tz i1 i2 l1 l2 xs ys n) ⟨hh, D, lt, hn, hn', hst, fun h' acc hk hacc hlt => ⟨⟨_, Heap.get?_push_size _ rfl, rfl⟩, hQ h' acc hk hacc hlt⟩⟩
end
end DL
namespace DL
open PySem PySem.Spec PyProof.Rows L2
section
variable {X : Cx} {K : PySem.W.Frag} {pins : List (Addr × Obj)} {st : L2.St} {H H' : Hp} {s : Shared} {h h' : Heap} {l : Addr} {Ts : List Addr} {ps : List (V × V)}
/-- the heap with the new pairs and their tuple -/
def zipTp (H : Hp) (l : Addr) (Ts : List Addr) (ps : List (V × V)) : Hp := upd (zipTs H Ts ps) l (.tup (Ts.map V.ref))
theorem zipTp_l : zipTp H l Ts ps l = some (.tup (Ts.map V.ref)) := upd_same
theorem zipTp_out {c : Addr} (h1 : c ≠ l) (h2 : c ∉ Ts) : zipTp H l Ts ps c = H c := by
  unfold zipTp
  rw [upd_ne h1, zipTs_out h2]
theorem zipTp_T {j : Nat} {T : Addr} {p : V × V} (hn : Ts.Nodup) (hl : l ∉ Ts) (h1 : Ts[j]? = some T) (h2 : ps[j]? = some p) : zipTp H l Ts ps T = some (.tup [p.1, p.2]) := by
  have hT : T ≠ l := fun e => hl (e ▸ List.mem_of_getElem? h1)
  unfold zipTp
  rw [upd_ne hT, zipTs_eq hT]
  exact zipH_T hn hl h1 h2
theorem stp_zipTp {H1 Hs1 : Hp} (s : Same Hs1 H1) (hl : H1 l = none) (hT : ∀ T ∈ Ts, H1 T = none) : Stp none H1 Hs1 (zipTp H1 l Ts ps) (zipTp Hs1 l Ts ps) where
  sub := fun a o h => by
    by_cases e : a = l
    · subst e; rw [zipTp_l] at h ⊢; exact h
    · unfold zipTp at h ⊢
      rw [upd_ne e] at h ⊢
      unfold zipTs at h ⊢
      split at h
      · exact h
      · exact s a o h
  ext := fun a o h => by
    have n1 : a ≠ l := fun e => by rw [e] at h; have := s l o h; rw [hl] at this; cases this
    have n2 : a ∉ Ts := fun e => by have := s a o h; rw [hT a e] at this; cases this
    rw [zipTp_out n1 n2]; exact h
  keep := fun a o h _ => by
    have n1 : a ≠ l := fun e => by rw [e, hl] at h; cases h
    have n2 : a ∉ Ts := fun e => by rw [hT a e] at h; cases h
    rw [zipTp_out n1 n2]; exact h
  there := fun a o h => by
    have n1 : a ≠ l := fun e => by rw [e, hl] at h; cases h
    have n2 : a ∉ Ts := fun e => by rw [hT a e] at h; cases h
    exact ⟨o, by rw [zipTp_out n1 n2]; exact h⟩
  new := fun a o h n => by
    have n1 : a ≠ l := fun e => by rw [e, hl] at h; cases h
    have n2 : a ∉ Ts := fun e => by rw [hT a e] at h; cases h
    rw [zipTp_out n1 n2]; exact n
def tTupZip (K : PySem.W.Frag) (ta : TA) : TE := fun st H Q => ta st H fun vs H1 => ∃ (a b : Addr) (xs ys : List V), vs = [.ref a, .ref b] ∧ SqT K H1 a xs ∧ SqT K H1 b ys ∧ xs.length ≤ 100000 ∧
  ∀ (l : Addr) (Ts : List Addr), Ts.Nodup → l ∉ Ts → H1 l = none → (∀ T ∈ Ts, H1 T = none) → Ts.length = (xs.zip ys).length → Q (.ref l) (zipTp H1 l Ts (xs.zip ys))
theorem pe_tupZip {e e2 : Expr} {ta : TA} {p p2 q pos : Pos} (hg : Gl X "tuple") (hm : X.mg "tuple" = none) (hg2 : Gl X "zip") (hm2 : X.mg "zip" = none) (ha : PA X [e, e2] ta) (hc : X.calm = true)
    (hs : starEach [e, e2] X.env = (false, eval e X.env) :: starEach [e2] X.env := by rfl) (hpl : (backTo q (starEach [e2] X.env)).any (·.1) = false := by rfl) :
    PE X (.Call (.Name "tuple" p) [.Call (.Name "zip" p2) [e, e2] [] q] [] pos) (tTupZip X.K ta) := by
  refine ⟨fun pins s st H Q I h => ?_⟩
  refine Call_ (ld_blt I hg hm (show bootBuiltins "tuple" = some (.type "tuple") by decide +kernel) ?_)
  refine PyProof.Rows.callWith_type1 (PyProof.Rows.args_cons ?_ rfl) rfl rfl
  refine Call_ (ld_blt I hg2 hm2 PyProof.Rows.boot_zip (PyProof.Rows.callWith_type1 (thn (ha.run q pins s st H _ I h) fun us s1 h1 => ?_) hs hpl))
  obtain ⟨vs, H1, I1, r1, a, b, xs, ys, rfl, hqx, hqy, hl, q1⟩ := h1
  obtain ⟨u1, us1, rfl, r, rr⟩ : ∃ u1 us1, us = u1 :: us1 ∧ RelV (.ref a) u1 ∧ Vals [.ref b] us1 := by cases r1 with | cons r rr => exact ⟨_, _, rfl, r, rr⟩
  obtain ⟨u2, us2, rfl, r', rr'⟩ : ∃ u1 us2, us1 = u1 :: us2 ∧ RelV (.ref b) u1 ∧ Vals [] us2 := by cases rr with | cons r rr => exact ⟨_, _, rfl, r, rr⟩
  obtain rfl : us2 = [] := by cases rr'; rfl
  obtain rfl : u1 = Value.ref a := r
  obtain rfl : u2 = Value.ref b := r'
  obtain ⟨its, rv, pa, _⟩ := I1.tuple hqx
  obtain ⟨jts, rw2, pb, _⟩ := I1.tuple hqy
  have hl1 := rv.length
  have hl2 := rw2.length
  refine RZ.call_zipT pa pb fun hz zz hti htz h1 h2 hsz hk => ?_
  refine PyProof.Rows.args_nil ?_
  have la : a < s1.heap.objs.size := by obtain ⟨o, ho, _⟩ := pa; exact Heap.lt_size ho
  have lb : b < s1.heap.objs.size := by obtain ⟨o, ho, _⟩ := pb; exact Heap.lt_size ho
  have lt5 : ∀ c ∈ [s1.heap.objs.size + 4, s1.heap.objs.size + 2, s1.heap.objs.size + 3, s1.heap.objs.size, s1.heap.objs.size + 1], s1.heap.objs.size ≤ c := fun c hcm => by
    simp only [List.mem_cons, List.not_mem_nil, or_false] at hcm
    rcases hcm with r | r | r | r | r <;> rw [r]
    · exact Nat.le_add_right _ _
    · exact Nat.le_add_right _ _
    · exact Nat.le_add_right _ _
    · exact Nat.le_refl _
    · exact Nat.le_add_right _ _
  have zs : hz.objs.size = s1.heap.objs.size + 5 := hsz
  have pa' : hz.IsTuple a its.toArray := isTup_keep pa fun o q => hk a o q
  have pb' : hz.IsTuple b jts.toArray := isTup_keep pb fun o q => hk b o q
  refine call_tuple_zip (s := { s1 with heap := hz }) (xs := its.toArray) (ys := jts.toArray) (n := (xs.zip ys).length) (I1.ok.hd hc) (PySem.W.ktu_apart s1.heap.objs.size a b la lb) (fun c hcm => ?_) (by rw [List.size_toArray, List.size_toArray, List.length_zip, hl1, hl2]) ?_ ⟨⟨.none, false, zz, .inl rfl⟩, hti, ⟨_, _, htz⟩, h1, h2, pa', pb'⟩ fun h' acc kp hacc hlt => ?_
  · show c < hz.objs.size
    rw [zs]
    simp only [List.mem_cons, List.not_mem_nil, or_false] at hcm
    rcases hcm with r | r | r | r | r | r | r <;> rw [r]
    · exact Nat.add_lt_add_left (by decide) _
    · exact Nat.add_lt_add_left (by decide) _
    · exact Nat.add_lt_add_left (by decide) _
    · exact Nat.lt_add_of_pos_right (by decide)
    · exact Nat.add_lt_add_left (by decide) _
    · exact Nat.lt_add_right 5 la
    · exact Nat.lt_add_right 5 lb
  · have := line63
    rw [List.length_zip]
    omega
  · obtain ⟨Ts, rfl, ht1, ht2, ht3⟩ := hacc
    have hlt : hz.objs.size < h'.objs.size := hlt
    have hle : s1.heap.objs.size ≤ hz.objs.size := by rw [zs]; exact Nat.le_add_right _ _
    have ht3 : ∀ (j : Nat) (T : Addr), Ts[j]? = some T → hz.objs.size < T ∧ ∃ x y : Value, its.toArray[j]? = some x ∧ jts.toArray[j]? = some y ∧ IsPair h' T x y := ht3
    have hTs : ∀ T ∈ Ts, hz.objs.size < T := fun T hT => by
      obtain ⟨j, hj, rfl⟩ := List.getElem_of_mem hT
      exact (ht3 j _ (List.getElem?_eq_getElem hj)).1
    have hTl : ∀ T ∈ Ts, T < h'.objs.size := fun T hT => by
      obtain ⟨j, hj, rfl⟩ := List.getElem_of_mem hT
      obtain ⟨_, x, y, _, _, z⟩ := ht3 j _ (List.getElem?_eq_getElem hj)
      exact Heap.lt_size z
    have hlT : h'.objs.size ∉ Ts := fun hm => Nat.lt_irrefl _ (hTl _ hm)
    have k0 : ∀ b u, s1.heap.get? b = some u → h'.get? b = some u := fun b u q => kp b u (fun hm => absurd (Heap.lt_size q) (Nat.not_lt_of_le (lt5 b hm))) (hk b u q)
    have k : ∀ b u, s1.heap.get? b = some u → (h'.push { cls := .type "tuple", data := .seq (Ts.map Value.ref).toArray }).get? b = some u := fun b u q => Heap.get?_push_of_some _ (k0 b u q)
    have hS : (h'.push { cls := .type "tuple", data := .seq (Ts.map Value.ref).toArray }).get? h'.objs.size = some { cls := .type "tuple", data := .seq (Ts.map Value.ref).toArray } := Heap.get?_push_size _ rfl
    have fr : ∀ b, b < s1.heap.objs.size → zipTp H1 h'.objs.size Ts (xs.zip ys) b = H1 b := fun b hb => zipTp_out (Nat.ne_of_lt (Nat.lt_trans (Nat.lt_of_lt_of_le hb hle) hlt)) (fun hm => Nat.lt_irrefl b (Nat.lt_trans (Nat.lt_of_lt_of_le hb hle) (hTs b hm)))
    have ext : ∀ b o, H1 b = some o → zipTp H1 h'.objs.size Ts (xs.zip ys) b = some o := fun b o q => by rw [fr b (I1.hok.lt q)]; exact q
    have hok : HOk X.prog X.w (zipTp H1 h'.objs.size Ts (xs.zip ys)) (h'.push { cls := .type "tuple", data := .seq (Ts.map Value.ref).toArray }) := fun c o q => by
      by_cases hc1 : c = h'.objs.size
      · rw [hc1] at q ⊢
        rw [zipTp_l] at q
        cases q
        exact ⟨by rw [List.length_map, ht1]; have := line63; rw [List.length_zip]; omega, Ts.map Value.ref, vals_refs Ts, ⟨_, hS, rfl, _, rfl⟩⟩
      · by_cases hc2 : c ∈ Ts
        · obtain ⟨j, hj, rfl⟩ := List.getElem_of_mem hc2
          obtain ⟨_, x, y, e1, e2, e3⟩ := ht3 j _ (List.getElem?_eq_getElem hj)
          have hj1 : j < xs.length := by rw [ht1, List.length_zip] at hj; omega
          have hj2 : j < ys.length := by rw [ht1, List.length_zip] at hj; omega
          obtain ⟨u, hu, ru⟩ := rv.get (List.getElem?_eq_getElem hj1)
          obtain ⟨v, hv, rv'⟩ := rw2.get (List.getElem?_eq_getElem hj2)
          rw [List.getElem?_toArray, hu] at e1
          rw [List.getElem?_toArray, hv] at e2
          have e1' : u = x := Option.some.inj e1
          have e2' : v = y := Option.some.inj e2
          rw [← e1', ← e2'] at e3
          rw [zipTp_T ht2 hlT (List.getElem?_eq_getElem hj) (show (xs.zip ys)[j]? = some (xs[j], ys[j]) by rw [List.getElem?_zip_eq_some]; exact ⟨List.getElem?_eq_getElem hj1, List.getElem?_eq_getElem hj2⟩)] at q
          cases q
          exact ⟨(by decide : 2 ≤ sizeLine), [u, v], .cons ru (.cons rv' .nil), ⟨_, Heap.get?_push_of_some _ e3, rfl, _, rfl⟩⟩
        · rw [zipTp_out hc1 hc2] at q
          exact (I1.hok c o q).stay (fun c v _ q => k c v q) (fun c q => ext c _ q) fun c xs q => ext c _ q
    have I2 : Inv X pins st (zipTp H1 h'.objs.size Ts (xs.zip ys)) { s1 with heap := h'.push { cls := .type "tuple", data := .seq (Ts.map Value.ref).toArray } } := I1.un (t' := s1.toks) (un_grown (P := X.prog) (w := X.w) k ext fr) hok
    have hle2 : s1.heap.objs.size ≤ h'.objs.size := Nat.le_trans hle (Nat.le_of_lt hlt)
    exact ⟨.ref h'.objs.size, _, I2, rfl, q1 h'.objs.size Ts ht2 hlT (I1.hok.fresh hle2) (fun T hT => I1.hok.fresh (Nat.le_trans hle (Nat.le_of_lt (hTs T hT)))) ht1⟩
def dTupZip (t : DTA) : DT := fun g r f Q => t g r f fun ds f1 => match ds with
  | [.tup xs, .tup ys] => xs.length ≤ 100000 ∧ Q (.tup (zipD xs ys)) f1
  | _ => False
theorem de_tupZip {e e2 : Expr} {d : DTA} {p p2 q pos : Pos} (hm : X.mg "tuple" = none) (hm2 : X.mg "zip" = none) (ha : DA X [e, e2] d) (hg : Gl X "tuple" := by rfl) (hg2 : Gl X "zip" := by rfl) (hc : X.calm = true := by rfl)
    (hs : starEach [e, e2] X.env = (false, eval e X.env) :: starEach [e2] X.env := by rfl) (hpl : (backTo q (starEach [e2] X.env)).any (·.1) = false := by rfl) :
    DE X (.Call (.Name "tuple" p) [.Call (.Name "zip" p2) [e, e2] [] q] [] pos) (dTupZip d) := .mk' (pe_tupZip hg hm hg2 hm2 ha.pa hc hs hpl) fun g ro f st H Hs Q Q' A hq hd =>
  ha.sn g ro f st H Hs _ _ A (fun ds f1 vs H1 Hs1 s1 k1 r1 q1 => by
    split at q1
    · next xs ys =>
      obtain ⟨hl, q1⟩ := q1
      obtain ⟨v, w, rfl, h, h'⟩ := rpA2 r1
      obtain ⟨a, vs, rfl, h1, h2⟩ := h
      obtain ⟨b, ws, rfl, h3, h4⟩ := h'
      refine ⟨a, b, vs, ws, rfl, tp_sq s1.sub h1, tp_sq s1.sub h3, by rw [← h2.length]; exact hl, fun l Ts hn hlT hl0 hT0 hlen => ?_⟩
      have al : Stp none H1 Hs1 (zipTp H1 l Ts (vs.zip ws)) (zipTp Hs1 l Ts (vs.zip ws)) := stp_zipTp s1.sub hl0 hT0
      refine hq (.tup (zipD xs ys)) f1 (.ref l) _ _ (s1.trans al.gen) (k1.stp al) ⟨l, Ts.map V.ref, rfl, zipTp_l, RpA.ofGet (by rw [zipD_len, List.length_map, hlen, List.length_zip, h2.length, h4.length]) fun j d v hd hv => ?_⟩ q1
      obtain ⟨x, y, e1, e2, rfl⟩ := zipD_get hd
      obtain ⟨vx, g1, g2⟩ := h2.get e1
      obtain ⟨vy, g3, g4⟩ := h4.get e2
      rw [List.getElem?_map] at hv
      cases hT : Ts[j]? with
      | none => rw [hT] at hv; cases hv
      | some T =>
        rw [hT] at hv
        cases hv
        have e : zipTp Hs1 l Ts (vs.zip ws) T = some (.tup [vx, vy]) := zipTp_T (p := (vx, vy)) hn hlT hT (by rw [List.getElem?_zip_eq_some]; exact ⟨g1, g3⟩)
        exact ⟨T, [vx, vy], rfl, e, vx, [vy], rfl, g2.mono al.ext, vy, [], rfl, g4.mono al.ext, rfl⟩
    · exact q1.elim) hd
end
end DL
namespace DL
open PySem PySem.Spec PyProof.Rows L2
/-! the top by one run, with the tables of the defs in which lambdas are made -/
def noT (g : Addr → Option Obj) (a : Addr) : Option Obj := match g a with
  | some o => (match o.cls, o.data with
    | .none, .fields _ => none
    | _, _ => some o)
  | none => none
theorem noT_some {g : Addr → Option Obj} {a : Addr} {o : Obj} (h : noT g a = some o) : g a = some o := by
  unfold noT at h
  split at h
  · next o' e =>
    split at h
    · cases h
    · cases h; exact e
  · cases h
def emptyT (o : Option Obj) : Bool := match o with
  | some ⟨.none, none, .fields ⟨[]⟩, ⟨[]⟩⟩ => true
  | _ => false
theorem emptyT_eq {o : Option Obj} (h : emptyT o = true) : o = some { cls := .none, data := .fields #[] } := by
  unfold emptyT at h
  split at h
  · rfl
  · cases h
def tabOkT (g : Addr → Option Obj) (K : PySem.W.Frag) (x : Str) : Bool := match PySem.W.tabIn K x with
  | some (c, P) => PySem.W.codeHdIn K c P && emptyT (g P)
  | none => false
def obsT1 (ex : List FrB) (fn : List He5.DefA) (ts : List He.Tab) (ls : List Str) (g : Addr → Option Obj) (K : PySem.W.Frag) : AlY × Bool := (obsY ex fn ts K, ls.all fun x => tabOkT g K x)
noncomputable def obsTG (n : Nat) (ex : List FrB) (fn : List He5.DefA) (ts : List He.Tab) (ls : List Str) (g : Addr → Option Obj) : AlY × Bool := obsT1 ex fn ts ls g (He.frG (noT g) (asY g n [mainGlobals] 0 ++ [cStatics]))
/-- what is known of a table -/
def TabY (K : PySem.W.Frag) (h : Heap) (x : Str) : Prop := ∃ c P, PySem.W.tabIn K x = some (c, P) ∧ PySem.W.codeHdIn K c P = true ∧ h.get? P = some { cls := .none, data := .fields #[] } ∧ K.lookup P = none
noncomputable def hookT (n : Nat) (ex : List FrB) (fn : List He5.DefA) (ts : List He.Tab) (ls : List Str) : PySem.W.Hook where
  α := AlY × Bool
  obs := fun s => obsTG n ex fn ts ls s.heap.get?
  val := fun w => (valY fn ts w, true)
  says := fun w h => ∃ K : PySem.W.Frag, K.In h ∧ SaysY ex fn ts w K ∧ ∀ x ∈ ls, TabY K h x
  of := fun w s e => by
    have e1 : obsY ex fn ts (He.frG (noT s.heap.get?) (asY s.heap.get? n [mainGlobals] 0 ++ [cStatics])) = valY fn ts w := congrArg (fun z : AlY × Bool => z.1) e
    have e2 : (ls.all fun x => tabOkT s.heap.get? (He.frG (noT s.heap.get?) (asY s.heap.get? n [mainGlobals] 0 ++ [cStatics])) x) = true := congrArg (fun z : AlY × Bool => z.2) e
    refine ⟨_, fun a o h => noT_some (He.frG_at _ h), e1, fun x hx => ?_⟩
    have e3 := List.all_eq_true.mp e2 x hx
    unfold tabOkT at e3
    split at e3
    · next c P ht =>
      rw [Bool.and_eq_true] at e3
      have he := emptyT_eq e3.2
      refine ⟨c, P, ht, e3.1, he, ?_⟩
      cases hl : (He.frG (noT s.heap.get?) (asY s.heap.get? n [mainGlobals] 0 ++ [cStatics])).lookup P with
      | none => rfl
      | some o =>
        have := He.frG_at _ hl
        unfold noT at this
        rw [he] at this
        cases this
    · cases e3
  keeps := fun _ _ _ ⟨K, hK, c, t⟩ k => ⟨K, PySem.W.Frag.In.keeps hK k, c, fun x hx => by
    obtain ⟨c, P, h1, h2, h3, h4⟩ := t x hx
    exact ⟨c, P, h1, h2, k _ _ h3, h4⟩⟩
theorem obsTG_eq {n : Nat} {ex : List FrB} {fn : List He5.DefA} {ts : List He.Tab} {ls : List Str} {g : Addr → Option Obj} {s : Shared} (h : ∀ a, g a = s.heap.get? a) : obsTG n ex fn ts ls g = (hookT n ex fn ts ls).obs s := by
  have e : g = s.heap.get? := funext h
  rw [e] <;> rfl
theorem lamK_of {K : PySem.W.Frag} {h : Heap} {mg : Str → Option Value} {base : Heap} {x : Str} {c P : Addr} (X : K.In h) (G : h.Ns mainGlobals mg) (ht : PySem.W.tabIn K x = some (c, P)) (TB : LamX.TabB base mg c P) : LamK K mg base x P := by
  unfold PySem.W.tabIn at ht
  split at ht
  · next f hf =>
    split at ht
    · next oc od fd sl hl =>
      split at ht
      · next c' hc =>
        split at ht
        · split at ht
          · cases ht
            exact ⟨f, c, fd, _, _, _, PySem.W.mg_of X G hf, hl, hc, TB⟩
          · cases ht
        · cases ht
      · cases ht
    · cases ht
  · cases ht
theorem walk_ofYT {l : PySem.W.OpenLaw} {k : Nat} {q : Program} {loose : List Str} {XP : (Str → Option Value) → Heap → Prop} {ex : List FrB} {fn : List He5.DefA} {ts : List He.Tab} {d : DefRec} {x x0 qq : Str}
    (hn : l.most = some 63) (hdf : d.params.defaults = []) (hr : Room k callerA)
    (F : ∀ (w : World) (mg : Str → Option Value) (fa : Addr) (h : Heap) (K : PySem.W.Frag) (c P : Addr), K.In h → SaysY ex fn ts w K → h.Ns mainGlobals mg → mg d.name = some (.ref fa) → PySem.W.tabIn K x0 = some (c, P) →
      ∃ fd : FuncData, (∀ (s : Shared) (u : Value), BindsTo s fd ⟨[u], []⟩ [(x, u)]) ∧ ∀ base : Heap, K.In base → base.Ns mainGlobals mg → LamX.TabB base mg c P → FnOk l.prog w K mg base CX0 k fa fd [x] (spLawT [(P, qq)] K)) :
    PySem.W.WalkO q loose XP (fun w h => ∃ K : PySem.W.Frag, K.In h ∧ SaysY ex fn ts w K ∧ ∀ x ∈ [x0], TabY K h x) l.row.toRowW d [] (fun f vs => PySem.call f vs) :=
  Att.attach_call hn hdf fun w s₀ s₁ mg mb fa o pm cd doc a vs ns G Y ho hd hcd hmg hobj hints hlen hg => by
    obtain ⟨K, KX, c, t⟩ := Y
    obtain ⟨cc, P, t1, t2, t3, t4⟩ := t x0 (List.mem_singleton.mpr rfl)
    obtain ⟨fd, hb, hF⟩ := F w mg fa _ K cc P KX c G.T.g hmg t1
    have one : ∀ {p : Addr × Addr}, p ∈ [(cc, P)] → p = (cc, P) := fun h => List.mem_singleton.mp h
    refine LamX.law_callTs (cs := [(cc, P)]) KX G.T.g G.T.b G.T.builtins G.T.nolimit hg (fun p hp => by rw [one hp]; exact t3) (fun p hp => by rw [one hp]; exact t4) (fun p hp => by rw [one hp]; exact PySem.W.codeHd_of_K KX t2) G.T.bmain hobj hints (Nat.le_trans hlen (by decide)) hr
      (fun base h1 h2 h3 => hF base h1 h2 (h3 (cc, P) (List.mem_singleton.mpr rfl))) hb (fun H hH hS => ⟨fun p hp => ?_, a, ns, rfl, hS, hlen, fun _ => rfl⟩) fun _ _ _ z => z
    rw [List.mem_singleton.mp hp]
    exact hH (cc, P) (List.mem_singleton.mpr rfl)
end DL
namespace DL
open PySem PySem.Spec PyProof.Rows L2
section
variable {X : Cx} {K : PySem.W.Frag} {W : WX}
/-! a new list that no slot owns is shared -/
theorem SIn.shareFree {g : Option Dk} {H0 Hs0 : Hp} {r : Sg} {f : Nat} {st : L2.St} {H Hs : Hp} (s : SIn K g H0 Hs0 r f st H Hs) {p : Addr} {vs : List V} (n0 : H0 p = none) (n1 : Hs p = none) (hp : H p = some (.lst vs)) (nk : ¬ Dk.has g p)
    (no : ∀ (j : Nat) (sl : Sl), r[j]? = some sl → sl.own = true → st[j]? ≠ some (some (.ref p))) : SIn K g H0 Hs0 r f st H (upd Hs p (.lst vs)) := by
  have ext : Same Hs (upd Hs p (.lst vs)) := fun b u e => by rw [upd_ne (ne_of_none e n1)]; exact e
  refine ⟨s.len, s.dk0, s.dk.share nk n1, s.stp.share n0 hp n1, fun j e hj => ?_, fun j w' hj ho' => ?_, s.inj⟩
  · obtain ⟨v, h3, h4⟩ := s.sh j e hj
    exact ⟨v, h3, h4.mono ext⟩
  · obtain ⟨b, h3, h4, h5, h6⟩ := s.ow j w' hj ho'
    have hab : b ≠ p := fun e => no j w' hj ho' (e ▸ h3)
    refine ⟨b, h3, by rw [upd_ne hab]; exact h4, h5, ?_⟩
    cases w' with
    | ow xs => obtain ⟨vs, q1, q2⟩ := h6; exact ⟨vs, q1, q2.mono ext⟩
    | od ks xs => obtain ⟨vs, q1, q2, q3⟩ := h6; exact ⟨vs, q1, q2, q3.mono ext⟩
    | ot ks xs => obtain ⟨vs, q1, q2, q3⟩ := h6; exact ⟨vs, q1, q2, q3.mono ext⟩
    | oi b c ns xs =>
      obtain ⟨qa, C, dx, vs, q0, q1, q2, q3, q4, q5, q6⟩ := h6
      have hda : dx ≠ p := fun z => by rw [z, hp] at q2; cases q2
      exact ⟨qa, C, dx, vs, q0, q1, q2, by rw [upd_ne hda]; exact q3, q4, q5, q6.mono ext⟩
    | _ => exact h6.elim
/-! d[k] = xs + ys: a new list as a value -/
def sSetKeyL (i : Nat) (dk : DT) (dl : DTA) : DTS := fun g r f E => ∃ ks xs, r[i]? = some (.od ks xs) ∧ evL true dl g r f fun ds f1 => dk g r f1 fun k f2 => ∃ key, k.key = some key ∧ ks.length ≤ lim ∧ E.nx (r.set i (.od (putKs ks key) (putXs ks xs key (.lst ds)))) f2
theorem snd_setKeyL {i : Nat} {tk t : TE} {dk : DT} {d : DTA} (hk : Snd K tk dk) (h : SndL K t d) : SndS K W (tAsg t (gSub (tVar i) tk rSetD)) (sSetKeyL i dk d) := fun g H0 Hs0 r f st H D E s e hd => by
  obtain ⟨Hs, s⟩ := s
  obtain ⟨ks, xs, hx, hd⟩ := hd
  obtain ⟨a, ha, n1, n0, vs, hv, hl, hr⟩ := s.ow i _ hx rfl
  refine snd_evL h s (fun ds f' p ws H' Hs' s1 hn m1 m0 hp hr' no q => ?_) hd
  have s' := s1.shareFree m0 m1 hp (s.dk.out hn) no
  have hrl : Rp K (upd Hs' p (.lst ws)) (.lst ds) (.ref p) := ⟨p, ws, rfl, upd_same, hr'.mono fun b u e => by rw [upd_ne (ne_of_none e m1)]; exact e⟩
  refine ⟨.ref a, ha, ?_⟩
  refine hk g r f' st H' _ _ _ s'.at (fun k f2 w H2 Hs2 s2 k2 r2 q2 => ?_) q
  have s3 := s'.after s2 k2
  obtain ⟨key, hkey, hlim, q2⟩ := q2
  obtain ⟨a', ha', n1', n0', vs', hv', hl', hr2⟩ := s3.ow i _ hx rfl
  rw [ha] at ha'
  cases ha'
  rw [key_v r2 hkey]
  obtain ⟨us, e1, e2, e3⟩ := put_rp (k := key) hl' hr2 (hrl.mono (s'.afterExt s2))
  refine ⟨a, _, rfl, DPut.k hv' ?_, e.nx _ f2 st _ ⟨_, s3.mutOwn (u := .od (putKs ks key) (putXs ks xs key (.lst ds))) hx rfl ha rfl ⟨us, by rw [upd_same, e1], e2, e3⟩⟩ q2⟩
  rw [List.length_zip]
  exact Nat.lt_of_le_of_lt (Nat.min_le_left _ _) (lim_lt hlim)
theorem ds_setKeyL {k' : Nat} {i : Nat} {x : Str} {e k : Expr} {px spos pos : Pos} {dk : DT} {d : DTA} (hr : Room k' X.A) (hk : DE X k dk) (h : DL' X e d) (hN : X.N[i]? = some x := by rfl) (hv : Vis X.env.scope x := by first | exact Or.inl rfl | exact Or.inr (Or.inl rfl) | exact Or.inr (Or.inr rfl)) (hd : (x == ("__debug__" : Str)) = false := by decide)
    (hcd : (x == ("__classdict__" : Str)) = false := by decide)
    (ha : ∀ v, assign (.Subscript (.Name x px) k spos) X.env v = (do
      let ov ← holding [v] (eval (.Name x px) X.env)
      let iv ← holding [v, ov] (eval k X.env)
      standAt spos
      holding [v, ov, iv] (setItem ov iv v)
      release [v, ov, iv] []) := by intro _; rfl)
    (hs : swapsWithSole [.Subscript (.Name x px) k spos] e pos.line X.env = pure false := by rfl) (hw : swappedStores [.Subscript (.Name x px) k spos] e X.env = pure none := by rfl) (h1 : (assignEach [.Subscript (.Name x px) k spos] X.env).map (·.2) = [assign (.Subscript (.Name x px) k spos) X.env] := by rfl) :
    DS X (.Assign [.Subscript (.Name x px) k spos] e pos) (sSetKeyL i dk d) :=
  .mk' (ps_asg h.pe (pg_sub (pe_var hN hv hd hcd) hk.pe (set_dict (hu_of hr)) ha) hs hw h1) (snd_setKeyL hk.sn h.sn)
end
end DL
namespace DL
open PySem PySem.Spec PyProof.Rows L2 GenW
/-! ### yield from a list -/
section
variable {prog : Program} {w : World} {A : Around} {E : Value → Shared → Prop} {s : Shared}
theorem special_lst_item {it l : Addr} {i : Nat} {items : Array Value} {x : Value} {Q : Option Value → Shared → Prop} (hit : s.heap.IsListIter it l i) (hl : s.heap.IsList l items) (hx : items[i]? = some x)
    (hQ : ∀ h', h'.IsListIter it l (i + 1) → Heap.SameBut it s.heap h' → Q (some x) { s with heap := h' }) : wpAny (model prog w) A (callSpecial? (.ref it) "__next__") Q E s := by
  obtain ⟨o, ho, hc, hd⟩ := id hit
  obtain ⟨ol, hol, _, nl, hdl⟩ := hl
  refine wpAny_callSpecial?_slot (name := Str.ofString "__next__") hit.typeIs slot_listiter_next (wpAny_call_entry slot_listiter_next hit.typeIs entry_listiter_next ?_ (args_listiter_next _))
  show wpAny _ _ (field (.ref it) 0 >>= _) _ _ s
  refine wpAny_bind (wpAny_field ho hd (x := .ref l) rfl ?_)
  show wpAny _ _ (if (Value.ref l == Value.none) = true then _ else _) _ _ s
  rw [if_neg (show ¬ ((Value.ref l == Value.none) = true) from Bool.false_ne_true)]
  show wpAny _ _ (field (.ref it) 1 >>= _) _ _ s
  refine wpAny_bind (wpAny_field ho hd (x := .int i 0) rfl ?_)
  show wpAny _ _ (seqItems? (.ref l) >>= _) _ _ s
  refine wpAny_bind (wpAny_seqItems hol hdl ?_)
  simp only [Int.toNat_natCast, hx]
  refine wpAny_bind (wpAny_setField ho hd (by simp) (wpAny_pure ⟨x, rfl, hQ _ ?_ (Heap.SameBut.update ..)⟩))
  exact ⟨_, Heap.get?_update_self _ ho (Obj.isFreed_of_fields (Obj.data_mapFields hd _)), (Obj.cls_mapFields ..).trans hc, by
    rw [Obj.data_mapFields hd]; simp [rawInt]⟩
theorem special_lst_end {it l : Addr} {i : Nat} {items : Array Value} {Q : Option Value → Shared → Prop} (hh : A.handled = none) (hit : s.heap.IsListIter it l i) (hl : s.heap.IsList l items) (hx : items[i]? = none)
    (hE : ∀ e h', StopX e h' → Heap.ExtBut it s.heap h' → E e { s with heap := h' }) : wpAny (model prog w) A (callSpecial? (.ref it) "__next__") Q E s := by
  obtain ⟨o, ho, hc, hd⟩ := id hit
  obtain ⟨ol, hol, _, nl, hdl⟩ := hl
  refine wpAny_callSpecial?_slot (name := Str.ofString "__next__") hit.typeIs slot_listiter_next (wpAny_call_entry slot_listiter_next hit.typeIs entry_listiter_next ?_ (args_listiter_next _))
  show wpAny _ _ (field (.ref it) 0 >>= _) _ _ s
  refine wpAny_bind (wpAny_field ho hd (x := .ref l) rfl ?_)
  show wpAny _ _ (if (Value.ref l == Value.none) = true then _ else _) _ _ s
  rw [if_neg (show ¬ ((Value.ref l == Value.none) = true) from Bool.false_ne_true)]
  show wpAny _ _ (field (.ref it) 1 >>= _) _ _ s
  refine wpAny_bind (wpAny_field ho hd (x := .int i 0) rfl ?_)
  show wpAny _ _ (seqItems? (.ref l) >>= _) _ _ s
  refine wpAny_bind (wpAny_seqItems hol hdl ?_)
  simp only [Int.toNat_natCast, hx]
  refine wpAny_bind (wpAny_rule (wpAny_bind (wpAny_setField ho hd (by simp) ?_)))
  show wpAny _ _ (newExc (.type "StopIteration") [] >>= _) _ _ _
  refine wpAny_bind ?_
  simp only [newExc, newTuple]
  refine wpAny_bind (wpAny_newObj_type ?_ (by size_fits))
  refine wpAny_bind (m := firstArgMember _ _) (wpAny_of_eq (a := Value.none) (by first | rfl | (simp only [firstArgMember]; rfl)) ?_)
  refine wpAny_newObj_type ?_ (by size_fits)
  simp only [raiseNew]
  refine wpAny_bind (wpAny_handled ?_)
  first | rw [show A.in1.handled = none from hh] | rw [hh]
  refine wpAny_bind (wpAny_pure (wpAny_throw ?_))
  refine hE _ _ ⟨_, _, _, rfl, Heap.get?_push_size _ rfl, rfl, rfl, ?_⟩ (((Heap.SameBut.update ..).extBut.push _).push _)
  first
    | rfl
    | (rw [Array.getElem?_append_left (by decide)]; rfl)
    | kernel_rfl
end
section
variable {X : Cx} {e : Expr} {yp pos : Pos} {te : TE}
def tYfLst (te : TE) : TYf := fun σ H Q => te σ H fun x H1 => ∃ a xs, x = .ref a ∧ H1 a = some (.lst xs) ∧ Q xs H1
theorem close_lst : typeLookup (.type "list_iterator") "close" = pure none := by rw [typeLookup_type, builtinLookup_eq_fast]; kernel_rfl
theorem yf_lst (he : PE X e te) : YfE X e (tYfLst te) := by
  refine ⟨fun pins s σ H Q I h => ?_⟩
  refine thn (he.run pins s σ H _ I h) fun v s1 ⟨x, H1, I1, r1, a, xs, ex, ha, hq⟩ => ?_
  subst ex
  obtain rfl : v = Value.ref a := r1
  obtain ⟨its, rits, pl, _⟩ := I1.list (SqL.of ha)
  have ht := pl.isList
  refine ⟨"list", ht.typeIs, by decide, wpAny_pyIter_list ht ?_⟩
  have ksz : ∀ b o, s1.heap.get? b = some o → b ≠ s1.heap.objs.size := fun b o e => Nat.ne_of_lt (Heap.lt_size e)
  have kp : ∀ b o, s1.heap.get? b = some o → (s1.heap.push { cls := .type "list_iterator", data := .fields #[.ref a, .int 0 0] }).get? b = some o := fun b o e => Heap.get?_push_of_some _ e
  have hlt : a < s1.heap.objs.size := by obtain ⟨o, ho, _⟩ := ht; exact Heap.lt_size ho
  refine ⟨s1.heap.objs.size, H1, xs, fun j h => h.IsListIter s1.heap.objs.size a j ∧ h.IsList a its.toArray, rfl, I1.kept (t' := s1.toks) kp, .inr I1.sz, Nat.ne_of_gt I1.lt, fun y c hy => ?_, I1.hok.fresh (Nat.le_refl _), fun p hp => ?_,
    ⟨⟨_, Heap.get?_push_size _ rfl, rfl, rfl⟩, ht.push _⟩, ⟨⟨"list_iterator", fun j h q => ?_, close_lst, by decide⟩, fun j h h' q hk => ?_, fun A' j x s2 Q' E' hA hx q hQ => ?_, fun A' s2 Q' E' hA q hE => ?_⟩, hq⟩
  · obtain ⟨v, o, ho, _⟩ := I1.cell y c hy
    exact ksz c o ho
  · exact ksz p.1 _ (I1.pin p hp).1
  · obtain ⟨⟨o, ho, hc, _⟩, _⟩ := q
    exact ⟨o, ho, hc⟩
  · obtain ⟨⟨o, ho, r⟩, o2, ho2, r2⟩ := q
    exact ⟨⟨o, hk _ o (.inl rfl) ho, r⟩, o2, hk _ o2 (.inr (by rw [ha]; exact fun z => by cases z)) ho2, r2⟩
  · obtain ⟨q1, q2⟩ := q
    obtain ⟨u, hu, ru⟩ := rits.get hx
    have hne : a ≠ s1.heap.objs.size := Nat.ne_of_lt hlt
    exact special_lst_item q1 q2 (x := u) (by simpa using hu) fun h' q1' hs => hQ u h' s2.toks ru ⟨q1', q2.extBut hs.extBut hne⟩ fun b o hb eb => hs.extBut b o hb eb
  · obtain ⟨q1, q2⟩ := q
    have hnone : its.toArray[xs.length]? = none := by
      have e := rits.length
      have e2 : its[xs.length]? = none := List.getElem?_eq_none_iff.mpr (by omega)
      simpa using e2
    exact special_lst_end hA q1 q2 hnone fun e h' hS hk => hE e h' s2.toks hS fun b o hb eb => hk b o hb eb
end
/-! ### generator defs over plain data -/
abbrev GSp := Option Dk → List D → Nat → (List D → Nat → Prop) → Prop
def spG (K : PySem.W.Frag) (S : GSp) : SpG := fun vs H Q _ => ∃ (g : Option Dk) (Hs : Hp) (ds : List D) (n : Nat) (Q' : List D → Nat → Prop), Same Hs H ∧ DkOk g H Hs n ∧ RpA K Hs ds vs ∧ S g ds n Q' ∧
  ∀ xs f' vs' H' Hs', Stp g H Hs H' Hs' → DkOk g H' Hs' f' → RpA K Hs' xs vs' → Q' xs f' → Q vs' H'
def CalGn (P : Program) (w : World) (K : PySem.W.Frag) (mg : Str → Option Value) (base : Heap) (k : Nat) (x : Str) (ps : List Str) (S : GSp) : Prop :=
  ∃ f fd, GFn P w K mg base k f fd ps (spG K S) ∧ PySem.W.keepIn K (.ref f) = true ∧ Binds K fd ps [] ∧ mg x = some (.ref f)
theorem hide_start (n : Nat) (ds : List D) : hide (startR n ds) = startR n ds := by
  unfold hide startR
  rw [List.map_append, List.map_map, List.map_replicate]
  rfl
section
variable {P : Program} {w : World} {K : PySem.W.Frag} {mg : Str → Option Value} {base : Heap}
theorem dfnGen {x qual : Str} {st : Stmt} {f : Addr} {fd : FuncData} {N ps : List Str} {k : Nat} {S : GSp} {d : DT} {e : Expr} {yp pos : Pos} (F : Fun K x qual st f fd) (sc : GScope N ps (defScope st)) (len : ∀ g ds n Q, S g ds n Q → ds.length = ps.length)
    (hbody : defBody st = [.Expr (.YieldFrom e yp) pos])
    (hb : ∀ (cdv : Value) (A : Around) (outer : List Env) (s : Shared) (H : Hp) (E : XK) (pn : List (Addr × Obj)), Room k (A.deeper (envOfC qual (defScope st) s.heap.objs.size f cdv)) → DE (gcxOf P w K mg base N qual (defScope st) f cdv A outer s H E pn) e d)
    (h : ∀ g ds n Q, S g ds n Q → d g (startR N.length ds) n fun z f1 => ∃ xs, z = .lst xs ∧ xs.length ≤ lim ∧ Q xs f1) : GFn P w K mg base (k + 1) f fd ps (spG K S) := by
  obtain ⟨oc, od, kV, doc, pm, an, cdv, ct, osl, rfl, lk, hcd⟩ := F.ex
  refine gfn_of lk hcd sc (fun vs H Q E h => ?_) fun A outer s H vs Q E pn hr hsp => ?_
  · obtain ⟨g, Hs, ds, n, Q', h1, h2, h3, h4, h5⟩ := h
    rw [← h3.length]
    exact len g ds n Q' h4
  · obtain ⟨g, Hs, ds, n, Q', h1, h2, h3, h4, h5⟩ := hsp
    have he := hb cdv A outer s H E pn hr
    rw [hbody]
    have hint : interactive (gcxOf P w K mg base N qual (defScope st) f cdv A outer s H E pn).env = false := by
      show interactive (envOfC qual (defScope st) s.heap.objs.size f cdv) = false
      unfold interactive
      have e : ((envOfC qual (defScope st) s.heap.objs.size f cdv).scope.kind == .module) = false := by
        show ((defScope st).kind == .module) = false
        rw [sc.kind]
        rfl
      rw [e]
      rfl
    refine ⟨_, gss_cons (gs_yieldFrom (yf_lst he.pe) hr.hd hint) gss_nil, ?_⟩
    have s0 : SIn K g H Hs (startR N.length ds) n (L2.start N vs) H Hs := start_in h1 h2 h3
    have a0 := s0.atHid
    rw [hide_start] at a0
    refine he.sn g (startR N.length ds) n (L2.start N vs) H Hs _ _ a0 (fun z f1 v H1 Hs1 s1 k1 r1 q1 => ?_) (h g ds n Q' h4)
    obtain ⟨xs, rfl, hl, q⟩ := q1
    obtain ⟨a, vs', rfl, h6, h7⟩ := r1
    refine ⟨a, vs', rfl, s1.sub _ _ h6, ?_, h5 xs f1 vs' H1 Hs1 s1 k1 h7 q⟩
    show 0 + vs'.length ≤ _
    rw [Nat.zero_add, ← h7.length]
    exact lim_le hl
end
section
variable {X : Cx} {K : PySem.W.Frag}
def dCallGn (S : GSp) (t : DTA) : DTA := fun g r f Q => t g r f fun ds f1 => S g ds f1 Q
theorem snd_listG {S : GSp} {E : XK} {ta : TA} {d : DTA} (ht : SndA K ta d) : SndL K (tListG (tCallG (spG K S) [] E ta)) (dCallGn S d) := fun g ro f st H Hs Q Q' A hq hd =>
  ht g ro f st H Hs _ _ A (fun ds f1 vs H1 Hs1 s1 k1 r1 q1 => by
    show spG K S (vs ++ []) H1 _ E
    rw [List.append_nil]
    refine ⟨g, Hs1, ds, f1, _, s1.sub, k1, r1, q1, fun xs f' vs' H' Hs' s2 k2 r2 q2 p hp => ?_⟩
    have al : Stp none H' Hs' (upd H' p (.lst vs')) Hs' := Stp.lay s2.sub hp
    exact hq xs f' p vs' _ _ ((s1.trans s2).trans al.gen) (k2.stp al) ((s1.trans s2).none0 hp) (same_none s2.sub hp) upd_same r2 q2) hd
theorem dl_listG {x : Str} {ps : List Str} {k : Nat} {S : GSp} {p p2 pos pos2 : Pos} {e : Expr} {es : List Expr} {d : DTA} (c : CalGn X.prog X.w X.K X.mg X.base k x ps S) (hr : Room (k + 3) X.A) (hml : X.mg "list" = none) (ha : DA X (e :: es) d) (hg : Gl X x := by rfl) (hgl : Gl X "list" := by rfl)
    (hdb : (x == ("__debug__" : Str)) = false := by decide) (hs : starEach (e :: es) X.env = (false, eval e X.env) :: starEach es X.env := by rfl) (hpl : (backTo pos2 (starEach es X.env)).any (·.1) = false := by rfl)
    (hs2 : starEach [.Call (.Name x p2) (e :: es) [] pos2] X.env = (false, eval (.Call (.Name x p2) (e :: es) [] pos2) X.env) :: starEach [] X.env := by rfl) :
    DL' X (.Call (.Name "list" p) [.Call (.Name x p2) (e :: es) [] pos2] [] pos) (dCallGn S d) := by
  obtain ⟨f, fd, F, hkp, hb, hm⟩ := c
  refine .mk' (pe_listG (E := fun _ _ _ => False) (pgen_call F (hr.mono (by omega)) hg hm hkp hb .nil ha.pa hdb hs hpl) (fun pins σ H s e s' I h => ?_) (fun _ _ _ h => h.elim) hr hgl hml (by decide +kernel) (by decide) (by decide) hs2) (snd_listG ha.sn)
  obtain ⟨a, B, H', cls, d, _, _, _, _, _, _, _, hE⟩ := h
  exact hE.elim
end
end DL
namespace DL
open PySem PySem.Spec PyProof.Rows L2
/-! ### a comprehension that walks a shared dict and reads it: the dict is locked meanwhile -/
mutual
def D.noM : D → Bool
  | .dct _ _ => false
  | .dtt _ _ => false
  | .tup xs => noMA xs
  | .lst xs => noMA xs
  | .obj _ _ xs => noMA xs
  | .exn _ _ xs => noMA xs
  | _ => true
def noMA : List D → Bool
  | [] => true
  | x :: xs => x.noM && noMA xs
end
theorem noMA_app : ∀ {a b : List D}, noMA a = true → noMA b = true → noMA (a ++ b) = true
  | [], _, _, h => h
  | x :: a, b, h1, h2 => by
    have h1 : (x.noM && noMA a) = true := h1
    rw [Bool.and_eq_true] at h1
    show (x.noM && noMA (a ++ b)) = true
    rw [h1.1, noMA_app h1.2 h2]
    rfl
/-- no dict, no locked thing -/
structure PlO (o : HO) : Prop where
  k : ∀ kvs, o ≠ .dK kvs
  t : ∀ kvs, o ≠ .dT kvs
  f : ∀ od u, o ≠ .frz od u
section
variable {X : Cx} {K : PySem.W.Frag} {W : WX}
mutual
theorem Rp.noM {H H' : Hp} (e : ∀ a o, H a = some o → PlO o → H' a = some o) : ∀ (d : D) (v : V), d.noM = true → Rp K H d v → Rp K H' d v
  | .none, _, _, h => h
  | .bool _, _, _, h => h
  | .int _, _, _, h => h
  | .str _, _, _, h => h
  | .tup ds, _, n, ⟨a, vs, h1, h2, h3⟩ => ⟨a, vs, h1, e _ _ h2 ⟨(fun _ z => nomatch z), (fun _ z => nomatch z), (fun _ _ z => nomatch z)⟩, RpA.noM e ds vs n h3⟩
  | .lst ds, _, n, ⟨a, vs, h1, h2, h3⟩ => ⟨a, vs, h1, e _ _ h2 ⟨(fun _ z => nomatch z), (fun _ z => nomatch z), (fun _ _ z => nomatch z)⟩, RpA.noM e ds vs n h3⟩
  | .dct _ _, _, n, _ => nomatch n
  | .dtt _ _, _, n, _ => nomatch n
  | .ktup _, _, _, h => h
  | .obj c ns ds, _, n, ⟨C, a, dx, vs, h0, h1, h2, h3, h4, h5⟩ => ⟨C, a, dx, vs, h0, h1, e _ _ h2 ⟨(fun _ z => nomatch z), (fun _ z => nomatch z), (fun _ _ z => nomatch z)⟩, e _ _ h3 ⟨(fun _ z => nomatch z), (fun _ z => nomatch z), (fun _ _ z => nomatch z)⟩, h4, RpA.noM e ds vs n h5⟩
  | .exn c ns ds, _, n, ⟨C, a, dx, vs, h0, h1, h2, h3, h4, h5⟩ => ⟨C, a, dx, vs, h0, h1, e _ _ h2 ⟨(fun _ z => nomatch z), (fun _ z => nomatch z), (fun _ _ z => nomatch z)⟩, e _ _ h3 ⟨(fun _ z => nomatch z), (fun _ z => nomatch z), (fun _ _ z => nomatch z)⟩, h4, RpA.noM e ds vs n h5⟩
  | .any _, _, _, h => h
theorem RpA.noM {H H' : Hp} (e : ∀ a o, H a = some o → PlO o → H' a = some o) : ∀ (ds : List D) (vs : List V), noMA ds = true → RpA K H ds vs → RpA K H' ds vs
  | [], _, _, h => h
  | d :: ds, _, n, ⟨v, r, h1, h2, h3⟩ => ⟨v, r, h1, Rp.noM e d v (Bool.and_eq_true_iff.mp n).1 h2, RpA.noM e ds r (Bool.and_eq_true_iff.mp n).2 h3⟩
end
theorem DkOk.inHs {g : Option Dk} {H Hs : Hp} {f : Nat} {a : Addr} {o : HO} (h : DkOk g H Hs f) (e : Hs a = some o) : ¬ Dk.has g a := by
  cases g with
  | none => exact id
  | some k =>
    obtain ⟨_, h1, h2, h3, tb⟩ := h
    rintro (z | z | z | z)
    · rw [z, h1] at e; cases e
    · rw [z, h2] at e; cases e
    · rw [z, h3] at e; cases e
    · obtain ⟨x, hx, rfl⟩ := List.mem_map.mp z
      rw [(tb.at_ x hx).1] at e; cases e
theorem DkOk.notTup {g : Option Dk} {H Hs : Hp} {f : Nat} {a : Addr} {xs : List V} (h : DkOk g H Hs f) (e : H a = some (.tup xs)) : ¬ Dk.has g a := by
  cases g with
  | none => exact id
  | some k =>
    obtain ⟨⟨_, _, _, _, _, _, h1, h2, h3, _⟩, _, _, _, tb⟩ := h
    rintro (z | z | z | z)
    · rw [z, h1] at e; cases e
    · rw [z, h2] at e; cases e
    · rw [z, h3] at e; cases e
    · obtain ⟨x, hx, rfl⟩ := List.mem_map.mp z
      obtain ⟨_, ps, e1, _⟩ := tb.at_ x hx
      rw [e1] at e; cases e
theorem DkOk.swap {g : Option Dk} {H Hs : Hp} {f : Nat} {a : Addr} {o o' : HO} (h : DkOk g H Hs f) (e : Hs a = some o) (hc : ∀ b q, o ≠ LamX.CodeO b q) : DkOk g (upd H a o') (upd Hs a o') f := by
  have n := h.inHs e
  have h := h.mut (o := o') n
  cases g with
  | none => trivial
  | some k =>
    obtain ⟨h0, h1, h2, h3, tb⟩ := h
    refine ⟨h0, ?_, ?_, ?_, tb.to (fun x hx u h1 h2 => ⟨h1, ?_⟩) fun b u hb _ hq => ?_⟩
    · rw [upd_ne fun e => n (.inl e.symm)]; exact h1
    · rw [upd_ne fun e => n (.inr (.inl e.symm))]; exact h2
    · rw [upd_ne fun e => n (.inr (.inr (.inl e.symm)))]; exact h3
    · rw [upd_ne fun z => n (.inr (.inr (.inr (by rw [← z]; exact hx))))]; exact h2
    · have : b ≠ a := fun z => by
        rw [z, e] at hb
        cases hb
        obtain ⟨q, rfl⟩ := hq
        exact hc _ _ rfl
      rw [upd_ne this]; exact hb
theorem same_lk {H Hs : Hp} {a : Addr} {o : HO} (s : Same Hs H) : Same (upd Hs a o) (upd H a o) := fun b u e => by
  by_cases hb : b = a
  · rw [hb, upd_same] at e ⊢; exact e
  · rw [upd_ne hb] at e ⊢; exact s b u e
theorem Stp.unlock {g : Option Dk} {H Hs H' Hs' : Hp} {a : Addr} {o u : HO} (p : Stp g (upd H a o) (upd Hs a o) H' Hs') (s : Same Hs H) (e : Hs a = some u) : Stp g H Hs (upd H' a u) (upd Hs' a u) where
  sub := same_lk p.sub
  ext := fun b x h => by
    by_cases hb : b = a
    · rw [hb] at h ⊢; rw [upd_same, ← h, e]
    · rw [upd_ne hb]; exact p.ext b x (by rw [upd_ne hb]; exact h)
  keep := fun b x h n => by
    by_cases hb : b = a
    · rw [hb] at h ⊢; rw [upd_same, ← h, s a u e]
    · rw [upd_ne hb]; exact p.keep b x (by rw [upd_ne hb]; exact h) n
  there := fun b x h => by
    by_cases hb : b = a
    · rw [hb]; exact ⟨u, upd_same⟩
    · obtain ⟨y, hy⟩ := p.there b x (by rw [upd_ne hb]; exact h)
      exact ⟨y, by rw [upd_ne hb]; exact hy⟩
  new := fun b x h n => by
    have hb : b ≠ a := fun z => by rw [z, e] at n; cases n
    rw [upd_ne hb]
    exact p.new b x (by rw [upd_ne hb]; exact h) (by rw [upd_ne hb]; exact n)
/-- what the slots tell while the dict at a is locked -/
def lkS (s : Sl) : Sl := match s.d with
  | some d => if d.noM then .sh d else .no
  | none => .no
def lkR (i : Nat) (a : Addr) (r : Sg) : Sg := (r.map lkS).set i (.sh (.any (.ref a)))
theorem At.lock {g : Option Dk} {r : Sg} {f : Nat} {st : L2.St} {H Hs : Hp} {i : Nat} {a : Addr} {o u : HO} (A : At K g r f st H Hs) (e : Hs a = some u) (hu : ¬ PlO u) (hc : ∀ b q, u ≠ LamX.CodeO b q) (hi : st[i]? = some (some (.ref a))) : At K g (lkR i a r) f st (upd H a o) (upd Hs a o) := by
  have sl : SlOk K (upd Hs a o) (r.map lkS) st := ⟨by rw [List.length_map]; exact A.sl.len, fun j s d h1 h2 => by
    rw [List.getElem?_map] at h1
    cases er : r[j]? with
    | none => rw [er] at h1; cases h1
    | some s0 =>
      rw [er] at h1
      cases h1
      unfold lkS at h2
      cases ed : s0.d with
      | none => rw [ed] at h2; cases h2
      | some d0 =>
        rw [ed] at h2
        cases en : d0.noM with
        | false => simp only [en] at h2; cases h2
        | true =>
          simp only [en] at h2
          cases h2
          obtain ⟨v, h3, h4⟩ := A.sl.get j s0 d er ed
          refine ⟨v, h3, Rp.noM (fun b x hb px => ?_) d v en h4⟩
          rw [upd_ne fun z => by rw [z, e] at hb; cases hb; exact hu px]
          exact hb⟩
  refine ⟨same_lk A.sub, A.dk.swap e hc, ?_⟩
  have := sl.set i (d := .any (.ref a)) (v := .ref a) rfl
  have es : st.set i (some (.ref a)) = st := by
    obtain ⟨h1, h2⟩ := List.getElem?_eq_some_iff.mp hi
    rw [← h2, List.set_getElem_self]
  rw [es] at this
  exact this
/-- the locked dict at a, the key's tuple at q -/
structure LkI where
  a : Addr
  q : Addr
  ks : List (List Key)
  xs : List D
  p : Str × Str
def CLk (K : PySem.W.Frag) (κ : LkI) (g : Option Dk) (H Hs : Hp) : Prop := (∃ od us, Hs κ.a = some (.frz od (.dT (κ.ks.zip us))) ∧ RpA K Hs κ.xs us) ∧ H κ.q = some (.tup [.str κ.p.1, .str κ.p.2]) ∧ ¬ Dk.has g κ.q
theorem CLk.step {κ : LkI} {g : Option Dk} {H Hs H' Hs' : Hp} (h : CLk K κ g H Hs) (s : Stp g H Hs H' Hs') : CLk K κ g H' Hs' := by
  obtain ⟨⟨od, us, h1, h2⟩, h3, h4⟩ := h
  exact ⟨⟨od, us, s.ext _ _ h1, h2.mono s.ext⟩, s.keep _ _ h3 h4, h4⟩
def SndLk (K : PySem.W.Frag) (t : TE) (dl : LkI → DT) : Prop := ∀ (κ : LkI) (g : Option Dk) (r : Sg) (f : Nat) (st : L2.St) (H Hs : Hp) (Q : VK) (Q' : QD), At K g r f st H Hs → CLk K κ g H Hs →
  (∀ d f' v H' Hs', Stp g H Hs H' Hs' → DkOk g H' Hs' f' → Rp K Hs' d v → Q' d f' → Q v H') → dl κ g r f Q' → t st H Q
def SndLkA (K : PySem.W.Frag) (t : TA) (dl : LkI → DTA) : Prop := ∀ (κ : LkI) (g : Option Dk) (r : Sg) (f : Nat) (st : L2.St) (H Hs : Hp) (Q : List V → Hp → Prop) (Q' : List D → Nat → Prop), At K g r f st H Hs → CLk K κ g H Hs →
  (∀ ds f' vs H' Hs', Stp g H Hs H' Hs' → DkOk g H' Hs' f' → RpA K Hs' ds vs → Q' ds f' → Q vs H') → dl κ g r f Q' → t st H Q
def SndLkT (K : PySem.W.Frag) (t : TT) (dl : LkI → DTT) : Prop := ∀ (κ : LkI) (g : Option Dk) (r : Sg) (f : Nat) (st : L2.St) (H Hs : Hp) (Q : Bool → Hp → Prop) (Q' : Bool → Nat → Prop), At K g r f st H Hs → CLk K κ g H Hs →
  (∀ b f' H' Hs', Stp g H Hs H' Hs' → DkOk g H' Hs' f' → Q' b f' → Q b H') → dl κ g r f Q' → t st H Q
theorem sc_of {t : TE} {d : DT} (h : Snd K t d) : SndLk K t fun _ => d := fun κ g r f st H Hs Q Q' A _ hq hd => h g r f st H Hs Q Q' A hq hd
theorem sc_op {r : R2} {op : O2} {ta tb : TE} {a b : LkI → DT} (hr : SndR K r op) (ha : SndLk K ta a) (hb : SndLk K tb b) : SndLk K (tOp r ta tb) fun κ => dOp op (a κ) (b κ) := fun κ g ro f st H Hs Q Q' A C hq hd =>
  ha κ g ro f st H Hs _ _ A C (fun x f1 vx H1 Hs1 s1 k1 r1 q1 => hb κ g ro f1 st H1 Hs1 _ _ (A.step s1 k1) (C.step s1) (fun y f2 vy H2 Hs2 s2 k2 r2 q2 =>
    hr H2 Hs2 x y vx vy Q _ s2.sub (r1.mono s2.ext) r2 (fun z v H3 Hs3 s3 r3 q3 => hq z f2 v H3 Hs3 ((s1.trans s2).trans s3.gen) (k2.stp s3) r3 q3) q2) q1) hd
theorem sc_nil : SndLkA K tNil fun _ => dNil := fun κ g ro f st H Hs Q Q' A _ hq hd => hq [] f [] H Hs (Stp.refl A.sub) A.dk rfl hd
theorem sc_cons {ta : TE} {t : TA} {a : LkI → DT} {d : LkI → DTA} (ha : SndLk K ta a) (ht : SndLkA K t d) : SndLkA K (tCons ta t) fun κ => dCons (a κ) (d κ) := fun κ g ro f st H Hs Q Q' A C hq hd =>
  ha κ g ro f st H Hs _ _ A C (fun x f1 v H1 Hs1 s1 k1 r1 q1 => ht κ g ro f1 st H1 Hs1 _ _ (A.step s1 k1) (C.step s1) (fun ds f2 vs H2 Hs2 s2 k2 r2 q2 =>
    hq (x :: ds) f2 (v :: vs) H2 Hs2 (s1.trans s2) k2 ⟨v, vs, rfl, r1.mono s2.ext, r2⟩ q2) q1) hd
theorem sc_tup {t : TA} {d : LkI → DTA} (h : SndLkA K t d) : SndLk K (tTup t) fun κ => dTup (d κ) := fun κ g ro f st H Hs Q Q' A C hq hd =>
  h κ g ro f st H Hs _ _ A C (fun ds f1 vs H1 Hs1 s1 k1 r1 q1 => ⟨r1.le q1.1, fun p hp => by
    have al : Stp none H1 Hs1 (upd H1 p (.tup vs)) (upd Hs1 p (.tup vs)) := Stp.alloc s1.sub hp
    exact hq (.tup ds) f1 (.ref p) _ _ (s1.trans al.gen) (k1.stp al) (rp_tup r1 (same_none s1.sub hp)) q1.2⟩) hd
theorem sc_test {ta : TE} {a : LkI → DT} (ha : SndLk K ta a) : SndLkT K (tTest ta) fun κ => dTest (a κ) := fun κ g ro f st H Hs Q Q' A C hq hd =>
  ha κ g ro f st H Hs _ _ A C (fun x f1 v H1 Hs1 s1 k1 r1 q1 => by
    cases x with
    | bool b => exact ⟨b, r1, hq b f1 H1 Hs1 s1 k1 q1⟩
    | _ => exact q1.elim) hd
/-- the key's text at 0 or 1 -/
def dKIx (j : Nat) (a : DT) (κ : LkI) : DT := fun g r f Q => a g r f fun x f1 => x = .any (.ref κ.q) ∧ Q (.str (if j = 0 then κ.p.1 else κ.p.2)) f1
theorem sc_kix {ta tb : TE} {a : DT} {j : Nat} (hj : j < 2) (ha : Snd K ta a) (hb : Snd K tb (dC (.int j))) : SndLk K (tOp (rIx K) ta tb) (dKIx j a) := fun κ g ro f st H Hs Q Q' A C hq hd =>
  ha g ro f st H Hs _ _ A (fun x f1 vx H1 Hs1 s1 k1 r1 q1 => hb g ro f1 st H1 Hs1 _ (fun y f2 => y = .int j ∧ f2 = f1) (A.step s1 k1) (fun y f2 vy H2 Hs2 s2 k2 r2 q2 => by
    obtain ⟨rfl, q1⟩ := q1
    obtain ⟨rfl, rfl⟩ := q2
    cases r1
    cases r2
    have C2 := (C.step s1).step s2
    obtain ⟨_, h3, _⟩ := C2
    refine .inr (.inl ⟨κ.q, _, _, .str (if j = 0 then κ.p.1 else κ.p.2), rfl, rfl, SqT.of h3, ?_, hq (.str (if j = 0 then κ.p.1 else κ.p.2)) f2 _ H2 Hs2 (s1.trans s2) k2 rfl q1⟩)
    match j, hj with
    | 0, _ => rfl
    | 1, _ => rfl) ⟨rfl, rfl⟩) hd
/-- d[k] of the locked dict -/
def dKGet (a b : DT) (κ : LkI) : DT := fun g r f Q => a g r f fun x f1 => b g r f1 fun y f2 => x = .any (.ref κ.a) ∧ y = .any (.ref κ.q) ∧ ∃ z, lookT κ.ks κ.xs (kPair κ.p) = some z ∧ Q z f2
theorem sc_kget {ta tb : TE} {a b : DT} (ha : Snd K ta a) (hb : Snd K tb b) : SndLk K (tDGet ta tb) (dKGet a b) := fun κ g ro f st H Hs Q Q' A C hq hd =>
  ha g ro f st H Hs _ _ A (fun x f1 vx H1 Hs1 s1 k1 r1 q1 => hb g ro f1 st H1 Hs1 _ _ (A.step s1 k1) (fun y f2 vy H2 Hs2 s2 k2 r2 q2 => by
    obtain ⟨rfl, rfl, z, e1, q⟩ := q2
    cases r1
    cases r2
    obtain ⟨⟨od, us, h1, h2⟩, h3, _⟩ := (C.step s1).step s2
    obtain ⟨v, h4, h5⟩ := look_rpT h2 e1
    exact ⟨κ.a, v, rfl, .inr ⟨_, kPair κ.p, κ.q, .inr ⟨od, s2.sub _ _ h1⟩, rfl, h3, h4.symm⟩, hq z f2 v H2 Hs2 (s1.trans s2) k2 h5 q⟩) q1) hd
/-! the comprehension -/
def dLkGo (g : Option Dk) (s : Nat) (c : LkI → DTT) (e : LkI → DT) (a : Addr) (ks : List (List Key)) (xs : List D) (r : Sg) : List (Str × Str) → List D → Nat → (List D → Nat → Prop) → Prop
  | [], acc, f, Q => noMA acc = true ∧ Q acc f
  | p :: ps, acc, f, Q => ∀ q : Addr, c ⟨a, q, ks, xs, p⟩ g (setsR r [(s, .any (.ref q))]) f fun b f1 => if b = true then e ⟨a, q, ks, xs, p⟩ g (setsR r [(s, .any (.ref q))]) f1 fun y f2 => dLkGo g s c e a ks xs r ps (acc ++ [y]) f2 Q else dLkGo g s c e a ks xs r ps acc f1 Q
def dLcLk (i s : Nat) (c : LkI → DTT) (e : LkI → DT) (vs : List Nat) : DTA := fun g r f Q => ∃ (ps : List (Str × Str)) (xs : List D), r[i]? = some (.sh (.dtt (ps.map kPair) xs)) ∧ ps.length ≤ lim ∧ noMA xs = true ∧ ∀ a : Addr, dLkGo g s c e a (ps.map kPair) xs (wipeR (lkR i a r) vs) ps [] f Q
theorem lk_core {gt : TG} {tt : TT} {te : TE} {vs : List Nat} {s : Nat} {c : LkI → DTT} {e : LkI → DT} (hg : SndG K [s] gt (tgN s)) (hc : SndLkT K tt c) (he : SndLk K te e) (hs : s ∈ vs) {g : Option Dk} {r : Sg} {f1 : Nat} {st : L2.St} {H1 Hs1 : Hp} {a : Addr} {od : Obj} {ps : List (Str × Str)} {us : List V} {xs : List D} {Q : VK} {Q' : List D → Nat → Prop}
    (A : At K g r f1 st H1 Hs1) (h1 : Hs1 a = some (.frz od (.dT ((ps.map kPair).zip us)))) (hlu : ps.length = us.length) (hr : RpA K Hs1 xs us) (hl : ps.length ≤ lim) (q1 : dLkGo g s c e a (ps.map kPair) xs (wipeR r vs) ps [] f1 Q')
    (hq : ∀ ds f' p vs H' Hs', Stp g H1 Hs1 H' Hs' → DkOk g H' Hs' f' → H1 p = none → Hs' p = none → H' p = some (.lst vs) → RpA K Hs' ds vs → noMA ds = true → Q' ds f' → Q (.ref p) H') : tLc (fun _ H R => R (Itkt a od ((ps.map kPair).zip us)) H) gt tt te vs st H1 Q := by
  intro D hD
  have hDs : Hs1 D = none := same_none A.sub hD
  have hDk : ¬ Dk.has g D := A.dk.out hD
  have hkl : ((ps.map kPair).zip us).length = ps.length := by rw [List.length_zip, List.length_map, hlu, Nat.min_self]
  refine ⟨fun i m H2 => m = ps.length - i ∧ i ≤ ps.length ∧ ∃ f2 Hs2 acc ws, Stp g H1 Hs1 H2 Hs2 ∧ DkOk g H2 Hs2 f2 ∧ Hs2 D = none ∧ H2 D = some (.lst ws) ∧ RpA K Hs2 acc ws ∧ acc.length ≤ i ∧ dLkGo g s c e a (ps.map kPair) xs (wipeR r vs) (ps.drop i) acc f2 Q', ⟨ps.length, rfl, Nat.zero_le _, f1, Hs1, [], [], ?_, ?_, hDs, upd_same, rfl, Nat.le_refl _, q1⟩, ?_⟩
  · exact (Stp.lay A.sub hD : Stp none H1 Hs1 (upd H1 D (.lst [])) Hs1).gen
  · exact A.dk.mut hDk
  rintro i m H2 ⟨rfl, hil, f2, Hs2, acc, ws, s2, k2, n2, e2, r2, l2, q2⟩
  have ea : H2 a = some (.frz od (.dT ((ps.map kPair).zip us))) := s2.sub _ _ (s2.ext _ _ h1)
  by_cases hlt : i < ps.length
  · have hdr : ps.drop i = ps[i] :: ps.drop (i + 1) := List.drop_eq_getElem_cons hlt
    rw [hdr] at q2
    refine .inr ⟨⟨ea, by rw [hkl]; exact hlt⟩, fun H3 => i + 1 ≤ ps.length ∧ ∃ f2 Hs2 acc ws, Stp g H1 Hs1 H3 Hs2 ∧ DkOk g H3 Hs2 f2 ∧ Hs2 D = none ∧ H3 D = some (.lst ws) ∧ RpA K Hs2 acc ws ∧ acc.length ≤ i + 1 ∧ dLkGo g s c e a (ps.map kPair) xs (wipeR r vs) (ps.drop (i + 1)) acc f2 Q', fun H3 h3 => ⟨_, by omega, rfl, h3⟩, fun x H3 hx => ?_⟩
    obtain ⟨rfl, k, v, q, hk, rfl, hqt⟩ := hx
    have hk2 : k = kPair ps[i] := by
      rw [List.getElem?_zip_eq_some] at hk
      have h3 := hk.1
      rw [List.getElem?_map, List.getElem?_eq_getElem hlt] at h3
      exact (Option.some.inj h3).symm
    subst hk2
    have q2 := q2 q
    have C2 : CLk K ⟨a, q, ps.map kPair, xs, ps[i]⟩ g H3 Hs2 := ⟨⟨od, us, s2.ext _ _ h1, hr.mono s2.ext⟩, hqt, k2.notTup hqt⟩
    have sl0 : SlOk K Hs2 (wipeR r vs) (L2.wipe st vs) := (A.sl.mono s2.ext).wipe vs
    refine hg.2 H3 Hs2 _ (.any (.ref q)) (.ref q) _ [(s, .any (.ref q))] s2.sub rfl rfl fun us2 hus => ⟨wipe_wipe_sets (by simpa using hs), ?_⟩
    have A3 : At K g (setsR (wipeR r vs) [(s, .any (.ref q))]) f2 (setsV (L2.wipe st vs) [s] us2) H3 Hs2 := ⟨s2.sub, k2, SlOk.sets sl0 hus⟩
    refine hc _ g _ f2 _ H3 Hs2 _ _ A3 C2 (fun b f4 H4 Hs4 s4 k4 q4 => ?_) q2
    have t4 : Stp g H1 Hs1 H4 Hs4 := s2.trans s4
    have n4 : Hs4 D = none := s4.new D _ e2 n2
    have e4 : H4 D = some (.lst ws) := s4.keep D _ e2 hDk
    cases b with
    | false =>
      rw [if_neg Bool.false_ne_true] at q4 ⊢
      exact ⟨hlt, f4, Hs4, acc, ws, t4, k4, n4, e4, r2.mono s4.ext, by omega, q4⟩
    | true =>
      rw [if_pos rfl] at q4 ⊢
      refine he _ g _ f4 _ H4 Hs4 _ _ (A3.step s4 k4) (C2.step s4) (fun y f5 v5 H5 Hs5 s5 k5 r5 q5 => ?_) q4
      have n5 : Hs5 D = none := s5.new D _ e4 n4
      have e5 : H5 D = some (.lst ws) := s5.keep D _ e4 hDk
      have r5' : RpA K Hs5 acc ws := (r2.mono s4.ext).mono s5.ext
      refine ⟨ws, e5, ?_, hlt, f5, Hs5, acc ++ [y], ws ++ [v5], (t4.trans s5).mut hD n5, k5.mut hDk, n5, upd_same, r5'.append (RpA.one r5), by simp; omega, q5⟩
      rw [← r5'.length]
      exact lim_lt (by omega)
  · have ei : i = ps.length := by omega
    subst ei
    rw [List.drop_length] at q2
    refine .inl ⟨⟨ea, by rw [hkl]; exact Nat.le_refl _⟩, ?_⟩
    exact hq acc f2 D ws H2 Hs2 s2 k2 hD n2 e2 r2 q2.1 q2.2
theorem snd_lcLk {i s : Nat} {gt : TG} {tt : TT} {te : TE} {vs : List Nat} {c : LkI → DTT} {e : LkI → DT} (hg : SndG K [s] gt (tgN s)) (hc : SndLkT K tt c) (he : SndLk K te e) (hs : s ∈ vs) : SndL K (tLockE (tLc (iKeys (tVar i)) gt tt te vs)) (dLcLk i s c e vs) := fun g r f st H Hs Q Q' A hq hd => by
  obtain ⟨ps, xs, hi, hl, hnx, hd⟩ := hd
  obtain ⟨v, hv, a, us, rfl, e1, e2, e3⟩ := A.sl.get i _ _ hi rfl
  have hlu : ps.length = us.length := by rw [← e2, List.length_map]
  refine ⟨a, _, A.sub _ _ e1, trivial, fun od => ?_⟩
  have npl : ¬ PlO (.dT ((ps.map kPair).zip us)) := fun z => z.t _ rfl
  have A2 := A.lock (o := .frz od (.dT ((ps.map kPair).zip us))) e1 npl (fun _ _ z => nomatch z) hv
  refine ⟨.ref a, hv, a, od, rfl, .inr ⟨_, upd_same, ?_⟩⟩
  show tLc (fun _ H R => R (Itkt a od ((ps.map kPair).zip us)) H) gt tt te vs st (upd H a (.frz od (.dT ((ps.map kPair).zip us)))) (fun v H' => H' a = some (.frz od (.dT ((ps.map kPair).zip us))) ∧ Q v (upd H' a (.dT ((ps.map kPair).zip us))))
  have hr2 : RpA K (upd Hs a (.frz od (.dT ((ps.map kPair).zip us)))) xs us := RpA.noM (fun b o hb pl => by rw [upd_ne fun z => by rw [z, e1] at hb; cases hb; exact npl pl]; exact hb) xs us hnx e3
  refine lk_core hg hc he hs A2 upd_same hlu hr2 hl (hd a) fun ds f' p ws H' Hs' s' k' hp np hw hrw nm q => ?_
  have eHs : Hs' a = some (.frz od (.dT ((ps.map kPair).zip us))) := s'.ext a _ upd_same
  have hpa : p ≠ a := fun z => by rw [z, upd_same] at hp; cases hp
  refine ⟨s'.sub _ _ eHs, ?_⟩
  refine hq ds f' p ws _ _ (s'.unlock A.sub e1) (k'.swap eHs fun _ _ z => nomatch z) (by rw [upd_ne hpa] at hp; exact hp) (by rw [upd_ne hpa]; exact np) (by rw [upd_ne hpa]; exact hw) (RpA.noM (fun b o hb pl => ?_) ds ws nm hrw) q
  have : b ≠ a := fun z => by rw [z, eHs] at hb; cases hb; exact pl.f _ _ rfl
  rw [upd_ne this]; exact hb
/-! as expressions -/
def tOfLk (K : PySem.W.Frag) (dl : LkI → DT) : TE := fun st H Q => ∃ κ g r f Hs Q', At K g r f st H Hs ∧ CLk K κ g H Hs ∧ (∀ d f' v H' Hs', Stp g H Hs H' Hs' → DkOk g H' Hs' f' → Rp K Hs' d v → Q' d f' → Q v H') ∧ dl κ g r f Q'
def tOfLkA (K : PySem.W.Frag) (dl : LkI → DTA) : TA := fun st H Q => ∃ κ g r f Hs Q', At K g r f st H Hs ∧ CLk K κ g H Hs ∧ (∀ ds f' vs H' Hs', Stp g H Hs H' Hs' → DkOk g H' Hs' f' → RpA K Hs' ds vs → Q' ds f' → Q vs H') ∧ dl κ g r f Q'
def tOfLkT (K : PySem.W.Frag) (dl : LkI → DTT) : TT := fun st H Q => ∃ κ g r f Hs Q', At K g r f st H Hs ∧ CLk K κ g H Hs ∧ (∀ b f' H' Hs', Stp g H Hs H' Hs' → DkOk g H' Hs' f' → Q' b f' → Q b H') ∧ dl κ g r f Q'
structure DEk (X : Cx) (e : Expr) (dl : LkI → DT) : Prop where
  pe : PE X e (tOfLk X.K dl)
structure DAk (X : Cx) (es : List Expr) (dl : LkI → DTA) : Prop where
  pa : PA X es (tOfLkA X.K dl)
structure DTk (X : Cx) (ifs : List Expr) (dl : LkI → DTT) : Prop where
  pt : PTs X ifs (tOfLkT X.K dl)
theorem DEk.sn {e : Expr} {dl : LkI → DT} (_ : DEk X e dl) : SndLk X.K (tOfLk X.K dl) dl := fun κ g r f st H Hs Q Q' A C hq hd => ⟨κ, g, r, f, Hs, Q', A, C, hq, hd⟩
theorem DAk.sn {es : List Expr} {dl : LkI → DTA} (_ : DAk X es dl) : SndLkA X.K (tOfLkA X.K dl) dl := fun κ g r f st H Hs Q Q' A C hq hd => ⟨κ, g, r, f, Hs, Q', A, C, hq, hd⟩
theorem DTk.sn {ifs : List Expr} {dl : LkI → DTT} (_ : DTk X ifs dl) : SndLkT X.K (tOfLkT X.K dl) dl := fun κ g r f st H Hs Q Q' A C hq hd => ⟨κ, g, r, f, Hs, Q', A, C, hq, hd⟩
theorem DEk.mk' {e : Expr} {t : TE} {dl : LkI → DT} (p : PE X e t) (s : SndLk X.K t dl) : DEk X e dl := ⟨⟨fun pins sh st H Q I ⟨κ, g, r, f, Hs, Q', A, C, hq, hd⟩ => p.run pins sh st H Q I (s κ g r f st H Hs Q Q' A C hq hd)⟩⟩
theorem DAk.mk' {es : List Expr} {t : TA} {dl : LkI → DTA} (p : PA X es t) (s : SndLkA X.K t dl) : DAk X es dl := ⟨⟨fun pos pins sh st H Q I ⟨κ, g, r, f, Hs, Q', A, C, hq, hd⟩ => p.run pos pins sh st H Q I (s κ g r f st H Hs Q Q' A C hq hd)⟩⟩
theorem DTk.mk' {ifs : List Expr} {t : TT} {dl : LkI → DTT} (p : PTs X ifs t) (s : SndLkT X.K t dl) : DTk X ifs dl := ⟨⟨fun pins sh st H Q I ⟨κ, g, r, f, Hs, Q', A, C, hq, hd⟩ => p.run pins sh st H Q I (s κ g r f st H Hs Q Q' A C hq hd)⟩⟩
theorem dek_of {e : Expr} {d : DT} (h : DE X e d) : DEk X e fun _ => d := .mk' h.pe (sc_of h.sn)
theorem dek_add {a b : Expr} {pos : Pos} {da db : LkI → DT} (ha : DEk X a da) (hb : DEk X b db) : DEk X (.BinOp a .Add b pos) fun κ => dOp oAdd (da κ) (db κ) := .mk' (pe_op op_addA ha.pe hb.pe) (sc_op sr_add ha.sn hb.sn)
theorem dak_nil : DAk X [] fun _ => dNil := .mk' pa_nil sc_nil
theorem dak_cons {e : Expr} {es : List Expr} {d : LkI → DT} {dl : LkI → DTA} (h : DEk X e d) (h' : DAk X es dl) (hs : starEach (e :: es) X.env = (false, eval e X.env) :: starEach es X.env := by rfl) : DAk X (e :: es) fun κ => dCons (d κ) (dl κ) := .mk' (pa_cons h.pe h'.pa hs) (sc_cons h.sn h'.sn)
theorem dek_tup {es : List Expr} {x1} {pos : Pos} {d : LkI → DTA} (h : DAk X es d) : DEk X (.Tuple es x1 pos) fun κ => dTup (d κ) := .mk' (pe_tup h.pa) (sc_tup h.sn)
theorem dek_kix {a b : Expr} {pos : Pos} {da : DT} (j : Nat) (ha : DE X a da) (hb : DE X b (dC (.int j))) (hj : j < 2 := by decide) (hs : PlainIx b := by exact fun _ _ => rfl) : DEk X (.Subscript a b pos) (dKIx j da) := .mk' (pe_ix ix_seq ha.pe hb.pe hs) (sc_kix hj ha.sn hb.sn)
theorem dek_kget {k : Nat} {a b : Expr} {pos : Pos} {da db : DT} (hr : Room k X.A) (ha : DE X a da) (hb : DE X b db) (hs : NoSl b := by intro _ _; rfl) : DEk X (.Subscript a b pos) (dKGet da db) := .mk' (pe_dget (room1 hr) ha.pe hb.pe hs) (sc_kget ha.sn hb.sn)
theorem dtk_eq {a b : Expr} {pos : Pos} {da db : LkI → DT} (hu : X.A.units + 64 < cLine) (ha : DEk X a da) (hb : DEk X b db) : DTk X [.Compare a [.Eq] [b] pos] fun κ => dTest (dOp (oEq false) (da κ) (db κ)) :=
  .mk' (pts_one (pt_cmpR (op_eq.or (op_eqD hu)) ha.pe hb.pe (nomark _))) (sc_test (sc_op sr_eq ha.sn hb.sn))
theorem dl_lcLk {i s : Nat} {x sn : Str} {px ps : Pos} {elt : Expr} {ifs : List Expr} {scope : Scope} {own : List (Str × Nat)} {pos : Pos} {c : LkI → DTT} {e : LkI → DT} (hc : X.calm = true) (hN : X.N.Nodup) (ok : BlkOk X.N X.env.scope scope own)
    (hg : ∀ (s' : Shared) (H : Hp) (C : Addr) (cl : List (Str × Addr)) (fp : List Addr), DG (X.blk s' H scope (compEnvC scope cl C X.env) fp) (.Name sn ps) [s] (tgN s)) (ht : ∀ (s' : Shared) (H : Hp) (C : Addr) (cl : List (Str × Addr)) (fp : List Addr), DTk (X.blk s' H scope (compEnvC scope cl C X.env) fp) ifs c)
    (he : ∀ (s' : Shared) (H : Hp) (C : Addr) (cl : List (Str × Addr)) (fp : List Addr), DEk (X.blk s' H scope (compEnvC scope cl C X.env) fp) elt e)
    (hi : X.N[i]? = some x := by rfl) (hv : Vis X.env.scope x := by first | exact Or.inl rfl | exact Or.inr (Or.inl rfl) | exact Or.inr (Or.inr rfl)) (hd : (x == ("__debug__" : Str)) = false := by decide)
    (hcd : (x == ("__classdict__" : Str)) = false := by decide) (hs : ∀ y, foldedSetIterable (.Name x px) X.env y = pure y := by intro _; rfl) (hsub : s ∈ own.map (·.2) := by decide) :
    DL' X (.ListComp elt [⟨.Name sn ps, .Name x px, ifs, 0⟩] scope pos) (dLcLk i s c e (own.map (·.2))) :=
  DL'.mk' (pe_lock (pe_lc (g := gOf X.K [s] (tgN s)) (tt := tOfLkT X.K c) (te := tOfLk X.K e) hc hN (pi_keys (pe_var hi hv hd hcd)) ok (fun s H C cl fp => (hg s H C cl fp).pg) (fun s H C cl fp => (ht s H C cl fp).pt) (fun s H C cl fp => (he s H C cl fp).pe) hs))
    (snd_lcLk (hg X.s_0 (fun _ => none) 0 [] []).sn (ht X.s_0 (fun _ => none) 0 [] []).sn (he X.s_0 (fun _ => none) 0 [] []).sn hsub)
/-! the same with texts as keys -/
/-- the locked dict at a -/
structure LkIJ where
  a : Addr
  ks : List Key
  xs : List D
  p : Str
def CLkJ (K : PySem.W.Frag) (κ : LkIJ) (g : Option Dk) (H Hs : Hp) : Prop := ∃ od us, Hs κ.a = some (.frz od (.dK (κ.ks.zip us))) ∧ RpA K Hs κ.xs us
theorem CLkJ.step {κ : LkIJ} {g : Option Dk} {H Hs H' Hs' : Hp} (h : CLkJ K κ g H Hs) (s : Stp g H Hs H' Hs') : CLkJ K κ g H' Hs' := by
  obtain ⟨od, us, h1, h2⟩ := h
  exact ⟨od, us, s.ext _ _ h1, h2.mono s.ext⟩
def SndLkJ (K : PySem.W.Frag) (t : TE) (dl : LkIJ → DT) : Prop := ∀ (κ : LkIJ) (g : Option Dk) (r : Sg) (f : Nat) (st : L2.St) (H Hs : Hp) (Q : VK) (Q' : QD), At K g r f st H Hs → CLkJ K κ g H Hs →
  (∀ d f' v H' Hs', Stp g H Hs H' Hs' → DkOk g H' Hs' f' → Rp K Hs' d v → Q' d f' → Q v H') → dl κ g r f Q' → t st H Q
def SndLkTJ (K : PySem.W.Frag) (t : TT) (dl : LkIJ → DTT) : Prop := ∀ (κ : LkIJ) (g : Option Dk) (r : Sg) (f : Nat) (st : L2.St) (H Hs : Hp) (Q : Bool → Hp → Prop) (Q' : Bool → Nat → Prop), At K g r f st H Hs → CLkJ K κ g H Hs →
  (∀ b f' H' Hs', Stp g H Hs H' Hs' → DkOk g H' Hs' f' → Q' b f' → Q b H') → dl κ g r f Q' → t st H Q
/-- d[k] of the locked dict -/
def dKGetJ (a b : DT) (κ : LkIJ) : DT := fun g r f Q => a g r f fun x f1 => b g r f1 fun y f2 => x = .any (.ref κ.a) ∧ y = .str κ.p ∧ ∃ z, lookD κ.ks κ.xs (.inr κ.p) = some z ∧ Q z f2
theorem sc_kgetJ {ta tb : TE} {a b : DT} (ha : Snd K ta a) (hb : Snd K tb b) : SndLkJ K (tDGet ta tb) (dKGetJ a b) := fun κ g ro f st H Hs Q Q' A C hq hd =>
  ha g ro f st H Hs _ _ A (fun x f1 vx H1 Hs1 s1 k1 r1 q1 => hb g ro f1 st H1 Hs1 _ _ (A.step s1 k1) (fun y f2 vy H2 Hs2 s2 k2 r2 q2 => by
    obtain ⟨rfl, rfl, z, e1, q⟩ := q2
    cases r1
    cases r2
    obtain ⟨od, us, h1, h2⟩ := (C.step s1).step s2
    obtain ⟨v, h4, h5⟩ := look_rp h2 e1
    exact ⟨κ.a, v, rfl, .inl ⟨_, .inr κ.p, .inr ⟨od, s2.sub _ _ h1⟩, rfl, h4.symm⟩, hq z f2 v H2 Hs2 (s1.trans s2) k2 h5 q⟩) q1) hd
/-! the comprehension -/
def dLkGoJ (g : Option Dk) (s : Nat) (c : LkIJ → DTT) (e : LkIJ → DT) (a : Addr) (ks : List Key) (xs : List D) (r : Sg) : List Str → List D → Nat → (List D → Nat → Prop) → Prop
  | [], acc, f, Q => noMA acc = true ∧ Q acc f
  | p :: ps, acc, f, Q => c ⟨a, ks, xs, p⟩ g (setsR r [(s, .str p)]) f fun b f1 => if b = true then e ⟨a, ks, xs, p⟩ g (setsR r [(s, .str p)]) f1 fun y f2 => dLkGoJ g s c e a ks xs r ps (acc ++ [y]) f2 Q else dLkGoJ g s c e a ks xs r ps acc f1 Q
def dLcLkJ (i s : Nat) (c : LkIJ → DTT) (e : LkIJ → DT) (vs : List Nat) : DTA := fun g r f Q => ∃ (ps : List Str) (xs : List D), r[i]? = some (.sh (.dct (ps.map Sum.inr) xs)) ∧ ps.length ≤ lim ∧ noMA xs = true ∧ ∀ a : Addr, dLkGoJ g s c e a (ps.map (Sum.inr : Str → Key)) xs (wipeR (lkR i a r) vs) ps [] f Q
theorem lk_coreJ {gt : TG} {tt : TT} {te : TE} {vs : List Nat} {s : Nat} {c : LkIJ → DTT} {e : LkIJ → DT} (hg : SndG K [s] gt (tgN s)) (hc : SndLkTJ K tt c) (he : SndLkJ K te e) (hs : s ∈ vs) {g : Option Dk} {r : Sg} {f1 : Nat} {st : L2.St} {H1 Hs1 : Hp} {a : Addr} {od : Obj} {ps : List Str} {us : List V} {xs : List D} {Q : VK} {Q' : List D → Nat → Prop}
    (A : At K g r f1 st H1 Hs1) (h1 : Hs1 a = some (.frz od (.dK ((ps.map (Sum.inr : Str → Key)).zip us)))) (hlu : ps.length = us.length) (hr : RpA K Hs1 xs us) (hl : ps.length ≤ lim) (q1 : dLkGoJ g s c e a (ps.map (Sum.inr : Str → Key)) xs (wipeR r vs) ps [] f1 Q')
    (hq : ∀ ds f' p vs H' Hs', Stp g H1 Hs1 H' Hs' → DkOk g H' Hs' f' → H1 p = none → Hs' p = none → H' p = some (.lst vs) → RpA K Hs' ds vs → noMA ds = true → Q' ds f' → Q (.ref p) H') : tLc (fun _ H R => R (Itk a od ((ps.map (Sum.inr : Str → Key)).zip us)) H) gt tt te vs st H1 Q := by
  intro D hD
  have hDs : Hs1 D = none := same_none A.sub hD
  have hDk : ¬ Dk.has g D := A.dk.out hD
  have hkl : ((ps.map (Sum.inr : Str → Key)).zip us).length = ps.length := by rw [List.length_zip, List.length_map, hlu, Nat.min_self]
  refine ⟨fun i m H2 => m = ps.length - i ∧ i ≤ ps.length ∧ ∃ f2 Hs2 acc ws, Stp g H1 Hs1 H2 Hs2 ∧ DkOk g H2 Hs2 f2 ∧ Hs2 D = none ∧ H2 D = some (.lst ws) ∧ RpA K Hs2 acc ws ∧ acc.length ≤ i ∧ dLkGoJ g s c e a (ps.map (Sum.inr : Str → Key)) xs (wipeR r vs) (ps.drop i) acc f2 Q', ⟨ps.length, rfl, Nat.zero_le _, f1, Hs1, [], [], ?_, ?_, hDs, upd_same, rfl, Nat.le_refl _, q1⟩, ?_⟩
  · exact (Stp.lay A.sub hD : Stp none H1 Hs1 (upd H1 D (.lst [])) Hs1).gen
  · exact A.dk.mut hDk
  rintro i m H2 ⟨rfl, hil, f2, Hs2, acc, ws, s2, k2, n2, e2, r2, l2, q2⟩
  have ea : H2 a = some (.frz od (.dK ((ps.map (Sum.inr : Str → Key)).zip us))) := s2.sub _ _ (s2.ext _ _ h1)
  by_cases hlt : i < ps.length
  · have hdr : ps.drop i = ps[i] :: ps.drop (i + 1) := List.drop_eq_getElem_cons hlt
    rw [hdr] at q2
    refine .inr ⟨⟨ea, by rw [hkl]; exact hlt⟩, fun H3 => i + 1 ≤ ps.length ∧ ∃ f2 Hs2 acc ws, Stp g H1 Hs1 H3 Hs2 ∧ DkOk g H3 Hs2 f2 ∧ Hs2 D = none ∧ H3 D = some (.lst ws) ∧ RpA K Hs2 acc ws ∧ acc.length ≤ i + 1 ∧ dLkGoJ g s c e a (ps.map (Sum.inr : Str → Key)) xs (wipeR r vs) (ps.drop (i + 1)) acc f2 Q', fun H3 h3 => ⟨_, by omega, rfl, h3⟩, fun x H3 hx => ?_⟩
    obtain ⟨rfl, k, v, hk, rfl⟩ := hx
    have hk2 : k = .inr ps[i] := by
      rw [List.getElem?_zip_eq_some] at hk
      have h3 := hk.1
      rw [List.getElem?_map, List.getElem?_eq_getElem hlt] at h3
      exact (Option.some.inj h3).symm
    subst hk2
    have C2 : CLkJ K ⟨a, ps.map (Sum.inr : Str → Key), xs, ps[i]⟩ g H3 Hs2 := ⟨od, us, s2.ext _ _ h1, hr.mono s2.ext⟩
    have sl0 : SlOk K Hs2 (wipeR r vs) (L2.wipe st vs) := (A.sl.mono s2.ext).wipe vs
    refine hg.2 H3 Hs2 _ (.str ps[i]) (.str ps[i]) _ [(s, .str ps[i])] s2.sub rfl rfl fun us2 hus => ⟨wipe_wipe_sets (by simpa using hs), ?_⟩
    have A3 : At K g (setsR (wipeR r vs) [(s, .str ps[i])]) f2 (setsV (L2.wipe st vs) [s] us2) H3 Hs2 := ⟨s2.sub, k2, SlOk.sets sl0 hus⟩
    refine hc _ g _ f2 _ H3 Hs2 _ _ A3 C2 (fun b f4 H4 Hs4 s4 k4 q4 => ?_) q2
    have t4 : Stp g H1 Hs1 H4 Hs4 := s2.trans s4
    have n4 : Hs4 D = none := s4.new D _ e2 n2
    have e4 : H4 D = some (.lst ws) := s4.keep D _ e2 hDk
    cases b with
    | false =>
      rw [if_neg Bool.false_ne_true] at q4 ⊢
      exact ⟨hlt, f4, Hs4, acc, ws, t4, k4, n4, e4, r2.mono s4.ext, by omega, q4⟩
    | true =>
      rw [if_pos rfl] at q4 ⊢
      refine he _ g _ f4 _ H4 Hs4 _ _ (A3.step s4 k4) (C2.step s4) (fun y f5 v5 H5 Hs5 s5 k5 r5 q5 => ?_) q4
      have n5 : Hs5 D = none := s5.new D _ e4 n4
      have e5 : H5 D = some (.lst ws) := s5.keep D _ e4 hDk
      have r5' : RpA K Hs5 acc ws := (r2.mono s4.ext).mono s5.ext
      refine ⟨ws, e5, ?_, hlt, f5, Hs5, acc ++ [y], ws ++ [v5], (t4.trans s5).mut hD n5, k5.mut hDk, n5, upd_same, r5'.append (RpA.one r5), by simp; omega, q5⟩
      rw [← r5'.length]
      exact lim_lt (by omega)
  · have ei : i = ps.length := by omega
    subst ei
    rw [List.drop_length] at q2
    refine .inl ⟨⟨ea, by rw [hkl]; exact Nat.le_refl _⟩, ?_⟩
    exact hq acc f2 D ws H2 Hs2 s2 k2 hD n2 e2 r2 q2.1 q2.2
theorem snd_lcLkJ {i s : Nat} {gt : TG} {tt : TT} {te : TE} {vs : List Nat} {c : LkIJ → DTT} {e : LkIJ → DT} (hg : SndG K [s] gt (tgN s)) (hc : SndLkTJ K tt c) (he : SndLkJ K te e) (hs : s ∈ vs) : SndL K (tLockE (tLc (iKeys (tVar i)) gt tt te vs)) (dLcLkJ i s c e vs) := fun g r f st H Hs Q Q' A hq hd => by
  obtain ⟨ps, xs, hi, hl, hnx, hd⟩ := hd
  obtain ⟨v, hv, a, us, rfl, e1, e2, e3⟩ := A.sl.get i _ _ hi rfl
  have hlu : ps.length = us.length := by rw [← e2, List.length_map]
  refine ⟨a, _, A.sub _ _ e1, trivial, fun od => ?_⟩
  have npl : ¬ PlO (.dK ((ps.map (Sum.inr : Str → Key)).zip us)) := fun z => z.k _ rfl
  have A2 := A.lock (o := .frz od (.dK ((ps.map (Sum.inr : Str → Key)).zip us))) e1 npl (fun _ _ z => nomatch z) hv
  refine ⟨.ref a, hv, a, od, rfl, .inl ⟨_, upd_same, ?_⟩⟩
  show tLc (fun _ H R => R (Itk a od ((ps.map (Sum.inr : Str → Key)).zip us)) H) gt tt te vs st (upd H a (.frz od (.dK ((ps.map (Sum.inr : Str → Key)).zip us)))) (fun v H' => H' a = some (.frz od (.dK ((ps.map (Sum.inr : Str → Key)).zip us))) ∧ Q v (upd H' a (.dK ((ps.map (Sum.inr : Str → Key)).zip us))))
  have hr2 : RpA K (upd Hs a (.frz od (.dK ((ps.map (Sum.inr : Str → Key)).zip us)))) xs us := RpA.noM (fun b o hb pl => by rw [upd_ne fun z => by rw [z, e1] at hb; cases hb; exact npl pl]; exact hb) xs us hnx e3
  refine lk_coreJ hg hc he hs A2 upd_same hlu hr2 hl (hd a) fun ds f' p ws H' Hs' s' k' hp np hw hrw nm q => ?_
  have eHs : Hs' a = some (.frz od (.dK ((ps.map (Sum.inr : Str → Key)).zip us))) := s'.ext a _ upd_same
  have hpa : p ≠ a := fun z => by rw [z, upd_same] at hp; cases hp
  refine ⟨s'.sub _ _ eHs, ?_⟩
  refine hq ds f' p ws _ _ (s'.unlock A.sub e1) (k'.swap eHs fun _ _ z => nomatch z) (by rw [upd_ne hpa] at hp; exact hp) (by rw [upd_ne hpa]; exact np) (by rw [upd_ne hpa]; exact hw) (RpA.noM (fun b o hb pl => ?_) ds ws nm hrw) q
  have : b ≠ a := fun z => by rw [z, eHs] at hb; cases hb; exact pl.f _ _ rfl
  rw [upd_ne this]; exact hb
/-! as expressions -/
def tOfLkJ (K : PySem.W.Frag) (dl : LkIJ → DT) : TE := fun st H Q => ∃ κ g r f Hs Q', At K g r f st H Hs ∧ CLkJ K κ g H Hs ∧ (∀ d f' v H' Hs', Stp g H Hs H' Hs' → DkOk g H' Hs' f' → Rp K Hs' d v → Q' d f' → Q v H') ∧ dl κ g r f Q'
def tOfLkTJ (K : PySem.W.Frag) (dl : LkIJ → DTT) : TT := fun st H Q => ∃ κ g r f Hs Q', At K g r f st H Hs ∧ CLkJ K κ g H Hs ∧ (∀ b f' H' Hs', Stp g H Hs H' Hs' → DkOk g H' Hs' f' → Q' b f' → Q b H') ∧ dl κ g r f Q'
structure DEkJ (X : Cx) (e : Expr) (dl : LkIJ → DT) : Prop where
  pe : PE X e (tOfLkJ X.K dl)
structure DTkJ (X : Cx) (ifs : List Expr) (dl : LkIJ → DTT) : Prop where
  pt : PTs X ifs (tOfLkTJ X.K dl)
theorem DEkJ.sn {e : Expr} {dl : LkIJ → DT} (_ : DEkJ X e dl) : SndLkJ X.K (tOfLkJ X.K dl) dl := fun κ g r f st H Hs Q Q' A C hq hd => ⟨κ, g, r, f, Hs, Q', A, C, hq, hd⟩
theorem DTkJ.sn {ifs : List Expr} {dl : LkIJ → DTT} (_ : DTkJ X ifs dl) : SndLkTJ X.K (tOfLkTJ X.K dl) dl := fun κ g r f st H Hs Q Q' A C hq hd => ⟨κ, g, r, f, Hs, Q', A, C, hq, hd⟩
theorem DEkJ.mk' {e : Expr} {t : TE} {dl : LkIJ → DT} (p : PE X e t) (s : SndLkJ X.K t dl) : DEkJ X e dl := ⟨⟨fun pins sh st H Q I ⟨κ, g, r, f, Hs, Q', A, C, hq, hd⟩ => p.run pins sh st H Q I (s κ g r f st H Hs Q Q' A C hq hd)⟩⟩
theorem DTkJ.mk' {ifs : List Expr} {t : TT} {dl : LkIJ → DTT} (p : PTs X ifs t) (s : SndLkTJ X.K t dl) : DTkJ X ifs dl := ⟨⟨fun pins sh st H Q I ⟨κ, g, r, f, Hs, Q', A, C, hq, hd⟩ => p.run pins sh st H Q I (s κ g r f st H Hs Q Q' A C hq hd)⟩⟩
theorem dek_kgetJ {k : Nat} {a b : Expr} {pos : Pos} {da db : DT} (hr : Room k X.A) (ha : DE X a da) (hb : DE X b db) (hs : NoSl b := by intro _ _; rfl) : DEkJ X (.Subscript a b pos) (dKGetJ da db) := .mk' (pe_dget (room1 hr) ha.pe hb.pe hs) (sc_kgetJ ha.sn hb.sn)
theorem dtk_nilJ : DTkJ X [] fun _ => dYes := .mk' pts_nil fun κ g r f st H Hs Q Q' A _ hq hd => hq true f H Hs (Stp.refl A.sub) A.dk hd
/-! a, b = e, {} and a, b = {}, e: the dict is owned (tuple keys in the second) -/
def sParSD (i j : Nat) (a : DT) : DTS := fun g r f E => a g (hide r) f fun x f1 => E.nx ((r.set i (.sh x)).set j (.od [] [])) f1
theorem ds_parSD {i j : Nat} {x y : Str} {a : Expr} {da : DT} {dpos px py pt : Pos} {kt k2 : Nat} {pt2 pos : Pos} (hN : X.N.Nodup) (ha : DE X a da) (hc : X.calm = true := by rfl) (hi : X.N[i]? = some x := by rfl) (hj : X.N[j]? = some y := by rfl) (hij : i ≠ j := by decide)
    (hx : X.env.scope.names.lookup x = some .local := by rfl) (hy : X.env.scope.names.lookup y = some .local := by rfl) (hst : starEach [a, (.Dict [] [] dpos)] X.env = (false, eval a X.env) :: starEach [(.Dict [] [] dpos)] X.env := by rfl) (hst2 : starEach [(.Dict [] [] dpos)] X.env = [(false, eval (.Dict [] [] dpos) X.env)] := by rfl)
    (hw : swappedStores [.Tuple [.Name x px, .Name y py] kt pt] (.Tuple [a, (.Dict [] [] dpos)] k2 pt2) X.env = pure (some [x, y]) := by rfl)
    (hs : swapsWithSole [.Tuple [.Name x px, .Name y py] kt pt] (.Tuple [a, (.Dict [] [] dpos)] k2 pt2) pos.line X.env = pure false := by rfl) :
    DS X (.Assign [.Tuple [.Name x px, .Name y py] kt pt] (.Tuple [a, .Dict [] [] dpos] k2 pt2) pos) (sParSD i j da) := DS.mk' (ps_par hc hN hi hj hij hx hy (pa_cons ha.pe (pa_cons pe_dnewK pa_nil hst2) hst) hw hs) (fun g H0 Hs0 r f st H D E s e hd => by
  obtain ⟨Hs, s⟩ := s
  refine ha.sn g _ f st H Hs _ _ s.atHid (fun x f1 v H1 Hs1 t1 k1 r1 q1 => ?_) hd
  have s1 := s.afterHid t1 k1
  intro p hp
  have lay : Stp g H1 Hs1 (upd H1 p (.dK [])) Hs1 := Stp.lay s1.stp.sub hp
  have s2 := s1.afterHid lay (s1.dk.mut (s1.dk.out hp))
  refine ⟨v, .ref p, rfl, e.nx _ f1 _ _ ⟨_, (s2.set i r1).setOwn j (u := .od [] []) rfl (s1.stp.none0 hp) (same_none s1.stp.sub hp) (fun l sl hl h1 h2 h3 => ?_) ⟨[], upd_same, rfl, rfl⟩⟩ q1⟩
  by_cases hil : i = l
  · subst hil
    by_cases hlt : i < r.length
    · rw [List.getElem?_set_self hlt] at h1
      cases h1
      cases h2
    · rw [List.getElem?_eq_none (by simpa using hlt)] at h1
      cases h1
  · rw [List.getElem?_set_ne hil] at h1 h3
    exact notO_new s1 hp l sl h1 h2 h3)
def sParTS (i j : Nat) (b : DT) : DTS := fun g r f E => b g (hide r) f fun y f1 => E.nx ((r.set i (.ot [] [])).set j (.sh y)) f1
theorem ds_parTS {i j : Nat} {x y : Str} {b : Expr} {db : DT} {dpos px py pt : Pos} {kt k2 : Nat} {pt2 pos : Pos} (hN : X.N.Nodup) (hb : DE X b db) (hc : X.calm = true := by rfl) (hi : X.N[i]? = some x := by rfl) (hj : X.N[j]? = some y := by rfl) (hij : i ≠ j := by decide)
    (hx : X.env.scope.names.lookup x = some .local := by rfl) (hy : X.env.scope.names.lookup y = some .local := by rfl) (hst : starEach [(.Dict [] [] dpos), b] X.env = (false, eval (.Dict [] [] dpos) X.env) :: starEach [b] X.env := by rfl) (hst2 : starEach [b] X.env = [(false, eval b X.env)] := by rfl)
    (hw : swappedStores [.Tuple [.Name x px, .Name y py] kt pt] (.Tuple [(.Dict [] [] dpos), b] k2 pt2) X.env = pure (some [x, y]) := by rfl)
    (hs : swapsWithSole [.Tuple [.Name x px, .Name y py] kt pt] (.Tuple [(.Dict [] [] dpos), b] k2 pt2) pos.line X.env = pure false := by rfl) :
    DS X (.Assign [.Tuple [.Name x px, .Name y py] kt pt] (.Tuple [.Dict [] [] dpos, b] k2 pt2) pos) (sParTS i j db) := DS.mk' (ps_par hc hN hi hj hij hx hy (pa_cons pe_dnewT (pa_cons hb.pe pa_nil hst2) hst) hw hs) (fun g H0 Hs0 r f st H D E s e hd => by
  obtain ⟨Hs, s⟩ := s
  intro p hp
  have lay : Stp g H Hs (upd H p (.dT [])) Hs := Stp.lay s.stp.sub hp
  have nk := s.dk.out hp
  have n0 : Hs p = none := same_none s.stp.sub hp
  have s1 := s.afterHid lay (s.dk.mut nk)
  refine hb.sn g _ f st _ Hs _ _ s1.atHid (fun y f1 v H1 Hs1 t1 k1 r1 q1 => ?_) hd
  have s2 := s1.afterHid t1 k1
  have e1 : H1 p = some (.dT []) := t1.keep p _ upd_same nk
  have n1 : Hs1 p = none := t1.new p _ upd_same n0
  exact ⟨.ref p, v, rfl, e.nx _ f1 _ H1 ⟨_, (s2.setOwn i (u := .ot [] []) rfl (s.stp.none0 hp) n1 (fun l sl _ h1 h2 => notO_new s hp l sl h1 h2) ⟨[], e1, rfl, rfl⟩).set j r1⟩ q1⟩)
/-- y = [.. for k in d ..] on one line, d locked meanwhile -/
theorem ds_setLcLkJ {j i s : Nat} {y x sn : Str} {py px ps : Pos} {elt : Expr} {ifs : List Expr} {scope : Scope} {own : List (Str × Nat)} {pos spos : Pos} {c : LkIJ → DTT} {e : LkIJ → DT} {dl : DTS} (hN : X.N.Nodup) (ok : BlkOk X.N X.env.scope scope own)
    (hg : ∀ (s' : Shared) (H : Hp) (C : Addr) (cl : List (Str × Addr)) (fp : List Addr), DG (X.blk s' H scope (compEnvC scope cl C X.env) fp) (.Name sn ps) [s] (tgN s)) (ht : ∀ (s' : Shared) (H : Hp) (C : Addr) (cl : List (Str × Addr)) (fp : List Addr), DTkJ (X.blk s' H scope (compEnvC scope cl C X.env) fp) ifs c)
    (he : ∀ (s' : Shared) (H : Hp) (C : Addr) (cl : List (Str × Addr)) (fp : List Addr), DEkJ (X.blk s' H scope (compEnvC scope cl C X.env) fp) elt e)
    (hsn : ∀ (K : PySem.W.Frag) (W : WX) (t' : TE), SndL K t' (dLcLkJ i s c e (own.map (·.2))) → SndS K W (tAsg t' (gName j)) dl)
    (hy : X.N[j]? = some y := by rfl) (hyl : X.env.scope.names.lookup y = some .local := by rfl) (hc : X.calm = true := by rfl)
    (hi : X.N[i]? = some x := by rfl) (hv : Vis X.env.scope x := by first | exact Or.inl rfl | exact Or.inr (Or.inl rfl) | exact Or.inr (Or.inr rfl)) (hd : (x == ("__debug__" : Str)) = false := by decide)
    (hcd : (x == ("__classdict__" : Str)) = false := by decide)
    (hsw : swapsWith (.ListComp elt [⟨.Name sn ps, .Name x px, ifs, 0⟩] scope pos) (some (.Name y py)) spos.line X.env = pure true := by exact sw_true rfl rfl rfl (by decide +kernel)) (hs : ∀ z, foldedSetIterable (.Name x px) X.env z = pure z := by intro _; rfl) (hsub : s ∈ own.map (·.2) := by decide) :
    DS X (.Assign [.Name y py] (.ListComp elt [⟨.Name sn ps, .Name x px, ifs, 0⟩] scope pos) spos) dl :=
  DS.mk' (ps_lock (ps_setLc (g := gOf X.K [s] (tgN s)) (tt := tOfLkTJ X.K c) (te := tOfLkJ X.K e) hc hN hy hyl hsw (pi_keys (pe_var hi hv hd hcd)) ok (fun s H C cl fp => (hg s H C cl fp).pg) (fun s H C cl fp => (ht s H C cl fp).pt) (fun s H C cl fp => (he s H C cl fp).pe) hs))
    (hsn X.K _ _ (snd_lcLkJ (hg X.s_0 (fun _ => none) 0 [] []).sn (ht X.s_0 (fun _ => none) 0 [] []).sn (he X.s_0 (fun _ => none) 0 [] []).sn hsub))
end
end DL
namespace DL
open PySem PySem.Spec PyProof.Rows L2
def topS (i : Nat) : Stmt := PySem.Challenge.pw_mayrest_k38_first_rings.main.body.getD i (.Pass ⟨0, 0, 0, 0⟩)
def clsS (i j : Nat) : Stmt := match topS i with
  | .ClassDef _ _ _ b _ _ _ _ _ _ _ => b.getD j (.Pass ⟨0, 0, 0, 0⟩)
  | s => s
section
variable {P : Program} {w : World} {K : PySem.W.Frag} {mg : Str → Option Value} {base : Heap} [Tbs]
/-! lists, one place behind the other -/
def lxLt {α : Type} [DecidableEq α] (le : α → α → Bool) : List α → List α → Bool
  | [], [] => false
  | [], _ :: _ => true
  | _ :: _, [] => false
  | x :: xs, y :: ys => if x = y then lxLt le xs ys else le x y
structure TotLe {α : Type} (le : α → α → Bool) : Prop where
  trans : ∀ a b c, le a b = true → le b c = true → le a c = true
  total : ∀ a b, (le a b || le b a) = true
  anti : ∀ a b, le a b = true → le b a = true → a = b
theorem totS : TotLe leS := ⟨leS_trans, leS_total, fun _ _ => leS_antisymm⟩
theorem totU : TotLe leU := ⟨leU_trans, leU_total, fun _ _ => leU_antisymm⟩
theorem lx_irrefl {α : Type} [DecidableEq α] {le : α → α → Bool} : ∀ l : List α, lxLt le l l = false
  | [] => rfl
  | x :: l => by rw [lxLt, if_pos rfl]; exact lx_irrefl l
theorem lx_tri {α : Type} [DecidableEq α] {le : α → α → Bool} (T : TotLe le) : ∀ a b : List α, lxLt le a b = true ∨ a = b ∨ lxLt le b a = true
  | [], [] => .inr (.inl rfl)
  | [], _ :: _ => .inl rfl
  | _ :: _, [] => .inr (.inr rfl)
  | x :: a, y :: b => by
    by_cases e : x = y
    · subst e
      rw [lxLt, lxLt, if_pos rfl, if_pos rfl]
      rcases lx_tri T a b with h | h | h
      · exact .inl h
      · exact .inr (.inl (by rw [h]))
      · exact .inr (.inr h)
    · rw [lxLt, lxLt, if_neg e, if_neg fun z => e z.symm]
      have := T.total x y
      rw [Bool.or_eq_true] at this
      exact this.imp id .inr
theorem lx_trans {α : Type} [DecidableEq α] {le : α → α → Bool} (T : TotLe le) : ∀ {a b c : List α}, lxLt le a b = true → lxLt le b c = true → lxLt le a c = true
  | [], [], _, h, _ => by cases h
  | _ :: _, [], _, h, _ => by cases h
  | [], _ :: _, [], _, h => by cases h
  | _ :: _, _ :: _, [], _, h => by cases h
  | [], _ :: _, _ :: _, _, _ => rfl
  | x :: a, y :: b, z :: c, h1, h2 => by
    rw [lxLt] at h1 h2 ⊢
    by_cases e : x = y
    · subst e
      rw [if_pos rfl] at h1
      by_cases e2 : x = z
      · subst e2
        rw [if_pos rfl] at h2 ⊢
        exact lx_trans T h1 h2
      · rw [if_neg e2] at h2 ⊢
        exact h2
    · rw [if_neg e] at h1
      by_cases e2 : y = z
      · subst e2
        rw [if_neg e]
        exact h1
      · rw [if_neg e2] at h2
        by_cases e3 : x = z
        · subst e3
          exact absurd (T.anti _ _ h1 h2) e
        · rw [if_neg e3]
          exact T.trans _ _ _ h1 h2
theorem lx_asym {α : Type} [DecidableEq α] {le : α → α → Bool} (T : TotLe le) {a b : List α} (h : lxLt le a b = true) : lxLt le b a = false := by
  cases e : lxLt le b a with
  | false => rfl
  | true => have := lx_trans T h e; rw [lx_irrefl] at this; cases this
/-- a ≤ b, b ≤ c -/
theorem lx_le {α : Type} [DecidableEq α] {le : α → α → Bool} (T : TotLe le) {a b c : List α} (h1 : lxLt le b a = false) (h2 : lxLt le c b = false) : lxLt le c a = false := by
  cases e : lxLt le c a with
  | false => rfl
  | true =>
    rcases lx_tri T a b with h | rfl | h
    · rw [lx_trans T e h] at h2; cases h2
    · rw [e] at h2; cases h2
    · rw [h] at h1; cases h1
theorem lx_app {α : Type} [DecidableEq α] {le : α → α → Bool} : ∀ {a b : List α} (c d : List α), a.length = b.length → lxLt le (a ++ c) (b ++ d) = if a = b then lxLt le c d else lxLt le a b
  | [], [], _, _, _ => by rw [if_pos rfl]; rfl
  | [], _ :: _, _, _, h => by cases h
  | _ :: _, [], _, _, h => by cases h
  | x :: a, y :: b, c, d, h => by
    have ih := lx_app (le := le) c d (a := a) (b := b) (by simpa using h)
    rw [List.cons_append, List.cons_append, lxLt]
    by_cases e : x = y
    · subst e
      rw [if_pos rfl, ih, lxLt, if_pos rfl]
      by_cases e2 : a = b
      · rw [if_pos e2, if_pos (by rw [e2])]
      · rw [if_neg e2, if_neg fun z => e2 (List.cons.inj z).2]
    · rw [if_neg e, if_neg fun z => e (List.cons.inj z).1, lxLt, if_neg e]
/-- the first one: the shortest ahead -/
structure Frst {α : Type} [DecidableEq α] (le : α → α → Bool) (P : List α → Prop) (w : List α) : Prop where
  is : P w
  least : ∀ w', P w' → w.length < w'.length ∨ (w.length = w'.length ∧ lxLt le w' w = false)
theorem Frst.uniq {α : Type} [DecidableEq α] {le : α → α → Bool} (T : TotLe le) {P : List α → Prop} {v w : List α} (h1 : Frst le P v) (h2 : Frst le P w) : v = w := by
  rcases h1.least w h2.is with a | ⟨a, a'⟩
  · rcases h2.least v h1.is with b | ⟨b, _⟩ <;> omega
  · rcases h2.least v h1.is with b | ⟨_, b'⟩
    · omega
    · rcases lx_tri T v w with h | h | h
      · rw [h] at b'; cases b'
      · exact h
      · rw [h] at a'; cases a'
theorem Frst.len {α : Type} [DecidableEq α] {le : α → α → Bool} {P : List α → Prop} {v w : List α} (h : Frst le P v) (hw : P w) : v.length ≤ w.length := by
  rcases h.least w hw with a | ⟨a, _⟩ <;> omega
open Classical in
noncomputable def frst {α : Type} [DecidableEq α] (le : α → α → Bool) (P : List α → Prop) : Option (List α) := if h : ∃ w, Frst le P w then some (Classical.choose h) else none
theorem frst_eq {α : Type} [DecidableEq α] {le : α → α → Bool} (T : TotLe le) {P : List α → Prop} {w : List α} (h : Frst le P w) : frst le P = some w := by
  have hx : ∃ w, Frst le P w := ⟨w, h⟩
  unfold frst
  rw [dif_pos hx, (Classical.choose_spec hx).uniq T h]
theorem frst_none {α : Type} [DecidableEq α] {le : α → α → Bool} {P : List α → Prop} (h : ∀ w, ¬ P w) : frst le P = none := by
  unfold frst
  exact dif_neg fun ⟨w, hw⟩ => h w hw.is
theorem frst_some {α : Type} [DecidableEq α] {le : α → α → Bool} {P : List α → Prop} {w : List α} (h : frst le P = some w) : Frst le P w := by
  unfold frst at h
  split at h
  · next hx => cases h; exact Classical.choose_spec hx
  · cases h
/-! the order of data, read as an order of lists -/
theorem dataLt_lx {α : Type} [DecidableEq α] {le : α → α → Bool} {em : α → PyData} (h1 : ∀ a b, PySem.W.alike (em a) (em b) = true) (h2 : ∀ a b, PyData.eqv (em a) (em b) = decide (a = b)) (h3 : ∀ a b, a ≠ b → PySem.W.dataLt (em a) (em b) = le a b) :
    ∀ v w : List α, PyProof.Rows.lexLt PyProof.Rows.itemOrd (PySem.W.keyToksAll (v.map em)) (PySem.W.keyToksAll (w.map em)) = lxLt le v w
  | [], [] => PyProof.Rows.lex_irrefl _
  | [], y :: w => by
    rw [List.map_nil, List.map_cons, PySem.W.toks_all_cons]
    simp only [PySem.W.keyToksAll]
    rw [PyProof.Rows.lex_diff (O := PyProof.Rows.itemOrd) (by simp)]
    rfl
  | x :: v, [] => by
    rw [List.map_nil, List.map_cons, PySem.W.toks_all_cons]
    simp only [PySem.W.keyToksAll]
    rw [PyProof.Rows.lex_diff (O := PyProof.Rows.itemOrd) (by simp)]
    rfl
  | x :: v, y :: w => by
    rw [List.map_cons, List.map_cons, lxLt, PySem.W.dataLt_cons (h1 x y), h2, dataLt_lx h1 h2 h3 v w]
    by_cases e : x = y
    · rw [if_pos e, decide_eq_true e, if_pos rfl]
    · rw [if_neg e, decide_eq_false e, if_neg Bool.false_ne_true, h3 _ _ e]
theorem alike_pairP (a b : Us) : PySem.W.alike (pairP a) (pairP b) = true := by simp [pairP, PySem.W.alike, PySem.W.alikeAll]
theorem ltS_ne {x y : Str} (h : x ≠ y) : PySem.W.dataLt (.str x) (.str y) = leS x y := by
  rw [PySem.W.dataLt_str, leS_eq]
  refine decide_eq_decide.mpr ⟨List.le_of_lt, fun q => ?_⟩
  rcases List.le_iff_lt_or_eq.mp q with q | q
  · exact q
  · exact absurd (str_ext q) h
theorem ltP_ne {a b : Us} (h : a ≠ b) : PySem.W.dataLt (pairP a) (pairP b) = leU a b := by
  unfold pairP
  rw [PySem.W.dataLt_pair rfl rfl, leU_eq]
  have e : ∀ x y : Str, PyData.eqv (.str x) (.str y) = decide (x = y) := fun x y => Bool.beq_eq_decide_eq x y
  rw [e, e]
  by_cases h1 : a.1 = b.1
  · have h2 : ¬ a.2 = b.2 := fun z => h (Prod.ext h1 z)
    rw [decide_eq_true h1, if_pos rfl, decide_eq_false h2, if_neg Bool.false_ne_true, if_pos h1.symm, if_neg fun z => h2 z.symm, ltS_ne h2]
  · rw [decide_eq_false h1, if_neg Bool.false_ne_true, if_neg fun z => h1 z.symm, ltS_ne h1]
def tpU (w : List Us) : D := .tup (w.map pairD)
theorem tpU_py (w : List Us) : (tpU w).py = .tuple (w.map pairP) := by
  show PyData.tuple (pyA (w.map pairD)) = _
  rw [pyA_pairs]
theorem ltU (v w : List Us) : PySem.W.dataLt (tpU v).py (tpU w).py = lxLt leU v w := by
  rw [tpU_py, tpU_py, PySem.W.dataLt_tuple]
  exact dataLt_lx alike_pairP eqv_pair (fun a b h => ltP_ne h) v w
theorem alike_all {α : Type} {em : α → PyData} (h1 : ∀ a b, PySem.W.alike (em a) (em b) = true) : ∀ v w : List α, PySem.W.alikeAll (v.map em) (w.map em) = true
  | [], _ => by simp [PySem.W.alikeAll]
  | x :: v, [] => by simp [PySem.W.alikeAll]
  | x :: v, y :: w => by
    simp only [List.map_cons, PySem.W.alikeAll, h1, Bool.true_and]
    exact alike_all h1 v w
theorem tpU_alike (v w : List Us) : PySem.W.alike (tpU v).py (tpU w).py = true := by
  rw [tpU_py, tpU_py]
  simp only [PySem.W.alike]
  exact alike_all alike_pairP v w
theorem tpU_lay {w : List Us} (h : ∀ u ∈ w, ascU u) : (tpU w).py.canLay0 = true := by
  rw [tpU_py]
  exact lay_pairs h
theorem tpU_depth (w : List Us) : (tpU w).py.depth ≤ 2 := by
  rw [tpU_py]
  have := depth_pairs w
  show PyData.depthAll (w.map pairP) + 1 ≤ 2
  omega
theorem pyAll_of {n : Nat} : ∀ {l : List D}, (∀ x ∈ l, x.py.canLay0 = true ∧ x.py.depth ≤ n) → PyData.canLayAll0 (pyA l) = true ∧ PyData.depthAll (pyA l) ≤ n
  | [], _ => ⟨rfl, Nat.zero_le _⟩
  | x :: l, h => by
    obtain ⟨i1, i2⟩ := pyAll_of (l := l) fun y hy => h y (by simp [hy])
    obtain ⟨x1, x2⟩ := h x (by simp)
    refine ⟨?_, Nat.max_le.mpr ⟨x2, i2⟩⟩
    show (x.py.canLay0 && PyData.canLayAll0 (pyA l)) = true
    rw [x1, i1]; rfl
theorem lt_irr (x : PyData) : PySem.W.dataLt x x = false := PyProof.Rows.lex_irrefl _
theorem lt_tr {x y z : PyData} (h1 : PySem.W.dataLt x y = true) (h2 : PySem.W.dataLt y z = true) : PySem.W.dataLt x z = true := PyProof.Rows.lex_trans _ _ _ h1 h2
theorem lt_neg {x y z : PyData} (h : PySem.W.dataLt x z = true) : PySem.W.dataLt x y = true ∨ PySem.W.dataLt y z = true := PyProof.Rows.lex_negTrans _ _ _ h
theorem minD_least : ∀ (xs : List PyData) (x : PyData), ∀ e ∈ x :: xs, PySem.W.dataLt e (PySem.W.minD x xs) = false
  | [], x, e, he => by
    rw [List.mem_singleton.mp he]
    exact lt_irr x
  | y :: ys, x, e, he => by
    have em : PySem.W.minD x (y :: ys) = PySem.W.minD (if PySem.W.dataLt y x then y else x) ys := rfl
    have ih := minD_least ys (if PySem.W.dataLt y x then y else x)
    rw [em]
    by_cases hl : PySem.W.dataLt y x = true
    · rw [if_pos hl] at ih ⊢
      rcases List.mem_cons.mp he with rfl | he
      · have h1 := ih y (by simp)
        cases hb : PySem.W.dataLt e (PySem.W.minD y ys) with
        | false => rfl
        | true => rw [lt_tr hl hb] at h1; cases h1
      · exact ih e he
    · rw [if_neg hl] at ih ⊢
      rcases List.mem_cons.mp he with rfl | he
      · exact ih e (by simp)
      rcases List.mem_cons.mp he with rfl | he
      · cases hb : PySem.W.dataLt e (PySem.W.minD x ys) with
        | false => rfl
        | true =>
          rcases lt_neg (y := x) hb with z | z
          · exact absurd z hl
          · rw [ih x (by simp)] at z; cases z
      · exact ih e (by simp [he])
theorem sortD_pw (xs : List D) : (sortD xs).Pairwise fun a b => PySem.W.dataLt b.py a.py = false := by
  have h := List.pairwise_mergeSort (le := PySem.W.dataLe false D.py) (fun a b c h1 h2 => by
    rw [PySem.W.dataLe_eq] at h1 h2 ⊢
    have h1 : (!PySem.W.dataLt b.py a.py) = true := h1
    have h2 : (!PySem.W.dataLt c.py b.py) = true := h2
    show (!PySem.W.dataLt c.py a.py) = true
    cases e : PySem.W.dataLt c.py a.py with
    | false => rfl
    | true =>
      rcases lt_neg (y := b.py) e with z | z
      · rw [z] at h2; cases h2
      · rw [z] at h1; cases h1) (fun a b => by
    rw [PySem.W.dataLe_eq]
    show ((!PySem.W.dataLt b.py a.py) || (!PySem.W.dataLt a.py b.py)) = true
    cases e : PySem.W.dataLt b.py a.py with
    | false => rfl
    | true =>
      cases e2 : PySem.W.dataLt a.py b.py with
      | false => rfl
      | true => have := lt_tr e e2; rw [lt_irr] at this; cases this) xs
  refine h.imp fun {a b} q => ?_
  rw [PySem.W.dataLe_eq] at q
  have q : (!PySem.W.dataLt b.py a.py) = true := q
  rwa [Bool.not_eq_true'] at q
theorem lt_fst {x y x' y' : PyData} (h : PySem.W.alike x x' = true) (h' : PySem.W.alike y y' = true) (hn : PySem.W.dataLt (.tuple [x, y]) (.tuple [x', y']) = false) : PySem.W.dataLt x x' = false := by
  rw [PySem.W.dataLt_pair h h'] at hn
  by_cases e : PyData.eqv x x' = true
  · have := (PySem.W.toks_eqv x x' h).1 e
    show PyProof.Rows.lexLt PyProof.Rows.itemOrd (PySem.W.keyToks x) (PySem.W.keyToks x') = false
    rw [this]
    exact PyProof.Rows.lex_irrefl _
  · rwa [if_neg e] at hn
/-! rows of a walk and where it leads, sorted -/
abbrev WE := List Us × Str
def emE (e : WE) : D := .tup [tpU e.1, .str e.2]
def sortE (es : List WE) : List WE := es.mergeSort (PySem.W.dataLe false fun e => (emE e).py)
theorem sortE_map (es : List WE) : sortD (es.map emE) = (sortE es).map emE := by
  unfold sortD sortE
  exact (List.map_mergeSort (f := emE) fun _ _ _ _ => rfl).symm
theorem sortE_mem {es : List WE} {e : WE} : e ∈ sortE es ↔ e ∈ es := (List.mergeSort_perm es _).mem_iff
theorem emE_py (e : WE) : (emE e).py = .tuple [(tpU e.1).py, .str e.2] := rfl
theorem emE_alike (a b : WE) : PySem.W.alike (emE a).py (emE b).py = true := by
  rw [emE_py, emE_py]
  simp only [PySem.W.alike, PySem.W.alikeAll, Bool.and_true]
  exact tpU_alike a.1 b.1
theorem sortE_pw (es : List WE) : (sortE es).Pairwise fun a b => lxLt leU b.1 a.1 = false := by
  have h := sortD_pw (es.map emE)
  rw [sortE_map, List.pairwise_map] at h
  refine h.imp fun {a b} q => ?_
  rw [emE_py, emE_py] at q
  have := lt_fst (tpU_alike b.1 a.1) rfl q
  rwa [ltU] at this
theorem sortsE {es : List WE} (hl : es.length ≤ 100000) (ha : ∀ e ∈ es, (∀ u ∈ e.1, ascU u) ∧ asc e.2) : Sorts (es.map emE) := by
  have one : ∀ x ∈ es.map emE, x.py.canLay0 = true ∧ x.py.depth ≤ 3 := fun x hx => by
    obtain ⟨e, he, rfl⟩ := List.mem_map.mp hx
    obtain ⟨h1, h2⟩ := ha e he
    rw [emE_py]
    refine ⟨?_, ?_⟩
    · show ((tpU e.1).py.canLay0 && (PyData.strOk e.2 && true)) = true
      rw [tpU_lay h1, asc_ok h2]; rfl
    · have := tpU_depth e.1
      show max (tpU e.1).py.depth (max 0 0) + 1 ≤ 3
      omega
  refine ⟨by rw [List.length_map]; exact L1 hl, (pyAll_of one).1, fun d hd d' hd' => ?_, .inl fun d hd => ?_, fun x hx => Nat.le_trans (one x hx).2 (by decide)⟩
  · obtain ⟨x, hx, rfl⟩ := List.mem_map.mp hd
    obtain ⟨y, hy, rfl⟩ := List.mem_map.mp hd'
    obtain ⟨a, _, rfl⟩ := List.mem_map.mp hx
    obtain ⟨b, _, rfl⟩ := List.mem_map.mp hy
    exact emE_alike a b
  · obtain ⟨x, hx, rfl⟩ := List.mem_map.mp hd
    obtain ⟨a, _, rfl⟩ := List.mem_map.mp hx
    exact ⟨_, _, emE_py a⟩
/-- min of rows of uses -/
theorem minOk_U {w : List Us} {ws : List (List Us)} {Q : D → Prop} (ha : ∀ v ∈ w :: ws, ∀ u ∈ v, ascU u) (h : ∀ v ∈ w :: ws, (∀ z ∈ w :: ws, lxLt leU z v = false) → Q (tpU v)) : minOk (tpU w) (ws.map tpU) Q := by
  have one : ∀ x ∈ (w :: ws).map tpU, x.py.canLay0 = true ∧ x.py.depth ≤ 2 := fun x hx => by
    obtain ⟨v, hv, rfl⟩ := List.mem_map.mp hx
    exact ⟨tpU_lay (ha v hv), tpU_depth v⟩
  have e0 : pyA (tpU w :: ws.map tpU) = (tpU w).py :: pyA (ws.map tpU) := rfl
  refine ⟨(pyAll_of one).1, ⟨fun x hx y hy => ?_, fun x hx => ?_⟩, Nat.le_trans (pyAll_of one).2 (by decide), fun d hd hm => ?_⟩
  · have hx : x ∈ pyA ((w :: ws).map tpU) := hx
    have hy : y ∈ pyA ((w :: ws).map tpU) := hy
    rw [pyA_map, List.map_map] at hx hy
    obtain ⟨a, _, rfl⟩ := List.mem_map.mp hx
    obtain ⟨b, _, rfl⟩ := List.mem_map.mp hy
    exact tpU_alike a b
  · have hx : x ∈ pyA ((w :: ws).map tpU) := hx
    rw [pyA_map, List.map_map] at hx
    obtain ⟨a, _, rfl⟩ := List.mem_map.mp hx
    show (tpU a).py ≠ _
    rw [tpU_py]
    intro z; cases z
  · obtain ⟨v, hv, rfl⟩ := List.mem_map.mp (show d ∈ (w :: ws).map tpU from hd)
    refine h v hv fun z hz => ?_
    have := minD_least (pyA (ws.map tpU)) (tpU w).py (tpU z).py (by
      rw [← e0, pyA_map]
      exact List.mem_map_of_mem (f := D.py) (show tpU z ∈ (w :: ws).map tpU from List.mem_map_of_mem hz))
    rw [← hm, ltU] at this
    exact this
/-! is_name -/
abbrev s_is_name : Stmt := topS 7
theorem sc_is_name : FnScope ["value", "sign"] ["value"] (defScope s_is_name) := ⟨rfl, rfl, rfl, by decide +kernel, rfl, by decide +kernel, by decide +kernel⟩
def letL : List Nat := (Str.ofString "abcdefghijklmnopqrstuvwxyz").cps.toList
def nmB (s : Str) : Bool := decide (1 ≤ s.length) && decide (s.length ≤ 8) && (cd s).all fun c => decide (c ∈ letL)
def Sp_is_name : DSp := fun _ ds f Q => ∃ s : Str, ds = [.str s] ∧ s.length ≤ 100000 ∧ Q (.bool (nmB s)) f
set_option maxHeartbeats 2000000 in
theorem ok_is_name (d : Df K mg "is_name" s_is_name) (m_all : mg "all" = none) (m_len : mg "len" = none) (m_str : mg "str" = none) (m_isinstance : mg "isinstance" = none) (g_LETTERS : ∃ t, mg "LETTERS" = some (.str "abcdefghijklmnopqrstuvwxyz" t)) (g_MAX_LETTERS : ∃ t, mg "MAX_LETTERS" = some (.int 8 t)) : Cal P w K mg base 1 "is_name" ["value"] Sp_is_name := by
  obtain ⟨f, fd, F, m⟩ := d
  refine ⟨f, fd, dfn (k := 0) (S := Sp_is_name) F sc_is_name ?len (fun cdv A outer s H E hr => (dss_one (ds_ret (de_and (de_isi m_isinstance (da_cons (de_v 0) (da_cons (de_bltn (v := .ty "str") (u := .type "str") (by rfl) m_str (by decide +kernel) rfl) da_nil))) (de_and (de_lele de_int (de_len m_len (da_cons (de_v 0) da_nil)) (de_glob (v := .int 8) (d := .int 8) (by rfl) g_MAX_LETTERS.choose_spec ⟨_, rfl⟩ (fun _ => rfl))) (de_one (de_callB (cr_all rfl) sc_all (by rfl) m_all (by decide +kernel) (da_cons (dl_lc (own := [("sign", 1)]) rfl sc_is_name.nd (di_seq (de_v 0)) (blkOk_by (own := [("sign", 1)]) (N := ["value", "sign"]) (sc := defScope s_is_name) (by decide +kernel)) (fun _ _ _ _ _ => dg_name (i := 1) sc_is_name.nd) (fun _ _ _ _ _ => dts_nil) (fun _ _ _ _ _ => (de_in hr (de_v 1) (de_glob (v := .str "abcdefghijklmnopqrstuvwxyz") (d := .str "abcdefghijklmnopqrstuvwxyz") (by rfl) g_LETTERS.choose_spec ⟨_, rfl⟩ (fun _ => rfl))))).e da_nil)))))))) ?h, F.kp, F.binds fun _ _ _ _ _ _ us hl => match us, hl with | [_], _ => rfl, m⟩
  case len =>
    intro g ds n Q h; obtain ⟨_, rfl, _⟩ := h; rfl
  case h =>
    intro g ds n Q h
    obtain ⟨s, rfl, hl, q⟩ := h
    refine ⟨"str", true, rfl, by decide +kernel, Nat.le_trans hl (by decide), ?_⟩
    unfold nmB at q
    show if decide ((1 : Int) ≤ (s.length : Int)) = true then _ else _
    by_cases h1 : 1 ≤ s.length
    · rw [decide_eq_true (by omega : (1 : Int) ≤ s.length)]
      rw [decide_eq_true h1, Bool.true_and] at q
      show if decide ((s.length : Int) ≤ 8) = true then _ else _
      by_cases h2 : s.length ≤ 8
      · rw [decide_eq_true (by omega : (s.length : Int) ≤ 8)]
        rw [decide_eq_true h2, Bool.true_and] at q
        refine ⟨?_, ?_⟩
        · unfold signs; rw [List.length_map]; rw [TL.len_tl] at h2; exact Nat.le_trans h2 (by decide)
        refine dLcGo_pure (fun _ => true) (fun d => match d with | .str z => .bool ((cd z).all fun c => decide (c ∈ letL)) | _ => .none) _ _ _ (fun d hd => ?_) ?_
        · unfold signs at hd
          obtain ⟨c, hc, rfl⟩ := List.mem_map.mp hd
          refine ⟨_, rfl, fun f Q h => h, fun _ f Q h => ⟨c, rfl, ?_⟩⟩
          have : ((cd (⟨#[c]⟩ : Str)).all fun c => decide (c ∈ letL)) = decide (c ∈ letL) := by show ([c].all fun c => decide (c ∈ letL)) = _; simp
          have h : Q (.bool ((cd (⟨#[c]⟩ : Str)).all fun c => decide (c ∈ letL))) f := h
          rw [this] at h
          exact h
        · refine ⟨(cd s).map fun c => decide (c ∈ letL), ?_, ?_⟩
          · rw [List.filter_eq_self.mpr (fun _ _ => rfl), List.nil_append]
            unfold signs
            rw [List.map_map, List.map_map]
            apply List.map_congr_left
            intro c _
            show D.bool ((cd (⟨#[c]⟩ : Str)).all fun c => decide (c ∈ letL)) = D.bool (decide (c ∈ letL))
            congr 1
            show ([c].all fun c => decide (c ∈ letL)) = _
            simp
          · rw [show (((cd s).map fun c => decide (c ∈ letL)).all id) = (cd s).all fun c => decide (c ∈ letL) from by rw [List.all_map]; rfl]
            exact q
      · rw [decide_eq_false (by omega : ¬ (s.length : Int) ≤ 8)]
        rw [decide_eq_false h2, Bool.false_and] at q
        exact q
    · rw [decide_eq_false (by omega : ¬ (1 : Int) ≤ s.length)]
      rw [decide_eq_false h1, Bool.false_and, Bool.false_and] at q
      exact q
/-! is_path -/
abbrev s_is_path : Stmt := topS 8
theorem sc_is_path : FnScope ["value", "names", "name"] ["value"] (defScope s_is_path) := ⟨rfl, rfl, rfl, by decide +kernel, rfl, by decide +kernel, by decide +kernel⟩
def pathB (s : Str) : Bool := decide ((Txt.split s ".").length ≤ 6) && (Txt.split s ".").all nmB
def isPathD : D → Bool
  | .str s => pathB s
  | _ => false
def Sp_is_path : DSp := fun _ ds f Q => ∃ x : D, ds = [x] ∧ x.tyd = true ∧ (∀ s, x = .str s → s.length ≤ 100000) ∧ Q (.bool (isPathD x)) f
theorem tyd_isi {x : D} (h : x.tyd = true) : ∃ t, x.tyN = some t ∧ kitB t "str" = some x.isSt := by
  cases x <;> first
    | (cases h; done)
    | (refine ⟨_, rfl, ?_⟩; simp only [D.isSt]; decide +kernel)
theorem split_part_len {s x : Str} (h : x ∈ Txt.split s ".") : x.length ≤ s.length := by
  have hm : cd x ∈ sp (cd s) := by rw [← split_cd]; exact List.mem_map_of_mem h
  have : ∀ (l n : List Nat), n ∈ sp l → n.length ≤ l.length := by
    intro l
    induction l with
    | nil => intro n hn; simp [sp] at hn; simp [hn]
    | cons c r ih =>
      intro n hn
      unfold sp at hn
      split at hn
      · rcases List.mem_cons.mp hn with e | e
        · simp [e]
        · have := ih n e; simp only [List.length_cons]; omega
      · cases e : sp r with
        | nil => exact absurd e (sp_ne r)
        | cons a t =>
          rw [e] at hn ih
          rcases List.mem_cons.mp hn with e' | e'
          · subst e'; have := ih a (by simp); simp only [List.length_cons]; omega
          · have := ih n (by simp [e']); simp only [List.length_cons]; omega
  rw [TL.len_tl, TL.len_tl]
  exact this _ _ hm
set_option maxHeartbeats 2000000 in
theorem ok_is_path (d : Df K mg "is_path" s_is_path) (m_all : mg "all" = none) (m_len : mg "len" = none) (m_str : mg "str" = none) (m_isinstance : mg "isinstance" = none) (g_MAX_NAMES : ∃ t, mg "MAX_NAMES" = some (.int 6 t)) (c_is_name : Cal P w K mg base 1 "is_name" ["value"] Sp_is_name) : Cal P w K mg base 2 "is_path" ["value"] Sp_is_path := by
  obtain ⟨f, fd, F, m⟩ := d
  refine ⟨f, fd, dfn (k := 1) (S := Sp_is_path) F sc_is_path ?len (fun cdv A outer s H E hr => (dss_cons (ds_if (dp_not (dp_val (de_isi m_isinstance (da_cons (de_v 0) (da_cons (de_bltn (v := .ty "str") (u := .type "str") (by rfl) m_str (by decide +kernel) rfl) da_nil))))) (dss_one (ds_ret de_bl)) dss_nil)
      (dss_cons (ds_set false (i := 1) sc_is_path.nd (dl_split (de_v 0) de_str).e)
      (dss_one (ds_ret (de_and (de_le (de_len m_len (da_cons (de_v 1) da_nil)) (de_glob (v := .int 6) (d := .int 6) (by rfl) g_MAX_NAMES.choose_spec ⟨_, rfl⟩ (fun _ => rfl))) (de_one (de_callB (cr_all rfl) sc_all (by rfl) m_all (by decide +kernel) (da_cons (dl_lc (own := [("name", 2)]) rfl sc_is_path.nd (di_seq (de_v 1)) (blkOk_by (own := [("name", 2)]) (N := ["value", "names", "name"]) (sc := defScope s_is_path) (by decide +kernel)) (fun _ _ _ _ _ => dg_name (i := 2) sc_is_path.nd) (fun _ _ _ _ _ => dts_nil) (fun _ _ _ _ _ => (de_callC c_is_name (hr.mono (by decide)) (da_cons (de_v 2) da_nil)))).e da_nil))))))))) ?h, F.kp, F.binds fun _ _ _ _ _ _ us hl => match us, hl with | [_], _ => rfl, m⟩
  case len =>
    intro g ds n Q h; obtain ⟨_, rfl, _⟩ := h; rfl
  case h =>
    intro g ds n Q h
    obtain ⟨x, rfl, hx, hl, q⟩ := h
    obtain ⟨t, ht, hk⟩ := tyd_isi hx
    refine ⟨t, _, ht, hk, ?_⟩
    cases x with
    | str s =>
      have hs := hl s rfl
      refine ⟨by decide +kernel, Nat.le_trans hs (by decide), ?_⟩
      show if decide ((((Txt.split s ".").map D.str).length : Int) ≤ 6) = true then _ else _
      rw [List.length_map]
      have q : Q (.bool (decide ((Txt.split s ".").length ≤ 6) && (Txt.split s ".").all nmB)) n := q
      by_cases h6 : (Txt.split s ".").length ≤ 6
      · rw [decide_eq_true (by omega : ((Txt.split s ".").length : Int) ≤ 6)]
        rw [decide_eq_true h6, Bool.true_and] at q
        refine ⟨by rw [List.length_map]; exact Nat.le_trans h6 (by decide), ?_⟩
        refine dLcGo_pure (fun _ => true) (fun d => match d with | .str z => .bool (nmB z) | _ => .none) _ _ _ (fun d hd => ?_) ?_
        · obtain ⟨z, hz, rfl⟩ := List.mem_map.mp hd
          exact ⟨_, rfl, fun f Q h => h, fun _ f Q h => ⟨z, rfl, Nat.le_trans (split_part_len hz) hs, h⟩⟩
        · refine ⟨(Txt.split s ".").map nmB, ?_, ?_⟩
          · rw [List.filter_eq_self.mpr (fun _ _ => rfl), List.nil_append, List.map_map, List.map_map]; rfl
          · rw [show (((Txt.split s ".").map nmB).all id) = (Txt.split s ".").all nmB from by rw [List.all_map]; rfl]
            exact q
      · rw [decide_eq_false (by omega : ¬ ((Txt.split s ".").length : Int) ≤ 6)]
        rw [decide_eq_false h6, Bool.false_and] at q
        exact q
    | dtt _ _ => cases hx
    | ktup _ => cases hx
    | obj _ _ _ => cases hx
    | any _ => cases hx
    | _ => exact q
/-! covers -/
abbrev s_covers : Stmt := topS 9
theorem sc_covers : FnScope ["path", "other"] ["path", "other"] (defScope s_covers) := ⟨rfl, rfl, rfl, by decide +kernel, rfl, by decide +kernel, by decide +kernel⟩
def Sp_covers : DSp := fun _ ds f Q => ∃ p o : Str, ds = [.str p, .str o] ∧ p.length ≤ 100000 ∧ Q (.bool (cov p o)) f
set_option maxHeartbeats 2000000 in
theorem ok_covers (d : Df K mg "covers" s_covers) : Cal P w K mg base 1 "covers" ["path", "other"] Sp_covers := by
  obtain ⟨f, fd, F, m⟩ := d
  refine ⟨f, fd, dfn (k := 0) (S := Sp_covers) F sc_covers ?len (fun cdv A outer s H E hr => (dss_one (ds_ret (de_or (de_eq hr.units (de_v 1) (de_v 0)) (de_one (de_starts (de_v 1) (de_add (de_v 0) de_str))))))) ?h, F.kp, F.binds fun _ _ _ _ _ _ us hl => match us, hl with | [_, _], _ => rfl, m⟩
  case len =>
    intro g ds n Q h; obtain ⟨_, _, rfl, _⟩ := h; rfl
  case h =>
    intro g ds n Q h
    obtain ⟨p, o, rfl, hl, q⟩ := h
    unfold cov at q
    show if decide (o = p) = true then Q (.bool true) n else _
    cases e : decide (o = p) with
    | true => rw [e] at q; exact q
    | false =>
      rw [e] at q
      refine iteF ⟨trivial, ?_, q⟩
      exact Nat.le_trans (Nat.add_le_add_right hl 1) (by decide)
/-! overlap -/
abbrev s_overlap : Stmt := topS 10
theorem sc_overlap : FnScope ["path", "other"] ["path", "other"] (defScope s_overlap) := ⟨rfl, rfl, rfl, by decide +kernel, rfl, by decide +kernel, by decide +kernel⟩
def Sp_overlap : DSp := fun _ ds f Q => ∃ p o : Str, ds = [.str p, .str o] ∧ p.length ≤ 100000 ∧ o.length ≤ 100000 ∧ Q (.bool (cov p o || cov o p)) f
set_option maxHeartbeats 2000000 in
theorem ok_overlap (d : Df K mg "overlap" s_overlap) (c_covers : Cal P w K mg base 1 "covers" ["path", "other"] Sp_covers) : Cal P w K mg base 2 "overlap" ["path", "other"] Sp_overlap := by
  obtain ⟨f, fd, F, m⟩ := d
  refine ⟨f, fd, dfn (k := 1) (S := Sp_overlap) F sc_overlap ?len (fun cdv A outer s H E hr => (dss_one (ds_ret (de_or (de_callC c_covers (hr.mono (by decide)) (da_cons (de_v 0) (da_cons (de_v 1) da_nil))) (de_one (de_callC c_covers (hr.mono (by decide)) (da_cons (de_v 1) (da_cons (de_v 0) da_nil)))))))) ?h, F.kp, F.binds fun _ _ _ _ _ _ us hl => match us, hl with | [_, _], _ => rfl, m⟩
  case len =>
    intro g ds n Q h; obtain ⟨_, _, rfl, _⟩ := h; rfl
  case h =>
    intro g ds n Q h
    obtain ⟨p, o, rfl, h1, h2, q⟩ := h
    refine ⟨p, o, rfl, h1, ?_⟩
    cases e : cov p o with
    | true => rw [e] at q; exact q
    | false =>
      rw [e] at q
      exact ⟨o, p, rfl, h2, q⟩
/-! first_overlap -/
abbrev s_first_overlap : Stmt := topS 12
theorem sc_first_overlap : FnScope ["paths", "others", "path", "other"] ["paths", "others"] (defScope s_first_overlap) := ⟨rfl, rfl, rfl, by decide +kernel, rfl, by decide +kernel, by decide +kernel⟩
def ovl (p o : Str) : Bool := cov p o || cov o p
def firstOv (ps os : List Str) : D := match ps.find? fun p => os.any (ovl p) with
  | some p => .str p
  | none => .none
def short (l : List Str) : Prop := l.length ≤ 1000 ∧ ∀ s ∈ l, s.length ≤ 10000 ∧ asc s
def Sp_first_overlap : DSp := fun _ ds f Q => ∃ ps os : List Str, ds = [.tup (ps.map D.str), .tup (os.map D.str)] ∧ short ps ∧ short os ∧ Q (firstOv ps os) f
theorem any_filter (os : List Str) (b : Str → Bool) : decide (os.filter b = []) = !os.any b := by
  induction os with
  | nil => rfl
  | cons x l ih =>
    rw [List.filter_cons, List.any_cons]
    cases b x with
    | true => simp
    | false => simpa using ih
set_option maxHeartbeats 2000000 in
theorem ok_first_overlap (d : Df K mg "first_overlap" s_first_overlap) (c_overlap : Cal P w K mg base 2 "overlap" ["path", "other"] Sp_overlap) : Cal P w K mg base 3 "first_overlap" ["paths", "others"] Sp_first_overlap := by
  obtain ⟨f, fd, F, m⟩ := d
  refine ⟨f, fd, dfn (k := 2) (S := Sp_first_overlap) F sc_first_overlap ?len (fun cdv A outer s H E hr => (dss_cons (ds_for [] PassesOwn.never (di_seq (de_v 0)) (dg_name (i := 2) sc_first_overlap.nd) (dss_one (ds_if (dp_ne hr.units (dl_lc (own := [("other", 3)]) rfl sc_first_overlap.nd (di_seq (de_v 1)) (blkOk_by (own := [("other", 3)]) (N := ["paths", "others", "path", "other"]) (sc := defScope s_first_overlap) (by decide +kernel)) (fun _ _ _ _ _ => dg_name (i := 3) sc_first_overlap.nd) (fun _ _ _ _ _ => dts_one (dp_val (de_callC c_overlap (hr.mono (by decide)) (da_cons (de_v 2) (da_cons (de_v 3) da_nil))))) (fun _ _ _ _ _ => (de_v 3))).e (dl_lst da_nil).e) (dss_one (ds_ret (de_v 2))) dss_nil)))
      (dss_one (ds_ret de_non)))) ?h, F.kp, F.binds fun _ _ _ _ _ _ us hl => match us, hl with | [_, _], _ => rfl, m⟩
  case len =>
    intro g ds n Q h; obtain ⟨_, _, rfl, _⟩ := h; rfl
  case h =>
    intro g ds n Q h
    obtain ⟨ps, os, rfl, hp, ho, q⟩ := h
    refine dFor_inv (fun rest r f => f = n ∧ ∃ (ms : List Str) (a c e : Sl), rest = ms.map D.str ∧ r = [a, .sh (.tup (os.map D.str)), c, e] ∧ (∀ m ∈ ms, m ∈ ps) ∧ firstOv ms os = firstOv ps os) _ _ _ ?_ ?_ ⟨rfl, ps, _, _, _, rfl, rfl, fun _ h => h, rfl⟩
    · rintro d rest r f N ⟨rfl, ms, a, c, e, hms, rfl, hsub, heq⟩ hN
      match ms, hms with
      | m :: ms, hms =>
      obtain ⟨rfl, rfl⟩ := List.cons.inj hms
      refine ⟨_, rfl, ?_⟩
      have hm := hp.2 m (hsub m (by simp))
      refine ⟨by rw [List.length_map]; exact Nat.le_trans ho.1 (by decide), ?_⟩
      refine dLcGo_pure (fun d => match d with | .str z => ovl m z | _ => false) id _ _ _ (fun d hd => ?_) ?_
      · obtain ⟨z, hz, rfl⟩ := List.mem_map.mp hd
        have hz' := ho.2 z hz
        exact ⟨_, rfl, fun f Q h => ⟨m, z, rfl, Nat.le_trans hm.1 (by decide), Nat.le_trans hz'.1 (by decide), h⟩, fun _ f Q h => h⟩
      · rw [List.map_id, List.nil_append, filter_strs _ (ovl m) _ (fun s => rfl)]
        refine ⟨by decide, ?_⟩
        show oEq true (.lst ((os.filter (ovl m)).map D.str)) (.lst (([] : List Str).map D.str)) _
        refine oEq_lst (m := []) (fun s hs => (ho.2 s (List.mem_filter.mp hs).1).2) (by simp) ?_
        show if (!decide (os.filter (ovl m) = [])) = true then _ else _
        rw [any_filter, Bool.not_not]
        unfold firstOv at heq
        rw [List.find?_cons] at heq
        cases hb : os.any (ovl m) with
        | true =>
          rw [hb] at heq
          have : firstOv ps os = .str m := heq.symm
          rw [this] at q
          exact q
        | false =>
          rw [hb] at heq
          exact hN _ _ ⟨rfl, ms, _, _, _, rfl, rfl, fun m' h' => hsub m' (by simp [h']), heq⟩
    · rintro r f ⟨rfl, ms, a, c, e, hms, rfl, hsub, heq⟩
      obtain rfl : ms = [] := by
        match ms, hms with
        | [], _ => rfl
      rw [← heq] at q
      exact q
def rpB (s : Str) : Bool := pathB s && decide ((Txt.split s ".").length ≤ 4)
def ovlL : List Str → Bool
  | [] => false
  | p :: ps => ps.any (fun q => ovl q p) || ovlL ps
theorem ovlL_snoc (ps : List Str) (q : Str) : ovlL (ps ++ [q]) = (ovlL ps || ps.any (fun p => ovl q p)) := by
  induction ps with
  | nil => rfl
  | cons p ps ih =>
    show ((ps ++ [q]).any (fun q => ovl q p) || ovlL (ps ++ [q])) = ((ps.any (fun q => ovl q p) || ovlL ps) || (ovl q p || ps.any fun p => ovl q p))
    rw [ih, List.any_append, List.any_cons, List.any_nil, Bool.or_false]
    cases ps.any (fun q => ovl q p) <;> cases ovl q p <;> cases ovlL ps <;> simp
theorem ovlL_pre {A B : List Str} (h : ovlL (A ++ B) = false) : ovlL A = false := by
  induction A with
  | nil => rfl
  | cons p A ih =>
    have h : (((A ++ B).any fun q => ovl q p) || ovlL (A ++ B)) = false := h
    rw [Bool.or_eq_false_iff, List.any_append, Bool.or_eq_false_iff] at h
    show ((A.any fun q => ovl q p) || ovlL A) = false
    rw [h.1.1, ih h.2]
    rfl
abbrev tps (l : List Str) : D := .tup (l.map D.str)
inductive Rl where
  | forbid (ss ts : List Str) (ch : Bool)
  | layers (rows : List (List Str)) (ch : Bool)
  | stairs (rows : List (List Str))
  | apart (ps : List Str) (ch : Bool)
  | only (ts us : List Str)
  | face (p : Str) (es : List Str)
  | noring (ps : List Str)
def howS (ch : Bool) : Str := if ch = true then "chain" else "direct"
def Rl.wd : Rl → Str
  | .forbid _ _ _ => "forbid"
  | .layers _ _ => "layers"
  | .stairs _ => "stairs"
  | .apart _ _ => "apart"
  | .only _ _ => "only"
  | .face _ _ => "face"
  | .noring _ => "noring"
def Rl.items : Rl → List D
  | .forbid ss ts ch => [tps ss, tps ts, .str (howS ch)]
  | .layers rows ch => [.tup (rows.map tps), .str (howS ch)]
  | .stairs rows => [.tup (rows.map tps)]
  | .apart ps ch => [tps ps, .str (howS ch)]
  | .only ts us => [tps ts, tps us]
  | .face p es => [.str p, tps es]
  | .noring ps => [tps ps]
def Rl.d (r : Rl) : D := .tup (.str r.wd :: r.items)
def Rl.par : Rl → List Str
  | .forbid ss ts _ => ss ++ ts
  | .layers rows _ => rows.flatten
  | .stairs rows => rows.flatten
  | .apart ps _ => ps
  | .only ts us => ts ++ us
  | .face _ es => es
  | .noring ps => ps
def rPs (l m : Nat) (ps : List Str) : Prop := l ≤ ps.length ∧ ps.length ≤ m ∧ ∀ p ∈ ps, rpB p = true
def rRows (rows : List (List Str)) : Prop := 2 ≤ rows.length ∧ rows.length ≤ 5 ∧ ∀ r ∈ rows, rPs 1 4 r
/-- all items are as described -/
def Rl.form : Rl → Prop
  | .forbid ss ts _ => rPs 1 6 ss ∧ rPs 1 6 ts
  | .layers rows _ => rRows rows
  | .stairs rows => rRows rows
  | .apart ps _ => rPs 2 6 ps
  | .only ts us => rPs 1 6 ts ∧ rPs 0 6 us
  | .face p es => rpB p = true ∧ rPs 0 6 es ∧ ∀ e ∈ es, cov p e = true ∧ e ≠ p
  | .noring ps => rPs 2 6 ps
/-! modules_error -/
abbrev s_modules_error : Stmt := topS 38
theorem sc_modules_error : FnScope ["modules", "index", "path"] ["modules"] (defScope s_modules_error) := ⟨rfl, rfl, rfl, by decide +kernel, rfl, by decide +kernel, by decide +kernel⟩
structure PVm (ms : List Str) : Prop where
  len : ms.length ≤ 24
  path : ∀ m ∈ ms, PathN 6 m
  apart : ms.Pairwise fun a b => ovl b a = false
def Sp_modules_error : DSp := fun _ ds f Q => ∃ ms : List Str, ds = [.tup (ms.map D.str)] ∧ PVm ms ∧ Q .none f
theorem isName_nmB {s : Str} (h : isName s) : nmB s = true := by
  unfold nmB
  rw [decide_eq_true h.1, decide_eq_true h.2.1]
  show (cd s).all _ = true
  rw [List.all_eq_true]
  intro c hc
  have hb := h.2.2 c hc
  have : ∀ c : Nat, 97 ≤ c → c ≤ 122 → c ∈ letL := by
    intro c h1 h2
    have h3 : c < 123 := by omega
    revert h1 h2
    have : ∀ c < 123, 97 ≤ c → c ≤ 122 → c ∈ letL := by decide +kernel
    exact this c h3
  exact decide_eq_true (this c hb.1 hb.2)
theorem PathN.splits {m : Nat} {x : Str} (h : PathN m x) : 1 ≤ (Txt.split x ".").length ∧ (Txt.split x ".").length ≤ m ∧ (∀ n ∈ Txt.split x ".", isName n) ∧ Txt.join "." (Txt.split x ".") = x := by
  obtain ⟨ns, n1, n2, n3, rfl⟩ := h
  rw [split_join_names (fun z => by rw [z] at n1; simp at n1) n3]
  exact ⟨n1, n2, n3, rfl⟩
theorem PathN.pathB {x : Str} (h : PathN 6 x) : pathB x = true := by
  obtain ⟨h1, h2, h3, h4⟩ := h.splits
  unfold DL.pathB
  rw [decide_eq_true h2, Bool.true_and, List.all_eq_true]
  exact fun n hn => isName_nmB (h3 n hn)
theorem PVm.short {ms : List Str} (h : PVm ms) : short ms := ⟨Nat.le_trans h.len (by decide), fun s hs => ⟨Nat.le_trans (h.path s hs).len (by decide), (h.path s hs).asc⟩⟩
theorem PVm.sub {l m : List Str} (h : PVm m) (p : l.Sublist m) : PVm l := ⟨Nat.le_trans p.length_le h.len, fun s hs => h.path s (p.subset hs), h.apart.sublist p⟩
theorem ovl_self (m : Str) : ovl m m = true := by
  unfold ovl cov
  rw [decide_eq_true (rfl : m = m)]
  rfl
theorem PVm.nd {m : List Str} (h : PVm m) : m.Nodup := h.apart.imp fun {a b} e z => by
  rw [z, ovl_self] at e
  cases e
theorem PVm.asc {m : List Str} (h : PVm m) : ∀ s ∈ m, asc s := fun s hs => (h.path s hs).asc
set_option maxHeartbeats 2000000 in
theorem ok_modules_error (d : Df K mg "modules_error" s_modules_error) (m_enumerate : mg "enumerate" = none) (m_len : mg "len" = none) (m_tuple : mg "tuple" = none) (m_isinstance : mg "isinstance" = none) (g_MAX_MODULES : ∃ t, mg "MAX_MODULES" = some (.int 24 t)) (c_first_overlap : Cal P w K mg base 3 "first_overlap" ["paths", "others"] Sp_first_overlap) (c_is_path : Cal P w K mg base 2 "is_path" ["value"] Sp_is_path) : Cal P w K mg base 4 "modules_error" ["modules"] Sp_modules_error := by
  obtain ⟨f, fd, F, m⟩ := d
  refine ⟨f, fd, dfn (k := 3) (S := Sp_modules_error) F sc_modules_error ?len (fun cdv A outer s H E hr => (dss_cons (ds_if (DW.p (dw_or (dp_not (dp_val (de_isi m_isinstance (da_cons (de_v 0) (da_cons (de_bltn (v := .ty "tuple") (u := .type "tuple") (by rfl) m_tuple (by decide +kernel) rfl) da_nil))))) (dw_or1 (dp_gt (de_len m_len (da_cons (de_v 0) da_nil)) (de_glob (v := .int 24) (d := .int 24) (by rfl) g_MAX_MODULES.choose_spec ⟨_, rfl⟩ (fun _ => rfl)))))) (dss_one (ds_ret (de_tup (da_cons de_non (da_cons de_str da_nil))))) dss_nil)
      (dss_cons (ds_for [] PassesOwn.never (di_enum m_enumerate (da_cons (de_v 0) da_nil)) (dg_tup rfl (dgs_cons (dg_name (i := 1) sc_modules_error.nd) (dgs_cons (dg_name (i := 2) sc_modules_error.nd) dgs_nil))) (dss_cons (ds_if (dp_not (dp_val (de_callC c_is_path (hr.mono (by decide)) (da_cons (de_v 2) da_nil)))) (dss_one (ds_ret (de_tup (da_cons (de_v 1) (da_cons de_str da_nil))))) dss_nil)
      (dss_one (ds_if (dp_notN (de_callC c_first_overlap (hr.mono (by decide)) (da_cons (de_tup (da_cons (de_v 2) da_nil)) (da_cons (de_sl (de_v 0) do_none (do_some (de_v 1))) da_nil))) de_non) (dss_one (ds_ret (de_tup (da_cons (de_v 1) (da_cons de_str da_nil))))) dss_nil))))
      (dss_one (ds_ret de_non))))) ?h, F.kp, F.binds fun _ _ _ _ _ _ us hl => match us, hl with | [_], _ => rfl, m⟩
  case len =>
    intro g ds n Q h; obtain ⟨_, rfl, _⟩ := h; rfl
  case h =>
    intro g ds n Q h
    obtain ⟨ms, rfl, hv, q⟩ := h
    refine ⟨"tuple", true, rfl, by decide +kernel, ?_⟩
    show if decide ((((ms.map D.str).length : Int)) > 24) = true then _ else _
    rw [List.length_map, decide_eq_false (by have := hv.len; omega)]
    refine iteF ?_
    refine dFor_inv (fun rest r f => f = n ∧ ∃ (i : Nat) (a c : Sl), rest = (enumD (ms.map D.str)).drop i ∧ r = [.sh (.tup (ms.map D.str)), a, c]) _ _ _ ?_ (fun r f ⟨e, _⟩ => by subst e; exact q) ⟨rfl, 0, _, _, rfl, rfl⟩
    rintro d rest r f N ⟨rfl, i, a, c, hr, rfl⟩ hN
    have hd : (enumD (ms.map D.str))[i]? = some d := by
      have := congrArg List.head? hr
      rw [List.head?_drop] at this
      exact this.symm
    obtain ⟨x, hx, rfl⟩ := enumD_get hd
    rw [List.getElem?_map] at hx
    cases em : ms[i]? with
    | none => rw [em] at hx; cases hx
    | some m =>
      rw [em] at hx
      cases hx
      have hm : m ∈ ms := List.mem_of_getElem? em
      have hp := hv.path m hm
      refine ⟨_, rfl, .str m, rfl, rfl, fun s e => ?_, ?_⟩
      · cases e
        exact Nat.le_trans hp.len (by decide)
      · show if (!pathB m) = true then _ else _
        rw [hp.pathB]
        have hi : i < ms.length := (List.getElem?_eq_some_iff.mp em).1
        have et : cutD (ms.map D.str) none (some (i : Int)) = (ms.take i).map D.str := by rw [cutD_take, List.map_take]
        have hno : firstOv [m] (ms.take i) = .none := by
          unfold firstOv
          rw [List.find?_cons]
          have : (ms.take i).any (ovl m) = false := by
            rw [List.any_eq_false]
            intro z hz
            obtain ⟨j, hj, ez⟩ := List.getElem_of_mem hz
            rw [List.length_take] at hj
            rw [List.getElem_take] at ez
            have := List.pairwise_iff_getElem.mp hv.apart j i (by omega) hi (by omega)
            obtain ⟨_, e2⟩ := List.getElem?_eq_some_iff.mp em
            rw [ez, e2] at this
            rw [this]
            decide
          rw [this]
          rfl
        refine iteF ⟨show 1 ≤ lim by decide, [m], ms.take i, ?_, ⟨show 1 ≤ 1000 by decide, fun s hs => by rw [List.mem_singleton.mp hs]; exact hv.short.2 m hm⟩, ⟨Nat.le_trans (by rw [List.length_take]; exact Nat.min_le_right _ _) hv.short.1, fun s hs => hv.short.2 s (List.mem_of_mem_take hs)⟩, ?_⟩
        · show [D.tup [D.str m], D.tup (cutD (ms.map D.str) none (some (i : Int)))] = _
          rw [et]
          rfl
        · rw [hno]
          refine hN _ _ ⟨rfl, i + 1, _, _, ?_, rfl⟩
          rw [← List.tail_drop, ← hr]
          rfl
theorem nmB_isName {s : Str} (h : nmB s = true) : isName s := by
  unfold nmB at h
  rw [Bool.and_eq_true, Bool.and_eq_true, decide_eq_true_iff, decide_eq_true_iff, List.all_eq_true] at h
  refine ⟨h.1.1, h.1.2, fun c hc => ?_⟩
  have := of_decide_eq_true (h.2 c hc)
  have all : ∀ c ∈ letL, 97 ≤ c ∧ c ≤ 122 := by decide +kernel
  exact all c this
theorem rp_path {s : Str} : rpB s = true ↔ PathN 4 s := by
  unfold rpB
  rw [Bool.and_eq_true, decide_eq_true_iff]
  constructor
  · rintro ⟨h1, h2⟩
    unfold pathB at h1
    rw [Bool.and_eq_true, List.all_eq_true] at h1
    exact ⟨Txt.split s ".", split_pos s, h2, fun n hn => nmB_isName (h1.2 n hn), (join_split s).symm⟩
  · intro h
    exact ⟨(h.mono (by decide)).pathB, h.splits.2.1⟩
theorem rp_asc {s : Str} (h : rpB s = true) : asc s ∧ s.length ≤ 36 := ⟨(rp_path.mp h).asc, (rp_path.mp h).len⟩
/-! covered -/
abbrev s_covered : Stmt := topS 11
theorem sc_covered : FnScope ["paths", "path", "other"] ["paths", "path"] (defScope s_covered) := ⟨rfl, rfl, rfl, by decide +kernel, rfl, by decide +kernel, by decide +kernel⟩
def covd (ps : List Str) (x : Str) : D := match ps.find? (fun p => cov p x) with
  | some p => .str p
  | none => .none
def Sp_covered : DSp := fun _ ds f Q => ∃ (ps : List Str) (x : Str), (ds = [.tup (ps.map D.str), .str x] ∨ ds = [.lst (ps.map D.str), .str x]) ∧ (∀ p ∈ ps, p.length ≤ 100000) ∧ Q (covd ps x) f
set_option maxHeartbeats 2000000 in
theorem ok_covered (d : Df K mg "covered" s_covered) (c_covers : Cal P w K mg base 1 "covers" ["path", "other"] Sp_covers) : Cal P w K mg base 2 "covered" ["paths", "path"] Sp_covered := by
  obtain ⟨f, fd, F, m⟩ := d
  refine ⟨f, fd, dfn (k := 1) (S := Sp_covered) F sc_covered ?len (fun cdv A outer s H E hr => (dss_cons (ds_for [] PassesOwn.never (di_seq (de_v 0)) (dg_name (i := 2) sc_covered.nd) (dss_one (ds_if (dp_val (de_callC c_covers (hr.mono (by decide)) (da_cons (de_v 2) (da_cons (de_v 1) da_nil)))) (dss_one (ds_ret (de_v 2))) dss_nil)))
      (dss_one (ds_ret de_non)))) ?h, F.kp, F.binds fun _ _ _ _ _ _ us hl => match us, hl with | [_, _], _ => rfl, m⟩
  case len =>
    intro g ds n Q h; obtain ⟨_, _, rfl | rfl, _⟩ := h <;> rfl
  case h =>
    intro g ds n Q h
    obtain ⟨ps, x, hds, hl, q⟩ := h
    have main : ∀ (ps : List Str) (r : Sg), (∀ p ∈ ps, p.length ≤ 100000) → r.length = 3 → r[1]? = some (.sh (.str x)) → Q (covd ps x) n →
        dForGo g (tgN 2) (sIf (dTest (dCall Sp_covers (dCons (dVar 2) (dCons (dVar 1) dNil)))) (sRet (dVar 2)) sNext) { nx := fun r' f' => sRet (dC .none) g r' f' { nx := fun _ n => Q .none n, rt := Q }, rt := Q } (ps.map D.str) r n := by
      intro ps
      induction ps with
      | nil => intro r _ _ _ h; exact h
      | cons p ps ih =>
        intro r hl h3 h1 h
        obtain ⟨a, b, c, rfl⟩ : ∃ a b c, r = [a, b, c] := by
          match r, h3 with
          | [a, b, c], _ => exact ⟨a, b, c, rfl⟩
        cases h1
        refine ⟨p, x, rfl, hl p (by simp), ?_⟩
        unfold covd at h
        rw [List.find?_cons] at h
        cases e : cov p x with
        | true => rw [e] at h; exact h
        | false =>
          rw [e] at h
          exact ih [a, .sh (.str x), .sh (.str p)] (fun p hp => hl p (by simp [hp])) rfl rfl h
    rcases hds with rfl | rfl
    · exact main ps _ hl rfl rfl q
    · exact main ps _ hl rfl rfl q
/-! where a module stands for a rule -/
def homeO (ps : List Str) (m : Str) : Option Str := ps.find? fun p => cov p m
def oD : Option Str → D
  | some s => .str s
  | none => .none
theorem covd_eq (ps : List Str) (m : Str) : covd ps m = oD (homeO ps m) := by
  unfold covd homeO oD
  cases List.find? (fun p => cov p m) ps <;> rfl
def rowAt : Nat → List (List Str) → Str → Option (Nat × Str)
  | _, [], _ => none
  | i, r :: rs, m => match homeO r m with
    | some p => some (i, p)
    | none => rowAt (i + 1) rs m
def rowD : Option (Nat × Str) → D
  | some (i, p) => .tup [.int i, .str p]
  | none => .tup [.none, .none]
def placeR : Rl → Str → D
  | .forbid ss ts _, m => .tup [oD (homeO ss m), oD (homeO ts m)]
  | .only ts us, m => .tup [oD (homeO ts m), oD (homeO us m)]
  | .face p es, m => .tup [oD (homeO [p] m), oD (homeO es m)]
  | .layers rows _, m => rowD (rowAt 0 rows m)
  | .stairs rows, m => rowD (rowAt 0 rows m)
  | .apart ps _, m => .tup [.none, oD (homeO ps m)]
  | .noring ps, m => .tup [.none, oD (homeO ps m)]
def rowBar (st : Bool) : Option (Nat × Str) → Option (Nat × Str) → Bool
  | some (i, p), some (j, q) => if st = true then !(decide (j = i) || decide (j = i + 1)) else (decide (p ≠ q) && decide (j ≤ i))
  | _, _ => false
/-- the rule bars a use of b by a (not for "noring") -/
def barB : Rl → Str → Str → Bool
  | .forbid ss ts _, a, b => (homeO ss a).isSome && (homeO ts b).isSome
  | .only ts us, a, b => (homeO ts b).isSome && (decide (homeO ts a ≠ homeO ts b) && (homeO us a).isNone)
  | .face p es, a, b => cov p b && (!cov p a && (homeO es b).isNone)
  | .layers rows _, a, b => rowBar false (rowAt 0 rows a) (rowAt 0 rows b)
  | .stairs rows, a, b => rowBar true (rowAt 0 rows a) (rowAt 0 rows b)
  | .apart ps _, a, b => (homeO ps a).isSome && ((homeO ps b).isSome && decide (homeO ps a ≠ homeO ps b))
  | .noring _, _, _ => false
def longB : Rl → Bool
  | .forbid _ _ ch => ch
  | .layers _ ch => ch
  | .apart _ ch => ch
  | _ => false
theorem homeO_mem {ps : List Str} {m p : Str} (h : homeO ps m = some p) : p ∈ ps ∧ cov p m = true := ⟨List.mem_of_find?_eq_some h, by simpa using List.find?_some h⟩
/-- a text of a rule's item -/
structure PsOk (ps : List Str) : Prop where
  len : ps.length ≤ 20
  ok : ∀ p ∈ ps, asc p ∧ p.length ≤ 100
theorem PsOk.of {l m : Nat} {ps : List Str} (h : rPs l m ps) (hm : m ≤ 20) : PsOk ps := ⟨Nat.le_trans h.2.1 hm, fun p hp => ⟨(rp_asc (h.2.2 p hp)).1, Nat.le_trans (rp_asc (h.2.2 p hp)).2 (by decide)⟩⟩
/-! walks from path to path, along uses -/
inductive Wkr (us : List Us) (ps : List Str) (s : Str) : Str → List Us → Prop where
  | nil : Wkr us ps s s []
  | snoc {a b : Str} {w : List Us} {u : Us} : Wkr us ps s a w → u ∈ us → homeO ps u.1 = some a → homeO ps u.2 = some b → a ≠ b → Wkr us ps s b (w ++ [u])
theorem Wkr.last {us : List Us} {ps : List Str} {s t : Str} {w : List Us} (h : Wkr us ps s t w) (h1 : w ≠ []) : ∃ (a : Str) (w0 : List Us) (u : Us), w = w0 ++ [u] ∧ Wkr us ps s a w0 ∧ u ∈ us ∧ homeO ps u.1 = some a ∧ homeO ps u.2 = some t ∧ a ≠ t := by
  cases h with
  | nil => exact absurd rfl h1
  | snoc h2 h3 h4 h5 h6 => exact ⟨_, _, _, rfl, h2, h3, h4, h5, h6⟩
theorem Wkr.nil_eq {us : List Us} {ps : List Str} {s t : Str} {w : List Us} (h : Wkr us ps s t w) (e : w = []) : t = s := by
  cases h with
  | nil => rfl
  | snoc _ _ _ _ _ => simp at e
theorem Wkr.sub {us : List Us} {ps : List Str} {s t : Str} {w : List Us} (h : Wkr us ps s t w) : ∀ u ∈ w, u ∈ us := by
  induction h with
  | nil => exact fun u h => (nomatch h)
  | snoc _ hu _ _ _ ih =>
    intro x hx
    rcases List.mem_append.mp hx with e | e
    · exact ih x e
    · rw [List.mem_singleton.mp e]; exact hu
theorem Wkr.mem {us : List Us} {ps : List Str} {s t : Str} {w : List Us} (hs : s ∈ ps) (h : Wkr us ps s t w) : t ∈ ps := by
  cases h with
  | nil => exact hs
  | snoc _ _ _ h _ => exact (homeO_mem h).1
abbrev FRW (us : List Us) (ps : List Str) (s t : Str) (w : List Us) : Prop := Frst leU (Wkr us ps s t) w
def stB (ps : List Str) (p : Str × Str) (u : Us) : Bool := decide (homeO ps u.1 = some p.1) && decide (homeO ps u.2 = some p.2)
theorem stB_iff {ps : List Str} {p : Str × Str} {u : Us} : stB ps p u = true ↔ homeO ps u.1 = some p.1 ∧ homeO ps u.2 = some p.2 := by
  unfold stB
  rw [Bool.and_eq_true, decide_eq_true_iff, decide_eq_true_iff]
def stU (us : List Us) (ps : List Str) (p : Str × Str) : Us := (us.find? (stB ps p)).getD ("", "")
structure IsSt (us : List Us) (ps : List Str) (p : Str × Str) : Prop where
  ne : p.1 ≠ p.2
  ex : ∃ u ∈ us, stB ps p u = true
theorem IsSt.st {us : List Us} {ps : List Str} {p : Str × Str} (h : IsSt us ps p) : stU us ps p ∈ us ∧ homeO ps (stU us ps p).1 = some p.1 ∧ homeO ps (stU us ps p).2 = some p.2 := by
  obtain ⟨u, hu, hb⟩ := h.ex
  obtain ⟨v, hv⟩ := Option.isSome_iff_exists.mp (List.find?_isSome.mpr ⟨u, hu, hb⟩)
  unfold stU
  rw [hv]
  exact ⟨List.mem_of_find?_eq_some hv, stB_iff.mp (List.find?_some hv)⟩
theorem IsSt.least {us : List Us} {ps : List Str} {p : Str × Str} {u : Us} (hs : us.Pairwise fun a b => leU a b = true) (hu : u ∈ us) (hb : stB ps p u = true) : u = stU us ps p ∨ leU (stU us ps p) u = true := by
  obtain ⟨v, hv⟩ := Option.isSome_iff_exists.mp (List.find?_isSome.mpr ⟨u, hu, hb⟩)
  unfold stU
  rw [hv]
  obtain ⟨_, as, bs, e, hn⟩ := List.find?_eq_some_iff_append.mp hv
  rw [e] at hu hs
  rcases List.mem_append.mp hu with h | h
  · have := hn u h
    rw [hb] at this
    cases this
  · rcases List.mem_cons.mp h with h | h
    · exact .inl h
    · rw [List.pairwise_append] at hs
      exact .inr ((List.pairwise_cons.mp hs.2.1).1 u h)
theorem lx_ext {v w : List Us} {u x : Us} (hl : v.length = w.length) (h : lxLt leU v w = false) (hx : u = x ∨ leU x u = true) : lxLt leU (v ++ [u]) (w ++ [x]) = false := by
  rw [lx_app _ _ hl]
  by_cases e : v = w
  · rw [if_pos e]
    show (if u = x then false else leU u x) = false
    by_cases e2 : u = x
    · rw [if_pos e2]
    · rw [if_neg e2]
      cases h3 : leU u x with
      | false => rfl
      | true => exact absurd (leU_antisymm h3 (hx.resolve_left e2)) e2
  · rw [if_neg e]
    exact h
structure RB (us : List Us) (ps : List Str) (s : Str) (n : Nat) (row : List WE) (seen : List Str) : Prop where
  nd : seen.Nodup
  inP : ∀ p ∈ seen, p ∈ ps
  rnd : (row.map Prod.snd).Nodup
  rin : ∀ e ∈ row, e.2 ∈ seen
  rF : ∀ e ∈ row, FRW us ps s e.2 e.1 ∧ e.1.length = n
  low : ∀ t w, Wkr us ps s t w → w.length ≤ n → t ∈ seen
  fst : ∀ t ∈ seen, ∃ w, FRW us ps s t w ∧ w.length ≤ n ∧ (w.length = n → (w, t) ∈ row)
  noc : ∀ w, Wkr us ps s s w → w ≠ [] → n < w.length
theorem fw_self {us : List Us} {ps : List Str} {s : Str} : FRW us ps s s [] := ⟨.nil, fun w' _ => by
  cases w' with
  | nil => exact .inr ⟨rfl, rfl⟩
  | cons x l => exact .inl (Nat.succ_pos _)⟩
theorem RB.start {us : List Us} {ps : List Str} {s : Str} (hs : s ∈ ps) : RB us ps s 0 [([], s)] [s] := by
  refine ⟨by simp, fun p hp => by rw [List.mem_singleton.mp hp]; exact hs, by simp, fun e he => by rw [List.mem_singleton.mp he]; simp, fun e he => by rw [List.mem_singleton.mp he]; exact ⟨fw_self, rfl⟩, fun t w h hl => ?_, fun t ht => ?_, fun w _ h => List.length_pos_iff.mpr h⟩
  · obtain rfl : w = [] := List.length_eq_zero_iff.mp (by omega)
    rw [h.nil_eq rfl]
    simp
  · rw [List.mem_singleton.mp ht]
    exact ⟨[], fw_self, Nat.le_refl _, fun _ => by simp⟩
theorem RB.ext {us : List Us} {ps : List Str} {s t : Str} {n : Nat} {row : List WE} {seen : List Str} {w' : List Us} (hsr : us.Pairwise fun a b => leU a b = true) (B : RB us ps s n row seen) (hw : Wkr us ps s t w') (hl : w'.length = n + 1) (hno : ∀ w, Wkr us ps s t w → w ≠ [] → n < w.length) :
    ∃ e ∈ row, IsSt us ps (e.2, t) ∧ lxLt leU w' (e.1 ++ [stU us ps (e.2, t)]) = false := by
  obtain ⟨a, w0, u, rfl, h0, hu, h1, h2, hne⟩ := hw.last (by intro z; rw [z] at hl; cases hl)
  rw [List.length_append, List.length_singleton] at hl
  have ha := B.low a w0 h0 (by omega)
  obtain ⟨wa, hF, hla, hr⟩ := B.fst a ha
  have hn := hno _ (.snoc hF.is hu h1 h2 hne) (by simp)
  rw [List.length_append, List.length_singleton] at hn
  have el : wa.length = n := by omega
  have hb : stB ps (a, t) u = true := stB_iff.mpr ⟨h1, h2⟩
  refine ⟨(wa, a), hr el, ⟨hne, u, hu, hb⟩, lx_ext (show w0.length = wa.length by omega) ?_ (IsSt.least hsr hu hb)⟩
  rcases hF.least w0 h0 with q | q
  · omega
  · exact q.2
theorem RB.clo {us : List Us} {ps : List Str} {s : Str} {n : Nat} {row : List WE} {seen : List Str} {m : List Us} {ends : List (List Us)} (hsr : us.Pairwise fun a b => leU a b = true) (B : RB us ps s n row seen)
    (he : ∀ w, w ∈ ends ↔ ∃ e ∈ row, IsSt us ps (e.2, s) ∧ w = e.1 ++ [stU us ps (e.2, s)]) (hm : m ∈ ends) (hl : ∀ z ∈ ends, lxLt leU z m = false) : Frst leU (fun w => w ≠ [] ∧ Wkr us ps s s w) m := by
  obtain ⟨e, her, hst, rfl⟩ := (he m).mp hm
  obtain ⟨q1, q2, q3⟩ := hst.st
  refine ⟨⟨by simp, .snoc (B.rF e her).1.is q1 q2 q3 hst.ne⟩, fun w' hw => ?_⟩
  have h1 := B.noc w' hw.2 hw.1
  rw [List.length_append, List.length_singleton, (B.rF e her).2]
  by_cases h2 : w'.length = n + 1
  · obtain ⟨e', h3, h4, h5⟩ := B.ext hsr hw.2 h2 B.noc
    exact .inr ⟨h2.symm, lx_le totU (hl _ ((he _).mpr ⟨e', h3, h4, rfl⟩)) h5⟩
  · exact .inl (by omega)
theorem RB.noend {us : List Us} {ps : List Str} {s : Str} {n : Nat} {row : List WE} {seen : List Str} (hsr : us.Pairwise fun a b => leU a b = true) (B : RB us ps s n row seen) (he : ∀ e ∈ row, ¬ IsSt us ps (e.2, s)) (w : List Us) (hw : Wkr us ps s s w) (h0 : w ≠ []) : n + 1 < w.length := by
  have h1 := B.noc w hw h0
  by_cases h2 : w.length = n + 1
  · obtain ⟨e', h3, h4, h5⟩ := B.ext hsr hw h2 B.noc
    exact absurd h4 (he e' h3)
  · omega
theorem RB.done {us : List Us} {ps : List Str} {s : Str} {n : Nat} {seen : List Str} (B : RB us ps s n [] seen) (w : List Us) : ¬ (w ≠ [] ∧ Wkr us ps s s w) := by
  have all : ∀ {t : Str} {w : List Us}, Wkr us ps s t w → ∃ v, Wkr us ps s t v ∧ v.length < n := by
    intro t w h
    have fin : t ∈ seen → ∃ v, Wkr us ps s t v ∧ v.length < n := fun ht => by
      obtain ⟨v, h1, h2, h3⟩ := B.fst t ht
      refine ⟨v, h1.is, Nat.lt_of_le_of_ne h2 fun z => ?_⟩
      have := h3 z
      cases this
    induction h with
    | nil => exact fin (B.low s [] .nil (Nat.zero_le _))
    | @snoc a b w u _ hu h1 h2 hne ih =>
      have iha : ∃ v, Wkr us ps s a v ∧ v.length < n := ih fun ha => by
        obtain ⟨v, h1, h2, h3⟩ := B.fst a ha
        refine ⟨v, h1.is, Nat.lt_of_le_of_ne h2 fun z => ?_⟩
        have := h3 z
        cases this
      obtain ⟨v, hv, hl⟩ := iha
      exact fin (B.low b _ (.snoc hv hu h1 h2 hne) (by rw [List.length_append, List.length_singleton]; omega))
  rintro ⟨h0, hw⟩
  obtain ⟨a, w0, u, rfl, hw0, hu, h1, h2, hne⟩ := hw.last h0
  obtain ⟨v, hv, hl⟩ := all hw0
  have := B.noc _ (.snoc hv hu h1 h2 hne) (by simp)
  rw [List.length_append, List.length_singleton] at this
  omega
structure RM (us : List Us) (ps : List Str) (s : Str) (n : Nat) (seen : List Str) (done more : List WE) : Prop where
  nd : (seen ++ more.map Prod.snd).Nodup
  inP : ∀ p ∈ seen ++ more.map Prod.snd, p ∈ ps
  F : ∀ e ∈ more, FRW us ps s e.2 e.1 ∧ e.1.length = n + 1
  cov : ∀ e ∈ done, e.2 ∈ seen ++ more.map Prod.snd
theorem RB.mid {us : List Us} {ps : List Str} {s : Str} {n : Nat} {row : List WE} {seen : List Str} (B : RB us ps s n row seen) : RM us ps s n seen [] [] :=
  ⟨by rw [List.map_nil, List.append_nil]; exact B.nd, by rw [List.map_nil, List.append_nil]; exact B.inP, fun e h => (nomatch h), fun e h => (nomatch h)⟩
theorem RM.old {us : List Us} {ps : List Str} {s : Str} {n : Nat} {seen : List Str} {done more : List WE} {e : WE} (M : RM us ps s n seen done more) (h : e.2 ∈ seen ++ more.map Prod.snd) : RM us ps s n seen (done ++ [e]) more :=
  ⟨M.nd, M.inP, M.F, fun x hx => by
    rcases List.mem_append.mp hx with q | q
    · exact M.cov x q
    · rw [List.mem_singleton.mp q]; exact h⟩
theorem RM.new {us : List Us} {ps : List Str} {s : Str} {n : Nat} {row : List WE} {seen : List Str} {bs done more rest : List WE} {e : WE} (hs : s ∈ ps) (hsr : us.Pairwise fun a b => leU a b = true) (B : RB us ps s n row seen)
    (hb : ∀ x : WE, x ∈ bs ↔ ∃ r ∈ row, x.2 ∈ ps ∧ IsSt us ps (r.2, x.2) ∧ x.1 = r.1 ++ [stU us ps (r.2, x.2)]) (hp : bs.Pairwise fun a b => lxLt leU b.1 a.1 = false) (hd : bs = done ++ e :: rest)
    (M : RM us ps s n seen done more) (h : e.2 ∉ seen ++ more.map Prod.snd) : RM us ps s n seen (done ++ [e]) (more ++ [e]) := by
  have he : e ∈ bs := by rw [hd]; simp
  obtain ⟨r, hr, hps, hst, e1⟩ := (hb e).mp he
  obtain ⟨q1, q2, q3⟩ := hst.st
  have hW : Wkr us ps s e.2 e.1 := by rw [e1]; exact .snoc (B.rF r hr).1.is q1 q2 q3 hst.ne
  have hL : e.1.length = n + 1 := by rw [e1, List.length_append, List.length_singleton, (B.rF r hr).2]
  have hno : ∀ w, Wkr us ps s e.2 w → n < w.length := fun w hw => by
    by_cases hl : w.length ≤ n
    · exact absurd (List.mem_append_left _ (B.low _ _ hw hl)) h
    · omega
  have ap : ∀ z, z ∈ seen ++ (more ++ [e]).map Prod.snd ↔ z ∈ seen ++ more.map Prod.snd ∨ z = e.2 := fun z => by rw [List.map_append, ← List.append_assoc, List.mem_append, List.map_singleton, List.mem_singleton]
  refine ⟨?_, fun p hp' => ?_, fun x hx => ?_, fun x hx => (ap _).mpr ?_⟩
  · rw [List.map_append, ← List.append_assoc, List.nodup_append]
    exact ⟨M.nd, by simp, fun a ha b hb e' => h (by rw [List.map_singleton] at hb; rw [← List.mem_singleton.mp hb, ← e']; exact ha)⟩
  · rcases (ap p).mp hp' with q | q
    · exact M.inP p q
    · rw [q]; exact hps
  · rcases List.mem_append.mp hx with q | q
    · exact M.F x q
    · rw [List.mem_singleton.mp q]
      refine ⟨⟨hW, fun w' hw => ?_⟩, hL⟩
      have h1 := hno w' hw
      rw [hL]
      by_cases h2 : w'.length = n + 1
      · obtain ⟨r', h3, h4, h5⟩ := B.ext hsr hw h2 fun w hw _ => hno w hw
        refine .inr ⟨h2.symm, ?_⟩
        have hx' : ((r'.1 ++ [stU us ps (r'.2, e.2)], e.2) : WE) ∈ bs := (hb _).mpr ⟨r', h3, hps, h4, rfl⟩
        rw [hd] at hx' hp
        rcases List.mem_append.mp hx' with z | z
        · exact absurd (M.cov _ z) h
        · rcases List.mem_cons.mp z with z | z
          · have z1 : r'.1 ++ [stU us ps (r'.2, e.2)] = e.1 := congrArg Prod.fst z
            rw [z1] at h5
            exact h5
          · rw [List.pairwise_append] at hp
            exact lx_le totU ((List.pairwise_cons.mp hp.2.1).1 _ z) h5
      · exact .inl (by omega)
  · rcases List.mem_append.mp hx with q | q
    · exact .inl (M.cov x q)
    · rw [List.mem_singleton.mp q]; exact .inr rfl
theorem RM.next {us : List Us} {ps : List Str} {s : Str} {n : Nat} {row : List WE} {seen : List Str} {bs more : List WE} (hs : s ∈ ps) (hsr : us.Pairwise fun a b => leU a b = true) (B : RB us ps s n row seen)
    (hb : ∀ x : WE, x ∈ bs ↔ ∃ r ∈ row, x.2 ∈ ps ∧ IsSt us ps (r.2, x.2) ∧ x.1 = r.1 ++ [stU us ps (r.2, x.2)]) (M : RM us ps s n seen bs more) (hno : ∀ w, Wkr us ps s s w → w ≠ [] → n + 1 < w.length) : RB us ps s (n + 1) more (seen ++ more.map Prod.snd) := by
  refine ⟨M.nd, M.inP, (List.nodup_append.mp M.nd).2.1, fun e he => List.mem_append_right _ (List.mem_map_of_mem he), M.F, fun t w hw hl => ?_, fun t ht => ?_, hno⟩
  · by_cases h1 : w.length ≤ n
    · exact List.mem_append_left _ (B.low t w hw h1)
    · by_cases h2 : t ∈ seen
      · exact List.mem_append_left _ h2
      · obtain ⟨e, h3, h4, h5⟩ := B.ext hsr hw (by omega) fun w hw _ => by
          by_cases hl : w.length ≤ n
          · exact absurd (B.low t w hw hl) h2
          · omega
        exact M.cov (e.1 ++ [stU us ps (e.2, t)], t) ((hb _).mpr ⟨e, h3, hw.mem hs, h4, rfl⟩)
  · rcases List.mem_append.mp ht with q | q
    · obtain ⟨w, h1, h2, _⟩ := B.fst t q
      exact ⟨w, h1, by omega, fun z => by omega⟩
    · obtain ⟨e, he, rfl⟩ := List.mem_map.mp q
      exact ⟨e.1, (M.F e he).1, Nat.le_of_eq (M.F e he).2, fun _ => he⟩
theorem eqv_oD (x y : Option Str) : PyData.eqv (oD x).py (oD y).py = decide (x = y) := by
  cases x with
  | none => cases y <;> rfl
  | some a =>
    cases y with
    | none => rfl
    | some b =>
      show (a == b) = _
      rw [Bool.beq_eq_decide_eq]
      exact decide_eq_decide.mpr ⟨fun h => by rw [h], fun h => Option.some.inj h⟩
theorem shp_oD {x : Option Str} (h : ∀ s, x = some s → asc s) : SeqAt.shaped (oD x).py = true := by
  cases x with
  | none => rfl
  | some s => exact shaped_str (h s rfl)
theorem oEq_oD {neg : Bool} {x y : Option Str} {Q : D → Prop} (hx : ∀ s, x = some s → asc s) (hy : ∀ s, y = some s → asc s) (h : Q (.bool (xb neg (decide (x = y))))) : oEq neg (oD x) (oD y) Q := by
  refine oEq_data (shp_oD hx) (shp_oD hy) ?_
  rw [eqv_oD]
  exact h
theorem home_asc {l k : Nat} {ps : List Str} (h : rPs l k ps) (m : Str) : ∀ s, homeO ps m = some s → asc s := fun s e => (rp_asc (h.2.2 s (homeO_mem e).1)).1
theorem rowAt_mem {m p : Str} {j : Nat} : ∀ {rows : List (List Str)} {i : Nat}, rowAt i rows m = some (j, p) → i ≤ j ∧ ∃ r, rows[j - i]? = some r ∧ homeO r m = some p
  | [], _, h => by cases h
  | r :: rows, i, h => by
    unfold rowAt at h
    cases e : homeO r m with
    | some q =>
      rw [e] at h
      cases h
      exact ⟨Nat.le_refl _, r, by rw [Nat.sub_self]; rfl, e⟩
    | none =>
      rw [e] at h
      obtain ⟨h1, r', h2, h3⟩ := rowAt_mem h
      refine ⟨by omega, r', ?_, h3⟩
      rw [show j - i = (j - (i + 1)) + 1 by omega, List.getElem?_cons_succ]
      exact h2
theorem rowAt_asc {rows : List (List Str)} (h : rRows rows) {i j : Nat} {m p : Str} (e : rowAt i rows m = some (j, p)) : asc p := by
  obtain ⟨_, r, h1, h2⟩ := rowAt_mem e
  exact home_asc (h.2.2 r (List.mem_of_getElem? h1)) m p h2
/-! steps_between -/
abbrev s_steps_between : Stmt := topS 22
theorem sc_steps_between : FnScope ["paths", "uses", "found", "user", "used", "step"] ["paths", "uses"] (defScope s_steps_between) := ⟨rfl, rfl, rfl, by decide +kernel, rfl, by decide +kernel, by decide +kernel⟩
def stD (ks : List (Str × Str)) (us : List Us) (ps : List Str) : D := .dtt (ks.map kPair) (ks.map fun p => pairD (stU us ps p))
def Sp_steps_between : DSp := fun _ ds f Q => ∃ (ps : List Str) (us : List Us), ds = [tps ps, .tup (us.map pairD)] ∧ (∀ p ∈ ps, asc p ∧ p.length ≤ 1000) ∧ us.length ≤ 200 ∧
  ∀ ks : List (Str × Str), ks.Nodup → (∀ p, p ∈ ks ↔ IsSt us ps p) → Q (stD ks us ps) f
theorem IsSt.snoc {us : List Us} {ps : List Str} {p : Str × Str} {u : Us} : IsSt (us ++ [u]) ps p ↔ IsSt us ps p ∨ (p.1 ≠ p.2 ∧ homeO ps u.1 = some p.1 ∧ homeO ps u.2 = some p.2) := by
  constructor
  · rintro ⟨h1, v, hv, hb⟩
    rcases List.mem_append.mp hv with e | e
    · exact .inl ⟨h1, v, e, hb⟩
    · rw [List.mem_singleton.mp e] at hb
      exact .inr ⟨h1, stB_iff.mp hb⟩
  · rintro (⟨h1, v, hv, hb⟩ | ⟨h1, h2⟩)
    · exact ⟨h1, v, List.mem_append_left _ hv, hb⟩
    · exact ⟨h1, u, by simp, stB_iff.mpr h2⟩
theorem stU_old {us : List Us} {ps : List Str} {p : Str × Str} {u : Us} (h : IsSt us ps p) : stU (us ++ [u]) ps p = stU us ps p := by
  obtain ⟨v, hv, hb⟩ := h.ex
  obtain ⟨z, hz⟩ := Option.isSome_iff_exists.mp (List.find?_isSome.mpr ⟨v, hv, hb⟩)
  unfold stU
  rw [List.find?_append, hz]
  rfl
theorem stU_new {us : List Us} {ps : List Str} {p : Str × Str} {u : Us} (h : ¬ IsSt us ps p) (hn : p.1 ≠ p.2) (hu : homeO ps u.1 = some p.1 ∧ homeO ps u.2 = some p.2) : stU (us ++ [u]) ps p = u := by
  have e : us.find? (stB ps p) = none := List.find?_eq_none.mpr fun v hv hb => h ⟨hn, v, hv, hb⟩
  unfold stU
  rw [List.find?_append, e, Option.none_or]
  show ([u].find? (stB ps p)).getD _ = _
  rw [List.find?_cons_of_pos (stB_iff.mpr hu)]
  rfl
set_option maxHeartbeats 2000000 in
theorem ok_steps_between (d : Df K mg "steps_between" s_steps_between) (c_covered : Cal P w K mg base 2 "covered" ["paths", "path"] Sp_covered) : Cal P w K mg base 3 "steps_between" ["paths", "uses"] Sp_steps_between := by
  obtain ⟨f, fd, F, m⟩ := d
  refine ⟨f, fd, dfn (k := 2) (S := Sp_steps_between) F sc_steps_between ?len (fun cdv A outer s H E hr => (dss_cons (ds_setT0 (i := 2) sc_steps_between.nd)
      (dss_cons (ds_for [] PassesOwn.never (di_seq (de_v 1)) (dg_tup rfl (dgs_cons (dg_name (i := 3) sc_steps_between.nd) (dgs_cons (dg_name (i := 4) sc_steps_between.nd) dgs_nil))) (dss_cons (ds_set false (i := 5) sc_steps_between.nd (de_tup (da_cons (de_callC c_covered (hr.mono (by decide)) (da_cons (de_v 0) (da_cons (de_v 3) da_nil))) (da_cons (de_callC c_covered (hr.mono (by decide)) (da_cons (de_v 0) (da_cons (de_v 4) da_nil))) da_nil))))
      (dss_one (ds_if (DW.p (dw_and (dp_notN (de_ix (de_v 5) de_int) de_non) (dw_and (dp_notN (de_ix (de_v 5) de_int) de_non) (dw_and (dp_ne hr.units (de_ix (de_v 5) de_int) (de_ix (de_v 5) de_int)) (dw_and1 (dp_dnotInT hr (de_v 5) (de_v 2))))))) (dss_one (ds_setKeyT false hr (i := 2) (de_v 5) (de_tup (da_cons (de_v 3) (da_cons (de_v 4) da_nil))))) dss_nil))))
      (dss_one (ds_ret (de_v 2)))))) ?h, F.kp, F.binds fun _ _ _ _ _ _ us hl => match us, hl with | [_, _], _ => rfl, m⟩
  case len =>
    intro g ds n Q h; obtain ⟨_, _, rfl, _⟩ := h; rfl
  case h =>
    intro g ds n Q h
    obtain ⟨ps, us, rfl, ha, hl, q⟩ := h
    have T : ∀ p ∈ ps, p.length ≤ 100000 := fun p hp => Nat.le_trans (ha p hp).2 (by decide)
    have A : ∀ m s, homeO ps m = some s → asc s := fun m s e => (ha s (homeO_mem e).1).1
    refine dFor_list pairD (fun done rest r f => ∃ (ks : List (Str × Str)) (a b c : Sl), r = [.sh (tps ps), .sh (.tup (us.map pairD)), .ot (ks.map kPair) (ks.map fun p => pairD (stU done ps p)), a, b, c] ∧ n = f ∧ ks.Nodup ∧ ks.length ≤ done.length ∧ ∀ p, p ∈ ks ↔ IsSt done ps p) us _ _ ?_ ?_ ⟨[], _, _, _, rfl, rfl, by simp, Nat.le_refl _, fun p => ⟨fun h => (nomatch h), fun ⟨_, u, hu, _⟩ => (nomatch hu)⟩⟩
    · rintro done u rest r f N hu ⟨ks, a, b, c, rfl, rfl, hn, hkl, hk⟩ hN
      have hdl : done.length ≤ 200 := by have := congrArg List.length hu; rw [List.length_append] at this; omega
      refine ⟨_, rfl, ps, u.1, .inl rfl, T, ps, u.2, .inl rfl, T, show 2 ≤ lim by decide, ?_⟩
      rw [covd_eq, covd_eq]
      have next : ¬ (∃ p : Str × Str, p.1 ≠ p.2 ∧ homeO ps u.1 = some p.1 ∧ homeO ps u.2 = some p.2 ∧ p ∉ ks) → ∀ a b c : Sl, N [.sh (tps ps), .sh (.tup (us.map pairD)), .ot (ks.map kPair) (ks.map fun p => pairD (stU done ps p)), a, b, c] n := fun hno a b c => by
        refine hN _ _ ⟨ks, a, b, c, ?_, rfl, hn, Nat.le_trans hkl (by rw [List.length_append]; omega), fun p => ?_⟩
        · have : (ks.map fun p => pairD (stU (done ++ [u]) ps p)) = ks.map fun p => pairD (stU done ps p) := List.map_congr_left fun p hp => by rw [stU_old ((hk p).mp hp)]
          rw [this]
        · rw [IsSt.snoc, ← hk p]
          refine ⟨.inl, fun h => h.elim id fun ⟨h1, h2, h3⟩ => ?_⟩
          by_cases hm : p ∈ ks
          · exact hm
          · exact absurd ⟨p, h1, h2, h3, hm⟩ hno
      refine ⟨_, atI0, ?_⟩
      cases e1 : homeO ps u.1 with
      | none => exact next (fun ⟨p, _, h, _⟩ => by rw [e1] at h; cases h) _ _ _
      | some x =>
        show Exists _
        refine ⟨_, atI_nat (j := 1) rfl, ?_⟩
        cases e2 : homeO ps u.2 with
        | none => exact next (fun ⟨p, _, _, h, _⟩ => by rw [e2] at h; cases h) _ _ _
        | some y =>
          show Exists _
          refine ⟨_, atI0, _, atI_nat (j := 1) rfl, ?_⟩
          show if (!decide (x = y)) = true then _ else _
          by_cases hxy : x = y
          · rw [decide_eq_true hxy]
            exact next (fun ⟨p, h1, h2, h3, _⟩ => h1 (by rw [e1] at h2; rw [e2] at h3; cases h2; cases h3; exact hxy)) _ _ _
          rw [decide_eq_false hxy]
          refine iteT ⟨kPair (x, y), rfl, ?_⟩
          show if (!decide (kPair (x, y) ∈ ks.map kPair)) = true then _ else _
          by_cases hin : (x, y) ∈ ks
          · rw [decide_eq_true (kPair_mem.mpr hin)]
            exact next (fun ⟨p, h1, h2, h3, h4⟩ => h4 (by rw [e1] at h2; rw [e2] at h3; obtain ⟨a, b⟩ := p; cases h2; cases h3; exact hin)) _ _ _
          have nk : kPair (x, y) ∉ ks.map kPair := fun z => hin (kPair_mem.mp z)
          rw [decide_eq_false nk]
          refine iteT ⟨_, _, rfl, show 2 ≤ lim by decide, kPair (x, y), rfl, by rw [List.length_map]; exact L1 (by omega), ?_⟩
          have e3 : putTs (ks.map kPair) (kPair (x, y)) = (ks ++ [(x, y)]).map kPair := by unfold putTs; rw [if_neg nk, List.map_append]; rfl
          have e4 : putTx (ks.map kPair) (ks.map fun p => pairD (stU done ps p)) (kPair (x, y)) (pairD u) = (ks ++ [(x, y)]).map fun p => pairD (stU (done ++ [u]) ps p) := by
            unfold putTx
            rw [if_neg nk, List.map_append]
            congr 1
            · exact List.map_congr_left fun p hp => by rw [stU_old ((hk p).mp hp)]
            · show [pairD u] = [pairD (stU (done ++ [u]) ps (x, y))]
              rw [stU_new (fun z => hin ((hk _).mpr z)) hxy ⟨e1, e2⟩]
          have ap : ∀ z, z ∈ ks ++ [(x, y)] ↔ z ∈ ks ∨ z = (x, y) := fun z => by rw [List.mem_append, List.mem_singleton]
          refine hN [.sh (tps ps), .sh (.tup (us.map pairD)), .ot (putTs (ks.map kPair) (kPair (x, y))) (putTx (ks.map kPair) (ks.map fun p => pairD (stU done ps p)) (kPair (x, y)) (pairD u)), .sh (.str u.1), .sh (.str u.2), .sh (.tup [.str x, .str y])] n ⟨ks ++ [(x, y)], _, _, _, by rw [e3, e4], rfl, ?_, ?_, fun p => ?_⟩
          · rw [List.nodup_append]
            exact ⟨hn, by simp, fun a ha b hb e => hin (by rw [← List.mem_singleton.mp hb, ← e]; exact ha)⟩
          · rw [List.length_append, List.length_append]; exact Nat.add_le_add_right hkl 1
          · rw [ap, IsSt.snoc, ← hk p]
            refine or_congr Iff.rfl ⟨fun h => by rw [h]; exact ⟨hxy, e1, e2⟩, fun ⟨_, h2, h3⟩ => ?_⟩
            rw [e1] at h2
            rw [e2] at h3
            cases h2; cases h3; rfl
    · rintro r f ⟨ks, a, b, c, rfl, rfl, hn, _, hk⟩
      exact q ks hn hk
/-! chains from a module, the first ones -/
inductive Chn (us : List Us) (s : Str) : Str → List Str → Prop where
  | one : Chn us s s [s]
  | snoc {a b : Str} {w : List Str} : Chn us s a w → (a, b) ∈ us → Chn us s b (w ++ [b])
theorem Chn.rch {us : List Us} {s t : Str} {w : List Str} (h : Chn us s t w) : Rch us s t := by
  induction h with
  | one => exact .refl
  | snoc _ hu ih => exact .step ih hu
theorem Rch.chn {us : List Us} {s t : Str} (h : Rch us s t) : ∃ w, Chn us s t w := by
  induction h with
  | refl => exact ⟨_, .one⟩
  | step _ hu ih => obtain ⟨w, hw⟩ := ih; exact ⟨_, .snoc hw hu⟩
theorem Chn.pos {us : List Us} {s t : Str} {w : List Str} (h : Chn us s t w) : 1 ≤ w.length := by
  cases h with
  | one => exact Nat.le_refl _
  | snoc _ _ => rw [List.length_append, List.length_singleton]; omega
theorem Chn.last {us : List Us} {s t : Str} {w : List Str} (h : Chn us s t w) (h1 : 2 ≤ w.length) : ∃ m w0, w = w0 ++ [t] ∧ Chn us s m w0 ∧ (m, t) ∈ us := by
  cases h with
  | one => simp at h1
  | snoc h hu => exact ⟨_, _, rfl, h, hu⟩
theorem Chn.one_eq {us : List Us} {s t : Str} {w : List Str} (h : Chn us s t w) (h1 : w.length = 1) : t = s ∧ w = [s] := by
  cases h with
  | one => exact ⟨rfl, rfl⟩
  | snoc h _ => have := h.pos; rw [List.length_append, List.length_singleton] at h1; omega
theorem Chn.mem {us : List Us} {s t : Str} {w : List Str} {ms : List Str} (hs : s ∈ ms) (hu : ∀ u ∈ us, u.2 ∈ ms) (h : Chn us s t w) : ∀ x ∈ w, x ∈ ms := by
  induction h with
  | one => intro x hx; rw [List.mem_singleton.mp hx]; exact hs
  | snoc _ hu' ih =>
    intro x hx
    rcases List.mem_append.mp hx with e | e
    · exact ih x e
    · rw [List.mem_singleton.mp e]; exact hu _ hu'
abbrev FCh (us : List Us) (s t : Str) (w : List Str) : Prop := Frst leS (Chn us s t) w
noncomputable def fch (us : List Us) (s t : Str) : List Str := (frst leS (Chn us s t)).getD []
theorem fch_eq {us : List Us} {s t : Str} {w : List Str} (h : FCh us s t w) : fch us s t = w := by
  unfold fch
  rw [frst_eq totS h]
  rfl
abbrev ltC (us : List Us) (s a b : Str) : Prop := lxLt leS (fch us s a) (fch us s b) = true
structure BC (us : List Us) (s : Str) (n : Nat) (ks row : List Str) : Prop where
  nd : ks.Nodup
  hs : s ∈ ks
  fst : ∀ t ∈ ks, FCh us s t (fch us s t) ∧ (fch us s t).length ≤ n + 1
  low : ∀ t w, Chn us s t w → w.length ≤ n + 1 → t ∈ ks
  mem : ∀ t, t ∈ row ↔ t ∈ ks ∧ (fch us s t).length = n + 1
  srt : row.Pairwise (ltC us s)
theorem fch_self {us : List Us} {s : Str} : FCh us s s [s] := ⟨.one, fun w' h => by
  have := h.pos
  by_cases e : w'.length = 1
  · exact .inr ⟨e.symm, by rw [(h.one_eq e).2]; exact lx_irrefl _⟩
  · exact .inl (by show 1 < _; omega)⟩
theorem BC.start (us : List Us) (s : Str) : BC us s 0 [s] [s] := by
  have e : fch us s s = [s] := fch_eq fch_self
  refine ⟨by simp, by simp, fun t ht => ?_, fun t w h hl => ?_, fun t => ?_, by simp⟩
  · rw [List.mem_singleton.mp ht, e]
    exact ⟨fch_self, Nat.le_refl _⟩
  · have := h.pos
    rw [(h.one_eq (by omega)).1]
    simp
  · rw [List.mem_singleton]
    exact ⟨fun h => ⟨h, by rw [h, e]; rfl⟩, fun h => h.1⟩
theorem BC.done {us : List Us} {s : Str} {n : Nat} {ks : List Str} (h : BC us s n ks []) (t : Str) : t ∈ ks ↔ Rch us s t := by
  refine ⟨fun ht => ((h.fst t ht).1.is).rch, fun hr => ?_⟩
  induction hr with
  | refl => exact h.hs
  | @step a b _ hu ih =>
    have h1 := h.fst a ih
    have h2 : ¬ (fch us s a).length = n + 1 := fun e => by have := (h.mem a).mpr ⟨ih, e⟩; cases this
    exact h.low b _ (.snoc h1.1.is hu) (by rw [List.length_append, List.length_singleton]; omega)
structure MC (us : List Us) (s : Str) (n : Nat) (ks done more : List Str) : Prop where
  nd : (ks ++ more).Nodup
  fst : ∀ t ∈ more, FCh us s t (fch us s t) ∧ (fch us s t).length = n + 2
  cov : ∀ m ∈ done, ∀ b, (m, b) ∈ us → b ∈ ks ++ more
  srt : more.Pairwise (ltC us s)
structure MC1 (us : List Us) (s : Str) (n : Nat) (ks done : List Str) (x : Str) (dn more : List Str) : Prop extends MC us s n ks done more where
  cov1 : ∀ b ∈ dn, b ∈ ks ++ more
  pre : ∀ t ∈ more, (∃ m ∈ done, fch us s t = fch us s m ++ [t]) ∨ (fch us s t = fch us s x ++ [t] ∧ t ∈ dn)
theorem usesOf_srt {us : List Us} (hs : us.Pairwise fun a b => leU a b = true) (hn : us.Nodup) (m : Str) : (usesOf us m).Pairwise fun a b => leS a b = true ∧ a ≠ b := by
  unfold usesOf
  rw [List.pairwise_map]
  have h1 : (us.filter fun u => decide (u.1 = m)).Pairwise fun a b => leU a b = true ∧ a ≠ b := (hs.and hn).filter _
  refine h1.imp_of_mem fun {a b} ha hb h => ?_
  have ea : a.1 = m := of_decide_eq_true (List.mem_filter.mp ha).2
  have eb : b.1 = m := of_decide_eq_true (List.mem_filter.mp hb).2
  rcases (leU_iff a b).mp h.1 with q | q
  · exact ⟨q.2, fun z => h.2 (Prod.ext q.1 z)⟩
  · exact absurd (ea.trans eb.symm) q.1
theorem lx_snoc {a b : List Str} {x y : Str} (h : a.length = b.length) (hlt : lxLt leS a b = true) : lxLt leS (a ++ [x]) (b ++ [y]) = true := by
  rw [lx_app _ _ h, if_neg fun e => by rw [e, lx_irrefl] at hlt; cases hlt]
  exact hlt
theorem MC1.step {us : List Us} {s : Str} {n : Nat} {ks row done rest dn dr more : List Str} {x y : Str} (hsr : us.Pairwise fun a b => leU a b = true) (hn : us.Nodup) (B : BC us s n ks row) (hrow : row = done ++ x :: rest) (hu : usesOf us x = dn ++ y :: dr)
    (h : MC1 us s n ks done x dn more) (hy : y ∉ ks ++ more) : MC1 us s n ks done x (dn ++ [y]) (more ++ [y]) ∧ fch us s y = fch us s x ++ [y] := by
  have hxy : (x, y) ∈ us := mem_usesOf.mp (by rw [hu]; simp)
  have hxr : x ∈ row := by rw [hrow]; simp
  obtain ⟨hxk, hxl⟩ := (B.mem x).mp hxr
  have F : FCh us s y (fch us s x ++ [y]) := by
    refine ⟨.snoc (B.fst x hxk).1.is hxy, fun w' hw => ?_⟩
    rw [List.length_append, List.length_singleton, hxl]
    by_cases hl : w'.length ≤ n + 1
    · exact absurd (List.mem_append_left _ (B.low y w' hw hl)) hy
    by_cases hl2 : w'.length = n + 1 + 1
    · refine .inr ⟨hl2.symm, ?_⟩
      obtain ⟨m, w0, rfl, hw0, hmu⟩ := hw.last (by omega)
      have hl0 : w0.length = n + 1 := by rw [List.length_append, List.length_singleton] at hl2; omega
      have hmk : m ∈ ks := B.low m w0 hw0 (by omega)
      have hml : (fch us s m).length = n + 1 := by
        have h1 := (B.fst m hmk).2
        by_cases e : (fch us s m).length = n + 1
        · exact e
        · exact absurd (List.mem_append_left _ (B.low y _ (.snoc (B.fst m hmk).1.is hmu) (by rw [List.length_append, List.length_singleton]; omega))) hy
      have hmr : m ∈ row := (B.mem m).mpr ⟨hmk, hml⟩
      have hxm : lxLt leS (fch us s m) (fch us s x) = false := by
        rw [hrow] at hmr
        rcases List.mem_append.mp hmr with e | e
        · exact absurd (h.cov m e y hmu) hy
        · rcases List.mem_cons.mp e with e | e
          · rw [e]; exact lx_irrefl _
          · have hp := B.srt
            rw [hrow, List.pairwise_append] at hp
            exact lx_asym totS ((List.pairwise_cons.mp hp.2.1).1 m e)
      have h0 : lxLt leS w0 (fch us s m) = false := by
        rcases (B.fst m hmk).1.least w0 hw0 with q | q
        · omega
        · exact q.2
      have h2 : lxLt leS w0 (fch us s x) = false := lx_le totS hxm h0
      rw [lx_app _ _ (by omega)]
      split
      · exact lx_irrefl _
      · exact h2
    · exact .inl (by omega)
  have ey := fch_eq F
  have ap : ∀ z, z ∈ ks ++ (more ++ [y]) ↔ z ∈ ks ++ more ∨ z = y := fun z => by rw [← List.append_assoc, List.mem_append, List.mem_singleton]
  refine ⟨⟨⟨?_, fun t ht => ?_, fun m hm b hb => (ap b).mpr (.inl (h.cov m hm b hb)), ?_⟩, fun b hb => (ap b).mpr ?_, fun t ht => ?_⟩, ey⟩
  · rw [← List.append_assoc, List.nodup_append]
    exact ⟨h.nd, by simp, fun a ha b hb e => hy (by rw [← List.mem_singleton.mp hb, ← e]; exact ha)⟩
  · rcases List.mem_append.mp ht with e | e
    · exact h.fst t e
    · rw [List.mem_singleton.mp e, ey]
      exact ⟨F, by rw [List.length_append, List.length_singleton, hxl]⟩
  · rw [List.pairwise_append]
    refine ⟨h.srt, by simp, fun t ht b hb => ?_⟩
    rw [List.mem_singleton.mp hb]
    show lxLt leS (fch us s t) (fch us s y) = true
    rw [ey]
    rcases h.pre t ht with ⟨m, hm, e⟩ | ⟨e, htd⟩
    · rw [e]
      have hmr : m ∈ row := by rw [hrow]; exact List.mem_append_left _ hm
      have hp := B.srt
      rw [hrow, List.pairwise_append] at hp
      exact lx_snoc (((B.mem m).mp hmr).2.trans hxl.symm) (hp.2.2 m hm x (by simp))
    · rw [e, lx_app _ _ rfl, if_pos rfl]
      have hs := usesOf_srt hsr hn x
      rw [hu, List.pairwise_append] at hs
      obtain ⟨q1, q2⟩ := hs.2.2 t htd y (by simp)
      show (if t = y then _ else leS t y) = true
      rw [if_neg q2]
      exact q1
  · rcases List.mem_append.mp hb with e | e
    · exact .inl (h.cov1 b e)
    · exact .inr (List.mem_singleton.mp e)
  · rcases List.mem_append.mp ht with e | e
    · rcases h.pre t e with q | ⟨q1, q2⟩
      · exact .inl q
      · exact .inr ⟨q1, List.mem_append_left _ q2⟩
    · rw [List.mem_singleton.mp e]
      exact .inr ⟨ey, by simp⟩
theorem MC1.old {us : List Us} {s : Str} {n : Nat} {ks done dn more : List Str} {x y : Str} (h : MC1 us s n ks done x dn more) (hy : y ∈ ks ++ more) : MC1 us s n ks done x (dn ++ [y]) more :=
  ⟨h.toMC, fun b hb => by
    rcases List.mem_append.mp hb with e | e
    · exact h.cov1 b e
    · rw [List.mem_singleton.mp e]; exact hy, fun t ht => (h.pre t ht).imp id fun q => ⟨q.1, List.mem_append_left _ q.2⟩⟩
/-- over a row -/
structure MC2 (us : List Us) (s : Str) (n : Nat) (ks done more : List Str) : Prop extends MC us s n ks done more where
  pre : ∀ t ∈ more, ∃ m ∈ done, fch us s t = fch us s m ++ [t]
theorem MC2.start {us : List Us} {s : Str} {n : Nat} {ks row : List Str} (B : BC us s n ks row) : MC2 us s n ks [] [] :=
  ⟨⟨by rw [List.append_nil]; exact B.nd, fun t h => (nomatch h), fun m h => (nomatch h), .nil⟩, fun t h => (nomatch h)⟩
theorem MC2.one {us : List Us} {s : Str} {n : Nat} {ks done more : List Str} (h : MC2 us s n ks done more) (x : Str) : MC1 us s n ks done x [] more :=
  ⟨h.toMC, fun b h => (nomatch h), fun t ht => .inl (h.pre t ht)⟩
theorem MC1.two {us : List Us} {s : Str} {n : Nat} {ks done more : List Str} {x : Str} (h : MC1 us s n ks done x (usesOf us x) more) : MC2 us s n ks (done ++ [x]) more :=
  ⟨⟨h.nd, h.fst, fun m hm b hb => by
    rcases List.mem_append.mp hm with e | e
    · exact h.cov m e b hb
    · rw [List.mem_singleton.mp e] at hb
      exact h.cov1 b (mem_usesOf.mpr hb), h.srt⟩, fun t ht => by
    rcases h.pre t ht with ⟨m, hm, e⟩ | ⟨e, _⟩
    · exact ⟨m, List.mem_append_left _ hm, e⟩
    · exact ⟨x, by simp, e⟩⟩
theorem MC2.next {us : List Us} {s : Str} {n : Nat} {ks row more : List Str} (B : BC us s n ks row) (h : MC2 us s n ks row more) : BC us s (n + 1) (ks ++ more) more := by
  refine ⟨h.nd, List.mem_append_left _ B.hs, fun t ht => ?_, fun t w hw hl => ?_, fun t => ⟨fun ht => ⟨List.mem_append_right _ ht, (h.fst t ht).2⟩, fun ht => ?_⟩, h.srt⟩
  · rcases List.mem_append.mp ht with e | e
    · exact ⟨(B.fst t e).1, Nat.le_trans (B.fst t e).2 (Nat.le_succ _)⟩
    · exact ⟨(h.fst t e).1, Nat.le_of_eq (h.fst t e).2⟩
  · by_cases hl1 : w.length ≤ n + 1
    · exact List.mem_append_left _ (B.low t w hw hl1)
    · obtain ⟨m, w0, rfl, hw0, hmu⟩ := hw.last (by omega)
      rw [List.length_append, List.length_singleton] at hl
      have hmk : m ∈ ks := B.low m w0 hw0 (by omega)
      have h1 := (B.fst m hmk).2
      by_cases e : (fch us s m).length = n + 1
      · exact h.cov m ((B.mem m).mpr ⟨hmk, e⟩) t hmu
      · exact List.mem_append_left _ (B.low t _ (.snoc (B.fst m hmk).1.is hmu) (by rw [List.length_append, List.length_singleton]; omega))
  · rcases List.mem_append.mp ht.1 with e | e
    · have := (B.fst t e).2
      have := ht.2
      omega
    · exact e
def lnks (vs : List Str) : List Us := vs.zip (vs.drop 1)
/-! lists of letters of an alphabet: there is a first one -/
def wds {α : Type} (A : List α) : Nat → List (List α)
  | 0 => [[]]
  | n + 1 => (A.map fun a => (wds A n).map fun w => a :: w).flatten
theorem wds_mem {α : Type} {A : List α} : ∀ {w : List α}, (∀ x ∈ w, x ∈ A) → w ∈ wds A w.length
  | [], _ => by simp [wds]
  | x :: w, h => by
    have ih := wds_mem (w := w) fun y hy => h y (by simp [hy])
    show x :: w ∈ (A.map fun a => (wds A w.length).map fun w => a :: w).flatten
    exact List.mem_flatten.mpr ⟨_, List.mem_map_of_mem (h x (by simp)), List.mem_map_of_mem ih⟩
theorem lx_least {α : Type} [DecidableEq α] {le : α → α → Bool} (T : TotLe le) : ∀ l : List (List α), l ≠ [] → ∃ w ∈ l, ∀ v ∈ l, lxLt le v w = false
  | [], h => absurd rfl h
  | [w], _ => ⟨w, by simp, fun v hv => by rw [List.mem_singleton.mp hv]; exact lx_irrefl _⟩
  | w :: v :: l, _ => by
    obtain ⟨m, h1, h2⟩ := lx_least T (v :: l) (by simp)
    cases e : lxLt le w m with
    | true =>
      refine ⟨w, by simp, fun z hz => ?_⟩
      rcases List.mem_cons.mp hz with q | q
      · rw [q]; exact lx_irrefl _
      · cases e2 : lxLt le z w with
        | false => rfl
        | true => have := h2 z q; rw [lx_trans T e2 e] at this; cases this
    | false =>
      refine ⟨m, List.mem_cons_of_mem _ h1, fun z hz => ?_⟩
      rcases List.mem_cons.mp hz with q | q
      · rw [q]; exact e
      · exact h2 z q
theorem exFrst {α : Type} [DecidableEq α] {le : α → α → Bool} (T : TotLe le) {P : List α → Prop} (A : List α) (h : ∀ w, P w → ∀ x ∈ w, x ∈ A) {w0 : List α} (h0 : P w0) : ∃ w, Frst le P w := by
  have all : ∀ n (w : List α), w.length = n → P w → ∃ v, P v ∧ ∀ v', P v' → v.length ≤ v'.length := by
    intro n
    induction n using Nat.strongRecOn with
    | _ n ih =>
      intro w hl hw
      by_cases q : ∃ v, P v ∧ v.length < w.length
      · obtain ⟨v, h1, h2⟩ := q
        exact ih v.length (by omega) v rfl h1
      · exact ⟨w, hw, fun v hv => Nat.le_of_not_lt fun z => q ⟨v, hv, z⟩⟩
  obtain ⟨v, hv, hm⟩ := all _ w0 rfl h0
  classical
  obtain ⟨l, hl⟩ : ∃ l, l = (wds A v.length).filter fun w => decide (P w ∧ w.length = v.length) := ⟨_, rfl⟩
  have mem : ∀ w, P w → w.length = v.length → w ∈ l := fun w hw e => by
    rw [hl]
    exact List.mem_filter.mpr ⟨e ▸ wds_mem (h w hw), decide_eq_true ⟨hw, e⟩⟩
  obtain ⟨m, h1, h2⟩ := lx_least T l fun z => by have := mem v hv rfl; rw [z] at this; cases this
  have hm1 : P m ∧ m.length = v.length := by
    rw [hl] at h1
    exact of_decide_eq_true (List.mem_filter.mp h1).2
  refine ⟨m, hm1.1, fun w hw => ?_⟩
  have := hm w hw
  by_cases e : m.length = w.length
  · exact .inr ⟨e, h2 w (mem w hw (by omega))⟩
  · exact .inl (by omega)
theorem Chn.pre {us : List Us} {s a : Str} {w : List Str} (h : Chn us s a w) : ∀ b ∈ w, ∃ w2, Chn us s b w2 ∧ w2 <+: w := by
  induction h with
  | one => intro b hb; rw [List.mem_singleton.mp hb]; exact ⟨_, .one, List.prefix_refl _⟩
  | snoc h hu ih =>
    intro x hx
    rcases List.mem_append.mp hx with e | e
    · obtain ⟨w2, h1, h2⟩ := ih x e
      exact ⟨w2, h1, h2.trans (List.prefix_append _ _)⟩
    · rw [List.mem_singleton.mp e]
      exact ⟨_, .snoc h hu, List.prefix_refl _⟩
theorem Chn.simple {us : List Us} {s t : Str} {w : List Str} (h : Chn us s t w) : ∃ w', Chn us s t w' ∧ w'.Nodup := by
  induction h with
  | one => exact ⟨_, .one, by simp⟩
  | @snoc a b w h hu ih =>
    obtain ⟨w', h1, h2⟩ := ih
    by_cases hb : b ∈ w'
    · obtain ⟨w2, h3, h4⟩ := h1.pre b hb
      exact ⟨w2, h3, h2.sublist h4.sublist⟩
    · refine ⟨_, .snoc h1 hu, ?_⟩
      rw [List.nodup_append]
      exact ⟨h2, by simp, fun a ha c hc e => hb (by rw [← List.mem_singleton.mp hc, ← e]; exact ha)⟩
theorem Chn.cons {us : List Us} {s t : Str} {w : List Str} (h : Chn us s t w) : ∃ w0, w = w0 ++ [t] := by
  cases h with
  | one => exact ⟨[], rfl⟩
  | snoc _ _ => exact ⟨_, rfl⟩
theorem lnks_snoc2 : ∀ (v : List Str) (x y : Str), lnks (v ++ [x, y]) = lnks (v ++ [x]) ++ [(x, y)]
  | [], _, _ => rfl
  | [_], _, _ => rfl
  | a :: b :: v, x, y => by
    have ih := lnks_snoc2 (b :: v) x y
    show (a, b) :: lnks (b :: v ++ [x, y]) = (a, b) :: (lnks (b :: v ++ [x]) ++ [(x, y)])
    rw [ih]
theorem Chn.lnk {us : List Us} {s t : Str} {w : List Str} (h : Chn us s t w) : ∀ u ∈ lnks w, u ∈ us := by
  induction h with
  | one => exact fun u h => (nomatch h)
  | @snoc a b w h hu ih =>
    obtain ⟨w0, rfl⟩ := h.cons
    intro u hu'
    rw [List.append_assoc] at hu'
    have hu' : u ∈ lnks (w0 ++ [a, b]) := hu'
    rw [lnks_snoc2] at hu'
    rcases List.mem_append.mp hu' with e | e
    · exact ih u e
    · rw [List.mem_singleton.mp e]; exact hu
theorem Chn.alph {us : List Us} {s t : Str} {w : List Str} (h : Chn us s t w) : ∀ x ∈ w, x ∈ s :: us.map Prod.snd := h.mem (by simp) fun u hu => List.mem_cons_of_mem _ (List.mem_map_of_mem hu)
theorem fch_ok {us : List Us} {s t : Str} (h : Rch us s t) : FCh us s t (fch us s t) := by
  obtain ⟨w, hw⟩ := h.chn
  obtain ⟨v, hv⟩ := exFrst totS (P := Chn us s t) (s :: us.map Prod.snd) (fun w hw => hw.alph) hw
  rw [fch_eq hv]
  exact hv
theorem FCh.len {us : List Us} {s t : Str} {w ms : List Str} (h : FCh us s t w) (hs : s ∈ ms) (hu : ∀ u ∈ us, u.2 ∈ ms) : w.length ≤ ms.length := by
  obtain ⟨v, h1, h2⟩ := h.is.simple
  have h3 : v.length ≤ ms.length := nodup_sub_len h2 (h1.mem hs hu)
  have h4 : w.length ≤ v.length := Frst.len h h1
  omega
/-! from path to path -/
def stpO (ps : List Str) (u : Us) : Option (Str × Str) := match homeO ps u.1, homeO ps u.2 with
  | some a, some b => if a = b then none else some (a, b)
  | _, _ => none
def stps (us : List Us) (ps : List Str) : List (Str × Str) := us.filterMap (stpO ps)
theorem stps_mem {us : List Us} {ps : List Str} {a b : Str} : (a, b) ∈ stps us ps ↔ ∃ u ∈ us, homeO ps u.1 = some a ∧ homeO ps u.2 = some b ∧ a ≠ b := by
  unfold stps
  rw [List.mem_filterMap]
  constructor
  · rintro ⟨u, hu, e⟩
    refine ⟨u, hu, ?_⟩
    unfold stpO at e
    split at e
    · next x y e1 e2 =>
      split at e
      · cases e
      · next hn => cases e; exact ⟨e1, e2, hn⟩
    · cases e
  · rintro ⟨u, hu, e1, e2, hn⟩
    refine ⟨u, hu, ?_⟩
    unfold stpO
    rw [e1, e2]
    exact if_neg hn
theorem Wkr.chn {us : List Us} {ps : List Str} {s t : Str} {w : List Us} (h : Wkr us ps s t w) : ∃ l, Chn (stps us ps) s t l := by
  induction h with
  | nil => exact ⟨_, .one⟩
  | snoc _ hu h1 h2 hn ih =>
    obtain ⟨l, hl⟩ := ih
    exact ⟨_, .snoc hl (stps_mem.mpr ⟨_, hu, h1, h2, hn⟩)⟩
theorem Chn.wkr {us : List Us} {ps : List Str} {s t : Str} {l : List Str} (h : Chn (stps us ps) s t l) : ∃ w, Wkr us ps s t w ∧ w.length + 1 = l.length := by
  induction h with
  | one => exact ⟨_, .nil, rfl⟩
  | snoc _ hu ih =>
    obtain ⟨w, h1, h2⟩ := ih
    obtain ⟨u, h3, h4, h5, h6⟩ := stps_mem.mp hu
    exact ⟨_, .snoc h1 h3 h4 h5 h6, by rw [List.length_append, List.length_append, List.length_singleton, List.length_singleton, h2]⟩
theorem Wkr.short {us : List Us} {ps : List Str} {s t : Str} {w : List Us} (hs : s ∈ ps) (h : Wkr us ps s t w) : ∃ v, Wkr us ps s t v ∧ v.length + 1 ≤ ps.length := by
  obtain ⟨l, hl⟩ := h.chn
  obtain ⟨l', h1, h2⟩ := hl.simple
  obtain ⟨v, h3, h4⟩ := h1.wkr
  refine ⟨v, h3, ?_⟩
  rw [h4]
  exact nodup_sub_len h2 (h1.mem hs fun u hu => by
    obtain ⟨a, b⟩ := u
    obtain ⟨_, _, _, h, _⟩ := stps_mem.mp hu
    exact (homeO_mem h).1)
abbrev Cyc (us : List Us) (ps : List Str) (s : Str) (w : List Us) : Prop := w ≠ [] ∧ Wkr us ps s s w
theorem Cyc.short {us : List Us} {ps : List Str} {s : Str} {w : List Us} (hs : s ∈ ps) (h : Cyc us ps s w) : ∃ v, Cyc us ps s v ∧ v.length ≤ ps.length := by
  obtain ⟨a, w0, u, rfl, h0, hu, h1, h2, hn⟩ := h.2.last h.1
  obtain ⟨v, h3, h4⟩ := h0.short hs
  exact ⟨v ++ [u], ⟨by simp, .snoc h3 hu h1 h2 hn⟩, by rw [List.length_append]; exact h4⟩
theorem fcyc_len {us : List Us} {ps : List Str} {s : Str} {v : List Us} (hs : s ∈ ps) (h : Frst leU (Cyc us ps s) v) : v.length ≤ ps.length := by
  obtain ⟨v', h1, h2⟩ := Cyc.short hs h.is
  have := Frst.len h h1
  omega
/-! ring_from -/
abbrev s_ring_from : Stmt := topS 23
theorem sc_ring_from : FnScope ["steps", "paths", "start", "row", "seen", "ends", "behind", "uses", "path", "other"] ["steps", "paths", "start"] (defScope s_ring_from) := ⟨rfl, rfl, rfl, by decide +kernel, rfl, by decide +kernel, by decide +kernel⟩
def oU : Option (List Us) → D
  | some w => tpU w
  | none => .none
def bhE (us : List Us) (ps : List Str) (ks : List (Str × Str)) (e : WE) : List WE := (ps.filter fun o => decide ((e.2, o) ∈ ks)).map fun o => (e.1 ++ [stU us ps (e.2, o)], o)
def bhL (us : List Us) (ps : List Str) (ks : List (Str × Str)) (l : List WE) : List WE := (l.map (bhE us ps ks)).flatten
theorem bhE_len (us : List Us) (ps : List Str) (ks : List (Str × Str)) (e : WE) : (bhE us ps ks e).length ≤ ps.length := by
  unfold bhE
  rw [List.length_map]
  exact List.length_filter_le _ _
theorem bhL_len (us : List Us) (ps : List Str) (ks : List (Str × Str)) : ∀ l : List WE, (bhL us ps ks l).length ≤ l.length * ps.length
  | [] => Nat.zero_le _
  | e :: l => by
    have h1 := bhE_len us ps ks e
    have h2 := bhL_len us ps ks l
    have e1 : bhL us ps ks (e :: l) = bhE us ps ks e ++ bhL us ps ks l := rfl
    rw [e1, List.length_append, List.length_cons, Nat.succ_mul]
    omega
theorem bhL_snoc (us : List Us) (ps : List Str) (ks : List (Str × Str)) (l : List WE) (e : WE) : bhL us ps ks (l ++ [e]) = bhL us ps ks l ++ bhE us ps ks e := by
  unfold bhL
  rw [List.map_append, List.flatten_append]
  simp
theorem bhL_mem {us : List Us} {ps : List Str} {ks : List (Str × Str)} (hk : ∀ p, p ∈ ks ↔ IsSt us ps p) {l : List WE} {x : WE} : x ∈ bhL us ps ks l ↔ ∃ r ∈ l, x.2 ∈ ps ∧ IsSt us ps (r.2, x.2) ∧ x.1 = r.1 ++ [stU us ps (r.2, x.2)] := by
  unfold bhL
  rw [List.mem_flatten]
  constructor
  · rintro ⟨l', h1, h2⟩
    obtain ⟨r, hr, rfl⟩ := List.mem_map.mp h1
    obtain ⟨o, ho, rfl⟩ := List.mem_map.mp h2
    obtain ⟨h3, h4⟩ := List.mem_filter.mp ho
    exact ⟨r, hr, h3, (hk _).mp (of_decide_eq_true h4), rfl⟩
  · rintro ⟨r, hr, h1, h2, h3⟩
    refine ⟨_, List.mem_map_of_mem hr, List.mem_map.mpr ⟨x.2, List.mem_filter.mpr ⟨h1, decide_eq_true ((hk _).mpr h2)⟩, ?_⟩⟩
    rw [← h3]
def Sp_ring_from : DSp := fun _ ds f Q => ∃ (us : List Us) (ps : List Str) (s : Str) (ks : List (Str × Str)), ds = [stD ks us ps, tps ps, .str s] ∧ ps.length ≤ 6 ∧ (∀ p ∈ ps, asc p ∧ p.length ≤ 1000) ∧
  (us.Pairwise fun a b => leU a b = true) ∧ (∀ u ∈ us, ascU u) ∧ (∀ p, p ∈ ks ↔ IsSt us ps p) ∧ s ∈ ps ∧ Q (oU (frst leU (Cyc us ps s))) f
set_option maxHeartbeats 2000000 in
theorem ok_ring_from (d : Df K mg "ring_from" s_ring_from) (m_sorted : mg "sorted" = none) (m_min : mg "min" = none) : Cal P w K mg base 1 "ring_from" ["steps", "paths", "start"] Sp_ring_from := by
  obtain ⟨f, fd, F, m⟩ := d
  refine ⟨f, fd, dfn (k := 0) (S := Sp_ring_from) F sc_ring_from ?len (fun cdv A outer s H E hr => (dss_cons (ds_setL false (i := 3) sc_ring_from.nd (dl_lst (da_cons (de_tup (da_cons (de_tup da_nil) (da_cons (de_v 2) da_nil))) da_nil)))
      (dss_cons (ds_setL false (i := 4) sc_ring_from.nd (dl_lst (da_cons (de_v 2) da_nil)))
      (dss_cons (ds_while PassesOwn.never (dp_neE hr.units (de_v 3) (dl_lst da_nil).e) (dss_cons (ds_frz [3] (ds_setLc (i := 5) (own := [("uses", 7), ("path", 8)]) sc_ring_from.nd (di_seq (de_v 3)) (blkOk_by (own := [("uses", 7), ("path", 8)]) (N := ["steps", "paths", "start", "row", "seen", "ends", "behind", "uses", "path", "other"]) (sc := defScope s_ring_from) (by decide +kernel)) (fun _ _ _ _ _ => dg_tup rfl (dgs_cons (dg_name (i := 7) sc_ring_from.nd) (dgs_cons (dg_name (i := 8) sc_ring_from.nd) dgs_nil))) (fun _ _ _ _ _ => dts_one (dp_dinT hr (de_tup (da_cons (de_v 8) (da_cons (de_v 2) da_nil))) (de_v 0))) (fun _ _ _ _ _ => (de_add (de_v 7) (de_tup (da_cons (de_dgetT hr (de_v 0) (de_tup (da_cons (de_v 8) (da_cons (de_v 2) da_nil)))) da_nil)))) (fun _ _ _ h => snd_set (m := false) (i := 5) h.e)))
      (dss_cons (ds_if (dp_neE hr.units (de_v 5) (dl_lst da_nil).e) (dss_one (ds_ret (de_minD hr m_min (da_cons (de_v 5) da_nil)))) dss_nil)
      (dss_cons (ds_set false (i := 6) sc_ring_from.nd (dl_lst da_nil).e)
      (dss_cons (ds_for [3] PassesOwn.never (di_seq (de_v 3)) (dg_tup rfl (dgs_cons (dg_name (i := 7) sc_ring_from.nd) (dgs_cons (dg_name (i := 8) sc_ring_from.nd) dgs_nil))) (dss_one (ds_set false (i := 6) sc_ring_from.nd (de_add (de_v 6) (dl_lc (own := [("other", 9)]) rfl sc_ring_from.nd (di_seq (de_v 1)) (blkOk_by (own := [("other", 9)]) (N := ["steps", "paths", "start", "row", "seen", "ends", "behind", "uses", "path", "other"]) (sc := defScope s_ring_from) (by decide +kernel)) (fun _ _ _ _ _ => dg_name (i := 9) sc_ring_from.nd) (fun _ _ _ _ _ => dts_one (dp_dinT hr (de_tup (da_cons (de_v 8) (da_cons (de_v 9) da_nil))) (de_v 0))) (fun _ _ _ _ _ => (de_tup (da_cons (de_add (de_v 7) (de_tup (da_cons (de_dgetT hr (de_v 0) (de_tup (da_cons (de_v 8) (da_cons (de_v 9) da_nil)))) da_nil))) (da_cons (de_v 9) da_nil))))).e))))
      (dss_cons (ds_setL false (i := 3) sc_ring_from.nd (dl_lst da_nil))
      (dss_one (ds_for [] PassesOwn.never (di_seq (de_sorted hr m_sorted (da_cons (de_v 6) da_nil))) (dg_tup rfl (dgs_cons (dg_name (i := 7) sc_ring_from.nd) (dgs_cons (dg_name (i := 8) sc_ring_from.nd) dgs_nil))) (dss_one (ds_if (dp_notIn hr (de_v 8) (de_v 4)) (dss_cons (ds_app false (i := 4) (de_v 8))
      (dss_one (ds_app false (i := 3) (de_tup (da_cons (de_v 7) (da_cons (de_v 8) da_nil)))))) dss_nil))))))))))
      (dss_one (ds_ret de_non)))))) ?h, F.kp, F.binds fun _ _ _ _ _ _ us hl => match us, hl with | [_, _, _], _ => rfl, m⟩
  case len =>
    intro g ds n Q h; obtain ⟨_, _, _, _, rfl, _⟩ := h; rfl
  case h =>
    intro g ds n Q h
    obtain ⟨us, ps, s, ks, rfl, hpl, hpa, hsr, hua, hk, hs, q⟩ := h
    refine ⟨show 0 ≤ lim by decide, show 2 ≤ lim by decide, show 1 ≤ lim by decide, ?_⟩
    refine ⟨show 1 ≤ lim by decide, ?_⟩
    have sl6 : ∀ {k : Nat} {row : List WE} {seen : List Str}, RB us ps s k row seen → seen.length ≤ 6 := fun B => Nat.le_trans (nodup_sub_len B.nd B.inP) hpl
    refine dWhile_inv (fun v r f => ∃ (k : Nat) (row : List WE) (seen : List Str) (a b c d e : Sl), r = [.sh (stD ks us ps), .sh (tps ps), .sh (.str s), .ow (row.map emE), .ow (seen.map D.str), a, b, c, d, e] ∧ n = f ∧ RB us ps s k row seen ∧ (row ≠ [] → k + 1 ≤ seen.length) ∧ v = (6 - seen.length) + if row = [] then 0 else 1) ?_ ⟨0, [([], s)], [s], _, _, _, _, _, rfl, rfl, RB.start hs, fun _ => Nat.le_refl _, rfl⟩
    rintro v r f N ⟨k, row, seen, a, b, c, d, e, rfl, rfl, B, hks, rfl⟩ hN
    refine ⟨Nat.zero_le _, _, rfl, rfl, ?_⟩
    by_cases hrow : row = []
    · subst hrow
      rw [frst_none fun w h => B.done w h] at q
      exact q
    have hsl := sl6 B
    have hk5 : k ≤ 5 := by have := hks hrow; omega
    have hne : (row.map emE).isEmpty = false := by cases row with | nil => exact absurd rfl hrow | cons _ _ => rfl
    rw [hne]
    have rA : ∀ x ∈ row, ∀ u ∈ x.1, ascU u := fun x hx u hu => hua u ((B.rF x hx).1.is.sub u hu)
    have stA : ∀ {p : Str × Str}, IsSt us ps p → ascU (stU us ps p) := fun h => hua _ h.st.1
    have rl : row.length ≤ 6 := by
      have := nodup_sub_len B.rnd (fun x hx => by obtain ⟨e, he, rfl⟩ := List.mem_map.mp hx; exact B.rin e he)
      rw [List.length_map] at this
      omega
    refine iteT ⟨by rw [List.length_map]; exact L1 (by omega), ?_⟩
    refine lcT emE tpU (fun e => decide ((e.2, s) ∈ ks)) (fun e => e.1 ++ [stU us ps (e.2, s)]) row [] _ (fun x hx => ⟨_, rfl, fun f Q q => ?_, fun hb f Q q => ?_⟩) ?_
    · refine ⟨show 2 ≤ lim by decide, kPair (x.2, s), rfl, ?_⟩
      show Q (decide (kPair (x.2, s) ∈ ks.map kPair)) _
      rw [decide_eq_decide.mpr kPair_mem]
      exact q
    · refine ⟨show 2 ≤ lim by decide, kPair (x.2, s), _, rfl, lookT_pair (val := fun p => pairD (stU us ps p)) (of_decide_eq_true hb), show 1 ≤ lim by decide, ?_, ?_⟩
      · rw [List.length_map, (B.rF x hx).2]; exact L1 (by show k + 1 ≤ _; omega)
      · have q : Q (tpU (x.1 ++ [stU us ps (x.2, s)])) f := q
        unfold tpU at q
        rw [List.map_append] at q
        exact q
    rw [List.nil_append]
    refine ⟨Nat.zero_le _, _, rfl, rfl, ?_⟩
    obtain ⟨ends, hends⟩ : ∃ ends, ends = (row.filter fun e => decide ((e.2, s) ∈ ks)).map fun e => e.1 ++ [stU us ps (e.2, s)] := ⟨_, rfl⟩
    rw [← hends]
    have hmem : ∀ w, w ∈ ends ↔ ∃ e ∈ row, IsSt us ps (e.2, s) ∧ w = e.1 ++ [stU us ps (e.2, s)] := fun w => by
      rw [hends, List.mem_map]
      constructor
      · rintro ⟨e, he, rfl⟩
        obtain ⟨h1, h2⟩ := List.mem_filter.mp he
        exact ⟨e, h1, (hk _).mp (of_decide_eq_true h2), rfl⟩
      · rintro ⟨e, h1, h2, rfl⟩
        exact ⟨e, List.mem_filter.mpr ⟨h1, decide_eq_true ((hk _).mpr h2)⟩, rfl⟩
    cases ends with
    | cons w ws =>
      refine iteT ?_
      refine minOk_U (fun v hv u hu => ?_) fun v hv hz => ?_
      · obtain ⟨e, h1, h2, rfl⟩ := (hmem v).mp hv
        rcases List.mem_append.mp hu with z | z
        · exact rA e h1 u z
        · rw [List.mem_singleton.mp z]; exact stA h2
      · have F := B.clo hsr hmem hv hz
        rw [frst_eq totU F] at q
        exact q
    | nil =>
      have hno := B.noend hsr fun e he hst => by have := (hmem _).mpr ⟨e, he, hst, rfl⟩; cases this
      refine iteF ⟨Nat.zero_le _, ?_⟩
      refine dFor_list emE (fun done rest r f => ∃ (b c d : Sl), r = [.sh (stD ks us ps), .sh (tps ps), .sh (.str s), .sh (.lst (row.map emE)), .ow (seen.map D.str), .sh (.lst []), .sh (.lst ((bhL us ps ks done).map emE)), b, c, d] ∧ n = f) row _ _ ?_ ?_ ⟨_, _, _, rfl, rfl⟩
      · rintro done x rest r f N1 hx ⟨b, c, d, rfl, rfl⟩ hN1
        have hxr : x ∈ row := by rw [hx]; simp
        have dl : done.length ≤ 6 := by have := congrArg List.length hx; rw [List.length_append] at this; omega
        have b1 := bhL_len us ps ks done
        have b2 := bhE_len us ps ks x
        have b3 : done.length * ps.length ≤ 6 * 6 := Nat.mul_le_mul dl hpl
        refine ⟨_, rfl, ?_⟩
        refine ⟨by rw [List.length_map]; exact L1 (by omega), ?_⟩
        refine lcT D.str emE (fun o => decide ((x.2, o) ∈ ks)) (fun o => (x.1 ++ [stU us ps (x.2, o)], o)) ps [] _ (fun o ho => ⟨_, rfl, fun f Q q => ?_, fun hb f Q q => ?_⟩) ?_
        · refine ⟨show 2 ≤ lim by decide, kPair (x.2, o), rfl, ?_⟩
          show Q (decide (kPair (x.2, o) ∈ ks.map kPair)) _
          rw [decide_eq_decide.mpr kPair_mem]
          exact q
        · refine ⟨show 2 ≤ lim by decide, kPair (x.2, o), _, rfl, lookT_pair (val := fun p => pairD (stU us ps p)) (of_decide_eq_true hb), show 1 ≤ lim by decide, ?_, show 2 ≤ lim by decide, ?_⟩
          · rw [List.length_map, (B.rF x hxr).2]; exact L1 (by show k + 1 ≤ _; omega)
          · have q : Q (.tup [tpU (x.1 ++ [stU us ps (x.2, o)]), .str o]) f := q
            unfold tpU at q
            rw [List.map_append] at q
            exact q
        · rw [List.nil_append]
          refine ⟨?_, ?_⟩
          · rw [List.length_map, List.length_map]
            exact L1 (by unfold bhE at b2; omega)
          · refine hN1 _ _ ⟨.sh (tpU x.1), .sh (.str x.2), d, ?_, rfl⟩
            rw [bhL_snoc, List.map_append]
            rfl
      · rintro r f ⟨b, c, d, rfl, rfl⟩
        refine ⟨Nat.zero_le _, ?_⟩
        obtain ⟨bs, hbs⟩ : ∃ bs, bs = sortE (bhL us ps ks row) := ⟨_, rfl⟩
        have hbm : ∀ x : WE, x ∈ bs ↔ ∃ r ∈ row, x.2 ∈ ps ∧ IsSt us ps (r.2, x.2) ∧ x.1 = r.1 ++ [stU us ps (r.2, x.2)] := fun x => by rw [hbs, sortE_mem, bhL_mem hk]
        have hbp : bs.Pairwise fun a b => lxLt leU b.1 a.1 = false := by rw [hbs]; exact sortE_pw _
        have b1 := bhL_len us ps ks row
        have b3 : row.length * ps.length ≤ 6 * 6 := Nat.mul_le_mul rl hpl
        have xA : ∀ e ∈ bhL us ps ks row, (∀ u ∈ e.1, ascU u) ∧ asc e.2 := fun e he => by
          obtain ⟨r, h1, h2, h3, h4⟩ := (bhL_mem hk).mp he
          refine ⟨fun u hu => ?_, (hpa _ h2).1⟩
          rw [h4] at hu
          rcases List.mem_append.mp hu with z | z
          · exact rA r h1 u z
          · rw [List.mem_singleton.mp z]; exact stA h3
        refine ⟨sortsE (by omega) xA, ?_⟩
        rw [sortE_map, ← hbs]
        refine dFor_list emE (fun done rest r f => ∃ (more : List WE) (b c d : Sl), r = [.sh (stD ks us ps), .sh (tps ps), .sh (.str s), .ow (more.map emE), .ow ((seen ++ more.map Prod.snd).map D.str), .sh (.lst []), .sh (.lst ((bhL us ps ks row).map emE)), b, c, d] ∧ n = f ∧ RM us ps s k seen done more) bs _ _ ?_ ?_ ⟨[], _, _, _, by rw [List.map_nil, List.map_nil, List.append_nil]; exact rfl, rfl, B.mid⟩
        · rintro done x rest r f N1 hx ⟨more, b, c, d, rfl, rfl, M⟩ hN1
          have hxb : x ∈ bs := by rw [hx]; simp
          have hx2 : x.2 ∈ ps := by obtain ⟨_, _, h, _⟩ := (hbm x).mp hxb; exact h
          have ml : (seen ++ more.map Prod.snd).length ≤ 6 := Nat.le_trans (nodup_sub_len M.nd M.inP) hpl
          rw [List.length_append, List.length_map] at ml
          refine ⟨_, rfl, ?_⟩
          refine ⟨shaped_str (hpa _ hx2).1, shpS (fun z hz => (hpa z (M.inP z hz)).1), ?_⟩
          show if (!((pyA ((seen ++ more.map Prod.snd).map D.str)).any fun z => PyData.eqv z (.str x.2))) = true then _ else _
          rw [anyS]
          show if (!decide (x.2 ∈ seen ++ more.map Prod.snd)) = true then _ else _
          by_cases hin : x.2 ∈ seen ++ more.map Prod.snd
          · rw [decide_eq_true hin]
            exact hN1 _ _ ⟨more, _, _, _, rfl, rfl, M.old hin⟩
          · rw [decide_eq_false hin]
            refine iteT ⟨_, rfl, by rw [List.length_map, List.length_append, List.length_map]; exact L1 (by omega), ?_⟩
            refine ⟨_, rfl, show 2 ≤ lim by decide, by rw [List.length_map]; exact L1 (by omega), ?_⟩
            refine hN1 _ _ ⟨more ++ [x], .sh (tpU x.1), .sh (.str x.2), d, ?_, rfl, M.new hs hsr B hbm hbp hx hin⟩
            have q1 : (more ++ [x]).map emE = more.map emE ++ [.tup [tpU x.1, .str x.2]] := by rw [List.map_append]; rfl
            have q2 : (seen ++ (more ++ [x]).map Prod.snd).map D.str = (seen ++ more.map Prod.snd).map D.str ++ [.str x.2] := by
              rw [List.map_append (l₁ := more), ← List.append_assoc, List.map_append (l₁ := seen ++ more.map Prod.snd)]; rfl
            rw [q1, q2]
            rfl
        · rintro r f ⟨more, b, c, d, rfl, rfl, M⟩
          have B' := M.next hs hsr B hbm hno
          have ml := sl6 B'
          rw [List.length_append, List.length_map] at ml
          have hk0 := hks hrow
          refine hN _ _ _ ?_ ⟨k + 1, more, seen ++ more.map Prod.snd, _, _, _, _, _, rfl, rfl, B', fun h => ?_, rfl⟩
          · rw [if_neg hrow, List.length_append, List.length_map]
            by_cases e : more = []
            · rw [if_pos e]
              omega
            · rw [if_neg e]
              have := List.length_pos_iff.mpr e
              omega
          · have := List.length_pos_iff.mpr h
            rw [List.length_append, List.length_map]
            omega
/-! ring_breaks -/
abbrev s_ring_breaks : Stmt := topS 24
theorem sc_ring_breaks : FnScope ["paths", "uses", "steps", "found", "path", "evidence"] ["paths", "uses"] (defScope s_ring_breaks) := ⟨rfl, rfl, rfl, by decide +kernel, rfl, by decide +kernel, by decide +kernel⟩
noncomputable def rngB (us : List Us) (ps : List Str) : List (List Us) := ps.filterMap fun p => frst leU (Cyc us ps p)
def Sp_ring_breaks : DSp := fun _ ds f Q => ∃ (ps : List Str) (us : List Us), ds = [tps ps, .tup (us.map pairD)] ∧ ps.length ≤ 6 ∧ (∀ p ∈ ps, asc p ∧ p.length ≤ 1000) ∧ us.length ≤ 200 ∧
  (us.Pairwise fun a b => leU a b = true) ∧ (∀ u ∈ us, ascU u) ∧ Q (.lst ((rngB us ps).map tpU)) f
theorem fm_oU (F : Str → Option (List Us)) : ∀ l : List Str, (((l.map F).filter fun o => o.isSome).map id).map oU = (l.filterMap F).map tpU
  | [] => rfl
  | x :: l => by
    have ih := fm_oU F l
    rw [List.map_cons]
    cases e : F x with
    | none =>
      rw [List.filter_cons_of_neg (by decide), ih, List.filterMap_cons_none e]
    | some w =>
      rw [List.filter_cons_of_pos rfl, List.filterMap_cons_some e, List.map_cons, List.map_cons, ih]
      rfl
set_option maxHeartbeats 2000000 in
theorem ok_ring_breaks (d : Df K mg "ring_breaks" s_ring_breaks) (c_ring_from : Cal P w K mg base 1 "ring_from" ["steps", "paths", "start"] Sp_ring_from) (c_steps_between : Cal P w K mg base 3 "steps_between" ["paths", "uses"] Sp_steps_between) : Cal P w K mg base 4 "ring_breaks" ["paths", "uses"] Sp_ring_breaks := by
  obtain ⟨f, fd, F, m⟩ := d
  refine ⟨f, fd, dfn (k := 3) (S := Sp_ring_breaks) F sc_ring_breaks ?len (fun cdv A outer s H E hr => (dss_cons (ds_set false (i := 2) sc_ring_breaks.nd (de_callC c_steps_between (hr.mono (by decide)) (da_cons (de_v 0) (da_cons (de_v 1) da_nil))))
      (dss_cons (ds_setLc (i := 3) (own := [("path", 4)]) sc_ring_breaks.nd (di_seq (de_v 0)) (blkOk_by (own := [("path", 4)]) (N := ["paths", "uses", "steps", "found", "path", "evidence"]) (sc := defScope s_ring_breaks) (by decide +kernel)) (fun _ _ _ _ _ => dg_name (i := 4) sc_ring_breaks.nd) (fun _ _ _ _ _ => dts_nil) (fun _ _ _ _ _ => (de_callC c_ring_from (hr.mono (by decide)) (da_cons (de_v 2) (da_cons (de_v 0) (da_cons (de_v 4) da_nil))))) (fun _ _ _ h => snd_set (m := false) (i := 3) h.e))
      (dss_one (ds_ret (dl_lc (own := [("evidence", 5)]) rfl sc_ring_breaks.nd (di_seq (de_v 3)) (blkOk_by (own := [("evidence", 5)]) (N := ["paths", "uses", "steps", "found", "path", "evidence"]) (sc := defScope s_ring_breaks) (by decide +kernel)) (fun _ _ _ _ _ => dg_name (i := 5) sc_ring_breaks.nd) (fun _ _ _ _ _ => dts_one (dp_notN (de_v 5) de_non)) (fun _ _ _ _ _ => (de_v 5))).e))))) ?h, F.kp, F.binds fun _ _ _ _ _ _ us hl => match us, hl with | [_, _], _ => rfl, m⟩
  case len =>
    intro g ds n Q h; obtain ⟨_, _, rfl, _⟩ := h; rfl
  case h =>
    intro g ds n Q h
    obtain ⟨ps, us, rfl, hpl, hpa, hul, hsr, hua, q⟩ := h
    refine ⟨ps, us, rfl, hpa, hul, fun ks _ hk => ?_⟩
    refine ⟨by rw [List.length_map]; exact L1 (by omega), ?_⟩
    refine lcM D.str oU (fun p => frst leU (Cyc us ps p)) ps _ (fun p hp => ⟨_, rfl, fun f Q q => ⟨us, ps, p, ks, rfl, hpl, hpa, hsr, hua, hk, hp, q⟩⟩) ?_
    refine ⟨by rw [List.length_map, List.length_map]; exact L1 (by omega), ?_⟩
    refine lcT oU oU (fun o => o.isSome) id _ [] _ (fun o ho => ⟨_, rfl, fun f Q q => ?_, fun _ f Q q => q⟩) ?_
    · cases o with
      | none => exact q
      | some w => exact q
    · rw [List.nil_append, fm_oU]
      exact q
structure POk (ms : List Str) (us : List Us) : Prop where
  nd : ms.Nodup
  len : ms.length ≤ 24
  ul : us.length ≤ 200
  as : ∀ m ∈ ms, asc m
  sr : us.Pairwise fun a b => leU a b = true
  un : us.Nodup
  mem : ∀ u ∈ us, u.1 ∈ ms ∧ u.2 ∈ ms
theorem POk.asU {ms : List Str} {us : List Us} (h : POk ms us) : ∀ u ∈ us, ascU u := fun u hu => ⟨h.as _ (h.mem u hu).1, h.as _ (h.mem u hu).2⟩
theorem usesOf_snoc (us : List Us) (u : Us) (m : Str) : usesOf (us ++ [u]) m = usesOf us m ++ if u.1 = m then [u.2] else [] := by
  unfold usesOf
  rw [List.filter_append, List.map_append]
  congr 1
  by_cases h : u.1 = m
  · rw [if_pos h]; simp [h]
  · rw [if_neg h]; simp [h]
/-! links_of -/
abbrev s_links_of : Stmt := topS 18
theorem sc_links_of : FnScope ["uses", "found", "user", "used"] ["uses"] (defScope s_links_of) := ⟨rfl, rfl, rfl, by decide +kernel, rfl, by decide +kernel, by decide +kernel⟩
def lnkK (us : List Us) : List Str := ded (us.map Prod.fst)
theorem lnkK_mem {us : List Us} {m : Str} : m ∈ lnkK us ↔ ∃ u ∈ us, u.1 = m := by
  unfold lnkK
  rw [ded_mem, List.mem_map]
theorem lnkK_get (us : List Us) (m : Str) : (lookD ((lnkK us).map Sum.inr) ((lnkK us).map fun m => D.lst ((usesOf us m).map D.str)) (.inr m)).getD (.lst []) = .lst ((usesOf us m).map D.str) := by
  by_cases h : m ∈ lnkK us
  · rw [look_map (f := fun m => D.lst ((usesOf us m).map D.str)) h]
    rfl
  · rw [look_none fun z => h (mem_inr.mp z)]
    have e : usesOf us m = [] := by
      unfold usesOf
      rw [List.map_eq_nil_iff, List.filter_eq_nil_iff]
      intro u hu hd
      exact h (lnkK_mem.mpr ⟨u, hu, of_decide_eq_true hd⟩)
    rw [e]
    rfl
theorem lnkK_nil : lnkK [] = [] := by unfold lnkK ded; rfl
theorem lnkK_len (us : List Us) : (lnkK us).length ≤ us.length := by
  have := ded_len (us.map Prod.fst)
  rwa [List.length_map] at this
theorem lnkK_put (us : List Us) (u : Us) : putKs ((lnkK us).map Sum.inr) (.inr u.1) = (lnkK (us ++ [u])).map Sum.inr ∧
    putXs ((lnkK us).map Sum.inr) ((lnkK us).map fun m => D.lst ((usesOf us m).map D.str)) (.inr u.1) (.lst ((usesOf us u.1 ++ [u.2]).map D.str)) = (lnkK (us ++ [u])).map fun m => D.lst ((usesOf (us ++ [u]) m).map D.str) := by
  have eK : lnkK (us ++ [u]) = putS (lnkK us) u.1 := by
    unfold lnkK
    rw [List.map_append]
    exact ded_snoc _ _
  by_cases h : u.1 ∈ lnkK us
  · obtain ⟨e1, e2⟩ := put_upd (f := fun m => D.lst ((usesOf us m).map D.str)) (v := .lst ((usesOf us u.1 ++ [u.2]).map D.str)) h
    rw [e1, e2, eK]
    unfold putS
    rw [if_pos h]
    refine ⟨rfl, List.map_congr_left fun x _ => ?_⟩
    show (if x = u.1 then _ else _) = _
    rw [usesOf_snoc]
    by_cases e : x = u.1
    · rw [if_pos e, if_pos e.symm, e]
    · rw [if_neg e, if_neg fun z => e z.symm, List.append_nil]
  · rw [putKs_new h, putXs_new h, eK]
    unfold putS
    rw [if_neg h, List.map_append]
    refine ⟨rfl, ?_⟩
    rw [List.map_append (f := fun m => D.lst ((usesOf (us ++ [u]) m).map D.str)) (l₁ := lnkK us) (l₂ := [u.1])]
    congr 1
    · refine List.map_congr_left fun x hx => ?_
      show D.lst _ = D.lst _
      rw [usesOf_snoc, if_neg fun z => h (by rw [z]; exact hx), List.append_nil]
    · show [D.lst _] = [D.lst ((usesOf (us ++ [u]) u.1).map D.str)]
      rw [usesOf_snoc, if_pos rfl]
def Sp_links_of : DSp := fun _ ds f Q => ∃ us : List Us, ds = [.tup (us.map pairD)] ∧ us.length ≤ 200 ∧ Q (lnkD (lnkK us) us) f
set_option maxHeartbeats 2000000 in
theorem ok_links_of (d : Df K mg "links_of" s_links_of) : Cal P w K mg base 1 "links_of" ["uses"] Sp_links_of := by
  obtain ⟨f, fd, F, m⟩ := d
  refine ⟨f, fd, dfn (k := 0) (S := Sp_links_of) F sc_links_of ?len (fun cdv A outer s H E hr => (dss_cons (ds_setD0 (i := 1) sc_links_of.nd)
      (dss_cons (ds_for [] PassesOwn.never (di_seq (de_v 0)) (dg_tup rfl (dgs_cons (dg_name (i := 2) sc_links_of.nd) (dgs_cons (dg_name (i := 3) sc_links_of.nd) dgs_nil))) (dss_one (ds_setKeyL hr (i := 1) (de_v 2) (dl_cat (de_dget2 hr (de_v 1) (de_v 2) (dl_lst da_nil).e) (dl_lst (da_cons (de_v 3) da_nil)).e))))
      (dss_one (ds_ret (de_v 1)))))) ?h, F.kp, F.binds fun _ _ _ _ _ _ us hl => match us, hl with | [_], _ => rfl, m⟩
  case len =>
    intro g ds n Q h; obtain ⟨_, rfl, _⟩ := h; rfl
  case h =>
    intro g ds n Q h
    obtain ⟨us, rfl, hl, q⟩ := h
    refine dFor_list pairD (fun done rest r f => ∃ (a b : Sl), r = [.sh (.tup (us.map pairD)), .od ((lnkK done).map Sum.inr) ((lnkK done).map fun m => .lst ((usesOf done m).map D.str)), a, b] ∧ n = f) us _ _ ?_ ?_ ⟨_, _, by rw [lnkK_nil]; rfl, rfl⟩
    · rintro done u rest r f N hu ⟨a, b, rfl, rfl⟩ hN
      have hdl : done.length ≤ 200 := by have := congrArg List.length hu; rw [List.length_append] at this; omega
      refine ⟨_, rfl, _, _, rfl, ?_⟩
      refine ⟨Nat.zero_le _, .inr u.1, rfl, ?_⟩
      rw [lnkK_get]
      obtain ⟨e1, e2⟩ := lnkK_put done u
      refine ⟨show 1 ≤ lim by decide, ?_, ?_, .inr u.1, rfl, ?_, ?_⟩
      · rw [List.length_map]
        have : (usesOf done u.1).length ≤ done.length := by
          unfold usesOf
          rw [List.length_map]
          exact List.length_filter_le _ _
        exact L1 (by show _ + 1 ≤ _; omega)
      · show flatA ((usesOf done u.1).map D.str ++ [u.2].map D.str) = true
        rw [← List.map_append]
        exact flatA_strs _
      · rw [List.length_map]
        exact L1 (Nat.le_trans (lnkK_len done) (by omega))
      · show N [.sh (.tup (us.map pairD)), .od (putKs ((lnkK done).map Sum.inr) (.inr u.1)) (putXs ((lnkK done).map Sum.inr) ((lnkK done).map fun m => .lst ((usesOf done m).map D.str)) (.inr u.1) (.lst ((usesOf done u.1).map D.str ++ [u.2].map D.str))), .sh (.str u.1), .sh (.str u.2)] _
        rw [← List.map_append, e1, e2]
        exact hN _ _ ⟨_, _, rfl, rfl⟩
    · rintro r f ⟨a, b, rfl, rfl⟩
      exact q
/-! chains_from -/
abbrev s_chains_from : Stmt := topS 19
theorem sc_chains_from : FnScope ["links", "start", "found", "row", "behind", "module", "used"] ["links", "start"] (defScope s_chains_from) := ⟨rfl, rfl, rfl, by decide +kernel, rfl, by decide +kernel, by decide +kernel⟩
def tpS (w : List Str) : D := .tup (w.map D.str)
def Sp_chains_from : DSp := fun _ ds f Q => ∃ (ms : List Str) (us : List Us) (s : Str), ds = [lnkD (lnkK us) us, .str s] ∧ ms.Nodup ∧ ms.length ≤ 24 ∧ us.length ≤ 200 ∧ (∀ m ∈ ms, asc m) ∧ (us.Pairwise fun a b => leU a b = true) ∧ us.Nodup ∧ (∀ u ∈ us, u.2 ∈ ms) ∧ s ∈ ms ∧
  ∀ ks : List Str, ks.Nodup → (∀ t, t ∈ ks ↔ Rch us s t) → (∀ t ∈ ks, FCh us s t (fch us s t) ∧ (fch us s t).length ≤ 25) → Q (.dct (ks.map Sum.inr) (ks.map fun t => tpS (fch us s t))) f
set_option maxHeartbeats 2000000 in
theorem ok_chains_from (d : Df K mg "chains_from" s_chains_from) (m_list : mg "list" = none) : Cal P w K mg base 1 "chains_from" ["links", "start"] Sp_chains_from := by
  obtain ⟨f, fd, F, m⟩ := d
  refine ⟨f, fd, dfn (k := 0) (S := Sp_chains_from) F sc_chains_from ?len (fun cdv A outer s H E hr => (dss_cons (ds_setD1 (i := 2) sc_chains_from.nd (de_v 1) (de_tup (da_cons (de_v 1) da_nil)))
      (dss_cons (ds_setL false (i := 3) sc_chains_from.nd (dl_lst (da_cons (de_v 1) da_nil)))
      (dss_cons (ds_while PassesOwn.never (dp_ne hr.units (de_v 3) (dl_lst da_nil).e) (dss_cons (ds_setL false (i := 4) sc_chains_from.nd (dl_lst da_nil))
      (dss_cons (ds_for [3] PassesOwn.never (di_seq (de_v 3)) (dg_name (i := 5) sc_chains_from.nd) (dss_one (ds_for [] PassesOwn.never (di_seq (de_dget2 hr (de_v 0) (de_v 5) (dl_lst da_nil).e)) (dg_name (i := 6) sc_chains_from.nd) (dss_one (ds_if (dp_dnotIn hr (de_v 6) (de_v 2)) (dss_cons (ds_setKey true hr (i := 2) (de_v 6) (de_add (de_dget hr (de_v 2) (de_v 5)) (de_tup (da_cons (de_v 6) da_nil))))
      (dss_one (ds_app false (i := 4) (de_v 6)))) dss_nil)))))
      (dss_one (ds_setL true (i := 3) sc_chains_from.nd (dl_listOf m_list (da_cons (de_v 4) da_nil)))))))
      (dss_one (ds_ret (de_v 2))))))) ?h, F.kp, F.binds fun _ _ _ _ _ _ us hl => match us, hl with | [_, _], _ => rfl, m⟩
  case len =>
    intro g ds n Q h; obtain ⟨_, _, _, rfl, _⟩ := h; rfl
  case h =>
    intro g ds n Q h
    obtain ⟨ms, us, s, rfl, hn, hl, hlu, ha, hsr, hnd, hu, hs, q⟩ := h
    have hin : ∀ {m : Str}, Rch us s m → m ∈ ms := fun h => h.mem hs hu
    have bl : ∀ {k : Nat} {ks row : List Str}, BC us s k ks row → ks.length ≤ 24 := fun B => Nat.le_trans (nodup_sub_len B.nd fun x hx => hin (B.fst x hx).1.is.rch) hl
    have ml : ∀ {k : Nat} {ks row done more : List Str}, BC us s k ks row → MC us s k ks done more → (ks ++ more).length ≤ 24 := fun B M => Nat.le_trans (nodup_sub_len M.nd fun x hx => by
      rcases List.mem_append.mp hx with e | e
      · exact hin (B.fst x e).1.is.rch
      · exact hin (M.fst x e).1.is.rch) hl
    have e0 : fch us s s = [s] := fch_eq fch_self
    refine ⟨show 1 ≤ lim by decide, .inr s, rfl, ?_⟩
    refine ⟨show 1 ≤ lim by decide, ?_⟩
    refine dWhile_inv (fun v r f => ∃ (k : Nat) (ks row : List Str) (a b c : Sl), r = [.sh (lnkD (lnkK us) us), .sh (.str s), .od (ks.map Sum.inr) (ks.map fun t => tpS (fch us s t)), .ow (row.map D.str), a, b, c] ∧ n = f ∧ BC us s k ks row ∧ k ≤ ks.length ∧ (row ≠ [] → k + 1 ≤ ks.length) ∧ v = (24 - ks.length) + if row = [] then 0 else 1) ?_ ⟨0, [s], [s], _, _, _, by rw [List.map_singleton, List.map_singleton, e0] <;> try rfl, rfl, BC.start us s, Nat.zero_le _, fun _ => Nat.le_refl _, rfl⟩
    rintro v r f N ⟨k, ks, row, a, b, c, rfl, rfl, B, hk0, hk1, rfl⟩ hN
    have hkl := bl B
    have hrk : ∀ m ∈ row, m ∈ ks := fun m hm => ((B.mem m).mp hm).1
    refine ⟨Nat.zero_le _, shpS (fun m hm => ha m (hin (B.fst m (hrk m hm)).1.is.rch)), rfl, ?_⟩
    rw [eqvL_nil]
    show if (!decide (row.map D.str = [])) = true then _ else _
    by_cases hrow : row = []
    · subst hrow
      exact q ks B.nd B.done fun t ht => ⟨(B.fst t ht).1, by have := (B.fst t ht).2; omega⟩
    · rw [decide_eq_false (by simpa using hrow)]
      refine iteT ⟨Nat.zero_le _, ?_⟩
      refine dFor_list D.str (fun done rest r f => ∃ (more : List Str) (a b : Sl), r = [.sh (lnkD (lnkK us) us), .sh (.str s), .od ((ks ++ more).map Sum.inr) ((ks ++ more).map fun t => tpS (fch us s t)), .sh (.lst (row.map D.str)), .ow (more.map D.str), a, b] ∧ n = f ∧ MC2 us s k ks done more) row _ _ ?_ ?_ ⟨[], _, _, by rw [List.append_nil]; exact rfl, rfl, MC2.start B⟩
      · rintro done x rest r f N1 hx ⟨more, a, b, rfl, rfl, M⟩ hN1
        have hxr : x ∈ row := by rw [hx]; simp
        have hxk := hrk x hxr
        refine ⟨_, rfl, Nat.zero_le _, .inr x, rfl, ?_⟩
        rw [lnkK_get]
        refine dFor_list D.str (fun dn dr r f => ∃ (more : List Str) (b : Sl), r = [.sh (lnkD (lnkK us) us), .sh (.str s), .od ((ks ++ more).map Sum.inr) ((ks ++ more).map fun t => tpS (fch us s t)), .sh (.lst (row.map D.str)), .ow (more.map D.str), .sh (.str x), b] ∧ n = f ∧ MC1 us s k ks done x dn more) (usesOf us x) _ _ ?_ ?_ ⟨more, _, rfl, rfl, M.one x⟩
        · rintro dn y dr r f N2 hy ⟨more, b, rfl, rfl, M1⟩ hN2
          refine ⟨_, rfl, .inr y, rfl, ?_⟩
          show if (!decide ((Sum.inr y : Key) ∈ (ks ++ more).map (Sum.inr : Str → Key))) = true then _ else _
          by_cases hin' : y ∈ ks ++ more
          · rw [decide_eq_true (mem_inr.mpr hin')]
            exact hN2 _ _ ⟨more, _, rfl, rfl, M1.old hin'⟩
          · rw [decide_eq_false fun z => hin' (mem_inr.mp z)]
            have hml := ml B M1.toMC
            rw [List.length_append] at hml
            obtain ⟨M2, ey⟩ := M1.step hsr hnd B hx hy hin'
            have lx := ((B.mem x).mp hxr).2
            refine iteT ⟨_, _, rfl, ?_⟩
            refine ⟨.inr x, tpS (fch us s x), rfl, look_map (f := fun t => tpS (fch us s t)) (List.mem_append_left _ hxk), ?_⟩
            have hk24 := bl B
            refine ⟨show 1 ≤ lim by decide, ?_, ?_, .inr y, rfl, by rw [List.length_map, List.length_append]; exact L1 (by omega), _, rfl, by rw [List.length_map]; exact L1 (by omega), ?_⟩
            · rw [List.length_map, lx]; exact L1 (by show k + 1 + 1 ≤ _; omega)
            · show flatA ((fch us s x).map D.str ++ [y].map D.str) = true
              rw [← List.map_append]
              exact flatA_strs _
            refine hN2 _ _ ⟨more ++ [y], .sh (.str y), ?_, rfl, M2⟩
            have q1 : (more ++ [y]).map D.str = more.map D.str ++ [D.str y] := by rw [List.map_append]; rfl
            have q2 : ks ++ (more ++ [y]) = (ks ++ more) ++ [y] := (List.append_assoc ..).symm
            have q3 : ((ks ++ more) ++ [y]).map (fun t => tpS (fch us s t)) = (ks ++ more).map (fun t => tpS (fch us s t)) ++ [.tup ((fch us s x).map D.str ++ [D.str y])] := by
              rw [List.map_append (f := fun t => tpS (fch us s t))]
              show _ ++ [tpS (fch us s y)] = _
              rw [ey]
              unfold tpS
              rw [List.map_append (f := D.str)]
              rfl
            rw [q1, q2, q3, putKs_new hin', putXs_new hin']
            rfl
        · rintro r f ⟨more, b, rfl, rfl, M1⟩
          exact hN1 _ _ ⟨more, _, _, rfl, rfl, M1.two⟩
      · rintro r f ⟨more, a, b, rfl, rfl, M⟩
        have hml := ml B M.toMC
        refine ⟨flatA_strs more, ?_⟩
        refine hN _ _ _ ?_ ⟨k + 1, ks ++ more, more, _, _, _, rfl, rfl, M.next B, ?_, fun h => ?_, rfl⟩
        · rw [if_neg hrow]
          have := hk1 hrow
          rw [List.length_append] at hml ⊢
          by_cases e : more = []
          · rw [if_pos e]
            omega
          · rw [if_neg e]
            have := List.length_pos_iff.mpr e
            omega
        · have := hk1 hrow
          rw [List.length_append]
          omega
        · have := hk1 hrow
          have := List.length_pos_iff.mpr h
          rw [List.length_append]
          omega
/-! uses_of -/
abbrev s_uses_of : Stmt := topS 20
theorem sc_uses_of : FnScope ["chain"] ["chain"] (defScope s_uses_of) := ⟨rfl, rfl, rfl, by decide +kernel, rfl, by decide +kernel, by decide +kernel⟩
def Sp_uses_of : DSp := fun _ ds f Q => ∃ w : List Str, ds = [.tup (w.map D.str)] ∧ w.length ≤ 1000 ∧ Q (tpU (lnks w)) f
set_option maxHeartbeats 2000000 in
theorem ok_uses_of (d : Df K mg "uses_of" s_uses_of) (m_tuple : mg "tuple" = none) (m_zip : mg "zip" = none) : Cal P w K mg base 1 "uses_of" ["chain"] Sp_uses_of := by
  obtain ⟨f, fd, F, m⟩ := d
  refine ⟨f, fd, dfn (k := 0) (S := Sp_uses_of) F sc_uses_of ?len (fun cdv A outer s H E hr => (dss_one (ds_ret (de_tupZip m_tuple m_zip (da_cons (de_v 0) (da_cons (de_sl (de_v 0) (do_some de_int) do_none) da_nil)))))) ?h, F.kp, F.binds fun _ _ _ _ _ _ us hl => match us, hl with | [_], _ => rfl, m⟩
  case len =>
    intro g ds n Q h; obtain ⟨_, rfl, _⟩ := h; rfl
  case h =>
    intro g ds n Q h
    obtain ⟨w, rfl, hl, q⟩ := h
    refine ⟨by rw [List.length_map]; exact Nat.le_trans hl (by decide), ?_⟩
    show Q (.tup (zipD (w.map D.str) (cutD (w.map D.str) (some 1) none))) _
    rw [show cutD (w.map D.str) (some 1) none = (w.map D.str).drop 1 from cutD_drop' _ 1, ← List.map_drop, zipD_strs]
    exact q
/-! place_of -/
abbrev s_place_of : Stmt := topS 16
theorem sc_place_of : FnScope ["rule", "module", "index", "row", "path"] ["rule", "module"] (defScope s_place_of) := ⟨rfl, rfl, rfl, by decide +kernel, rfl, by decide +kernel, by decide +kernel⟩
def emRow (p : List Str × Nat) : D := .tup [.int p.2, tps p.1]
theorem enum_rows (rows : List (List Str)) : enumD (rows.map tps) = (rows.zipIdx 0).map emRow := by
  unfold enumD
  rw [List.mapIdx_eq_zipIdx_map, List.zipIdx_map, List.map_map]
  rfl
def Sp_place_of : DSp := fun _ ds f Q => ∃ (r : Rl) (m : Str), ds = [r.d, .str m] ∧ r.form ∧ Q (placeR r m) f
set_option maxHeartbeats 2000000 in
theorem ok_place_of (d : Df K mg "place_of" s_place_of) (m_enumerate : mg "enumerate" = none) (c_covered : Cal P w K mg base 2 "covered" ["paths", "path"] Sp_covered) : Cal P w K mg base 3 "place_of" ["rule", "module"] Sp_place_of := by
  obtain ⟨f, fd, F, m⟩ := d
  refine ⟨f, fd, dfn (k := 2) (S := Sp_place_of) F sc_place_of ?len (fun cdv A outer s H E hr => (dss_cons (ds_if (dp_in hr (de_ix (de_v 0) de_int) (de_tup (da_cons de_str (da_cons de_str da_nil)))) (dss_one (ds_ret (de_tup (da_cons (de_callC c_covered (hr.mono (by decide)) (da_cons (de_ix (de_v 0) de_int) (da_cons (de_v 1) da_nil))) (da_cons (de_callC c_covered (hr.mono (by decide)) (da_cons (de_ix (de_v 0) de_int) (da_cons (de_v 1) da_nil))) da_nil))))) dss_nil)
      (dss_cons (ds_if (dp_eq hr.units (de_ix (de_v 0) de_int) de_str) (dss_one (ds_ret (de_tup (da_cons (de_callC c_covered (hr.mono (by decide)) (da_cons (de_tup (da_cons (de_ix (de_v 0) de_int) da_nil)) (da_cons (de_v 1) da_nil))) (da_cons (de_callC c_covered (hr.mono (by decide)) (da_cons (de_ix (de_v 0) de_int) (da_cons (de_v 1) da_nil))) da_nil))))) dss_nil)
      (dss_cons (ds_if (dp_in hr (de_ix (de_v 0) de_int) (de_tup (da_cons de_str (da_cons de_str da_nil)))) (dss_cons (ds_for [] PassesOwn.never (di_enum m_enumerate (da_cons (de_ix (de_v 0) de_int) da_nil)) (dg_tup rfl (dgs_cons (dg_name (i := 2) sc_place_of.nd) (dgs_cons (dg_name (i := 3) sc_place_of.nd) dgs_nil))) (dss_cons (ds_set false (i := 4) sc_place_of.nd (de_callC c_covered (hr.mono (by decide)) (da_cons (de_v 3) (da_cons (de_v 1) da_nil))))
      (dss_one (ds_if (dp_notN (de_v 4) de_non) (dss_one (ds_ret (de_tup (da_cons (de_v 2) (da_cons (de_v 4) da_nil))))) dss_nil))))
      (dss_one (ds_ret (de_tup (da_cons de_non (da_cons de_non da_nil)))))) dss_nil)
      (dss_one (ds_ret (de_tup (da_cons de_non (da_cons (de_callC c_covered (hr.mono (by decide)) (da_cons (de_ix (de_v 0) de_int) (da_cons (de_v 1) da_nil))) da_nil))))))))) ?h, F.kp, F.binds fun _ _ _ _ _ _ us hl => match us, hl with | [_, _], _ => rfl, m⟩
  case len =>
    intro g ds n Q h; obtain ⟨_, _, rfl, _⟩ := h; rfl
  case h =>
    intro g ds n Q h
    obtain ⟨r, m, rfl, hr, q⟩ := h
    have aw : asc r.wd := by cases r <;> (simp only [Rl.wd]; decide +kernel)
    have T : ∀ {l k : Nat} {ps : List Str}, rPs l k ps → ∀ p ∈ ps, p.length ≤ 100000 := fun h p hp => Nat.le_trans (rp_asc (h.2.2 p hp)).2 (by decide)
    refine ⟨_, atI0, show 2 ≤ lim by decide, oIn_strs (l := ["forbid", "only"]) (by decide +kernel) aw ?_⟩
    have R : ∀ (rows : List (List Str)) (d : D), rRows rows → Q (rowD (rowAt 0 rows m)) n → ∀ (E : DEnds), E.rt = Q →
        (∀ a b c, E.nx [.sh d, .sh (.str m), a, b, c] n → True) → (∀ a b c, Q (.tup [.none, .none]) n → E.nx [.sh d, .sh (.str m), a, b, c] n) →
        dForGo g (tgTup [tgN 2, tgN 3]) (sSeq (sSet false 4 (dCall Sp_covered (dCons (dVar 3) (dCons (dVar 1) dNil)))) (sIf (dTest (dOp (oIsN true) (dVar 4) (dC D.none))) (sRet (dTup (dCons (dVar 2) (dCons (dVar 4) dNil)))) sNext)) E (enumD (rows.map tps)) [.sh d, .sh (.str m), .no, .no, .no] n := fun rows d hrr q E hE _ hnx => by
      rw [enum_rows]
      have main : ∀ (rows : List (List Str)) (i : Nat) (a b c : Sl), (∀ r ∈ rows, ∀ p ∈ r, p.length ≤ 100000) → Q (rowD (rowAt i rows m)) n → dForGo g (tgTup [tgN 2, tgN 3]) (sSeq (sSet false 4 (dCall Sp_covered (dCons (dVar 3) (dCons (dVar 1) dNil)))) (sIf (dTest (dOp (oIsN true) (dVar 4) (dC D.none))) (sRet (dTup (dCons (dVar 2) (dCons (dVar 4) dNil)))) sNext)) E ((rows.zipIdx i).map emRow) [.sh d, .sh (.str m), a, b, c] n := by
        intro rows
        induction rows with
        | nil => intro i a b c _ q; exact hnx a b c q
        | cons r rows ih =>
          intro i a b c hl q
          refine ⟨r, m, .inl rfl, hl r (by simp), ?_⟩
          rw [covd_eq]
          unfold rowAt at q
          cases e : homeO r m with
          | some p =>
            rw [e] at q
            show _ ∧ _
            refine ⟨show 2 ≤ lim by decide, ?_⟩
            show E.rt _ _
            rw [hE]
            exact q
          | none =>
            rw [e] at q
            exact ih (i + 1) _ _ _ (fun x hx => hl x (by simp [hx])) q
      exact main rows 0 _ _ _ (fun r h => T (hrr.2.2 r h)) q
    cases r with
    | forbid ss ts ch =>
      refine iteT ⟨_, atI_nat (j := 1) rfl, ss, m, .inl rfl, T hr.1, _, atI_nat (j := 2) rfl, ts, m, .inl rfl, T hr.2, show 2 ≤ lim by decide, ?_⟩
      rw [covd_eq, covd_eq]
      exact q
    | only ts us =>
      refine iteT ⟨_, atI_nat (j := 1) rfl, ts, m, .inl rfl, T hr.1, _, atI_nat (j := 2) rfl, us, m, .inl rfl, T hr.2, show 2 ≤ lim by decide, ?_⟩
      rw [covd_eq, covd_eq]
      exact q
    | face p es =>
      refine iteF ⟨_, atI0, ?_⟩
      show Exists _
      refine ⟨_, atI_nat (j := 1) rfl, show 1 ≤ lim by decide, [p], m, .inl rfl, fun x hx => ?_, _, atI_nat (j := 2) rfl, es, m, .inl rfl, T hr.2.1, show 2 ≤ lim by decide, ?_⟩
      · rw [List.mem_singleton.mp hx]; exact Nat.le_trans (rp_asc hr.1).2 (by decide)
      rw [covd_eq, covd_eq]
      exact q
    | layers rows ch =>
      refine iteF ⟨_, atI0, ?_⟩
      show Exists _
      refine ⟨_, atI0, show 2 ≤ lim by decide, oIn_strs (l := ["layers", "stairs"]) (by decide +kernel) aw ?_⟩
      show Exists _
      refine ⟨_, atI_nat (j := 1) rfl, ?_⟩
      exact R rows _ hr q _ rfl (fun _ _ _ _ => trivial) (fun a b c q => ⟨show 2 ≤ lim by decide, q⟩)
    | stairs rows =>
      refine iteF ⟨_, atI0, ?_⟩
      show Exists _
      refine ⟨_, atI0, show 2 ≤ lim by decide, oIn_strs (l := ["layers", "stairs"]) (by decide +kernel) aw ?_⟩
      show Exists _
      refine ⟨_, atI_nat (j := 1) rfl, ?_⟩
      exact R rows _ hr q _ rfl (fun _ _ _ _ => trivial) (fun a b c q => ⟨show 2 ≤ lim by decide, q⟩)
    | apart ps ch =>
      refine iteF ⟨_, atI0, ?_⟩
      show Exists _
      refine ⟨_, atI0, show 2 ≤ lim by decide, oIn_strs (l := ["layers", "stairs"]) (by decide +kernel) aw ?_⟩
      show Exists _
      refine ⟨_, atI_nat (j := 1) rfl, ps, m, .inl rfl, T hr, show 2 ≤ lim by decide, ?_⟩
      rw [covd_eq]
      exact q
    | noring ps =>
      refine iteF ⟨_, atI0, ?_⟩
      show Exists _
      refine ⟨_, atI0, show 2 ≤ lim by decide, oIn_strs (l := ["layers", "stairs"]) (by decide +kernel) aw ?_⟩
      show Exists _
      refine ⟨_, atI_nat (j := 1) rfl, ps, m, .inl rfl, T hr, show 2 ≤ lim by decide, ?_⟩
      rw [covd_eq]
      exact q
/-! is_barred -/
abbrev s_is_barred : Stmt := topS 17
theorem sc_is_barred : FnScope ["rule", "one", "other"] ["rule", "one", "other"] (defScope s_is_barred) := ⟨rfl, rfl, rfl, by decide +kernel, rfl, by decide +kernel, by decide +kernel⟩
def Sp_is_barred : DSp := fun _ ds f Q => ∃ (r : Rl) (a b : Str), ds = [r.d, placeR r a, placeR r b] ∧ r.form ∧ r.wd ≠ "noring" ∧ Q (.bool (barB r a b)) f
set_option maxHeartbeats 2000000 in
theorem ok_is_barred (d : Df K mg "is_barred" s_is_barred) : Cal P w K mg base 1 "is_barred" ["rule", "one", "other"] Sp_is_barred := by
  obtain ⟨f, fd, F, m⟩ := d
  refine ⟨f, fd, dfn (k := 0) (S := Sp_is_barred) F sc_is_barred ?len (fun cdv A outer s H E hr => (dss_cons (ds_if (dp_eq hr.units (de_ix (de_v 0) de_int) de_str) (dss_one (ds_ret (de_and (de_notN (de_ix (de_v 1) de_int) de_non) (de_one (de_notN (de_ix (de_v 2) de_int) de_non))))) dss_nil)
      (dss_cons (ds_if (dp_eq hr.units (de_ix (de_v 0) de_int) de_str) (dss_one (ds_ret (de_and (de_notN (de_ix (de_v 2) de_int) de_non) (de_and (de_ne hr.units (de_ix (de_v 1) de_int) (de_ix (de_v 2) de_int)) (de_one (de_isN (de_ix (de_v 1) de_int) de_non)))))) dss_nil)
      (dss_cons (ds_if (dp_eq hr.units (de_ix (de_v 0) de_int) de_str) (dss_one (ds_ret (de_and (de_notN (de_ix (de_v 2) de_int) de_non) (de_and (de_isN (de_ix (de_v 1) de_int) de_non) (de_one (de_isN (de_ix (de_v 2) de_int) de_non)))))) dss_nil)
      (dss_cons (ds_if (DW.p (dw_or (dp_isN (de_ix (de_v 1) de_int) de_non) (dw_or1 (dp_isN (de_ix (de_v 2) de_int) de_non)))) (dss_one (ds_ret de_bl)) dss_nil)
      (dss_cons (ds_if (dp_eq hr.units (de_ix (de_v 0) de_int) de_str) (dss_one (ds_ret (de_notIn hr (de_ix (de_v 2) de_int) (de_tup (da_cons (de_ix (de_v 1) de_int) (da_cons (de_add (de_ix (de_v 1) de_int) de_int) da_nil)))))) dss_nil)
      (dss_one (ds_ret (de_and (de_ne hr.units (de_ix (de_v 1) de_int) (de_ix (de_v 2) de_int)) (de_one (de_or (de_eq hr.units (de_ix (de_v 0) de_int) de_str) (de_one (de_le (de_ix (de_v 2) de_int) (de_ix (de_v 1) de_int)))))))))))))) ?h, F.kp, F.binds fun _ _ _ _ _ _ us hl => match us, hl with | [_, _, _], _ => rfl, m⟩
  case len =>
    intro g ds n Q h; obtain ⟨_, _, _, rfl, _⟩ := h; rfl
  case h =>
    intro g ds n Q h
    obtain ⟨r, a, b, rfl, hr, hw, q⟩ := h
    refine ⟨_, atI0, ?_⟩
    cases r with
    | forbid ss ts ch =>
      simp only [placeR, barB] at q ⊢
      show Exists _
      refine ⟨_, atI0, ?_⟩
      cases h1 : homeO ss a with
      | none => rw [h1] at q; exact q
      | some p =>
        rw [h1] at q
        show Exists _
        refine ⟨_, atI_nat (j := 1) rfl, ?_⟩
        cases h2 : homeO ts b with
        | none => rw [h2] at q; exact q
        | some p => rw [h2] at q; exact q
    | only ts us =>
      simp only [placeR, barB] at q ⊢
      show Exists _
      refine ⟨_, atI0, ?_⟩
      show Exists _
      refine ⟨_, atI0, ?_⟩
      cases h1 : homeO ts b with
      | none => rw [h1] at q; exact q
      | some p =>
        rw [h1] at q
        show Exists _
        refine ⟨_, atI0, ?_⟩
        show Exists _
        refine ⟨_, atI0, ?_⟩
        refine oEq_oD (x := homeO ts a) (y := some p) (home_asc hr.1 a) (fun s e => by cases e; exact home_asc hr.1 b p h1) ?_
        by_cases h2 : homeO ts a = some p
        · rw [decide_eq_false (fun h => h h2)] at q
          rw [decide_eq_true h2]
          exact q
        · rw [decide_eq_true h2] at q
          rw [decide_eq_false h2]
          show Exists _
          refine ⟨_, atI_nat (j := 1) rfl, ?_⟩
          cases h3 : homeO us a with
          | none => rw [h3] at q; exact q
          | some p => rw [h3] at q; exact q
    | face p es =>
      simp only [placeR, barB] at q ⊢
      have hc : ∀ m, homeO [p] m = if cov p m = true then some p else none := fun m => by
        unfold homeO
        rw [List.find?_cons]
        cases cov p m <;> rfl
      rw [hc a, hc b]
      show Exists _
      refine ⟨_, atI0, ?_⟩
      show Exists _
      refine ⟨_, atI0, ?_⟩
      show Exists _
      refine ⟨_, atI0, ?_⟩
      cases h1 : cov p b with
      | false => rw [h1] at q; exact q
      | true =>
        rw [h1] at q
        show Exists _
        refine ⟨_, atI0, ?_⟩
        cases h2 : cov p a with
        | true => rw [h2] at q; exact q
        | false =>
          rw [h2] at q
          show Exists _
          refine ⟨_, atI_nat (j := 1) rfl, ?_⟩
          cases h3 : homeO es b with
          | none => rw [h3] at q; exact q
          | some p => rw [h3] at q; exact q
    | layers rows ch =>
      simp only [placeR, barB] at q ⊢
      have ha : ∀ i p, rowAt 0 rows a = some (i, p) → asc p := fun i p e => rowAt_asc hr e
      have hb : ∀ i p, rowAt 0 rows b = some (i, p) → asc p := fun i p e => rowAt_asc hr e
      generalize rowAt 0 rows a = x at *
      generalize rowAt 0 rows b = y at *
      rcases x with _ | ⟨i, p⟩
      · show Exists _
        refine ⟨_, atI0, ?_⟩
        show Exists _
        refine ⟨_, atI0, ?_⟩
        show Exists _
        refine ⟨_, atI_nat (j := 1) rfl, ?_⟩
        exact q
      rcases y with _ | ⟨j, p'⟩
      · show Exists _
        refine ⟨_, atI0, ?_⟩
        show Exists _
        refine ⟨_, atI0, ?_⟩
        show Exists _
        refine ⟨_, atI_nat (j := 1) rfl, ?_⟩
        show Exists _
        refine ⟨_, atI_nat (j := 1) rfl, ?_⟩
        exact q
      show Exists _
      refine ⟨_, atI0, ?_⟩
      show Exists _
      refine ⟨_, atI0, ?_⟩
      show Exists _
      refine ⟨_, atI_nat (j := 1) rfl, ?_⟩
      show Exists _
      refine ⟨_, atI_nat (j := 1) rfl, ?_⟩
      show Exists _
      refine ⟨_, atI0, ?_⟩
      show Exists _
      refine ⟨_, atI_nat (j := 1) rfl, ?_⟩
      show Exists _
      refine ⟨_, atI_nat (j := 1) rfl, ?_⟩
      refine oEq_oD (x := some p) (y := some p') (fun s e => by cases e; exact ha i p rfl) (fun s e => by cases e; exact hb j p' rfl) ?_
      have q : Q (.bool (decide (p ≠ p') && decide (j ≤ i))) n := q
      by_cases h3 : p = p'
      · subst h3
        rw [decide_eq_false (fun h => h rfl)] at q
        rw [decide_eq_true rfl]
        exact q
      · rw [decide_eq_true h3] at q
        rw [decide_eq_false (fun e : some p = some p' => h3 (Option.some.inj e))]
        show Exists _
        refine ⟨_, atI0, ?_⟩
        show Exists _
        refine ⟨_, atI0, ?_⟩
        show Exists _
        refine ⟨_, atI0, ?_⟩
        show Q (.bool (decide ((j : Int) ≤ (i : Int)))) n
        rw [show decide ((j : Int) ≤ (i : Int)) = decide (j ≤ i) from decide_eq_decide.mpr Int.ofNat_le]
        exact q
    | stairs rows =>
      simp only [placeR, barB] at q ⊢
      generalize rowAt 0 rows a = x at *
      generalize rowAt 0 rows b = y at *
      rcases x with _ | ⟨i, p⟩
      · show Exists _
        refine ⟨_, atI0, ?_⟩
        show Exists _
        refine ⟨_, atI0, ?_⟩
        show Exists _
        refine ⟨_, atI_nat (j := 1) rfl, ?_⟩
        exact q
      rcases y with _ | ⟨j, p'⟩
      · show Exists _
        refine ⟨_, atI0, ?_⟩
        show Exists _
        refine ⟨_, atI0, ?_⟩
        show Exists _
        refine ⟨_, atI_nat (j := 1) rfl, ?_⟩
        show Exists _
        refine ⟨_, atI_nat (j := 1) rfl, ?_⟩
        exact q
      show Exists _
      refine ⟨_, atI0, ?_⟩
      show Exists _
      refine ⟨_, atI0, ?_⟩
      show Exists _
      refine ⟨_, atI_nat (j := 1) rfl, ?_⟩
      show Exists _
      refine ⟨_, atI_nat (j := 1) rfl, ?_⟩
      show Exists _
      refine ⟨_, atI0, ?_⟩
      show Exists _
      refine ⟨_, atI0, ?_⟩
      show Exists _
      refine ⟨_, atI0, ?_⟩
      show Exists _
      refine ⟨_, atI0, ?_⟩
      show _ ∧ _
      refine ⟨show 2 ≤ lim by decide, ?_⟩
      have e : ((pyA [D.int i, .int ((i : Int) + 1)]).any fun z => PyData.eqv z (D.int j).py) = (decide (j = i) || decide (j = i + 1)) := by
        show (((i : Int) == (j : Int)) || ((((i : Int) + 1) == (j : Int)) || false)) = _
        rw [Bool.beq_eq_decide_eq, Bool.beq_eq_decide_eq, Bool.or_false]
        congr 1
        · exact decide_eq_decide.mpr ⟨fun h => by omega, fun h => by omega⟩
        · exact decide_eq_decide.mpr ⟨fun h => by omega, fun h => by omega⟩
      refine ⟨rfl, rfl, ?_⟩
      rw [e]
      exact q
    | apart ps ch =>
      simp only [placeR, barB] at q ⊢
      show Exists _
      refine ⟨_, atI0, ?_⟩
      show Exists _
      refine ⟨_, atI0, ?_⟩
      show Exists _
      refine ⟨_, atI_nat (j := 1) rfl, ?_⟩
      cases h1 : homeO ps a with
      | none => rw [h1] at q; exact q
      | some p =>
        rw [h1] at q
        show Exists _
        refine ⟨_, atI_nat (j := 1) rfl, ?_⟩
        cases h2 : homeO ps b with
        | none => rw [h2] at q; exact q
        | some p' =>
          rw [h2] at q
          show Exists _
          refine ⟨_, atI0, ?_⟩
          show Exists _
          refine ⟨_, atI_nat (j := 1) rfl, ?_⟩
          show Exists _
          refine ⟨_, atI_nat (j := 1) rfl, ?_⟩
          refine oEq_oD (x := some p) (y := some p') (fun s e => by cases e; exact home_asc hr a p h1) (fun s e => by cases e; exact home_asc hr b p' h2) ?_
          by_cases h3 : p = p'
          · subst h3
            rw [decide_eq_false (fun h => h rfl)] at q
            rw [decide_eq_true rfl]
            exact q
          · have h4 : ¬ (some p = some p') := fun e => h3 (Option.some.inj e)
            rw [decide_eq_true h4] at q
            rw [decide_eq_false h4]
            show Exists _
            refine ⟨_, atI0, ?_⟩
            exact q
    | noring ps => exact absurd rfl hw
/-! chain_breaks -/
abbrev s_chain_breaks : Stmt := topS 21
theorem sc_chain_breaks : FnScope ["modules", "uses", "rule", "links", "places", "found", "module", "chains", "other"] ["modules", "uses", "rule"] (defScope s_chain_breaks) := ⟨rfl, rfl, rfl, by decide +kernel, rfl, by decide +kernel, by decide +kernel⟩
open Classical in
noncomputable def chP (us : List Us) (r : Rl) (m o : Str) : Bool := decide (o ≠ m ∧ Rch us m o) && barB r m o
open Classical in
theorem chP_yes {us : List Us} {r : Rl} {m o : Str} (h : o ≠ m) (h2 : Rch us m o) : chP us r m o = barB r m o := by
  unfold chP
  rw [decide_eq_true ⟨h, h2⟩, Bool.true_and]
open Classical in
theorem chP_no {us : List Us} {r : Rl} {m o : Str} (h : ¬ (o ≠ m ∧ Rch us m o)) : chP us r m o = false := by
  unfold chP
  rw [decide_eq_false h]
  rfl
open Classical in
theorem chP_iff {us : List Us} {r : Rl} {m o : Str} : chP us r m o = true ↔ o ≠ m ∧ Rch us m o ∧ barB r m o = true := by
  unfold chP
  rw [Bool.and_eq_true, decide_eq_true_iff, and_assoc]
noncomputable def chR (us : List Us) (r : Rl) (m : Str) (l : List Str) : List (List Us) := (l.filter (chP us r m)).map fun o => lnks (fch us m o)
noncomputable def chL (us : List Us) (r : Rl) (ms l : List Str) : List (List Us) := (l.map fun m => chR us r m ms).flatten
theorem chR_len (us : List Us) (r : Rl) (m : Str) (l : List Str) : (chR us r m l).length ≤ l.length := by
  unfold chR
  rw [List.length_map]
  exact List.length_filter_le _ _
theorem chL_len (us : List Us) (r : Rl) (ms : List Str) : ∀ l : List Str, (chL us r ms l).length ≤ l.length * ms.length
  | [] => Nat.zero_le _
  | m :: l => by
    have h1 := chR_len us r m ms
    have h2 := chL_len us r ms l
    have e1 : chL us r ms (m :: l) = chR us r m ms ++ chL us r ms l := rfl
    rw [e1, List.length_append, List.length_cons, Nat.succ_mul]
    omega
theorem chL_snoc (us : List Us) (r : Rl) (ms l : List Str) (m : Str) : chL us r ms (l ++ [m]) = chL us r ms l ++ chR us r m ms := by
  unfold chL
  rw [List.map_append, List.flatten_append]
  simp
theorem chR_snoc (us : List Us) (r : Rl) (m : Str) (l : List Str) (o : Str) : chR us r m (l ++ [o]) = chR us r m l ++ if chP us r m o = true then [lnks (fch us m o)] else [] := by
  unfold chR
  rw [List.filter_append, List.map_append]
  congr 1
  by_cases h : chP us r m o = true
  · rw [if_pos h, List.filter_cons_of_pos h]; rfl
  · rw [if_neg h, List.filter_cons_of_neg h]; rfl
def Sp_chain_breaks : DSp := fun _ ds f Q => ∃ (ms : List Str) (us : List Us) (r : Rl), ds = [tps ms, .tup (us.map pairD), r.d] ∧ POk ms us ∧ r.form ∧ r.wd ≠ "noring" ∧ Q (.lst ((chL us r ms ms).map tpU)) f
set_option maxHeartbeats 2000000 in
theorem ok_chain_breaks (d : Df K mg "chain_breaks" s_chain_breaks) (c_is_barred : Cal P w K mg base 1 "is_barred" ["rule", "one", "other"] Sp_is_barred) (c_uses_of : Cal P w K mg base 1 "uses_of" ["chain"] Sp_uses_of) (c_chains_from : Cal P w K mg base 1 "chains_from" ["links", "start"] Sp_chains_from) (c_place_of : Cal P w K mg base 3 "place_of" ["rule", "module"] Sp_place_of) (c_links_of : Cal P w K mg base 1 "links_of" ["uses"] Sp_links_of) : Cal P w K mg base 4 "chain_breaks" ["modules", "uses", "rule"] Sp_chain_breaks := by
  obtain ⟨f, fd, F, m⟩ := d
  refine ⟨f, fd, dfn (k := 3) (S := Sp_chain_breaks) F sc_chain_breaks ?len (fun cdv A outer s H E hr => (dss_cons (ds_par false (i := 3) (j := 4) sc_chain_breaks.nd (de_callC c_links_of (hr.mono (by decide)) (da_cons (de_v 1) da_nil)) (de_dc (own := [("module", 6)]) sc_chain_breaks.nd (di_seq (de_v 0)) (blkOk_by (own := [("module", 6)]) (N := ["modules", "uses", "rule", "links", "places", "found", "module", "chains", "other"]) (sc := defScope s_chain_breaks) (by decide +kernel)) (fun _ _ _ _ _ => dg_name (i := 6) sc_chain_breaks.nd) (fun _ _ _ _ _ => dts_nil) (fun _ _ _ _ _ => (de_v 6)) (fun _ _ _ _ _ => (de_callC c_place_of (hr.mono (by decide)) (da_cons (de_v 2) (da_cons (de_v 6) da_nil))))))
      (dss_cons (ds_setL false (i := 5) sc_chain_breaks.nd (dl_lst da_nil))
      (dss_cons (ds_for [] PassesOwn.never (di_seq (de_v 0)) (dg_name (i := 6) sc_chain_breaks.nd) (dss_cons (ds_set false (i := 7) sc_chain_breaks.nd (de_callC c_chains_from (hr.mono (by decide)) (da_cons (de_v 3) (da_cons (de_v 6) da_nil))))
      (dss_one (ds_for [] PassesOwn.never (di_seq (de_v 0)) (dg_name (i := 8) sc_chain_breaks.nd) (dss_one (ds_if (DW.p (dw_and (dp_ne hr.units (de_v 8) (de_v 6)) (dw_and (dp_din hr (de_v 8) (de_v 7)) (dw_and1 (dp_val (de_callC c_is_barred (hr.mono (by decide)) (da_cons (de_v 2) (da_cons (de_dget hr (de_v 4) (de_v 6)) (da_cons (de_dget hr (de_v 4) (de_v 8)) da_nil))))))))) (dss_one (ds_app false (i := 5) (de_callC c_uses_of (hr.mono (by decide)) (da_cons (de_dget hr (de_v 7) (de_v 8)) da_nil)))) dss_nil))))))
      (dss_one (ds_ret (de_v 5))))))) ?h, F.kp, F.binds fun _ _ _ _ _ _ us hl => match us, hl with | [_, _, _], _ => rfl, m⟩
  case len =>
    intro g ds n Q h; obtain ⟨_, _, _, rfl, _⟩ := h; rfl
  case h =>
    intro g ds n Q h
    obtain ⟨ms, us, r, rfl, hP, hr, hw, q⟩ := h
    refine ⟨us, rfl, hP.ul, ?_⟩
    refine ⟨by rw [List.length_map]; exact L1 (Nat.le_trans hP.len (by decide)), ?_⟩
    refine dcM (fun m => placeR r m) ms [] _ (by simpa using hP.nd) (fun m hm => ⟨_, rfl, fun f Q q => q, fun f Q q => ⟨r, m, rfl, hr, q⟩⟩) ?_
    rw [List.nil_append]
    refine ⟨Nat.zero_le _, ?_⟩
    refine dFor_list D.str (fun done rest rr f => ∃ (a b c : Sl), rr = [.sh (tps ms), .sh (.tup (us.map pairD)), .sh r.d, .sh (lnkD (lnkK us) us), .sh (.dct (ms.map Sum.inr) (ms.map fun m => placeR r m)), .ow ((chL us r ms done).map tpU), a, b, c] ∧ n = f) ms _ _ ?_ ?_ ⟨_, _, _, rfl, rfl⟩
    · rintro done m rest rr f N hm ⟨a, b, c, rfl, rfl⟩ hN
      have hmm : m ∈ ms := by rw [hm]; simp
      refine ⟨_, rfl, ?_⟩
      refine ⟨ms, us, m, rfl, hP.nd, hP.len, hP.ul, hP.as, hP.sr, hP.un, fun u hu => (hP.mem u hu).2, hmm, fun ks hkn hk hf => ?_⟩
      refine dFor_list D.str (fun dn dr rr f => ∃ (c : Sl), rr = [.sh (tps ms), .sh (.tup (us.map pairD)), .sh r.d, .sh (lnkD (lnkK us) us), .sh (.dct (ms.map Sum.inr) (ms.map fun m => placeR r m)), .ow ((chL us r ms done ++ chR us r m dn).map tpU), .sh (.str m), .sh (.dct (ks.map Sum.inr) (ks.map fun t => tpS (fch us m t))), c] ∧ n = f) ms _ _ ?_ ?_ ⟨_, by rw [show chR us r m [] = [] from rfl, List.append_nil]; rfl, rfl⟩
      · rintro dn o dr rr f N2 ho ⟨c, rfl, rfl⟩ hN2
        have hom : o ∈ ms := by rw [ho]; simp
        have no : chP us r m o = false → ∀ c : Sl, N2 [.sh (tps ms), .sh (.tup (us.map pairD)), .sh r.d, .sh (lnkD (lnkK us) us), .sh (.dct (ms.map Sum.inr) (ms.map fun m => placeR r m)), .ow ((chL us r ms done ++ chR us r m dn).map tpU), .sh (.str m), .sh (.dct (ks.map Sum.inr) (ks.map fun t => tpS (fch us m t))), c] n := fun h c => by
          refine hN2 _ _ ⟨c, ?_, rfl⟩
          rw [chR_snoc, if_neg (by rw [h]; exact Bool.false_ne_true), List.append_nil]
        refine ⟨_, rfl, ?_⟩
        show if (!decide (o = m)) = true then _ else _
        by_cases h1 : o = m
        · rw [decide_eq_true h1]
          exact no (chP_no fun z => z.1 h1) _
        rw [decide_eq_false h1]
        refine iteT ⟨.inr o, rfl, ?_⟩
        show if decide ((Sum.inr o : Key) ∈ ks.map Sum.inr) = true then _ else _
        by_cases h2 : o ∈ ks
        · rw [decide_eq_true (mem_inr.mpr h2)]
          refine iteT ⟨.inr m, _, rfl, look_map (f := fun m => placeR r m) hmm, .inr o, _, rfl, look_map (f := fun m => placeR r m) hom, r, m, o, rfl, hr, hw, ?_⟩
          have hc : chP us r m o = barB r m o := chP_yes h1 ((hk o).mp h2)
          show if barB r m o = true then _ else _
          cases hb : barB r m o with
          | false => exact no (hc.trans hb) _
          | true =>
            refine iteT ⟨_, rfl, .inr o, _, rfl, look_map (f := fun t => tpS (fch us m t)) h2, fch us m o, rfl, by have := (hf o h2).2; omega, ?_, ?_⟩
            · rw [List.length_map, List.length_append]
              have := chL_len us r ms done
              have := chR_len us r m dn
              have hl := hP.len
              have z1 : done.length ≤ 24 := by have := congrArg List.length hm; rw [List.length_append] at this; omega
              have z2 : dn.length ≤ 24 := by have := congrArg List.length ho; rw [List.length_append] at this; omega
              have z3 : done.length * ms.length ≤ 24 * 24 := Nat.mul_le_mul z1 hl
              exact L1 (by omega)
            · refine hN2 _ _ ⟨.sh (.str o), ?_, rfl⟩
              rw [chR_snoc, if_pos (hc.trans hb), ← List.append_assoc, List.map_append (l₂ := [lnks (fch us m o)])]
              rfl
        · rw [decide_eq_false fun z => h2 (mem_inr.mp z)]
          exact no (chP_no fun z => h2 ((hk o).mpr z.2)) _
      · rintro rr f ⟨c, rfl, rfl⟩
        exact hN _ _ ⟨.sh (.str m), .sh (.dct (ks.map Sum.inr) (ks.map fun t => tpS (fch us m t))), c, by rw [chL_snoc], rfl⟩
    · rintro rr f ⟨a, b, c, rfl, rfl⟩
      exact q
/-! is_chained -/
abbrev s_is_chained : Stmt := topS 14
theorem sc_is_chained : FnScope ["rule"] ["rule"] (defScope s_is_chained) := ⟨rfl, rfl, rfl, by decide +kernel, rfl, by decide +kernel, by decide +kernel⟩
def Sp_is_chained : DSp := fun _ ds f Q => ∃ (r : Rl), ds = [r.d] ∧ r.form ∧ Q (.bool (longB r)) f
set_option maxHeartbeats 2000000 in
theorem ok_is_chained (d : Df K mg "is_chained" s_is_chained) : Cal P w K mg base 1 "is_chained" ["rule"] Sp_is_chained := by
  obtain ⟨f, fd, F, m⟩ := d
  refine ⟨f, fd, dfn (k := 0) (S := Sp_is_chained) F sc_is_chained ?len (fun cdv A outer s H E hr => (dss_one (ds_ret (de_and (de_in hr (de_ix (de_v 0) de_int) (de_tup (da_cons de_str (da_cons de_str (da_cons de_str da_nil))))) (de_one (de_eq hr.units (de_ix (de_v 0) (de_neg de_int)) de_str)))))) ?h, F.kp, F.binds fun _ _ _ _ _ _ us hl => match us, hl with | [_], _ => rfl, m⟩
  case len =>
    intro g ds n Q h; obtain ⟨_, rfl, _⟩ := h; rfl
  case h =>
    intro g ds n Q h
    obtain ⟨r, rfl, hr, q⟩ := h
    have aw : asc r.wd := by cases r <;> (simp only [Rl.wd]; decide +kernel)
    refine ⟨_, atI0, show 3 ≤ lim by decide, oIn_strs (l := ["forbid", "layers", "apart"]) (by decide +kernel) aw ?_⟩
    cases r with
    | forbid ss ts ch => exact iteT ⟨.str (howS ch), rfl, by cases ch <;> exact q⟩
    | layers rows ch => exact iteT ⟨.str (howS ch), rfl, by cases ch <;> exact q⟩
    | apart ps ch => exact iteT ⟨.str (howS ch), rfl, by cases ch <;> exact q⟩
    | _ => exact q
/-! the first of some rows of uses -/
noncomputable abbrev fstL (l : List (List Us)) : Option (List Us) := frst leU (· ∈ l)
theorem lkey_tpU (w : List Us) : lkey (tpU w).py = .tuple [.int w.length, (tpU w).py] := by
  unfold lkey
  rw [tpU_py]
  show PyData.tuple [.int ((w.map pairP).length), _] = _
  rw [List.length_map]
theorem lkey_lt (v w : List Us) : PySem.W.dataLt (lkey (tpU v).py) (lkey (tpU w).py) = if v.length = w.length then lxLt leU v w else decide (v.length < w.length) := by
  rw [lkey_tpU, lkey_tpU, PySem.W.dataLt_pair rfl (tpU_alike v w), ltU]
  have e1 : PyData.eqv (.int (v.length : Int)) (.int w.length) = decide (v.length = w.length) := by
    show decide ((v.length : Int) = w.length) = _
    exact decide_eq_decide.mpr ⟨fun h => by omega, fun h => by omega⟩
  rw [e1]
  by_cases h : v.length = w.length
  · rw [decide_eq_true h, if_pos rfl, if_pos h]
    split
    · next e =>
      have e := (PySem.W.toks_eqv _ _ (tpU_alike v w)).1 e
      rw [← ltU]
      show false = PyProof.Rows.lexLt PyProof.Rows.itemOrd (PySem.W.keyToks (tpU v).py) (PySem.W.keyToks (tpU w).py)
      rw [e]
      exact (PyProof.Rows.lex_irrefl _).symm
    · rfl
  · rw [decide_eq_false h, if_neg Bool.false_ne_true, if_neg h, PySem.W.dataLt_int]
    exact decide_eq_decide.mpr ⟨fun h => by omega, fun h => by omega⟩
theorem minL_U {l : List (List Us)} {Q : D → Prop} (ha : ∀ v ∈ l, (∀ u ∈ v, ascU u) ∧ v.length ≤ 1000000) (q : Q (match fstL l with | some w => tpU w | none => .none)) : minLOk (l.map tpU) Q := by
  have one : ∀ x ∈ l.map tpU, x.py.canLay0 = true ∧ x.py.depth ≤ 2 := fun x hx => by
    obtain ⟨v, hv, rfl⟩ := List.mem_map.mp hx
    exact ⟨tpU_lay (ha v hv).1, tpU_depth v⟩
  have mk : ∀ x ∈ keysL (l.map tpU), ∃ v ∈ l, x = lkey (tpU v).py := fun x hx => by
    unfold keysL at hx
    rw [pyA_map, List.map_map, List.map_map] at hx
    obtain ⟨v, hv, rfl⟩ := List.mem_map.mp hx
    exact ⟨v, hv, rfl⟩
  refine ⟨(pyAll_of one).1, fun e he => ?_, ⟨fun x hx y hy => ?_, fun x hx => ?_⟩, ?_, fun e => ?_, fun x xs y e hy hm => ?_⟩
  · rw [pyA_map, List.map_map] at he
    obtain ⟨v, hv, rfl⟩ := List.mem_map.mp he
    refine ⟨_, tpU_py v, ?_⟩
    rw [List.length_map]
    exact (ha v hv).2
  · obtain ⟨v, _, rfl⟩ := mk x hx
    obtain ⟨w, _, rfl⟩ := mk y hy
    rw [lkey_tpU, lkey_tpU]
    simp only [PySem.W.alike, PySem.W.alikeAll, Bool.and_true]
    exact tpU_alike v w
  · obtain ⟨v, _, rfl⟩ := mk x hx
    intro z; cases z
  · have : ∀ xs : List PyData, (∀ x ∈ xs, x.depth ≤ 40) → PyData.depthAll xs ≤ 40 := fun xs => by
      induction xs with
      | nil => exact fun _ => Nat.zero_le _
      | cons x xs ih => exact fun h => Nat.max_le.mpr ⟨h x (by simp), ih fun y hy => h y (by simp [hy])⟩
    refine this _ fun x hx => ?_
    obtain ⟨v, _, rfl⟩ := mk x hx
    rw [lkey_tpU]
    have := tpU_depth v
    show max 0 (max (tpU v).py.depth 0) + 1 ≤ 40
    omega
  · have : l = [] := List.map_eq_nil_iff.mp e
    subst this
    rwa [show fstL [] = none from frst_none fun w h => (nomatch h)] at q
  · obtain ⟨v, hv, rfl⟩ := List.mem_map.mp (show y ∈ l.map tpU from hy)
    have F : Frst leU (· ∈ l) v := ⟨hv, fun w hw => by
      have h1 := minD_least (keysL xs) (lkey x.py) (lkey (tpU w).py) (by
        have : lkey (tpU w).py ∈ keysL (l.map tpU) := by
          unfold keysL
          rw [pyA_map, List.map_map, List.map_map]
          exact List.mem_map_of_mem (f := fun d => lkey (D.py (tpU d))) hw
        rw [e] at this
        exact this)
      rw [← hm, lkey_lt] at h1
      split at h1
      · next h2 => exact .inr ⟨h2.symm, h1⟩
      · next h2 => have := of_decide_eq_false h1; exact .inl (by omega)⟩
    rw [show fstL l = some v from frst_eq totU F] at q
    exact q
/-! all_breaks -/
abbrev s_all_breaks : Stmt := topS 25
theorem sc_all_breaks : FnScope ["modules", "uses", "rule", "use"] ["modules", "uses", "rule"] (defScope s_all_breaks) := ⟨rfl, rfl, rfl, by decide +kernel, rfl, by decide +kernel, by decide +kernel⟩
noncomputable def brk (ms : List Str) (us : List Us) (r : Rl) : List (List Us) := match r with
  | .noring ps => rngB us ps
  | r => if longB r = true then chL us r ms ms else (us.filter fun u => barB r u.1 u.2).map fun u => [u]
def Sp_all_breaks : DSp := fun _ ds f Q => ∃ (ms : List Str) (us : List Us) (r : Rl), ds = [tps ms, .tup (us.map pairD), r.d] ∧ POk ms us ∧ r.form ∧ Q (.lst ((brk ms us r).map tpU)) f
set_option maxHeartbeats 2000000 in
theorem ok_all_breaks (d : Df K mg "all_breaks" s_all_breaks) (c_is_barred : Cal P w K mg base 1 "is_barred" ["rule", "one", "other"] Sp_is_barred) (c_place_of : Cal P w K mg base 3 "place_of" ["rule", "module"] Sp_place_of) (c_is_chained : Cal P w K mg base 1 "is_chained" ["rule"] Sp_is_chained) (c_chain_breaks : Cal P w K mg base 4 "chain_breaks" ["modules", "uses", "rule"] Sp_chain_breaks) (c_ring_breaks : Cal P w K mg base 4 "ring_breaks" ["paths", "uses"] Sp_ring_breaks) : Cal P w K mg base 5 "all_breaks" ["modules", "uses", "rule"] Sp_all_breaks := by
  obtain ⟨f, fd, F, m⟩ := d
  refine ⟨f, fd, dfn (k := 4) (S := Sp_all_breaks) F sc_all_breaks ?len (fun cdv A outer s H E hr => (dss_cons (ds_if (dp_eq hr.units (de_ix (de_v 2) de_int) de_str) (dss_one (ds_ret (de_callC c_ring_breaks (hr.mono (by decide)) (da_cons (de_ix (de_v 2) de_int) (da_cons (de_v 1) da_nil))))) dss_nil)
      (dss_cons (ds_if (dp_val (de_callC c_is_chained (hr.mono (by decide)) (da_cons (de_v 2) da_nil))) (dss_one (ds_ret (de_callC c_chain_breaks (hr.mono (by decide)) (da_cons (de_v 0) (da_cons (de_v 1) (da_cons (de_v 2) da_nil)))))) dss_nil)
      (dss_one (ds_ret (dl_lc (own := [("use", 3)]) rfl sc_all_breaks.nd (di_seq (de_v 1)) (blkOk_by (own := [("use", 3)]) (N := ["modules", "uses", "rule", "use"]) (sc := defScope s_all_breaks) (by decide +kernel)) (fun _ _ _ _ _ => dg_name (i := 3) sc_all_breaks.nd) (fun _ _ _ _ _ => dts_one (dp_val (de_callC c_is_barred (hr.mono (by decide)) (da_cons (de_v 2) (da_cons (de_callC c_place_of (hr.mono (by decide)) (da_cons (de_v 2) (da_cons (de_ix (de_v 3) de_int) da_nil))) (da_cons (de_callC c_place_of (hr.mono (by decide)) (da_cons (de_v 2) (da_cons (de_ix (de_v 3) de_int) da_nil))) da_nil)))))) (fun _ _ _ _ _ => (de_tup (da_cons (de_v 3) da_nil)))).e))))) ?h, F.kp, F.binds fun _ _ _ _ _ _ us hl => match us, hl with | [_, _, _], _ => rfl, m⟩
  case len =>
    intro g ds n Q h; obtain ⟨_, _, _, rfl, _⟩ := h; rfl
  case h =>
    intro g ds n Q h
    obtain ⟨ms, us, r, rfl, hP, hr, q⟩ := h
    refine ⟨_, atI0, ?_⟩
    show if decide (r.wd = "noring") = true then _ else _
    by_cases hw : r.wd = "noring"
    · rw [decide_eq_true hw]
      obtain ⟨ps, rfl⟩ : ∃ ps, r = .noring ps := by cases r <;> first | exact ⟨_, rfl⟩ | exact absurd hw (by simp only [Rl.wd]; decide +kernel)
      refine iteT ⟨_, atI_nat (j := 1) rfl, ps, us, rfl, hr.2.1, fun p hp => ⟨(rp_asc (hr.2.2 p hp)).1, Nat.le_trans (rp_asc (hr.2.2 p hp)).2 (by decide)⟩, hP.ul, hP.sr, hP.asU, q⟩
    · rw [decide_eq_false hw]
      have q : Q (.lst ((if longB r = true then chL us r ms ms else (us.filter fun u => barB r u.1 u.2).map fun u => [u]).map tpU)) n := by
        cases r <;> first | exact q | exact absurd rfl hw
      refine iteF ?_
      refine ⟨r, rfl, hr, ?_⟩
      by_cases hl : longB r = true
      · rw [if_pos hl] at q
        refine (if_pos hl).mpr ?_
        exact ⟨ms, us, r, rfl, hP, hr, hw, q⟩
      · rw [if_neg hl] at q
        refine (if_neg hl).mpr ?_
        refine ⟨by rw [List.length_map]; exact L1 (Nat.le_trans hP.ul (by decide)), ?_⟩
        refine lcT pairD tpU (fun u => barB r u.1 u.2) (fun u => [u]) us [] _ (fun u hu => ⟨_, rfl, fun f Q q => ?_, fun _ f Q q => ⟨show 1 ≤ lim by decide, q⟩⟩) (by rw [List.nil_append]; exact q)
        exact ⟨_, atI0, r, u.1, rfl, hr, _, atI_nat (j := 1) rfl, r, u.2, rfl, hr, r, u.1, u.2, rfl, hr, hw, q⟩
/-! first_of -/
abbrev s_first_of : Stmt := topS 26
theorem sc_first_of : FnScope ["evidence"] ["evidence"] (defScope s_first_of) := ⟨rfl, rfl, rfl, by decide +kernel, rfl, by decide +kernel, by decide +kernel⟩
def Sp_first_of [Tbs] : DSp := fun g ds f Q => ∃ (k : Dk) (l : List (List Us)), g = some k ∧ k.t = Tbs.t ∧ ds = [.lst (l.map tpU)] ∧ (∀ v ∈ l, (∀ u ∈ v, ascU u) ∧ v.length ≤ 1000000) ∧ Q (oU (fstL l)) f
set_option maxHeartbeats 2000000 in
theorem ok_first_of (d : Df K mg "first_of" s_first_of) (m_min : mg "min" = none) (m_len : mg "len" = none) (lam_first_of : ∃ Pt, LamK K mg base "first_of" Pt ∧ (Pt, ("first_of.<locals>.<lambda>" : Str)) ∈ Tbs.t) : Cal P w K mg base 3 "first_of" ["evidence"] Sp_first_of := by
  obtain ⟨f, fd, F, m⟩ := d
  obtain ⟨Pt, lam, hPt⟩ := lam_first_of
  refine ⟨f, fd, dfnLam (k := 2) (S := Sp_first_of) m lam F sc_first_of ?len (fun cdv cT A outer s H E hcv TB hr => (dss_one (ds_ret (de_minLam (k := 0) (q := "first_of.<locals>.<lambda>") (hr.mono (by decide)) TB hcv m_min m_len (de_v 0))))) ?h, F.kp, F.binds fun _ _ _ _ _ _ us hl => match us, hl with | [_], _ => rfl, m⟩
  case len =>
    intro g ds n Q h; obtain ⟨_, _, _, _, rfl, _⟩ := h; rfl
  case h =>
    intro g ds n Q h
    obtain ⟨k, l, rfl, ht, rfl, ha, q⟩ := h
    refine ⟨k, rfl, ?_, ?_⟩
    · rw [ht]; exact hPt
    refine (minL_U ha ?_ : minLOk (l.map tpU) fun y => Q y n)
    cases e : fstL l with
    | none => rw [e] at q; exact q
    | some v => rw [e] at q; exact q
/-! first_break -/
abbrev s_first_break : Stmt := topS 27
theorem sc_first_break : FnScope ["modules", "uses", "rule"] ["modules", "uses", "rule"] (defScope s_first_break) := ⟨rfl, rfl, rfl, by decide +kernel, rfl, by decide +kernel, by decide +kernel⟩
noncomputable def fbk (ms : List Str) (us : List Us) (r : Rl) : Option (List Us) := fstL (brk ms us r)
theorem lnks_len (w : List Str) : (lnks w).length ≤ w.length := by
  unfold lnks
  rw [List.length_zip]
  exact Nat.min_le_left _ _
theorem mem_rngB {us : List Us} {ps : List Str} {v : List Us} : v ∈ rngB us ps ↔ ∃ p ∈ ps, Frst leU (Cyc us ps p) v := by
  unfold rngB
  rw [List.mem_filterMap]
  exact ⟨fun ⟨p, hp, e⟩ => ⟨p, hp, frst_some e⟩, fun ⟨p, hp, h⟩ => ⟨p, hp, frst_eq totU h⟩⟩
theorem mem_chL {us : List Us} {r : Rl} {ms : List Str} {v : List Us} : v ∈ chL us r ms ms ↔ ∃ m ∈ ms, ∃ o ∈ ms, chP us r m o = true ∧ v = lnks (fch us m o) := by
  unfold chL
  rw [List.mem_flatten]
  constructor
  · rintro ⟨l, h1, h2⟩
    obtain ⟨m, hm, rfl⟩ := List.mem_map.mp h1
    obtain ⟨o, ho, rfl⟩ := List.mem_map.mp h2
    obtain ⟨h3, h4⟩ := List.mem_filter.mp ho
    exact ⟨m, hm, o, h3, h4, rfl⟩
  · rintro ⟨m, hm, o, ho, h, rfl⟩
    exact ⟨_, List.mem_map_of_mem hm, List.mem_map.mpr ⟨o, List.mem_filter.mpr ⟨ho, h⟩, rfl⟩⟩
theorem brk_sub {ms : List Str} {us : List Us} {r : Rl} (h : POk ms us) (hr : r.form) : ∀ v ∈ brk ms us r, (∀ u ∈ v, u ∈ us) ∧ v.length ≤ 24 := by
  have chn : ∀ v ∈ chL us r ms ms, (∀ u ∈ v, u ∈ us) ∧ v.length ≤ 24 := fun v hv => by
    obtain ⟨m, hm, o, _, hc, rfl⟩ := mem_chL.mp hv
    have F := fch_ok (chP_iff.mp hc).2.1
    refine ⟨F.is.lnk, Nat.le_trans (lnks_len _) (Nat.le_trans (F.len hm fun u hu => (h.mem u hu).2) h.len)⟩
  have dir : ∀ v ∈ (us.filter fun u => barB r u.1 u.2).map fun u => [u], (∀ u ∈ v, u ∈ us) ∧ v.length ≤ 24 := fun v hv => by
    obtain ⟨u, hu, rfl⟩ := List.mem_map.mp hv
    exact ⟨fun x hx => by rw [List.mem_singleton.mp hx]; exact (List.mem_filter.mp hu).1, show 1 ≤ 24 by decide⟩
  intro v hv
  cases r with
  | noring ps =>
    obtain ⟨p, hp, F⟩ := mem_rngB.mp (show v ∈ rngB us ps from hv)
    exact ⟨F.is.2.sub, Nat.le_trans (fcyc_len hp F) (Nat.le_trans hr.2.1 (by decide))⟩
  | _ =>
    unfold brk at hv
    dsimp only at hv
    split at hv
    · exact chn v hv
    · exact dir v hv
def Sp_first_break [Tbs] : DSp := fun g ds f Q => ∃ (k : Dk) (ms : List Str) (us : List Us) (r : Rl), g = some k ∧ k.t = Tbs.t ∧ ds = [tps ms, .tup (us.map pairD), r.d] ∧ POk ms us ∧ r.form ∧ Q (oU (fbk ms us r)) f
set_option maxHeartbeats 2000000 in
theorem ok_first_break (d : Df K mg "first_break" s_first_break) (c_first_of : Cal P w K mg base 3 "first_of" ["evidence"] Sp_first_of) (c_all_breaks : Cal P w K mg base 5 "all_breaks" ["modules", "uses", "rule"] Sp_all_breaks) : Cal P w K mg base 6 "first_break" ["modules", "uses", "rule"] Sp_first_break := by
  obtain ⟨f, fd, F, m⟩ := d
  refine ⟨f, fd, dfn (k := 5) (S := Sp_first_break) F sc_first_break ?len (fun cdv A outer s H E hr => (dss_one (ds_ret (de_callC c_first_of (hr.mono (by decide)) (da_cons (de_callC c_all_breaks (hr.mono (by decide)) (da_cons (de_v 0) (da_cons (de_v 1) (da_cons (de_v 2) da_nil)))) da_nil))))) ?h, F.kp, F.binds fun _ _ _ _ _ _ us hl => match us, hl with | [_, _, _], _ => rfl, m⟩
  case len =>
    intro g ds n Q h; obtain ⟨_, _, _, _, _, _, rfl, _⟩ := h; rfl
  case h =>
    intro g ds n Q h
    obtain ⟨k, ms, us, r, rfl, ht, rfl, hP, hr, q⟩ := h
    exact ⟨ms, us, r, rfl, hP, hr, k, _, rfl, ht, rfl, fun v hv => ⟨fun u hu => hP.asU u ((brk_sub hP hr v hv).1 u hu), Nat.le_trans (brk_sub hP hr v hv).2 (by decide)⟩, q⟩
/-! is_pair -/
abbrev s_is_pair : Stmt := topS 37
theorem sc_is_pair : FnScope ["value"] ["value"] (defScope s_is_pair) := ⟨rfl, rfl, rfl, by decide +kernel, rfl, by decide +kernel, by decide +kernel⟩
def isPrg : D → Bool
  | .obj c _ _ => decide (c = "Program")
  | _ => false
def okO (x : D) : Prop := x.tyd = true ∨ isPrg x = true
def strNe : D → D → Bool
  | .str a, .str b => decide (a ≠ b)
  | _, _ => false
def pairL : List D → Bool
  | [] => false
  | a :: r => match r with
    | [] => false
    | b :: r2 => match r2 with
      | [] => strNe a b
      | _ :: _ => false
def pairB : D → Bool
  | .tup xs => pairL xs
  | _ => false
def Sp_is_pair : DSp := fun _ ds f Q => ∃ x : D, ds = [x] ∧ okO x ∧ Q (.bool (pairB x)) f
set_option maxHeartbeats 2000000 in
theorem ok_is_pair (d : Df K mg "is_pair" s_is_pair) (m_str : mg "str" = none) (m_isinstance : mg "isinstance" = none) (m_len : mg "len" = none) (m_tuple : mg "tuple" = none) {C_Program : Addr} (o_Program : KO K "Program" C_Program) : Cal P w K mg base 1 "is_pair" ["value"] Sp_is_pair := by
  obtain ⟨f, fd, F, m⟩ := d
  refine ⟨f, fd, dfn (k := 0) (S := Sp_is_pair) F sc_is_pair ?len (fun cdv A outer s H E hr => (dss_cons (ds_if (DW.p (dw_or (dp_not (dp_val (de_isiO o_Program m_isinstance (da_cons (de_v 0) (da_cons (de_bltn (v := .ty "tuple") (u := .type "tuple") (by rfl) m_tuple (by decide +kernel) rfl) da_nil))))) (dw_or1 (dp_ne hr.units (de_len m_len (da_cons (de_v 0) da_nil)) de_int)))) (dss_one (ds_ret de_bl)) dss_nil)
      (dss_one (ds_ret (de_and (de_isiO o_Program m_isinstance (da_cons (de_ix (de_v 0) de_int) (da_cons (de_bltn (v := .ty "str") (u := .type "str") (by rfl) m_str (by decide +kernel) rfl) da_nil))) (de_and (de_isiO o_Program m_isinstance (da_cons (de_ix (de_v 0) de_int) (da_cons (de_bltn (v := .ty "str") (u := .type "str") (by rfl) m_str (by decide +kernel) rfl) da_nil))) (de_one (de_ne hr.units (de_ix (de_v 0) de_int) (de_ix (de_v 0) de_int))))))))) ?h, F.kp, F.binds fun _ _ _ _ _ _ us hl => match us, hl with | [_], _ => rfl, m⟩
  case len =>
    intro g ds n Q h; obtain ⟨_, rfl, _⟩ := h; rfl
  case h =>
    intro g ds n Q h
    obtain ⟨x, rfl, hx, q⟩ := h
    cases x with
    | tup xs =>
      have hxs : tydA xs = true := by
        rcases hx with h | h
        · exact h
        · cases h
      refine ⟨"tuple", true, rfl, by decide +kernel, ?_⟩
      match xs, hxs, q with
      | [], _, q => exact q
      | [_], _, q => exact q
      | [a, b], hxs, q =>
        have h2 : a.tyd = true ∧ b.tyd = true := by
          have := Bool.and_eq_true_iff.mp hxs
          exact ⟨this.1, (Bool.and_eq_true_iff.mp this.2).1⟩
        refine ⟨a, atI0, ?_⟩
        cases a with
        | str sa =>
          refine ⟨"str", true, rfl, by decide +kernel, b, atI_nat (j := 1) rfl, ?_⟩
          cases b with
          | str sb =>
            refine ⟨"str", true, rfl, by decide +kernel, .str sa, atI0, .str sb, atI_nat (j := 1) rfl, ?_⟩
            have q : Q (.bool (decide (sa ≠ sb))) n := q
            have e : decide (sa ≠ sb) = !decide (sa = sb) := by by_cases h : sa = sb <;> simp [h]
            rw [e] at q
            exact q
          | any v => cases h2.2
          | dtt _ _ => cases h2.2
          | ktup _ => cases h2.2
          | obj _ _ _ => cases h2.2
          | exn _ _ _ => cases h2.2
          | _ => exact ⟨_, false, rfl, by decide +kernel, q⟩
        | any v => cases h2.1
        | dtt _ _ => cases h2.1
        | ktup _ => cases h2.1
        | obj _ _ _ => cases h2.1
        | exn _ _ _ => cases h2.1
        | _ => exact ⟨_, false, rfl, by decide +kernel, q⟩
      | a :: b :: c :: l, _, q =>
        have e : (!decide (((a :: b :: c :: l).length : Int) = 2)) = true := by
          rw [decide_eq_false (by simp only [List.length_cons]; omega)]
          rfl
        refine iteF ?_
        exact q
    | any v =>
      rcases hx with h | h
      · cases h
      · cases h
    | dtt _ _ =>
      rcases hx with h | h <;> cases h
    | ktup _ =>
      rcases hx with h | h <;> cases h
    | exn _ _ _ =>
      rcases hx with h | h
      · cases h
      · cases h
    | obj c ns xs =>
      rcases hx with h | h
      · cases h
      · exact ⟨of_decide_eq_true h, .inl rfl, q⟩
    | _ => exact ⟨_, false, rfl, by decide +kernel, q⟩
/-! uses_error -/
abbrev s_uses_error : Stmt := topS 39
theorem sc_uses_error : FnScope ["modules", "uses", "index", "use"] ["modules", "uses"] (defScope s_uses_error) := ⟨rfl, rfl, rfl, by decide +kernel, rfl, by decide +kernel, by decide +kernel⟩
structure PVu (ms : List Str) (us : List Us) : Prop where
  len : us.length ≤ 200
  mem : ∀ u ∈ us, u.1 ∈ ms ∧ u.2 ∈ ms ∧ u.1 ≠ u.2
  nd : us.Nodup
def Sp_uses_error : DSp := fun _ ds f Q => ∃ (ms : List Str) (us : List Us), ds = [.tup (ms.map D.str), .tup (us.map pairD)] ∧ PVm ms ∧ PVu ms us ∧ Q .none f
theorem PVu.asc {ms : List Str} {us : List Us} (hm : PVm ms) (h : PVu ms us) : ∀ u ∈ us, ascU u := fun u hu => ⟨(hm.path _ (h.mem u hu).1).asc, (hm.path _ (h.mem u hu).2.1).asc⟩
theorem PVu.sub {m : List Str} {us vs : List Us} (h : PVu m us) (p : vs.Sublist us) : PVu m vs := ⟨Nat.le_trans p.length_le h.len, fun u hu => h.mem u (p.subset hu), h.nd.sublist p⟩
set_option maxHeartbeats 2000000 in
theorem ok_uses_error (d : Df K mg "uses_error" s_uses_error) (m_enumerate : mg "enumerate" = none) (m_len : mg "len" = none) (m_tuple : mg "tuple" = none) (m_isinstance : mg "isinstance" = none) (g_MAX_USES : ∃ t, mg "MAX_USES" = some (.int 200 t)) (c_is_pair : Cal P w K mg base 1 "is_pair" ["value"] Sp_is_pair) : Cal P w K mg base 2 "uses_error" ["modules", "uses"] Sp_uses_error := by
  obtain ⟨f, fd, F, m⟩ := d
  refine ⟨f, fd, dfn (k := 1) (S := Sp_uses_error) F sc_uses_error ?len (fun cdv A outer s H E hr => (dss_cons (ds_if (DW.p (dw_or (dp_not (dp_val (de_isi m_isinstance (da_cons (de_v 1) (da_cons (de_bltn (v := .ty "tuple") (u := .type "tuple") (by rfl) m_tuple (by decide +kernel) rfl) da_nil))))) (dw_or1 (dp_gt (de_len m_len (da_cons (de_v 1) da_nil)) (de_glob (v := .int 200) (d := .int 200) (by rfl) g_MAX_USES.choose_spec ⟨_, rfl⟩ (fun _ => rfl)))))) (dss_one (ds_ret (de_tup (da_cons de_non (da_cons de_str da_nil))))) dss_nil)
      (dss_cons (ds_for [] PassesOwn.never (di_enum m_enumerate (da_cons (de_v 1) da_nil)) (dg_tup rfl (dgs_cons (dg_name (i := 2) sc_uses_error.nd) (dgs_cons (dg_name (i := 3) sc_uses_error.nd) dgs_nil))) (dss_cons (ds_if (DW.p (dw_or (dp_not (dp_val (de_callC c_is_pair (hr.mono (by decide)) (da_cons (de_v 3) da_nil)))) (dw_or (dp_notIn hr (de_ix (de_v 3) de_int) (de_v 0)) (dw_or1 (dp_notIn hr (de_ix (de_v 3) de_int) (de_v 0)))))) (dss_one (ds_ret (de_tup (da_cons (de_v 2) (da_cons de_str da_nil))))) dss_nil)
      (dss_one (ds_if (dp_in hr (de_v 3) (de_sl (de_v 1) do_none (do_some (de_v 2)))) (dss_one (ds_ret (de_tup (da_cons (de_v 2) (da_cons de_str da_nil))))) dss_nil))))
      (dss_one (ds_ret de_non))))) ?h, F.kp, F.binds fun _ _ _ _ _ _ us hl => match us, hl with | [_, _], _ => rfl, m⟩
  case len =>
    intro g ds n Q h; obtain ⟨_, _, rfl, _⟩ := h; rfl
  case h =>
    intro g ds n Q h
    obtain ⟨ms, us, rfl, hm, hv, q⟩ := h
    refine ⟨"tuple", true, rfl, by decide +kernel, ?_⟩
    show if decide ((((us.map pairD).length : Int)) > 200) = true then _ else _
    rw [List.length_map, decide_eq_false (by have := hv.len; omega)]
    refine iteF ?_
    have hasc := hv.asc hm
    refine dFor_inv (fun rest r f => f = n ∧ ∃ (i : Nat) (a c : Sl), rest = (enumD (us.map pairD)).drop i ∧ r = [.sh (.tup (ms.map D.str)), .sh (.tup (us.map pairD)), a, c]) _ _ _ ?_ (fun r f ⟨e, _⟩ => by subst e; exact q) ⟨rfl, 0, _, _, rfl, rfl⟩
    rintro d rest r f N ⟨rfl, i, a, c, hr, rfl⟩ hN
    have hd : (enumD (us.map pairD))[i]? = some d := by
      have := congrArg List.head? hr
      rw [List.head?_drop] at this
      exact this.symm
    obtain ⟨x, hx, rfl⟩ := enumD_get hd
    rw [List.getElem?_map] at hx
    cases em : us[i]? with
    | none => rw [em] at hx; cases hx
    | some u =>
      rw [em] at hx
      cases hx
      have hu : u ∈ us := List.mem_of_getElem? em
      obtain ⟨h1, h2, h3⟩ := hv.mem u hu
      obtain ⟨a1, a2⟩ := hasc u hu
      have hi : i < us.length := (List.getElem?_eq_some_iff.mp em).1
      have et : cutD (us.map pairD) none (some (i : Int)) = (us.take i).map pairD := by rw [cutD_take, List.map_take]
      refine ⟨_, rfl, pairD u, rfl, .inl rfl, ?_⟩
      show if (!decide (u.1 ≠ u.2)) = true then _ else _
      rw [decide_eq_true h3]
      refine iteF ⟨.str u.1, atI0, ?_⟩
      have hms : ∀ s ∈ ms, asc s := fun s hs => (hm.path s hs).asc
      refine ⟨shaped_str a1, shaped_strsT hms, ?_⟩
      have e1 : ((pyA (ms.map D.str)).any fun z => PyData.eqv z (D.str u.1).py) = true := by rw [pyA_strs]; exact (any_strs ms u.1).trans (decide_eq_true h1)
      have e2 : ((pyA (ms.map D.str)).any fun z => PyData.eqv z (D.str u.2).py) = true := by rw [pyA_strs]; exact (any_strs ms u.2).trans (decide_eq_true h2)
      rw [e1]
      refine iteF ⟨.str u.2, atI_nat (j := 1) rfl, shaped_str a2, shaped_strsT hms, ?_⟩
      rw [e2]
      refine iteF ?_
      have hno : u ∉ us.take i := fun hz => by
        obtain ⟨j, hj, ez⟩ := List.getElem_of_mem hz
        rw [List.length_take] at hj
        rw [List.getElem_take] at ez
        have := List.pairwise_iff_getElem.mp hv.nd j i (by omega) hi (by omega)
        obtain ⟨_, e3⟩ := List.getElem?_eq_some_iff.mp em
        exact this (ez.trans e3.symm)
      have hta : ∀ s ∈ us.take i, ascU s := fun s hs => hasc s (List.mem_of_mem_take hs)
      have e3 : ((pyA (cutD (us.map pairD) none (some (i : Int)))).any fun z => PyData.eqv z (pairD u).py) = false := by rw [et, pyA_pairs]; exact (any_pairs _ u).trans (decide_eq_false hno)
      refine ⟨shaped_pair ⟨a1, a2⟩, by rw [et, pyA_pairs]; exact shaped_pairsT hta, ?_⟩
      rw [e3]
      refine hN _ _ ⟨rfl, i + 1, _, _, ?_, rfl⟩
      rw [← List.tail_drop, ← hr]
      rfl
/-! program_error -/
abbrev s_program_error : Stmt := topS 40
theorem sc_program_error : FnScope ["modules", "uses", "error"] ["modules", "uses"] (defScope s_program_error) := ⟨rfl, rfl, rfl, by decide +kernel, rfl, by decide +kernel, by decide +kernel⟩
def Sp_program_error : DSp := fun _ ds f Q => ∃ (ms : List Str) (us : List Us), ds = [.tup (ms.map D.str), .tup (us.map pairD)] ∧ PVm ms ∧ PVu ms us ∧ Q .none f
set_option maxHeartbeats 2000000 in
theorem ok_program_error (d : Df K mg "program_error" s_program_error) (c_uses_error : Cal P w K mg base 2 "uses_error" ["modules", "uses"] Sp_uses_error) (c_modules_error : Cal P w K mg base 4 "modules_error" ["modules"] Sp_modules_error) : Cal P w K mg base 5 "program_error" ["modules", "uses"] Sp_program_error := by
  obtain ⟨f, fd, F, m⟩ := d
  refine ⟨f, fd, dfn (k := 4) (S := Sp_program_error) F sc_program_error ?len (fun cdv A outer s H E hr => (dss_cons (ds_set false (i := 2) sc_program_error.nd (de_callC c_modules_error (hr.mono (by decide)) (da_cons (de_v 0) da_nil)))
      (dss_cons (ds_if (dp_isN (de_v 2) de_non) (dss_one (ds_set false (i := 2) sc_program_error.nd (de_callC c_uses_error (hr.mono (by decide)) (da_cons (de_v 0) (da_cons (de_v 1) da_nil))))) dss_nil)
      (dss_one (ds_ret (de_v 2)))))) ?h, F.kp, F.binds fun _ _ _ _ _ _ us hl => match us, hl with | [_, _], _ => rfl, m⟩
  case len =>
    intro g ds n Q h; obtain ⟨_, _, rfl, _⟩ := h; rfl
  case h =>
    intro g ds n Q h
    obtain ⟨ms, us, rfl, hm, hv, q⟩ := h
    exact ⟨ms, rfl, hm, ms, us, rfl, hm, hv, q⟩
/-! parts_of -/
abbrev s_parts_of : Stmt := topS 41
theorem sc_parts_of : FnScope ["modules", "found", "module", "names", "many"] ["modules"] (defScope s_parts_of) := ⟨rfl, rfl, rfl, by decide +kernel, rfl, by decide +kernel, by decide +kernel⟩
def isPart (ms : List Str) (x : Str) : Prop := ∃ m ∈ ms, ∃ k, 1 ≤ k ∧ k ≤ (Txt.split m ".").length ∧ x = Txt.join "." ((Txt.split m ".").take k)
structure Parts (ms ks : List Str) : Prop where
  nd : ks.Nodup
  mem : ∀ x, x ∈ ks ↔ isPart ms x
def Sp_parts_of : DSp := fun _ ds f Q => ∃ ms : List Str, ds = [.tup (ms.map D.str)] ∧ PVm ms ∧ ∀ ks, Parts ms ks → Q (.tup ((sortS ks).map D.str)) f
theorem join_take {m : Str} {k : Nat} (h : PathN 6 m) (h1 : 1 ≤ k) : PathN 6 (Txt.join "." ((Txt.split m ".").take k)) := by
  obtain ⟨s1, s2, s3, s4⟩ := h.splits
  refine ⟨_, by rw [List.length_take]; omega, by rw [List.length_take]; omega, fun n hn => s3 n (List.mem_of_mem_take hn), rfl⟩
theorem intsD_cons (lo : Int) (n : Nat) : intsD lo (n + 1) = .int lo :: intsD (lo + 1) n := by
  unfold intsD
  rw [List.range_succ_eq_map, List.map_cons, List.map_map]
  refine congr (congrArg _ (by simp)) ?_
  apply List.map_congr_left
  intro i _
  show D.int _ = D.int _
  congr 1
  show lo + ((i + 1 : Nat) : Int) = lo + 1 + (i : Int)
  omega
theorem putKs_strs (ks : List Str) (x : Str) : putKs (ks.map Sum.inr) (.inr x) = (putS ks x).map Sum.inr := by
  unfold putKs putS
  have e : (Sum.inr x : Key) ∈ ks.map Sum.inr ↔ x ∈ ks := by
    constructor
    · intro h
      obtain ⟨y, hy, e⟩ := List.mem_map.mp h
      cases e
      exact hy
    · exact List.mem_map_of_mem
  by_cases h : x ∈ ks
  · rw [if_pos (e.mpr h), if_pos h]
  · rw [if_neg fun z => h (e.mp z), if_neg h, List.map_append]
    rfl
theorem isPart.pathG {ms : List Str} {x : Str} (hm : ∀ m ∈ ms, PathN 6 m) (h : isPart ms x) : PathN 6 x := by
  obtain ⟨m, hmm, k, h1, h2, rfl⟩ := h
  exact join_take (hm m hmm) h1
theorem isPart.path {ms : List Str} {x : Str} (hm : PVm ms) (h : isPart ms x) : PathN 6 x := h.pathG hm.path
theorem Parts.len {ms ks : List Str} (hm : ∀ m ∈ ms, PathN 6 m) (h : Parts ms ks) : ks.length ≤ 6 * ms.length := by
  have hsub : ∀ x ∈ ks, x ∈ ms.flatMap (fun m => (List.range 6).map fun k => Txt.join "." ((Txt.split m ".").take (k + 1))) := fun x hx => by
    obtain ⟨m, h1, k, h2, h3, h4⟩ := (h.mem x).mp hx
    have := (hm m h1).splits.2.1
    refine List.mem_flatMap.mpr ⟨m, h1, List.mem_map.mpr ⟨k - 1, List.mem_range.mpr (by omega), ?_⟩⟩
    rw [h4, show k - 1 + 1 = k by omega]
  refine Nat.le_trans (nodup_sub_len h.nd hsub) ?_
  rw [List.length_flatMap]
  have : ∀ l : List Str, (l.map fun m => ((List.range 6).map fun k => Txt.join "." ((Txt.split m ".").take (k + 1))).length).sum = 6 * l.length := by
    intro l
    induction l with
    | nil => rfl
    | cons x l ih => rw [List.map_cons, List.sum_cons, ih, List.length_map, List.length_range, List.length_cons]; omega
  rw [this]
  exact Nat.le_refl _
set_option maxHeartbeats 2000000 in
theorem ok_parts_of (d : Df K mg "parts_of" s_parts_of) (m_sorted : mg "sorted" = none) (m_tuple : mg "tuple" = none) (m_range : mg "range" = none) (m_len : mg "len" = none) : Cal P w K mg base 1 "parts_of" ["modules"] Sp_parts_of := by
  obtain ⟨f, fd, F, m⟩ := d
  refine ⟨f, fd, dfn (k := 0) (S := Sp_parts_of) F sc_parts_of ?len (fun cdv A outer s H E hr => (dss_cons (ds_setD0 (i := 1) sc_parts_of.nd)
      (dss_cons (ds_for [] PassesOwn.never (di_seq (de_v 0)) (dg_name (i := 2) sc_parts_of.nd) (dss_cons (ds_set false (i := 3) sc_parts_of.nd (dl_split (de_v 2) de_str).e)
      (dss_one (ds_for [] PassesOwn.never (di_range2 m_range (da_cons de_int (da_cons (de_add (de_len m_len (da_cons (de_v 3) da_nil)) de_int) da_nil))) (dg_name (i := 4) sc_parts_of.nd) (dss_one (ds_setKey false hr (i := 1) (de_join de_str (de_sl (de_v 3) do_none (do_some (de_v 4)))) de_bl))))))
      (dss_one (ds_ret (de_callTy call_tuple_of sc_tuple (by rfl) m_tuple (by decide +kernel) (da_cons (de_sorted hr m_sorted (da_cons (de_v 1) da_nil)) da_nil))))))) ?h, F.kp, F.binds fun _ _ _ _ _ _ us hl => match us, hl with | [_], _ => rfl, m⟩
  case len =>
    intro g ds n Q h; obtain ⟨_, rfl, _⟩ := h; rfl
  case h =>
    intro g ds n Q h
    obtain ⟨ms, rfl, hm, q⟩ := h
    refine dFor_inv (fun rest r f => f = n ∧ ∃ (done rest' : List Str) (ks : List Str) (xs : List D) (a b c : Sl), rest = rest'.map D.str ∧ ms = done ++ rest' ∧ r = [.sh (.tup (ms.map D.str)), .od (ks.map Sum.inr) xs, a, b, c] ∧ Parts done ks ∧ ks.length ≤ 6 * done.length) _ _ _ ?_ ?_ ⟨rfl, [], ms, [], [], _, _, _, rfl, rfl, rfl, ⟨List.nodup_nil, fun x => ⟨fun h => by simp at h, fun ⟨_, h, _⟩ => by simp at h⟩⟩, by simp⟩
    · rintro d rest r n0 N ⟨en0, done, rest', ks, xs, a, b, c, hr, hms, rfl, hp, hl⟩ hN
      match rest', hr with
      | m :: rest', hr =>
      obtain ⟨rfl, rfl⟩ := List.cons.inj hr
      have hmm : m ∈ ms := by rw [hms]; simp
      have hpath := hm.path m hmm
      obtain ⟨s1, s2, s3, s4⟩ := hpath.splits
      refine ⟨_, rfl, by decide +kernel, Nat.le_trans hpath.len (by decide), ?_⟩
      refine ⟨?rng, ?_⟩
      case rng => simp only [List.length_map]; omega
      refine dFor_inv (fun rest2 r f => f = n0 ∧ ∃ (j : Nat) (ks2 : List Str) (xs2 : List D) (c : Sl), rest2 = intsD (1 + (j : Int)) ((Txt.split m ".").length - j) ∧ j ≤ (Txt.split m ".").length ∧ r = [.sh (.tup (ms.map D.str)), .od (ks2.map Sum.inr) xs2, .sh (.str m), .sh (.lst ((Txt.split m ".").map D.str)), c] ∧ ks2.Nodup ∧ (∀ x, x ∈ ks2 ↔ isPart done x ∨ ∃ k, 1 ≤ k ∧ k ≤ j ∧ x = Txt.join "." ((Txt.split m ".").take k)) ∧ ks2.length ≤ 6 * done.length + j) _ _ _ ?_ ?_ ⟨rfl, 0, ks, xs, _, ?_, Nat.zero_le _, rfl, hp.nd, fun x => ?_, by omega⟩
      · rintro d2 rest2 r f N2 ⟨rfl, j, ks2, xs2, c2, hr2, hj, rfl, nd2, mem2, len2⟩ hN2
        obtain ⟨t, ht⟩ : ∃ t, (Txt.split m ".").length - j = t + 1 := by
          cases e : (Txt.split m ".").length - j with
          | zero => rw [e] at hr2; cases hr2
          | succ t => exact ⟨t, rfl⟩
        rw [ht, intsD_cons] at hr2
        obtain ⟨rfl, rfl⟩ := List.cons.inj hr2
        have hdl : done.length ≤ 24 := by have := hm.len; rw [hms, List.length_append] at this; omega
        have ej : (1 + (j : Int)) = ((j + 1 : Nat) : Int) := by omega
        have et : cutD ((Txt.split m ".").map D.str) none (some (1 + (j : Int))) = ((Txt.split m ".").take (j + 1)).map D.str := by rw [ej, cutD_take, List.map_take]
        refine ⟨_, rfl, ks2.map Sum.inr, xs2, rfl, trivial, (Txt.split m ".").take (j + 1), et, join_names _ (fun n hn => Nat.le_trans (s3 n (List.mem_of_mem_take hn)).2.1 (by decide)) (by rw [List.length_take]; omega) _ (by decide +kernel), _, rfl, by rw [List.length_map]; exact Nat.le_trans (by omega : ks2.length ≤ 200) (by decide), ?_⟩
        rw [putKs_strs]
        refine hN2 _ _ ⟨rfl, j + 1, putS ks2 (Txt.join "." ((Txt.split m ".").take (j + 1))), _, _, ?_, by omega, rfl, putS_nodup nd2, fun x => ?_, ?_⟩
        · rw [show (Txt.split m ".").length - (j + 1) = t by omega, show (1 + ((j + 1 : Nat) : Int)) = 1 + (j : Int) + 1 by omega]
        · rw [putS_mem, mem2 x]
          constructor
          · rintro ((h | ⟨k, h1, h2, h3⟩) | h)
            · exact .inl h
            · exact .inr ⟨k, h1, by omega, h3⟩
            · exact .inr ⟨j + 1, by omega, by omega, h⟩
          · rintro (h | ⟨k, h1, h2, h3⟩)
            · exact .inl (.inl h)
            · by_cases hk : k = j + 1
              · subst hk; exact .inr h3
              · exact .inl (.inr ⟨k, h1, by omega, h3⟩)
        · have := putS_len ks2 (Txt.join "." ((Txt.split m ".").take (j + 1)))
          omega
      · rintro r f ⟨rfl, j, ks2, xs2, c2, hr2, hj, rfl, nd2, mem2, len2⟩
        have hjl : j = (Txt.split m ".").length := by
          cases e : (Txt.split m ".").length - j with
          | zero => omega
          | succ t => rw [e, intsD_cons] at hr2; cases hr2
        subst hjl
        refine hN _ _ ⟨en0, done ++ [m], rest', ks2, xs2, _, _, _, rfl, by rw [hms]; simp, rfl, ⟨nd2, fun x => ?_⟩, by rw [List.length_append]; simp; omega⟩
        rw [mem2 x]
        constructor
        · rintro (⟨m', h1, h2⟩ | ⟨k, h1, h2, h3⟩)
          · exact ⟨m', by simp [h1], h2⟩
          · exact ⟨m, by simp, k, h1, h2, h3⟩
        · rintro ⟨m', h1, k, h2, h3, h4⟩
          rcases List.mem_append.mp h1 with h | h
          · exact .inl ⟨m', h, k, h2, h3, h4⟩
          · rw [List.mem_singleton.mp h] at h3 h4
            exact .inr ⟨k, h2, h3, h4⟩
      · show intsD 1 (((((Txt.split m ".").map D.str).length : Int) + 1) - 1).toNat = _
        rw [List.length_map]
        congr 1
        omega
      · rw [hp.mem x]
        constructor
        · exact .inl
        · rintro (h | ⟨k, h1, h2, _⟩)
          · exact h
          · omega
    · rintro r f ⟨rfl, done, rest', ks, xs, a, b, c, hr, hms, rfl, hp, hl⟩
      obtain rfl : rest' = [] := by
        match rest', hr with
        | [], _ => rfl
      rw [List.append_nil] at hms
      subst hms
      have hk : (ks.map Sum.inr).map keyD = ks.map D.str := by rw [List.map_map]; rfl
      refine ⟨?_, ?_⟩
      · rw [hk]
        exact sorts_strs (Nat.le_trans hl (Nat.le_trans (Nat.mul_le_mul_left 6 hm.len) (by decide))) fun s hs => ((hp.mem s).mp hs).path hm |>.asc
      · rw [hk, sortD_strs]
        exact q ks hp
/-! Program.__init__ -/
abbrev s_Program___init__ : Stmt := clsS 42 0
theorem sc_Program___init__ : FnScope ["self", "modules", "uses", "error"] ["self", "modules", "uses"] (defScope s_Program___init__) := ⟨rfl, rfl, rfl, by decide +kernel, rfl, by decide +kernel, by decide +kernel⟩
def prgD (ms : List Str) (us : List Us) (ks : List Str) : D := .obj "Program" ["places", "links", "heads"] [.tup ((sortS ms).map D.str), .tup ((sortU us).map pairD), .tup ((sortS ks).map D.str)]
def Sp_Program___init__ : DSp := fun _ ds f Q => ∃ (ms : List Str) (us : List Us), ds = [.tup (ms.map D.str), .tup (us.map pairD)] ∧ PVm ms ∧ PVu ms us ∧ ∀ ks, Parts ms ks → Q (prgD ms us ks) f
set_option maxHeartbeats 2000000 in
theorem ok_Program___init__ (m_sorted : mg "sorted" = none) (m_tuple : mg "tuple" = none) {C_Program : Addr} (k_Program : KC K "Program" C_Program) (n_Program_heads : NoAttr K C_Program "heads") (n_Program_links : NoAttr K C_Program "links") (n_Program_places : NoAttr K C_Program "places") (c_parts_of : Cal P w K mg base 1 "parts_of" ["modules"] Sp_parts_of) (c_program_error : Cal P w K mg base 5 "program_error" ["modules", "uses"] Sp_program_error) (mg_Program : mg "Program" = some (.ref C_Program)) (d : ∃ f fd, Fun K "__init__" "Program.__init__" s_Program___init__ f fd ∧ Mk K C_Program f) : Mkr P w K mg base 6 "Program" ["self", "modules", "uses"] Sp_Program___init__ := by
  obtain ⟨f, fd, F, M⟩ := d
  refine ⟨C_Program, f, fd, M, dinit (k := 5) (S := Sp_Program___init__) (c := "Program") F sc_Program___init__ ?len (fun cdv A outer s H E hr => (dss_cons (ds_set false (i := 3) sc_Program___init__.nd (de_callC c_program_error (hr.mono (by decide)) (da_cons (de_v 1) (da_cons (de_v 2) da_nil))))
      (dss_cons (ds_if (dp_notN (de_v 3) de_non) (dss_one ds_never) dss_nil)
      (dss_cons (ds_fldO false (i := 0) k_Program n_Program_places (de_callTy call_tuple_of sc_tuple (by rfl) m_tuple (by decide +kernel) (da_cons (de_sorted hr m_sorted (da_cons (de_v 1) da_nil)) da_nil)))
      (dss_cons (ds_fldO false (i := 0) k_Program n_Program_links (de_callTy call_tuple_of sc_tuple (by rfl) m_tuple (by decide +kernel) (da_cons (de_sorted hr m_sorted (da_cons (de_v 2) da_nil)) da_nil)))
      (dss_one (ds_fldO false (i := 0) k_Program n_Program_heads (de_callC c_parts_of (hr.mono (by decide)) (da_cons (de_v 1) da_nil))))))))) ?h, F.binds fun _ _ _ _ _ _ us hl => match us, hl with | [_, _, _], _ => rfl, k_Program.ns, mg_Program⟩
  case len =>
    intro g ds n Q h; obtain ⟨_, _, rfl, _⟩ := h; rfl
  case h =>
    intro a g ds n Q h
    obtain ⟨ms, us, rfl, hm, hv, q⟩ := h
    refine ⟨ms, us, rfl, hm, hv, ?_⟩
    have hs1 : Sorts (ms.map D.str) := sorts_strs (Nat.le_trans hm.len (by decide)) fun s hs => (hm.path s hs).asc
    have hs2 : Sorts (us.map pairD) := sorts_pairs (Nat.le_trans hv.len (by decide)) (hv.asc hm)
    refine ⟨a, [], [], rfl, by decide, by decide, hs1, ?_⟩
    refine ⟨a, ["places"], _, rfl, by decide, by decide, hs2, ?_⟩
    refine ⟨a, ["places", "links"], _, rfl, by decide, by decide, ms, rfl, hm, fun ks hk => ?_⟩
    refine ⟨["places", "links", "heads"], _, rfl, ?_⟩
    have := q ks hk
    unfold prgD at this
    rw [← sortD_strs ms, ← sortD_pairs us] at this
    exact this
/-! a rule is broken -/
def Brk (ms : List Str) (us : List Us) : Rl → Prop
  | .noring ps => ∃ p ∈ ps, ∃ w, Cyc us ps p w
  | r => if longB r = true then ∃ m ∈ ms, ∃ o ∈ ms, o ≠ m ∧ Rch us m o ∧ barB r m o = true else ∃ u ∈ us, barB r u.1 u.2 = true
theorem Wkr.mono {us vs : List Us} {ps : List Str} {s t : Str} {w : List Us} (hu : ∀ u ∈ us, u ∈ vs) (h : Wkr us ps s t w) : Wkr vs ps s t w := by
  induction h with
  | nil => exact .nil
  | snoc _ h1 h2 h3 h4 ih => exact .snoc ih (hu _ h1) h2 h3 h4
theorem Rch.mono' {us vs : List Us} {s t : Str} (hu : ∀ u ∈ us, u ∈ vs) (h : Rch us s t) : Rch vs s t := by
  induction h with
  | refl => exact .refl
  | step _ h ih => exact .step ih (hu _ h)
theorem Brk.mono {ms ms' : List Str} {us us' : List Us} {r : Rl} (hm : ∀ m ∈ ms, m ∈ ms') (hu : ∀ u ∈ us, u ∈ us') (h : Brk ms us r) : Brk ms' us' r := by
  have all : (if longB r = true then ∃ m ∈ ms, ∃ o ∈ ms, o ≠ m ∧ Rch us m o ∧ barB r m o = true else ∃ u ∈ us, barB r u.1 u.2 = true) → if longB r = true then ∃ m ∈ ms', ∃ o ∈ ms', o ≠ m ∧ Rch us' m o ∧ barB r m o = true else ∃ u ∈ us', barB r u.1 u.2 = true := by
    by_cases hl : longB r = true
    · rw [if_pos hl, if_pos hl]
      exact fun ⟨m, h1, o, h2, h3, h4, h5⟩ => ⟨m, hm m h1, o, hm o h2, h3, h4.mono' hu, h5⟩
    · rw [if_neg hl, if_neg hl]
      exact fun ⟨u, h1, h2⟩ => ⟨u, hu u h1, h2⟩
  cases r with
  | noring ps =>
    obtain ⟨p, hp, w, hw⟩ := h
    exact ⟨p, hp, w, hw.1, hw.2.mono hu⟩
  | _ => exact all h
theorem POk.of {ms : List Str} {us : List Us} (hm : PVm ms) (hu : PVu ms us) : POk (sortS ms) (sortU us) := by
  have nd : ms.Nodup := hm.nd
  exact ⟨(sortS_perm ms).nodup_iff.mpr nd, by rw [sortS_len]; exact hm.len, by rw [sortU_len]; exact hu.len, fun m h => (hm.path m (mem_sortS.mp h)).asc, sortU_sorted us, (sortU_perm us).nodup_iff.mpr hu.nd,
    fun u h => ⟨mem_sortS.mpr (hu.mem u (mem_sortU.mp h)).1, mem_sortS.mpr (hu.mem u (mem_sortU.mp h)).2.1⟩⟩
/-! Program.modules -/
abbrev s_Program_modules : Stmt := clsS 42 1
theorem sc_Program_modules : FnScope ["self"] ["self"] (defScope s_Program_modules) := ⟨rfl, rfl, rfl, by decide +kernel, rfl, by decide +kernel, by decide +kernel⟩
def Sp_Program_modules : DSp := fun _ ds f Q => ∃ (ms : List Str) (us : List Us) (ks : List Str), ds = [prgD ms us ks] ∧ Q (.tup ((sortS ms).map D.str)) f
set_option maxHeartbeats 2000000 in
theorem ok_Program_modules {C_Program : Addr} (k_Program : KC K "Program" C_Program) (n_Program_places : NoAttr K C_Program "places") (d : ∃ p f fd, Fun K "modules" "Program.modules" s_Program_modules f fd ∧ PropOf K C_Program "modules" p f) : CalP P w K mg base 1 "Program" "modules" ["self"] Sp_Program_modules := by
  obtain ⟨p, f, fd, F, M⟩ := d
  refine ⟨C_Program, p, f, fd, k_Program, M, dfn (k := 0) (S := Sp_Program_modules) F sc_Program_modules ?len (fun cdv A outer s H E hr => (dss_one (ds_ret (de_fld k_Program n_Program_places (de_v 0))))) ?h, F.binds fun _ _ _ _ _ _ us hl => match us, hl with | [_], _ => rfl⟩
  case len =>
    intro g ds n Q h; obtain ⟨_, _, _, rfl, _⟩ := h; rfl
  case h =>
    intro g ds n Q h
    obtain ⟨ms, us, ks, rfl, q⟩ := h
    exact ⟨rfl, _, rfl, q⟩
/-! Program.uses -/
abbrev s_Program_uses : Stmt := clsS 42 2
theorem sc_Program_uses : FnScope ["self"] ["self"] (defScope s_Program_uses) := ⟨rfl, rfl, rfl, by decide +kernel, rfl, by decide +kernel, by decide +kernel⟩
def Sp_Program_uses : DSp := fun _ ds f Q => ∃ (ms : List Str) (us : List Us) (ks : List Str), ds = [prgD ms us ks] ∧ Q (.tup ((sortU us).map pairD)) f
set_option maxHeartbeats 2000000 in
theorem ok_Program_uses {C_Program : Addr} (k_Program : KC K "Program" C_Program) (n_Program_links : NoAttr K C_Program "links") (d : ∃ p f fd, Fun K "uses" "Program.uses" s_Program_uses f fd ∧ PropOf K C_Program "uses" p f) : CalP P w K mg base 1 "Program" "uses" ["self"] Sp_Program_uses := by
  obtain ⟨p, f, fd, F, M⟩ := d
  refine ⟨C_Program, p, f, fd, k_Program, M, dfn (k := 0) (S := Sp_Program_uses) F sc_Program_uses ?len (fun cdv A outer s H E hr => (dss_one (ds_ret (de_fld k_Program n_Program_links (de_v 0))))) ?h, F.binds fun _ _ _ _ _ _ us hl => match us, hl with | [_], _ => rfl⟩
  case len =>
    intro g ds n Q h; obtain ⟨_, _, _, rfl, _⟩ := h; rfl
  case h =>
    intro g ds n Q h
    obtain ⟨ms, us, ks, rfl, q⟩ := h
    exact ⟨rfl, _, rfl, q⟩
/-! find_break -/
abbrev s_find_break : Stmt := topS 28
theorem sc_find_break : FnScope ["program", "rule"] ["program", "rule"] (defScope s_find_break) := ⟨rfl, rfl, rfl, by decide +kernel, rfl, by decide +kernel, by decide +kernel⟩
def Sp_find_break [Tbs] : DSp := fun g ds f Q => ∃ (k : Dk) (ms : List Str) (us : List Us) (ks : List Str) (r : Rl), g = some k ∧ k.t = Tbs.t ∧ ds = [prgD ms us ks, r.d] ∧ PVm ms ∧ PVu ms us ∧ r.form ∧ Q (oU (fbk (sortS ms) (sortU us) r)) f
set_option maxHeartbeats 2000000 in
theorem ok_find_break (d : Df K mg "find_break" s_find_break) (c_first_break : Cal P w K mg base 6 "first_break" ["modules", "uses", "rule"] Sp_first_break) (c_Program_uses : CalP P w K mg base 1 "Program" "uses" ["self"] Sp_Program_uses) (c_Program_modules : CalP P w K mg base 1 "Program" "modules" ["self"] Sp_Program_modules) : Cal P w K mg base 7 "find_break" ["program", "rule"] Sp_find_break := by
  obtain ⟨f, fd, F, m⟩ := d
  refine ⟨f, fd, dfn (k := 6) (S := Sp_find_break) F sc_find_break ?len (fun cdv A outer s H E hr => (dss_one (ds_ret (de_callC c_first_break (hr.mono (by decide)) (da_cons (de_prop c_Program_modules (hr.mono (by decide)) (de_v 0)) (da_cons (de_prop c_Program_uses (hr.mono (by decide)) (de_v 0)) (da_cons (de_v 1) da_nil))))))) ?h, F.kp, F.binds fun _ _ _ _ _ _ us hl => match us, hl with | [_, _], _ => rfl, m⟩
  case len =>
    intro g ds n Q h; obtain ⟨_, _, _, _, _, _, _, rfl, _⟩ := h; rfl
  case h =>
    intro g ds n Q h
    obtain ⟨k, ms, us, ks, r, rfl, ht, rfl, hm, hu, hr, q⟩ := h
    exact ⟨rfl, ms, us, ks, rfl, rfl, ms, us, ks, rfl, k, _, _, r, rfl, ht, rfl, POk.of hm hu, hr, q⟩
/-! each_break -/
abbrev s_each_break : Stmt := topS 29
theorem sc_each_break : GScope ["program", "rule"] ["program", "rule"] (defScope s_each_break) := ⟨rfl, rfl, rfl, by decide +kernel, rfl, by decide +kernel, by decide +kernel⟩
theorem brk_cnt {ms : List Str} {us : List Us} {r : Rl} (h : POk ms us) (hr : r.form) : (brk ms us r).length ≤ 600 := by
  have all : (if longB r = true then chL us r ms ms else (us.filter fun u => barB r u.1 u.2).map fun u => [u]).length ≤ 600 := by
    split
    · have := chL_len us r ms ms
      have : ms.length * ms.length ≤ 24 * 24 := Nat.mul_le_mul h.len h.len
      omega
    · rw [List.length_map]
      have := List.length_filter_le (fun u => barB r u.1 u.2) us
      have := h.ul
      omega
  cases r with
  | noring ps => exact Nat.le_trans (List.length_filterMap_le _ _) (Nat.le_trans hr.2.1 (by decide))
  | _ => exact all
def Sp_each_break : GSp := fun _ ds f Q => ∃ (ms : List Str) (us : List Us) (ks : List Str) (r : Rl), ds = [prgD ms us ks, r.d] ∧ PVm ms ∧ PVu ms us ∧ r.form ∧ Q ((brk (sortS ms) (sortU us) r).map tpU) f
set_option maxHeartbeats 2000000 in
theorem ok_each_break (d : Df K mg "each_break" s_each_break) (c_all_breaks : Cal P w K mg base 5 "all_breaks" ["modules", "uses", "rule"] Sp_all_breaks) (c_Program_uses : CalP P w K mg base 1 "Program" "uses" ["self"] Sp_Program_uses) (c_Program_modules : CalP P w K mg base 1 "Program" "modules" ["self"] Sp_Program_modules) : CalGn P w K mg base 6 "each_break" ["program", "rule"] Sp_each_break := by
  obtain ⟨f, fd, F, m⟩ := d
  refine ⟨f, fd, dfnGen (k := 5) (S := Sp_each_break) F sc_each_break ?len rfl (fun cdv A outer s H E pn hr => (de_callC c_all_breaks (hr.mono (by decide)) (da_cons (de_prop c_Program_modules (hr.mono (by decide)) (de_v 0)) (da_cons (de_prop c_Program_uses (hr.mono (by decide)) (de_v 0)) (da_cons (de_v 1) da_nil))))) ?h, F.kp, F.binds fun _ _ _ _ _ _ us hl => match us, hl with | [_, _], _ => rfl, m⟩
  case len =>
    intro g ds n Q h; obtain ⟨_, _, _, _, rfl, _⟩ := h; rfl
  case h =>
    intro g ds n Q h
    obtain ⟨ms, us, ks, r, rfl, hm, hu, hr, q⟩ := h
    have hP := POk.of hm hu
    exact ⟨rfl, ms, us, ks, rfl, rfl, ms, us, ks, rfl, _, _, r, rfl, hP, hr, _, rfl, by rw [List.length_map]; exact L1 (Nat.le_trans (brk_cnt hP hr) (by decide)), q⟩
/-! evidence against a rule: rows of uses -/
/-! what breaks a rule is evidence of it -/
theorem Chn.cut {us : List Us} {s t : Str} {w : List Str} (h : Chn us s t w) : ∃ w', Chn us s t w' ∧ w'.Nodup ∧ (w' = w ∨ w'.length < w.length) := by
  induction h with
  | one => exact ⟨_, .one, by simp, .inl rfl⟩
  | @snoc a b w h hu ih =>
    obtain ⟨w', h1, h2, h0⟩ := ih
    have hl : w'.length ≤ w.length := h0.elim (fun e => Nat.le_of_eq (by rw [e])) Nat.le_of_lt
    by_cases hb : b ∈ w'
    · obtain ⟨w2, h3, h4⟩ := h1.pre b hb
      have := h4.length_le
      exact ⟨w2, h3, h2.sublist h4.sublist, .inr (by rw [List.length_append, List.length_singleton]; omega)⟩
    · refine ⟨_, .snoc h1 hu, ?_, ?_⟩
      · rw [List.nodup_append]
        exact ⟨h2, by simp, fun a ha c hc e => hb (by rw [← List.mem_singleton.mp hc, ← e]; exact ha)⟩
      · rcases h0 with rfl | h0
        · exact .inl rfl
        · exact .inr (by rw [List.length_append, List.length_append]; omega)
theorem FCh.nd {us : List Us} {s t : Str} {w : List Str} (h : FCh us s t w) : w.Nodup := by
  obtain ⟨w', h1, h2, rfl | h3⟩ := h.is.cut
  · exact h2
  · have := Frst.len h h1
    omega
/-! the first break comes no later where there are more uses -/
theorem Chn.mono {us vs : List Us} {s t : Str} {w : List Str} (hu : ∀ u ∈ us, u ∈ vs) (h : Chn us s t w) : Chn vs s t w := by
  induction h with
  | one => exact .one
  | snoc _ h ih => exact .snoc ih (hu _ h)
def keyLe (w v : List Us) : Prop := w.length < v.length ∨ (w.length = v.length ∧ lxLt leU v w = false)
theorem keyLe.refl (v : List Us) : keyLe v v := .inr ⟨rfl, lx_irrefl v⟩
theorem keyLe.trans {a b c : List Us} (h1 : keyLe a b) (h2 : keyLe b c) : keyLe a c := by
  rcases h1 with h1 | ⟨h1, h1'⟩ <;> rcases h2 with h2 | ⟨h2, h2'⟩
  · exact .inl (by omega)
  · exact .inl (by omega)
  · exact .inl (by omega)
  · exact .inr ⟨by omega, lx_le totU h1' h2'⟩
/-! evidence is no shorter than the first break -/
theorem Chn.app {us : List Us} {s : Str} : ∀ (r : List Str) {t : Str} {w : List Str}, Chn us s t w → (∀ u ∈ lnks (t :: r), u ∈ us) → Chn us s ((t :: r).getLast (List.cons_ne_nil _ _)) (w ++ r)
  | [], t, w, h, _ => by rw [List.append_nil]; exact h
  | b :: r, t, w, h, hu => by
    have h1 : Chn us s b (w ++ [b]) := .snoc h (hu (t, b) (show (t, b) ∈ (t, b) :: lnks (b :: r) by simp))
    have := Chn.app r h1 fun u h => hu u (show u ∈ (t, b) :: lnks (b :: r) by simp [h])
    rw [List.append_assoc] at this
    rw [List.getLast_cons (List.cons_ne_nil _ _)]
    exact this
theorem Wkr.run {us : List Us} {ps : List Str} {s t : Str} : ∀ (x : List Us) {a : Str} {w : List Us}, Wkr us ps s a w → (∀ u ∈ x, u ∈ us) → (∀ u ∈ x, (homeO ps u.1).isSome = true) → x.map (fun u => homeO ps u.1) ++ [some t] = some a :: x.map (fun u => homeO ps u.2) →
    (x.map fun u => homeO ps u.1).Nodup → some t ∉ x.map (fun u => homeO ps u.1) → Wkr us ps s t (w ++ x)
  | [], a, w, h, _, _, e, _, _ => by
    have : t = a := by cases e; rfl
    rw [List.append_nil, this]
    exact h
  | u :: x, a, w, h, hu, hs, e, hn, ht => by
    obtain ⟨e1, e2⟩ := List.cons.inj e
    have hb : ∃ b, homeO ps u.2 = some b ∧ a ≠ b := by
      cases x with
      | nil =>
        obtain ⟨e3, _⟩ := List.cons.inj e2
        refine ⟨t, e3.symm, fun z => ht ?_⟩
        rw [← z]
        exact List.mem_map.mpr ⟨u, by simp, e1⟩
      | cons v x =>
        obtain ⟨e3, _⟩ := List.cons.inj e2
        obtain ⟨b, hb⟩ := Option.isSome_iff_exists.mp (hs v (by simp))
        refine ⟨b, by rw [← hb]; exact e3.symm, fun z => ?_⟩
        have := (List.nodup_cons.mp hn).1
        refine this (List.mem_map.mpr ⟨v, by simp, ?_⟩)
        show homeO ps v.1 = homeO ps u.1
        rw [hb, ← z]
        exact e1.symm
    obtain ⟨b, hb, hab⟩ := hb
    have h1 : Wkr us ps s b (w ++ [u]) := .snoc h (hu u (by simp)) e1 hb hab
    have e4 : x.map (fun u => homeO ps u.1) ++ [some t] = some b :: x.map (fun u => homeO ps u.2) := by rw [← hb]; exact e2
    have := Wkr.run x h1 (fun v hv => hu v (by simp [hv])) (fun v hv => hs v (by simp [hv])) e4 (List.nodup_cons.mp hn).2 fun z => ht (by rw [List.map_cons]; exact List.mem_cons_of_mem _ z)
    rwa [List.append_assoc] at this
theorem keyLe.len {a b : List Us} (h : keyLe a b) : a.length ≤ b.length := by rcases h with h | ⟨h, _⟩ <;> omega
/-! _law_first -/
abbrev s__law_first : Stmt := topS 62
theorem sc__law_first : FnScope ["_law_some", "_law_rows_here", "_law_value"] ["_law_some"] (defScope s__law_first) := ⟨rfl, rfl, rfl, by decide +kernel, rfl, by decide +kernel, by decide +kernel⟩
/-! the first row, the shortest ahead: by sorting -/
def emK (v : List Us) : D := .tup [.int v.length, tpU v]
theorem emK_py (v : List Us) : (emK v).py = lkey (tpU v).py := (lkey_tpU v).symm
theorem emK_py2 (v : List Us) : (emK v).py = .tuple [.int v.length, (tpU v).py] := rfl
def sortK (l : List (List Us)) : List (List Us) := l.mergeSort (PySem.W.dataLe false fun v => (emK v).py)
theorem sortK_map (l : List (List Us)) : sortD (l.map emK) = (sortK l).map emK := by
  unfold sortD sortK
  exact (List.map_mergeSort (f := emK) fun _ _ _ _ => rfl).symm
theorem sortK_mem {l : List (List Us)} {v : List Us} : v ∈ sortK l ↔ v ∈ l := (List.mergeSort_perm l _).mem_iff
theorem sortK_len (l : List (List Us)) : (sortK l).length = l.length := (List.mergeSort_perm l _).length_eq
theorem sortK_pw (l : List (List Us)) : (sortK l).Pairwise fun a b => keyLe a b := by
  have h := sortD_pw (l.map emK)
  rw [sortK_map, List.pairwise_map] at h
  refine h.imp fun {a b} q => ?_
  rw [emK_py, emK_py, lkey_lt] at q
  unfold keyLe
  by_cases e : b.length = a.length
  · rw [if_pos e] at q
    exact .inr ⟨e.symm, q⟩
  · rw [if_neg e] at q
    have := of_decide_eq_false q
    exact .inl (by omega)
theorem sortsK {l : List (List Us)} (hl : l.length ≤ 100000) (ha : ∀ v ∈ l, ∀ u ∈ v, ascU u) : Sorts (l.map emK) := by
  have one : ∀ x ∈ l.map emK, x.py.canLay0 = true ∧ x.py.depth ≤ 3 := fun x hx => by
    obtain ⟨v, hv, rfl⟩ := List.mem_map.mp hx
    rw [emK_py2]
    refine ⟨?_, ?_⟩
    · show (true && ((tpU v).py.canLay0 && true)) = true
      rw [tpU_lay (ha v hv)]; rfl
    · have := tpU_depth v
      show max 0 (max (tpU v).py.depth 0) + 1 ≤ 3
      omega
  refine ⟨by rw [List.length_map]; exact L1 hl, (pyAll_of one).1, fun d hd d' hd' => ?_, .inl fun d hd => ?_, fun x hx => Nat.le_trans (one x hx).2 (by decide)⟩
  · obtain ⟨x, hx, rfl⟩ := List.mem_map.mp hd
    obtain ⟨y, hy, rfl⟩ := List.mem_map.mp hd'
    obtain ⟨a, _, rfl⟩ := List.mem_map.mp hx
    obtain ⟨b, _, rfl⟩ := List.mem_map.mp hy
    rw [emK_py2, emK_py2]
    simp only [PySem.W.alike, PySem.W.alikeAll, Bool.and_true]
    exact tpU_alike a b
  · obtain ⟨x, hx, rfl⟩ := List.mem_map.mp hd
    obtain ⟨a, _, rfl⟩ := List.mem_map.mp hx
    exact ⟨_, _, emK_py2 a⟩
theorem fst_sortK {l : List (List Us)} : fstL l = (sortK l).head? := by
  cases e : sortK l with
  | nil =>
    have : l = [] := by
      have := sortK_len l
      rw [e] at this
      exact List.length_eq_zero_iff.mp this.symm
    subst this
    exact frst_none fun w h => (nomatch h)
  | cons h r =>
    refine frst_eq totU ⟨sortK_mem.mp (by rw [e]; simp), fun w hw => ?_⟩
    have hw' : w ∈ h :: r := by rw [← e]; exact sortK_mem.mpr hw
    have pw := sortK_pw l
    rw [e] at pw
    rcases List.mem_cons.mp hw' with rfl | h2
    · exact keyLe.refl _
    · exact (List.pairwise_cons.mp pw).1 w h2
def Sp__law_first : DSp := fun _ ds f Q => ∃ l : List (List Us), ds = [.lst (l.map tpU)] ∧ l.length ≤ 1000 ∧ (∀ v ∈ l, (∀ u ∈ v, ascU u) ∧ v.length ≤ 1000) ∧ Q (oU (fstL l)) f
set_option maxHeartbeats 2000000 in
theorem ok__law_first (d : Df K mg "_law_first" s__law_first) (m_len : mg "len" = none) (m_sorted : mg "sorted" = none) : Cal P w K mg base 1 "_law_first" ["_law_some"] Sp__law_first := by
  obtain ⟨f, fd, F, m⟩ := d
  refine ⟨f, fd, dfn (k := 0) (S := Sp__law_first) F sc__law_first ?len (fun cdv A outer s H E hr => (dss_cons (ds_set false (i := 1) sc__law_first.nd (de_sorted hr m_sorted (da_cons (dl_lc (own := [("_law_value", 2)]) rfl sc__law_first.nd (di_seq (de_v 0)) (blkOk_by (own := [("_law_value", 2)]) (N := ["_law_some", "_law_rows_here", "_law_value"]) (sc := defScope s__law_first) (by decide +kernel)) (fun _ _ _ _ _ => dg_name (i := 2) sc__law_first.nd) (fun _ _ _ _ _ => dts_nil) (fun _ _ _ _ _ => (de_tup (da_cons (de_len m_len (da_cons (de_v 2) da_nil)) (da_cons (de_v 2) da_nil))))).e da_nil)))
      (dss_one (ds_ret (de_ifExp (dp_neE hr.units (de_v 1) (dl_lst da_nil).e) (de_ix (de_ix (de_v 1) de_int) de_int) de_non))))) ?h, F.kp, F.binds fun _ _ _ _ _ _ us hl => match us, hl with | [_], _ => rfl, m⟩
  case len =>
    intro g ds n Q h; obtain ⟨_, rfl, _⟩ := h; rfl
  case h =>
    intro g ds n Q h
    obtain ⟨l, rfl, hl, ha, q⟩ := h
    refine ⟨by rw [List.length_map]; exact L1 (by omega), ?_⟩
    refine lcM tpU emK id l _ (fun v hv => ⟨_, rfl, fun f Q q => ?_⟩) ?_
    · refine ⟨show 2 ≤ lim by decide, ?_⟩
      show Q (.tup [.int ((v.map pairD).length : Nat), tpU v]) f
      rw [List.length_map]
      exact q
    rw [List.map_id]
    refine ⟨sortsK (by omega) fun v hv => (ha v hv).1, ?_⟩
    rw [sortK_map]
    rw [fst_sortK] at q
    simp only [List.set_cons_succ, List.set_cons_zero, setsR, startR, List.map_cons, List.map_nil, List.cons_append, List.nil_append, List.replicate_succ, List.replicate_zero, List.length_cons, List.length_nil, Nat.reduceAdd, Nat.reduceSub]
    cases e : sortK l with
    | nil =>
      rw [e] at q
      refine ⟨Nat.zero_le _, _, rfl, rfl, ?_⟩
      exact q
    | cons h r =>
      rw [e] at q
      refine ⟨Nat.zero_le _, _, rfl, rfl, ?_⟩
      refine iteT ⟨_, atI0, _, atI_nat (j := 1) rfl, q⟩
/-! the law's own rows: the least walks of so many steps -/
def lngE (us : List Us) (ps : List Str) (ks : List (Str × Str)) (e : WE) : List WE := (ks.filter fun k => decide (k.1 = e.2)).map fun k => (e.1 ++ [stU us ps k], k.2)
def lngL (us : List Us) (ps : List Str) (ks : List (Str × Str)) (l : List WE) : List WE := (l.map (lngE us ps ks)).flatten
theorem lngE_len (us : List Us) (ps : List Str) (ks : List (Str × Str)) (e : WE) : (lngE us ps ks e).length ≤ ks.length := by
  unfold lngE
  rw [List.length_map]
  exact List.length_filter_le _ _
theorem lngL_len (us : List Us) (ps : List Str) (ks : List (Str × Str)) : ∀ l : List WE, (lngL us ps ks l).length ≤ l.length * ks.length
  | [] => Nat.zero_le _
  | e :: l => by
    have h1 := lngE_len us ps ks e
    have h2 := lngL_len us ps ks l
    have e1 : lngL us ps ks (e :: l) = lngE us ps ks e ++ lngL us ps ks l := rfl
    rw [e1, List.length_append, List.length_cons, Nat.succ_mul]
    omega
theorem lngL_snoc (us : List Us) (ps : List Str) (ks : List (Str × Str)) (l : List WE) (e : WE) : lngL us ps ks (l ++ [e]) = lngL us ps ks l ++ lngE us ps ks e := by
  unfold lngL
  rw [List.map_append, List.flatten_append]
  simp
theorem lngL_mem {us : List Us} {ps : List Str} {ks : List (Str × Str)} {l : List WE} {x : WE} : x ∈ lngL us ps ks l ↔ ∃ r ∈ l, (r.2, x.2) ∈ ks ∧ x.1 = r.1 ++ [stU us ps (r.2, x.2)] := by
  unfold lngL
  rw [List.mem_flatten]
  constructor
  · rintro ⟨m, hm, hx⟩
    obtain ⟨r, hr, rfl⟩ := List.mem_map.mp hm
    obtain ⟨k, hk, rfl⟩ := List.mem_map.mp hx
    obtain ⟨h1, h2⟩ := List.mem_filter.mp hk
    have h2 : k.1 = r.2 := of_decide_eq_true h2
    have e : k = (r.2, k.2) := Prod.ext h2 rfl
    refine ⟨r, hr, by rw [← e]; exact h1, ?_⟩
    show r.1 ++ [stU us ps k] = r.1 ++ [stU us ps (r.2, k.2)]
    rw [← e]
  · rintro ⟨r, hr, hk, e⟩
    refine ⟨_, List.mem_map_of_mem hr, List.mem_map.mpr ⟨(r.2, x.2), List.mem_filter.mpr ⟨hk, decide_eq_true rfl⟩, ?_⟩⟩
    exact Prod.ext e.symm rfl
/-- the first row for each end -/
def fstsS (acc : List WE) (e : WE) : List WE := if e.2 ∈ acc.map Prod.snd then acc else acc ++ [e]
def fsts (l : List WE) : List WE := l.foldl fstsS []
theorem fsts_snoc (l : List WE) (e : WE) : fsts (l ++ [e]) = fstsS (fsts l) e := by
  unfold fsts
  rw [List.foldl_append]
  rfl
theorem fsts_len0 : ∀ (l acc : List WE), (l.foldl fstsS acc).length ≤ acc.length + l.length
  | [], acc => Nat.le_refl _
  | e :: l, acc => by
    have h := fsts_len0 l (fstsS acc e)
    have h2 : (fstsS acc e).length ≤ acc.length + 1 := by
      unfold fstsS
      split
      · omega
      · rw [List.length_append]; exact Nat.le_refl _
    show (l.foldl fstsS (fstsS acc e)).length ≤ acc.length + (l.length + 1)
    omega
theorem fsts_len (l : List WE) : (fsts l).length ≤ l.length := by
  have := fsts_len0 l []
  rw [List.length_nil, Nat.zero_add] at this
  exact this
structure FI (done acc : List WE) : Prop where
  sub : ∀ x ∈ acc, x ∈ done
  ex : ∀ e ∈ done, ∃ x ∈ acc, x.2 = e.2
  nd : (acc.map Prod.snd).Nodup
  ls : ∀ x ∈ acc, ∀ e ∈ done, e.2 = x.2 → lxLt leU e.1 x.1 = false
theorem FI.go : ∀ (l done acc : List WE), FI done acc → (done ++ l).Pairwise (fun a b => lxLt leU b.1 a.1 = false) → FI (done ++ l) (l.foldl fstsS acc)
  | [], done, acc, h, _ => by rw [List.append_nil]; exact h
  | e :: l, done, acc, h, pw => by
    have e1 : done ++ e :: l = (done ++ [e]) ++ l := by simp
    rw [e1] at pw ⊢
    refine FI.go l (done ++ [e]) (fstsS acc e) ?_ pw
    have pw1 := (List.pairwise_append.mp pw).1
    have old : ∀ x ∈ done, lxLt leU e.1 x.1 = false := fun x hx => (List.pairwise_append.mp pw1).2.2 x hx e (by simp)
    unfold fstsS
    by_cases hm : e.2 ∈ acc.map Prod.snd
    · rw [if_pos hm]
      obtain ⟨y, hy, ey⟩ := List.mem_map.mp hm
      refine ⟨fun x hx => List.mem_append_left _ (h.sub x hx), fun z hz => ?_, h.nd, fun x hx z hz ez => ?_⟩
      · rcases List.mem_append.mp hz with q | q
        · exact h.ex z q
        · rw [List.mem_singleton.mp q]; exact ⟨y, hy, ey⟩
      · rcases List.mem_append.mp hz with q | q
        · exact h.ls x hx z q ez
        · rw [List.mem_singleton.mp q]; exact old x (h.sub x hx)
    · rw [if_neg hm]
      refine ⟨fun x hx => ?_, fun z hz => ?_, ?_, fun x hx z hz ez => ?_⟩
      · rcases List.mem_append.mp hx with q | q
        · exact List.mem_append_left _ (h.sub x q)
        · exact List.mem_append_right _ q
      · rcases List.mem_append.mp hz with q | q
        · obtain ⟨x, h1, h2⟩ := h.ex z q
          exact ⟨x, List.mem_append_left _ h1, h2⟩
        · rw [List.mem_singleton.mp q]; exact ⟨e, by simp, rfl⟩
      · rw [List.map_append, List.nodup_append]
        exact ⟨h.nd, by simp, fun a ha b hb e => hm (by rw [← List.mem_singleton.mp hb, ← e]; exact ha)⟩
      · rcases List.mem_append.mp hx with q | q
        · rcases List.mem_append.mp hz with q2 | q2
          · exact h.ls x q z q2 ez
          · rw [List.mem_singleton.mp q2]; exact old x (h.sub x q)
        · have ex := List.mem_singleton.mp q
          rcases List.mem_append.mp hz with q2 | q2
          · exfalso
            obtain ⟨y, h1, h2⟩ := h.ex z q2
            exact hm (List.mem_map.mpr ⟨y, h1, by rw [h2, ez, ex]⟩)
          · rw [List.mem_singleton.mp q2, ex]; exact lx_irrefl _
theorem fsts_ok (l : List WE) (pw : l.Pairwise fun a b => lxLt leU b.1 a.1 = false) : FI l (fsts l) := FI.go l [] [] ⟨by simp, by simp, by simp, by simp⟩ pw
def bst (us : List Us) (ps : List Str) (ks : List (Str × Str)) (rows : List WE) : List WE := fsts (sortE (lngL us ps ks rows))
/-- the least walk of n steps -/
structure LW (us : List Us) (ps : List Str) (s : Str) (n : Nat) (t : Str) (w : List Us) : Prop where
  is : Wkr us ps s t w
  len : w.length = n
  least : ∀ w', Wkr us ps s t w' → w'.length = n → lxLt leU w' w = false
structure RW (us : List Us) (ps : List Str) (s : Str) (n : Nat) (rows : List WE) : Prop where
  nd : (rows.map Prod.snd).Nodup
  is : ∀ e ∈ rows, LW us ps s n e.2 e.1
  all : ∀ t w, Wkr us ps s t w → w.length = n → t ∈ rows.map Prod.snd
theorem RW.start (us : List Us) (ps : List Str) (s : Str) : RW us ps s 0 [([], s)] := by
  refine ⟨by simp, fun e he => ?_, fun t w h hl => ?_⟩
  · rw [List.mem_singleton.mp he]
    exact ⟨.nil, rfl, fun w' _ h => by rw [List.length_eq_zero_iff.mp h]; exact lx_irrefl _⟩
  · rw [h.nil_eq (List.length_eq_zero_iff.mp hl)]
    simp
theorem RW.next {us : List Us} {ps : List Str} {s : Str} {n : Nat} {ks : List (Str × Str)} {rows : List WE} (hsr : us.Pairwise fun a b => leU a b = true) (hk : ∀ p, p ∈ ks ↔ IsSt us ps p) (h : RW us ps s n rows) : RW us ps s (n + 1) (bst us ps ks rows) := by
  have F := fsts_ok (sortE (lngL us ps ks rows)) (sortE_pw _)
  -- a walk with one step more is no less than one of the longer rows
  have up : ∀ t w', Wkr us ps s t w' → w'.length = n + 1 → ∃ e ∈ lngL us ps ks rows, e.2 = t ∧ lxLt leU w' e.1 = false := fun t w' hw hl => by
    obtain ⟨a, w0, u, rfl, h0, hu, h1, h2, hn⟩ := hw.last (fun z => by rw [z] at hl; simp at hl)
    have hl0 : w0.length = n := by rw [List.length_append, List.length_singleton] at hl; omega
    obtain ⟨r, hr, er⟩ := List.mem_map.mp (h.all a w0 h0 hl0)
    subst er
    have L := h.is r hr
    have hb : stB ps (r.2, t) u = true := stB_iff.mpr ⟨h1, h2⟩
    have S : IsSt us ps (r.2, t) := ⟨hn, u, hu, hb⟩
    refine ⟨(r.1 ++ [stU us ps (r.2, t)], t), lngL_mem.mpr ⟨r, hr, (hk _).mpr S, rfl⟩, rfl, ?_⟩
    exact lx_ext (hl0.trans L.len.symm) (L.least w0 h0 hl0) (IsSt.least hsr hu hb)
  refine ⟨F.nd, fun e he => ?_, fun t w hw hl => ?_⟩
  · have hl := sortE_mem.mp (F.sub e he)
    obtain ⟨r, hr, hk1, e1⟩ := lngL_mem.mp hl
    have L := h.is r hr
    have S := (hk _).mp hk1
    obtain ⟨s1, s2, s3⟩ := S.st
    refine ⟨by rw [e1]; exact .snoc L.is s1 s2 s3 S.ne, by rw [e1, List.length_append, L.len]; rfl, fun w' hw hwl => ?_⟩
    obtain ⟨x, hx, ex, hlx⟩ := up e.2 w' hw hwl
    exact lx_le totU (F.ls e he x (sortE_mem.mpr hx) ex) hlx
  · obtain ⟨x, hx, ex, _⟩ := up t w hw hl
    obtain ⟨y, hy, ey⟩ := F.ex x (sortE_mem.mpr hx)
    exact List.mem_map.mpr ⟨y, hy, ey.trans ex⟩
theorem RW.lens {us : List Us} {ps : List Str} {s : Str} {n : Nat} {rows : List WE} (hs : s ∈ ps) (h : RW us ps s n rows) : rows.length ≤ ps.length := by
  have h1 : (rows.map Prod.snd).length ≤ ps.length := nodup_sub_len h.nd fun x hx => by
    obtain ⟨e, he, rfl⟩ := List.mem_map.mp hx
    exact (h.is e he).is.mem hs
  rwa [List.length_map] at h1
/-- the first ring through s, so far -/
def Dn (us : List Us) (ps : List Str) (s : Str) (n : Nat) (dn : List (List Us)) : Prop := (dn = [] ∧ ∀ w, Cyc us ps s w → n < w.length) ∨ ∃ v, dn = [v] ∧ Frst leU (Cyc us ps s) v
theorem Dn.start (us : List Us) (ps : List Str) (s : Str) : Dn us ps s 0 [] := .inl ⟨rfl, fun w h => List.length_pos_iff.mpr h.1⟩
theorem Dn.hit {us : List Us} {ps : List Str} {s : Str} {n : Nat} {v : List Us} (h : Dn us ps s n []) (L : LW us ps s (n + 1) s v) : Dn us ps s (n + 1) [v] := by
  rcases h with ⟨_, h⟩ | ⟨_, h, _⟩
  · refine .inr ⟨v, rfl, ⟨fun z => ?_, L.is⟩, fun w' hw => ?_⟩
    · have := L.len
      rw [z] at this
      cases this
    · have h1 := h w' hw
      by_cases e : w'.length = n + 1
      · exact .inr ⟨L.len.trans e.symm, L.least w' hw.2 e⟩
      · exact .inl (by rw [L.len]; omega)
  · cases h
theorem Dn.miss {us : List Us} {ps : List Str} {s : Str} {n : Nat} {rows : List WE} (h : Dn us ps s n []) (R : RW us ps s (n + 1) rows) (hm : s ∉ rows.map Prod.snd) : Dn us ps s (n + 1) [] := by
  rcases h with ⟨_, h⟩ | ⟨_, h, _⟩
  · refine .inl ⟨rfl, fun w hw => ?_⟩
    have h1 := h w hw
    by_cases e : w.length = n + 1
    · exact absurd (R.all s w hw.2 e) hm
    · omega
  · cases h
theorem Dn.keep {us : List Us} {ps : List Str} {s : Str} {n : Nat} {dn : List (List Us)} (h : Dn us ps s n dn) (hne : dn ≠ []) : Dn us ps s (n + 1) dn := by
  rcases h with ⟨h, _⟩ | h
  · exact absurd h hne
  · exact .inr h
theorem Dn.end {us : List Us} {ps : List Str} {s : Str} {dn : List (List Us)} (hs : s ∈ ps) (h : Dn us ps s ps.length dn) : dn = (frst leU (Cyc us ps s)).toList := by
  rcases h with ⟨rfl, h⟩ | ⟨v, rfl, h⟩
  · rw [frst_none fun w hw => ?_]
    · rfl
    · obtain ⟨v, h1, h2⟩ := Cyc.short hs hw
      have := h v h1
      omega
  · rw [frst_eq totU h]
    rfl
/-! _law_ring_rows -/
abbrev s__law_ring_rows : Stmt := topS 60
theorem sc__law_ring_rows : FnScope ["_law_steps", "_law_rows_here", "_law_longer", "_law_found", "_law_some", "_law_path", "_law_row", "_law_step"] ["_law_steps", "_law_rows_here"] (defScope s__law_ring_rows) := ⟨rfl, rfl, rfl, by decide +kernel, rfl, by decide +kernel, by decide +kernel⟩
theorem lkGoT {b : Str × Str → Bool} {y : Str × Str → D} {g : Option Dk} {s : Nat} {c : LkI → DTT} {e : LkI → DT} {a : Addr} {ks : List (List Key)} {xs : List D} {r : Sg} {Q : List D → Nat → Prop} : ∀ (ps : List (Str × Str)) (acc : List D) (f : Nat),
    (∀ p ∈ ps, ∀ (q : Addr) (f : Nat) (Q : Bool → Nat → Prop), Q (b p) f → c ⟨a, q, ks, xs, p⟩ g (setsR r [(s, .any (.ref q))]) f Q) → (∀ p ∈ ps, b p = true → ∀ (q : Addr) (f : Nat) (Q : QD), Q (y p) f → e ⟨a, q, ks, xs, p⟩ g (setsR r [(s, .any (.ref q))]) f Q) →
    (∀ p ∈ ps, (y p).noM = true) → noMA acc = true → Q (acc ++ (ps.filter b).map y) f → dLkGo g s c e a ks xs r ps acc f Q
  | [], acc, f, _, _, _, ha, q => by
    rw [List.filter_nil, List.map_nil, List.append_nil] at q
    exact ⟨ha, q⟩
  | p :: ps, acc, f, hc, he, hn, ha, q => fun q' => by
    refine hc p (by simp) q' f _ ?_
    cases eb : b p with
    | true =>
      rw [if_pos rfl]
      refine he p (by simp) eb q' f _ ?_
      refine lkGoT ps _ f (fun z hz => hc z (by simp [hz])) (fun z hz => he z (by simp [hz])) (fun z hz => hn z (by simp [hz])) (noMA_app ha ?_) ?_
      · show ((y p).noM && true) = true
        rw [hn p (by simp)]
        rfl
      · rw [List.filter_cons_of_pos eb, List.map_cons] at q
        rw [List.append_assoc]
        exact q
    | false =>
      rw [if_neg Bool.false_ne_true]
      refine lkGoT ps _ f (fun z hz => hc z (by simp [hz])) (fun z hz => he z (by simp [hz])) (fun z hz => hn z (by simp [hz])) ha ?_
      rw [List.filter_cons_of_neg (by rw [eb]; exact Bool.false_ne_true)] at q
      exact q
theorem pairs_noM : ∀ w : List Us, noMA (w.map pairD) = true
  | [] => rfl
  | u :: w => pairs_noM w
theorem pairs_noM2 (us : List Us) (ps : List Str) : ∀ ks : List (Str × Str), noMA (ks.map fun p => pairD (stU us ps p)) = true
  | [] => rfl
  | k :: ks => pairs_noM2 us ps ks
theorem lkS_tpU (w : List Us) : lkS (.sh (tpU w)) = .sh (tpU w) := by
  have h : (tpU w).noM = true := pairs_noM w
  unfold lkS
  show (if (tpU w).noM = true then Sl.sh (tpU w) else .no) = _
  rw [if_pos h]
theorem emE_noM (e : WE) : (emE e).noM = true := by
  show (noMA (e.1.map pairD) && (true && true)) = true
  rw [pairs_noM]
  rfl
def bstD (B : List WE) : D := .dct ((B.map Prod.snd).map Sum.inr) (B.map emE)
structure Steps (us : List Us) (ps : List Str) (ks : List (Str × Str)) : Prop where
  len : ks.length ≤ 200
  as : ∀ k ∈ ks, asc k.1 ∧ asc k.2 ∧ ascU (stU us ps k)
def Sp__law_ring_rows : DSp := fun _ ds f Q => ∃ (us : List Us) (ps : List Str) (ks : List (Str × Str)) (rows : List WE), ds = [stD ks us ps, .lst (rows.map emE)] ∧ Steps us ps ks ∧ rows.length ≤ 20 ∧ (∀ e ∈ rows, (∀ u ∈ e.1, ascU u) ∧ asc e.2 ∧ e.1.length ≤ 100) ∧ Q (bstD (bst us ps ks rows)) f
set_option maxHeartbeats 2000000 in
theorem ok__law_ring_rows (d : Df K mg "_law_ring_rows" s__law_ring_rows) (m_sorted : mg "sorted" = none) : Cal P w K mg base 1 "_law_ring_rows" ["_law_steps", "_law_rows_here"] Sp__law_ring_rows := by
  obtain ⟨f, fd, F, m⟩ := d
  refine ⟨f, fd, dfn (k := 0) (S := Sp__law_ring_rows) F sc__law_ring_rows ?len (fun cdv A outer s H E hr => (dss_cons (ds_parSD (i := 2) (j := 3) sc__law_ring_rows.nd (dl_lst da_nil).e)
      (dss_cons (ds_for [] PassesOwn.never (di_seq (de_v 1)) (dg_tup rfl (dgs_cons (dg_name (i := 4) sc__law_ring_rows.nd) (dgs_cons (dg_name (i := 5) sc__law_ring_rows.nd) dgs_nil))) (dss_one (ds_set false (i := 2) sc__law_ring_rows.nd (de_add (de_v 2) (dl_lcLk (i := 0) (s := 7) (own := [("_law_step", 7)]) rfl sc__law_ring_rows.nd (blkOk_by (own := [("_law_step", 7)]) (N := ["_law_steps", "_law_rows_here", "_law_longer", "_law_found", "_law_some", "_law_path", "_law_row", "_law_step"]) (sc := defScope s__law_ring_rows) (by decide +kernel)) (fun _ _ _ _ _ => dg_name (i := 7) sc__law_ring_rows.nd) (fun _ _ _ _ _ => (dtk_eq hr.units (dek_kix 0 (de_v 7) de_int) (dek_of (de_v 5)))) (fun _ _ _ _ _ => (dek_tup (dak_cons (dek_add (dek_of (de_v 4)) (dek_tup (dak_cons (dek_kget hr (de_v 0) (de_v 7)) dak_nil))) (dak_cons (dek_kix 1 (de_v 7) de_int) dak_nil))))).e))))
      (dss_cons (ds_for [] PassesOwn.never (di_seq (de_sorted hr m_sorted (da_cons (de_v 2) da_nil))) (dg_name (i := 6) sc__law_ring_rows.nd) (dss_one (ds_if (dp_dnotIn hr (de_ix (de_v 6) de_int) (de_v 3)) (dss_one (ds_setKey false hr (i := 3) (de_ix (de_v 6) de_int) (de_v 6))) dss_nil)))
      (dss_one (ds_ret (de_v 3))))))) ?h, F.kp, F.binds fun _ _ _ _ _ _ us hl => match us, hl with | [_, _], _ => rfl, m⟩
  case len =>
    intro g ds n Q h; obtain ⟨_, _, _, _, rfl, _⟩ := h; rfl
  case h =>
    intro g ds n Q h
    obtain ⟨us, ps, ks, rows, rfl, hS, hrl, hra, q⟩ := h
    have hkl := hS.len
    have ll := fun l : List WE => lngL_len us ps ks l
    refine ⟨show 0 ≤ lim by decide, ?_⟩
    refine dFor_list emE (fun done rest r f => f = n ∧ ∃ a b c d : Sl, r = [.sh (stD ks us ps), .sh (.lst (rows.map emE)), .sh (.lst ((lngL us ps ks done).map emE)), .od [] [], a, b, c, d]) rows _ _ ?_ ?_ ⟨rfl, _, _, _, _, rfl⟩
    · rintro done e rest r f N hx ⟨rfl, a, b, c, d, rfl⟩ hN
      have hdl : done.length + 1 ≤ 20 := by
        have := congrArg List.length hx
        rw [List.length_append, List.length_cons] at this
        omega
      obtain ⟨e1, e2, e3⟩ := hra e (by rw [hx]; simp)
      have l1 := ll done
      have l2 : done.length * ks.length ≤ 20 * 200 := Nat.mul_le_mul (by omega) hkl
      refine ⟨_, rfl, ks, _, rfl, Nat.le_trans hkl (by decide), pairs_noM2 us ps ks, fun ad => ?_⟩
      show dLkGo g 7 _ _ ad _ _ [.sh (.any (.ref ad)), _, _, _, lkS (.sh (tpU e.1)), .sh (.str e.2), _, .no] ks [] f _
      rw [lkS_tpU]
      refine lkGoT (b := fun k => decide (k.1 = e.2)) (y := fun k => emE (e.1 ++ [stU us ps k], k.2)) ks [] f (fun p hp q f Q h => ?_) (fun p hp hb q f Q h => ?_) (fun p _ => emE_noM _) rfl ?_
      · exact ⟨rfl, h⟩
      · refine ⟨rfl, rfl, _, lookT_pair (val := fun p => pairD (stU us ps p)) hp, show 1 ≤ lim by decide, ?_, rfl, show 2 ≤ lim by decide, ?_⟩
        · rw [List.length_map]
          exact L1 (by show e.1.length + 1 ≤ _; omega)
        · unfold emE tpU at h
          rw [List.map_append] at h
          exact h
      · rw [List.nil_append]
        have le := lngE_len us ps ks e
        unfold lngE at le
        rw [List.length_map] at le
        refine ⟨by rw [List.length_map, List.length_map]; exact L1 (by omega), ?_⟩
        refine hN _ _ ⟨rfl, .sh (tpU e.1), .sh (.str e.2), c, d, ?_⟩
        rw [lngL_snoc, List.map_append]
        unfold lngE
        rw [List.map_map]
        rfl
    · rintro r f ⟨rfl, a, b, c, d, rfl⟩
      have l1 := ll rows
      have l2 : rows.length * ks.length ≤ 20 * 200 := Nat.mul_le_mul hrl hkl
      have la : ∀ e ∈ lngL us ps ks rows, (∀ u ∈ e.1, ascU u) ∧ asc e.2 := fun e he => by
        obtain ⟨r, hr, hk, e1⟩ := lngL_mem.mp he
        obtain ⟨a1, a2, a3⟩ := hS.as _ hk
        rw [e1]
        exact ⟨fun u hu => (List.mem_append.mp hu).elim ((hra r hr).1 u) fun h => by rw [List.mem_singleton.mp h]; exact a3, a2⟩
      refine ⟨sortsE (by omega) la, ?_⟩
      rw [sortE_map]
      refine dFor_list emE (fun done rest r f' => f' = f ∧ ∃ c : Sl, r = [.sh (stD ks us ps), .sh (.lst (rows.map emE)), .sh (.lst ((lngL us ps ks rows).map emE)), .od (((fsts done).map Prod.snd).map Sum.inr) ((fsts done).map emE), a, b, c, d]) (sortE (lngL us ps ks rows)) _ _ ?_ ?_ ⟨rfl, c, rfl⟩
      · rintro done e rest r f' N hx ⟨rfl, c, rfl⟩ hN
        refine ⟨_, rfl, ?_⟩
        refine ⟨_, atI_nat (j := 1) rfl, .inr e.2, rfl, ?_⟩
        have dl : (fsts done).length ≤ 4000 := by
          have h1 := fsts_len done
          have h2 := congrArg List.length hx
          have h3 : (sortE (lngL us ps ks rows)).length = (lngL us ps ks rows).length := (List.mergeSort_perm _ _).length_eq
          rw [h3, List.length_append] at h2
          omega
        show if (!decide ((Sum.inr e.2 : Key) ∈ ((fsts done).map Prod.snd).map (Sum.inr : Str → Key))) = true then _ else _
        by_cases hm : e.2 ∈ (fsts done).map Prod.snd
        · rw [decide_eq_true (mem_inr.mpr hm)]
          refine hN _ _ ⟨rfl, .sh (emE e), ?_⟩
          rw [fsts_snoc]
          unfold fstsS
          rw [if_pos hm]
          rfl
        · rw [decide_eq_false fun z => hm (mem_inr.mp z)]
          refine iteT ⟨_, _, rfl, _, atI_nat (j := 1) rfl, .inr e.2, rfl, by rw [List.length_map, List.length_map]; exact L1 (by omega), ?_⟩
          refine hN _ _ ⟨rfl, .sh (emE e), ?_⟩
          rw [putKs_new hm, putXs_new hm, fsts_snoc]
          unfold fstsS
          rw [if_neg hm, List.map_append (f := emE), List.map_append (f := Prod.snd)]
          rfl
      · rintro r f' ⟨rfl, c, rfl⟩
        exact q
/-! _law_under -/
abbrev s__law_under : Stmt := topS 49
theorem sc__law_under : FnScope ["_law_path", "_law_other"] ["_law_path", "_law_other"] (defScope s__law_under) := ⟨rfl, rfl, rfl, by decide +kernel, rfl, by decide +kernel, by decide +kernel⟩
def Sp__law_under : DSp := fun _ ds f Q => ∃ p o : Str, ds = [.str p, .str o] ∧ p.length ≤ 100000 ∧ Q (.bool (cov p o)) f
set_option maxHeartbeats 2000000 in
theorem ok__law_under (d : Df K mg "_law_under" s__law_under) : Cal P w K mg base 1 "_law_under" ["_law_path", "_law_other"] Sp__law_under := by
  obtain ⟨f, fd, F, m⟩ := d
  refine ⟨f, fd, dfn (k := 0) (S := Sp__law_under) F sc__law_under ?len (fun cdv A outer s H E hr => (dss_one (ds_ret (de_or (de_eq hr.units (de_v 1) (de_v 0)) (de_one (de_starts (de_v 1) (de_add (de_v 0) de_str))))))) ?h, F.kp, F.binds fun _ _ _ _ _ _ us hl => match us, hl with | [_, _], _ => rfl, m⟩
  case len =>
    intro g ds n Q h; obtain ⟨_, _, rfl, _⟩ := h; rfl
  case h =>
    intro g ds n Q h
    obtain ⟨p, o, rfl, hl, q⟩ := h
    unfold cov at q
    show if decide (o = p) = true then Q (.bool true) n else _
    cases e : decide (o = p) with
    | true => rw [e] at q; exact q
    | false =>
      rw [e] at q
      refine iteF ⟨trivial, ?_, q⟩
      exact Nat.le_trans (Nat.add_le_add_right hl 1) (by decide)
/-! _law_home -/
abbrev s__law_home : Stmt := topS 51
theorem sc__law_home : FnScope ["_law_paths", "_law_module", "_law_path"] ["_law_paths", "_law_module"] (defScope s__law_home) := ⟨rfl, rfl, rfl, by decide +kernel, rfl, by decide +kernel, by decide +kernel⟩
def Sp__law_home : DSp := fun _ ds f Q => ∃ (ps : List Str) (x : Str), ds = [.tup (ps.map D.str), .str x] ∧ (∀ p ∈ ps, p.length ≤ 100000) ∧ Q (oD (homeO ps x)) f
set_option maxHeartbeats 2000000 in
theorem ok__law_home (d : Df K mg "_law_home" s__law_home) (c__law_under : Cal P w K mg base 1 "_law_under" ["_law_path", "_law_other"] Sp__law_under) : Cal P w K mg base 2 "_law_home" ["_law_paths", "_law_module"] Sp__law_home := by
  obtain ⟨f, fd, F, m⟩ := d
  refine ⟨f, fd, dfn (k := 1) (S := Sp__law_home) F sc__law_home ?len (fun cdv A outer s H E hr => (dss_cons (ds_for [] PassesOwn.never (di_seq (de_v 0)) (dg_name (i := 2) sc__law_home.nd) (dss_one (ds_if (dp_val (de_callC c__law_under (hr.mono (by decide)) (da_cons (de_v 2) (da_cons (de_v 1) da_nil)))) (dss_one (ds_ret (de_v 2))) dss_nil)))
      (dss_one (ds_ret de_non)))) ?h, F.kp, F.binds fun _ _ _ _ _ _ us hl => match us, hl with | [_, _], _ => rfl, m⟩
  case len =>
    intro g ds n Q h; obtain ⟨_, _, rfl, _⟩ := h; rfl
  case h =>
    intro g ds n Q h
    obtain ⟨ps, x, rfl, hl, q⟩ := h
    have main : ∀ (ps : List Str) (r : Sg), (∀ p ∈ ps, p.length ≤ 100000) → r.length = 3 → r[1]? = some (.sh (.str x)) → Q (oD (homeO ps x)) n →
        dForGo g (tgN 2) (sIf (dTest (dCall Sp__law_under (dCons (dVar 2) (dCons (dVar 1) dNil)))) (sRet (dVar 2)) sNext) { nx := fun r' f' => sRet (dC .none) g r' f' { nx := fun _ n => Q .none n, rt := Q }, rt := Q } (ps.map D.str) r n := by
      intro ps
      induction ps with
      | nil => intro r _ _ _ h; exact h
      | cons p ps ih =>
        intro r hl h3 h1 h
        obtain ⟨a, b, c, rfl⟩ : ∃ a b c, r = [a, b, c] := by
          match r, h3 with
          | [a, b, c], _ => exact ⟨a, b, c, rfl⟩
        cases h1
        refine ⟨p, x, rfl, hl p (by simp), ?_⟩
        unfold homeO at h
        rw [List.find?_cons] at h
        cases e : cov p x with
        | true => rw [e] at h; exact h
        | false =>
          rw [e] at h
          exact ih [a, .sh (.str x), .sh (.str p)] (fun p hp => hl p (by simp [hp])) rfl rfl h
    exact main ps _ hl rfl rfl q
/-! _law_ring_breaks -/
abbrev s__law_ring_breaks : Stmt := topS 61
theorem sc__law_ring_breaks : FnScope ["_law_paths", "_law_uses_here", "_law_steps", "_law_found", "_law_use", "_law_begin", "_law_step", "_law_rows_here", "_law_done", "_law_turn", "_law_best", "_law_path"] ["_law_paths", "_law_uses_here"] (defScope s__law_ring_breaks) := ⟨rfl, rfl, rfl, by decide +kernel, rfl, by decide +kernel, by decide +kernel⟩
theorem look_B {e : WE} : ∀ {B : List WE}, (B.map Prod.snd).Nodup → e ∈ B → lookD ((B.map Prod.snd).map Sum.inr) (B.map emE) (.inr e.2) = some (emE e)
  | [], _, h => by cases h
  | x :: B, hn, h => by
    have hn := List.nodup_cons.mp hn
    by_cases e2 : x.2 = e.2
    · have ex : x = e := (List.mem_cons.mp h).elim Eq.symm fun h2 => absurd (List.mem_map_of_mem (f := Prod.snd) h2) (by rw [← e2]; exact hn.1)
      subst ex
      simp [lookD]
    · have := look_B (e := e) hn.2 ((List.mem_cons.mp h).resolve_left fun z => e2 (by rw [z]))
      simpa [lookD, e2] using this
theorem lkGoJ {α : Type} (kf : α → Str) (y : α → D) {g : Option Dk} {s : Nat} {e : LkIJ → DT} {a : Addr} {ks : List Key} {xs : List D} {r : Sg} {Q : List D → Nat → Prop} : ∀ (l : List α) (acc : List D) (f : Nat),
    (∀ x ∈ l, ∀ (f : Nat) (Q : QD), Q (y x) f → e ⟨a, ks, xs, kf x⟩ g (setsR r [(s, .str (kf x))]) f Q) → (∀ x ∈ l, (y x).noM = true) → noMA acc = true → Q (acc ++ l.map y) f → dLkGoJ g s (fun _ => dYes) e a ks xs r (l.map kf) acc f Q
  | [], acc, f, _, _, ha, q => by
    rw [List.map_nil, List.append_nil] at q
    exact ⟨ha, q⟩
  | x :: l, acc, f, he, hn, ha, q => by
    refine he x (by simp) f _ ?_
    refine lkGoJ kf y l _ f (fun z hz => he z (by simp [hz])) (fun z hz => hn z (by simp [hz])) (noMA_app ha ?_) ?_
    · show ((y x).noM && true) = true
      rw [hn x (by simp)]
      rfl
    · rw [List.map_cons] at q
      rw [List.append_assoc]
      exact q
theorem emEs_noM : ∀ B : List WE, noMA (B.map emE) = true
  | [] => rfl
  | e :: B => by
    show ((emE e).noM && noMA (B.map emE)) = true
    rw [emE_noM, emEs_noM B]
    rfl
theorem shp_oD2 {a b : Option Str} (ha : ∀ s, a = some s → asc s) (hb : ∀ s, b = some s → asc s) : SeqAt.shaped (.tuple (pyA [oD a, oD b])) = true := by
  cases a with
  | none =>
    cases b with
    | none => rfl
    | some y =>
      unfold SeqAt.shaped
      show ((true && (PyData.strOk y && true)) && _) = true
      rw [asc_ok (hb y rfl)]
      rfl
  | some x =>
    cases b with
    | none =>
      unfold SeqAt.shaped
      show ((PyData.strOk x && (true && true)) && _) = true
      rw [asc_ok (ha x rfl)]
      rfl
    | some y => exact shaped_pair (u := (x, y)) ⟨ha x rfl, hb y rfl⟩
def Sp__law_ring_breaks : DSp := fun _ ds f Q => ∃ (ps : List Str) (us : List Us), ds = [tps ps, .lst (us.map pairD)] ∧ ps.length ≤ 6 ∧ (∀ p ∈ ps, asc p ∧ p.length ≤ 1000) ∧ us.length ≤ 200 ∧ (∀ u ∈ us, ascU u) ∧ Q (.lst ((rngB (sortU us) ps).map tpU)) f
set_option maxHeartbeats 2000000 in
theorem ok__law_ring_breaks (d : Df K mg "_law_ring_breaks" s__law_ring_breaks) (m_range : mg "range" = none) (m_len : mg "len" = none) (m_sorted : mg "sorted" = none) (c__law_ring_rows : Cal P w K mg base 1 "_law_ring_rows" ["_law_steps", "_law_rows_here"] Sp__law_ring_rows) (c__law_home : Cal P w K mg base 2 "_law_home" ["_law_paths", "_law_module"] Sp__law_home) : Cal P w K mg base 3 "_law_ring_breaks" ["_law_paths", "_law_uses_here"] Sp__law_ring_breaks := by
  obtain ⟨f, fd, F, m⟩ := d
  refine ⟨f, fd, dfn (k := 2) (S := Sp__law_ring_breaks) F sc__law_ring_breaks ?len (fun cdv A outer s H E hr => (dss_cons (ds_parTS (i := 2) (j := 3) sc__law_ring_breaks.nd (dl_lst da_nil).e)
      (dss_cons (ds_for [] PassesOwn.never (di_seq (de_sorted hr m_sorted (da_cons (de_v 1) da_nil))) (dg_name (i := 4) sc__law_ring_breaks.nd) (dss_cons (ds_set false (i := 6) sc__law_ring_breaks.nd (de_tup (da_cons (de_callC c__law_home (hr.mono (by decide)) (da_cons (de_v 0) (da_cons (de_ix (de_v 4) de_int) da_nil))) (da_cons (de_callC c__law_home (hr.mono (by decide)) (da_cons (de_v 0) (da_cons (de_ix (de_v 4) de_int) da_nil))) da_nil))))
      (dss_one (ds_if (DW.p (dw_and (dp_notIn hr de_non (de_v 6)) (dw_and (dp_ne hr.units (de_ix (de_v 6) de_int) (de_ix (de_v 6) de_int)) (dw_and1 (dp_dnotInT hr (de_v 6) (de_v 2)))))) (dss_one (ds_setKeyT false hr (i := 2) (de_v 6) (de_v 4))) dss_nil))))
      (dss_cons (ds_frz [2] (ds_for [] PassesOwn.never (di_seq (de_v 0)) (dg_name (i := 5) sc__law_ring_breaks.nd) (dss_cons (ds_par false (i := 7) (j := 8) sc__law_ring_breaks.nd (dl_lst (da_cons (de_tup (da_cons (de_tup da_nil) (da_cons (de_v 5) da_nil))) da_nil)).e (dl_lst da_nil).e)
      (dss_cons (ds_for [] PassesOwn.never (di_range1 m_range (da_cons (de_len m_len (da_cons (de_v 0) da_nil)) da_nil)) (dg_name (i := 9) sc__law_ring_breaks.nd) (dss_cons (ds_set false (i := 10) sc__law_ring_breaks.nd (de_callC c__law_ring_rows (hr.mono (by decide)) (da_cons (de_v 2) (da_cons (de_v 7) da_nil))))
      (dss_cons (ds_if (DW.p (dw_and (dp_din hr (de_v 5) (de_v 10)) (dw_and1 (dp_eqE hr.units (de_v 8) (dl_lst da_nil).e)))) (dss_one (ds_set false (i := 8) sc__law_ring_breaks.nd (dl_lst (da_cons (de_ix (de_dget hr (de_v 10) (de_v 5)) de_int) da_nil)).e)) dss_nil)
      (dss_one (ds_setLcLkJ (j := 7) (i := 10) (s := 11) (own := [("_law_path", 11)]) sc__law_ring_breaks.nd (blkOk_by (own := [("_law_path", 11)]) (N := ["_law_paths", "_law_uses_here", "_law_steps", "_law_found", "_law_use", "_law_begin", "_law_step", "_law_rows_here", "_law_done", "_law_turn", "_law_best", "_law_path"]) (sc := defScope s__law_ring_breaks) (by decide +kernel)) (fun _ _ _ _ _ => dg_name (i := 11) sc__law_ring_breaks.nd) (fun _ _ _ _ _ => dtk_nilJ) (fun _ _ _ _ _ => (dek_kgetJ hr (de_v 10) (de_v 11))) (fun _ _ _ h => snd_set (m := false) (i := 7) h.e))))))
      (dss_one (ds_set false (i := 3) sc__law_ring_breaks.nd (de_add (de_v 3) (de_v 8))))))))
      (dss_one (ds_ret (de_v 3))))))) ?h, F.kp, F.binds fun _ _ _ _ _ _ us hl => match us, hl with | [_, _], _ => rfl, m⟩
  case len =>
    intro g ds n Q h; obtain ⟨_, _, rfl, _⟩ := h; rfl
  case h =>
    intro g ds n Q h
    obtain ⟨ps, us, rfl, hpl, ha, hl, hua, q⟩ := h
    have T : ∀ p ∈ ps, p.length ≤ 100000 := fun p hp => Nat.le_trans (ha p hp).2 (by decide)
    have A : ∀ m s, homeO ps m = some s → asc s := fun m s e => (ha s (homeO_mem e).1).1
    have hsl : (sortU us).length ≤ 200 := by rw [sortU_len]; exact hl
    refine ⟨show 0 ≤ lim by decide, ?_⟩
    refine ⟨sorts_pairs (Nat.le_trans hl (by decide)) hua, ?_⟩
    rw [sortD_pairs]
    refine dFor_list pairD (fun done rest r f => f = n ∧ ∃ (ks : List (Str × Str)) (c4 c5 c6 c7 c8 c9 c10 c11 : Sl), r = [.sh (tps ps), .sh (.lst (us.map pairD)), .ot (ks.map kPair) (ks.map fun p => pairD (stU done ps p)), .sh (.lst []), c4, c5, c6, c7, c8, c9, c10, c11] ∧ ks.Nodup ∧ ks.length ≤ done.length ∧ ∀ p, p ∈ ks ↔ IsSt done ps p) (sortU us) _ _ ?_ ?_ ⟨rfl, [], _, _, _, _, _, _, _, _, rfl, by simp, Nat.le_refl _, fun p => ⟨fun h => (nomatch h), fun ⟨_, u, hu, _⟩ => (nomatch hu)⟩⟩
    · rintro done u rest r f N hu ⟨rfl, ks, c4, c5, c6, c7, c8, c9, c10, c11, rfl, hn, hkl, hk⟩ hN
      have hdl : done.length ≤ 200 := by have := congrArg List.length hu; rw [List.length_append] at this; omega
      refine ⟨_, rfl, _, atI0, ps, u.1, rfl, T, _, atI_nat (j := 1) rfl, ps, u.2, rfl, T, show 2 ≤ lim by decide, ?_⟩
      have next : ¬ (∃ p : Str × Str, p.1 ≠ p.2 ∧ homeO ps u.1 = some p.1 ∧ homeO ps u.2 = some p.2 ∧ p ∉ ks) → N [.sh (tps ps), .sh (.lst (us.map pairD)), .ot (ks.map kPair) (ks.map fun p => pairD (stU done ps p)), .sh (.lst []), .sh (pairD u), c5, .sh (.tup [oD (homeO ps u.1), oD (homeO ps u.2)]), c7, c8, c9, c10, c11] f := fun hno => by
        refine hN _ _ ⟨rfl, ks, .sh (pairD u), c5, .sh (.tup [oD (homeO ps u.1), oD (homeO ps u.2)]), c7, c8, c9, c10, c11, ?_, hn, Nat.le_trans hkl (by rw [List.length_append]; omega), fun p => ?_⟩
        · have : (ks.map fun p => pairD (stU (done ++ [u]) ps p)) = ks.map fun p => pairD (stU done ps p) := List.map_congr_left fun p hp => by rw [stU_old ((hk p).mp hp)]
          rw [this]
        · rw [IsSt.snoc, ← hk p]
          refine ⟨.inl, fun h => h.elim id fun ⟨h1, h2, h3⟩ => ?_⟩
          by_cases hm : p ∈ ks
          · exact hm
          · exact absurd ⟨p, h1, h2, h3, hm⟩ hno
      refine ⟨rfl, shp_oD2 (A _) (A _), ?_⟩
      cases e1 : homeO ps u.1 with
      | none =>
        have := next (fun ⟨p, _, h, _⟩ => by rw [e1] at h; cases h)
        rw [e1] at this
        exact this
      | some x =>
        cases e2 : homeO ps u.2 with
        | none =>
          have := next (fun ⟨p, _, _, h, _⟩ => by rw [e2] at h; cases h)
          rw [e1, e2] at this
          exact this
        | some y =>
          rw [e1, e2] at next
          show Exists _
          refine ⟨_, atI0, _, atI_nat (j := 1) rfl, ?_⟩
          show if (!decide (x = y)) = true then _ else _
          by_cases hxy : x = y
          · rw [decide_eq_true hxy]
            exact next (fun ⟨p, h1, h2, h3, _⟩ => h1 (by cases h2; cases h3; exact hxy))
          rw [decide_eq_false hxy]
          refine iteT ⟨kPair (x, y), rfl, ?_⟩
          show if (!decide (kPair (x, y) ∈ ks.map kPair)) = true then _ else _
          by_cases hin : (x, y) ∈ ks
          · rw [decide_eq_true (kPair_mem.mpr hin)]
            exact next (fun ⟨p, h1, h2, h3, h4⟩ => h4 (by obtain ⟨a, b⟩ := p; cases h2; cases h3; exact hin))
          have nk : kPair (x, y) ∉ ks.map kPair := fun z => hin (kPair_mem.mp z)
          rw [decide_eq_false nk]
          refine iteT ⟨_, _, rfl, kPair (x, y), rfl, by rw [List.length_map]; exact L1 (by omega), ?_⟩
          have e3 : putTs (ks.map kPair) (kPair (x, y)) = (ks ++ [(x, y)]).map kPair := by unfold putTs; rw [if_neg nk, List.map_append]; rfl
          have e4 : putTx (ks.map kPair) (ks.map fun p => pairD (stU done ps p)) (kPair (x, y)) (pairD u) = (ks ++ [(x, y)]).map fun p => pairD (stU (done ++ [u]) ps p) := by
            unfold putTx
            rw [if_neg nk, List.map_append]
            congr 1
            · exact List.map_congr_left fun p hp => by rw [stU_old ((hk p).mp hp)]
            · show [pairD u] = [pairD (stU (done ++ [u]) ps (x, y))]
              rw [stU_new (fun z => hin ((hk _).mpr z)) hxy ⟨e1, e2⟩]
          have ap : ∀ z, z ∈ ks ++ [(x, y)] ↔ z ∈ ks ∨ z = (x, y) := fun z => by rw [List.mem_append, List.mem_singleton]
          refine hN [.sh (tps ps), .sh (.lst (us.map pairD)), .ot (putTs (ks.map kPair) (kPair (x, y))) (putTx (ks.map kPair) (ks.map fun p => pairD (stU done ps p)) (kPair (x, y)) (pairD u)), .sh (.lst []), .sh (pairD u), c5, .sh (.tup [.str x, .str y]), c7, c8, c9, c10, c11] f ⟨rfl, ks ++ [(x, y)], .sh (pairD u), c5, .sh (.tup [.str x, .str y]), c7, c8, c9, c10, c11, by rw [e3, e4], ?_, ?_, fun p => ?_⟩
          · rw [List.nodup_append]
            exact ⟨hn, by simp, fun a ha b hb e => hin (by rw [← List.mem_singleton.mp hb, ← e]; exact ha)⟩
          · rw [List.length_append, List.length_append]; exact Nat.add_le_add_right hkl 1
          · rw [ap, IsSt.snoc, ← hk p]
            refine or_congr Iff.rfl ⟨fun h => by rw [h]; exact ⟨hxy, e1, e2⟩, fun ⟨_, h2, h3⟩ => ?_⟩
            rw [e1] at h2
            rw [e2] at h3
            cases h2; cases h3; rfl
    · rintro r f ⟨rfl, ks, c4, c5, c6, c7, c8, c9, c10, c11, rfl, hn, hkl, hk⟩
      have hsr := sortU_sorted us
      have hsa : ∀ u ∈ sortU us, ascU u := fun u h => hua u (mem_sortU.mp h)
      have hS : Steps (sortU us) ps ks := ⟨by omega, fun k hk1 => by
        have S := (hk k).mp hk1
        obtain ⟨s1, s2, s3⟩ := S.st
        exact ⟨A _ _ s2, A _ _ s3, hsa _ s1⟩⟩
      have rl : ∀ (s : Str) (i : Nat) (rows : List WE), s ∈ ps → i ≤ 10 → RW (sortU us) ps s i rows → rows.length ≤ 6 ∧ (∀ e ∈ rows, (∀ u ∈ e.1, ascU u) ∧ asc e.2 ∧ e.1.length ≤ 100) := fun s i rows hs hi R => ⟨Nat.le_trans (R.lens hs) hpl, fun e he => by
        have L := R.is e he
        exact ⟨fun u hu => hsa u (L.is.sub u hu), (ha _ (L.is.mem hs)).1, by rw [L.len]; omega⟩⟩
      have fl : ∀ l : List Str, (l.filterMap fun p => frst leU (Cyc (sortU us) ps p)).length ≤ l.length := fun l => List.length_filterMap_le _ _
      refine dFor_list D.str (fun done rest r f' => f' = f ∧ ∃ c4 c5 c6 c7 c8 c9 c10 c11 : Sl, r = [.sh (tps ps), .sh (.lst (us.map pairD)), .sh (stD ks (sortU us) ps), .sh (.lst ((done.filterMap fun p => frst leU (Cyc (sortU us) ps p)).map tpU)), c4, c5, c6, c7, c8, c9, c10, c11]) ps _ _ ?_ ?_ ⟨rfl, _, _, _, _, _, _, _, _, rfl⟩
      · rintro done s rest r f' N hx ⟨rfl, c4, c5, c6, c7, c8, c9, c10, c11, rfl⟩ hN
        have hs : s ∈ ps := by rw [hx]; simp
        have hdl : done.length ≤ 6 := by
          have := congrArg List.length hx
          rw [List.length_append, List.length_cons] at this
          omega
        have fd := fl done
        refine ⟨_, rfl, show 0 ≤ lim by decide, show 2 ≤ lim by decide, show 1 ≤ lim by decide, show 0 ≤ lim by decide, ?_⟩
        have lps : (ps.map D.str).length = ps.length := List.length_map _
        refine ⟨by rw [lps]; omega, by rw [lps]; omega, ?_⟩
        rw [lps]
        refine dFor_range (fun i r f2 => f2 = f' ∧ ∃ (rows : List WE) (dn : List (List Us)) (c9 c10 c11 : Sl), r = [.sh (tps ps), .sh (.lst (us.map pairD)), .sh (stD ks (sortU us) ps), .sh (.lst ((done.filterMap fun p => frst leU (Cyc (sortU us) ps p)).map tpU)), c4, .sh (.str s), c6, .sh (.lst (rows.map emE)), .sh (.lst (dn.map tpU)), c9, c10, c11] ∧ RW (sortU us) ps s i rows ∧ Dn (sortU us) ps s i dn) 0 _ _ _ ?_ ?_ ⟨rfl, [([], s)], [], _, _, _, rfl, RW.start _ _ _, Dn.start _ _ _⟩
        · rintro i r f2 N2 hi ⟨rfl, rows, dn, c9, c10, c11, rfl, R, hD⟩ hN2
          have hi : i < ps.length := by simpa using hi
          obtain ⟨r1, r2⟩ := rl s i rows hs (by omega) R
          have R2 := R.next hsr hk
          obtain ⟨r3, r4⟩ := rl s (i + 1) _ hs (by omega) R2
          refine ⟨_, rfl, sortU us, ps, ks, rows, rfl, hS, by omega, r2, ?_⟩
          obtain ⟨B, hB⟩ : ∃ B, B = bst (sortU us) ps ks rows := ⟨_, rfl⟩
          rw [← hB] at R2 r3 r4 ⊢
          have fin : ∀ (dn' : List (List Us)) (E : DEnds), Dn (sortU us) ps s (i + 1) dn' → E.nx = N2 → sSet false 7 (dOfL (dLcLkJ 10 11 (fun _ => dYes) (dKGetJ (dVar 10) (dVar 11)) (List.map (fun x => x.snd) [(("_law_path" : Str), 11)]))) g
              [.sh (tps ps), .sh (.lst (us.map pairD)), .sh (stD ks (sortU us) ps), .sh (.lst ((done.filterMap fun p => frst leU (Cyc (sortU us) ps p)).map tpU)), c4, .sh (.str s), c6, .sh (.lst (rows.map emE)), .sh (.lst (dn'.map tpU)), .sh (.int (0 + (i : Int))), .sh (bstD B), c11] f2 E := fun dn' E h hE => by
            refine ⟨B.map Prod.snd, B.map emE, rfl, by rw [List.length_map]; exact L1 (by omega), emEs_noM B, fun a => ?_⟩
            refine lkGoJ Prod.snd emE B [] f2 (fun e he f Q q => ⟨rfl, rfl, _, look_B R2.nd he, q⟩) (fun e _ => emE_noM e) rfl ?_
            rw [List.nil_append]
            show E.nx _ _
            rw [hE]
            exact hN2 _ _ ⟨rfl, B, dn', _, _, _, rfl, R2, h⟩
          refine ⟨.inr s, rfl, ?_⟩
          show if decide ((Sum.inr s : Key) ∈ (B.map Prod.snd).map (Sum.inr : Str → Key)) = true then _ else _
          by_cases hm : s ∈ B.map Prod.snd
          · rw [decide_eq_true (mem_inr.mpr hm)]
            obtain ⟨e, he, es⟩ := List.mem_map.mp hm
            have L := R2.is e he
            rw [es] at L
            refine iteT ⟨Nat.zero_le _, _, rfl, rfl, ?_⟩
            cases dn with
            | nil =>
              refine iteT ⟨.inr s, emE e, rfl, by rw [← es]; exact look_B R2.nd he, _, atI0, show 1 ≤ lim by decide, ?_⟩
              exact fin [e.1] _ (hD.hit L) rfl
            | cons d ds =>
              refine iteF (nxt (g := g) ?_)
              exact fin (d :: ds) _ (hD.keep (by simp)) rfl
          · rw [decide_eq_false fun z => hm (mem_inr.mp z)]
            cases dn with
            | nil => exact fin [] _ (hD.miss R2 hm) rfl
            | cons d ds => exact fin (d :: ds) _ (hD.keep (by simp)) rfl
        · rintro r f2 ⟨rfl, rows, dn, c9, c10, c11, rfl, R, hD⟩
          rw [Int.toNat_natCast] at hD
          have ed := hD.end hs
          have l1 : dn.length ≤ 1 := by
            rw [ed]
            cases frst leU (Cyc (sortU us) ps s) <;> simp
          refine ⟨by rw [List.length_map, List.length_map]; exact L1 (by omega), ?_⟩
          refine hN _ _ ⟨rfl, c4, .sh (.str s), c6, .sh (.lst (rows.map emE)), .sh (.lst (dn.map tpU)), c9, c10, c11, ?_⟩
          have e1 : ([s].filterMap fun p => frst leU (Cyc (sortU us) ps p)) = dn := by
            rw [ed]
            cases h : frst leU (Cyc (sortU us) ps s) with
            | none => simp [List.filterMap_cons, h]
            | some v => simp [List.filterMap_cons, h]
          rw [List.filterMap_append, e1, List.map_append]
          rfl
      · rintro r f' ⟨rfl, c4, c5, c6, c7, c8, c9, c10, c11, rfl⟩
        exact q
/-! values that may be shown -/
def D.txt : D → Str
  | .str s => s
  | _ => ""
theorem txt_strs (vs : List Str) : (vs.map D.str).map D.txt = vs := by
  rw [List.map_map]
  exact List.map_id _
abbrev s__law_pull : Stmt := topS 45
theorem sc__law_pull : FnScope ["_law_reel_here", "_law_many", "_law_rest", "_law_turn", "_law_mixed_here"] ["_law_reel_here", "_law_many"] (defScope s__law_pull) := ⟨rfl, rfl, rfl, by decide +kernel, rfl, by decide +kernel, by decide +kernel⟩
def Sp__law_pull : DSp := fun g ds f Q => ∃ (k : Dk) (m : Int) (f' : Nat), g = some k ∧ ds = [.any (.ref k.a), .int m] ∧ 0 < m ∧ m < 1000000000 ∧ f = f' + 1 ∧ ∀ r : Int, 0 ≤ r → r < m → Q (.int r) f'
theorem ok__law_pull (d : Df K mg "_law_pull" s__law_pull) (m_len : mg "len" = none) (m_int : mg "int" = none) : Cal P w K mg base 1 "_law_pull" ["_law_reel_here", "_law_many"] Sp__law_pull := by
  obtain ⟨f, fd, F, mm⟩ := d
  refine ⟨f, fd, ?_, F.kp, F.binds fun _ _ _ _ _ _ us hl => match us, hl with | [_, _], _ => rfl, mm⟩
  refine F.ok sc__law_pull (fun vs H Q E h => ?_) (fun cdv A outer s H vs Q E hr h => ?_)
  · obtain ⟨g, Hs, ds, n, Q', h1, h2, h3, ⟨k', m, f', e1, e2, _⟩, h5⟩ := h
    subst e2
    rw [← h3.length]
    rfl
  · obtain ⟨g, Hs, ds, n, Q', h1, h2, h3, ⟨k', m, f', e1, e2, m0, m1, e3, h4⟩, h5⟩ := h
    subst e1 e2 e3
    obtain ⟨v1, v2, rfl, r1, r2⟩ := rpA2 h3
    cases r1
    cases r2
    have dk0 := h2
    obtain ⟨⟨nab, nac, nbc, n, xs, ys, ha, hb, hc, px, py, py0, n0, nf⟩, na, nb, nc, tb⟩ := h2
    refine ⟨_, pss_cons (ps_while PassesOwn.never (pt_cmpR (op_neD hr.units) (pe_ix ix_list (pv 0) pe_int (fun _ _ => rfl)) (pe_lst pa_nil) (nomark _))
        (pss_cons (ps_set (i := 2) sc__law_pull.nd rfl (.inl rfl) (pe_ix ix_list (pe_ix ix_list (pv 0) pe_int (fun _ _ => rfl)) pe_int (fun _ _ => rfl)))
        (pss_cons (ps_if (pt_cmpR op_gt (pv 2) pe_int (nomark _))
          (pss_cons (ps_asg (pe_op op_fdivW (pv 2) (pv 1)) (pg_sub (pe_ix ix_list (pv 0) pe_int (fun _ _ => rfl)) pe_int set_list))
          (pss_one (ps_ret (pe_op op_mod (pe_callTy call_int1 (by rfl) m_int PyProof.Rows.boot_int (pa_cons (pv 2) pa_nil)) (pv 1))))) pss_nil)
        (pss_one (ps_expr (pe_bm PySem.F.plainAttrs_list PySem.F.slot_list_pop PySem.F.type_list_pop mt_popAt (pe_ix ix_list (pv 0) pe_int (fun _ _ => rfl)) (pa_cons pe_int pa_nil)))))))
      (pss_cons (ps_asg (pe_op op_add (pe_ix ix_list (pv 0) pe_int (fun _ _ => rfl)) pe_int) (pg_sub (pv 0) pe_int set_list))
      (pss_cons (ps_set (i := 3) sc__law_pull.nd rfl (.inl rfl) (pe_ix ix_list (pv 0) pe_int (fun _ _ => rfl)))
      (pss_cons (ps_set (i := 4) sc__law_pull.nd rfl (.inl rfl) (pe_op op_mod (pe_callTy call_int1 (by rfl) m_int PyProof.Rows.boot_int (pa_cons (pe_ix ix_list (pe_ix ix_list (pv 0) pe_int (fun _ _ => rfl))
          (pe_op op_mod (pe_callTy call_int1 (by rfl) m_int PyProof.Rows.boot_int (pa_cons (pv 3) pa_nil)) (pe_callB call_len_seq (by rfl) m_len PySem.boot_len (pa_cons (pe_ix ix_list (pv 0) pe_int (fun _ _ => rfl)) pa_nil))) (fun _ _ => rfl)) pa_nil)) pe_int))
      (pss_cons (ps_set (i := 4) sc__law_pull.nd rfl (.inl rfl) (pe_op op_add (pe_op op_add (pe_op op_mul (pv 4) (pe_op op_add pe_int (pe_op op_mul pe_int (pv 3)))) (pe_op op_mul (pe_op op_mul pe_int (pv 3)) (pv 3))) pe_int))
      (pss_cons (ps_set (i := 4) sc__law_pull.nd rfl (.inl rfl) (pe_op op_add (pe_op op_mod (pe_callTy call_int1 (by rfl) m_int PyProof.Rows.boot_int (pa_cons (pe_op op_mulW (pv 4) (pv 4)) pa_nil)) pe_int) (pe_op op_mul pe_int (pv 3))))
      (pss_one (ps_ret (pe_op op_mod (pe_op op_fdiv (pe_op op_mod (pe_callTy call_int1 (by rfl) m_int PyProof.Rows.boot_int (pa_cons (pe_op op_mulW (pv 4) (pv 4)) pa_nil)) pe_int) pe_int) (pv 1))))))))), ?_⟩
    -- what stays: nothing but the deck's three lists changes
    have fin : ∀ (H3 : Hp) (n3 : Int) (x3 : List Int) (f3 : Nat) (d : D) (v : V), H3 k'.a = some (.lst [.ref k'.b, .ref k'.c, .int n3]) → H3 k'.b = some (.lst (x3.map V.int)) → H3 k'.c = some (.lst (ys.map V.int)) → (∀ x ∈ x3, (0 : Int) ≤ x) → 0 ≤ n3 → n3 + (f3 : Int) ≤ 1000000000000 →
        (∀ b o, b ≠ k'.a → b ≠ k'.b → H b = some o → H3 b = some o) → Rp K Hs d v → Q' d f3 → Q v H3 := by
      intro H3 n3 x3 f3 d v g1 g2 g3 g4 g5 g6 g7 g8 g9
      refine h5 d f3 v H3 Hs ⟨fun b o e => ?_, Same.refl _, fun b o e n => ?_, fun b o e => ?_, fun _ _ _ h => h⟩ ⟨⟨nab, nac, nbc, n3, x3, ys, g1, g2, g3, g4, py, py0, g5, g6⟩, na, nb, nc, tb.to (fun x hx u e1 e2 => ⟨g7 x u (tb.neL hx ha) (tb.neL hx hb) e1, e2⟩) fun _ _ e _ _ => e⟩ g8 g9
      · refine g7 b o (fun z => ?_) (fun z => ?_) (h1 b o e)
        · subst z; rw [na] at e; cases e
        · subst z; rw [nb] at e; cases e
      · exact g7 b o (fun z => n (.inl z)) (fun z => n (.inr (.inl z))) e
      · by_cases z : b = k'.a
        · exact ⟨_, z ▸ g1⟩
        · by_cases z' : b = k'.b
          · exact ⟨_, z' ▸ g2⟩
          · exact ⟨o, g7 b o z z' e⟩
    -- the while
    refine ⟨fun mm st H2 => ∃ y2 zs, mm = zs.length ∧ st = [some (.ref k'.a), some (.int m), y2, none, none] ∧ (∀ x ∈ zs, (0 : Int) ≤ x) ∧ H2 k'.a = some (.lst [.ref k'.b, .ref k'.c, .int n]) ∧ H2 k'.b = some (.lst (zs.map V.int)) ∧ H2 k'.c = some (.lst (ys.map V.int)) ∧ ∀ b o, b ≠ k'.a → b ≠ k'.b → H b = some o → H2 b = some o,
      ⟨xs.length, none, xs, rfl, rfl, px, ha, hb, hc, fun _ _ _ _ h => h⟩, ?_⟩
    rintro mm st H2 ⟨y2, zs, rfl, rfl, pz, ea, eb, ec, kp⟩
    refine ⟨.ref k'.a, rfl, k'.a, _, 0, _, rfl, rfl, SqL.of ea, atI0, Nat.zero_le _, fun p hp => ?_⟩
    have epb : k'.b ≠ p := ne_of_none eb hp
    have epa : k'.a ≠ p := ne_of_none ea hp
    have epc : k'.c ≠ p := ne_of_none ec hp
    refine ⟨.list (zs.map PyData.int), .list (([] : List Int).map PyData.int), dp_ints (by rw [upd_ne epb]; exact eb), dp_ints (l := []) upd_same, shaped_ints _, shaped_ints [], ?_⟩
    have ea' : upd H2 p (.lst []) k'.a = some (.lst [.ref k'.b, .ref k'.c, .int n]) := by rw [upd_ne epa]; exact ea
    have eb' : upd H2 p (.lst []) k'.b = some (.lst (zs.map V.int)) := by rw [upd_ne epb]; exact eb
    have ec' : upd H2 p (.lst []) k'.c = some (.lst (ys.map V.int)) := by rw [upd_ne epc]; exact ec
    have kp' : ∀ b o, b ≠ k'.a → b ≠ k'.b → H b = some o → upd H2 p (.lst []) b = some o := fun b o e1 e2 e => by
      have q := kp b o e1 e2 e
      rw [upd_ne (ne_of_none q hp)]
      exact q
    generalize upd H2 p (.lst []) = H3 at ea' eb' ec' kp' ⊢
    cases zs with
    | nil =>
      refine ⟨false, rfl, ?_⟩
      refine iteF ?_
      refine ⟨.ref k'.a, rfl, k'.a, _, 2, _, rfl, rfl, SqL.of ea', rfl, n, 1, rfl, rfl, .ref k'.a, rfl, k'.a, _, 2, 2, rfl, rfl, ea', rfl, ?_⟩
      generalize hH4 : upd H3 k'.a (.lst ([V.ref k'.b, V.ref k'.c, V.int n].set 2 (V.int (n + 1)))) = H4
      have fa : H4 k'.a = some (.lst [.ref k'.b, .ref k'.c, .int (n + 1)]) := by rw [← hH4, upd_same]; rfl
      have fb : H4 k'.b = some (.lst (([] : List Int).map V.int)) := by rw [← hH4, upd_ne (Ne.symm nab)]; exact eb'
      have fc : H4 k'.c = some (.lst (ys.map V.int)) := by rw [← hH4, upd_ne (Ne.symm nac)]; exact ec'
      have keep : ∀ b o, b ≠ k'.a → b ≠ k'.b → H b = some o → H4 b = some o := fun b o e1 e2 e => by
        rw [← hH4, upd_ne e1]
        exact kp' b o e1 e2 e
      -- turn
      refine ⟨.ref k'.a, rfl, k'.a, _, 2, _, rfl, rfl, SqL.of fa, rfl, ?_⟩
      have hz : (0 : Int) ≤ (n + 1) % (ys.length : Int) ∧ (n + 1) % (ys.length : Int) < ys.length := ⟨Int.emod_nonneg _ (by omega), Int.emod_lt_of_pos _ (by omega)⟩
      have hj : ((n + 1) % (ys.length : Int)).toNat < ys.length := by omega
      -- number
      refine ⟨.ref k'.a, rfl, k'.a, _, 1, _, rfl, rfl, SqL.of fa, rfl, .int (n + 1), rfl, .inl ⟨n + 1, rfl, ?_⟩⟩
      refine ⟨.ref k'.a, rfl, k'.a, _, 1, _, rfl, rfl, SqL.of fa, rfl, k'.c, ys.map V.int, rfl, .inl (SqL.of fc), n + 1, _, rfl, rfl, ?_, ?_⟩
      · rw [List.length_map]; show (0 : Int) < (ys.length : Int); omega
      refine ⟨k'.c, ys.map V.int, _, .int (ys[((n + 1) % (ys.length : Int)).toNat]'hj), rfl, rfl, SqL.of fc, ?_, .inl ⟨_, rfl, ?_⟩⟩
      · rw [List.length_map]
        have := atI_nat (xs := ys.map V.int) (j := ((n + 1) % (ys.length : Int)).toNat) (v := .int (ys[((n + 1) % (ys.length : Int)).toNat]'hj)) (by rw [List.getElem?_map, List.getElem?_eq_getElem hj]; rfl)
        rw [Int.toNat_of_nonneg hz.1] at this
        exact this
      refine ⟨_, _, rfl, rfl, by show (0 : Int) < 2147483629; decide, ?_⟩
      have num0 := Int.emod_nonneg (ys[((n + 1) % (ys.length : Int)).toNat]'hj) (show (2147483629 : Int) ≠ 0 by decide)
      have num1 := Int.lt_trans (Int.emod_lt_of_pos (ys[((n + 1) % (ys.length : Int)).toNat]'hj) (show (0 : Int) < 2147483629 by decide)) (show (2147483629 : Int) < 2147483647 by decide)
      -- mixed
      refine ⟨_, rfl, .int (n + 1), rfl, 69621, n + 1, rfl, rfl, .inl ⟨by decide, by decide⟩, 48271, _, rfl, rfl, _, _, rfl, rfl, .inl ⟨lo64 num0, hi64 num1⟩, .int (n + 1), rfl, 40692, n + 1, rfl, rfl, .inl ⟨by decide, by decide⟩, .int (n + 1), rfl, _, n + 1, rfl, rfl, .inr ⟨by omega, by omega⟩, _, _, rfl, rfl, _, 59, rfl, rfl, ?_⟩
      have b1 := pull_bd (t := n + 1) num0 num1 (by omega) (by omega)
      refine ⟨_, rfl, _, rfl, _, _, rfl, rfl, wide_mul b1 b1 (by decide) (by decide) (by decide), .inl ⟨_, rfl, _, _, rfl, rfl, by show (0 : Int) < 2305843009213693951; decide, .int (n + 1), rfl, 16807, n + 1, rfl, rfl, .inl ⟨by decide, by decide⟩, _, _, rfl, rfl, ?_⟩⟩
      generalize ((ys[((n + 1) % (ys.length : Int)).toNat]'hj) % 2147483629 * (48271 + 69621 * (n + 1)) + 40692 * (n + 1) * (n + 1) + 59) = M2
      have b2 := pull_bd2 (x := M2 * M2) (t := n + 1) (by omega) (by omega)
      refine ⟨_, rfl, _, rfl, _, _, rfl, rfl, wide_mul b2 b2 (by decide) (by decide) (by decide), .inl ⟨_, rfl, _, _, rfl, rfl, by show (0 : Int) < 2305843009213693951; decide, _, _, rfl, rfl, ⟨by decide, by decide⟩, .int m, rfl, _, m, rfl, rfl, m0, ?_⟩⟩
      exact fin H4 (n + 1) [] f' (.int _) _ fa fb fc (by simp) (by omega) (by omega) keep rfl (h4 _ (Int.emod_nonneg _ (by omega)) (Int.emod_lt_of_pos _ m0))
    | cons z zs =>
      refine ⟨true, rfl, ?_⟩
      refine iteT ?_
      have pz0 : 0 ≤ z := pz z (by simp)
      refine ⟨fun st4 H4 => ∃ y2, st4 = [some (.ref k'.a), some (.int m), y2, none, none] ∧ H4 = upd H3 k'.b (.lst (zs.map V.int)), ?_, ?_⟩
      · rintro st4 H4 ⟨y3, rfl, rfl⟩
        refine ⟨zs.length, Nat.lt_succ_self _, y3, zs, rfl, rfl, fun x hx => pz x (by simp [hx]), by rw [upd_ne nab]; exact ea', upd_same, by rw [upd_ne (Ne.symm nbc)]; exact ec', fun b o e1 e2 e => by rw [upd_ne e2]; exact kp' b o e1 e2 e⟩
      refine ⟨.ref k'.a, rfl, k'.a, _, 0, _, rfl, rfl, SqL.of ea', atI0, k'.b, _, 0, _, rfl, rfl, SqL.of eb', atI0, ?_⟩
      refine ⟨.int z, rfl, z, 0, rfl, rfl, _, rfl, ite2 (fun c => ?_) (fun c => ?_)⟩
      · -- a digit of a great cell
        refine ⟨.int z, rfl, .int m, rfl, z, m, rfl, rfl, wide_div (b := 40) m0 (by omega) (by decide) (by decide), ?_⟩
        refine ⟨.ref k'.a, rfl, k'.a, _, 0, _, rfl, rfl, SqL.of ea', atI0, k'.b, _, 0, 0, rfl, rfl, eb', ix0 _, ?_⟩
        refine ⟨.int z, rfl, .inl ⟨z, rfl, .int m, rfl, z, m, rfl, rfl, m0, ?_⟩⟩
        refine fin _ n ((z / m) :: zs) f' (.int _) _ (by rw [upd_ne nab]; exact ea') upd_same (by rw [upd_ne (Ne.symm nbc)]; exact ec') ?_ n0 (by omega) (fun b o e1 e2 e => by rw [upd_ne e2]; exact kp' b o e1 e2 e) rfl (h4 _ (Int.emod_nonneg _ (by omega)) (Int.emod_lt_of_pos _ m0))
        intro x hx
        rcases List.mem_cons.mp hx with e | e
        · rw [e]; exact Int.ediv_nonneg pz0 (by omega)
        · exact pz x (by simp [e])
      · refine ⟨.ref k'.a, rfl, k'.a, _, 0, _, rfl, rfl, SqL.of ea', atI0, .inl ⟨rfl, _, SqL.of eb'⟩, k'.b, _, 0, 0, _, rfl, rfl, eb', by decide, by decide, ?_, rfl, ?_⟩
        · exact (ixN_seq (ix0 _)).1
        · exact ⟨_, rfl, rfl⟩
/-! _law_mixed -/
abbrev s__law_mixed : Stmt := topS 47
theorem sc__law_mixed : FnScope ["_law_reel_here", "_law_some", "_law_rest", "_law_found", "_law_turn"] ["_law_reel_here", "_law_some"] (defScope s__law_mixed) := ⟨rfl, rfl, rfl, by decide +kernel, rfl, by decide +kernel, by decide +kernel⟩
def Sp__law_mixed : DSp := fun g ds f Q => ∃ (k : Dk) (xs : List D) (o : D), g = some k ∧ ds = [.any (.ref k.a), o] ∧ (o = .lst xs ∨ o = .tup xs) ∧ xs.length ≤ 1000 ∧ xs.length ≤ f ∧ ∀ ys f', ys.Perm xs → f ≤ f' + xs.length → Q (.lst ys) f'
theorem erase_permD {α : Type} : ∀ (l : List α) (n : Nat) (h : n < l.length), (l[n] :: l.eraseIdx n).Perm l
  | _ :: _, 0, _ => List.Perm.refl _
  | x :: l, n + 1, h => by
    have h : n < l.length := Nat.lt_of_succ_lt_succ h
    show (l[n] :: x :: l.eraseIdx n).Perm (x :: l)
    exact (List.Perm.swap x l[n] (l.eraseIdx n)).trans ((erase_permD l n h).cons x)
set_option maxHeartbeats 2000000 in
theorem ok__law_mixed (d : Df K mg "_law_mixed" s__law_mixed) (m_range : mg "range" = none) (m_len : mg "len" = none) (m_list : mg "list" = none) (c__law_pull : Cal P w K mg base 1 "_law_pull" ["_law_reel_here", "_law_many"] Sp__law_pull) : Cal P w K mg base 2 "_law_mixed" ["_law_reel_here", "_law_some"] Sp__law_mixed := by
  obtain ⟨f, fd, F, m⟩ := d
  refine ⟨f, fd, dfn (k := 1) (S := Sp__law_mixed) F sc__law_mixed ?len (fun cdv A outer s H E hr => (dss_cons (ds_parLL (i := 2) (j := 3) sc__law_mixed.nd (dl_listOf m_list (da_cons (de_v 1) da_nil)) (dl_lst da_nil))
      (dss_cons (ds_for [] PassesOwn.never (di_range1 m_range (da_cons (de_len m_len (da_cons (de_v 1) da_nil)) da_nil)) (dg_name (i := 4) sc__law_mixed.nd) (dss_one (ds_appPop (i := 3) (j := 2) (de_callC c__law_pull (hr.mono (by decide)) (da_cons (de_v 0) (da_cons (de_len m_len (da_cons (de_v 2) da_nil)) da_nil))))))
      (dss_one (ds_ret (de_v 3)))))) ?h, F.kp, F.binds fun _ _ _ _ _ _ us hl => match us, hl with | [_, _], _ => rfl, m⟩
  case len =>
    intro g ds n Q h; obtain ⟨_, _, _, _, rfl, _⟩ := h; rfl
  case h =>
    intro g ds n Q h
    obtain ⟨k, xs, o, rfl, rfl, ho, hl, hf, q⟩ := h
    rcases ho with rfl | rfl
    all_goals
      refine ⟨Nat.zero_le _, ?_⟩
      refine ⟨by omega, by omega, ?_⟩
      rw [show ((xs.length : Int)).toNat = xs.length by omega]
      refine dFor_range (fun i r f => ∃ (x : Sl) (o : D) (ys rs : List D), r = [.sh (.any (.ref k.a)), .sh o, .ow rs, .ow ys, x] ∧ (ys ++ rs).Perm xs ∧ ys.length = i ∧ n ≤ f + i) 0 xs.length _ _ ?_ ?_ ⟨_, _, [], xs, rfl, List.Perm.refl _, rfl, by omega⟩
      · rintro i r f N hi ⟨x, o, ys, rs, rfl, hp, hml, hfi⟩ hN
        have hl' := hp.length_eq
        rw [List.length_append, hml] at hl'
        obtain ⟨f5, rfl⟩ : ∃ f5, f = f5 + 1 := ⟨f - 1, by omega⟩
        refine ⟨_, rfl, _, _, rfl, rfl, by decide, ?_⟩
        refine ⟨k, (rs.length : Int), f5, rfl, rfl, by omega, by omega, rfl, fun r0 r0a r0b => ?_⟩
        have hr : r0.toNat < rs.length := by omega
        refine ⟨r0.toNat, rs[r0.toNat], by omega, List.getElem?_eq_getElem hr, L1 (by omega), L1 (by omega), ?_⟩
        refine hN _ _ ⟨_, _, ys ++ [rs[r0.toNat]], rs.eraseIdx r0.toNat, rfl, ?_, by rw [List.length_append, hml]; rfl, by omega⟩
        refine List.Perm.trans ?_ hp
        rw [List.append_assoc]
        exact List.Perm.append_left ys (erase_permD rs r0.toNat hr)
      · rintro r f ⟨x, o, ys, rs, rfl, hp, hml, hfi⟩
        have hrs : rs = [] := by
          have hl := hp.length_eq
          rw [List.length_append, hml] at hl
          exact List.eq_nil_of_length_eq_zero (by omega)
        subst hrs
        rw [List.append_nil] at hp
        exact q ys f hp (by omega)
/-! _law_meet -/
abbrev s__law_meet : Stmt := topS 50
theorem sc__law_meet : FnScope ["_law_path", "_law_other"] ["_law_path", "_law_other"] (defScope s__law_meet) := ⟨rfl, rfl, rfl, by decide +kernel, rfl, by decide +kernel, by decide +kernel⟩
def Sp__law_meet : DSp := fun _ ds f Q => ∃ p o : Str, ds = [.str p, .str o] ∧ p.length ≤ 100000 ∧ o.length ≤ 100000 ∧ Q (.bool (cov p o || cov o p)) f
set_option maxHeartbeats 2000000 in
theorem ok__law_meet (d : Df K mg "_law_meet" s__law_meet) (c__law_under : Cal P w K mg base 1 "_law_under" ["_law_path", "_law_other"] Sp__law_under) : Cal P w K mg base 2 "_law_meet" ["_law_path", "_law_other"] Sp__law_meet := by
  obtain ⟨f, fd, F, m⟩ := d
  refine ⟨f, fd, dfn (k := 1) (S := Sp__law_meet) F sc__law_meet ?len (fun cdv A outer s H E hr => (dss_one (ds_ret (de_or (de_callC c__law_under (hr.mono (by decide)) (da_cons (de_v 0) (da_cons (de_v 1) da_nil))) (de_one (de_callC c__law_under (hr.mono (by decide)) (da_cons (de_v 1) (da_cons (de_v 0) da_nil)))))))) ?h, F.kp, F.binds fun _ _ _ _ _ _ us hl => match us, hl with | [_, _], _ => rfl, m⟩
  case len =>
    intro g ds n Q h; obtain ⟨_, _, rfl, _⟩ := h; rfl
  case h =>
    intro g ds n Q h
    obtain ⟨p, o, rfl, h1, h2, q⟩ := h
    refine ⟨p, o, rfl, h1, ?_⟩
    cases e : cov p o with
    | true => rw [e] at q; exact q
    | false =>
      rw [e] at q
      exact ⟨o, p, rfl, h2, q⟩
/-! _law_alone -/
abbrev s__law_alone : Stmt := topS 53
theorem sc__law_alone : FnScope ["_law_reel_here", "_law_paths", "_law_limit", "_law_found", "_law_path", "_law_one"] ["_law_reel_here", "_law_paths", "_law_limit"] (defScope s__law_alone) := ⟨rfl, rfl, rfl, by decide +kernel, rfl, by decide +kernel, by decide +kernel⟩
def Sp__law_alone : DSp := fun g ds f Q => ∃ (k : Dk) (ps : List Str) (m : Nat), g = some k ∧ ds = [.any (.ref k.a), .lst (ps.map D.str), .int m] ∧ ps.length ≤ 100 ∧ ps.Nodup ∧ (∀ p ∈ ps, asc p ∧ p.length ≤ 1000) ∧ ps.length ≤ f ∧
  ∀ (l : List Str) f', l.length ≤ m → l.Nodup → (∀ p ∈ l, p ∈ ps) → ovlL l = false → (l.length < m → ∀ p ∈ ps, ∃ q ∈ l, ovl q p = true) → f ≤ f' + ps.length → Q (.lst (l.map D.str)) f'
theorem ovl_sym (a b : Str) : ovl a b = ovl b a := by unfold ovl; rw [Bool.or_comm]
theorem ovl_refl (m : Str) : ovl m m = true := by
  unfold ovl cov
  rw [decide_eq_true rfl]; rfl
theorem perm_map_str {ys : List D} {ps : List Str} (h : ys.Perm (ps.map D.str)) : ∃ l : List Str, ys = l.map D.str ∧ l.Perm ps := by
  refine ⟨ys.map D.txt, ?_, ?_⟩
  · rw [List.map_map]
    refine (List.map_id ys).symm.trans (List.map_congr_left fun y hy => ?_)
    obtain ⟨s, _, rfl⟩ := List.mem_map.mp (h.mem_iff.mp hy)
    rfl
  · have := h.map D.txt
    rwa [txt_strs] at this
set_option maxHeartbeats 2000000 in
theorem ok__law_alone (d : Df K mg "_law_alone" s__law_alone) (m_len : mg "len" = none) (c__law_mixed : Cal P w K mg base 2 "_law_mixed" ["_law_reel_here", "_law_some"] Sp__law_mixed) (c__law_meet : Cal P w K mg base 2 "_law_meet" ["_law_path", "_law_other"] Sp__law_meet) : Cal P w K mg base 3 "_law_alone" ["_law_reel_here", "_law_paths", "_law_limit"] Sp__law_alone := by
  obtain ⟨f, fd, F, m⟩ := d
  refine ⟨f, fd, dfn (k := 2) (S := Sp__law_alone) F sc__law_alone ?len (fun cdv A outer s H E hr => (dss_cons (ds_setL false (i := 3) sc__law_alone.nd (dl_lst da_nil))
      (dss_cons (ds_for [] PassesOwn.never (di_seq (de_callC c__law_mixed (hr.mono (by decide)) (da_cons (de_v 0) (da_cons (de_v 1) da_nil)))) (dg_name (i := 4) sc__law_alone.nd) (dss_one (ds_if (DW.p (dw_and (dp_lt (de_len m_len (da_cons (de_v 3) da_nil)) (de_v 2)) (dw_and1 (dp_eq hr.units (dl_lc (own := [("_law_one", 5)]) rfl sc__law_alone.nd (di_seq (de_v 3)) (blkOk_by (own := [("_law_one", 5)]) (N := ["_law_reel_here", "_law_paths", "_law_limit", "_law_found", "_law_path", "_law_one"]) (sc := defScope s__law_alone) (by decide +kernel)) (fun _ _ _ _ _ => dg_name (i := 5) sc__law_alone.nd) (fun _ _ _ _ _ => dts_one (dp_val (de_callC c__law_meet (hr.mono (by decide)) (da_cons (de_v 5) (da_cons (de_v 4) da_nil))))) (fun _ _ _ _ _ => (de_v 5))).e (dl_lst da_nil).e)))) (dss_one (ds_app false (i := 3) (de_v 4))) dss_nil)))
      (dss_one (ds_ret (de_v 3)))))) ?h, F.kp, F.binds fun _ _ _ _ _ _ us hl => match us, hl with | [_, _, _], _ => rfl, m⟩
  case len =>
    intro g ds n Q h; obtain ⟨_, _, _, _, rfl, _⟩ := h; rfl
  case h =>
    intro g ds n Q h
    obtain ⟨k, ps, m, rfl, rfl, hl, hnd, ha, hf, q⟩ := h
    refine ⟨Nat.zero_le _, ?_⟩
    simp only [List.set_cons_succ, List.set_cons_zero, setsR, startR, List.map_cons, List.map_nil, List.cons_append, List.nil_append, List.replicate_succ, List.replicate_zero, List.length_cons, List.length_nil, Nat.reduceAdd, Nat.reduceSub]
    refine ⟨k, ps.map D.str, _, rfl, rfl, .inl rfl, by rw [List.length_map]; omega, by rw [List.length_map]; omega, fun ys f1 hp hf1 => ?_⟩
    rw [List.length_map] at hf1
    obtain ⟨xs, rfl, hq⟩ := perm_map_str hp
    clear hp
    have hp := hq
    refine dFor_list D.str (fun done rest r f => f1 = f ∧ ∃ (l : List Str) (x y : Sl), r = [.sh (.any (.ref k.a)), .sh (.lst (ps.map D.str)), .sh (.int m), .ow (l.map D.str), x, y] ∧ l.length ≤ m ∧ l.Sublist done ∧ ovlL l = false ∧ (l.length < m → ∀ p ∈ done, ∃ q ∈ l, ovl q p = true)) xs _ _ ?_ ?_ ⟨rfl, [], _, _, rfl, Nat.zero_le _, List.Sublist.refl _, rfl, fun _ p hp => nomatch hp⟩
    · rintro done p rest r f N hx ⟨rfl, l, x, y, rfl, h1, h2, h3, h4⟩ hN
      have hpp : p ∈ ps := hp.subset (by rw [hx]; simp)
      have hlp : ∀ o ∈ l, o ∈ ps := fun o ho => hp.mem_iff.mp (by rw [hx]; exact List.mem_append_left _ (h2.subset ho))
      have hll : l.length ≤ 100 := by
        have := h2.length_le
        have e := hp.length_eq
        rw [hx, List.length_append] at e
        omega
      refine ⟨_, rfl, ?_⟩
      show if decide (((l.map D.str).length : Int) < (m : Int)) = true then _ else _
      rw [List.length_map]
      by_cases hm : l.length < m
      · rw [decide_eq_true (by omega)]
        refine iteT ⟨by rw [List.length_map]; exact L1 (by omega), ?_⟩
        refine lcF D.str (fun o => ovl o p) l _ (fun o ho => ⟨_, rfl, fun f Q q => ⟨o, p, rfl, Nat.le_trans (ha o (hlp o ho)).2 (by decide), Nat.le_trans (ha p hpp).2 (by decide), q⟩, fun _ f Q q => q⟩) ?_
        refine ⟨Nat.zero_le _, shaped_strs (fun z hz => (ha z (hlp z (List.mem_filter.mp hz).1)).1), rfl, ?_⟩
        rw [eqvM_nil]
        show if (l.filter fun o => ovl o p).isEmpty = true then _ else _
        cases he : (l.filter fun o => ovl o p).isEmpty with
        | true =>
          have hno : ∀ o ∈ l, ovl o p = false := fun o ho => by
            have := List.filter_eq_nil_iff.mp (List.isEmpty_iff.mp he) o ho
            simpa using this
          refine iteT ⟨_, rfl, by rw [List.length_map]; exact L1 (by omega), hN _ _ ⟨rfl, l ++ [p], _, _, by rw [List.map_append]; rfl, by rw [List.length_append, List.length_singleton]; omega, h2.append (List.Sublist.refl _), ?_, fun hlt z hz => ?_⟩⟩
          · rw [ovlL_snoc, h3, Bool.false_or, List.any_eq_false]
            exact fun o ho => by rw [ovl_sym, hno o ho]; exact Bool.false_ne_true
          · rcases List.mem_append.mp hz with h | h
            · obtain ⟨o, ho, e⟩ := h4 hm z h
              exact ⟨o, List.mem_append_left _ ho, e⟩
            · rw [List.mem_singleton.mp h]
              exact ⟨p, by simp, ovl_refl p⟩
        | false =>
          refine iteF (nxt (g := some k) (hN _ _ ⟨rfl, l, _, _, rfl, h1, h2.trans (List.sublist_append_left _ _), h3, fun hlt z hz => ?_⟩))
          rcases List.mem_append.mp hz with h | h
          · exact h4 hm z h
          · rw [List.mem_singleton.mp h]
            have : ∃ o ∈ l, ovl o p = true := by
              have hne : (l.filter fun o => ovl o p) ≠ [] := fun e => by rw [e] at he; cases he
              obtain ⟨o, ho⟩ := List.exists_mem_of_ne_nil _ hne
              exact ⟨o, (List.mem_filter.mp ho).1, (List.mem_filter.mp ho).2⟩
            exact this
      · rw [decide_eq_false (by omega)]
        exact iteF (nxt (g := some k) (hN _ _ ⟨rfl, l, _, _, rfl, h1, h2.trans (List.sublist_append_left _ _), h3, fun hlt => absurd hlt hm⟩))
    · rintro r f ⟨rfl, l, x, y, rfl, h1, h2, h3, h4⟩
      exact q l f1 h1 ((hp.nodup_iff.mpr hnd).sublist h2) (fun p h => hp.mem_iff.mp (h2.subset h)) h3 (fun hlt p h => h4 hlt p (hp.mem_iff.mpr h)) hf1
/-- rows in the making -/
structure RowI (ps : List Str) (i : Nat) (rows : List (List Str)) : Prop where
  fl : rows.flatten = ps.take i
  n1 : 1 ≤ rows.length
  n5 : rows.length ≤ 5
  ok : ∀ r ∈ rows, 1 ≤ r.length ∧ r.length ≤ 4
  two : i = ps.length → 2 ≤ rows.length
theorem flat_ge : ∀ (l : List (List Str)), (∀ r ∈ l, 1 ≤ r.length) → l.length ≤ l.flatten.length
  | [], _ => Nat.le_refl _
  | r :: l, h => by
    have h1 := h r (by simp)
    have h2 := flat_ge l fun x hx => h x (by simp [hx])
    rw [List.flatten_cons, List.length_append, List.length_cons]
    omega
theorem take_nxt {α : Type} {l : List α} {i : Nat} {x : α} (h : l[i]? = some x) : l.take (i + 1) = l.take i ++ [x] := by rw [List.take_succ, h]; rfl
theorem RowI.add {ps : List Str} {i : Nat} {rows : List (List Str)} {x : Str} (h : RowI ps i rows) (hi : ps[i]? = some x) (h5 : rows.length < 5) : RowI ps (i + 1) (rows ++ [[x]]) := by
  have n1 := h.n1
  refine ⟨?_, by rw [List.length_append]; omega, by rw [List.length_append, List.length_singleton]; omega, fun r hr => ?_, fun _ => by rw [List.length_append, List.length_singleton]; omega⟩
  · rw [List.flatten_append, h.fl, take_nxt hi]; rfl
  · rcases List.mem_append.mp hr with e | e
    · exact h.ok r e
    · rw [List.mem_singleton.mp e]; exact ⟨Nat.le_refl _, show 1 ≤ 4 by decide⟩
theorem RowI.app {ps : List Str} {i : Nat} {rows : List (List Str)} {r : List Str} {x : Str} (h : RowI ps i rows) (hi : ps[i]? = some x) (h6 : ps.length ≤ 6) (hr : rows[rows.length - 1]? = some r)
    (c1 : r.length = 4 → ¬ rows.length < 5) (c2 : i + 1 = ps.length → rows.length ≠ 1) : RowI ps (i + 1) (rows.set (rows.length - 1) (r ++ [x])) := by
  have n1 := h.n1
  have n5 := h.n5
  have il : i < ps.length := (List.getElem?_eq_some_iff.mp hi).1
  have hne : rows ≠ [] := fun e => by rw [e] at n1; simp at n1
  have er : rows = rows.dropLast ++ [r] := by
    have := List.dropLast_concat_getLast hne
    rw [List.getLast_eq_getElem] at this
    rw [List.getElem?_eq_getElem (by omega)] at hr
    rw [Option.some.inj hr] at this
    exact this.symm
  have es : rows.set (rows.length - 1) (r ++ [x]) = rows.dropLast ++ [r ++ [x]] := by
    have ln : rows.length - 1 = rows.dropLast.length := by rw [List.length_dropLast]
    rw [ln]
    generalize rows.dropLast = d at er
    subst er
    rw [List.set_append_right _ _ (Nat.le_refl _), Nat.sub_self]
    rfl
  have fl : rows.dropLast.flatten ++ r = ps.take i := by
    have := h.fl
    rw [er, List.flatten_append] at this
    simpa using this
  have okd : ∀ q ∈ rows.dropLast, q ∈ rows := fun q hq => (List.dropLast_sublist _).subset hq
  have rm : r ∈ rows := by rw [er]; simp
  have hr4 := (h.ok r rm).2
  refine ⟨?_, by rw [List.length_set]; exact n1, by rw [List.length_set]; exact n5, fun q hq => ?_, fun e => ?_⟩
  · rw [es, List.flatten_append, take_nxt hi, ← fl]
    simp
  · rw [es] at hq
    rcases List.mem_append.mp hq with e | e
    · exact h.ok q (okd q e)
    · rw [List.mem_singleton.mp e, List.length_append, List.length_singleton]
      refine ⟨by omega, ?_⟩
      have ge := flat_ge rows.dropLast fun q hq => (h.ok q (okd q hq)).1
      have fll := congrArg List.length fl
      rw [List.length_append, List.length_take, List.length_dropLast] at *
      by_cases c : rows.length < 5
      · have : r.length ≠ 4 := fun e => c1 e c
        omega
      · omega
  · rw [List.length_set]
    have := c2 e
    omega
abbrev s__law_rows : Stmt := topS 54
theorem sc__law_rows : FnScope ["_law_reel_here", "_law_paths", "_law_rows_here", "_law_path", "_law_again", "_law_row"] ["_law_reel_here", "_law_paths"] (defScope s__law_rows) := ⟨rfl, rfl, rfl, by decide +kernel, rfl, by decide +kernel, by decide +kernel⟩
def Sp__law_rows : DSp := fun g ds f Q => ∃ (k : Dk) (ps : List Str), g = some k ∧ ds = [.any (.ref k.a), .lst (ps.map D.str)] ∧ 2 ≤ ps.length ∧ ps.length ≤ 6 ∧ (∀ p ∈ ps, asc p ∧ p.length ≤ 1000) ∧ 6 ≤ f ∧
  ∀ (rows : List (List Str)) f', rows.flatten = ps → 2 ≤ rows.length → rows.length ≤ 5 → (∀ r ∈ rows, 1 ≤ r.length ∧ r.length ≤ 4) → f ≤ f' + 6 → Q (.tup (rows.map tps)) f'
def rwC : DT := dOrV (dOp (oEq false) (dCall Sp__law_pull (dCons (dVar 0) (dCons (dC (D.int 2)) dNil))) (dC (D.int 0)))
  (dOrV (dOp (oEq false) (dCB oLen (dCons (dOp oIx (dVar 2) (dNeg (dC (D.int 1)))) dNil)) (dC (D.int 4)))
    (dAndV (dOp (oEq false) (dCB oLen (dCons (dVar 2) dNil)) (dC (D.int 1))) (dOp (oEq false) (dVar 3) (dOp oIx (dVar 1) (dNeg (dC (D.int 1)))))))
def rwT : DTT := dAnd (dTest (dVar 4)) (dTest (dOp (oI0 fun i j => D.bool (decide (i < j))) (dCB oLen (dCons (dVar 2) dNil)) (dC (D.int 5))))
theorem atI_end {α : Type} {l : List α} {x : α} (h : l[l.length - 1]? = some x) : atI l (-1) = some x := by
  have hl := (List.getElem?_eq_some_iff.mp h).1
  unfold atI ixN
  rw [if_neg (by decide), if_pos (by omega)]
  show l[((l.length : Int) + (-1)).toNat]? = some x
  rw [show ((l.length : Int) + (-1)).toNat = l.length - 1 by omega]
  exact h
theorem rows_body {H0 Hs0 : Hp} {n0 : Nat} {k : Dk} {D : Addr} {qs : List Addr} {rows : List (List Str)} {f : Nat} {H Hs : Hp} {ps : List Str} {i : Nat} {x : Str} {vp : V} {a4 a5 : Option V} {N : L2.St → Hp → Prop} {Q : VK} {bk ct : L2.St → Hp → Prop}
    (s0 : Same Hs0 H0) (k0 : DkOk (some k) H0 Hs0 n0) (h : LLi (some k) H0 Hs0 D qs rows (f + 1) H Hs) (rp : Rp K Hs (.lst (ps.map DL.D.str)) vp) (hi : ps[i]? = some x) (R : RowI ps i rows) (h6 : ps.length ≤ 6) (hasc : ∀ p ∈ ps, asc p ∧ p.length ≤ 1000)
    (hN : ∀ qs' rows' f' H' Hs' b, f ≤ f' → LLi (some k) H0 Hs0 D qs' rows' f' H' Hs' → Same Hs Hs' → RowI ps (i + 1) rows' → N [some (.ref k.a), some vp, some (.ref D), some (.str x), b, a5] H') :
    tSeq (tAsg (tOf K rwC) (gName 4)) (tIfS (tOfT K rwT) (tDrop (tBM K "list" rAppend (tVar 2) (tCons (tLst (tCons (tVar 3) tNil)) tNil))) (tDrop (tBM K "list" rAppend (tOp (rIx K) (tVar 2) (tOf K (dNeg (dC (.int 1))))) (tCons (tVar 3) tNil))))
      { nx := N, rt := Q, bk := bk, ct := ct } [some (.ref k.a), some vp, some (.ref D), some (.str x), a4, a5] H := by
  obtain ⟨r, hr⟩ : ∃ r, rows[rows.length - 1]? = some r := ⟨_, List.getElem?_eq_getElem (by have := R.n1; omega)⟩
  have hrm := List.mem_of_getElem? hr
  have hr4 := (R.ok r hrm).2
  have hr1 := (R.ok r hrm).1
  have n1 := R.n1
  have n5 := R.n5
  have il : i < ps.length := (List.getElem?_eq_some_iff.mp hi).1
  have sl : ∀ {H Hs' f' a4 z} (_ : LLi (some k) H0 Hs0 D qs rows f' H Hs') (_ : Same Hs Hs') (_ : z = Sl.no ∨ ∃ d v, z = .sh d ∧ a4 = some v ∧ ∀ H, Rp K H d v), At K (some k) [.sh (.any (.ref k.a)), .sh (.lst (ps.map DL.D.str)), .sh (rowsL rows), .sh (.str x), z, .no] f' [some (.ref k.a), some vp, some (.ref D), some (.str x), a4, a5] H (shr H Hs' D qs) := fun {H Hs' f' a4 z} h e hz => by
    refine ⟨h.sub, h.shk, .sh rfl (.sh ((rp.mono e).mono h.ext) (.sh h.rp (.sh rfl ?_)))⟩
    rcases hz with rfl | ⟨d, v, rfl, rfl, hv⟩
    · exact .no (.no .nil)
    · exact .sh (hv _) (.no .nil)
  have lastL : atI (rows.map fun r => DL.D.lst (r.map DL.D.str)) (-1) = some (.lst (r.map DL.D.str)) := atI_end (by rw [List.length_map, List.getElem?_map, hr]; rfl)
  obtain ⟨y, hy⟩ : ∃ y, ps[ps.length - 1]? = some y := ⟨_, List.getElem?_eq_getElem (by omega)⟩
  have lastP : atI (ps.map DL.D.str) (-1) = some (.str y) := atI_end (by rw [List.length_map, List.getElem?_map, hy]; rfl)
  have ax := hasc x (List.mem_of_getElem? hi)
  have ay := hasc y (List.mem_of_getElem? hy)
  refine ⟨some k, _, _, _, fun d f' => ∃ b, d = .bool b ∧ f ≤ f' ∧ (r.length = 4 → b = true) ∧ (rows.length = 1 → x = y → b = true), sl h (Same.refl _) (.inl rfl), ?_, ?_⟩
  · rintro d f1 v H1 Hs1 s1 k1 r1 ⟨b, rfl, hf1, c1, c2⟩
    cases r1
    obtain ⟨h1, e1⟩ := h.un s0 s1 k1
    refine ⟨some k, _, _, _, fun c f' => f' = f1 ∧ c = (b && decide (rows.length < 5)), sl h1 e1 (.inr ⟨.bool b, .bl b, rfl, rfl, fun _ => rfl⟩), ?_, ?_⟩
    · rintro c f2 H2 Hs2 s2 k2 ⟨rfl, rfl⟩
      obtain ⟨h2, e2⟩ := h1.un s0 s2 k2
      cases hb : (b && decide (rows.length < 5)) with
      | true =>
        rw [Bool.and_eq_true, decide_eq_true_iff] at hb
        rw [if_pos rfl]
        refine ⟨.ref D, rfl, .inl ⟨rfl, _, SqL.of h2.l.dl⟩, .str x, rfl, lim_le (show 1 ≤ lim by decide), fun p hp => ⟨D, qs.map V.ref, _, rfl, rfl, ?_, ?_, ?_⟩⟩
        · rw [upd_ne (ne_of_none h2.l.dl hp)]; exact h2.l.dl
        · rw [List.length_map, ← h2.l.len]; exact lim_lt (L1 (by omega))
        · have h3 := h2.add k0 (x := x) hp
          rw [List.map_append] at h3
          exact hN _ _ _ _ _ _ hf1 h3 (e1.trans e2) (R.add hi hb.2)
      | false =>
        rw [if_neg Bool.false_ne_true]
        refine ⟨.ref D, rfl, some k, _, _, _, fun d f' => d = .int (-1) ∧ f' = f2, sl h2 (e1.trans e2) (.inl rfl), ?_, ⟨rfl, rfl⟩⟩
        rintro d f3 v H3 Hs3 s3 k3 r3 ⟨rfl, rfl⟩
        cases r3
        obtain ⟨h3, e3⟩ := h2.un s0 s3 k3
        have ql : qs.length = rows.length := h3.l.len.symm
        obtain ⟨p, hp⟩ : ∃ p, qs[rows.length - 1]? = some p := ⟨_, List.getElem?_eq_getElem (by omega)⟩
        have hat := h3.l.at_ _ _ _ hr hp
        refine .inl ⟨D, _, -1, .ref p, rfl, rfl, SqL.of h3.l.dl, atI_end (by rw [List.length_map, ql, List.getElem?_map, hp]; rfl), .inl ⟨rfl, _, SqL.of hat⟩, .str x, rfl, p, _, _, rfl, rfl, hat, ?_, ?_⟩
        · rw [List.length_map]; exact lim_lt (L1 (by omega))
        · have h4 := h3.app (x := x) hr hp
          rw [List.map_append] at h4
          refine hN _ _ _ _ _ _ hf1 h4 ((e1.trans e2).trans e3) (R.app hi h6 hr (fun e4 c => ?_) fun ei e1' => ?_)
          · rw [c1 e4, decide_eq_true c] at hb; cases hb
          · have : x = y := by
              rw [show ps.length - 1 = i by omega, hi] at hy
              exact Option.some.inj hy
            rw [c2 e1' this, decide_eq_true (by omega)] at hb; cases hb
    · show if b = true then _ else _
      cases b with
      | true =>
        refine iteT ⟨rfl, ?_⟩
        rw [List.length_map, Bool.true_and]
        exact decide_eq_decide.mpr (by omega)
      | false => exact iteF ⟨rfl, rfl⟩
  · refine ⟨k, 2, f, rfl, rfl, by decide, by decide, rfl, fun r0 r0a r0b => ?_⟩
    show if decide (r0 = 0) = true then _ else _
    by_cases c0 : r0 = 0
    · rw [decide_eq_true c0]
      exact iteT ⟨true, rfl, Nat.le_refl _, fun _ => rfl, fun _ _ => rfl⟩
    rw [decide_eq_false c0]
    refine iteF ⟨_, lastL, ?_⟩
    show if decide (((r.map DL.D.str).length : Int) = 4) = true then _ else _
    rw [List.length_map]
    by_cases c4 : r.length = 4
    · rw [decide_eq_true (by omega)]
      exact iteT ⟨true, rfl, Nat.le_refl _, fun _ => rfl, fun _ _ => rfl⟩
    rw [decide_eq_false (by omega)]
    refine iteF ?_
    show if decide (((rows.map fun r => DL.D.lst (r.map DL.D.str)).length : Int) = 1) = true then _ else _
    rw [List.length_map]
    by_cases c1 : rows.length = 1
    · rw [decide_eq_true (by omega)]
      refine iteT ⟨_, lastP, ?_⟩
      show ∃ b, DL.D.bool (xb false (decide (x = y))) = .bool b ∧ _
      exact ⟨decide (x = y), by simp [xb], Nat.le_refl _, fun e => absurd e c4, fun _ e => decide_eq_true e⟩
    · rw [decide_eq_false (by omega)]
      exact iteF ⟨false, rfl, Nat.le_refl _, fun e => absurd e c4, fun e => absurd e c1⟩
theorem ok__law_rows (d : Df K mg "_law_rows" s__law_rows) (m_len : mg "len" = none) (m_tuple : mg "tuple" = none) (c__law_pull : Cal P w K mg base 1 "_law_pull" ["_law_reel_here", "_law_many"] Sp__law_pull) : Cal P w K mg base 2 "_law_rows" ["_law_reel_here", "_law_paths"] Sp__law_rows := by
  obtain ⟨f, fd, F, mm⟩ := d
  refine ⟨f, fd, ?_, F.kp, F.binds fun _ _ _ _ _ _ us hl => match us, hl with | [_, _], _ => rfl, mm⟩
  refine F.ok sc__law_rows (fun vs H Q E h => ?_) (fun cdv A outer s H vs Q E hr h => ?_)
  · obtain ⟨g, Hs, ds, n, Q', h1, h2, h3, ⟨_, _, _, rfl, _⟩, h5⟩ := h
    rw [← h3.length]; rfl
  · obtain ⟨g, Hs, ds, n, Q', h1, h2, h3, ⟨k, ps, rfl, rfl, hl2, hl6, hasc, hf, hQ⟩, h5⟩ := h
    obtain ⟨vk, vp, rfl, rk, rp⟩ := rpA2 h3
    refine ⟨_, pss_cons (ps_set (i := 2) sc__law_rows.nd rfl (Or.inl rfl) (pe_lst (pa_cons (pe_lst (pa_cons (de_ix (de_v 1) de_int).pe pa_nil)) pa_nil)) rfl (.inl rfl))
      (pss_cons (ps_for PassesOwn.never rfl (di_seq (de_sl (de_v 1) (do_some de_int) do_none)).pi (dg_name (i := 3) sc__law_rows.nd).pg
        (pss_cons (ps_set (i := 4) sc__law_rows.nd rfl (Or.inl rfl) (de_or (de_eq hr.units (de_callC c__law_pull (hr.mono (by decide)) (da_cons (de_v 0) (da_cons de_int da_nil))) de_int) (de_or (de_eq hr.units (de_len m_len (da_cons (de_ix (de_v 2) (de_neg de_int)) da_nil)) de_int) (de_one (de_and (de_eq hr.units (de_len m_len (da_cons (de_v 2) da_nil)) de_int) (de_one (de_eq hr.units (de_v 3) (de_ix (de_v 1) (de_neg de_int)))))))).pe rfl (.inl rfl))
        (pss_one (ps_if (DW.p (dw_and (dp_val (de_v 4)) (dw_and1 (dp_lt (de_len m_len (da_cons (de_v 2) da_nil)) de_int)))).pt
          (pss_one (ps_expr (pe_bm PySem.F.plainAttrs_list PySem.F.slot_list_append PySem.F.type_list_append mt_append (pv 2) (pa_cons (pe_lst (pa_cons (pv 3) pa_nil)) pa_nil))))
          (pss_one (ps_expr (pe_bm PySem.F.plainAttrs_list PySem.F.slot_list_append PySem.F.type_list_append mt_append (pe_ix ix_seq (pv 2) (de_neg de_int).pe (fun _ _ => rfl)) (pa_cons (pv 3) pa_nil))))))))
      (pss_one (ps_ret (de_callTy call_tuple_of sc_tuple (by rfl) m_tuple (by decide +kernel) (da_cons (dl_lc (own := [("_law_row", 5)]) rfl sc__law_rows.nd (di_seq (de_v 2)) (blkOk_by (own := [("_law_row", 5)]) (N := ["_law_reel_here", "_law_paths", "_law_rows_here", "_law_path", "_law_again", "_law_row"]) (sc := defScope s__law_rows) (by decide +kernel)) (fun _ _ _ _ _ => dg_name (i := 5) sc__law_rows.nd) (fun _ _ _ _ _ => dts_nil) (fun _ _ _ _ _ => (de_callTy call_tuple_of sc_tuple (by rfl) m_tuple (by decide +kernel) (da_cons (de_v 5) da_nil)))).e da_nil)).pe))), ?_⟩
    cases rk
    obtain ⟨x0, hx0⟩ : ∃ x, ps[0]? = some x := ⟨_, List.getElem?_eq_getElem (by omega)⟩
    refine ⟨some k, [.sh (.any (.ref k.a)), .sh (.lst (ps.map D.str)), .no, .no, .no, .no], n, Hs, fun d f' => d = .str x0 ∧ f' = n, ⟨h1, h2, .sh rfl (.sh rp (.no (.no (.no (.no .nil)))))⟩, ?_, ⟨_, atI_nat (j := 0) (by rw [List.getElem?_map, hx0]; rfl), rfl, rfl⟩⟩
    rintro d f1 v H1 Hs1 s1 k1 r1 ⟨rfl, rfl⟩
    cases r1
    refine ⟨lim_le (show 1 ≤ lim by decide), fun p hp => ⟨lim_le (show 1 ≤ lim by decide), fun D hD => ?_⟩⟩
    have l0 := LLi.start h1 h2 s1 k1 hp hD
    refine ⟨some k, [.sh (.any (.ref k.a)), .sh (.lst (ps.map DL.D.str)), .no, .no, .no, .no], f1, Hs1, fun ds f' => ds = (ps.drop 1).map DL.D.str ∧ f' = f1, ⟨l0.stp.sub, l0.dk, .sh rfl (.sh (rp.mono s1.ext) (.no (.no (.no (.no .nil)))))⟩, ?_, ?_⟩
    · rintro ds f2 J H2 Hs2 s2 k2 wk ⟨rfl, rfl⟩
      have l1 := l0.step s2 k2
      have rp2 := (rp.mono s1.ext).mono s2.ext
      have dl : (ps.drop 1).length = ps.length - 1 := List.length_drop
      refine ⟨fun i m st2 H3 => m = (ps.drop 1).length - i ∧ i ≤ (ps.drop 1).length ∧ ∃ qs rows f3 Hs3 a3 a4, st2 = [some (.ref k.a), some vp, some (.ref D), a3, a4, none] ∧ LLi (some k) H Hs D qs rows f3 H3 Hs3 ∧ Same Hs2 Hs3 ∧ RowI ps (i + 1) rows ∧ f2 ≤ f3 + i,
        ⟨_, rfl, Nat.zero_le _, _, _, _, _, _, _, rfl, l1, Same.refl _, ?_, Nat.le_refl _⟩, ?_⟩
      · exact ⟨by rw [take_nxt hx0]; rfl, Nat.le_refl _, show 1 ≤ 5 by decide, fun r hr => by rw [List.mem_singleton.mp hr]; exact ⟨Nat.le_refl _, show 1 ≤ 4 by decide⟩, fun e => by omega⟩
      · rintro i m st2 H3 ⟨rfl, hil, qs, rows, f3, Hs3, a3, a4, rfl, l3, e3, R, hf3⟩
        by_cases hlt : i < (ps.drop 1).length
        · have hgd : ((ps.drop 1).map DL.D.str)[i]? = some (.str (ps.drop 1)[i]) := by rw [List.getElem?_map, List.getElem?_eq_getElem hlt]; rfl
          have hix : ps[i + 1]? = some (ps.drop 1)[i] := by
            have : (ps.drop 1)[i]? = some (ps.drop 1)[i] := List.getElem?_eq_getElem hlt
            rw [List.getElem?_drop] at this
            rwa [Nat.add_comm] at this
          obtain ⟨hgo, hy⟩ := wk.go i _ H3 Hs3 e3 l3.stp.sub hgd
          refine .inr ⟨hgo, fun st3 H4 => i + 1 ≤ (ps.drop 1).length ∧ ∃ qs rows f3 Hs3 a3 a4, st3 = [some (.ref k.a), some vp, some (.ref D), a3, a4, none] ∧ LLi (some k) H Hs D qs rows f3 H4 Hs3 ∧ Same Hs2 Hs3 ∧ RowI ps (i + 1 + 1) rows ∧ f2 ≤ f3 + (i + 1), fun st3 H4 h => ⟨_, by omega, rfl, h⟩, fun v H4 hv => ?_⟩
          obtain ⟨Hs4, s4, r4⟩ := hy v H4 hv
          refine ⟨Hs4, _, [(3, _)], s4.sub, r4, rfl, fun ws hws => ?_⟩
          obtain ⟨v1, w1, rfl, q1, q2⟩ := hws
          cases q1
          cases q2
          obtain ⟨f4, rfl⟩ : ∃ f4, f3 = f4 + 1 := ⟨f3 - 1, by omega⟩
          have l4 := l3.step s4.gen (l3.dk.stp s4)
          exact rows_body h1 h2 l4 ((rp2.mono e3).mono s4.ext) hix R hl6 hasc fun qs' rows' f' H' Hs' b hf' l5 e5 R5 => ⟨hlt, qs', rows', f', Hs', _, _, rfl, l5, (e3.trans s4.ext).trans e5, R5, by omega⟩
        · have ei : i = (ps.drop 1).length := by omega
          have st0 := wk.stop H3 (fun a o h => l3.stp.sub a o (e3 a o h))
          rw [List.length_map, ← ei] at st0
          refine .inl ⟨st0, ?_⟩
          refine ⟨some k, [.sh (.any (.ref k.a)), .sh (.lst (ps.map DL.D.str)), .sh (rowsL rows), .no, .no, .no], f3, shr H3 Hs3 D qs, Q', ⟨l3.sub, l3.shk, .sh rfl (.sh ((rp2.mono e3).mono l3.ext) (.sh l3.rp (.no (.no (.no .nil)))))⟩, fun d f' v H' Hs' s k hr q => h5 d f' v H' Hs' (l3.sh.trans s) k hr q, ?_⟩
          refine ⟨by rw [List.length_map]; have := R.n5; exact L1 (by omega), ?_⟩
          refine lcM (fun r : List Str => DL.D.lst (r.map DL.D.str)) tps id rows _ (fun r hr => ⟨_, rfl, fun f Q q => ?_⟩) ?_
          · exact q
          · rw [List.map_id]
            have fl := R.fl
            rw [List.take_of_length_le (by omega)] at fl
            exact hQ rows f3 fl (R.two (by omega)) R.n5 R.ok (by omega)
    · refine ⟨?_, rfl⟩
      show cutD (ps.map DL.D.str) (some ((1 : Nat) : Int)) none = _
      rw [cutD_drop', List.map_drop]
/-! _law_pick -/
abbrev s__law_pick : Stmt := topS 46
theorem sc__law_pick : FnScope ["_law_reel_here", "_law_some"] ["_law_reel_here", "_law_some"] (defScope s__law_pick) := ⟨rfl, rfl, rfl, by decide +kernel, rfl, by decide +kernel, by decide +kernel⟩
def Sp__law_pick : DSp := fun g ds f Q => (∃ (k : Dk) (xs : List D), g = some k ∧ ds = [.any (.ref k.a), .lst xs] ∧ 0 < xs.length ∧ xs.length ≤ 100000 ∧ 1 ≤ f ∧ ∀ x ∈ xs, ∀ f', f ≤ f' + 1 → Q x f') ∨
  ∃ (k : Dk) (z : Str), g = some k ∧ ds = [.any (.ref k.a), .str z] ∧ 0 < z.length ∧ z.length ≤ 100000 ∧ 1 ≤ f ∧ ∀ c ∈ z.cps.toList, ∀ f', f ≤ f' + 1 → Q (.str ⟨#[c]⟩) f'
set_option maxHeartbeats 2000000 in
theorem ok__law_pick (d : Df K mg "_law_pick" s__law_pick) (m_len : mg "len" = none) (c__law_pull : Cal P w K mg base 1 "_law_pull" ["_law_reel_here", "_law_many"] Sp__law_pull) : Cal P w K mg base 2 "_law_pick" ["_law_reel_here", "_law_some"] Sp__law_pick := by
  obtain ⟨f, fd, F, m⟩ := d
  refine ⟨f, fd, dfn (k := 1) (S := Sp__law_pick) F sc__law_pick ?len (fun cdv A outer s H E hr => (dss_one (ds_ret (de_ix (de_v 1) (de_callC c__law_pull (hr.mono (by decide)) (da_cons (de_v 0) (da_cons (de_len m_len (da_cons (de_v 1) da_nil)) da_nil))))))) ?h, F.kp, F.binds fun _ _ _ _ _ _ us hl => match us, hl with | [_, _], _ => rfl, m⟩
  case len =>
    intro g ds n Q h; rcases h with ⟨_, _, _, rfl, _⟩ | ⟨_, _, _, rfl, _⟩ <;> rfl
  case h =>
    intro g ds n Q h
    rcases h with ⟨k, xs, rfl, rfl, h0, hl, hf, q⟩ | ⟨k, z, rfl, rfl, h0, hl, hf, q⟩
    · obtain ⟨f1, rfl⟩ : ∃ f1, n = f1 + 1 := ⟨n - 1, by omega⟩
      refine ⟨k, (xs.length : Int), f1, rfl, rfl, by omega, by omega, rfl, fun r r0 r1 => ?_⟩
      obtain ⟨d, hd, hm⟩ := atI_mem (xs := xs) r0 r1
      exact ⟨d, hd, q d hm f1 (Nat.le_refl _)⟩
    · obtain ⟨f1, rfl⟩ : ∃ f1, n = f1 + 1 := ⟨n - 1, by omega⟩
      refine ⟨L1 hl, k, (z.length : Int), f1, rfl, rfl, by omega, by omega, rfl, fun r r0 r1 => ?_⟩
      obtain ⟨c, hc, hm⟩ := atI_mem (xs := z.cps.toList) r0 r1
      exact ⟨L1 hl, c, hc, q c hm f1 (Nat.le_refl _)⟩
/-! values of bounded parts -/
def big : Nat := 10 ^ 40
theorem cut_sub (xs : List D) (lo hi : Option Int) : (cutD xs lo hi).Sublist xs := (List.take_sublist _ _).trans (List.drop_sublist _ _)
/-! _law_names -/
abbrev s__law_names : Stmt := topS 48
theorem sc__law_names : FnScope ["_law_reel_here", "_law_many", "_law_letters", "_law_size", "_law_same_here", "_law_place", "_law_first_here", "_law_base", "_law_found", "_law_turn", "_law_row", "_law_k"] ["_law_reel_here", "_law_many"] (defScope s__law_names) := ⟨rfl, rfl, rfl, by decide +kernel, rfl, by decide +kernel, by decide +kernel⟩
def chr1 (c : Nat) : Str := ⟨#[c]⟩
theorem letter_eq {r : Int} (h0 : 0 ≤ r) (h1 : r < 26) : atI (Str.ofString "abcdefghijklmnopqrstuvwxyz").cps.toList r = some (97 + r.toNat) := by
  obtain ⟨j, rfl⟩ : ∃ j : Nat, r = j := ⟨r.toNat, by omega⟩
  refine atI_nat ?_
  rw [show (Str.ofString "abcdefghijklmnopqrstuvwxyz").cps.toList = List.range' 97 26 from by decide +kernel]
  rw [List.getElem?_range' (by omega)]
  show some (97 + 1 * j) = some (97 + ((j : Int)).toNat)
  rw [Int.toNat_natCast, Nat.one_mul]
theorem cs_of : ∀ {ys : List D}, (∀ y ∈ ys, ∃ c : Nat, y = .str (chr1 c) ∧ 97 ≤ c ∧ c ≤ 122) → ∃ cs : List Nat, ys = cs.map (fun c => D.str (chr1 c)) ∧ ∀ c ∈ cs, 97 ≤ c ∧ c ≤ 122
  | [], _ => ⟨[], rfl, by simp⟩
  | y :: ys, h => by
    obtain ⟨c, rfl, hc⟩ := h y (by simp)
    obtain ⟨cs, rfl, hcs⟩ := cs_of (ys := ys) fun z hz => h z (by simp [hz])
    exact ⟨c :: cs, rfl, fun d hd => (List.mem_cons.mp hd).elim (fun e => e ▸ hc) (hcs d)⟩
theorem cd_codes (cs : List Nat) : cd (Txt.join "" (cs.map chr1)) = cs := by
  rw [join_nil_cd, List.map_map]
  induction cs with
  | nil => rfl
  | cons c cs ih => rw [List.map_cons, List.flatten_cons, ih]; rfl
theorem codes_name {cs : List Nat} (h : ∀ c ∈ cs, 97 ≤ c ∧ c ≤ 122) (h1 : 1 ≤ cs.length) (h2 : cs.length ≤ 8) : isName (Txt.join "" (cs.map chr1)) :=
  letters_name _ (fun n hn => by
    obtain ⟨c, hc, rfl⟩ := List.mem_map.mp hn
    exact ⟨c, rfl, h c hc⟩) (by rw [List.length_map]; exact h1) (by rw [List.length_map]; exact h2)
def Sp__law_names : DSp := fun g ds f Q => ∃ (k : Dk) (m : Nat), g = some k ∧ ds = [.any (.ref k.a), .int m] ∧ m ≤ 26 ∧ 250 ≤ f ∧
  ∀ (l : List Str) f', l.length = m → (∀ n ∈ l, isName n) → l.Nodup → f ≤ f' + 250 → Q (.lst (l.map D.str)) f'
set_option maxHeartbeats 2000000 in
theorem ok__law_names (d : Df K mg "_law_names" s__law_names) (m_range : mg "range" = none) (m_int : mg "int" = none) (m_list : mg "list" = none) (c__law_pick : Cal P w K mg base 2 "_law_pick" ["_law_reel_here", "_law_some"] Sp__law_pick) (c__law_pull : Cal P w K mg base 1 "_law_pull" ["_law_reel_here", "_law_many"] Sp__law_pull) : Cal P w K mg base 3 "_law_names" ["_law_reel_here", "_law_many"] Sp__law_names := by
  obtain ⟨f, fd, F, m⟩ := d
  refine ⟨f, fd, dfn (k := 2) (S := Sp__law_names) F sc__law_names ?len (fun cdv A outer s H E hr => (dss_cons (ds_set false (i := 2) sc__law_names.nd de_str)
      (dss_cons (ds_par false (i := 3) (j := 4) sc__law_names.nd (de_add de_int (de_callC c__law_pull (hr.mono (by decide)) (da_cons (de_v 0) (da_cons de_int da_nil)))) (de_eq hr.units (de_callC c__law_pull (hr.mono (by decide)) (da_cons (de_v 0) (da_cons de_int da_nil))) de_int))
      (dss_cons (ds_par false (i := 5) (j := 6) sc__law_names.nd (de_callC c__law_pull (hr.mono (by decide)) (da_cons (de_v 0) (da_cons (de_v 3) da_nil))) (de_callC c__law_pull (hr.mono (by decide)) (da_cons (de_v 0) (da_cons de_int da_nil))))
      (dss_cons (ds_parSL (i := 7) (j := 8) sc__law_names.nd ((dl_lc (own := [("_law_k", 11)]) rfl sc__law_names.nd (di_range1 m_range (da_cons (de_v 3) da_nil)) (blkOk_by (own := [("_law_k", 11)]) (N := ["_law_reel_here", "_law_many", "_law_letters", "_law_size", "_law_same_here", "_law_place", "_law_first_here", "_law_base", "_law_found", "_law_turn", "_law_row", "_law_k"]) (sc := defScope s__law_names) (by decide +kernel)) (fun _ _ _ _ _ => dg_name (i := 11) sc__law_names.nd) (fun _ _ _ _ _ => dts_nil) (fun _ _ _ _ _ => (de_callC c__law_pick (hr.mono (by decide)) (da_cons (de_v 0) (da_cons (de_v 2) da_nil))))).e) (dl_lst da_nil))
      (dss_cons (ds_for [] PassesOwn.never (di_range1 m_range (da_cons (de_v 1) da_nil)) (dg_name (i := 9) sc__law_names.nd) (dss_cons (ds_setL false (i := 10) sc__law_names.nd (dl_listOf m_list (da_cons (de_v 7) da_nil)))
      (dss_cons (ds_if (dp_not (dp_val (de_v 4))) (dss_one (ds_setLc (i := 10) (own := [("_law_k", 11)]) sc__law_names.nd (di_range1 m_range (da_cons (de_v 3) da_nil)) (blkOk_by (own := [("_law_k", 11)]) (N := ["_law_reel_here", "_law_many", "_law_letters", "_law_size", "_law_same_here", "_law_place", "_law_first_here", "_law_base", "_law_found", "_law_turn", "_law_row", "_law_k"]) (sc := defScope s__law_names) (by decide +kernel)) (fun _ _ _ _ _ => dg_name (i := 11) sc__law_names.nd) (fun _ _ _ _ _ => dts_nil) (fun _ _ _ _ _ => (de_callC c__law_pick (hr.mono (by decide)) (da_cons (de_v 0) (da_cons (de_v 2) da_nil)))) (fun _ _ _ h => snd_setL (m := false) (i := 10) h))) dss_nil)
      (dss_cons (ds_setIx false (i := 10) (de_v 5) (de_ix (de_v 2) (de_mod (de_callTy call_int1 sc_int (by rfl) m_int PyProof.Rows.boot_int (da_cons (de_add (de_v 6) (de_v 9)) da_nil)) de_int)))
      (dss_one (ds_app true (i := 8) (de_join de_str (de_v 10))))))))
      (dss_one (ds_ret (de_v 8))))))))) ?h, F.kp, F.binds fun _ _ _ _ _ _ us hl => match us, hl with | [_, _], _ => rfl, m⟩
  case len =>
    intro g ds n Q h; obtain ⟨_, _, _, rfl, _⟩ := h; rfl
  case h =>
    intro g ds n Q h
    obtain ⟨k, m, rfl, rfl, hm, hf, q⟩ := h
    obtain ⟨f1, rfl⟩ : ∃ f1, n = f1 + 250 := ⟨n - 250, by omega⟩
    have lc : ∀ c ∈ (Str.ofString "abcdefghijklmnopqrstuvwxyz").cps.toList, 97 ≤ c ∧ c ≤ 122 := by decide +kernel
    refine ⟨k, 8, f1 + 249, rfl, rfl, by decide, by decide, rfl, fun sz s0 s1 => ?_⟩
    refine ⟨k, 2, f1 + 248, rfl, rfl, by decide, by decide, rfl, fun sm m0 m1 => ?_⟩
    obtain ⟨z, hz⟩ : ∃ z : Nat, 1 + sz = (z : Int) := ⟨(1 + sz).toNat, by omega⟩
    rw [hz]
    simp only [List.set_cons_succ, List.set_cons_zero, setsR, startR, List.map_cons, List.map_nil, List.cons_append, List.nil_append, List.replicate_succ, List.replicate_zero, List.length_cons, List.length_nil, Nat.reduceAdd, Nat.reduceSub]
    refine ⟨k, (z : Int), f1 + 247, rfl, rfl, by omega, by omega, rfl, fun pl p0 p1 => ?_⟩
    refine ⟨k, 26, f1 + 246, rfl, rfl, by decide, by decide, rfl, fun fi i0 i1 => ?_⟩
    refine ⟨by omega, by omega, by rw [intsD_len]; exact L1 (by omega), ?_⟩
    refine dLcGo_each (P := fun y => ∃ c : Nat, y = .str (chr1 c) ∧ 97 ≤ c ∧ c ≤ 122) 1 _ _ _ (by rw [intsD_len]; omega) (fun d _ => ⟨_, rfl, fun f Q hf hq => .inr ⟨k, _, rfl, rfl, by decide +kernel, by decide +kernel, hf, fun c hc f' hf' => hq _ _ ⟨c, rfl, lc c hc⟩ hf'⟩⟩) (fun ys f' hl hy hf' => ?_)
    rw [intsD_len] at hl hf'
    obtain ⟨bs, rfl, hbs⟩ := cs_of hy
    rw [List.length_map] at hl
    refine ⟨Nat.zero_le _, ?_⟩
    simp only [List.set_cons_succ, List.set_cons_zero, setsR, startR, List.map_cons, List.map_nil, List.cons_append, List.nil_append, List.replicate_succ, List.replicate_zero, List.length_cons, List.length_nil, Nat.reduceAdd, Nat.reduceSub]
    refine ⟨by omega, by omega, ?_⟩
    have e0 : ((m : Int)).toNat = m := by omega
    rw [e0]
    refine dFor_range (fun i r f => ∃ (x y w : Sl) (l : List Str), r = [.sh (.any (.ref k.a)), .sh (.int m), .sh (.str (Str.ofString "abcdefghijklmnopqrstuvwxyz")), .sh (.int z), .sh (.bool (xb false (decide (sm = 0)))), .sh (.int pl), .sh (.int fi), .sh (.lst (bs.map fun c => .str (chr1 c))), .ow (l.map D.str), x, y, w] ∧ l.length = i ∧ (∀ n ∈ l, isName n) ∧ (∀ j (h : j < l.length), (cd l[j])[pl.toNat]? = some (97 + ((fi + (j : Int)) % 26).toNat)) ∧ f1 + 238 ≤ f + 8 * i) 0 m _ _ ?_ ?_ ⟨_, _, _, [], rfl, rfl, by simp, by simp, by omega⟩
    · rintro i r f N hi ⟨x, y, w, l, rfl, hl2, hn, hc, hf2⟩ hN
      refine ⟨_, rfl, ?_⟩
      refine mid2 (fun r f => ∃ (cs : List Nat) (w : Sl), r = [.sh (.any (.ref k.a)), .sh (.int m), .sh (.str (Str.ofString "abcdefghijklmnopqrstuvwxyz")), .sh (.int z), .sh (.bool (xb false (decide (sm = 0)))), .sh (.int pl), .sh (.int fi), .sh (.lst (bs.map fun c => .str (chr1 c))), .ow (l.map D.str), .sh (.int (0 + (i : Int))), .ow (cs.map fun c => .str (chr1 c)), w] ∧ cs.length = z ∧ (∀ c ∈ cs, 97 ≤ c ∧ c ≤ 122) ∧ f1 + 238 ≤ f + 8 * i + 8) ?_ (fun hk => ?_)
      · rintro r f ⟨cs, w, rfl, hcl, hcs, hf3⟩
        have hj : pl.toNat < cs.length := by omega
        have hix : ixN (cs.map fun c => D.str (chr1 c)).length pl = some pl.toNat := by
          unfold ixN
          rw [if_pos p0, List.length_map, if_pos (by omega)]
        refine ⟨_, rfl, show (0 : Int) < 26 by decide, by decide +kernel, _, letter_eq (Int.emod_nonneg _ (by decide)) (Int.emod_lt_of_pos _ (by decide)), pl.toNat, hix, ?_⟩
        generalize hv : 97 + ((fi + (0 + (i : Int))) % 26).toNat = v
        have es : (cs.map (fun c => D.str (chr1 c))).set pl.toNat (D.str ⟨#[v]⟩) = ((cs.set pl.toNat v).map chr1).map D.str := by
          rw [List.map_map, List.map_set]; rfl
        rw [es]
        generalize hcs' : cs.set pl.toNat v = cs'
        have l' : cs'.length = z := by rw [← hcs', List.length_set]; exact hcl
        have at' : cs'[pl.toNat]? = some v := by rw [← hcs']; exact List.getElem?_set_self hj
        have ok' : ∀ c ∈ cs', 97 ≤ c ∧ c ≤ 122 := fun c hc => by
          rw [← hcs'] at hc
          rcases List.mem_or_eq_of_mem_set hc with h | h
          · exact hcs c h
          · rw [h]; omega
        have nm := codes_name ok' (by omega) (by omega)
        simp only [List.set_cons_succ, List.set_cons_zero, setsR, startR, List.map_cons, List.map_nil, List.cons_append, List.nil_append, List.replicate_succ, List.replicate_zero, List.length_cons, List.length_nil, Nat.reduceAdd, Nat.reduceSub]
        refine ⟨_, rfl, trivial, cs'.map chr1, rfl, join_names _ (fun x hx => ?_) (by rw [List.length_map]; omega) _ (by decide +kernel), rfl, by rw [List.length_map]; exact L1 (by omega), hN _ _ ⟨_, _, _, l ++ [Txt.join "" (cs'.map chr1)], by rw [List.map_append]; rfl, by rw [List.length_append, hl2]; rfl, fun x hx => ?_, fun j hj' => ?_, by omega⟩⟩
        · obtain ⟨c, _, rfl⟩ := List.mem_map.mp hx
          exact (by decide : 1 ≤ 1000)
        · rcases List.mem_append.mp hx with h | h
          · exact hn x h
          · rw [List.mem_singleton.mp h]; exact nm
        · rw [List.length_append] at hj'
          have hj' : j < l.length + 1 := hj'
          by_cases hjl : j < l.length
          · rw [List.getElem_append_left hjl]
            exact hc j hjl
          · have : j = l.length := by omega
            subst this
            rw [List.getElem_append_right (Nat.le_refl _)]
            simp only [Nat.sub_self, List.getElem_cons_zero]
            rw [cd_codes, at', ← hv, hl2, Int.zero_add]
      · show if (!(xb false (decide (sm = 0)))) = true then _ else _
        by_cases e : sm = 0
        · rw [decide_eq_true e] at hk ⊢
          exact iteF (hk _ _ ⟨bs, _, rfl, by omega, hbs, by omega⟩)
        · rw [decide_eq_false e] at hk ⊢
          refine iteT ⟨by omega, by omega, by rw [intsD_len]; exact L1 (by omega), ?_⟩
          refine dLcGo_each (P := fun y => ∃ c : Nat, y = .str (chr1 c) ∧ 97 ≤ c ∧ c ≤ 122) 1 _ _ _ (by rw [intsD_len]; omega) (fun d _ => ⟨_, rfl, fun f Q hf hq => .inr ⟨k, _, rfl, rfl, by decide +kernel, by decide +kernel, hf, fun c hc f' hf' => hq _ _ ⟨c, rfl, lc c hc⟩ hf'⟩⟩) (fun ys f' hl hy hf' => ?_)
          rw [intsD_len] at hl hf'
          obtain ⟨cs, rfl, hcs⟩ := cs_of hy
          rw [List.length_map] at hl
          exact hk _ _ ⟨cs, _, rfl, by omega, hcs, by omega⟩
    · rintro r f ⟨x, y, w, l, rfl, hl2, hn, hc, hf2⟩
      refine q l f hl2 hn ?_ (by omega)
      refine List.pairwise_iff_getElem.mpr fun i j hi hj hij e => ?_
      have h1 := hc i hi
      have h2 := hc j hj
      rw [e, h2] at h1
      have h1 := Option.some.inj h1
      omega
/-- rows of names, no two of which begin alike -/
structure Wn (ls : List (List Str)) : Prop where
  ok : ∀ ns ∈ ls, 1 ≤ ns.length ∧ ns.length ≤ 4 ∧ ∀ n ∈ ns, isName n
  nd : (ls.map List.head?).Nodup
theorem Wn.path {ls : List (List Str)} (h : Wn ls) {ns : List Str} (hn : ns ∈ ls) : rpB (Txt.join "." ns) = true := by
  obtain ⟨h1, h2, h3⟩ := h.ok ns hn
  exact rp_path.mpr ⟨ns, h1, h2, h3, rfl⟩
theorem Wn.sub {ls l : List (List Str)} (h : Wn ls) (s : l.Sublist ls) : Wn l := ⟨fun ns hn => h.ok ns (s.subset hn), h.nd.sublist (s.map _)⟩
theorem cov_names {a b : List Str} (ha : a ≠ []) (hb : b ≠ []) (na : ∀ n ∈ a, isName n) (nb : ∀ n ∈ b, isName n) : cov (Txt.join "." a) (Txt.join "." b) = decide (b.take a.length = a) := by
  rw [cov_take, split_join_names ha na, split_join_names hb nb]
theorem ovl_names {a b : List Str} (ha : a ≠ []) (hb : b ≠ []) (na : ∀ n ∈ a, isName n) (nb : ∀ n ∈ b, isName n) (hh : a.head? ≠ b.head?) : ovl (Txt.join "." a) (Txt.join "." b) = false := by
  have aux : ∀ {a b : List Str}, a ≠ [] → a.head? ≠ b.head? → ¬ b.take a.length = a := fun {a b} ha hh e => by
    cases a with
    | nil => exact ha rfl
    | cons x a =>
      cases b with
      | nil => cases e
      | cons y b =>
        rw [List.length_cons, List.take_succ_cons] at e
        exact hh (by rw [List.head?_cons, List.head?_cons, (List.cons.inj e).1])
  unfold ovl
  rw [cov_names ha hb na nb, cov_names hb ha nb na, decide_eq_false (aux ha hh), decide_eq_false (aux hb fun e => hh e.symm)]
  rfl
theorem join_one (n : Str) : Txt.join "." [n] = n := by
  refine TL.ext_tl ?_
  show cd _ = cd _
  rw [cd_join]
  rfl
structure Spots (l : List Str) : Prop where
  nd : l.Nodup
  len : l.length ≤ 10
  rp : ∀ s ∈ l, rpB s = true
  two : ∃ a b, a ∈ l ∧ b ∈ l ∧ ∀ s ∈ l, ovl s a = false ∨ ovl s b = false
theorem Spots.asc {l : List Str} (h : Spots l) : ∀ s ∈ l, asc s ∧ s.length ≤ 36 := fun s hs => rp_asc (h.rp s hs)
/-- paths that begin with one of some names -/
structure SpG (nm : List Str) (l : List Str) : Prop where
  nd : l.Nodup
  hd : ∀ s ∈ l, ∃ ns : List Str, ns ≠ [] ∧ ns.length ≤ 4 ∧ (∀ n ∈ ns, isName n) ∧ s = Txt.join "." ns
  ab : ∃ a b, nm[0]? = some a ∧ nm[1]? = some b ∧ a ∈ l ∧ b ∈ l ∧ a ≠ b ∧ isName a ∧ isName b
theorem SpG.spots {nm l : List Str} (h : SpG nm l) (hl : l.length ≤ 10) : Spots l := by
  refine ⟨h.nd, hl, fun s hs => ?_, ?_⟩
  · obtain ⟨ns, h1, h2, h3, rfl⟩ := h.hd s hs
    exact rp_path.mpr ⟨ns, List.length_pos_iff.mpr h1, h2, h3, rfl⟩
  · obtain ⟨a, b, _, _, ha, hb, hn, na, nb⟩ := h.ab
    refine ⟨a, b, ha, hb, fun s hs => ?_⟩
    obtain ⟨ns, h1, h2, h3, rfl⟩ := h.hd s hs
    have key : ∀ c : Str, isName c → ns.head? ≠ some c → ovl (Txt.join "." ns) c = false := fun c hc hh => by
      have := ovl_names (a := ns) (b := [c]) h1 (by simp) h3 (fun n hn => by rw [List.mem_singleton.mp hn]; exact hc) hh
      rwa [join_one] at this
    by_cases e : ns.head? = some a
    · exact .inr (key b nb fun e2 => hn (by rw [e] at e2; exact Option.some.inj e2))
    · exact .inl (key a na e)
/-! _law_rule_of -/
abbrev s__law_rule_of : Stmt := topS 55
theorem sc__law_rule_of : FnScope ["_law_reel_here", "_law_kind", "_law_spots_here", "_law_how", "_law_paths", "_law_cut", "_law_head", "_law_below", "_law_path"] ["_law_reel_here", "_law_kind", "_law_spots_here"] (defScope s__law_rule_of) := ⟨rfl, rfl, rfl, by decide +kernel, rfl, by decide +kernel, by decide +kernel⟩
def Sp__law_rule_of : DSp := fun g ds f Q => ∃ (k : Dk) (kd : Str) (sp : List Str), g = some k ∧ ds = [.any (.ref k.a), .str kd, .lst (sp.map D.str)] ∧ kd ∈ (["forbid", "layers", "stairs", "apart", "only", "face", "noring"] : List Str) ∧ Spots sp ∧ 30 ≤ f ∧
  ∀ (r : Rl) f', r.form → ovlL r.par = false → r.wd = kd → (∀ p ∈ r.par, p ∈ sp) → f ≤ f' + 30 → Q r.d f'
set_option maxHeartbeats 2000000 in
theorem ok__law_rule_of (d : Df K mg "_law_rule_of" s__law_rule_of) (m_tuple : mg "tuple" = none) (m_len : mg "len" = none) (c__law_alone : Cal P w K mg base 3 "_law_alone" ["_law_reel_here", "_law_paths", "_law_limit"] Sp__law_alone) (c__law_pull : Cal P w K mg base 1 "_law_pull" ["_law_reel_here", "_law_many"] Sp__law_pull) (c__law_under : Cal P w K mg base 1 "_law_under" ["_law_path", "_law_other"] Sp__law_under) (c__law_pick : Cal P w K mg base 2 "_law_pick" ["_law_reel_here", "_law_some"] Sp__law_pick) (c__law_rows : Cal P w K mg base 2 "_law_rows" ["_law_reel_here", "_law_paths"] Sp__law_rows) : Cal P w K mg base 4 "_law_rule_of" ["_law_reel_here", "_law_kind", "_law_spots_here"] Sp__law_rule_of := by
  obtain ⟨f, fd, F, m⟩ := d
  refine ⟨f, fd, dfn (k := 3) (S := Sp__law_rule_of) F sc__law_rule_of ?len (fun cdv A outer s H E hr => (dss_cons (ds_par false (i := 3) (j := 4) sc__law_rule_of.nd (de_callC c__law_pick (hr.mono (by decide)) (da_cons (de_v 0) (da_cons (dl_lst (da_cons de_str (da_cons de_str da_nil))).e da_nil))) (de_callC c__law_alone (hr.mono (by decide)) (da_cons (de_v 0) (da_cons (de_v 2) (da_cons (de_add de_int (de_callC c__law_pull (hr.mono (by decide)) (da_cons (de_v 0) (da_cons de_int da_nil)))) da_nil)))))
      (dss_cons (ds_set false (i := 5) sc__law_rule_of.nd (de_add de_int (de_callC c__law_pull (hr.mono (by decide)) (da_cons (de_v 0) (da_cons (de_sub (de_len m_len (da_cons (de_v 4) da_nil)) de_int) da_nil)))))
      (dss_cons (ds_if (dp_eq hr.units (de_v 1) de_str) (dss_one (ds_ret (de_tup (da_cons (de_v 1) (da_cons (de_callTy call_tuple_of sc_tuple (by rfl) m_tuple (by decide +kernel) (da_cons (de_sl (de_v 4) do_none (do_some (de_v 5))) da_nil)) (da_cons (de_callTy call_tuple_of sc_tuple (by rfl) m_tuple (by decide +kernel) (da_cons (de_sl (de_v 4) (do_some (de_v 5)) do_none) da_nil)) (da_cons (de_v 3) da_nil))))))) dss_nil)
      (dss_cons (ds_if (dp_eq hr.units (de_v 1) de_str) (dss_one (ds_ret (de_tup (da_cons (de_v 1) (da_cons (de_callC c__law_rows (hr.mono (by decide)) (da_cons (de_v 0) (da_cons (de_v 4) da_nil))) (da_cons (de_v 3) da_nil)))))) dss_nil)
      (dss_cons (ds_if (dp_eq hr.units (de_v 1) de_str) (dss_one (ds_ret (de_tup (da_cons (de_v 1) (da_cons (de_callC c__law_rows (hr.mono (by decide)) (da_cons (de_v 0) (da_cons (de_v 4) da_nil))) da_nil))))) dss_nil)
      (dss_cons (ds_if (dp_eq hr.units (de_v 1) de_str) (dss_one (ds_ret (de_tup (da_cons (de_v 1) (da_cons (de_callTy call_tuple_of sc_tuple (by rfl) m_tuple (by decide +kernel) (da_cons (de_v 4) da_nil)) (da_cons (de_v 3) da_nil)))))) dss_nil)
      (dss_cons (ds_if (dp_eq hr.units (de_v 1) de_str) (dss_one (ds_ret (de_tup (da_cons (de_v 1) (da_cons (de_callTy call_tuple_of sc_tuple (by rfl) m_tuple (by decide +kernel) (da_cons (de_sl (de_v 4) do_none (do_some (de_v 5))) da_nil)) (da_cons (de_callTy call_tuple_of sc_tuple (by rfl) m_tuple (by decide +kernel) (da_cons (de_sl (de_v 4) (do_some (de_v 5)) (do_some (de_add (de_v 5) (de_callC c__law_pull (hr.mono (by decide)) (da_cons (de_v 0) (da_cons de_int da_nil)))))) da_nil)) da_nil)))))) dss_nil)
      (dss_cons (ds_if (dp_eq hr.units (de_v 1) de_str) (dss_one (ds_ret (de_tup (da_cons (de_v 1) (da_cons (de_callTy call_tuple_of sc_tuple (by rfl) m_tuple (by decide +kernel) (da_cons (de_v 4) da_nil)) da_nil))))) dss_nil)
      (dss_cons (ds_set false (i := 6) sc__law_rule_of.nd (de_callC c__law_pick (hr.mono (by decide)) (da_cons (de_v 0) (da_cons (de_v 2) da_nil))))
      (dss_cons (ds_setLc (i := 7) (own := [("_law_path", 8)]) sc__law_rule_of.nd (di_seq (de_v 2)) (blkOk_by (own := [("_law_path", 8)]) (N := ["_law_reel_here", "_law_kind", "_law_spots_here", "_law_how", "_law_paths", "_law_cut", "_law_head", "_law_below", "_law_path"]) (sc := defScope s__law_rule_of) (by decide +kernel)) (fun _ _ _ _ _ => dg_name (i := 8) sc__law_rule_of.nd) (fun _ _ _ _ _ => dts_one (DW.p (dw_and (dp_ne hr.units (de_v 8) (de_v 6)) (dw_and1 (dp_val (de_callC c__law_under (hr.mono (by decide)) (da_cons (de_v 6) (da_cons (de_v 8) da_nil)))))))) (fun _ _ _ _ _ => (de_v 8)) (fun _ _ _ h => snd_set (m := false) (i := 7) h.e))
      (dss_one (ds_ret (de_tup (da_cons de_str (da_cons (de_v 6) (da_cons (de_callTy call_tuple_of sc_tuple (by rfl) m_tuple (by decide +kernel) (da_cons (de_callC c__law_alone (hr.mono (by decide)) (da_cons (de_v 0) (da_cons (de_v 7) (da_cons (de_callC c__law_pull (hr.mono (by decide)) (da_cons (de_v 0) (da_cons de_int da_nil))) da_nil)))) da_nil)) da_nil))))))))))))))))) ?h, F.kp, F.binds fun _ _ _ _ _ _ us hl => match us, hl with | [_, _, _], _ => rfl, m⟩
  case len =>
    intro g ds n Q h; obtain ⟨_, _, _, _, rfl, _⟩ := h; rfl
  case h =>
    intro g ds n Q h
    obtain ⟨k, kd, sp, rfl, rfl, hkd, hs, hf, q⟩ := h
    obtain ⟨f1, rfl⟩ : ∃ f1, n = f1 + 30 := ⟨n - 30, by omega⟩
    have hsl := hs.len
    have hsa : ∀ p ∈ sp, asc p ∧ p.length ≤ 1000 := fun p hp => ⟨(hs.asc p hp).1, Nat.le_trans (hs.asc p hp).2 (by decide)⟩
    refine ⟨show 2 ≤ lim by decide, .inl ⟨k, _, rfl, rfl, by exact (show 0 < 2 by decide), by exact (show 2 ≤ 100000 by decide), by omega, fun od hod f2 hf2 => ?_⟩⟩
    obtain ⟨ch, rfl⟩ : ∃ ch : Bool, od = .str (howS ch) := by
      simp only [List.mem_cons, List.not_mem_nil, or_false] at hod
      rcases hod with rfl | rfl
      · exact ⟨false, rfl⟩
      · exact ⟨true, rfl⟩
    clear hod
    obtain ⟨f3, rfl⟩ : ∃ f3, f2 = f3 + 1 := ⟨f2 - 1, by omega⟩
    refine ⟨k, 5, f3, rfl, rfl, by decide, by decide, rfl, fun r0 r0a r0b => ?_⟩
    obtain ⟨m, hm⟩ : ∃ m : Nat, 2 + r0 = (m : Int) := ⟨(2 + r0).toNat, by omega⟩
    refine ⟨k, sp, m, rfl, by rw [← hm], by omega, hs.nd, hsa, by omega, fun l f4 l1 l2 l3 l4 l5 hf4 => ?_⟩
    have ll2 : 2 ≤ l.length := by
      obtain ⟨a, b, ha, hb, hab⟩ := hs.two
      by_cases c : l.length < m
      · obtain ⟨x, hx, ex⟩ := l5 c a ha
        obtain ⟨y, hy, ey⟩ := l5 c b hb
        have ne : x ≠ y := fun e => by
          subst e
          rcases hab x (l3 x hx) with h | h
          · rw [h] at ex; cases ex
          · rw [h] at ey; cases ey
        match l, hx, hy with
        | [], hx, _ => cases hx
        | [z], hx, hy => exact absurd ((List.mem_singleton.mp hx).trans (List.mem_singleton.mp hy).symm) ne
        | _ :: _ :: _, _, _ => simp
      · omega
    have ll6 : l.length ≤ 6 := by omega
    have lrp : ∀ p ∈ l, rpB p = true := fun p hp => hs.rp p (l3 p hp)
    have hq : ∀ (r : Rl), r.form → ovlL r.par = false → r.wd = kd → (∀ p ∈ r.par, p ∈ sp) → ∀ f', f4 ≤ f' + 18 → Q r.d f' := fun r h1 h2 h3 h4 f' h => q r f' h1 h2 h3 h4 (by omega)
    clear q
    obtain ⟨f5, rfl⟩ : ∃ f5, f4 = f5 + 1 := ⟨f4 - 1, by omega⟩
    refine ⟨k, ((l.map D.str).length : Int) - 1, f5, rfl, rfl, by rw [List.length_map]; omega, by rw [List.length_map]; omega, rfl, fun r1 r1a r1b => ?_⟩
    rw [List.length_map] at r1b
    obtain ⟨c, hc⟩ : ∃ c : Nat, 1 + r1 = (c : Int) := ⟨(1 + r1).toNat, by omega⟩
    have c1 : 1 ≤ c := by omega
    have c2 : c < l.length := by omega
    unfold oAdd
    dsimp only
    rw [hc]
    simp only [List.set_cons_succ, List.set_cons_zero, setsR, startR, List.map_cons, List.map_nil, List.cons_append, List.nil_append, List.replicate_succ, List.replicate_zero, List.length_cons, List.length_nil, Nat.reduceAdd, Nat.reduceSub]
    have take : cutD (l.map D.str) none (some (c : Int)) = (l.take c).map D.str := by rw [cutD_take, List.map_take]
    have drop : cutD (l.map D.str) (some (c : Int)) none = (l.drop c).map D.str := by rw [cutD_drop', List.map_drop]
    have PS : ∀ (t : List Str) (lo hi : Nat), t.Sublist l → lo ≤ t.length → t.length ≤ hi → rPs lo hi t := fun t lo hi hs h1 h2 => ⟨h1, h2, fun p hp => lrp p (hs.subset hp)⟩
    have tl : (l.take c).length = c := by rw [List.length_take]; omega
    have dl : (l.drop c).length = l.length - c := List.length_drop
    have ltd : l.take c ++ l.drop c = l := List.take_append_drop c l
    show if decide (kd = "forbid") = true then _ else _
    by_cases e1 : kd = "forbid"
    · rw [decide_eq_true e1]
      subst e1
      refine iteT ⟨show 4 ≤ lim by decide, ?_⟩
      show Q (.tup [.str "forbid", .tup (cutD (l.map D.str) none (some (c : Int))), .tup (cutD (l.map D.str) (some (c : Int)) none), .str (howS ch)]) f5
      rw [take, drop]
      refine hq (.forbid _ _ ch) ⟨PS _ 1 6 (List.take_sublist _ _) (by omega) (by omega), PS _ 1 6 (List.drop_sublist _ _) (by omega) (by omega)⟩ ?_ rfl ?_ f5 (by omega)
      · show ovlL (_ ++ _) = false
        rw [ltd]; exact l4
      · intro p hp
        have hp : p ∈ l.take c ++ l.drop c := hp
        rw [ltd] at hp
        exact l3 p hp
    rw [decide_eq_false e1]
    refine iteF ?_
    have rows : ∀ {R : List (List Str) → Prop}, (∀ rows : List (List Str), rRows rows → ovlL rows.flatten = false → (∀ p ∈ rows.flatten, p ∈ sp) → R rows) → ∀ (rows : List (List Str)), rows.flatten = l → 2 ≤ rows.length → rows.length ≤ 5 → (∀ r ∈ rows, 1 ≤ r.length ∧ r.length ≤ 4) → R rows := fun {R} h rows e h2 h5 hr => by
      refine h rows ⟨h2, h5, fun r hr' => ⟨(hr r hr').1, (hr r hr').2, fun p hp => lrp p (by rw [← e]; exact List.mem_flatten.mpr ⟨r, hr', hp⟩)⟩⟩ (by rw [e]; exact l4) (by rw [e]; exact l3)
    show if decide (kd = "layers") = true then _ else _
    by_cases e2 : kd = "layers"
    · rw [decide_eq_true e2]
      subst e2
      refine iteT ⟨k, l, rfl, rfl, ll2, ll6, fun p hp => hsa p (l3 p hp), by omega, fun rs f6 h1 h2 h3 h4 h5 => ?_⟩
      refine ⟨show 3 ≤ lim by decide, rows (R := fun rs => Q (Rl.d (.layers rs ch)) f6) (fun rs h6 h7 h8 => ?_) rs h1 h2 h3 h4⟩
      exact hq (.layers rs ch) h6 h7 rfl h8 f6 (by omega)
    rw [decide_eq_false e2]
    refine iteF ?_
    show if decide (kd = "stairs") = true then _ else _
    by_cases e3 : kd = "stairs"
    · rw [decide_eq_true e3]
      subst e3
      refine iteT ⟨k, l, rfl, rfl, ll2, ll6, fun p hp => hsa p (l3 p hp), by omega, fun rs f6 h1 h2 h3 h4 h5 => ?_⟩
      refine ⟨show 2 ≤ lim by decide, rows (R := fun rs => Q (Rl.d (.stairs rs)) f6) (fun rs h6 h7 h8 => ?_) rs h1 h2 h3 h4⟩
      exact hq (.stairs rs) h6 h7 rfl h8 f6 (by omega)
    rw [decide_eq_false e3]
    refine iteF ?_
    show if decide (kd = "apart") = true then _ else _
    by_cases e4 : kd = "apart"
    · rw [decide_eq_true e4]
      subst e4
      exact iteT ⟨show 3 ≤ lim by decide, hq (.apart l ch) (PS l 2 6 (List.Sublist.refl _) ll2 ll6) l4 rfl l3 f5 (by omega)⟩
    rw [decide_eq_false e4]
    refine iteF ?_
    show if decide (kd = "only") = true then _ else _
    by_cases e5 : kd = "only"
    · rw [decide_eq_true e5]
      subst e5
      obtain ⟨f6, rfl⟩ : ∃ f6, f5 = f6 + 1 := ⟨f5 - 1, by omega⟩
      refine iteT ⟨k, 5, f6, rfl, rfl, by decide, by decide, rfl, fun r2 r2a r2b => ⟨show 3 ≤ lim by decide, ?_⟩⟩
      obtain ⟨u, hu⟩ : ∃ u : Nat, (c : Int) + r2 = ((c + u : Nat) : Int) := ⟨r2.toNat, by omega⟩
      show Q (.tup [.str "only", .tup (cutD (l.map D.str) none (some (c : Int))), .tup (cutD (l.map D.str) (some (c : Int)) (some ((c : Int) + r2)))]) f6
      have cu : cutD (l.map D.str) (some (c : Int)) (some ((c + u : Nat) : Int)) = ((l.drop c).take u).map D.str := by
        unfold cutD
        rw [HT.sIx_nat, HT.sIx_nat, List.length_map, Nat.min_eq_left (by omega : c ≤ l.length), List.map_take, List.map_drop]
        by_cases h : c + u ≤ l.length
        · rw [Nat.min_eq_left h, Nat.add_sub_cancel_left]
        · rw [Nat.min_eq_right (by omega), List.take_of_length_le (by rw [List.length_drop, List.length_map]; omega), List.take_of_length_le (by rw [List.length_drop, List.length_map]; omega)]
      rw [hu, take, cu]
      have el : l.take c ++ (l.drop c).take u = l.take (c + u) := List.take_add.symm
      refine hq (.only _ _) ⟨PS _ 1 6 (List.take_sublist _ _) (by omega) (by omega), PS _ 0 6 ((List.take_sublist _ _).trans (List.drop_sublist _ _)) (Nat.zero_le _) (by rw [List.length_take]; omega)⟩ ?_ rfl ?_ f6 (by omega)
      · show ovlL (_ ++ _) = false
        rw [el]
        exact ovlL_pre (B := l.drop (c + u)) (by rw [List.take_append_drop]; exact l4)
      · intro p hp
        have hp : p ∈ l.take c ++ (l.drop c).take u := hp
        rw [el] at hp
        exact l3 p (List.mem_of_mem_take hp)
    rw [decide_eq_false e5]
    refine iteF ?_
    show if decide (kd = "noring") = true then _ else _
    by_cases e6 : kd = "noring"
    · rw [decide_eq_true e6]
      subst e6
      exact iteT ⟨show 2 ≤ lim by decide, hq (.noring l) (PS l 2 6 (List.Sublist.refl _) ll2 ll6) l4 rfl l3 f5 (by omega)⟩
    rw [decide_eq_false e6]
    refine iteF ?_
    have e7 : kd = "face" := by
      simp only [List.mem_cons, List.not_mem_nil, or_false] at hkd
      rcases hkd with h | h | h | h | h | h | h
      · exact absurd h e1
      · exact absurd h e2
      · exact absurd h e3
      · exact absurd h e4
      · exact absurd h e5
      · exact h
      · exact absurd h e6
    subst e7
    have spos : 0 < sp.length := List.length_pos_of_mem hs.two.choose_spec.choose_spec.1
    refine .inl ⟨k, _, rfl, rfl, by rw [List.length_map]; exact spos, by rw [List.length_map]; omega, by omega, fun d hd f6 hf6 => ?_⟩
    obtain ⟨p, hp, rfl⟩ := List.mem_map.mp hd
    simp only [List.set_cons_succ, List.set_cons_zero, setsR, startR, List.map_cons, List.map_nil, List.cons_append, List.nil_append, List.replicate_succ, List.replicate_zero, List.length_cons, List.length_nil, Nat.reduceAdd, Nat.reduceSub]
    have al := fun x hx => (hsa x hx).2
    refine ⟨by rw [List.length_map]; exact L1 (by omega), ?_⟩
    refine lcF D.str (fun x => !decide (x = p) && cov p x) sp _ (fun x hx => ⟨_, rfl, fun f Q q => ?_, fun _ f Q q => q⟩) ?_
    · show if (xb true (decide (x = p))) = true then _ else _
      by_cases e : x = p
      · rw [decide_eq_true e] at q ⊢
        exact iteF q
      · rw [decide_eq_false e] at q ⊢
        exact iteT ⟨p, x, rfl, Nat.le_trans (al p hp) (by decide), q⟩
    · generalize hB : (sp.filter fun x => !decide (x = p) && cov p x) = B
      have hBs : B.Sublist sp := by rw [← hB]; exact List.filter_sublist
      have hBm : ∀ e ∈ B, cov p e = true ∧ e ≠ p := fun e he => by
        rw [← hB] at he
        have := (List.mem_filter.mp he).2
        rw [Bool.and_eq_true, Bool.not_eq_true', decide_eq_false_iff_not] at this
        exact ⟨this.2, this.1⟩
      have hBl := hBs.length_le
      obtain ⟨f7, rfl⟩ : ∃ f7, f6 = f7 + 1 := ⟨f6 - 1, by omega⟩
      refine ⟨k, 4, f7, rfl, rfl, by decide, by decide, rfl, fun r3 r3a r3b => ?_⟩
      obtain ⟨t, rfl⟩ : ∃ t : Nat, r3 = (t : Int) := ⟨r3.toNat, by omega⟩
      refine ⟨k, B, t, rfl, rfl, by omega, hs.nd.sublist hBs, fun x hx => hsa x (hBs.subset hx), by omega, fun es f8 q1 q2 q3 q4 q5 q6 => ⟨show 3 ≤ lim by decide, ?_⟩⟩
      exact hq (.face p es) ⟨hs.rp p hp, ⟨Nat.zero_le _, by omega, fun e he => hs.rp e (hBs.subset (q3 e he))⟩, fun e he => hBm e (q3 e he)⟩ q4 rfl (fun e he => hBs.subset (q3 e he)) f8 (by omega)
theorem Spots.pos {l : List Str} (h : Spots l) : 0 < l.length := by
  obtain ⟨a, _, ha, _⟩ := h.two
  exact List.length_pos_of_mem ha
/-! _law_spots -/
abbrev s__law_spots : Stmt := topS 52
theorem sc__law_spots : FnScope ["_law_reel_here", "_law_names_here", "_law_found", "_law_turn", "_law_path"] ["_law_reel_here", "_law_names_here"] (defScope s__law_spots) := ⟨rfl, rfl, rfl, by decide +kernel, rfl, by decide +kernel, by decide +kernel⟩
def Sp__law_spots : DSp := fun g ds f Q => ∃ (k : Dk) (nm : List Str), g = some k ∧ ds = [.any (.ref k.a), .lst (nm.map D.str)] ∧ 4 ≤ nm.length ∧ nm.length ≤ 26 ∧ (∀ n ∈ nm, isName n) ∧ nm.Nodup ∧ 25 ≤ f ∧
  ∀ l f', Spots l → f ≤ f' + 25 → Q (.lst (l.map D.str)) f'
set_option maxHeartbeats 2000000 in
theorem ok__law_spots (d : Df K mg "_law_spots" s__law_spots) (m_range : mg "range" = none) (c__law_pull : Cal P w K mg base 1 "_law_pull" ["_law_reel_here", "_law_many"] Sp__law_pull) (c__law_pick : Cal P w K mg base 2 "_law_pick" ["_law_reel_here", "_law_some"] Sp__law_pick) : Cal P w K mg base 3 "_law_spots" ["_law_reel_here", "_law_names_here"] Sp__law_spots := by
  obtain ⟨f, fd, F, m⟩ := d
  refine ⟨f, fd, dfn (k := 2) (S := Sp__law_spots) F sc__law_spots ?len (fun cdv A outer s H E hr => (dss_cons (ds_setL false (i := 2) sc__law_spots.nd (dl_lst (da_cons (de_ix (de_v 1) de_int) (da_cons (de_ix (de_v 1) de_int) da_nil))))
      (dss_cons (ds_for [] PassesOwn.never (di_range1 m_range (da_cons (de_add de_int (de_callC c__law_pull (hr.mono (by decide)) (da_cons (de_v 0) (da_cons de_int da_nil)))) da_nil)) (dg_name (i := 3) sc__law_spots.nd) (dss_cons (ds_set true (i := 4) sc__law_spots.nd (de_add (de_add (de_callC c__law_pick (hr.mono (by decide)) (da_cons (de_v 0) (da_cons (de_v 2) da_nil))) de_str) (de_callC c__law_pick (hr.mono (by decide)) (da_cons (de_v 0) (da_cons (de_sl (de_v 1) do_none (do_some de_int)) da_nil)))))
      (dss_cons (ds_if (dp_eq hr.units (de_callC c__law_pull (hr.mono (by decide)) (da_cons (de_v 0) (da_cons de_int da_nil))) de_int) (dss_one (ds_set false (i := 4) sc__law_spots.nd (de_ix (de_v 1) de_int))) dss_nil)
      (dss_one (ds_if (DW.p (dw_and (dp_notIn hr (de_v 4) (de_v 2)) (dw_and1 (dp_lt (de_count (de_v 4) de_str) de_int)))) (dss_one (ds_app false (i := 2) (de_v 4))) dss_nil)))))
      (dss_one (ds_ret (de_v 2)))))) ?h, F.kp, F.binds fun _ _ _ _ _ _ us hl => match us, hl with | [_, _], _ => rfl, m⟩
  case len =>
    intro g ds n Q h; obtain ⟨_, _, _, rfl, _⟩ := h; rfl
  case h =>
    intro g ds n Q h
    obtain ⟨k, nm, rfl, rfl, h4, h26, hn, hnd, hf, q⟩ := h
    obtain ⟨f1, rfl⟩ : ∃ f1, n = f1 + 1 := ⟨n - 1, by omega⟩
    have hnn : ∀ (j : Nat) (hj : j < nm.length), isName nm[j] := fun j hj => hn _ (List.getElem_mem hj)
    have at' : ∀ (j : Nat) (hj : j < nm.length), atI (nm.map D.str) (j : Int) = some (.str nm[j]) := fun j hj => atI_nat (by rw [List.getElem?_map, List.getElem?_eq_getElem hj]; rfl)
    have l1 : (Str.ofString ".").length = 1 := by decide +kernel
    refine ⟨_, at' 0 (by omega), _, at' 1 (by omega), show 2 ≤ lim by decide, ?_⟩
    simp only [List.set_cons_succ, List.set_cons_zero, setsR, startR, List.map_cons, List.map_nil, List.cons_append, List.nil_append, List.replicate_succ, List.replicate_zero, List.length_cons, List.length_nil, Nat.reduceAdd, Nat.reduceSub]
    refine ⟨k, 7, f1, rfl, rfl, by decide, by decide, rfl, fun r0 r0a r0b => ⟨by omega, by omega, ?_⟩⟩
    generalize hm : (2 + r0).toNat = m
    have hm8 : m ≤ 8 := by omega
    have g0 : SpG nm [nm[0], nm[1]] := by
      have ne : nm[0] ≠ nm[1] := fun e => by have := (List.getElem_inj hnd).mp e; omega
      refine ⟨by simp [ne], fun s hs => ?_, nm[0], nm[1], List.getElem?_eq_getElem (by omega), List.getElem?_eq_getElem (by omega), by simp, by simp, ne, hnn 0 (by omega), hnn 1 (by omega)⟩
      simp only [List.mem_cons, List.not_mem_nil, or_false] at hs
      rcases hs with rfl | rfl
      · exact ⟨[nm[0]], by simp, show 1 ≤ 4 by decide, fun n h => by rw [List.mem_singleton.mp h]; exact hnn 0 (by omega), (join_one _).symm⟩
      · exact ⟨[nm[1]], by simp, show 1 ≤ 4 by decide, fun n h => by rw [List.mem_singleton.mp h]; exact hnn 1 (by omega), (join_one _).symm⟩
    refine dFor_range (fun i r f => ∃ (l : List Str) (x y : Sl), r = [.sh (.any (.ref k.a)), .sh (.lst (nm.map D.str)), .ow (l.map D.str), x, y] ∧ SpG nm l ∧ l.length ≤ 2 + i ∧ f1 ≤ f + 3 * i) 0 m _ _ ?_ ?_ ⟨_, _, _, rfl, g0, Nat.le_refl _, by omega⟩
    · rintro i r f N hi ⟨l, x, y, rfl, hg, hll, hfi⟩ hN
      obtain ⟨f2, rfl⟩ : ∃ f2, f = f2 + 3 := ⟨f - 3, by omega⟩
      refine ⟨_, rfl, ?_⟩
      have lasc : ∀ s ∈ l, asc s ∧ s.length ≤ 36 := fun s hs => by
        obtain ⟨ns, h1, h2, h3, rfl⟩ := hg.hd s hs
        exact rp_asc (rp_path.mpr ⟨ns, List.length_pos_iff.mpr h1, h2, h3, rfl⟩)
      have lpos : 0 < l.length := by
        obtain ⟨a, _, _, _, ha, _⟩ := hg.ab
        exact List.length_pos_of_mem ha
      refine mid2 (fun r f => ∃ (ns : List Str) (x : Sl), r = [.sh (.any (.ref k.a)), .sh (.lst (nm.map D.str)), .ow (l.map D.str), x, .sh (.str (Txt.join "." ns))] ∧ ns ≠ [] ∧ ns.length ≤ 5 ∧ (∀ n ∈ ns, isName n) ∧ f2 ≤ f) ?_ (fun hk => ?_)
      · rintro r f ⟨ns, x, rfl, h1, h2, h3, hf3⟩
        have pn : PathN 5 (Txt.join "." ns) := ⟨ns, List.length_pos_iff.mpr h1, h2, h3, rfl⟩
        have e := count_split (Txt.join "." ns)
        rw [split_join_names h1 h3] at e
        refine ⟨shaped_str pn.asc, shaped_strs (fun s hs => (lasc s hs).1), ?_⟩
        rw [anyS']
        by_cases hi' : Txt.join "." ns ∈ l
        · rw [decide_eq_true hi']
          exact iteF (hN _ _ ⟨l, _, _, rfl, hg, by omega, by omega⟩)
        · rw [decide_eq_false hi']
          refine iteT ⟨trivial, ?_⟩
          show if decide (Txt.count (Txt.join "." ns) "." < 4) = true then _ else _
          by_cases h4' : ns.length ≤ 4
          · rw [decide_eq_true (by omega)]
            refine iteT ⟨_, rfl, by rw [List.length_map]; exact L1 (by omega), hN _ _ ⟨l ++ [Txt.join "." ns], _, _, by rw [List.map_append]; rfl, ⟨?_, fun s hs => ?_, ?_⟩, by rw [List.length_append, List.length_singleton]; omega, by omega⟩⟩
            · rw [List.nodup_append]
              exact ⟨hg.nd, by simp, fun a ha b hb e => hi' (by rw [List.mem_singleton.mp hb] at e; exact e ▸ ha)⟩
            · rcases List.mem_append.mp hs with h | h
              · exact hg.hd s h
              · rw [List.mem_singleton.mp h]; exact ⟨ns, h1, h4', h3, rfl⟩
            · obtain ⟨a, b, q1, q2, q3, q4, q5⟩ := hg.ab
              exact ⟨a, b, q1, q2, List.mem_append_left _ q3, List.mem_append_left _ q4, q5⟩
          · rw [decide_eq_false (by omega)]
            exact iteF (hN _ _ ⟨l, _, _, rfl, hg, by omega, by omega⟩)
      · dsimp only at hk
        refine .inl ⟨k, l.map D.str, rfl, rfl, by rw [List.length_map]; exact lpos, by rw [List.length_map]; omega, by omega, fun d hd f3 hf3 => ?_⟩
        obtain ⟨p, hp, rfl⟩ := List.mem_map.mp hd
        obtain ⟨ns, h1, h2, h3, rfl⟩ := hg.hd p hp
        have hpl := (lasc _ hp).2
        obtain ⟨f4, rfl⟩ : ∃ f4, f3 = f4 + 2 := ⟨f3 - 2, by omega⟩
        refine ⟨L1 (by rw [l1]; omega), .inl ⟨k, _, rfl, rfl, ?_, ?_, by omega, fun d hd f5 hf5 => ?_⟩⟩
        · show 0 < (cutD (nm.map D.str) none (some ((4 : Nat) : Int))).length
          rw [cutD_takeS, List.length_map, List.length_take]; omega
        · show (cutD (nm.map D.str) none (some ((4 : Nat) : Int))).length ≤ 100000
          rw [cutD_takeS, List.length_map, List.length_take]; omega
        · have hd : d ∈ cutD (nm.map D.str) none (some ((4 : Nat) : Int)) := hd
          rw [cutD_takeS] at hd
          obtain ⟨w, hw, rfl⟩ := List.mem_map.mp hd
          have hw := hn w (List.mem_of_mem_take hw)
          have hwl := hw.2.1
          obtain ⟨f6, rfl⟩ : ∃ f6, f5 = f6 + 1 := ⟨f5 - 1, by omega⟩
          refine ⟨L1 (by rw [app_len, l1]; omega), rfl, ?_⟩
          refine ⟨k, 6, f6, rfl, rfl, by decide, by decide, rfl, fun r r0 r1 => ?_⟩
          show if decide (r = 0) = true then _ else _
          by_cases hr : r = 0
          · rw [decide_eq_true hr]
            refine iteT ⟨_, at' 2 (by omega), ?_⟩
            dsimp only
            refine hk _ _ ?_
            exact ⟨[nm[2]], _, by rw [join_one]; try rfl, by simp, show 1 ≤ 5 by decide, fun n h => by rw [List.mem_singleton.mp h]; exact hnn 2 (by omega), by omega⟩
          · rw [decide_eq_false hr]
            refine iteF (nxt ?_)
            dsimp only
            refine hk _ _ ?_
            refine ⟨ns ++ [w], _, by rw [← join_snoc ns w h1]; try rfl, by simp, by rw [List.length_append, List.length_singleton]; omega, fun n h => ?_, by omega⟩
            rcases List.mem_append.mp h with h | h
            · exact h3 n h
            · rw [List.mem_singleton.mp h]; exact hw
    · rintro r f ⟨l, x, y, rfl, hg, hll, hfi⟩
      exact q l f (hg.spots (by omega)) (by omega)
/-! _law_modules -/
abbrev s__law_modules : Stmt := topS 56
theorem sc__law_modules : FnScope ["_law_reel_here", "_law_spots_here", "_law_leaves", "_law_found", "_law_leaf", "_law_head", "_law_path", "_law_one"] ["_law_reel_here", "_law_spots_here", "_law_leaves"] (defScope s__law_modules) := ⟨rfl, rfl, rfl, by decide +kernel, rfl, by decide +kernel, by decide +kernel⟩
theorem PVm.snoc {ms : List Str} {p : Str} (h : PVm ms) (hl : ms.length < 24) (hp : PathN 6 p) (hn : ∀ m ∈ ms, ovl m p = false) : PVm (ms ++ [p]) where
  len := by rw [List.length_append]; exact hl
  path := fun m hm => by
    rcases List.mem_append.mp hm with e | e
    · exact h.path m e
    · rw [List.mem_singleton.mp e]; exact hp
  apart := by
    rw [List.pairwise_append]
    refine ⟨h.apart, by simp, fun a ha b hb => ?_⟩
    rw [List.mem_singleton.mp hb]
    have := hn a ha
    unfold ovl at this ⊢
    rw [Bool.or_comm]
    exact this
theorem pvm_nil : PVm [] := ⟨by decide, by simp, by simp⟩
theorem path_leaf {h l : Str} (hh : rpB h = true) (hl : isName l) : PathN 6 (h ++ "." ++ l) := by
  obtain ⟨ns, n1, n2, n3, rfl⟩ := rp_path.mp hh
  exact ⟨ns ++ [l], by rw [List.length_append]; omega, by rw [List.length_append, List.length_singleton]; omega, fun n hn => (List.mem_append.mp hn).elim (n3 n) (fun e => by rw [List.mem_singleton.mp e]; exact hl), join_snoc ns l (fun e => by rw [e] at n1; exact absurd n1 (by decide))⟩
theorem path_name {s : Str} (h : isName s) : PathN 6 s := ⟨[s], show 1 ≤ 1 by decide, show 1 ≤ 6 by decide, fun n hn => by rw [List.mem_singleton.mp hn]; exact h, by
  have : Txt.join "." [s] = s := by
    refine str_ext ?_
    show cd (Txt.join "." [s]) = cd s
    rw [cd_join]
    rfl
  exact this.symm⟩
def Sp__law_modules : DSp := fun g ds f Q => ∃ (k : Dk) (sp lv : List Str), g = some k ∧ ds = [.any (.ref k.a), .lst (sp.map D.str), .lst (lv.map D.str)] ∧ 0 < sp.length ∧ sp.length ≤ 100 ∧ (∀ s ∈ sp, rpB s = true) ∧ lv.length ≤ 24 ∧ (∀ s ∈ lv, isName s) ∧ 2 * lv.length ≤ f ∧
  ∀ (ms : List Str) f', ms.length ≤ lv.length → PVm ms → f ≤ f' + 2 * lv.length → Q (.lst (ms.map D.str)) f'
set_option maxHeartbeats 2000000 in
theorem ok__law_modules (d : Df K mg "_law_modules" s__law_modules) (c__law_meet : Cal P w K mg base 2 "_law_meet" ["_law_path", "_law_other"] Sp__law_meet) (c__law_pick : Cal P w K mg base 2 "_law_pick" ["_law_reel_here", "_law_some"] Sp__law_pick) : Cal P w K mg base 3 "_law_modules" ["_law_reel_here", "_law_spots_here", "_law_leaves"] Sp__law_modules := by
  obtain ⟨f, fd, F, m⟩ := d
  refine ⟨f, fd, dfn (k := 2) (S := Sp__law_modules) F sc__law_modules ?len (fun cdv A outer s H E hr => (dss_cons (ds_setL false (i := 3) sc__law_modules.nd (dl_lst da_nil))
      (dss_cons (ds_for [] PassesOwn.never (di_seq (de_v 2)) (dg_name (i := 4) sc__law_modules.nd) (dss_cons (ds_set false (i := 5) sc__law_modules.nd (de_callC c__law_pick (hr.mono (by decide)) (da_cons (de_v 0) (da_cons (de_v 1) da_nil))))
      (dss_cons (ds_set false (i := 6) sc__law_modules.nd (de_callC c__law_pick (hr.mono (by decide)) (da_cons (de_v 0) (da_cons (dl_lst (da_cons (de_add (de_add (de_v 5) de_str) (de_v 4)) (da_cons (de_add (de_add (de_v 5) de_str) (de_v 4)) (da_cons (de_v 5) (da_cons (de_v 4) da_nil))))).e da_nil))))
      (dss_cons (ds_if (dp_ne hr.units (dl_lc (own := [("_law_one", 7)]) rfl sc__law_modules.nd (di_seq (de_v 3)) (blkOk_by (own := [("_law_one", 7)]) (N := ["_law_reel_here", "_law_spots_here", "_law_leaves", "_law_found", "_law_leaf", "_law_head", "_law_path", "_law_one"]) (sc := defScope s__law_modules) (by decide +kernel)) (fun _ _ _ _ _ => dg_name (i := 7) sc__law_modules.nd) (fun _ _ _ _ _ => dts_one (dp_val (de_callC c__law_meet (hr.mono (by decide)) (da_cons (de_v 7) (da_cons (de_v 6) da_nil))))) (fun _ _ _ _ _ => (de_v 7))).e (dl_lst da_nil).e) (dss_one (ds_set false (i := 6) sc__law_modules.nd (de_add (de_add (de_v 5) de_str) (de_v 4)))) dss_nil)
      (dss_one (ds_if (dp_eq hr.units (dl_lc (own := [("_law_one", 7)]) rfl sc__law_modules.nd (di_seq (de_v 3)) (blkOk_by (own := [("_law_one", 7)]) (N := ["_law_reel_here", "_law_spots_here", "_law_leaves", "_law_found", "_law_leaf", "_law_head", "_law_path", "_law_one"]) (sc := defScope s__law_modules) (by decide +kernel)) (fun _ _ _ _ _ => dg_name (i := 7) sc__law_modules.nd) (fun _ _ _ _ _ => dts_one (dp_val (de_callC c__law_meet (hr.mono (by decide)) (da_cons (de_v 7) (da_cons (de_v 6) da_nil))))) (fun _ _ _ _ _ => (de_v 7))).e (dl_lst da_nil).e) (dss_one (ds_app false (i := 3) (de_v 6))) dss_nil))))))
      (dss_one (ds_ret (de_v 3)))))) ?h, F.kp, F.binds fun _ _ _ _ _ _ us hl => match us, hl with | [_, _, _], _ => rfl, m⟩
  case len =>
    intro g ds n Q h; obtain ⟨_, _, _, _, rfl, _⟩ := h; rfl
  case h =>
    intro g ds n Q h
    obtain ⟨k, sp, lv, rfl, rfl, h0, hl, hsp, hll, hlv, hf, q⟩ := h
    have l1 : (Str.ofString ".").length = 1 := by decide +kernel
    refine ⟨Nat.zero_le _, ?_⟩
    refine dFor_list D.str (fun done rest r f => ∃ (ms : List Str) (a b c d : Sl), r = [.sh (.any (.ref k.a)), .sh (.lst (sp.map D.str)), .sh (.lst (lv.map D.str)), .ow (ms.map D.str), a, b, c, d] ∧ PVm ms ∧ ms.length ≤ done.length ∧ n ≤ f + 2 * done.length) lv _ _ ?_ ?_ ⟨[], _, _, _, _, rfl, pvm_nil, Nat.le_refl _, Nat.le_refl _⟩
    · rintro done lf rest r f N hx ⟨ms, a, b, c, d, rfl, hv, hl2, hfi⟩ hN
      have hlf : isName lf := hlv lf (by rw [hx]; simp)
      have hdl : done.length < lv.length := by rw [hx, List.length_append, List.length_cons]; omega
      have hlfl := hlf.2.1
      refine ⟨_, rfl, .inl ⟨k, _, rfl, rfl, by rw [List.length_map]; exact h0, by rw [List.length_map]; omega, by omega, fun hd hhd f3 hf3 => ?_⟩⟩
      obtain ⟨h, hh, rfl⟩ := List.mem_map.mp hhd
      obtain ⟨q1, q2⟩ := rp_asc (hsp h hh)
      have c1 : h.length + (Str.ofString ".").length ≤ lim := L1 (by omega)
      have c2 : (h ++ Str.ofString ".").length + lf.length ≤ lim := L1 (by rw [app_len]; omega)
      refine ⟨c1, c2, c1, c2, show 4 ≤ lim by decide, ?_⟩
      refine .inl ⟨k, _, rfl, rfl, by exact (show 0 < 4 by decide), by exact (show 4 ≤ 100000 by decide), by omega, fun pd hpd f4 hf4 => ?_⟩
      obtain ⟨p, rfl, hpp⟩ : ∃ p, pd = .str p ∧ PathN 6 p := by
        simp only [List.mem_cons, List.not_mem_nil, or_false] at hpd
        rcases hpd with rfl | rfl | rfl | rfl
        · exact ⟨_, rfl, path_leaf (hsp h hh) hlf⟩
        · exact ⟨_, rfl, path_leaf (hsp h hh) hlf⟩
        · exact ⟨_, rfl, (rp_path.mp (hsp h hh)).mono (by decide)⟩
        · exact ⟨_, rfl, path_name hlf⟩
      clear hpd
      simp only [List.set_cons_succ, List.set_cons_zero, setsR, startR, List.map_cons, List.map_nil, List.cons_append, List.nil_append, List.replicate_succ, List.replicate_zero, List.length_cons, List.length_nil, Nat.reduceAdd, Nat.reduceSub]
      have hml : ∀ m ∈ ms, m.length ≤ 54 := fun m hm => (hv.path m hm).len
      have msl : (ms.map D.str).length ≤ lim := by rw [List.length_map]; exact L1 (by have := hv.len; omega)
      refine mid (fun r f => ∃ (p : Str) (a b c d : Sl), r = [.sh (.any (.ref k.a)), .sh (.lst (sp.map D.str)), .sh (.lst (lv.map D.str)), .ow (ms.map D.str), a, b, .sh (.str p), d] ∧ PathN 6 p ∧ f4 = f) ?_ (fun hk => ?_)
      · rintro r f ⟨p, a, b, c, d, rfl, hp, rfl⟩
        have hpl : p.length ≤ 54 := hp.len
        refine ⟨msl, ?_⟩
        refine lcF D.str (fun z => ovl z p) ms _ (fun z hz => ⟨_, rfl, fun f Q h => ⟨z, p, rfl, by have := hml z hz; omega, by omega, h⟩, fun _ f Q h => h⟩) ?_
        refine ⟨show 0 ≤ lim by decide, ?_⟩
        show oEq false (.lst ((ms.filter fun z => ovl z p).map D.str)) (.lst (([] : List Str).map D.str)) _
        refine oEq_lst (m := []) (fun s hs => (hv.path s (List.mem_filter.mp hs).1).asc) (by simp) ?_
        show if decide (ms.filter (fun z => ovl z p) = []) = true then _ else _
        by_cases hc : ms.filter (fun z => ovl z p) = []
        · rw [decide_eq_true hc]
          refine iteT ⟨ms.map D.str, rfl, msl, ?_⟩
          refine hN _ _ ⟨ms ++ [p], _, _, _, _, by rw [List.map_append]; rfl, hv.snoc (by omega) hp ((fil_nil _ _).mp hc), by rw [List.length_append, List.length_append]; simp; omega, by rw [List.length_append, List.length_singleton]; omega⟩
        · rw [decide_eq_false hc]
          exact hN _ _ ⟨ms, _, _, _, _, rfl, hv, by rw [List.length_append]; omega, by rw [List.length_append, List.length_singleton]; omega⟩
      · have hpl : p.length ≤ 54 := hpp.len
        refine ⟨msl, ?_⟩
        refine lcF D.str (fun z => ovl z p) ms _ (fun z hz => ⟨_, rfl, fun f Q h => ⟨z, p, rfl, by have := hml z hz; omega, by omega, h⟩, fun _ f Q h => h⟩) ?_
        refine ⟨show 0 ≤ lim by decide, ?_⟩
        show oEq true (.lst ((ms.filter fun z => ovl z p).map D.str)) (.lst (([] : List Str).map D.str)) _
        refine oEq_lst (m := []) (fun s hs => (hv.path s (List.mem_filter.mp hs).1).asc) (by simp) ?_
        show if (!decide (ms.filter (fun z => ovl z p) = [])) = true then _ else _
        by_cases hc : ms.filter (fun z => ovl z p) = []
        · rw [decide_eq_true hc]
          refine iteF (nxt (g := some k) ?_)
          exact hk _ _ ⟨_, _, _, .no, _, rfl, hpp, rfl⟩
        · rw [decide_eq_false hc]
          refine iteT ⟨c1, c2, ?_⟩
          exact hk _ _ ⟨_, _, _, .no, _, rfl, path_leaf (hsp h hh) hlf, rfl⟩
    · rintro r f ⟨ms, a, b, c, d, rfl, hv, hl2, hfi⟩
      exact q ms f hl2 hv hfi
/-! _law_uses -/
abbrev s__law_uses : Stmt := topS 57
theorem sc__law_uses : FnScope ["_law_reel_here", "_law_modules_here", "_law_limit", "_law_found", "_law_tries", "_law_turn", "_law_one", "_law_other"] ["_law_reel_here", "_law_modules_here", "_law_limit"] (defScope s__law_uses) := ⟨rfl, rfl, rfl, by decide +kernel, rfl, by decide +kernel, by decide +kernel⟩
def Sp__law_uses : DSp := fun g ds f Q => ∃ (k : Dk) (ms : List Str) (m : Nat), g = some k ∧ ds = [.any (.ref k.a), .lst (ms.map D.str), .int m] ∧ PVm ms ∧ m ≤ 200 ∧ 2 * m + 2 ≤ f ∧
  ∀ (us : List Us) f', us.length ≤ m → PVu ms us → f ≤ f' + (2 * m + 2) → Q (.lst (us.map pairD)) f'
set_option maxHeartbeats 2000000 in
theorem ok__law_uses (d : Df K mg "_law_uses" s__law_uses) (m_range : mg "range" = none) (m_len : mg "len" = none) (m_int : mg "int" = none) (c__law_pick : Cal P w K mg base 2 "_law_pick" ["_law_reel_here", "_law_some"] Sp__law_pick) (c__law_pull : Cal P w K mg base 1 "_law_pull" ["_law_reel_here", "_law_many"] Sp__law_pull) : Cal P w K mg base 3 "_law_uses" ["_law_reel_here", "_law_modules_here", "_law_limit"] Sp__law_uses := by
  obtain ⟨f, fd, F, m⟩ := d
  refine ⟨f, fd, dfn (k := 2) (S := Sp__law_uses) F sc__law_uses ?len (fun cdv A outer s H E hr => (dss_cons (ds_setL false (i := 3) sc__law_uses.nd (dl_lst da_nil))
      (dss_cons (ds_set false (i := 4) sc__law_uses.nd (de_callC c__law_pick (hr.mono (by decide)) (da_cons (de_v 0) (da_cons (dl_lst (da_cons (de_v 2) (da_cons (de_callC c__law_pull (hr.mono (by decide)) (da_cons (de_v 0) (da_cons (de_add (de_v 2) de_int) da_nil))) da_nil))).e da_nil))))
      (dss_cons (ds_for [] PassesOwn.never (di_range1 m_range (da_cons (de_mul (de_v 4) (de_callTy call_int1 sc_int (by rfl) m_int PyProof.Rows.boot_int (da_cons (de_gt (de_len m_len (da_cons (de_v 1) da_nil)) de_int) da_nil))) da_nil)) (dg_name (i := 5) sc__law_uses.nd) (dss_cons (ds_par false (i := 6) (j := 7) sc__law_uses.nd (de_callC c__law_pick (hr.mono (by decide)) (da_cons (de_v 0) (da_cons (de_v 1) da_nil))) (de_callC c__law_pick (hr.mono (by decide)) (da_cons (de_v 0) (da_cons (de_v 1) da_nil))))
      (dss_one (ds_if (DW.p (dw_and (dp_ne hr.units (de_v 6) (de_v 7)) (dw_and1 (dp_notIn hr (de_tup (da_cons (de_v 6) (da_cons (de_v 7) da_nil))) (de_v 3))))) (dss_one (ds_app false (i := 3) (de_tup (da_cons (de_v 6) (da_cons (de_v 7) da_nil))))) dss_nil))))
      (dss_one (ds_ret (de_v 3))))))) ?h, F.kp, F.binds fun _ _ _ _ _ _ us hl => match us, hl with | [_, _, _], _ => rfl, m⟩
  case len =>
    intro g ds n Q h; obtain ⟨_, _, _, _, rfl, _⟩ := h; rfl
  case h =>
    intro g ds n Q h
    obtain ⟨k, ms, m, rfl, rfl, hv, hm, hf, q⟩ := h
    obtain ⟨f2, rfl⟩ : ∃ f2, n = f2 + 2 := ⟨n - 2, by omega⟩
    have hml : (ms.map D.str).length = ms.length := List.length_map _
    refine ⟨Nat.zero_le _, k, (m : Int) + 1, f2 + 1, rfl, rfl, by omega, by omega, rfl, fun r0 r0a r0b => ⟨show 2 ≤ lim by decide, ?_⟩⟩
    refine .inl ⟨k, _, rfl, rfl, by exact (show 0 < 2 by decide), by exact (show 2 ≤ 100000 by decide), by omega, fun vd hvd f3 hf3 => ?_⟩
    obtain ⟨v, rfl, hv2⟩ : ∃ v : Int, vd = .int v ∧ 0 ≤ v ∧ v ≤ m := by
      simp only [List.mem_cons, List.not_mem_nil, or_false] at hvd
      rcases hvd with rfl | rfl
      · exact ⟨_, rfl, by omega, by omega⟩
      · exact ⟨_, rfl, by omega, by omega⟩
    clear hvd
    simp only [List.set_cons_succ, List.set_cons_zero, setsR, startR, List.map_cons, List.map_nil, List.cons_append, List.nil_append, List.replicate_succ, List.replicate_zero, List.length_cons, List.length_nil, Nat.reduceAdd, Nat.reduceSub]
    show CMul v (if decide ((1 : Int) < ((ms.map D.str).length : Int)) then 1 else 0) ∧ _
    rw [hml]
    have hw : ∃ w : Nat, v * (if decide ((1 : Int) < (ms.length : Int)) = true then 1 else 0) = (w : Int) ∧ w ≤ m ∧ (0 < w → 2 ≤ ms.length) := by
      by_cases hc : (1 : Int) < (ms.length : Int)
      · rw [if_pos (decide_eq_true hc), Int.mul_one]
        exact ⟨v.toNat, by omega, by omega, fun _ => by omega⟩
      · rw [if_neg (by rw [decide_eq_false hc]; exact Bool.false_ne_true), Int.mul_zero]
        exact ⟨0, rfl, Nat.zero_le _, fun h => absurd h (by decide)⟩
    obtain ⟨w, ew, w1, w2⟩ := hw
    refine ⟨.inl ⟨by omega, by omega⟩, ?_⟩
    show (_ ∧ _ ∧ _)
    rw [ew]
    refine ⟨by omega, by omega, ?_⟩
    rw [show ((w : Int)).toNat = w from rfl]
    refine dFor_range (fun i r f => ∃ (us : List Us) (a b c d4 : Sl), r = [.sh (.any (.ref k.a)), .sh (.lst (ms.map D.str)), .sh (.int m), .ow (us.map pairD), a, b, c, d4] ∧ PVu ms us ∧ us.length ≤ i ∧ f2 ≤ f + 2 * i) 0 _ _ _ ?_ ?_ ⟨[], _, _, _, _, rfl, ⟨by decide, by simp, by simp⟩, Nat.le_refl _, by omega⟩
    · rintro i r f N hi ⟨us, a, b, c, d4, rfl, hu, hl, hfi⟩ hN
      have h2 : 2 ≤ ms.length := w2 (by omega)
      refine ⟨_, rfl, .inl ⟨k, _, rfl, rfl, by rw [hml]; omega, by rw [hml]; have := hv.len; omega, by omega, fun xd hxd f4 hf4 => ?_⟩⟩
      obtain ⟨x, hx, rfl⟩ := List.mem_map.mp hxd
      refine .inl ⟨k, _, rfl, rfl, by rw [hml]; omega, by rw [hml]; have := hv.len; omega, by omega, fun yd hyd f5 hf5 => ?_⟩
      obtain ⟨y, hy, rfl⟩ := List.mem_map.mp hyd
      show if (!decide (x = y)) = true then _ else _
      have ax := (hv.path x hx).asc
      have ay := (hv.path y hy).asc
      have hasc := hu.asc hv
      by_cases hxy : x = y
      · rw [decide_eq_true hxy]
        exact hN _ _ ⟨us, _, _, _, _, rfl, hu, by omega, by omega⟩
      · rw [decide_eq_false hxy]
        refine iteT ⟨show 2 ≤ lim by decide, ?_⟩
        refine ⟨shaped_pair (u := (x, y)) ⟨ax, ay⟩, shpU hasc, ?_⟩
        rw [anyU']
        show if (!decide ((x, y) ∈ us)) = true then _ else _
        by_cases hin : (x, y) ∈ us
        · rw [decide_eq_true hin]
          exact hN _ _ ⟨us, _, _, _, _, rfl, hu, by omega, by omega⟩
        · rw [decide_eq_false hin]
          refine iteT ⟨us.map pairD, rfl, show 2 ≤ lim by decide, by rw [List.length_map]; exact L1 (by have := hu.len; omega), ?_⟩
          refine hN _ _ ⟨us ++ [(x, y)], _, _, _, _, by rw [List.map_append]; rfl, ⟨by rw [List.length_append]; simp; omega, fun u hu' => ?_, ?_⟩, by rw [List.length_append]; simp; omega, by omega⟩
          · rcases List.mem_append.mp hu' with e | e
            · exact hu.mem u e
            · rw [List.mem_singleton.mp e]; exact ⟨hx, hy, hxy⟩
          · rw [List.nodup_append]
            refine ⟨hu.nd, by simp, fun a ha b hb e => ?_⟩
            rw [List.mem_singleton.mp hb] at e
            exact hin (e ▸ ha)
    · rintro r f ⟨us, a, b, c, d4, rfl, hu, hl, hfi⟩
      exact q us f (by omega) hu (by omega)
/-! _law_case -/
abbrev s__law_case : Stmt := topS 59
theorem sc__law_case : FnScope ["_law_reel_here", "_law_names_here", "_law_spots_here", "_law_many", "_law_modules_here"] ["_law_reel_here"] (defScope s__law_case) := ⟨rfl, rfl, rfl, by decide +kernel, rfl, by decide +kernel, by decide +kernel⟩
def Sp__law_case : DSp := fun g ds f Q => ∃ (k : Dk), g = some k ∧ ds = [.any (.ref k.a)] ∧ 400 ≤ f ∧
  ∀ (sp ms : List Str) (us : List Us) f', Spots sp → ms.length ≤ 8 → PVm ms → us.length ≤ 20 → PVu ms us → f ≤ f' + 400 → Q (.tup [.lst (sp.map D.str), .lst (ms.map D.str), .lst (us.map pairD)]) f'
set_option maxHeartbeats 2000000 in
theorem ok__law_case (d : Df K mg "_law_case" s__law_case) (c__law_uses : Cal P w K mg base 3 "_law_uses" ["_law_reel_here", "_law_modules_here", "_law_limit"] Sp__law_uses) (c__law_modules : Cal P w K mg base 3 "_law_modules" ["_law_reel_here", "_law_spots_here", "_law_leaves"] Sp__law_modules) (c__law_pick : Cal P w K mg base 2 "_law_pick" ["_law_reel_here", "_law_some"] Sp__law_pick) (c__law_pull : Cal P w K mg base 1 "_law_pull" ["_law_reel_here", "_law_many"] Sp__law_pull) (c__law_spots : Cal P w K mg base 3 "_law_spots" ["_law_reel_here", "_law_names_here"] Sp__law_spots) (c__law_names : Cal P w K mg base 3 "_law_names" ["_law_reel_here", "_law_many"] Sp__law_names) : Cal P w K mg base 4 "_law_case" ["_law_reel_here"] Sp__law_case := by
  obtain ⟨f, fd, F, m⟩ := d
  refine ⟨f, fd, dfn (k := 3) (S := Sp__law_case) F sc__law_case ?len (fun cdv A outer s H E hr => (dss_cons (ds_set false (i := 1) sc__law_case.nd (de_callC c__law_names (hr.mono (by decide)) (da_cons (de_v 0) (da_cons de_int da_nil))))
      (dss_cons (ds_set false (i := 2) sc__law_case.nd (de_callC c__law_spots (hr.mono (by decide)) (da_cons (de_v 0) (da_cons (de_v 1) da_nil))))
      (dss_cons (ds_set false (i := 3) sc__law_case.nd (de_callC c__law_pick (hr.mono (by decide)) (da_cons (de_v 0) (da_cons (dl_lst (da_cons de_int (da_cons de_int (da_cons (de_callC c__law_pull (hr.mono (by decide)) (da_cons (de_v 0) (da_cons de_int da_nil))) da_nil)))).e da_nil))))
      (dss_cons (ds_set false (i := 4) sc__law_case.nd (de_callC c__law_modules (hr.mono (by decide)) (da_cons (de_v 0) (da_cons (de_v 2) (da_cons (de_sl (de_v 1) (do_some de_int) (do_some (de_add de_int (de_v 3)))) da_nil)))))
      (dss_one (ds_ret (de_tup (da_cons (de_v 2) (da_cons (de_v 4) (da_cons (de_callC c__law_uses (hr.mono (by decide)) (da_cons (de_v 0) (da_cons (de_v 4) (da_cons de_int da_nil)))) da_nil))))))))))) ?h, F.kp, F.binds fun _ _ _ _ _ _ us hl => match us, hl with | [_], _ => rfl, m⟩
  case len =>
    intro g ds n Q h; obtain ⟨_, _, rfl, _⟩ := h; rfl
  case h =>
    intro g ds n Q h
    obtain ⟨k, rfl, rfl, hf, q⟩ := h
    refine ⟨k, 14, rfl, rfl, by decide, by omega, fun nm f1 hnl hn hnd hf1 => ?_⟩
    refine ⟨k, nm, rfl, rfl, by omega, by omega, hn, hnd, by omega, fun sp f2 hs hf2 => ?_⟩
    simp only [List.set_cons_succ, List.set_cons_zero, setsR, startR, List.map_cons, List.map_nil, List.cons_append, List.nil_append, List.replicate_succ, List.replicate_zero, List.length_cons, List.length_nil, Nat.reduceAdd, Nat.reduceSub]
    obtain ⟨f3, rfl⟩ : ∃ f3, f2 = f3 + 1 := ⟨f2 - 1, by omega⟩
    refine ⟨k, 9, f3, rfl, rfl, by decide, by decide, rfl, fun r r0 r1 => ⟨show 3 ≤ lim by decide, ?_⟩⟩
    refine .inl ⟨k, _, rfl, rfl, by exact (show 0 < 3 by decide), by exact (show 3 ≤ 100000 by decide), by omega, fun vd hvd f4 hf4 => ?_⟩
    obtain ⟨v, rfl, hv⟩ : ∃ v : Nat, vd = .int v ∧ v ≤ 8 := by
      simp only [List.mem_cons, List.not_mem_nil, or_false] at hvd
      rcases hvd with rfl | rfl | rfl
      · exact ⟨6, rfl, by decide⟩
      · exact ⟨8, rfl, by decide⟩
      · exact ⟨r.toNat, by rw [Int.toNat_of_nonneg r0], by omega⟩
    clear hvd
    simp only [List.set_cons_succ, List.set_cons_zero, setsR, startR, List.map_cons, List.map_nil, List.cons_append, List.nil_append, List.replicate_succ, List.replicate_zero, List.length_cons, List.length_nil, Nat.reduceAdd, Nat.reduceSub]
    obtain ⟨lv, hlv, elv⟩ := List.sublist_map_iff.mp (cut_sub (nm.map D.str) (some (5 : Int)) (some ((5 : Int) + (v : Int))))
    have hll : lv.length ≤ v := by
      have h1 : (lv.map D.str).length ≤ v := by
        rw [← elv]
        show (List.take _ _).length ≤ v
        rw [List.length_take]
        have e1 : HT.sIx (nm.map D.str).length 0 (some (5 : Int)) = min 5 (nm.map D.str).length := HT.sIx_nat _ _ 5
        have e2 : HT.sIx (nm.map D.str).length (nm.map D.str).length (some ((5 : Int) + (v : Int))) = min (5 + v) (nm.map D.str).length := HT.sIx_nat _ _ (5 + v)
        rw [e1, e2]
        have : (nm.map D.str).length = 14 := by rw [List.length_map]; exact hnl
        omega
      rwa [List.length_map] at h1
    refine ⟨k, sp, lv, rfl, congrArg (fun z => [D.any (.ref k.a), .lst (sp.map D.str), .lst z]) elv, hs.pos, by have := hs.len; omega, hs.rp, by omega, fun s h => hn s (hlv.subset h), by omega, fun ms f5 hml hm hf5 => ?_⟩
    simp only [List.set_cons_succ, List.set_cons_zero, setsR, startR, List.map_cons, List.map_nil, List.cons_append, List.nil_append, List.replicate_succ, List.replicate_zero, List.length_cons, List.length_nil, Nat.reduceAdd, Nat.reduceSub]
    refine ⟨k, ms, 20, rfl, rfl, hm, by decide, by omega, fun us f6 hul hu hf6 => ⟨show 3 ≤ lim by decide, ?_⟩⟩
    exact q sp ms us f6 hs (by omega) hm hul hu (by omega)
theorem emp_all {α : Type} (b : α → Bool) : ∀ l : List α, (l.filter fun x => !b x).isEmpty = l.all b
  | [] => rfl
  | x :: l => by
    rw [List.filter_cons, List.all_cons]
    cases b x with
    | true => exact emp_all b l
    | false => rfl
/-! _law_same -/
abbrev s__law_same : Stmt := topS 58
theorem sc__law_same : FnScope ["_law_found", "_law_due", "_law_a", "_law_b"] ["_law_found", "_law_due"] (defScope s__law_same) := ⟨rfl, rfl, rfl, by decide +kernel, rfl, by decide +kernel, by decide +kernel⟩
structure Tys (x : D) (tn : String) : Prop where
  t : x.tyN = some tn
  tup : kitB tn "tuple" = some x.isTup
  lst : kitB tn "list" = some x.isLst
  str : kitB tn "str" = some x.isSt
  bl : kitB tn "bool" = some x.isBl
  int : kitB tn "int" = some x.isIn
  tl : ["tuple", "list"].foldr (fun n r => (kitB tn n).bind fun c => if c then some true else r) (some false) = some (x.isTup || x.isLst)
theorem tys_of {x : D} (h : x.tyd = true) : ∃ t, Tys x t := by
  cases x <;> first
    | (cases h; done)
    | (refine ⟨_, rfl, ?_, ?_, ?_, ?_, ?_, ?_⟩ <;> simp only [D.isTup, D.isLst, D.isSt, D.isBl, D.isIn, Bool.or_false, Bool.or_true] <;> decide +kernel)
def SpR__law_same : Nat → DSp
  | 0 => fun _ _ _ _ => False
  | n + 1 => fun g ds f Q => ∃ x y : D, ds = [x, y] ∧ x.tyd = true ∧ y.plain = true ∧ y.dep ≤ n ∧ Q (.bool (deqD x y)) f
def Sp__law_same : DSp := SpR__law_same 7
set_option maxHeartbeats 2000000 in
theorem ok__law_same_step {n : Nat} (d : Df K mg "_law_same" s__law_same) (m_bool : mg "bool" = none) (m_isinstance : mg "isinstance" = none) (m_int : mg "int" = none) (m_str : mg "str" = none) (m_list : mg "list" = none) (m_tuple : mg "tuple" = none) (m_zip : mg "zip" = none) (m_len : mg "len" = none) (c__law_same : Cal P w K mg base (1 + n) "_law_same" ["_law_found", "_law_due"] (SpR__law_same n)) : Cal P w K mg base (1 + n + 1) "_law_same" ["_law_found", "_law_due"] (SpR__law_same (n + 1)) := by
  obtain ⟨f, fd, F, m⟩ := d
  refine ⟨f, fd, dfn (k := 1 + n) (S := SpR__law_same (n + 1)) F sc__law_same ?len (fun cdv A outer s H E hr => (dss_cons (ds_if (dp_val (de_isiT m_isinstance (da_cons (de_v 1) (da_cons (de_tup (da_cons (de_bltn (v := .ty "tuple") (u := .type "tuple") (by rfl) m_tuple (by decide +kernel) rfl) (da_cons (de_bltn (v := .ty "list") (u := .type "list") (by rfl) m_list (by decide +kernel) rfl) da_nil))) da_nil)))) (dss_cons (ds_if (DW.p (dw_or (dp_ne hr.units (de_isi m_isinstance (da_cons (de_v 0) (da_cons (de_bltn (v := .ty "tuple") (u := .type "tuple") (by rfl) m_tuple (by decide +kernel) rfl) da_nil))) (de_isi m_isinstance (da_cons (de_v 1) (da_cons (de_bltn (v := .ty "tuple") (u := .type "tuple") (by rfl) m_tuple (by decide +kernel) rfl) da_nil)))) (dw_or1 (dp_ne hr.units (de_isi m_isinstance (da_cons (de_v 0) (da_cons (de_bltn (v := .ty "list") (u := .type "list") (by rfl) m_list (by decide +kernel) rfl) da_nil))) (de_isi m_isinstance (da_cons (de_v 1) (da_cons (de_bltn (v := .ty "list") (u := .type "list") (by rfl) m_list (by decide +kernel) rfl) da_nil))))))) (dss_one (ds_ret de_bl)) dss_nil)
      (dss_one (ds_ret (de_and (de_eq hr.units (de_len m_len (da_cons (de_v 0) da_nil)) (de_len m_len (da_cons (de_v 1) da_nil))) (de_one (de_eqE hr.units (dl_lc (own := [("_law_a", 2), ("_law_b", 3)]) rfl sc__law_same.nd (di_zip m_zip (da_cons (de_v 0) (da_cons (de_v 1) da_nil))) (blkOk_by (own := [("_law_a", 2), ("_law_b", 3)]) (N := ["_law_found", "_law_due", "_law_a", "_law_b"]) (sc := defScope s__law_same) (by decide +kernel)) (fun _ _ _ _ _ => dg_tup rfl (dgs_cons (dg_name (i := 2) sc__law_same.nd) (dgs_cons (dg_name (i := 3) sc__law_same.nd) dgs_nil))) (fun _ _ _ _ _ => dts_one (dp_not (dp_val (de_callC c__law_same hr (da_cons (de_v 2) (da_cons (de_v 3) da_nil)))))) (fun _ _ _ _ _ => de_int)).e (dl_lst da_nil).e)))))) dss_nil)
      (dss_cons (ds_if (dp_isN (de_v 1) de_non) (dss_one (ds_ret (de_isN (de_v 0) de_non))) dss_nil)
      (dss_cons (ds_if (dp_val (de_isi m_isinstance (da_cons (de_v 1) (da_cons (de_bltn (v := .ty "str") (u := .type "str") (by rfl) m_str (by decide +kernel) rfl) da_nil)))) (dss_one (ds_ret (de_and (de_isi m_isinstance (da_cons (de_v 0) (da_cons (de_bltn (v := .ty "str") (u := .type "str") (by rfl) m_str (by decide +kernel) rfl) da_nil))) (de_one (de_eq hr.units (de_v 0) (de_v 1)))))) dss_nil)
      (dss_one (ds_ret (de_and (de_isi m_isinstance (da_cons (de_v 0) (da_cons (de_bltn (v := .ty "int") (u := .type "int") (by rfl) m_int (by decide +kernel) rfl) da_nil))) (de_and (de_eq hr.units (de_isi m_isinstance (da_cons (de_v 0) (da_cons (de_bltn (v := .ty "bool") (u := .type "bool") (by rfl) m_bool (by decide +kernel) rfl) da_nil))) (de_isi m_isinstance (da_cons (de_v 1) (da_cons (de_bltn (v := .ty "bool") (u := .type "bool") (by rfl) m_bool (by decide +kernel) rfl) da_nil)))) (de_one (de_eq hr.units (de_v 0) (de_v 1))))))))))) ?h, F.kp, F.binds fun _ _ _ _ _ _ us hl => match us, hl with | [_, _], _ => rfl, m⟩
  case len =>
    intro g ds n Q h
    cases n <;> first | exact h.elim | skip
    all_goals (obtain ⟨_, _, rfl, _⟩ := h; rfl)
  case h =>
    intro g ds n0 Q h
    obtain ⟨x, y, rfl, hx, hy, hd, q⟩ := h
    have hyt : y.tyd = true := D.plain_tyd hy
    obtain ⟨ty, Ty⟩ := tys_of hyt
    obtain ⟨tx, Tx⟩ := tys_of hx
    refine ⟨by decide, ty, ["tuple", "list"], y.isTup || y.isLst, Ty.t, rfl, Ty.tl, ?_⟩
    have seqc : ∀ (xs ys : List D), tydA xs = true → plainA ys = true → depA ys + 1 ≤ n → ∀ (zs acc : List D), (∀ z ∈ zs, ∃ a b, z = .tup [a, b] ∧ a ∈ xs ∧ b ∈ ys) →
        ∀ (r : Sg) (Q' : List D → Nat → Prop), r.length = 4 → Q' (acc ++ (zs.filter fun z => !zeq z).map fun _ => D.int 1) n0 →
        dLcGo g (tgTup [tgN 2, tgN 3]) (dNot (dTest (dCall (SpR__law_same n) (dCons (dVar 2) (dCons (dVar 3) dNil))))) (dC (D.int 1)) r zs acc n0 Q' := by
      intro xs ys hxs hys hdp zs
      induction zs with
      | nil => intro acc _ r Q' _ h; rw [List.filter_nil, List.map_nil, List.append_nil] at h; exact h
      | cons z zs ih =>
        intro acc hz r Q' hr h
        obtain ⟨a, b, rfl, ha, hb⟩ := hz z (by simp)
        obtain ⟨r0, r1, r2, r3, rfl⟩ : ∃ r0 r1 r2 r3, r = [r0, r1, r2, r3] := by
          match r, hr with
          | [r0, r1, r2, r3], _ => exact ⟨r0, r1, r2, r3, rfl⟩
        obtain ⟨n, rfl⟩ : ∃ n', n = n' + 1 := ⟨n - 1, by omega⟩
        refine ⟨a, b, rfl, tydA_mem hxs ha, plainA_mem hys hb, Nat.le_trans (depA_mem hb) (by omega), ?_⟩
        show if (!deqD a b) = true then _ else _
        have ez : zeq (.tup [a, b]) = deqD a b := rfl
        rw [List.filter_cons, ez] at h
        cases hq : deqD a b with
        | true =>
          rw [hq] at h
          exact iteF (ih acc (fun z hz' => hz z (by simp [hz'])) _ Q' rfl h)
        | false =>
          rw [hq] at h
          refine iteT (ih (acc ++ [D.int 1]) (fun z hz' => hz z (by simp [hz'])) _ Q' rfl ?_)
          rw [List.append_assoc]
          exact h
    have zmem : ∀ (xs ys : List D), ∀ z ∈ zipD xs ys, ∃ a b, z = .tup [a, b] ∧ a ∈ xs ∧ b ∈ ys := fun xs ys z hz => by
      unfold zipD at hz
      obtain ⟨p, hp, rfl⟩ := List.mem_map.mp hz
      exact ⟨p.1, p.2, rfl, (List.of_mem_zip hp).1, (List.of_mem_zip hp).2⟩
    have zall : ∀ (xs ys : List D), xs.length = ys.length → (zipD xs ys).all zeq = deqA xs ys := fun xs ys h => by
      rw [deqA_all h]
      unfold zipD
      rw [List.all_map]
      rfl
    have fin : ∀ (xs ys : List D) (x y : D), tydA xs = true → plainA ys = true → depA ys + 1 ≤ n → ys.length ≤ 100000 → xs.length = ys.length → Q (.bool (deqA xs ys)) n0 →
        ((zipD xs ys).length ≤ lim ∧ dLcGo g (tgTup [tgN 2, tgN 3]) (dNot (dTest (dCall (SpR__law_same n) (dCons (dVar 2) (dCons (dVar 3) dNil))))) (dC (D.int 1)) [.sh x, .sh y, .no, .no] (zipD xs ys) [] n0 fun ds f1 => ([] : List D).length ≤ lim ∧ oEqE false (.lst ds) (.lst []) fun z => Q z f1) := by
      intro xs ys x y h1 h2 h3 h4 h5 h6
      refine ⟨by rw [zipD_len]; exact Nat.le_trans (Nat.min_le_right _ _) (Nat.le_trans h4 (by decide)), ?_⟩
      refine seqc xs ys h1 h2 h3 (zipD xs ys) [] (zmem xs ys) _ _ rfl ⟨Nat.zero_le _, _, rfl, rfl, ?_⟩
      rw [List.nil_append]
      show Q (.bool (((zipD xs ys).filter fun z => !zeq z).map (fun _ => D.int 1)).isEmpty) n0
      rw [List.isEmpty_map, emp_all, zall xs ys h5]
      exact h6
    cases y with
    | none =>
      cases x <;> first | (cases hx; done) | exact q
    | str b =>
      cases x <;> first
        | (cases hx; done)
        | exact ⟨_, _, Ty.t, Ty.str, _, _, Tx.t, Tx.str, q⟩
    | bool b =>
      cases x <;> first
        | (cases hx; done)
        | exact ⟨_, _, Ty.t, Ty.str, _, _, Tx.t, Tx.int, q⟩
        | exact ⟨_, _, Ty.t, Ty.str, _, _, Tx.t, Tx.int, _, _, Tx.t, Tx.bl, _, _, Ty.t, Ty.bl, q⟩
    | int b =>
      cases x <;> first
        | (cases hx; done)
        | exact ⟨_, _, Ty.t, Ty.str, _, _, Tx.t, Tx.int, q⟩
        | exact ⟨_, _, Ty.t, Ty.str, _, _, Tx.t, Tx.int, _, _, Tx.t, Tx.bl, _, _, Ty.t, Ty.bl, q⟩
    | tup ys =>
      have hp := Bool.and_eq_true_iff.mp hy
      cases x with
      | tup xs =>
        refine ⟨_, _, Tx.t, Tx.tup, _, _, Ty.t, Ty.tup, _, _, Tx.t, Tx.lst, _, _, Ty.t, Ty.lst, ?_⟩
        show if decide ((xs.length : Int) = (ys.length : Int)) = true then _ else _
        by_cases hl : (xs.length : Int) = (ys.length : Int)
        · rw [decide_eq_true hl]
          exact iteT (fin xs ys _ _ hx hp.2 hd (of_decide_eq_true hp.1) (by omega) q)
        · rw [decide_eq_false hl]
          refine iteF ?_
          have := deqA_len (xs := xs) (ys := ys) (fun e => hl (by rw [e]))
          rw [show deqD (.tup xs) (.tup ys) = deqA xs ys from rfl, this] at q
          exact q
      | dtt _ _ => cases hx
      | ktup _ => cases hx
      | obj _ _ _ => cases hx
      | exn _ _ _ => cases hx
      | any _ => cases hx
      | _ => exact ⟨_, _, Tx.t, Tx.tup, _, _, Ty.t, Ty.tup, q⟩
    | lst ys =>
      have hp := Bool.and_eq_true_iff.mp hy
      cases x with
      | lst xs =>
        refine ⟨_, _, Tx.t, Tx.tup, _, _, Ty.t, Ty.tup, _, _, Tx.t, Tx.lst, _, _, Ty.t, Ty.lst, ?_⟩
        show if decide ((xs.length : Int) = (ys.length : Int)) = true then _ else _
        by_cases hl : (xs.length : Int) = (ys.length : Int)
        · rw [decide_eq_true hl]
          exact iteT (fin xs ys _ _ hx hp.2 hd (of_decide_eq_true hp.1) (by omega) q)
        · rw [decide_eq_false hl]
          refine iteF ?_
          have := deqA_len (xs := xs) (ys := ys) (fun e => hl (by rw [e]))
          rw [show deqD (.lst xs) (.lst ys) = deqA xs ys from rfl, this] at q
          exact q
      | tup xs => exact ⟨_, _, Tx.t, Tx.tup, _, _, Ty.t, Ty.tup, q⟩
      | dtt _ _ => cases hx
      | ktup _ => cases hx
      | obj _ _ _ => cases hx
      | exn _ _ _ => cases hx
      | any _ => cases hx
      | _ => exact ⟨_, _, Tx.t, Tx.tup, _, _, Ty.t, Ty.tup, _, _, Tx.t, Tx.lst, _, _, Ty.t, Ty.lst, q⟩
    | _ => cases hy
theorem ok__law_same (d : Df K mg "_law_same" s__law_same) (m_bool : mg "bool" = none) (m_isinstance : mg "isinstance" = none) (m_int : mg "int" = none) (m_str : mg "str" = none) (m_list : mg "list" = none) (m_tuple : mg "tuple" = none) (m_zip : mg "zip" = none) (m_len : mg "len" = none) : Cal P w K mg base 8 "_law_same" ["_law_found", "_law_due"] Sp__law_same := by
  have all : ∀ n, Cal P w K mg base (1 + n) "_law_same" ["_law_found", "_law_due"] (SpR__law_same n) := by
    intro n
    induction n with
    | zero => exact cal_noneK 0 d (fun f fd F => F.binds fun _ _ _ _ _ _ us hl => match us, hl with | [_, _], _ => rfl) ⟨_, sc__law_same⟩
    | succ n ih => exact ok__law_same_step d m_bool m_isinstance m_int m_str m_list m_tuple m_zip m_len ih
  exact all 7
theorem pairD_plain (u : Us) : (pairD u).plain = true ∧ (pairD u).dep ≤ 1 := ⟨rfl, Nat.le_refl _⟩
theorem tpU_plain {w : List Us} (h : w.length ≤ 1000) : (tpU w).plain = true ∧ (tpU w).dep ≤ 2 := by
  obtain ⟨h1, h2⟩ := plainA_of pairD 1 w fun u _ => pairD_plain u
  refine ⟨?_, Nat.succ_le_succ h2⟩
  show (decide ((w.map pairD).length ≤ 100000) && plainA (w.map pairD)) = true
  rw [h1, List.length_map, decide_eq_true (by omega)]; rfl
theorem lstU_plain {l : List (List Us)} (hl : l.length ≤ 1000) (h : ∀ w ∈ l, w.length ≤ 1000) : (D.lst (l.map tpU)).plain = true ∧ (D.lst (l.map tpU)).dep ≤ 6 := by
  obtain ⟨h1, h2⟩ := plainA_of tpU 2 l fun w hw => tpU_plain (h w hw)
  refine ⟨?_, Nat.le_trans (Nat.succ_le_succ h2) (by decide)⟩
  show (decide ((l.map tpU).length ≤ 100000) && plainA (l.map tpU)) = true
  rw [h1, List.length_map, decide_eq_true (by omega)]; rfl
theorem oU_plain {o : Option (List Us)} (h : ∀ w, o = some w → w.length ≤ 1000) : (oU o).plain = true ∧ (oU o).dep ≤ 6 := by
  cases o with
  | none => exact ⟨rfl, Nat.zero_le _⟩
  | some w => exact ⟨(tpU_plain (h w rfl)).1, Nat.le_trans (tpU_plain (h w rfl)).2 (by decide)⟩
theorem same_id {g : Option Dk} {x : D} {f : Nat} {Q : QD} (h : x.plain = true ∧ x.dep ≤ 6) (q : Q (.bool true) f) : Sp__law_same g [x, x] f Q := ⟨x, x, rfl, D.plain_tyd h.1, h.1, h.2, by rw [deqD_refl x h.1]; exact q⟩
abbrev s__law_reel : Stmt := topS 44
theorem sc__law_reel : FnScope ["_law_script", "_law_great", "_law_small", "_law_number"] ["_law_script"] (defScope s__law_reel) := ⟨rfl, rfl, rfl, by decide +kernel, rfl, by decide +kernel, by decide +kernel⟩
theorem ok__law_reel (d : Df K mg "_law_reel" s__law_reel) (m_len : mg "len" = none) (m_abs : mg "abs" = none) (m_int : mg "int" = none) : CalDn "_law_reel" P w K mg base := by
  obtain ⟨f, fd, F, mm⟩ := d
  refine ⟨f, fd, ?_, F.kp, F.binds fun _ _ _ _ _ _ us hl => match us, hl with | [_], _ => rfl, mm⟩
  refine F.ok sc__law_reel (fun vs H Q E h => ?_) (fun cdv A outer s H vs Q E hr h => ?_)
  · obtain ⟨a, ns, rfl, _⟩ := h
    rfl
  · obtain ⟨a, ns, rfl, hS, hlen, q⟩ := h
    refine ⟨_, pss_cons (ps_setLc (i := 1) (own := [("_law_number", 3)]) (g := gName 3) rfl sc__law_reel.nd rfl rfl (sw_true rfl rfl rfl (by decide +kernel)) (pi_list (pe_slice sl_list (pv 0) po_none (po_some pe_int))) (blkOk_by (N := ["_law_script", "_law_great", "_law_small", "_law_number"]) (sc := defScope s__law_reel) (by decide +kernel))
        (fun _ _ _ _ _ => pg_name (i := 3) sc__law_reel.nd rfl (Or.inl rfl)) (fun _ _ _ _ _ => pts_one (pt_cmpR op_ge (pe_callB call_abs (by rfl) m_abs (by decide +kernel) (pa_cons (pv 3) pa_nil)) (pe_op op_pow pe_int pe_int) (nomark _))) (fun _ _ _ _ _ => pe_callB call_abs (by rfl) m_abs (by decide +kernel) (pa_cons (pv 3) pa_nil)))
      (pss_cons (ps_setLc (i := 2) (own := [("_law_number", 3)]) (g := gName 3) rfl sc__law_reel.nd rfl rfl (sw_true rfl rfl rfl (by decide +kernel)) (pi_list (pe_slice sl_list (pv 0) po_none (po_some pe_int))) (blkOk_by (N := ["_law_script", "_law_great", "_law_small", "_law_number"]) (sc := defScope s__law_reel) (by decide +kernel))
        (fun _ _ _ _ _ => pg_name (i := 3) sc__law_reel.nd rfl (Or.inl rfl)) (fun _ _ _ _ _ => pts_one (pt_cmpR op_lt (pe_callB call_abs (by rfl) m_abs (by decide +kernel) (pa_cons (pv 3) pa_nil)) (pe_op op_pow pe_int pe_int) (nomark _)))
        (fun _ _ _ _ _ => pe_op op_add (pe_op op_mul pe_int (pe_callB call_abs (by rfl) m_abs (by decide +kernel) (pa_cons (pv 3) pa_nil))) (pe_callTy call_int1 (by rfl) m_int PyProof.Rows.boot_int (pa_cons (pe_cmpR op_lt (pv 3) pe_int (nomark _)) pa_nil))))
      (pss_one (ps_ret (pe_lst (pa_cons (pv 1)
        (pa_cons (pe_op op_cat (pv 2) (pe_lst (pa_cons (pe_op op_add (pe_callB call_len_seq (by rfl) m_len PySem.boot_len (pa_cons (pv 0) pa_nil)) pe_int) pa_nil)))
        (pa_cons pe_int pa_nil))))))), ?_⟩
    have ab : ∀ i : Int, 0 ≤ (if i < 0 then -i else i) := fun i => by split <;> omega
    have lt : (ns.take 63).length ≤ 63 := by rw [List.length_take]; omega
    -- the great ones
    refine ⟨.ref a, rfl, 63, rfl, a, _, rfl, hS, fun p1 hp1 => ?_⟩
    rw [cut_ints]
    generalize hms : ns.take 63 = ms at lt
    have e1 : upd H p1 (.lst (ms.map V.int)) p1 = some (.lst (ms.map V.int)) := upd_same
    have sp1 : Same H (upd H p1 (.lst (ms.map V.int))) := same_upd hp1
    generalize upd H p1 (.lst (ms.map V.int)) = H1 at e1 sp1
    refine ⟨p1, rfl, ⟨_, SqL.of e1⟩, fun B hB => ?_⟩
    refine lc_list (K := K) (a := p1) (xs := ms.map V.int) (fun i H2 => Same H1 H2 ∧ ∃ zs : List Int, H2 B = some (.lst (zs.map V.int)) ∧ zs.length ≤ i ∧ ∀ z ∈ zs, 0 ≤ z) ⟨same_upd hB, [], upd_same, Nat.le_refl _, by simp⟩ (fun i H2 _ h2 => SqL.of (h2.1 _ _ e1)) (fun i x H2 hx h2 => ?_) (fun H2 h2 => ?_)
    · obtain ⟨s2, zs, e2, l2, p2⟩ := h2
      have hil : i < ms.length := by
        have := (List.getElem?_eq_some_iff.mp hx).1
        simpa using this
      rw [List.getElem?_map, List.getElem?_eq_getElem hil] at hx
      cases hx
      refine ⟨rfl, .int ms[i], rfl, ms[i], rfl, 10, 18, rfl, rfl, ⟨by decide, by decide, by decide⟩, _, _, rfl, rfl, _, rfl, ite2 (fun _ => ?_) (fun _ => ?_)⟩
      · refine ⟨.int ms[i], rfl, ms[i], rfl, zs.map V.int, e2, ?_, fun b o e => ?_, zs ++ [if ms[i] < 0 then -ms[i] else ms[i]], ?_, ?_, ?_⟩
        · rw [List.length_map]
          exact lim_lt (Nat.le_trans l2 (Nat.le_trans (Nat.le_of_lt hil) (Nat.le_trans lt (by decide))))
        · rw [upd_ne (ne_of_none e hB)]
          exact s2 b o e
        · rw [upd_same, List.map_append]; rfl
        · simp; omega
        · intro z hz
          rcases List.mem_append.mp hz with h | h
          · exact p2 z h
          · rw [List.mem_singleton.mp h]; exact ab _
      · exact ⟨s2, zs, e2, Nat.le_trans l2 (Nat.le_succ i), p2⟩
    obtain ⟨s2, zs, e2, l2, p2⟩ := h2
    -- the small ones
    have hS2 : SqL K H2 a (ns.map V.int) := (sp1.trans s2).seq hS
    refine ⟨.ref a, rfl, 63, rfl, a, _, rfl, hS2, fun p3 hp3 => ?_⟩
    rw [cut_ints, hms]
    have e3 : upd H2 p3 (.lst (ms.map V.int)) p3 = some (.lst (ms.map V.int)) := upd_same
    have sp3 : Same H2 (upd H2 p3 (.lst (ms.map V.int))) := same_upd hp3
    generalize upd H2 p3 (.lst (ms.map V.int)) = H3 at e3 sp3
    refine ⟨p3, rfl, ⟨_, SqL.of e3⟩, fun D hD => ?_⟩
    refine lc_list (K := K) (a := p3) (xs := ms.map V.int) (fun i H4 => Same H3 H4 ∧ ∃ ws : List Int, H4 D = some (.lst (ws.map V.int)) ∧ ws.length ≤ i ∧ ∀ z ∈ ws, 0 ≤ z) ⟨same_upd hD, [], upd_same, Nat.le_refl _, by simp⟩ (fun i H2 _ h2 => SqL.of (h2.1 _ _ e3)) (fun i x H4 hx h4 => ?_) (fun H4 h4 => ?_)
    · obtain ⟨s4, ws, e4, l4, p4⟩ := h4
      have hil : i < ms.length := by
        have := (List.getElem?_eq_some_iff.mp hx).1
        simpa using this
      rw [List.getElem?_map, List.getElem?_eq_getElem hil] at hx
      cases hx
      refine ⟨rfl, .int ms[i], rfl, ms[i], rfl, 10, 18, rfl, rfl, ⟨by decide, by decide, by decide⟩, _, _, rfl, rfl, _, rfl, ite2 (fun _ => ?_) (fun _ => ?_)⟩
      · refine ⟨.int ms[i], rfl, ms[i], rfl, 2, _, rfl, rfl, .inl ⟨by decide, by decide⟩, .int ms[i], rfl, ms[i], 0, rfl, rfl, .inr ⟨_, rfl, _, _, rfl, rfl, ws.map V.int, e4, ?_, fun b o e => ?_, ws ++ [2 * (if ms[i] < 0 then -ms[i] else ms[i]) + (if decide (ms[i] < 0) = true then 1 else 0)], ?_, ?_, ?_⟩⟩
        · rw [List.length_map]
          exact lim_lt (Nat.le_trans l4 (Nat.le_trans (Nat.le_of_lt hil) (Nat.le_trans lt (by decide))))
        · rw [upd_ne (ne_of_none e hD)]
          exact s4 b o e
        · rw [upd_same, List.map_append]; rfl
        · simp; omega
        · intro z hz
          rcases List.mem_append.mp hz with h | h
          · exact p4 z h
          · rw [List.mem_singleton.mp h]
            have := ab ms[i]
            split <;> omega
      · exact ⟨s4, ws, e4, Nat.le_trans l4 (Nat.le_succ i), p4⟩
    obtain ⟨s4, ws, e4, l4, p4⟩ := h4
    rw [List.length_map] at l4
    have s14 : Same H2 H4 := sp3.trans s4
    have eB : H4 B = some (.lst (zs.map V.int)) := s14 _ _ e2
    have nBD : B ≠ D := fun z => by
      have : H3 B = some (.lst (zs.map V.int)) := sp3 _ _ e2
      rw [z, hD] at this
      cases this
    have hS4 : SqL K H4 a (ns.map V.int) := s14.seq hS2
    -- [great, small + [len(script) + 37], 0]
    refine ⟨.ref B, rfl, .ref D, rfl, .ref a, rfl, a, ns.map V.int, rfl, .inl hS4, _, 37, rfl, rfl, by show 1 ≤ sizeLine; decide, fun T hT => ?_⟩
    have nDT : D ≠ T := ne_of_none e4 hT
    have nBT : B ≠ T := ne_of_none eB hT
    refine ⟨D, T, _, _, rfl, rfl, by rw [upd_ne nDT]; exact e4, upd_same, ?_, fun C hC => ?_⟩
    · rw [List.length_map]
      show ws.length + 1 ≤ sizeLine
      exact lim_le (Nat.le_trans (Nat.succ_le_succ (Nat.le_trans l4 lt)) (by decide))
    have nBC : B ≠ C := fun e => by
      rw [← e, upd_ne nBT, eB] at hC
      cases hC
    refine ⟨by show 3 ≤ sizeLine; decide, fun p hp => ?_⟩
    have gB : upd (upd H4 T (.lst [V.int (((ns.map V.int).length : Int) + 37)])) C (.lst (ws.map V.int ++ [V.int (((ns.map V.int).length : Int) + 37)])) B = some (.lst (zs.map V.int)) := by
      rw [upd_ne nBC, upd_ne nBT]
      exact eB
    have nBp : B ≠ p := ne_of_none gB hp
    have nCp : C ≠ p := ne_of_none upd_same hp
    have sT : Same H4 (upd H4 T (.lst [V.int (((ns.map V.int).length : Int) + 37)])) := same_upd hT
    have sC := same_upd (o := .lst (ws.map V.int ++ [V.int (((ns.map V.int).length : Int) + 37)])) hC
    have sp := same_upd (o := .lst [V.ref B, V.ref C, V.int 0]) hp
    have s04 : Same H H4 := (sp1.trans s2).trans s14
    have all := ((s04.trans sT).trans sC).trans sp
    have h0 : ∀ {b : Addr} {H' : Hp}, Same H H' → H' b = none → H b = none := fun s h => s.free h
    refine q _ ⟨p, B, C, []⟩ all ?_ ?_ ?_ ⟨fun e => nBp e.symm, fun e => nCp e.symm, nBC, 0, zs, ws ++ [(((ns.map V.int).length : Int) + 37)], upd_same, ?_, ?_, p2, ?_, ?_, by decide, by decide⟩
    · exact h0 ((s04.trans sT).trans sC) hp
    · exact h0 sp1 hB
    · exact h0 (s04.trans sT) hC
    · rw [upd_ne nBp]; exact gB
    · rw [upd_ne nCp, upd_same, List.map_append]; rfl
    · intro y hy
      rcases List.mem_append.mp hy with h | h
      · exact p4 y h
      · rw [List.mem_singleton.mp h]; omega
    · simp
/-! law -/
abbrev s_law : Stmt := topS 63
theorem sc_law : FnScope ["_law_script", "_law_reel_here", "_law_turn", "_law_spots_here", "_law_modules_here", "_law_uses_here", "_law_program", "_law_rule", "_law_due", "_law_use"] ["_law_script"] (defScope s_law) := ⟨rfl, rfl, rfl, by decide +kernel, rfl, by decide +kernel, by decide +kernel⟩
set_option maxHeartbeats 4000000 in
theorem ok_law {f : Addr} {fd : FuncData} (F : Fun K "law" "law" s_law f fd) (c__law_deck : CalDn "_law_reel" P w K mg base) (m_range : mg "range" = none) (m_list : mg "list" = none) (m_tuple : mg "tuple" = none) {C_Program : Addr} (k_Program : KC K "Program" C_Program) (c__law_same : Cal P w K mg base 8 "_law_same" ["_law_found", "_law_due"] Sp__law_same) (c__law_first : Cal P w K mg base 1 "_law_first" ["_law_some"] Sp__law_first) (c_find_break : Cal P w K mg base 7 "find_break" ["program", "rule"] Sp_find_break) (c_each_break : CalGn P w K mg base 6 "each_break" ["program", "rule"] Sp_each_break) (c__law_ring_breaks : Cal P w K mg base 3 "_law_ring_breaks" ["_law_paths", "_law_uses_here"] Sp__law_ring_breaks) (c__law_rule_of : Cal P w K mg base 4 "_law_rule_of" ["_law_reel_here", "_law_kind", "_law_spots_here"] Sp__law_rule_of) (c_Program___init__ : Mkr P w K mg base 6 "Program" ["self", "modules", "uses"] Sp_Program___init__) (c__law_uses : Cal P w K mg base 3 "_law_uses" ["_law_reel_here", "_law_modules_here", "_law_limit"] Sp__law_uses) (c__law_case : Cal P w K mg base 4 "_law_case" ["_law_reel_here"] Sp__law_case) (hTn : (Tbs.t.map (·.1)).Nodup) : FnOk P w K mg base CX0 10 f fd ["_law_script"] (spLawT Tbs.t K) := by
  obtain ⟨fD, fdD, GD, kD, bD, mD⟩ := c__law_deck
  refine dlawT hTn F sc_law (by decide) rfl (fun cdv A outer s H E hr => ⟨ps_set (i := 1) sc_law.nd rfl (.inl rfl) (pe_call GD (hr.mono (by decide)) (by rfl) mD kD bD .nil pass0 (pa_cons (pv 0) pa_nil)), (dss_cons (ds_for [] PassesOwn.never (di_range1 m_range (da_cons de_int da_nil)) (dg_name (i := 2) sc_law.nd) (dss_cons (ds_asg false (de_callC c__law_case (hr.mono (by decide)) (da_cons (de_v 1) da_nil)) (dg_tup rfl (dgs_cons (dg_name (i := 3) sc_law.nd) (dgs_cons (dg_name (i := 4) sc_law.nd) (dgs_cons (dg_name (i := 5) sc_law.nd) dgs_nil)))))
      (dss_cons (ds_set false (i := 5) sc_law.nd (de_add (de_v 5) (dl_lc (own := [("_law_use", 9)]) rfl sc_law.nd (di_seq (de_callC c__law_uses (hr.mono (by decide)) (da_cons (de_v 1) (da_cons (de_v 4) (da_cons de_int da_nil))))) (blkOk_by (own := [("_law_use", 9)]) (N := ["_law_script", "_law_reel_here", "_law_turn", "_law_spots_here", "_law_modules_here", "_law_uses_here", "_law_program", "_law_rule", "_law_due", "_law_use"]) (sc := defScope s_law) (by decide +kernel)) (fun _ _ _ _ _ => dg_name (i := 9) sc_law.nd) (fun _ _ _ _ _ => dts_one (dp_notIn hr (de_v 9) (de_v 5))) (fun _ _ _ _ _ => (de_v 9))).e))
      (dss_cons (ds_set false (i := 6) sc_law.nd (de_make c_Program___init__ (hr.mono (by decide)) (da_cons (de_callTy call_tuple_of sc_tuple (by rfl) m_tuple (by decide +kernel) (da_cons (de_v 4) da_nil)) (da_cons (de_callTy call_tuple_of sc_tuple (by rfl) m_tuple (by decide +kernel) (da_cons (de_v 5) da_nil)) da_nil))))
      (dss_cons (ds_set false (i := 7) sc_law.nd (de_callC c__law_rule_of (hr.mono (by decide)) (da_cons (de_v 1) (da_cons de_str (da_cons (de_v 3) da_nil)))))
      (dss_cons (ds_set false (i := 8) sc_law.nd (de_callC c__law_ring_breaks (hr.mono (by decide)) (da_cons (de_ix (de_v 7) de_int) (da_cons (de_v 5) da_nil))))
      (dss_cons (ds_if (dp_not (dp_val (de_callC c__law_same (hr.mono (by decide)) (da_cons (dl_listG c_each_break (hr.mono (by decide)) m_list (da_cons (de_v 6) (da_cons (de_v 7) da_nil))).e (da_cons (de_v 8) da_nil))))) (dss_one (ds_ret de_bl)) dss_nil)
      (dss_one (ds_if (dp_not (dp_val (de_callC c__law_same (hr.mono (by decide)) (da_cons (de_callC c_find_break (hr.mono (by decide)) (da_cons (de_v 6) (da_cons (de_v 7) da_nil))) (da_cons (de_callC c__law_first (hr.mono (by decide)) (da_cons (de_v 8) da_nil)) da_nil))))) (dss_one (ds_ret de_bl)) dss_nil)))))))))
      (dss_one (ds_ret de_bl)))⟩) ?h
  case h =>
    intro dk hdk
    refine ⟨by decide, by decide, ?_⟩
    refine dFor_range (fun i r f => ∃ a b c d e h j k : Sl, r = [.no, .sh (.any (.ref dk.a)), a, b, c, d, e, h, j, k] ∧ 1000000000000 ≤ f + 2000 * i) 0 _ _ _ ?_ ?_ ⟨_, _, _, _, _, _, _, _, rfl, by omega⟩
    · rintro i r f N hi ⟨a, b, c, d, e, h, j, k, rfl, hf⟩ hN
      have hi : i < 4 := hi
      refine ⟨_, rfl, dk, rfl, rfl, by omega, fun sp ms us f1 hs hml hm hul hu hf1 => ?_⟩
      simp only [List.set_cons_succ, List.set_cons_zero, setsR, startR, List.map_cons, List.map_nil, List.cons_append, List.nil_append, List.replicate_succ, List.replicate_zero, List.length_cons, List.length_nil, Nat.reduceAdd, Nat.reduceSub]
      refine ⟨dk, ms, 10, rfl, rfl, hm, by decide, by omega, fun vs f2 hvl hv hf2 => ?_⟩
      have au := hu.asc hm
      refine ⟨by rw [List.length_map]; exact L1 (by omega), ?_⟩
      refine lcF pairD (fun u => !decide (u ∈ us)) vs _ (fun u hu' => ⟨_, rfl, fun f Q q => ⟨shaped_pair (hv.asc hm u hu'), shpU au, by rw [anyU2]; exact q⟩, fun _ f Q q => q⟩) ?_
      have fl : (vs.filter fun u => !decide (u ∈ us)).length ≤ 10 := Nat.le_trans (List.length_filter_le _ _) hvl
      have hw : PVu ms (us ++ vs.filter fun u => !decide (u ∈ us)) := ⟨by rw [List.length_append]; omega, fun u h => (List.mem_append.mp h).elim (hu.mem u) fun h => hv.mem u (List.mem_filter.mp h).1,
        List.nodup_append.mpr ⟨hu.nd, hv.nd.filter _, fun x h1 y h2 e => by
          have := (List.mem_filter.mp h2).2
          rw [← e, decide_eq_true h1] at this
          cases this⟩⟩
      refine ⟨by rw [List.length_map, List.length_map]; exact L1 (by omega), ?_⟩
      rw [← List.map_append]
      generalize us ++ vs.filter (fun u => !decide (u ∈ us)) = ws at hw
      simp only [List.set_cons_succ, List.set_cons_zero, setsR, startR, List.map_cons, List.map_nil, List.cons_append, List.nil_append, List.replicate_succ, List.replicate_zero, List.length_cons, List.length_nil, Nat.reduceAdd, Nat.reduceSub]
      refine ⟨ms, ws, rfl, hm, hw, fun ks _ => ?_⟩
      simp only [List.set_cons_succ, List.set_cons_zero, setsR, startR, List.map_cons, List.map_nil, List.cons_append, List.nil_append, List.replicate_succ, List.replicate_zero, List.length_cons, List.length_nil, Nat.reduceAdd, Nat.reduceSub]
      refine ⟨dk, "noring", sp, rfl, rfl, by decide +kernel, hs, by omega, fun r f3 hr _ hwd _ hf3 => ?_⟩
      obtain ⟨ps, rfl⟩ : ∃ ps, r = .noring ps := by cases r <;> first | exact ⟨_, rfl⟩ | exact absurd hwd (by simp only [Rl.wd]; decide +kernel)
      simp only [List.set_cons_succ, List.set_cons_zero, setsR, startR, List.map_cons, List.map_nil, List.cons_append, List.nil_append, List.replicate_succ, List.replicate_zero, List.length_cons, List.length_nil, Nat.reduceAdd, Nat.reduceSub]
      have hP := POk.of hm hw
      have bs := brk_sub hP hr
      have hwl : ws.length ≤ 200 := hw.len
      have eb : rngB (sortU ws) ps = brk (sortS ms) (sortU ws) (.noring ps) := rfl
      have bl : (rngB (sortU ws) ps).length ≤ 6 := Nat.le_trans (List.length_filterMap_le _ _) hr.2.1
      rw [eb] at bl
      have hsl := lstU_plain (l := brk (sortS ms) (sortU ws) (.noring ps)) (by omega) fun w h => Nat.le_trans (bs w h).2 (by decide)
      have hol := oU_plain (o := fbk (sortS ms) (sortU ws) (.noring ps)) fun w h => Nat.le_trans (bs w (frst_some h).is).2 (by decide)
      refine ⟨_, atI_nat (j := 1) rfl, ps, ws, rfl, hr.2.1, fun p hp => ⟨(rp_asc (hr.2.2 p hp)).1, Nat.le_trans (rp_asc (hr.2.2 p hp)).2 (by decide)⟩, hwl, hw.asc hm, ?_⟩
      rw [eb]
      simp only [List.set_cons_succ, List.set_cons_zero, setsR, startR, List.map_cons, List.map_nil, List.cons_append, List.nil_append, List.replicate_succ, List.replicate_zero, List.length_cons, List.length_nil, Nat.reduceAdd, Nat.reduceSub]
      refine ⟨ms, ws, ks, .noring ps, rfl, hm, hw, hr, ?_⟩
      refine ⟨_, _, rfl, D.plain_tyd (And.left hsl), And.left hsl, Nat.le_trans (And.right hsl) (by decide), ?_⟩
      rw [deqD_refl _ (And.left hsl)]
      refine iteF (nxt (g := some dk) ?_)
      refine ⟨dk, ms, ws, ks, .noring ps, rfl, hdk, rfl, hm, hw, hr, brk (sortS ms) (sortU ws) (.noring ps), rfl, by omega, fun v hv => ⟨fun u h => hP.asU u ((bs v hv).1 u h), Nat.le_trans (bs v hv).2 (by decide)⟩, same_id hol ?_⟩
      exact iteF (nxt (g := some dk) (hN _ _ ⟨_, _, _, _, _, _, _, _, rfl, by omega⟩))
    · rintro r f ⟨a, b, c, d, e, h, j, k, rfl, hf⟩
      exact rfl
end
theorem all_mk {l : PySem.W.OpenLaw} {w : World} {K : PySem.W.Frag} {h : Heap} {mg : Str → Option Value} {fa : Addr} (X : K.In h) (G : h.Ns mainGlobals mg) (hfa : mg "law" = some (.ref fa)) {cT PT : Addr} (hT : PySem.W.tabIn K "first_of" = some (cT, PT))
    {C_Program : Addr} (kc0_Program : PySem.W.nsIn K mainGlobals "Program" = some (some (.ref C_Program))) (kc1_Program : PySem.W.plainGet K C_Program Str.empty = true) (kc2_Program : PySem.W.hasDictIn K C_Program = true) (kc3_Program : PySem.W.plainOver K C_Program = true) (kc4_Program : PySem.W.findIn K (.ref C_Program) "__setattr__" = some (some (.builtin "object.__setattr__")))
    (ko0_Program : PySem.W.findIn K (.ref C_Program) "__class__" = some (some (.builtin "object.__class__"))) (ko1_Program : PySem.W.specialIn K (.builtin "object.__class__") "__get__" = some (some (.builtin "getset_descriptor.__get__"))) (ko2_Program : PySem.W.takesIn K (.builtin "object.__class__") = some true) (ko3_Program : PySem.W.mroIn K C_Program (.type "object") = some true)
    (ko4_Program : PySem.W.subIn K (.ref C_Program) (.type "tuple") = some false) (ko5_Program : PySem.W.subIn K (.ref C_Program) (.type "str") = some false)
    (kn_n_Program_heads : PySem.W.findIn K (.ref C_Program) "heads" = some none)
    (kn_n_Program_links : PySem.W.findIn K (.ref C_Program) "links" = some none)
    (kn_n_Program_places : PySem.W.findIn K (.ref C_Program) "places" = some none)
    {f0 : Addr} {od0 an0 : Option Addr} {sl0 : Array (Option Value)} {oc0 kV0 dc0 pm0 cd0 ct0 : Value}
    (a0 : PySem.W.nsIn K mainGlobals "is_name" = some (some (.ref f0))) (l0 : K.lookup f0 = some ⟨oc0, od0, .func (PySem.W.fnOf "is_name" "is_name" (defArgs s_is_name) (defBody s_is_name) (defScope s_is_name) .none kV0 dc0 pm0 an0 cd0 ct0), sl0⟩) (c0 : PySem.W.codeIn K cd0 "is_name" = true) (k0 : PySem.W.keepIn K (.ref f0) = true)
    {f1 : Addr} {od1 an1 : Option Addr} {sl1 : Array (Option Value)} {oc1 kV1 dc1 pm1 cd1 ct1 : Value}
    (a1 : PySem.W.nsIn K mainGlobals "is_path" = some (some (.ref f1))) (l1 : K.lookup f1 = some ⟨oc1, od1, .func (PySem.W.fnOf "is_path" "is_path" (defArgs s_is_path) (defBody s_is_path) (defScope s_is_path) .none kV1 dc1 pm1 an1 cd1 ct1), sl1⟩) (c1 : PySem.W.codeIn K cd1 "is_path" = true) (k1 : PySem.W.keepIn K (.ref f1) = true)
    {f2 : Addr} {od2 an2 : Option Addr} {sl2 : Array (Option Value)} {oc2 kV2 dc2 pm2 cd2 ct2 : Value}
    (a2 : PySem.W.nsIn K mainGlobals "covers" = some (some (.ref f2))) (l2 : K.lookup f2 = some ⟨oc2, od2, .func (PySem.W.fnOf "covers" "covers" (defArgs s_covers) (defBody s_covers) (defScope s_covers) .none kV2 dc2 pm2 an2 cd2 ct2), sl2⟩) (c2 : PySem.W.codeIn K cd2 "covers" = true) (k2 : PySem.W.keepIn K (.ref f2) = true)
    {f3 : Addr} {od3 an3 : Option Addr} {sl3 : Array (Option Value)} {oc3 kV3 dc3 pm3 cd3 ct3 : Value}
    (a3 : PySem.W.nsIn K mainGlobals "overlap" = some (some (.ref f3))) (l3 : K.lookup f3 = some ⟨oc3, od3, .func (PySem.W.fnOf "overlap" "overlap" (defArgs s_overlap) (defBody s_overlap) (defScope s_overlap) .none kV3 dc3 pm3 an3 cd3 ct3), sl3⟩) (c3 : PySem.W.codeIn K cd3 "overlap" = true) (k3 : PySem.W.keepIn K (.ref f3) = true)
    {f4 : Addr} {od4 an4 : Option Addr} {sl4 : Array (Option Value)} {oc4 kV4 dc4 pm4 cd4 ct4 : Value}
    (a4 : PySem.W.nsIn K mainGlobals "first_overlap" = some (some (.ref f4))) (l4 : K.lookup f4 = some ⟨oc4, od4, .func (PySem.W.fnOf "first_overlap" "first_overlap" (defArgs s_first_overlap) (defBody s_first_overlap) (defScope s_first_overlap) .none kV4 dc4 pm4 an4 cd4 ct4), sl4⟩) (c4 : PySem.W.codeIn K cd4 "first_overlap" = true) (k4 : PySem.W.keepIn K (.ref f4) = true)
    {f5 : Addr} {od5 an5 : Option Addr} {sl5 : Array (Option Value)} {oc5 kV5 dc5 pm5 cd5 ct5 : Value}
    (a5 : PySem.W.nsIn K mainGlobals "modules_error" = some (some (.ref f5))) (l5 : K.lookup f5 = some ⟨oc5, od5, .func (PySem.W.fnOf "modules_error" "modules_error" (defArgs s_modules_error) (defBody s_modules_error) (defScope s_modules_error) .none kV5 dc5 pm5 an5 cd5 ct5), sl5⟩) (c5 : PySem.W.codeIn K cd5 "modules_error" = true) (k5 : PySem.W.keepIn K (.ref f5) = true)
    {f6 : Addr} {od6 an6 : Option Addr} {sl6 : Array (Option Value)} {oc6 kV6 dc6 pm6 cd6 ct6 : Value}
    (a6 : PySem.W.nsIn K mainGlobals "covered" = some (some (.ref f6))) (l6 : K.lookup f6 = some ⟨oc6, od6, .func (PySem.W.fnOf "covered" "covered" (defArgs s_covered) (defBody s_covered) (defScope s_covered) .none kV6 dc6 pm6 an6 cd6 ct6), sl6⟩) (c6 : PySem.W.codeIn K cd6 "covered" = true) (k6 : PySem.W.keepIn K (.ref f6) = true)
    {f7 : Addr} {od7 an7 : Option Addr} {sl7 : Array (Option Value)} {oc7 kV7 dc7 pm7 cd7 ct7 : Value}
    (a7 : PySem.W.nsIn K mainGlobals "steps_between" = some (some (.ref f7))) (l7 : K.lookup f7 = some ⟨oc7, od7, .func (PySem.W.fnOf "steps_between" "steps_between" (defArgs s_steps_between) (defBody s_steps_between) (defScope s_steps_between) .none kV7 dc7 pm7 an7 cd7 ct7), sl7⟩) (c7 : PySem.W.codeIn K cd7 "steps_between" = true) (k7 : PySem.W.keepIn K (.ref f7) = true)
    {f8 : Addr} {od8 an8 : Option Addr} {sl8 : Array (Option Value)} {oc8 kV8 dc8 pm8 cd8 ct8 : Value}
    (a8 : PySem.W.nsIn K mainGlobals "ring_from" = some (some (.ref f8))) (l8 : K.lookup f8 = some ⟨oc8, od8, .func (PySem.W.fnOf "ring_from" "ring_from" (defArgs s_ring_from) (defBody s_ring_from) (defScope s_ring_from) .none kV8 dc8 pm8 an8 cd8 ct8), sl8⟩) (c8 : PySem.W.codeIn K cd8 "ring_from" = true) (k8 : PySem.W.keepIn K (.ref f8) = true)
    {f9 : Addr} {od9 an9 : Option Addr} {sl9 : Array (Option Value)} {oc9 kV9 dc9 pm9 cd9 ct9 : Value}
    (a9 : PySem.W.nsIn K mainGlobals "ring_breaks" = some (some (.ref f9))) (l9 : K.lookup f9 = some ⟨oc9, od9, .func (PySem.W.fnOf "ring_breaks" "ring_breaks" (defArgs s_ring_breaks) (defBody s_ring_breaks) (defScope s_ring_breaks) .none kV9 dc9 pm9 an9 cd9 ct9), sl9⟩) (c9 : PySem.W.codeIn K cd9 "ring_breaks" = true) (k9 : PySem.W.keepIn K (.ref f9) = true)
    {f10 : Addr} {od10 an10 : Option Addr} {sl10 : Array (Option Value)} {oc10 kV10 dc10 pm10 cd10 ct10 : Value}
    (a10 : PySem.W.nsIn K mainGlobals "links_of" = some (some (.ref f10))) (l10 : K.lookup f10 = some ⟨oc10, od10, .func (PySem.W.fnOf "links_of" "links_of" (defArgs s_links_of) (defBody s_links_of) (defScope s_links_of) .none kV10 dc10 pm10 an10 cd10 ct10), sl10⟩) (c10 : PySem.W.codeIn K cd10 "links_of" = true) (k10 : PySem.W.keepIn K (.ref f10) = true)
    {f11 : Addr} {od11 an11 : Option Addr} {sl11 : Array (Option Value)} {oc11 kV11 dc11 pm11 cd11 ct11 : Value}
    (a11 : PySem.W.nsIn K mainGlobals "chains_from" = some (some (.ref f11))) (l11 : K.lookup f11 = some ⟨oc11, od11, .func (PySem.W.fnOf "chains_from" "chains_from" (defArgs s_chains_from) (defBody s_chains_from) (defScope s_chains_from) .none kV11 dc11 pm11 an11 cd11 ct11), sl11⟩) (c11 : PySem.W.codeIn K cd11 "chains_from" = true) (k11 : PySem.W.keepIn K (.ref f11) = true)
    {f12 : Addr} {od12 an12 : Option Addr} {sl12 : Array (Option Value)} {oc12 kV12 dc12 pm12 cd12 ct12 : Value}
    (a12 : PySem.W.nsIn K mainGlobals "uses_of" = some (some (.ref f12))) (l12 : K.lookup f12 = some ⟨oc12, od12, .func (PySem.W.fnOf "uses_of" "uses_of" (defArgs s_uses_of) (defBody s_uses_of) (defScope s_uses_of) .none kV12 dc12 pm12 an12 cd12 ct12), sl12⟩) (c12 : PySem.W.codeIn K cd12 "uses_of" = true) (k12 : PySem.W.keepIn K (.ref f12) = true)
    {f13 : Addr} {od13 an13 : Option Addr} {sl13 : Array (Option Value)} {oc13 kV13 dc13 pm13 cd13 ct13 : Value}
    (a13 : PySem.W.nsIn K mainGlobals "place_of" = some (some (.ref f13))) (l13 : K.lookup f13 = some ⟨oc13, od13, .func (PySem.W.fnOf "place_of" "place_of" (defArgs s_place_of) (defBody s_place_of) (defScope s_place_of) .none kV13 dc13 pm13 an13 cd13 ct13), sl13⟩) (c13 : PySem.W.codeIn K cd13 "place_of" = true) (k13 : PySem.W.keepIn K (.ref f13) = true)
    {f14 : Addr} {od14 an14 : Option Addr} {sl14 : Array (Option Value)} {oc14 kV14 dc14 pm14 cd14 ct14 : Value}
    (a14 : PySem.W.nsIn K mainGlobals "is_barred" = some (some (.ref f14))) (l14 : K.lookup f14 = some ⟨oc14, od14, .func (PySem.W.fnOf "is_barred" "is_barred" (defArgs s_is_barred) (defBody s_is_barred) (defScope s_is_barred) .none kV14 dc14 pm14 an14 cd14 ct14), sl14⟩) (c14 : PySem.W.codeIn K cd14 "is_barred" = true) (k14 : PySem.W.keepIn K (.ref f14) = true)
    {f15 : Addr} {od15 an15 : Option Addr} {sl15 : Array (Option Value)} {oc15 kV15 dc15 pm15 cd15 ct15 : Value}
    (a15 : PySem.W.nsIn K mainGlobals "chain_breaks" = some (some (.ref f15))) (l15 : K.lookup f15 = some ⟨oc15, od15, .func (PySem.W.fnOf "chain_breaks" "chain_breaks" (defArgs s_chain_breaks) (defBody s_chain_breaks) (defScope s_chain_breaks) .none kV15 dc15 pm15 an15 cd15 ct15), sl15⟩) (c15 : PySem.W.codeIn K cd15 "chain_breaks" = true) (k15 : PySem.W.keepIn K (.ref f15) = true)
    {f16 : Addr} {od16 an16 : Option Addr} {sl16 : Array (Option Value)} {oc16 kV16 dc16 pm16 cd16 ct16 : Value}
    (a16 : PySem.W.nsIn K mainGlobals "is_chained" = some (some (.ref f16))) (l16 : K.lookup f16 = some ⟨oc16, od16, .func (PySem.W.fnOf "is_chained" "is_chained" (defArgs s_is_chained) (defBody s_is_chained) (defScope s_is_chained) .none kV16 dc16 pm16 an16 cd16 ct16), sl16⟩) (c16 : PySem.W.codeIn K cd16 "is_chained" = true) (k16 : PySem.W.keepIn K (.ref f16) = true)
    {f17 : Addr} {od17 an17 : Option Addr} {sl17 : Array (Option Value)} {oc17 kV17 dc17 pm17 cd17 ct17 : Value}
    (a17 : PySem.W.nsIn K mainGlobals "all_breaks" = some (some (.ref f17))) (l17 : K.lookup f17 = some ⟨oc17, od17, .func (PySem.W.fnOf "all_breaks" "all_breaks" (defArgs s_all_breaks) (defBody s_all_breaks) (defScope s_all_breaks) .none kV17 dc17 pm17 an17 cd17 ct17), sl17⟩) (c17 : PySem.W.codeIn K cd17 "all_breaks" = true) (k17 : PySem.W.keepIn K (.ref f17) = true)
    {f18 : Addr} {od18 an18 : Option Addr} {sl18 : Array (Option Value)} {oc18 kV18 dc18 pm18 cd18 ct18 : Value}
    (a18 : PySem.W.nsIn K mainGlobals "first_of" = some (some (.ref f18))) (l18 : K.lookup f18 = some ⟨oc18, od18, .func (PySem.W.fnOf "first_of" "first_of" (defArgs s_first_of) (defBody s_first_of) (defScope s_first_of) .none kV18 dc18 pm18 an18 cd18 ct18), sl18⟩) (c18 : PySem.W.codeIn K cd18 "first_of" = true) (k18 : PySem.W.keepIn K (.ref f18) = true)
    {f19 : Addr} {od19 an19 : Option Addr} {sl19 : Array (Option Value)} {oc19 kV19 dc19 pm19 cd19 ct19 : Value}
    (a19 : PySem.W.nsIn K mainGlobals "first_break" = some (some (.ref f19))) (l19 : K.lookup f19 = some ⟨oc19, od19, .func (PySem.W.fnOf "first_break" "first_break" (defArgs s_first_break) (defBody s_first_break) (defScope s_first_break) .none kV19 dc19 pm19 an19 cd19 ct19), sl19⟩) (c19 : PySem.W.codeIn K cd19 "first_break" = true) (k19 : PySem.W.keepIn K (.ref f19) = true)
    {f20 : Addr} {od20 an20 : Option Addr} {sl20 : Array (Option Value)} {oc20 kV20 dc20 pm20 cd20 ct20 : Value}
    (a20 : PySem.W.nsIn K mainGlobals "is_pair" = some (some (.ref f20))) (l20 : K.lookup f20 = some ⟨oc20, od20, .func (PySem.W.fnOf "is_pair" "is_pair" (defArgs s_is_pair) (defBody s_is_pair) (defScope s_is_pair) .none kV20 dc20 pm20 an20 cd20 ct20), sl20⟩) (c20 : PySem.W.codeIn K cd20 "is_pair" = true) (k20 : PySem.W.keepIn K (.ref f20) = true)
    {f21 : Addr} {od21 an21 : Option Addr} {sl21 : Array (Option Value)} {oc21 kV21 dc21 pm21 cd21 ct21 : Value}
    (a21 : PySem.W.nsIn K mainGlobals "uses_error" = some (some (.ref f21))) (l21 : K.lookup f21 = some ⟨oc21, od21, .func (PySem.W.fnOf "uses_error" "uses_error" (defArgs s_uses_error) (defBody s_uses_error) (defScope s_uses_error) .none kV21 dc21 pm21 an21 cd21 ct21), sl21⟩) (c21 : PySem.W.codeIn K cd21 "uses_error" = true) (k21 : PySem.W.keepIn K (.ref f21) = true)
    {f22 : Addr} {od22 an22 : Option Addr} {sl22 : Array (Option Value)} {oc22 kV22 dc22 pm22 cd22 ct22 : Value}
    (a22 : PySem.W.nsIn K mainGlobals "program_error" = some (some (.ref f22))) (l22 : K.lookup f22 = some ⟨oc22, od22, .func (PySem.W.fnOf "program_error" "program_error" (defArgs s_program_error) (defBody s_program_error) (defScope s_program_error) .none kV22 dc22 pm22 an22 cd22 ct22), sl22⟩) (c22 : PySem.W.codeIn K cd22 "program_error" = true) (k22 : PySem.W.keepIn K (.ref f22) = true)
    {f23 : Addr} {od23 an23 : Option Addr} {sl23 : Array (Option Value)} {oc23 kV23 dc23 pm23 cd23 ct23 : Value}
    (a23 : PySem.W.nsIn K mainGlobals "parts_of" = some (some (.ref f23))) (l23 : K.lookup f23 = some ⟨oc23, od23, .func (PySem.W.fnOf "parts_of" "parts_of" (defArgs s_parts_of) (defBody s_parts_of) (defScope s_parts_of) .none kV23 dc23 pm23 an23 cd23 ct23), sl23⟩) (c23 : PySem.W.codeIn K cd23 "parts_of" = true) (k23 : PySem.W.keepIn K (.ref f23) = true)
    {f24 : Addr} {od24 an24 : Option Addr} {sl24 : Array (Option Value)} {oc24 kV24 dc24 pm24 cd24 ct24 : Value}
    (a24 : PySem.W.findIn K (.ref C_Program) "__init__" = some (some (.ref f24))) (ma24 : PySem.W.isFn K (.ref f24) = true)
    (mb24 : PySem.W.makesIn K C_Program = true) (mc24 : PySem.W.keepIn K (.ref C_Program) = true)
    (l24 : K.lookup f24 = some ⟨oc24, od24, .func (PySem.W.fnOf "__init__" "Program.__init__" (defArgs s_Program___init__) (defBody s_Program___init__) (defScope s_Program___init__) .none kV24 dc24 pm24 an24 cd24 ct24), sl24⟩) (c24 : PySem.W.codeIn K cd24 "Program.__init__" = true) (k24 : PySem.W.keepIn K (.ref f24) = true)
    {f25 : Addr} {od25 an25 : Option Addr} {sl25 : Array (Option Value)} {oc25 kV25 dc25 pm25 cd25 ct25 : Value}
    {pr25 : Addr} {rs25 : List Value} (a25 : PySem.W.findIn K (.ref C_Program) "modules" = some (some (.ref pr25))) (pa25 : PySem.W.specialIn K (.ref pr25) "__get__" = some (some (.builtin "property.__get__"))) (pb25 : PySem.W.takesIn K (.ref pr25) = some true) (pc25 : PySem.W.recIn K pr25 "property" = some (.ref f25 :: rs25))
    (l25 : K.lookup f25 = some ⟨oc25, od25, .func (PySem.W.fnOf "modules" "Program.modules" (defArgs s_Program_modules) (defBody s_Program_modules) (defScope s_Program_modules) .none kV25 dc25 pm25 an25 cd25 ct25), sl25⟩) (c25 : PySem.W.codeIn K cd25 "Program.modules" = true) (k25 : PySem.W.keepIn K (.ref f25) = true)
    {f26 : Addr} {od26 an26 : Option Addr} {sl26 : Array (Option Value)} {oc26 kV26 dc26 pm26 cd26 ct26 : Value}
    {pr26 : Addr} {rs26 : List Value} (a26 : PySem.W.findIn K (.ref C_Program) "uses" = some (some (.ref pr26))) (pa26 : PySem.W.specialIn K (.ref pr26) "__get__" = some (some (.builtin "property.__get__"))) (pb26 : PySem.W.takesIn K (.ref pr26) = some true) (pc26 : PySem.W.recIn K pr26 "property" = some (.ref f26 :: rs26))
    (l26 : K.lookup f26 = some ⟨oc26, od26, .func (PySem.W.fnOf "uses" "Program.uses" (defArgs s_Program_uses) (defBody s_Program_uses) (defScope s_Program_uses) .none kV26 dc26 pm26 an26 cd26 ct26), sl26⟩) (c26 : PySem.W.codeIn K cd26 "Program.uses" = true) (k26 : PySem.W.keepIn K (.ref f26) = true)
    {f27 : Addr} {od27 an27 : Option Addr} {sl27 : Array (Option Value)} {oc27 kV27 dc27 pm27 cd27 ct27 : Value}
    (a27 : PySem.W.nsIn K mainGlobals "find_break" = some (some (.ref f27))) (l27 : K.lookup f27 = some ⟨oc27, od27, .func (PySem.W.fnOf "find_break" "find_break" (defArgs s_find_break) (defBody s_find_break) (defScope s_find_break) .none kV27 dc27 pm27 an27 cd27 ct27), sl27⟩) (c27 : PySem.W.codeIn K cd27 "find_break" = true) (k27 : PySem.W.keepIn K (.ref f27) = true)
    {f28 : Addr} {od28 an28 : Option Addr} {sl28 : Array (Option Value)} {oc28 kV28 dc28 pm28 cd28 ct28 : Value}
    (a28 : PySem.W.nsIn K mainGlobals "each_break" = some (some (.ref f28))) (l28 : K.lookup f28 = some ⟨oc28, od28, .func (PySem.W.fnOf "each_break" "each_break" (defArgs s_each_break) (defBody s_each_break) (defScope s_each_break) .none kV28 dc28 pm28 an28 cd28 ct28), sl28⟩) (c28 : PySem.W.codeIn K cd28 "each_break" = true) (k28 : PySem.W.keepIn K (.ref f28) = true)
    {f29 : Addr} {od29 an29 : Option Addr} {sl29 : Array (Option Value)} {oc29 kV29 dc29 pm29 cd29 ct29 : Value}
    (a29 : PySem.W.nsIn K mainGlobals "_law_first" = some (some (.ref f29))) (l29 : K.lookup f29 = some ⟨oc29, od29, .func (PySem.W.fnOf "_law_first" "_law_first" (defArgs s__law_first) (defBody s__law_first) (defScope s__law_first) .none kV29 dc29 pm29 an29 cd29 ct29), sl29⟩) (c29 : PySem.W.codeIn K cd29 "_law_first" = true) (k29 : PySem.W.keepIn K (.ref f29) = true)
    {f30 : Addr} {od30 an30 : Option Addr} {sl30 : Array (Option Value)} {oc30 kV30 dc30 pm30 cd30 ct30 : Value}
    (a30 : PySem.W.nsIn K mainGlobals "_law_ring_rows" = some (some (.ref f30))) (l30 : K.lookup f30 = some ⟨oc30, od30, .func (PySem.W.fnOf "_law_ring_rows" "_law_ring_rows" (defArgs s__law_ring_rows) (defBody s__law_ring_rows) (defScope s__law_ring_rows) .none kV30 dc30 pm30 an30 cd30 ct30), sl30⟩) (c30 : PySem.W.codeIn K cd30 "_law_ring_rows" = true) (k30 : PySem.W.keepIn K (.ref f30) = true)
    {f31 : Addr} {od31 an31 : Option Addr} {sl31 : Array (Option Value)} {oc31 kV31 dc31 pm31 cd31 ct31 : Value}
    (a31 : PySem.W.nsIn K mainGlobals "_law_under" = some (some (.ref f31))) (l31 : K.lookup f31 = some ⟨oc31, od31, .func (PySem.W.fnOf "_law_under" "_law_under" (defArgs s__law_under) (defBody s__law_under) (defScope s__law_under) .none kV31 dc31 pm31 an31 cd31 ct31), sl31⟩) (c31 : PySem.W.codeIn K cd31 "_law_under" = true) (k31 : PySem.W.keepIn K (.ref f31) = true)
    {f32 : Addr} {od32 an32 : Option Addr} {sl32 : Array (Option Value)} {oc32 kV32 dc32 pm32 cd32 ct32 : Value}
    (a32 : PySem.W.nsIn K mainGlobals "_law_home" = some (some (.ref f32))) (l32 : K.lookup f32 = some ⟨oc32, od32, .func (PySem.W.fnOf "_law_home" "_law_home" (defArgs s__law_home) (defBody s__law_home) (defScope s__law_home) .none kV32 dc32 pm32 an32 cd32 ct32), sl32⟩) (c32 : PySem.W.codeIn K cd32 "_law_home" = true) (k32 : PySem.W.keepIn K (.ref f32) = true)
    {f33 : Addr} {od33 an33 : Option Addr} {sl33 : Array (Option Value)} {oc33 kV33 dc33 pm33 cd33 ct33 : Value}
    (a33 : PySem.W.nsIn K mainGlobals "_law_ring_breaks" = some (some (.ref f33))) (l33 : K.lookup f33 = some ⟨oc33, od33, .func (PySem.W.fnOf "_law_ring_breaks" "_law_ring_breaks" (defArgs s__law_ring_breaks) (defBody s__law_ring_breaks) (defScope s__law_ring_breaks) .none kV33 dc33 pm33 an33 cd33 ct33), sl33⟩) (c33 : PySem.W.codeIn K cd33 "_law_ring_breaks" = true) (k33 : PySem.W.keepIn K (.ref f33) = true)
    {f34 : Addr} {od34 an34 : Option Addr} {sl34 : Array (Option Value)} {oc34 kV34 dc34 pm34 cd34 ct34 : Value}
    (a34 : PySem.W.nsIn K mainGlobals "_law_pull" = some (some (.ref f34))) (l34 : K.lookup f34 = some ⟨oc34, od34, .func (PySem.W.fnOf "_law_pull" "_law_pull" (defArgs s__law_pull) (defBody s__law_pull) (defScope s__law_pull) .none kV34 dc34 pm34 an34 cd34 ct34), sl34⟩) (c34 : PySem.W.codeIn K cd34 "_law_pull" = true) (k34 : PySem.W.keepIn K (.ref f34) = true)
    {f35 : Addr} {od35 an35 : Option Addr} {sl35 : Array (Option Value)} {oc35 kV35 dc35 pm35 cd35 ct35 : Value}
    (a35 : PySem.W.nsIn K mainGlobals "_law_mixed" = some (some (.ref f35))) (l35 : K.lookup f35 = some ⟨oc35, od35, .func (PySem.W.fnOf "_law_mixed" "_law_mixed" (defArgs s__law_mixed) (defBody s__law_mixed) (defScope s__law_mixed) .none kV35 dc35 pm35 an35 cd35 ct35), sl35⟩) (c35 : PySem.W.codeIn K cd35 "_law_mixed" = true) (k35 : PySem.W.keepIn K (.ref f35) = true)
    {f36 : Addr} {od36 an36 : Option Addr} {sl36 : Array (Option Value)} {oc36 kV36 dc36 pm36 cd36 ct36 : Value}
    (a36 : PySem.W.nsIn K mainGlobals "_law_meet" = some (some (.ref f36))) (l36 : K.lookup f36 = some ⟨oc36, od36, .func (PySem.W.fnOf "_law_meet" "_law_meet" (defArgs s__law_meet) (defBody s__law_meet) (defScope s__law_meet) .none kV36 dc36 pm36 an36 cd36 ct36), sl36⟩) (c36 : PySem.W.codeIn K cd36 "_law_meet" = true) (k36 : PySem.W.keepIn K (.ref f36) = true)
    {f37 : Addr} {od37 an37 : Option Addr} {sl37 : Array (Option Value)} {oc37 kV37 dc37 pm37 cd37 ct37 : Value}
    (a37 : PySem.W.nsIn K mainGlobals "_law_alone" = some (some (.ref f37))) (l37 : K.lookup f37 = some ⟨oc37, od37, .func (PySem.W.fnOf "_law_alone" "_law_alone" (defArgs s__law_alone) (defBody s__law_alone) (defScope s__law_alone) .none kV37 dc37 pm37 an37 cd37 ct37), sl37⟩) (c37 : PySem.W.codeIn K cd37 "_law_alone" = true) (k37 : PySem.W.keepIn K (.ref f37) = true)
    {f38 : Addr} {od38 an38 : Option Addr} {sl38 : Array (Option Value)} {oc38 kV38 dc38 pm38 cd38 ct38 : Value}
    (a38 : PySem.W.nsIn K mainGlobals "_law_rows" = some (some (.ref f38))) (l38 : K.lookup f38 = some ⟨oc38, od38, .func (PySem.W.fnOf "_law_rows" "_law_rows" (defArgs s__law_rows) (defBody s__law_rows) (defScope s__law_rows) .none kV38 dc38 pm38 an38 cd38 ct38), sl38⟩) (c38 : PySem.W.codeIn K cd38 "_law_rows" = true) (k38 : PySem.W.keepIn K (.ref f38) = true)
    {f39 : Addr} {od39 an39 : Option Addr} {sl39 : Array (Option Value)} {oc39 kV39 dc39 pm39 cd39 ct39 : Value}
    (a39 : PySem.W.nsIn K mainGlobals "_law_pick" = some (some (.ref f39))) (l39 : K.lookup f39 = some ⟨oc39, od39, .func (PySem.W.fnOf "_law_pick" "_law_pick" (defArgs s__law_pick) (defBody s__law_pick) (defScope s__law_pick) .none kV39 dc39 pm39 an39 cd39 ct39), sl39⟩) (c39 : PySem.W.codeIn K cd39 "_law_pick" = true) (k39 : PySem.W.keepIn K (.ref f39) = true)
    {f40 : Addr} {od40 an40 : Option Addr} {sl40 : Array (Option Value)} {oc40 kV40 dc40 pm40 cd40 ct40 : Value}
    (a40 : PySem.W.nsIn K mainGlobals "_law_names" = some (some (.ref f40))) (l40 : K.lookup f40 = some ⟨oc40, od40, .func (PySem.W.fnOf "_law_names" "_law_names" (defArgs s__law_names) (defBody s__law_names) (defScope s__law_names) .none kV40 dc40 pm40 an40 cd40 ct40), sl40⟩) (c40 : PySem.W.codeIn K cd40 "_law_names" = true) (k40 : PySem.W.keepIn K (.ref f40) = true)
    {f41 : Addr} {od41 an41 : Option Addr} {sl41 : Array (Option Value)} {oc41 kV41 dc41 pm41 cd41 ct41 : Value}
    (a41 : PySem.W.nsIn K mainGlobals "_law_rule_of" = some (some (.ref f41))) (l41 : K.lookup f41 = some ⟨oc41, od41, .func (PySem.W.fnOf "_law_rule_of" "_law_rule_of" (defArgs s__law_rule_of) (defBody s__law_rule_of) (defScope s__law_rule_of) .none kV41 dc41 pm41 an41 cd41 ct41), sl41⟩) (c41 : PySem.W.codeIn K cd41 "_law_rule_of" = true) (k41 : PySem.W.keepIn K (.ref f41) = true)
    {f42 : Addr} {od42 an42 : Option Addr} {sl42 : Array (Option Value)} {oc42 kV42 dc42 pm42 cd42 ct42 : Value}
    (a42 : PySem.W.nsIn K mainGlobals "_law_spots" = some (some (.ref f42))) (l42 : K.lookup f42 = some ⟨oc42, od42, .func (PySem.W.fnOf "_law_spots" "_law_spots" (defArgs s__law_spots) (defBody s__law_spots) (defScope s__law_spots) .none kV42 dc42 pm42 an42 cd42 ct42), sl42⟩) (c42 : PySem.W.codeIn K cd42 "_law_spots" = true) (k42 : PySem.W.keepIn K (.ref f42) = true)
    {f43 : Addr} {od43 an43 : Option Addr} {sl43 : Array (Option Value)} {oc43 kV43 dc43 pm43 cd43 ct43 : Value}
    (a43 : PySem.W.nsIn K mainGlobals "_law_modules" = some (some (.ref f43))) (l43 : K.lookup f43 = some ⟨oc43, od43, .func (PySem.W.fnOf "_law_modules" "_law_modules" (defArgs s__law_modules) (defBody s__law_modules) (defScope s__law_modules) .none kV43 dc43 pm43 an43 cd43 ct43), sl43⟩) (c43 : PySem.W.codeIn K cd43 "_law_modules" = true) (k43 : PySem.W.keepIn K (.ref f43) = true)
    {f44 : Addr} {od44 an44 : Option Addr} {sl44 : Array (Option Value)} {oc44 kV44 dc44 pm44 cd44 ct44 : Value}
    (a44 : PySem.W.nsIn K mainGlobals "_law_uses" = some (some (.ref f44))) (l44 : K.lookup f44 = some ⟨oc44, od44, .func (PySem.W.fnOf "_law_uses" "_law_uses" (defArgs s__law_uses) (defBody s__law_uses) (defScope s__law_uses) .none kV44 dc44 pm44 an44 cd44 ct44), sl44⟩) (c44 : PySem.W.codeIn K cd44 "_law_uses" = true) (k44 : PySem.W.keepIn K (.ref f44) = true)
    {f45 : Addr} {od45 an45 : Option Addr} {sl45 : Array (Option Value)} {oc45 kV45 dc45 pm45 cd45 ct45 : Value}
    (a45 : PySem.W.nsIn K mainGlobals "_law_case" = some (some (.ref f45))) (l45 : K.lookup f45 = some ⟨oc45, od45, .func (PySem.W.fnOf "_law_case" "_law_case" (defArgs s__law_case) (defBody s__law_case) (defScope s__law_case) .none kV45 dc45 pm45 an45 cd45 ct45), sl45⟩) (c45 : PySem.W.codeIn K cd45 "_law_case" = true) (k45 : PySem.W.keepIn K (.ref f45) = true)
    {f46 : Addr} {od46 an46 : Option Addr} {sl46 : Array (Option Value)} {oc46 kV46 dc46 pm46 cd46 ct46 : Value}
    (a46 : PySem.W.nsIn K mainGlobals "_law_same" = some (some (.ref f46))) (l46 : K.lookup f46 = some ⟨oc46, od46, .func (PySem.W.fnOf "_law_same" "_law_same" (defArgs s__law_same) (defBody s__law_same) (defScope s__law_same) .none kV46 dc46 pm46 an46 cd46 ct46), sl46⟩) (c46 : PySem.W.codeIn K cd46 "_law_same" = true) (k46 : PySem.W.keepIn K (.ref f46) = true)
    {f47 : Addr} {od47 an47 : Option Addr} {sl47 : Array (Option Value)} {oc47 kV47 dc47 pm47 cd47 ct47 : Value}
    (a47 : PySem.W.nsIn K mainGlobals "_law_reel" = some (some (.ref f47))) (l47 : K.lookup f47 = some ⟨oc47, od47, .func (PySem.W.fnOf "_law_reel" "_law_reel" (defArgs s__law_reel) (defBody s__law_reel) (defScope s__law_reel) .none kV47 dc47 pm47 an47 cd47 ct47), sl47⟩) (c47 : PySem.W.codeIn K cd47 "_law_reel" = true) (k47 : PySem.W.keepIn K (.ref f47) = true)
    {f48 : Addr} {od48 an48 : Option Addr} {sl48 : Array (Option Value)} {oc48 kV48 dc48 pm48 cd48 ct48 : Value}
    (a48 : PySem.W.nsIn K mainGlobals "law" = some (some (.ref f48))) (l48 : K.lookup f48 = some ⟨oc48, od48, .func (PySem.W.fnOf "law" "law" (defArgs s_law) (defBody s_law) (defScope s_law) .none kV48 dc48 pm48 an48 cd48 ct48), sl48⟩) (c48 : PySem.W.codeIn K cd48 "law" = true) (k48 : PySem.W.keepIn K (.ref f48) = true)
    (z_all : PySem.W.nsIn K mainGlobals "all" = some none)
    (z_len : PySem.W.nsIn K mainGlobals "len" = some none)
    (z_str : PySem.W.nsIn K mainGlobals "str" = some none)
    (z_isinstance : PySem.W.nsIn K mainGlobals "isinstance" = some none)
    (z_enumerate : PySem.W.nsIn K mainGlobals "enumerate" = some none)
    (z_tuple : PySem.W.nsIn K mainGlobals "tuple" = some none)
    (z_sorted : PySem.W.nsIn K mainGlobals "sorted" = some none)
    (z_min : PySem.W.nsIn K mainGlobals "min" = some none)
    (z_list : PySem.W.nsIn K mainGlobals "list" = some none)
    (z_zip : PySem.W.nsIn K mainGlobals "zip" = some none)
    (z_range : PySem.W.nsIn K mainGlobals "range" = some none)
    (z_int : PySem.W.nsIn K mainGlobals "int" = some none)
    (z_bool : PySem.W.nsIn K mainGlobals "bool" = some none)
    (z_abs : PySem.W.nsIn K mainGlobals "abs" = some none)
    {tk_LETTERS : Tok} (y_LETTERS : PySem.W.nsIn K mainGlobals "LETTERS" = some (some (.str "abcdefghijklmnopqrstuvwxyz" tk_LETTERS)))
    {tk_MAX_LETTERS : Tok} (y_MAX_LETTERS : PySem.W.nsIn K mainGlobals "MAX_LETTERS" = some (some (.int 8 tk_MAX_LETTERS)))
    {tk_MAX_NAMES : Tok} (y_MAX_NAMES : PySem.W.nsIn K mainGlobals "MAX_NAMES" = some (some (.int 6 tk_MAX_NAMES)))
    {tk_MAX_MODULES : Tok} (y_MAX_MODULES : PySem.W.nsIn K mainGlobals "MAX_MODULES" = some (some (.int 24 tk_MAX_MODULES)))
    {tk_MAX_USES : Tok} (y_MAX_USES : PySem.W.nsIn K mainGlobals "MAX_USES" = some (some (.int 200 tk_MAX_USES))) :
    ∃ fd : FuncData, (∀ (s : Shared) (v : Value), BindsTo s fd ⟨[v], []⟩ [("_law_script", v)]) ∧ ∀ base : Heap, K.In base → base.Ns mainGlobals mg → LamX.TabB base mg cT PT → FnOk l.prog w K mg base CX0 10 fa fd ["_law_script"] (spLawT [(PT, "first_of.<locals>.<lambda>")] K) := by
  letI : Tbs := ⟨[(PT, "first_of.<locals>.<lambda>")]⟩
  have e := hfa.symm.trans (PySem.W.mg_of X G a48)
  cases e
  have m_all := PySem.W.mg_none_of X G z_all
  have m_len := PySem.W.mg_none_of X G z_len
  have m_str := PySem.W.mg_none_of X G z_str
  have m_isinstance := PySem.W.mg_none_of X G z_isinstance
  have m_enumerate := PySem.W.mg_none_of X G z_enumerate
  have m_tuple := PySem.W.mg_none_of X G z_tuple
  have m_sorted := PySem.W.mg_none_of X G z_sorted
  have m_min := PySem.W.mg_none_of X G z_min
  have m_list := PySem.W.mg_none_of X G z_list
  have m_zip := PySem.W.mg_none_of X G z_zip
  have m_range := PySem.W.mg_none_of X G z_range
  have m_int := PySem.W.mg_none_of X G z_int
  have m_bool := PySem.W.mg_none_of X G z_bool
  have m_abs := PySem.W.mg_none_of X G z_abs
  have g_LETTERS : ∃ t, mg "LETTERS" = some (.str "abcdefghijklmnopqrstuvwxyz" t) := ⟨_, PySem.W.mg_of X G y_LETTERS⟩
  have g_MAX_LETTERS : ∃ t, mg "MAX_LETTERS" = some (.int 8 t) := ⟨_, PySem.W.mg_of X G y_MAX_LETTERS⟩
  have g_MAX_NAMES : ∃ t, mg "MAX_NAMES" = some (.int 6 t) := ⟨_, PySem.W.mg_of X G y_MAX_NAMES⟩
  have g_MAX_MODULES : ∃ t, mg "MAX_MODULES" = some (.int 24 t) := ⟨_, PySem.W.mg_of X G y_MAX_MODULES⟩
  have g_MAX_USES : ∃ t, mg "MAX_USES" = some (.int 200 t) := ⟨_, PySem.W.mg_of X G y_MAX_USES⟩
  have k_Program : KC K "Program" C_Program := ⟨kc0_Program, ⟨kc1_Program, kc2_Program, kc3_Program, kc4_Program⟩⟩
  have mg_Program : mg "Program" = some (.ref C_Program) := PySem.W.mg_of X G kc0_Program
  have o_Program : KO K "Program" C_Program := ⟨k_Program, ⟨ko0_Program, ko1_Program, ko2_Program, ko3_Program⟩, ko4_Program, ko5_Program⟩
  have n_Program_heads : NoAttr K C_Program "heads" := kn_n_Program_heads
  have n_Program_links : NoAttr K C_Program "links" := kn_n_Program_links
  have n_Program_places : NoAttr K C_Program "places" := kn_n_Program_places
  refine ⟨PySem.W.fnOf "law" "law" (defArgs s_law) (defBody s_law) (defScope s_law) .none kV48 dc48 pm48 an48 cd48 ct48, fun s v => .of_eq rfl, fun base _ _ TB => ?_⟩
  have lam_first_of : ∃ Pt, LamK K mg base "first_of" Pt ∧ (Pt, ("first_of.<locals>.<lambda>" : Str)) ∈ Tbs.t := ⟨PT, lamK_of X G hT TB, List.mem_singleton.mpr rfl⟩
  have d_is_name : Df K mg "is_name" s_is_name := ⟨_, _, fun_mk l0 c0 k0, PySem.W.mg_of X G a0⟩
  have d_is_path : Df K mg "is_path" s_is_path := ⟨_, _, fun_mk l1 c1 k1, PySem.W.mg_of X G a1⟩
  have d_covers : Df K mg "covers" s_covers := ⟨_, _, fun_mk l2 c2 k2, PySem.W.mg_of X G a2⟩
  have d_overlap : Df K mg "overlap" s_overlap := ⟨_, _, fun_mk l3 c3 k3, PySem.W.mg_of X G a3⟩
  have d_first_overlap : Df K mg "first_overlap" s_first_overlap := ⟨_, _, fun_mk l4 c4 k4, PySem.W.mg_of X G a4⟩
  have d_modules_error : Df K mg "modules_error" s_modules_error := ⟨_, _, fun_mk l5 c5 k5, PySem.W.mg_of X G a5⟩
  have d_covered : Df K mg "covered" s_covered := ⟨_, _, fun_mk l6 c6 k6, PySem.W.mg_of X G a6⟩
  have d_steps_between : Df K mg "steps_between" s_steps_between := ⟨_, _, fun_mk l7 c7 k7, PySem.W.mg_of X G a7⟩
  have d_ring_from : Df K mg "ring_from" s_ring_from := ⟨_, _, fun_mk l8 c8 k8, PySem.W.mg_of X G a8⟩
  have d_ring_breaks : Df K mg "ring_breaks" s_ring_breaks := ⟨_, _, fun_mk l9 c9 k9, PySem.W.mg_of X G a9⟩
  have d_links_of : Df K mg "links_of" s_links_of := ⟨_, _, fun_mk l10 c10 k10, PySem.W.mg_of X G a10⟩
  have d_chains_from : Df K mg "chains_from" s_chains_from := ⟨_, _, fun_mk l11 c11 k11, PySem.W.mg_of X G a11⟩
  have d_uses_of : Df K mg "uses_of" s_uses_of := ⟨_, _, fun_mk l12 c12 k12, PySem.W.mg_of X G a12⟩
  have d_place_of : Df K mg "place_of" s_place_of := ⟨_, _, fun_mk l13 c13 k13, PySem.W.mg_of X G a13⟩
  have d_is_barred : Df K mg "is_barred" s_is_barred := ⟨_, _, fun_mk l14 c14 k14, PySem.W.mg_of X G a14⟩
  have d_chain_breaks : Df K mg "chain_breaks" s_chain_breaks := ⟨_, _, fun_mk l15 c15 k15, PySem.W.mg_of X G a15⟩
  have d_is_chained : Df K mg "is_chained" s_is_chained := ⟨_, _, fun_mk l16 c16 k16, PySem.W.mg_of X G a16⟩
  have d_all_breaks : Df K mg "all_breaks" s_all_breaks := ⟨_, _, fun_mk l17 c17 k17, PySem.W.mg_of X G a17⟩
  have d_first_of : Df K mg "first_of" s_first_of := ⟨_, _, fun_mk l18 c18 k18, PySem.W.mg_of X G a18⟩
  have d_first_break : Df K mg "first_break" s_first_break := ⟨_, _, fun_mk l19 c19 k19, PySem.W.mg_of X G a19⟩
  have d_is_pair : Df K mg "is_pair" s_is_pair := ⟨_, _, fun_mk l20 c20 k20, PySem.W.mg_of X G a20⟩
  have d_uses_error : Df K mg "uses_error" s_uses_error := ⟨_, _, fun_mk l21 c21 k21, PySem.W.mg_of X G a21⟩
  have d_program_error : Df K mg "program_error" s_program_error := ⟨_, _, fun_mk l22 c22 k22, PySem.W.mg_of X G a22⟩
  have d_parts_of : Df K mg "parts_of" s_parts_of := ⟨_, _, fun_mk l23 c23 k23, PySem.W.mg_of X G a23⟩
  have d_find_break : Df K mg "find_break" s_find_break := ⟨_, _, fun_mk l27 c27 k27, PySem.W.mg_of X G a27⟩
  have d_each_break : Df K mg "each_break" s_each_break := ⟨_, _, fun_mk l28 c28 k28, PySem.W.mg_of X G a28⟩
  have d__law_first : Df K mg "_law_first" s__law_first := ⟨_, _, fun_mk l29 c29 k29, PySem.W.mg_of X G a29⟩
  have d__law_ring_rows : Df K mg "_law_ring_rows" s__law_ring_rows := ⟨_, _, fun_mk l30 c30 k30, PySem.W.mg_of X G a30⟩
  have d__law_under : Df K mg "_law_under" s__law_under := ⟨_, _, fun_mk l31 c31 k31, PySem.W.mg_of X G a31⟩
  have d__law_home : Df K mg "_law_home" s__law_home := ⟨_, _, fun_mk l32 c32 k32, PySem.W.mg_of X G a32⟩
  have d__law_ring_breaks : Df K mg "_law_ring_breaks" s__law_ring_breaks := ⟨_, _, fun_mk l33 c33 k33, PySem.W.mg_of X G a33⟩
  have d__law_pull : Df K mg "_law_pull" s__law_pull := ⟨_, _, fun_mk l34 c34 k34, PySem.W.mg_of X G a34⟩
  have d__law_mixed : Df K mg "_law_mixed" s__law_mixed := ⟨_, _, fun_mk l35 c35 k35, PySem.W.mg_of X G a35⟩
  have d__law_meet : Df K mg "_law_meet" s__law_meet := ⟨_, _, fun_mk l36 c36 k36, PySem.W.mg_of X G a36⟩
  have d__law_alone : Df K mg "_law_alone" s__law_alone := ⟨_, _, fun_mk l37 c37 k37, PySem.W.mg_of X G a37⟩
  have d__law_rows : Df K mg "_law_rows" s__law_rows := ⟨_, _, fun_mk l38 c38 k38, PySem.W.mg_of X G a38⟩
  have d__law_pick : Df K mg "_law_pick" s__law_pick := ⟨_, _, fun_mk l39 c39 k39, PySem.W.mg_of X G a39⟩
  have d__law_names : Df K mg "_law_names" s__law_names := ⟨_, _, fun_mk l40 c40 k40, PySem.W.mg_of X G a40⟩
  have d__law_rule_of : Df K mg "_law_rule_of" s__law_rule_of := ⟨_, _, fun_mk l41 c41 k41, PySem.W.mg_of X G a41⟩
  have d__law_spots : Df K mg "_law_spots" s__law_spots := ⟨_, _, fun_mk l42 c42 k42, PySem.W.mg_of X G a42⟩
  have d__law_modules : Df K mg "_law_modules" s__law_modules := ⟨_, _, fun_mk l43 c43 k43, PySem.W.mg_of X G a43⟩
  have d__law_uses : Df K mg "_law_uses" s__law_uses := ⟨_, _, fun_mk l44 c44 k44, PySem.W.mg_of X G a44⟩
  have d__law_case : Df K mg "_law_case" s__law_case := ⟨_, _, fun_mk l45 c45 k45, PySem.W.mg_of X G a45⟩
  have d__law_same : Df K mg "_law_same" s__law_same := ⟨_, _, fun_mk l46 c46 k46, PySem.W.mg_of X G a46⟩
  have d__law_reel : Df K mg "_law_reel" s__law_reel := ⟨_, _, fun_mk l47 c47 k47, PySem.W.mg_of X G a47⟩
  have c_is_name := ok_is_name (P := l.prog) (w := w) (mg := mg) (base := base) d_is_name m_all m_len m_str m_isinstance g_LETTERS g_MAX_LETTERS
  have c_is_path := ok_is_path (P := l.prog) (w := w) (mg := mg) (base := base) d_is_path m_all m_len m_str m_isinstance g_MAX_NAMES c_is_name
  have c_covers := ok_covers (P := l.prog) (w := w) (mg := mg) (base := base) d_covers 
  have c_overlap := ok_overlap (P := l.prog) (w := w) (mg := mg) (base := base) d_overlap c_covers
  have c_first_overlap := ok_first_overlap (P := l.prog) (w := w) (mg := mg) (base := base) d_first_overlap c_overlap
  have c_modules_error := ok_modules_error (P := l.prog) (w := w) (mg := mg) (base := base) d_modules_error m_enumerate m_len m_tuple m_isinstance g_MAX_MODULES c_first_overlap c_is_path
  have c_covered := ok_covered (P := l.prog) (w := w) (mg := mg) (base := base) d_covered c_covers
  have c_steps_between := ok_steps_between (P := l.prog) (w := w) (mg := mg) (base := base) d_steps_between c_covered
  have c_ring_from := ok_ring_from (P := l.prog) (w := w) (mg := mg) (base := base) d_ring_from m_sorted m_min
  have c_ring_breaks := ok_ring_breaks (P := l.prog) (w := w) (mg := mg) (base := base) d_ring_breaks c_ring_from c_steps_between
  have c_links_of := ok_links_of (P := l.prog) (w := w) (mg := mg) (base := base) d_links_of 
  have c_chains_from := ok_chains_from (P := l.prog) (w := w) (mg := mg) (base := base) d_chains_from m_list
  have c_uses_of := ok_uses_of (P := l.prog) (w := w) (mg := mg) (base := base) d_uses_of m_tuple m_zip
  have c_place_of := ok_place_of (P := l.prog) (w := w) (mg := mg) (base := base) d_place_of m_enumerate c_covered
  have c_is_barred := ok_is_barred (P := l.prog) (w := w) (mg := mg) (base := base) d_is_barred 
  have c_chain_breaks := ok_chain_breaks (P := l.prog) (w := w) (mg := mg) (base := base) d_chain_breaks c_is_barred c_uses_of c_chains_from c_place_of c_links_of
  have c_is_chained := ok_is_chained (P := l.prog) (w := w) (mg := mg) (base := base) d_is_chained 
  have c_all_breaks := ok_all_breaks (P := l.prog) (w := w) (mg := mg) (base := base) d_all_breaks c_is_barred c_place_of c_is_chained c_chain_breaks c_ring_breaks
  have c_first_of := ok_first_of (P := l.prog) (w := w) (mg := mg) (base := base) d_first_of m_min m_len lam_first_of
  have c_first_break := ok_first_break (P := l.prog) (w := w) (mg := mg) (base := base) d_first_break c_first_of c_all_breaks
  have c_is_pair := ok_is_pair (P := l.prog) (w := w) (mg := mg) (base := base) d_is_pair m_str m_isinstance m_len m_tuple o_Program
  have c_uses_error := ok_uses_error (P := l.prog) (w := w) (mg := mg) (base := base) d_uses_error m_enumerate m_len m_tuple m_isinstance g_MAX_USES c_is_pair
  have c_program_error := ok_program_error (P := l.prog) (w := w) (mg := mg) (base := base) d_program_error c_uses_error c_modules_error
  have c_parts_of := ok_parts_of (P := l.prog) (w := w) (mg := mg) (base := base) d_parts_of m_sorted m_tuple m_range m_len
  have c_Program___init__ := ok_Program___init__ (P := l.prog) (w := w) (mg := mg) (base := base) m_sorted m_tuple k_Program n_Program_heads n_Program_links n_Program_places c_parts_of c_program_error (PySem.W.mg_of X G kc0_Program) ⟨_, _, fun_mk l24 c24 k24, ⟨mb24, a24, ma24, mc24⟩⟩
  have c_Program_modules := ok_Program_modules (P := l.prog) (w := w) (mg := mg) (base := base) k_Program n_Program_places ⟨_, _, _, fun_mk l25 c25 k25, ⟨a25, pa25, pb25, _, pc25⟩⟩
  have c_Program_uses := ok_Program_uses (P := l.prog) (w := w) (mg := mg) (base := base) k_Program n_Program_links ⟨_, _, _, fun_mk l26 c26 k26, ⟨a26, pa26, pb26, _, pc26⟩⟩
  have c_find_break := ok_find_break (P := l.prog) (w := w) (mg := mg) (base := base) d_find_break c_first_break c_Program_uses c_Program_modules
  have c_each_break := ok_each_break (P := l.prog) (w := w) (mg := mg) (base := base) d_each_break c_all_breaks c_Program_uses c_Program_modules
  have c__law_first := ok__law_first (P := l.prog) (w := w) (mg := mg) (base := base) d__law_first m_len m_sorted
  have c__law_ring_rows := ok__law_ring_rows (P := l.prog) (w := w) (mg := mg) (base := base) d__law_ring_rows m_sorted
  have c__law_under := ok__law_under (P := l.prog) (w := w) (mg := mg) (base := base) d__law_under 
  have c__law_home := ok__law_home (P := l.prog) (w := w) (mg := mg) (base := base) d__law_home c__law_under
  have c__law_ring_breaks := ok__law_ring_breaks (P := l.prog) (w := w) (mg := mg) (base := base) d__law_ring_breaks m_range m_len m_sorted c__law_ring_rows c__law_home
  have c__law_pull := ok__law_pull (P := l.prog) (w := w) (mg := mg) (base := base) d__law_pull m_len m_int
  have c__law_mixed := ok__law_mixed (P := l.prog) (w := w) (mg := mg) (base := base) d__law_mixed m_range m_len m_list c__law_pull
  have c__law_meet := ok__law_meet (P := l.prog) (w := w) (mg := mg) (base := base) d__law_meet c__law_under
  have c__law_alone := ok__law_alone (P := l.prog) (w := w) (mg := mg) (base := base) d__law_alone m_len c__law_mixed c__law_meet
  have c__law_rows := ok__law_rows (P := l.prog) (w := w) (mg := mg) (base := base) d__law_rows m_len m_tuple c__law_pull
  have c__law_pick := ok__law_pick (P := l.prog) (w := w) (mg := mg) (base := base) d__law_pick m_len c__law_pull
  have c__law_names := ok__law_names (P := l.prog) (w := w) (mg := mg) (base := base) d__law_names m_range m_int m_list c__law_pick c__law_pull
  have c__law_rule_of := ok__law_rule_of (P := l.prog) (w := w) (mg := mg) (base := base) d__law_rule_of m_tuple m_len c__law_alone c__law_pull c__law_under c__law_pick c__law_rows
  have c__law_spots := ok__law_spots (P := l.prog) (w := w) (mg := mg) (base := base) d__law_spots m_range c__law_pull c__law_pick
  have c__law_modules := ok__law_modules (P := l.prog) (w := w) (mg := mg) (base := base) d__law_modules c__law_meet c__law_pick
  have c__law_uses := ok__law_uses (P := l.prog) (w := w) (mg := mg) (base := base) d__law_uses m_range m_len m_int c__law_pick c__law_pull
  have c__law_case := ok__law_case (P := l.prog) (w := w) (mg := mg) (base := base) d__law_case c__law_uses c__law_modules c__law_pick c__law_pull c__law_spots c__law_names
  have c__law_same := ok__law_same (P := l.prog) (w := w) (mg := mg) (base := base) d__law_same m_bool m_isinstance m_int m_str m_list m_tuple m_zip m_len
  have c__law_reel := ok__law_reel (P := l.prog) (w := w) (mg := mg) (base := base) d__law_reel m_len m_abs m_int
  exact ok_law (fun_mk l48 c48 k48) c__law_reel m_range m_list m_tuple k_Program c__law_same c__law_first c_find_break c_each_break c__law_ring_breaks c__law_rule_of c_Program___init__ c__law_uses c__law_case (List.pairwise_singleton _ _)
set_option maxHeartbeats 0
def exs0 : List FrB := [fun K => decide (PySem.W.nsIn K mainGlobals "Program" = some (some (.ref (He.ga K "Program")))),
  fun K => PySem.W.plainGet K (He.ga K "Program") Str.empty,
  fun K => PySem.W.hasDictIn K (He.ga K "Program"),
  fun K => PySem.W.plainOver K (He.ga K "Program"),
  fun K => decide (PySem.W.findIn K (.ref (He.ga K "Program")) "__setattr__" = some (some (.builtin "object.__setattr__"))),
  fun K => decide (PySem.W.findIn K (.ref (He.ga K "Program")) "__class__" = some (some (.builtin "object.__class__"))),
  fun K => decide (PySem.W.specialIn K (.builtin "object.__class__") "__get__" = some (some (.builtin "getset_descriptor.__get__"))),
  fun K => decide (PySem.W.takesIn K (.builtin "object.__class__") = some true),
  fun K => decide (PySem.W.mroIn K (He.ga K "Program") (.type "object") = some true),
  fun K => decide (PySem.W.subIn K (.ref (He.ga K "Program")) (.type "tuple") = some false),
  fun K => decide (PySem.W.subIn K (.ref (He.ga K "Program")) (.type "str") = some false),
  fun K => decide (PySem.W.findIn K (.ref (He.ga K "Program")) "heads" = some none)]
def exs1 : List FrB := [fun K => decide (PySem.W.findIn K (.ref (He.ga K "Program")) "links" = some none),
  fun K => decide (PySem.W.findIn K (.ref (He.ga K "Program")) "places" = some none),
  fun K => decide (PySem.W.nsIn K mainGlobals "is_name" = some (some (.ref (He.ga K "is_name")))),
  fun K => decide (PySem.W.nsIn K mainGlobals "is_path" = some (some (.ref (He.ga K "is_path")))),
  fun K => decide (PySem.W.nsIn K mainGlobals "covers" = some (some (.ref (He.ga K "covers")))),
  fun K => decide (PySem.W.nsIn K mainGlobals "overlap" = some (some (.ref (He.ga K "overlap")))),
  fun K => decide (PySem.W.nsIn K mainGlobals "first_overlap" = some (some (.ref (He.ga K "first_overlap")))),
  fun K => decide (PySem.W.nsIn K mainGlobals "modules_error" = some (some (.ref (He.ga K "modules_error")))),
  fun K => decide (PySem.W.nsIn K mainGlobals "covered" = some (some (.ref (He.ga K "covered")))),
  fun K => decide (PySem.W.nsIn K mainGlobals "steps_between" = some (some (.ref (He.ga K "steps_between")))),
  fun K => decide (PySem.W.nsIn K mainGlobals "ring_from" = some (some (.ref (He.ga K "ring_from")))),
  fun K => decide (PySem.W.nsIn K mainGlobals "ring_breaks" = some (some (.ref (He.ga K "ring_breaks"))))]
def exs2 : List FrB := [fun K => decide (PySem.W.nsIn K mainGlobals "links_of" = some (some (.ref (He.ga K "links_of")))),
  fun K => decide (PySem.W.nsIn K mainGlobals "chains_from" = some (some (.ref (He.ga K "chains_from")))),
  fun K => decide (PySem.W.nsIn K mainGlobals "uses_of" = some (some (.ref (He.ga K "uses_of")))),
  fun K => decide (PySem.W.nsIn K mainGlobals "place_of" = some (some (.ref (He.ga K "place_of")))),
  fun K => decide (PySem.W.nsIn K mainGlobals "is_barred" = some (some (.ref (He.ga K "is_barred")))),
  fun K => decide (PySem.W.nsIn K mainGlobals "chain_breaks" = some (some (.ref (He.ga K "chain_breaks")))),
  fun K => decide (PySem.W.nsIn K mainGlobals "is_chained" = some (some (.ref (He.ga K "is_chained")))),
  fun K => decide (PySem.W.nsIn K mainGlobals "all_breaks" = some (some (.ref (He.ga K "all_breaks")))),
  fun K => decide (PySem.W.nsIn K mainGlobals "first_of" = some (some (.ref (He.ga K "first_of")))),
  fun K => decide (PySem.W.nsIn K mainGlobals "first_break" = some (some (.ref (He.ga K "first_break")))),
  fun K => decide (PySem.W.nsIn K mainGlobals "is_pair" = some (some (.ref (He.ga K "is_pair")))),
  fun K => decide (PySem.W.nsIn K mainGlobals "uses_error" = some (some (.ref (He.ga K "uses_error"))))]
def exs3 : List FrB := [fun K => decide (PySem.W.nsIn K mainGlobals "program_error" = some (some (.ref (He.ga K "program_error")))),
  fun K => decide (PySem.W.nsIn K mainGlobals "parts_of" = some (some (.ref (He.ga K "parts_of")))),
  fun K => decide (PySem.W.findIn K (.ref (He.ga K "Program")) "__init__" = some (some (.ref (He.ma K (He.ga K "Program") "__init__")))),
  fun K => PySem.W.isFn K (.ref (He.ma K (He.ga K "Program") "__init__")),
  fun K => PySem.W.makesIn K (He.ga K "Program"),
  fun K => PySem.W.keepIn K (.ref (He.ga K "Program")),
  fun K => decide (PySem.W.findIn K (.ref (He.ga K "Program")) "modules" = some (some (.ref (He.ma K (He.ga K "Program") "modules")))),
  fun K => decide (PySem.W.specialIn K (.ref (He.ma K (He.ga K "Program") "modules")) "__get__" = some (some (.builtin "property.__get__"))),
  fun K => decide (PySem.W.takesIn K (.ref (He.ma K (He.ga K "Program") "modules")) = some true),
  fun K => decide (PySem.W.recIn K (He.ma K (He.ga K "Program") "modules") "property" = some (.ref (rcA K (He.ma K (He.ga K "Program") "modules") "property") :: (rcR K (He.ma K (He.ga K "Program") "modules") "property"))),
  fun K => decide (PySem.W.findIn K (.ref (He.ga K "Program")) "uses" = some (some (.ref (He.ma K (He.ga K "Program") "uses")))),
  fun K => decide (PySem.W.specialIn K (.ref (He.ma K (He.ga K "Program") "uses")) "__get__" = some (some (.builtin "property.__get__")))]
def exs4 : List FrB := [fun K => decide (PySem.W.takesIn K (.ref (He.ma K (He.ga K "Program") "uses")) = some true),
  fun K => decide (PySem.W.recIn K (He.ma K (He.ga K "Program") "uses") "property" = some (.ref (rcA K (He.ma K (He.ga K "Program") "uses") "property") :: (rcR K (He.ma K (He.ga K "Program") "uses") "property"))),
  fun K => decide (PySem.W.nsIn K mainGlobals "find_break" = some (some (.ref (He.ga K "find_break")))),
  fun K => decide (PySem.W.nsIn K mainGlobals "each_break" = some (some (.ref (He.ga K "each_break")))),
  fun K => decide (PySem.W.nsIn K mainGlobals "_law_first" = some (some (.ref (He.ga K "_law_first")))),
  fun K => decide (PySem.W.nsIn K mainGlobals "_law_ring_rows" = some (some (.ref (He.ga K "_law_ring_rows")))),
  fun K => decide (PySem.W.nsIn K mainGlobals "_law_under" = some (some (.ref (He.ga K "_law_under")))),
  fun K => decide (PySem.W.nsIn K mainGlobals "_law_home" = some (some (.ref (He.ga K "_law_home")))),
  fun K => decide (PySem.W.nsIn K mainGlobals "_law_ring_breaks" = some (some (.ref (He.ga K "_law_ring_breaks")))),
  fun K => decide (PySem.W.nsIn K mainGlobals "_law_pull" = some (some (.ref (He.ga K "_law_pull")))),
  fun K => decide (PySem.W.nsIn K mainGlobals "_law_mixed" = some (some (.ref (He.ga K "_law_mixed")))),
  fun K => decide (PySem.W.nsIn K mainGlobals "_law_meet" = some (some (.ref (He.ga K "_law_meet"))))]
def exs5 : List FrB := [fun K => decide (PySem.W.nsIn K mainGlobals "_law_alone" = some (some (.ref (He.ga K "_law_alone")))),
  fun K => decide (PySem.W.nsIn K mainGlobals "_law_rows" = some (some (.ref (He.ga K "_law_rows")))),
  fun K => decide (PySem.W.nsIn K mainGlobals "_law_pick" = some (some (.ref (He.ga K "_law_pick")))),
  fun K => decide (PySem.W.nsIn K mainGlobals "_law_names" = some (some (.ref (He.ga K "_law_names")))),
  fun K => decide (PySem.W.nsIn K mainGlobals "_law_rule_of" = some (some (.ref (He.ga K "_law_rule_of")))),
  fun K => decide (PySem.W.nsIn K mainGlobals "_law_spots" = some (some (.ref (He.ga K "_law_spots")))),
  fun K => decide (PySem.W.nsIn K mainGlobals "_law_modules" = some (some (.ref (He.ga K "_law_modules")))),
  fun K => decide (PySem.W.nsIn K mainGlobals "_law_uses" = some (some (.ref (He.ga K "_law_uses")))),
  fun K => decide (PySem.W.nsIn K mainGlobals "_law_case" = some (some (.ref (He.ga K "_law_case")))),
  fun K => decide (PySem.W.nsIn K mainGlobals "_law_same" = some (some (.ref (He.ga K "_law_same")))),
  fun K => decide (PySem.W.nsIn K mainGlobals "_law_reel" = some (some (.ref (He.ga K "_law_reel")))),
  fun K => decide (PySem.W.nsIn K mainGlobals "law" = some (some (.ref (He.ga K "law"))))]
def exs6 : List FrB := [fun K => decide (PySem.W.nsIn K mainGlobals "all" = some none),
  fun K => decide (PySem.W.nsIn K mainGlobals "len" = some none),
  fun K => decide (PySem.W.nsIn K mainGlobals "str" = some none),
  fun K => decide (PySem.W.nsIn K mainGlobals "isinstance" = some none),
  fun K => decide (PySem.W.nsIn K mainGlobals "enumerate" = some none),
  fun K => decide (PySem.W.nsIn K mainGlobals "tuple" = some none),
  fun K => decide (PySem.W.nsIn K mainGlobals "sorted" = some none),
  fun K => decide (PySem.W.nsIn K mainGlobals "min" = some none),
  fun K => decide (PySem.W.nsIn K mainGlobals "list" = some none),
  fun K => decide (PySem.W.nsIn K mainGlobals "zip" = some none),
  fun K => decide (PySem.W.nsIn K mainGlobals "range" = some none),
  fun K => decide (PySem.W.nsIn K mainGlobals "int" = some none)]
def exs7 : List FrB := [fun K => decide (PySem.W.nsIn K mainGlobals "bool" = some none),
  fun K => decide (PySem.W.nsIn K mainGlobals "abs" = some none),
  fun K => decide (PySem.W.nsIn K mainGlobals "LETTERS" = some (some (.str "abcdefghijklmnopqrstuvwxyz" (tkOf K "LETTERS")))),
  fun K => decide (PySem.W.nsIn K mainGlobals "MAX_LETTERS" = some (some (.int 8 (tkOf K "MAX_LETTERS")))),
  fun K => decide (PySem.W.nsIn K mainGlobals "MAX_NAMES" = some (some (.int 6 (tkOf K "MAX_NAMES")))),
  fun K => decide (PySem.W.nsIn K mainGlobals "MAX_MODULES" = some (some (.int 24 (tkOf K "MAX_MODULES")))),
  fun K => decide (PySem.W.nsIn K mainGlobals "MAX_USES" = some (some (.int 200 (tkOf K "MAX_USES"))))]
def exsR : List (List FrB) := [exs0, exs1, exs2, exs3, exs4, exs5, exs6, exs7]
def exR : List FrB := exsR.map fun l => fun K => l.all fun f => f K
def fnsR : List He5.DefA := [⟨fun K => (He.ga K "is_name"), "is_name", "is_name", defArgs s_is_name, defBody s_is_name, defScope s_is_name, [], []⟩,
  ⟨fun K => (He.ga K "is_path"), "is_path", "is_path", defArgs s_is_path, defBody s_is_path, defScope s_is_path, [], []⟩,
  ⟨fun K => (He.ga K "covers"), "covers", "covers", defArgs s_covers, defBody s_covers, defScope s_covers, [], []⟩,
  ⟨fun K => (He.ga K "overlap"), "overlap", "overlap", defArgs s_overlap, defBody s_overlap, defScope s_overlap, [], []⟩,
  ⟨fun K => (He.ga K "first_overlap"), "first_overlap", "first_overlap", defArgs s_first_overlap, defBody s_first_overlap, defScope s_first_overlap, [], []⟩,
  ⟨fun K => (He.ga K "modules_error"), "modules_error", "modules_error", defArgs s_modules_error, defBody s_modules_error, defScope s_modules_error, [], []⟩,
  ⟨fun K => (He.ga K "covered"), "covered", "covered", defArgs s_covered, defBody s_covered, defScope s_covered, [], []⟩,
  ⟨fun K => (He.ga K "steps_between"), "steps_between", "steps_between", defArgs s_steps_between, defBody s_steps_between, defScope s_steps_between, [], []⟩,
  ⟨fun K => (He.ga K "ring_from"), "ring_from", "ring_from", defArgs s_ring_from, defBody s_ring_from, defScope s_ring_from, [], []⟩,
  ⟨fun K => (He.ga K "ring_breaks"), "ring_breaks", "ring_breaks", defArgs s_ring_breaks, defBody s_ring_breaks, defScope s_ring_breaks, [], []⟩,
  ⟨fun K => (He.ga K "links_of"), "links_of", "links_of", defArgs s_links_of, defBody s_links_of, defScope s_links_of, [], []⟩,
  ⟨fun K => (He.ga K "chains_from"), "chains_from", "chains_from", defArgs s_chains_from, defBody s_chains_from, defScope s_chains_from, [], []⟩,
  ⟨fun K => (He.ga K "uses_of"), "uses_of", "uses_of", defArgs s_uses_of, defBody s_uses_of, defScope s_uses_of, [], []⟩,
  ⟨fun K => (He.ga K "place_of"), "place_of", "place_of", defArgs s_place_of, defBody s_place_of, defScope s_place_of, [], []⟩,
  ⟨fun K => (He.ga K "is_barred"), "is_barred", "is_barred", defArgs s_is_barred, defBody s_is_barred, defScope s_is_barred, [], []⟩,
  ⟨fun K => (He.ga K "chain_breaks"), "chain_breaks", "chain_breaks", defArgs s_chain_breaks, defBody s_chain_breaks, defScope s_chain_breaks, [], []⟩,
  ⟨fun K => (He.ga K "is_chained"), "is_chained", "is_chained", defArgs s_is_chained, defBody s_is_chained, defScope s_is_chained, [], []⟩,
  ⟨fun K => (He.ga K "all_breaks"), "all_breaks", "all_breaks", defArgs s_all_breaks, defBody s_all_breaks, defScope s_all_breaks, [], []⟩,
  ⟨fun K => (He.ga K "first_of"), "first_of", "first_of", defArgs s_first_of, defBody s_first_of, defScope s_first_of, [], []⟩,
  ⟨fun K => (He.ga K "first_break"), "first_break", "first_break", defArgs s_first_break, defBody s_first_break, defScope s_first_break, [], []⟩,
  ⟨fun K => (He.ga K "is_pair"), "is_pair", "is_pair", defArgs s_is_pair, defBody s_is_pair, defScope s_is_pair, [], []⟩,
  ⟨fun K => (He.ga K "uses_error"), "uses_error", "uses_error", defArgs s_uses_error, defBody s_uses_error, defScope s_uses_error, [], []⟩,
  ⟨fun K => (He.ga K "program_error"), "program_error", "program_error", defArgs s_program_error, defBody s_program_error, defScope s_program_error, [], []⟩,
  ⟨fun K => (He.ga K "parts_of"), "parts_of", "parts_of", defArgs s_parts_of, defBody s_parts_of, defScope s_parts_of, [], []⟩,
  ⟨fun K => (He.ma K (He.ga K "Program") "__init__"), "__init__", "Program.__init__", defArgs s_Program___init__, defBody s_Program___init__, defScope s_Program___init__, [], []⟩,
  ⟨fun K => (rcA K (He.ma K (He.ga K "Program") "modules") "property"), "modules", "Program.modules", defArgs s_Program_modules, defBody s_Program_modules, defScope s_Program_modules, [], []⟩,
  ⟨fun K => (rcA K (He.ma K (He.ga K "Program") "uses") "property"), "uses", "Program.uses", defArgs s_Program_uses, defBody s_Program_uses, defScope s_Program_uses, [], []⟩,
  ⟨fun K => (He.ga K "find_break"), "find_break", "find_break", defArgs s_find_break, defBody s_find_break, defScope s_find_break, [], []⟩,
  ⟨fun K => (He.ga K "each_break"), "each_break", "each_break", defArgs s_each_break, defBody s_each_break, defScope s_each_break, [], []⟩,
  ⟨fun K => (He.ga K "_law_first"), "_law_first", "_law_first", defArgs s__law_first, defBody s__law_first, defScope s__law_first, [], []⟩,
  ⟨fun K => (He.ga K "_law_ring_rows"), "_law_ring_rows", "_law_ring_rows", defArgs s__law_ring_rows, defBody s__law_ring_rows, defScope s__law_ring_rows, [], []⟩,
  ⟨fun K => (He.ga K "_law_under"), "_law_under", "_law_under", defArgs s__law_under, defBody s__law_under, defScope s__law_under, [], []⟩,
  ⟨fun K => (He.ga K "_law_home"), "_law_home", "_law_home", defArgs s__law_home, defBody s__law_home, defScope s__law_home, [], []⟩,
  ⟨fun K => (He.ga K "_law_ring_breaks"), "_law_ring_breaks", "_law_ring_breaks", defArgs s__law_ring_breaks, defBody s__law_ring_breaks, defScope s__law_ring_breaks, [], []⟩,
  ⟨fun K => (He.ga K "_law_pull"), "_law_pull", "_law_pull", defArgs s__law_pull, defBody s__law_pull, defScope s__law_pull, [], []⟩,
  ⟨fun K => (He.ga K "_law_mixed"), "_law_mixed", "_law_mixed", defArgs s__law_mixed, defBody s__law_mixed, defScope s__law_mixed, [], []⟩,
  ⟨fun K => (He.ga K "_law_meet"), "_law_meet", "_law_meet", defArgs s__law_meet, defBody s__law_meet, defScope s__law_meet, [], []⟩,
  ⟨fun K => (He.ga K "_law_alone"), "_law_alone", "_law_alone", defArgs s__law_alone, defBody s__law_alone, defScope s__law_alone, [], []⟩,
  ⟨fun K => (He.ga K "_law_rows"), "_law_rows", "_law_rows", defArgs s__law_rows, defBody s__law_rows, defScope s__law_rows, [], []⟩,
  ⟨fun K => (He.ga K "_law_pick"), "_law_pick", "_law_pick", defArgs s__law_pick, defBody s__law_pick, defScope s__law_pick, [], []⟩,
  ⟨fun K => (He.ga K "_law_names"), "_law_names", "_law_names", defArgs s__law_names, defBody s__law_names, defScope s__law_names, [], []⟩,
  ⟨fun K => (He.ga K "_law_rule_of"), "_law_rule_of", "_law_rule_of", defArgs s__law_rule_of, defBody s__law_rule_of, defScope s__law_rule_of, [], []⟩,
  ⟨fun K => (He.ga K "_law_spots"), "_law_spots", "_law_spots", defArgs s__law_spots, defBody s__law_spots, defScope s__law_spots, [], []⟩,
  ⟨fun K => (He.ga K "_law_modules"), "_law_modules", "_law_modules", defArgs s__law_modules, defBody s__law_modules, defScope s__law_modules, [], []⟩,
  ⟨fun K => (He.ga K "_law_uses"), "_law_uses", "_law_uses", defArgs s__law_uses, defBody s__law_uses, defScope s__law_uses, [], []⟩,
  ⟨fun K => (He.ga K "_law_case"), "_law_case", "_law_case", defArgs s__law_case, defBody s__law_case, defScope s__law_case, [], []⟩,
  ⟨fun K => (He.ga K "_law_same"), "_law_same", "_law_same", defArgs s__law_same, defBody s__law_same, defScope s__law_same, [], []⟩,
  ⟨fun K => (He.ga K "_law_reel"), "_law_reel", "_law_reel", defArgs s__law_reel, defBody s__law_reel, defScope s__law_reel, [], []⟩,
  ⟨fun K => (He.ga K "law"), "law", "law", defArgs s_law, defBody s_law, defScope s_law, [], []⟩]
def tabsR : List He.Tab := []
def loose0 : List PySem.Str := ["_wall", "MAX_MODULES", "MAX_NAMES", "MAX_USES", "LETTERS", "MAX_LETTERS", "is_name", "is_path", "covers", "overlap", "covered", "first_overlap"]
def loose1 : List PySem.Str := ["is_chained", "place_of", "is_barred", "links_of", "chains_from", "uses_of", "chain_breaks", "steps_between", "ring_from", "ring_breaks", "all_breaks", "first_of"]
def loose2 : List PySem.Str := ["first_break", "find_break", "each_break", "RestError", "BadProgram", "BadUse", "Clash", "TooMany", "is_pair", "modules_error", "uses_error", "program_error"]
def loose3 : List PySem.Str := ["parts_of", "Program", "_law_reel", "_law_pull", "_law_pick", "_law_mixed", "_law_names", "_law_under", "_law_meet", "_law_home", "_law_spots", "_law_alone"]
def loose4 : List PySem.Str := ["_law_rows", "_law_rule_of", "_law_modules", "_law_uses", "_law_same", "_law_case", "_law_ring_rows", "_law_ring_breaks", "_law_first"]
def looseR : List PySem.Str := loose0 ++ loose1 ++ loose2 ++ loose3 ++ loose4
def lamsR : List Str := ["first_of"]
noncomputable abbrev hkR : PySem.W.Hook := hookT 6 exR fnsR tabsR lamsR
noncomputable def obR (s : PySem.W.SharedT) : AlY × Bool := obsTG 6 exR fnsR tabsR lamsR (HandSHeadRun.getT s)
theorem obR_eq (s : PySem.W.SharedT) : obR s = hkR.obs s.abs := obsTG_eq (HandSHeadRun.getT_eq s)
theorem runR0 (w : World) : HandSHeadRun.RunEq (PySem.W.OpenLaw.row PySem.Challenge.rw_mayrest_k38_first_rings) (PySem.W.view (PySem.W.OpenLaw.row PySem.Challenge.rw_mayrest_k38_first_rings).prog [63]) hkR obR 20000 looseR (w.withFollow "special-get-raises" false) := by
  intro os
  kernel_rfl
theorem runR1 (w : World) : HandSHeadRun.RunEq (PySem.W.OpenLaw.row PySem.Challenge.rw_mayrest_k38_first_rings) (PySem.W.view (PySem.W.OpenLaw.row PySem.Challenge.rw_mayrest_k38_first_rings).prog [63]) hkR obR 20000 looseR (w.withFollow "special-get-raises" true) := by
  intro os
  kernel_rfl
theorem runR (w : World) : HandSHeadRun.RunEq (PySem.W.OpenLaw.row PySem.Challenge.rw_mayrest_k38_first_rings) (PySem.W.view (PySem.W.OpenLaw.row PySem.Challenge.rw_mayrest_k38_first_rings).prog [63]) hkR obR 20000 looseR w := PySem.W.byRow2 "special-get-raises" (P := fun w => HandSHeadRun.RunEq (PySem.W.OpenLaw.row PySem.Challenge.rw_mayrest_k38_first_rings) (PySem.W.view (PySem.W.OpenLaw.row PySem.Challenge.rw_mayrest_k38_first_rings).prog [63]) hkR obR 20000 looseR w) runR0 runR1 w
set_option maxHeartbeats 0
theorem factsR {l : PySem.W.OpenLaw} {w : World} {K : PySem.W.Frag} {h : Heap} {mg : Str → Option Value} {fa : Addr} (X : K.In h) (G : h.Ns mainGlobals mg) (hfa : mg "law" = some (.ref fa)) (c : SaysY exR fnsR tabsR w K) {cT PT : Addr} (hT : PySem.W.tabIn K "first_of" = some (cT, PT)) :
    ∃ fd : FuncData, (∀ (s : Shared) (v : Value), BindsTo s fd ⟨[v], []⟩ [("_law_script", v)]) ∧ ∀ base : Heap, K.In base → base.Ns mainGlobals mg → LamX.TabB base mg cT PT → FnOk l.prog w K mg base CX0 10 fa fd ["_law_script"] (spLawT [(PT, "first_of.<locals>.<lambda>")] K) := by
  have fact : ∀ (i j : Nat) {l : List FrB} {f : FrB}, exsR[i]? = some l → l[j]? = some f → f K = true := fun i j {l f} h1 h2 => List.all_eq_true.mp (c.fact i (f := fun K => l.all fun f => f K) (by unfold exR; rw [List.getElem?_map, h1]; rfl)) f (List.mem_of_getElem? h2)
  obtain ⟨_, F0⟩ : ∃ fd, FunD K "is_name" "is_name" (defArgs s_is_name) (defBody s_is_name) (defScope s_is_name) [] [] (He.ga K "is_name") fd := c.def_ 0 rfl
  obtain ⟨_, _, _, _, _, _, _, _, _, l0, c0, k0⟩ := raw_fn F0
  obtain ⟨_, F1⟩ : ∃ fd, FunD K "is_path" "is_path" (defArgs s_is_path) (defBody s_is_path) (defScope s_is_path) [] [] (He.ga K "is_path") fd := c.def_ 1 rfl
  obtain ⟨_, _, _, _, _, _, _, _, _, l1, c1, k1⟩ := raw_fn F1
  obtain ⟨_, F2⟩ : ∃ fd, FunD K "covers" "covers" (defArgs s_covers) (defBody s_covers) (defScope s_covers) [] [] (He.ga K "covers") fd := c.def_ 2 rfl
  obtain ⟨_, _, _, _, _, _, _, _, _, l2, c2, k2⟩ := raw_fn F2
  obtain ⟨_, F3⟩ : ∃ fd, FunD K "overlap" "overlap" (defArgs s_overlap) (defBody s_overlap) (defScope s_overlap) [] [] (He.ga K "overlap") fd := c.def_ 3 rfl
  obtain ⟨_, _, _, _, _, _, _, _, _, l3, c3, k3⟩ := raw_fn F3
  obtain ⟨_, F4⟩ : ∃ fd, FunD K "first_overlap" "first_overlap" (defArgs s_first_overlap) (defBody s_first_overlap) (defScope s_first_overlap) [] [] (He.ga K "first_overlap") fd := c.def_ 4 rfl
  obtain ⟨_, _, _, _, _, _, _, _, _, l4, c4, k4⟩ := raw_fn F4
  obtain ⟨_, F5⟩ : ∃ fd, FunD K "modules_error" "modules_error" (defArgs s_modules_error) (defBody s_modules_error) (defScope s_modules_error) [] [] (He.ga K "modules_error") fd := c.def_ 5 rfl
  obtain ⟨_, _, _, _, _, _, _, _, _, l5, c5, k5⟩ := raw_fn F5
  obtain ⟨_, F6⟩ : ∃ fd, FunD K "covered" "covered" (defArgs s_covered) (defBody s_covered) (defScope s_covered) [] [] (He.ga K "covered") fd := c.def_ 6 rfl
  obtain ⟨_, _, _, _, _, _, _, _, _, l6, c6, k6⟩ := raw_fn F6
  obtain ⟨_, F7⟩ : ∃ fd, FunD K "steps_between" "steps_between" (defArgs s_steps_between) (defBody s_steps_between) (defScope s_steps_between) [] [] (He.ga K "steps_between") fd := c.def_ 7 rfl
  obtain ⟨_, _, _, _, _, _, _, _, _, l7, c7, k7⟩ := raw_fn F7
  obtain ⟨_, F8⟩ : ∃ fd, FunD K "ring_from" "ring_from" (defArgs s_ring_from) (defBody s_ring_from) (defScope s_ring_from) [] [] (He.ga K "ring_from") fd := c.def_ 8 rfl
  obtain ⟨_, _, _, _, _, _, _, _, _, l8, c8, k8⟩ := raw_fn F8
  obtain ⟨_, F9⟩ : ∃ fd, FunD K "ring_breaks" "ring_breaks" (defArgs s_ring_breaks) (defBody s_ring_breaks) (defScope s_ring_breaks) [] [] (He.ga K "ring_breaks") fd := c.def_ 9 rfl
  obtain ⟨_, _, _, _, _, _, _, _, _, l9, c9, k9⟩ := raw_fn F9
  obtain ⟨_, F10⟩ : ∃ fd, FunD K "links_of" "links_of" (defArgs s_links_of) (defBody s_links_of) (defScope s_links_of) [] [] (He.ga K "links_of") fd := c.def_ 10 rfl
  obtain ⟨_, _, _, _, _, _, _, _, _, l10, c10, k10⟩ := raw_fn F10
  obtain ⟨_, F11⟩ : ∃ fd, FunD K "chains_from" "chains_from" (defArgs s_chains_from) (defBody s_chains_from) (defScope s_chains_from) [] [] (He.ga K "chains_from") fd := c.def_ 11 rfl
  obtain ⟨_, _, _, _, _, _, _, _, _, l11, c11, k11⟩ := raw_fn F11
  obtain ⟨_, F12⟩ : ∃ fd, FunD K "uses_of" "uses_of" (defArgs s_uses_of) (defBody s_uses_of) (defScope s_uses_of) [] [] (He.ga K "uses_of") fd := c.def_ 12 rfl
  obtain ⟨_, _, _, _, _, _, _, _, _, l12, c12, k12⟩ := raw_fn F12
  obtain ⟨_, F13⟩ : ∃ fd, FunD K "place_of" "place_of" (defArgs s_place_of) (defBody s_place_of) (defScope s_place_of) [] [] (He.ga K "place_of") fd := c.def_ 13 rfl
  obtain ⟨_, _, _, _, _, _, _, _, _, l13, c13, k13⟩ := raw_fn F13
  obtain ⟨_, F14⟩ : ∃ fd, FunD K "is_barred" "is_barred" (defArgs s_is_barred) (defBody s_is_barred) (defScope s_is_barred) [] [] (He.ga K "is_barred") fd := c.def_ 14 rfl
  obtain ⟨_, _, _, _, _, _, _, _, _, l14, c14, k14⟩ := raw_fn F14
  obtain ⟨_, F15⟩ : ∃ fd, FunD K "chain_breaks" "chain_breaks" (defArgs s_chain_breaks) (defBody s_chain_breaks) (defScope s_chain_breaks) [] [] (He.ga K "chain_breaks") fd := c.def_ 15 rfl
  obtain ⟨_, _, _, _, _, _, _, _, _, l15, c15, k15⟩ := raw_fn F15
  obtain ⟨_, F16⟩ : ∃ fd, FunD K "is_chained" "is_chained" (defArgs s_is_chained) (defBody s_is_chained) (defScope s_is_chained) [] [] (He.ga K "is_chained") fd := c.def_ 16 rfl
  obtain ⟨_, _, _, _, _, _, _, _, _, l16, c16, k16⟩ := raw_fn F16
  obtain ⟨_, F17⟩ : ∃ fd, FunD K "all_breaks" "all_breaks" (defArgs s_all_breaks) (defBody s_all_breaks) (defScope s_all_breaks) [] [] (He.ga K "all_breaks") fd := c.def_ 17 rfl
  obtain ⟨_, _, _, _, _, _, _, _, _, l17, c17, k17⟩ := raw_fn F17
  obtain ⟨_, F18⟩ : ∃ fd, FunD K "first_of" "first_of" (defArgs s_first_of) (defBody s_first_of) (defScope s_first_of) [] [] (He.ga K "first_of") fd := c.def_ 18 rfl
  obtain ⟨_, _, _, _, _, _, _, _, _, l18, c18, k18⟩ := raw_fn F18
  obtain ⟨_, F19⟩ : ∃ fd, FunD K "first_break" "first_break" (defArgs s_first_break) (defBody s_first_break) (defScope s_first_break) [] [] (He.ga K "first_break") fd := c.def_ 19 rfl
  obtain ⟨_, _, _, _, _, _, _, _, _, l19, c19, k19⟩ := raw_fn F19
  obtain ⟨_, F20⟩ : ∃ fd, FunD K "is_pair" "is_pair" (defArgs s_is_pair) (defBody s_is_pair) (defScope s_is_pair) [] [] (He.ga K "is_pair") fd := c.def_ 20 rfl
  obtain ⟨_, _, _, _, _, _, _, _, _, l20, c20, k20⟩ := raw_fn F20
  obtain ⟨_, F21⟩ : ∃ fd, FunD K "uses_error" "uses_error" (defArgs s_uses_error) (defBody s_uses_error) (defScope s_uses_error) [] [] (He.ga K "uses_error") fd := c.def_ 21 rfl
  obtain ⟨_, _, _, _, _, _, _, _, _, l21, c21, k21⟩ := raw_fn F21
  obtain ⟨_, F22⟩ : ∃ fd, FunD K "program_error" "program_error" (defArgs s_program_error) (defBody s_program_error) (defScope s_program_error) [] [] (He.ga K "program_error") fd := c.def_ 22 rfl
  obtain ⟨_, _, _, _, _, _, _, _, _, l22, c22, k22⟩ := raw_fn F22
  obtain ⟨_, F23⟩ : ∃ fd, FunD K "parts_of" "parts_of" (defArgs s_parts_of) (defBody s_parts_of) (defScope s_parts_of) [] [] (He.ga K "parts_of") fd := c.def_ 23 rfl
  obtain ⟨_, _, _, _, _, _, _, _, _, l23, c23, k23⟩ := raw_fn F23
  obtain ⟨_, F24⟩ : ∃ fd, FunD K "__init__" "Program.__init__" (defArgs s_Program___init__) (defBody s_Program___init__) (defScope s_Program___init__) [] [] (He.ma K (He.ga K "Program") "__init__") fd := c.def_ 24 rfl
  obtain ⟨_, _, _, _, _, _, _, _, _, l24, c24, k24⟩ := raw_fn F24
  obtain ⟨_, F25⟩ : ∃ fd, FunD K "modules" "Program.modules" (defArgs s_Program_modules) (defBody s_Program_modules) (defScope s_Program_modules) [] [] (rcA K (He.ma K (He.ga K "Program") "modules") "property") fd := c.def_ 25 rfl
  obtain ⟨_, _, _, _, _, _, _, _, _, l25, c25, k25⟩ := raw_fn F25
  obtain ⟨_, F26⟩ : ∃ fd, FunD K "uses" "Program.uses" (defArgs s_Program_uses) (defBody s_Program_uses) (defScope s_Program_uses) [] [] (rcA K (He.ma K (He.ga K "Program") "uses") "property") fd := c.def_ 26 rfl
  obtain ⟨_, _, _, _, _, _, _, _, _, l26, c26, k26⟩ := raw_fn F26
  obtain ⟨_, F27⟩ : ∃ fd, FunD K "find_break" "find_break" (defArgs s_find_break) (defBody s_find_break) (defScope s_find_break) [] [] (He.ga K "find_break") fd := c.def_ 27 rfl
  obtain ⟨_, _, _, _, _, _, _, _, _, l27, c27, k27⟩ := raw_fn F27
  obtain ⟨_, F28⟩ : ∃ fd, FunD K "each_break" "each_break" (defArgs s_each_break) (defBody s_each_break) (defScope s_each_break) [] [] (He.ga K "each_break") fd := c.def_ 28 rfl
  obtain ⟨_, _, _, _, _, _, _, _, _, l28, c28, k28⟩ := raw_fn F28
  obtain ⟨_, F29⟩ : ∃ fd, FunD K "_law_first" "_law_first" (defArgs s__law_first) (defBody s__law_first) (defScope s__law_first) [] [] (He.ga K "_law_first") fd := c.def_ 29 rfl
  obtain ⟨_, _, _, _, _, _, _, _, _, l29, c29, k29⟩ := raw_fn F29
  obtain ⟨_, F30⟩ : ∃ fd, FunD K "_law_ring_rows" "_law_ring_rows" (defArgs s__law_ring_rows) (defBody s__law_ring_rows) (defScope s__law_ring_rows) [] [] (He.ga K "_law_ring_rows") fd := c.def_ 30 rfl
  obtain ⟨_, _, _, _, _, _, _, _, _, l30, c30, k30⟩ := raw_fn F30
  obtain ⟨_, F31⟩ : ∃ fd, FunD K "_law_under" "_law_under" (defArgs s__law_under) (defBody s__law_under) (defScope s__law_under) [] [] (He.ga K "_law_under") fd := c.def_ 31 rfl
  obtain ⟨_, _, _, _, _, _, _, _, _, l31, c31, k31⟩ := raw_fn F31
  obtain ⟨_, F32⟩ : ∃ fd, FunD K "_law_home" "_law_home" (defArgs s__law_home) (defBody s__law_home) (defScope s__law_home) [] [] (He.ga K "_law_home") fd := c.def_ 32 rfl
  obtain ⟨_, _, _, _, _, _, _, _, _, l32, c32, k32⟩ := raw_fn F32
  obtain ⟨_, F33⟩ : ∃ fd, FunD K "_law_ring_breaks" "_law_ring_breaks" (defArgs s__law_ring_breaks) (defBody s__law_ring_breaks) (defScope s__law_ring_breaks) [] [] (He.ga K "_law_ring_breaks") fd := c.def_ 33 rfl
  obtain ⟨_, _, _, _, _, _, _, _, _, l33, c33, k33⟩ := raw_fn F33
  obtain ⟨_, F34⟩ : ∃ fd, FunD K "_law_pull" "_law_pull" (defArgs s__law_pull) (defBody s__law_pull) (defScope s__law_pull) [] [] (He.ga K "_law_pull") fd := c.def_ 34 rfl
  obtain ⟨_, _, _, _, _, _, _, _, _, l34, c34, k34⟩ := raw_fn F34
  obtain ⟨_, F35⟩ : ∃ fd, FunD K "_law_mixed" "_law_mixed" (defArgs s__law_mixed) (defBody s__law_mixed) (defScope s__law_mixed) [] [] (He.ga K "_law_mixed") fd := c.def_ 35 rfl
  obtain ⟨_, _, _, _, _, _, _, _, _, l35, c35, k35⟩ := raw_fn F35
  obtain ⟨_, F36⟩ : ∃ fd, FunD K "_law_meet" "_law_meet" (defArgs s__law_meet) (defBody s__law_meet) (defScope s__law_meet) [] [] (He.ga K "_law_meet") fd := c.def_ 36 rfl
  obtain ⟨_, _, _, _, _, _, _, _, _, l36, c36, k36⟩ := raw_fn F36
  obtain ⟨_, F37⟩ : ∃ fd, FunD K "_law_alone" "_law_alone" (defArgs s__law_alone) (defBody s__law_alone) (defScope s__law_alone) [] [] (He.ga K "_law_alone") fd := c.def_ 37 rfl
  obtain ⟨_, _, _, _, _, _, _, _, _, l37, c37, k37⟩ := raw_fn F37
  obtain ⟨_, F38⟩ : ∃ fd, FunD K "_law_rows" "_law_rows" (defArgs s__law_rows) (defBody s__law_rows) (defScope s__law_rows) [] [] (He.ga K "_law_rows") fd := c.def_ 38 rfl
  obtain ⟨_, _, _, _, _, _, _, _, _, l38, c38, k38⟩ := raw_fn F38
  obtain ⟨_, F39⟩ : ∃ fd, FunD K "_law_pick" "_law_pick" (defArgs s__law_pick) (defBody s__law_pick) (defScope s__law_pick) [] [] (He.ga K "_law_pick") fd := c.def_ 39 rfl
  obtain ⟨_, _, _, _, _, _, _, _, _, l39, c39, k39⟩ := raw_fn F39
  obtain ⟨_, F40⟩ : ∃ fd, FunD K "_law_names" "_law_names" (defArgs s__law_names) (defBody s__law_names) (defScope s__law_names) [] [] (He.ga K "_law_names") fd := c.def_ 40 rfl
  obtain ⟨_, _, _, _, _, _, _, _, _, l40, c40, k40⟩ := raw_fn F40
  obtain ⟨_, F41⟩ : ∃ fd, FunD K "_law_rule_of" "_law_rule_of" (defArgs s__law_rule_of) (defBody s__law_rule_of) (defScope s__law_rule_of) [] [] (He.ga K "_law_rule_of") fd := c.def_ 41 rfl
  obtain ⟨_, _, _, _, _, _, _, _, _, l41, c41, k41⟩ := raw_fn F41
  obtain ⟨_, F42⟩ : ∃ fd, FunD K "_law_spots" "_law_spots" (defArgs s__law_spots) (defBody s__law_spots) (defScope s__law_spots) [] [] (He.ga K "_law_spots") fd := c.def_ 42 rfl
  obtain ⟨_, _, _, _, _, _, _, _, _, l42, c42, k42⟩ := raw_fn F42
  obtain ⟨_, F43⟩ : ∃ fd, FunD K "_law_modules" "_law_modules" (defArgs s__law_modules) (defBody s__law_modules) (defScope s__law_modules) [] [] (He.ga K "_law_modules") fd := c.def_ 43 rfl
  obtain ⟨_, _, _, _, _, _, _, _, _, l43, c43, k43⟩ := raw_fn F43
  obtain ⟨_, F44⟩ : ∃ fd, FunD K "_law_uses" "_law_uses" (defArgs s__law_uses) (defBody s__law_uses) (defScope s__law_uses) [] [] (He.ga K "_law_uses") fd := c.def_ 44 rfl
  obtain ⟨_, _, _, _, _, _, _, _, _, l44, c44, k44⟩ := raw_fn F44
  obtain ⟨_, F45⟩ : ∃ fd, FunD K "_law_case" "_law_case" (defArgs s__law_case) (defBody s__law_case) (defScope s__law_case) [] [] (He.ga K "_law_case") fd := c.def_ 45 rfl
  obtain ⟨_, _, _, _, _, _, _, _, _, l45, c45, k45⟩ := raw_fn F45
  obtain ⟨_, F46⟩ : ∃ fd, FunD K "_law_same" "_law_same" (defArgs s__law_same) (defBody s__law_same) (defScope s__law_same) [] [] (He.ga K "_law_same") fd := c.def_ 46 rfl
  obtain ⟨_, _, _, _, _, _, _, _, _, l46, c46, k46⟩ := raw_fn F46
  obtain ⟨_, F47⟩ : ∃ fd, FunD K "_law_reel" "_law_reel" (defArgs s__law_reel) (defBody s__law_reel) (defScope s__law_reel) [] [] (He.ga K "_law_reel") fd := c.def_ 47 rfl
  obtain ⟨_, _, _, _, _, _, _, _, _, l47, c47, k47⟩ := raw_fn F47
  obtain ⟨_, F48⟩ : ∃ fd, FunD K "law" "law" (defArgs s_law) (defBody s_law) (defScope s_law) [] [] (He.ga K "law") fd := c.def_ 48 rfl
  obtain ⟨_, _, _, _, _, _, _, _, _, l48, c48, k48⟩ := raw_fn F48
  exact all_mk X G hfa hT (of_decide_eq_true (fact 0 0 rfl rfl))
    (fact 0 1 rfl rfl)
    (fact 0 2 rfl rfl)
    (fact 0 3 rfl rfl)
    (of_decide_eq_true (fact 0 4 rfl rfl))
    (of_decide_eq_true (fact 0 5 rfl rfl))
    (of_decide_eq_true (fact 0 6 rfl rfl))
    (of_decide_eq_true (fact 0 7 rfl rfl))
    (of_decide_eq_true (fact 0 8 rfl rfl))
    (of_decide_eq_true (fact 0 9 rfl rfl))
    (of_decide_eq_true (fact 0 10 rfl rfl))
    (of_decide_eq_true (fact 0 11 rfl rfl))
    (of_decide_eq_true (fact 1 0 rfl rfl))
    (of_decide_eq_true (fact 1 1 rfl rfl))
    (of_decide_eq_true (fact 1 2 rfl rfl))
    l0
    c0
    k0
    (of_decide_eq_true (fact 1 3 rfl rfl))
    l1
    c1
    k1
    (of_decide_eq_true (fact 1 4 rfl rfl))
    l2
    c2
    k2
    (of_decide_eq_true (fact 1 5 rfl rfl))
    l3
    c3
    k3
    (of_decide_eq_true (fact 1 6 rfl rfl))
    l4
    c4
    k4
    (of_decide_eq_true (fact 1 7 rfl rfl))
    l5
    c5
    k5
    (of_decide_eq_true (fact 1 8 rfl rfl))
    l6
    c6
    k6
    (of_decide_eq_true (fact 1 9 rfl rfl))
    l7
    c7
    k7
    (of_decide_eq_true (fact 1 10 rfl rfl))
    l8
    c8
    k8
    (of_decide_eq_true (fact 1 11 rfl rfl))
    l9
    c9
    k9
    (of_decide_eq_true (fact 2 0 rfl rfl))
    l10
    c10
    k10
    (of_decide_eq_true (fact 2 1 rfl rfl))
    l11
    c11
    k11
    (of_decide_eq_true (fact 2 2 rfl rfl))
    l12
    c12
    k12
    (of_decide_eq_true (fact 2 3 rfl rfl))
    l13
    c13
    k13
    (of_decide_eq_true (fact 2 4 rfl rfl))
    l14
    c14
    k14
    (of_decide_eq_true (fact 2 5 rfl rfl))
    l15
    c15
    k15
    (of_decide_eq_true (fact 2 6 rfl rfl))
    l16
    c16
    k16
    (of_decide_eq_true (fact 2 7 rfl rfl))
    l17
    c17
    k17
    (of_decide_eq_true (fact 2 8 rfl rfl))
    l18
    c18
    k18
    (of_decide_eq_true (fact 2 9 rfl rfl))
    l19
    c19
    k19
    (of_decide_eq_true (fact 2 10 rfl rfl))
    l20
    c20
    k20
    (of_decide_eq_true (fact 2 11 rfl rfl))
    l21
    c21
    k21
    (of_decide_eq_true (fact 3 0 rfl rfl))
    l22
    c22
    k22
    (of_decide_eq_true (fact 3 1 rfl rfl))
    l23
    c23
    k23
    (of_decide_eq_true (fact 3 2 rfl rfl))
    (fact 3 3 rfl rfl)
    (fact 3 4 rfl rfl)
    (fact 3 5 rfl rfl)
    l24
    c24
    k24
    (of_decide_eq_true (fact 3 6 rfl rfl))
    (of_decide_eq_true (fact 3 7 rfl rfl))
    (of_decide_eq_true (fact 3 8 rfl rfl))
    (of_decide_eq_true (fact 3 9 rfl rfl))
    l25
    c25
    k25
    (of_decide_eq_true (fact 3 10 rfl rfl))
    (of_decide_eq_true (fact 3 11 rfl rfl))
    (of_decide_eq_true (fact 4 0 rfl rfl))
    (of_decide_eq_true (fact 4 1 rfl rfl))
    l26
    c26
    k26
    (of_decide_eq_true (fact 4 2 rfl rfl))
    l27
    c27
    k27
    (of_decide_eq_true (fact 4 3 rfl rfl))
    l28
    c28
    k28
    (of_decide_eq_true (fact 4 4 rfl rfl))
    l29
    c29
    k29
    (of_decide_eq_true (fact 4 5 rfl rfl))
    l30
    c30
    k30
    (of_decide_eq_true (fact 4 6 rfl rfl))
    l31
    c31
    k31
    (of_decide_eq_true (fact 4 7 rfl rfl))
    l32
    c32
    k32
    (of_decide_eq_true (fact 4 8 rfl rfl))
    l33
    c33
    k33
    (of_decide_eq_true (fact 4 9 rfl rfl))
    l34
    c34
    k34
    (of_decide_eq_true (fact 4 10 rfl rfl))
    l35
    c35
    k35
    (of_decide_eq_true (fact 4 11 rfl rfl))
    l36
    c36
    k36
    (of_decide_eq_true (fact 5 0 rfl rfl))
    l37
    c37
    k37
    (of_decide_eq_true (fact 5 1 rfl rfl))
    l38
    c38
    k38
    (of_decide_eq_true (fact 5 2 rfl rfl))
    l39
    c39
    k39
    (of_decide_eq_true (fact 5 3 rfl rfl))
    l40
    c40
    k40
    (of_decide_eq_true (fact 5 4 rfl rfl))
    l41
    c41
    k41
    (of_decide_eq_true (fact 5 5 rfl rfl))
    l42
    c42
    k42
    (of_decide_eq_true (fact 5 6 rfl rfl))
    l43
    c43
    k43
    (of_decide_eq_true (fact 5 7 rfl rfl))
    l44
    c44
    k44
    (of_decide_eq_true (fact 5 8 rfl rfl))
    l45
    c45
    k45
    (of_decide_eq_true (fact 5 9 rfl rfl))
    l46
    c46
    k46
    (of_decide_eq_true (fact 5 10 rfl rfl))
    l47
    c47
    k47
    (of_decide_eq_true (fact 5 11 rfl rfl))
    l48
    c48
    k48
    (of_decide_eq_true (fact 6 0 rfl rfl))
    (of_decide_eq_true (fact 6 1 rfl rfl))
    (of_decide_eq_true (fact 6 2 rfl rfl))
    (of_decide_eq_true (fact 6 3 rfl rfl))
    (of_decide_eq_true (fact 6 4 rfl rfl))
    (of_decide_eq_true (fact 6 5 rfl rfl))
    (of_decide_eq_true (fact 6 6 rfl rfl))
    (of_decide_eq_true (fact 6 7 rfl rfl))
    (of_decide_eq_true (fact 6 8 rfl rfl))
    (of_decide_eq_true (fact 6 9 rfl rfl))
    (of_decide_eq_true (fact 6 10 rfl rfl))
    (of_decide_eq_true (fact 6 11 rfl rfl))
    (of_decide_eq_true (fact 7 0 rfl rfl))
    (of_decide_eq_true (fact 7 1 rfl rfl))
    (of_decide_eq_true (fact 7 2 rfl rfl))
    (of_decide_eq_true (fact 7 3 rfl rfl))
    (of_decide_eq_true (fact 7 4 rfl rfl))
    (of_decide_eq_true (fact 7 5 rfl rfl))
    (of_decide_eq_true (fact 7 6 rfl rfl))
end DL
open PySem PySem.W PySem.Calls PyProof.Rows
set_option maxHeartbeats 0 in
theorem PySem.Challenge.cw_mayrest_k38_first_rings_holds : PySem.Challenge.rw_mayrest_k38_first_rings.Holds := by
  w_on; o_law
  refine HandSHeadRun.head_any (r := OpenLaw.row PySem.Challenge.rw_mayrest_k38_first_rings) (q := view (OpenLaw.row PySem.Challenge.rw_mayrest_k38_first_rings).prog [63]) (H := DL.hkR) (ob := DL.obR) (M := 20000) (loose := DL.looseR) (d := HandSHeadRun.topDef (OpenLaw.row PySem.Challenge.rw_mayrest_k38_first_rings).prog 63) (kwd := []) DL.obR_eq
    (by kernel_rfl) (fun s => by kernel_rfl) DL.runR (by kernel_rfl) (by kernel_rfl) (by kernel_rfl) (by rfl) (by first | assumption | decide +kernel) (by decide +kernel) ⟨rfl, rfl, rfl, rfl, rfl, by decide +kernel⟩ ?hw ?hc
  case hw => w_witness2
  case hc =>
    refine DL.walk_ofYT (x0 := "first_of") (qq := "first_of.<locals>.<lambda>") (l := PySem.Challenge.rw_mayrest_k38_first_rings) (k := 10) (x := "_law_script") rfl (by kernel_rfl) ⟨rfl, by decide, by decide⟩ ?_
    intro w mg fa h K cT PT KX c G hmg0 hT
    have hmg : mg ("law" : PySem.Str) = some (.ref fa) := by
      have e : (HandSHeadRun.topDef (OpenLaw.row PySem.Challenge.rw_mayrest_k38_first_rings).prog 63).name = ("law" : PySem.Str) := by kernel_rfl
      rw [← e]
      exact hmg0
    exact DL.factsR KX G hmg c hT
