import PyProof.Rows.All
import HandS.Exc
import Wide.All
import OpenK.AllK
import Wide.FinOn
import HandS.ForMost
import HandS.IsInst
import HandS.TupAny
import HandS.Deep
import HandS.Style
import HandS.Wide
import HandS.Zip
import HandS.Property
import HandS.More
import HandS.Small
import KE.SortData
import KE.KDictSum
import KE.GoesMore
import KE.GoesEnum
import HandS.Set
import HandS.SetFor
import HandS.Strs
import KE.KCallOwn
import HandS.FStr
import HandS.NoneIn
import KE.KEqNest
import PyProof.EqKinds
import HandS.DictComp
import HandS.MakeKwOnly
import KE.DataMinMax
import HandS.TupLe
import KE.KDictZip
import HandS.Star
import HandS.ClsMeth
import HandS.CallLocal
import HandS.ExcInit
import HandS.ExcOwn
import HandS.TryOnly
import HandS.ExcField
import HandS.ExcIs
import HandS.ExcValue
import KE.KExcIs
import PyProof.ReprRoads
import PyProof.StrLawsRepr
import PyProof.ReprLen
import HandS.StrMore
import PyProof.NeKinds
import KE.KStateDown
import HandS.Head0
import HandS.Head1
import HandS.Head2
import HandS.HeadEnd
import HandS.HeadHook1
import HandS.HeadHook2
import HandS.HeadHook3
import HandS.HeadNt
import PyProof.ListStr
import HandS.Flow
import PyProof.ListNew
import KE.GoesEnumKw
import PyProof.Rows.CallKwBuiltin
import KE.DataMinKey
import KE.SortKeyHeap
import HandS.Lambda
import HandS.EndTab
import KE.KNestM
import HandS.Iter
import KE.KDictKeyed
import HandS.Conv
import HandS.CallSlots
import HandS.TupMul
import HandS.WideBits
import PySem.Challenge.RW_mayrest_k62_towers
set_option Elab.async false
set_option linter.all false
set_option maxRecDepth 100000
set_option autoImplicit false
namespace DL
open PySem PySem.Spec PyProof.Rows L2
/-! plain data, and how a value of the heap stands for it -/
inductive D where
  | none
  | bool (b : Bool)
  | int (i : Int)
  | str (x : Str)
  | tup (xs : List D)
  | lst (xs : List D)
  | dct (ks : List Key) (xs : List D)
  | dtt (ks : List (List Key)) (xs : List D)
  | ktup (xs : List Str)
  | ftp (xs : List D)
  | obj (c : Str) (ns : List Str) (xs : List D)
  | exn (c : Str) (ns : List Str) (xs : List D)
  | any (v : V)
/-- an exception that was caught, at a -/
def ExK (C dd a : Addr) : HO := .ext fun h => ∃ (oe : Obj) (vs : Array Value), h.get? a = some oe ∧ oe.cls = .ref C ∧ oe.dict = some dd ∧ oe.data = .fields vs
/-- a tuple -/
def TpAt (K : PySem.W.Frag) (H : Hp) (a : Addr) (xs : List V) : Prop := H a = some (.tup xs)
/-- a tuple of the text -/
def KtAt (K : PySem.W.Frag) (a : Addr) (xs : List V) : Prop := ∃ (o : Obj) (its : Array Value) (n : Nat), K.lookup a = some o ∧ o.cls = .type "tuple" ∧ o.data = .seq its n ∧ its.size ≤ sizeLine ∧ Vals xs its.toList
theorem KtAt.sq {K : PySem.W.Frag} {a : Addr} {xs : List V} (H : Hp) (h : KtAt K a xs) : SqT K H a xs := .inr h
/-- a tuple that is known to the object: no instance dict -/
def FtAt (H : Hp) (a : Addr) (xs : List V) : Prop := ∃ o : Obj, o.dict = none ∧ H a = some (.frz o (.tup xs))
theorem FtAt.mono {H H' : Hp} {a : Addr} {xs : List V} (e : Same H H') (h : FtAt H a xs) : FtAt H' a xs := let ⟨o, h1, h2⟩ := h; ⟨o, h1, e _ _ h2⟩
theorem FtAt.sq {K : PySem.W.Frag} {H : Hp} {a : Addr} {xs : List V} (h : FtAt H a xs) : SqT K H a xs := let ⟨o, _, h2⟩ := h; .inl (.inr ⟨o, h2⟩)
section
variable {K : PySem.W.Frag} {H H' : Hp} {a : Addr} {xs : List V}
theorem TpAt.mono (e : Same H H') (h : TpAt K H a xs) : TpAt K H' a xs := e _ _ h
theorem TpAt.sq (h : TpAt K H a xs) : SqT K H a xs := .inl (.inl h)
theorem tp_sq (e : Same H H') (h : TpAt K H a xs) : SqT K H' a xs := (h.mono e).sq
theorem sqT_mono (e : Same H H') (h : SqT K H a xs) : SqT K H' a xs := by
  rcases h with (h | ⟨o, h⟩) | h
  · exact .inl (.inl (e _ _ h))
  · exact .inl (.inr ⟨o, e _ _ h⟩)
  · exact .inr h
end
mutual
def Rp (K : PySem.W.Frag) (H : Hp) : D → V → Prop
  | .none, v => v = .non
  | .bool b, v => v = .bl b
  | .int i, v => v = .int i
  | .str x, v => v = .str x
  | .tup ds, v => ∃ a vs, v = .ref a ∧ TpAt K H a vs ∧ RpA K H ds vs
  | .lst ds, v => ∃ a vs, v = .ref a ∧ H a = some (.lst vs) ∧ RpA K H ds vs
  | .dct ks ds, v => ∃ a vs, v = .ref a ∧ H a = some (.dK (ks.zip vs)) ∧ ks.length = vs.length ∧ RpA K H ds vs
  | .dtt ks ds, v => ∃ a vs, v = .ref a ∧ H a = some (.dT (ks.zip vs)) ∧ ks.length = vs.length ∧ RpA K H ds vs
  | .ktup xs, v => ∃ a, v = .ref a ∧ KtAt K a (xs.map V.str)
  | .ftp ds, v => ∃ a vs, v = .ref a ∧ FtAt H a vs ∧ RpA K H ds vs
  | .obj c ns ds, v => ∃ C a dx vs, PySem.W.nsIn K mainGlobals c = some (some (.ref C)) ∧ v = .ref a ∧ H a = some (.ins C dx (ns.zip vs)) ∧ H dx = some (.own a) ∧ ns.length = vs.length ∧ RpA K H ds vs
  | .exn c ns ds, v => ∃ C a dd vs, PySem.W.nsIn K mainGlobals c = some (some (.ref C)) ∧ v = .ref a ∧ H a = some (ExK C dd a) ∧ H dd = some (.xd (ns.zip vs)) ∧ ns.length = vs.length ∧ RpA K H ds vs
  | .any w, v => v = w
def RpA (K : PySem.W.Frag) (H : Hp) : List D → List V → Prop
  | [], vs => vs = []
  | d :: ds, vs => ∃ v r, vs = v :: r ∧ Rp K H d v ∧ RpA K H ds r
end
section
variable {K : PySem.W.Frag} {H H' : Hp}
mutual
theorem Rp.mono (e : Same H H') : ∀ (d : D) (v : V), Rp K H d v → Rp K H' d v
  | .none, _, h => h
  | .bool _, _, h => h
  | .int _, _, h => h
  | .str _, _, h => h
  | .tup ds, _, ⟨a, vs, h1, h2, h3⟩ => ⟨a, vs, h1, h2.mono e, RpA.mono e ds vs h3⟩
  | .lst ds, _, ⟨a, vs, h1, h2, h3⟩ => ⟨a, vs, h1, e _ _ h2, RpA.mono e ds vs h3⟩
  | .dct ks ds, _, ⟨a, vs, h1, h2, h3, h4⟩ => ⟨a, vs, h1, e _ _ h2, h3, RpA.mono e ds vs h4⟩
  | .dtt ks ds, _, ⟨a, vs, h1, h2, h3, h4⟩ => ⟨a, vs, h1, e _ _ h2, h3, RpA.mono e ds vs h4⟩
  | .ktup _, _, h => h
  | .ftp ds, _, ⟨a, vs, h1, h2, h3⟩ => ⟨a, vs, h1, h2.mono e, RpA.mono e ds vs h3⟩
  | .obj c ns ds, _, ⟨C, a, dx, vs, h0, h1, h2, h3, h4, h5⟩ => ⟨C, a, dx, vs, h0, h1, e _ _ h2, e _ _ h3, h4, RpA.mono e ds vs h5⟩
  | .exn c ns ds, _, ⟨C, a, dx, vs, h0, h1, h2, h3, h4, h5⟩ => ⟨C, a, dx, vs, h0, h1, e _ _ h2, e _ _ h3, h4, RpA.mono e ds vs h5⟩
  | .any _, _, h => h
theorem RpA.mono (e : Same H H') : ∀ (ds : List D) (vs : List V), RpA K H ds vs → RpA K H' ds vs
  | [], _, h => h
  | d :: ds, _, ⟨v, r, h1, h2, h3⟩ => ⟨v, r, h1, Rp.mono e d v h2, RpA.mono e ds r h3⟩
end
theorem RpA.length : ∀ {ds : List D} {vs : List V}, RpA K H ds vs → ds.length = vs.length
  | [], _, h => by cases h; rfl
  | _ :: _, _, ⟨_, _, h1, _, h3⟩ => by subst h1; simp [RpA.length h3]
theorem RpA.get : ∀ {ds : List D} {vs : List V} {i : Nat} {d : D}, RpA K H ds vs → ds[i]? = some d → ∃ v, vs[i]? = some v ∧ Rp K H d v
  | [], _, _, _, _, e => by simp at e
  | d :: ds, _, 0, _, ⟨v, r, h1, h2, h3⟩, e => by simp at e; subst e; subst h1; exact ⟨v, rfl, h2⟩
  | d :: ds, _, i + 1, _, ⟨v, r, h1, h2, h3⟩, e => by subst h1; simpa using RpA.get h3 (by simpa using e)
theorem RpA.append : ∀ {ds es : List D} {vs ws : List V}, RpA K H ds vs → RpA K H es ws → RpA K H (ds ++ es) (vs ++ ws)
  | [], _, _, _, h, q => by cases h; exact q
  | d :: ds, _, _, _, ⟨v, r, h1, h2, h3⟩, q => by subst h1; exact ⟨v, r ++ _, rfl, h2, RpA.append h3 q⟩
theorem RpA.take : ∀ {ds : List D} {vs : List V} (n : Nat), RpA K H ds vs → RpA K H (ds.take n) (vs.take n)
  | _, _, 0, _ => rfl
  | [], _, _ + 1, h => by cases h; rfl
  | _ :: _, _, n + 1, ⟨v, r, h1, h2, h3⟩ => by subst h1; exact ⟨v, _, rfl, h2, RpA.take n h3⟩
theorem RpA.drop : ∀ {ds : List D} {vs : List V} (n : Nat), RpA K H ds vs → RpA K H (ds.drop n) (vs.drop n)
  | _, _, 0, h => h
  | [], _, _ + 1, h => by cases h; rfl
  | _ :: _, _, n + 1, ⟨v, r, h1, h2, h3⟩ => by subst h1; exact RpA.drop n h3
theorem RpA.one {d : D} {v : V} (h : Rp K H d v) : RpA K H [d] [v] := ⟨v, [], rfl, h, rfl⟩
theorem RpA.set : ∀ {ds : List D} {vs : List V} {d : D} {v : V} (n : Nat), RpA K H ds vs → Rp K H d v → RpA K H (ds.set n d) (vs.set n v)
  | [], _, _, _, _, h, _ => by cases h; rfl
  | _ :: _, _, _, _, 0, ⟨v, r, h1, h2, h3⟩, q => by subst h1; exact ⟨_, _, rfl, q, h3⟩
  | _ :: _, _, _, _, n + 1, ⟨v, r, h1, h2, h3⟩, q => by subst h1; exact ⟨_, _, rfl, h2, RpA.set n h3 q⟩
theorem RpA.map {α : Type} {f : α → D} {g : α → V} (h : ∀ x, Rp K H (f x) (g x)) : ∀ l : List α, RpA K H (l.map f) (l.map g)
  | [] => rfl
  | x :: l => ⟨_, _, rfl, h x, RpA.map h l⟩
theorem RpA.strs : ∀ {l : List Str} {vs : List V}, RpA K H (l.map D.str) vs → vs = l.map V.str
  | [], _, h => h
  | x :: l, _, ⟨v, r, h1, h2, h3⟩ => by subst h1; cases h2; rw [RpA.strs h3]; rfl
theorem RpA.bools : ∀ {l : List Bool} {vs : List V}, RpA K H (l.map D.bool) vs → vs = l.map V.bl
  | [], _, h => h
  | x :: l, _, ⟨v, r, h1, h2, h3⟩ => by subst h1; cases h2; rw [RpA.bools h3]; rfl
end
/-! data without lists and dicts -/
mutual
def D.flat : D → Bool
  | .none => true
  | .bool _ => true
  | .int _ => true
  | .str _ => true
  | .tup ds => flatA ds
  | .lst _ => false
  | .dct _ _ => false
  | .dtt _ _ => false
  | .ktup _ => true
  | .ftp ds => flatA ds
  | .obj _ _ _ => false
  | .exn _ _ _ => false
  | .any _ => true
def flatA : List D → Bool
  | [] => true
  | d :: ds => d.flat && flatA ds
end
def isLD : HO → Bool
  | .lst _ => true
  | .dK _ => true
  | .dT _ => true
  | .ins _ _ _ => true
  | .ext _ => true
  | _ => false
section
variable {K : PySem.W.Frag} {H H' : Hp}
mutual
theorem Rp.flat (e : ∀ a o, H a = some o → isLD o = false → H' a = some o) : ∀ (d : D) (v : V), d.flat = true → Rp K H d v → Rp K H' d v
  | .none, _, _, h => h
  | .bool _, _, _, h => h
  | .int _, _, _, h => h
  | .str _, _, _, h => h
  | .tup ds, _, f, ⟨a, vs, h1, h2, h3⟩ => ⟨a, vs, h1, e _ _ h2 rfl, RpA.flat e ds vs f h3⟩
  | .lst ds, _, f, _ => by cases f
  | .dct ks ds, _, f, _ => by cases f
  | .dtt ks ds, _, f, _ => by cases f
  | .ktup _, _, _, h => h
  | .ftp ds, _, f, ⟨a, vs, h1, ⟨o, h2, h3⟩, h4⟩ => ⟨a, vs, h1, ⟨o, h2, e _ _ h3 rfl⟩, RpA.flat e ds vs f h4⟩
  | .obj _ _ _, _, f, _ => by cases f
  | .exn _ _ _, _, f, _ => by cases f
  | .any _, _, _, h => h
theorem RpA.flat (e : ∀ a o, H a = some o → isLD o = false → H' a = some o) : ∀ (ds : List D) (vs : List V), flatA ds = true → RpA K H ds vs → RpA K H' ds vs
  | [], _, _, h => h
  | d :: ds, _, f, ⟨v, r, h1, h2, h3⟩ => by
    have f' : d.flat = true ∧ flatA ds = true := Bool.and_eq_true_iff.mp f
    exact ⟨v, r, h1, Rp.flat e d v f'.1 h2, RpA.flat e ds r f'.2 h3⟩
end
end
/-! the deck of draws -/
structure Dk where
  a : Addr
  b : Addr
  c : Addr
  /-- the tables of code objects that lambdas are put in, and the lambdas' names -/
  t : List (Addr × Str)
def Dk.has (g : Option Dk) (x : Addr) : Prop := match g with
  | none => False
  | some k => x = k.a ∨ x = k.b ∨ x = k.c ∨ x ∈ k.t.map (·.1)
/-- the table at P: the code objects that it tells are shared, and of the name q -/
def TabH (H Hs : Hp) (P : Addr) (q : Str) : Prop := ∃ ps : Array Value, H P = some (.tbl ps) ∧ TriplesOk ps.toList ∧ ∀ (pos : Pos) (cv : Value), codeAmong pos ps.toList = some cv → ∃ c, cv = .ref c ∧ Hs c = some (LamX.CodeO c q)
structure TbOk (k : Dk) (H Hs : Hp) : Prop where
  nd : (k.t.map (·.1)).Nodup
  at_ : ∀ p ∈ k.t, Hs p.1 = none ∧ TabH H Hs p.1 p.2
structure DkAt (k : Dk) (H : Hp) (f : Nat) : Prop where
  ab : k.a ≠ k.b
  ac : k.a ≠ k.c
  bc : k.b ≠ k.c
  at_ : ∃ (n : Int) (xs ys : List Int), H k.a = some (.lst [.ref k.b, .ref k.c, .int n]) ∧ H k.b = some (.lst (xs.map V.int)) ∧ H k.c = some (.lst (ys.map V.int)) ∧
    (∀ x ∈ xs, 0 ≤ x) ∧ (∀ y ∈ ys, 0 ≤ y) ∧ 0 < ys.length ∧ 0 ≤ n ∧ n + f ≤ 1000000000000
def DkOk (g : Option Dk) (H Hs : Hp) (f : Nat) : Prop := match g with
  | none => True
  | some k => DkAt k H f ∧ Hs k.a = none ∧ Hs k.b = none ∧ Hs k.c = none ∧ TbOk k H Hs
/-! from a heap and its shared part to later ones -/
structure Stp (g : Option Dk) (H Hs H' Hs' : Hp) : Prop where
  sub : Same Hs' H'
  ext : Same Hs Hs'
  keep : ∀ a o, H a = some o → ¬ Dk.has g a → H' a = some o
  there : ∀ a o, H a = some o → ∃ o', H' a = some o'
  new : ∀ a o, H a = some o → Hs a = none → Hs' a = none
theorem Stp.refl {g : Option Dk} {H Hs : Hp} (h : Same Hs H) : Stp g H Hs H Hs := ⟨h, Same.refl _, fun _ _ h _ => h, fun _ o h => ⟨o, h⟩, fun _ _ _ h => h⟩
theorem Stp.trans {g : Option Dk} {H Hs H1 Hs1 H2 Hs2 : Hp} (p : Stp g H Hs H1 Hs1) (q : Stp g H1 Hs1 H2 Hs2) : Stp g H Hs H2 Hs2 where
  sub := q.sub
  ext := p.ext.trans q.ext
  keep := fun a o h n => q.keep a o (p.keep a o h n) n
  there := fun a o h => by
    obtain ⟨o', h'⟩ := p.there a o h
    exact q.there a o' h'
  new := fun a o h n => by
    obtain ⟨o', h'⟩ := p.there a o h
    exact q.new a o' h' (p.new a o h n)
/-- a new object, shared -/
theorem Stp.alloc {g : Option Dk} {H Hs : Hp} {p : Addr} {o : HO} (s : Same Hs H) (hp : H p = none) : Stp g H Hs (upd H p o) (upd Hs p o) where
  sub := fun a u h => by
    by_cases e : a = p
    · subst e; rw [upd_same] at h ⊢; exact h
    · rw [upd_ne e] at h ⊢; exact s a u h
  ext := fun a u h => by
    have : a ≠ p := fun e => by subst e; rw [s a u h] at hp; cases hp
    rw [upd_ne this]; exact h
  keep := fun a u h _ => by rw [upd_ne (ne_of_none h hp)]; exact h
  there := fun a u h => ⟨u, by rw [upd_ne (ne_of_none h hp)]; exact h⟩
  new := fun a u h n => by rw [upd_ne (ne_of_none h hp)]; exact n
/-- a new object, not shared -/
theorem Stp.lay {g : Option Dk} {H Hs : Hp} {p : Addr} {o : HO} (s : Same Hs H) (hp : H p = none) : Stp g H Hs (upd H p o) Hs where
  sub := fun a u h => by
    have : a ≠ p := fun e => by subst e; rw [s a u h] at hp; cases hp
    rw [upd_ne this]; exact s a u h
  ext := Same.refl _
  keep := fun a u h _ => by rw [upd_ne (ne_of_none h hp)]; exact h
  there := fun a u h => ⟨u, by rw [upd_ne (ne_of_none h hp)]; exact h⟩
  new := fun a u h n => n
/-- an object that stands is shared from now on -/
theorem Stp.share {g : Option Dk} {H Hs H' Hs' : Hp} {p : Addr} {o : HO} (s : Stp g H Hs H' Hs') (h0 : H p = none) (h1 : H' p = some o) (h2 : Hs' p = none) : Stp g H Hs H' (upd Hs' p o) where
  sub := fun a u h => by
    by_cases e : a = p
    · subst e; rw [upd_same] at h; cases h; exact h1
    · rw [upd_ne e] at h; exact s.sub a u h
  ext := fun a u h => by
    have q := s.ext a u h
    rw [upd_ne (ne_of_none q h2)]; exact q
  keep := s.keep
  there := s.there
  new := fun a u h n => by rw [upd_ne (ne_of_none h h0)]; exact s.new a u h n
theorem TbOk.nil {a b c : Addr} {H Hs : Hp} : TbOk ⟨a, b, c, []⟩ H Hs := ⟨List.nodup_nil, fun _ h => nomatch h⟩
/-- the tables stay where they stand, the shared ones stay -/
theorem TbOk.to {k : Dk} {H Hs H' Hs' : Hp} (h : TbOk k H Hs) (a : ∀ p ∈ k.t.map (·.1), ∀ o, H p = some o → Hs p = none → H' p = some o ∧ Hs' p = none) (c : ∀ b o, Hs b = some o → b ∉ k.t.map (·.1) → (∃ q, o = LamX.CodeO b q) → Hs' b = some o) : TbOk k H' Hs' := ⟨h.nd, fun p hp => by
  obtain ⟨h1, ps, h2, h3, h4⟩ := h.at_ p hp
  obtain ⟨e1, e2⟩ := a p.1 (List.mem_map.mpr ⟨p, hp, rfl⟩) _ h2 h1
  refine ⟨e2, ps, e1, h3, fun pos cv hc => ?_⟩
  obtain ⟨x, e, hx⟩ := h4 pos cv hc
  refine ⟨x, e, c x _ hx (fun hm => ?_) ⟨_, rfl⟩⟩
  obtain ⟨p', hp', e'⟩ := List.mem_map.mp hm
  have := (h.at_ p' hp').1
  rw [e', hx] at this
  cases this⟩
theorem DkOk.step {g : Option Dk} {H Hs H' Hs' : Hp} {f : Nat} (h : DkOk g H Hs f) (k : ∀ a o, H a = some o → H' a = some o) (n : ∀ a o, H a = some o → Hs a = none → Hs' a = none) (e : Same Hs Hs') : DkOk g H' Hs' f := by
  cases g with
  | none => trivial
  | some d =>
    obtain ⟨⟨e1, e2, e3, n', xs, ys, h1, h2, h3, h4⟩, n1, n2, n3, tb⟩ := h
    exact ⟨⟨e1, e2, e3, n', xs, ys, k _ _ h1, k _ _ h2, k _ _ h3, h4⟩, n _ _ h1 n1, n _ _ h2 n2, n _ _ h3 n3, tb.to (fun p _ o hp hn => ⟨k _ _ hp, n _ _ hp hn⟩) fun b o hb _ _ => e b o hb⟩
theorem DkOk.stp {g : Option Dk} {H Hs H' Hs' : Hp} {f : Nat} (h : DkOk g H Hs f) (s : Stp none H Hs H' Hs') : DkOk g H' Hs' f := h.step (fun a o e => s.keep a o e id) s.new s.ext
theorem Stp.gen {g : Option Dk} {H Hs H' Hs' : Hp} (s : Stp none H Hs H' Hs') : Stp g H Hs H' Hs' := ⟨s.sub, s.ext, fun a o h _ => s.keep a o h id, s.there, s.new⟩
end DL
namespace DL
open PySem PySem.Spec PyProof.Rows L2
/-! slots -/
inductive Sl where
  | no
  | sh (d : D)
  | ow (xs : List D)
  | od (ks : List Key) (xs : List D)
  | ot (ks : List (List Key)) (xs : List D)
  | oi (a : Addr) (c : Str) (ns : List Str) (xs : List D)
  | on (w : World) (ks : List (List (Str × Str)))
def Sl.d : Sl → Option D
  | .no => none
  | .sh d => some d
  | .ow xs => some (.lst xs)
  | .od ks xs => some (.dct ks xs)
  | .ot ks xs => some (.dtt ks xs)
  | .oi _ _ _ _ => none
  | .on _ _ => none
abbrev Sg := List Sl
structure SlOk (K : PySem.W.Frag) (Hs : Hp) (r : Sg) (st : L2.St) : Prop where
  len : r.length = st.length
  get : ∀ (i : Nat) (s : Sl) (d : D), r[i]? = some s → s.d = some d → ∃ v, st[i]? = some (some v) ∧ Rp K Hs d v
theorem SlOk.mono {K : PySem.W.Frag} {Hs Hs' : Hp} {r : Sg} {st : L2.St} (h : SlOk K Hs r st) (e : Same Hs Hs') : SlOk K Hs' r st :=
  ⟨h.len, fun i s d h1 h2 => by
    obtain ⟨v, h3, h4⟩ := h.get i s d h1 h2
    exact ⟨v, h3, h4.mono e⟩⟩
theorem SlOk.set {K : PySem.W.Frag} {Hs : Hp} {r : Sg} {st : L2.St} (h : SlOk K Hs r st) (j : Nat) {d : D} {v : V} (hv : Rp K Hs d v) : SlOk K Hs (r.set j (.sh d)) (st.set j (some v)) :=
  ⟨by simp [h.len], fun i s e h1 h2 => by
    by_cases hij : j = i
    · subst hij
      by_cases hl : j < r.length
      · rw [List.getElem?_set_self hl] at h1
        cases h1
        cases h2
        exact ⟨v, List.getElem?_set_self (h.len ▸ hl), hv⟩
      · rw [List.getElem?_eq_none (by simpa using hl)] at h1
        cases h1
    · rw [List.getElem?_set_ne hij] at h1
      rw [List.getElem?_set_ne hij]
      exact h.get i s e h1 h2⟩
abbrev QD := D → Nat → Prop
abbrev DT := Option Dk → Sg → Nat → QD → Prop
abbrev DTT := Option Dk → Sg → Nat → (Bool → Nat → Prop) → Prop
abbrev DTA := Option Dk → Sg → Nat → (List D → Nat → Prop) → Prop
structure At (K : PySem.W.Frag) (g : Option Dk) (r : Sg) (f : Nat) (st : L2.St) (H Hs : Hp) : Prop where
  sub : Same Hs H
  dk : DkOk g H Hs f
  sl : SlOk K Hs r st
theorem At.step {K : PySem.W.Frag} {g : Option Dk} {r : Sg} {f f' : Nat} {st : L2.St} {H Hs H' Hs' : Hp} (a : At K g r f st H Hs) (s : Stp g H Hs H' Hs') (k : DkOk g H' Hs' f') : At K g r f' st H' Hs' :=
  ⟨s.sub, k, a.sl.mono s.ext⟩
def Snd (K : PySem.W.Frag) (t : TE) (dl : DT) : Prop := ∀ (g : Option Dk) (r : Sg) (f : Nat) (st : L2.St) (H Hs : Hp) (Q : VK) (Q' : QD), At K g r f st H Hs →
  (∀ d f' v H' Hs', Stp g H Hs H' Hs' → DkOk g H' Hs' f' → Rp K Hs' d v → Q' d f' → Q v H') → dl g r f Q' → t st H Q
def SndT (K : PySem.W.Frag) (t : TT) (dl : DTT) : Prop := ∀ (g : Option Dk) (r : Sg) (f : Nat) (st : L2.St) (H Hs : Hp) (Q : Bool → Hp → Prop) (Q' : Bool → Nat → Prop), At K g r f st H Hs →
  (∀ b f' H' Hs', Stp g H Hs H' Hs' → DkOk g H' Hs' f' → Q' b f' → Q b H') → dl g r f Q' → t st H Q
def SndA (K : PySem.W.Frag) (t : TA) (dl : DTA) : Prop := ∀ (g : Option Dk) (r : Sg) (f : Nat) (st : L2.St) (H Hs : Hp) (Q : List V → Hp → Prop) (Q' : List D → Nat → Prop), At K g r f st H Hs →
  (∀ ds f' vs H' Hs', Stp g H Hs H' Hs' → DkOk g H' Hs' f' → RpA K Hs' ds vs → Q' ds f' → Q vs H') → dl g r f Q' → t st H Q
/-- a list that is new -/
def SndL (K : PySem.W.Frag) (t : TE) (dl : DTA) : Prop := ∀ (g : Option Dk) (r : Sg) (f : Nat) (st : L2.St) (H Hs : Hp) (Q : VK) (Q' : List D → Nat → Prop), At K g r f st H Hs →
  (∀ ds f' p vs H' Hs', Stp g H Hs H' Hs' → DkOk g H' Hs' f' → H p = none → Hs' p = none → H' p = some (.lst vs) → RpA K Hs' ds vs → Q' ds f' → Q (.ref p) H') → dl g r f Q' → t st H Q
/-! the widest reading that data allow -/
def tOf (K : PySem.W.Frag) (dl : DT) : TE := fun st H Q => ∃ g r f Hs Q', At K g r f st H Hs ∧ (∀ d f' v H' Hs', Stp g H Hs H' Hs' → DkOk g H' Hs' f' → Rp K Hs' d v → Q' d f' → Q v H') ∧ dl g r f Q'
def tOfT (K : PySem.W.Frag) (dl : DTT) : TT := fun st H Q => ∃ g r f Hs Q', At K g r f st H Hs ∧ (∀ b f' H' Hs', Stp g H Hs H' Hs' → DkOk g H' Hs' f' → Q' b f' → Q b H') ∧ dl g r f Q'
def tOfA (K : PySem.W.Frag) (dl : DTA) : TA := fun st H Q => ∃ g r f Hs Q', At K g r f st H Hs ∧ (∀ ds f' vs H' Hs', Stp g H Hs H' Hs' → DkOk g H' Hs' f' → RpA K Hs' ds vs → Q' ds f' → Q vs H') ∧ dl g r f Q'
def tOfL (K : PySem.W.Frag) (dl : DTA) : TE := fun st H Q => ∃ g r f Hs Q', At K g r f st H Hs ∧ (∀ ds f' p vs H' Hs', Stp g H Hs H' Hs' → DkOk g H' Hs' f' → H p = none → Hs' p = none → H' p = some (.lst vs) → RpA K Hs' ds vs → Q' ds f' → Q (.ref p) H') ∧ dl g r f Q'
structure DE (X : Cx) (e : Expr) (dl : DT) : Prop where
  pe : PE X e (tOf X.K dl)
structure DP (X : Cx) (e : Expr) (dl : DTT) : Prop where
  pt : PT X e (tOfT X.K dl)
structure DW (X : Cx) (e : Expr) (dl : DTT) : Prop where
  pw : PW X e (tOfT X.K dl)
structure DA (X : Cx) (es : List Expr) (dl : DTA) : Prop where
  pa : PA X es (tOfA X.K dl)
structure DL' (X : Cx) (e : Expr) (dl : DTA) : Prop where
  pe : PE X e (tOfL X.K dl)
theorem DE.sn {X : Cx} {e : Expr} {dl : DT} (_ : DE X e dl) : Snd X.K (tOf X.K dl) dl := fun g r f st H Hs Q Q' a hq hd => ⟨g, r, f, Hs, Q', a, hq, hd⟩
theorem DP.sn {X : Cx} {e : Expr} {dl : DTT} (_ : DP X e dl) : SndT X.K (tOfT X.K dl) dl := fun g r f st H Hs Q Q' a hq hd => ⟨g, r, f, Hs, Q', a, hq, hd⟩
theorem DW.sn {X : Cx} {e : Expr} {dl : DTT} (_ : DW X e dl) : SndT X.K (tOfT X.K dl) dl := fun g r f st H Hs Q Q' a hq hd => ⟨g, r, f, Hs, Q', a, hq, hd⟩
theorem DA.sn {X : Cx} {es : List Expr} {dl : DTA} (_ : DA X es dl) : SndA X.K (tOfA X.K dl) dl := fun g r f st H Hs Q Q' a hq hd => ⟨g, r, f, Hs, Q', a, hq, hd⟩
theorem DL'.sn {X : Cx} {e : Expr} {dl : DTA} (_ : DL' X e dl) : SndL X.K (tOfL X.K dl) dl := fun g r f st H Hs Q Q' a hq hd => ⟨g, r, f, Hs, Q', a, hq, hd⟩
theorem DE.mk' {X : Cx} {e : Expr} {t : TE} {dl : DT} (p : PE X e t) (s : Snd X.K t dl) : DE X e dl := ⟨⟨fun pins sh st H Q I ⟨g, r, f, Hs, Q', a, hq, hd⟩ => p.run pins sh st H Q I (s g r f st H Hs Q Q' a hq hd)⟩⟩
theorem DP.mk' {X : Cx} {e : Expr} {t : TT} {dl : DTT} (p : PT X e t) (s : SndT X.K t dl) : DP X e dl := ⟨⟨fun pins sh st H Q I ⟨g, r, f, Hs, Q', a, hq, hd⟩ => p.run pins sh st H Q I (s g r f st H Hs Q Q' a hq hd)⟩⟩
theorem DW.mk' {X : Cx} {e : Expr} {t : TT} {dl : DTT} (p : PW X e t) (s : SndT X.K t dl) : DW X e dl := ⟨⟨fun whole pins sh st H Q I ⟨g, r, f, Hs, Q', a, hq, hd⟩ => p.run whole pins sh st H Q I (s g r f st H Hs Q Q' a hq hd)⟩⟩
theorem DA.mk' {X : Cx} {es : List Expr} {t : TA} {dl : DTA} (p : PA X es t) (s : SndA X.K t dl) : DA X es dl := ⟨⟨fun pos pins sh st H Q I ⟨g, r, f, Hs, Q', a, hq, hd⟩ => p.run pos pins sh st H Q I (s g r f st H Hs Q Q' a hq hd)⟩⟩
theorem DL'.mk' {X : Cx} {e : Expr} {t : TE} {dl : DTA} (p : PE X e t) (s : SndL X.K t dl) : DL' X e dl := ⟨⟨fun pins sh st H Q I ⟨g, r, f, Hs, Q', a, hq, hd⟩ => p.run pins sh st H Q I (s g r f st H Hs Q Q' a hq hd)⟩⟩
def dOfL (dl : DTA) : DT := fun g r f Q => dl g r f fun ds f' => Q (.lst ds) f'
theorem DkOk.share {g : Option Dk} {H Hs : Hp} {f : Nat} {p : Addr} {o : HO} (h : DkOk g H Hs f) (n : ¬ Dk.has g p) (hp : Hs p = none) : DkOk g H (upd Hs p o) f := by
  cases g with
  | none => trivial
  | some k =>
    obtain ⟨h0, h1, h2, h3, tb⟩ := h
    refine ⟨h0, ?_, ?_, ?_, tb.to (fun a ha u h1 h2 => ⟨h1, ?_⟩) fun b u hb _ _ => ?_⟩
    · rw [upd_ne fun e => n (.inl e.symm)]; exact h1
    · rw [upd_ne fun e => n (.inr (.inl e.symm))]; exact h2
    · rw [upd_ne fun e => n (.inr (.inr (.inl e.symm)))]; exact h3
    · rw [upd_ne fun e => n (.inr (.inr (.inr (by rw [← e]; exact ha))))]; exact h2
    · rw [upd_ne fun e => by rw [e, hp] at hb; cases hb]; exact hb
theorem DkOk.out {g : Option Dk} {H Hs : Hp} {f : Nat} {p : Addr} (h : DkOk g H Hs f) (n : H p = none) : ¬ Dk.has g p := by
  cases g with
  | none => exact id
  | some k =>
    obtain ⟨⟨_, _, _, _, _, _, h1, h2, h3, _⟩, _, _, _, tb⟩ := h
    rintro (e | e | e | e)
    · rw [e, h1] at n; cases n
    · rw [e, h2] at n; cases n
    · rw [e, h3] at n; cases n
    · obtain ⟨x, hx, rfl⟩ := List.mem_map.mp e
      obtain ⟨_, ps, e1, _⟩ := tb.at_ x hx
      rw [e1] at n; cases n
theorem DkOk.mut {g : Option Dk} {H Hs : Hp} {f : Nat} {p : Addr} {o : HO} (h : DkOk g H Hs f) (n : ¬ Dk.has g p) : DkOk g (upd H p o) Hs f := by
  cases g with
  | none => trivial
  | some k =>
    obtain ⟨⟨e1, e2, e3, n', xs, ys, h1, h2, h3, h4⟩, q1, q2, q3, tb⟩ := h
    refine ⟨⟨e1, e2, e3, n', xs, ys, ?_, ?_, ?_, h4⟩, q1, q2, q3, tb.to (fun a ha u h1 h2 => ⟨?_, h2⟩) fun b u hb _ _ => hb⟩
    · rw [upd_ne fun e => n (.inl e.symm)]; exact h1
    · rw [upd_ne fun e => n (.inr (.inl e.symm))]; exact h2
    · rw [upd_ne fun e => n (.inr (.inr (.inl e.symm)))]; exact h3
    · rw [upd_ne fun e => n (.inr (.inr (.inr (by rw [← e]; exact ha))))]; exact h1
theorem Stp.mut {g : Option Dk} {H Hs H' Hs' : Hp} {p : Addr} {o : HO} (s : Stp g H Hs H' Hs') (h0 : H p = none) (h2 : Hs' p = none) : Stp g H Hs (upd H' p o) Hs' where
  sub := fun a u h => by rw [upd_ne (ne_of_none h h2)]; exact s.sub a u h
  ext := s.ext
  keep := fun a u h n => by rw [upd_ne (ne_of_none h h0)]; exact s.keep a u h n
  there := fun a u h => by rw [upd_ne (ne_of_none h h0)]; exact s.there a u h
  new := s.new
section
variable {X : Cx} {K : PySem.W.Frag}
theorem SndL.e {t : TE} {dl : DTA} (h : SndL K t dl) : Snd K t (dOfL dl) := fun g r f st H Hs Q Q' a hq hd =>
  h g r f st H Hs Q _ a (fun ds f' p vs H' Hs' s k h0 h1 h2 hr q => hq (.lst ds) f' (.ref p) H' _ (s.share h0 h2 h1) (k.share (a.dk.out h0) h1) ⟨p, vs, rfl, upd_same, hr.mono (fun b u e => by rw [upd_ne (ne_of_none e h1)]; exact e)⟩ q) hd
theorem DL'.e {e : Expr} {dl : DTA} (h : DL' X e dl) : DE X e (dOfL dl) := .mk' (h.pe) (h.sn.e)
/-! names, constants -/
def dVar (i : Nat) : DT := fun _ r f Q => match r[i]? with
  | some s => match s.d with
    | some d => Q d f
    | none => False
  | none => False
theorem snd_var (i : Nat) : Snd K (tVar i) (dVar i) := fun g r f st H Hs Q Q' a hq hd => by
  unfold dVar at hd
  split at hd
  · next s e =>
    split at hd
    · next d e2 =>
      obtain ⟨v, h1, h2⟩ := a.sl.get i s d e e2
      exact ⟨v, h1, hq d f v H Hs (Stp.refl a.sub) a.dk h2 hd⟩
    · exact hd.elim
  · exact hd.elim
def dC (d : D) : DT := fun _ _ f Q => Q d f
theorem snd_c {d : D} {v : V} (h : ∀ H, Rp K H d v) : Snd K (tC v) (dC d) := fun g r f st H Hs Q Q' a hq hd => hq d f v H Hs (Stp.refl a.sub) a.dk (h Hs) hd
theorem de_v (i : Nat) {x : Str} {pos : Pos} (hN : X.N[i]? = some x := by rfl) (hv : Vis X.env.scope x := by first | exact Or.inl rfl | exact Or.inr (Or.inl rfl) | exact Or.inr (Or.inr rfl)) (hd : (x == ("__debug__" : Str)) = false := by decide)
    (hcd : (x == ("__classdict__" : Str)) = false := by decide) : DE X (.Name x pos) (dVar i) := .mk' (pe_var hN hv hd hcd) (snd_var i)
theorem de_int {i : Int} {j pos} : DE X (.Constant (.int i) j pos) (dC (.int i)) := .mk' (pe_int) (snd_c fun _ => rfl)
theorem de_bl {b : Bool} {j pos} : DE X (.Constant (.bool b) j pos) (dC (.bool b)) := .mk' (pe_bl) (snd_c fun _ => rfl)
theorem de_non {j pos} : DE X (.Constant .none j pos) (dC .none) := .mk' (pe_non) (snd_c fun _ => rfl)
theorem de_str {x : Str} {j pos} : DE X (.Constant (.str x) j pos) (dC (.str x)) := .mk' (pe_str) (snd_c fun _ => rfl)
theorem de_glob {x : Str} {v : V} {u : Value} {pos : Pos} {d : D} (hg : Gl X x) (hm : X.mg x = some u) (r : RelV v u) (hr : ∀ H, Rp X.K H d v) (hd : (x == ("__debug__" : Str)) = false := by decide) : DE X (.Name x pos) (dC d) := .mk' (pe_glob hg hm r hd) (snd_c hr)
theorem de_bltn {x : Str} {v : V} {u : Value} {pos : Pos} (hg : Gl X x) (hm : X.mg x = none) (hv : bootBuiltins x = some u) (r : RelV v u) (hn : x ≠ "__name__" := by decide) (hd : (x == ("__debug__" : Str)) = false := by decide) :
    DE X (.Name x pos) (dC (.any v)) := .mk' (pe_bltn hg hm hv r hn hd) (snd_c fun _ => rfl)
/-! operators by values -/
abbrev O2 := D → D → (D → Prop) → Prop
def SndR (K : PySem.W.Frag) (r : R2) (op : O2) : Prop := ∀ (H Hs : Hp) (x y : D) (vx vy : V) (Q : VK) (Q' : D → Prop), Same Hs H → Rp K Hs x vx → Rp K Hs y vy →
  (∀ z v H' Hs', Stp none H Hs H' Hs' → Rp K Hs' z v → Q' z → Q v H') → op x y Q' → r vx vy H Q
def dOp (op : O2) (a b : DT) : DT := fun g r f Q => a g r f fun x f1 => b g r f1 fun y f2 => op x y fun z => Q z f2
theorem snd_op {r : R2} {op : O2} {ta tb : TE} {a b : DT} (hr : SndR K r op) (ha : Snd K ta a) (hb : Snd K tb b) : Snd K (tOp r ta tb) (dOp op a b) := fun g ro f st H Hs Q Q' A hq hd =>
  ha g ro f st H Hs _ _ A (fun x f1 vx H1 Hs1 s1 k1 r1 q1 => hb g ro f1 st H1 Hs1 _ _ (A.step s1 k1) (fun y f2 vy H2 Hs2 s2 k2 r2 q2 =>
    hr H2 Hs2 x y vx vy Q _ s2.sub (r1.mono s2.ext) r2 (fun z v H3 Hs3 s3 r3 q3 => hq z f2 v H3 Hs3 ((s1.trans s2).trans s3.gen) (k2.stp s3) r3 q3) q2) q1) hd
theorem SndR.or {r r' : R2} {op op' : O2} (h : SndR K r op) (h' : SndR K r' op') : SndR K (fun x y H Q => r x y H Q ∨ r' x y H Q) (fun x y Q => op x y Q ∨ op' x y Q) := fun H Hs x y vx vy Q Q' s rx ry hq hd => by
  rcases hd with hd | hd
  · exact .inl (h H Hs x y vx vy Q Q' s rx ry hq hd)
  · exact .inr (h' H Hs x y vx vy Q Q' s rx ry hq hd)
theorem SndR.weak {r : R2} {op op' : O2} (h : SndR K r op) (w : ∀ x y Q, op' x y Q → op x y Q) : SndR K r op' := fun H Hs x y vx vy Q Q' s rx ry hq hd => h H Hs x y vx vy Q Q' s rx ry hq (w x y Q' hd)
theorem de_op {a b : Expr} {op : Operator} {pos : Pos} {r : R2} {o : O2} {da db : DT} (ho : OpR X (binaryOp op) r) (hr : SndR X.K r o) (ha : DE X a da) (hb : DE X b db) : DE X (.BinOp a op b pos) (dOp o da db) := .mk' (pe_op ho ha.pe hb.pe) (snd_op hr ha.sn hb.sn)
theorem de_cmp {a b : Expr} {op : CmpOp} {pos : Pos} {r : R2} {o : O2} {da db : DT} (ho : OpR X (compareOp op) r) (hr : SndR X.K r o) (ha : DE X a da) (hb : DE X b db) (hm : behindInMarks op b = false) : DE X (.Compare a [op] [b] pos) (dOp o da db) := .mk' (pe_cmpR ho ha.pe hb.pe hm) (snd_op hr ha.sn hb.sn)
def dTest (a : DT) : DTT := fun g r f Q => a g r f fun x f1 => match x with
  | .bool b => Q b f1
  | _ => False
theorem snd_test {ta : TE} {a : DT} (ha : Snd K ta a) : SndT K (tTest ta) (dTest a) := fun g ro f st H Hs Q Q' A hq hd =>
  ha g ro f st H Hs _ _ A (fun x f1 v H1 Hs1 s1 k1 r1 q1 => by
    cases x with
    | bool b => exact ⟨b, r1, hq b f1 H1 Hs1 s1 k1 q1⟩
    | _ => exact q1.elim) hd
theorem snd_B {ta : TE} {a : DT} (ha : Snd K ta a) : SndT K (tB ta) (dTest a) := fun g ro f st H Hs Q Q' A hq hd =>
  ha g ro f st H Hs _ _ A (fun x f1 v H1 Hs1 s1 k1 r1 q1 => by
    cases x with
    | bool b => exact ⟨b, r1, hq b f1 H1 Hs1 s1 k1 q1⟩
    | _ => exact q1.elim) hd
theorem dp_cmp {a b : Expr} {op : CmpOp} {pos : Pos} {r : R2} {o : O2} {da db : DT} (ho : OpR X (compareOp op) r) (hr : SndR X.K r o) (ha : DE X a da) (hb : DE X b db) (hm : behindInMarks op b = false) : DP X (.Compare a [op] [b] pos) (dTest (dOp o da db)) :=
  .mk' (pt_cmpR ho ha.pe hb.pe hm) (snd_test (snd_op hr ha.sn hb.sn))
theorem dp_val {e : Expr} {d : DT} (h : DE X e d) (he : ∀ whole, isTrue e X.env whole = (do let v ← whole; standAt e.pos; holding [v] (truthy v)) := by intro _; rfl) : DP X e (dTest d) := .mk' (pt_val h.pe he) (snd_B h.sn)
def dChain (o o' : O2) (a b c : DT) : DT := fun g r f Q => a g r f fun x f1 => b g r f1 fun y f2 => o x y fun z => match z with
  | .bool k => if k = true then c g r f2 fun w f3 => o' y w fun z' => Q z' f3 else Q (.bool false) f2
  | _ => False
end
end DL
namespace DL
open PySem PySem.Spec PyProof.Rows L2
section
variable {X : Cx} {K : PySem.W.Frag}
theorem snd_chain {r r' : R2} {o o' : O2} {ta tb tc : TE} {a b c : DT} (hr : SndR K r o) (hr' : SndR K r' o') (ha : Snd K ta a) (hb : Snd K tb b) (hc : Snd K tc c) : Snd K (tChain r r' ta tb tc) (dChain o o' a b c) := fun g ro f st H Hs Q Q' A hq hd =>
  ha g ro f st H Hs _ _ A (fun x f1 vx H1 Hs1 s1 k1 r1 q1 => hb g ro f1 st H1 Hs1 _ _ (A.step s1 k1) (fun y f2 vy H2 Hs2 s2 k2 r2 q2 =>
    hr H2 Hs2 x y vx vy _ _ s2.sub (r1.mono s2.ext) r2 (fun z v H3 Hs3 s3 r3 q3 => by
      cases z with
      | bool k =>
        refine ⟨k, r3, ?_⟩
        cases k with
        | true =>
          rw [if_pos rfl]
          replace q3 : c g ro f2 fun w f3 => o' y w fun z' => Q' z' f3 := q3
          have A3 := (A.step s1 k1).step s2 k2 |>.step s3.gen (k2.stp s3)
          exact hc g ro f2 st H3 Hs3 _ _ A3 (fun w f3 vw H4 Hs4 s4 k4 r4 q4 => hr' H4 Hs4 y w vy vw _ _ s4.sub ((r2.mono s3.ext).mono s4.ext) r4 (fun z v H5 Hs5 s5 r5 q5 =>
            hq z f3 v H5 Hs5 ((((s1.trans s2).trans s3.gen).trans s4).trans s5.gen) (k4.stp s5) r5 q5) q4) q3
        | false =>
          rw [if_neg Bool.false_ne_true]
          exact hq (.bool false) f2 (.bl false) H3 Hs3 ((s1.trans s2).trans s3.gen) (k2.stp s3) rfl q3
      | _ => exact q3.elim) q2) q1) hd
theorem de_chain {a b c : Expr} {op op' : CmpOp} {pos : Pos} {r r' : R2} {o o' : O2} {da db dc : DT} (ho : OpR X (compareOp op) r) (ho' : OpR X (compareOp op') r') (hr : SndR X.K r o) (hr' : SndR X.K r' o')
    (ha : DE X a da) (hb : DE X b db) (hc : DE X c dc) (hm : lastMarks [op, op'] [b, c] = false := by with_unfolding_all rfl) : DE X (.Compare a [op, op'] [b, c] pos) (dChain o o' da db dc) :=
  .mk' (pe_chain ho ho' ha.pe hb.pe hc.pe hm) (snd_chain hr hr' ha.sn hb.sn hc.sn)
/-! and, or, not, if -/
def dAnd (a b : DTT) : DTT := fun g r f Q => a g r f fun c f1 => if c = true then b g r f1 Q else Q false f1
def dOr (a b : DTT) : DTT := fun g r f Q => a g r f fun c f1 => if c = true then Q true f1 else b g r f1 Q
def dNot (a : DTT) : DTT := fun g r f Q => a g r f fun c f1 => Q (!c) f1
theorem snd_and {t u : TT} {a b : DTT} (ha : SndT K t a) (hb : SndT K u b) : SndT K (tAnd t u) (dAnd a b) := fun g ro f st H Hs Q Q' A hq hd =>
  ha g ro f st H Hs _ _ A (fun c f1 H1 Hs1 s1 k1 q1 => by
    cases c with
    | true => exact hb g ro f1 st H1 Hs1 _ _ (A.step s1 k1) (fun d f2 H2 Hs2 s2 k2 q2 => hq d f2 H2 Hs2 (s1.trans s2) k2 q2) q1
    | false => exact hq false f1 H1 Hs1 s1 k1 q1) hd
theorem snd_or {t u : TT} {a b : DTT} (ha : SndT K t a) (hb : SndT K u b) : SndT K (tOr t u) (dOr a b) := fun g ro f st H Hs Q Q' A hq hd =>
  ha g ro f st H Hs _ _ A (fun c f1 H1 Hs1 s1 k1 q1 => by
    cases c with
    | false => exact hb g ro f1 st H1 Hs1 _ _ (A.step s1 k1) (fun d f2 H2 Hs2 s2 k2 q2 => hq d f2 H2 Hs2 (s1.trans s2) k2 q2) q1
    | true => exact hq true f1 H1 Hs1 s1 k1 q1) hd
theorem snd_not {t : TT} {a : DTT} (ha : SndT K t a) : SndT K (tNot t) (dNot a) := fun g ro f st H Hs Q Q' A hq hd =>
  ha g ro f st H Hs _ _ A (fun c f1 H1 Hs1 s1 k1 q1 => hq (!c) f1 H1 Hs1 s1 k1 q1) hd
theorem dw_and1 {a : Expr} {pos : Pos} {d : DTT} (h : DP X a d) : DW X (.BoolOp .And [a] pos) d := .mk' (pw_and1 h.pt) (h.sn)
theorem dw_or1 {a : Expr} {pos : Pos} {d : DTT} (h : DP X a d) : DW X (.BoolOp .Or [a] pos) d := .mk' (pw_or1 h.pt) (h.sn)
theorem dw_and {a b : Expr} {rest : List Expr} {pos : Pos} {d e : DTT} (h : DP X a d) (h' : DW X (.BoolOp .And (b :: rest) pos) e) : DW X (.BoolOp .And (a :: b :: rest) pos) (dAnd d e) := .mk' (pw_and h.pt h'.pw) (snd_and h.sn h'.sn)
theorem dw_or {a b : Expr} {rest : List Expr} {pos : Pos} {d e : DTT} (h : DP X a d) (h' : DW X (.BoolOp .Or (b :: rest) pos) e) : DW X (.BoolOp .Or (a :: b :: rest) pos) (dOr d e) := .mk' (pw_or h.pt h'.pw) (snd_or h.sn h'.sn)
theorem DW.p {a : Expr} {d : DTT} (h : DW X a d) : DP X a d := .mk' (h.pw.pt) (h.sn)
theorem dp_not {a : Expr} {pos : Pos} {d : DTT} (h : DP X a d) : DP X (.UnaryOp .Not a pos) (dNot d) := .mk' (pt_not h.pt) (snd_not h.sn)
def dAndV (a b : DT) : DT := fun g r f Q => a g r f fun x f1 => match x with
  | .bool c => if c = true then b g r f1 Q else Q (.bool false) f1
  | _ => False
def dOrV (a b : DT) : DT := fun g r f Q => a g r f fun x f1 => match x with
  | .bool c => if c = true then Q (.bool true) f1 else b g r f1 Q
  | _ => False
theorem snd_andV {t u : TE} {a b : DT} (ha : Snd K t a) (hb : Snd K u b) : Snd K (tAndV t u) (dAndV a b) := fun g ro f st H Hs Q Q' A hq hd =>
  ha g ro f st H Hs _ _ A (fun x f1 v H1 Hs1 s1 k1 r1 q1 => by
    cases x with
    | bool c =>
      refine ⟨c, r1, ?_⟩
      cases c with
      | true => exact hb g ro f1 st H1 Hs1 _ _ (A.step s1 k1) (fun d f2 v H2 Hs2 s2 k2 r2 q2 => hq d f2 v H2 Hs2 (s1.trans s2) k2 r2 q2) q1
      | false => exact hq (.bool false) f1 _ H1 Hs1 s1 k1 rfl q1
    | _ => exact q1.elim) hd
theorem snd_orV {t u : TE} {a b : DT} (ha : Snd K t a) (hb : Snd K u b) : Snd K (tOrV t u) (dOrV a b) := fun g ro f st H Hs Q Q' A hq hd =>
  ha g ro f st H Hs _ _ A (fun x f1 v H1 Hs1 s1 k1 r1 q1 => by
    cases x with
    | bool c =>
      refine ⟨c, r1, ?_⟩
      cases c with
      | false => exact hb g ro f1 st H1 Hs1 _ _ (A.step s1 k1) (fun d f2 v H2 Hs2 s2 k2 r2 q2 => hq d f2 v H2 Hs2 (s1.trans s2) k2 r2 q2) q1
      | true => exact hq (.bool true) f1 _ H1 Hs1 s1 k1 rfl q1
    | _ => exact q1.elim) hd
theorem de_one {a : Expr} {op} {pos : Pos} {d : DT} (h : DE X a d) : DE X (.BoolOp op [a] pos) d := .mk' (pe_one h.pe) (h.sn)
theorem de_and {a b : Expr} {rest : List Expr} {pos : Pos} {d e : DT} (h : DE X a d) (h' : DE X (.BoolOp .And (b :: rest) pos) e) : DE X (.BoolOp .And (a :: b :: rest) pos) (dAndV d e) := .mk' (pe_and h.pe h'.pe) (snd_andV h.sn h'.sn)
theorem de_or {a b : Expr} {rest : List Expr} {pos : Pos} {d e : DT} (h : DE X a d) (h' : DE X (.BoolOp .Or (b :: rest) pos) e) : DE X (.BoolOp .Or (a :: b :: rest) pos) (dOrV d e) := .mk' (pe_or h.pe h'.pe) (snd_orV h.sn h'.sn)
def dIf (c : DTT) (a b : DT) : DT := fun g r f Q => c g r f fun k f1 => if k = true then a g r f1 Q else b g r f1 Q
theorem snd_if {tc : TT} {ta tb : TE} {c : DTT} {a b : DT} (hc : SndT K tc c) (ha : Snd K ta a) (hb : Snd K tb b) : Snd K (tIf tc ta tb) (dIf c a b) := fun g ro f st H Hs Q Q' A hq hd =>
  hc g ro f st H Hs _ _ A (fun k f1 H1 Hs1 s1 k1 q1 => by
    cases k with
    | true => exact ha g ro f1 st H1 Hs1 _ _ (A.step s1 k1) (fun d f2 v H2 Hs2 s2 k2 r2 q2 => hq d f2 v H2 Hs2 (s1.trans s2) k2 r2 q2) q1
    | false => exact hb g ro f1 st H1 Hs1 _ _ (A.step s1 k1) (fun d f2 v H2 Hs2 s2 k2 r2 q2 => hq d f2 v H2 Hs2 (s1.trans s2) k2 r2 q2) q1) hd
theorem de_ifExp {c a b : Expr} {pos : Pos} {dc : DTT} {da db : DT} (hc : DP X c dc) (ha : DE X a da) (hb : DE X b db) : DE X (.IfExp c a b pos) (dIf dc da db) := .mk' (pe_ifExp hc.pt ha.pe hb.pe) (snd_if hc.sn ha.sn hb.sn)
/-! argument lists, displays -/
def dNil : DTA := fun _ _ f Q => Q [] f
def dCons (a : DT) (t : DTA) : DTA := fun g r f Q => a g r f fun x f1 => t g r f1 fun xs f2 => Q (x :: xs) f2
theorem snd_nil : SndA K tNil dNil := fun g ro f st H Hs Q Q' A hq hd => hq [] f [] H Hs (Stp.refl A.sub) A.dk rfl hd
theorem snd_cons {ta : TE} {t : TA} {a : DT} {d : DTA} (ha : Snd K ta a) (ht : SndA K t d) : SndA K (tCons ta t) (dCons a d) := fun g ro f st H Hs Q Q' A hq hd =>
  ha g ro f st H Hs _ _ A (fun x f1 v H1 Hs1 s1 k1 r1 q1 => ht g ro f1 st H1 Hs1 _ _ (A.step s1 k1) (fun ds f2 vs H2 Hs2 s2 k2 r2 q2 =>
    hq (x :: ds) f2 (v :: vs) H2 Hs2 (s1.trans s2) k2 ⟨v, vs, rfl, r1.mono s2.ext, r2⟩ q2) q1) hd
theorem da_nil : DA X [] dNil := .mk' (pa_nil) (snd_nil)
theorem da_cons {e : Expr} {es : List Expr} {d : DT} {dl : DTA} (h : DE X e d) (h' : DA X es dl) (hs : starEach (e :: es) X.env = (false, eval e X.env) :: starEach es X.env := by rfl) : DA X (e :: es) (dCons d dl) := .mk' (pa_cons h.pe h'.pa hs) (snd_cons h.sn h'.sn)
def lim : Nat := 1000000
theorem lim_le {n : Nat} (h : n ≤ lim) : n ≤ sizeLine := Nat.le_trans h (by decide)
theorem lim_lt {n : Nat} (h : n ≤ lim) : n < sizeLine := Nat.lt_of_le_of_lt h (by decide)
def dTup (t : DTA) : DT := fun g r f Q => t g r f fun ds f1 => ds.length ≤ lim ∧ Q (.tup ds) f1
theorem RpA.le {H : Hp} {ds : List D} {vs : List V} (h : RpA K H ds vs) (l : ds.length ≤ lim) : vs.length ≤ sizeLine := by rw [← h.length]; exact lim_le l
theorem RpA.lt {H : Hp} {ds : List D} {vs : List V} (h : RpA K H ds vs) (l : ds.length ≤ lim) : vs.length < sizeLine := by rw [← h.length]; exact lim_lt l
theorem rp_tup {H : Hp} {p : Addr} {ds : List D} {vs : List V} (hr : RpA K H ds vs) (hn : H p = none) : Rp K (upd H p (.tup vs)) (.tup ds) (.ref p) :=
  ⟨p, vs, rfl, upd_same, hr.mono fun b u e => by rw [upd_ne (ne_of_none e hn)]; exact e⟩
theorem rp_lst {H : Hp} {p : Addr} {ds : List D} {vs : List V} (hr : RpA K H ds vs) (hn : H p = none) : Rp K (upd H p (.lst vs)) (.lst ds) (.ref p) :=
  ⟨p, vs, rfl, upd_same, hr.mono fun b u e => by rw [upd_ne (ne_of_none e hn)]; exact e⟩
theorem same_none {H Hs : Hp} {p : Addr} (s : Same Hs H) (h : H p = none) : Hs p = none := by
  cases e : Hs p with
  | none => rfl
  | some o => rw [s p o e] at h; cases h
theorem snd_tup {t : TA} {d : DTA} (h : SndA K t d) : Snd K (tTup t) (dTup d) := fun g ro f st H Hs Q Q' A hq hd =>
  h g ro f st H Hs _ _ A (fun ds f1 vs H1 Hs1 s1 k1 r1 q1 => ⟨r1.le q1.1, fun p hp => by
    have al : Stp none H1 Hs1 (upd H1 p (.tup vs)) (upd Hs1 p (.tup vs)) := Stp.alloc s1.sub hp
    exact hq (.tup ds) f1 (.ref p) _ _ (s1.trans al.gen) (k1.stp al) (rp_tup r1 (same_none s1.sub hp)) q1.2⟩) hd
theorem de_tup {es : List Expr} {x1} {pos : Pos} {d : DTA} (h : DA X es d) : DE X (.Tuple es x1 pos) (dTup d) := .mk' (pe_tup h.pa) (snd_tup h.sn)
def dLst (t : DTA) : DTA := fun g r f Q => t g r f fun ds f1 => ds.length ≤ lim ∧ Q ds f1
theorem snd_lst {t : TA} {d : DTA} (h : SndA K t d) : SndL K (tLst t) (dLst d) := fun g ro f st H Hs Q Q' A hq hd =>
  h g ro f st H Hs _ _ A (fun ds f1 vs H1 Hs1 s1 k1 r1 q1 => ⟨r1.le q1.1, fun p hp => by
    have al : Stp none H1 Hs1 (upd H1 p (.lst vs)) Hs1 := Stp.lay s1.sub hp
    refine hq ds f1 p vs _ _ (s1.trans al.gen) (k1.stp al) ?_ (same_none s1.sub hp) upd_same r1 q1.2
    cases e : H p with
    | none => rfl
    | some o =>
      obtain ⟨o', e'⟩ := s1.there p o e
      rw [e'] at hp; cases hp⟩) hd
theorem dl_lst {es : List Expr} {pos : Pos} {d : DTA} (h : DA X es d) : DL' X (.List es pos) (dLst d) := .mk' (pe_lst h.pa) (snd_lst h.sn)
/-! plain results -/
theorem SndR.pure {r : R2} {op : O2} (h : ∀ H Hs x y vx vy (Q : VK) (Q' : D → Prop), Same Hs H → Rp K Hs x vx → Rp K Hs y vy → (∀ z v, Rp K Hs z v → Q' z → Q v H) → op x y Q' → r vx vy H Q) : SndR K r op := fun H Hs x y vx vy Q Q' s rx ry hq hd =>
  h H Hs x y vx vy Q Q' s rx ry (fun z v rz q => hq z v H Hs (Stp.refl s) rz q) hd
def oI0 (g : Int → Int → D) : O2 := fun x y Q => match x, y with
  | .int i, .int j => Q (g i j)
  | _, _ => False
def oI (C : Int → Int → Prop) (g : Int → Int → D) : O2 := fun x y Q => match x, y with
  | .int i, .int j => C i j ∧ Q (g i j)
  | _, _ => False
theorem sr_I0 {g : Int → Int → V} {g' : Int → Int → D} (hg : ∀ i j H, Rp K H (g' i j) (g i j)) : SndR K (rI0 g) (oI0 g') := SndR.pure fun H Hs x y vx vy Q Q' s rx ry hq hd => by
  cases x <;> try exact hd.elim
  cases y <;> try exact hd.elim
  exact ⟨_, _, rx, ry, hq _ _ (hg _ _ _) hd⟩
theorem sr_I {C : Int → Int → Prop} {g : Int → Int → V} {g' : Int → Int → D} (hg : ∀ i j H, Rp K H (g' i j) (g i j)) : SndR K (rI C g) (oI C g') := SndR.pure fun H Hs x y vx vy Q Q' s rx ry hq hd => by
  cases x <;> try exact hd.elim
  cases y <;> try exact hd.elim
  exact ⟨_, _, rx, ry, hd.1, hq _ _ (hg _ _ _) hd.2⟩
def oAddS : O2 := fun x y Q => match x, y with
  | .str i, .str j => i.length + j.length ≤ lim ∧ Q (.str (i ++ j))
  | _, _ => False
theorem sr_addS : SndR K (fun x y H Q => ∃ i j, x = .str i ∧ y = .str j ∧ i.length + j.length ≤ sizeLine ∧ Q (.str (i ++ j)) H) oAddS := SndR.pure fun H Hs x y vx vy Q Q' s rx ry hq hd => by
  cases x <;> try exact hd.elim
  cases y <;> try exact hd.elim
  exact ⟨_, _, rx, ry, lim_le hd.1, hq (.str _) _ rfl hd.2⟩
def oCat : O2 := fun x y Q => match x, y with
  | .lst i, .lst j => i.length + j.length ≤ lim ∧ Q (.lst (i ++ j))
  | _, _ => False
theorem sr_cat : SndR K rCat oCat := fun H Hs x y vx vy Q Q' s rx ry hq hd => by
  cases x <;> try exact hd.elim
  cases y <;> try exact hd.elim
  obtain ⟨a, vs, rfl, h1, h2⟩ := rx
  obtain ⟨b, ws, rfl, h3, h4⟩ := ry
  refine ⟨a, b, vs, ws, rfl, rfl, s _ _ h1, s _ _ h3, ?_, fun p hp => ?_⟩
  · rw [← h2.length, ← h4.length]; exact lim_le hd.1
  · exact hq _ _ _ _ (Stp.alloc s hp) (rp_lst (h2.append h4) (same_none s hp)) hd.2
def oCatT : O2 := fun x y Q => match x, y with
  | .tup i, .tup j => i.length + j.length ≤ lim ∧ Q (.tup (i ++ j))
  | _, _ => False
theorem sr_catT : SndR K (rCatA K) oCatT := fun H Hs x y vx vy Q Q' s rx ry hq hd => by
  cases x <;> try exact hd.elim
  cases y <;> try exact hd.elim
  obtain ⟨a, vs, rfl, h1, h2⟩ := rx
  obtain ⟨b, ws, rfl, h3, h4⟩ := ry
  refine ⟨a, b, vs, ws, rfl, rfl, (tp_sq s h1), (tp_sq s h3), ?_, fun e => ?_, fun _ e => ?_, fun _ _ p hp => ?_⟩
  · rw [← h2.length, ← h4.length]; exact lim_le hd.1
  · have := h2.append h4
    rw [e] at this
    exact hq (.tup _) _ _ _ (Stp.refl s) ⟨b, ws, rfl, h3, this⟩ hd.2
  · have := h2.append h4
    rw [e, List.append_nil] at this
    exact hq (.tup _) _ _ _ (Stp.refl s) ⟨a, vs, rfl, h1, this⟩ hd.2
  · exact hq _ _ _ _ (Stp.alloc s hp) (rp_tup (h2.append h4) (same_none s hp)) hd.2
/-- x + y of any of the four kinds -/
def oAdd : O2 := fun x y Q => match x, y with
  | .int i, .int j => Q (.int (i + j))
  | .str i, .str j => i.length + j.length ≤ lim ∧ Q (.str (i ++ j))
  | .lst i, .lst j => i.length + j.length ≤ lim ∧ Q (.lst (i ++ j))
  | .tup i, .tup j => i.length + j.length ≤ lim ∧ Q (.tup (i ++ j))
  | _, _ => False
def rAddA (K : PySem.W.Frag) : R2 := fun x y H Q => rI0 (fun i j => .int (i + j)) x y H Q ∨ ((∃ i j, x = .str i ∧ y = .str j ∧ i.length + j.length ≤ sizeLine ∧ Q (.str (i ++ j)) H) ∨ (rCat x y H Q ∨ rCatA K x y H Q))
theorem op_addA : OpR X (binaryOp .Add) (rAddA X.K) := op_add.or (op_add_str.or (op_cat.or op_catA))
theorem sr_add : SndR K (rAddA K) oAdd := ((sr_I0 (g' := fun i j => .int (i + j)) fun _ _ _ => rfl).or (sr_addS.or (sr_cat.or sr_catT))).weak fun x y Q h => by
  cases x <;> cases y <;> first | exact h.elim | exact .inl h | exact .inr (.inl h) | exact .inr (.inr (.inl h)) | exact .inr (.inr (.inr h))
theorem de_add {a b : Expr} {pos : Pos} {da db : DT} (ha : DE X a da) (hb : DE X b db) : DE X (.BinOp a .Add b pos) (dOp oAdd da db) := de_op op_addA sr_add ha hb
theorem de_sub {a b : Expr} {pos : Pos} {da db : DT} (ha : DE X a da) (hb : DE X b db) : DE X (.BinOp a .Sub b pos) (dOp (oI0 fun i j => .int (i - j)) da db) := de_op op_sub (sr_I0 fun _ _ _ => rfl) ha hb
theorem de_mul {a b : Expr} {pos : Pos} {da db : DT} (ha : DE X a da) (hb : DE X b db) : DE X (.BinOp a .Mult b pos) (dOp (oI CMul fun i j => .int (i * j)) da db) := de_op op_mul (sr_I fun _ _ _ => rfl) ha hb
theorem de_mod {a b : Expr} {pos : Pos} {da db : DT} (ha : DE X a da) (hb : DE X b db) : DE X (.BinOp a .Mod b pos) (dOp (oI (fun _ j => 0 < j) fun i j => .int (i % j)) da db) := de_op op_mod (sr_I fun _ _ _ => rfl) ha hb
theorem de_fdiv {a b : Expr} {pos : Pos} {da db : DT} (ha : DE X a da) (hb : DE X b db) : DE X (.BinOp a .FloorDiv b pos) (dOp (oI CDiv fun i j => .int (i / j)) da db) := de_op op_fdiv (sr_I fun _ _ _ => rfl) ha hb
def dNeg (a : DT) : DT := fun g r f Q => a g r f fun x f1 => match x with
  | .int i => Q (.int (-i)) f1
  | _ => False
theorem de_neg {a : Expr} {pos : Pos} {d : DT} (h : DE X a d) : DE X (.UnaryOp .USub a pos) (dNeg d) := .mk' (pe_un un_neg h.pe) (fun g ro f st H Hs Q Q' A hq hd =>
  h.sn g ro f st H Hs _ _ A (fun x f1 v H1 Hs1 s1 k1 r1 q1 => by
    cases x <;> try exact q1.elim
    exact ⟨_, r1, hq (.int (-_)) f1 _ H1 Hs1 s1 k1 rfl q1⟩) hd)
/-! == and != -/
mutual
def D.py : D → PyData
  | .none => .none
  | .bool b => .bool b
  | .int i => .int i
  | .str x => .str x
  | .tup ds => .tuple (pyA ds)
  | .lst ds => .list (pyA ds)
  | .dct _ _ => .dict []
  | .dtt _ _ => .dict []
  | .ktup _ => .dict []
  | .ftp ds => .tuple (pyA ds)
  | .obj _ _ _ => .dict []
  | .exn _ _ _ => .dict []
  | .any _ => .dict []
def pyA : List D → List PyData
  | [] => []
  | d :: ds => d.py :: pyA ds
end
mutual
theorem Rp.dp {H : Hp} : ∀ (d : D) (v : V), Rp K H d v → d.py.canLay0 = true → Dp K H v d.py
  | .none, _, h, _ => by cases h; exact .non
  | .bool _, _, h, _ => by cases h; exact .bl _
  | .int _, _, h, _ => by cases h; exact .int _
  | .str _, _, h, _ => by cases h; exact .str _
  | .tup ds, _, ⟨a, vs, h1, h2, h3⟩, c => by cases h1; exact .tup h2.sq (RpA.dp ds vs h3 c)
  | .lst ds, _, ⟨a, vs, h1, h2, h3⟩, c => by cases h1; exact .lst (SqL.of h2) (RpA.dp ds vs h3 c)
  | .dct _ _, _, _, c => by simp [D.py, PyData.canLay0] at c
  | .dtt _ _, _, _, c => by simp [D.py, PyData.canLay0] at c
  | .ktup _, _, _, c => by simp [D.py, PyData.canLay0] at c
  | .ftp ds, _, ⟨a, vs, h1, h2, h3⟩, c => by cases h1; exact .tup h2.sq (RpA.dp ds vs h3 c)
  | .obj _ _ _, _, _, c => by simp [D.py, PyData.canLay0] at c
  | .exn _ _ _, _, _, c => by simp [D.py, PyData.canLay0] at c
  | .any _, _, _, c => by simp [D.py, PyData.canLay0] at c
theorem RpA.dp {H : Hp} : ∀ (ds : List D) (vs : List V), RpA K H ds vs → PyData.canLayAll0 (pyA ds) = true → DpAll K H vs (pyA ds)
  | [], _, h, _ => by cases h; exact .nil
  | d :: ds, _, ⟨v, r, h1, h2, h3⟩, c => by
    have c' : d.py.canLay0 = true ∧ PyData.canLayAll0 (pyA ds) = true := Bool.and_eq_true_iff.mp c
    cases h1
    exact .cons (Rp.dp d v h2 c'.1) (RpA.dp ds r h3 c'.2)
end
theorem Rp.dpS {H : Hp} {d : D} {v : V} (h : Rp K H d v) (c : SeqAt.shaped d.py = true) : Dp K H v d.py := h.dp d v (Bool.and_eq_true_iff.mp c).1
theorem dp_mono {H H' : Hp} (e : Same H H') {v : V} {d : PyData} (h : Dp K H v d) : Dp K H' v d := by
  refine Dp.rec (motive_1 := fun v d _ => Dp K H' v d) (motive_2 := fun vs ds _ => DpAll K H' vs ds) .non .bl .int .str ?_ ?_ .nil ?_ h
  · intro a xs ds h1 _ h2; exact .lst (e.seq h1) h2
  · intro a xs ds h1 _ h2; exact .tup (sqT_mono e h1) h2
  · intro v vs d ds _ _ h1 h2; exact .cons h1 h2
def xb (neg b : Bool) : Bool := match neg with
  | true => !b
  | false => b
def seq : D → D → Option Bool
  | .none, .none => some true
  | .none, .int _ => some false
  | .none, .bool _ => some false
  | .none, .str _ => some false
  | .int _, .none => some false
  | .bool _, .none => some false
  | .str _, .none => some false
  | .int a, .int b => some (decide (a = b))
  | .bool a, .bool b => some (decide (a = b))
  | .str a, .str b => some (decide (a = b))
  | .int _, .str _ => some false
  | .str _, .int _ => some false
  | .bool _, .str _ => some false
  | .str _, .bool _ => some false
  | _, _ => Option.none
def oEq (neg : Bool) : O2 := fun x y Q => match seq x y with
  | some b => Q (.bool (xb neg b))
  | Option.none => SeqAt.shaped x.py = true ∧ SeqAt.shaped y.py = true ∧ Q (.bool (xb neg (PyData.eqv x.py y.py)))
theorem seq_eqv : ∀ (x y : D) (b : Bool), seq x y = some b → PyData.eqv x.py y.py = b := by
  have es : ∀ a b : Str, (a == b) = decide (a = b) := fun a b => Bool.beq_eq_decide_eq a b
  intro x y b h
  cases x <;> cases y <;> simp only [seq, Option.some.injEq, reduceCtorEq] at h <;> subst h <;> simp [D.py, PyData.eqv]
  all_goals first | exact es _ _ | exact Bool.beq_eq_decide_eq _ _
theorem oEq_data {x y : D} {neg : Bool} {Q : D → Prop} (hx : SeqAt.shaped x.py = true) (hy : SeqAt.shaped y.py = true) (h : Q (.bool (xb neg (PyData.eqv x.py y.py)))) : oEq neg x y Q := by
  unfold oEq
  split
  · next b e => rw [seq_eqv x y b e] at h; exact h
  · exact ⟨hx, hy, h⟩
theorem sr_eqD : SndR K (rEqD K) (fun x y Q => SeqAt.shaped x.py = true ∧ SeqAt.shaped y.py = true ∧ Q (.bool (PyData.eqv x.py y.py))) := SndR.pure fun H Hs x y vx vy Q Q' s rx ry hq hd =>
  ⟨x.py, y.py, dp_mono s (rx.dpS hd.1), dp_mono s (ry.dpS hd.2.1), hd.1, hd.2.1, hq (.bool _) _ rfl hd.2.2⟩
theorem sr_neD : SndR K (rNeD K) (fun x y Q => SeqAt.shaped x.py = true ∧ SeqAt.shaped y.py = true ∧ Q (.bool (!PyData.eqv x.py y.py))) := SndR.pure fun H Hs x y vx vy Q Q' s rx ry hq hd =>
  ⟨x.py, y.py, dp_mono s (rx.dpS hd.1), dp_mono s (ry.dpS hd.2.1), hd.1, hd.2.1, hq (.bool _) _ rfl hd.2.2⟩
theorem seq_V {H : Hp} : ∀ (x y : D) (vx vy : V) (b : Bool), Rp K H x vx → Rp K H y vy → seq x y = some b → scal vx vy = true ∧ decide (vx = vy) = b := by
  intro x y vx vy b rx ry h
  cases x <;> cases y <;> simp only [seq, Option.some.injEq, reduceCtorEq] at h <;> subst h <;> cases rx <;> cases ry <;> simp [scal]
theorem sr_eqS : SndR K rEq (fun x y Q => ∃ b, seq x y = some b ∧ Q (.bool b)) := SndR.pure fun H Hs x y vx vy Q Q' s rx ry hq hd => by
  obtain ⟨b, e, h⟩ := hd
  obtain ⟨h1, h2⟩ := seq_V x y vx vy b rx ry e
  exact ⟨h1, hq (.bool b) _ (by rw [h2]; rfl) h⟩
theorem sr_neS : SndR K rNe (fun x y Q => ∃ b, seq x y = some b ∧ Q (.bool (!b))) := SndR.pure fun H Hs x y vx vy Q Q' s rx ry hq hd => by
  obtain ⟨b, e, h⟩ := hd
  obtain ⟨h1, h2⟩ := seq_V x y vx vy b rx ry e
  exact ⟨h1, hq (.bool (!b)) _ (by rw [h2]; rfl) h⟩
def rEqA (K : PySem.W.Frag) : R2 := fun x y H Q => rEq x y H Q ∨ rEqD K x y H Q
def rNeA (K : PySem.W.Frag) : R2 := fun x y H Q => rNe x y H Q ∨ rNeD K x y H Q
theorem sr_eq : SndR K (rEqA K) (oEq false) := (sr_eqS.or sr_eqD).weak fun x y Q h => by
  unfold oEq at h
  simp only [xb] at h
  split at h
  · next b e => exact .inl ⟨b, e, h⟩
  · exact .inr h
theorem sr_ne : SndR K (rNeA K) (oEq true) := (sr_neS.or sr_neD).weak fun x y Q h => by
  unfold oEq at h
  simp only [xb] at h
  split at h
  · next b e => exact .inl ⟨b, e, h⟩
  · exact .inr h
theorem de_eq {a b : Expr} {pos : Pos} {da db : DT} (hu : X.A.units + 64 < cLine) (ha : DE X a da) (hb : DE X b db) : DE X (.Compare a [.Eq] [b] pos) (dOp (oEq false) da db) := de_cmp (op_eq.or (op_eqD hu)) sr_eq ha hb (nomark _)
theorem de_ne {a b : Expr} {pos : Pos} {da db : DT} (hu : X.A.units + 64 < cLine) (ha : DE X a da) (hb : DE X b db) : DE X (.Compare a [.NotEq] [b] pos) (dOp (oEq true) da db) := de_cmp (op_ne.or (op_neD hu)) sr_ne ha hb (nomark _)
theorem dp_eq {a b : Expr} {pos : Pos} {da db : DT} (hu : X.A.units + 64 < cLine) (ha : DE X a da) (hb : DE X b db) : DP X (.Compare a [.Eq] [b] pos) (dTest (dOp (oEq false) da db)) := dp_cmp (op_eq.or (op_eqD hu)) sr_eq ha hb (nomark _)
theorem dp_ne {a b : Expr} {pos : Pos} {da db : DT} (hu : X.A.units + 64 < cLine) (ha : DE X a da) (hb : DE X b db) : DP X (.Compare a [.NotEq] [b] pos) (dTest (dOp (oEq true) da db)) := dp_cmp (op_ne.or (op_neD hu)) sr_ne ha hb (nomark _)
/-! < <= > >= of numbers -/
theorem de_le {a b : Expr} {pos : Pos} {da db : DT} (ha : DE X a da) (hb : DE X b db) : DE X (.Compare a [.LtE] [b] pos) (dOp (oI0 fun i j => .bool (decide (i ≤ j))) da db) := de_cmp op_le (sr_I0 fun _ _ _ => rfl) ha hb (nomark _)
theorem dp_lt {a b : Expr} {pos : Pos} {da db : DT} (ha : DE X a da) (hb : DE X b db) : DP X (.Compare a [.Lt] [b] pos) (dTest (dOp (oI0 fun i j => .bool (decide (i < j))) da db)) := dp_cmp op_lt (sr_I0 fun _ _ _ => rfl) ha hb (nomark _)
theorem dp_le {a b : Expr} {pos : Pos} {da db : DT} (ha : DE X a da) (hb : DE X b db) : DP X (.Compare a [.LtE] [b] pos) (dTest (dOp (oI0 fun i j => .bool (decide (i ≤ j))) da db)) := dp_cmp op_le (sr_I0 fun _ _ _ => rfl) ha hb (nomark _)
theorem dp_gt {a b : Expr} {pos : Pos} {da db : DT} (ha : DE X a da) (hb : DE X b db) : DP X (.Compare a [.Gt] [b] pos) (dTest (dOp (oI0 fun i j => .bool (decide (j < i))) da db)) := dp_cmp op_gt (sr_I0 fun _ _ _ => rfl) ha hb (nomark _)
/-- a <= b <= c of numbers -/
theorem de_lele {a b c : Expr} {pos : Pos} {da db dc : DT} (ha : DE X a da) (hb : DE X b db) (hc : DE X c dc) (hm : lastMarks [CmpOp.LtE, CmpOp.LtE] [b, c] = false := by with_unfolding_all rfl) : DE X (.Compare a [.LtE, .LtE] [b, c] pos) (dChain (oI0 fun i j => .bool (decide (i ≤ j))) (oI0 fun i j => .bool (decide (i ≤ j))) da db dc) := de_chain op_le op_le (sr_I0 fun _ _ _ => rfl) (sr_I0 fun _ _ _ => rfl) ha hb hc hm
/-! is None -/
def D.isN : D → Bool
  | .none => true
  | .any v => decide (v = .non)
  | _ => false
def oIsN (neg : Bool) : O2 := fun x y Q => match y with
  | .none => Q (.bool (xb neg x.isN))
  | _ => False
theorem isN_V {H : Hp} : ∀ (x : D) (v : V), Rp K H x v → decide (v = .non) = x.isN := by
  intro x v h
  cases x <;> try (cases h; rfl)
  · obtain ⟨a, vs, rfl, _⟩ := h; rfl
  · obtain ⟨a, vs, rfl, _⟩ := h; rfl
  · obtain ⟨a, vs, rfl, _⟩ := h; rfl
  · obtain ⟨a, vs, rfl, _⟩ := h; rfl
  · obtain ⟨a, rfl, _⟩ := h; rfl
  · obtain ⟨a, vs, rfl, _⟩ := h; rfl
  · obtain ⟨C, a, dx, vs, _, rfl, _⟩ := h; rfl
  · obtain ⟨C, a, dx, vs, _, rfl, _⟩ := h; rfl
theorem sr_isN : SndR K (fun x y H Q => y = .non ∧ Q (.bl (decide (x = .non))) H) (oIsN false) := SndR.pure fun H Hs x y vx vy Q Q' s rx ry hq hd => by
  cases y <;> try exact hd.elim
  refine ⟨ry, ?_⟩
  rw [isN_V _ _ rx]
  exact hq (.bool _) _ rfl (by simpa [oIsN, xb] using hd)
theorem sr_notN : SndR K (fun x y H Q => y = .non ∧ Q (.bl (!decide (x = .non))) H) (oIsN true) := SndR.pure fun H Hs x y vx vy Q Q' s rx ry hq hd => by
  cases y <;> try exact hd.elim
  refine ⟨ry, ?_⟩
  rw [isN_V _ _ rx]
  exact hq (.bool _) _ rfl (by simpa [oIsN, xb] using hd)
theorem dp_isN {a b : Expr} {pos : Pos} {da db : DT} (ha : DE X a da) (hb : DE X b db) : DP X (.Compare a [.Is] [b] pos) (dTest (dOp (oIsN false) da db)) := dp_cmp op_isN sr_isN ha hb (nomark _)
theorem dp_notN {a b : Expr} {pos : Pos} {da db : DT} (ha : DE X a da) (hb : DE X b db) : DP X (.Compare a [.IsNot] [b] pos) (dTest (dOp (oIsN true) da db)) := dp_cmp op_notN sr_notN ha hb (nomark _)
end
end DL
namespace DL
open PySem PySem.Spec PyProof.Rows L2
section
variable {X : Cx} {K : PySem.W.Frag}
/-! calls of built-ins by values -/
abbrev OA := List D → (D → Prop) → Prop
def SndC (K : PySem.W.Frag) (r : List V → Hp → VK → Prop) (op : OA) : Prop := ∀ (H Hs : Hp) (ds : List D) (vs : List V) (Q : VK) (Q' : D → Prop), Same Hs H → RpA K Hs ds vs →
  (∀ z v H' Hs', Stp none H Hs H' Hs' → Rp K Hs' z v → Q' z → Q v H') → op ds Q' → r vs H Q
def dCB (op : OA) (t : DTA) : DT := fun g r f Q => t g r f fun ds f1 => op ds fun z => Q z f1
theorem snd_cb {r : List V → Hp → VK → Prop} {op : OA} {t : TA} {d : DTA} (hr : SndC K r op) (ht : SndA K t d) : Snd K (tCB r t) (dCB op d) := fun g ro f st H Hs Q Q' A hq hd =>
  ht g ro f st H Hs _ _ A (fun ds f1 vs H1 Hs1 s1 k1 r1 q1 => hr H1 Hs1 ds vs Q _ s1.sub r1 (fun z v H2 Hs2 s2 r2 q2 => hq z f1 v H2 Hs2 (s1.trans s2.gen) (k1.stp s2) r2 q2) q1) hd
theorem SndC.or {r r' : List V → Hp → VK → Prop} {op op' : OA} (h : SndC K r op) (h' : SndC K r' op') : SndC K (fun xs H Q => r xs H Q ∨ r' xs H Q) (fun xs Q => op xs Q ∨ op' xs Q) := fun H Hs ds vs Q Q' s rx hq hd => by
  rcases hd with hd | hd
  · exact .inl (h H Hs ds vs Q Q' s rx hq hd)
  · exact .inr (h' H Hs ds vs Q Q' s rx hq hd)
theorem SndC.weak {r : List V → Hp → VK → Prop} {op op' : OA} (h : SndC K r op) (w : ∀ ds Q, op' ds Q → op ds Q) : SndC K r op' := fun H Hs ds vs Q Q' s rx hq hd => h H Hs ds vs Q Q' s rx hq (w ds Q' hd)
theorem SndC.pure {r : List V → Hp → VK → Prop} {op : OA} (h : ∀ H Hs ds vs (Q : VK) (Q' : D → Prop), Same Hs H → RpA K Hs ds vs → (∀ z v, Rp K Hs z v → Q' z → Q v H) → op ds Q' → r vs H Q) : SndC K r op := fun H Hs ds vs Q Q' s rx hq hd =>
  h H Hs ds vs Q Q' s rx (fun z v rz q => hq z v H Hs (Stp.refl s) rz q) hd
theorem de_callB {x : Str} {id : String} {p pos : Pos} {e : Expr} {es : List Expr} {d : DTA} {r : List V → Hp → VK → Prop} {op : OA} (hc : CallR X (.builtin id) r) (hr : SndC X.K r op) (hg : Gl X x) (hm : X.mg x = none) (hv : bootBuiltins x = some (.builtin id)) (ha : DA X (e :: es) d)
    (hn : x ≠ "__name__" := by decide) (hdb : (x == ("__debug__" : Str)) = false := by decide) (hs : starEach (e :: es) X.env = (false, eval e X.env) :: starEach es X.env := by rfl)
    (hpl : (backTo pos (starEach es X.env)).any (·.1) = false := by rfl) : DE X (.Call (.Name x p) (e :: es) [] pos) (dCB op d) :=
  .mk' (pe_callB hc hg hm hv ha.pa hn hdb hs hpl) (snd_cb hr ha.sn)
theorem de_callTy {x : Str} {T : String} {p pos : Pos} {e : Expr} {es : List Expr} {d : DTA} {r : List V → Hp → VK → Prop} {op : OA} (hc : CallR X (.type T) r) (hr : SndC X.K r op) (hg : Gl X x) (hm : X.mg x = none) (hv : bootBuiltins x = some (.type T)) (ha : DA X (e :: es) d)
    (hn : x ≠ "__name__" := by decide) (hdb : (x == ("__debug__" : Str)) = false := by decide) (hs : starEach (e :: es) X.env = (false, eval e X.env) :: starEach es X.env := by rfl)
    (hpl : (backTo pos (starEach es X.env)).any (·.1) = false := by rfl) : DE X (.Call (.Name x p) (e :: es) [] pos) (dCB op d) :=
  .mk' (pe_callTy hc hg hm hv ha.pa hn hdb hs hpl) (snd_cb hr ha.sn)
/-- len -/
def oLen : OA := fun ds Q => match ds with
  | [.str x] => x.length ≤ lim ∧ Q (.int x.length)
  | [.lst xs] => Q (.int xs.length)
  | [.tup xs] => Q (.int xs.length)
  | [.ktup xs] => Q (.int xs.length)
  | [.ftp xs] => Q (.int xs.length)
  | _ => False
theorem rpA1 {H : Hp} {d : D} {vs : List V} (h : RpA K H [d] vs) : ∃ v, vs = [v] ∧ Rp K H d v := by
  obtain ⟨v, r, h1, h2, h3⟩ := h
  cases h3
  exact ⟨v, h1, h2⟩
theorem rpA2 {H : Hp} {d e : D} {vs : List V} (h : RpA K H [d, e] vs) : ∃ v w, vs = [v, w] ∧ Rp K H d v ∧ Rp K H e w := by
  obtain ⟨v, r, h1, h2, h3⟩ := h
  obtain ⟨w, rfl, h4⟩ := rpA1 h3
  exact ⟨v, w, h1, h2, h4⟩
theorem sc_len : SndC K (fun xs H Q => ∃ x n, xs = [x] ∧ LenV K x H n ∧ Q (.int n) H) oLen := SndC.pure fun H Hs ds vs Q Q' s rx hq hd => by
  unfold oLen at hd
  split at hd
  · obtain ⟨v, rfl, h⟩ := rpA1 rx
    cases h
    exact ⟨_, _, rfl, ⟨lim_le hd.1, rfl⟩, hq (.int _) _ rfl hd.2⟩
  · obtain ⟨v, rfl, a, vs, rfl, h1, h2⟩ := rpA1 rx
    exact ⟨_, _, rfl, .inl ⟨vs, SqL.of (s _ _ h1), rfl⟩, hq (.int _) _ (by rw [h2.length]; rfl) hd⟩
  · obtain ⟨v, rfl, a, vs, rfl, h1, h2⟩ := rpA1 rx
    exact ⟨_, _, rfl, .inr ⟨vs, (tp_sq s h1), rfl⟩, hq (.int _) _ (by rw [h2.length]; rfl) hd⟩
  · obtain ⟨v, rfl, a, rfl, h1⟩ := rpA1 rx
    exact ⟨_, _, rfl, .inr ⟨_, h1.sq _, rfl⟩, hq (.int _) _ (by rw [List.length_map]; rfl) hd⟩
  · obtain ⟨v, rfl, a, vs, rfl, h1, h2⟩ := rpA1 rx
    exact ⟨_, _, rfl, .inr ⟨vs, (h1.mono s).sq, rfl⟩, hq (.int _) _ (by rw [h2.length]; rfl) hd⟩
  · exact hd.elim
theorem de_len {p pos : Pos} {e : Expr} {d : DTA} (hm : X.mg "len" = none) (ha : DA X [e] d) (hg : Gl X "len" := by rfl) (hs : starEach [e] X.env = [(false, eval e X.env)] := by rfl) : DE X (.Call (.Name "len" p) [e] [] pos) (dCB oLen d) :=
  de_callB call_len sc_len hg hm PySem.boot_len ha (by decide) (by decide) hs (by rfl)
/-- all, any -/
def oAll (all : Bool) : OA := fun ds Q => match ds with
  | [.lst xs] => ∃ bs : List Bool, xs = bs.map D.bool ∧ Q (.bool (if all then bs.all id else bs.any id))
  | _ => False
theorem sc_all : SndC K (rAll K) (oAll true) := SndC.pure fun H Hs ds vs Q Q' s rx hq hd => by
  unfold oAll at hd
  split at hd
  · obtain ⟨bs, rfl, q⟩ := hd
    obtain ⟨v, rfl, a, vs, rfl, h1, h2⟩ := rpA1 rx
    have e := h2.bools
    subst e
    exact ⟨a, bs, rfl, SqL.of (s _ _ h1), hq (.bool _) _ rfl q⟩
  · exact hd.elim
/-- min(m, n), max(m, n) -/
def oMin2 : OA := fun ds Q => match ds with
  | [.int i, .int j] => Q (.int (if j < i then j else i))
  | _ => False
theorem sc_min2 : SndC K (fun xs H Q => ∃ i j, xs = [.int i, .int j] ∧ Q (.int (if j < i then j else i)) H) oMin2 := SndC.pure fun H Hs ds vs Q Q' s rx hq hd => by
  unfold oMin2 at hd
  split at hd
  · obtain ⟨v, w, rfl, h1, h2⟩ := rpA2 rx
    cases h1
    cases h2
    exact ⟨_, _, rfl, hq (.int _) _ rfl hd⟩
  · exact hd.elim
def oMax2 : OA := fun ds Q => match ds with
  | [.int i, .int j] => Q (.int (if j > i then j else i))
  | _ => False
theorem sc_max2 : SndC K (fun xs H Q => ∃ i j, xs = [.int i, .int j] ∧ Q (.int (if j > i then j else i)) H) oMax2 := SndC.pure fun H Hs ds vs Q Q' s rx hq hd => by
  unfold oMax2 at hd
  split at hd
  · obtain ⟨v, w, rfl, h1, h2⟩ := rpA2 rx
    cases h1
    cases h2
    exact ⟨_, _, rfl, hq (.int _) _ rfl hd⟩
  · exact hd.elim
/-- int(n) -/
def oInt : OA := fun ds Q => match ds with
  | [.int i] => Q (.int i)
  | [.bool b] => Q (.int (if b then 1 else 0))
  | _ => False
theorem sc_int : SndC K (fun xs H Q => (∃ i, xs = [.int i] ∧ Q (.int i) H) ∨ ∃ k, xs = [.bl k] ∧ Q (.int (if k then 1 else 0)) H) oInt := SndC.pure fun H Hs ds vs Q Q' s rx hq hd => by
  unfold oInt at hd
  split at hd
  · obtain ⟨v, rfl, h1⟩ := rpA1 rx
    cases h1
    exact .inl ⟨_, rfl, hq (.int _) _ rfl hd⟩
  · obtain ⟨v, rfl, h1⟩ := rpA1 rx
    cases h1
    exact .inr ⟨_, rfl, hq (.int _) _ rfl hd⟩
  · exact hd.elim
/-- tuple(xs) -/
def oTuple : OA := fun ds Q => match ds with
  | [.lst xs] => Q (.tup xs)
  | [.tup xs] => Q (.tup xs)
  | _ => False
theorem sc_tuple : SndC K (fun xs H Q => ∃ p ys, xs = [.ref p] ∧ ((SqL K H p ys ∧ ∀ l, H l = none → Q (.ref l) (upd H l (.tup ys))) ∨ (SqT K H p ys ∧ Q (.ref p) H))) oTuple := fun H Hs ds vs Q Q' s rx hq hd => by
  unfold oTuple at hd
  split at hd
  · obtain ⟨v, rfl, a, vs, rfl, h1, h2⟩ := rpA1 rx
    exact ⟨a, vs, rfl, .inl ⟨SqL.of (s _ _ h1), fun l hl => hq (.tup _) _ _ _ (Stp.alloc s hl) (rp_tup h2 (same_none s hl)) hd⟩⟩
  · obtain ⟨v, rfl, a, vs, rfl, h1, h2⟩ := rpA1 rx
    exact ⟨a, vs, rfl, .inr ⟨(tp_sq s h1), hq (.tup _) _ _ _ (Stp.refl s) ⟨a, vs, rfl, h1, h2⟩ hd⟩⟩
  · exact hd.elim
/-- isinstance(x, T), T built in; (T1, T2) -/
def D.tyN : D → Option String
  | .none => some "NoneType"
  | .bool _ => some "bool"
  | .int _ => some "int"
  | .str _ => some "str"
  | .tup _ => some "tuple"
  | .lst _ => some "list"
  | .dct _ _ => some "dict"
  | _ => Option.none
theorem tyT {H : Hp} {a : Addr} {vs : List V} (h : SqT K H a vs) : TyX K H (.ref a) (.type "tuple") := by
  rcases h with (h | ⟨o, h⟩) | ⟨o, its, n, h1, h2, _⟩
  · exact .base (.tup h)
  · exact .fTuple h
  · exact .kTuple h1 h2
theorem tyN_ok {H : Hp} {d : D} {v : V} {n : String} (h : Rp K H d v) (e : d.tyN = some n) : TyX K H v (.type n) := by
  cases d <;> simp only [D.tyN, Option.some.injEq, reduceCtorEq] at e <;> subst e
  · cases h; exact .base .non
  · cases h; exact .base (.bl _)
  · cases h; exact .base (.int _)
  · cases h; exact .base (.str _)
  · obtain ⟨a, vs, rfl, h1, _⟩ := h
    exact tyT h1.sq
  · obtain ⟨a, vs, rfl, h1, _⟩ := h; exact .base (.lst h1)
  · obtain ⟨a, vs, rfl, h1, _⟩ := h; exact .base (.dK h1)
def oIsi : OA := fun ds Q => match ds with
  | [x, .any (.ty n)] => ∃ t b, x.tyN = some t ∧ kitB t n = some b ∧ Q (.bool b)
  | _ => False
theorem sc_isi : SndC K (rIsi K) oIsi := SndC.pure fun H Hs ds vs Q Q' s rx hq hd => by
  unfold oIsi at hd
  split at hd
  · obtain ⟨t, b, h1, h2, h3⟩ := hd
    obtain ⟨v, w, rfl, h4, h5⟩ := rpA2 rx
    cases h5
    exact ⟨v, _, _, _, b, rfl, .ty _, tyN_ok (h4.mono s) h1, kit_ty h2, hq (.bool _) _ rfl h3⟩
  · exact hd.elim
theorem de_isi {p pos : Pos} {e e2 : Expr} {d : DTA} (hm : X.mg "isinstance" = none) (ha : DA X [e, e2] d) (hg : Gl X "isinstance" := by rfl) (hs : starEach [e, e2] X.env = (false, eval e X.env) :: starEach [e2] X.env := by rfl)
    (hpl : (backTo pos (starEach [e2] X.env)).any (·.1) = false := by rfl) : DE X (.Call (.Name "isinstance" p) [e, e2] [] pos) (dCB oIsi d) :=
  de_callB call_isi sc_isi hg hm (by decide +kernel) ha (by decide) (by decide) hs hpl
/-! methods of texts -/
abbrev OM := D → List D → (D → Prop) → Prop
def SndM (K : PySem.W.Frag) (r : V → List V → Hp → VK → Prop) (op : OM) : Prop := ∀ (H Hs : Hp) (x : D) (vx : V) (ds : List D) (vs : List V) (Q : VK) (Q' : D → Prop), Same Hs H → Rp K Hs x vx → RpA K Hs ds vs →
  (∀ z v H' Hs', Stp none H Hs H' Hs' → Rp K Hs' z v → Q' z → Q v H') → op x ds Q' → r vx vs H Q
def D.isStr : D → Prop
  | .str _ => True
  | _ => False
def dM1 (op : OM) (o e : DT) : DT := fun g r f Q => o g r f fun x f1 => x.isStr ∧ e g r f1 fun y f2 => op x [y] fun z => Q z f2
theorem isStr_V {H : Hp} {d : D} {v : V} (h : Rp K H d v) (i : d.isStr) : ∃ a, v = .str a := by
  cases d <;> first | exact i.elim | exact ⟨_, h⟩
theorem snd_m1 {r : V → List V → Hp → VK → Prop} {op : OM} {to te : TE} {o e : DT} (hr : SndM K r op) (ho : Snd K to o) (he : Snd K te e) : Snd K (tM1 r to te) (dM1 op o e) := fun g ro f st H Hs Q Q' A hq hd =>
  ho g ro f st H Hs _ _ A (fun x f1 vx H1 Hs1 s1 k1 r1 q1 => ⟨isStr_V r1 q1.1, he g ro f1 st H1 Hs1 _ _ (A.step s1 k1) (fun y f2 vy H2 Hs2 s2 k2 r2 q2 =>
    hr H2 Hs2 x vx [y] [vy] Q _ s2.sub (r1.mono s2.ext) (RpA.one r2) (fun z v H3 Hs3 s3 r3 q3 => hq z f2 v H3 Hs3 ((s1.trans s2).trans s3.gen) (k2.stp s3) r3 q3) q2) q1.2⟩) hd
def oStarts : OM := fun x ds Q => match x, ds with
  | .str a, [.str b] => Q (.bool (Txt.startswith a b))
  | _, _ => False
theorem sm_starts : SndM K (fun x xs H Q => ∃ a b, x = .str a ∧ xs = [.str b] ∧ Q (.bl (Txt.startswith a b)) H) oStarts := fun H Hs x vx ds vs Q Q' s rx rs hq hd => by
  unfold oStarts at hd
  split at hd
  · obtain ⟨v, rfl, h⟩ := rpA1 rs
    cases h
    exact ⟨_, _, rx, rfl, hq (.bool _) _ _ _ (Stp.refl s) rfl hd⟩
  · exact hd.elim
theorem de_starts {o e : Expr} {apos pos : Pos} {d d2 : DT} (ho : DE X o d) (he : DE X e d2) (hs : starEach [e] X.env = [(false, eval e X.env)] := by rfl) (hbase : attributeBase o "startswith" X.env (eval o X.env) = eval o X.env := by rfl) (hline : (apos.endLine == pos.line) = true := by rfl) :
    DE X (.Call (.Attribute o "startswith" apos) [e] [] pos) (dM1 oStarts d d2) := .mk' (pe_m1 F.slot_str_startswith F.type_str_startswith mt_startswith ho.pe he.pe hs hbase hline) (snd_m1 sm_starts ho.sn he.sn)
def oJoin : OM := fun x ds Q => match x, ds with
  | .str a, [.lst xs] => ∃ ys : List Str, xs = ys.map D.str ∧ (ys.map (·.length)).sum + ys.length * a.length ≤ 16777216 ∧ Q (.str (Txt.join a ys))
  | .str a, [.tup xs] => ∃ ys : List Str, xs = ys.map D.str ∧ (ys.map (·.length)).sum + ys.length * a.length ≤ 16777216 ∧ Q (.str (Txt.join a ys))
  | _, _ => False
theorem sm_join : SndM K (fun x xs H Q => ∃ a p, ∃ ys : List Str, x = .str a ∧ xs = [.ref p] ∧ (SqL K H p (ys.map V.str) ∨ SqT K H p (ys.map V.str)) ∧ (ys.map (·.length)).sum + ys.length * a.length ≤ 16777216 ∧ Q (.str (Txt.join a ys)) H) oJoin := fun H Hs x vx ds vs Q Q' s rx rs hq hd => by
  unfold oJoin at hd
  split at hd
  · obtain ⟨ys, rfl, h1, h2⟩ := hd
    obtain ⟨v, rfl, a, vs, rfl, h3, h4⟩ := rpA1 rs
    have e := h4.strs
    subst e
    exact ⟨_, a, ys, rx, rfl, .inl (SqL.of (s _ _ h3)), h1, hq (.str _) _ _ _ (Stp.refl s) rfl h2⟩
  · obtain ⟨ys, rfl, h1, h2⟩ := hd
    obtain ⟨v, rfl, a, vs, rfl, h3, h4⟩ := rpA1 rs
    have e := h4.strs
    subst e
    exact ⟨_, a, ys, rx, rfl, .inr ((tp_sq s h3)), h1, hq (.str _) _ _ _ (Stp.refl s) rfl h2⟩
  · exact hd.elim
theorem de_join {o e : Expr} {apos pos : Pos} {d d2 : DT} (ho : DE X o d) (he : DE X e d2) (hs : starEach [e] X.env = [(false, eval e X.env)] := by rfl) (hbase : attributeBase o "join" X.env (eval o X.env) = eval o X.env := by rfl) (hline : (apos.endLine == pos.line) = true := by rfl) :
    DE X (.Call (.Attribute o "join" apos) [e] [] pos) (dM1 oJoin d d2) :=
  .mk' (pe_join ho.pe he.pe hs hbase hline) (snd_m1 sm_join ho.sn he.sn)
/-- x.split(sep): a new list -/
def dSplit (o e : DT) : DTA := fun g r f Q => o g r f fun x f1 => match x with
  | .str a => e g r f1 fun y f2 => match y with
    | .str b => (b.length == 0) = false ∧ a.length ≤ lim ∧ Q ((Txt.split a b).map D.str) f2
    | _ => False
  | _ => False
theorem dl_split {o e : Expr} {apos pos : Pos} {d d2 : DT} (ho : DE X o d) (he : DE X e d2) (hs : starEach [e] X.env = [(false, eval e X.env)] := by rfl) (hbase : attributeBase o "split" X.env (eval o X.env) = eval o X.env := by rfl) (hline : (apos.endLine == pos.line) = true := by rfl) :
    DL' X (.Call (.Attribute o "split" apos) [e] [] pos) (dSplit d d2) :=
  .mk' (pe_split ho.pe he.pe hs hbase hline) (fun g ro f st H Hs Q Q' A hq hd =>
    ho.sn g ro f st H Hs _ _ A (fun x f1 vx H1 Hs1 s1 k1 r1 q1 => by
      cases x <;> try exact q1.elim
      next a =>
      refine ⟨⟨a, r1⟩, he.sn g ro f1 st H1 Hs1 _ _ (A.step s1 k1) (fun y f2 vy H2 Hs2 s2 k2 r2 q2 => ?_) q1⟩
      cases y <;> try exact q2.elim
      next b =>
      cases r1
      cases r2
      refine ⟨a, b, rfl, rfl, q2.1, Nat.le_trans (Nat.add_le_add_right q2.2.1 2) (by decide), fun p hp => ?_⟩
      have al : Stp none H2 Hs2 (upd H2 p (.lst ((Txt.split a b).map V.str))) Hs2 := Stp.lay s2.sub hp
      refine hq _ f2 p _ _ _ ((s1.trans s2).trans al.gen) (k2.stp al) ?_ (same_none s2.sub hp) upd_same (RpA.map (f := D.str) (g := V.str) (fun _ => rfl) _) q2.2.2
      cases e : H p with
      | none => rfl
      | some o =>
        obtain ⟨o', e'⟩ := (s1.trans s2).there p o e
        rw [e'] at hp; cases hp) hd)
end
end DL
namespace DL
open PySem PySem.Spec PyProof.Rows L2
section
variable {X : Cx} {K : PySem.W.Frag}
/-! items and slices -/
def oIx : O2 := fun x y Q => match x, y with
  | .lst xs, .int i => ∃ d, atI xs i = some d ∧ Q d
  | .tup xs, .int i => ∃ d, atI xs i = some d ∧ Q d
  | .ktup xs, .int i => ∃ d, atI (xs.map D.str) i = some d ∧ Q d
  | .ftp xs, .int i => ∃ d, atI xs i = some d ∧ Q d
  | .str z, .int i => z.length ≤ lim ∧ ∃ c, atI z.cps.toList i = some c ∧ Q (.str ⟨#[c]⟩)
  | _, _ => False
theorem atI_rp {H : Hp} {ds : List D} {vs : List V} {i : Int} {d : D} (h : RpA K H ds vs) (e : atI ds i = some d) : ∃ v, atI vs i = some v ∧ Rp K H d v := by
  unfold atI at e ⊢
  rw [h.length] at e
  cases e2 : ixN vs.length i with
  | none => rw [e2] at e; cases e
  | some j =>
    rw [e2] at e
    obtain ⟨v, h1, h2⟩ := h.get (i := j) (d := d) e
    exact ⟨v, h1, h2⟩
theorem sr_ix : SndR K (rIx K) oIx := SndR.pure fun H Hs x y vx vy Q Q' s rx ry hq hd => by
  unfold oIx at hd
  split at hd
  · obtain ⟨d, e, q⟩ := hd
    obtain ⟨a, vs, rfl, h1, h2⟩ := rx
    obtain ⟨v, h3, h4⟩ := atI_rp h2 e
    exact .inl ⟨a, vs, _, v, rfl, ry, SqL.of (s _ _ h1), h3, hq d v h4 q⟩
  · obtain ⟨d, e, q⟩ := hd
    obtain ⟨a, vs, rfl, h1, h2⟩ := rx
    obtain ⟨v, h3, h4⟩ := atI_rp h2 e
    exact .inr (.inl ⟨a, vs, _, v, rfl, ry, (tp_sq s h1), h3, hq d v h4 q⟩)
  · obtain ⟨d, e, q⟩ := hd
    obtain ⟨a, rfl, h1⟩ := rx
    obtain ⟨v, h3, h4⟩ := atI_rp (RpA.map (f := D.str) (g := V.str) (fun _ => rfl) _) e
    exact .inr (.inl ⟨a, _, _, v, rfl, ry, h1.sq _, h3, hq d v h4 q⟩)
  · obtain ⟨d, e, q⟩ := hd
    obtain ⟨a, vs, rfl, h1, h2⟩ := rx
    obtain ⟨v, h3, h4⟩ := atI_rp h2 e
    exact .inr (.inl ⟨a, vs, _, v, rfl, ry, (h1.mono s).sq, h3, hq d v h4 q⟩)
  · obtain ⟨hz, c, e, q⟩ := hd
    exact .inr (.inr ⟨_, _, c, rx, ry, lim_le hz, e, hq (.str _) _ rfl q⟩)
  · exact hd.elim
theorem de_ix {a b : Expr} {pos : Pos} {da db : DT} (ha : DE X a da) (hb : DE X b db) (hs : PlainIx b := by exact fun _ _ => rfl) : DE X (.Subscript a b pos) (dOp oIx da db) := .mk' (pe_ix ix_seq ha.pe hb.pe hs) (snd_op sr_ix ha.sn hb.sn)
abbrev DTO := Option Dk → Sg → Nat → (Option Int → Nat → Prop) → Prop
def SndO (K : PySem.W.Frag) (t : TO) (dl : DTO) : Prop := ∀ (g : Option Dk) (r : Sg) (f : Nat) (st : L2.St) (H Hs : Hp) (Q : Option Int → Hp → Prop) (Q' : Option Int → Nat → Prop), At K g r f st H Hs →
  (∀ b f' H' Hs', Stp g H Hs H' Hs' → DkOk g H' Hs' f' → Q' b f' → Q b H') → dl g r f Q' → t st H Q
def tOfO (K : PySem.W.Frag) (dl : DTO) : TO := fun st H Q => ∃ g r f Hs Q', At K g r f st H Hs ∧ (∀ b f' H' Hs', Stp g H Hs H' Hs' → DkOk g H' Hs' f' → Q' b f' → Q b H') ∧ dl g r f Q'
structure DO (X : Cx) (e : Option Expr) (dl : DTO) : Prop where
  po : PO X e (tOfO X.K dl)
theorem DO.sn {e : Option Expr} {dl : DTO} (_ : DO X e dl) : SndO X.K (tOfO X.K dl) dl := fun g r f st H Hs Q Q' a hq hd => ⟨g, r, f, Hs, Q', a, hq, hd⟩
theorem DO.mk' {e : Option Expr} {t : TO} {dl : DTO} (p : PO X e t) (s : SndO X.K t dl) : DO X e dl := ⟨⟨fun pins sh st H Q I ⟨g, r, f, Hs, Q', a, hq, hd⟩ => p.run pins sh st H Q I (s g r f st H Hs Q Q' a hq hd)⟩⟩
theorem do_none : DO X none (fun _ _ f Q => Q none f) := .mk' (po_none) (fun g ro f st H Hs Q Q' A hq hd => hq none f H Hs (Stp.refl A.sub) A.dk hd)
def dPart (d : DT) : DTO := fun g r f Q => d g r f fun x f1 => match x with
  | .int i => Q (some i) f1
  | _ => False
theorem do_some {e : Expr} {d : DT} (h : DE X e d) : DO X (some e) (dPart d) := .mk' (po_some h.pe) (fun g ro f st H Hs Q Q' A hq hd =>
  h.sn g ro f st H Hs _ _ A (fun x f1 v H1 Hs1 s1 k1 r1 q1 => by
    cases x <;> try exact q1.elim
    exact ⟨_, r1, hq _ f1 H1 Hs1 s1 k1 q1⟩) hd)
def cutD (xs : List D) (lo hi : Option Int) : List D := (xs.drop (HT.sIx xs.length 0 lo)).take (HT.sIx xs.length xs.length hi - HT.sIx xs.length 0 lo)
theorem cut_rp {H : Hp} {ds : List D} {vs : List V} {lo hi : Option Int} (h : RpA K H ds vs) : RpA K H (cutD ds lo hi) (cutV vs lo hi) := by
  unfold cutD cutV
  rw [h.length]
  exact (h.drop _).take _
abbrev O3 := D → Option Int → Option Int → (D → Prop) → Prop
def oSl : O3 := fun x lo hi Q => match x with
  | .lst xs => Q (.lst (cutD xs lo hi))
  | .tup xs => Q (.tup (cutD xs lo hi))
  | .ftp xs => ((HT.sIx xs.length 0 lo = 0 ∧ HT.sIx xs.length xs.length hi = xs.length) → Q (.ftp xs)) ∧ Q (.tup (cutD xs lo hi))
  | .str z => z.length ≤ lim ∧ Q (.str (cutS z lo hi))
  | _ => False
def rSl (K : PySem.W.Frag) : V → Option Int → Option Int → Hp → VK → Prop := fun x lo hi H Q => rSlL K x lo hi H Q ∨ (rSlA K x lo hi H Q ∨ rSlS x lo hi H Q)
theorem cutD_whole {xs : List D} {lo hi : Option Int} (h : HT.sIx xs.length 0 lo = 0 ∧ HT.sIx xs.length xs.length hi = xs.length) : cutD xs lo hi = xs := by
  unfold cutD
  rw [h.1, h.2]
  simp
theorem sl_all : SlR X (rSl X.K) := sl_list.or (sl_tupA.or sl_str)
def dSl (a : DT) (lo hi : DTO) : DT := fun g r f Q => a g r f fun x f1 => lo g r f1 fun i f2 => hi g r f2 fun j f3 => oSl x i j fun z => Q z f3
theorem sr_sl {H Hs : Hp} {x : D} {vx : V} {lo hi : Option Int} {Q : VK} {Q' : D → Prop} (s : Same Hs H) (rx : Rp K Hs x vx) (hq : ∀ z v H' Hs', Stp none H Hs H' Hs' → Rp K Hs' z v → Q' z → Q v H') (hd : oSl x lo hi Q') : rSl K vx lo hi H Q := by
  cases x <;> try exact hd.elim
  · exact .inr (.inr ⟨_, rx, lim_le hd.1, hq (.str _) _ _ _ (Stp.refl s) rfl hd.2⟩)
  · obtain ⟨a, vs, rfl, h1, h2⟩ := rx
    refine .inr (.inl ⟨a, vs, rfl, (tp_sq s h1), fun e => ?_, fun e p hp => ?_⟩)
    · rw [← h2.length] at e
      exact hq (.tup _) _ _ _ (Stp.refl s) ⟨a, vs, rfl, h1, by rw [cutD_whole e]; exact h2⟩ hd
    · exact hq (.tup _) _ _ _ (Stp.alloc s hp) (rp_tup (cut_rp h2) (same_none s hp)) hd
  · obtain ⟨a, vs, rfl, h1, h2⟩ := rx
    exact .inl ⟨a, vs, rfl, SqL.of (s _ _ h1), fun p hp => hq (.lst _) _ _ _ (Stp.alloc s hp) (rp_lst (cut_rp h2) (same_none s hp)) hd⟩
  · obtain ⟨a, vs, rfl, h1, h2⟩ := rx
    refine .inr (.inl ⟨a, vs, rfl, (h1.mono s).sq, fun e => ?_, fun e p hp => ?_⟩)
    · rw [← h2.length] at e
      exact hq (.ftp _) _ _ _ (Stp.refl s) ⟨a, vs, rfl, h1, h2⟩ (hd.1 e)
    · exact hq (.tup _) _ _ _ (Stp.alloc s hp) (rp_tup (cut_rp h2) (same_none s hp)) hd.2
theorem de_sl {e : Expr} {lo hi : Option Expr} {p2 pos : Pos} {d : DT} {dl dh : DTO} (he : DE X e d) (hl : DO X lo dl) (hh : DO X hi dh) : DE X (.Subscript e (.Slice lo hi none p2) pos) (dSl d dl dh) :=
  .mk' (pe_slice sl_all he.pe hl.po hh.po) (fun g ro f st H Hs Q Q' A hq hd =>
    he.sn g ro f st H Hs _ _ A (fun x f1 v H1 Hs1 s1 k1 r1 q1 => hl.sn g ro f1 st H1 Hs1 _ _ (A.step s1 k1) (fun i f2 H2 Hs2 s2 k2 q2 =>
      hh.sn g ro f2 st H2 Hs2 _ _ ((A.step s1 k1).step s2 k2) (fun j f3 H3 Hs3 s3 k3 q3 =>
        sr_sl s3.sub ((r1.mono s2.ext).mono s3.ext) (fun z v H4 Hs4 s4 r4 q4 => hq z f3 v H4 Hs4 (((s1.trans s2).trans s3).trans s4.gen) (k3.stp s4) r4 q4) q3) q2) q1) hd)
theorem none_back {g : Option Dk} {H Hs H' Hs' : Hp} {p : Addr} (s : Stp g H Hs H' Hs') (h : H' p = none) : H p = none := by
  cases e : H p with
  | none => rfl
  | some o =>
    obtain ⟨o', e'⟩ := s.there p o e
    rw [e'] at h; cases h
/-! calls of defs -/
abbrev DSp := Option Dk → List D → Nat → QD → Prop
def spOf (K : PySem.W.Frag) (S : DSp) : Sp := fun vs H Q _ => ∃ (g : Option Dk) (Hs : Hp) (ds : List D) (f : Nat) (Q' : QD), Same Hs H ∧ DkOk g H Hs f ∧ RpA K Hs ds vs ∧ S g ds f Q' ∧
  ∀ d f' v H' Hs', Stp g H Hs H' Hs' → DkOk g H' Hs' f' → Rp K Hs' d v → Q' d f' → Q v H'
def dCall (S : DSp) (t : DTA) : DT := fun g r f Q => t g r f fun ds f1 => S g ds f1 Q
theorem snd_call {S : DSp} {E : XK} {t : TA} {d : DTA} (ht : SndA K t d) : Snd K (tCall (spOf K S) [] E t) (dCall S d) := fun g ro f st H Hs Q Q' A hq hd =>
  ht g ro f st H Hs _ _ A (fun ds f1 vs H1 Hs1 s1 k1 r1 q1 => by
    show spOf K S (vs ++ []) H1 Q E
    rw [List.append_nil]
    exact ⟨g, Hs1, ds, f1, Q', s1.sub, k1, r1, q1, fun d f' v H' Hs' s2 k2 r2 q2 => hq d f' v H' Hs' (s1.trans s2) k2 r2 q2⟩) hd
/-! what is walked -/
structure Walks (K : PySem.W.Frag) (J : It) (Hb : Hp) (ds : List D) : Prop where
  go : ∀ (i : Nat) (d : D) (H Hs : Hp), Same Hb Hs → Same Hs H → ds[i]? = some d → J.go i H ∧ ∀ x H', J.yld i H x H' → ∃ Hs', Stp none H Hs H' Hs' ∧ Rp K Hs' d x
  stop : ∀ H, Same Hb H → J.stop ds.length H
def SndI (K : PySem.W.Frag) (wi : TI) (dl : DTA) : Prop := ∀ (g : Option Dk) (r : Sg) (f : Nat) (st : L2.St) (H Hs : Hp) (R : It → Hp → Prop) (Q' : List D → Nat → Prop), At K g r f st H Hs →
  (∀ ds f' J H' Hs', Stp g H Hs H' Hs' → DkOk g H' Hs' f' → Walks K J Hs' ds → Q' ds f' → R J H') → dl g r f Q' → wi st H R
def tOfI (K : PySem.W.Frag) (dl : DTA) : TI := fun st H R => ∃ g r f Hs Q', At K g r f st H Hs ∧ (∀ ds f' J H' Hs', Stp g H Hs H' Hs' → DkOk g H' Hs' f' → Walks K J Hs' ds → Q' ds f' → R J H') ∧ dl g r f Q'
structure DI (X : Cx) (tg e : Expr) (dl : DTA) : Prop where
  pi : PI X tg e (tOfI X.K dl)
theorem DI.sn {tg e : Expr} {dl : DTA} (_ : DI X tg e dl) : SndI X.K (tOfI X.K dl) dl := fun g r f st H Hs Q Q' a hq hd => ⟨g, r, f, Hs, Q', a, hq, hd⟩
theorem DI.mk' {tg e : Expr} {wi : TI} {dl : DTA} (p : PI X tg e wi) (s : SndI X.K wi dl) : DI X tg e dl := ⟨⟨fun pins sh st H R I ⟨g, r, f, Hs, Q', a, hq, hd⟩ => p.run pins sh st H R I (s g r f st H Hs R Q' a hq hd)⟩⟩
/-- a list, a tuple, a text -/
def iSeq (K : PySem.W.Frag) (tl : TE) : TI := fun st H R => tl st H fun x H1 => (∃ a, x = .ref a ∧ (((∃ xs, SqL K H1 a xs) ∧ R (Itl K a) H1) ∨ ((∃ xs, SqT K H1 a xs) ∧ R (Itt K a) H1))) ∨ ∃ z, x = .str z ∧ R (Its z) H1
theorem pi_seq {tg l : Expr} {tl : TE} (hl : PE X l tl) : PI X tg l (iSeq X.K tl) := by
  refine ⟨fun pins s st H R I h => ?_⟩
  refine thn (hl.run pins s st H _ I h) fun v s1 ⟨x, H1, I1, r1, q1⟩ => ?_
  rcases q1 with ⟨a, e, (⟨⟨xs, hq⟩, q⟩ | ⟨⟨xs, hq⟩, q⟩)⟩ | ⟨z, e, q⟩
  · subst e
    cases r1
    obtain ⟨its, rv, p, hz⟩ := I1.list hq
    refine wpAny_pyIter_list p.isList ?_
    refine ⟨s1.heap.objs.size, [s1.heap.objs.size], _, _, H1, rfl, I1.kept (t' := s1.toks) fun b o e => Heap.get?_push_of_some _ e, turn_list a _, ⟨_, Heap.get?_push_size _ rfl, rfl, rfl⟩, fun b hb => ?_, q⟩
    have e : b = s1.heap.objs.size := by simpa using hb
    subst e
    exact I1.fpOk (Nat.le_refl _) (I1.hok.fresh (Nat.le_refl _))
  · subst e
    cases r1
    obtain ⟨its, rv, p, hz⟩ := I1.tuple hq
    refine wpAny_pyIter_tuple (show s1.heap.IsTuple a its.toArray from p) ?_
    refine ⟨s1.heap.objs.size, [s1.heap.objs.size], _, _, H1, rfl, I1.kept (t' := s1.toks) fun b o e => Heap.get?_push_of_some _ e, turn_tuple a _, ⟨_, Heap.get?_push_size _ rfl, rfl, rfl⟩, fun b hb => ?_, q⟩
    have e : b = s1.heap.objs.size := by simpa using hb
    subst e
    exact I1.fpOk (Nat.le_refl _) (I1.hok.fresh (Nat.le_refl _))
  · subst e
    obtain ⟨t, rfl⟩ := r1
    cases ha : z.cps.all (· < 128)
    · exact wpAny_pyIter_wide ha (pi_one (tk := s1.toks) I1 _ (turn_str _ z t "str_iterator" (.inr rfl)) ⟨_, Heap.get?_push_size _ rfl, rfl, rfl⟩ q)
    · exact wpAny_pyIter_ascii ha (pi_one (tk := s1.toks) I1 _ (turn_str _ z t "str_ascii_iterator" (.inl rfl)) ⟨_, Heap.get?_push_size _ rfl, rfl, rfl⟩ q)
def signs (z : Str) : List D := z.cps.toList.map fun c => .str ⟨#[c]⟩
def dSeq' (d : DT) : DTA := fun g r f Q => d g r f fun x f1 => match x with
  | .lst xs => Q xs f1
  | .tup xs => Q xs f1
  | .ftp xs => Q xs f1
  | .str z => Q (signs z) f1
  | _ => False
theorem walks_list {Hb : Hp} {a : Addr} {vs : List V} {ds : List D} (h1 : Hb a = some (.lst vs)) (h2 : RpA K Hb ds vs) : Walks K (Itl K a) Hb ds where
  go := fun i d H Hs s1 s2 e => by
    obtain ⟨v, hv, hr⟩ := h2.get e
    have q : SqL K H a vs := SqL.of (s2 _ _ (s1 _ _ h1))
    refine ⟨⟨vs, v, q, hv⟩, ?_⟩
    rintro x H' ⟨rfl, hx⟩
    have := hx vs q
    rw [hv] at this
    cases this
    exact ⟨Hs, Stp.refl s2, hr.mono s1⟩
  stop := fun H s => ⟨vs, SqL.of (s _ _ h1), by rw [h2.length]; exact Nat.le_refl _⟩
theorem walks_sqT {Hb : Hp} {a : Addr} {vs : List V} {ds : List D} (h1 : SqT K Hb a vs) (h2 : RpA K Hb ds vs) : Walks K (Itt K a) Hb ds where
  go := fun i d H Hs s1 s2 e => by
    obtain ⟨v, hv, hr⟩ := h2.get e
    have q : SqT K H a vs := sqT_mono s2 (sqT_mono s1 h1)
    refine ⟨⟨vs, v, q, hv⟩, ?_⟩
    rintro x H' ⟨rfl, hx⟩
    have := hx vs q
    rw [hv] at this
    cases this
    exact ⟨Hs, Stp.refl s2, hr.mono s1⟩
  stop := fun H s => ⟨vs, sqT_mono s h1, by rw [h2.length]; exact Nat.le_refl _⟩
theorem walks_tup {Hb : Hp} {a : Addr} {vs : List V} {ds : List D} (h1 : TpAt K Hb a vs) (h2 : RpA K Hb ds vs) : Walks K (Itt K a) Hb ds where
  go := fun i d H Hs s1 s2 e => by
    obtain ⟨v, hv, hr⟩ := h2.get e
    have q : SqT K H a vs := sqT_mono s2 (tp_sq s1 h1)
    refine ⟨⟨vs, v, q, hv⟩, ?_⟩
    rintro x H' ⟨rfl, hx⟩
    have := hx vs q
    rw [hv] at this
    cases this
    exact ⟨Hs, Stp.refl s2, hr.mono s1⟩
  stop := fun H s => ⟨vs, tp_sq s h1, by rw [h2.length]; exact Nat.le_refl _⟩
theorem walks_str {Hb : Hp} {z : Str} : Walks K (Its z) Hb (signs z) where
  go := fun i d H Hs s1 s2 e => by
    unfold signs at e
    rw [List.getElem?_map] at e
    cases ec : z.cps.toList[i]? with
    | none => rw [ec] at e; cases e
    | some c =>
      rw [ec] at e
      cases e
      have hl : i < z.cps.size := by
        have := List.getElem?_eq_some_iff.mp ec
        simpa using this.1
      refine ⟨hl, ?_⟩
      rintro x H' ⟨rfl, c', hc, rfl⟩
      have : c' = c := by
        rw [Array.getElem?_toList] at ec
        rw [hc] at ec
        exact Option.some.inj ec
      subst this
      exact ⟨Hs, Stp.refl s2, rfl⟩
  stop := fun H s => by
    show z.cps.size ≤ (signs z).length
    unfold signs
    simp
theorem di_seq {tg l : Expr} {d : DT} (h : DE X l d) : DI X tg l (dSeq' d) := .mk' (pi_seq h.pe) (fun g ro f st H Hs R Q' A hq hd =>
  h.sn g ro f st H Hs _ _ A (fun x f1 v H1 Hs1 s1 k1 r1 q1 => by
    cases x <;> try exact q1.elim
    · exact .inr ⟨_, r1, hq _ f1 _ H1 Hs1 s1 k1 walks_str q1⟩
    · obtain ⟨a, vs, rfl, h1, h2⟩ := r1
      exact .inl ⟨a, rfl, .inr ⟨⟨vs, (tp_sq s1.sub h1)⟩, hq _ f1 _ H1 Hs1 s1 k1 (walks_tup h1 h2) q1⟩⟩
    · obtain ⟨a, vs, rfl, h1, h2⟩ := r1
      exact .inl ⟨a, rfl, .inl ⟨⟨vs, SqL.of (s1.sub _ _ h1)⟩, hq _ f1 _ H1 Hs1 s1 k1 (walks_list h1 h2) q1⟩⟩
    · obtain ⟨a, vs, rfl, h1, h2⟩ := r1
      exact .inl ⟨a, rfl, .inr ⟨⟨vs, sqT_mono s1.sub h1.sq⟩, hq _ f1 _ H1 Hs1 s1 k1 (walks_sqT h1.sq h2) q1⟩⟩) hd)
def intsD (lo : Int) (n : Nat) : List D := (List.range n).map fun (i : Nat) => D.int (lo + (i : Int))
theorem walks_range {Hb : Hp} {lo : Int} {n : Nat} : Walks K (Itr lo n) Hb (intsD lo n) where
  go := fun i d H Hs s1 s2 e => by
    unfold intsD at e
    rw [List.getElem?_map] at e
    by_cases hl : i < n
    · rw [List.getElem?_range hl] at e
      cases e
      refine ⟨hl, ?_⟩
      rintro x H' ⟨rfl, rfl⟩
      exact ⟨Hs, Stp.refl s2, rfl⟩
    · rw [List.getElem?_eq_none (by simpa using hl)] at e
      cases e
  stop := fun H s => by
    show n ≤ (intsD lo n).length
    unfold intsD
    simp
def dRng1 (t : DTA) : DTA := fun g r f Q => t g r f fun ds f1 => match ds with
  | [.int j] => -(2 ^ 62) ≤ j ∧ j < 2 ^ 62 ∧ Q (intsD 0 j.toNat) f1
  | _ => False
theorem di_range1 {tg a : Expr} {d : DTA} {p pos : Pos} (hm : X.mg "range" = none) (ha : DA X [a] d) (hg : Gl X "range" := by rfl) (hs : starEach [a] X.env = [(false, eval a X.env)] := by rfl) : DI X tg (.Call (.Name "range" p) [a] [] pos) (dRng1 d) :=
  .mk' (pi_range1 hg hm ha.pa hs) (fun g ro f st H Hs R Q' A hq hd =>
    ha.sn g ro f st H Hs _ _ A (fun ds f1 vs H1 Hs1 s1 k1 r1 q1 => by
      split at q1
      · obtain ⟨v, rfl, h⟩ := rpA1 r1
        cases h
        exact ⟨_, rfl, q1.1, q1.2.1, hq _ f1 _ H1 Hs1 s1 k1 walks_range q1.2.2⟩
      · exact q1.elim) hd)
def dRng2 (t : DTA) : DTA := fun g r f Q => t g r f fun ds f1 => match ds with
  | [.int i, .int j] => (-(2 ^ 62) ≤ i ∧ i < 2 ^ 62 ∧ -(2 ^ 62) ≤ j ∧ j < 2 ^ 62) ∧ Q (intsD i (j - i).toNat) f1
  | _ => False
theorem di_range2 {tg a b : Expr} {d : DTA} {p pos : Pos} (hm : X.mg "range" = none) (ha : DA X [a, b] d) (hg : Gl X "range" := by rfl) (hs : starEach [a, b] X.env = [(false, eval a X.env), (false, eval b X.env)] := by rfl) (hs2 : starEach [b] X.env = [(false, eval b X.env)] := by rfl) : DI X tg (.Call (.Name "range" p) [a, b] [] pos) (dRng2 d) :=
  .mk' (pi_range2 hg hm ha.pa hs hs2) (fun g ro f st H Hs R Q' A hq hd =>
    ha.sn g ro f st H Hs _ _ A (fun ds f1 vs H1 Hs1 s1 k1 r1 q1 => by
      split at q1
      · obtain ⟨v, w, rfl, h, h'⟩ := rpA2 r1
        cases h
        cases h'
        exact ⟨_, _, rfl, q1.1, hq _ f1 _ H1 Hs1 s1 k1 walks_range q1.2⟩
      · exact q1.elim) hd)
end
end DL
namespace DL
open PySem PySem.Spec PyProof.Rows L2
/-! targets -/
abbrev TgF := D → Option (List (Nat × D))
def setsR (r : Sg) : List (Nat × D) → Sg
  | [] => r
  | (i, d) :: l => setsR (r.set i (.sh d)) l
def setsV (st : L2.St) : List Nat → List V → L2.St
  | i :: is, v :: vs => setsV (st.set i (some v)) is vs
  | _, _ => st
section
variable {X : Cx} {K : PySem.W.Frag}
theorem SlOk.sets {Hs : Hp} : ∀ {l : List (Nat × D)} {vs : List V} {r : Sg} {st : L2.St}, SlOk K Hs r st → RpA K Hs (l.map (·.2)) vs → SlOk K Hs (setsR r l) (setsV st (l.map (·.1)) vs)
  | [], _, _, _, h, _ => by
    have e : ∀ (st : L2.St) (vs : List V), setsV st [] vs = st := fun st vs => by cases vs <;> rfl
    show SlOk K Hs _ (setsV _ [] _)
    rw [e]
    exact h
  | (i, d) :: l, _, r, st, h, ⟨v, vr, h1, h2, h3⟩ => by
    subst h1
    show SlOk K Hs (setsR (r.set i (.sh d)) l) (setsV (st.set i (some v)) (l.map (·.1)) vr)
    exact SlOk.sets (SlOk.set h i h2) h3
theorem wipe_set {st : L2.St} {i : Nat} {x : Option V} : ∀ {vs : List Nat}, i ∈ vs → wipe (st.set i x) vs = wipe st vs
  | v :: vs, h => by
    unfold wipe
    by_cases e : i ∈ vs
    · rw [wipe_set e]
    · have hv : i = v := by
        rcases List.mem_cons.mp h with h | h
        · exact h
        · exact absurd h e
      subst hv
      have : ∀ (vs : List Nat), i ∉ vs → wipe (st.set i x) vs = (wipe st vs).set i x := by
        intro vs
        induction vs with
        | nil => intro _; rfl
        | cons w ws ih =>
          intro hn
          have h1 : i ≠ w := fun e => hn (by simp [e])
          have h2 : i ∉ ws := fun e => hn (by simp [e])
          unfold wipe
          rw [ih h2, List.set_comm _ _ h1]
      rw [this vs e, List.set_set]
theorem wipe_sets {ws : List Nat} : ∀ {is : List Nat} {vs : List V} {st : L2.St}, (∀ i ∈ is, i ∈ ws) → wipe (setsV st is vs) ws = wipe st ws
  | [], _, _, _ => by unfold setsV; rfl
  | _ :: _, [], _, _ => by unfold setsV; rfl
  | i :: is, v :: vs, st, h => by
    unfold setsV
    rw [wipe_sets (fun j hj => h j (by simp [hj])), wipe_set (h i (by simp))]
theorem wipe_idem {st : L2.St} : ∀ {vs : List Nat} (ws : List Nat), (∀ i ∈ vs, i ∈ ws) → L2.wipe (L2.wipe st vs) ws = L2.wipe st ws
  | [], _, _ => rfl
  | v :: vs, ws, h => by
    show L2.wipe ((L2.wipe st vs).set v none) ws = _
    rw [wipe_set (h v (by simp)), wipe_idem ws fun i hi => h i (by simp [hi])]
theorem wipe_wipe_sets {vs is : List Nat} {us : List V} {st : L2.St} (h : ∀ i ∈ is, i ∈ vs) : L2.wipe (setsV (L2.wipe st vs) is us) vs = L2.wipe st vs := by
  rw [wipe_sets h, wipe_idem vs fun _ h => h]
def SndG (K : PySem.W.Frag) (is : List Nat) (g : TG) (t : TgF) : Prop := (∀ d l, t d = some l → l.map (·.1) = is) ∧ ∀ (H Hs : Hp) (st : L2.St) (d : D) (v : V) (Q : L2.St → Hp → Prop) (l : List (Nat × D)), Same Hs H → Rp K Hs d v → t d = some l →
  (∀ vs, RpA K Hs (l.map (·.2)) vs → Q (setsV st is vs) H) → g v st H Q
def gOf (K : PySem.W.Frag) (is : List Nat) (t : TgF) : TG := fun v st H Q => ∃ Hs d l, Same Hs H ∧ Rp K Hs d v ∧ t d = some l ∧ ∀ vs, RpA K Hs (l.map (·.2)) vs → Q (setsV st is vs) H
structure DG (X : Cx) (tg : Expr) (is : List Nat) (t : TgF) : Prop where
  pg : PG X tg (gOf X.K is t)
  ix : ∀ d l, t d = some l → l.map (·.1) = is
theorem DG.sn {tg : Expr} {is : List Nat} {t : TgF} (h : DG X tg is t) : SndG X.K is (gOf X.K is t) t := ⟨h.ix, fun H Hs st d v Q l s hr e hq => ⟨Hs, d, l, s, hr, e, hq⟩⟩
theorem DG.mk' {tg : Expr} {is : List Nat} {g : TG} {t : TgF} (p : PG X tg g) (s : SndG X.K is g t) : DG X tg is t := ⟨⟨fun pins sh st H v u Q I r ⟨Hs, d, l, h1, h2, h3, h4⟩ => p.run pins sh st H v u Q I r (s.2 H Hs st d v Q l h1 h2 h3 h4)⟩, s.1⟩
def tgN (i : Nat) : TgF := fun d => some [(i, d)]
theorem sg_name (i : Nat) : SndG K [i] (gName i) (tgN i) := ⟨fun d l e => by cases e; rfl, fun H Hs st d v Q l s rx e h => by
  cases e
  exact h [v] (RpA.one rx)⟩
theorem dg_name {i : Nat} {x : Str} {pos : Pos} (hN : X.N.Nodup) (hi : X.N[i]? = some x := by rfl) (hx : Loc X.env.scope x := by first | exact Or.inl rfl | exact Or.inr rfl) (hf : X.fn x = true ∨ X.env.scope.names.lookup x = some .local := by first | exact .inl rfl | exact .inr rfl | assumption) : DG X (.Name x pos) [i] (tgN i) := .mk' (pg_name hN hi hx hf) (sg_name i)
def tgT : List TgF → List D → Option (List (Nat × D))
  | [], [] => some []
  | t :: ts, d :: ds => (t d).bind fun l => (tgT ts ds).map fun m => l ++ m
  | _, _ => none
def tgTup (ts : List TgF) : TgF := fun d => match d with
  | .tup ds => tgT ts ds
  | _ => none
def SndGs (K : PySem.W.Frag) (is : List Nat) (g : TGs) (ts : List TgF) : Prop := (∀ ds l, tgT ts ds = some l → l.map (·.1) = is) ∧ ∀ (H Hs : Hp) (st : L2.St) (ds : List D) (vs : List V) (Q : L2.St → Hp → Prop) (l : List (Nat × D)), Same Hs H → RpA K Hs ds vs → tgT ts ds = some l →
  (∀ ws, RpA K Hs (l.map (·.2)) ws → Q (setsV st is ws) H) → g vs st H Q
def gOfs (K : PySem.W.Frag) (is : List Nat) (ts : List TgF) : TGs := fun vs st H Q => ∃ Hs ds l, Same Hs H ∧ RpA K Hs ds vs ∧ tgT ts ds = some l ∧ ∀ ws, RpA K Hs (l.map (·.2)) ws → Q (setsV st is ws) H
structure DGs (X : Cx) (tgs : List Expr) (is : List Nat) (ts : List TgF) : Prop where
  pg : PGs X tgs (gOfs X.K is ts)
  ix : ∀ ds l, tgT ts ds = some l → l.map (·.1) = is
theorem DGs.sn {tgs : List Expr} {is : List Nat} {ts : List TgF} (h : DGs X tgs is ts) : SndGs X.K is (gOfs X.K is ts) ts := ⟨h.ix, fun H Hs st ds vs Q l s hr e hq => ⟨Hs, ds, l, s, hr, e, hq⟩⟩
theorem DGs.mk' {tgs : List Expr} {is : List Nat} {g : TGs} {ts : List TgF} (p : PGs X tgs g) (s : SndGs X.K is g ts) : DGs X tgs is ts := ⟨⟨fun pins sh st H vs us Q I r ⟨Hs, ds, l, h1, h2, h3, h4⟩ => p.run pins sh st H vs us Q I r (s.2 H Hs st ds vs Q l h1 h2 h3 h4)⟩, s.1⟩
theorem setsV_append : ∀ (is js : List Nat) (vs ws : List V) (st : L2.St), is.length = vs.length → setsV st (is ++ js) (vs ++ ws) = setsV (setsV st is vs) js ws
  | [], js, vs, ws, st, h => by cases vs with
    | nil => rfl
    | cons v r => simp at h
  | i :: is, js, [], ws, st, h => by simp at h
  | i :: is, js, v :: vs, ws, st, h => by
    show setsV (st.set i (some v)) (is ++ js) (vs ++ ws) = _
    rw [setsV_append is js vs ws _ (by simpa using h)]
    rfl
theorem RpA.split {H : Hp} : ∀ {a b : List D} {vs : List V}, RpA K H (a ++ b) vs → ∃ p q, vs = p ++ q ∧ RpA K H a p ∧ RpA K H b q
  | [], _, vs, h => ⟨[], vs, rfl, rfl, h⟩
  | d :: a, b, _, ⟨v, r, h1, h2, h3⟩ => by
    subst h1
    obtain ⟨p, q, rfl, h4, h5⟩ := RpA.split h3
    exact ⟨v :: p, q, rfl, ⟨v, p, rfl, h2, h4⟩, h5⟩
theorem sgs_nil : SndGs K [] gNil [] := by
  refine ⟨fun ds l e => ?_, fun H Hs st ds vs Q l s rx e h => ?_⟩
  · cases ds with
    | nil => cases e; rfl
    | cons _ _ => cases e
  · cases ds with
    | nil => cases e; cases rx; exact ⟨rfl, h [] rfl⟩
    | cons _ _ => cases e
theorem sgs_cons {is js : List Nat} {g : TG} {u : TGs} {t : TgF} {ts : List TgF} (h1 : SndG K is g t) (h2 : SndGs K js u ts) : SndGs K (is ++ js) (gCons g u) (t :: ts) := by
  refine ⟨fun ds l e => ?_, fun H Hs st ds vs Q l s rx e h => ?_⟩
  · cases ds with
    | nil => cases e
    | cons d ds =>
      simp only [tgT] at e
      cases e1 : t d with
      | none => rw [e1] at e; cases e
      | some l1 =>
        rw [e1] at e
        cases e2 : tgT ts ds with
        | none => rw [e2] at e; cases e
        | some l2 =>
          rw [e2] at e
          cases e
          rw [List.map_append, h1.1 d l1 e1, h2.1 ds l2 e2]
  · cases ds with
    | nil => cases e
    | cons d ds =>
      simp only [tgT] at e
      cases e1 : t d with
      | none => rw [e1] at e; cases e
      | some l1 =>
        rw [e1] at e
        cases e2 : tgT ts ds with
        | none => rw [e2] at e; cases e
        | some l2 =>
          rw [e2] at e
          cases e
          obtain ⟨v, r, rfl, q1, q2⟩ := rx
          refine ⟨v, r, rfl, h1.2 H Hs st d v _ l1 s q1 e1 fun ws1 hw1 => h2.2 H Hs _ ds r Q l2 s q2 e2 fun ws2 hw2 => ?_⟩
          have hh := h (ws1 ++ ws2) (by rw [List.map_append]; exact hw1.append hw2)
          rw [setsV_append _ _ _ _ _ (by rw [← h1.1 d l1 e1, ← hw1.length]; simp)] at hh
          exact hh
theorem sg_tup {is : List Nat} {g : TGs} {ts : List TgF} {n : Nat} (h : SndGs K is g ts) (hn : ∀ ds l, tgT ts ds = some l → ds.length = n) : SndG K is (gTup K n g) (tgTup ts) := ⟨fun d l e => by
    cases d <;> first | (cases e; done) | exact h.1 _ l e, fun H Hs st d v Q l s rx e q => by
  cases d <;> try (cases e; done)
  obtain ⟨a, vs, rfl, h1, h2⟩ := rx
  exact ⟨a, vs, rfl, (tp_sq s h1), by rw [← h2.length]; exact hn _ l e, h.2 H Hs st _ vs Q l s h2 e q⟩⟩
theorem tgT_len : ∀ {ts : List TgF} {ds : List D} {l : List (Nat × D)}, tgT ts ds = some l → ds.length = ts.length
  | [], [], _, _ => rfl
  | [], _ :: _, _, e => by cases e
  | _ :: _, [], _, e => by cases e
  | t :: ts, d :: ds, l, e => by
    simp only [tgT] at e
    cases e1 : t d with
    | none => rw [e1] at e; cases e
    | some l1 =>
      rw [e1] at e
      cases e2 : tgT ts ds with
      | none => rw [e2] at e; cases e
      | some l2 => simp [tgT_len e2]
theorem dgs_nil : DGs X [] [] [] := .mk' (pgs_nil) (sgs_nil)
theorem dgs_cons {e : Expr} {es : List Expr} {is js : List Nat} {t : TgF} {ts : List TgF} (h1 : DG X e is t) (h2 : DGs X es js ts)
    (hs : (assignEach (e :: es) X.env).map (·.2) = assign e X.env :: (assignEach es X.env).map (·.2) := by rfl) : DGs X (e :: es) (is ++ js) (t :: ts) := .mk' (pgs_cons h1.pg h2.pg hs) (sgs_cons h1.sn h2.sn)
theorem dg_tup {es : List Expr} {k n : Nat} {pos : Pos} {is : List Nat} {ts : List TgF} (hc : X.calm = true) (h : DGs X es is ts) (hn : (assignEach es X.env).length = n := by rfl) (hst : (assignEach es X.env).findIdx? (·.1) = none := by rfl) (hl : ts.length = n := by rfl) :
    DG X (.Tuple es k pos) is (tgTup ts) := .mk' (pg_tup hc h.pg hn hst) (sg_tup h.sn fun ds l e => by rw [tgT_len e, hl])
/-! comprehensions -/
def wipeR (r : Sg) : List Nat → Sg
  | [] => r
  | v :: vs => (wipeR r vs).set v .no
theorem SlOk.wipe {Hs : Hp} {r : Sg} {st : L2.St} (h : SlOk K Hs r st) : ∀ vs : List Nat, SlOk K Hs (wipeR r vs) (L2.wipe st vs)
  | [] => h
  | v :: vs => by
    have ih := SlOk.wipe h vs
    refine ⟨by unfold wipeR L2.wipe; simp [ih.len], fun i s d h1 h2 => ?_⟩
    unfold wipeR at h1
    unfold L2.wipe
    by_cases e : v = i
    · subst e
      by_cases hl : v < (wipeR r vs).length
      · rw [List.getElem?_set_self hl] at h1
        cases h1
        cases h2
      · rw [List.getElem?_eq_none (by simpa using hl)] at h1
        cases h1
    · rw [List.getElem?_set_ne e] at h1
      rw [List.getElem?_set_ne e]
      exact ih.get i s d h1 h2
def dLcGo (g : Option Dk) (t : TgF) (c : DTT) (e : DT) (r : Sg) : List D → List D → Nat → (List D → Nat → Prop) → Prop
  | [], acc, f, Q => Q acc f
  | d :: ds, acc, f, Q => match t d with
    | none => False
    | some l => c g (setsR r l) f fun b f1 => if b = true then e g (setsR r l) f1 fun y f2 => dLcGo g t c e r ds (acc ++ [y]) f2 Q else dLcGo g t c e r ds acc f1 Q
def dLc (i : DTA) (t : TgF) (c : DTT) (e : DT) (vs : List Nat) : DTA := fun g r f Q => i g r f fun ds f1 => ds.length ≤ lim ∧ dLcGo g t c e (wipeR r vs) ds [] f1 Q
structure DTs (X : Cx) (ifs : List Expr) (d : DTT) : Prop where
  pt : PTs X ifs (tOfT X.K d)
theorem DTs.sn {ifs : List Expr} {dl : DTT} (_ : DTs X ifs dl) : SndT X.K (tOfT X.K dl) dl := fun g r f st H Hs Q Q' a hq hd => ⟨g, r, f, Hs, Q', a, hq, hd⟩
theorem DTs.mk' {ifs : List Expr} {t : TT} {dl : DTT} (p : PTs X ifs t) (s : SndT X.K t dl) : DTs X ifs dl := ⟨⟨fun pins sh st H Q I ⟨g, r, f, Hs, Q', a, hq, hd⟩ => p.run pins sh st H Q I (s g r f st H Hs Q Q' a hq hd)⟩⟩
def dYes : DTT := fun _ _ f Q => Q true f
theorem dts_nil : DTs X [] dYes := .mk' (pts_nil) (fun g r f st H Hs Q Q' A hq hd => hq true f H Hs (Stp.refl A.sub) A.dk hd)
theorem dts_one {c : Expr} {d : DTT} (h : DP X c d) : DTs X [c] d := .mk' (pts_one h.pt) (h.sn)
theorem snd_lc {wi : TI} {gt : TG} {tt : TT} {te : TE} {vs is : List Nat} {i : DTA} {t : TgF} {c : DTT} {e : DT} (hi : SndI K wi i) (hg : SndG K is gt t) (hc : SndT K tt c) (he : Snd K te e) (hs : ∀ j ∈ is, j ∈ vs) : SndL K (tLc wi gt tt te vs) (dLc i t c e vs) := by
  intro g r f st H Hs Q Q' A hq hd
  refine hi g r f st H Hs _ _ A (fun ds f1 J H1 Hs1 s1 k1 wk q1 => ?_) hd
  intro D hD
  have hDs : Hs1 D = none := same_none s1.sub hD
  have hDk : ¬ Dk.has g D := k1.out hD
  refine ⟨fun i m H2 => m = ds.length - i ∧ i ≤ ds.length ∧ ∃ f2 Hs2 acc ws, Stp g H1 Hs1 H2 Hs2 ∧ DkOk g H2 Hs2 f2 ∧ Hs2 D = none ∧ H2 D = some (.lst ws) ∧ RpA K Hs2 acc ws ∧ acc.length ≤ i ∧ dLcGo g t c e (wipeR r vs) (ds.drop i) acc f2 Q', ⟨ds.length, rfl, Nat.zero_le _, f1, Hs1, [], [], ?_, ?_, hDs, upd_same, rfl, Nat.le_refl _, q1.2⟩, ?_⟩
  · exact (Stp.lay s1.sub hD : Stp none H1 Hs1 (upd H1 D (.lst [])) Hs1).gen
  · exact k1.mut hDk
  rintro i m H2 ⟨rfl, hil, f2, Hs2, acc, ws, s2, k2, n2, e2, r2, l2, q2⟩
  by_cases hlt : i < ds.length
  · have hgd : ds[i]? = some ds[i] := List.getElem?_eq_getElem hlt
    have hdr : ds.drop i = ds[i] :: ds.drop (i + 1) := List.drop_eq_getElem_cons hlt
    rw [hdr] at q2
    obtain ⟨hgo, hy⟩ := wk.go i _ H2 Hs2 s2.ext s2.sub hgd
    refine .inr ⟨hgo, fun H3 => i + 1 ≤ ds.length ∧ ∃ f2 Hs2 acc ws, Stp g H1 Hs1 H3 Hs2 ∧ DkOk g H3 Hs2 f2 ∧ Hs2 D = none ∧ H3 D = some (.lst ws) ∧ RpA K Hs2 acc ws ∧ acc.length ≤ i + 1 ∧ dLcGo g t c e (wipeR r vs) (ds.drop (i + 1)) acc f2 Q', fun H3 h3 => ⟨_, by omega, rfl, h3⟩, fun x H3 hx => ?_⟩
    obtain ⟨Hs3, s3, r3⟩ := hy x H3 hx
    simp only [dLcGo] at q2
    cases et : t ds[i] with
    | none => rw [et] at q2; exact q2.elim
    | some l =>
      rw [et] at q2
      replace q2 : c g (setsR (wipeR r vs) l) f2 fun b f1 => if b = true then e g (setsR (wipeR r vs) l) f1 fun y f2 => dLcGo g t c e (wipeR r vs) (ds.drop (i + 1)) (acc ++ [y]) f2 Q' else dLcGo g t c e (wipeR r vs) (ds.drop (i + 1)) acc f1 Q' := q2
      have sl0 : SlOk K Hs3 (wipeR r vs) (L2.wipe st vs) := (((A.sl.mono s1.ext).mono s2.ext).mono s3.ext).wipe vs
      refine hg.2 H3 Hs3 _ _ x _ l s3.sub r3 et fun us hus => ⟨wipe_wipe_sets hs, ?_⟩
      have A3 : At K g (setsR (wipeR r vs) l) f2 (setsV (L2.wipe st vs) is us) H3 Hs3 := ⟨s3.sub, k2.stp s3, by
        have := SlOk.sets sl0 hus
        rw [hg.1 _ l et] at this
        exact this⟩
      refine hc g _ f2 _ H3 Hs3 _ _ A3 (fun b f4 H4 Hs4 s4 k4 q4 => ?_) q2
      have t4 : Stp g H1 Hs1 H4 Hs4 := (s2.trans s3.gen).trans s4
      have keepD : ∀ {H5 Hs5 : Hp}, Stp g H1 Hs1 H5 Hs5 → True := fun _ => trivial
      have n3 : Hs3 D = none := s3.new D _ e2 n2
      have e3 : H3 D = some (.lst ws) := s3.keep D _ e2 id
      have n4 : Hs4 D = none := s4.new D _ e3 n3
      have e4 : H4 D = some (.lst ws) := s4.keep D _ e3 hDk
      cases b with
      | false =>
        rw [if_neg Bool.false_ne_true]
        exact ⟨hlt, f4, Hs4, acc, ws, t4, k4, n4, e4, (r2.mono s3.ext).mono s4.ext, by omega, q4⟩
      | true =>
        rw [if_pos rfl]
        refine he g _ f4 _ H4 Hs4 _ _ (A3.step s4 k4) (fun y f5 v H5 Hs5 s5 k5 r5 q5 => ?_) q4
        have n5 : Hs5 D = none := s5.new D _ e4 n4
        have e5 : H5 D = some (.lst ws) := s5.keep D _ e4 hDk
        have r5' : RpA K Hs5 acc ws := ((r2.mono s3.ext).mono s4.ext).mono s5.ext
        refine ⟨ws, e5, ?_, hlt, f5, Hs5, acc ++ [y], ws ++ [v], (t4.trans s5).mut hD n5, k5.mut hDk, n5, upd_same, r5'.append (RpA.one r5), by simp; omega, q5⟩
        rw [← r5'.length]
        have := q1.1
        exact lim_lt (by omega)
  · have ei : i = ds.length := by omega
    subst ei
    rw [List.drop_length] at q2
    refine .inl ⟨wk.stop H2 (fun a o h => s2.sub a o (s2.ext a o h)), ?_⟩
    exact hq acc f2 D ws H2 Hs2 (s1.trans s2) k2 (none_back s1 hD) n2 e2 r2 q2
theorem dl_lc {elt tg iter : Expr} {ifs : List Expr} {scope : Scope} {own : List (Str × Nat)} {pos : Pos} {is : List Nat} {i : DTA} {t : TgF} {c : DTT} {e : DT} (hc : X.calm = true) (hN : X.N.Nodup) (hi : DI X tg iter i) (ok : BlkOk X.N X.env.scope scope own)
    (hg : ∀ (s : Shared) (H : Hp) (C : Addr) (cl : List (Str × Addr)) (fp : List Addr), DG (X.blk s H scope (compEnvC scope cl C X.env) fp) tg is t) (ht : ∀ (s : Shared) (H : Hp) (C : Addr) (cl : List (Str × Addr)) (fp : List Addr), DTs (X.blk s H scope (compEnvC scope cl C X.env) fp) ifs c)
    (he : ∀ (s : Shared) (H : Hp) (C : Addr) (cl : List (Str × Addr)) (fp : List Addr), DE (X.blk s H scope (compEnvC scope cl C X.env) fp) elt e) (hs : ∀ x, foldedSetIterable iter X.env x = pure x := by intro _; rfl) (hsub : ∀ j ∈ is, j ∈ own.map (·.2) := by decide) :
    DL' X (.ListComp elt [⟨tg, iter, ifs, 0⟩] scope pos) (dLc i t c e (own.map (·.2))) := by
  refine DL'.mk' (pe_lc (g := gOf X.K is t) (tt := tOfT X.K c) (te := tOf X.K e) hc hN hi.pi ok (fun s H C cl fp => (hg s H C cl fp).pg) (fun s H C cl fp => (ht s H C cl fp).pt) (fun s H C cl fp => (he s H C cl fp).pe) hs) ?_
  intro g r f st H Hs Q Q' A
  exact snd_lc hi.sn (hg X.s_0 H 0 [] []).sn (ht X.s_0 H 0 [] []).sn (he X.s_0 H 0 [] []).sn hsub g r f st H Hs Q Q' A
end
end DL
namespace DL
open PySem PySem.Spec PyProof.Rows L2
/-! statements: slots that own a list or a dict -/
def Sl.own : Sl → Bool
  | .ow _ => true
  | .od _ _ => true
  | .ot _ _ => true
  | .oi _ _ _ _ => true
  | .on _ _ => true
  | _ => false
/-- a tuple of pairs of texts, as a key -/
def nKey (k : List (Str × Str)) : NestedKey := .tup (k.map fun u => .tup [.text u.1, .text u.2])
def upD (k : List (Str × Str)) : D := .tup (k.map fun u => .tup [.str u.1, .str u.2])
/-- a dict whose keys are such tuples, all its values True -/
def DnB (w : World) (a : Addr) (L : List (List (Str × Str) × Addr)) (h : Heap) : Prop := ∃ o es ep, h.get? a = some o ∧ o.ExactDict ∧ o.data = .dict es ep ∧ es.toList = L.map (fun p => (⟨(nKey p.1).hash w, .ref p.2, .bool true⟩ : DictEntry)) ∧ (L.map (·.1)).Nodup ∧ (a == sysModules) = false ∧ L.length ≤ lim
def DnO (w : World) (a : Addr) (L : List (List (Str × Str) × Addr)) : HO := .ext (DnB w a L)
def OwAt (K : PySem.W.Frag) (H0 H Hs : Hp) (a : Addr) : Sl → Prop
  | .ow xs => ∃ vs, H a = some (.lst vs) ∧ RpA K Hs xs vs
  | .od ks xs => ∃ vs, H a = some (.dK (ks.zip vs)) ∧ ks.length = vs.length ∧ RpA K Hs xs vs
  | .ot ks xs => ∃ vs, H a = some (.dT (ks.zip vs)) ∧ ks.length = vs.length ∧ RpA K Hs xs vs
  | .oi b c ns xs => b = a ∧ ∃ C dx vs, PySem.W.nsIn K mainGlobals c = some (some (.ref C)) ∧ H a = some (.ins C dx (ns.zip vs)) ∧ H dx = some (.own a) ∧ Hs dx = none ∧ H0 dx = none ∧ ns.length = vs.length ∧ RpA K Hs xs vs
  | .on w ks => ∃ bs : List Addr, H a = some (DnO w a (ks.zip bs)) ∧ ks.length = bs.length ∧ RpA K Hs (ks.map upD) (bs.map V.ref)
  | _ => False
structure SIn (K : PySem.W.Frag) (g : Option Dk) (H0 Hs0 : Hp) (r : Sg) (f : Nat) (st : L2.St) (H Hs : Hp) : Prop where
  len : r.length = st.length
  dk0 : ∃ f0, DkOk g H0 Hs0 f0
  dk : DkOk g H Hs f
  stp : Stp g H0 Hs0 H Hs
  sh : ∀ (i : Nat) (d : D), r[i]? = some (.sh d) → ∃ v, st[i]? = some (some v) ∧ Rp K Hs d v
  ow : ∀ (i : Nat) (s : Sl), r[i]? = some s → s.own = true → ∃ a, st[i]? = some (some (.ref a)) ∧ Hs a = none ∧ H0 a = none ∧ OwAt K H0 H Hs a s
  inj : ∀ (i j : Nat) (s u : Sl) (a : Addr), r[i]? = some s → r[j]? = some u → s.own = true → u.own = true → st[i]? = some (some (.ref a)) → st[j]? = some (some (.ref a)) → i = j
def SOk (K : PySem.W.Frag) (g : Option Dk) (H0 Hs0 : Hp) (r : Sg) (f : Nat) (st : L2.St) (H : Hp) : Prop := ∃ Hs, SIn K g H0 Hs0 r f st H Hs
/-- an exception of a class of the text: its data, the class and the dict at which it stands -/
def ExR (K : PySem.W.Frag) (H Hs : Hp) : D → Value → Option Addr → Prop
  | .obj c ns xs, cls, d => ∃ C, PySem.W.nsIn K mainGlobals c = some (some (.ref C)) ∧ cls = .ref C ∧ ((ns = [] ∧ xs = [] ∧ d = Option.none) ∨ ∃ dd vs, d = some dd ∧ Hs dd = some (.xd (ns.zip vs)) ∧ ns.length = vs.length ∧ RpA K Hs xs vs)
  | _, _, _ => False
structure DEnds where
  nx : Sg → Nat → Prop
  rt : QD
  bk : Sg → Nat → Prop := fun _ _ => False
  ct : Sg → Nat → Prop := fun _ _ => False
  xc : D → Sg → Nat → Prop := fun _ _ _ => False
/-- what a body wants of exceptions, at the most -/
def wx (X : Cx) : WX := fun cls d st H => Takes X (fun cls' d' st' H' => cls' = cls ∧ d' = d ∧ st' = st ∧ H' = H)
theorem takes_wx (X : Cx) : Takes X (wx X) := fun u s' h => by
  obtain ⟨a, B, sI, pins, st, H, cls, d, e, I, nb, up, sky, na, os, ag, w⟩ := h
  exact w u s' ⟨a, B, sI, pins, st, H, cls, d, e, I, nb, up, sky, na, os, ag, rfl, rfl, rfl, rfl⟩
theorem wx_of {X : Cx} {W : WX} (h : Takes X W) {cls : Value} {d : Option Addr} {st : L2.St} {H : Hp} (w : W cls d st H) : wx X cls d st H := h.imp fun c d' s' H' e => by
  obtain ⟨rfl, rfl, rfl, rfl⟩ := e
  exact w
abbrev DTS := Option Dk → Sg → Nat → DEnds → Prop
structure EndsOk (K : PySem.W.Frag) (W : WX) (g : Option Dk) (H0 Hs0 : Hp) (E : DEnds) (D : Ends) : Prop where
  nx : ∀ r f st H, SOk K g H0 Hs0 r f st H → E.nx r f → D.nx st H
  rt : ∀ d f v H Hs, Stp g H0 Hs0 H Hs → DkOk g H Hs f → Rp K Hs d v → E.rt d f → D.rt v H
  bk : ∀ r f st H, SOk K g H0 Hs0 r f st H → E.bk r f → D.bk st H
  ct : ∀ r f st H, SOk K g H0 Hs0 r f st H → E.ct r f → D.ct st H
  xc : ∀ x r f st H cls d, (∃ Hs, SIn K g H0 Hs0 r f st H Hs ∧ ExR K H Hs x cls d) → E.xc x r f → W cls d st H
def SndS (K : PySem.W.Frag) (W : WX) (t : TS) (dl : DTS) : Prop := ∀ (g : Option Dk) (H0 Hs0 : Hp) (r : Sg) (f : Nat) (st : L2.St) (H : Hp) (D : Ends) (E : DEnds), SOk K g H0 Hs0 r f st H → EndsOk K W g H0 Hs0 E D → dl g r f E → t D st H
def sOf (K : PySem.W.Frag) (W : WX) (dl : DTS) : TS := fun D st H => ∃ g H0 Hs0 r f E, SOk K g H0 Hs0 r f st H ∧ EndsOk K W g H0 Hs0 E D ∧ dl g r f E
structure DS (X : Cx) (st : Stmt) (dl : DTS) : Prop where
  ps : PS X st (sOf X.K (wx X) dl)
structure DSs (X : Cx) (st : List Stmt) (dl : DTS) : Prop where
  ps : PSs X st (sOf X.K (wx X) dl)
theorem DS.sn {X : Cx} {st : Stmt} {dl : DTS} (_ : DS X st dl) : SndS X.K (wx X) (sOf X.K (wx X) dl) dl := fun g H0 Hs0 r f st H D E s e h => ⟨g, H0, Hs0, r, f, E, s, e, h⟩
theorem DSs.sn {X : Cx} {st : List Stmt} {dl : DTS} (_ : DSs X st dl) : SndS X.K (wx X) (sOf X.K (wx X) dl) dl := fun g H0 Hs0 r f st H D E s e h => ⟨g, H0, Hs0, r, f, E, s, e, h⟩
theorem DS.mk' {X : Cx} {st : Stmt} {t : TS} {dl : DTS} (p : PS X st t) (s : SndS X.K (wx X) t dl) : DS X st dl := ⟨⟨fun pins sh st H D I ⟨g, H0, Hs0, r, f, E, h1, h2, h3⟩ => p.run pins sh st H D I (s g H0 Hs0 r f st H D E h1 h2 h3)⟩⟩
theorem DSs.mk' {X : Cx} {st : List Stmt} {t : TS} {dl : DTS} (p : PSs X st t) (s : SndS X.K (wx X) t dl) : DSs X st dl := ⟨⟨fun pins sh st H D I ⟨g, H0, Hs0, r, f, E, h1, h2, h3⟩ => p.run pins sh st H D I (s g H0 Hs0 r f st H D E h1 h2 h3)⟩⟩
/-- the addresses that slots own -/
def Owned (r : Sg) (st : L2.St) (a : Addr) : Prop := ∃ (i : Nat) (s : Sl), r[i]? = some s ∧ s.own = true ∧ st[i]? = some (some (.ref a))
open Classical in
noncomputable def plus (r : Sg) (st : L2.St) (H Hs : Hp) : Hp := fun a => if Owned r st a then H a else Hs a
open Classical in
noncomputable def minus (r : Sg) (st : L2.St) (Hs : Hp) : Hp := fun a => if Owned r st a then none else Hs a
section
variable {X : Cx} {K : PySem.W.Frag} {g : Option Dk} {H0 Hs0 : Hp} {r : Sg} {f f' : Nat} {st : L2.St} {H Hs H' Hs' : Hp}
theorem plus_in {a : Addr} (h : Owned r st a) : plus r st H Hs a = H a := if_pos h
theorem plus_out {a : Addr} (h : ¬ Owned r st a) : plus r st H Hs a = Hs a := if_neg h
theorem minus_in {a : Addr} (h : Owned r st a) : minus r st Hs a = none := if_pos h
theorem minus_out {a : Addr} (h : ¬ Owned r st a) : minus r st Hs a = Hs a := if_neg h
theorem SIn.owned (s : SIn K g H0 Hs0 r f st H Hs) {a : Addr} (h : Owned r st a) : Hs a = none ∧ H0 a = none ∧ ∃ sl, sl.own = true ∧ OwAt K H0 H Hs a sl := by
  obtain ⟨i, sl, h1, h2, h3⟩ := h
  obtain ⟨b, e, h4, h5, h6⟩ := s.ow i sl h1 h2
  rw [h3] at e
  cases e
  exact ⟨h4, h5, sl, h2, h6⟩
theorem OwAt.ld {a : Addr} {sl : Sl} (h : OwAt K H0 H Hs a sl) : ∃ o, H a = some o ∧ isLD o = true := by
  cases sl with
  | ow xs => obtain ⟨vs, h1, _⟩ := h; exact ⟨_, h1, rfl⟩
  | od ks xs => obtain ⟨vs, h1, _⟩ := h; exact ⟨_, h1, rfl⟩
  | ot ks xs => obtain ⟨vs, h1, _⟩ := h; exact ⟨_, h1, rfl⟩
  | oi b c ns xs => obtain ⟨_, C, dx, vs, _, h1, _⟩ := h; exact ⟨_, h1, rfl⟩
  | on w ks => obtain ⟨bs, h1, _⟩ := h; exact ⟨_, h1, rfl⟩
  | _ => exact h.elim
/-- what a slot owns is no code object -/
theorem OwAt.code {a : Addr} {sl : Sl} {q : Str} (h : OwAt K H0 H Hs a sl) (e : H a = some (LamX.CodeO a q)) : False := by
  cases sl with
  | ow xs => obtain ⟨vs, h1, _⟩ := h; rw [e] at h1; cases h1
  | od ks xs => obtain ⟨vs, h1, _⟩ := h; rw [e] at h1; cases h1
  | ot ks xs => obtain ⟨vs, h1, _⟩ := h; rw [e] at h1; cases h1
  | oi b c ns xs => obtain ⟨_, C, dx, vs, _, h1, _⟩ := h; rw [e] at h1; cases h1
  | on w ks =>
    obtain ⟨bs, h1, _⟩ := h
    rw [e] at h1
    have h2 := Option.some.inj h1
    unfold LamX.CodeO DnO at h2
    injection h2 with h2
    have ho := Heap.get?_push_size ({ objs := Array.replicate a { cls := .none, data := .fields #[.none, .str q 0] } } : Heap) (o := ({ cls := .none, data := .fields #[.none, .str q 0] } : Obj)) rfl
    rw [Array.size_replicate] at ho
    have := congrFun h2 (Heap.push { objs := Array.replicate a { cls := .none, data := .fields #[.none, .str q 0] } } { cls := .none, data := .fields #[.none, .str q 0] })
    obtain ⟨o, es, ep, g1, _, g2, _⟩ := this.mp ⟨_, _, 0, ho, rfl, rfl⟩
    rw [ho] at g1
    cases g1
    cases g2
  | _ => exact h.elim
theorem SIn.plusSub (s : SIn K g H0 Hs0 r f st H Hs) : Same (plus r st H Hs) H := fun a o h => by
  by_cases e : Owned r st a
  · rw [plus_in e] at h; exact h
  · rw [plus_out e] at h; exact s.stp.sub a o h
theorem SIn.plusExt (s : SIn K g H0 Hs0 r f st H Hs) : Same Hs (plus r st H Hs) := fun a o h => by
  by_cases e : Owned r st a
  · rw [(s.owned e).1] at h; cases h
  · rw [plus_out e]; exact h
theorem SIn.notDk (s : SIn K g H0 Hs0 r f st H Hs) {a : Addr} (h : Owned r st a) : ¬ Dk.has g a := by
  obtain ⟨f0, k⟩ := s.dk0
  exact k.out (s.owned h).2.1
theorem SIn.plusDk (s : SIn K g H0 Hs0 r f st H Hs) : DkOk g H (plus r st H Hs) f := by
  have k := s.dk
  cases g with
  | none => trivial
  | some d =>
    obtain ⟨k0, n1, n2, n3, tb⟩ := k
    refine ⟨k0, ?_, ?_, ?_, tb.to (fun a ha u h1 h2 => ⟨h1, ?_⟩) fun b u hb _ _ => s.plusExt b u hb⟩
    · rw [plus_out fun e => s.notDk e (.inl rfl)]; exact n1
    · rw [plus_out fun e => s.notDk e (.inr (.inl rfl))]; exact n2
    · rw [plus_out fun e => s.notDk e (.inr (.inr (.inl rfl)))]; exact n3
    · rw [plus_out fun e => s.notDk e (.inr (.inr (.inr ha)))]; exact h2
theorem SIn.notOwnedDx (s : SIn K g H0 Hs0 r f st H Hs) {dx a : Addr} (h : H dx = some (.own a)) : ¬ Owned r st dx := fun e => by
  obtain ⟨_, _, sl, _, q⟩ := s.owned e
  obtain ⟨o, ho, ld⟩ := q.ld
  rw [h] at ho
  cases ho
  cases ld
theorem SIn.dkDx (s : SIn K g H0 Hs0 r f st H Hs) {dx : Addr} (h : H0 dx = none) : ¬ Dk.has g dx := by
  obtain ⟨f0, k⟩ := s.dk0
  exact k.out h
/-- the state with all slots to be read -/
theorem SIn.at (s : SIn K g H0 Hs0 r f st H Hs) : At K g r f st H (plus r st H Hs) := ⟨s.plusSub, s.plusDk, s.len, fun i sl d h1 h2 => by
  cases sl with
  | no => cases h2
  | sh e =>
    cases h2
    obtain ⟨v, h3, h4⟩ := s.sh i _ h1
    exact ⟨v, h3, h4.mono s.plusExt⟩
  | ow xs =>
    cases h2
    obtain ⟨a, h3, h4, h5, vs, h6, h7⟩ := s.ow i _ h1 rfl
    exact ⟨.ref a, h3, a, vs, rfl, by rw [plus_in ⟨i, _, h1, rfl, h3⟩]; exact h6, h7.mono s.plusExt⟩
  | od ks xs =>
    cases h2
    obtain ⟨a, h3, h4, h5, vs, h6, h7, h8⟩ := s.ow i _ h1 rfl
    exact ⟨.ref a, h3, a, vs, rfl, by rw [plus_in ⟨i, _, h1, rfl, h3⟩]; exact h6, h7, h8.mono s.plusExt⟩
  | ot ks xs =>
    cases h2
    obtain ⟨a, h3, h4, h5, vs, h6, h7, h8⟩ := s.ow i _ h1 rfl
    exact ⟨.ref a, h3, a, vs, rfl, by rw [plus_in ⟨i, _, h1, rfl, h3⟩]; exact h6, h7, h8.mono s.plusExt⟩
  | oi b c ns xs => cases h2
  | on w ks => cases h2⟩
/-- the slots that own are hidden -/
def hide (r : Sg) : Sg := r.map fun s => if s.own then .no else s
theorem hide_get {i : Nat} : (hide r)[i]? = (r[i]?).map fun s => if s.own then .no else s := by unfold hide; rw [List.getElem?_map]
theorem SIn.atHid (s : SIn K g H0 Hs0 r f st H Hs) : At K g (hide r) f st H Hs := ⟨s.stp.sub, s.dk, by unfold hide; rw [List.length_map]; exact s.len, fun i sl d h1 h2 => by
  rw [hide_get] at h1
  cases e : r[i]? with
  | none => rw [e] at h1; cases h1
  | some u =>
    rw [e] at h1
    cases u with
    | no => cases h1; cases h2
    | sh d' => cases h1; cases h2; exact s.sh i _ e
    | ow xs => cases h1; cases h2
    | od ks xs => cases h1; cases h2
    | ot ks xs => cases h1; cases h2
    | oi b c ns xs => cases h1; cases h2
    | on w ks => cases h1; cases h2⟩
/-- behind an expression: the shared part without what slots own -/
theorem SIn.after (s : SIn K g H0 Hs0 r f st H Hs) (p : Stp g H (plus r st H Hs) H' Hs') (k : DkOk g H' Hs' f') : SIn K g H0 Hs0 r f' st H' (minus r st Hs') := by
  have ext : Same Hs (minus r st Hs') := fun a o h => by
    have no : ¬ Owned r st a := fun e => by rw [(s.owned e).1] at h; cases h
    rw [minus_out no]
    exact p.ext a o (s.plusExt a o h)
  have keepO : ∀ a, Owned r st a → H' a = H a := fun a e => by
    obtain ⟨_, _, sl, _, q⟩ := s.owned e
    obtain ⟨o, ho, _⟩ := q.ld
    rw [ho]
    exact p.keep a o ho (s.notDk e)
  refine ⟨s.len, s.dk0, ?_, ⟨?_, s.stp.ext.trans ext, fun a o h n => p.keep a o (s.stp.keep a o h n) n, fun a o h => ?_, fun a o h n => ?_⟩, fun i d h => ?_, fun i sl h1 h2 => ?_, s.inj⟩
  · cases g with
    | none => trivial
    | some d =>
      obtain ⟨k0, n1, n2, n3, tb⟩ := k
      refine ⟨k0, ?_, ?_, ?_, tb.to (fun a ha u h1 h2 => ⟨h1, ?_⟩) fun b u hb _ hc => ?_⟩
      · rw [minus_out fun e => s.notDk e (.inl rfl)]; exact n1
      · rw [minus_out fun e => s.notDk e (.inr (.inl rfl))]; exact n2
      · rw [minus_out fun e => s.notDk e (.inr (.inr (.inl rfl)))]; exact n3
      · rw [minus_out fun e => s.notDk e (.inr (.inr (.inr ha)))]; exact h2
      · obtain ⟨q, rfl⟩ := hc
        rw [minus_out fun e => ?_]
        · exact hb
        · obtain ⟨_, _, sl, _, q'⟩ := s.owned e
          obtain ⟨o, ho, ld⟩ := q'.ld
          have h1 := p.keep b o ho (s.notDk e)
          rw [p.sub b _ hb] at h1
          cases h1
          exact q'.code ho
  · intro a o h
    by_cases e : Owned r st a
    · rw [minus_in e] at h; cases h
    · rw [minus_out e] at h; exact p.sub a o h
  · obtain ⟨o', h'⟩ := s.stp.there a o h
    exact p.there a o' h'
  · by_cases e : Owned r st a
    · exact minus_in e
    · rw [minus_out e]
      obtain ⟨o', h'⟩ := s.stp.there a o h
      refine p.new a o' h' ?_
      rw [plus_out e]
      exact s.stp.new a o h n
  · obtain ⟨v, h3, h4⟩ := s.sh i d h
    exact ⟨v, h3, h4.mono ext⟩
  · obtain ⟨a, h3, h4, h5, h6⟩ := s.ow i sl h1 h2
    have e : Owned r st a := ⟨i, sl, h1, h2, h3⟩
    refine ⟨a, h3, minus_in e, h5, ?_⟩
    cases sl with
    | ow xs => obtain ⟨vs, q1, q2⟩ := h6; exact ⟨vs, by rw [keepO a e]; exact q1, q2.mono ext⟩
    | od ks xs => obtain ⟨vs, q1, q2, q3⟩ := h6; exact ⟨vs, by rw [keepO a e]; exact q1, q2, q3.mono ext⟩
    | ot ks xs => obtain ⟨vs, q1, q2, q3⟩ := h6; exact ⟨vs, by rw [keepO a e]; exact q1, q2, q3.mono ext⟩
    | on w ks => obtain ⟨vs, q1, q2, q3⟩ := h6; exact ⟨vs, by rw [keepO a e]; exact q1, q2, q3.mono ext⟩
    | oi b c ns xs =>
      obtain ⟨qa, C, dx, vs, q0, q1, q2, q3, q4, q5, q6⟩ := h6
      have nd := s.notOwnedDx q2
      exact ⟨qa, C, dx, vs, q0, by rw [keepO a e]; exact q1, p.keep dx _ q2 (s.dkDx q4), by rw [minus_out nd]; exact p.new dx _ q2 (by rw [plus_out nd]; exact q3), q4, q5, q6.mono ext⟩
    | _ => exact h6.elim
theorem SIn.afterHid (s : SIn K g H0 Hs0 r f st H Hs) (p : Stp g H Hs H' Hs') (k : DkOk g H' Hs' f') : SIn K g H0 Hs0 r f' st H' Hs' := by
  have keepO : ∀ a, Owned r st a → H' a = H a := fun a e => by
    obtain ⟨_, _, sl, _, q⟩ := s.owned e
    obtain ⟨o, ho, _⟩ := q.ld
    rw [ho]
    exact p.keep a o ho (s.notDk e)
  refine ⟨s.len, s.dk0, k, s.stp.trans p, fun i d h => ?_, fun i sl h1 h2 => ?_, s.inj⟩
  · obtain ⟨v, h3, h4⟩ := s.sh i d h
    exact ⟨v, h3, h4.mono p.ext⟩
  · obtain ⟨a, h3, h4, h5, h6⟩ := s.ow i sl h1 h2
    have e : Owned r st a := ⟨i, sl, h1, h2, h3⟩
    obtain ⟨o, ho, _⟩ := h6.ld
    refine ⟨a, h3, p.new a o ho h4, h5, ?_⟩
    cases sl with
    | ow xs => obtain ⟨vs, q1, q2⟩ := h6; exact ⟨vs, by rw [keepO a e]; exact q1, q2.mono p.ext⟩
    | od ks xs => obtain ⟨vs, q1, q2, q3⟩ := h6; exact ⟨vs, by rw [keepO a e]; exact q1, q2, q3.mono p.ext⟩
    | ot ks xs => obtain ⟨vs, q1, q2, q3⟩ := h6; exact ⟨vs, by rw [keepO a e]; exact q1, q2, q3.mono p.ext⟩
    | on w ks => obtain ⟨vs, q1, q2, q3⟩ := h6; exact ⟨vs, by rw [keepO a e]; exact q1, q2, q3.mono p.ext⟩
    | oi b c ns xs =>
      obtain ⟨qa, C, dx, vs, q0, q1, q2, q3, q4, q5, q6⟩ := h6
      exact ⟨qa, C, dx, vs, q0, by rw [keepO a e]; exact q1, p.keep dx _ q2 (s.dkDx q4), p.new dx _ q2 q3, q4, q5, q6.mono p.ext⟩
    | _ => exact h6.elim
theorem SIn.flatV (s : SIn K g H0 Hs0 r f st H Hs) (p : Stp g H (plus r st H Hs) H' Hs') {d : D} {v : V} (fl : d.flat = true) (h : Rp K Hs' d v) : Rp K (minus r st Hs') d v :=
  h.flat (fun a o e l => by
    by_cases q : Owned r st a
    · obtain ⟨_, _, sl, _, w⟩ := s.owned q
      obtain ⟨o', ho, ld⟩ := w.ld
      have := p.keep a o' ho (s.notDk q)
      rw [p.sub a o e] at this
      cases this
      rw [ld] at l
      cases l
    · rw [minus_out q]; exact e) d v fl
/-- a slot is stored -/
theorem SIn.set (s : SIn K g H0 Hs0 r f st H Hs) (i : Nat) {d : D} {v : V} (h : Rp K Hs d v) : SIn K g H0 Hs0 (r.set i (.sh d)) f (st.set i (some v)) H Hs := by
  have low : ∀ (j : Nat) (u : Sl), (r.set i (.sh d))[j]? = some u → (j = i ∧ u = .sh d ∧ i < r.length) ∨ (j ≠ i ∧ r[j]? = some u) := fun j u e => by
    by_cases q : i = j
    · subst q
      by_cases hl : i < r.length
      · rw [List.getElem?_set_self hl] at e
        cases e
        exact .inl ⟨rfl, rfl, hl⟩
      · rw [List.getElem?_eq_none (by simpa using hl)] at e
        cases e
    · rw [List.getElem?_set_ne q] at e
      exact .inr ⟨fun z => q z.symm, e⟩
  refine ⟨by simp [s.len], s.dk0, s.dk, s.stp, fun j e hj => ?_, fun j u hj ho => ?_, fun j l u w a hj hl ho ho' h1 h2 => ?_⟩
  · rcases low j _ hj with ⟨rfl, q, hl⟩ | ⟨hne, q⟩
    · cases q
      exact ⟨v, List.getElem?_set_self (s.len ▸ hl), h⟩
    · rw [List.getElem?_set_ne (fun z => hne z.symm)]
      exact s.sh j e q
  · rcases low j u hj with ⟨rfl, q, hl⟩ | ⟨hne, q⟩
    · subst q; cases ho
    · rw [List.getElem?_set_ne (fun z => hne z.symm)]
      exact s.ow j u q ho
  · rcases low j u hj with ⟨rfl, q, hl'⟩ | ⟨hne, q⟩
    · subst q; cases ho
    · rcases low l w hl with ⟨rfl, q', hl'⟩ | ⟨hne', q'⟩
      · subst q'; cases ho'
      · rw [List.getElem?_set_ne (fun z => hne z.symm)] at h1
        rw [List.getElem?_set_ne (fun z => hne' z.symm)] at h2
        exact s.inj j l u w a q q' ho ho' h1 h2
theorem SIn.sets : ∀ {l : List (Nat × D)} {vs : List V} {r : Sg} {st : L2.St}, SIn K g H0 Hs0 r f st H Hs → RpA K Hs (l.map (·.2)) vs → SIn K g H0 Hs0 (setsR r l) f (setsV st (l.map (·.1)) vs) H Hs
  | [], _, _, _, h, _ => by
    have e : ∀ (st : L2.St) (vs : List V), setsV st [] vs = st := fun st vs => by cases vs <;> rfl
    show SIn K g H0 Hs0 _ f (setsV _ [] _) H Hs
    rw [e]
    exact h
  | (i, d) :: l, _, r, st, h, ⟨v, vr, h1, h2, h3⟩ => by
    subst h1
    show SIn K g H0 Hs0 (setsR (r.set i (.sh d)) l) f (setsV (st.set i (some v)) (l.map (·.1)) vr) H Hs
    exact SIn.sets (SIn.set h i h2) h3
/-- an object that is new belongs to a slot -/
theorem SIn.setOwn (s : SIn K g H0 Hs0 r f st H Hs) (i : Nat) {a : Addr} {u : Sl} (hu : u.own = true) (n0 : H0 a = none) (n1 : Hs a = none) (no : ∀ j s, j ≠ i → r[j]? = some s → s.own = true → st[j]? ≠ some (some (.ref a))) (h : OwAt K H0 H Hs a u) :
    SIn K g H0 Hs0 (r.set i u) f (st.set i (some (.ref a))) H Hs := by
  have low : ∀ (j : Nat) (w : Sl), (r.set i u)[j]? = some w → (j = i ∧ w = u ∧ i < r.length) ∨ (j ≠ i ∧ r[j]? = some w) := fun j w e => by
    by_cases q : i = j
    · subst q
      by_cases hl : i < r.length
      · rw [List.getElem?_set_self hl] at e
        cases e
        exact .inl ⟨rfl, rfl, hl⟩
      · rw [List.getElem?_eq_none (by simpa using hl)] at e
        cases e
    · rw [List.getElem?_set_ne q] at e
      exact .inr ⟨fun z => q z.symm, e⟩
  have self : ∀ {l : Nat}, l < r.length → (st.set l (some (.ref a)))[l]? = some (some (V.ref a)) := fun hl => List.getElem?_set_self (s.len ▸ hl)
  refine ⟨by simp [s.len], s.dk0, s.dk, s.stp, fun j e hj => ?_, fun j w hj ho => ?_, fun j l w w' b hj hl ho ho' h1 h2 => ?_⟩
  · rcases low j _ hj with ⟨rfl, q, hl⟩ | ⟨hne, q⟩
    · rw [← q] at hu; cases hu
    · rw [List.getElem?_set_ne (fun z => hne z.symm)]
      exact s.sh j e q
  · rcases low j w hj with ⟨rfl, q, hl⟩ | ⟨hne, q⟩
    · subst q
      exact ⟨a, self hl, n1, n0, h⟩
    · rw [List.getElem?_set_ne (fun z => hne z.symm)]
      exact s.ow j w q ho
  · rcases low j w hj with ⟨rfl, q, hl1⟩ | ⟨hne, q⟩
    · rcases low l w' hl with ⟨rfl, q', hl2⟩ | ⟨hne', q'⟩
      · rfl
      · rw [self hl1] at h1
        cases h1
        rw [List.getElem?_set_ne (fun z => hne' z.symm)] at h2
        exact absurd h2 (no l w' hne' q' ho')
    · rw [List.getElem?_set_ne (fun z => hne z.symm)] at h1
      rcases low l w' hl with ⟨rfl, q', hl2⟩ | ⟨hne', q'⟩
      · rw [self hl2] at h2
        cases h2
        exact absurd h1 (no j w hne q ho)
      · rw [List.getElem?_set_ne (fun z => hne' z.symm)] at h2
        exact s.inj j l w w' b q q' ho ho' h1 h2
/-- an owned object is changed -/
theorem SIn.mutOwn (s : SIn K g H0 Hs0 r f st H Hs) {i : Nat} {a : Addr} {w u : Sl} {o : HO} (hw : r[i]? = some w) (how : w.own = true) (hst : st[i]? = some (some (.ref a))) (hu : u.own = true) (h : OwAt K H0 (upd H a o) Hs a u) :
    SIn K g H0 Hs0 (r.set i u) f st (upd H a o) Hs := by
  have ho : Owned r st a := ⟨i, w, hw, how, hst⟩
  obtain ⟨n1, n0, _⟩ := s.owned ho
  have hil : i < r.length := (List.getElem?_eq_some_iff.mp hw).1
  have low : ∀ (j : Nat) (w : Sl), (r.set i u)[j]? = some w → (j = i ∧ w = u) ∨ (j ≠ i ∧ r[j]? = some w) := fun j w e => by
    by_cases q : i = j
    · subst q
      rw [List.getElem?_set_self hil] at e
      cases e
      exact .inl ⟨rfl, rfl⟩
    · rw [List.getElem?_set_ne q] at e
      exact .inr ⟨fun z => q z.symm, e⟩
  refine ⟨by simp [s.len], s.dk0, s.dk.mut (s.notDk ho), s.stp.mut n0 n1, fun j e hj => ?_, fun j w' hj ho' => ?_, fun j l x y b hj hl ho1 ho2 h1 h2 => ?_⟩
  · rcases low j _ hj with ⟨rfl, q⟩ | ⟨hne, q⟩
    · rw [← q] at hu; cases hu
    · exact s.sh j e q
  · rcases low j w' hj with ⟨rfl, q⟩ | ⟨hne, q⟩
    · subst q
      exact ⟨a, hst, n1, n0, h⟩
    · obtain ⟨b, h3, h4, h5, h6⟩ := s.ow j w' q ho'
      have hab : b ≠ a := fun e => by
        subst e
        exact hne (s.inj j i w' w b q hw ho' how h3 hst)
      refine ⟨b, h3, h4, h5, ?_⟩
      cases w' with
      | ow xs => obtain ⟨vs, q1, q2⟩ := h6; exact ⟨vs, by rw [upd_ne hab]; exact q1, q2⟩
      | od ks xs => obtain ⟨vs, q1, q2⟩ := h6; exact ⟨vs, by rw [upd_ne hab]; exact q1, q2⟩
      | ot ks xs => obtain ⟨vs, q1, q2⟩ := h6; exact ⟨vs, by rw [upd_ne hab]; exact q1, q2⟩
      | on w ks => obtain ⟨vs, q1, q2⟩ := h6; exact ⟨vs, by rw [upd_ne hab]; exact q1, q2⟩
      | oi b c ns xs =>
        obtain ⟨qa, C, dx, vs, q0, q1, q2, q3⟩ := h6
        have hda : dx ≠ a := fun z => s.notOwnedDx q2 (z ▸ ho)
        exact ⟨qa, C, dx, vs, q0, by rw [upd_ne hab]; exact q1, by rw [upd_ne hda]; exact q2, q3⟩
      | _ => exact h6.elim
  · have hx : ∃ x', r[j]? = some x' ∧ x'.own = true := by
      rcases low j x hj with ⟨rfl, _⟩ | ⟨_, q⟩
      · exact ⟨w, hw, how⟩
      · exact ⟨x, q, ho1⟩
    have hy : ∃ x', r[l]? = some x' ∧ x'.own = true := by
      rcases low l y hl with ⟨rfl, _⟩ | ⟨_, q⟩
      · exact ⟨w, hw, how⟩
      · exact ⟨y, q, ho2⟩
    obtain ⟨x', hx1, hx2⟩ := hx
    obtain ⟨y', hy1, hy2⟩ := hy
    exact s.inj j l x' y' b hx1 hy1 hx2 hy2 h1 h2
/-- what a slot owns is shared from now on -/
def frz1 : Sl → Sl
  | .ow xs => .sh (.lst xs)
  | .od ks xs => .sh (.dct ks xs)
  | .ot ks xs => .sh (.dtt ks xs)
  | s => s
def frz (r : Sg) (l : List Nat) : Sg := l.foldl (fun r i => match r[i]? with | some s => r.set i (frz1 s) | none => r) r
theorem SIn.frz1 (s : SIn K g H0 Hs0 r f st H Hs) {i : Nat} {w : Sl} (hw : r[i]? = some w) : ∃ Hs', SIn K g H0 Hs0 (r.set i (frz1 w)) f st H Hs' := by
  have same : ∀ w', w = w' → (r.set i w') = r := fun w' e => by
    subst e
    obtain ⟨hl, e⟩ := List.getElem?_eq_some_iff.mp hw
    rw [← e, List.set_getElem_self]
  by_cases hoi : DL.frz1 w = w
  · rw [hoi, same w rfl]; exact ⟨Hs, s⟩
  by_cases how : w.own = true
  · obtain ⟨a, hst, n1, n0, hat⟩ := s.ow i w hw how
    obtain ⟨o, ho, ld⟩ := hat.ld
    have own : Owned r st a := ⟨i, w, hw, how, hst⟩
    have ext : Same Hs (upd Hs a o) := fun b u e => by rw [upd_ne (ne_of_none e n1)]; exact e
    have hil : i < r.length := (List.getElem?_eq_some_iff.mp hw).1
    have hd : ∃ d, DL.frz1 w = .sh d ∧ Rp K (upd Hs a o) d (.ref a) := by
      cases w with
      | ow xs =>
        obtain ⟨vs, q1, q2⟩ := hat
        rw [q1] at ho; cases ho
        exact ⟨_, rfl, a, vs, rfl, upd_same, q2.mono ext⟩
      | od ks xs =>
        obtain ⟨vs, q1, q2, q3⟩ := hat
        rw [q1] at ho; cases ho
        exact ⟨_, rfl, a, vs, rfl, upd_same, q2, q3.mono ext⟩
      | ot ks xs =>
        obtain ⟨vs, q1, q2, q3⟩ := hat
        rw [q1] at ho; cases ho
        exact ⟨_, rfl, a, vs, rfl, upd_same, q2, q3.mono ext⟩
      | oi b c ns xs => exact absurd rfl hoi
      | on w ks => exact absurd rfl hoi
      | _ => cases how
    obtain ⟨d, ed, hd⟩ := hd
    rw [ed]
    have low : ∀ (j : Nat) (w' : Sl), (r.set i (.sh d))[j]? = some w' → (j = i ∧ w' = .sh d) ∨ (j ≠ i ∧ r[j]? = some w') := fun j w' e => by
      by_cases q : i = j
      · subst q
        rw [List.getElem?_set_self hil] at e
        cases e
        exact .inl ⟨rfl, rfl⟩
      · rw [List.getElem?_set_ne q] at e
        exact .inr ⟨fun z => q z.symm, e⟩
    refine ⟨upd Hs a o, by simp [s.len], s.dk0, s.dk.share (s.notDk own) n1, s.stp.share n0 ho n1, fun j e hj => ?_, fun j w' hj ho' => ?_, fun j l x y b hj hl ho1 ho2 h1 h2 => ?_⟩
    · rcases low j _ hj with ⟨rfl, q⟩ | ⟨hne, q⟩
      · cases q
        exact ⟨.ref a, hst, hd⟩
      · obtain ⟨v, h3, h4⟩ := s.sh j e q
        exact ⟨v, h3, h4.mono ext⟩
    · rcases low j w' hj with ⟨rfl, q⟩ | ⟨hne, q⟩
      · subst q; cases ho'
      · obtain ⟨b, h3, h4, h5, h6⟩ := s.ow j w' q ho'
        have hab : b ≠ a := fun e => by
          subst e
          exact hne (s.inj j i w' w b q hw ho' how h3 hst)
        refine ⟨b, h3, by rw [upd_ne hab]; exact h4, h5, ?_⟩
        cases w' with
        | ow xs => obtain ⟨vs, q1, q2⟩ := h6; exact ⟨vs, q1, q2.mono ext⟩
        | od ks xs => obtain ⟨vs, q1, q2, q3⟩ := h6; exact ⟨vs, q1, q2, q3.mono ext⟩
        | ot ks xs => obtain ⟨vs, q1, q2, q3⟩ := h6; exact ⟨vs, q1, q2, q3.mono ext⟩
        | on w ks => obtain ⟨vs, q1, q2, q3⟩ := h6; exact ⟨vs, q1, q2, q3.mono ext⟩
        | oi b c ns xs =>
          obtain ⟨qa, C, dx, vs, q0, q1, q2, q3, q4, q5, q6⟩ := h6
          have hda : dx ≠ a := fun z => s.notOwnedDx q2 (z ▸ own)
          exact ⟨qa, C, dx, vs, q0, q1, q2, by rw [upd_ne hda]; exact q3, q4, q5, q6.mono ext⟩
        | _ => exact h6.elim
    · rcases low j x hj with ⟨rfl, q⟩ | ⟨_, q⟩
      · subst q; cases ho1
      · rcases low l y hl with ⟨rfl, q'⟩ | ⟨_, q'⟩
        · subst q'; cases ho2
        · exact s.inj j l x y b q q' ho1 ho2 h1 h2
  · have : DL.frz1 w = w := by cases w <;> first | rfl | exact absurd rfl how
    rw [this, same w rfl]
    exact ⟨Hs, s⟩
theorem SIn.frz : ∀ (l : List Nat) {r : Sg} {Hs : Hp}, SIn K g H0 Hs0 r f st H Hs → ∃ Hs', SIn K g H0 Hs0 (frz r l) f st H Hs'
  | [], _, _, s => ⟨_, s⟩
  | i :: l, r, Hs, s => by
    show ∃ Hs', SIn K g H0 Hs0 (DL.frz (match r[i]? with | some s => r.set i (DL.frz1 s) | none => r) l) f st H Hs'
    cases e : r[i]? with
    | none => exact SIn.frz l s
    | some w =>
      obtain ⟨Hs1, s1⟩ := s.frz1 e
      exact SIn.frz l s1
end
end DL
namespace DL
open PySem PySem.Spec PyProof.Rows L2
section
variable {X : Cx} {K : PySem.W.Frag} {W : WX}
theorem SIn.stpPlus {g : Option Dk} {H0 Hs0 : Hp} {r : Sg} {f : Nat} {st : L2.St} {H Hs : Hp} (s : SIn K g H0 Hs0 r f st H Hs) : Stp g H0 Hs0 H (plus r st H Hs) where
  sub := s.plusSub
  ext := s.stp.ext.trans s.plusExt
  keep := s.stp.keep
  there := s.stp.there
  new := fun a o h n => by
    have no : ¬ Owned r st a := fun e => by rw [(s.owned e).2.1] at h; cases h
    rw [plus_out no]
    exact s.stp.new a o h n
theorem SIn.afterExt {g : Option Dk} {H0 Hs0 : Hp} {r : Sg} {f : Nat} {st : L2.St} {H Hs H' Hs' : Hp} (s : SIn K g H0 Hs0 r f st H Hs) (p : Stp g H (plus r st H Hs) H' Hs') : Same Hs (minus r st Hs') := fun a o h => by
  have no : ¬ Owned r st a := fun e => by rw [(s.owned e).1] at h; cases h
  rw [minus_out no]
  exact p.ext a o (s.plusExt a o h)
/-! another base: what is shared now is to stay -/
def mix (Hb H0 : Hp) : Hp := fun a => match Hb a with
  | some o => some o
  | none => H0 a
theorem mix_some {Hb H0 : Hp} {a : Addr} {o : HO} (h : Hb a = some o) : mix Hb H0 a = some o := by unfold mix; rw [h]
theorem mix_none {Hb H0 : Hp} {a : Addr} (h : Hb a = none) : mix Hb H0 a = H0 a := by unfold mix; rw [h]
theorem Stp.unmix {g : Option Dk} {H0 Hs0 H1 Hb H Hs : Hp} (p : Stp g H0 Hs0 H1 Hb) (q : Stp g (mix Hb H0) Hb H Hs) : Stp g H0 Hs0 H Hs where
  sub := q.sub
  ext := p.ext.trans q.ext
  keep := fun a o h n => by
    cases e : Hb a with
    | none => exact q.keep a o (by rw [mix_none e]; exact h) n
    | some o' =>
      have e1 := p.keep a o h n
      rw [p.sub a o' e] at e1
      cases e1
      exact q.keep a o (mix_some e) n
  there := fun a o h => by
    cases e : Hb a with
    | none => exact q.there a o (by rw [mix_none e]; exact h)
    | some o' => exact q.there a o' (mix_some e)
  new := fun a o h n => by
    have nb := p.new a o h n
    exact q.new a o (by rw [mix_none nb]; exact h) nb
theorem OwAt.reb {H0 H0' H Hs : Hp} {a : Addr} {sl : Sl} (e : ∀ dx, H0 dx = none → Hs dx = none → H0' dx = none) (h : OwAt K H0 H Hs a sl) : OwAt K H0' H Hs a sl := by
  cases sl with
  | oi b c ns xs =>
    obtain ⟨qa, C, dx, vs, q0, q1, q2, q3, q4, q5⟩ := h
    exact ⟨qa, C, dx, vs, q0, q1, q2, q3, e dx q4 q3, q5⟩
  | _ => exact h
theorem SIn.rebase {g : Option Dk} {H0 Hs0 Hb : Hp} {r : Sg} {f : Nat} {st : L2.St} {H Hs : Hp} (s : SIn K g H0 Hs0 r f st H Hs) (h1 : Same Hs0 Hb) (h2 : Same Hb Hs) : SIn K g (mix Hb H0) Hb r f st H Hs where
  len := s.len
  dk0 := by
    obtain ⟨f0, k⟩ := s.dk0
    refine ⟨f0, ?_⟩
    have kk := s.dk
    cases g with
    | none => trivial
    | some d =>
      obtain ⟨_, m1, m2, m3, tk⟩ := kk
      have n1 := same_none h2 m1
      have n2 := same_none h2 m2
      have n3 := same_none h2 m3
      obtain ⟨⟨e1, e2, e3, n', xs, ys, k1, k2, k3, k4⟩, _, _, _, tb⟩ := k
      refine ⟨⟨e1, e2, e3, n', xs, ys, by rw [mix_none n1]; exact k1, by rw [mix_none n2]; exact k2, by rw [mix_none n3]; exact k3, k4⟩, n1, n2, n3, tb.to (fun a ha u q1 _ => ?_) fun b u hb _ _ => h1 b u hb⟩
      obtain ⟨p, hp, rfl⟩ := List.mem_map.mp ha
      have n4 := same_none h2 (tk.at_ p hp).1
      exact ⟨by rw [mix_none n4]; exact q1, n4⟩
  dk := s.dk
  stp := by
    refine ⟨s.stp.sub, h2, fun a o h n => ?_, fun a o h => ?_, fun a o h n => ?_⟩
    · cases e : Hb a with
      | none => rw [mix_none e] at h; exact s.stp.keep a o h n
      | some o' => rw [mix_some e] at h; cases h; exact s.stp.sub a o (h2 a o e)
    · cases e : Hb a with
      | none => rw [mix_none e] at h; exact s.stp.there a o h
      | some o' => exact ⟨o', s.stp.sub a o' (h2 a o' e)⟩
    · rw [mix_none n] at h
      exact s.stp.new a o h (same_none h1 n)
  sh := s.sh
  ow := fun i sl hi ho => by
    obtain ⟨a, q1, q2, q3, q4⟩ := s.ow i sl hi ho
    exact ⟨a, q1, q2, by rw [mix_none (same_none h2 q2)]; exact q3, q4.reb fun dx z1 z2 => by rw [mix_none (same_none h2 z2)]; exact z1⟩
  inj := s.inj
theorem SIn.unbase {g : Option Dk} {H0 Hs0 H1 Hb : Hp} {r : Sg} {f : Nat} {st : L2.St} {H Hs : Hp} (p : Stp g H0 Hs0 H1 Hb) (k : ∃ f0, DkOk g H0 Hs0 f0) (s : SIn K g (mix Hb H0) Hb r f st H Hs) : SIn K g H0 Hs0 r f st H Hs where
  len := s.len
  dk0 := k
  dk := s.dk
  stp := p.unmix s.stp
  sh := s.sh
  ow := fun i sl hi ho => by
    obtain ⟨a, q1, q2, q3, q4⟩ := s.ow i sl hi ho
    exact ⟨a, q1, q2, by rw [mix_none (same_none s.stp.ext q2)] at q3; exact q3, q4.reb fun dx z1 z2 => by rw [mix_none (same_none s.stp.ext z2)] at z1; exact z1⟩
  inj := s.inj
/-- an expression's value, flat with all slots in sight (true), or any with the owning slots hidden (false) -/
def evM (m : Bool) (dl : DT) : DT := fun g r f Q => match m with
  | true => dl g r f fun d f' => d.flat = true ∧ Q d f'
  | false => dl g (hide r) f Q
theorem snd_evM {t : TE} {dl : DT} (h : Snd K t dl) {m : Bool} {g : Option Dk} {H0 Hs0 : Hp} {r : Sg} {f : Nat} {st : L2.St} {H Hs : Hp} {Q : VK} {Q' : QD} (s : SIn K g H0 Hs0 r f st H Hs)
    (hq : ∀ d f' v H' Hs', SIn K g H0 Hs0 r f' st H' Hs' → Same Hs Hs' → Rp K Hs' d v → Q' d f' → Q v H') (hd : evM m dl g r f Q') : t st H Q := by
  cases m with
  | true => exact h g r f st H _ Q _ s.at (fun d f' v H' Hs' p k hr q => hq d f' v H' _ (s.after p k) (s.afterExt p) (s.flatV p q.1 hr) q.2) hd
  | false => exact h g (hide r) f st H _ Q Q' s.atHid (fun d f' v H' Hs' p k hr q => hq d f' v H' _ (s.afterHid p k) p.ext hr q) hd
/-- a new list's items, flat with all slots in sight, or any with the owning slots hidden -/
def evL (m : Bool) (dl : DTA) : DTA := fun g r f Q => match m with
  | true => dl g r f fun ds f' => flatA ds = true ∧ Q ds f'
  | false => dl g (hide r) f Q
theorem Stp.none0 {g : Option Dk} {H Hs H' Hs' : Hp} (s : Stp g H Hs H' Hs') {p : Addr} (h : H' p = none) : H p = none := none_back s h
theorem snd_evL {t : TE} {dl : DTA} (h : SndL K t dl) {m : Bool} {g : Option Dk} {H0 Hs0 : Hp} {r : Sg} {f : Nat} {st : L2.St} {H Hs : Hp} {Q : VK} {Q' : List D → Nat → Prop} (s : SIn K g H0 Hs0 r f st H Hs)
    (hq : ∀ ds f' p vs H' Hs', SIn K g H0 Hs0 r f' st H' Hs' → H p = none → Hs' p = none → H0 p = none → H' p = some (.lst vs) → RpA K Hs' ds vs → (∀ (j : Nat) (sl : Sl), r[j]? = some sl → sl.own = true → st[j]? ≠ some (some (.ref p))) → Q' ds f' → Q (.ref p) H') (hd : evL m dl g r f Q') : t st H Q := by
  have notO : ∀ p, H p = none → ∀ (j : Nat) (sl : Sl), r[j]? = some sl → sl.own = true → st[j]? ≠ some (some (.ref p)) := fun p hp j sl h1 h2 h3 => by
    obtain ⟨a, e, _, _, q⟩ := s.ow j sl h1 h2
    rw [h3] at e
    cases e
    obtain ⟨o, ho, _⟩ := q.ld
    rw [hp] at ho; cases ho
  cases m with
  | true => exact h g r f st H _ Q _ s.at (fun ds f' p vs H' Hs' sp k n0 n1 e hr q => by
      have no : ¬ Owned r st p := fun ⟨j, sl, h1, h2, h3⟩ => notO p n0 j sl h1 h2 h3
      refine hq ds f' p vs H' _ (s.after sp k) n0 (by rw [minus_out no]; exact n1) (s.stp.none0 n0) e ?_ (notO p n0) q.2
      exact hr.flat (fun a o e l => by
        by_cases w : Owned r st a
        · obtain ⟨_, _, sl, _, u⟩ := s.owned w
          obtain ⟨o', ho, ld⟩ := u.ld
          have := sp.keep a o' ho (s.notDk w)
          rw [sp.sub a o e] at this
          cases this
          rw [ld] at l
          cases l
        · rw [minus_out w]; exact e) ds vs q.1) hd
  | false => exact h g (hide r) f st H _ Q Q' s.atHid (fun ds f' p vs H' Hs' sp k n0 n1 e hr q => hq ds f' p vs H' _ (s.afterHid sp k) n0 n1 (s.stp.none0 n0) e hr (notO p n0) q) hd
/-! blocks -/
def sNext : DTS := fun _ r f E => E.nx r f
def sSeq (a b : DTS) : DTS := fun g r f E => a g r f { E with nx := fun r' f' => b g r' f' E }
theorem dss_nil : DSs X [] sNext := .mk' (pss_nil) (fun g H0 Hs0 r f st H D E s e h => e.nx r f st H s h)
theorem dss_one {st : Stmt} {d : DTS} (h : DS X st d) : DSs X [st] d := .mk' (pss_one h.ps) (h.sn)
theorem dss_cons {st : Stmt} {rest : List Stmt} {d e : DTS} (h1 : DS X st d) (h2 : DSs X rest e) : DSs X (st :: rest) (sSeq d e) := .mk' (pss_cons h1.ps h2.ps) (fun g H0 Hs0 r f st H D E s e h =>
  h1.sn g H0 Hs0 r f st H _ { E with nx := fun r' f' => _ } s ⟨fun r' f' st' H' s' h' => h2.sn g H0 Hs0 r' f' st' H' D E s' e h', e.rt, e.bk, e.ct, e.xc⟩ h)
def sNever : DTS := fun _ _ _ _ => False
theorem ds_never {st : Stmt} : DS X st sNever := .mk' (ps_never) (fun _ _ _ _ _ _ _ _ _ _ _ h => h)
def sIf (c : DTT) (a b : DTS) : DTS := fun g r f E => c g r f fun k f1 => if k = true then a g r f1 E else b g r f1 E
theorem ds_if {c : Expr} {a b : List Stmt} {pos : Pos} {dc : DTT} {d e : DTS} (hc : DP X c dc) (ha : DSs X a d) (hb : DSs X b e) : DS X (.If c a b pos) (sIf dc d e) := .mk' (ps_if hc.pt ha.ps hb.ps) (fun g H0 Hs0 r f st H D E s e h => by
  obtain ⟨Hs, s⟩ := s
  refine hc.sn g r f st H _ _ _ s.at (fun k f1 H1 Hs1 s1 k1 q1 => ?_) h
  cases k with
  | true => exact ha.sn g H0 Hs0 r f1 st H1 D E ⟨_, s.after s1 k1⟩ e q1
  | false => exact hb.sn g H0 Hs0 r f1 st H1 D E ⟨_, s.after s1 k1⟩ e q1)
def sRet (dl : DT) : DTS := fun g r f E => dl g r f E.rt
theorem ds_ret {e : Expr} {pos : Pos} {d : DT} (h : DE X e d) : DS X (.Return (some e) pos) (sRet d) := .mk' (ps_ret h.pe) (fun g H0 Hs0 r f st H D E s e hd => by
  obtain ⟨Hs, s⟩ := s
  exact h.sn g r f st H _ _ _ s.at (fun d f1 v H1 Hs1 s1 k1 r1 q1 => e.rt d f1 v H1 Hs1 (s.stpPlus.trans s1) k1 r1 q1) hd)
def sDrop (dl : DT) : DTS := fun g r f E => dl g r f fun _ f' => E.nx r f'
theorem ds_expr {e : Expr} {pos : Pos} {d : DT} (h : DE X e d) (hs : swapsWith e none pos.line X.env = pure false := by rfl) : DS X (.Expr e pos) (sDrop d) := .mk' (ps_expr h.pe hs) (fun g H0 Hs0 r f st H D E s e hd => by
  obtain ⟨Hs, s⟩ := s
  exact h.sn g r f st H _ _ _ s.at (fun d f1 v H1 Hs1 s1 k1 r1 q1 => e.nx r f1 st H1 ⟨_, s.after s1 k1⟩ q1) hd)
/-! assignments -/
def sSet (m : Bool) (i : Nat) (dl : DT) : DTS := fun g r f E => evM m dl g r f fun d f' => E.nx (r.set i (.sh d)) f'
theorem snd_set {m : Bool} {i : Nat} {t : TE} {d : DT} (h : Snd K t d) : SndS K W (tAsg t (gName i)) (sSet m i d) := fun g H0 Hs0 r f st H D E s e hd => by
  obtain ⟨Hs, s⟩ := s
  exact snd_evM h s (fun d f' v H' Hs' s' _ hr q => e.nx _ f' _ H' ⟨_, s'.set i hr⟩ q) hd
theorem ds_set (m : Bool) {i : Nat} {x : Str} {e : Expr} {pos pos' : Pos} {d : DT} (hN : X.N.Nodup) (h : DE X e d) (hi : X.N[i]? = some x := by rfl) (hx : Loc X.env.scope x := by first | exact Or.inl rfl | exact Or.inr rfl)
    (hs : swapsWith e (some (.Name x pos')) pos.line X.env = pure false := by rfl) (hf : X.fn x = true ∨ X.env.scope.names.lookup x = some .local := by first | exact .inl rfl | exact .inr rfl | assumption) :
    DS X (.Assign [.Name x pos'] e pos) (sSet m i d) := .mk' (ps_set hN hi hx h.pe hs hf) (snd_set h.sn)
def sSetL (m : Bool) (i : Nat) (dl : DTA) : DTS := fun g r f E => evL m dl g r f fun ds f' => E.nx (r.set i (.ow ds)) f'
theorem snd_setL {m : Bool} {i : Nat} {t : TE} {d : DTA} (h : SndL K t d) : SndS K W (tAsg t (gName i)) (sSetL m i d) := fun g H0 Hs0 r f st H D E s e hd => by
  obtain ⟨Hs, s⟩ := s
  exact snd_evL h s (fun ds f' p vs H' Hs' s' n n1 n0 hp hr no q => e.nx _ f' _ H' ⟨_, s'.setOwn i (u := .ow ds) rfl n0 n1 (fun j sl _ h1 h2 => no j sl h1 h2) ⟨vs, hp, hr⟩⟩ q) hd
theorem ds_setL (m : Bool) {i : Nat} {x : Str} {e : Expr} {pos pos' : Pos} {d : DTA} (hN : X.N.Nodup) (h : DL' X e d) (hi : X.N[i]? = some x := by rfl) (hx : Loc X.env.scope x := by first | exact Or.inl rfl | exact Or.inr rfl)
    (hs : swapsWith e (some (.Name x pos')) pos.line X.env = pure false := by rfl) (hf : X.fn x = true ∨ X.env.scope.names.lookup x = some .local := by first | exact .inl rfl | exact .inr rfl | assumption) :
    DS X (.Assign [.Name x pos'] e pos) (sSetL m i d) := .mk' (ps_set hN hi hx h.pe hs hf) (snd_setL h.sn)
/-- y = [..] on one line -/
theorem ds_setLc {i : Nat} {y : Str} {py : Pos} {elt tg iter : Expr} {ifs : List Expr} {scope : Scope} {own : List (Str × Nat)} {pos spos : Pos} {is : List Nat} {di : DTA} {t : TgF} {c : DTT} {e : DT} {dl : DTS} (hN : X.N.Nodup) (hi : DI X tg iter di) (ok : BlkOk X.N X.env.scope scope own)
    (hg : ∀ (s : Shared) (H : Hp) (C : Addr) (cl : List (Str × Addr)) (fp : List Addr), DG (X.blk s H scope (compEnvC scope cl C X.env) fp) tg is t) (ht : ∀ (s : Shared) (H : Hp) (C : Addr) (cl : List (Str × Addr)) (fp : List Addr), DTs (X.blk s H scope (compEnvC scope cl C X.env) fp) ifs c)
    (he : ∀ (s : Shared) (H : Hp) (C : Addr) (cl : List (Str × Addr)) (fp : List Addr), DE (X.blk s H scope (compEnvC scope cl C X.env) fp) elt e)
    (hsn : ∀ (K : PySem.W.Frag) (W : WX) (t' : TE), SndL K t' (dLc di t c e (own.map (·.2))) → SndS K W (tAsg t' (gName i)) dl)
    (hy : X.N[i]? = some y := by rfl) (hyl : X.env.scope.names.lookup y = some .local := by rfl) (hc : X.calm = true := by rfl)
    (hsw : swapsWith (.ListComp elt [⟨tg, iter, ifs, 0⟩] scope pos) (some (.Name y py)) spos.line X.env = pure true := by exact sw_true rfl rfl rfl (by decide +kernel)) (hs : ∀ x, foldedSetIterable iter X.env x = pure x := by intro _; rfl) (hsub : ∀ j ∈ is, j ∈ own.map (·.2) := by decide) :
    DS X (.Assign [.Name y py] (.ListComp elt [⟨tg, iter, ifs, 0⟩] scope pos) spos) dl :=
  DS.mk' (ps_setLc (g := gOf X.K is t) (tt := tOfT X.K c) (te := tOf X.K e) hc hN hy hyl hsw hi.pi ok (fun s H C cl fp => (hg s H C cl fp).pg) (fun s H C cl fp => (ht s H C cl fp).pt) (fun s H C cl fp => (he s H C cl fp).pe) hs)
    (hsn X.K _ _ (snd_lc hi.sn (hg X.s_0 (fun _ => none) 0 [] []).sn (ht X.s_0 (fun _ => none) 0 [] []).sn (he X.s_0 (fun _ => none) 0 [] []).sn hsub))
/-- target = value: a tuple taken apart -/
def sAsg (m : Bool) (dl : DT) (t : TgF) : DTS := fun g r f E => evM m dl g r f fun d f' => match t d with
  | some l => E.nx (setsR r l) f'
  | none => False
theorem ds_asg (m : Bool) {tg e : Expr} {pos : Pos} {is : List Nat} {d : DT} {t : TgF} (h : DE X e d) (hg : DG X tg is t) (hs : swapsWithSole [tg] e pos.line X.env = pure false := by rfl) (hw : swappedStores [tg] e X.env = pure none := by rfl) (h1 : (assignEach [tg] X.env).map (·.2) = [assign tg X.env] := by rfl) : DS X (.Assign [tg] e pos) (sAsg m d t) :=
  .mk' (ps_asg h.pe hg.pg hs hw h1) (fun g H0 Hs0 r f st H D E s e hd => by
    obtain ⟨Hs, s⟩ := s
    refine snd_evM h.sn s (fun d f' v H' Hs' s' _ hr q => ?_) hd
    cases et : t d with
    | none => rw [et] at q; exact q.elim
    | some l =>
      rw [et] at q
      refine hg.sn.2 H' Hs' st d v _ l s'.stp.sub hr et fun vs hv => ?_
      have s2 := s'.sets hv
      rw [hg.sn.1 d l et] at s2
      exact e.nx _ f' _ H' ⟨_, s2⟩ q)
/-- a, b = e1, e2 -/
def sPar (m : Bool) (i j : Nat) (a b : DT) : DTS := fun g r f E => evM m a g r f fun x f1 => evM m b g r f1 fun y f2 => E.nx ((r.set i (.sh x)).set j (.sh y)) f2
theorem ds_par (m : Bool) {i j : Nat} {x y : Str} {a b : Expr} {da db : DT} {px py pt : Pos} {kt k2 : Nat} {pt2 pos : Pos} (hN : X.N.Nodup) (ha : DE X a da) (hb : DE X b db) (hc : X.calm = true := by rfl) (hi : X.N[i]? = some x := by rfl) (hj : X.N[j]? = some y := by rfl) (hij : i ≠ j := by decide)
    (hx : X.env.scope.names.lookup x = some .local := by rfl) (hy : X.env.scope.names.lookup y = some .local := by rfl) (hst : starEach [a, b] X.env = (false, eval a X.env) :: starEach [b] X.env := by rfl) (hst2 : starEach [b] X.env = [(false, eval b X.env)] := by rfl)
    (hw : swappedStores [.Tuple [.Name x px, .Name y py] kt pt] (.Tuple [a, b] k2 pt2) X.env = pure (some [x, y]) := by rfl)
    (hs : swapsWithSole [.Tuple [.Name x px, .Name y py] kt pt] (.Tuple [a, b] k2 pt2) pos.line X.env = pure false := by rfl) :
    DS X (.Assign [.Tuple [.Name x px, .Name y py] kt pt] (.Tuple [a, b] k2 pt2) pos) (sPar m i j da db) := DS.mk' (ps_par hc hN hi hj hij hx hy (pa_cons ha.pe (pa_cons hb.pe pa_nil hst2) hst) hw hs) (fun g H0 Hs0 r f st H D E s e hd => by
  obtain ⟨Hs, s⟩ := s
  refine snd_evM ha.sn s (fun x f1 v H1 Hs1 s1 _ r1 q1 => ?_) hd
  refine snd_evM hb.sn s1 (fun y f2 w H2 Hs2 s2 e2 r2 q2 => ?_) q1
  exact ⟨v, w, rfl, e.nx _ f2 _ H2 ⟨_, (s2.set i (r1.mono e2)).set j r2⟩ q2⟩)
/-! loops -/
def dForGo (g : Option Dk) (t : TgF) (body : DTS) (E : DEnds) : List D → Sg → Nat → Prop
  | [], r, f => E.nx r f
  | d :: ds, r, f => match t d with
    | none => False
    | some l => body g (setsR r l) f { E with nx := fun r' f' => dForGo g t body E ds r' f', ct := fun r' f' => dForGo g t body E ds r' f', bk := E.nx }
def sFor (fz : List Nat) (i : DTA) (t : TgF) (body : DTS) : DTS := fun g r f E => i g (hide (frz r fz)) f fun ds f1 => dForGo g t body E ds (frz r fz) f1
theorem snd_for {fz : List Nat} {wi : TI} {gt : TG} {tb : TS} {is : List Nat} {i : DTA} {t : TgF} {body : DTS} (hi : SndI K wi i) (hg : SndG K is gt t) (hb : SndS K W tb body) : SndS K W (tFor wi gt tb) (sFor fz i t body) := fun g H0 Hs0 r f st H D E s e hd => by
  obtain ⟨Hs, s⟩ := s
  obtain ⟨Hs, s⟩ := s.frz fz
  refine hi g _ f st H Hs _ _ s.atHid (fun ds f1 J H1 Hs1 s1 k1 wk q1 => ?_) hd
  have sb := s.afterHid s1 k1
  refine ⟨fun i m st2 H2 => m = ds.length - i ∧ i ≤ ds.length ∧ ∃ r2 f2 Hs2, SIn K g H0 Hs0 r2 f2 st2 H2 Hs2 ∧ Same Hs1 Hs2 ∧ dForGo g t body E (ds.drop i) r2 f2, ⟨ds.length, rfl, Nat.zero_le _, _, f1, Hs1, sb, Same.refl _, q1⟩, ?_⟩
  rintro i m st2 H2 ⟨rfl, hil, r2, f2, Hs2, s2, e2, q2⟩
  by_cases hlt : i < ds.length
  · have hgd : ds[i]? = some ds[i] := List.getElem?_eq_getElem hlt
    have hdr : ds.drop i = ds[i] :: ds.drop (i + 1) := List.drop_eq_getElem_cons hlt
    rw [hdr] at q2
    obtain ⟨hgo, hy⟩ := wk.go i _ H2 Hs2 e2 s2.stp.sub hgd
    refine .inr ⟨hgo, fun st3 H3 => i + 1 ≤ ds.length ∧ ∃ r2 f2 Hs2, SIn K g H0 Hs0 r2 f2 st3 H3 Hs2 ∧ Same Hs1 Hs2 ∧ dForGo g t body E (ds.drop (i + 1)) r2 f2, fun st3 H3 h3 => ⟨_, by omega, rfl, h3⟩, fun x H3 hx => ?_⟩
    obtain ⟨Hs3, s3, r3⟩ := hy x H3 hx
    simp only [dForGo] at q2
    cases et : t ds[i] with
    | none => rw [et] at q2; exact q2.elim
    | some l =>
      rw [et] at q2
      replace q2 : body g (setsR r2 l) f2 { E with nx := fun r' f' => dForGo g t body E (ds.drop (i + 1)) r' f', ct := fun r' f' => dForGo g t body E (ds.drop (i + 1)) r' f', bk := E.nx } := q2
      have s2' := s2.afterHid s3.gen (s2.dk.stp s3)
      refine hg.2 H3 Hs3 _ _ x _ l s3.sub r3 et fun us hus => ?_
      have s4 := s2'.sets hus
      rw [hg.1 _ l et] at s4
      have s5 := s4.rebase sb.stp.ext (e2.trans s3.ext)
      refine hb g _ _ _ f2 _ H3 _ { E with nx := fun r' f' => dForGo g t body E (ds.drop (i + 1)) r' f', ct := fun r' f' => dForGo g t body E (ds.drop (i + 1)) r' f', bk := E.nx } ⟨_, s5⟩ ⟨fun r' f' st' H' q h => ?_, fun d f' v H' Hs' p k hr h => e.rt d f' v H' Hs' (sb.stp.unmix p) k hr h, fun r' f' st' H' q h => ?_, fun r' f' st' H' q h => ?_, fun x' r' f' st' H' cls d' q h => ?_⟩ q2
      · obtain ⟨Hs6, q⟩ := q
        exact ⟨hlt, r', f', Hs6, q.unbase sb.stp s.dk0, q.stp.ext, h⟩
      · obtain ⟨Hs6, q⟩ := q
        exact e.nx r' f' st' H' ⟨_, q.unbase sb.stp s.dk0⟩ h
      · obtain ⟨Hs6, q⟩ := q
        exact ⟨hlt, r', f', Hs6, q.unbase sb.stp s.dk0, q.stp.ext, h⟩
      · obtain ⟨Hs6, q, q'⟩ := q
        exact e.xc x' r' f' st' H' cls d' ⟨_, q.unbase sb.stp s.dk0, q'⟩ h
  · have ei : i = ds.length := by omega
    subst ei
    rw [List.drop_length] at q2
    exact .inl ⟨wk.stop H2 (fun a o h => s2.stp.sub a o (e2 a o h)), e.nx r2 f2 st2 H2 ⟨_, s2⟩ q2⟩
theorem ds_for (fz : List Nat) {tg iter : Expr} {body : List Stmt} {pos : Pos} {is : List Nat} {i : DTA} {t : TgF} {db : DTS} (hp : PassesOwn (model X.prog X.w) X.A X.env X.xe) (hi : DI X tg iter i) (hg : DG X tg is t) (hb : DSs X body db) (hc : X.calm = true := by rfl)
    (hs : ∀ x, foldedSetIterable iter X.env x = pure x := by intro _; rfl) : DS X (.For tg iter body [] pos) (sFor fz i t db) := .mk' (ps_for hp hc hi.pi hg.pg hb.ps hs) (snd_for hi.sn hg.sn hb.sn)
def dWhileN (g : Option Dk) (c : DTT) (body : DTS) (E : DEnds) : Nat → Sg → Nat → Prop
  | 0, _, _ => False
  | n + 1, r, f => c g r f fun b f1 => if b = true then body g r f1 { E with nx := fun r' f' => dWhileN g c body E n r' f', ct := fun r' f' => dWhileN g c body E n r' f', bk := E.nx } else E.nx r f1
def sWhile (c : DTT) (body : DTS) : DTS := fun g r f E => ∃ n, dWhileN g c body E n r f
theorem snd_while {tc : TT} {tb : TS} {c : DTT} {body : DTS} (hc : SndT K tc c) (hb : SndS K W tb body) : SndS K W (tWhile tc tb) (sWhile c body) := fun g H0 Hs0 r f st H D E s e hd => by
  obtain ⟨n, hd⟩ := hd
  refine ⟨fun m st2 H2 => ∃ r2 f2, SOk K g H0 Hs0 r2 f2 st2 H2 ∧ dWhileN g c body E m r2 f2, ⟨n, r, f, s, hd⟩, ?_⟩
  rintro m st2 H2 ⟨r2, f2, ⟨Hs2, s2⟩, q2⟩
  cases m with
  | zero => exact q2.elim
  | succ m =>
    refine hc g r2 f2 st2 H2 _ _ _ s2.at (fun b f3 H3 Hs3 s3 k3 q3 => ?_) q2
    have s4 := s2.after s3 k3
    cases b with
    | false => exact e.nx r2 f3 st2 H3 ⟨_, s4⟩ q3
    | true =>
      rw [if_pos rfl]
      rw [if_pos rfl] at q3
      refine ⟨fun st4 H4 => ∃ r4 f4, SOk K g H0 Hs0 r4 f4 st4 H4 ∧ dWhileN g c body E m r4 f4, fun st4 H4 h4 => ⟨m, Nat.lt_succ_self m, h4⟩, ?_⟩
      exact hb g H0 Hs0 r2 f3 st2 H3 _ { E with nx := fun r' f' => dWhileN g c body E m r' f', ct := fun r' f' => dWhileN g c body E m r' f', bk := E.nx } ⟨_, s4⟩ ⟨fun r' f' st' H' q h => ⟨r', f', q, h⟩, e.rt, e.nx, fun r' f' st' H' q h => ⟨r', f', q, h⟩, e.xc⟩ q3
theorem ds_while {c : Expr} {body : List Stmt} {pos : Pos} {dc : DTT} {db : DTS} (hp : PassesOwn (model X.prog X.w) X.A X.env X.xe) (hc : DP X c dc) (hb : DSs X body db) : DS X (.While c body [] pos) (sWhile dc db) := .mk' (ps_while hp hc.pt hb.ps) (snd_while hc.sn hb.sn)
/-! stores into what a slot owns -/
def sApp (m : Bool) (i : Nat) (dl : DT) : DTS := fun g r f E => ∃ xs, r[i]? = some (.ow xs) ∧ evM m dl g r f fun d f' => xs.length ≤ lim ∧ E.nx (r.set i (.ow (xs ++ [d]))) f'
theorem snd_app {m : Bool} {i : Nat} {t : TE} {d : DT} (h : Snd K t d) : SndS K W (tDrop (tBM K "list" rAppend (tVar i) (tCons t tNil))) (sApp m i d) := fun g H0 Hs0 r f st H D E s e hd => by
  obtain ⟨Hs, s⟩ := s
  obtain ⟨xs, hx, hd⟩ := hd
  obtain ⟨a, ha, n1, n0, vs, hv, hr⟩ := s.ow i _ hx rfl
  refine ⟨.ref a, ha, .inl ⟨rfl, vs, SqL.of hv⟩, ?_⟩
  refine snd_evM h s (fun d f' v H' Hs' s' _ hr' q => ?_) hd
  obtain ⟨hl, q⟩ := q
  obtain ⟨a', ha', n1', n0', vs', hv', hr2⟩ := s'.ow i _ hx rfl
  rw [ha] at ha'
  cases ha'
  exact ⟨a, vs', v, rfl, rfl, hv', hr2.lt hl, e.nx _ f' st _ ⟨_, s'.mutOwn (u := .ow (xs ++ [d])) hx rfl ha rfl ⟨vs' ++ [v], upd_same, hr2.append (RpA.one hr')⟩⟩ q⟩
theorem ds_app (m : Bool) {i : Nat} {x : Str} {e : Expr} {px apos cpos pos : Pos} {d : DT} (h : DE X e d) (hN : X.N[i]? = some x := by rfl) (hv : Vis X.env.scope x := by first | exact Or.inl rfl | exact Or.inr (Or.inl rfl) | exact Or.inr (Or.inr rfl)) (hd : (x == ("__debug__" : Str)) = false := by decide)
    (hcd : (x == ("__classdict__" : Str)) = false := by decide) (hP : ∀ t : TE, PE X (.Name x px) (tVar i) → PA X [e] (tCons t tNil) → PE X (.Call (.Attribute (.Name x px) "append" apos) [e] [] cpos) (tBM X.K "list" rAppend (tVar i) (tCons t tNil)) := by
      exact fun t a b => pe_bm PySem.F.plainAttrs_list PySem.F.slot_list_append PySem.F.type_list_append mt_append a b)
    (hs : swapsWith (.Call (.Attribute (.Name x px) "append" apos) [e] [] cpos) none pos.line X.env = pure false := by rfl) (hst : starEach [e] X.env = [(false, eval e X.env)] := by rfl) :
    DS X (.Expr (.Call (.Attribute (.Name x px) "append" apos) [e] [] cpos) pos) (sApp m i d) :=
  DS.mk' (ps_expr (hP _ (pe_var hN hv hd hcd) (pa_cons h.pe pa_nil hst)) hs) (snd_app h.sn)
/-! a def -/
def startR (n : Nat) (ds : List D) : Sg := ds.map .sh ++ List.replicate (n - ds.length) .no
theorem start_in {g : Option Dk} {H Hs : Hp} {f : Nat} {ds : List D} {vs : List V} {N : List Str} (hs : Same Hs H) (hk : DkOk g H Hs f) (hr : RpA K Hs ds vs) : SIn K g H Hs (startR N.length ds) f (L2.start N vs) H Hs := by
  refine ⟨by simp [startR, L2.start, hr.length], ⟨f, hk⟩, hk, Stp.refl hs, fun i d h => ?_, fun i s h ho => ?_, fun i j s u a h1 h2 ho => ?_⟩
  · unfold startR at h
    unfold L2.start
    by_cases hl : i < ds.length
    · rw [List.getElem?_append_left (by simpa using hl), List.getElem?_map] at h
      rw [List.getElem?_append_left (by simpa [← hr.length] using hl), List.getElem?_map]
      rw [List.getElem?_eq_getElem hl] at h
      cases h
      obtain ⟨v, h1, h2⟩ := hr.get (List.getElem?_eq_getElem hl)
      exact ⟨v, by rw [h1]; rfl, h2⟩
    · rw [List.getElem?_append_right (by simpa using hl)] at h
      rw [List.getElem?_replicate] at h
      split at h
      · cases h
      · cases h
  all_goals
    exfalso
    have : ∀ (i : Nat) (s : Sl), (startR N.length ds)[i]? = some s → s.own = false := fun i s h => by
      have := List.mem_of_getElem? h
      unfold startR at this
      rcases List.mem_append.mp this with h | h
      · obtain ⟨d, _, rfl⟩ := List.mem_map.mp h
        rfl
      · rw [(List.mem_replicate.mp h).2]
        rfl
  · rw [this i s h] at ho; cases ho
  · rw [this i s h1] at ho; cases ho
variable {P : Program} {w : World} {mg : Str → Option Value} {base : Heap}
theorem dfn {x qual : Str} {st : Stmt} {f : Addr} {fd : FuncData} {N ps : List Str} {k : Nat} {S : DSp} {dl : DTS} (F : Fun K x qual st f fd) (sc : FnScope N ps (defScope st)) (len : ∀ g ds n Q, S g ds n Q → ds.length = ps.length)
    (hb : ∀ (cdv : Value) (A : Around) (outer : List Env) (s : Shared) (H : Hp) (E : XK), Room k (A.deeper (envOfC qual (defScope st) s.heap.objs.size f cdv)) → DSs (cxOf CX0 P w K mg base N qual (defScope st) f cdv A outer s H E).nox (defBody st) dl)
    (h : ∀ g ds n Q, S g ds n Q → dl g (startR N.length ds) n { nx := fun _ n => Q .none n, rt := Q }) : FnOk P w K mg base CX0 (k + 1) f fd ps (spOf K S) := by
  refine F.ok sc (fun vs H Q E h => ?_) (fun cdv A outer s H vs Q E hr hsp => ?_)
  · obtain ⟨g, Hs, ds, n, Q', h1, h2, h3, h4, h5⟩ := h
    rw [← h3.length]
    exact len g ds n Q' h4
  · obtain ⟨g, Hs, ds, n, Q', h1, h2, h3, h4, h5⟩ := hsp
    refine ⟨_, (hb cdv A outer s H E hr).ps, ?_⟩
    refine (hb cdv A outer s H E hr).sn g H Hs _ n _ H _ { nx := fun _ n => Q' .none n, rt := Q' } ⟨Hs, start_in h1 h2 h3⟩ ⟨fun r f st H' q h => ?_, fun d f v H' Hs' p k hr h => h5 d f v H' Hs' p k hr h, fun _ _ _ _ _ h => h, fun _ _ _ _ _ h => h, fun _ _ _ _ _ _ _ _ h => h.elim⟩ (h g ds n Q' h4)
    obtain ⟨Hs', q⟩ := q
    exact h5 .none f .non H' Hs' q.stp q.dk rfl h
end
end DL
namespace DL
open PySem PySem.Spec PyProof.Rows L2
/-! a def as its callers see it -/
def Df (K : PySem.W.Frag) (mg : Str → Option Value) (x : Str) (st : Stmt) : Prop := ∃ f fd, Fun K x x st f fd ∧ mg x = some (.ref f)
def Cal (P : Program) (w : World) (K : PySem.W.Frag) (mg : Str → Option Value) (base : Heap) (k : Nat) (x : Str) (ps : List Str) (S : DSp) : Prop :=
  ∃ f fd, FnOk P w K mg base CX0 k f fd ps (spOf K S) ∧ PySem.W.keepIn K (.ref f) = true ∧ Binds K fd ps [] ∧ mg x = some (.ref f)
section
variable {X : Cx} {K : PySem.W.Frag} {W : WX}
theorem de_callC {x : Str} {ps : List Str} {k : Nat} {S : DSp} {p pos : Pos} {e : Expr} {es : List Expr} {d : DTA} (c : Cal X.prog X.w X.K X.mg X.base k x ps S) (hr : Room k X.A)
    (ha : DA X (e :: es) d) (hg : Gl X x := by rfl) (hdb : (x == ("__debug__" : Str)) = false := by decide) (hs : starEach (e :: es) X.env = (false, eval e X.env) :: starEach es X.env := by rfl)
    (hpl : (backTo pos (starEach es X.env)).any (·.1) = false := by rfl) : DE X (.Call (.Name x p) (e :: es) [] pos) (dCall S d) := by
  obtain ⟨f, fd, F, hk, hb, hm⟩ := c
  exact .mk' (pe_call F hr hg hm hk hb .nil pass0 ha.pa hdb hs hpl) (snd_call ha.sn)
/-! loops over plain data -/
theorem dLcGo_each {P : D → Prop} {g : Option Dk} {t : TgF} {e : DT} {r : Sg} (c : Nat) {Q : List D → Nat → Prop} : ∀ (ds acc : List D) (f : Nat), ds.length * c ≤ f →
    (∀ d ∈ ds, ∃ l, t d = some l ∧ ∀ (f : Nat) (Q : QD), c ≤ f → (∀ y f', P y → f ≤ f' + c → Q y f') → e g (setsR r l) f Q) →
    (∀ ys f', ys.length = ds.length → (∀ y ∈ ys, P y) → f ≤ f' + ds.length * c → Q (acc ++ ys) f') → dLcGo g t dYes e r ds acc f Q
  | [], acc, f, hf, he, hq => by
    have := hq [] f rfl (by simp) (by simp)
    rw [List.append_nil] at this
    exact this
  | d :: ds, acc, f, hf, he, hq => by
    obtain ⟨l, hl, h⟩ := he d (by simp)
    have hlen : (d :: ds).length * c = c + ds.length * c := by rw [List.length_cons, Nat.add_mul, Nat.one_mul, Nat.add_comm]
    rw [hlen] at hf
    simp only [dLcGo, hl, dYes, if_true]
    refine h f _ (by omega) fun y f' hy hf' => dLcGo_each c ds (acc ++ [y]) f' (by omega) (fun d' hd' => he d' (by simp [hd'])) fun ys f'' h1 h2 h3 => ?_
    have := hq (y :: ys) f'' (by simp [h1]) (fun z hz => by
      rcases List.mem_cons.mp hz with e | e
      · rw [e]; exact hy
      · exact h2 z e) (by rw [hlen]; omega)
    rw [List.append_assoc]
    exact this
theorem dLcGo_pure {g : Option Dk} {t : TgF} {c : DTT} {e : DT} {r : Sg} (b : D → Bool) (y : D → D) {Q : List D → Nat → Prop} : ∀ (ds acc : List D) (f : Nat),
    (∀ d ∈ ds, ∃ l, t d = some l ∧ (∀ (f : Nat) (Q : Bool → Nat → Prop), Q (b d) f → c g (setsR r l) f Q) ∧ (b d = true → ∀ (f : Nat) (Q : QD), Q (y d) f → e g (setsR r l) f Q)) →
    Q (acc ++ (ds.filter b).map y) f → dLcGo g t c e r ds acc f Q
  | [], acc, f, he, hq => by
    rw [List.filter_nil, List.map_nil, List.append_nil] at hq
    exact hq
  | d :: ds, acc, f, he, hq => by
    obtain ⟨l, hl, h1, h2⟩ := he d (by simp)
    simp only [dLcGo, hl]
    refine h1 f _ ?_
    cases hb : b d with
    | true =>
      rw [if_pos rfl]
      refine h2 hb f _ (dLcGo_pure b y ds (acc ++ [y d]) f (fun d' hd' => he d' (by simp [hd'])) ?_)
      rw [List.filter_cons, hb, if_pos rfl, List.map_cons] at hq
      rw [List.append_assoc]
      exact hq
    | false =>
      rw [if_neg Bool.false_ne_true]
      refine dLcGo_pure b y ds acc f (fun d' hd' => he d' (by simp [hd'])) ?_
      rw [List.filter_cons, hb, if_neg Bool.false_ne_true] at hq
      exact hq
theorem dFor_inv {g : Option Dk} {t : TgF} {body : DTS} {E : DEnds} (I : List D → Sg → Nat → Prop) : ∀ (ds : List D) (r : Sg) (f : Nat),
    (∀ d rest r f (N : Sg → Nat → Prop), I (d :: rest) r f → (∀ r' f', I rest r' f' → N r' f') → ∃ l, t d = some l ∧ body g (setsR r l) f { E with nx := N, ct := N, bk := E.nx }) →
    (∀ r f, I [] r f → E.nx r f) → I ds r f → dForGo g t body E ds r f
  | [], r, f, _, h0, h => h0 r f h
  | d :: ds, r, f, hs, h0, h => by
    obtain ⟨l, hl, hb⟩ := hs d ds r f (fun r' f' => dForGo g t body E ds r' f') h (fun r' f' h' => dFor_inv I ds r' f' hs h0 h')
    simp only [dForGo, hl]
    exact hb
end
/-! the law's own def -/
def spLaw (K : PySem.W.Frag) : Sp := fun vs H Q _ => ∃ (a : Addr) (ns : List Int), vs = [.ref a] ∧ SqL K H a (ns.map V.int) ∧ ns.length ≤ 63 ∧ ∀ H', Q (.bl true) H'
def spDeck (K : PySem.W.Frag) : Sp := fun vs H Q _ => ∃ (a : Addr) (ns : List Int), vs = [.ref a] ∧ SqL K H a (ns.map V.int) ∧ ns.length ≤ 63 ∧
  ∀ (H' : Hp) (k : Dk), Same H H' → H k.a = none → H k.b = none → H k.c = none → DkAt k H' 1000000000000 → Q (.ref k.a) H'
def startLaw (n : Nat) (k : Dk) : Sg := .no :: .sh (.any (.ref k.a)) :: List.replicate (n - 2) .no
def spLawT (T : List (Addr × Str)) (K : PySem.W.Frag) : Sp := fun vs H Q E => (∀ p ∈ T, H p.1 = some (.tbl #[])) ∧ spLaw K vs H Q E
theorem dlawT {T : List (Addr × Str)} (nd : (T.map (·.1)).Nodup) {P : Program} {w : World} {K : PySem.W.Frag} {mg : Str → Option Value} {base : Heap} {x qual y : Str} {s0 : Stmt} {rest : List Stmt} {st : Stmt} {f : Addr} {fd : FuncData} {N : List Str} {k : Nat} {dl : DTS} (F : Fun K x qual st f fd) (sc : FnScope N [y] (defScope st)) (hN : 2 ≤ N.length) (hbody : defBody st = s0 :: rest)
    (hb : ∀ (cdv : Value) (A : Around) (outer : List Env) (s : Shared) (H : Hp) (E : XK), Room k (A.deeper (envOfC qual (defScope st) s.heap.objs.size f cdv)) → PS (cxOf CX0 P w K mg base N qual (defScope st) f cdv A outer s H E).nox s0 (tAsg (tCall (spDeck K) [] E0 (tCons (tVar 0) tNil)) (gName 1)) ∧ DSs (cxOf CX0 P w K mg base N qual (defScope st) f cdv A outer s H E).nox rest dl)
    (h : ∀ dk : Dk, dk.t = T → dl (some dk) (startLaw N.length dk) 1000000000000 { nx := fun _ _ => False, rt := fun d _ => d = .bool true }) : FnOk P w K mg base CX0 (k + 1) f fd [y] (spLawT T K) := by
  refine F.ok sc (fun vs H Q E h => ?_) (fun cdv A outer s H vs Q E hr hsp => ?_)
  · obtain ⟨_, a, ns, rfl, _⟩ := h
    rfl
  · obtain ⟨hT, a, ns, rfl, hS, hlen, q⟩ := hsp
    obtain ⟨h1, h2⟩ := hb cdv A outer s H E hr
    refine ⟨tSeq _ (sOf K _ dl), by rw [hbody]; exact pss_cons h1 h2.ps, ?_⟩
    obtain ⟨n, hn⟩ : ∃ n, N.length = n + 2 := ⟨N.length - 2, by omega⟩
    have e0 : L2.start N [V.ref a] = some (.ref a) :: none :: List.replicate n none := by
      unfold L2.start
      rw [hn]
      rfl
    refine ⟨.ref a, by rw [e0]; rfl, a, ns, rfl, hS, hlen, fun H' dk0 same n1 n2 n3 hd0 => ?_⟩
    obtain ⟨ka, kb, kc, kt⟩ := dk0
    obtain ⟨dk, hdk⟩ : ∃ dk : Dk, dk = ⟨ka, kb, kc, T⟩ := ⟨_, rfl⟩
    have hd : DkAt dk H' 1000000000000 := by rw [hdk]; exact ⟨hd0.ab, hd0.ac, hd0.bc, hd0.at_⟩
    have tb : TbOk dk H' (fun _ => none) := by
      rw [hdk]
      exact ⟨nd, fun p hp => ⟨rfl, #[], same _ _ (hT p hp), True.intro, fun pos cv hc => by
        have z : codeAmong pos [] = some cv := hc
        simp [codeAmong] at z⟩⟩
    have eka : ka = dk.a := by rw [hdk]
    show _
    refine h2.sn (some dk) H' (fun _ => none) (startLaw N.length dk) 1000000000000 _ H' _ { nx := fun _ _ => False, rt := fun d _ => d = .bool true } ⟨fun _ => none, ?_⟩ ⟨fun _ _ _ _ _ h => h.elim, fun d f v H2 Hs2 _ _ hr h => ?_, fun _ _ _ _ _ h => h.elim, fun _ _ _ _ _ h => h.elim, fun _ _ _ _ _ _ _ _ h => h.elim⟩ (h dk (by rw [hdk]))
    · have sub : Same (fun _ => none) H' := fun a o h => nomatch h
      refine ⟨?_, ⟨_, hd, rfl, rfl, rfl, tb⟩, ⟨hd, rfl, rfl, rfl, tb⟩, Stp.refl sub, fun i d hi => ?_, fun i sl hi ho => ?_, fun i j sl u b hi hj ho => ?_⟩
      · rw [e0, hn]; simp [startLaw]
      · rw [e0]
        unfold startLaw at hi
        match i, hi with
        | 0, hi => cases hi
        | 1, hi => cases hi; exact ⟨.ref dk.a, by rw [← eka]; rfl, rfl⟩
        | i + 2, hi =>
          have hi : (List.replicate (N.length - 2) Sl.no)[i]? = some (.sh d) := hi
          rw [List.getElem?_replicate] at hi
          split at hi <;> cases hi
      all_goals
        exfalso
        have : ∀ (i : Nat) (s : Sl), (startLaw N.length dk)[i]? = some s → s.own = false := fun i s h => by
          have := List.mem_of_getElem? h
          unfold startLaw at this
          rcases List.mem_cons.mp this with h | h
          · rw [h]; rfl
          · rcases List.mem_cons.mp h with h | h
            · rw [h]; rfl
            · rw [(List.mem_replicate.mp h).2]; rfl
        rw [this i sl hi] at ho
        cases ho
    · subst h
      cases hr
      exact q H2
theorem dlaw {P : Program} {w : World} {K : PySem.W.Frag} {mg : Str → Option Value} {base : Heap} {x qual y : Str} {s0 : Stmt} {rest : List Stmt} {st : Stmt} {f : Addr} {fd : FuncData} {N : List Str} {k : Nat} {dl : DTS} (F : Fun K x qual st f fd) (sc : FnScope N [y] (defScope st)) (hN : 2 ≤ N.length) (hbody : defBody st = s0 :: rest)
    (hb : ∀ (cdv : Value) (A : Around) (outer : List Env) (s : Shared) (H : Hp) (E : XK), Room k (A.deeper (envOfC qual (defScope st) s.heap.objs.size f cdv)) → PS (cxOf CX0 P w K mg base N qual (defScope st) f cdv A outer s H E).nox s0 (tAsg (tCall (spDeck K) [] E0 (tCons (tVar 0) tNil)) (gName 1)) ∧ DSs (cxOf CX0 P w K mg base N qual (defScope st) f cdv A outer s H E).nox rest dl)
    (h : ∀ dk : Dk, dl (some dk) (startLaw N.length dk) 1000000000000 { nx := fun _ _ => False, rt := fun d _ => d = .bool true }) : FnOk P w K mg base CX0 (k + 1) f fd [y] (spLaw K) :=
  have F' := dlawT (T := []) List.nodup_nil F sc hN hbody hb fun dk _ => h dk
  F'.imp fun vs H Q E h => ⟨fun _ z => (nomatch z), h⟩
end DL
namespace DL
open PySem PySem.Spec PyProof.Rows L2
/-! texts as lists of codes; names between dots -/
abbrev cd (s : Str) : List Nat := TL.tl s
def sp : List Nat → List (List Nat)
  | [] => [[]]
  | c :: r => if c = 46 then [] :: sp r else match sp r with
    | [] => [[c]]
    | h :: t => (c :: h) :: t
theorem sp_ne : ∀ l : List Nat, sp l ≠ []
  | [] => by simp [sp]
  | c :: r => by
    unfold sp
    split
    · simp
    · split <;> simp
theorem spl_sp : ∀ (l acc : List Nat), TL.spl [46] 0 acc l = match sp l with
    | [] => [acc]
    | h :: t => (acc ++ h) :: t
  | [], acc => by rw [TL.spl_nil]; simp [sp]
  | c :: r, acc => by
    by_cases h : c = 46
    · subst h
      have hp : TL.pre [46] (46 :: r) = true := TL.pre_self [46] r
      rw [TL.spl_hit hp]
      have := spl_sp r []
      unfold sp
      rw [if_pos rfl]
      simp only [List.length_singleton, Nat.sub_self, List.append_nil]
      rw [this]
      cases e : sp r with
      | nil => exact absurd e (sp_ne r)
      | cons h t => simp
    · rw [TL.spl_miss (TL.pre_of_head [] r h), spl_sp r (acc ++ [c])]
      rw [sp, if_neg h]
      cases e : sp r with
      | nil => exact absurd e (sp_ne r)
      | cons h t => simp
theorem split_cd (x : Str) : (Txt.split x ".").map cd = sp (cd x) := by
  have := TL.split_spl x "." (by decide +kernel) (TL.kind_ok (by decide +kernel))
  rw [show TL.tl (Str.ofString ".") = [46] from by decide +kernel, spl_sp] at this
  rw [this]
  cases e : sp (cd x) with
  | nil => exact absurd e (sp_ne _)
  | cons h t => rfl
def jn : List (List Nat) → List Nat
  | [] => []
  | [a] => a
  | a :: b :: r => a ++ 46 :: jn (b :: r)
theorem joinL_jn : ∀ l : List (List Nat), TL.joinL [46] l = jn l
  | [] => rfl
  | [a] => rfl
  | a :: b :: r => by
    have := joinL_jn (b :: r)
    show a ++ ([46] ++ TL.joinL [46] (b :: r)) = a ++ 46 :: jn (b :: r)
    rw [this]
    rfl
theorem jn_sp : ∀ l : List Nat, jn (sp l) = l
  | [] => rfl
  | c :: r => by
    have ih := jn_sp r
    unfold sp
    split
    · next h =>
      subst h
      cases e : sp r with
      | nil => exact absurd e (sp_ne r)
      | cons h t =>
        rw [e] at ih
        show [] ++ 46 :: jn (h :: t) = 46 :: r
        rw [ih]
        rfl
    · cases e : sp r with
      | nil => exact absurd e (sp_ne r)
      | cons h t =>
        rw [e] at ih
        cases t with
        | nil => show c :: h = c :: r; rw [← ih]; rfl
        | cons b t => show (c :: h) ++ 46 :: jn (b :: t) = c :: r; rw [← ih]; rfl
theorem sp_one : ∀ {a : List Nat}, 46 ∉ a → sp a = [a]
  | [], _ => rfl
  | c :: r, h => by
    have hc : c ≠ 46 := fun e => h (by simp [e])
    have hr : 46 ∉ r := fun e => h (by simp [e])
    unfold sp
    rw [if_neg hc, sp_one hr]
theorem sp_app : ∀ (a r : List Nat), sp (a ++ 46 :: r) = sp a ++ sp r
  | [], r => by
    show sp (46 :: r) = [[]] ++ sp r
    rw [show sp (46 :: r) = if (46 : Nat) = 46 then [] :: sp r else _ from rfl, if_pos rfl]
    rfl
  | c :: a, r => by
    have ih := sp_app a r
    show sp (c :: (a ++ 46 :: r)) = _
    rw [sp, sp]
    by_cases h : c = 46
    · rw [if_pos h, if_pos h, ih]; rfl
    · rw [if_neg h, if_neg h, ih]
      cases e : sp a with
      | nil => exact absurd e (sp_ne a)
      | cons hd t => rfl
theorem jn_app : ∀ (a b : List (List Nat)), a ≠ [] → b ≠ [] → jn (a ++ b) = jn a ++ 46 :: jn b
  | [], _, h, _ => absurd rfl h
  | [x], [], _, h => absurd rfl h
  | [x], b :: r, _, _ => rfl
  | x :: y :: a, b, _, hb => by
    have := jn_app (y :: a) b (by simp) hb
    show x ++ 46 :: jn ((y :: a) ++ b) = (x ++ 46 :: jn (y :: a)) ++ 46 :: jn b
    rw [this]
    simp
theorem sp_jn : ∀ {l : List (List Nat)}, l ≠ [] → (∀ n ∈ l, 46 ∉ n) → sp (jn l) = l
  | [], h, _ => absurd rfl h
  | [a], _, h => sp_one (h a (by simp))
  | a :: b :: r, _, h => by
    show sp (a ++ 46 :: jn (b :: r)) = _
    rw [sp_app, sp_one (h a (by simp)), sp_jn (by simp) fun n hn => h n (by simp [hn])]
    rfl
theorem sp_inj {a b : List Nat} (h : sp a = sp b) : a = b := by rw [← jn_sp a, h, jn_sp]
/-- covering, by codes -/
theorem cov_iff (p o : List Nat) : (sp o).take (sp p).length = sp p ↔ o = p ∨ (p ++ [46]).isPrefixOf o = true := by
  constructor
  · intro h
    have e : sp o = sp p ++ (sp o).drop (sp p).length := by rw [← h, List.length_take]; rw [show min (sp p).length (sp o).length = (sp p).length from by have := congrArg List.length h; rw [List.length_take] at this; exact this]; rw [List.take_append_drop]
    by_cases hr : (sp o).drop (sp p).length = []
    · rw [hr, List.append_nil] at e
      exact .inl (sp_inj e)
    · right
      have := congrArg jn e
      rw [jn_sp, jn_app _ _ (sp_ne p) hr, jn_sp] at this
      rw [this, List.isPrefixOf_iff_prefix]
      exact ⟨jn ((sp o).drop (sp p).length), by simp⟩
  · rintro (h | h)
    · rw [h, List.take_length]
    · rw [List.isPrefixOf_iff_prefix] at h
      obtain ⟨r, rfl⟩ := h
      rw [List.append_assoc]
      show List.take _ (sp (p ++ 46 :: r)) = _
      rw [sp_app, List.take_left']
      rfl
theorem starts_cd (x y : Str) : Txt.startswith x y = (cd y).isPrefixOf (cd x) := by
  have hx : x.length = (cd x).length := TL.len_tl x
  have hy : y.length = (cd y).length := TL.len_tl y
  unfold Txt.startswith Builtin.Str.subAt
  rw [Bool.eq_iff_iff, Bool.and_eq_true, decide_eq_true_iff, List.isPrefixOf_iff_prefix, beq_iff_eq]
  constructor
  · rintro ⟨_, h⟩
    have e := congrArg Array.toList h
    rw [Array.toList_extract] at e
    simp only [Nat.zero_add, List.extract_eq_drop_take, List.drop_zero, Nat.sub_zero] at e
    exact ⟨(cd x).drop y.length, by show y.cps.toList ++ _ = _; rw [← e]; exact List.take_append_drop _ _⟩
  · rintro ⟨r, h⟩
    have hl := congrArg List.length h
    rw [List.length_append] at hl
    refine ⟨by omega, ?_⟩
    apply Array.toList_inj.mp
    rw [Array.toList_extract]
    simp only [Nat.zero_add, List.extract_eq_drop_take, List.drop_zero, Nat.sub_zero]
    show List.take y.length (cd x) = cd y
    rw [← h, hy, List.take_left']
    rfl
/-- path covers other -/
def cov (p o : Str) : Bool := decide (o = p) || Txt.startswith o (p ++ ".")
theorem cov_take (p o : Str) : cov p o = decide ((Txt.split o ".").take (Txt.split p ".").length = Txt.split p ".") := by
  have e1 := split_cd p
  have e2 := split_cd o
  have hl : (Txt.split p ".").length = (sp (cd p)).length := by rw [← e1, List.length_map]
  unfold cov
  rw [Bool.eq_iff_iff, Bool.or_eq_true, decide_eq_true_iff, decide_eq_true_iff, starts_cd, show cd (p ++ ".") = cd p ++ cd "." from TL.tl_append p ".", show cd (Str.ofString ".") = [46] from by decide +kernel]
  constructor
  · intro h
    have := (cov_iff (cd p) (cd o)).mpr (h.imp (fun e => by rw [e]) id)
    apply TL.map_tl_inj
    rw [List.map_take, hl]
    show List.take _ ((Txt.split o ".").map cd) = (Txt.split p ".").map cd
    rw [e1, e2]
    exact this
  · intro h
    have := congrArg (List.map cd) h
    rw [List.map_take, hl, e1, e2] at this
    exact ((cov_iff (cd p) (cd o)).mp this).imp (fun e => TL.ext_tl e) id
/-! plain texts -/
def asc (s : Str) : Prop := ∀ c ∈ cd s, c < 128
theorem asc_ok {s : Str} (h : asc s) : PyData.strOk s = true := by
  unfold PyData.strOk
  rw [Array.all_eq_true_iff_forall_mem]
  intro c hc
  have := h c (by simpa [cd, TL.tl] using hc)
  exact decide_eq_true (by omega)
theorem pyA_strs : ∀ l : List Str, pyA (l.map D.str) = l.map PyData.str
  | [] => rfl
  | x :: l => by show PyData.str x :: pyA (l.map D.str) = _; rw [pyA_strs l]; rfl
theorem lay_strs : ∀ {l : List Str}, (∀ s ∈ l, asc s) → PyData.canLayAll0 (l.map PyData.str) = true
  | [], _ => rfl
  | x :: l, h => Bool.and_eq_true_iff.mpr ⟨asc_ok (h x (by simp)), lay_strs fun s hs => h s (by simp [hs])⟩
theorem depth_strs : ∀ l : List Str, PyData.depthAll (l.map PyData.str) = 0
  | [] => rfl
  | x :: l => by show max 0 (PyData.depthAll (l.map PyData.str)) = 0; rw [depth_strs l]; rfl
theorem eqvAll_strs : ∀ l m : List Str, PyData.eqvAll (l.map PyData.str) (m.map PyData.str) = decide (l = m)
  | [], [] => rfl
  | [], _ :: _ => rfl
  | _ :: _, [] => rfl
  | x :: l, y :: m => by
    show ((x == y) && PyData.eqvAll (l.map PyData.str) (m.map PyData.str)) = _
    rw [eqvAll_strs l m, Bool.eq_iff_iff]
    simp
theorem shaped_strs {l : List Str} (h : ∀ s ∈ l, asc s) : SeqAt.shaped (D.lst (l.map D.str)).py = true := by
  show (PyData.canLayAll0 (pyA (l.map D.str)) && decide (PyData.depthAll (pyA (l.map D.str)) + 1 ≤ 64)) = true
  rw [pyA_strs, lay_strs h, depth_strs]
  rfl
theorem shaped_strsT {l : List Str} (h : ∀ s ∈ l, asc s) : SeqAt.shaped (D.tup (l.map D.str)).py = true := shaped_strs h
theorem oEq_lst {l m : List Str} {neg : Bool} {Q : D → Prop} (hl : ∀ s ∈ l, asc s) (hm : ∀ s ∈ m, asc s) (h : Q (.bool (xb neg (decide (l = m))))) : oEq neg (.lst (l.map D.str)) (.lst (m.map D.str)) Q := by
  refine oEq_data (shaped_strs hl) (shaped_strs hm) ?_
  show Q (.bool (xb neg (PyData.eqvAll (pyA (l.map D.str)) (pyA (m.map D.str)))))
  rw [pyA_strs, pyA_strs, eqvAll_strs]
  exact h
theorem cutD_take (xs : List D) (n : Nat) : cutD xs none (some (n : Int)) = xs.take n := by
  unfold cutD
  rw [HT.sIx_none, HT.sIx_nat]
  simp only [List.drop_zero, Nat.sub_zero]
  rw [← List.take_eq_take_min]
section
variable {K : PySem.W.Frag}
theorem shaped_ints (l : List Int) : SeqAt.shaped (.list (l.map PyData.int)) = true := by
  have h1 : PyData.canLayAll0 (l.map PyData.int) = true := by
    induction l with
    | nil => rfl
    | cons x l ih => exact Bool.and_eq_true_iff.mpr ⟨rfl, ih⟩
  have h2 : PyData.depthAll (l.map PyData.int) = 0 := by
    clear h1
    induction l with
    | nil => rfl
    | cons x l ih =>
      show max 0 (PyData.depthAll (l.map PyData.int)) = 0
      rw [ih]
      rfl
  unfold SeqAt.shaped
  show (PyData.canLayAll0 (l.map PyData.int) && decide (PyData.depthAll (l.map PyData.int) + 1 ≤ 64)) = true
  rw [h1, h2]
  rfl
theorem dp_ints {H : Hp} {a : Addr} {l : List Int} (h : H a = some (.lst (l.map V.int))) : Dp K H (.ref a) (.list (l.map PyData.int)) := by
  refine .lst (SqL.of h) ?_
  clear h
  induction l with
  | nil => exact .nil
  | cons x l ih => exact .cons (.int x) ih
theorem lo64 {x : Int} (h : 0 ≤ x) : -(2 ^ 64) < x := by omega
theorem hi64 {x : Int} (h : x < 2147483647) : x < 2 ^ 64 := by omega
theorem ix0 (n : Nat) : ixN (n + 1) 0 = some 0 := by
  unfold ixN
  rw [if_pos (by decide), if_pos (by omega)]
  rfl
theorem atI0 {α : Type} {x : α} {l : List α} : atI (x :: l) 0 = some x := atI_nat (j := 0) rfl
theorem same_upd {H : Hp} {p : Addr} {o : HO} (h : H p = none) : Same H (upd H p o) := fun b x e => by
  rw [upd_ne (ne_of_none e h)]
  exact e
end
end DL
namespace DL
open PySem PySem.Spec PyProof.Rows L2
/-! names and paths -/
def isName (s : Str) : Prop := 1 ≤ s.length ∧ s.length ≤ 8 ∧ ∀ c ∈ cd s, 97 ≤ c ∧ c ≤ 122
def PathN (m : Nat) (s : Str) : Prop := ∃ ns : List Str, 1 ≤ ns.length ∧ ns.length ≤ m ∧ (∀ n ∈ ns, isName n) ∧ s = Txt.join "." ns
theorem cd_join (ns : List Str) : cd (Txt.join "." ns) = jn (ns.map cd) := by
  rw [TL.join_eq]
  show TL.tl (Str.join "." ns) = _
  rw [TL.tl_join, show TL.tl (Str.ofString ".") = [46] from by decide +kernel, joinL_jn]
theorem jn_len : ∀ {l : List (List Nat)}, (∀ n ∈ l, n.length ≤ 8) → (jn l).length ≤ 9 * l.length
  | [], _ => Nat.zero_le _
  | [a], h => by have := h a (by simp); simp only [jn, List.length_singleton]; omega
  | a :: b :: r, h => by
    have ih := jn_len (l := b :: r) fun n hn => h n (by simp [hn])
    have := h a (by simp)
    simp only [jn, List.length_append, List.length_cons] at ih ⊢
    omega
theorem jn_mem {c : Nat} : ∀ {l : List (List Nat)}, c ∈ jn l → c = 46 ∨ ∃ n ∈ l, c ∈ n
  | [], h => by simp [jn] at h
  | [a], h => .inr ⟨a, by simp, h⟩
  | a :: b :: r, h => by
    have h : c ∈ a ++ 46 :: jn (b :: r) := h
    rcases List.mem_append.mp h with h | h
    · exact .inr ⟨a, by simp, h⟩
    · rcases List.mem_cons.mp h with h | h
      · exact .inl h
      · rcases jn_mem (l := b :: r) h with h | ⟨n, h1, h2⟩
        · exact .inl h
        · exact .inr ⟨n, by simp [h1], h2⟩
theorem isName.asc {s : Str} (h : isName s) : asc s := fun c hc => by have := h.2.2 c hc; omega
theorem isName.cdl {s : Str} (h : isName s) : (cd s).length ≤ 8 := by have := h.2.1; rw [TL.len_tl] at this; exact this
theorem PathN.mono {m n : Nat} {s : Str} (h : PathN m s) (e : m ≤ n) : PathN n s := by
  obtain ⟨ns, h1, h2, h3, h4⟩ := h
  exact ⟨ns, h1, by omega, h3, h4⟩
theorem PathN.len {m : Nat} {s : Str} (h : PathN m s) : s.length ≤ 9 * m := by
  obtain ⟨ns, h1, h2, h3, rfl⟩ := h
  have : (cd (Txt.join "." ns)).length ≤ 9 * (ns.map cd).length := by
    rw [cd_join]
    exact jn_len fun n hn => by
      obtain ⟨s, hs, rfl⟩ := List.mem_map.mp hn
      exact (h3 s hs).cdl
  rw [List.length_map] at this
  rw [TL.len_tl]
  show (cd (Txt.join "." ns)).length ≤ 9 * m
  omega
theorem PathN.asc {m : Nat} {s : Str} (h : PathN m s) : asc s := by
  obtain ⟨ns, h1, h2, h3, rfl⟩ := h
  intro c hc
  rw [cd_join] at hc
  rcases jn_mem hc with e | ⟨n, hn, e⟩
  · omega
  · obtain ⟨s, hs, rfl⟩ := List.mem_map.mp hn
    exact (h3 s hs).asc c e
theorem join_names (ns : List Str) (h : ∀ n ∈ ns, n.length ≤ 1000) (hl : ns.length ≤ 1000) (a : Str) (ha : a.length ≤ 8) : (ns.map (·.length)).sum + ns.length * a.length ≤ 16777216 := by
  have : ∀ ns : List Str, (∀ n ∈ ns, n.length ≤ 1000) → (ns.map (·.length)).sum ≤ 1000 * ns.length := by
    intro ns
    induction ns with
    | nil => intro _; exact Nat.le_refl _
    | cons x l ih =>
      intro h
      have h1 := h x (by simp)
      have h2 := ih fun n hn => h n (by simp [hn])
      simp only [List.map_cons, List.sum_cons, List.length_cons]
      omega
  have h1 := this ns h
  have h2 : ns.length * a.length ≤ ns.length * 8 := Nat.mul_le_mul_left _ ha
  omega
theorem atI_mem {α : Type} {xs : List α} {r : Int} (h0 : 0 ≤ r) (h1 : r < xs.length) : ∃ d, atI xs r = some d ∧ d ∈ xs := by
  have hl : r.toNat < xs.length := by omega
  have := atI_nat (xs := xs) (j := r.toNat) (v := xs[r.toNat]) (List.getElem?_eq_getElem hl)
  rw [Int.toNat_of_nonneg h0] at this
  exact ⟨_, this, List.getElem_mem hl⟩
theorem join_nil_cd (ns : List Str) : cd (Txt.join "" ns) = (ns.map cd).flatten := by
  rw [TL.join_eq]
  show TL.tl (Str.join "" ns) = _
  rw [TL.tl_join, show TL.tl (Str.ofString "") = [] from by decide +kernel]
  have : ∀ l : List (List Nat), TL.joinL [] l = l.flatten := by
    intro l
    induction l with
    | nil => rfl
    | cons a l ih =>
      cases l with
      | nil => simp [TL.joinL]
      | cons b l => show a ++ ([] ++ TL.joinL [] (b :: l)) = _; rw [ih]; rfl
  exact this _
theorem intsD_len (lo : Int) (n : Nat) : (intsD lo n).length = n := by unfold intsD; simp
end DL
namespace DL
open PySem PySem.Spec PyProof.Rows L2
section
variable {X : Cx} {K : PySem.W.Frag}
/-! zip of two lists, of two tuples -/
theorem pair_stp {H Hs : Hp} {T : Addr} {x y : V} {dx dy : D} (s : Same Hs H) (hT : H T = none) (h1 : Rp K Hs dx x) (h2 : Rp K Hs dy y) : ∃ Hs', Stp none H Hs (upd H T (.tup [x, y])) Hs' ∧ Rp K Hs' (.tup [dx, dy]) (.ref T) :=
  ⟨upd Hs T (.tup [x, y]), Stp.alloc s hT, rp_tup ⟨x, [y], rfl, h1, RpA.one h2⟩ (same_none s hT)⟩
end
def D.isSt : D → Bool
  | .str _ => true
  | _ => false
/-! data that are told apart sign by sign -/
mutual
/-- no objects within; dicts as they are -/
def D.tyd : D → Bool
  | .tup xs => tydA xs
  | .lst xs => tydA xs
  | .dtt _ _ => false
  | .ktup _ => false
  | .ftp _ => false
  | .obj _ _ _ => false
  | .exn _ _ _ => false
  | .any _ => false
  | _ => true
def tydA : List D → Bool
  | [] => true
  | x :: xs => x.tyd && tydA xs
end
mutual
def D.dep : D → Nat
  | .tup xs => depA xs + 1
  | .lst xs => depA xs + 1
  | _ => 0
def depA : List D → Nat
  | [] => 0
  | x :: xs => max x.dep (depA xs)
end
end DL
namespace DL
open PySem PySem.Spec PyProof.Rows L2
theorem split_join_names {ns : List Str} (h0 : ns ≠ []) (h : ∀ n ∈ ns, isName n) : Txt.split (Txt.join "." ns) "." = ns := by
  apply TL.map_tl_inj
  show List.map cd _ = List.map cd _
  rw [split_cd, cd_join, sp_jn (by simpa using h0)]
  intro n hn hm
  obtain ⟨s, hs, rfl⟩ := List.mem_map.mp hn
  have := (h s hs).2.2 46 hm
  omega
theorem join_snoc (ns : List Str) (n : Str) (h : ns ≠ []) : Txt.join "." ns ++ "." ++ n = Txt.join "." (ns ++ [n]) := by
  apply TL.ext_tl
  show cd _ = cd _
  rw [cd_join, List.map_append, List.map_singleton, jn_app _ _ (by simpa using h) (by simp)]
  show TL.tl _ = _
  rw [TL.tl_append, TL.tl_append, show TL.tl (Str.ofString ".") = [46] from by decide +kernel]
  show cd (Txt.join "." ns) ++ [46] ++ cd n = _
  rw [cd_join]
  simp [jn]
end DL
namespace DL
open PySem PySem.Spec PyProof.Rows L2
section
variable {X : Cx} {K : PySem.W.Frag}
/-! x in y -/
def rInT (K : PySem.W.Frag) (neg : Bool) : R2 := fun x y H Q => ∃ d ds, Dp K H x d ∧ Dp K H y (.tuple ds) ∧ SeqAt.shaped d = true ∧ SeqAt.shaped (.tuple ds) = true ∧ Q (.bl (xb neg (ds.any fun z => PyData.eqv z d))) H
theorem op_inT (hu : X.A.units + 65 < cLine) : OpR X (compareOp .In) (rInT X.K false) := by
  intro pins s st H x y v u Q I rx ry h
  obtain ⟨d, ds, hd, he, sd, se, q⟩ := h
  obtain ⟨as, r1⟩ := Dp.reads I d x v hd rx
  obtain ⟨bs, r2⟩ := Dp.reads I (.tuple ds) y u he ry
  exact SeqAt.in_tuple_reads r2 r1 (SeqAt.canLay_of_shaped se) (SeqAt.canLay_of_shaped sd) (room_in_shaped sd hu) ⟨.bl _, H, I, rfl, q⟩
theorem op_notInT (hu : X.A.units + 65 < cLine) : OpR X (compareOp .NotIn) (rInT X.K true) := by
  intro pins s st H x y v u Q I rx ry h
  obtain ⟨d, ds, hd, he, sd, se, q⟩ := h
  obtain ⟨as, r1⟩ := Dp.reads I d x v hd rx
  obtain ⟨bs, r2⟩ := Dp.reads I (.tuple ds) y u he ry
  exact SeqAt.notIn_tuple_reads r2 r1 (SeqAt.canLay_of_shaped se) (SeqAt.canLay_of_shaped sd) (room_in_shaped sd hu) ⟨.bl _, H, I, rfl, q⟩
def rSign (neg : Bool) : R2 := fun x y H Q => ∃ (c : Nat) (z : Str), x = .str ⟨#[c]⟩ ∧ y = .str z ∧ Q (.bl (xb neg (decide (c ∈ z.cps.toList)))) H
def rInA (K : PySem.W.Frag) : R2 := fun x y H Q => rSign false x y H Q ∨ (rInD K x y H Q ∨ rInT K false x y H Q)
def rNotInA (K : PySem.W.Frag) : R2 := fun x y H Q => rSign true x y H Q ∨ (rNotInD K x y H Q ∨ rInT K true x y H Q)
theorem op_inA (hu : X.A.units + 65 < cLine) : OpR X (compareOp .In) (rInA X.K) := (show OpR X (compareOp .In) (rSign false) from op_in_sign).or ((op_inD hu).or (op_inT hu))
theorem op_notInA (hu : X.A.units + 65 < cLine) : OpR X (compareOp .NotIn) (rNotInA X.K) := (show OpR X (compareOp .NotIn) (rSign true) from op_notIn_sign).or ((op_notInD hu).or (op_notInT hu))
def oIn (neg : Bool) : O2 := fun x y Q => match y with
  | .str z => ∃ c : Nat, x = .str ⟨#[c]⟩ ∧ Q (.bool (xb neg (decide (c ∈ z.cps.toList))))
  | .lst ys => SeqAt.shaped x.py = true ∧ SeqAt.shaped (.list (pyA ys)) = true ∧ Q (.bool (xb neg ((pyA ys).any fun z => PyData.eqv z x.py)))
  | .tup ys => SeqAt.shaped x.py = true ∧ SeqAt.shaped (.tuple (pyA ys)) = true ∧ Q (.bool (xb neg ((pyA ys).any fun z => PyData.eqv z x.py)))
  | _ => False
theorem sr_in : SndR K (rInA K) (oIn false) := SndR.pure fun H Hs x y vx vy Q Q' s rx ry hq hd => by
  cases y <;> try exact hd.elim
  · obtain ⟨c, rfl, h⟩ := hd
    exact .inl ⟨c, _, rx, ry, hq (.bool _) _ rfl h⟩
  · next ys => exact .inr (.inr ⟨x.py, pyA ys, dp_mono s (rx.dpS hd.1), dp_mono s (Rp.dpS (d := .tup ys) ry hd.2.1), hd.1, hd.2.1, hq (.bool _) _ rfl hd.2.2⟩)
  · next ys => exact .inr (.inl ⟨x.py, pyA ys, dp_mono s (rx.dpS hd.1), dp_mono s (Rp.dpS (d := .lst ys) ry hd.2.1), hd.1, hd.2.1, hq (.bool _) _ rfl hd.2.2⟩)
theorem sr_notIn : SndR K (rNotInA K) (oIn true) := SndR.pure fun H Hs x y vx vy Q Q' s rx ry hq hd => by
  cases y <;> try exact hd.elim
  · obtain ⟨c, rfl, h⟩ := hd
    exact .inl ⟨c, _, rx, ry, hq (.bool _) _ rfl h⟩
  · next ys => exact .inr (.inr ⟨x.py, pyA ys, dp_mono s (rx.dpS hd.1), dp_mono s (Rp.dpS (d := .tup ys) ry hd.2.1), hd.1, hd.2.1, hq (.bool _) _ rfl hd.2.2⟩)
  · next ys => exact .inr (.inl ⟨x.py, pyA ys, dp_mono s (rx.dpS hd.1), dp_mono s (Rp.dpS (d := .lst ys) ry hd.2.1), hd.1, hd.2.1, hq (.bool _) _ rfl hd.2.2⟩)
theorem room65 {k : Nat} {A : Around} (r : Room k A) : A.units + 65 < cLine := by have := r.un; omega
theorem de_in {k : Nat} {a b : Expr} {pos : Pos} {da db : DT} (hr : Room k X.A) (ha : DE X a da) (hb : DE X b db) (hm : behindInMarks .In b = false := by rfl) : DE X (.Compare a [.In] [b] pos) (dOp (oIn false) da db) := de_cmp (op_inA (room65 hr)) sr_in ha hb hm
theorem dp_in {k : Nat} {a b : Expr} {pos : Pos} {da db : DT} (hr : Room k X.A) (ha : DE X a da) (hb : DE X b db) (hm : behindInMarks .In b = false := by rfl) : DP X (.Compare a [.In] [b] pos) (dTest (dOp (oIn false) da db)) := dp_cmp (op_inA (room65 hr)) sr_in ha hb hm
theorem dp_notIn {k : Nat} {a b : Expr} {pos : Pos} {da db : DT} (hr : Room k X.A) (ha : DE X a da) (hb : DE X b db) (hm : behindInMarks .NotIn b = false := by rfl) : DP X (.Compare a [.NotIn] [b] pos) (dTest (dOp (oIn true) da db)) := dp_cmp (op_notInA (room65 hr)) sr_notIn ha hb hm
/-! text * number -/
def CMulS (x : Str) (n : Int) : Prop := 0 ≤ n ∧ n ≤ 100000 ∧ x.length * n.toNat ≤ lim
theorem CMulS.ok {x : Str} {n : Int} (h : CMulS x n) : MulOk x n := by
  obtain ⟨h0, h1, h2⟩ := h
  refine ⟨?_, fun a b c => ?_, fun a b => ?_⟩
  · rw [decide_eq_false (by omega), decide_eq_false (by omega)]; rfl
  · have h3 : (x.length : Int) ≤ (2 ^ 63 - 1) / n := by
      rw [Int.le_ediv_iff_mul_le (by omega)]
      have e : (x.length : Int) * n = ((x.length * n.toNat : Nat) : Int) := by rw [Int.natCast_mul, Int.toNat_of_nonneg h0]
      rw [e]
      have : lim = 1000000 := rfl
      omega
    omega
  · unfold Builtin.Str.tooLong
    exact decide_eq_false (by have := lim_le h2; omega)
/-! {} and {k: v} -/
end
end DL
namespace DL
open PySem PySem.Spec PyProof.Rows L2
/-! instances of own classes -/
structure KC (K : PySem.W.Frag) (c : Str) (C : Addr) : Prop where
  ns : PySem.W.nsIn K mainGlobals c = some (some (.ref C))
  cls : Cls K C
theorem KC.uniq {K : PySem.W.Frag} {c : Str} {C C' : Addr} (k : KC K c C) (h : PySem.W.nsIn K mainGlobals c = some (some (.ref C'))) : C' = C := by
  have := k.ns
  rw [h] at this
  cases this
  rfl
section
variable {X : Cx} {K : PySem.W.Frag} {W : WX}
theorem lookup_zip {H : Hp} {f : Str} {y : D} : ∀ {ns : List Str} {xs : List D} {vs : List V}, RpA K H xs vs → (ns.zip xs).lookup f = some y → ∃ v, (ns.zip vs).lookup f = some v ∧ Rp K H y v
  | [], _, _, _, h => by simp at h
  | _ :: _, [], _, _, h => by simp at h
  | n :: ns, x :: xs, _, ⟨v, r, h1, h2, h3⟩, h => by
    subst h1
    rw [List.zip_cons_cons, List.lookup_cons] at h ⊢
    cases e : f == n with
    | true => rw [e] at h; cases h; exact ⟨v, rfl, h2⟩
    | false => rw [e] at h; exact lookup_zip h3 h
theorem putF_new {f : Str} {v : V} : ∀ {ns : List Str} {vs : List V}, ns.length = vs.length → f ∉ ns → putF f v (ns.zip vs) = (ns ++ [f]).zip (vs ++ [v])
  | [], [], _, _ => rfl
  | n :: ns, w :: vs, hl, h => by
    have e : n ≠ f := fun e => h (by simp [e])
    show (if n = f then _ else _) = _
    rw [if_neg e]
    show (n, w) :: putF f v (ns.zip vs) = _
    rw [putF_new (by simpa using hl) fun e => h (by simp [e])]
    rfl
/-! e.f -/
def dFld (c f : Str) (dl : DT) : DT := fun g r n Q => dl g r n fun d n1 => match d with
  | .obj c' ns xs => c' = c ∧ ∃ y, (ns.zip xs).lookup f = some y ∧ Q y n1
  | _ => False
theorem snd_fld {c f : Str} {C : Addr} {t : TE} {d : DT} (k : KC K c C) (n : NoAttr K C f) (h : Snd K t d) : Snd K (tFld K t f) (dFld c f d) := fun g r fu st H Hs Q Q' A hq hd =>
  h g r fu st H Hs _ _ A (fun x f1 v H1 Hs1 s1 k1 r1 q1 => by
    cases x <;> try exact q1.elim
    obtain ⟨rfl, y, hy, q1⟩ := q1
    obtain ⟨C', a, dx, vs, h0, rfl, h2, h3, h4, h5⟩ := r1
    cases k.uniq h0
    obtain ⟨w, hw, rw'⟩ := lookup_zip h5 hy
    exact ⟨a, C, dx, _, w, rfl, s1.sub _ _ h2, k.cls, n, hw, hq y f1 w H1 Hs1 s1 k1 rw' q1⟩) hd
theorem de_fld {c f : Str} {C : Addr} {e : Expr} {pos : Pos} {d : DT} (k : KC X.K c C) (n : NoAttr X.K C f) (h : DE X e d) (hb : attributeBase e f X.env (eval e X.env) = eval e X.env := by rfl) : DE X (.Attribute e f pos) (dFld c f d) :=
  .mk' (pe_fld h.pe hb) (snd_fld k n h.sn)
/-! self.f = e under __init__ -/
def sFldO (m : Bool) (i : Nat) (c f : Str) (dl : DT) : DTS := fun g r n E => ∃ a ns xs, r[i]? = some (.oi a c ns xs) ∧ f ∉ ns ∧ ns.length < 900 ∧ evM m dl g r n fun d n' => E.nx (r.set i (.oi a c (ns ++ [f]) (xs ++ [d]))) n'
theorem snd_fldO {m : Bool} {i : Nat} {c f : Str} {C : Addr} {t : TE} {d : DT} (k : KC K c C) (n : NoAttr K C f) (h : Snd K t d) : SndS K W (sFld K (tVar i) t f) (sFldO m i c f d) := fun g H0 Hs0 r fu st H D E s e hd => by
  obtain ⟨Hs, s⟩ := s
  obtain ⟨a, ns, xs, hx, hf, hl, hd⟩ := hd
  refine snd_evM h s (fun d f' v H' Hs' s' _ hr q => ?_) hd
  obtain ⟨_, ha, n1, n0, rfl, C', dx, vs, h0, q1, q2, q3, q4, q5, q6⟩ := s'.ow i _ hx rfl
  cases k.uniq h0
  have ho : Owned r st a := ⟨i, _, hx, rfl, ha⟩
  have hne : dx ≠ a := fun z => s'.notOwnedDx q2 (z ▸ ho)
  refine ⟨.ref a, ha, a, C, dx, ns.zip vs, rfl, q1, k.cls, n, ?_, e.nx _ f' st _ ⟨Hs', ?_⟩ q⟩
  · rw [List.length_zip]; omega
  · refine s'.mutOwn (u := .oi a c (ns ++ [f]) (xs ++ [d])) hx rfl ha rfl ⟨rfl, C, dx, vs ++ [v], h0, ?_, by rw [upd_ne hne]; exact q2, q3, q4, by simp [q5], q6.append (RpA.one hr)⟩
    rw [upd_same, putF_new q5 hf]
theorem ds_fldO (m : Bool) {i : Nat} {c f x : Str} {C : Addr} {e : Expr} {px apos pos : Pos} {d : DT} (k : KC X.K c C) (n : NoAttr X.K C f) (h : DE X e d) (hN : X.N[i]? = some x := by rfl) (hv : Vis X.env.scope x := by first | exact Or.inl rfl | exact Or.inr (Or.inl rfl) | exact Or.inr (Or.inr rfl)) (hd : (x == ("__debug__" : Str)) = false := by decide)
    (hcd : (x == ("__classdict__" : Str)) = false := by decide) (hs : swapsWith e (some (.Attribute (.Name x px) f apos)) pos.line X.env = pure false := by rfl) : DS X (.Assign [.Attribute (.Name x px) f apos] e pos) (sFldO m i c f d) :=
  .mk' (ps_fld (pe_var hN hv hd hcd) h.pe hs) (snd_fldO k n h.sn)
/-! C(..) -/
def spInit (K : PySem.W.Frag) (c : Str) (S : DSp) : Sp := fun vs H Q _ => ∃ (C x dx : Addr) (us : List V) (H1 : Hp) (g : Option Dk) (Hs : Hp) (ds : List D) (f : Nat) (Q' : QD), PySem.W.nsIn K mainGlobals c = some (some (.ref C)) ∧ vs = .ref x :: us ∧
  H = upd (upd H1 dx (.own x)) x (.ins C dx []) ∧ H1 x = none ∧ H1 dx = none ∧ dx ≠ x ∧ Same Hs H1 ∧ DkOk g H1 Hs f ∧ RpA K Hs ds us ∧ S g ds f Q' ∧
  ∀ d f' H' Hs', Stp g H1 Hs H' Hs' → DkOk g H' Hs' f' → Rp K Hs' d (.ref x) → Q' d f' → Q .non H'
structure Mkr (P : Program) (w : World) (K : PySem.W.Frag) (mg : Str → Option Value) (base : Heap) (k : Nat) (c : Str) (ps : List Str) (S : DSp) : Prop where
  ex : ∃ C f fd, Mk K C f ∧ FnOk P w K mg base CX0 k f fd ps (spInit K c S) ∧ Binds K fd ps [] ∧ PySem.W.nsIn K mainGlobals c = some (some (.ref C)) ∧ mg c = some (.ref C)
theorem snd_make {c : Str} {C : Addr} {S : DSp} {E : XK} {t : TA} {d : DTA} (h0 : PySem.W.nsIn K mainGlobals c = some (some (.ref C))) (ht : SndA K t d) : Snd K (tMake C (spInit K c S) [] E t) (dCall S d) := fun g ro f st H Hs Q Q' A hq hd =>
  ht g ro f st H Hs _ _ A (fun ds f1 vs H1 Hs1 s1 k1 r1 q1 => fun x dx hx hdx hne => by
    show spInit K c S (.ref x :: (vs ++ [])) _ _ E
    rw [List.append_nil]
    exact ⟨C, x, dx, vs, H1, g, Hs1, ds, f1, Q', h0, rfl, rfl, hx, hdx, hne, s1.sub, k1, r1, q1, fun d f' H' Hs' s2 k2 r2 q2 => ⟨rfl, hq d f' (.ref x) H' Hs' (s1.trans s2) k2 r2 q2⟩⟩) hd
theorem de_make {c : Str} {ps : List Str} {k : Nat} {S : DSp} {p pos : Pos} {e : Expr} {es : List Expr} {d : DTA} (m : Mkr X.prog X.w X.K X.mg X.base k c ps S) (hr : Room (k + 1) X.A)
    (ha : DA X (e :: es) d) (hg : Gl X c := by rfl) (hdb : (c == ("__debug__" : Str)) = false := by decide) (hs : starEach (e :: es) X.env = (false, eval e X.env) :: starEach es X.env := by rfl)
    (hpl : (backTo pos (starEach es X.env)).any (·.1) = false := by rfl) : DE X (.Call (.Name c p) (e :: es) [] pos) (dCall S d) := by
  obtain ⟨C, f, fd, M, F, hb, h0, hm⟩ := m.ex
  exact .mk' (pe_make M F hr hg hm hb .nil pass0 ha.pa hdb hs hpl) (snd_make h0 ha.sn)
/-- the instance under __init__ is shared -/
theorem SIn.shareO {g : Option Dk} {H0 Hs0 : Hp} {r : Sg} {f : Nat} {st : L2.St} {H Hs : Hp} (s : SIn K g H0 Hs0 r f st H Hs) {i : Nat} {c : Str} {ns : List Str} {xs : List D} {a : Addr} (hi : r[i]? = some (.oi a c ns xs)) :
    ∃ Hs', Stp g H0 Hs0 H Hs' ∧ DkOk g H Hs' f ∧ Rp K Hs' (.obj c ns xs) (.ref a) := by
  obtain ⟨_, ha, n1, n0, rfl, C, dx, vs, h0, q1, q2, q3, q4, q5, q6⟩ := s.ow i _ hi rfl
  have ho : Owned r st a := ⟨i, _, hi, rfl, ha⟩
  have hne : dx ≠ a := fun z => s.notOwnedDx q2 (z ▸ ho)
  have na : (upd Hs dx (.own a)) a = none := by rw [upd_ne fun z => hne z.symm]; exact n1
  refine ⟨upd (upd Hs dx (.own a)) a (.ins C dx (ns.zip vs)), (s.stp.share q4 q2 q3).share n0 q1 na, (s.dk.share (s.dkDx q4) q3).share (s.notDk ho) na, C, a, dx, vs, h0, rfl, upd_same, by rw [upd_ne hne, upd_same], q5, q6.mono fun b u e => ?_⟩
  rw [upd_ne (ne_of_none e n1), upd_ne (ne_of_none e q3)]
  exact e
/-! a def __init__ -/
def startI (n : Nat) (a : Addr) (c : Str) (ds : List D) : Sg := .oi a c [] [] :: (ds.map .sh ++ List.replicate (n - ds.length) .no)
variable {P : Program} {w : World} {mg : Str → Option Value} {base : Heap}
theorem dinit {x qual c : Str} {st : Stmt} {f : Addr} {fd : FuncData} {nm : Str} {N ps : List Str} {k : Nat} {S : DSp} {dl : DTS} (F : Fun K x qual st f fd) (sc : FnScope (nm :: N) (nm :: ps) (defScope st)) (len : ∀ g ds n Q, S g ds n Q → ds.length = ps.length)
    (hb : ∀ (cdv : Value) (A : Around) (outer : List Env) (s : Shared) (H : Hp) (E : XK), Room k (A.deeper (envOfC qual (defScope st) s.heap.objs.size f cdv)) → DSs (cxOf CX0 P w K mg base (nm :: N) qual (defScope st) f cdv A outer s H E).nox (defBody st) dl)
    (h : ∀ a g ds n Q, S g ds n Q → dl g (startI N.length a c ds) n { nx := fun r n => ∃ ns xs, r[0]? = some (.oi a c ns xs) ∧ Q (.obj c ns xs) n, rt := fun _ _ => False }) : FnOk P w K mg base CX0 (k + 1) f fd (nm :: ps) (spInit K c S) := by
  refine F.ok sc (fun vs H Q E h => ?_) (fun cdv A outer s H vs Q E hr hsp => ?_)
  · obtain ⟨C, x, dx, us, H1, g, Hs, ds, n, Q', h0, rfl, _, _, _, _, h1, h2, h3, h4, h5⟩ := h
    show us.length + 1 = ps.length + 1
    rw [← h3.length, len g ds n Q' h4]
  · obtain ⟨C, x, dx, us, H1, g, Hs, ds, n, Q', h0, rfl, rfl, hx, hdx, hne, h1, h2, h3, h4, h5⟩ := hsp
    refine ⟨_, (hb cdv A outer s _ E hr).ps, ?_⟩
    have l1 : Stp g H1 Hs (upd H1 dx (.own x)) Hs := Stp.lay h1 hdx
    have hx1 : upd H1 dx (.own x) x = none := by rw [upd_ne fun z => hne z.symm]; exact hx
    have l2 : Stp g H1 Hs (upd (upd H1 dx (.own x)) x (.ins C dx [])) Hs := l1.trans (Stp.lay l1.sub hx1)
    have nx' := h2.out hx
    have ndx := h2.out hdx
    have hsx : Hs x = none := same_none h1 hx
    have hsdx : Hs dx = none := same_none h1 hdx
    have S0 : SIn K g H1 Hs (startR N.length ds) n (L2.start N us) H1 Hs := start_in h1 h2 h3
    have no : ∀ (i : Nat) (s : Sl), (startR N.length ds)[i]? = some s → s.own = false := fun i s h => by
      have := List.mem_of_getElem? h
      unfold startR at this
      rcases List.mem_append.mp this with h | h
      · obtain ⟨d, _, rfl⟩ := List.mem_map.mp h
        rfl
      · rw [(List.mem_replicate.mp h).2]
        rfl
    have st0 : L2.start (nm :: N) (.ref x :: us) = some (.ref x) :: L2.start N us := by
      unfold L2.start
      simp
    have SI : SIn K g H1 Hs (startI N.length x c ds) n (L2.start (nm :: N) (.ref x :: us)) (upd (upd H1 dx (.own x)) x (.ins C dx [])) Hs := by
      rw [st0]
      refine ⟨by show (startR N.length ds).length + 1 = (L2.start N us).length + 1; rw [S0.len], ⟨n, h2⟩, (h2.mut ndx).mut nx', l2, fun i d hi => ?_, fun i sl hi ho => ?_, fun i j sl u b hi hj ho ho' h1' h2' => ?_⟩
      · cases i with
        | zero => cases hi
        | succ i => exact S0.sh i d hi
      · cases i with
        | zero =>
          cases hi
          exact ⟨x, rfl, hsx, hx, rfl, C, dx, [], h0, upd_same, by rw [upd_ne hne, upd_same], hsdx, hdx, rfl, rfl⟩
        | succ i => rw [no i sl hi] at ho; cases ho
      · cases i with
        | zero =>
          cases j with
          | zero => rfl
          | succ j => rw [no j u hj] at ho'; cases ho'
        | succ i => rw [no i sl hi] at ho; cases ho
    refine (hb cdv A outer s (upd (upd H1 dx (.own x)) x (.ins C dx [])) E hr).sn g H1 Hs _ n _ _ _ { nx := fun r n => ∃ ns xs, r[0]? = some (.oi x c ns xs) ∧ Q' (.obj c ns xs) n, rt := fun _ _ => False } ⟨Hs, SI⟩ ⟨fun r f st H' q h => ?_, fun d f v H' Hs' p k hr h => h.elim, fun _ _ _ _ _ h => h, fun _ _ _ _ _ h => h, fun _ _ _ _ _ _ _ _ h => h.elim⟩ (h x g ds n Q' h4)
    obtain ⟨Hs', q⟩ := q
    obtain ⟨ns, xs, e, h⟩ := h
    obtain ⟨Hs2, p, kk, rr⟩ := q.shareO e
    exact h5 _ f H' Hs2 p kk rr h
end
/-! methods, properties, in -/
def CalP (P : Program) (w : World) (K : PySem.W.Frag) (mg : Str → Option Value) (base : Heap) (k : Nat) (c m : Str) (ps : List Str) (S : DSp) : Prop :=
  ∃ C p f fd, KC K c C ∧ PropOf K C m p f ∧ FnOk P w K mg base CX0 k f fd ps (spOf K S) ∧ Binds K fd ps []
section
variable {X : Cx} {K : PySem.W.Frag} {W : WX}
def dProp (c : Str) (S : DSp) (o : DT) : DT := fun g r n Q => o g r n fun d n1 => match d with
  | .obj c' ns xs => c' = c ∧ S g [.obj c' ns xs] n1 Q
  | _ => False
theorem snd_prop {c : Str} {C : Addr} {S : DSp} {E : XK} {to : TE} {o : DT} (k : KC K c C) (ho : Snd K to o) : Snd K (tProp C (spOf K S) [] E to) (dProp c S o) := fun g ro f st H Hs Q Q' A hq hd =>
  ho g ro f st H Hs _ _ A (fun x f1 v H1 Hs1 s1 k1 r1 q1 => by
    cases x <;> try exact q1.elim
    next c' ns xs =>
    obtain ⟨rfl, q1⟩ := q1
    have r0 := r1
    obtain ⟨C', a, dx, vs, h0, rfl, h2, h3, h4, h5⟩ := r1
    cases k.uniq h0
    exact ⟨a, dx, _, rfl, s1.sub _ _ h2, g, Hs1, [.obj c' ns xs], f1, Q', s1.sub, k1, RpA.one r0, q1, fun d f' v H' Hs' s3 k3 r3 q3 => hq d f' v H' Hs' (s1.trans s3) k3 r3 q3⟩) hd
theorem de_prop {c m : Str} {k : Nat} {ps : List Str} {S : DSp} {o : Expr} {pos : Pos} {d : DT} (cp : CalP X.prog X.w X.K X.mg X.base k c m ps S) (hr : Room (k + 1) X.A) (ho : DE X o d) (hb' : attributeBase o m X.env (eval o X.env) = eval o X.env := by rfl) : DE X (.Attribute o m pos) (dProp c S d) := by
  obtain ⟨C, p, f, fd, kc, M, F, hb⟩ := cp
  exact .mk' (pe_prop ho.pe kc.cls M F hr hb .nil pass0 hb') (snd_prop kc ho.sn)
/-! x in o, by the class's own __contains__ -/
/-! isinstance with instances of own classes among the values -/
structure KTy (K : PySem.W.Frag) (C : Addr) : Prop where
  ha : PySem.W.findIn K (.ref C) "__class__" = some (some (.builtin "object.__class__"))
  hn : PySem.W.specialIn K (.builtin "object.__class__") "__get__" = some (some (.builtin "getset_descriptor.__get__"))
  htk : PySem.W.takesIn K (.builtin "object.__class__") = some true
  hm : PySem.W.mroIn K C (.type "object") = some true
end
end DL
namespace DL
open PySem PySem.Spec PyProof.Rows L2
/-! sorted(..) of data that can be compared: a list, a tuple, a dict's keys -/
section
variable {prog : Program} {w : World} {A : Around} {E : Value → Shared → Prop} {s : Shared}
theorem collect_tup {l : Addr} {vs : List Value} {Q : List Value → Shared → Prop} (hl : IsTup s.heap l vs.toArray)
    (h : Q vs { s with heap := (s.heap.push (seqObj "list" #[] 0)).update s.heap.objs.size (Obj.mapSeq (· ++ vs.toArray)) }) (hsz : vs.length ≤ sizeLine) :
    wpAny (model prog w) A (collect (.ref l)) Q E s := by
  obtain ⟨o, ho, hc, n, hd⟩ := id hl
  unfold collect
  refine wpAny_bind (wpAny_runValue (codeAny_builtin entry_proto_collect' ?_))
  show wpAny _ _ (do again (.builtin "list.__iadd__" ⟨[← newList [], .ref l], []⟩)) _ _ s
  refine wpAny_bind (wpAny_newList (wpAny_pure ⟨Code.quiet_builtin _ (by decide +kernel), codeAny_builtin entry_list_iadd' ?_⟩))
  show wpAny _ _ (Builtin.List.listExtendWith (.ref s.heap.objs.size) (.ref l) (.ref s.heap.objs.size)) _ _ { s with heap := s.heap.push (seqObj "list" #[] 0) }
  unfold Builtin.List.listExtendWith
  have ho' : (s.heap.push (seqObj "list" #[] 0)).get? l = some o := Heap.get?_push_of_some _ ho
  refine wpAny_bind (wpAny_typeOf (T := "tuple") ⟨o, ho', hc⟩ ?_)
  have ht : (Value.type "tuple" == Value.type "tuple") = true := by rfl
  rw [if_pos (by rw [ht]; simp)]
  refine wpAny_bind (listItems_at ho' hd ?_)
  refine wpAny_bind (listItems_at (xs := #[]) (n := 0) (Heap.get?_push_size _ rfl) rfl ?_)
  rw [if_neg (by simp)]
  refine wpAny_bind (listUpdate_at (xs := #[]) (n := 0) (Heap.get?_push_size _ rfl) rfl ?_ (Nat.zero_le _) (by show (#[] ++ vs.toArray).size ≤ sizeLine + 1; simp only [Array.size_append, List.size_toArray, List.length_nil]; omega))
  refine wpAny_pure ?_
  show wpAny (model prog w) A (do
      let o ← load s.heap.objs.size
      match o.data with
      | .seq xs _ => pure xs.toList
      | _ => unsupported "internal:collect") Q E { s with heap := (s.heap.push (seqObj "list" #[] 0)).update s.heap.objs.size (Obj.mapSeq (· ++ vs.toArray)) }
  refine wpAny_bind (wpAny_load (get?_update_seq (Heap.get?_push_size _ rfl) _) ?_)
  show wpAny _ _ (pure ((#[] : Array Value) ++ vs.toArray).toList) Q E _
  rw [show ((#[] : Array Value) ++ vs.toArray).toList = vs by simp]
  exact wpAny_pure h
theorem copied_old {h : Heap} {vs : List Value} {b : Addr} {o : Obj} (e : h.get? b = some o) : ((h.push (seqObj "list" #[] 0)).update h.objs.size (Obj.mapSeq (· ++ vs.toArray))).get? b = some o := by
  rw [Heap.get?_update_ne _ _ _ _ (Nat.ne_of_lt (Heap.lt_size e))]
  exact Heap.get?_push_of_some _ e
end
mutual
theorem reads_lt {h : Heap} : ∀ {v : Value} {d : PyData} {as : List Addr}, Reads h v d as → ∀ x ∈ as, x < h.objs.size
  | _, _, _, .none, x, hx => by cases hx
  | _, _, _, .bool b, x, hx => by cases hx
  | _, _, _, .int i t, x, hx => by cases hx
  | _, _, _, .str y t, x, hx => by cases hx
  | _, _, _, .list h1 h2 h3 h4, x, hx => by
    rcases List.mem_cons.mp hx with rfl | hx
    · exact Heap.lt_size h1
    · exact readsA_lt h4 x hx
  | _, _, _, .tuple h1 h2 h3 h4, x, hx => readsA_lt h4 x hx
  | _, _, _, .dict h1 h2 h3 h4 h5, x, hx => by
    rcases List.mem_append.mp hx with hx | hx
    · rcases List.mem_cons.mp hx with rfl | hx
      · exact Heap.lt_size h1
      · exact readsA_lt h4 x hx
    · exact readsA_lt h5 x hx
theorem readsA_lt {h : Heap} : ∀ {vs : List Value} {ds : List PyData} {as : List Addr}, ReadsAll h vs ds as → ∀ x ∈ as, x < h.objs.size
  | _, _, _, .nil, x, hx => by cases hx
  | _, _, _, .cons h1 h2, x, hx => by
    rcases List.mem_append.mp hx with hx | hx
    · exact reads_lt h1 x hx
    · exact readsA_lt h2 x hx
end
def Src (K : PySem.W.Frag) (H : Hp) (a : Addr) (xs : List V) : Prop := SqL K H a xs ∨ SqT K H a xs ∨ (∃ kvs : List (Key × V), Rd H a (.dK kvs) ∧ xs = kvs.map fun kv => kV kv.1) ∨ ∃ (w : World) (L : List (List (Str × Str) × Addr)), H a = some (DnO w a L) ∧ xs = L.map fun p => V.ref p.2
section
variable {X : Cx} {pins : List (Addr × Obj)} {st : L2.St} {H : Hp} {s : Shared}
theorem collect_src {a : Addr} {xs : List V} {A : Around} {R : List Value → Shared → Prop} {E : Value → Shared → Prop} (I : Inv X pins st H s) (hc : A.handled = none) (h : Src X.K H a xs) (hl : xs.length ≤ sizeLine)
    (q : ∀ (h' : Heap) (tk : Nat) (us : List Value), (∀ b o, s.heap.get? b = some o → h'.get? b = some o) → Vals xs us → R us { s with heap := h', toks := tk }) : wpAny (model X.prog X.w) A (collect (.ref a)) R E s := by
  rcases h with h | h | ⟨kvs, h, rfl⟩ | ⟨w0, L, h, rfl⟩
  · obtain ⟨its, rv, hp, hz⟩ := I.list h
    exact collect_list hp.isList (q _ _ its (fun b o e => copied_old e) rv) (by rw [← rv.length]; exact hz)
  · obtain ⟨its, rv, hp, hz⟩ := I.tuple h
    exact collect_tup hp (q _ _ its (fun b o e => copied_old e) rv) (by rw [← rv.length]; exact hz)
  · obtain ⟨z, lo, vs, rel, dd⟩ := dk_rd I.hok h
    obtain ⟨ep, hat⟩ := dd.dictAt
    have ek : (kvs.map fun kv => kV kv.1) = vs.map fun p => kV p.1 := by
      have e := congrArg (List.map kV) rel.keys
      rw [List.map_map, List.map_map] at e
      exact e
    refine PySem.W.kdu_collect (PySem.W.kdl_dict (knd := mixKind X.prog X.w) (kvs := vs) (ep := ep) lo) hc hat (by rw [← rel.length]; exact z) fun h' tk acc hk hacc => ?_
    refine q h' tk acc.toList hk ?_
    rw [ek]
    refine keys_at (by rw [Array.length_toList, hacc.1]) fun j v e => ?_
    exact hacc.2 j v (by rw [← Array.getElem?_toList]; exact e)
  · obtain ⟨⟨o, es, ep, ho, hx, hd, he, _, lo, _⟩, _, _⟩ := (show ObjOk X.prog X.w H s.heap a (DnO w0 a L) from I.hok a _ h)
    have l1 : es.size = L.length := by
      have := congrArg List.length he
      rw [Array.length_toList, List.length_map] at this
      exact this
    refine PySem.W.kdu_collect (kdl_raw lo hx hd) hc ho (by rw [l1]; rw [List.length_map] at hl; exact hl) fun h' tk acc hk hacc => ?_
    refine q h' tk acc.toList hk ?_
    have ea : acc.toList = (L.map fun p => p.2).map Value.ref := by
      have hl2 : acc.toList.length = L.length := by rw [Array.length_toList, hacc.1]; exact l1
      apply List.ext_getElem?
      intro j
      rw [List.map_map, List.getElem?_map]
      cases hj : acc.toList[j]? with
      | none =>
        have h1 := List.getElem?_eq_none_iff.mp hj
        rw [List.getElem?_eq_none (by omega)]
        rfl
      | some v =>
        obtain ⟨en, hen, hv⟩ := hacc.2 j v (by rw [← Array.getElem?_toList]; exact hj)
        have e2 : es.toList[j]? = some en := by rw [Array.getElem?_toList]; exact hen
        rw [he, List.getElem?_map] at e2
        cases hb : L[j]? with
        | none => rw [hb] at e2; cases e2
        | some b =>
          rw [hb] at e2
          have e3 : _ = en := Option.some.inj e2
          rw [hv, ← e3]
          rfl
    have eb : (L.map fun p => V.ref p.2) = (L.map fun p => p.2).map V.ref := by rw [List.map_map]; rfl
    rw [ea, eb]
    exact vals_refs _
def rSortA (K : PySem.W.Frag) : List V → Hp → VK → Prop := fun vs H Q => ∃ (a : Addr) (bs : List (V × PyData)), vs = [.ref a] ∧ Src K H a (bs.map (·.1)) ∧ bs.length ≤ lim ∧ (∀ b ∈ bs, Dp K H b.1 b.2) ∧ PySem.W.AllAlike (bs.map (·.2)) ∧ PySem.W.Sortable (bs.map (·.2)) ∧ (∀ b ∈ bs, b.2.depth ≤ 30) ∧
  ∀ p, H p = none → Q (.ref p) (upd H p (.lst ((bs.mergeSort (PySem.W.dataLe false (·.2))).map (·.1))))
theorem each_vals : ∀ {bs : List (V × PyData)} {us : List Value}, Vals (bs.map (·.1)) us → PySem.W.EachIs (fun v (b : V × PyData) => RelV b.1 v) us bs
  | [], _, h => by cases h; exact .nil
  | b :: bs, _, h => by
    rw [List.map_cons] at h
    cases h with
    | cons r t => exact .cons r (each_vals t)
theorem vals_each : ∀ {bs : List (V × PyData)} {us : List Value}, PySem.W.EachIs (fun v (b : V × PyData) => RelV b.1 v) us bs → Vals (bs.map (·.1)) us
  | [], _, h => by cases h; exact .nil
  | b :: bs, _, h => by
    cases h with
    | cons r t => exact .cons r (vals_each t)
theorem cr_sortA (hc : X.calm = true) (hu : X.A.units + 64 < cLine) : CallR X (.builtin "sorted") (rSortA X.K) := by
  intro pins s st H vs us Q I r h
  obtain ⟨a, bs, rfl, hs, hl, hdp, hal, hk, hde, q⟩ := h
  rw [Vals.ref1 r]
  refine Calls.call_function_entry PyProof.Rows.kind_sorted PyProof.Rows.plain_sorted PyProof.Rows.entry_sorted (PyProof.Rows.args_sorted1 _) ?_
  unfold Builtin.«sorted»
  refine wpAny_bind (m := checkCount "sorted" 1 1 _) (wpAny_pure ?_)
  have hL : bs.length ≤ sizeLine := lim_le hl
  refine wpAny_bind (collect_src (A := X.A.in1) I (I.ok.hd hc) hs (by rw [List.length_map]; exact hL) fun h' tk ws keep rv => ?_)
  have I1 : Inv X pins st H { s with heap := h', toks := tk } := I.kept keep
  have hwl : ws.length = bs.length := by rw [← rv.length, List.length_map]
  refine wpAny_bind (wpAny_newList ?_ (by rw [hwl]; exact hL))
  have hoL : (h'.push (seqObj "list" ws.toArray 0)).get? h'.objs.size = some (seqObj "list" ws.toArray 0) := Heap.get?_push_size _ rfl
  show wpAny _ _ _ _ _ { s with heap := h'.push (seqObj "list" ws.toArray 0), toks := tk }
  have e := each_vals rv
  have er : PySem.W.EachIs (fun v (b : V × PyData) => ∃ as, Reads (h'.push (seqObj "list" ws.toArray 0)) v b.2 as ∧ h'.objs.size ∉ as) ws bs := by
    refine (PySem.W.each_mem e).mono fun v b ⟨rb, hb⟩ => ?_
    obtain ⟨as, ra⟩ := Dp.reads I1 b.2 b.1 v (hdp b hb) rb
    refine ⟨as, PyProof.Rows.Reads.keeps (fun _ _ z => Heap.get?_push_of_some _ z) ra, fun z => ?_⟩
    exact Nat.lt_irrefl _ (reads_lt ra _ z)
  refine wpAny_bind (wpAny_holding (PySem.W.list_sort_data (A := X.A.in1) (s := { s with heap := h'.push (seqObj "list" ws.toArray 0), toks := tk }) hoL e er hal hk hL (fun b hb => ?_) fun out ho hout => ?_))
  · have := hde b hb
    show X.A.units + 1 + 1 + b.2.depth < cLine
    omega
  · obtain ⟨e', he'⟩ := PyProof.Rows.sortedHeap_at (vs := ws) (out := out.toArray) hoL
    have hv := vals_each hout
    have hlen : ((bs.mergeSort (PySem.W.dataLe false (·.2))).map (·.1)).length ≤ sizeLine := by rw [List.length_map, List.length_mergeSort]; exact hL
    refine wpAny_pure ⟨_, rfl, .ref h'.objs.size, upd H h'.objs.size (.lst _), I1.laid (t' := tk) (fun b u e => ?_) (Nat.le_refl _)
      (show ObjOk X.prog X.w _ _ _ (.lst _) from ⟨hlen, out, e', hv, he'⟩), rfl, q _ (I1.hok.fresh (Nat.le_refl _))⟩
    have hb : b < h'.objs.size := Heap.lt_size e
    rw [PyProof.Rows.sortedHeap_old (Nat.ne_of_lt hb) (by rw [size_push']; exact Nat.lt_succ_of_lt hb)]
    exact Heap.get?_push_of_some _ e
variable {K : PySem.W.Frag}
def sortD (xs : List D) : List D := xs.mergeSort (PySem.W.dataLe false D.py)
structure Sorts (xs : List D) : Prop where
  len : xs.length ≤ lim
  lay : PyData.canLayAll0 (pyA xs) = true
  al : PySem.W.AllAlike (xs.map D.py)
  so : PySem.W.Sortable (xs.map D.py)
  dep : ∀ x ∈ xs, x.py.depth ≤ 30
def keyD : Key → D
  | .inl i => .int i
  | .inr x => .str x
def oSorted : OA := fun ds Q => match ds with
  | [.lst xs] => Sorts xs ∧ Q (.lst (sortD xs))
  | [.tup xs] => Sorts xs ∧ Q (.lst (sortD xs))
  | [.ftp xs] => Sorts xs ∧ Q (.lst (sortD xs))
  | [.dct ks _] => Sorts (ks.map keyD) ∧ Q (.lst (sortD (ks.map keyD)))
  | _ => False
theorem RpA.zip_snd {H : Hp} : ∀ {ds : List D} {vs : List V}, RpA K H ds vs → (vs.zip (ds.map D.py)).map (·.1) = vs ∧ (vs.zip (ds.map D.py)).map (·.2) = ds.map D.py ∧ (vs.zip ds).map (fun p => (p.1, p.2.py)) = vs.zip (ds.map D.py) ∧ (vs.zip ds).map (·.2) = ds
  | [], _, h => by cases h; exact ⟨rfl, rfl, rfl, rfl⟩
  | d :: ds, _, ⟨v, r, h1, h2, h3⟩ => by
    subst h1
    obtain ⟨e1, e2, e3, e4⟩ := RpA.zip_snd h3
    simp [e1, e2, e3, e4]
theorem RpA.zip_rp {H : Hp} : ∀ {ds : List D} {vs : List V}, RpA K H ds vs → ∀ p ∈ vs.zip ds, Rp K H p.2 p.1
  | [], _, h, p, hp => by cases h; simp at hp
  | d :: ds, _, ⟨v, r, h1, h2, h3⟩, p, hp => by
    subst h1
    rw [List.zip_cons_cons] at hp
    rcases List.mem_cons.mp hp with rfl | hp
    · exact h2
    · exact RpA.zip_rp h3 p hp
theorem RpA.of_pairs {H : Hp} : ∀ (l : List (V × D)), (∀ p ∈ l, Rp K H p.2 p.1) → RpA K H (l.map (·.2)) (l.map (·.1))
  | [], _ => rfl
  | p :: l, h => ⟨_, _, rfl, h p (by simp), RpA.of_pairs l fun q hq => h q (by simp [hq])⟩
theorem lay_mem {xs : List D} (h : PyData.canLayAll0 (pyA xs) = true) : ∀ x ∈ xs, x.py.canLay0 = true := by
  induction xs with
  | nil => intro x hx; cases hx
  | cons y ys ih =>
    intro x hx
    have h' : y.py.canLay0 = true ∧ PyData.canLayAll0 (pyA ys) = true := Bool.and_eq_true_iff.mp h
    rcases List.mem_cons.mp hx with rfl | hx
    · exact h'.1
    · exact ih h'.2 x hx
theorem sort_core {H Hs : Hp} {xs : List D} {vs : List V} {a : Addr} {Q : VK} {Q' : D → Prop} (s : Same Hs H) (rx : RpA K Hs xs vs) (hs : Sorts xs) (src : Src K H a vs)
    (hq : ∀ z v H' Hs', Stp none H Hs H' Hs' → Rp K Hs' z v → Q' z → Q v H') (q : Q' (.lst (sortD xs))) : rSortA K [.ref a] H Q := by
  obtain ⟨e1, e2, e3, e4⟩ := rx.zip_snd
  have hlen := rx.length
  refine ⟨a, vs.zip (xs.map D.py), rfl, by rw [e1]; exact src, ?_, fun b hb => ?_, by rw [e2]; exact hs.al, by rw [e2]; exact hs.so, fun b hb => ?_, fun p hp => ?_⟩
  · rw [List.length_zip, List.length_map, hlen, Nat.min_self, ← hlen]; exact hs.len
  · rw [← e3] at hb
    obtain ⟨p, hp, rfl⟩ := List.mem_map.mp hb
    have hd : p.2 ∈ xs := by rw [← e4]; exact List.mem_map_of_mem hp
    exact dp_mono s ((rx.zip_rp p hp).dp _ _ (lay_mem hs.lay _ hd))
  · have : b.2 ∈ xs.map D.py := by rw [← e2]; exact List.mem_map_of_mem hb
    obtain ⟨x, hx, e⟩ := List.mem_map.mp this
    rw [← e]
    exact hs.dep x hx
  · have m1 : ((vs.zip xs).mergeSort (fun p q => PySem.W.dataLe false D.py p.2 q.2)).map (fun p => (p.1, p.2.py)) = (vs.zip (xs.map D.py)).mergeSort (PySem.W.dataLe false (·.2)) := by
      rw [← e3]
      exact List.map_mergeSort fun _ _ _ _ => rfl
    have m2 : ((vs.zip xs).mergeSort (fun p q => PySem.W.dataLe false D.py p.2 q.2)).map (·.2) = sortD xs := by
      unfold sortD
      conv => rhs; rw [← e4]
      exact List.map_mergeSort fun _ _ _ _ => rfl
    rw [← m1, List.map_map]
    have al : Stp none H Hs (upd H p (.lst (List.map ((fun x : V × PyData => x.1) ∘ fun p : V × D => (p.1, p.2.py)) ((vs.zip xs).mergeSort (fun p q => PySem.W.dataLe false D.py p.2 q.2))))) (upd Hs p (.lst (List.map ((fun x : V × PyData => x.1) ∘ fun p : V × D => (p.1, p.2.py)) ((vs.zip xs).mergeSort (fun p q => PySem.W.dataLe false D.py p.2 q.2))))) := Stp.alloc s hp
    refine hq (.lst (sortD xs)) _ _ _ al ⟨p, _, rfl, upd_same, ?_⟩ q
    rw [← m2]
    refine (RpA.of_pairs _ fun q hq => ?_).mono al.ext
    exact rx.zip_rp q ((List.mergeSort_perm _ _).mem_iff.mp hq)
theorem keys_rp {H : Hp} : ∀ ks : List Key, RpA K H (ks.map keyD) (ks.map kV)
  | [] => rfl
  | k :: ks => ⟨_, _, rfl, by cases k <;> rfl, keys_rp ks⟩
theorem sc_sorted : SndC K (rSortA K) oSorted := fun H Hs ds vs Q Q' s rx hq hd => by
  unfold oSorted at hd
  split at hd
  · next xs =>
    obtain ⟨v, r, rfl, ⟨a, us, rfl, h1, h2⟩, h3⟩ := rx
    cases h3
    exact sort_core s h2 hd.1 (.inl (SqL.of (s _ _ h1))) hq hd.2
  · next xs =>
    obtain ⟨v, r, rfl, ⟨a, us, rfl, h1, h2⟩, h3⟩ := rx
    cases h3
    exact sort_core s h2 hd.1 (.inr (.inl (tp_sq s h1))) hq hd.2
  · next xs =>
    obtain ⟨v, r, rfl, ⟨a, us, rfl, h1, h2⟩, h3⟩ := rx
    cases h3
    exact sort_core s h2 hd.1 (.inr (.inl (h1.mono s).sq)) hq hd.2
  · next ks xs =>
    obtain ⟨v, r, rfl, ⟨a, us, rfl, h1, h2, h3⟩, h4⟩ := rx
    cases h4
    refine sort_core s (keys_rp ks) hd.1 (.inr (.inr (.inl ⟨ks.zip us, .inl (s _ _ h1), ?_⟩))) hq hd.2
    have : ∀ (ks : List Key) (us : List V), ks.length = us.length → ks.map kV = (ks.zip us).map fun kv => kV kv.1 := by
      intro ks
      induction ks with
      | nil => intro us _; rfl
      | cons k ks ih =>
        intro us hl
        cases us with
        | nil => simp at hl
        | cons u us => simp only [List.zip_cons_cons, List.map_cons]; rw [← ih us (by simpa using hl)]
    exact this ks us h2
  · exact hd.elim
theorem de_sorted {k : Nat} {p pos : Pos} {e : Expr} {d : DTA} (hr : Room k X.A) (hm : X.mg "sorted" = none) (ha : DA X [e] d) (hc : X.calm = true := by rfl) (hg : Gl X "sorted" := by rfl) (hs : starEach [e] X.env = (false, eval e X.env) :: starEach [] X.env := by rfl)
    (hpl : (backTo pos (starEach [] X.env)).any (·.1) = false := by rfl) : DE X (.Call (.Name "sorted" p) [e] [] pos) (dCB oSorted d) :=
  de_callB (cr_sortA hc hr.units) sc_sorted hg hm (by decide +kernel) ha (by decide) (by decide) hs hpl
end
end DL
namespace PySem
open Sem (wp)
open AutoSeq1 (wpAny_loadPart')
set_option maxHeartbeats 1000000 in
theorem meets_enumerate_newT (l : Addr) (items : Array Value) (n : Nat) (dct : Option Addr) (sl : Array (Option Value)) :
    Meets (Builtin.«enumerate.__new__» ⟨[.type "enumerate", .ref l], []⟩) (fun _ R s => s.heap.get? l = some { cls := .type "tuple", dict := dct, data := .seq items n, slots := sl } ∧
      R (.ok (.ret (.ref (s.heap.push { cls := .type "tuple_iterator", data := .fields #[.ref l, .int 0 0] }).objs.size)))
        { s with heap := (s.heap.push { cls := .type "tuple_iterator", data := .fields #[.ref l, .int 0 0] }).push { cls := .type "enumerate", data := .fields #[.none, .bool false, .ref s.heap.objs.size, rawInt 0, .none, .none] } }) :=
  .of_wp fun prog w A R s h => by
    obtain ⟨hp, g, d, tk, os⟩ := s; obtain ⟨hl, h⟩ := h
    have hsub := sub_enumerate
    have hL : Heap.IsTuple (Shared.heap ⟨hp, g, d, tk, os⟩) l items := ⟨_, hl, rfl, n, rfl⟩
    wp_walk using wpAny_loadPart' hl
    refine wpAny_stack_any fun st => wpAny_pure ?_
    split
    · rename_i c _ _ _ _ _
      cases (c == Value.type "enumerate")
      · wp_walk using wpAny_loadPart' hl, wpAny_pyIter_tuple hL
        exact ⟨_, rfl, h⟩
      · wp_walk using wpAny_loadPart' hl, wpAny_pyIter_tuple hL
        exact ⟨_, rfl, h⟩
    · wp_walk using wpAny_loadPart' hl, wpAny_pyIter_tuple hL
      exact ⟨_, rfl, h⟩
section
variable {prog : Program} {w : World} {A : Around} {E : Value → Shared → Prop} {s : Shared}
theorem call_enumerate_tuple {l : Addr} {items : Array Value} {Q : Value → Shared → Prop} (hL : s.heap.IsTuple l items)
    (h : ∀ h', IsEnum h' (s.heap.objs.size + 1) s.heap.objs.size 0 .none → h'.IsTupleIter s.heap.objs.size l 0 → h'.objs.size = s.heap.objs.size + 2 →
      (∀ b o, s.heap.get? b = some o → h'.get? b = some o) → Q (.ref (s.heap.objs.size + 1)) { s with heap := h' }) :
    wpAny (model prog w) A (call (.type "enumerate") [.ref l]) Q E s := by
  obtain ⟨⟨c, dct, dt, sl⟩, hl, hc, n, hd⟩ := hL
  replace hc : c = .type "tuple" := hc
  replace hd : dt = .seq items n := hd
  subst hc hd
  refine callType_new F.called_enumerate (by decide) (F.typeCall_enumerate_1 _) (F.newCall_enumerate_1 _) (fun obj => F.args_object_init_2 obj _) F.entry_enumerate_new
    (meets_enumerate_newT l items n dct sl) ⟨hl, ?_⟩
  have hz : (s.heap.push { cls := .type "tuple_iterator", data := .fields #[.ref l, .int 0 0] }).objs.size = s.heap.objs.size + 1 := Heap.size_push ..
  show _ ∧ _
  rw [hz]
  have he : IsEnum ((s.heap.push { cls := .type "tuple_iterator", data := .fields #[.ref l, .int 0 0] }).push
      { cls := .type "enumerate", data := .fields #[.none, .bool false, .ref s.heap.objs.size, rawInt 0, .none, .none] }) (s.heap.objs.size + 1) s.heap.objs.size 0 .none := by
    have := Heap.get?_push_size (s.heap.push { cls := .type "tuple_iterator", data := .fields #[.ref l, .int 0 0] })
      (o := { cls := .type "enumerate", data := .fields #[.none, .bool false, .ref s.heap.objs.size, rawInt 0, .none, .none] }) rfl
    rw [hz] at this; exact this
  refine ⟨⟨_, he, rfl⟩, h _ he ⟨_, Heap.get?_push_of_some _ (Heap.get?_push_size _ rfl), rfl, rfl⟩ (by rw [Heap.size_push, hz]) fun b o x => Heap.get?_push_of_some _ (Heap.get?_push_of_some _ x)⟩
theorem wpAny_pyNext_enumT_end {e it l : Addr} {i : Nat} {items : Array Value} {old : Value} {Q : Option Value → Shared → Prop} (hh : A.handled = none)
    (he : IsEnum s.heap e it i old) (hit : s.heap.IsTupleIter it l i) (hl : s.heap.IsTuple l items) (hx : items[i]? = none)
    (hQ : ∀ h', Heap.ExtBut it s.heap h' → Q none { s with heap := h' }) : wpAny (model prog w) A (pyNext (.ref e)) Q E s := by
  have hT : s.TypeIs (.ref e) "enumerate" := ⟨_, he, rfl⟩
  unfold pyNext
  refine wpAny_bind (wpAny_attempt (wpAny_callSpecial?_slot (name := Str.ofString "__next__") hT F.slot_enumerate_next
    (wpAny_call_entry F.slot_enumerate_next hT F.entry_enumerate_next ?_ (F.args_enumerate_next_1 _))))
  show wpAny _ _ (field (.ref e) 2 >>= _) _ _ _
  refine wpAny_bind (wpAny_field he rfl (x := .ref it) rfl ?_)
  refine wpAny_bind (wpAny_nextOf_tuple_end hh hit hl hx fun h' x he' hx' => ?_)
  obtain ⟨o, ho, hc⟩ := hx'
  refine wpAny_bind (wpAny_isInstance (T := "StopIteration") (b := true) ⟨o, ho, hc⟩ isSubtype_stop ?_)
  exact wpAny_pure (hQ _ he')
end
end PySem
namespace DL
open PySem PySem.Spec PyProof.Rows L2
def IteT (K : PySem.W.Frag) (a : Addr) : It :=
  ⟨fun i H => ∃ (xs : List V) (x : V), SqT K H a xs ∧ xs[i]? = some x, fun i H v H' => ∃ T x, v = .ref T ∧ H T = none ∧ H' = upd H T (.tup [.int (i : Nat), x]) ∧ ∀ xs, SqT K H a xs → xs[i]? = some x, fun i H => ∃ xs : List V, SqT K H a xs ∧ xs.length ≤ i⟩
theorem cls_ne {h : Heap} {a b : Addr} {o p : Obj} {x y : String} (h1 : h.get? a = some o) (h2 : h.get? b = some p) (c1 : o.cls = .type x) (c2 : p.cls = .type y) (n : x ≠ y) : a ≠ b := fun e => by
  subst e
  rw [h1] at h2
  cases h2
  rw [c1] at c2
  cases c2
  exact n rfl
theorem turn_enumT {P : Program} {w : World} {K : PySem.W.Frag} {elts : List Expr} {kk : Nat} {tpos : Pos} (a e it : Addr) :
    Turn P w K (.Tuple elts kk tpos) (IteT K a) [e, it] e (fun i h => (∃ old, IsEnum h e it ((i : Nat) : Int) old) ∧ h.IsTupleIter it a i ∧ e ≠ it) where
  mem := by simp
  obj := fun i h st b hb => by
    obtain ⟨⟨old, he⟩, ⟨o, ho, hc, hd⟩, _⟩ := st
    have e' : b = e ∨ b = it := by simpa using hb
    rcases e' with z | z
    · rw [z]; exact ⟨_, he, fun v q => nomatch q⟩
    · rw [z]; exact ⟨o, ho, fun v q => by rw [hd] at q; cases q⟩
  keep := fun i h h' st k => let ⟨⟨old, he⟩, hi, hne⟩ := st; ⟨⟨old, k e (by simp) _ he⟩, hi.at fun o q => k it (by simp) o q, hne⟩
  item := by
    intro X hP hw hK hc i pins s st H E I hf stt hg
    subst hP hw hK
    obtain ⟨⟨old, he⟩, hit, hne⟩ := stt
    obtain ⟨xs, x, hq, hx⟩ := hg
    obtain ⟨its, rv, p, hz⟩ := I.tuple hq
    obtain ⟨u, hu, ru⟩ := rv.get hx
    have hel : e < s.heap.objs.size := Heap.lt_size he
    have hil : it < s.heap.objs.size := by obtain ⟨_, q, _⟩ := hit; exact Heap.lt_size q
    have ht : s.heap.IsTuple a its.toArray := p
    obtain ⟨ot, hot, hct, nt, hdt⟩ := id p
    obtain ⟨oi, hoi, hci, hdi⟩ := id hit
    have n1 : a ≠ it := cls_ne hot hoi hct hci (by decide)
    have n2 : e ≠ a := cls_ne he hot rfl hct (by decide)
    have D := Draws.tuple (prog := X.prog) (w := X.w) (A := X.A.in1) (I.ok.hd hc) it a n1 its.toArray
    have hlt : i < its.toArray.size := by
      have := (List.getElem?_eq_some_iff.mp hu).1
      simpa using this
    refine wpAny_pyNext_enum_itemD D he ⟨hit, ht⟩ hlt hne (by simp [hne, n2]) fun x' h' tk hP' ho st' hT hsz hk => ?_
    have ex : x' = u := by
      have e1 : its.toArray[i]? = some u := by simpa using hu
      rw [hP'] at e1
      exact Option.some.inj e1
    subst ex
    refine ⟨_, rfl, wpAny_letOwnedTupleGo_enum (s := { s with heap := h', toks := tk + 1 }) ho fun h'' he' sb => ?_⟩
    have hT2 : h''.get? s.heap.objs.size = some { cls := .type "tuple", data := .seq #[.int i tk, x'] } := (sb.2 _ (Nat.ne_of_gt hel)).trans hT
    have new : ObjOk X.prog X.w (upd H s.heap.objs.size (.tup [.int (i : Nat), x])) h'' s.heap.objs.size (.tup [.int (i : Nat), x]) :=
      ⟨by show 2 ≤ sizeLine; decide, [.int i tk, x'], .cons ⟨_, rfl⟩ (.cons ru .nil), ⟨_, hT2, rfl, _, rfl⟩⟩
    have I1 : Inv X pins st (upd H s.heap.objs.size (.tup [.int (i : Nat), x])) { s with heap := h'', toks := tk + 1 } :=
      I.turnedNew (ch := [e, it]) (fun b ob hb q => (sb.2 b (fun z => hb (by simp [z]))).trans (hk b ob (fun z => hb (by simp [z])) (fun z => hb (by simp [z])) q)) hf (Nat.le_refl _) new
    refine ⟨.ref s.heap.objs.size, _, I1, rfl, ⟨_, x, rfl, I.hok.fresh (Nat.le_refl _), rfl, fun ys hy => by rw [I.tuple_inj hy hq]; exact hx⟩, ⟨⟨x', ?_⟩, st'.1.at fun o q => (sb.2 it (Ne.symm hne)).trans q, hne⟩, fun b hb => ?_⟩
    · have e1 : ((i + 1 : Nat) : Int) = (i : Int) + 1 := by omega
      rw [e1]; exact he'
    · have hb' : b < s.heap.objs.size := by
        have e' : b = e ∨ b = it := by simpa using hb
        rcases e' with z | z
        · rw [z]; exact hel
        · rw [z]; exact hil
      rw [upd_ne (Nat.ne_of_lt hb')]
      exact (hf b hb).1
  done := by
    intro X hP hw hK hc i pins s st H E I hf stt hg
    subst hP hw hK
    obtain ⟨⟨old, he⟩, hit, hne⟩ := stt
    obtain ⟨xs, hq, hx⟩ := hg
    obtain ⟨its, rv, p, hz⟩ := I.tuple hq
    obtain ⟨f0, f1, f2, f3, f4, f5⟩ := hf it (by simp)
    have hl := rv.length
    exact wpAny_pyNext_enumT_end (I.ok.hd hc) he hit p (by simp; omega) fun h' eb => ⟨rfl, I.turned (t' := s.toks) (fun b o hb q => eb b o hb q) f0 f1 f3 f4 f5⟩
  self := fun A i s Q E st h => let ⟨⟨_, he⟩, _⟩ := st; wpAny_pyIter_enum he h
def iEnumA (K : PySem.W.Frag) (ta : TA) : TI := fun st H R => ta st H fun vs H1 => ∃ a xs, vs = [.ref a] ∧ ((SqL K H1 a xs ∧ R (Ite K a) H1) ∨ (SqT K H1 a xs ∧ R (IteT K a) H1))
theorem pi_enumA {X : Cx} {e : Expr} {ta : TA} {p pos tpos : Pos} {elts : List Expr} {kk : Nat} (hg : Gl X "enumerate") (hm : X.mg "enumerate" = none) (ha : PA X [e] ta) (hs : starEach [e] X.env = [(false, eval e X.env)] := by rfl) :
    PI X (.Tuple elts kk tpos) (.Call (.Name "enumerate" p) [e] [] pos) (iEnumA X.K ta) := by
  refine ⟨fun pins s st H R I h => ?_⟩
  refine Call_ (ld_blt I hg hm boot_enumerate (PyProof.Rows.callWith_type1 (thn (ha.run pos pins s st H _ I h) fun us s1 ⟨vs, H1, I1, r1, q1⟩ => ?_) hs rfl))
  obtain ⟨a, xs, ex, q⟩ := q1
  subst ex
  cases r1 with
  | cons r rr =>
    cases rr
    cases r
    rcases q with ⟨hq, q⟩ | ⟨hq, q⟩
    · obtain ⟨its, rv, p', hz⟩ := I1.list hq
      refine call_enumerate_list p'.isList fun h' he hit hsz hk => wpAny_pyIter_enum he ?_
      have I2 : Inv X pins st H1 { s1 with heap := h' } := I1.kept (t' := s1.toks) hk
      refine ⟨s1.heap.objs.size + 1, [s1.heap.objs.size + 1, s1.heap.objs.size], _, _, H1, rfl, I2, turn_enum a (s1.heap.objs.size + 1) s1.heap.objs.size, ⟨⟨.none, he⟩, hit, Nat.succ_ne_self _⟩, fun b hb => ?_, q⟩
      have e' : b = s1.heap.objs.size + 1 ∨ b = s1.heap.objs.size := by simpa using hb
      have hle : s1.heap.objs.size ≤ b := by
        rcases e' with z | z
        · rw [z]; exact Nat.le_add_right _ _
        · rw [z]; exact Nat.le_refl _
      exact I1.fpOk hle (I1.hok.fresh hle)
    · obtain ⟨its, rv, p', hz⟩ := I1.tuple hq
      refine call_enumerate_tuple p' fun h' he hit hsz hk => wpAny_pyIter_enum he ?_
      have I2 : Inv X pins st H1 { s1 with heap := h' } := I1.kept (t' := s1.toks) hk
      refine ⟨s1.heap.objs.size + 1, [s1.heap.objs.size + 1, s1.heap.objs.size], _, _, H1, rfl, I2, turn_enumT a (s1.heap.objs.size + 1) s1.heap.objs.size, ⟨⟨.none, he⟩, hit, Nat.succ_ne_self _⟩, fun b hb => ?_, q⟩
      have e' : b = s1.heap.objs.size + 1 ∨ b = s1.heap.objs.size := by simpa using hb
      have hle : s1.heap.objs.size ≤ b := by
        rcases e' with z | z
        · rw [z]; exact Nat.le_add_right _ _
        · rw [z]; exact Nat.le_refl _
      exact I1.fpOk hle (I1.hok.fresh hle)
section
variable {X : Cx} {K : PySem.W.Frag}
def enumD (xs : List D) : List D := xs.mapIdx fun i x => .tup [.int i, x]
theorem enumD_get {xs : List D} {i : Nat} {d : D} (h : (enumD xs)[i]? = some d) : ∃ x, xs[i]? = some x ∧ d = .tup [.int i, x] := by
  unfold enumD at h
  rw [List.getElem?_mapIdx] at h
  cases e : xs[i]? with
  | none => rw [e] at h; cases h
  | some x => rw [e] at h; cases h; exact ⟨x, rfl, rfl⟩
theorem enumD_len (xs : List D) : (enumD xs).length = xs.length := by unfold enumD; rw [List.length_mapIdx]
def dEnum (t : DTA) : DTA := fun g r f Q => t g r f fun ds f1 => match ds with
  | [.lst xs] => Q (enumD xs) f1
  | [.tup xs] => Q (enumD xs) f1
  | [.ftp xs] => Q (enumD xs) f1
  | _ => False
theorem walks_enumL {Hb : Hp} {a : Addr} {vs : List V} {ds : List D} (h1 : Hb a = some (.lst vs)) (h2 : RpA K Hb ds vs) : Walks K (Ite K a) Hb (enumD ds) where
  go := fun i d H Hs s1 s2 e => by
    obtain ⟨x, ex, rfl⟩ := enumD_get e
    obtain ⟨v, hv, hr⟩ := h2.get ex
    have q1 : SqL K H a vs := SqL.of (s2 _ _ (s1 _ _ h1))
    refine ⟨⟨vs, v, q1, hv⟩, ?_⟩
    rintro z H' ⟨T, x', rfl, hT, rfl, hx⟩
    have e1 := hx vs q1
    rw [hv] at e1
    cases e1
    exact pair_stp s2 hT rfl (hr.mono s1)
  stop := fun H s => ⟨vs, SqL.of (s _ _ h1), by rw [enumD_len, h2.length]; exact Nat.le_refl _⟩
theorem walks_enumT {Hb : Hp} {a : Addr} {vs : List V} {ds : List D} (h1 : TpAt K Hb a vs) (h2 : RpA K Hb ds vs) : Walks K (IteT K a) Hb (enumD ds) where
  go := fun i d H Hs s1 s2 e => by
    obtain ⟨x, ex, rfl⟩ := enumD_get e
    obtain ⟨v, hv, hr⟩ := h2.get ex
    have q1 : SqT K H a vs := (tp_sq (s1.trans s2) h1)
    refine ⟨⟨vs, v, q1, hv⟩, ?_⟩
    rintro z H' ⟨T, x', rfl, hT, rfl, hx⟩
    have e1 := hx vs q1
    rw [hv] at e1
    cases e1
    exact pair_stp s2 hT rfl (hr.mono s1)
  stop := fun H s => ⟨vs, (tp_sq s h1), by rw [enumD_len, h2.length]; exact Nat.le_refl _⟩
theorem walks_enumF {Hb : Hp} {a : Addr} {vs : List V} {ds : List D} (h1 : SqT K Hb a vs) (h2 : RpA K Hb ds vs) : Walks K (IteT K a) Hb (enumD ds) where
  go := fun i d H Hs s1 s2 e => by
    obtain ⟨x, ex, rfl⟩ := enumD_get e
    obtain ⟨v, hv, hr⟩ := h2.get ex
    have q1 : SqT K H a vs := sqT_mono (s1.trans s2) h1
    refine ⟨⟨vs, v, q1, hv⟩, ?_⟩
    rintro z H' ⟨T, x', rfl, hT, rfl, hx⟩
    have e1 := hx vs q1
    rw [hv] at e1
    cases e1
    exact pair_stp s2 hT rfl (hr.mono s1)
  stop := fun H s => ⟨vs, sqT_mono s h1, by rw [enumD_len, h2.length]; exact Nat.le_refl _⟩
theorem di_enum {e : Expr} {d : DTA} {p pos tpos : Pos} {elts : List Expr} {kk : Nat} (hm : X.mg "enumerate" = none) (ha : DA X [e] d) (hg : Gl X "enumerate" := by rfl)
    (hs : starEach [e] X.env = [(false, eval e X.env)] := by rfl) : DI X (.Tuple elts kk tpos) (.Call (.Name "enumerate" p) [e] [] pos) (dEnum d) := DI.mk' (pi_enumA hg hm ha.pa hs) fun g ro f st H Hs R Q' A hq hd =>
  ha.sn g ro f st H Hs _ _ A (fun ds f1 vs H1 Hs1 s1 k1 r1 q1 => by
    split at q1
    · obtain ⟨v, r, rfl, ⟨a, us, rfl, h1, h2⟩, h3⟩ := r1
      cases h3
      exact ⟨a, us, rfl, .inl ⟨SqL.of (s1.sub _ _ h1), hq _ f1 _ H1 Hs1 s1 k1 (walks_enumL h1 h2) q1⟩⟩
    · obtain ⟨v, r, rfl, ⟨a, us, rfl, h1, h2⟩, h3⟩ := r1
      cases h3
      exact ⟨a, us, rfl, .inr ⟨(tp_sq s1.sub h1), hq _ f1 _ H1 Hs1 s1 k1 (walks_enumT h1 h2) q1⟩⟩
    · obtain ⟨v, r, rfl, ⟨a, us, rfl, h1, h2⟩, h3⟩ := r1
      cases h3
      exact ⟨a, us, rfl, .inr ⟨sqT_mono s1.sub h1.sq, hq _ f1 _ H1 Hs1 s1 k1 (walks_enumF h1.sq h2) q1⟩⟩
    · exact q1.elim) hd
end
end DL
namespace DL
open PySem PySem.Spec PyProof.Rows L2
/-! dicts that a slot owns -/
def D.key : D → Option Key
  | .int i => some (.inl i)
  | .str x => some (.inr x)
  | _ => Option.none
instance decKey (k : Key) (ks : List Key) : Decidable (k ∈ ks) := @List.instDecidableMemOfLawfulBEq Key instBEqOfDecidableEq inferInstance k ks
def putKs (ks : List Key) (k : Key) : List Key := if k ∈ ks then ks else ks ++ [k]
def putXs (ks : List Key) (xs : List D) (k : Key) (d : D) : List D := if k ∈ ks then (ks.zip xs).map fun p => if p.1 = k then d else p.2 else xs ++ [d]
section
variable {X : Cx} {K : PySem.W.Frag} {W : WX}
theorem key_v {H : Hp} {d : D} {v : V} {k : Key} (h : Rp K H d v) (e : d.key = some k) : v = kV k := by
  cases d <;> simp only [D.key, reduceCtorEq, Option.some.injEq] at e <;> subst e <;> cases h <;> rfl
theorem any_zip {k : Key} : ∀ {ks : List Key} {vs : List V}, ks.length = vs.length → ((ks.zip vs).any fun kv => decide (kv.1 = k)) = decide (k ∈ ks)
  | [], _, _ => by simp
  | _ :: _, [], h => by simp at h
  | a :: ks, v :: vs, h => by
    rw [List.zip_cons_cons, List.any_cons, any_zip (by simpa using h)]
    by_cases e : a = k
    · simp [e]
    · simp [e, Ne.symm e]
theorem put_zip {k : Key} {v : V} : ∀ {ks : List Key} {vs : List V}, ks.length = vs.length → (ks.zip vs).map (fun kv => if kv.1 = k then (kv.1, v) else kv) = ks.zip ((ks.zip vs).map fun kv => if kv.1 = k then v else kv.2)
  | [], _, _ => by simp
  | _ :: _, [], h => by simp at h
  | a :: ks, w :: vs, h => by
    simp only [List.zip_cons_cons, List.map_cons]
    rw [put_zip (by simpa using h)]
    by_cases e : a = k <;> simp [e]
theorem putXs_rp {H : Hp} {k : Key} {d : D} {v : V} (hd : Rp K H d v) : ∀ {ks : List Key} {xs : List D} {vs : List V}, RpA K H xs vs → RpA K H ((ks.zip xs).map fun p => if p.1 = k then d else p.2) ((ks.zip vs).map fun p => if p.1 = k then v else p.2)
  | [], _, _, _ => by simp [RpA]
  | _ :: _, [], _, h => by cases h; simp [RpA]
  | a :: ks, x :: xs, _, ⟨w, r, h1, h2, h3⟩ => by
    subst h1
    simp only [List.zip_cons_cons, List.map_cons]
    refine ⟨_, _, rfl, ?_, putXs_rp hd h3⟩
    by_cases e : a = k
    · rw [if_pos e, if_pos e]; exact hd
    · rw [if_neg e, if_neg e]; exact h2
theorem put_rp {H : Hp} {ks : List Key} {xs : List D} {vs : List V} {k : Key} {d : D} {v : V} (hl : ks.length = vs.length) (h : RpA K H xs vs) (hd : Rp K H d v) :
    ∃ vs', putK (ks.zip vs) k v = (putKs ks k).zip vs' ∧ (putKs ks k).length = vs'.length ∧ RpA K H (putXs ks xs k d) vs' := by
  unfold putK putKs putXs
  rw [any_zip hl]
  by_cases e : k ∈ ks
  · rw [decide_eq_true e, if_pos rfl, if_pos e, if_pos e]
    refine ⟨_, put_zip hl, ?_, putXs_rp hd h⟩
    rw [List.length_map, List.length_zip, hl, Nat.min_self]
  · rw [decide_eq_false e, if_neg Bool.false_ne_true, if_neg e, if_neg e]
    refine ⟨vs ++ [v], ?_, by simp [hl], h.append (RpA.one hd)⟩
    rw [List.zip_append hl]
    rfl
def sSetD0 (i : Nat) : DTS := fun _ r f E => E.nx (r.set i (.od [] [])) f
theorem ds_setD0 {i : Nat} {x : Str} {dpos pos pos' : Pos} (hN : X.N.Nodup) (hi : X.N[i]? = some x := by rfl) (hx : Loc X.env.scope x := by first | exact Or.inl rfl | exact Or.inr rfl)
    (hs : swapsWith (.Dict [] [] dpos) (some (.Name x pos')) pos.line X.env = pure false := by rfl) (hf : X.fn x = true ∨ X.env.scope.names.lookup x = some .local := by first | exact .inl rfl | exact .inr rfl | assumption) :
    DS X (.Assign [.Name x pos'] (.Dict [] [] dpos) pos) (sSetD0 i) := .mk' (ps_set hN hi hx pe_dnewK hs hf) fun g H0 Hs0 r f st H D E s e hd => by
  obtain ⟨Hs, s⟩ := s
  intro p hp
  have lay : Stp g H Hs (upd H p (.dK [])) Hs := Stp.lay s.stp.sub hp
  have s1 := s.afterHid lay (s.dk.mut (s.dk.out hp))
  refine e.nx _ f _ _ ⟨_, s1.setOwn i (u := .od [] []) rfl (s.stp.none0 hp) (same_none s.stp.sub hp) (fun j sl _ h1 h2 h3 => ?_) ⟨[], upd_same, rfl, rfl⟩⟩ hd
  obtain ⟨a, e', _, _, q⟩ := s.ow j sl h1 h2
  rw [h3] at e'
  cases e'
  obtain ⟨o, ho, _⟩ := q.ld
  rw [hp] at ho
  cases ho
def sSetKey (m : Bool) (i : Nat) (dk dl : DT) : DTS := fun g r f E => ∃ ks xs, r[i]? = some (.od ks xs) ∧ evM m dl g r f fun d f1 => dk g r f1 fun k f2 => ∃ key, k.key = some key ∧ ks.length ≤ lim ∧ E.nx (r.set i (.od (putKs ks key) (putXs ks xs key d))) f2
theorem snd_setKey {m : Bool} {i : Nat} {tk t : TE} {dk d : DT} (hk : Snd K tk dk) (h : Snd K t d) : SndS K W (tAsg t (gSub (tVar i) tk rSetD)) (sSetKey m i dk d) := fun g H0 Hs0 r f st H D E s e hd => by
  obtain ⟨Hs, s⟩ := s
  obtain ⟨ks, xs, hx, hd⟩ := hd
  obtain ⟨a, ha, n1, n0, vs, hv, hl, hr⟩ := s.ow i _ hx rfl
  refine snd_evM h s (fun d f' v H' Hs' s' _ hr' q => ?_) hd
  refine ⟨.ref a, ha, ?_⟩
  refine hk g r f' st H' _ _ _ s'.at (fun k f2 w H2 Hs2 s2 k2 r2 q2 => ?_) q
  have s3 := s'.after s2 k2
  obtain ⟨key, hkey, hlim, q2⟩ := q2
  obtain ⟨a', ha', n1', n0', vs', hv', hl', hr2⟩ := s3.ow i _ hx rfl
  rw [ha] at ha'
  cases ha'
  rw [key_v r2 hkey]
  obtain ⟨us, e1, e2, e3⟩ := put_rp (k := key) hl' hr2 (hr'.mono (s'.afterExt s2))
  refine ⟨a, _, rfl, DPut.k hv' ?_, e.nx _ f2 st _ ⟨_, s3.mutOwn (u := .od (putKs ks key) (putXs ks xs key d)) hx rfl ha rfl ⟨us, by rw [upd_same, e1], e2, e3⟩⟩ q2⟩
  rw [List.length_zip]
  exact Nat.lt_of_le_of_lt (Nat.min_le_left _ _) (lim_lt hlim)
theorem ds_setKey (m : Bool) {k' : Nat} {i : Nat} {x : Str} {e k : Expr} {px spos pos : Pos} {dk d : DT} (hr : Room k' X.A) (hk : DE X k dk) (h : DE X e d) (hN : X.N[i]? = some x := by rfl) (hv : Vis X.env.scope x := by first | exact Or.inl rfl | exact Or.inr (Or.inl rfl) | exact Or.inr (Or.inr rfl)) (hd : (x == ("__debug__" : Str)) = false := by decide)
    (hcd : (x == ("__classdict__" : Str)) = false := by decide)
    (ha : ∀ v, assign (.Subscript (.Name x px) k spos) X.env v = (do
      let ov ← holding [v] (eval (.Name x px) X.env)
      let iv ← holding [v, ov] (eval k X.env)
      standAt spos
      holding [v, ov, iv] (setItem ov iv v)
      release [v, ov, iv] []) := by intro _; rfl)
    (hs : swapsWithSole [.Subscript (.Name x px) k spos] e pos.line X.env = pure false := by rfl) (hw : swappedStores [.Subscript (.Name x px) k spos] e X.env = pure none := by rfl) (h1 : (assignEach [.Subscript (.Name x px) k spos] X.env).map (·.2) = [assign (.Subscript (.Name x px) k spos) X.env] := by rfl) :
    DS X (.Assign [.Subscript (.Name x px) k spos] e pos) (sSetKey m i dk d) :=
  .mk' (ps_asg h.pe (pg_sub (pe_var hN hv hd hcd) hk.pe (set_dict (hu_of hr)) ha) hs hw h1) (snd_setKey hk.sn h.sn)
end
end DL
namespace DL
open PySem PySem.Spec PyProof.Rows L2
section
variable {X : Cx} {K : PySem.W.Frag}
/-! t[::-1] -/
/-! list(xs) -/
def oList : OA := fun ds Q => match ds with
  | [.lst xs] => Q (.lst xs)
  | [.tup xs] => Q (.lst xs)
  | [.ftp xs] => Q (.lst xs)
  | _ => False
theorem sc_list : SndC K (fun xs H Q => ∃ p ys, xs = [.ref p] ∧ (SqL K H p ys ∨ SqT K H p ys) ∧ ∀ l, H l = none → Q (.ref l) (upd H l (.lst ys))) oList := fun H Hs ds vs Q Q' s rx hq hd => by
  unfold oList at hd
  split at hd
  · obtain ⟨v, rfl, a, vs, rfl, h1, h2⟩ := rpA1 rx
    refine ⟨a, vs, rfl, .inl (SqL.of (s _ _ h1)), fun l hl => ?_⟩
    have al : Stp none H Hs (upd H l (.lst vs)) (upd Hs l (.lst vs)) := Stp.alloc s hl
    exact hq (.lst _) _ _ _ al ⟨l, vs, rfl, upd_same, h2.mono al.ext⟩ hd
  · obtain ⟨v, rfl, a, vs, rfl, h1, h2⟩ := rpA1 rx
    refine ⟨a, vs, rfl, .inr ((tp_sq s h1)), fun l hl => ?_⟩
    have al : Stp none H Hs (upd H l (.lst vs)) (upd Hs l (.lst vs)) := Stp.alloc s hl
    exact hq (.lst _) _ _ _ al ⟨l, vs, rfl, upd_same, h2.mono al.ext⟩ hd
  · obtain ⟨v, rfl, a, vs, rfl, h1, h2⟩ := rpA1 rx
    refine ⟨a, vs, rfl, .inr ((h1.mono s).sq), fun l hl => ?_⟩
    have al : Stp none H Hs (upd H l (.lst vs)) (upd Hs l (.lst vs)) := Stp.alloc s hl
    exact hq (.lst _) _ _ _ al ⟨l, vs, rfl, upd_same, h2.mono al.ext⟩ hd
  · exact hd.elim
/-! isinstance(x, T), instances of one own class among the values -/
structure KO (K : PySem.W.Frag) (c : Str) (C : Addr) : Prop where
  kc : KC K c C
  ty : KTy K C
  tup : PySem.W.subIn K (.ref C) (.type "tuple") = some false
  str : PySem.W.subIn K (.ref C) (.type "str") = some false
theorem KO.one {c : Str} {C : Addr} (k : KO K c C) : PySem.W.kitOne K (.ref C) (.type "tuple") = some false ∧ PySem.W.kitOne K (.ref C) (.type "str") = some false := by
  unfold PySem.W.kitOne PySem.W.kitCls
  have h1 : (Value.ref C == Value.type "tuple") = false := rfl
  have h2 : (Value.ref C == Value.type "str") = false := rfl
  rw [h1, h2, if_neg Bool.false_ne_true, if_neg Bool.false_ne_true]
  show (if PySem.W.kitMeta "tuple" = true then PySem.W.subIn K (.ref C) (.type "tuple") else none) = _ ∧ (if PySem.W.kitMeta "str" = true then PySem.W.subIn K (.ref C) (.type "str") else none) = _
  rw [if_pos (by decide +kernel), if_pos (by decide +kernel)]
  exact ⟨k.tup, k.str⟩
def oIsiO (c : Str) : OA := fun ds Q => match ds with
  | [.obj c' _ _, .any (.ty n)] => c' = c ∧ (n = "tuple" ∨ n = "str") ∧ Q (.bool false)
  | [x, .any (.ty n)] => ∃ t b, x.tyN = some t ∧ kitB t n = some b ∧ Q (.bool b)
  | _ => False
theorem sc_isiO {c : Str} {C : Addr} (k : KO K c C) : SndC K (rIsi K) (oIsiO c) := SndC.pure fun H Hs ds vs Q Q' s rx hq hd => by
  unfold oIsiO at hd
  split at hd
  · obtain ⟨rfl, hn, q⟩ := hd
    obtain ⟨v, w, rfl, h4, h5⟩ := rpA2 rx
    cases h5
    obtain ⟨C', a, dx, us, h0, rfl, h2, h3, h6⟩ := h4
    cases k.kc.uniq h0
    refine ⟨.ref a, _, .ref C, _, false, rfl, .ty _, .base (.ins (s _ _ h2) k.kc.cls k.ty.ha k.ty.hn k.ty.htk k.ty.hm), ?_, hq (.bool _) _ rfl q⟩
    rcases hn with rfl | rfl
    · exact k.one.1
    · exact k.one.2
  · obtain ⟨t, b, h1, h2, h3⟩ := hd
    obtain ⟨v, w, rfl, h4, h5⟩ := rpA2 rx
    cases h5
    exact ⟨v, _, _, _, b, rfl, .ty _, tyN_ok (h4.mono s) h1, kit_ty h2, hq (.bool _) _ rfl h3⟩
  · exact hd.elim
theorem de_isiO {c : Str} {C : Addr} {p pos : Pos} {e e2 : Expr} {d : DTA} (k : KO X.K c C) (hm : X.mg "isinstance" = none) (ha : DA X [e, e2] d) (hg : Gl X "isinstance" := by rfl) (hs : starEach [e, e2] X.env = (false, eval e X.env) :: starEach [e2] X.env := by rfl)
    (hpl : (backTo pos (starEach [e2] X.env)).any (·.1) = false := by rfl) : DE X (.Call (.Name "isinstance" p) [e, e2] [] pos) (dCB (oIsiO c) d) :=
  de_callB call_isi (sc_isiO k) hg hm (by decide +kernel) ha (by decide) (by decide) hs hpl
end
end DL
namespace DL
open PySem PySem.Spec PyProof.Rows L2
/-! texts: length and signs -/
theorem app_len (a b : Str) : (a ++ b).length = a.length + b.length := by rw [TL.len_tl, TL.tl_append, List.length_append, ← TL.len_tl, ← TL.len_tl]
instance decAsc (s : Str) : Decidable (asc s) := by unfold asc; infer_instance
theorem filter_strs (ps : List Str) (p : Str → Bool) (q : D → Bool) (h : ∀ s, q (.str s) = p s) : (ps.map D.str).filter q = (ps.filter p).map D.str := by
  rw [List.filter_map]
  congr 1
  apply List.filter_congr
  intro s _
  exact h s
/-! pairs of texts -/
abbrev Us := Str × Str
def pairD (u : Us) : D := .tup [.str u.1, .str u.2]
def pairP (u : Us) : PyData := .tuple [.str u.1, .str u.2]
theorem pyA_pairs : ∀ l : List Us, pyA (l.map pairD) = l.map pairP
  | [] => rfl
  | x :: l => by show (pairD x).py :: pyA (l.map pairD) = _; rw [pyA_pairs l]; rfl
def ascU (u : Us) : Prop := asc u.1 ∧ asc u.2
theorem lay_pair {u : Us} (h : ascU u) : (pairP u).canLay0 = true := by
  show (PyData.strOk u.1 && (PyData.strOk u.2 && true)) = true
  rw [asc_ok h.1, asc_ok h.2]
  rfl
theorem lay_pairs : ∀ {l : List Us}, (∀ s ∈ l, ascU s) → PyData.canLayAll0 (l.map pairP) = true
  | [], _ => rfl
  | x :: l, h => Bool.and_eq_true_iff.mpr ⟨lay_pair (h x (by simp)), lay_pairs fun s hs => h s (by simp [hs])⟩
theorem depth_pairs : ∀ l : List Us, PyData.depthAll (l.map pairP) ≤ 1
  | [] => Nat.zero_le _
  | x :: l => by
    show max 1 (PyData.depthAll (l.map pairP)) ≤ 1
    have := depth_pairs l
    omega
theorem eqv_pair (u v : Us) : PyData.eqv (pairP u) (pairP v) = decide (u = v) := by
  show ((u.1 == v.1) && ((u.2 == v.2) && true)) = _
  rw [Bool.eq_iff_iff]
  simp [Prod.ext_iff]
theorem shaped_pairs {l : List Us} (h : ∀ s ∈ l, ascU s) : SeqAt.shaped (.list (l.map pairP)) = true := by
  show (PyData.canLayAll0 (l.map pairP) && decide (PyData.depthAll (l.map pairP) + 1 ≤ 64)) = true
  rw [lay_pairs h, decide_eq_true (by have := depth_pairs l; omega)]
  rfl
theorem shaped_pairsT {l : List Us} (h : ∀ s ∈ l, ascU s) : SeqAt.shaped (.tuple (l.map pairP)) = true := shaped_pairs h
theorem shaped_pair {u : Us} (h : ascU u) : SeqAt.shaped (pairP u) = true := by
  show ((pairP u).canLay0 && decide (1 ≤ 64)) = true
  rw [lay_pair h]
  rfl
theorem shaped_str {s : Str} (h : asc s) : SeqAt.shaped (.str s) = true := by
  show (PyData.strOk s && decide (0 ≤ 64)) = true
  rw [asc_ok h]
  rfl
/-! in, ==, of rows of texts and of pairs -/
theorem any_strs (l : List Str) (x : Str) : ((l.map PyData.str).any fun z => PyData.eqv z (.str x)) = decide (x ∈ l) := by
  rw [List.any_map, Bool.eq_iff_iff, List.any_eq_true, decide_eq_true_iff]
  constructor
  · rintro ⟨y, hy, e⟩
    have : (y == x) = true := e
    rw [← beq_iff_eq.mp this]
    exact hy
  · intro h
    exact ⟨x, h, (beq_self_eq_true x : (x == x) = true)⟩
theorem any_pairs (l : List Us) (x : Us) : ((l.map pairP).any fun z => PyData.eqv z (pairP x)) = decide (x ∈ l) := by
  rw [List.any_map, Bool.eq_iff_iff, List.any_eq_true, decide_eq_true_iff]
  constructor
  · rintro ⟨y, hy, e⟩
    have e : PyData.eqv (pairP y) (pairP x) = true := e
    rw [eqv_pair] at e
    rw [← of_decide_eq_true e]
    exact hy
  · intro h
    refine ⟨x, h, ?_⟩
    show PyData.eqv (pairP x) (pairP x) = true
    rw [eqv_pair]
    exact decide_eq_true rfl
/-! sorting them -/
def leS (a b : Str) : Bool := PySem.W.dataLe false D.py (.str a) (.str b)
@[irreducible] def sortS (l : List Str) : List Str := l.mergeSort leS
def leU (a b : Us) : Bool := PySem.W.dataLe false D.py (pairD a) (pairD b)
@[irreducible] def sortU (l : List Us) : List Us := l.mergeSort leU
theorem sortD_strs (l : List Str) : sortD (l.map D.str) = (sortS l).map D.str := by
  unfold sortD sortS
  rw [List.map_mergeSort (r := leS) (s := PySem.W.dataLe false D.py) (f := D.str) fun _ _ _ _ => rfl]
theorem sortD_pairs (l : List Us) : sortD (l.map pairD) = (sortU l).map pairD := by
  unfold sortD sortU
  rw [List.map_mergeSort (r := leU) (s := PySem.W.dataLe false D.py) (f := pairD) fun _ _ _ _ => rfl]
theorem sortS_perm (l : List Str) : (sortS l).Perm l := by unfold sortS; exact List.mergeSort_perm _ _
theorem sortU_perm (l : List Us) : (sortU l).Perm l := by unfold sortU; exact List.mergeSort_perm _ _
theorem sorts_strs {l : List Str} (hl : l.length ≤ lim) (h : ∀ s ∈ l, asc s) : Sorts (l.map D.str) where
  len := by rw [List.length_map]; exact hl
  lay := by rw [pyA_strs]; exact lay_strs h
  al := by rw [List.map_map]; exact PySem.W.AllAlike.of fun _ _ => rfl
  so := by rw [List.map_map]; exact PySem.W.Sortable.others fun b => ⟨fun e => by simp [D.py] at e, fun xs e => by simp [D.py] at e⟩
  dep := fun x hx => by
    obtain ⟨s, _, rfl⟩ := List.mem_map.mp hx
    exact Nat.zero_le _
theorem sorts_pairs {l : List Us} (hl : l.length ≤ lim) (h : ∀ s ∈ l, ascU s) : Sorts (l.map pairD) where
  len := by rw [List.length_map]; exact hl
  lay := by rw [pyA_pairs]; exact lay_pairs h
  al := by rw [List.map_map]; exact PySem.W.AllAlike.of fun _ _ => rfl
  so := by rw [List.map_map]; exact PySem.W.Sortable.tuples fun b => ⟨_, _, rfl⟩
  dep := fun x hx => by
    obtain ⟨s, _, rfl⟩ := List.mem_map.mp hx
    show 1 ≤ 30
    decide
end DL
namespace DL
open PySem PySem.Spec PyProof.Rows L2
/-! sets of texts: the members in the order in which they came -/
def putS (ks : List Str) (x : Str) : List Str := if x ∈ ks then ks else ks ++ [x]
theorem putS_nodup {ks : List Str} {x : Str} (h : ks.Nodup) : (putS ks x).Nodup := by
  unfold putS
  by_cases hx : x ∈ ks
  · rw [if_pos hx]; exact h
  · rw [if_neg hx, List.nodup_append]
    refine ⟨h, by simp, fun a ha b hb e => ?_⟩
    rw [List.mem_singleton.mp hb] at e
    exact hx (e ▸ ha)
theorem putS_mem {ks : List Str} {x y : Str} : y ∈ putS ks x ↔ y ∈ ks ∨ y = x := by
  unfold putS
  by_cases hx : x ∈ ks
  · rw [if_pos hx]
    exact ⟨.inl, fun h => h.elim id fun e => e ▸ hx⟩
  · rw [if_neg hx]; simp
theorem putS_len (ks : List Str) (x : Str) : (putS ks x).length ≤ ks.length + 1 := by
  unfold putS
  split
  · omega
  · simp
def txtOf (e : Int × Value) : Str := match e.2 with
  | .str k _ => k
  | _ => Str.empty
def TxtRow (P : Program) (w : World) (e : Int × Value) : Prop := ∃ k tk, e.2 = Value.str k tk ∧ e.1 = (PySem.strKind P w).hash k
/-- the set of the texts ks at a -/
def SetZ (P : Program) (w : World) (h : Heap) (a : Addr) (ks : List Str) : Prop :=
  ∃ o rows ep t, h.get? a = some o ∧ o.ExactSet ∧ o.data = .set rows ep t ∧ (∀ e ∈ rows.toList, TxtRow P w e) ∧ (rows.toList.map txtOf).Perm ks ∧ ks.Nodup ∧ ks.length < scanBound ∧ t.fits rows.size = true ∧ Ris t.place.toList ∧
    (w.params.followText "set-order" = true ∨ t.led = true)
section
variable {P : Program} {w : World} {A : Around} {E : Value → Shared → Prop} {s : Shared} {a : Addr} {ks : List Str}
theorem SetZ.at {h h' : Heap} (R : SetZ P w h a ks) (k : ∀ o, h.get? a = some o → h'.get? a = some o) : SetZ P w h' a ks := by
  obtain ⟨o, rows, ep, t, ho, rest⟩ := R
  exact ⟨o, rows, ep, t, k o ho, rest⟩
end
end DL
namespace DL
open PySem PySem.Spec PyProof.Rows L2
/-! the order of texts and of pairs of texts -/
theorem leS_eq (a b : Str) : leS a b = decide (a.cps.toList ≤ b.cps.toList) := congrFun (congrFun (PySem.W.dataLe_str (fun x : Str => x)) a) b
theorem str_ext {a b : Str} (h : a.cps.toList = b.cps.toList) : a = b := by
  cases a; cases b; congr 1; exact Array.toList_inj.mp h
theorem leS_antisymm {a b : Str} (h1 : leS a b = true) (h2 : leS b a = true) : a = b := by
  rw [leS_eq, decide_eq_true_iff] at *
  exact str_ext (List.le_antisymm h1 h2)
theorem leU_eq (a b : Us) : leU a b = (if b.1 = a.1 then (if b.2 = a.2 then true else leS a.2 b.2) else leS a.1 b.1) := by
  show (!PySem.W.dataLt (.tuple [.str b.1, .str b.2]) (.tuple [.str a.1, .str a.2])) = _
  rw [PySem.W.dataLt_pair rfl rfl]
  have e : ∀ x y : Str, PyData.eqv (.str x) (.str y) = decide (x = y) := fun x y => Bool.beq_eq_decide_eq x y
  rw [e, e]
  by_cases h1 : b.1 = a.1
  · rw [if_pos h1, decide_eq_true h1, if_pos rfl]
    by_cases h2 : b.2 = a.2
    · rw [if_pos h2, decide_eq_true h2, if_pos rfl]; rfl
    · rw [if_neg h2, decide_eq_false h2, if_neg Bool.false_ne_true]; rfl
  · rw [if_neg h1, decide_eq_false h1, if_neg Bool.false_ne_true]; rfl
/-! len(set(e)), sorted(set(e)) of texts -/
end DL
namespace DL
open PySem PySem.Spec PyProof.Rows L2
/-! f-strings of texts and numbers -/
/-! comprehensions over typed data -/
theorem lcT {α β : Type} (em : α → D) (em' : β → D) (b : α → Bool) (y : α → β) {g : Option Dk} {t : TgF} {c : DTT} {e : DT} {r : Sg} {Q : List D → Nat → Prop} : ∀ (xs : List α) (acc : List D) (f : Nat),
    (∀ x ∈ xs, ∃ l, t (em x) = some l ∧ (∀ (f : Nat) (Q : Bool → Nat → Prop), Q (b x) f → c g (setsR r l) f Q) ∧ (b x = true → ∀ (f : Nat) (Q : QD), Q (em' (y x)) f → e g (setsR r l) f Q)) →
    Q (acc ++ ((xs.filter b).map y).map em') f → dLcGo g t c e r (xs.map em) acc f Q
  | [], acc, f, _, hq => by
    rw [List.filter_nil, List.map_nil, List.map_nil, List.append_nil] at hq
    exact hq
  | x :: xs, acc, f, he, hq => by
    obtain ⟨l, hl, h1, h2⟩ := he x (by simp)
    simp only [List.map_cons, dLcGo, hl]
    refine h1 f _ ?_
    cases hb : b x with
    | true =>
      rw [if_pos rfl]
      refine h2 hb f _ (lcT em em' b y xs (acc ++ [em' (y x)]) f (fun x' hx' => he x' (by simp [hx'])) ?_)
      rw [List.filter_cons, hb, if_pos rfl, List.map_cons, List.map_cons] at hq
      rw [List.append_assoc]
      exact hq
    | false =>
      rw [if_neg Bool.false_ne_true]
      refine lcT em em' b y xs acc f (fun x' hx' => he x' (by simp [hx'])) ?_
      rw [List.filter_cons, hb, if_neg Bool.false_ne_true] at hq
      exact hq
/-- [x for x in xs if b(x)] -/
theorem lcF {α : Type} (em : α → D) (b : α → Bool) {g : Option Dk} {t : TgF} {c : DTT} {e : DT} {r : Sg} {Q : List D → Nat → Prop} (xs : List α) (f : Nat)
    (h : ∀ x ∈ xs, ∃ l, t (em x) = some l ∧ (∀ (f : Nat) (Q : Bool → Nat → Prop), Q (b x) f → c g (setsR r l) f Q) ∧ (b x = true → ∀ (f : Nat) (Q : QD), Q (em x) f → e g (setsR r l) f Q))
    (q : Q ((xs.filter b).map em) f) : dLcGo g t c e r (xs.map em) [] f Q := by
  refine lcT em em b id xs [] f h ?_
  rw [List.map_id, List.nil_append]
  exact q
/-- [y(x) for x in xs] -/
theorem lcM {α β : Type} (em : α → D) (em' : β → D) (y : α → β) {g : Option Dk} {t : TgF} {e : DT} {r : Sg} {Q : List D → Nat → Prop} (xs : List α) (f : Nat)
    (h : ∀ x ∈ xs, ∃ l, t (em x) = some l ∧ ∀ (f : Nat) (Q : QD), Q (em' (y x)) f → e g (setsR r l) f Q)
    (q : Q ((xs.map y).map em') f) : dLcGo g t dYes e r (xs.map em) [] f Q := by
  refine lcT em em' (fun _ => true) y xs [] f (fun x hx => ?_) ?_
  · obtain ⟨l, h1, h2⟩ := h x hx
    exact ⟨l, h1, fun f Q q => q, fun _ f Q q => h2 f Q q⟩
  · rw [List.filter_eq_self.mpr (fun _ _ => rfl), List.nil_append]
    exact q
/-- a loop over numbers -/
theorem dFor_range {g : Option Dk} {t : TgF} {body : DTS} {E : DEnds} (I : Nat → Sg → Nat → Prop) (lo : Int) : ∀ (n : Nat) (r : Sg) (f : Nat),
    (∀ i r f (N : Sg → Nat → Prop), i < n → I i r f → (∀ r' f', I (i + 1) r' f' → N r' f') → ∃ l, t (.int (lo + i)) = some l ∧ body g (setsR r l) f { E with nx := N, ct := N, bk := E.nx }) →
    (∀ r f, I n r f → E.nx r f) → I 0 r f → dForGo g t body E (intsD lo n) r f := by
  intro n r f hs h0 h
  refine dFor_inv (fun rest r f => ∃ i, i ≤ n ∧ rest = (intsD lo n).drop i ∧ I i r f) _ _ _ ?_ ?_ ⟨0, Nat.zero_le _, rfl, h⟩
  · rintro d rest r f N ⟨i, hi, hr, hI⟩ hN
    have hlt : i < n := by
      by_cases e : i < n
      · exact e
      · rw [List.drop_of_length_le (by rw [intsD_len]; omega)] at hr
        cases hr
    have hd : (intsD lo n)[i]? = some (.int (lo + i)) := by
      unfold intsD
      rw [List.getElem?_map, List.getElem?_range hlt]
      rfl
    have hdr : (intsD lo n).drop i = .int (lo + i) :: (intsD lo n).drop (i + 1) := by
      obtain ⟨h1, h2⟩ := List.getElem?_eq_some_iff.mp hd
      rw [List.drop_eq_getElem_cons h1, h2]
    rw [hdr] at hr
    obtain ⟨rfl, rfl⟩ := List.cons.inj hr
    exact hs i r f N hlt hI fun r' f' h' => hN r' f' ⟨i + 1, by omega, rfl, h'⟩
  · rintro r f ⟨i, hi, hr, hI⟩
    have : i = n := by
      by_cases e : i < n
      · have hl := congrArg List.length hr
        rw [List.length_drop, intsD_len, List.length_nil] at hl
        omega
      · omega
    subst this
    exact h0 r f hI
/-- a loop over typed data, the part that is done told -/
theorem dFor_list {α : Type} (em : α → D) {g : Option Dk} {t : TgF} {body : DTS} {E : DEnds} (I : List α → List α → Sg → Nat → Prop) (xs : List α) (r : Sg) (f : Nat)
    (hs : ∀ done x rest r f (N : Sg → Nat → Prop), xs = done ++ x :: rest → I done (x :: rest) r f → (∀ r' f', I (done ++ [x]) rest r' f' → N r' f') → ∃ l, t (em x) = some l ∧ body g (setsR r l) f { E with nx := N, ct := N, bk := E.nx })
    (h0 : ∀ r f, I xs [] r f → E.nx r f) (h : I [] xs r f) : dForGo g t body E (xs.map em) r f := by
  refine dFor_inv (fun rest r f => ∃ done rest', xs = done ++ rest' ∧ rest = rest'.map em ∧ I done rest' r f) _ _ _ ?_ ?_ ⟨[], xs, rfl, rfl, h⟩
  · rintro d rest r f N ⟨done, rest', hx, hr, hI⟩ hN
    match rest', hr with
    | x :: rest', hr =>
      obtain ⟨rfl, rfl⟩ := List.cons.inj hr
      exact hs done x rest' r f N hx hI fun r' f' h' => hN r' f' ⟨done ++ [x], rest', by rw [hx]; simp, rfl, h'⟩
  · rintro r f ⟨done, rest', hx, hr, hI⟩
    obtain rfl : rest' = [] := by
      match rest', hr with
      | [], _ => rfl
    rw [List.append_nil] at hx
    subst hx
    exact h0 r f hI
/-! one of two numbers, by a draw -/
theorem L1 {n : Nat} (h : n ≤ 100000) : n ≤ lim := Nat.le_trans h (by decide)
/-! in, told piece by piece -/
theorem shpS {l : List Str} (h : ∀ s ∈ l, asc s) : SeqAt.shaped (.list (pyA (l.map D.str))) = true := shaped_strs h
theorem shpU {l : List Us} (h : ∀ s ∈ l, ascU s) : SeqAt.shaped (.list (pyA (l.map pairD))) = true := by rw [pyA_pairs]; exact shaped_pairs h
theorem shpST {l : List Str} (h : ∀ s ∈ l, asc s) : SeqAt.shaped (.tuple (pyA (l.map D.str))) = true := shaped_strs h
theorem anyS (l : List Str) (x : Str) : ((pyA (l.map D.str)).any fun z => PyData.eqv z (.str x)) = decide (x ∈ l) := by rw [pyA_strs]; exact any_strs l x
theorem anyU (l : List Us) (x : Us) : ((pyA (l.map pairD)).any fun z => PyData.eqv z (pairP x)) = decide (x ∈ l) := by rw [pyA_pairs]; exact any_pairs l x
theorem anyU' (l : List Us) (x y : Str) : ((pyA (l.map pairD)).any fun z => PyData.eqv z (D.tup [.str x, .str y]).py) = decide ((x, y) ∈ l) := anyU l (x, y)
theorem anyS' (l : List Str) (x : Str) : ((pyA (l.map D.str)).any fun z => PyData.eqv z (D.str x).py) = decide (x ∈ l) := anyS l x
/-! plain rows of texts and pairs -/
theorem cutD_takeS (l : List Str) (n : Nat) : cutD (l.map D.str) none (some (n : Int)) = (l.take n).map D.str := by rw [cutD_take, List.map_take]
theorem eqvL_nil (xs : List D) : PyData.eqv (D.lst xs).py (D.lst []).py = decide (xs = []) := by
  cases xs with
  | nil => rfl
  | cons x l => rw [decide_eq_false (by simp)]; rfl
end DL
namespace DL
open PySem PySem.Spec PyProof.Rows L2
/-! a list taken apart -/
/-! a choice by draws -/
/-! shapes -/
def Shp (n : Nat) (d : D) : Prop := d.py.canLay0 = true ∧ d.py.depth ≤ n
theorem Shp.of {n : Nat} {d : D} (h : Shp n d) (hn : n ≤ 64) : SeqAt.shaped d.py = true := by
  unfold SeqAt.shaped
  rw [h.1, decide_eq_true (Nat.le_trans h.2 hn)]
  rfl
theorem shp_str {s : Str} (h : asc s) (n : Nat) : Shp n (.str s) := ⟨asc_ok h, Nat.zero_le _⟩
theorem shpA {n : Nat} : ∀ {xs : List D}, (∀ x ∈ xs, Shp n x) → PyData.canLayAll0 (pyA xs) = true ∧ PyData.depthAll (pyA xs) ≤ n
  | [], _ => ⟨rfl, Nat.zero_le _⟩
  | x :: xs, h => by
    obtain ⟨h1, h2⟩ := shpA fun y hy => h y (List.mem_cons_of_mem x hy)
    obtain ⟨h3, h4⟩ := h x (by simp)
    refine ⟨?_, ?_⟩
    · show (x.py.canLay0 && PyData.canLayAll0 (pyA xs)) = true
      rw [h1, h3]; rfl
    · show max x.py.depth (PyData.depthAll (pyA xs)) ≤ n
      exact Nat.max_le.mpr ⟨h4, h2⟩
theorem shp_lst {n : Nat} {xs : List D} (h : ∀ x ∈ xs, Shp n x) : Shp (n + 1) (.lst xs) := by
  obtain ⟨h1, h2⟩ := shpA h
  exact ⟨h1, Nat.succ_le_succ h2⟩
theorem shp_tup {n : Nat} {xs : List D} (h : ∀ x ∈ xs, Shp n x) : Shp (n + 1) (.tup xs) := by
  obtain ⟨h1, h2⟩ := shpA h
  exact ⟨h1, Nat.succ_le_succ h2⟩
theorem Shp.mono {n m : Nat} {d : D} (h : Shp n d) (e : n ≤ m) : Shp m d := ⟨h.1, Nat.le_trans h.2 e⟩
theorem shp_pair {u : Us} (h : ascU u) : Shp 1 (pairD u) := shp_tup fun x hx => by
  simp only [List.mem_cons, List.not_mem_nil, or_false] at hx
  rcases hx with rfl | rfl
  · exact shp_str h.1 0
  · exact shp_str h.2 0
theorem nodup_sub_len {α : Type} [DecidableEq α] : ∀ {l m : List α}, l.Nodup → (∀ x ∈ l, x ∈ m) → l.length ≤ m.length
  | [], _, _, _ => Nat.zero_le _
  | x :: l, m, hn, hs => by
    obtain ⟨h1, h2⟩ := List.nodup_cons.mp hn
    have hx : x ∈ m := hs x (by simp)
    have ih := nodup_sub_len (m := m.erase x) h2 fun y hy => (List.mem_erase_of_ne (fun e : y = x => h1 (e ▸ hy))).2 (hs y (by simp [hy]))
    rw [List.length_erase_of_mem hx] at ih
    have : 0 < m.length := List.length_pos_of_mem hx
    rw [List.length_cons]
    omega
end DL
namespace PySem.SeqAt
open AutoSeq1 (wpAny_loadPart')
open MeetsSeq MeetsSeq2 MeetsSeq3 SeqRoads2
end PySem.SeqAt
namespace DL
open PySem PySem.Spec PyProof.Rows L2
/-! reads of dicts -/
def lookD (ks : List Key) (xs : List D) (k : Key) : Option D := ((ks.zip xs).find? fun p => decide (p.1 = k)).map (·.2)
section
variable {X : Cx} {K : PySem.W.Frag} {W : WX}
theorem look_rp {H : Hp} {k : Key} : ∀ {ks : List Key} {xs : List D} {vs : List V} {d : D}, RpA K H xs vs → lookD ks xs k = some d → ∃ v, valV (ks.zip vs) k = some v ∧ Rp K H d v
  | [], xs, vs, d, h, e => by simp [lookD] at e
  | _ :: _, [], vs, d, h, e => by simp [lookD] at e
  | a :: ks, x :: xs, _, d, ⟨v, r, h1, h2, h3⟩, e => by
    subst h1
    by_cases q : a = k
    · have : lookD (a :: ks) (x :: xs) k = some x := by simp [lookD, q]
      rw [this] at e
      cases e
      exact ⟨v, by rw [List.zip_cons_cons]; exact valV_pos q, h2⟩
    · have : lookD (a :: ks) (x :: xs) k = lookD ks xs k := by simp [lookD, q]
      rw [this] at e
      obtain ⟨w, h4, h5⟩ := look_rp h3 e
      exact ⟨w, by rw [List.zip_cons_cons, valV_neg q]; exact h4, h5⟩
theorem val_some {k : Key} {ks : List Key} {vs : List V} (h : ks.length = vs.length) : (valV (ks.zip vs) k).isSome = decide (k ∈ ks) := by
  rw [← valV_any, any_zip h]
def rDIn (neg : Bool) : R2 := fun x y H Q => ∃ a o, y = .ref a ∧ DGet H a x o ∧ Q (.bl (xb neg o.isSome)) H
theorem op_din (hu : X.A.units + 1 < cLine) : OpR X (compareOp .In) (rDIn false) := fun pins s st H x y v u Q I rx ry h => by
  obtain ⟨a, o, rfl, g, q⟩ := h
  obtain rfl : u = Value.ref a := ry
  exact d_in hu I g rx fun s3 I3 => ⟨.bl _, H, I3, rfl, q⟩
theorem op_dnotIn (hu : X.A.units + 1 < cLine) : OpR X (compareOp .NotIn) (rDIn true) := fun pins s st H x y v u Q I rx ry h => by
  obtain ⟨a, o, rfl, g, q⟩ := h
  obtain rfl : u = Value.ref a := ry
  exact d_notIn hu I g rx fun s3 I3 => ⟨.bl _, H, I3, rfl, q⟩
def oDIn (neg : Bool) : O2 := fun x y Q => match y with
  | .dct ks _ => ∃ k, x.key = some k ∧ Q (.bool (xb neg (decide (k ∈ ks))))
  | _ => False
theorem sr_din (neg : Bool) : SndR K (rDIn neg) (oDIn neg) := SndR.pure fun H Hs x y vx vy Q Q' s rx ry hq hd => by
  cases y <;> try exact hd.elim
  obtain ⟨k, e, q⟩ := hd
  obtain ⟨a, vs, rfl, h1, h2, h3⟩ := ry
  rw [key_v rx e]
  refine ⟨a, _, rfl, DGet.k (s _ _ h1), ?_⟩
  rw [val_some h2]
  exact hq (.bool _) _ rfl q
theorem room1 {k : Nat} {A : Around} (r : Room k A) : A.units + 1 < cLine := by have := r.un; omega
theorem dp_din {k : Nat} {a b : Expr} {pos : Pos} {da db : DT} (hr : Room k X.A) (ha : DE X a da) (hb : DE X b db) (hm : behindInMarks .In b = false := by rfl) : DP X (.Compare a [.In] [b] pos) (dTest (dOp (oDIn false) da db)) := dp_cmp (op_din (room1 hr)) (sr_din false) ha hb hm
theorem dp_dnotIn {k : Nat} {a b : Expr} {pos : Pos} {da db : DT} (hr : Room k X.A) (ha : DE X a da) (hb : DE X b db) (hm : behindInMarks .NotIn b = false := by rfl) : DP X (.Compare a [.NotIn] [b] pos) (dTest (dOp (oDIn true) da db)) := dp_cmp (op_dnotIn (room1 hr)) (sr_din true) ha hb hm
def dDGet (a b : DT) : DT := fun g r f Q => a g r f fun x f1 => b g r f1 fun y f2 => match x with
  | .dct ks xs => ∃ k d, y.key = some k ∧ lookD ks xs k = some d ∧ Q d f2
  | _ => False
theorem de_dget {k : Nat} {a b : Expr} {pos : Pos} {da db : DT} (hr : Room k X.A) (ha : DE X a da) (hb : DE X b db) (hs : NoSl b := by intro _ _; rfl) : DE X (.Subscript a b pos) (dDGet da db) :=
  .mk' (pe_dget (room1 hr) ha.pe hb.pe hs) fun g ro f st H Hs Q Q' A hq hd =>
    ha.sn g ro f st H Hs _ _ A (fun x f1 vx H1 Hs1 s1 k1 r1 q1 => hb.sn g ro f1 st H1 Hs1 _ _ (A.step s1 k1) (fun y f2 vy H2 Hs2 s2 k2 r2 q2 => by
      cases x <;> try exact q2.elim
      obtain ⟨key, d, e1, e2, q⟩ := q2
      obtain ⟨p, vs, rfl, h1, h2, h3⟩ := r1.mono s2.ext
      obtain ⟨v, h4, h5⟩ := look_rp h3 e2
      rw [key_v r2 e1]
      exact ⟨p, v, rfl, h4 ▸ DGet.k (s2.sub _ _ h1), hq d f2 v H2 Hs2 (s1.trans s2) k2 h5 q⟩) q1) hd
/-! list(e), a new list -/
def dListOf (t : DTA) : DTA := fun g r f Q => t g r f fun ds f1 => match ds with
  | [.lst xs] => Q xs f1
  | [.tup xs] => Q xs f1
  | _ => False
theorem dl_listOf {p pos : Pos} {e : Expr} {d : DTA} (hm : X.mg "list" = none) (ha : DA X [e] d) (hg : Gl X "list" := by rfl) (hs : starEach [e] X.env = [(false, eval e X.env)] := by rfl)
    (hpl : (backTo pos (starEach [] X.env)).any (·.1) = false := by rfl) : DL' X (.Call (.Name "list" p) [e] [] pos) (dListOf d) :=
  .mk' (pe_callTy call_list_of hg hm (by decide +kernel) ha.pa (by decide) (by decide) hs hpl) fun g ro f st H Hs Q Q' A hq hd =>
    ha.sn g ro f st H Hs _ _ A (fun ds f1 vs H1 Hs1 s1 k1 r1 q1 => by
      split at q1
      · obtain ⟨v, rfl, a, us, rfl, h1, h2⟩ := rpA1 r1
        refine ⟨a, us, rfl, .inl (SqL.of (s1.sub _ _ h1)), fun l hl => ?_⟩
        have lay : Stp none H1 Hs1 (upd H1 l (.lst us)) Hs1 := Stp.lay s1.sub hl
        exact hq _ f1 l us _ Hs1 (s1.trans lay.gen) (k1.stp lay) (s1.none0 hl) (same_none s1.sub hl) upd_same h2 q1
      · obtain ⟨v, rfl, a, us, rfl, h1, h2⟩ := rpA1 r1
        refine ⟨a, us, rfl, .inr ((tp_sq s1.sub h1)), fun l hl => ?_⟩
        have lay : Stp none H1 Hs1 (upd H1 l (.lst us)) Hs1 := Stp.lay s1.sub hl
        exact hq _ f1 l us _ Hs1 (s1.trans lay.gen) (k1.stp lay) (s1.none0 hl) (same_none s1.sub hl) upd_same h2 q1
      · exact q1.elim) hd
/-! {k: v} that a slot owns -/
/-! a comprehension over what is walked already -/
/-! what is locked stands for nothing -/
end
end DL
namespace DL
open PySem PySem.Spec PyProof.Rows L2
section
variable {X : Cx} {K : PySem.W.Frag} {W : WX}
/-! {k: v for ..} -/
theorem sw_trueD {kx vx : Expr} {gs : List Comprehension} {scope : Scope} {pos py : Pos} {y : Str} {l : Nat} {env : Env} (hk : env.scope.kind = .function) (hy : env.scope.names.lookup y = some .local) (hl : (py.line == pos.line) = true)
    (ha : (scope.names.any fun (n, k) => n == y && (k == .local || k == .cell)) = false) : swapsWith (.DictComp kx vx gs scope pos) (some (.Name y py)) l env = pure true := by
  have ky : env.kindOf y = some .local := hy
  have hb : env.blockKind = .function := by unfold Env.blockKind; rw [hk]; rfl
  unfold swapsWith
  simp only [hb, ky, ha, Expr.pos, hl]
  rfl
theorem ps_setDc {i : Nat} {y : Str} {py : Pos} {kx vx tg iter : Expr} {ifs : List Expr} {scope : Scope} {own : List (Str × Nat)} {pos spos : Pos} {wi : TI} {g : TG} {tt : TT} {tk tv : TE} (hc : X.calm = true) (hN : X.N.Nodup) (hy : X.N[i]? = some y) (hyl : X.env.scope.names.lookup y = some .local)
    (hsw : swapsWith (.DictComp kx vx [⟨tg, iter, ifs, 0⟩] scope pos) (some (.Name y py)) spos.line X.env = pure true) (hi : PI X tg iter wi) (ok : BlkOk X.N X.env.scope scope own)
    (hg : ∀ (s : Shared) (H : Hp) (C : Addr) (cl : List (Str × Addr)) (fp : List Addr), PG (X.blk s H scope (compEnvC scope cl C X.env) fp) tg g) (ht : ∀ (s : Shared) (H : Hp) (C : Addr) (cl : List (Str × Addr)) (fp : List Addr), PTs (X.blk s H scope (compEnvC scope cl C X.env) fp) ifs tt)
    (hk : ∀ (s : Shared) (H : Hp) (C : Addr) (cl : List (Str × Addr)) (fp : List Addr), PE (X.blk s H scope (compEnvC scope cl C X.env) fp) kx tk)
    (he : ∀ (s : Shared) (H : Hp) (C : Addr) (cl : List (Str × Addr)) (fp : List Addr), PE (X.blk s H scope (compEnvC scope cl C X.env) fp) vx tv) (hs : ∀ x, foldedSetIterable iter X.env x = pure x := by intro _; rfl) :
    PS X (.Assign [.Name y py] (.DictComp kx vx [⟨tg, iter, ifs, 0⟩] scope pos) spos) (tAsg (tDc wi g tt tk tv (own.map (·.2))) (gName i)) := by
  refine ⟨fun pins s σ H D I h => ?_⟩
  rw [exec_Assign_Name_used _ _ _ _ hsw]
  refine wpAny_bind (wpAny_standAt (wpAny_bind ?_))
  show wpAny _ X.A (do let _ ← comprehension (.DictComp kx vx [⟨tg, iter, ifs, 0⟩] scope pos) scope X.env (firstIterPos [⟨tg, iter, ifs, 0⟩] pos) newDict false (eval iter X.env) (some (assign (.Name y py) X.env))) _ _ s
  have h : tDc wi g tt tk tv (own.map (·.2)) σ H (fun x H1 => gName i x σ H1 D.nx) := h
  refine wpAny_bind (thn (dc_core (Qf := fun _ s' => SP X pins D .next s') hc hN I hi ok hg ht hk he hs h fun L C s' m H' I' q hn f => ?_) fun _ s' hq => wpAny_pure (wpAny_pure hq))
  show wpAny _ _ (assign (.Name y py) X.env (.ref L)) _ _ _
  refine wpAny_assign_Name (store_ok2 (v := V.ref L) I' hN hy (.inl hyl) rfl (fun s2 I2 ⟨a, sb, ha⟩ => ?_) (.inr hyl))
  obtain ⟨f0, f1, f2, f3, f4, f5⟩ := f
  have haC : C ≠ a := by
    rcases ha with z | z
    · rw [z]; exact f1
    · exact fun e => f4 y a z e.symm
  refine ⟨m, hn.sameBut sb haC, fun h3 sb3 => ?_⟩
  exact ⟨_, H', I2.turned (t' := s2.toks) (fun b o hb e => (sb3.2 b hb).trans e) f0 f1 f3 f4 f5, q⟩
abbrev DTD := Option Dk → Sg → Nat → (List Key → List D → Nat → Prop) → Prop
def SndD (K : PySem.W.Frag) (t : TE) (dl : DTD) : Prop := ∀ (g : Option Dk) (r : Sg) (f : Nat) (st : L2.St) (H Hs : Hp) (Q : VK) (Q' : List Key → List D → Nat → Prop), At K g r f st H Hs →
  (∀ ks xs f' p vs H' Hs', Stp g H Hs H' Hs' → DkOk g H' Hs' f' → H p = none → Hs' p = none → H' p = some (.dK (ks.zip vs)) → ks.length = vs.length → RpA K Hs' xs vs → Q' ks xs f' → Q (.ref p) H') → dl g r f Q' → t st H Q
def dDcGo (g : Option Dk) (t : TgF) (c : DTT) (k v : DT) (r : Sg) : List D → List Key → List D → Nat → (List Key → List D → Nat → Prop) → Prop
  | [], ks, xs, f, Q => Q ks xs f
  | d :: ds, ks, xs, f, Q => match t d with
    | none => False
    | some l => c g (setsR r l) f fun b f1 => if b = true then k g (setsR r l) f1 fun x f2 => v g (setsR r l) f2 fun y f3 => ∃ key, x.key = some key ∧ dDcGo g t c k v r ds (putKs ks key) (putXs ks xs key y) f3 Q else dDcGo g t c k v r ds ks xs f1 Q
def dDc (i : DTA) (t : TgF) (c : DTT) (k v : DT) (vs : List Nat) : DTD := fun g r f Q => i g r f fun ds f1 => ds.length ≤ lim ∧ dDcGo g t c k v (wipeR r vs) ds [] [] f1 Q
theorem putKs_len (ks : List Key) (k : Key) : (putKs ks k).length ≤ ks.length + 1 := by
  unfold putKs
  split
  · omega
  · simp
theorem snd_dc {wi : TI} {gt : TG} {tt : TT} {tk tv : TE} {vs is : List Nat} {i : DTA} {t : TgF} {c : DTT} {k e : DT} (hi : SndI K wi i) (hg : SndG K is gt t) (hc : SndT K tt c) (hk : Snd K tk k) (he : Snd K tv e) (hs : ∀ j ∈ is, j ∈ vs) : SndD K (tDc wi gt tt tk tv vs) (dDc i t c k e vs) := by
  intro g r f st H Hs Q Q' A hq hd
  refine hi g r f st H Hs _ _ A (fun ds f1 J H1 Hs1 s1 k1 wk q1 => ?_) hd
  intro D hD
  have hDs : Hs1 D = none := same_none s1.sub hD
  have hDk : ¬ Dk.has g D := k1.out hD
  refine ⟨fun i m H2 => m = ds.length - i ∧ i ≤ ds.length ∧ ∃ f2 Hs2 ks acc ws, Stp g H1 Hs1 H2 Hs2 ∧ DkOk g H2 Hs2 f2 ∧ Hs2 D = none ∧ H2 D = some (.dK (ks.zip ws)) ∧ ks.length = ws.length ∧ RpA K Hs2 acc ws ∧ ks.length ≤ i ∧ dDcGo g t c k e (wipeR r vs) (ds.drop i) ks acc f2 Q', ⟨ds.length, rfl, Nat.zero_le _, f1, Hs1, [], [], [], ?_, ?_, hDs, upd_same, rfl, rfl, Nat.le_refl _, q1.2⟩, ?_⟩
  · exact (Stp.lay s1.sub hD : Stp none H1 Hs1 (upd H1 D (.dK [])) Hs1).gen
  · exact k1.mut hDk
  rintro i m H2 ⟨rfl, hil, f2, Hs2, ks, acc, ws, s2, k2, n2, e2, ln2, r2, l2, q2⟩
  by_cases hlt : i < ds.length
  · have hgd : ds[i]? = some ds[i] := List.getElem?_eq_getElem hlt
    have hdr : ds.drop i = ds[i] :: ds.drop (i + 1) := List.drop_eq_getElem_cons hlt
    rw [hdr] at q2
    obtain ⟨hgo, hy⟩ := wk.go i _ H2 Hs2 s2.ext s2.sub hgd
    refine .inr ⟨hgo, fun H3 => i + 1 ≤ ds.length ∧ ∃ f2 Hs2 ks acc ws, Stp g H1 Hs1 H3 Hs2 ∧ DkOk g H3 Hs2 f2 ∧ Hs2 D = none ∧ H3 D = some (.dK (ks.zip ws)) ∧ ks.length = ws.length ∧ RpA K Hs2 acc ws ∧ ks.length ≤ i + 1 ∧ dDcGo g t c k e (wipeR r vs) (ds.drop (i + 1)) ks acc f2 Q', fun H3 h3 => ⟨_, by omega, rfl, h3⟩, fun x H3 hx => ?_⟩
    obtain ⟨Hs3, s3, r3⟩ := hy x H3 hx
    simp only [dDcGo] at q2
    cases et : t ds[i] with
    | none => rw [et] at q2; exact q2.elim
    | some l =>
      rw [et] at q2
      replace q2 : c g (setsR (wipeR r vs) l) f2 fun b f1 => if b = true then k g (setsR (wipeR r vs) l) f1 fun x f2 => e g (setsR (wipeR r vs) l) f2 fun y f3 => ∃ key, x.key = some key ∧ dDcGo g t c k e (wipeR r vs) (ds.drop (i + 1)) (putKs ks key) (putXs ks acc key y) f3 Q' else dDcGo g t c k e (wipeR r vs) (ds.drop (i + 1)) ks acc f1 Q' := q2
      have sl0 : SlOk K Hs3 (wipeR r vs) (L2.wipe st vs) := (((A.sl.mono s1.ext).mono s2.ext).mono s3.ext).wipe vs
      refine hg.2 H3 Hs3 _ _ x _ l s3.sub r3 et fun us hus => ⟨wipe_wipe_sets hs, ?_⟩
      have A3 : At K g (setsR (wipeR r vs) l) f2 (setsV (L2.wipe st vs) is us) H3 Hs3 := ⟨s3.sub, k2.stp s3, by
        have := SlOk.sets sl0 hus
        rw [hg.1 _ l et] at this
        exact this⟩
      refine hc g _ f2 _ H3 Hs3 _ _ A3 (fun b f4 H4 Hs4 s4 k4 q4 => ?_) q2
      have t4 : Stp g H1 Hs1 H4 Hs4 := (s2.trans s3.gen).trans s4
      have n3 : Hs3 D = none := s3.new D _ e2 n2
      have e3 : H3 D = some (.dK (ks.zip ws)) := s3.keep D _ e2 id
      have n4 : Hs4 D = none := s4.new D _ e3 n3
      have e4 : H4 D = some (.dK (ks.zip ws)) := s4.keep D _ e3 hDk
      cases b with
      | false =>
        rw [if_neg Bool.false_ne_true]
        exact ⟨hlt, f4, Hs4, ks, acc, ws, t4, k4, n4, e4, ln2, (r2.mono s3.ext).mono s4.ext, by omega, q4⟩
      | true =>
        rw [if_pos rfl]
        refine hk g _ f4 _ H4 Hs4 _ _ (A3.step s4 k4) (fun kx f5 kv H5 Hs5 s5 k5 r5 q5 => ?_) q4
        have n5 : Hs5 D = none := s5.new D _ e4 n4
        have e5 : H5 D = some (.dK (ks.zip ws)) := s5.keep D _ e4 hDk
        refine he g _ f5 _ H5 Hs5 _ _ ((A3.step s4 k4).step s5 k5) (fun y f6 v H6 Hs6 s6 k6 r6 q6 => ?_) q5
        have n6 : Hs6 D = none := s6.new D _ e5 n5
        have e6 : H6 D = some (.dK (ks.zip ws)) := s6.keep D _ e5 hDk
        obtain ⟨key, ek, q6⟩ := q6
        have r6' : RpA K Hs6 acc ws := (((r2.mono s3.ext).mono s4.ext).mono s5.ext).mono s6.ext
        obtain ⟨ws', p1, p2, p3⟩ := put_rp (k := key) ln2 r6' r6
        refine ⟨_, key, key_v r5 ek, e6, ?_, hlt, f6, Hs6, putKs ks key, putXs ks acc key y, ws', ((t4.trans s5).trans s6).mut hD n6, k6.mut hDk, n6, ?_, p2, p3, ?_, q6⟩
        · rw [List.length_zip]
          have := q1.1
          exact lim_lt (by omega)
        · rw [upd_same, p1]
        · have := putKs_len ks key
          omega
  · have ei : i = ds.length := by omega
    subst ei
    rw [List.drop_length] at q2
    refine .inl ⟨wk.stop H2 (fun a o h => s2.sub a o (s2.ext a o h)), ?_⟩
    exact hq ks acc f2 D ws H2 Hs2 (s1.trans s2) k2 (none_back s1 hD) n2 e2 ln2 r2 q2
/-- y = {..} on one line: the slot owns the dict -/
def sSetDc (i : Nat) (dl : DTD) : DTS := fun g r f E => dl g (hide r) f fun ks xs f' => E.nx (r.set i (.od ks xs)) f'
theorem snd_setDc {i : Nat} {t : TE} {d : DTD} (h : SndD K t d) : SndS K W (tAsg t (gName i)) (sSetDc i d) := fun g H0 Hs0 r f st H D E s e hd => by
  obtain ⟨Hs, s⟩ := s
  refine h g _ f st H Hs _ _ s.atHid (fun ks xs f' p vs H' Hs' s' k' hp np hv hl hr q => ?_) hd
  have s1 := s.afterHid s' k'
  refine e.nx _ f' _ H' ⟨_, s1.setOwn i (u := .od ks xs) rfl (s.stp.none0 hp) np (fun j sl _ h1 h2 h3 => ?_) ⟨vs, hv, hl, hr⟩⟩ q
  obtain ⟨a, e', _, _, w⟩ := s.ow j sl h1 h2
  rw [h3] at e'
  cases e'
  obtain ⟨o, ho, _⟩ := w.ld
  rw [hp] at ho
  cases ho
theorem ds_setDc {i : Nat} {y : Str} {py : Pos} {kx vx tg iter : Expr} {ifs : List Expr} {scope : Scope} {own : List (Str × Nat)} {pos spos : Pos} {is : List Nat} {di : DTA} {t : TgF} {c : DTT} {k e : DT} (hN : X.N.Nodup) (hi : DI X tg iter di) (ok : BlkOk X.N X.env.scope scope own)
    (hg : ∀ (s : Shared) (H : Hp) (C : Addr) (cl : List (Str × Addr)) (fp : List Addr), DG (X.blk s H scope (compEnvC scope cl C X.env) fp) tg is t) (ht : ∀ (s : Shared) (H : Hp) (C : Addr) (cl : List (Str × Addr)) (fp : List Addr), DTs (X.blk s H scope (compEnvC scope cl C X.env) fp) ifs c)
    (hk : ∀ (s : Shared) (H : Hp) (C : Addr) (cl : List (Str × Addr)) (fp : List Addr), DE (X.blk s H scope (compEnvC scope cl C X.env) fp) kx k)
    (he : ∀ (s : Shared) (H : Hp) (C : Addr) (cl : List (Str × Addr)) (fp : List Addr), DE (X.blk s H scope (compEnvC scope cl C X.env) fp) vx e)
    (hy : X.N[i]? = some y := by rfl) (hyl : X.env.scope.names.lookup y = some .local := by rfl) (hc : X.calm = true := by rfl)
    (hsw : swapsWith (.DictComp kx vx [⟨tg, iter, ifs, 0⟩] scope pos) (some (.Name y py)) spos.line X.env = pure true := by exact sw_trueD rfl rfl rfl (by decide +kernel)) (hs : ∀ x, foldedSetIterable iter X.env x = pure x := by intro _; rfl) (hsub : ∀ j ∈ is, j ∈ own.map (·.2) := by decide) :
    DS X (.Assign [.Name y py] (.DictComp kx vx [⟨tg, iter, ifs, 0⟩] scope pos) spos) (sSetDc i (dDc di t c k e (own.map (·.2)))) :=
  DS.mk' (ps_setDc (g := gOf X.K is t) (tt := tOfT X.K c) (tk := tOf X.K k) (tv := tOf X.K e) hc hN hy hyl hsw hi.pi ok (fun s H C cl fp => (hg s H C cl fp).pg) (fun s H C cl fp => (ht s H C cl fp).pt) (fun s H C cl fp => (hk s H C cl fp).pe) (fun s H C cl fp => (he s H C cl fp).pe) hs)
    (snd_setDc (snd_dc hi.sn (hg X.s_0 (fun _ => none) 0 [] []).sn (ht X.s_0 (fun _ => none) 0 [] []).sn (hk X.s_0 (fun _ => none) 0 [] []).sn (he X.s_0 (fun _ => none) 0 [] []).sn hsub))
/-! a dict of lists of texts in the making -/
structure DLs (H : Hp) (D : Addr) (ks : List Str) (ps : List Addr) (c : Str → List Str) (H2 : Hp) : Prop where
  same : Same H H2
  d0 : H D = none
  len : ks.length = ps.length
  dk : H2 D = some (.dK ((ks.map Sum.inr).zip (ps.map V.ref)))
  p0 : ∀ p ∈ ps, H p = none ∧ p ≠ D
  at_ : ∀ (i : Nat) (m : Str) (p : Addr), ks[i]? = some m → ps[i]? = some p → H2 p = some (.lst ((c m).map V.str))
  nd : ps.Nodup
theorem DLs.mono {H : Hp} {D : Addr} {ks : List Str} {ps : List Addr} {c : Str → List Str} {H2 H3 : Hp} (h : DLs H D ks ps c H2) (e : Same H2 H3) : DLs H D ks ps c H3 :=
  ⟨h.same.trans e, h.d0, h.len, e _ _ h.dk, h.p0, fun i m p a b => e _ _ (h.at_ i m p a b), h.nd⟩
theorem DLs.start {H : Hp} {D : Addr} {c : Str → List Str} (h : H D = none) : DLs H D [] [] c (upd H D (.dK [])) :=
  ⟨same_upd h, h, rfl, upd_same, fun p hp => by simp at hp, fun i m p a b => by simp at a, List.nodup_nil⟩
theorem key_out {ks : List Str} {vs : List V} {m : Str} (hl : ks.length = vs.length) (h : m ∉ ks) : valV ((ks.map (Sum.inr : Str → Key)).zip vs) (.inr m) = none := by
  have := val_some (k := (.inr m : Key)) (ks := ks.map Sum.inr) (vs := vs) (by rw [List.length_map]; exact hl)
  rw [decide_eq_false (fun z => by
    obtain ⟨x, hx, e⟩ := List.mem_map.mp z
    cases e
    exact h hx)] at this
  exact Option.isSome_eq_false_iff.mp this |> fun e => by simpa using e
theorem DLs.add {H : Hp} {D : Addr} {ks : List Str} {ps : List Addr} {H2 : Hp} {m : Str} {p : Addr} (h : DLs H D ks ps (fun _ => []) H2) (hp : H2 p = none) (hm : m ∉ ks) :
    DLs H D (ks ++ [m]) (ps ++ [p]) (fun _ => []) (upd (upd H2 p (.lst [])) D (.dK (putK ((ks.map Sum.inr).zip (ps.map V.ref)) (.inr m) (.ref p)))) := by
  have hpD : p ≠ D := fun z => by rw [z, h.dk] at hp; cases hp
  have hp0 : H p = none := by
    cases e : H p with
    | none => rfl
    | some o => rw [h.same _ _ e] at hp; cases hp
  have hps : ∀ q ∈ ps, q ≠ p := fun q hq z => by
    obtain ⟨i, hi, e⟩ := List.getElem_of_mem hq
    have : H2 q = some (.lst []) := h.at_ i (ks[i]'(by rw [h.len]; exact hi)) q (List.getElem?_eq_getElem _) (by rw [List.getElem?_eq_getElem hi, e])
    rw [z, hp] at this
    cases this
  refine ⟨fun b o e => ?_, h.d0, by simp [h.len], ?_, fun q hq => ?_, fun i x q a b => ?_, ?_⟩
  · rw [upd_ne (ne_of_none e h.d0), upd_ne (ne_of_none e hp0)]
    exact h.same b o e
  · rw [upd_same, putK_new _ (key_out (by rw [List.length_map]; exact h.len) hm), List.map_append, List.map_append, List.zip_append (by rw [List.length_map, List.length_map]; exact h.len)]
    rfl
  · rcases List.mem_append.mp hq with q' | q'
    · exact h.p0 q q'
    · cases List.mem_singleton.mp q'
      exact ⟨hp0, hpD⟩
  · by_cases hi : i < ps.length
    · rw [List.getElem?_append_left (by rw [h.len]; exact hi)] at a
      rw [List.getElem?_append_left hi] at b
      have hq : q ∈ ps := List.mem_of_getElem? b
      rw [upd_ne (h.p0 q hq).2, upd_ne (hps q hq)]
      exact h.at_ i x q a b
    · have hi : ps.length ≤ i := by omega
      rw [List.getElem?_append_right hi] at b
      have : i - ps.length = 0 := by
        have := (List.getElem?_eq_some_iff.mp b).1
        simp at this
        omega
      rw [this] at b
      cases b
      rw [upd_ne hpD, upd_same]
      rfl
  · rw [List.nodup_append]
    exact ⟨h.nd, by simp, fun a ha b hb => by cases List.mem_singleton.mp hb; exact hps a ha⟩
open Classical in
noncomputable def shr (H2 Hs : Hp) (D : Addr) (ps : List Addr) : Hp := fun b => if b = D ∨ b ∈ ps then H2 b else Hs b
theorem DLs.fin {H Hs : Hp} {D : Addr} {ks : List Str} {ps : List Addr} {c : Str → List Str} {H2 : Hp} (h : DLs H D ks ps c H2) (s : Same Hs H) : Stp none H Hs H2 (shr H2 Hs D ps) ∧ Rp K (shr H2 Hs D ps) (.dct (ks.map Sum.inr) (ks.map fun m => .lst ((c m).map DL.D.str))) (.ref D) := by
  have n0 : ∀ b, (b = D ∨ b ∈ ps) → H b = none := fun b hb => hb.elim (fun e => e ▸ h.d0) fun e => (h.p0 b e).1
  have inn : ∀ {b}, (b = D ∨ b ∈ ps) → shr H2 Hs D ps b = H2 b := fun hb => if_pos hb
  have out : ∀ {b}, ¬ (b = D ∨ b ∈ ps) → shr H2 Hs D ps b = Hs b := fun hb => if_neg hb
  refine ⟨⟨fun b o e => ?_, fun b o e => ?_, fun b o e _ => h.same b o e, fun b o e => ⟨o, h.same b o e⟩, fun b o e n => ?_⟩, D, ps.map V.ref, rfl, ?_, by rw [List.length_map, List.length_map]; exact h.len, ?_⟩
  · by_cases hb : b = D ∨ b ∈ ps
    · rw [inn hb] at e; exact e
    · rw [out hb] at e; exact h.same _ _ (s _ _ e)
  · have hb : ¬ (b = D ∨ b ∈ ps) := fun hb => by have := n0 b hb; rw [s _ _ e] at this; cases this
    rw [out hb]; exact e
  · have hb : ¬ (b = D ∨ b ∈ ps) := fun hb => by have := n0 b hb; rw [e] at this; cases this
    rw [out hb]; exact n
  · rw [inn (.inl rfl)]; exact h.dk
  · have gen : ∀ (ks : List Str) (qs : List Addr), ks.length = qs.length → (∀ q ∈ qs, q ∈ ps) → (∀ (i : Nat) (m : Str) (p : Addr), ks[i]? = some m → qs[i]? = some p → H2 p = some (.lst ((c m).map V.str))) → RpA K (shr H2 Hs D ps) (ks.map fun m => .lst ((c m).map DL.D.str)) (qs.map V.ref) := by
      intro ks
      induction ks with
      | nil => intro qs hl _ _; cases qs with
        | nil => rfl
        | cons _ _ => simp at hl
      | cons k ks ih =>
        intro qs hl hm hat
        cases qs with
        | nil => simp at hl
        | cons q qs =>
          refine ⟨.ref q, qs.map V.ref, rfl, ⟨q, (c k).map V.str, rfl, ?_, RpA.map (f := DL.D.str) (g := V.str) (fun x => rfl) (c k)⟩, ih qs (by simpa using hl) (fun z hz => hm z (by simp [hz])) fun i m p a b => hat (i + 1) m p (by simpa using a) (by simpa using b)⟩
          rw [inn (.inr (hm q (by simp)))]
          exact hat 0 k q rfl rfl
    exact gen ks ps h.len (fun q hq => hq) h.at_
/-! while, by a number that falls -/
theorem dWhile_inv {g : Option Dk} {c : DTT} {body : DTS} {E : DEnds} (I : Nat → Sg → Nat → Prop)
    (hs : ∀ n r f (N : Sg → Nat → Prop), I n r f → (∀ m r' f', m < n → I m r' f' → N r' f') → c g r f fun b f1 => if b = true then body g r f1 { E with nx := N, ct := N, bk := E.nx } else E.nx r f1) {n : Nat} {r : Sg} {f : Nat} (h : I n r f) : sWhile c body g r f E := by
  have all : ∀ k m r f, m < k → I m r f → dWhileN g c body E k r f := by
    intro k
    induction k with
    | zero => intro m r f h; exact absurd h (Nat.not_lt_zero _)
    | succ k ih =>
      intro m r f hm hI
      exact hs m r f _ hI fun m' r' f' h' hI' => ih m' r' f' (by omega) hI'
  exact ⟨n + 1, all (n + 1) n r f (Nat.lt_succ_self n) h⟩
/-! where uses lead -/
inductive Rch (us : List Us) (s : Str) : Str → Prop where
  | refl : Rch us s s
  | step {a b : Str} : Rch us s a → (a, b) ∈ us → Rch us s b
theorem Rch.mem {us : List Us} {s m : Str} {ms : List Str} (hs : s ∈ ms) (hu : ∀ u ∈ us, u.2 ∈ ms) (h : Rch us s m) : m ∈ ms := by
  cases h with
  | refl => exact hs
  | step _ h => exact hu _ h
def usesOf (us : List Us) (m : Str) : List Str := (us.filter fun u => decide (u.1 = m)).map (·.2)
def lnkD (ms : List Str) (us : List Us) : D := .dct (ms.map Sum.inr) (ms.map fun m => .lst ((usesOf us m).map DL.D.str))
theorem mem_usesOf {us : List Us} {m b : Str} : b ∈ usesOf us m ↔ (m, b) ∈ us := by
  unfold usesOf
  rw [List.mem_map]
  constructor
  · rintro ⟨u, hu, rfl⟩
    have h := List.mem_filter.mp hu
    rw [← of_decide_eq_true h.2]
    exact h.1
  · intro h
    exact ⟨_, List.mem_filter.mpr ⟨h, decide_eq_true rfl⟩, rfl⟩
theorem look_map {f : Str → D} {m : Str} : ∀ {ms : List Str}, m ∈ ms → lookD (ms.map Sum.inr) (ms.map f) (.inr m) = some (f m)
  | [], h => by simp at h
  | k :: ms, h => by
    by_cases e : k = m
    · subst e
      simp [lookD]
    · have := look_map (f := f) (ms := ms) (List.mem_of_ne_of_mem (fun z => e z.symm) h)
      simpa [lookD, e] using this
theorem mem_inr {m : Str} {ms : List Str} : (Sum.inr m : Key) ∈ ms.map (Sum.inr : Str → Key) ↔ m ∈ ms := by
  rw [List.mem_map]
  exact ⟨fun ⟨x, hx, e⟩ => by cases e; exact hx, fun h => ⟨m, h, rfl⟩⟩
theorem putKs_new {ks : List Str} {m : Str} (h : m ∉ ks) : putKs (ks.map Sum.inr) (.inr m) = (ks ++ [m]).map Sum.inr := by
  unfold putKs
  rw [if_neg (fun z => h (mem_inr.mp z)), List.map_append]
  rfl
theorem putXs_new {ks : List Str} {m : Str} {xs : List D} {d : D} (h : m ∉ ks) : putXs (ks.map Sum.inr) xs (.inr m) d = xs ++ [d] := by
  unfold putXs
  rw [if_neg (fun z => h (mem_inr.mp z))]
theorem flatA_strs : ∀ l : List Str, flatA (l.map DL.D.str) = true
  | [] => rfl
  | _ :: l => flatA_strs l
end
end DL
namespace DL
open PySem PySem.Spec PyProof.Rows L2
section
variable {X : Cx} {K : PySem.W.Frag} {W : WX}
/-! list * number -/
def oMulL : O2 := fun x y Q => match x, y with
  | .lst xs, .int k => 0 ≤ k ∧ k ≤ 1000 ∧ xs.length * k.toNat ≤ lim ∧ Q (.lst (List.replicate k.toNat xs).flatten)
  | _, _ => False
theorem RpA.rep {H : Hp} {ds : List D} {vs : List V} (h : RpA K H ds vs) : ∀ n : Nat, RpA K H (List.replicate n ds).flatten (List.replicate n vs).flatten
  | 0 => rfl
  | n + 1 => by
    rw [List.replicate_succ, List.replicate_succ, List.flatten_cons, List.flatten_cons]
    exact h.append (h.rep n)
theorem sr_mulL : SndR K rRep oMulL := fun H Hs x y vx vy Q Q' s rx ry hq hd => by
  cases x <;> try exact hd.elim
  cases y <;> try exact hd.elim
  obtain ⟨h0, h1, h2, h3⟩ := hd
  obtain ⟨a, vs, rfl, q1, q2⟩ := rx
  cases ry
  refine ⟨a, _, vs, rfl, rfl, s _ _ q1, by omega, by omega, by rw [← q2.length]; exact lim_le h2, fun p hp => ?_⟩
  exact hq _ _ _ _ (Stp.alloc s hp) (rp_lst (q2.rep _) (same_none s hp)) h3
theorem de_mulL {a b : Expr} {pos : Pos} {da db : DT} (ha : DE X a da) (hb : DE X b db) : DE X (.BinOp a .Mult b pos) (dOp oMulL da db) := de_op op_rep sr_mulL ha hb
/-! what slots own is shared ahead of a statement -/
/-! a, b = [..], [..], a cell among them: both own -/
/-! xs.append(ys.pop(e)) -/
theorem RpA.erase {H : Hp} : ∀ {ds : List D} {vs : List V} (n : Nat), RpA K H ds vs → RpA K H (ds.eraseIdx n) (vs.eraseIdx n)
  | [], _, _, h => by cases h; rfl
  | _ :: _, _, 0, ⟨v, r, h1, h2, h3⟩ => by subst h1; exact h3
  | _ :: _, _, n + 1, ⟨v, r, h1, h2, h3⟩ => by subst h1; exact ⟨v, _, rfl, h2, RpA.erase n h3⟩
end
end DL
namespace DL
open PySem PySem.Spec PyProof.Rows L2
section
variable {X : Cx} {K : PySem.W.Frag} {W : WX}
/-! x += e, whole numbers -/
def sAug (m : Bool) (op : Int → Int → Int) (i : Nat) (dl : DT) : DTS := fun g r f E => ∃ n, r[i]? = some (.sh (.int n)) ∧ evM m dl g r f fun d f' => match d with
  | .int k => E.nx (r.set i (.sh (.int (op n k)))) f'
  | _ => False
theorem snd_aug {m : Bool} {op : Int → Int → Int} {i : Nat} {t : TE} {d : DT} (h : Snd K t d) : SndS K W (tAug i t (ipI op)) (sAug m op i d) := fun g H0 Hs0 r f st H D E s e hd => by
  obtain ⟨Hs, s⟩ := s
  obtain ⟨n, hi, hd⟩ := hd
  obtain ⟨v, hv, hr⟩ := s.sh i _ hi
  cases hr
  refine ⟨.int n, hv, ?_⟩
  refine snd_evM h s (fun d f' v H' Hs' s' _ hr q => ?_) hd
  cases d <;> try exact q.elim
  cases hr
  exact ⟨n, _, rfl, rfl, e.nx _ f' _ H' ⟨_, s'.set i (d := .int (op n _)) (v := .int (op n _)) rfl⟩ q⟩
theorem ds_augAdd (m : Bool) {i : Nat} {x : Str} {e : Expr} {pos pos' : Pos} {d : DT} (hN : X.N.Nodup) (h : DE X e d) (hi : X.N[i]? = some x := by rfl) (hx : Loc X.env.scope x := by first | exact Or.inl rfl | exact Or.inr rfl)
    (hf : X.fn x = true ∨ X.env.scope.names.lookup x = some .local := by first | exact .inl rfl | exact .inr rfl | assumption) : DS X (.AugAssign (.Name x pos') .Add e pos) (sAug m (fun i j => i + j) i d) := .mk' (ps_aug hN hi hx h.pe ip_add hf) (snd_aug h.sn)
/-! y = {..} on one line, shared -/
def sSetDcS (i : Nat) (dl : DTD) : DTS := fun g r f E => dl g (hide r) f fun ks xs f' => E.nx (r.set i (.sh (.dct ks xs))) f'
theorem snd_setDcS {i : Nat} {t : TE} {d : DTD} (h : SndD K t d) : SndS K W (tAsg t (gName i)) (sSetDcS i d) := fun g H0 Hs0 r f st H D E s e hd => by
  obtain ⟨Hs, s⟩ := s
  refine h g _ f st H Hs _ _ s.atHid (fun ks xs f' p vs H' Hs' s' k' hp np hv hl hr q => ?_) hd
  have s1 := s.afterHid (s'.share hp hv np) (k'.share (s.dk.out hp) np)
  refine e.nx _ f' _ H' ⟨_, s1.set i (d := .dct ks xs) ⟨p, vs, rfl, upd_same, hl, hr.mono fun b u z => ?_⟩⟩ q
  rw [upd_ne (ne_of_none z np)]
  exact z
theorem ds_setDcS {i : Nat} {y : Str} {py : Pos} {kx vx tg iter : Expr} {ifs : List Expr} {scope : Scope} {own : List (Str × Nat)} {pos spos : Pos} {is : List Nat} {di : DTA} {t : TgF} {c : DTT} {k e : DT} (hN : X.N.Nodup) (hi : DI X tg iter di) (ok : BlkOk X.N X.env.scope scope own)
    (hg : ∀ (s : Shared) (H : Hp) (C : Addr) (cl : List (Str × Addr)) (fp : List Addr), DG (X.blk s H scope (compEnvC scope cl C X.env) fp) tg is t) (ht : ∀ (s : Shared) (H : Hp) (C : Addr) (cl : List (Str × Addr)) (fp : List Addr), DTs (X.blk s H scope (compEnvC scope cl C X.env) fp) ifs c)
    (hk : ∀ (s : Shared) (H : Hp) (C : Addr) (cl : List (Str × Addr)) (fp : List Addr), DE (X.blk s H scope (compEnvC scope cl C X.env) fp) kx k)
    (he : ∀ (s : Shared) (H : Hp) (C : Addr) (cl : List (Str × Addr)) (fp : List Addr), DE (X.blk s H scope (compEnvC scope cl C X.env) fp) vx e)
    (hy : X.N[i]? = some y := by rfl) (hyl : X.env.scope.names.lookup y = some .local := by rfl) (hc : X.calm = true := by rfl)
    (hsw : swapsWith (.DictComp kx vx [⟨tg, iter, ifs, 0⟩] scope pos) (some (.Name y py)) spos.line X.env = pure true := by exact sw_trueD rfl rfl rfl (by decide +kernel)) (hs : ∀ x, foldedSetIterable iter X.env x = pure x := by intro _; rfl) (hsub : ∀ j ∈ is, j ∈ own.map (·.2) := by decide) :
    DS X (.Assign [.Name y py] (.DictComp kx vx [⟨tg, iter, ifs, 0⟩] scope pos) spos) (sSetDcS i (dDc di t c k e (own.map (·.2)))) :=
  DS.mk' (ps_setDc (g := gOf X.K is t) (tt := tOfT X.K c) (tk := tOf X.K k) (tv := tOf X.K e) hc hN hy hyl hsw hi.pi ok (fun s H C cl fp => (hg s H C cl fp).pg) (fun s H C cl fp => (ht s H C cl fp).pt) (fun s H C cl fp => (hk s H C cl fp).pe) (fun s H C cl fp => (he s H C cl fp).pe) hs)
    (snd_setDcS (snd_dc hi.sn (hg X.s_0 (fun _ => none) 0 [] []).sn (ht X.s_0 (fun _ => none) 0 [] []).sn (hk X.s_0 (fun _ => none) 0 [] []).sn (he X.s_0 (fun _ => none) 0 [] []).sn hsub))
/-! d.get(k, z) -/
theorem look_opt {H : Hp} {k : Key} {ks : List Key} {xs : List D} {vs : List V} (hl : ks.length = vs.length) (h : RpA K H xs vs) {z : D} {vz : V} (hz : Rp K H z vz) : Rp K H ((lookD ks xs k).getD z) ((valV (ks.zip vs) k).getD vz) := by
  cases e : lookD ks xs k with
  | some d =>
    obtain ⟨v, h1, h2⟩ := look_rp h e
    rw [h1]
    exact h2
  | none =>
    cases e2 : valV (ks.zip vs) k with
    | none => exact hz
    | some v =>
      have h1 := val_some (k := k) hl
      rw [e2] at h1
      have hk : k ∈ ks := of_decide_eq_true h1.symm
      obtain ⟨i, hi, ei⟩ := List.getElem_of_mem hk
      exfalso
      have : lookD ks xs k ≠ none := by
        unfold lookD
        intro q
        rw [Option.map_eq_none_iff, List.find?_eq_none] at q
        have hx : i < xs.length := by rw [h.length, ← hl]; exact hi
        have := q (ks[i], xs[i]) (by
          have : (ks.zip xs)[i]? = some (ks[i], xs[i]) := by rw [List.getElem?_zip_eq_some]; exact ⟨List.getElem?_eq_getElem hi, List.getElem?_eq_getElem hx⟩
          exact List.mem_of_getElem? this)
        simp [ei] at this
      exact this e
def dDGet2 (a b c : DT) : DT := fun g r f Q => a g r f fun x f1 => match x with
  | .dct ks xs => b g r f1 fun y f2 => c g r f2 fun z f3 => ∃ k, y.key = some k ∧ Q ((lookD ks xs k).getD z) f3
  | _ => False
theorem de_dget2 {k : Nat} {o e z : Expr} {apos cpos : Pos} {da db dc : DT} (hr : Room k X.A) (ho : DE X o da) (he : DE X e db) (hz : DE X z dc) (m : M2 X o "get" apos e z cpos := by constructor <;> rfl) : DE X (.Call (.Attribute o "get" apos) [e, z] [] cpos) (dDGet2 da db dc) :=
  .mk' (pe_dget2 (room1 hr) ho.pe he.pe hz.pe m) fun g ro f st H Hs Q Q' A hq hd =>
    ho.sn g ro f st H Hs _ _ A (fun x f1 vx H1 Hs1 s1 k1 r1 q1 => by
      cases x <;> try exact q1.elim
      obtain ⟨p, vs, rfl, h1, h2, h3⟩ := r1
      refine ⟨p, rfl, .inl ⟨_, .inl (s1.sub _ _ h1)⟩, ?_⟩
      refine he.sn g ro f1 st H1 Hs1 _ _ (A.step s1 k1) (fun y f2 vy H2 Hs2 s2 k2 r2 q2 => ?_) q1
      refine hz.sn g ro f2 st H2 Hs2 _ _ ((A.step s1 k1).step s2 k2) (fun w f3 vw H3 Hs3 s3 k3 r3 q3 => ?_) q2
      obtain ⟨key, ek, q⟩ := q3
      rw [key_v r2 ek]
      have e1 := s3.sub _ _ (s3.ext _ _ (s2.ext _ _ h1))
      exact ⟨_, DGet.k e1, hq _ f3 _ H3 Hs3 ((s1.trans s2).trans s3) k3 (look_opt h2 ((h3.mono s2.ext).mono s3.ext) r3) q⟩) hd
/-- {x: val(x) for x in texts}, no text twice -/
theorem dcM (val : Str → D) {g : Option Dk} {t : TgF} {k v : DT} {r : Sg} {Q : List Key → List D → Nat → Prop} : ∀ (rest done : List Str) (f : Nat), (done ++ rest).Nodup →
    (∀ x ∈ rest, ∃ l, t (.str x) = some l ∧ (∀ (f : Nat) (Q : QD), Q (.str x) f → k g (setsR r l) f Q) ∧ ∀ (f : Nat) (Q : QD), Q (val x) f → v g (setsR r l) f Q) →
    Q ((done ++ rest).map Sum.inr) ((done ++ rest).map val) f → dDcGo g t dYes k v r (rest.map DL.D.str) (done.map Sum.inr) (done.map val) f Q
  | [], done, f, _, _, q => by rw [List.append_nil] at q; exact q
  | x :: rest, done, f, hn, he, q => by
    obtain ⟨l, hl, h1, h2⟩ := he x (by simp)
    have hx : x ∉ done := fun z => (List.nodup_append.mp hn).2.2 x z x (by simp) rfl
    simp only [List.map_cons, dDcGo, hl]
    refine (h1 f _ (h2 f _ ⟨.inr x, rfl, ?_⟩) : k g (setsR r l) f fun x f2 => v g (setsR r l) f2 fun y f3 => ∃ key, x.key = some key ∧ dDcGo g t dYes k v r (rest.map DL.D.str) (putKs (done.map Sum.inr) key) (putXs (done.map Sum.inr) (done.map val) key y) f3 Q)
    rw [putKs_new hx, putXs_new hx, show done.map val ++ [val x] = (done ++ [x]).map val from by rw [List.map_append]; rfl]
    have e : done ++ x :: rest = (done ++ [x]) ++ rest := by simp
    rw [e] at hn q
    exact dcM val rest (done ++ [x]) f hn (fun y hy => he y (by simp [hy])) q
end
end DL
namespace DL
open PySem PySem.Spec PyProof.Rows L2
section
variable {X : Cx} {K : PySem.W.Frag}
/-! x < y of alike data -/
def rLtDt (K : PySem.W.Frag) : R2 := fun x y H Q => ∃ dx dy, Dp K H x dx ∧ Dp K H y dy ∧ PySem.W.alike dx dy = true ∧ dx ≠ .none ∧ dx.depth ≤ 60 ∧ Q (.bl (PySem.W.dataLt dx dy)) H
theorem op_ltDt (hu : X.A.units + 64 < cLine) : OpR X (compareOp .Lt) (rLtDt X.K) := fun pins s st H x y v u Q I rx ry h => by
  obtain ⟨dx, dy, h1, h2, h3, h4, h5, q⟩ := h
  obtain ⟨as, ra⟩ := Dp.reads I dx x v h1 rx
  obtain ⟨bs, rb⟩ := Dp.reads I dy y u h2 ry
  refine PySem.W.lt_data ra rb h3 h4 ?_ ⟨.bl _, H, I, rfl, q⟩
  have := Nat.min_le_left dx.depth dy.depth
  omega
def oLtDt : O2 := fun x y Q => x.py.canLay0 = true ∧ y.py.canLay0 = true ∧ PySem.W.alike x.py y.py = true ∧ x.py ≠ .none ∧ x.py.depth ≤ 60 ∧ Q (.bool (PySem.W.dataLt x.py y.py))
theorem sr_ltDt : SndR K (rLtDt K) oLtDt := SndR.pure fun H Hs x y vx vy Q Q' s rx ry hq hd => by
  obtain ⟨h1, h2, h3, h4, h5, q⟩ := hd
  exact ⟨x.py, y.py, dp_mono s (rx.dp _ _ h1), dp_mono s (ry.dp _ _ h2), h3, h4, h5, hq (.bool _) _ rfl q⟩
theorem dp_ltD {a b : Expr} {pos : Pos} {da db : DT} (hu : X.A.units + 64 < cLine) (ha : DE X a da) (hb : DE X b db) : DP X (.Compare a [.Lt] [b] pos) (dTest (dOp oLtDt da db)) := dp_cmp (op_ltDt hu) sr_ltDt ha hb (nomark _)
/-! min(xs) of alike data -/
end
end DL
namespace DL
open PySem PySem.Spec PyProof.Rows L2
/-! the least of some texts -/
/-! writing at a key that is there -/
theorem put_upd {l : List Str} {f : Str → D} {m : Str} {v : D} (h : m ∈ l) : putKs (l.map Sum.inr) (.inr m) = l.map Sum.inr ∧ putXs (l.map Sum.inr) (l.map f) (.inr m) v = l.map fun x => if x = m then v else f x := by
  unfold putKs putXs
  rw [if_pos (mem_inr.mpr h), if_pos (mem_inr.mpr h)]
  refine ⟨rfl, ?_⟩
  have : ∀ l : List Str, ((l.map (Sum.inr : Str → Key)).zip (l.map f)).map (fun p => if p.1 = (.inr m : Key) then v else p.2) = l.map fun x => if x = m then v else f x := by
    intro l
    induction l with
    | nil => rfl
    | cons x l ih =>
      simp only [List.map_cons, List.zip_cons_cons, ih]
      congr 1
      by_cases e : x = m
      · rw [if_pos e, if_pos (by rw [e])]
      · rw [if_neg e, if_neg (fun z => e (Sum.inr.inj z))]
  exact this l
end DL
namespace DL
open PySem PySem.Spec PyProof.Rows L2
/-! for x in zip(a, b) of two tuples, with one name: the pair that was given out before may be there still or not -/
abbrev ZpV (h : Heap) (z ti tz : Addr) (v : Value) (b : Bool) : Prop :=
  h.get? z = some { cls := .type "zip", dict := none, data := .fields #[v, .bool b, .bool false, .ref ti, .ref tz], slots := #[] }
section
variable {prog : Program} {w : World} {A : Around} {E : Value → Shared → Prop} {s : Shared} {z ti tz i1 i2 l1 l2 T : Addr} {k1 k2 : Nat} {xs ys : Array Value} {x y v p q : Value} {b : Bool}
/-- the mark: nothing, or an address -/
def Mrk (v : Value) : Prop := v = .none ∨ ∃ T : Addr, v = rawInt T
end
section
variable {X : Cx} {K : PySem.W.Frag}
theorem atI_last (l : List Str) : atI (l.map DL.D.str) (-1) = l.getLast?.map DL.D.str := by
  unfold atI ixN
  rw [if_neg (by decide), List.length_map]
  cases h : l.length with
  | zero =>
    obtain rfl : l = [] := List.length_eq_zero_iff.mp h
    rfl
  | succ j =>
    rw [if_pos (by omega)]
    have e : ((-1 : Int) + ((j + 1 : Nat) : Int)).toNat = j := by omega
    show (l.map DL.D.str)[((-1 : Int) + ((j + 1 : Nat) : Int)).toNat]? = _
    rw [e, List.getElem?_map, List.getLast?_eq_getElem?, h]
    rfl
end
end DL
namespace DL
open PySem PySem.Spec PyProof.Rows L2
section
variable {X : Cx} {K : PySem.W.Frag}
/-! [e for x in xs if c for y in ys if d] -/
/-! {k: v for x in xs} as a value -/
def dDcE (dl : DTD) : DT := fun g r f Q => dl g r f fun ks xs f' => Q (.dct ks xs) f'
theorem de_dc {kx vx tg iter : Expr} {ifs : List Expr} {scope : Scope} {own : List (Str × Nat)} {pos : Pos} {is : List Nat} {di : DTA} {t : TgF} {c : DTT} {k e : DT} (hN : X.N.Nodup) (hi : DI X tg iter di) (ok : BlkOk X.N X.env.scope scope own)
    (hg : ∀ (s : Shared) (H : Hp) (C : Addr) (cl : List (Str × Addr)) (fp : List Addr), DG (X.blk s H scope (compEnvC scope cl C X.env) fp) tg is t) (ht : ∀ (s : Shared) (H : Hp) (C : Addr) (cl : List (Str × Addr)) (fp : List Addr), DTs (X.blk s H scope (compEnvC scope cl C X.env) fp) ifs c)
    (hk : ∀ (s : Shared) (H : Hp) (C : Addr) (cl : List (Str × Addr)) (fp : List Addr), DE (X.blk s H scope (compEnvC scope cl C X.env) fp) kx k)
    (he : ∀ (s : Shared) (H : Hp) (C : Addr) (cl : List (Str × Addr)) (fp : List Addr), DE (X.blk s H scope (compEnvC scope cl C X.env) fp) vx e)
    (hc : X.calm = true := by rfl) (hs : ∀ x, foldedSetIterable iter X.env x = pure x := by intro _; rfl) (hsub : ∀ j ∈ is, j ∈ own.map (·.2) := by decide) :
    DE X (.DictComp kx vx [⟨tg, iter, ifs, 0⟩] scope pos) (dDcE (dDc di t c k e (own.map (·.2)))) :=
  DE.mk' (pe_dc (g := gOf X.K is t) (tt := tOfT X.K c) (tk := tOf X.K k) (tv := tOf X.K e) hc hN hi.pi ok (fun s H C cl fp => (hg s H C cl fp).pg) (fun s H C cl fp => (ht s H C cl fp).pt) (fun s H C cl fp => (hk s H C cl fp).pe) (fun s H C cl fp => (he s H C cl fp).pe) hs)
    fun g r f st H Hs Q Q' A hq hd => snd_dc hi.sn (hg X.s_0 (fun _ => none) 0 [] []).sn (ht X.s_0 (fun _ => none) 0 [] []).sn (hk X.s_0 (fun _ => none) 0 [] []).sn (he X.s_0 (fun _ => none) 0 [] []).sn hsub g r f st H Hs Q _ A
      (fun ks xs f' p vs H' Hs' s' k' hp np hv hl hr q => hq (.dct ks xs) f' (.ref p) H' _ (s'.share hp hv np) (k'.share (A.dk.out hp) np) ⟨p, vs, rfl, upd_same, hl, hr.mono fun b u z => by rw [upd_ne (ne_of_none z np)]; exact z⟩ q) hd
end
end DL
namespace DL
open PySem PySem.Spec PyProof.Rows L2
/-! expressions that may raise -/
abbrev XD := D → Nat → Prop
abbrev DTX := Option Dk → Sg → Nat → QD → XD → Prop
abbrev DSpX := Option Dk → List D → Nat → QD → XD → Prop
def SndX (K : PySem.W.Frag) (W : WX) (t : TE) (dl : DTX) : Prop := ∀ (g : Option Dk) (r : Sg) (f : Nat) (st : L2.St) (H Hs : Hp) (Q : VK) (Q' : QD) (E' : XD), At K g r f st H Hs →
  (∀ d f' v H' Hs', Stp g H Hs H' Hs' → DkOk g H' Hs' f' → Rp K Hs' d v → Q' d f' → Q v H') →
  (∀ x f' cls d H' Hs', Stp g H Hs H' Hs' → DkOk g H' Hs' f' → ExR K H' Hs' x cls d → E' x f' → W cls d st H') → dl g r f Q' E' → t st H Q
def tOfX (K : PySem.W.Frag) (W : WX) (dl : DTX) : TE := fun st H Q => ∃ g r f Hs Q' E', At K g r f st H Hs ∧ (∀ d f' v H' Hs', Stp g H Hs H' Hs' → DkOk g H' Hs' f' → Rp K Hs' d v → Q' d f' → Q v H') ∧
  (∀ x f' cls d H' Hs', Stp g H Hs H' Hs' → DkOk g H' Hs' f' → ExR K H' Hs' x cls d → E' x f' → W cls d st H') ∧ dl g r f Q' E'
structure DEX (X : Cx) (e : Expr) (dl : DTX) : Prop where
  pe : PE X e (tOfX X.K (wx X) dl)
theorem DEX.sn {X : Cx} {e : Expr} {dl : DTX} (_ : DEX X e dl) : SndX X.K (wx X) (tOfX X.K (wx X) dl) dl := fun g r f st H Hs Q Q' E' a h1 h2 hd => ⟨g, r, f, Hs, Q', E', a, h1, h2, hd⟩
theorem DEX.mk' {X : Cx} {e : Expr} {t : TE} {dl : DTX} (p : PE X e t) (s : SndX X.K (wx X) t dl) : DEX X e dl := ⟨⟨fun pins sh st H Q I h => by
  obtain ⟨g, r, f, Hs, Q', E', a, h1, h2, hd⟩ := h
  exact p.run pins sh st H Q I (s g r f st H Hs Q Q' E' a h1 h2 hd)⟩⟩
/-- a def that may raise -/
def spX (K : PySem.W.Frag) (S : DSpX) : Sp := fun vs H Q E => ∃ (g : Option Dk) (Hs : Hp) (ds : List D) (f : Nat) (Q' : QD) (E' : XD), Same Hs H ∧ DkOk g H Hs f ∧ RpA K Hs ds vs ∧ S g ds f Q' E' ∧
  (∀ d f' v H' Hs', Stp g H Hs H' Hs' → DkOk g H' Hs' f' → Rp K Hs' d v → Q' d f' → Q v H') ∧
  ∀ x f' cls d H' Hs', Stp g H Hs H' Hs' → DkOk g H' Hs' f' → ExR K H' Hs' x cls d → E' x f' → E cls d H'
section
variable {X : Cx} {K : PySem.W.Frag} {W : WX}
def dCallX (S : DSpX) (t : DTA) : DTX := fun g r f Q E => t g r f fun ds f1 => S g ds f1 Q E
theorem snd_callX {S : DSpX} {t : TA} {d : DTA} (ht : SndA K t d) : SndX K W (tCallS (spX K S) (WE W) t) (dCallX S d) := fun g ro f st H Hs Q Q' E' A h1 h2 hd =>
  ht g ro f st H Hs _ _ A (fun ds f1 vs H1 Hs1 s1 k1 r1 q1 => ⟨g, Hs1, ds, f1, Q', E', s1.sub, k1, r1, q1,
    fun d f' v H' Hs' s2 k2 r2 q2 => h1 d f' v H' Hs' (s1.trans s2) k2 r2 q2, fun x f' cls d H' Hs' s2 k2 r2 q2 => h2 x f' cls d H' Hs' (s1.trans s2) k2 r2 q2⟩) hd
def CalX (P : Program) (w : World) (K : PySem.W.Frag) (mg : Str → Option Value) (base : Heap) (k : Nat) (x : Str) (ps : List Str) (S : DSpX) : Prop :=
  ∃ f fd, FnOk P w K mg base (L2.CX P w) k f fd ps (spX K S) ∧ PySem.W.keepIn K (.ref f) = true ∧ Binds K fd ps [] ∧ mg x = some (.ref f)
theorem dex_call {x : Str} {ps : List Str} {k : Nat} {S : DSpX} {p pos : Pos} {e : Expr} {es : List Expr} {d : DTA} (c : CalX X.prog X.w X.K X.mg X.base k x ps S) (hr : Room k X.A) (ha : DA X (e :: es) d) (hg : Gl X x := by rfl) (hdb : (x == ("__debug__" : Str)) = false := by decide)
    (he : starEach (e :: es) X.env = (false, eval e X.env) :: starEach es X.env := by rfl) (hpl : (backTo pos (starEach es X.env)).any (·.1) = false := by rfl) : DEX X (.Call (.Name x p) (e :: es) [] pos) (dCallX S d) := by
  obtain ⟨f, fd, F, hk, hb, hm⟩ := c
  exact .mk' (pe_callS F hr hg hm hk hb (fun st => passAt (takes_wx X) st) ha.pa hdb he hpl) (snd_callX ha.sn)
/-! statements of them -/
def sSetX (i : Nat) (dl : DTX) : DTS := fun g r f E => dl g (hide r) f (fun d f' => E.nx (r.set i (.sh d)) f') fun x f' => E.xc x r f'
theorem snd_setX {i : Nat} {t : TE} {d : DTX} (h : SndX K W t d) : SndS K W (tAsg t (gName i)) (sSetX i d) := fun g H0 Hs0 r f st H D E s e hd => by
  obtain ⟨Hs, s⟩ := s
  exact h g (hide r) f st H Hs _ _ _ s.atHid (fun d f' v H' Hs' p k hr q => e.nx _ f' _ H' ⟨_, (s.afterHid p k).set i hr⟩ q) (fun x f' cls d H' Hs' p k hx q => e.xc x r f' st H' cls d ⟨_, s.afterHid p k, hx⟩ q) hd
theorem ds_setX {i : Nat} {x : Str} {e : Expr} {pos pos' : Pos} {d : DTX} (hN : X.N.Nodup) (h : DEX X e d) (hi : X.N[i]? = some x := by rfl) (hx : Loc X.env.scope x := by first | exact Or.inl rfl | exact Or.inr rfl)
    (hs : swapsWith e (some (.Name x pos')) pos.line X.env = pure false := by rfl) (hf : X.fn x = true ∨ X.env.scope.names.lookup x = some .local := by first | exact .inl rfl | exact .inr rfl | assumption) :
    DS X (.Assign [.Name x pos'] e pos) (sSetX i d) := .mk' (ps_set hN hi hx h.pe hs hf) (snd_setX h.sn)
/-! raise C(e), C a class of the text with one field -/
def spExn (K : PySem.W.Frag) (C : Addr) (fld : Str) : Sp := fun vs H Q _ => ∃ (a : Addr) (y : V), vs = [.ref a, y] ∧ H a = some (exo a C none) ∧ ∀ dx, H dx = none → dx ≠ a → Q .non (upd (upd H dx (exd dx [(fld, y)])) a (exo a C (some dx)))
structure Exn (P : Program) (w : World) (K : PySem.W.Frag) (mg : Str → Option Value) (base : Heap) (k : Nat) (c fld : Str) : Prop where
  ex : ∃ C fI fd ps, OexC K C ∧ PySem.W.findIn K (.ref C) "__init__" = some (some (.ref fI)) ∧ PySem.W.typeIn K (.ref fI) = some (.type "function") ∧ FnOk P w K mg base CX0 k fI fd ps (spExn K C fld) ∧ Binds K fd ps [] ∧ mg c = some (.ref C) ∧ PySem.W.nsIn K mainGlobals c = some (some (.ref C))
def sRaise (c fld : Str) (dl : DT) : DTS := fun g r f E => dl g (hide r) f fun d f' => E.xc (.obj c [fld] [d]) r f'
theorem ds_raise {c fld : Str} {k : Nat} {e : Expr} {d : DT} {p pos pos' : Pos} (x : Exn X.prog X.w X.K X.mg X.base k c fld) (hr : Room (k + 1) X.A) (he : DE X e d) (hc : X.calm = true := by rfl) (hg : Gl X c := by rfl) (hdb : (c == ("__debug__" : Str)) = false := by decide)
    (hs : starEach [e] X.env = (false, eval e X.env) :: starEach [] X.env := by rfl) (hpl : (backTo pos (starEach [] X.env)).any (·.1) = false := by rfl) : DS X (.Raise (some (.Call (.Name c p) [e] [] pos)) none pos') (sRaise c fld d) := by
  obtain ⟨C, fI, fd, ps, T, i1, i2, F, hb, hm, hns⟩ := x.ex
  have ha : DA X [e] (dCons d dNil) := da_cons he da_nil hs
  refine .mk' (ps_raise hc (takes_wx X) (pmk_oex T i1 i2 F hr hb .nil pass0 hg hm ha.pa hdb hs hpl)) fun g H0 Hs0 r f st H D E s e hd => ?_
  obtain ⟨Hs, s⟩ := s
  refine ha.sn g (hide r) f st H Hs _ (fun ds f1 => match ds with
    | [x] => E.xc (.obj c [fld] [x]) r f1
    | _ => False) s.atHid (fun ds f1 vs H1 Hs1 s1 k1 r1 q1 => ?_) hd
  match ds, q1 with
  | [x], q1 =>
    obtain ⟨y, rfl, ry⟩ := rpA1 r1
    refine ⟨by simp, fun a ha' => ⟨a, y, rfl, upd_same, fun dx hdx hne => ?_⟩⟩
    have hd1 : H1 dx = none := by rw [upd_ne hne] at hdx; exact hdx
    refine ⟨rfl, dx, [(fld, y)], upd_same, by rw [upd_ne hne, upd_same], hd1, ?_⟩
    have eH : upd (del (upd (upd (upd H1 a (exo a C none)) dx (exd dx [(fld, y)])) a (exo a C (some dx))) a) dx (.xd [(fld, y)]) = upd H1 dx (.xd [(fld, y)]) := by
      funext b
      by_cases e1 : b = dx
      · rw [e1, upd_same, upd_same]
      · rw [upd_ne e1, upd_ne e1]
        by_cases e2 : b = a
        · rw [e2, del_same, ha']
        · rw [del_ne e2, upd_ne e2, upd_ne e1, upd_ne e2]
    rw [eH]
    have lay : Stp none H1 Hs1 (upd H1 dx (.xd [(fld, y)])) (upd Hs1 dx (.xd [(fld, y)])) := Stp.alloc s1.sub hd1
    exact e.xc (.obj c [fld] [x]) r f1 st _ _ _ ⟨_, s.afterHid (s1.trans lay.gen) (k1.stp lay), C, hns, rfl, .inr ⟨dx, [y], rfl, upd_same, rfl, RpA.one (ry.mono lay.ext)⟩⟩ q1
/-! a op b by the class's own method, which may raise -/
/-! try: body, except C: suite -/
theorem EndsOk.mono {g : Option Dk} {H0 Hs0 : Hp} {E : DEnds} {D : Ends} {W' : WX} (e : EndsOk K W g H0 Hs0 E D) (h : ∀ cls d st H, W cls d st H → W' cls d st H) : EndsOk K W' g H0 Hs0 E D := ⟨e.nx, e.rt, e.bk, e.ct, fun x r f st H cls d q hx => h _ _ _ _ (e.xc x r f st H cls d q hx)⟩
theorem sOf_mono {dl : DTS} {W' : WX} (h : ∀ cls d st H, W cls d st H → W' cls d st H) {D : Ends} {st : L2.St} {H : Hp} (q : sOf K W dl D st H) : sOf K W' dl D st H := by
  obtain ⟨g, H0, Hs0, r, f, E, s, e, q⟩ := q
  exact ⟨g, H0, Hs0, r, f, E, s, e.mono h, q⟩
/-- which exceptions the clause takes, by their names -/
structure Cat (K : PySem.W.Frag) (c : Value) (m : Str → Option Bool) : Prop where
  ok : ∀ (n : Str) (b : Bool) (C : Addr), m n = some b → PySem.W.nsIn K mainGlobals n = some (some (.ref C)) → PySem.W.exmOne K (.ref C) c = some b
end
section
variable {P : Program} {w : World} {K : PySem.W.Frag} {mg : Str → Option Value} {base : Heap}
/-- a def that may raise, by its body -/
theorem dfnX {x qual : Str} {st : Stmt} {f : Addr} {fd : FuncData} {N ps : List Str} {k : Nat} {S : DSpX} {dl : DTS} (F : Fun K x qual st f fd) (sc : FnScope N ps (defScope st)) (len : ∀ g ds n Q E, S g ds n Q E → ds.length = ps.length)
    (hb : ∀ (cdv : Value) (A : Around) (outer : List Env) (s : Shared) (H : Hp) (E : XK), Room k (A.deeper (envOfC qual (defScope st) s.heap.objs.size f cdv)) → DSs (cxOf (L2.CX P w) P w K mg base N qual (defScope st) f cdv A outer s H E) (defBody st) dl)
    (h : ∀ g ds n Q E, S g ds n Q E → dl g (startR N.length ds) n { nx := fun _ n => Q .none n, rt := Q, xc := fun x _ n => E x n }) : FnOk P w K mg base (L2.CX P w) (k + 1) f fd ps (spX K S) := by
  obtain ⟨oc, od, kV, doc, pm, an, cdv, ct, osl, rfl, lk, hcd⟩ := F.ex
  refine fn_of lk hcd sc (fun vs H Q E h => ?_) fun A outer s H vs Q E hr hsp => ?_
  · obtain ⟨g, Hs, ds, n, Q', E', h1, h2, h3, h4, _⟩ := h
    rw [← h3.length]
    exact len g ds n Q' E' h4
  · obtain ⟨g, Hs, ds, n, Q', E', h1, h2, h3, h4, h5, h6⟩ := hsp
    have D := hb cdv A outer s H E hr
    refine ⟨_, D.ps, ?_⟩
    refine D.sn g H Hs _ n _ H _ { nx := fun _ n => Q' .none n, rt := Q', xc := fun x _ n => E' x n } ⟨Hs, start_in h1 h2 h3⟩ ⟨fun r f st H' q h => ?_, fun d f v H' Hs' p k hr h => h5 d f v H' Hs' p k hr h, fun _ _ _ _ _ h => h, fun _ _ _ _ _ h => h, fun x r f st H' cls d q h => ?_⟩ (h g ds n Q' E' h4)
    · obtain ⟨Hs', q⟩ := q
      exact h5 .none f .non H' Hs' q.stp q.dk rfl h
    · obtain ⟨Hs', q, hx⟩ := q
      exact wx_of (takes_of (E := E) rfl rfl rfl rfl) (h6 x f cls d H' Hs' q.stp q.dk hx h)
/-- the __init__ of an exception with one field -/
theorem exn_ok {qual fld : Str} {st : Stmt} {C fI : Addr} {fd : FuncData} (T : OexC K C) (hno : PySem.W.findIn K (.ref C) fld = some none) (F : Fun K "__init__" qual st fI fd) (sc : FnScope ["self", fld] ["self", fld] (defScope st))
    (hb : ∀ (cdv : Value) (A : Around) (outer : List Env) (s : Shared) (H : Hp) (E : XK), PSs (cxOf CX0 P w K mg base ["self", fld] qual (defScope st) fI cdv A outer s H E).nox (defBody st) (tOst K fld (tVar 0) (tVar 1))) :
    FnOk P w K mg base CX0 1 fI fd ["self", fld] (spExn K C fld) := by
  refine F.ok sc (fun vs H Q E h => ?_) (fun cdv A outer s H vs Q E hr hsp => ?_)
  · obtain ⟨a, y, rfl, _⟩ := h
    rfl
  · obtain ⟨a, y, rfl, ea, q⟩ := hsp
    refine ⟨_, hb cdv A outer s H E, ?_⟩
    exact ⟨y, rfl, .ref a, rfl, a, C, rfl, T, hno, .inl ⟨ea, fun dx h1 h2 => q dx h1 h2⟩⟩
end
end DL
namespace DL
open PySem PySem.Spec PyProof.Rows L2
/-! a caught exception that is looked at, kept, and looked at later -/
section
variable {X : Cx} {pins : List (Addr × Obj)} {st : L2.St} {H : Hp} {s : Shared}
/-- an object that is new since the entry is tracked from now on -/
theorem trackX {a : Addr} {o : HO} (I : Inv X pins st H s) (hn : H a = none) (h0 : ∀ ob, X.s_0.heap.get? a = some ob → a ∈ X.ex) (nL : a ≠ X.env.locals) (nC : ∀ x c, X.env.cells.lookup x = some c → c ≠ a) (nP : ∀ p ∈ X.pn ++ pins, p.1 ≠ a)
    (new : ObjOk X.prog X.w (upd H a o) s.heap a o) : Inv X pins st (upd H a o) s where
  ok := I.ok
  os := I.os
  bare := I.bare
  base := ⟨I.base.keep, I.base.slot, fun b ob e n hx => by rw [upd_ne (fun z => hx (by rw [z] at e ⊢; exact h0 ob e))]; exact I.base.free b ob e n hx, I.base.there,
    fun b xs e => by have q := I.base.tups b xs e; rw [upd_ne (ne_of_none q hn)]; exact q, fun b ob u e => by have q := I.base.frzs b ob u e; rw [upd_ne (ne_of_none q hn)]; exact q,
    fun b ps e => by obtain ⟨m, q⟩ := I.base.tbls b ps e; exact ⟨m, by rw [upd_ne (ne_of_none q hn)]; exact q⟩⟩
  loc := I.loc
  cell := I.cell
  free := by rw [upd_ne (Ne.symm nL)]; exact I.free
  freeC := fun x c e => by rw [upd_ne (nC x c e)]; exact I.freeC x c e
  pin := fun p hp => by
    obtain ⟨e1, e2, r⟩ := I.pin p hp
    exact ⟨e1, by rw [upd_ne (nP p hp)]; exact e2, r⟩
  hok := I.hok.laidN (fun b u q => q) hn new
  len := I.len
theorem inSuite {a : Addr} (I : Inv X pins st H s) : Inv (X.suite a (X.pn ++ pins)) [] st H s :=
  ⟨I.ok.suite _ _, I.os, I.bare, I.base, I.loc, I.cell, I.free, I.freeC, fun p hp => I.pin p (by rw [List.append_nil] at hp; exact hp), I.hok, I.len⟩
theorem outSuite {a : Addr} {pn' : List (Addr × Obj)} (I : Inv (X.suite a (X.pn ++ pins)) pn' st H s) (ok : X.Ok) : Inv X pins st H s :=
  ⟨ok, I.os, I.bare, I.base, I.loc, I.cell, I.free, I.freeC, fun p hp => I.pin p (List.mem_append_left _ hp), I.hok, I.len⟩
end
section
variable {X : Cx} {x n : Str} {c : Value} {i : Nat} {body suite : List Stmt} {b₀ : Stmt} {np pos pos' : Pos} {tb : WX → TS} {ts : TS} {Wout : WX}
/-- the suite begins: the exception is tracked -/
theorem caught_in {a : Addr} {B : Heap} {sI : Shared} {h : Heap} {pins : List (Addr × Obj)} {st : L2.St} {H : Hp} {C dd : Addr} {s' : Shared} (hs : X.stack = X.env :: X.outer) (hf : X.env.frame = some X.env.locals) (J0 : Inv X pins st H sI)
    (nb : ∀ b o, sI.heap.get? b = some o → b ∉ frs X.stack → B.get? b = some o) (J : Inv X pins st H { s' with heap := h }) (fl : HandSPX.FlyingZ B (X.env :: X.outer) a (Zc (.ref C) (some dd)) h) (na : H a = none) :
    Inv X pins st (upd H a (ExK C dd a)) { s' with heap := h } := by
  obtain ⟨oe, vs, he, hz, hd⟩ := fl.there
  have nfr : a ∉ frs (X.env :: X.outer) := fun hm => by
    obtain ⟨_, o', e', hnf⟩ := fl.2.2.1.mem hm
    rw [he] at e'
    cases e'
    exact hnf _ hd
  have gone : sI.heap.get? a = none := by
    cases e : sI.heap.get? a with
    | none => rfl
    | some o =>
      have z := nb a o e (by rw [hs]; exact nfr)
      rw [fl.2.1] at z
      cases z
  refine trackX J na ?_ (fun z => nfr (List.mem_filterMap.mpr ⟨X.env, List.mem_cons_self, by rw [hf, z]⟩)) (fun y c' e z => ?_) (fun p hp z => ?_) ⟨⟨oe, vs, he, hz.1, hz.2, hd⟩, ⟨oe, he⟩, fun _ _ ⟨o, v, q, r⟩ k => ⟨o, v, k o q, r⟩⟩
  · intro o e
    refine Decidable.byContradiction fun hx => ?_
    obtain ⟨o', q⟩ := J0.base.there a o e hx
    rw [gone] at q
    cases q
  · obtain ⟨v, o, q1, q2⟩ := J.cell y c' e
    rw [z] at q1
    have q1' : h.get? a = some o := q1
    rw [he] at q1'
    cases q1'
    rw [hd] at q2
    cases q2
  · have q := (J0.pin p hp).1
    rw [z, gone] at q
    cases q
end
section
variable {X : Cx} {K : PySem.W.Frag} {W : WX} {g : Option Dk} {H0 Hs0 : Hp} {r : Sg} {f : Nat} {st : L2.St} {H Hs : Hp}
theorem SIn.unset (s : SIn K g H0 Hs0 r f st H Hs) (i : Nat) : SIn K g H0 Hs0 (r.set i .no) f (st.set i none) H Hs := by
  have ne : ∀ (j : Nat) (u : Sl), (r.set i .no)[j]? = some u → u ≠ .no → j ≠ i ∧ r[j]? = some u := fun j u h hu => by
    by_cases e : j = i
    · subst e
      rw [List.getElem?_set] at h
      split at h
      · split at h
        · cases h; exact absurd rfl hu
        · cases h
      · rename_i z; exact absurd rfl z
    · rw [List.getElem?_set_ne (Ne.symm e)] at h
      exact ⟨e, h⟩
  have own : ∀ u : Sl, u.own = true → u ≠ .no := fun u h z => by rw [z] at h; cases h
  refine ⟨by simp [s.len], s.dk0, s.dk, s.stp, fun j d h => ?_, fun j u h hu => ?_, fun j k u w a h1 h2 h3 h4 h5 h6 => ?_⟩
  · obtain ⟨e, h⟩ := ne j _ h (by simp)
    rw [List.getElem?_set_ne (Ne.symm e)]
    exact s.sh j d h
  · obtain ⟨e, h⟩ := ne j _ h (own u hu)
    rw [List.getElem?_set_ne (Ne.symm e)]
    exact s.ow j u h hu
  · obtain ⟨e1, h1⟩ := ne j _ h1 (own u h3)
    obtain ⟨e2, h2⟩ := ne k _ h2 (own w h4)
    rw [List.getElem?_set_ne (Ne.symm e1)] at h5
    rw [List.getElem?_set_ne (Ne.symm e2)] at h6
    exact s.inj j k u w a h1 h2 h3 h4 h5 h6
/-! its fields -/
structure KX (K : PySem.W.Frag) (c : Str) (C : Addr) : Prop where
  ns : PySem.W.nsIn K mainGlobals c = some (some (.ref C))
  xf : XfC K C
  ha : PySem.W.findIn K (.ref C) "__class__" = some (some (.builtin "object.__class__"))
  hn : PySem.W.specialIn K (.builtin "object.__class__") "__get__" = some (some (.builtin "getset_descriptor.__get__"))
  ht : PySem.W.takesIn K (.builtin "object.__class__") = some true
  hm : PySem.W.mroIn K C (.type "object") = some true
theorem KX.uniq {c : Str} {C C' : Addr} (k : KX K c C) (h : PySem.W.nsIn K mainGlobals c = some (some (.ref C'))) : C' = C := by
  have e := k.ns.symm.trans h
  cases e
  rfl
theorem exk_at {pins : List (Addr × Obj)} {s : Shared} {a C dd : Addr} {fs : List (Str × V)} (I : Inv X pins st H s) (ea : H a = some (ExK C dd a)) (ed : H dd = some (.xd fs)) :
    ∃ (oe od : Obj) (mA : Str → Option Value), PySem.W.InstAt s.heap a oe C (some od) ∧ (∀ f, RelO (fs.lookup f) (mA f)) ∧ (∀ f, PySem.W.lookIn f od = some (mA f)) := by
  obtain ⟨⟨oe, vs, he, hc, hd, hv⟩, _⟩ := (show ObjOk X.prog X.w H s.heap a (ExK C dd a) from I.hok a _ ea)
  obtain ⟨mA, hns, hr⟩ := (show ObjOk X.prog X.w H s.heap dd (.xd fs) from I.hok dd _ ed)
  obtain ⟨od, ho, hl⟩ := lookIn_ns hns
  exact ⟨oe, od, mA, ⟨he, hc, by unfold PySem.W.notCls; rw [hv] <;> rfl, by rw [hd]; exact ho⟩, hr, hl⟩
def tXk (C : Addr) (fld : Str) (te : TE) : TE := fun st H Q => te st H fun x H1 => ∃ a dd fs v, x = .ref a ∧ H1 a = some (ExK C dd a) ∧ H1 dd = some (.xd fs) ∧ fs.lookup fld = some v ∧ Q v H1
theorem pe_xk {C : Addr} {e : Expr} {te : TE} {pos : Pos} {n : Str} (T : XfC X.K C) (hno : PySem.W.findIn X.K (.ref C) n = some none) (he : PE X e te) (hb : attributeBase e n X.env (eval e X.env) = eval e X.env) : PE X (.Attribute e n pos) (tXk C n te) := by
  refine ⟨fun pins s st H Q I h => attr_of hb (thn (he.run pins s st H _ I h) fun u s1 hh => ?_)⟩
  obtain ⟨x, H1, I1, rx, a, dd, fs, v, rfl, ea, ed, l, q⟩ := hh
  obtain rfl : u = Value.ref a := rx
  obtain ⟨oe, od, mA, J, hr, hl⟩ := exk_at I1 ea ed
  obtain ⟨u, hu, ru⟩ := RelO.some_of (v := v) (o := mA n) (by rw [← l]; exact hr n)
  exact HandSPX.exc_get I1.kIn J T.ga T.gg T.exC (PySem.W.findObj_own T.hdC hno rfl (by rw [hl, hu])) (handed_of ru) ⟨v, H1, I1.tok _, ru, q⟩
theorem lookup_rp {n : Str} {y : D} : ∀ {ns : List Str} {xs : List D} {vs : List V}, RpA K Hs xs vs → (ns.zip xs).lookup n = some y → ∃ v, (ns.zip vs).lookup n = some v ∧ Rp K Hs y v
  | [], _, _, _, h => by simp at h
  | _ :: _, [], _, _, h => by simp at h
  | a :: ns, x :: xs, _, ⟨v, r, rfl, h1, h2⟩, h => by
    simp only [List.zip_cons_cons, List.lookup_cons] at h ⊢
    cases e : n == a with
    | true => rw [e] at h; cases h; exact ⟨v, rfl, h1⟩
    | false => rw [e] at h; exact lookup_rp h2 h
def dXf (c fld : Str) (d : DT) : DT := fun g r f Q => d g r f fun x f1 => match x with
  | .exn c' ns xs => c' = c ∧ ∃ y, (ns.zip xs).lookup fld = some y ∧ Q y f1
  | _ => False
theorem de_xf {c fld : Str} {C : Addr} {e : Expr} {d : DT} {pos : Pos} (k : KX X.K c C) (hno : NoAttr X.K C fld) (he : DE X e d) (hb : attributeBase e fld X.env (eval e X.env) = eval e X.env := by rfl) : DE X (.Attribute e fld pos) (dXf c fld d) :=
  .mk' (pe_xk k.xf hno he.pe hb) fun g r f st H Hs Q Q' A hq hd => he.sn g r f st H Hs _ _ A (fun x f1 v H1 Hs1 s1 k1 r1 q1 => by
    cases x <;> try exact q1.elim
    obtain ⟨rfl, y, hy, q1⟩ := q1
    obtain ⟨C', a, dd, vs, h0, rfl, h2, h3, _, h5⟩ := r1
    cases k.uniq h0
    obtain ⟨u, hu, ru⟩ := lookup_rp h5 hy
    exact ⟨a, dd, _, u, rfl, s1.sub _ _ h2, s1.sub _ _ h3, hu, hq y f1 u H1 Hs1 s1 k1 ru q1⟩) hd
/-! isinstance of it, or of None -/
theorem KX.cls {c : Str} {C : Addr} (k : KX K c C) : (PySem.W.clsIn K C).isSome = true := by
  obtain ⟨cd, hc, _⟩ := PySem.W.any_some k.xf.hdC
  rw [hc]
  rfl
/-! small things -/
theorem DEX.e {e : Expr} {dl : DTX} (h : DEX X e dl) : DE X e (fun g r f Q => dl g r f Q fun _ _ => False) := .mk' h.pe fun g r f st H Hs Q Q' A hq hd => ⟨g, r, f, Hs, Q', fun _ _ => False, A, hq, fun _ _ _ _ _ _ _ _ _ z => z.elim, hd⟩
def tblX (l : List (Str × Bool)) : Str → Option Bool := fun n => l.lookup n
theorem cat_nil {c : Value} : Cat K c (tblX []) := ⟨fun _ _ _ h _ => by cases h⟩
theorem cat_cons {c : Value} {n : Str} {b : Bool} {C : Addr} {l : List (Str × Bool)} (h1 : PySem.W.nsIn K mainGlobals n = some (some (.ref C))) (h2 : PySem.W.exmOne K (.ref C) c = some b) (t : Cat K c (tblX l)) : Cat K c (tblX ((n, b) :: l)) := ⟨fun m b' C' h q => by
  unfold tblX at h
  rw [List.lookup_cons] at h
  cases e : m == n with
  | true =>
    rw [e] at h
    cases h
    cases (beq_iff_eq.mp e)
    have e2 := h1.symm.trans q
    cases e2
    exact h2
  | false => rw [e] at h; exact t.ok m b' C' h q⟩
theorem exn_mk {P : Program} {w : World} {mg : Str → Option Value} {base : Heap} {c fld qual : Str} {st : Stmt} {C fI : Addr} {fd : FuncData} (T : OexC K C) (hno : PySem.W.findIn K (.ref C) fld = some none) (F : Fun K "__init__" qual st fI fd) (i1 : PySem.W.findIn K (.ref C) "__init__" = some (some (.ref fI)))
    (i2 : PySem.W.typeIn K (.ref fI) = some (.type "function")) (hns : PySem.W.nsIn K mainGlobals c = some (some (.ref C))) (hm : mg c = some (.ref C)) (sc : FnScope ["self", fld] ["self", fld] (defScope st)) (hb' : Binds K fd ["self", fld] [])
    (hb : ∀ (cdv : Value) (A : Around) (outer : List Env) (s : Shared) (H : Hp) (E : XK), PSs (cxOf CX0 P w K mg base ["self", fld] qual (defScope st) fI cdv A outer s H E).nox (defBody st) (tOst K fld (tVar 0) (tVar 1))) : Exn P w K mg base 1 c fld :=
  ⟨⟨C, fI, fd, _, T, i1, i2, exn_ok T hno F sc hb, hb', hm, hns⟩⟩
end
end DL
namespace DL
open PySem PySem.Spec PyProof.Rows L2
section
variable {X : Cx} {K : PySem.W.Frag} {W : WX}
/-- a, b, c = e1, e2, e3 -/
def sPar3 (m : Bool) (i j l : Nat) (a b c : DT) : DTS := fun g r f E => evM m a g r f fun x f1 => evM m b g r f1 fun y f2 => evM m c g r f2 fun z f3 => E.nx (((r.set i (.sh x)).set j (.sh y)).set l (.sh z)) f3
theorem ds_par3 (m : Bool) {i j l : Nat} {x y z : Str} {a b c : Expr} {da db dc : DT} {px py pz pt : Pos} {kt k2 : Nat} {pt2 pos : Pos} (hN : X.N.Nodup) (ha : DE X a da) (hb : DE X b db) (hc' : DE X c dc) (hc : X.calm = true := by rfl) (hi : X.N[i]? = some x := by rfl) (hj : X.N[j]? = some y := by rfl) (hl : X.N[l]? = some z := by rfl) (hij : i ≠ j := by decide) (hil : i ≠ l := by decide) (hjl : j ≠ l := by decide)
    (hx : X.env.scope.names.lookup x = some .local := by rfl) (hy : X.env.scope.names.lookup y = some .local := by rfl) (hz : X.env.scope.names.lookup z = some .local := by rfl) (hst : starEach [a, b, c] X.env = (false, eval a X.env) :: starEach [b, c] X.env := by rfl) (hst2 : starEach [b, c] X.env = (false, eval b X.env) :: starEach [c] X.env := by rfl) (hst3 : starEach [c] X.env = [(false, eval c X.env)] := by rfl)
    (hw : swappedStores [.Tuple [.Name x px, .Name y py, .Name z pz] kt pt] (.Tuple [a, b, c] k2 pt2) X.env = pure (some [x, y, z]) := by rfl)
    (hs : swapsWithSole [.Tuple [.Name x px, .Name y py, .Name z pz] kt pt] (.Tuple [a, b, c] k2 pt2) pos.line X.env = pure false := by rfl) :
    DS X (.Assign [.Tuple [.Name x px, .Name y py, .Name z pz] kt pt] (.Tuple [a, b, c] k2 pt2) pos) (sPar3 m i j l da db dc) := DS.mk' (ps_par3 hc hN hi hj hl hij hil hjl hx hy hz (pa_cons ha.pe (pa_cons hb.pe (pa_cons hc'.pe pa_nil hst3) hst2) hst) hw hs) (fun g H0 Hs0 r f st H D E s e hd => by
  obtain ⟨Hs, s⟩ := s
  refine snd_evM ha.sn s (fun x f1 v H1 Hs1 s1 _ r1 q1 => ?_) hd
  refine snd_evM hb.sn s1 (fun y f2 w H2 Hs2 s2 e2 r2 q2 => ?_) q1
  refine snd_evM hc'.sn s2 (fun z f3 u H3 Hs3 s3 e3 r3 q3 => ?_) q2
  exact ⟨v, w, u, rfl, e.nx _ f3 _ H3 ⟨_, ((s3.set i ((r1.mono e2).mono e3)).set j (r2.mono e3)).set l r3⟩ q3⟩)
end
/-! values without lists and dicts stand apart from what the slots own -/
end DL
namespace DL
open PySem PySem.Spec PyProof.Rows L2
/-! places between statements, at which ways meet: behind the first, the second, .. statement -/
section
variable {g : Option Dk} {r : Sg} {f : Nat} {E : DEnds} {a b c d e h i : DTS}
theorem mid (M : Sg → Nat → Prop) (h2 : ∀ r f, M r f → b g r f E) (h1 : (∀ r f, M r f → b g r f E) → (sSeq a b) g r f E) : (sSeq a b) g r f E := h1 h2
end
/-! isinstance of an own error class, from the answers about the classes -/
end DL
namespace DL
open PySem PySem.Spec PyProof.Rows L2
/-! repr -/
def keyP : Key → PyData
  | .inl i => .int i
  | .inr x => .str x
mutual
def D.sh : D → PyData
  | .none => .none
  | .bool b => .bool b
  | .int i => .int i
  | .str x => .str x
  | .tup ds => .tuple (shA ds)
  | .lst ds => .list (shA ds)
  | .dct ks ds => .dict ((ks.map keyP).zip (shA ds))
  | .dtt _ _ => .none
  | .ktup _ => .none
  | .ftp _ => .none
  | .obj _ _ _ => .none
  | .exn _ _ _ => .none
  | .any _ => .none
def shA : List D → List PyData
  | [] => []
  | d :: ds => d.sh :: shA ds
end
def kOk : Key → Bool
  | .inl i => decide (i.natAbs.log2 < 1920)
  | .inr x => x.cps.toList.all fun c => decide (c < 1114112)
def kWt : Key → Nat
  | .inl _ => 1921
  | .inr x => 10 * x.length + 2
mutual
/-- how deep it is -/
def D.dp : D → Nat
  | .tup ds => dpA ds + 1
  | .lst ds => dpA ds + 1
  | .dct _ ds => dpA ds + 1
  | _ => 0
def dpA : List D → Nat
  | [] => 0
  | d :: ds => max d.dp (dpA ds)
end
/-! lengths -/
theorem cps_of {x : Str} (h : (x.cps.toList.all fun c => decide (c < 1114112)) = true) : (reprText x).length ≤ 10 * x.length + 2 :=
  PySem.StrLaws.reprText_len x fun c hc => Nat.lt_trans (of_decide_eq_true (List.all_eq_true.mp h c hc)) (by decide)
/-! depths -/
/-! what is read in the heap -/
section
variable {P : Program} {w : World} {K : PySem.W.Frag} {H : Hp} {h : Heap}
theorem keys_at : ∀ {ks : List Key} {us : List Value} (n : Nat) (bs : List Addr), Paired (fun k u => keyIs k u = true) ks us → ks.all kOk = true → (∀ k ∈ ks, kWt k ≤ sizeLine) → (∃ as, ReadsAll h us (ks.map keyP) as) ∧ ReprAllK P w bs h n us (PyData.shownAll (ks.map keyP))
  | [], _, n, bs, .nil, _, _ => ⟨⟨[], .nil⟩, .nil⟩
  | k :: ks, u :: us, n, bs, .cons hk hr, ho, hz => by
    rw [List.all_cons, Bool.and_eq_true] at ho
    obtain ⟨⟨as, h1⟩, h2⟩ := keys_at n bs hr ho.2 fun k hk => hz k (List.mem_cons_of_mem _ hk)
    have hz1 := hz k (List.mem_cons_self ..)
    rcases keyIs_shape hk with ⟨i, t, rfl, rfl⟩ | ⟨x, t, rfl, rfl⟩
    · exact ⟨⟨_, .cons (.int i t) h1⟩, .cons (.of_is (ReprIs.int t (of_decide_eq_true ho.1)) _ _ _) h2⟩
    · exact ⟨⟨_, .cons (.str x t) h1⟩, .cons (.of_is (ReprIs.str x t (Nat.le_trans (cps_of ho.1) hz1)) _ _ _) h2⟩
end
end DL
namespace DL
open PySem PySem.Spec PyProof.Rows L2
/-! draws of other names -/
def CalDn (x : Str) (P : Program) (w : World) (K : PySem.W.Frag) (mg : Str → Option Value) (base : Heap) : Prop :=
  ∃ f fd, FnOk P w K mg base CX0 1 f fd ["_law_script"] (spDeck K) ∧ PySem.W.keepIn K (.ref f) = true ∧ Binds K fd ["_law_script"] [] ∧ mg x = some (.ref f)
end DL
namespace DL
open PySem PySem.Spec PyProof.Rows L2
/-! dicts of the text, with text keys -/
inductive Ents (K : PySem.W.Frag) : List DictEntry → List (Str × D) → Prop
  | nil : Ents K [] []
  | cons {e : DictEntry} {x : Str} {t : Tok} {d : D} {es : List DictEntry} {tb : List (Str × D)} : e.key = .str x t → (∃ v, RelV v e.val ∧ ∀ H, Rp K H d v) → Ents K es tb → Ents K (e :: es) ((x, d) :: tb)
def GD (K : PySem.W.Frag) (w : World) (mg : Str → Option Value) (x : Str) (tb : List (Str × D)) : Prop := ∃ (a : Addr) (es : Array DictEntry) (n : Nat), mg x = some (.ref a) ∧ KDict K w a es n ∧ Ents K es.toList tb
section
variable {X : Cx} {K : PySem.W.Frag}
theorem DE.weak {e : Expr} {d d' : DT} (h : DE X e d) (w : ∀ g r f Q, d' g r f Q → d g r f Q) : DE X e d' := .mk' h.pe fun g ro f st H Hs Q Q' A hq hd => h.sn g ro f st H Hs Q Q' A hq (w g ro f Q' hd)
theorem DP.weak {e : Expr} {d d' : DTT} (h : DP X e d) (w : ∀ g r f Q, d' g r f Q → d g r f Q) : DP X e d' := .mk' h.pt fun g ro f st H Hs Q Q' A hq hd => h.sn g ro f st H Hs Q Q' A hq (w g ro f Q' hd)
/-! the tables, from what stands in the text -/
end
end DL
namespace DL
open PySem PySem.Spec PyProof.Rows L2
/-! s.count(t), s.strip(t) -/
section
variable {X : Cx} {K : PySem.W.Frag}
def oCount : OM := fun x ds Q => match x, ds with
  | .str a, [.str b] => Q (.int (Txt.count a b))
  | _, _ => False
theorem sm_count : SndM K (fun x xs H Q => ∃ a b, x = .str a ∧ xs = [.str b] ∧ Q (.int (Txt.count a b)) H) oCount := fun H Hs x vx ds vs Q Q' s rx rs hq hd => by
  unfold oCount at hd
  split at hd
  · obtain ⟨v, rfl, h⟩ := rpA1 rs
    cases h
    exact ⟨_, _, rx, rfl, hq (.int _) _ _ _ (Stp.refl s) rfl hd⟩
  · exact hd.elim
theorem de_count {o e : Expr} {apos pos : Pos} {d d2 : DT} (ho : DE X o d) (he : DE X e d2) (hs : starEach [e] X.env = [(false, eval e X.env)] := by rfl) (hbase : attributeBase o "count" X.env (eval o X.env) = eval o X.env := by rfl) (hline : (apos.endLine == pos.line) = true := by rfl) :
    DE X (.Call (.Attribute o "count" apos) [e] [] pos) (dM1 oCount d d2) := .mk' (pe_m1 F.slot_str_count F.type_str_count mt_count ho.pe he.pe hs hbase hline) (snd_m1 sm_count ho.sn he.sn)
end
theorem parts_len (x : Str) (n : Nat) : ∀ (cuts : List Nat) (a : Nat), (PySem.StrLaws.partsFrom x n a cuts).length = cuts.length + 1
  | [], _ => rfl
  | c :: r, a => by show (PySem.StrLaws.partsFrom x n (c + n) r).length + 1 = _; rw [parts_len x n r]; rfl
theorem count_split (s : Str) : Txt.count s "." + 1 = ((Txt.split s ".").length : Int) := by
  have hy : TL.tl (Str.ofString ".") ≠ [] := by decide
  obtain ⟨f, g, hn⟩ := PySem.StrLaws.occ_tight s (Str.ofString ".") (TL.len1 hy)
  have key := TL.parts_spl hy _ 0 f (Nat.zero_le _) g hn
  rw [List.drop_zero, ← TL.split_spl s (Str.ofString ".") hy (TL.kind_ok (by decide +kernel))] at key
  have := congrArg List.length key
  rw [List.length_map, List.length_map, parts_len] at this
  unfold Txt.count
  omega
end DL
namespace DL
open PySem PySem.Spec PyProof.Rows L2
section
variable {X : Cx} {K : PySem.W.Frag} {W : WX}
/-! a def that calls itself, before its first step -/
/-! str(number) -/
/-! a, b = e1, e2, new lists among them -/
theorem notO_new {g : Option Dk} {H0 Hs0 H Hs : Hp} {r : Sg} {f : Nat} {st : L2.St} (s : SIn K g H0 Hs0 r f st H Hs) {p : Addr} (hp : H p = none) (j : Nat) (sl : Sl) (h1 : r[j]? = some sl) (h2 : sl.own = true) : st[j]? ≠ some (some (.ref p)) := fun h3 => by
  obtain ⟨a, e, _, _, q⟩ := s.ow j sl h1 h2
  rw [h3] at e
  cases e
  obtain ⟨o, ho, _⟩ := q.ld
  rw [hp] at ho; cases ho
def sParLS (i j : Nat) (a : DTA) (b : DT) : DTS := fun g r f E => a g (hide r) f fun xs f1 => b g (hide r) f1 fun y f2 => E.nx ((r.set i (.ow xs)).set j (.sh y)) f2
theorem snd_parLS {i j : Nat} {ta tb : TE} {a : DTA} {b : DT} (hij : i ≠ j) (ha : SndL K ta a) (hb : Snd K tb b) : SndS K W (tPar i j (tCons ta (tCons tb tNil))) (sParLS i j a b) := fun g H0 Hs0 r f st H D E s e hd => by
  obtain ⟨Hs, s⟩ := s
  refine ha g _ f st H Hs _ _ s.atHid (fun xs f1 p vs H1 Hs1 t1 k1 hp np hv hr q1 => ?_) hd
  have s1 := s.afterHid t1 k1
  refine hb g _ f1 st H1 Hs1 _ _ s1.atHid (fun y f2 v H2 Hs2 t2 k2 r2 q2 => ?_) q1
  have s2 := s1.afterHid t2 k2
  have kp : ¬ Dk.has g p := s.dk.out hp
  have ep : H2 p = some (.lst vs) := t2.keep p _ hv kp
  have np2 : Hs2 p = none := t2.new p _ hv np
  exact ⟨.ref p, v, rfl, e.nx _ f2 _ H2 ⟨_, (s2.setOwn i (u := .ow xs) rfl (s.stp.none0 hp) np2 (fun l sl _ h1 h2 => notO_new s hp l sl h1 h2) ⟨vs, ep, hr.mono t2.ext⟩).set j r2⟩ q2⟩
theorem ds_parLS {i j : Nat} {x y : Str} {a b : Expr} {da : DTA} {db : DT} {px py pt : Pos} {kt k2 : Nat} {pt2 pos : Pos} (hN : X.N.Nodup) (ha : DL' X a da) (hb : DE X b db) (hc : X.calm = true := by rfl) (hi : X.N[i]? = some x := by rfl) (hj : X.N[j]? = some y := by rfl) (hij : i ≠ j := by decide)
    (hx : X.env.scope.names.lookup x = some .local := by rfl) (hy : X.env.scope.names.lookup y = some .local := by rfl) (hst : starEach [a, b] X.env = (false, eval a X.env) :: starEach [b] X.env := by rfl) (hst2 : starEach [b] X.env = [(false, eval b X.env)] := by rfl)
    (hw : swappedStores [.Tuple [.Name x px, .Name y py] kt pt] (.Tuple [a, b] k2 pt2) X.env = pure (some [x, y]) := by rfl)
    (hs : swapsWithSole [.Tuple [.Name x px, .Name y py] kt pt] (.Tuple [a, b] k2 pt2) pos.line X.env = pure false := by rfl) :
    DS X (.Assign [.Tuple [.Name x px, .Name y py] kt pt] (.Tuple [a, b] k2 pt2) pos) (sParLS i j da db) := DS.mk' (ps_par hc hN hi hj hij hx hy (pa_cons ha.pe (pa_cons hb.pe pa_nil hst2) hst) hw hs) (snd_parLS hij ha.sn hb.sn)
end
end DL
namespace DL
open PySem PySem.Spec PyProof.Rows L2
/-! defs that give a list that nobody else has -/
abbrev DTL := Option Dk → Sg → Nat → (List D → Nat → Prop) → Prop
def NewL (K : PySem.W.Frag) (g : Option Dk) (H Hs : Hp) (Q : VK) (Q' : List D → Nat → Prop) : Prop := ∀ xs f' p us H' Hs', Stp g H Hs H' Hs' → DkOk g H' Hs' f' → H p = none → Hs' p = none → H' p = some (.lst us) → RpA K Hs' xs us → Q' xs f' → Q (.ref p) H'
section
variable {X : Cx} {K : PySem.W.Frag} {W : WX}
/-! bodies that end in such a list -/
def sOfL (K : PySem.W.Frag) (dl : DTL) : TS := fun D st H => ∃ g H0 Hs0 r f E, SOk K g H0 Hs0 r f st H ∧ NewL K g H0 Hs0 D.rt E ∧ dl g r f E
structure DSsL (X : Cx) (sts : List Stmt) (dl : DTL) : Prop where
  ps : PSs X sts (sOfL X.K dl)
theorem DSsL.mk' {sts : List Stmt} {t : TS} {dl : DTL} (p : PSs X sts t) (s : ∀ D st H g H0 Hs0 r f E, SOk X.K g H0 Hs0 r f st H → NewL X.K g H0 Hs0 D.rt E → dl g r f E → t D st H) : DSsL X sts dl :=
  ⟨⟨fun pins sh st H D I ⟨g, H0, Hs0, r, f, E, h1, h2, h3⟩ => p.run pins sh st H D I (s D st H g H0 Hs0 r f E h1 h2 h3)⟩⟩
/-! the same for a pair, its second part such a list -/
abbrev DTP := Option Dk → Sg → Nat → (D → List D → Nat → Prop) → Prop
def NewP (K : PySem.W.Frag) (g : Option Dk) (H Hs : Hp) (Q : VK) (Q' : D → List D → Nat → Prop) : Prop := ∀ d xs f' t v p us H' Hs', Stp g H Hs H' Hs' → DkOk g H' Hs' f' → H p = none → Hs' p = none → H' p = some (.lst us) → H' t = some (.tup [v, .ref p]) → Rp K Hs' d v → RpA K Hs' xs us → Q' d xs f' → Q (.ref t) H'
def sOfP (K : PySem.W.Frag) (dl : DTP) : TS := fun D st H => ∃ g H0 Hs0 r f E, SOk K g H0 Hs0 r f st H ∧ NewP K g H0 Hs0 D.rt E ∧ dl g r f E
structure DSsP (X : Cx) (sts : List Stmt) (dl : DTP) : Prop where
  ps : PSs X sts (sOfP X.K dl)
theorem DSsP.mk' {sts : List Stmt} {t : TS} {dl : DTP} (p : PSs X sts t) (s : ∀ D st H g H0 Hs0 r f E, SOk X.K g H0 Hs0 r f st H → NewP X.K g H0 Hs0 D.rt E → dl g r f E → t D st H) : DSsP X sts dl :=
  ⟨⟨fun pins sh st H D I ⟨g, H0, Hs0, r, f, E, h1, h2, h3⟩ => p.run pins sh st H D I (s D st H g H0 Hs0 r f E h1 h2 h3)⟩⟩
end
end DL
namespace DL
open PySem PySem.Spec PyProof.Rows L2
/-! a list of lists of texts in the making -/
structure LLs (H0 : Hp) (D : Addr) (ps : List Addr) (rows : List (List Str)) (H2 : Hp) : Prop where
  d0 : H0 D = none
  len : rows.length = ps.length
  dl : H2 D = some (.lst (ps.map V.ref))
  p0 : ∀ p ∈ ps, H0 p = none ∧ p ≠ D
  at_ : ∀ (i : Nat) (r : List Str) (p : Addr), rows[i]? = some r → ps[i]? = some p → H2 p = some (.lst (r.map V.str))
  nd : ps.Nodup
/-- with the shared part beside it -/
structure LLi (g : Option Dk) (H0 Hs0 : Hp) (D : Addr) (ps : List Addr) (rows : List (List Str)) (f : Nat) (H Hs : Hp) : Prop where
  l : LLs H0 D ps rows H
  stp : Stp g H0 Hs0 H Hs
  dk : DkOk g H Hs f
  out : ∀ b, b = D ∨ b ∈ ps → Hs b = none ∧ ¬ Dk.has g b
open Classical in
noncomputable def del (Hs : Hp) (D : Addr) (ps : List Addr) : Hp := fun b => if b = D ∨ b ∈ ps then none else Hs b
section
variable {K : PySem.W.Frag} {g : Option Dk} {H0 Hs0 : Hp} {D : Addr} {ps : List Addr} {rows : List (List Str)} {f f' : Nat} {H Hs H' Hs' : Hp}
theorem shr_in {b : Addr} (h : b = D ∨ b ∈ ps) : shr H Hs D ps b = H b := if_pos h
theorem shr_out {b : Addr} (h : ¬ (b = D ∨ b ∈ ps)) : shr H Hs D ps b = Hs b := if_neg h
theorem del_in {b : Addr} (h : b = D ∨ b ∈ ps) : del Hs D ps b = none := if_pos h
theorem del_out {b : Addr} (h : ¬ (b = D ∨ b ∈ ps)) : del Hs D ps b = Hs b := if_neg h
theorem LLs.n0 (h : LLs H0 D ps rows H) {b : Addr} (hb : b = D ∨ b ∈ ps) : H0 b = none := hb.elim (fun e => e ▸ h.d0) fun e => (h.p0 b e).1
theorem LLi.sub (h : LLi g H0 Hs0 D ps rows f H Hs) : Same (shr H Hs D ps) H := fun b o e => by
  by_cases hb : b = D ∨ b ∈ ps
  · rw [shr_in hb] at e; exact e
  · rw [shr_out hb] at e; exact h.stp.sub b o e
theorem LLi.ext (h : LLi g H0 Hs0 D ps rows f H Hs) : Same Hs (shr H Hs D ps) := fun b o e => by
  have hb : ¬ (b = D ∨ b ∈ ps) := fun hb => by rw [(h.out b hb).1] at e; cases e
  rw [shr_out hb]; exact e
theorem LLi.sh (h : LLi g H0 Hs0 D ps rows f H Hs) : Stp g H0 Hs0 H (shr H Hs D ps) where
  sub := h.sub
  ext := h.stp.ext.trans h.ext
  keep := h.stp.keep
  there := h.stp.there
  new := fun b o e n => by
    have hb : ¬ (b = D ∨ b ∈ ps) := fun hb => by rw [h.l.n0 hb] at e; cases e
    rw [shr_out hb]; exact h.stp.new b o e n
/-- after an expression that saw it -/
theorem LLi.un (h : LLi g H0 Hs0 D ps rows f H Hs) (s0 : Same Hs0 H0) (s : Stp g H (shr H Hs D ps) H' Hs') (k : DkOk g H' Hs' f') : LLi g H0 Hs0 D ps rows f' H' (del Hs' D ps) ∧ Same Hs (del Hs' D ps) := by
  have st := h.sh.trans s
  have kp : ∀ b, b = D ∨ b ∈ ps → ∀ o, H b = some o → H' b = some o := fun b hb o e => s.keep b o e (h.out b hb).2
  refine ⟨⟨⟨h.l.d0, h.l.len, kp D (.inl rfl) _ h.l.dl, h.l.p0, fun i r p a b => kp p (.inr (List.mem_of_getElem? b)) _ (h.l.at_ i r p a b), h.l.nd⟩, ⟨fun b o e => ?_, fun b o e => ?_, st.keep, st.there, fun b o e n => ?_⟩, ?_, fun b hb => ⟨del_in hb, (h.out b hb).2⟩⟩, fun b o e => ?_⟩
  · by_cases hb : b = D ∨ b ∈ ps
    · rw [del_in hb] at e; cases e
    · rw [del_out hb] at e; exact st.sub b o e
  · have hb : ¬ (b = D ∨ b ∈ ps) := fun hb => by have := s0 b o e; rw [h.l.n0 hb] at this; cases this
    rw [del_out hb]; exact st.ext b o e
  · by_cases hb : b = D ∨ b ∈ ps
    · exact del_in hb
    · rw [del_out hb]; exact st.new b o e n
  · cases g with
    | none => trivial
    | some d =>
      obtain ⟨q0, q1, q2, q3, tb⟩ := k
      have nn : ∀ b, Hs' b = none → del Hs' D ps b = none := fun b e => by
        by_cases hb : b = D ∨ b ∈ ps
        · exact del_in hb
        · rw [del_out hb]; exact e
      refine ⟨q0, nn _ q1, nn _ q2, nn _ q3, tb.to (fun x hx u h1 h2 => ⟨h1, nn _ h2⟩) fun b u hb _ hq => ?_⟩
      obtain ⟨q, rfl⟩ := hq
      rw [del_out fun z => ?_]
      · exact hb
      · rcases z with rfl | z
        · have := kp b (.inl rfl) _ h.l.dl
          rw [s.sub b _ hb] at this; cases this
        · obtain ⟨i, hi, e2⟩ := List.getElem_of_mem z
          have hr : i < rows.length := by rw [h.l.len]; exact hi
          have := kp b (.inr z) _ (h.l.at_ i rows[i] b (List.getElem?_eq_getElem hr) (by rw [List.getElem?_eq_getElem hi, e2]))
          rw [s.sub b _ hb] at this; cases this
  · have hb : ¬ (b = D ∨ b ∈ ps) := fun hb => by rw [(h.out b hb).1] at e; cases e
    rw [del_out hb]
    exact s.ext b o (h.ext b o e)
theorem LLi.step (h : LLi g H0 Hs0 D ps rows f H Hs) (s : Stp g H Hs H' Hs') (k : DkOk g H' Hs' f') : LLi g H0 Hs0 D ps rows f' H' Hs' := by
  have kp : ∀ b, b = D ∨ b ∈ ps → ∀ o, H b = some o → H' b = some o := fun b hb o e => s.keep b o e (h.out b hb).2
  have ex : ∀ b, b = D ∨ b ∈ ps → ∃ o, H b = some o := fun b hb => by
    rcases hb with rfl | hb
    · exact ⟨_, h.l.dl⟩
    · obtain ⟨i, hi, e⟩ := List.getElem_of_mem hb
      have hr : i < rows.length := by rw [h.l.len]; exact hi
      exact ⟨_, h.l.at_ i rows[i] b (List.getElem?_eq_getElem hr) (by rw [List.getElem?_eq_getElem hi, e])⟩
  refine ⟨⟨h.l.d0, h.l.len, kp D (.inl rfl) _ h.l.dl, h.l.p0, fun i r p a b => kp p (.inr (List.mem_of_getElem? b)) _ (h.l.at_ i r p a b), h.l.nd⟩, h.stp.trans s, k, fun b hb => ?_⟩
  obtain ⟨o, e⟩ := ex b hb
  exact ⟨s.new b o e (h.out b hb).1, (h.out b hb).2⟩
theorem LLi.nodk (h : LLi g H0 Hs0 D ps rows f H Hs) {f0 : Nat} (k0 : DkOk g H0 Hs0 f0) {p : Addr} (hp : H p = none) : H0 p = none ∧ Hs p = none ∧ ¬ Dk.has g p ∧ p ≠ D ∧ p ∉ ps := by
  have n0 : H0 p = none := none_back h.stp hp
  refine ⟨n0, same_none h.stp.sub hp, k0.out n0, fun e => ?_, fun e => ?_⟩
  · subst e; rw [h.l.dl] at hp; cases hp
  · obtain ⟨i, hi, e2⟩ := List.getElem_of_mem e
    have hr : i < rows.length := by rw [h.l.len]; exact hi
    have := h.l.at_ i rows[i] p (List.getElem?_eq_getElem hr) (by rw [List.getElem?_eq_getElem hi, e2])
    rw [hp] at this; cases this
theorem LLi.start {f0 : Nat} (s0 : Same Hs0 H0) (k0 : DkOk g H0 Hs0 f0) {H Hs : Hp} (st : Stp g H0 Hs0 H Hs) (k : DkOk g H Hs f) {p D : Addr} {x : Str} (hp : H p = none) (hD : upd H p (.lst [V.str x]) D = none) :
    LLi g H0 Hs0 D [p] [[x]] f (upd (upd H p (.lst [V.str x])) D (.lst [V.ref p])) Hs := by
  have pD : p ≠ D := fun e => by subst e; rw [upd_same] at hD; cases hD
  have hD' : H D = none := by rwa [upd_ne (fun e => pD e.symm)] at hD
  have p0 := none_back st hp
  have d0 := none_back st hD'
  have h1 : (upd (upd H p (.lst [V.str x])) D (.lst [V.ref p])) p = some (.lst [V.str x]) := by rw [upd_ne pD, upd_same]
  refine ⟨⟨d0, rfl, upd_same, fun q hq => ?_, fun i r q a b => ?_, by simp⟩, (st.mut p0 (same_none st.sub hp)).mut d0 (same_none st.sub hD'), (k.mut (k0.out p0)).mut (k0.out d0), fun b hb => ?_⟩
  · rw [List.mem_singleton.mp hq]; exact ⟨p0, pD⟩
  · cases i with
    | zero => cases a; cases b; exact h1
    | succ i => simp at a
  · rcases hb with rfl | hb
    · exact ⟨same_none st.sub hD', k0.out d0⟩
    · rw [List.mem_singleton.mp hb]; exact ⟨same_none st.sub hp, k0.out p0⟩
theorem LLi.add {f0 : Nat} (k0 : DkOk g H0 Hs0 f0) (h : LLi g H0 Hs0 D ps rows f H Hs) {p : Addr} {x : Str} (hp : H p = none) :
    LLi g H0 Hs0 D (ps ++ [p]) (rows ++ [[x]]) f (upd (upd H p (.lst [V.str x])) D (.lst ((ps ++ [p]).map V.ref))) Hs := by
  obtain ⟨n0, ns, nk, pD, pp⟩ := h.nodk k0 hp
  have od := h.out D (.inl rfl)
  refine ⟨⟨h.l.d0, by rw [List.length_append, List.length_append, h.l.len]; rfl, upd_same, fun q hq => ?_, fun i r q a b => ?_, ?_⟩, (h.stp.mut n0 ns).mut h.l.d0 od.1, (h.dk.mut nk).mut od.2, fun b hb => ?_⟩
  · rcases List.mem_append.mp hq with e | e
    · exact h.l.p0 q e
    · rw [List.mem_singleton.mp e]; exact ⟨n0, pD⟩
  · have hqD : q ≠ D := by
      rcases List.mem_append.mp (List.mem_of_getElem? b) with e | e
      · exact (h.l.p0 q e).2
      · rw [List.mem_singleton.mp e]; exact pD
    rw [upd_ne hqD]
    by_cases hi : i < ps.length
    · rw [List.getElem?_append_left hi] at b
      rw [List.getElem?_append_left (by rw [h.l.len]; exact hi)] at a
      have hqp : q ≠ p := fun e => pp (e ▸ List.mem_of_getElem? b)
      rw [upd_ne hqp]
      exact h.l.at_ i r q a b
    · have hlen : i = ps.length := by
        have := (List.getElem?_eq_some_iff.mp b).1
        rw [List.length_append, List.length_singleton] at this
        omega
      rw [List.getElem?_append_right (by omega), hlen, Nat.sub_self] at b
      rw [List.getElem?_append_right (by rw [h.l.len]; omega), hlen, h.l.len, Nat.sub_self] at a
      cases a
      cases b
      rw [upd_same]; rfl
  · rw [List.nodup_append]
    exact ⟨h.l.nd, by simp, fun a ha b hb e => pp (by rw [List.mem_singleton.mp hb] at e; exact e ▸ ha)⟩
  · rcases hb with hb | hb
    · exact h.out b (.inl hb)
    · rcases List.mem_append.mp hb with e | e
      · exact h.out b (.inr e)
      · rw [List.mem_singleton.mp e]; exact ⟨ns, nk⟩
end
theorem nxt {g : Option Dk} {r : Sg} {f : Nat} {E : DEnds} (h : E.nx r f) : sNext g r f E := h
section
variable {K : PySem.W.Frag} {Hs : Hp}
theorem SlOk.nil : SlOk K Hs [] [] := ⟨rfl, fun i s d h => by simp at h⟩
theorem SlOk.sh {r : Sg} {st : L2.St} {d : D} {v : V} (hv : Rp K Hs d v) (h : SlOk K Hs r st) : SlOk K Hs (.sh d :: r) (some v :: st) :=
  ⟨by rw [List.length_cons, List.length_cons, h.len], fun i s e h1 h2 => by
    cases i with
    | zero => cases h1; cases h2; exact ⟨v, rfl, hv⟩
    | succ i => exact h.get i s e (by simpa using h1) h2⟩
theorem SlOk.no {r : Sg} {st : L2.St} {o : Option V} (h : SlOk K Hs r st) : SlOk K Hs (.no :: r) (o :: st) :=
  ⟨by rw [List.length_cons, List.length_cons, h.len], fun i s e h1 h2 => by
    cases i with
    | zero => cases h1; cases h2
    | succ i => exact h.get i s e (by simpa using h1) h2⟩
end
end DL
namespace DL
open PySem PySem.Spec PyProof.Rows L2
/-! the top by one run: what is looked at, as truth values over a part of the heap -/
abbrev FrB : Type := PySem.W.Frag → Bool
abbrev AlY : Type := He.AlD × List (Option (List (Option (Str × Int))))
def obsY (ex : List FrB) (fn : List He5.DefA) (ts : List He.Tab) (K : PySem.W.Frag) : AlY :=
  (((ex.all fun f => f K) && fn.all fun d => d.ok K, fn.map fun d => He5.fnA K (d.at_ K)), ts.map fun t => He.dicW K (t.1 K))
def valY (fn : List He5.DefA) (ts : List He.Tab) (w : World) : AlY := ((true, fn.map He5.DefA.val), ts.map fun t => some (He.keysIn w.params t.2))
def SaysY (ex : List FrB) (fn : List He5.DefA) (ts : List He.Tab) (w : World) (K : PySem.W.Frag) : Prop := obsY ex fn ts K = valY fn ts w
/-! what the main names reach in n steps, each address once; the seen ones are the bits of a number -/
noncomputable def putY {β : Type} (l : List Addr) : Nat → List Addr → (Nat → List Addr → β) → β :=
  List.rec (motive := fun _ => Nat → List Addr → (Nat → List Addr → β) → β) (fun m acc k => k m acc)
    (fun a _ ih m acc k => HandSHeadRun.frNat a fun a => Bool.rec (motive := fun _ => β) (HandSHeadRun.frNat (Nat.lor m (Nat.shiftLeft 1 a)) fun m => ih m (a :: acc) k) (ih m acc k) (Nat.beq (Nat.land (Nat.shiftRight m a) 1) 1)) l
noncomputable def growY {β : Type} (g : Addr → Option Obj) (l : List Addr) : Nat → List Addr → (Nat → List Addr → β) → β :=
  List.rec (motive := fun _ => Nat → List Addr → (Nat → List Addr → β) → β) (fun m acc k => k m acc)
    (fun a _ ih m acc k => Option.rec (motive := fun _ => β) (ih m acc k) (fun o => putY (He.refsD o) m acc fun m acc => ih m acc k) (g a)) l
noncomputable def asY (g : Addr → Option Obj) (n : Nat) : List Addr → Nat → List Addr :=
  Nat.rec (motive := fun _ => List Addr → Nat → List Addr) (fun fr _ => fr) (fun _ ih fr m => fr ++ growY g fr m [] fun m new => ih new m) n
noncomputable def obsYG (n : Nat) (ex : List FrB) (fn : List He5.DefA) (ts : List He.Tab) (g : Addr → Option Obj) : AlY := obsY ex fn ts (He.frG g (asY g n [mainGlobals] 0 ++ [cStatics]))
noncomputable def hookY (n : Nat) (ex : List FrB) (fn : List He5.DefA) (ts : List He.Tab) : PySem.W.Hook where
  α := AlY
  obs := fun s => obsYG n ex fn ts s.heap.get?
  val := fun w => valY fn ts w
  says := fun w h => ∃ K : PySem.W.Frag, K.In h ∧ SaysY ex fn ts w K
  of := fun _ _ e => ⟨_, He.frG_in, e⟩
  keeps := fun _ _ _ ⟨K, hK, c⟩ k => ⟨K, PySem.W.Frag.In.keeps hK k, c⟩
theorem obsYG_eq {n : Nat} {ex : List FrB} {fn : List He5.DefA} {ts : List He.Tab} {g : Addr → Option Obj} {s : Shared} (h : ∀ a, g a = s.heap.get? a) : obsYG n ex fn ts g = (hookY n ex fn ts).obs s := by
  have e : g = s.heap.get? := funext h
  rw [e] <;> rfl
section
variable {ex : List FrB} {fn : List He5.DefA} {ts : List He.Tab} {w : World} {K : PySem.W.Frag}
theorem SaysY.fact (c : SaysY ex fn ts w K) (i : Nat) {f : FrB} (h : ex[i]? = some f := by rfl) : f K = true := by
  have c1 : ((ex.all fun f => f K) && fn.all fun d => d.ok K) = true := congrArg (fun z : AlY => z.1.1) c
  rw [Bool.and_eq_true] at c1
  exact List.all_eq_true.mp c1.1 f (List.mem_of_getElem? h)
theorem SaysY.def_ (c : SaysY ex fn ts w K) (i : Nat) {d : He5.DefA} (h : fn[i]? = some d := by rfl) : ∃ fd, FunD K d.name d.qual d.params d.body d.scope (d.dvs K) (d.kws K) (d.at_ K) fd := by
  have c1 : ((ex.all fun f => f K) && fn.all fun d => d.ok K) = true := congrArg (fun z : AlY => z.1.1) c
  rw [Bool.and_eq_true] at c1
  have e : fn.map (fun d => He5.fnA K (d.at_ K)) = fn.map He5.DefA.val := congrArg (fun z : AlY => z.1.2) c
  have e2 : (fn.map fun d => He5.fnA K (d.at_ K))[i]? = (fn.map He5.DefA.val)[i]? := by rw [e]
  rw [List.getElem?_map, List.getElem?_map, h] at e2
  exact He5.DefA.funD (Option.some.inj e2) (List.all_eq_true.mp c1.2 d (List.mem_of_getElem? h))
/-! what stands in the records -/
theorem raw_fn {x q : Str} {st : Stmt} {f : Addr} {fd : FuncData} {kws : List (Str × V)} (F : FunD K x q (defArgs st) (defBody st) (defScope st) [] kws f fd) :
    ∃ (oc : Value) (od : Option Addr) (kV dc pm : Value) (an : Option Addr) (cd ct : Value) (sl : Array (Option Value)), K.lookup f = some ⟨oc, od, .func (PySem.W.fnOf x q (defArgs st) (defBody st) (defScope st) .none kV dc pm an cd ct), sl⟩ ∧ PySem.W.codeIn K cd q = true ∧ PySem.W.keepIn K (.ref f) = true := by
  obtain ⟨oc, od, dV, kV, doc, pm, an, cdv, ct, osl, e, l, c, hd, _⟩ := F.ex
  rcases hd with ⟨_, e2⟩ | ⟨e2, _⟩
  · subst e2
    subst e
    exact ⟨oc, od, kV, doc, pm, an, cdv, ct, osl, l, c, F.kp⟩
  · exact absurd rfl e2
/-- the address, and the rest, of a record that wraps -/
def rcA (K : PySem.W.Frag) (p : Addr) (T : String) : Addr := match PySem.W.recIn K p T with
  | some (.ref a :: _) => a
  | _ => 0
def rcR (K : PySem.W.Frag) (p : Addr) (T : String) : List Value := match PySem.W.recIn K p T with
  | some (_ :: r) => r
  | _ => []
def tkOf (K : PySem.W.Frag) (x : Str) : Tok := match PySem.W.nsIn K mainGlobals x with
  | some (some (.int _ t)) => t
  | some (some (.str _ t)) => t
  | _ => default
/-- a class of errors with an __init__ of its own -/
def oexB (K : PySem.W.Frag) (C : Addr) : Bool := match K.lookup C with
  | some ⟨.type c, _, .cls cd, sl⟩ => decide (c = "type") && (cd.hasDict && (!cd.hasDel && (match cd.mro, sl.toList with
    | .ref C' :: bm, [_, _, _, _, some (.builtin n), _] => decide (C' = C) && (decide (n = "ValueError.__new__") && PySem.HandSPX.refsVE bm)
    | _, _ => false)))
  | _ => false
theorem oex_of {C : Addr} (h : oexB K C = true) : ∃ nm q N bs bm sn sub ab col dd k0 k1 k2 k3 k5, K.lookup C = some (excClassObj nm q C N bs bm true sn sub ab col dd k0 k1 k2 k3 k5 "ValueError.__new__") ∧ PySem.HandSPX.refsVE bm = true := by
  unfold oexB at h
  split at h
  · next c dd cd sl ho =>
    rw [Bool.and_eq_true, Bool.and_eq_true, Bool.and_eq_true, decide_eq_true_iff, Bool.not_eq_true'] at h
    obtain ⟨rfl, h2, h3, h⟩ := h
    split at h
    · next C' bm k0 k1 k2 k3 n k5 hm hs =>
      rw [Bool.and_eq_true, Bool.and_eq_true, decide_eq_true_iff, decide_eq_true_iff] at h
      obtain ⟨rfl, rfl, h4⟩ := h
      obtain ⟨nm, bs, mro, ns, qn, hd, sn, sub, ab, col, del⟩ := cd
      dsimp only at hm h2 h3
      subst hm h2 h3
      obtain ⟨l⟩ := sl
      simp only at hs
      subst hs
      exact ⟨nm, qn, ns, bs, bm, sn, sub, ab, col, dd, k0, k1, k2, k3, k5, ho, h4⟩
    · cases h
  · cases h
/-! dicts of the text -/
end
/-- the law's end, with what was looked at -/
theorem walk_ofY {l : PySem.W.OpenLaw} {k : Nat} {q : Program} {loose : List Str} {XP : (Str → Option Value) → Heap → Prop} {ex : List FrB} {fn : List He5.DefA} {ts : List He.Tab} {d : DefRec} {x : Str}
    (hn : l.most = some 63) (hdf : d.params.defaults = []) (hr : Room k callerA)
    (F : ∀ (w : World) (mg : Str → Option Value) (fa : Addr) (h : Heap) (K : PySem.W.Frag), K.In h → SaysY ex fn ts w K → h.Ns mainGlobals mg → mg d.name = some (.ref fa) →
      ∃ fd : FuncData, (∀ (s : Shared) (u : Value), BindsTo s fd ⟨[u], []⟩ [(x, u)]) ∧ ∀ base : Heap, K.In base → base.Ns mainGlobals mg → FnOk l.prog w K mg base CX0 k fa fd [x] (spLaw K)) :
    PySem.W.WalkO q loose XP (fun w h => ∃ K : PySem.W.Frag, K.In h ∧ SaysY ex fn ts w K) l.row.toRowW d [] (fun f vs => PySem.call f vs) :=
  L2.walk_ofE (n := 63) (k := k) (CX := CX0) hn (by decide) hdf hr (fun w mg fa h ⟨K, KX, c⟩ G hm => by
    obtain ⟨fd, hb, hF⟩ := F w mg fa h K KX c G hm
    exact ⟨K, fd, spLaw K, KX, hb, fun H a ns hl _ hS => ⟨a, ns, rfl, hS, hl, fun _ => rfl⟩, hF⟩) (fun _ _ _ _ z => z)
end DL
namespace PySem.SeqAt
open AutoSeq1 (wpAny_loadPart')
open MeetsSeq MeetsSeq2 MeetsSeq3 SeqRoads2
end PySem.SeqAt
namespace DL
open PySem PySem.Spec PyProof.Rows L2
/-! any plain value in a tuple or a list of pairs of texts -/
section
variable {X : Cx} {K : PySem.W.Frag} {pins : List (Addr × Obj)} {st : L2.St} {H Hs : Hp} {s : Shared}
/-- the value is the pair u -/
def IsU (s : Shared) (y : Value) (u : Us) : Prop := ∃ (p : Addr) (ta tb : Tok), y = .ref p ∧ s.heap.IsTuple p #[.str u.1 ta, .str u.2 tb]
theorem isTup_fun {h : Heap} {p : Addr} {a b : Array Value} (h1 : h.IsTuple p a) (h2 : h.IsTuple p b) : a = b := by
  obtain ⟨o, ho, _, n, hd⟩ := h1
  obtain ⟨o2, ho2, _, n2, hd2⟩ := h2
  rw [ho] at ho2
  cases ho2
  rw [hd] at hd2
  cases hd2
  rfl
theorem IsU.uniq {y : Value} {u w : Us} (h1 : IsU s y u) (h2 : IsU s y w) : u = w := by
  obtain ⟨p, ta, tb, rfl, t1⟩ := h1
  obtain ⟨p2, ta2, tb2, e, t2⟩ := h2
  cases e
  have e := isTup_fun t1 t2
  have e := congrArg Array.toList e
  simp only [List.cons.injEq, Value.str.injEq] at e
  exact Prod.ext e.1.1 e.2.1.1
end
end DL
namespace DL
open PySem PySem.Spec PyProof.Rows L2
/-! list(zip(a, b)) of two lists -/
section
variable {prog : Program} {w : World} {A : Around} {E : Value → Shared → Prop} {s : Shared} {R : Result → Shared → Prop} {z ti tz i1 i2 l1 l2 S : Addr} {xs ys : Array Value} {n : Nat}
def ZSt (z ti tz i1 i2 l1 l2 : Addr) (xs ys : Array Value) (h : Heap) (i : Nat) : Prop :=
  (∃ v b, ZpV h z ti tz v b ∧ Mrk v) ∧ IsPair h ti (.ref i1) (.ref i2) ∧ (∃ x y, IsPair h tz x y) ∧ h.IsListIter i1 l1 i ∧ h.IsListIter i2 l2 i ∧ h.IsList l1 xs ∧ h.IsList l2 ys
/-- the pairs that were given out -/
def ZAcc (S : Addr) (xs ys : Array Value) (h : Heap) (acc : Array Value) (i : Nat) : Prop :=
  ∃ Ts : List Addr, acc = (Ts.map Value.ref).toArray ∧ Ts.length = i ∧ Ts.Nodup ∧ ∀ (j : Nat) (T : Addr), Ts[j]? = some T → S < T ∧ ∃ x y : Value, xs[j]? = some x ∧ ys[j]? = some y ∧ IsPair h T x y
theorem isList_keep {h h' : Heap} {a : Addr} {its : Array Value} (hl : h.IsList a its) (k : ∀ o, h.get? a = some o → h'.get? a = some o) : h'.IsList a its := by
  obtain ⟨o, ho, r⟩ := hl
  exact ⟨o, k o ho, r⟩
theorem ZSt.keep {h h' : Heap} {i : Nat} (st : ZSt z ti tz i1 i2 l1 l2 xs ys h i) (k : ∀ b ∈ [z, ti, tz, i1, i2, l1, l2], ∀ o, h.get? b = some o → h'.get? b = some o) : ZSt z ti tz i1 i2 l1 l2 xs ys h' i := by
  obtain ⟨⟨v, b, hz, hm⟩, hti, ⟨x, y, htz⟩, h1, h2, hl1, hl2⟩ := st
  exact ⟨⟨v, b, k z (by simp) _ hz, hm⟩, k ti (by simp) _ hti, ⟨x, y, k tz (by simp) _ htz⟩, h1.at fun o q => k i1 (by simp) o q, h2.at fun o q => k i2 (by simp) o q, isList_keep hl1 fun o q => k l1 (by simp) o q, isList_keep hl2 fun o q => k l2 (by simp) o q⟩
theorem ZAcc.keep {h h' : Heap} {i : Nat} {acc : Array Value} (st : ZAcc S xs ys h acc i) (k : ∀ b, S < b → ∀ o, h.get? b = some o → h'.get? b = some o) : ZAcc S xs ys h' acc i := by
  obtain ⟨Ts, h1, h2, h3, h4⟩ := st
  refine ⟨Ts, h1, h2, h3, fun j T hj => ?_⟩
  obtain ⟨q1, x, y, q2, q3, q4⟩ := h4 j T hj
  exact ⟨q1, x, y, q2, q3, k T q1 _ q4⟩
theorem ZAcc.size {h : Heap} {i : Nat} {acc : Array Value} (st : ZAcc S xs ys h acc i) : acc.size = i := by
  obtain ⟨Ts, h1, h2, _⟩ := st
  rw [h1, List.size_toArray, List.length_map, h2]
end
end DL
namespace DL
open PySem PySem.Spec PyProof.Rows L2
section
variable {X : Cx} {K : PySem.W.Frag} {pins : List (Addr × Obj)} {st : L2.St} {H H' : Hp} {s : Shared} {h h' : Heap} {l : Addr} {Ts : List Addr} {ps : List (V × V)}
theorem vals_refs : ∀ Ts : List Addr, Vals (Ts.map V.ref) (Ts.map Value.ref)
  | [] => .nil
  | T :: Ts => .cons rfl (vals_refs Ts)
end
end DL
namespace DL
open PySem PySem.Spec PyProof.Rows L2
/-! xs.insert(e, y), xs owned, its items any -/
section
variable {X : Cx} {K : PySem.W.Frag} {W : WX}
def rIns : V → List V → Hp → VK → Prop := fun x vs H Q => ∃ (l : Addr) (xs : List V) (i : Int) (y : V), x = .ref l ∧ vs = [.int i, y] ∧ H l = some (.lst xs) ∧ xs.length < sizeLine ∧ 0 ≤ i ∧ i < 2 ^ 63 ∧
    Q .non (upd H l (.lst (xs.take i.toNat ++ [y] ++ xs.drop i.toNat)))
def sIns (i : Nat) (de dv : DT) : DTS := fun g r f E => ∃ xs, r[i]? = some (.ow xs) ∧ de g r f fun d f' => dv g (hide r) f' fun y f2 => match d with
  | .int k => 0 ≤ k ∧ k < 100000 ∧ xs.length ≤ lim ∧ E.nx (r.set i (.ow (xs.take k.toNat ++ [y] ++ xs.drop k.toNat))) f2
  | _ => False
theorem snd_ins {i : Nat} {te tv : TE} {de dv : DT} (h : Snd K te de) (hv : Snd K tv dv) : SndS K W (tDrop (tBM K "list" rIns (tVar i) (tCons te (tCons tv tNil)))) (sIns i de dv) := fun g H0 Hs0 r f st H D E s e hd => by
  obtain ⟨Hs, s⟩ := s
  obtain ⟨xs, hi, hd⟩ := hd
  obtain ⟨a, ha, n1, n0, vs, hvs, hr⟩ := s.ow i _ hi rfl
  refine ⟨.ref a, ha, .inl ⟨rfl, vs, SqL.of hvs⟩, ?_⟩
  refine h g r f st H _ _ _ s.at (fun d f' v H' Hs' t' k' hr' q => ?_) hd
  have s' := s.after t' k'
  refine hv g (hide r) f' st H' _ _ _ s'.atHid (fun y f2 v2 H2 Hs2 t2 k2 hr2 q2 => ?_) q
  have s2 := s'.afterHid t2 k2
  cases d <;> try exact q2.elim
  cases hr'
  obtain ⟨k0, k1, hxl, q2⟩ := q2
  obtain ⟨a', ha', n1', n0', vs', hv', hr3⟩ := s2.ow i _ hi rfl
  rw [ha] at ha'
  cases ha'
  rename_i k
  exact ⟨a, vs', k, v2, rfl, rfl, hv', hr3.lt hxl, k0, Int.lt_trans k1 (by decide), e.nx _ f2 st _ ⟨_, s2.mutOwn (u := .ow (xs.take k.toNat ++ [y] ++ xs.drop k.toNat)) hi rfl ha rfl ⟨vs'.take k.toNat ++ [v2] ++ vs'.drop k.toNat, upd_same, ((hr3.take k.toNat).append (RpA.one hr2)).append (hr3.drop k.toNat)⟩⟩ q2⟩
theorem ds_ins {i : Nat} {x : Str} {e e2 : Expr} {px apos cpos pos : Pos} {d dv : DT} (h : DE X e d) (h2 : DE X e2 dv) (hN : X.N[i]? = some x := by rfl) (hv : Vis X.env.scope x := by first | exact Or.inl rfl | exact Or.inr (Or.inl rfl) | exact Or.inr (Or.inr rfl)) (hd : (x == ("__debug__" : Str)) = false := by decide)
    (hcd : (x == ("__classdict__" : Str)) = false := by decide) (hP : ∀ t : TE, ∀ t2 : TA, PE X (.Name x px) (tVar i) → PA X [e, e2] (tCons t t2) → PE X (.Call (.Attribute (.Name x px) "insert" apos) [e, e2] [] cpos) (tBM X.K "list" rIns (tVar i) (tCons t t2)) := by
      exact fun t t2 a b => pe_bm PySem.F.plainAttrs_list PySem.F.slot_list_insert PySem.F.type_list_insert mt_insert a b)
    (hs : swapsWith (.Call (.Attribute (.Name x px) "insert" apos) [e, e2] [] cpos) none pos.line X.env = pure false := by rfl) (hst : starEach [e, e2] X.env = [(false, eval e X.env), (false, eval e2 X.env)] := by rfl) (hst2 : starEach [e2] X.env = [(false, eval e2 X.env)] := by rfl) :
    DS X (.Expr (.Call (.Attribute (.Name x px) "insert" apos) [e, e2] [] cpos) pos) (sIns i d dv) :=
  DS.mk' (ps_expr (hP _ _ (pe_var hN hv hd hcd) (pa_cons h.pe (pa_cons h2.pe pa_nil hst2) (by rw [hst, hst2]))) hs) (snd_ins h.sn h2.sn)
end
end DL
namespace DL
open PySem PySem.Spec PyProof.Rows L2
/-! lambda x: (len(x), x), as a key -/
/-! a lambda is made -/
/-! min(e, key=lambda x: (len(x), x), default=None) -/
def lenP : PyData → Int
  | .tuple xs => xs.length
  | _ => 0
def lkey (e : PyData) : PyData := .tuple [.int (lenP e), e]
end DL
namespace DL
open PySem PySem.Spec PyProof.Rows L2
/-! min(e, key=lambda x: (len(x), x), default=None) over plain data -/
theorem TbOk.neL {k : Dk} {H Hs : Hp} {x a : Addr} {l : List V} (t : TbOk k H Hs) (hx : x ∈ k.t.map (·.1)) (h : H a = some (.lst l)) : x ≠ a := fun e => by
  obtain ⟨p, hp, rfl⟩ := List.mem_map.mp hx
  obtain ⟨_, ps, h1, _⟩ := t.at_ p hp
  rw [e, h] at h1
  cases h1
end DL
namespace DL
open PySem PySem.Spec PyProof.Rows L2
/-! dicts whose keys are tuples -/
abbrev TKey : Type := List Key
def D.tkey : D → Option TKey
  | .tup ds => ds.mapM D.key
  | _ => Option.none
instance decTKey (k : TKey) (ks : List TKey) : Decidable (k ∈ ks) := @List.instDecidableMemOfLawfulBEq TKey instBEqOfDecidableEq inferInstance k ks
def putTs (ks : List TKey) (k : TKey) : List TKey := if k ∈ ks then ks else ks ++ [k]
def putTx (ks : List TKey) (xs : List D) (k : TKey) (d : D) : List D := if k ∈ ks then (ks.zip xs).map fun p => if p.1 = k then d else p.2 else xs ++ [d]
def lookT (ks : List TKey) (xs : List D) (k : TKey) : Option D := ((ks.zip xs).find? fun p => decide (p.1 = k)).map (·.2)
section
variable {X : Cx} {K : PySem.W.Frag} {W : WX}
theorem keys_v {H : Hp} : ∀ {ds : List D} {vs : List V} {k : TKey}, RpA K H ds vs → ds.mapM D.key = some k → vs = k.map kV
  | [], _, k, h, e => by
    cases h
    have e : some [] = some k := e
    cases e
    rfl
  | d :: ds, _, k, ⟨v, r, h1, h2, h3⟩, e => by
    subst h1
    rw [List.mapM_cons] at e
    cases e1 : d.key with
    | none => rw [e1] at e; cases e
    | some x =>
      cases e2 : ds.mapM D.key with
      | none => rw [e1, e2] at e; cases e
      | some l =>
        rw [e1, e2] at e
        have e : some (x :: l) = some k := e
        cases e
        rw [List.map_cons, ← keys_v h3 e2, key_v h2 e1]
theorem tkey_v {H : Hp} {d : D} {v : V} {k : TKey} (h : Rp K H d v) (e : d.tkey = some k) : ∃ b, v = .ref b ∧ H b = some (.tup (k.map kV)) := by
  cases d with
  | tup ds =>
    obtain ⟨b, vs, rfl, h1, h2⟩ := h
    have e : ds.mapM D.key = some k := e
    have h1 : H b = some (.tup vs) := h1
    rw [keys_v h2 e] at h1
    exact ⟨b, rfl, h1⟩
  | _ => cases e
theorem any_zipT {k : TKey} : ∀ {ks : List TKey} {vs : List V}, ks.length = vs.length → ((ks.zip vs).any fun kv => decide (kv.1 = k)) = decide (k ∈ ks)
  | [], _, _ => by simp
  | _ :: _, [], h => by simp at h
  | a :: ks, v :: vs, h => by
    rw [List.zip_cons_cons, List.any_cons, any_zipT (by simpa using h)]
    by_cases e : a = k
    · simp [e]
    · simp [e, Ne.symm e]
theorem put_zipT {k : TKey} {v : V} : ∀ {ks : List TKey} {vs : List V}, ks.length = vs.length → (ks.zip vs).map (fun kv => if kv.1 = k then (kv.1, v) else kv) = ks.zip ((ks.zip vs).map fun kv => if kv.1 = k then v else kv.2)
  | [], _, _ => by simp
  | _ :: _, [], h => by simp at h
  | a :: ks, w :: vs, h => by
    simp only [List.zip_cons_cons, List.map_cons]
    rw [put_zipT (by simpa using h)]
    by_cases e : a = k <;> simp [e]
theorem putTx_rp {H : Hp} {k : TKey} {d : D} {v : V} (hd : Rp K H d v) : ∀ {ks : List TKey} {xs : List D} {vs : List V}, RpA K H xs vs → RpA K H ((ks.zip xs).map fun p => if p.1 = k then d else p.2) ((ks.zip vs).map fun p => if p.1 = k then v else p.2)
  | [], _, _, _ => by simp [RpA]
  | _ :: _, [], _, h => by cases h; simp [RpA]
  | a :: ks, x :: xs, _, ⟨w, r, h1, h2, h3⟩ => by
    subst h1
    simp only [List.zip_cons_cons, List.map_cons]
    refine ⟨_, _, rfl, ?_, putTx_rp hd h3⟩
    by_cases e : a = k
    · rw [if_pos e, if_pos e]; exact hd
    · rw [if_neg e, if_neg e]; exact h2
theorem put_rpT {H : Hp} {ks : List TKey} {xs : List D} {vs : List V} {k : TKey} {d : D} {v : V} (hl : ks.length = vs.length) (h : RpA K H xs vs) (hd : Rp K H d v) :
    ∃ vs', putK (ks.zip vs) k v = (putTs ks k).zip vs' ∧ (putTs ks k).length = vs'.length ∧ RpA K H (putTx ks xs k d) vs' := by
  unfold putK putTs putTx
  rw [any_zipT hl]
  by_cases e : k ∈ ks
  · rw [decide_eq_true e, if_pos rfl, if_pos e, if_pos e]
    refine ⟨_, put_zipT hl, ?_, putTx_rp hd h⟩
    rw [List.length_map, List.length_zip, hl, Nat.min_self]
  · rw [decide_eq_false e, if_neg Bool.false_ne_true, if_neg e, if_neg e]
    refine ⟨vs ++ [v], ?_, by simp [hl], h.append (RpA.one hd)⟩
    rw [List.zip_append hl]
    rfl
theorem look_rpT {H : Hp} {k : TKey} : ∀ {ks : List TKey} {xs : List D} {vs : List V} {d : D}, RpA K H xs vs → lookT ks xs k = some d → ∃ v, valV (ks.zip vs) k = some v ∧ Rp K H d v
  | [], xs, vs, d, h, e => by simp [lookT] at e
  | _ :: _, [], vs, d, h, e => by simp [lookT] at e
  | a :: ks, x :: xs, _, d, ⟨v, r, h1, h2, h3⟩, e => by
    subst h1
    by_cases q : a = k
    · have : lookT (a :: ks) (x :: xs) k = some x := by simp [lookT, q]
      rw [this] at e
      cases e
      exact ⟨v, by rw [List.zip_cons_cons]; exact valV_pos q, h2⟩
    · have : lookT (a :: ks) (x :: xs) k = lookT ks xs k := by simp [lookT, q]
      rw [this] at e
      obtain ⟨w, h4, h5⟩ := look_rpT h3 e
      exact ⟨w, by rw [List.zip_cons_cons, valV_neg q]; exact h4, h5⟩
/-! k in d, k not in d, d[k] -/
def dDGetT (a b : DT) : DT := fun g r f Q => a g r f fun x f1 => b g r f1 fun y f2 => match x with
  | .dtt ks xs => ∃ k d, y.tkey = some k ∧ lookT ks xs k = some d ∧ Q d f2
  | _ => False
theorem de_dgetT {k : Nat} {a b : Expr} {pos : Pos} {da db : DT} (hr : Room k X.A) (ha : DE X a da) (hb : DE X b db) (hs : NoSl b := by intro _ _; rfl) : DE X (.Subscript a b pos) (dDGetT da db) :=
  .mk' (pe_dget (room1 hr) ha.pe hb.pe hs) fun g ro f st H Hs Q Q' A hq hd =>
    ha.sn g ro f st H Hs _ _ A (fun x f1 vx H1 Hs1 s1 k1 r1 q1 => hb.sn g ro f1 st H1 Hs1 _ _ (A.step s1 k1) (fun y f2 vy H2 Hs2 s2 k2 r2 q2 => by
      cases x <;> try exact q2.elim
      obtain ⟨key, d, e1, e2, q⟩ := q2
      obtain ⟨p, vs, rfl, h1, h2, h3⟩ := r1.mono s2.ext
      obtain ⟨v, h4, h5⟩ := look_rpT h3 e2
      obtain ⟨b, rfl, hb⟩ := tkey_v r2 e1
      exact ⟨p, v, rfl, h4 ▸ DGet.t (s2.sub _ _ h1) (s2.sub _ _ hb), hq d f2 v H2 Hs2 (s1.trans s2) k2 h5 q⟩) q1) hd
/-! d = {}, d[k] = e -/
end
/-! keys of two texts -/
def kPair (u : Str × Str) : TKey := [.inr u.1, .inr u.2]
theorem kPair_inj {u v : Str × Str} (h : kPair u = kPair v) : u = v := by
  unfold kPair at h
  simp only [List.cons.injEq, Sum.inr.injEq, and_true] at h
  exact Prod.ext h.1 h.2
theorem kPair_mem {u : Str × Str} {l : List (Str × Str)} : kPair u ∈ l.map kPair ↔ u ∈ l := by
  rw [List.mem_map]
  exact ⟨fun ⟨v, h1, h2⟩ => kPair_inj h2 ▸ h1, fun h => ⟨u, h, rfl⟩⟩
theorem lookT_pair {val : Str × Str → D} {u : Str × Str} : ∀ {l : List (Str × Str)}, u ∈ l → lookT (l.map kPair) (l.map val) (kPair u) = some (val u)
  | v :: l, h => by
    by_cases e : v = u
    · subst e; simp [lookT]
    · have hm : u ∈ l := by
        rcases List.mem_cons.mp h with h | h
        · exact absurd h.symm e
        · exact h
      have ih := lookT_pair (val := val) hm
      have ne : ¬ kPair v = kPair u := fun z => e (kPair_inj z)
      unfold lookT at ih ⊢
      rw [List.map_cons, List.map_cons, List.zip_cons_cons, List.find?_cons_of_neg (by simpa using ne)]
      exact ih
end DL
namespace DL
open PySem PySem.Spec PyProof.Rows L2
/-! tuple(zip(a, b)) of two tuples -/
section
variable {prog : Program} {w : World} {A : Around} {E : Value → Shared → Prop} {s : Shared} {R : Result → Shared → Prop} {z ti tz i1 i2 l1 l2 S : Addr} {xs ys : Array Value} {n : Nat}
theorem isTup_keep {h h' : Heap} {a : Addr} {its : Array Value} (hl : h.IsTuple a its) (k : ∀ o, h.get? a = some o → h'.get? a = some o) : h'.IsTuple a its := by
  obtain ⟨o, ho, r⟩ := hl
  exact ⟨o, k o ho, r⟩
def ZStT (z ti tz i1 i2 l1 l2 : Addr) (xs ys : Array Value) (h : Heap) (i : Nat) : Prop :=
  (∃ v b, ZpV h z ti tz v b ∧ Mrk v) ∧ IsPair h ti (.ref i1) (.ref i2) ∧ (∃ x y, IsPair h tz x y) ∧ h.IsTupleIter i1 l1 i ∧ h.IsTupleIter i2 l2 i ∧ h.IsTuple l1 xs ∧ h.IsTuple l2 ys
theorem ZStT.keep {h h' : Heap} {i : Nat} (st : ZStT z ti tz i1 i2 l1 l2 xs ys h i) (k : ∀ b ∈ [z, ti, tz, i1, i2, l1, l2], ∀ o, h.get? b = some o → h'.get? b = some o) : ZStT z ti tz i1 i2 l1 l2 xs ys h' i := by
  obtain ⟨⟨v, b, hz, hm⟩, hti, ⟨x, y, htz⟩, h1, h2, hl1, hl2⟩ := st
  exact ⟨⟨v, b, k z (by simp) _ hz, hm⟩, k ti (by simp) _ hti, ⟨x, y, k tz (by simp) _ htz⟩, h1.at fun o q => k i1 (by simp) o q, h2.at fun o q => k i2 (by simp) o q, isTup_keep hl1 fun o q => k l1 (by simp) o q, isTup_keep hl2 fun o q => k l2 (by simp) o q⟩
end
end DL
namespace DL
open PySem PySem.Spec PyProof.Rows L2
/-! tuple(zip(a, b)) of two lists -/
section
variable {X : Cx} {K : PySem.W.Frag} {W : WX}
/-! for .. in range(a, b, -1) -/
def downD (i : Int) (n : Nat) : List D := (List.range n).map fun (k : Nat) => D.int (i - (k : Int))
theorem walks_down {Hb : Hp} {i : Int} {n : Nat} : Walks K (Itc i (-1) n) Hb (downD i n) where
  go := fun k d H Hs s1 s2 e => by
    unfold downD at e
    rw [List.getElem?_map] at e
    by_cases hl : k < n
    · rw [List.getElem?_range hl] at e
      cases e
      refine ⟨hl, ?_⟩
      rintro x H' ⟨rfl, rfl⟩
      refine ⟨Hs, Stp.refl s2, ?_⟩
      show V.int (i + (k : Int) * (-1)) = V.int (i - (k : Int))
      rw [show i + (k : Int) * (-1) = i - (k : Int) by omega]
    · rw [List.getElem?_eq_none (by simpa using hl)] at e
      cases e
  stop := fun H s => by
    show n ≤ (downD i n).length
    unfold downD
    simp
def dRngD (t : DTA) : DTA := fun g r f Q => t g r f fun ds f1 => match ds with
  | [.int i, .int j, .int c] => c = -1 ∧ (-(2 ^ 62) ≤ i ∧ i < 2 ^ 62 ∧ -(2 ^ 62) ≤ j ∧ j < 2 ^ 62) ∧ Q (downD i (i - j).toNat) f1
  | _ => False
theorem di_rangeD {tg a b c : Expr} {d : DTA} {p pos : Pos} (hm : X.mg "range" = none) (ha : DA X [a, b, c] d) (hg : Gl X "range" := by rfl) (hs : starEach [a, b, c] X.env = (false, eval a X.env) :: starEach [b, c] X.env := by rfl)
    (hpl : (backTo pos (starEach [b, c] X.env)).any (·.1) = false := by rfl) : DI X tg (.Call (.Name "range" p) [a, b, c] [] pos) (dRngD d) :=
  .mk' (pi_range3 hg hm ha.pa hs hpl) (fun g ro f st H Hs R Q' A hq hd =>
    ha.sn g ro f st H Hs _ _ A (fun ds f1 vs H1 Hs1 s1 k1 r1 q1 => by
      split at q1
      · obtain ⟨v, vs2, rfl, h, r2⟩ := r1
        obtain ⟨w, x, rfl, h', h''⟩ := rpA2 r2
        cases h
        cases h'
        cases h''
        obtain ⟨rfl, q1⟩ := q1
        exact ⟨_, _, _, _, rfl, RgC.neg q1.1.1 q1.1.2.1 q1.1.2.2.1 q1.1.2.2.2, hq _ f1 _ H1 Hs1 s1 k1 walks_down q1.2⟩
      · exact q1.elim) hd)
/-! a, b = {k: v}, e, a cell among them: the first owns -/
/-! sorted(set(e)) is a new list -/
end
end DL
namespace DL
open PySem PySem.Spec PyProof.Rows L2
/-! ### a comprehension that walks a shared dict and reads it: the dict is locked meanwhile -/
section
variable {X : Cx} {K : PySem.W.Frag} {W : WX}
theorem DkOk.inHs {g : Option Dk} {H Hs : Hp} {f : Nat} {a : Addr} {o : HO} (h : DkOk g H Hs f) (e : Hs a = some o) : ¬ Dk.has g a := by
  cases g with
  | none => exact id
  | some k =>
    obtain ⟨_, h1, h2, h3, tb⟩ := h
    rintro (z | z | z | z)
    · rw [z, h1] at e; cases e
    · rw [z, h2] at e; cases e
    · rw [z, h3] at e; cases e
    · obtain ⟨x, hx, rfl⟩ := List.mem_map.mp z
      rw [(tb.at_ x hx).1] at e; cases e
theorem DkOk.swap {g : Option Dk} {H Hs : Hp} {f : Nat} {a : Addr} {o o' : HO} (h : DkOk g H Hs f) (e : Hs a = some o) (hc : ∀ b q, o ≠ LamX.CodeO b q) : DkOk g (upd H a o') (upd Hs a o') f := by
  have n := h.inHs e
  have h := h.mut (o := o') n
  cases g with
  | none => trivial
  | some k =>
    obtain ⟨h0, h1, h2, h3, tb⟩ := h
    refine ⟨h0, ?_, ?_, ?_, tb.to (fun x hx u h1 h2 => ⟨h1, ?_⟩) fun b u hb _ hq => ?_⟩
    · rw [upd_ne fun e => n (.inl e.symm)]; exact h1
    · rw [upd_ne fun e => n (.inr (.inl e.symm))]; exact h2
    · rw [upd_ne fun e => n (.inr (.inr (.inl e.symm)))]; exact h3
    · rw [upd_ne fun z => n (.inr (.inr (.inr (by rw [← z]; exact hx))))]; exact h2
    · have : b ≠ a := fun z => by
        rw [z, e] at hb
        cases hb
        obtain ⟨q, rfl⟩ := hq
        exact hc _ _ rfl
      rw [upd_ne this]; exact hb
/-- the locked dict at a, the key's tuple at q -/
structure LkI where
  a : Addr
  q : Addr
  ks : List (List Key)
  xs : List D
  p : Str × Str
def CLk (K : PySem.W.Frag) (κ : LkI) (g : Option Dk) (H Hs : Hp) : Prop := (∃ od us, Hs κ.a = some (.frz od (.dT (κ.ks.zip us))) ∧ RpA K Hs κ.xs us) ∧ H κ.q = some (.tup [.str κ.p.1, .str κ.p.2]) ∧ ¬ Dk.has g κ.q
theorem CLk.step {κ : LkI} {g : Option Dk} {H Hs H' Hs' : Hp} (h : CLk K κ g H Hs) (s : Stp g H Hs H' Hs') : CLk K κ g H' Hs' := by
  obtain ⟨⟨od, us, h1, h2⟩, h3, h4⟩ := h
  exact ⟨⟨od, us, s.ext _ _ h1, h2.mono s.ext⟩, s.keep _ _ h3 h4, h4⟩
def SndLk (K : PySem.W.Frag) (t : TE) (dl : LkI → DT) : Prop := ∀ (κ : LkI) (g : Option Dk) (r : Sg) (f : Nat) (st : L2.St) (H Hs : Hp) (Q : VK) (Q' : QD), At K g r f st H Hs → CLk K κ g H Hs →
  (∀ d f' v H' Hs', Stp g H Hs H' Hs' → DkOk g H' Hs' f' → Rp K Hs' d v → Q' d f' → Q v H') → dl κ g r f Q' → t st H Q
def SndLkA (K : PySem.W.Frag) (t : TA) (dl : LkI → DTA) : Prop := ∀ (κ : LkI) (g : Option Dk) (r : Sg) (f : Nat) (st : L2.St) (H Hs : Hp) (Q : List V → Hp → Prop) (Q' : List D → Nat → Prop), At K g r f st H Hs → CLk K κ g H Hs →
  (∀ ds f' vs H' Hs', Stp g H Hs H' Hs' → DkOk g H' Hs' f' → RpA K Hs' ds vs → Q' ds f' → Q vs H') → dl κ g r f Q' → t st H Q
def SndLkT (K : PySem.W.Frag) (t : TT) (dl : LkI → DTT) : Prop := ∀ (κ : LkI) (g : Option Dk) (r : Sg) (f : Nat) (st : L2.St) (H Hs : Hp) (Q : Bool → Hp → Prop) (Q' : Bool → Nat → Prop), At K g r f st H Hs → CLk K κ g H Hs →
  (∀ b f' H' Hs', Stp g H Hs H' Hs' → DkOk g H' Hs' f' → Q' b f' → Q b H') → dl κ g r f Q' → t st H Q
/-! the comprehension -/
/-! as expressions -/
def tOfLk (K : PySem.W.Frag) (dl : LkI → DT) : TE := fun st H Q => ∃ κ g r f Hs Q', At K g r f st H Hs ∧ CLk K κ g H Hs ∧ (∀ d f' v H' Hs', Stp g H Hs H' Hs' → DkOk g H' Hs' f' → Rp K Hs' d v → Q' d f' → Q v H') ∧ dl κ g r f Q'
def tOfLkA (K : PySem.W.Frag) (dl : LkI → DTA) : TA := fun st H Q => ∃ κ g r f Hs Q', At K g r f st H Hs ∧ CLk K κ g H Hs ∧ (∀ ds f' vs H' Hs', Stp g H Hs H' Hs' → DkOk g H' Hs' f' → RpA K Hs' ds vs → Q' ds f' → Q vs H') ∧ dl κ g r f Q'
def tOfLkT (K : PySem.W.Frag) (dl : LkI → DTT) : TT := fun st H Q => ∃ κ g r f Hs Q', At K g r f st H Hs ∧ CLk K κ g H Hs ∧ (∀ b f' H' Hs', Stp g H Hs H' Hs' → DkOk g H' Hs' f' → Q' b f' → Q b H') ∧ dl κ g r f Q'
structure DEk (X : Cx) (e : Expr) (dl : LkI → DT) : Prop where
  pe : PE X e (tOfLk X.K dl)
structure DAk (X : Cx) (es : List Expr) (dl : LkI → DTA) : Prop where
  pa : PA X es (tOfLkA X.K dl)
structure DTk (X : Cx) (ifs : List Expr) (dl : LkI → DTT) : Prop where
  pt : PTs X ifs (tOfLkT X.K dl)
theorem DEk.sn {e : Expr} {dl : LkI → DT} (_ : DEk X e dl) : SndLk X.K (tOfLk X.K dl) dl := fun κ g r f st H Hs Q Q' A C hq hd => ⟨κ, g, r, f, Hs, Q', A, C, hq, hd⟩
theorem DAk.sn {es : List Expr} {dl : LkI → DTA} (_ : DAk X es dl) : SndLkA X.K (tOfLkA X.K dl) dl := fun κ g r f st H Hs Q Q' A C hq hd => ⟨κ, g, r, f, Hs, Q', A, C, hq, hd⟩
theorem DTk.sn {ifs : List Expr} {dl : LkI → DTT} (_ : DTk X ifs dl) : SndLkT X.K (tOfLkT X.K dl) dl := fun κ g r f st H Hs Q Q' A C hq hd => ⟨κ, g, r, f, Hs, Q', A, C, hq, hd⟩
theorem DEk.mk' {e : Expr} {t : TE} {dl : LkI → DT} (p : PE X e t) (s : SndLk X.K t dl) : DEk X e dl := ⟨⟨fun pins sh st H Q I ⟨κ, g, r, f, Hs, Q', A, C, hq, hd⟩ => p.run pins sh st H Q I (s κ g r f st H Hs Q Q' A C hq hd)⟩⟩
theorem DAk.mk' {es : List Expr} {t : TA} {dl : LkI → DTA} (p : PA X es t) (s : SndLkA X.K t dl) : DAk X es dl := ⟨⟨fun pos pins sh st H Q I ⟨κ, g, r, f, Hs, Q', A, C, hq, hd⟩ => p.run pos pins sh st H Q I (s κ g r f st H Hs Q Q' A C hq hd)⟩⟩
theorem DTk.mk' {ifs : List Expr} {t : TT} {dl : LkI → DTT} (p : PTs X ifs t) (s : SndLkT X.K t dl) : DTk X ifs dl := ⟨⟨fun pins sh st H Q I ⟨κ, g, r, f, Hs, Q', A, C, hq, hd⟩ => p.run pins sh st H Q I (s κ g r f st H Hs Q Q' A C hq hd)⟩⟩
/-! the same with texts as keys -/
/-- the locked dict at a -/
structure LkIJ where
  a : Addr
  ks : List Key
  xs : List D
  p : Str
def CLkJ (K : PySem.W.Frag) (κ : LkIJ) (g : Option Dk) (H Hs : Hp) : Prop := ∃ od us, Hs κ.a = some (.frz od (.dK (κ.ks.zip us))) ∧ RpA K Hs κ.xs us
theorem CLkJ.step {κ : LkIJ} {g : Option Dk} {H Hs H' Hs' : Hp} (h : CLkJ K κ g H Hs) (s : Stp g H Hs H' Hs') : CLkJ K κ g H' Hs' := by
  obtain ⟨od, us, h1, h2⟩ := h
  exact ⟨od, us, s.ext _ _ h1, h2.mono s.ext⟩
def SndLkJ (K : PySem.W.Frag) (t : TE) (dl : LkIJ → DT) : Prop := ∀ (κ : LkIJ) (g : Option Dk) (r : Sg) (f : Nat) (st : L2.St) (H Hs : Hp) (Q : VK) (Q' : QD), At K g r f st H Hs → CLkJ K κ g H Hs →
  (∀ d f' v H' Hs', Stp g H Hs H' Hs' → DkOk g H' Hs' f' → Rp K Hs' d v → Q' d f' → Q v H') → dl κ g r f Q' → t st H Q
def SndLkTJ (K : PySem.W.Frag) (t : TT) (dl : LkIJ → DTT) : Prop := ∀ (κ : LkIJ) (g : Option Dk) (r : Sg) (f : Nat) (st : L2.St) (H Hs : Hp) (Q : Bool → Hp → Prop) (Q' : Bool → Nat → Prop), At K g r f st H Hs → CLkJ K κ g H Hs →
  (∀ b f' H' Hs', Stp g H Hs H' Hs' → DkOk g H' Hs' f' → Q' b f' → Q b H') → dl κ g r f Q' → t st H Q
/-! the comprehension -/
/-! as expressions -/
def tOfLkJ (K : PySem.W.Frag) (dl : LkIJ → DT) : TE := fun st H Q => ∃ κ g r f Hs Q', At K g r f st H Hs ∧ CLkJ K κ g H Hs ∧ (∀ d f' v H' Hs', Stp g H Hs H' Hs' → DkOk g H' Hs' f' → Rp K Hs' d v → Q' d f' → Q v H') ∧ dl κ g r f Q'
def tOfLkTJ (K : PySem.W.Frag) (dl : LkIJ → DTT) : TT := fun st H Q => ∃ κ g r f Hs Q', At K g r f st H Hs ∧ CLkJ K κ g H Hs ∧ (∀ b f' H' Hs', Stp g H Hs H' Hs' → DkOk g H' Hs' f' → Q' b f' → Q b H') ∧ dl κ g r f Q'
structure DEkJ (X : Cx) (e : Expr) (dl : LkIJ → DT) : Prop where
  pe : PE X e (tOfLkJ X.K dl)
structure DTkJ (X : Cx) (ifs : List Expr) (dl : LkIJ → DTT) : Prop where
  pt : PTs X ifs (tOfLkTJ X.K dl)
theorem DEkJ.sn {e : Expr} {dl : LkIJ → DT} (_ : DEkJ X e dl) : SndLkJ X.K (tOfLkJ X.K dl) dl := fun κ g r f st H Hs Q Q' A C hq hd => ⟨κ, g, r, f, Hs, Q', A, C, hq, hd⟩
theorem DTkJ.sn {ifs : List Expr} {dl : LkIJ → DTT} (_ : DTkJ X ifs dl) : SndLkTJ X.K (tOfLkTJ X.K dl) dl := fun κ g r f st H Hs Q Q' A C hq hd => ⟨κ, g, r, f, Hs, Q', A, C, hq, hd⟩
theorem DEkJ.mk' {e : Expr} {t : TE} {dl : LkIJ → DT} (p : PE X e t) (s : SndLkJ X.K t dl) : DEkJ X e dl := ⟨⟨fun pins sh st H Q I ⟨κ, g, r, f, Hs, Q', A, C, hq, hd⟩ => p.run pins sh st H Q I (s κ g r f st H Hs Q Q' A C hq hd)⟩⟩
theorem DTkJ.mk' {ifs : List Expr} {t : TT} {dl : LkIJ → DTT} (p : PTs X ifs t) (s : SndLkTJ X.K t dl) : DTkJ X ifs dl := ⟨⟨fun pins sh st H Q I ⟨κ, g, r, f, Hs, Q', A, C, hq, hd⟩ => p.run pins sh st H Q I (s κ g r f st H Hs Q Q' A C hq hd)⟩⟩
/-! a, b = e, {} and a, b = {}, e: the dict is owned (tuple keys in the second) -/
end
end DL
namespace DL
open PySem PySem.Spec PyProof.Rows L2
/-! dicts whose keys are tuples of pairs of texts, all values True -/
theorem zip_snd {α β : Type} : ∀ {l : List α} {m : List β}, l.length = m.length → (l.zip m).map (·.2) = m
  | [], [], _ => rfl
  | [], y :: m, h => by cases h
  | x :: l, [], h => by cases h
  | x :: l, y :: m, h => by
    rw [List.zip_cons_cons, List.map_cons, zip_snd (Nat.succ.inj h)]
end DL
namespace DL
open PySem PySem.Spec PyProof.Rows L2
/-! dict comprehensions with two generators, keys tuples -/
theorem dT_set {X : Cx} {pins : List (Addr × Obj)} {σ : L2.St} {H H' : Hp} {s : Shared} {a : Addr} {y v : V} {u r : Value} {A : Around} {E : Value → Shared → Prop} {Q : Unit → Shared → Prop} (hu : A.units + 1 < cLine) (I : Inv X pins σ H s) (g : DPut H a y v H') (hT : ∃ ks, H a = some (.dT ks)) (ry : RelV y u) (rv : RelV v r) (nx : ∀ s', Inv X pins σ H' s' → Q () s') :
    wpAny (model X.prog X.w) A (dictSet a u r) Q E s := by
  rcases g with ⟨kvs, k, e, _⟩ | ⟨kvs, k, b, eT, ey, eb, l, eH⟩
  · obtain ⟨ks, hk⟩ := hT
    rw [hk] at e
    cases e
  · subst ey eH
    cases (show u = Value.ref b from ry)
    obtain ⟨lim0, hdic, prs, rl, dd⟩ := dt_of I.hok eT
    have hb1 : prs.length ≤ sizeLine := by rw [← Paired.length rl]; exact lim0
    have hb2 : (putK kvs k v).length ≤ sizeLine := by have := length_putK kvs k v; omega
    refine wpAny_dictSet_heap (hsz := hb1) (Nat.lt_of_succ_lt hu) (key_of I.hok eb) dd fun h' dd' same' => nx _ ?_
    obtain ⟨q, es, ep, hq, z2, z3, z4, _, z5⟩ := dd'
    refine d_write I (by rw [eT]; exact True.intro) same' ⟨q, hq⟩ ⟨hb2, hdic, _, (rl.put k eb rv).keeps fun c ys ec => ?_, q, es, ep, hq, z2, z3, z4, z5⟩
    rw [upd_ne (ne_of ec eT (fun z => nomatch z))]
    exact ec
theorem dcTurn_out (kx vx t0 i0 t1 i1 : Expr) (js0 js1 : List Expr) (sc : Scope) (ps0 : Pos) (it : Value) (acc : Addr) (en : Env) :
    compTurn (.DictComp kx vx [⟨t0, i0, js0, 0⟩, ⟨t1, i1, js1, 0⟩] sc ps0) 0 it (.ref acc) en = (do
      standAt i0.pos
      match ← pyNext it with
      | none => pure (.done .next)
      | some v =>
        letOwnedTupleGo t0 it v
        assign t0 en v
        let mut ok := true
        for c in js0 do
          if ok then ok ← isTrue c en (eval c en)
        if ok then
          let x ← eval i1 en
          standAt i1.pos
          let x ← foldedSetIterable i1 en x
          let _ ← runOwn (.compStart (.DictComp kx vx [⟨t0, i0, js0, 0⟩, ⟨t1, i1, js1, 0⟩] sc ps0) 1 (← holding [x] (pyIter x)) (.ref acc) en) en
        again (.compLoop (.DictComp kx vx [⟨t0, i0, js0, 0⟩, ⟨t1, i1, js1, 0⟩] sc ps0) 0 it (.ref acc) en)) := by rfl
theorem dcTurn_in (kx vx t0 i0 t1 i1 : Expr) (js0 js1 : List Expr) (sc : Scope) (ps0 : Pos) (it : Value) (acc : Addr) (en : Env) :
    compTurn (.DictComp kx vx [⟨t0, i0, js0, 0⟩, ⟨t1, i1, js1, 0⟩] sc ps0) 1 it (.ref acc) en = (do
      standAt i1.pos
      match ← pyNext it with
      | none => pure (.done .next)
      | some v =>
        letOwnedTupleGo t1 it v
        assign t1 en v
        let mut ok := true
        for c in js1 do
          if ok then ok ← isTrue c en (eval c en)
        if ok then
          (do
            let kv ← eval kx en
            let vv ← holding [kv] (eval vx en)
            standAt { kx.pos with endLine := vx.pos.endLine, endCol := vx.pos.endCol }
            holding [kv, vv] (dictSet acc kv vv))
        again (.compLoop (.DictComp kx vx [⟨t0, i0, js0, 0⟩, ⟨t1, i1, js1, 0⟩] sc ps0) 1 it (.ref acc) en)) := by rfl
section
variable {pg0 : Program} {wd : World} {A : Around} {R : Result → Shared → Prop} {s : Shared} {kx vx t0 i0 t1 i1 : Expr} {js0 js1 : List Expr} {sc : Scope} {ps0 : Pos} {it : Value} {acc : Addr} {en : Env}
theorem dcLoop_out (hs : ∀ x, foldedSetIterable i1 en x = pure x) (I : Nat → Shared → Prop)
    (go_ : ∀ n s, I n s → wpAny (model pg0 wd) A (pyNext it) (fun r z₁ => match r with
      | none => R (.ok .next) z₁
      | some v => wpAny (model pg0 wd) A (letOwnedTupleGo t0 it v) (fun _ s₁' => wpAny (model pg0 wd) A (assign t0 en v) (fun _ z₂ =>
          wpAny (model pg0 wd) A (forIn js0 true fun c r => if r = true then do let ok ← isTrue c en (eval c en); pure (ForInStep.yield ok) else pure (ForInStep.yield r)) (fun ok z₃ =>
            if ok = true then wpAny (model pg0 wd) A (eval i1 en) (fun x s₄ => wpAny (model pg0 wd) A (pyIter x) (fun jt1 s₅ =>
              codeAny (model pg0 wd) A (.compStart (.DictComp kx vx [⟨t0, i0, js0, 0⟩, ⟨t1, i1, js1, 0⟩] sc ps0) 1 jt1 (.ref acc) en) (fun r s' => match r with
                | .ok _ => ∃ m, m < n ∧ I m s'
                | .error _ => False) s₅) (notedBy (model pg0 wd) A en fun e s' => R (.error e) s') s₄) (notedBy (model pg0 wd) A en fun e s' => R (.error e) s') z₃
            else ∃ m, m < n ∧ I m z₃) (notedBy (model pg0 wd) A en fun e s' => R (.error e) s') z₂) (notedBy (model pg0 wd) A en fun e s' => R (.error e) s') s₁') (notedBy (model pg0 wd) A en fun e s' => R (.error e) s') z₁) (notedBy (model pg0 wd) A en fun e s' => R (.error e) s') s)
    (n : Nat) (h : I n s) :
    codeAny (model pg0 wd) A (.compLoop (.DictComp kx vx [⟨t0, i0, js0, 0⟩, ⟨t1, i1, js1, 0⟩] sc ps0) 0 it (.ref acc) en) R s := by
  refine codeAny_loop rfl I (fun n s hI => ?_) n h
  show wpAny _ A ((compTurn (.DictComp kx vx [⟨t0, i0, js0, 0⟩, ⟨t1, i1, js1, 0⟩] sc ps0) 0 it (.ref acc) en).onRaise (fun x => do noteFrame x en; theTreesLotGoes x)) _ _ s
  refine wpAny_noted ?_
  rw [dcTurn_out]
  refine wpAny_bind (wpAny_standAt (wpAny_bind (wpAny_mono (go_ n s hI) (fun r z₁ k₁ => ?_) fun _ _ h' => h')))
  cases r with
  | none => exact wpAny_pure k₁
  | some v =>
    refine wpAny_bind (wpAny_mono k₁ (fun _ s₁' h₁' => ?_) fun _ _ h' => h')
    refine wpAny_bind (wpAny_mono h₁' (fun _ z₂ h₂ => wpAny_bind (wpAny_mono h₂ (fun ok z₃ k₃ => ?_) fun _ _ h' => h')) fun _ _ h' => h')
    cases ok with
    | false => exact wpAny_pure ⟨rfl, k₃⟩
    | true =>
      refine wpAny_bind (wpAny_mono k₃ (fun x s₄ h₄ => ?_) fun _ _ h' => h')
      refine wpAny_bind (wpAny_standAt (wpAny_bind (wpAny_of_eq (hs x) (wpAny_bind (wpAny_holding (wpAny_mono h₄ (fun jt1 s₅ h₅ => ?_) fun _ _ h' => h'))))))
      refine wpAny_bind (wpAny_runOwn ?_)
      rw [Around.mark_none]
      refine codeAny_mono h₅ fun r s' hr => ?_
      cases r with
      | ok f =>
        first
          | exact wpAny_pure ⟨rfl, hr⟩
          | exact wpAny_bind (wpAny_pure (wpAny_pure ⟨rfl, hr⟩))
      | error e => exact hr.elim
theorem dcLoop_in (I : Nat → Shared → Prop)
    (go_ : ∀ n s, I n s → wpAny (model pg0 wd) A (pyNext it) (fun r z₁ => match r with
      | none => R (.ok .next) z₁
      | some v => wpAny (model pg0 wd) A (letOwnedTupleGo t1 it v) (fun _ s₁' => wpAny (model pg0 wd) A (assign t1 en v) (fun _ z₂ =>
          wpAny (model pg0 wd) A (forIn js1 true fun c r => if r = true then do let ok ← isTrue c en (eval c en); pure (ForInStep.yield ok) else pure (ForInStep.yield r)) (fun ok z₃ =>
            if ok = true then wpAny (model pg0 wd) A (eval kx en) (fun kv s₄ => wpAny (model pg0 wd) A (eval vx en) (fun vv s₅ =>
              wpAny (model pg0 wd) A (dictSet acc kv vv) (fun _ s₆ => ∃ m, m < n ∧ I m s₆) (notedBy (model pg0 wd) A en fun e s' => R (.error e) s') s₅) (notedBy (model pg0 wd) A en fun e s' => R (.error e) s') s₄) (notedBy (model pg0 wd) A en fun e s' => R (.error e) s') z₃
            else ∃ m, m < n ∧ I m z₃) (notedBy (model pg0 wd) A en fun e s' => R (.error e) s') z₂) (notedBy (model pg0 wd) A en fun e s' => R (.error e) s') s₁') (notedBy (model pg0 wd) A en fun e s' => R (.error e) s') z₁) (notedBy (model pg0 wd) A en fun e s' => R (.error e) s') s)
    (n : Nat) (h : I n s) :
    codeAny (model pg0 wd) A (.compLoop (.DictComp kx vx [⟨t0, i0, js0, 0⟩, ⟨t1, i1, js1, 0⟩] sc ps0) 1 it (.ref acc) en) R s := by
  refine codeAny_loop rfl I (fun n s hI => ?_) n h
  show wpAny _ A ((compTurn (.DictComp kx vx [⟨t0, i0, js0, 0⟩, ⟨t1, i1, js1, 0⟩] sc ps0) 1 it (.ref acc) en).onRaise (fun x => do noteFrame x en; theTreesLotGoes x)) _ _ s
  refine wpAny_noted ?_
  rw [dcTurn_in]
  refine wpAny_bind (wpAny_standAt (wpAny_bind (wpAny_mono (go_ n s hI) (fun r z₁ k₁ => ?_) fun _ _ h' => h')))
  cases r with
  | none => exact wpAny_pure k₁
  | some v =>
    refine wpAny_bind (wpAny_mono k₁ (fun _ s₁' h₁' => ?_) fun _ _ h' => h')
    refine wpAny_bind (wpAny_mono h₁' (fun _ z₂ h₂ => wpAny_bind (wpAny_mono h₂ (fun ok z₃ k₃ => ?_) fun _ _ h' => h')) fun _ _ h' => h')
    cases ok with
    | false => exact wpAny_pure ⟨rfl, k₃⟩
    | true =>
      exact wpAny_bind (wpAny_bind (wpAny_mono k₃ (fun kv s₄ h₄ => wpAny_bind (wpAny_holding (wpAny_mono h₄ (fun vv s₅ h₅ => wpAny_bind (wpAny_standAt (wpAny_holding (wpAny_mono h₅ (fun _ s₆ h₆ => wpAny_pure ⟨rfl, h₆⟩) fun _ _ h' => h')))) fun _ _ h' => h'))) fun _ _ h' => h'))
theorem dcStart1 (h0 : codeAny (model pg0 wd) A (.compLoop (.DictComp kx vx [⟨t0, i0, js0, 0⟩, ⟨t1, i1, js1, 0⟩] sc ps0) 1 it (.ref acc) en) R s)
    (h : wpAny (model pg0 wd) A (pyIter it) (fun it' s' => codeAny (model pg0 wd) A (.compLoop (.DictComp kx vx [⟨t0, i0, js0, 0⟩, ⟨t1, i1, js1, 0⟩] sc ps0) 1 it' (.ref acc) en) R s')
      (notedBy (model pg0 wd) A en fun x s' => R (.error x) s') s) :
    codeAny (model pg0 wd) A (.compStart (.DictComp kx vx [⟨t0, i0, js0, 0⟩, ⟨t1, i1, js1, 0⟩] sc ps0) 1 it (.ref acc) en) R s := by
  refine codeAny_of_tree ?_
  show wpAny _ _ ((compStart (.DictComp kx vx [⟨t0, i0, js0, 0⟩, ⟨t1, i1, js1, 0⟩] sc ps0) 1 it (.ref acc) en).onRaise (fun x => do noteFrame x en; standAt theWindowsPlace)) _ _ s
  refine wpAny_notedAt ?_
  unfold compStart
  show wpAny _ _ (ask >>= _) _ _ s
  refine wpAny_bind (wpAny_askSetting (wpAny_ite ?_))
  split
  · first
      | exact wpAny_bind (wpAny_pure (wpAny_pure (And.intro rfl h0)))
      | exact wpAny_pure (And.intro rfl h0)
  · first
      | exact wpAny_bind (wpAny_rule (wpAny_bind (wpAny_standAt (wpAny_bind (wpAny_mono h (fun it' s' h' => wpAny_pure (And.intro rfl h')) fun _ _ x => x)))))
      | (refine wpAny_bind (wpAny_rule ?_); show wpAny _ _ (standAt i1.pos >>= _) _ _ s; exact wpAny_bind (wpAny_standAt (wpAny_bind (wpAny_mono h (fun it' s' h' => wpAny_pure (And.intro rfl h')) fun _ _ x => x))))
end
section
variable {Y : Cx}
def tDcT2 (wi : TI) (g : TG) (tt : TT) (wi1 : TI) (g1 : TG) (tt1 : TT) (tk tv : TE) (vs vs1 : List Nat) : TE := fun σ H Q => wi σ H fun J H1 => ∀ D, H1 D = none → ∃ W : Nat → Nat → Hp → Prop, (∃ m, W 0 m (upd H1 D (.dT []))) ∧ ∀ i m H, W i m H →
  (J.stop i H ∧ Q (.ref D) H) ∨ (J.go i H ∧ ∃ Nx : Hp → Prop, (∀ H', Nx H' → ∃ m', m' < m ∧ W (i + 1) m' H') ∧ ∀ x H', J.yld i H x H' → g x (wipe σ vs) H' fun σ2 H2 => wipe σ2 vs = wipe σ vs ∧ tt σ2 H2 fun b G3 =>
    if b = true then wi1 σ2 G3 fun Jb H4 => ∃ Wb : Nat → Nat → Hp → Prop, (∃ m, Wb 0 m H4) ∧ ∀ j k H, Wb j k H →
      (Jb.stop j H ∧ Nx H) ∨ (Jb.go j H ∧ ∃ Nx1 : Hp → Prop, (∀ H', Nx1 H' → ∃ k', k' < k ∧ Wb (j + 1) k' H') ∧ ∀ x H', Jb.yld j H x H' → g1 x (wipe σ2 vs1) H' fun σ3 H5 => wipe σ3 vs1 = wipe σ2 vs1 ∧ tt1 σ3 H5 fun b H6 =>
        if b = true then tk σ3 H6 fun y H7 => tv σ3 H7 fun z H8 => ∃ H9, DPut H8 D y z H9 ∧ (∃ ks, H8 D = some (.dT ks)) ∧ Nx1 H9 else Nx1 H6)
    else Nx G3)
theorem dcT_core {pins : List (Addr × Obj)} {s : Shared} {σ : L2.St} {H : Hp} {Q : VK} {kx vx tg iter tg1 iter1 : Expr} {ifs js1 : List Expr} {sc : Scope} {ow : List (Str × Nat)} {vs1 : List Nat} {ps0 pos' : Pos} {wi wi1 : TI} {g g1 : TG} {tt tt1 : TT} {tk tv : TE} {use : Option (Value → Sem Unit)} {Qf : Value → Shared → Prop}
    (hrm : Y.A.units + 1 < cLine) (hc : Y.calm = true) (hN : Y.N.Nodup) (I : Inv Y pins σ H s) (hi : PI Y tg iter wi) (ok : BlkOk Y.N Y.env.scope sc ow) (hv : ∀ i ∈ vs1, i ∈ ow.map (·.2))
    (hg : ∀ (s : Shared) (H : Hp) (C : Addr) (cl : List (Str × Addr)) (fq : List Addr), PG (Y.blk s H sc (compEnvC sc cl C Y.env) fq) tg g) (ht : ∀ (s : Shared) (H : Hp) (C : Addr) (cl : List (Str × Addr)) (fq : List Addr), PTs (Y.blk s H sc (compEnvC sc cl C Y.env) fq) ifs tt)
    (hk : ∀ (s : Shared) (H : Hp) (C : Addr) (cl : List (Str × Addr)) (fq : List Addr), PE (Y.blk s H sc (compEnvC sc cl C Y.env) fq) kx tk)
    (he : ∀ (s : Shared) (H : Hp) (C : Addr) (cl : List (Str × Addr)) (fq : List Addr), PE (Y.blk s H sc (compEnvC sc cl C Y.env) fq) vx tv) (hs : ∀ x, foldedSetIterable iter Y.env x = pure x)
    (hi1 : ∀ (s : Shared) (H : Hp) (C : Addr) (cl : List (Str × Addr)) (fq : List Addr), PI (Y.blk s H sc (compEnvC sc cl C Y.env) fq) tg1 iter1 wi1)
    (hg1 : ∀ (s : Shared) (H : Hp) (C : Addr) (cl : List (Str × Addr)) (fq : List Addr), PG (Y.blk s H sc (compEnvC sc cl C Y.env) fq) tg1 g1)
    (ht1 : ∀ (s : Shared) (H : Hp) (C : Addr) (cl : List (Str × Addr)) (fq : List Addr), PTs (Y.blk s H sc (compEnvC sc cl C Y.env) fq) js1 tt1)
    (hs1 : ∀ en x, foldedSetIterable iter1 en x = pure x)
    (h : tDcT2 wi g tt wi1 g1 tt1 tk tv (ow.map (·.2)) vs1 σ H Q)
    (hRR : ∀ D C s' m H', Inv Y pins σ H' s' → Q (.ref D) H' → s'.heap.Ns C m → FpOk Y pins H' C → compPost (model Y.prog Y.w) Y.A Y.xe use Qf (.ref D) C (.ok .next) s') :
    wpAny (model Y.prog Y.w) Y.A (comprehension (.DictComp kx vx [⟨tg, iter, ifs, 0⟩, ⟨tg1, iter1, js1, 0⟩] sc ps0) sc Y.env pos' (newDict) false (eval iter Y.env) use) Qf Y.xe s := by
  have hfree : ∀ y ∈ sc.names, y.2 = .free → ∃ c, Y.env.cells.lookup y.1 = some c := fun y hy e => by
    rcases ok.free y hy e with k | k
    · exact I.ok.has _ (.inl k)
    · exact I.ok.has _ (.inr k)
  refine wpAny_comprehension_free (use := use) rfl hs (closure_ok hfree) ok.kind (fun y hy e => by rw [ok.uniq y hy, e])
    (thn (hi.run pins s σ H _ I h) fun xv s1 hx => thn hx fun itv s2 h2 => ?_)
  obtain ⟨it, fq, tn, J, H2, e, I2, T, st2, f2, q⟩ := h2
  subst e
  refine wpAny_newObj_type (newEnv_comp ?_)
  generalize hD : s2.heap.objs.size = D
  have hDn : H2 D = none := I2.hok.fresh (Nat.le_of_eq hD)
  obtain ⟨W, ⟨m0, w0⟩, go_⟩ := q D hDn
  -- the new list
  generalize hs3 : ({ s2 with heap := s2.heap.push { cls := .type "dict", data := .dict #[] } } : Shared) = z3
  have J3 : Inv Y pins σ (upd H2 D (.dT [])) z3 := by
    rw [← hs3]
    refine I2.laid (t' := s2.toks) (fun b o e => Heap.get?_push_of_some _ e) (Nat.le_of_eq hD) ?_
    rw [← hD]
    exact dt_empty s2.heap I2.big
  have h3 : z3.heap = s2.heap.push { cls := .type "dict", data := .dict #[] } := by rw [← hs3]
  have sz : ∀ b ∈ fq, b < s2.heap.objs.size := fun b hb => by
    obtain ⟨o, e, _⟩ := T.obj _ _ st2 b hb
    exact Heap.lt_size e
  have f3 : ∀ b ∈ fq, FpOk Y pins (upd H2 D (.dT [])) b ∧ b < z3.heap.objs.size := fun b hb => by
    have hlt := sz b hb
    refine ⟨⟨?_, (f2 b hb).2⟩, by rw [h3, Heap.size_push]; exact Nat.lt_succ_of_lt hlt⟩
    rw [upd_ne (by rw [← hD]; exact Nat.ne_of_lt hlt)]
    exact (f2 b hb).1
  have st3 : tn 0 z3.heap := T.keep _ _ _ st2 fun b _ o e => by rw [h3]; exact Heap.get?_push_of_some _ e
  have I4 := block_start J3 ok hN f3
  have pg := hg z3 (upd H2 D (.dT [])) z3.heap.objs.size (cellsFrom (z3.heap.objs.size + 1) sc.names (cloFrom Y.env.cells sc.names [])) fq
  have pt := ht z3 (upd H2 D (.dT [])) z3.heap.objs.size (cellsFrom (z3.heap.objs.size + 1) sc.names (cloFrom Y.env.cells sc.names [])) fq
  have pk := hk z3 (upd H2 D (.dT [])) z3.heap.objs.size (cellsFrom (z3.heap.objs.size + 1) sc.names (cloFrom Y.env.cells sc.names [])) fq
  have pe := he z3 (upd H2 D (.dT [])) z3.heap.objs.size (cellsFrom (z3.heap.objs.size + 1) sc.names (cloFrom Y.env.cells sc.names [])) fq
  have pi1 := hi1 z3 (upd H2 D (.dT [])) z3.heap.objs.size (cellsFrom (z3.heap.objs.size + 1) sc.names (cloFrom Y.env.cells sc.names [])) fq
  have pg1 := hg1 z3 (upd H2 D (.dT [])) z3.heap.objs.size (cellsFrom (z3.heap.objs.size + 1) sc.names (cloFrom Y.env.cells sc.names [])) fq
  have pt1 := ht1 z3 (upd H2 D (.dT [])) z3.heap.objs.size (cellsFrom (z3.heap.objs.size + 1) sc.names (cloFrom Y.env.cells sc.names [])) fq
  show codeAny _ _ (.compStart (.DictComp kx vx [⟨tg, iter, ifs, 0⟩, ⟨tg1, iter1, js1, 0⟩] sc ps0) 0 (.ref it) (.ref D) (compEnvC sc (cellsFrom (z3.heap.objs.size + 1) sc.names (cloFrom Y.env.cells sc.names [])) z3.heap.objs.size Y.env)) (compPost (model Y.prog Y.w) Y.A Y.xe use Qf (.ref D) z3.heap.objs.size) { z3 with heap := pushCells (z3.heap.push { cls := .type "dict", data := .dict #[] }) sc.names }
  have nfp : ∀ b ∈ fq, (upd H2 D (.dT [])) b = none := fun b hb => (f3 b hb).1.1
  generalize hce : compEnvC sc (cellsFrom (z3.heap.objs.size + 1) sc.names (cloFrom Y.env.cells sc.names [])) z3.heap.objs.size Y.env = ce at I4 pg pt pk pe pi1 pg1 pt1 ⊢
  have cL : ce.locals = z3.heap.objs.size := by subst hce; rfl
  generalize hH3 : upd H2 D (.dT []) = G3 at J3 I4 pg pt pk pe pi1 pg1 pt1 w0 nfp f3
  generalize hs4 : ({ z3 with heap := pushCells (z3.heap.push { cls := .type "dict", data := .dict #[] }) sc.names } : Shared) = z4 at I4 ⊢
  have st4 : tn 0 z4.heap := T.keep _ _ _ st3 fun b _ o e => by rw [← hs4]; exact pushCells_keeps _ _ _ _ (Heap.get?_push_of_some _ e)
  have stat : ∀ {σ' : L2.St} {H' : Hp} {s' : Shared}, Inv (Y.blk z3 G3 sc ce fq) [] σ' H' s' → (∀ b ∈ fq, H' b = none) → ∀ b ∈ fq, FpOk (Y.blk z3 G3 sc ce fq) [] H' b := fun {σ' H' s'} I' hn b hb =>
    ⟨hn b hb, (I'.ok.exf b hb).1, I'.ok.exfs b hb, .inl hb, fun x c e => (I'.ok.exf b hb).2 x c e, fun p hp => absurd (show p ∈ ([] : List (Addr × Obj)) ++ [] from hp) (by simp)⟩
  have loop : codeAny (model Y.prog Y.w) Y.A (.compLoop (.DictComp kx vx [⟨tg, iter, ifs, 0⟩, ⟨tg1, iter1, js1, 0⟩] sc ps0) 0 (.ref it) (.ref D) ce) (compPost (model Y.prog Y.w) Y.A Y.xe use Qf (.ref D) z3.heap.objs.size) z4 := by
    refine dcLoop_out (hs1 ce) (fun n s' => ∃ i H', Inv (Y.blk z3 G3 sc ce fq) [] (wipe σ (ow.map (·.2))) H' s' ∧ tn i s'.heap ∧ (∀ b ∈ fq, H' b = none) ∧ W i n H') ?_ m0 ⟨0, G3, I4, st4, nfp, w0⟩
    rintro n s5 ⟨i, H5, I5, st5, n5, w5⟩
    rcases go_ i n H5 w5 with ⟨stop, qq⟩ | ⟨go, Nx, hNx, step⟩
    · have td := T.done (Y.blk z3 G3 sc ce fq) rfl rfl rfl hc i [] s5 _ H5 (fun _ _ => False) I5 (stat I5 n5) st5 stop
      refine thnF td fun r s6 ⟨hr, I6⟩ => ?_
      subst hr
      -- back in the def's context
      have Ia : Inv Y pins σ H5 s6 := J3.call' (ch := fq) I6.os I6.base I6.hok I6.bare fun b hb => ⟨(f3 b hb).1.2.2.2.1, (f3 b hb).1.2.1, (f3 b hb).1.2.2.2.2.1, (f3 b hb).1.2.2.2.2.2⟩
      have nC : H5 z3.heap.objs.size = none := by
        have z : H5 ce.locals = none := I6.free
        rw [cL] at z
        exact z
      obtain ⟨m, hn, _⟩ := I6.loc
      have hn : s6.heap.Ns ce.locals m := hn
      rw [cL] at hn
      exact hRR D z3.heap.objs.size s6 m H5 Ia qq hn (J3.fpOk (Nat.le_refl _) nC)
    · have ti := T.item (Y.blk z3 G3 sc ce fq) rfl rfl rfl hc i [] s5 _ H5 (fun _ _ => False) I5 (stat I5 n5) st5 go
      refine thnF ti fun r s6 ⟨u, hr, h6⟩ => ?_
      subst hr
      refine thnF h6 fun _ s7 ⟨x, H7, Ia, r7, y7, st7, n7⟩ => ?_
      have I7' := Ia.pinned (stat Ia n7) (T.obj _ _ st7)
      refine thnF (pg.run _ s7 _ H7 x u _ I7' r7 (step x H7 y7)) fun _ s8 ⟨σ8, H8, Ib, hw8, q8⟩ => ?_
      refine thnF (pt.run _ s8 σ8 H8 _ Ib q8) fun b s9 ⟨H9, I9, q9⟩ => ?_
      -- the turn's end, from any slots that know what the block knew at its start
      have fin : ∀ {σ9 : L2.St} {s' : Shared} {H' : Hp}, Inv (Y.blk z3 G3 sc ce fq) ([] ++ pinsAt fq s7.heap) σ9 H' s' → (wipe σ (ow.map (·.2))).length = σ9.length → (∀ (j : Nat) v, (wipe σ (ow.map (·.2)))[j]? = some (some v) → σ9[j]? = some (some v)) → Nx H' →
          ∃ m, m < n ∧ ∃ i H', Inv (Y.blk z3 G3 sc ce fq) [] (wipe σ (ow.map (·.2))) H' s' ∧ tn i s'.heap ∧ (∀ b ∈ fq, H' b = none) ∧ W i m H' := fun {σ9 s' H'} I' hl hk nx => by
        obtain ⟨m', hm, w'⟩ := hNx H' nx
        have pin' : ∀ b ∈ fq, ∀ o, s7.heap.get? b = some o → s'.heap.get? b = some o ∧ H' b = none := fun b hb o e =>
          let z := I'.pin (b, o) (List.mem_append_right _ (List.mem_append_right _ (mem_pinsAt hb e)))
          ⟨z.1, z.2.1⟩
        refine ⟨m', hm, i + 1, H', (I'.unpinned (pins := [])).weak hl hk, T.keep _ _ _ st7 fun b hb o e => (pin' b hb o e).1, fun b hb => ?_, w'⟩
        obtain ⟨o, e, _⟩ := T.obj _ _ st7 b hb
        exact (pin' b hb o e).2
      have hl8 : (wipe σ (ow.map (·.2))).length = σ8.length := by rw [← hw8, wipe_length]
      have hk8 : ∀ (j : Nat) v, (wipe σ (ow.map (·.2)))[j]? = some (some v) → σ8[j]? = some (some v) := fun j v e => by
        rw [← hw8] at e
        exact (wipe_some e).1
      have hk9 : ∀ (j : Nat) v, (wipe σ (ow.map (·.2)))[j]? = some (some v) → (wipe σ8 vs1)[j]? = some (some v) := fun j v e => by
        rw [← hw8] at e
        obtain ⟨e1, e2⟩ := wipe_some e
        rw [wipe_out fun z => e2 (hv j z)]
        exact e1
      cases b with
      | false =>
        simp only [Bool.false_eq_true, if_false] at q9 ⊢
        exact fin I9 hl8 hk8 q9
      | true =>
        simp only [if_true] at q9 ⊢
        refine thnF (pi1.run _ s9 σ8 H9 _ I9 q9) fun xv s10 hx => thnF hx fun itv s11 h11 => ?_
        obtain ⟨jt1, fp1, tn1, Jb, H11, e1, I11, T1, st11, f11, Wb, ⟨m1, w1⟩, turn1⟩ := h11
        subst e1
        -- the inner loop
        have stat1 : ∀ {H' : Hp}, (∀ b ∈ fp1, H' b = none) → ∀ b ∈ fp1, FpOk (Y.blk z3 G3 sc ce fq) ([] ++ pinsAt fq s7.heap) H' b := fun hn b hb => ⟨hn b hb, (f11 b hb).2⟩
        have loop1 : codeAny (model Y.prog Y.w) Y.A (.compLoop (.DictComp kx vx [⟨tg, iter, ifs, 0⟩, ⟨tg1, iter1, js1, 0⟩] sc ps0) 1 (.ref jt1) (.ref D) ce)
            (fun r s' => match r with
              | .ok _ => ∃ m, m < n ∧ ∃ i H', Inv (Y.blk z3 G3 sc ce fq) [] (wipe σ (ow.map (·.2))) H' s' ∧ tn i s'.heap ∧ (∀ b ∈ fq, H' b = none) ∧ W i m H'
              | .error _ => False) s11 := by
          refine dcLoop_in (fun k s' => ∃ j H', Inv (Y.blk z3 G3 sc ce fq) ([] ++ pinsAt fq s7.heap) (wipe σ8 vs1) H' s' ∧ tn1 j s'.heap ∧ (∀ b ∈ fp1, H' b = none) ∧ Wb j k H') ?_ m1 ⟨0, H11, I11.weak (wipe_length _ _) (fun j v e => (wipe_some e).1), st11, fun b hb => (f11 b hb).1, w1⟩
          rintro k s12 ⟨j, H12, I12, st12, n12, w12⟩
          rcases turn1 j k H12 w12 with ⟨stop1, nx1⟩ | ⟨go1, Nx1, hNx1, step1⟩
          · refine thnF (T1.done (Y.blk z3 G3 sc ce fq) rfl rfl rfl hc j _ s12 (wipe σ8 vs1) H12 (fun _ _ => False) I12 (stat1 n12) st12 stop1) fun r s13 ⟨hr, I13⟩ => ?_
            subst hr
            exact fin I13 (hl8.trans (wipe_length σ8 vs1).symm) hk9 nx1
          · refine thnF (T1.item (Y.blk z3 G3 sc ce fq) rfl rfl rfl hc j _ s12 (wipe σ8 vs1) H12 (fun _ _ => False) I12 (stat1 n12) st12 go1) fun r s13 ⟨u1, hr, h13⟩ => ?_
            subst hr
            refine thnF h13 fun _ s14 ⟨x1, H14, I14, r14, y14, st14, n14⟩ => ?_
            have I14' := I14.pinned (stat1 n14) (T1.obj _ _ st14)
            refine thnF (pg1.run _ s14 (wipe σ8 vs1) H14 x1 u1 _ I14' r14 (step1 x1 H14 y14)) fun _ s15 ⟨σ15, H15, I15, hw15, q15⟩ => ?_
            refine thnF (pt1.run _ s15 σ15 H15 _ I15 q15) fun b1 s16 ⟨H16, I16, q16⟩ => ?_
            have fin1 : ∀ {s' : Shared} {H' : Hp}, Inv (Y.blk z3 G3 sc ce fq) (([] ++ pinsAt fq s7.heap) ++ pinsAt fp1 s14.heap) σ15 H' s' → Nx1 H' → ∃ m, m < k ∧ ∃ j H', Inv (Y.blk z3 G3 sc ce fq) ([] ++ pinsAt fq s7.heap) (wipe σ8 vs1) H' s' ∧ tn1 j s'.heap ∧ (∀ b ∈ fp1, H' b = none) ∧ Wb j m H' := fun {s' H'} I' nx => by
              obtain ⟨m', hm, w'⟩ := hNx1 H' nx
              have pin' : ∀ b ∈ fp1, ∀ o, s14.heap.get? b = some o → s'.heap.get? b = some o ∧ H' b = none := fun b hb o e =>
                let z := I'.pin (b, o) (List.mem_append_right _ (List.mem_append_right _ (mem_pinsAt hb e)))
                ⟨z.1, z.2.1⟩
              refine ⟨m', hm, j + 1, H', I'.unpinned.weak (by rw [← hw15, wipe_length]) (fun j v e => by rw [← hw15] at e; exact (wipe_some e).1), T1.keep _ _ _ st14 fun b hb o e => (pin' b hb o e).1, fun b hb => ?_, w'⟩
              obtain ⟨o, e, _⟩ := T1.obj _ _ st14 b hb
              exact (pin' b hb o e).2
            cases b1 with
            | false =>
              simp only [Bool.false_eq_true, if_false] at q16 ⊢
              exact fin1 I16 q16
            | true =>
              simp only [if_true] at q16 ⊢
              refine thnF (pk.run _ s16 σ15 H16 _ I16 q16) fun z s17 ⟨yk, H17, I17, r17, q17⟩ => ?_
              refine thnF (pe.run _ s17 σ15 H17 _ I17 q17) fun z2 s18 ⟨yv, H18, I18, r18, H19, put, htd, nx⟩ => ?_
              exact dT_set (X := Y.blk z3 G3 sc ce fq) hrm I18 put htd r17 r18 fun s19 I19 => fin1 I19 nx
        exact dcStart1 loop1 (T1.self Y.A 0 _ _ _ st11 loop1)
  exact codeAny_compStart_dict loop (T.self Y.A 0 _ _ _ st4 loop)
end
abbrev DTDT := Option Dk → Sg → Nat → (List TKey → List D → Nat → Prop) → Prop
section
variable {X : Cx} {K : PySem.W.Frag}
def SndDT (K : PySem.W.Frag) (t : TE) (dl : DTDT) : Prop := ∀ (g : Option Dk) (r : Sg) (f : Nat) (st : L2.St) (H Hs : Hp) (Q : VK) (Q' : List TKey → List D → Nat → Prop), At K g r f st H Hs →
  (∀ ks xs f' p vs H' Hs', Stp g H Hs H' Hs' → DkOk g H' Hs' f' → H p = none → Hs' p = none → H' p = some (.dT (ks.zip vs)) → ks.length = vs.length → RpA K Hs' xs vs → Q' ks xs f' → Q (.ref p) H') → dl g r f Q' → t st H Q
def dTcGo (g : Option Dk) (t : TgF) (c : DTT) (k v : DT) (r : Sg) : List D → List TKey → List D → Nat → (List TKey → List D → Nat → Prop) → Prop
  | [], ks, xs, f, Q => Q ks xs f
  | d :: ds, ks, xs, f, Q => match t d with
    | none => False
    | some l => c g (setsR r l) f fun b f1 => if b = true then k g (setsR r l) f1 fun x f2 => v g (setsR r l) f2 fun y f3 => ∃ key, x.tkey = some key ∧ ks.length ≤ lim ∧ dTcGo g t c k v r ds (putTs ks key) (putTx ks xs key y) f3 Q else dTcGo g t c k v r ds ks xs f1 Q
def dTc2Go (g : Option Dk) (t : TgF) (c : DTT) (i1 : DTA) (t1 : TgF) (c1 : DTT) (k v : DT) (vs1 : List Nat) (r : Sg) : List D → List TKey → List D → Nat → (List TKey → List D → Nat → Prop) → Prop
  | [], ks, xs, f, Q => Q ks xs f
  | d :: ds, ks, xs, f, Q => match t d with
    | none => False
    | some l => c g (setsR r l) f fun b f1 => if b = true then i1 g (setsR r l) f1 fun es f2 => dTcGo g t1 c1 k v (wipeR (setsR r l) vs1) es ks xs f2 fun ks' xs' f3 => dTc2Go g t c i1 t1 c1 k v vs1 r ds ks' xs' f3 Q
      else dTc2Go g t c i1 t1 c1 k v vs1 r ds ks xs f1 Q
def dTc2 (i : DTA) (t : TgF) (c : DTT) (i1 : DTA) (t1 : TgF) (c1 : DTT) (k v : DT) (vs vs1 : List Nat) : DTDT := fun g r f Q => i g r f fun ds f1 => dTc2Go g t c i1 t1 c1 k v vs1 (wipeR r vs) ds [] [] f1 Q
theorem snd_tc2 {wi wi1 : TI} {gt gt1 : TG} {tt tt1 : TT} {tk tv : TE} {vs vs1 is is1 : List Nat} {i i1 : DTA} {t t1 : TgF} {c c1 : DTT} {k e : DT} (hi : SndI K wi i) (hg : SndG K is gt t) (hc : SndT K tt c) (hi1 : SndI K wi1 i1) (hg1 : SndG K is1 gt1 t1) (hc1 : SndT K tt1 c1) (hk : Snd K tk k) (he : Snd K tv e)
    (hs : ∀ j ∈ is, j ∈ vs) (hs1 : ∀ j ∈ is1, j ∈ vs1) : SndDT K (tDcT2 wi gt tt wi1 gt1 tt1 tk tv vs vs1) (dTc2 i t c i1 t1 c1 k e vs vs1) := by
  intro g r f st H Hs Q Q' A hq hd
  refine hi g r f st H Hs _ _ A (fun ds f1 J H1 Hs1 s1 k1 wk q1 => ?_) hd
  intro D hD
  have hDs : Hs1 D = none := same_none s1.sub hD
  have hDk : ¬ Dk.has g D := k1.out hD
  refine ⟨fun i m H2 => m = ds.length - i ∧ i ≤ ds.length ∧ ∃ f2 Hs2 ks acc ws, Stp g H1 Hs1 H2 Hs2 ∧ DkOk g H2 Hs2 f2 ∧ Hs2 D = none ∧ H2 D = some (.dT (ks.zip ws)) ∧ ks.length = ws.length ∧ RpA K Hs2 acc ws ∧ dTc2Go g t c i1 t1 c1 k e vs1 (wipeR r vs) (ds.drop i) ks acc f2 Q', ⟨ds.length, rfl, Nat.zero_le _, f1, Hs1, [], [], [], ?_, ?_, hDs, upd_same, rfl, rfl, q1⟩, ?_⟩
  · exact (Stp.lay s1.sub hD : Stp none H1 Hs1 (upd H1 D (.dT [])) Hs1).gen
  · exact k1.mut hDk
  rintro i m H2 ⟨rfl, hil, f2, Hs2, ks, acc, ws, s2, k2, n2, e2, ln2, r2, q2⟩
  by_cases hlt : i < ds.length
  · have hgd : ds[i]? = some ds[i] := List.getElem?_eq_getElem hlt
    have hdr : ds.drop i = ds[i] :: ds.drop (i + 1) := List.drop_eq_getElem_cons hlt
    rw [hdr] at q2
    obtain ⟨hgo, hy⟩ := wk.go i _ H2 Hs2 s2.ext s2.sub hgd
    refine .inr ⟨hgo, fun H3 => i + 1 ≤ ds.length ∧ ∃ f2 Hs2 ks acc ws, Stp g H1 Hs1 H3 Hs2 ∧ DkOk g H3 Hs2 f2 ∧ Hs2 D = none ∧ H3 D = some (.dT (ks.zip ws)) ∧ ks.length = ws.length ∧ RpA K Hs2 acc ws ∧ dTc2Go g t c i1 t1 c1 k e vs1 (wipeR r vs) (ds.drop (i + 1)) ks acc f2 Q', fun H3 h3 => ⟨_, by omega, rfl, h3⟩, fun x H3 hx => ?_⟩
    obtain ⟨Hs3, s3, r3⟩ := hy x H3 hx
    simp only [dTc2Go] at q2
    cases et : t ds[i] with
    | none => rw [et] at q2; exact q2.elim
    | some l =>
      rw [et] at q2
      have sl0 : SlOk K Hs3 (wipeR r vs) (L2.wipe st vs) := (((A.sl.mono s1.ext).mono s2.ext).mono s3.ext).wipe vs
      refine hg.2 H3 Hs3 _ _ x _ l s3.sub r3 et fun us hus => ⟨wipe_wipe_sets hs, ?_⟩
      have A3 : At K g (setsR (wipeR r vs) l) f2 (setsV (L2.wipe st vs) is us) H3 Hs3 := ⟨s3.sub, k2.stp s3, by
        have := SlOk.sets sl0 hus
        rw [hg.1 _ l et] at this
        exact this⟩
      refine hc g _ f2 _ H3 Hs3 _ _ A3 (fun b f4 H4 Hs4 s4 k4 q4 => ?_) q2
      have t4 : Stp g H1 Hs1 H4 Hs4 := (s2.trans s3.gen).trans s4
      have n3 : Hs3 D = none := s3.new D _ e2 n2
      have e3 : H3 D = some (.dT (ks.zip ws)) := s3.keep D _ e2 id
      have n4 : Hs4 D = none := s4.new D _ e3 n3
      have e4 : H4 D = some (.dT (ks.zip ws)) := s4.keep D _ e3 hDk
      have r4 : RpA K Hs4 acc ws := (r2.mono s3.ext).mono s4.ext
      cases b with
      | false =>
        rw [if_neg Bool.false_ne_true]
        exact ⟨hlt, f4, Hs4, ks, acc, ws, t4, k4, n4, e4, ln2, r4, q4⟩
      | true =>
        rw [if_pos rfl]
        have A4 := A3.step s4 k4
        refine hi1 g _ f4 _ H4 Hs4 _ _ A4 (fun es f5 J1 H5 Hs5 s5 k5 wk1 q5 => ?_) q4
        have A5 := A4.step s5 k5
        have t5 : Stp g H1 Hs1 H5 Hs5 := t4.trans s5
        have n5 : Hs5 D = none := s5.new D _ e4 n4
        have e5 : H5 D = some (.dT (ks.zip ws)) := s5.keep D _ e4 hDk
        refine ⟨fun j m H6 => m = es.length - j ∧ j ≤ es.length ∧ ∃ f6 Hs6 ks' acc' ws', Stp g H1 Hs1 H6 Hs6 ∧ Same Hs5 Hs6 ∧ DkOk g H6 Hs6 f6 ∧ Hs6 D = none ∧ H6 D = some (.dT (ks'.zip ws')) ∧ ks'.length = ws'.length ∧ RpA K Hs6 acc' ws' ∧ dTcGo g t1 c1 k e (wipeR (setsR (wipeR r vs) l) vs1) (es.drop j) ks' acc' f6 (fun ks' xs' f3 => dTc2Go g t c i1 t1 c1 k e vs1 (wipeR r vs) (ds.drop (i + 1)) ks' xs' f3 Q'),
          ⟨es.length, rfl, Nat.zero_le _, f5, Hs5, ks, acc, ws, t5, Same.refl _, k5, n5, e5, ln2, r4.mono s5.ext, q5⟩, ?_⟩
        rintro j m H6 ⟨rfl, hjl, f6, Hs6, ks', acc', ws', t6, x6, k6, n6, e6, ln6, r6, q6⟩
        by_cases hlt1 : j < es.length
        · have hgd1 : es[j]? = some es[j] := List.getElem?_eq_getElem hlt1
          have hdr1 : es.drop j = es[j] :: es.drop (j + 1) := List.drop_eq_getElem_cons hlt1
          rw [hdr1] at q6
          obtain ⟨hgo1, hy1⟩ := wk1.go j _ H6 Hs6 x6 t6.sub hgd1
          refine .inr ⟨hgo1, fun H7 => j + 1 ≤ es.length ∧ ∃ f6 Hs6 ks' acc' ws', Stp g H1 Hs1 H7 Hs6 ∧ Same Hs5 Hs6 ∧ DkOk g H7 Hs6 f6 ∧ Hs6 D = none ∧ H7 D = some (.dT (ks'.zip ws')) ∧ ks'.length = ws'.length ∧ RpA K Hs6 acc' ws' ∧ dTcGo g t1 c1 k e (wipeR (setsR (wipeR r vs) l) vs1) (es.drop (j + 1)) ks' acc' f6 (fun ks' xs' f3 => dTc2Go g t c i1 t1 c1 k e vs1 (wipeR r vs) (ds.drop (i + 1)) ks' xs' f3 Q'),
            fun H7 h7 => ⟨_, by omega, rfl, h7⟩, fun x1 H7 hx1 => ?_⟩
          obtain ⟨Hs7, s7, r7⟩ := hy1 x1 H7 hx1
          simp only [dTcGo] at q6
          cases et1 : t1 es[j] with
          | none => rw [et1] at q6; exact q6.elim
          | some l1 =>
            rw [et1] at q6
            have sl1 : SlOk K Hs7 (wipeR (setsR (wipeR r vs) l) vs1) (L2.wipe (setsV (L2.wipe st vs) is us) vs1) := ((A5.sl.mono x6).mono s7.ext).wipe vs1
            refine hg1.2 H7 Hs7 _ _ x1 _ l1 s7.sub r7 et1 fun us1 hus1 => ⟨wipe_wipe_sets hs1, ?_⟩
            have A7 : At K g (setsR (wipeR (setsR (wipeR r vs) l) vs1) l1) f6 (setsV (L2.wipe (setsV (L2.wipe st vs) is us) vs1) is1 us1) H7 Hs7 := ⟨s7.sub, k6.stp s7, by
              have := SlOk.sets sl1 hus1
              rw [hg1.1 _ l1 et1] at this
              exact this⟩
            refine hc1 g _ f6 _ H7 Hs7 _ _ A7 (fun b f8 H8 Hs8 s8 k8 q8 => ?_) q6
            have t8 : Stp g H1 Hs1 H8 Hs8 := (t6.trans s7.gen).trans s8
            have x8 : Same Hs5 Hs8 := (x6.trans s7.ext).trans s8.ext
            have n7 : Hs7 D = none := s7.new D _ e6 n6
            have e7 : H7 D = some (.dT (ks'.zip ws')) := s7.keep D _ e6 id
            have n8 : Hs8 D = none := s8.new D _ e7 n7
            have e8 : H8 D = some (.dT (ks'.zip ws')) := s8.keep D _ e7 hDk
            have r8 : RpA K Hs8 acc' ws' := (r6.mono s7.ext).mono s8.ext
            cases b with
            | false =>
              rw [if_neg Bool.false_ne_true]
              exact ⟨hlt1, f8, Hs8, ks', acc', ws', t8, x8, k8, n8, e8, ln6, r8, q8⟩
            | true =>
              rw [if_pos rfl]
              have A8 := A7.step s8 k8
              refine hk g _ f8 _ H8 Hs8 _ _ A8 (fun kd f9 kv H9 Hs9 s9 k9 r9 q9 => ?_) q8
              have n9 : Hs9 D = none := s9.new D _ e8 n8
              have e9 : H9 D = some (.dT (ks'.zip ws')) := s9.keep D _ e8 hDk
              refine he g _ f9 _ H9 Hs9 _ _ (A8.step s9 k9) (fun y fa v Ha Hsa sa ka ra qa => ?_) q9
              have na : Hsa D = none := sa.new D _ e9 n9
              have ea : Ha D = some (.dT (ks'.zip ws')) := sa.keep D _ e9 hDk
              obtain ⟨key, ek, hlim, qa⟩ := qa
              have ra' : RpA K Hsa acc' ws' := (r8.mono s9.ext).mono sa.ext
              obtain ⟨ws2, p1, p2, p3⟩ := put_rpT (k := key) ln6 ra' ra
              obtain ⟨b, rfl, hb⟩ := tkey_v (r9.mono sa.ext) ek
              refine ⟨_, DPut.t ea (((A8.step s9 k9).step sa ka).sub _ _ hb) ?_, ⟨_, ea⟩, hlt1, fa, Hsa, putTs ks' key, putTx ks' acc' key y, ws2, ((t8.trans s9).trans sa).mut hD na, (x8.trans s9.ext).trans sa.ext, ka.mut hDk, na, ?_, p2, p3, qa⟩
              · rw [List.length_zip]
                exact Nat.lt_of_le_of_lt (Nat.min_le_left _ _) (lim_lt hlim)
              · rw [upd_same, p1]
        · have ej : j = es.length := by omega
          subst ej
          rw [List.drop_length] at q6
          exact .inl ⟨wk1.stop H6 (fun a o h => t6.sub a o (x6 a o h)), hlt, f6, Hs6, ks', acc', ws', t6, k6, n6, e6, ln6, r6, q6⟩
  · have ei : i = ds.length := by omega
    subst ei
    rw [List.drop_length] at q2
    refine .inl ⟨wk.stop H2 (fun a o h => s2.sub a o (s2.ext a o h)), ?_⟩
    exact hq ks acc f2 D ws H2 Hs2 (s1.trans s2) k2 (none_back s1 hD) n2 e2 ln2 r2 q2
/-! y = {(a, b): v for a in .. for b in ..} on one line: the slot owns the dict -/
theorem ps_setTc2 {i : Nat} {y : Str} {py : Pos} {kx vx tg iter tg1 iter1 : Expr} {ifs ifs1 : List Expr} {scope : Scope} {own : List (Str × Nat)} {vs1 : List Nat} {pos spos : Pos} {wi wi1 : TI} {g g1 : TG} {tt tt1 : TT} {tk tv : TE} (hrm : X.A.units + 1 < cLine) (hc : X.calm = true) (hN : X.N.Nodup) (hy : X.N[i]? = some y) (hyl : X.env.scope.names.lookup y = some .local)
    (hsw : swapsWith (.DictComp kx vx [⟨tg, iter, ifs, 0⟩, ⟨tg1, iter1, ifs1, 0⟩] scope pos) (some (.Name y py)) spos.line X.env = pure true) (hi : PI X tg iter wi) (ok : BlkOk X.N X.env.scope scope own) (hv : ∀ i ∈ vs1, i ∈ own.map (·.2))
    (hg : ∀ (s : Shared) (H : Hp) (C : Addr) (cl : List (Str × Addr)) (fp : List Addr), PG (X.blk s H scope (compEnvC scope cl C X.env) fp) tg g) (ht : ∀ (s : Shared) (H : Hp) (C : Addr) (cl : List (Str × Addr)) (fp : List Addr), PTs (X.blk s H scope (compEnvC scope cl C X.env) fp) ifs tt)
    (hi1 : ∀ (s : Shared) (H : Hp) (C : Addr) (cl : List (Str × Addr)) (fp : List Addr), PI (X.blk s H scope (compEnvC scope cl C X.env) fp) tg1 iter1 wi1)
    (hg1 : ∀ (s : Shared) (H : Hp) (C : Addr) (cl : List (Str × Addr)) (fp : List Addr), PG (X.blk s H scope (compEnvC scope cl C X.env) fp) tg1 g1) (ht1 : ∀ (s : Shared) (H : Hp) (C : Addr) (cl : List (Str × Addr)) (fp : List Addr), PTs (X.blk s H scope (compEnvC scope cl C X.env) fp) ifs1 tt1)
    (hk : ∀ (s : Shared) (H : Hp) (C : Addr) (cl : List (Str × Addr)) (fp : List Addr), PE (X.blk s H scope (compEnvC scope cl C X.env) fp) kx tk)
    (he : ∀ (s : Shared) (H : Hp) (C : Addr) (cl : List (Str × Addr)) (fp : List Addr), PE (X.blk s H scope (compEnvC scope cl C X.env) fp) vx tv) (hs : ∀ x, foldedSetIterable iter X.env x = pure x) (hs1 : ∀ env x, foldedSetIterable iter1 env x = pure x) :
    PS X (.Assign [.Name y py] (.DictComp kx vx [⟨tg, iter, ifs, 0⟩, ⟨tg1, iter1, ifs1, 0⟩] scope pos) spos) (tAsg (tDcT2 wi g tt wi1 g1 tt1 tk tv (own.map (·.2)) vs1) (gName i)) := by
  refine ⟨fun pins s σ H D I h => ?_⟩
  rw [exec_Assign_Name_used _ _ _ _ hsw]
  refine wpAny_bind (wpAny_standAt (wpAny_bind ?_))
  show wpAny _ X.A (do let _ ← comprehension (.DictComp kx vx [⟨tg, iter, ifs, 0⟩, ⟨tg1, iter1, ifs1, 0⟩] scope pos) scope X.env (firstIterPos [⟨tg, iter, ifs, 0⟩, ⟨tg1, iter1, ifs1, 0⟩] pos) newDict false (eval iter X.env) (some (assign (.Name y py) X.env))) _ _ s
  have hh : tDcT2 wi g tt wi1 g1 tt1 tk tv (own.map (·.2)) vs1 σ H (fun x H1 => gName i x σ H1 D.nx) := h
  refine wpAny_bind (thn (dcT_core (Qf := fun _ s' => SP X pins D .next s') hrm hc hN I hi ok hv hg ht hk he hs hi1 hg1 ht1 hs1 hh fun dd cc s' m H' I' q hn f => ?_) fun _ s' hq => wpAny_pure (wpAny_pure hq))
  show wpAny _ _ (assign (.Name y py) X.env (.ref dd)) _ _ _
  refine wpAny_assign_Name (store_ok2 (v := V.ref dd) I' hN hy (.inl hyl) rfl (fun s2 I2 ⟨a, sb, ha⟩ => ?_) (.inr hyl))
  obtain ⟨f0, f1, f2, f3, f4, f5⟩ := f
  have hac : cc ≠ a := by
    rcases ha with z | z
    · rw [z]; exact f1
    · exact fun e => f4 y a z e.symm
  refine ⟨m, hn.sameBut sb hac, fun h3 sb3 => ?_⟩
  exact ⟨_, H', I2.turned (t' := s2.toks) (fun b o hb e => (sb3.2 b hb).trans e) f0 f1 f3 f4 f5, q⟩
def sSetTc2 (i : Nat) (dl : DTDT) : DTS := fun g r f E => dl g (hide r) f fun ks xs f' => E.nx (r.set i (.ot ks xs)) f'
theorem snd_setTc2 {W : WX} {i : Nat} {t : TE} {d : DTDT} (h : SndDT K t d) : SndS K W (tAsg t (gName i)) (sSetTc2 i d) := fun g H0 Hs0 r f st H D E s e hd => by
  obtain ⟨Hs, s⟩ := s
  refine h g _ f st H Hs _ _ s.atHid (fun ks xs f' p vs H' Hs' s' k' hp np hv hl hr q => ?_) hd
  have s1 := s.afterHid s' k'
  refine e.nx _ f' _ H' ⟨_, s1.setOwn i (u := .ot ks xs) rfl (s.stp.none0 hp) np (fun j sl _ h1 h2 h3 => ?_) ⟨vs, hv, hl, hr⟩⟩ q
  obtain ⟨a, e', _, _, w⟩ := s.ow j sl h1 h2
  rw [h3] at e'
  cases e'
  obtain ⟨o, ho, _⟩ := w.ld
  rw [hp] at ho
  cases ho
theorem ds_setTc2 {k' : Nat} {i : Nat} {y : Str} {py : Pos} {kx vx tg iter tg1 iter1 : Expr} {ifs ifs1 : List Expr} {scope : Scope} {own : List (Str × Nat)} {vs1 : List Nat} {pos spos : Pos} {is is1 : List Nat} {di i1 : DTA} {t t1 : TgF} {c c1 : DTT} {k e : DT} (hr : Room k' X.A) (hN : X.N.Nodup) (hi : DI X tg iter di) (ok : BlkOk X.N X.env.scope scope own)
    (hg : ∀ (s : Shared) (H : Hp) (C : Addr) (cl : List (Str × Addr)) (fp : List Addr), DG (X.blk s H scope (compEnvC scope cl C X.env) fp) tg is t) (ht : ∀ (s : Shared) (H : Hp) (C : Addr) (cl : List (Str × Addr)) (fp : List Addr), DTs (X.blk s H scope (compEnvC scope cl C X.env) fp) ifs c)
    (hi1 : ∀ (s : Shared) (H : Hp) (C : Addr) (cl : List (Str × Addr)) (fp : List Addr), DI (X.blk s H scope (compEnvC scope cl C X.env) fp) tg1 iter1 i1)
    (hg1 : ∀ (s : Shared) (H : Hp) (C : Addr) (cl : List (Str × Addr)) (fp : List Addr), DG (X.blk s H scope (compEnvC scope cl C X.env) fp) tg1 is1 t1) (ht1 : ∀ (s : Shared) (H : Hp) (C : Addr) (cl : List (Str × Addr)) (fp : List Addr), DTs (X.blk s H scope (compEnvC scope cl C X.env) fp) ifs1 c1)
    (hk : ∀ (s : Shared) (H : Hp) (C : Addr) (cl : List (Str × Addr)) (fp : List Addr), DE (X.blk s H scope (compEnvC scope cl C X.env) fp) kx k)
    (he : ∀ (s : Shared) (H : Hp) (C : Addr) (cl : List (Str × Addr)) (fp : List Addr), DE (X.blk s H scope (compEnvC scope cl C X.env) fp) vx e)
    (hy : X.N[i]? = some y := by rfl) (hyl : X.env.scope.names.lookup y = some .local := by rfl) (hc : X.calm = true := by rfl)
    (hsw : swapsWith (.DictComp kx vx [⟨tg, iter, ifs, 0⟩, ⟨tg1, iter1, ifs1, 0⟩] scope pos) (some (.Name y py)) spos.line X.env = pure true := by exact sw_trueD rfl rfl rfl (by decide +kernel)) (hs : ∀ x, foldedSetIterable iter X.env x = pure x := by intro _; rfl) (hs1 : ∀ env x, foldedSetIterable iter1 env x = pure x := by intro _ _; rfl)
    (hsub : ∀ j ∈ is, j ∈ own.map (·.2) := by decide) (hsub1 : ∀ j ∈ is1, j ∈ vs1 := by decide) (hv : ∀ j ∈ vs1, j ∈ own.map (·.2) := by decide) :
    DS X (.Assign [.Name y py] (.DictComp kx vx [⟨tg, iter, ifs, 0⟩, ⟨tg1, iter1, ifs1, 0⟩] scope pos) spos) (sSetTc2 i (dTc2 di t c i1 t1 c1 k e (own.map (·.2)) vs1)) :=
  DS.mk' (ps_setTc2 (wi1 := tOfI X.K i1) (g := gOf X.K is t) (tt := tOfT X.K c) (g1 := gOf X.K is1 t1) (tt1 := tOfT X.K c1) (tk := tOf X.K k) (tv := tOf X.K e) (room1 hr) hc hN hy hyl hsw hi.pi ok hv (fun s H C cl fp => (hg s H C cl fp).pg) (fun s H C cl fp => (ht s H C cl fp).pt) (fun s H C cl fp => (hi1 s H C cl fp).pi) (fun s H C cl fp => (hg1 s H C cl fp).pg) (fun s H C cl fp => (ht1 s H C cl fp).pt) (fun s H C cl fp => (hk s H C cl fp).pe) (fun s H C cl fp => (he s H C cl fp).pe) hs hs1)
    (snd_setTc2 (snd_tc2 hi.sn (hg X.s_0 (fun _ => none) 0 [] []).sn (ht X.s_0 (fun _ => none) 0 [] []).sn (hi1 X.s_0 (fun _ => none) 0 [] []).sn (hg1 X.s_0 (fun _ => none) 0 [] []).sn (ht1 X.s_0 (fun _ => none) 0 [] []).sn (hk X.s_0 (fun _ => none) 0 [] []).sn (he X.s_0 (fun _ => none) 0 [] []).sn hsub hsub1))
/-! d[a, b] += e of ints, the slot owns the dict -/
def sAugKT (i : Nat) (dk dl : DT) : DTS := fun g r f E => ∃ ks xs, r[i]? = some (.ot ks xs) ∧ dk g (hide r) f fun k f1 => ∃ key n, k.tkey = some key ∧ lookT ks xs key = some (.int n) ∧ dl g (hide r) f1 fun y f2 => ∃ m, y = .int m ∧ ks.length ≤ lim ∧ E.nx (r.set i (.ot (putTs ks key) (putTx ks xs key (.int (n + m))))) f2
theorem snd_augKT {W : WX} {i : Nat} {tk t : TE} {dk d : DT} (hk : Snd K tk dk) (h : Snd K t d) : SndS K W (sDAug (tVar i) tk t rAdd) (sAugKT i dk d) := fun g H0 Hs0 r f st H D E s e hd => by
  obtain ⟨Hs, s⟩ := s
  obtain ⟨ks, xs, hx, hd⟩ := hd
  obtain ⟨a, ha, n1, n0, vs, hv, hl, hr⟩ := s.ow i _ hx rfl
  refine ⟨.ref a, ha, ?_⟩
  refine hk g (hide r) f st H Hs _ _ s.atHid (fun k f2 w H2 Hs2 s2 k2 r2 q2 => ?_) hd
  have s3 := s.afterHid s2 k2
  obtain ⟨key, n, hkey, hlook, q2⟩ := q2
  obtain ⟨a', ha', n1', n0', vs', hv', hl', hr2⟩ := s3.ow i _ hx rfl
  rw [ha] at ha'
  cases ha'
  obtain ⟨b, rfl, hb⟩ := tkey_v r2 hkey
  obtain ⟨v, e1, rv⟩ := look_rpT hr2 hlook
  cases rv
  refine ⟨a, .int n, rfl, ?_, ?_⟩
  · have := DGet.t hv' (s2.sub _ _ hb)
    rw [e1] at this
    exact this
  refine h g (hide r) f2 st H2 Hs2 _ _ s3.atHid (fun y f3 w3 H3 Hs3 s4 k4 r4 q4 => ?_) q2
  have s5 := s3.afterHid s4 k4
  obtain ⟨m, rfl, hlim, q4⟩ := q4
  cases r4
  obtain ⟨a3, ha3, n3, n03, vs3, hv3, hl3, hr3⟩ := s5.ow i _ hx rfl
  rw [ha] at ha3
  cases ha3
  obtain ⟨us, p1, p2, p3⟩ := put_rpT (k := key) (d := .int (n + m)) (v := .int (n + m)) hl3 hr3 rfl
  refine ⟨n, m, rfl, rfl, _, DPut.t hv3 (s4.sub _ _ (s4.ext _ _ hb)) ?_, e.nx _ f3 st _ ⟨_, s5.mutOwn (u := .ot (putTs ks key) (putTx ks xs key (.int (n + m)))) hx rfl ha rfl ⟨us, by rw [upd_same, p1], p2, p3⟩⟩ q4⟩
  rw [List.length_zip]
  exact Nat.lt_of_le_of_lt (Nat.min_le_left _ _) (lim_lt hlim)
theorem ds_augKT {k' : Nat} {i : Nat} {x : Str} {e k : Expr} {px spos pos : Pos} {dk d : DT} (hr : Room k' X.A) (hk : DE X k dk) (h : DE X e d) (hN : X.N[i]? = some x := by rfl) (hv : Vis X.env.scope x := by first | exact Or.inl rfl | exact Or.inr (Or.inl rfl) | exact Or.inr (Or.inr rfl)) (hd : (x == ("__debug__" : Str)) = false := by decide)
    (hcd : (x == ("__classdict__" : Str)) = false := by decide)
    (ha : ∀ ov iv new, augStore k ov iv new = (do holding [new, ov, iv] (setItem ov iv new); release [new, ov, iv] []; pure .next) := by intros; rfl) :
    DS X (.AugAssign (.Subscript (.Name x px) k spos) .Add e pos) (sAugKT i dk d) :=
  .mk' (ps_daug (room1 hr) (pe_var hN hv hd hcd) hk.pe h.pe in_add ha) (snd_augKT hk.sn h.sn)
end
end DL
namespace DL
open PySem PySem.Spec PyProof.Rows L2
section
variable {X : Cx} {K : PySem.W.Frag}
/-! n & 1, i >> k, 1 << k -/
/-! sum and max of a list of ints -/
theorem RpA.intsL {H : Hp} : ∀ {ns : List Int} {vs : List V}, RpA K H (ns.map D.int) vs → vs = ns.map V.int
  | [], _, h => by cases h; rfl
  | n :: ns, _, ⟨v, r, h1, h2, h3⟩ => by
    subst h1
    cases h2
    rw [RpA.intsL h3]
    rfl
def oMaxL : OA := fun ds Q => ∃ ns : List Int, ds = [.lst (ns.map D.int)] ∧ 0 < ns.length ∧ ∀ m, m ∈ ns → (∀ y, y ∈ ns → y ≤ m) → Q (.int m)
theorem sc_maxL : SndC K (rMax K) oMaxL := SndC.pure fun H Hs ds vs Q Q' s rx hq hd => by
  obtain ⟨ns, rfl, hl, q⟩ := hd
  obtain ⟨v, rfl, a, vs, rfl, h1, h2⟩ := rpA1 rx
  have e := RpA.intsL h2
  subst e
  exact ⟨a, ns, rfl, SqL.of (s _ _ h1), hl, fun m h3 h4 => hq (.int _) _ rfl (q m h3 h4)⟩
end
end DL
namespace DL
open PySem PySem.Spec PyProof.Rows L2
/-! lambda x: y[x], y captured, as a key of sorted -/
/-! sorted(e, key=lambda x: y[x]) -/
/-! over plain data -/
section
variable {X : Cx} {K : PySem.W.Frag}
theorem RpA.strsL {H : Hp} : ∀ {ns : List Str} {vs : List V}, RpA K H (ns.map D.str) vs → vs = ns.map V.str
  | [], _, h => by cases h; rfl
  | n :: ns, _, ⟨v, r, h1, h2, h3⟩ => by
    subst h1
    cases h2
    rw [RpA.strsL h3]
    rfl
end
end DL
namespace DL
open PySem PySem.Spec PyProof.Rows L2
/-! tuples that are known to the object: tuple(e), t.index(x) -/
section
variable {X : Cx} {K : PySem.W.Frag}
theorem call_tupleF : CallR X (.type "tuple") (fun xs H Q => ∃ p ys, xs = [.ref p] ∧ SqL X.K H p ys ∧ ∀ l (ob : Obj), H l = none → ob.dict = none → Q (.ref l) (upd H l (.frz ob (.tup ys)))) := by
  intro pins s σ H xs us Q I r h
  obtain ⟨p, ys, rfl, hq, q⟩ := h
  obtain ⟨u, rfl, rx⟩ := vals1 r
  cases rx
  obtain ⟨its, r', pl, hz⟩ := I.list hq
  have hlen := r'.length
  refine call_tuple_list pl.isList (fun h' kp => ?_) (by simp only [List.size_toArray] <;> omega)
  have I1 : Inv X pins σ H { s with heap := h' } := I.kept (t' := s.toks) kp
  have I2 : Inv X pins σ (upd H h'.objs.size (.frz { cls := .type "tuple", data := .seq its.toArray } (.tup ys))) { s with heap := h'.push { cls := .type "tuple", data := .seq its.toArray } } :=
    I1.laid (t' := s.toks) (fun b o e => Heap.get?_push_of_some _ e) (Nat.le_refl _) (show ObjOk X.prog X.w _ _ _ (.frz _ (.tup ys)) from ⟨Heap.get?_push_size _ rfl, hz, its, r', IsTup.new _ _⟩)
  exact ⟨.ref h'.objs.size, _, I2, rfl, q _ _ (I1.hok.fresh (Nat.le_refl _)) rfl⟩
def oTupF : OA := fun ds Q => match ds with
  | [.lst xs] => Q (.ftp xs)
  | _ => False
theorem sc_tupF : SndC K (fun xs H Q => ∃ p ys, xs = [.ref p] ∧ SqL K H p ys ∧ ∀ l (ob : Obj), H l = none → ob.dict = none → Q (.ref l) (upd H l (.frz ob (.tup ys)))) oTupF := fun H Hs ds vs Q Q' s rx hq hd => by
  unfold oTupF at hd
  split at hd
  · obtain ⟨v, rfl, a, vs, rfl, h1, h2⟩ := rpA1 rx
    refine ⟨a, vs, rfl, SqL.of (s _ _ h1), fun l ob hl ho => hq (.ftp _) _ _ _ (Stp.alloc s hl) ⟨l, vs, rfl, ⟨ob, ho, upd_same⟩, h2.mono fun b u z => by rw [upd_ne (ne_of_none z (same_none s hl))]; exact z⟩ hd⟩
  · exact hd.elim
/-! t.index(x), t of texts -/
def tBMF (r : V → List V → Hp → VK → Prop) (to : TE) (t : TA) : TE := fun σ H Q => to σ H fun x H1 => (∃ a xs, x = .ref a ∧ FtAt H1 a xs) ∧ t σ H1 fun xs H2 => r x xs H2 Q
theorem pe_bmF {o e : Expr} {es : List Expr} {to : TE} {t : TA} {name : Str} {apos cpos : Pos} {id : String} {r : V → List V → Hp → VK → Prop} (slot : Slot "tuple" name id) (hty : typeOf (.builtin id) = pure (.type "method_descriptor")) (hm : MtR X id r) (ho : PE X o to) (ha : PA X (e :: es) t)
    (hbase : attributeBase o name X.env (eval o X.env) = eval o X.env := by rfl)
    (hfew : ((backTo cpos (starEach (e :: es) X.env)).all (fun x => !x.1) && (backToKw cpos (keywordEach [] X.env)).all (fun x => x.1.isSome)
      && decide ((e :: es).length + ([] : List Keyword).length + (if ([] : List Keyword).isEmpty then 0 else 1) < 30)) = true := by rfl)
    (hline : (apos.endLine == cpos.line) = true := by rfl) (hs : starEach (e :: es) X.env = (false, eval e X.env) :: starEach es X.env := by rfl) (hplain : (backTo cpos (starEach es X.env)).any (·.1) = false := by rfl) :
    PE X (.Call (.Attribute o name apos) (e :: es) [] cpos) (tBMF r to t) := by
  refine ⟨fun pins s σ H Q I h => ?_⟩
  refine wpAny_Call_method_late hbase hfew hline rfl (thn (ho.run pins s σ H _ I h) fun v s1 ⟨x, H1, I1, r1, ⟨a, xs, ex, ob, hob, hfz⟩, q1⟩ => ?_)
  subst ex
  have ev : v = Value.ref a := r1
  subst ev
  obtain ⟨hget, hz, its, rv, tp⟩ := (show ObjOk X.prog X.w H1 s1.heap a (.frz ob (.tup xs)) from I1.hok a _ hfz)
  refine ⟨"tuple", id, PySem.F.plainAttrs_tuple, slot, hty, tp.typeIs, fun b e2 => ?_, ?_⟩
  · cases e2
    exact ⟨ob, hget, hob⟩
  have hA := ha.run cpos pins s1 σ H1 _ I1 q1
  rw [hs] at hA ⊢
  refine Calls.callWith_builtin (by show (false || (backTo cpos (starEach es X.env)).any (·.1)) = false; rw [hplain] <;> rfl) (Calls.evalArgs_plain ?_)
  exact thn hA fun us s2 ⟨vs, H2, I2, r2, q2⟩ => hm pins s2 σ H2 (.ref a) vs (.ref a) us Q I2 rfl r2 q2
def dIndexF (o e : DT) : DT := fun g r f Q => o g r f fun x f1 => match x with
  | .ftp xs => e g r f1 fun y f2 => match y with
    | .str z => ∃ ys : List Str, xs = ys.map D.str ∧ z ∈ ys ∧ Q (.int ((ys.findIdx fun a => decide (a = z) : Nat) : Int)) f2
    | _ => False
  | _ => False
theorem de_indexF {o e : Expr} {apos cpos : Pos} {d d2 : DT} (ho : DE X o d) (he : DE X e d2)
    (hbase : attributeBase o "index" X.env (eval o X.env) = eval o X.env := by rfl)
    (hfew : ((backTo cpos (starEach [e] X.env)).all (fun x => !x.1) && (backToKw cpos (keywordEach [] X.env)).all (fun x => x.1.isSome)
      && decide ([e].length + ([] : List Keyword).length + (if ([] : List Keyword).isEmpty then 0 else 1) < 30)) = true := by rfl)
    (hline : (apos.endLine == cpos.line) = true := by rfl) (hs : starEach [e] X.env = (false, eval e X.env) :: starEach [] X.env := by rfl) (hplain : (backTo cpos (starEach [] X.env)).any (·.1) = false := by rfl) :
    DE X (.Call (.Attribute o "index" apos) [e] [] cpos) (dIndexF d d2) :=
  .mk' (pe_bmF PySem.F.slot_tuple_index PySem.F.type_tuple_index mt_tup_index ho.pe (pa_cons he.pe pa_nil hs) hbase hfew hline hs hplain) fun g ro f st H Hs Q Q' A hq hd => by
    refine ho.sn g ro f st H Hs _ _ A (fun x f1 vx H1 Hs1 s1 k1 r1 q1 => ?_) hd
    cases x <;> try exact q1.elim
    obtain ⟨a, vs, rfl, h1, h2⟩ := r1
    refine ⟨⟨a, vs, rfl, h1.mono s1.sub⟩, ?_⟩
    refine he.sn g ro f1 st H1 Hs1 _ _ (A.step s1 k1) (fun y f2 vy H2 Hs2 s2 k2 r2 q2 => ?_) q1
    cases y <;> try exact q2.elim
    next z =>
    obtain ⟨ys, rfl, hz, q⟩ := q2
    cases r2
    have e := RpA.strsL h2
    subst e
    have hlt : (ys.findIdx fun a => decide (a = z)) < ys.length := List.findIdx_lt_length_of_exists ⟨z, hz, decide_eq_true rfl⟩
    have hat : ys[ys.findIdx fun a => decide (a = z)] = z := of_decide_eq_true (List.findIdx_getElem (p := fun a => decide (a = z)) (w := hlt))
    refine ⟨a, ys, z, _, rfl, rfl, sqT_mono s2.sub (sqT_mono s2.ext h1.sq), ?_, fun m hm hz' => ?_, hq (.int _) f2 (.int _) H2 Hs2 (s1.trans s2) k2 rfl q⟩
    · rw [List.getElem?_eq_getElem hlt, hat]
    · have hml : m < ys.length := Nat.lt_trans hm hlt
      rw [List.getElem?_eq_getElem hml] at hz'
      have := List.not_of_lt_findIdx hm
      exact (of_decide_eq_false this) (Option.some.inj hz')
end
end DL
/-! DZE: the end of a law of the guard variant with one lambda. -/
/-! DZF: min(xs, default=n) of a list of whole numbers. -/
namespace DL
open PySem PySem.Spec PyProof.Rows L2
theorem alikeAll_intsL (l : List Int) : PySem.W.AlikeAll (l.map PyData.int) := ⟨fun x hx y hy => by
  obtain ⟨_, _, rfl⟩ := List.mem_map.mp hx
  obtain ⟨_, _, rfl⟩ := List.mem_map.mp hy
  rfl, fun x hx e => by
  obtain ⟨_, _, rfl⟩ := List.mem_map.mp hx
  cases e⟩
theorem depth_intsL : ∀ l : List Int, PyData.depthAll (l.map PyData.int) ≤ 1
  | [] => Nat.zero_le _
  | x :: l => Nat.max_le.mpr ⟨Nat.zero_le 1, depth_intsL l⟩
theorem fold_min : ∀ (l : List Int) (n : Int), (l.foldl min n = n ∨ l.foldl min n ∈ l) ∧ l.foldl min n ≤ n ∧ ∀ y ∈ l, l.foldl min n ≤ y
  | [], n => ⟨.inl rfl, Int.le_refl _, fun _ h => nomatch h⟩
  | x :: l, n => by
    obtain ⟨h1, h2, h3⟩ := fold_min l (min n x)
    rw [List.foldl_cons]
    refine ⟨?_, by omega, fun y hy => ?_⟩
    · rcases h1 with h1 | h1
      · rw [h1]
        rcases Int.le_total n x with h | h
        · rw [Int.min_eq_left h]; exact .inl rfl
        · rw [Int.min_eq_right h]; exact .inr (by simp)
      · exact .inr (List.mem_cons_of_mem _ h1)
    · rcases List.mem_cons.mp hy with rfl | hy
      · omega
      · exact h3 y hy
theorem dpAll_intsL {K : PySem.W.Frag} {H : Hp} : ∀ l : List Int, DpAll K H (l.map V.int) (l.map PyData.int)
  | [] => .nil
  | _ :: l => .cons (.int _) (dpAll_intsL l)
def rMinZ (K : PySem.W.Frag) (z : Int) (v : V) (H : Hp) (Q : VK) : Prop := ∃ (a : Addr) (ns : List Int), v = .ref a ∧ SqL K H a (ns.map V.int) ∧ (ns = [] → Q (.int z) H) ∧ ∀ m, m ∈ ns → (∀ y, y ∈ ns → m ≤ y) → Q (.int m) H
section
variable {X : Cx}
theorem pe_minZ {k : Nat} {e : Expr} {te : TE} {z : Int} {j : Nat} {p p6 pos kp : Pos} (hr : Room k X.A) (hc : X.calm = true) (he : PE X e te) (hg : Gl X "min") (hm : X.mg "min" = none)
    (hst : backTo pos (starEach [e] X.env) = (false, eval e X.env) :: backTo pos (starEach [] X.env) := by rfl) (hpl : (backTo pos (starEach [e] X.env)).any (·.1) = false := by rfl)
    (hall : (backToKw pos (keywordEach [⟨some "default", .Constant (.int z) j p6, kp⟩] X.env)).all (·.1.isSome) = true := by rfl)
    (hnone : (backToKw pos (keywordEach [⟨some "default", .Constant (.int z) j p6, kp⟩] X.env)).any (·.1.isNone) = false := by rfl)
    (hks : (backToKw pos (keywordEach [⟨some "default", .Constant (.int z) j p6, kp⟩] X.env)).filterMap (·.1) = [Str.ofString "default"] := by rfl) :
    PE X (.Call (.Name "min" p) [e] [⟨some "default", .Constant (.int z) j p6, kp⟩] pos) (fun σ H Q => te σ H fun v H1 => rMinZ X.K z v H1 Q) := by
  refine ⟨fun pins s σ H Q I h => ?_⟩
  refine wpAny_Call_Name_kw (ld_blt (u := .builtin "min") I hg hm (by decide +kernel) ?_)
  refine PyProof.Rows.callWith_kw ?_ hst hpl hall hnone
  rw [hks]
  rw [hst]
  refine Calls.spliced_cons (thn (he.run pins s σ H _ I h) fun u s1 ⟨v, H1, I1, r1, q1⟩ => Calls.spliced_nil ?_)
  show wpAny _ _ (evalAll [do let v ← eval (.Constant (.int z) j p6) X.env; standAt pos; pure v]) _ _ s1
  refine wpAny_evalAll_cons (wpAny_bind (wpAny_Constant_int (wpAny_bind (wpAny_standAt (wpAny_pure (wpAny_evalAll_nil ?_))))))
  obtain ⟨a, ns, rfl, hs, h0, h1⟩ := q1
  rw [show u = Value.ref a from r1]
  have I2 := I1.tok (s1.toks + 1)
  obtain ⟨its, rv, hp, hz⟩ := I2.list hs
  obtain ⟨as, ra⟩ := Dp.readsAll I2 (ns.map PyData.int) (ns.map V.int) its (dpAll_intsL ns) rv
  have hu := hr.units
  refine PySem.W.min_list_default (I2.ok.hd hc) hp.isList (by simpa using ra) (alikeAll_intsL ns) (by have := depth_intsL ns; show X.A.units + 1 + _ < cLine; omega) (fun hd0 h' tk g => ?_) fun y ys i v h' tk bs hds hv hrd g => ?_
  · exact ⟨.int z, H1, I2.kept g, ⟨_, rfl⟩, h0 (List.map_eq_nil_iff.mp hd0)⟩
  · cases ns with
    | nil => cases hds
    | cons n ns =>
      rw [List.map_cons] at hds
      injection hds with e1 e2
      subst e1 e2
      rw [PySem.W.minD_ints] at hrd
      obtain ⟨f1, f2, f3⟩ := fold_min ns n
      have hv' : its[i]? = some v := by simpa using hv
      cases hrd with
      | int _ t =>
        refine ⟨.int (ns.foldl min n), H1, I2.kept g, ⟨_, rfl⟩, h1 _ ?_ fun y hy => ?_⟩
        · rcases f1 with f1 | f1
          · rw [f1]; simp
          · exact List.mem_cons_of_mem _ f1
        · rcases List.mem_cons.mp hy with rfl | hy
          · exact f2
          · exact f3 y hy
/-- min(e, default=z) -/
def dMinZ (z : Int) (e : DT) : DT := fun g r f Q => e g r f fun d f1 => ∃ ns : List Int, d = .lst (ns.map D.int) ∧ (ns = [] → Q (.int z) f1) ∧ ∀ m, m ∈ ns → (∀ y, y ∈ ns → m ≤ y) → Q (.int m) f1
theorem snd_minZ {K : PySem.W.Frag} {z : Int} {t : TE} {d : DT} (h : Snd K t d) : Snd K (fun σ H Q => t σ H fun v H1 => rMinZ K z v H1 Q) (dMinZ z d) := fun g ro f st H Hs Q Q' A hq hd =>
  h g ro f st H Hs _ _ A (fun x f1 v H1 Hs1 s1 k1 r1 q1 => by
    obtain ⟨ns, rfl, q0, q1⟩ := q1
    obtain ⟨a, vs, rfl, h1, h2⟩ := r1
    have e := RpA.intsL h2
    subst e
    exact ⟨a, ns, rfl, SqL.of (s1.sub _ _ h1), fun e => hq (.int z) f1 _ H1 Hs1 s1 k1 rfl (q0 e), fun m h3 h4 => hq (.int m) f1 _ H1 Hs1 s1 k1 rfl (q1 m h3 h4)⟩) hd
theorem de_minZ {k : Nat} {e : Expr} {d : DT} {z : Int} {j : Nat} {p p6 pos kp : Pos} (hr : Room k X.A) (hm : X.mg "min" = none) (he : DE X e d) (hc : X.calm = true := by rfl) (hg : Gl X "min" := by rfl)
    (hst : backTo pos (starEach [e] X.env) = (false, eval e X.env) :: backTo pos (starEach [] X.env) := by rfl) (hpl : (backTo pos (starEach [e] X.env)).any (·.1) = false := by rfl)
    (hall : (backToKw pos (keywordEach [⟨some "default", .Constant (.int z) j p6, kp⟩] X.env)).all (·.1.isSome) = true := by rfl)
    (hnone : (backToKw pos (keywordEach [⟨some "default", .Constant (.int z) j p6, kp⟩] X.env)).any (·.1.isNone) = false := by rfl)
    (hks : (backToKw pos (keywordEach [⟨some "default", .Constant (.int z) j p6, kp⟩] X.env)).filterMap (·.1) = [Str.ofString "default"] := by rfl) :
    DE X (.Call (.Name "min" p) [e] [⟨some "default", .Constant (.int z) j p6, kp⟩] pos) (dMinZ z d) :=
  .mk' (pe_minZ hr hc he.pe hg hm hst hpl hall hnone hks) (snd_minZ he.sn)
end
end DL
/-! DZG: several except clauses with names; a if c else b where both may raise. -/
namespace DL
open PySem PySem.Spec PyProof.Rows L2
/-- what the clauses wish, one after the other -/
def wKpN (K : PySem.W.Frag) (Wout : WX) (D : Ends) : List (Value × Nat × TS) → WX
  | [] => Wout
  | (c, i, ts) :: l => fun cls d st H => ∃ b, PySem.W.exmOne K cls c = some b ∧
    (b = true → ∃ C dd, cls = .ref C ∧ d = some dd ∧ ∀ a, H a = none → ts { nx := fun st' H' => D.nx (st'.set i none) H', rt := D.rt, bk := fun st' H' => D.bk (st'.set i none) H', ct := fun st' H' => D.ct (st'.set i none) H' } (st.set i (some (.ref a))) (upd H a (ExK C dd a))) ∧
    (b = false → wKpN K Wout D l cls d st H)
inductive HdsK (X : Cx) : List ExceptHandler → List (Value × Nat × TS) → Prop
  | nil : HdsK X [] []
  | cons {x n : Str} {c : Value} {i : Nat} {ts : TS} {b₀ : Stmt} {suite : List Stmt} {np pos' : Pos} {hds : List ExceptHandler} {l : List (Value × Nat × TS)} (hc : Names X x c) (hi : X.N[i]? = some n) (hln : X.env.kindOf n = some .local)
      (hsu : ∀ (a : Addr) (pn : List (Addr × Obj)), PSs (X.suite a pn) (b₀ :: suite) ts) (r : HdsK X hds l) : HdsK X (.ExceptHandler (some (.Name x np)) (some n) (b₀ :: suite) pos' :: hds) ((c, i, ts) :: l)
section
variable {X : Cx} {body : List Stmt} {h₀ : ExceptHandler} {hds : List ExceptHandler} {l : List (Value × Nat × TS)} {pos : Pos} {tb : WX → TS} {Wout : WX}
theorem ps_try_keepN (hs : X.stack = X.env :: X.outer) (hf : X.env.frame = some X.env.locals) (hN : X.N.Nodup) (tk : Takes X Wout)
    (hb : ∀ (W : WX) (pn : List (Addr × Obj)) (xe : Value → Shared → Prop), Takes (X.tr pn xe) W → PassesOwn (model X.prog X.w) X.A X.env xe → PSs (X.tr pn xe) body (tb W)) (hh : HdsK X (h₀ :: hds) l) :
    PS X (.Try body (h₀ :: hds) [] [] pos) (fun D st H => tb (wKpN X.K Wout D l) D st H) := by
  refine ⟨fun pins s st H D I h => wpAny_Try_except ?_⟩
  have ok := I.ok
  have run := (hb (wKpN X.K Wout D l) (X.pn ++ pins) (fun e s₁ => wpAny (model X.prog X.w) X.A (noteFrame e X.env) (fun _ s₂ => wpAny (model X.prog X.w) X.A (setFlight e none) (fun _ s₃ =>
    wpAny (model X.prog X.w) X.A (handleBy e X.env (h₀ :: hds)) (SP X pins D) X.xe s₃) X.xe s₂) X.xe s₁) ?_ PassesOwn.looking).run [] s st H D (I.toTry _) h
  · refine wpAny_mono run (fun f s1 hsp => ?_) (fun e s1 he => he)
    cases f with
    | next => obtain ⟨st', H', J', q⟩ := hsp; exact wpAny_execs_nil ⟨st', H', J'.ofTry ok, q⟩
    | brk => obtain ⟨st', H', J', q⟩ := hsp; exact ⟨st', H', J'.ofTry ok, q⟩
    | cont => obtain ⟨st', H', J', q⟩ := hsp; exact ⟨st', H', J'.ofTry ok, q⟩
    | ret u => obtain ⟨v, st', H', J', r, q⟩ := hsp; exact ⟨v, st', H', J'.ofTry ok, r, q⟩
  intro u s' xx
  obtain ⟨a, B, sI, pins', st', H', cls, d, rfl, J', nb, up, sky, na, os, ag, w⟩ := xx
  have J : Inv X pins st' H' sI := J'.ofTry ok
  show wpAny (model X.prog X.w) X.A (noteFrame (.ref a) X.env) _ _ _
  refine Sky.land Zc.steady (by rw [ok.frames, hs]) hf (by rw [← hs]; exact sky) fun h3 fl3 up3 => ?_
  have land : ∀ {h : Heap}, HandSPX.FlyingZ B (X.env :: X.outer) a (Zc cls d) h → s'.heap.UpToSlots h → Inv X pins st' H' { s' with heap := h } := fun fl up' => J.landed nb fl.1 (up.trans up') os ag
  have J3 := land fl3 up3
  obtain ⟨oe3, vs3, he3, hz3, hd3⟩ := fl3.there
  have T3 : Inv (X.suite a (X.pn ++ pins)) [] st' H' { s' with heap := h3 } := inSuite J3
  have go : ∀ {hds' : List ExceptHandler} {l' : List (Value × Nat × TS)}, HdsK X hds' l' → wKpN X.K Wout D l' cls d st' H' → wpAny (model X.prog X.w) X.A (handleBy (.ref a) X.env hds') (SP X pins D) X.xe { s' with heap := h3 } := by
    intro hds' l' hk
    induction hk with
    | nil =>
      intro w
      refine wpAny_handleBy_nil ?_
      obtain ⟨k1, k2, k3, oe, vs, T, oT, ts', he, hz, hd, h1, hr⟩ := id fl3
      unfold PySem.passOn
      refine wpAny_bind (wpAny_field he hd h1 ?_)
      rw [if_neg (show ¬ ((Value.ref T == Value.none) = true) from by simp)]
      have fin : wpAny (model X.prog X.w) X.A (setFlight (.ref a) X.env.frame) (fun _ s4 => wpAny (model X.prog X.w) X.A (throw (.ref a) : Sem Flow) (SP X pins D) X.xe s4) X.xe { s' with heap := h3 } := by
        rw [hf]
        refine HandSPX.setFlight_upZ fl3 fun h4 hh4 up4 => wpAny_throw (tk _ _ ?_)
        exact ⟨a, B, sI, pins, st', H', cls, d, rfl, J, nb, (up.trans up3).trans up4, .inr (.inr (by rw [hs]; exact hh4)), na, os, ag, w⟩
      first
        | exact wpAny_bind (wpAny_pure (wpAny_bind fin))
        | exact wpAny_bind fin
    | @cons x n c i ts b₀ suite np pos' hds2 l2 hc hi hln hsu r ih =>
      intro w
      obtain ⟨b, hb1, hyes, hno⟩ := w
      refine wpAny_handleBy_cons (codeAny_handlers_test ?_) (by intro q; cases q)
      have LT : PySem.W.Looks (model X.prog X.w) h3 (typeOf (.ref a)) cls := fun A Q E s k q => wpAny_typeOf_ref (k _ _ he3) (by rw [hz3.1]; exact q)
      have test : ∀ {Q : Value → Shared → Prop} {E : Value → Shared → Prop}, Q c { s' with heap := h3 } → wpAny (model X.prog X.w) (X.A.mark (some (.ref a))) (eval (.Name x np) X.env) Q E { s' with heap := h3 } := fun {Q E} q => by
        obtain ⟨hg, hdbg, hm | ⟨hm, hv, hnn⟩⟩ := hc
        · exact ld_glob T3 hg hm q hdbg
        · exact ld_blt T3 hg hm hv q hnn hdbg
      refine test ((PySem.W.exm_one (M := model X.prog X.w) J3.kIn LT hb1).here ?_)
      cases b with
      | false =>
        show wpAny _ X.A (handleBy (.ref a) X.env hds2) _ _ _
        exact ih (hno rfl)
      | true =>
        obtain ⟨C, dd, rfl, rfl, hts⟩ := hyes rfl
        refine codeAny_handlers_suite_as (HandSPX.lands_againZ fl3 fun h4 fl4 up4 => ?_)
        have J4 := land fl4 (up3.trans up4)
        have S4 : Inv (X.suite a (X.pn ++ pins)) [] st' (upd H' a (ExK C dd a)) { s' with heap := h4 } := inSuite (caught_in hs hf J nb J4 fl4 na)
        refine store_ok (X := X.suite a (X.pn ++ pins)) (v := .ref a) S4 hN hi (.inl hln) rfl (fun s5 S5 => ?_) (.inr hln)
        refine wpAny_mono ((hsu a (X.pn ++ pins)).run [] s5 _ _ _ S5 (hts a na)) (fun f s6 hsp => ?_) (fun _ _ z => False.elim z)
        cases f with
        | next => obtain ⟨st6, H6, S6, q6⟩ := hsp; exact gone_ok (outSuite S6 ok) hN hi hln fun s7 J7 => ⟨_, _, J7, q6⟩
        | brk => obtain ⟨st6, H6, S6, q6⟩ := hsp; exact gone_ok (outSuite S6 ok) hN hi hln fun s7 J7 => ⟨_, _, J7, q6⟩
        | cont => obtain ⟨st6, H6, S6, q6⟩ := hsp; exact gone_ok (outSuite S6 ok) hN hi hln fun s7 J7 => ⟨_, _, J7, q6⟩
        | ret u => obtain ⟨v6, st6, H6, S6, r6, q6⟩ := hsp; exact gone_ok (outSuite S6 ok) hN hi hln fun s7 J7 => ⟨_, _, _, J7, r6, q6⟩
  exact go hh w
end
section
variable {X : Cx} {K : PySem.W.Frag} {W : WX}
/-- the clauses over data: which names each takes, the slot, the suite -/
def xcN (E : DEnds) (g : Option Dk) : List ((Str → Option Bool) × Nat × DTS) → D → Sg → Nat → Prop
  | [], x, r, f => E.xc x r f
  | (m, i, su) :: l, x, r, f => match x with
    | .obj n ns xs => ∃ b, m n = some b ∧ (b = true → ns ≠ [] ∧ su g (r.set i (.sh (.exn n ns xs))) f { nx := fun r2 f2 => E.nx (r2.set i .no) f2, rt := E.rt, bk := fun r2 f2 => E.bk (r2.set i .no) f2, ct := fun r2 f2 => E.ct (r2.set i .no) f2 }) ∧ (b = false → xcN E g l x r f)
    | _ => False
def sTryN (l : List ((Str → Option Bool) × Nat × DTS)) (body : DTS) : DTS := fun g r f E => body g r f { nx := E.nx, rt := E.rt, bk := E.bk, ct := E.ct, xc := xcN E g l }
inductive HdsD (X : Cx) : List ExceptHandler → List ((Str → Option Bool) × Nat × DTS) → List Value → Prop
  | nil : HdsD X [] [] []
  | cons {x n : Str} {c : Value} {i : Nat} {m : Str → Option Bool} {ds : DTS} {b₀ : Stmt} {suite : List Stmt} {np pos' : Pos} {hds : List ExceptHandler} {l : List ((Str → Option Bool) × Nat × DTS)} {cs : List Value} (hc : Names X x c) (hm : Cat X.K c m)
      (hsu : ∀ (a : Addr) (pn : List (Addr × Obj)), DSs (X.suite a pn) (b₀ :: suite) ds) (r : HdsD X hds l cs) (hi : X.N[i]? = some n := by rfl) (hln : X.env.kindOf n = some .local := by rfl) : HdsD X (.ExceptHandler (some (.Name x np)) (some n) (b₀ :: suite) pos' :: hds) ((m, i, ds) :: l) (c :: cs)
def tsN (K : PySem.W.Frag) : List ((Str → Option Bool) × Nat × DTS) → List Value → List (Value × Nat × TS)
  | (_, i, ds) :: l, c :: cs => (c, i, sOf K (fun _ _ _ _ => False) ds) :: tsN K l cs
  | _, _ => []
theorem hds_k {hds : List ExceptHandler} {l : List ((Str → Option Bool) × Nat × DTS)} {cs : List Value} (h : HdsD X hds l cs) : HdsK X hds (tsN X.K l cs) := by
  induction h with
  | nil => exact .nil
  | cons hc hm hsu r hi hln ih => exact .cons hc hi hln (fun a pn => ⟨fun pins s st H D I h => (hsu a pn).ps.run pins s st H D I (sOf_mono (fun _ _ _ _ w => w.elim) h)⟩) ih
theorem hds_w {hds : List ExceptHandler} {l : List ((Str → Option Bool) × Nat × DTS)} {cs : List Value} (hh : HdsD X hds l cs) {g : Option Dk} {H0 Hs0 : Hp} {Dn : Ends} {E : DEnds} (e : EndsOk X.K W g H0 Hs0 E Dn) {x : D} {r' : Sg} {f' : Nat} {st' : L2.St} {H' Hs' : Hp} {cls : Value} {d : Option Addr}
    (q : SIn X.K g H0 Hs0 r' f' st' H' Hs') (hx : ExR X.K H' Hs' x cls d) (h : xcN E g l x r' f') : wKpN X.K W Dn (tsN X.K l cs) cls d st' H' := by
  induction hh with
  | nil => exact e.xc x r' f' st' H' cls d ⟨Hs', q, hx⟩ h
  | @cons x2 n c i m ds b₀ suite np pos' hds2 l2 cs2 hc hm hsu r hi hln ih =>
    unfold xcN at h
    cases x <;> try exact h.elim
    rename_i n' ns xs
    obtain ⟨b, h1, h2, h3⟩ := h
    have hx' := hx
    obtain ⟨C, q1, rfl, hx2⟩ := hx'
    refine ⟨b, hm.ok n' b C h1 q1, fun hb' => ?_, fun hb' => ih (h3 hb')⟩
    obtain ⟨hne, h2⟩ := h2 hb'
    rcases hx2 with ⟨z, _⟩ | ⟨dd, vs, rfl, hdd, hl, hv⟩
    · exact absurd z hne
    refine ⟨C, dd, rfl, rfl, fun a ha => ?_⟩
    have al : Stp none H' Hs' (upd H' a (ExK C dd a)) (upd Hs' a (ExK C dd a)) := Stp.alloc q.stp.sub ha
    have ne : dd ≠ a := fun z => by
      have := q.stp.sub _ _ hdd
      rw [z, ha] at this
      cases this
    exact ⟨g, H0, Hs0, r'.set i (.sh (.exn n' ns xs)), f', { nx := fun r2 f2 => E.nx (r2.set i .no) f2, rt := E.rt, bk := fun r2 f2 => E.bk (r2.set i .no) f2, ct := fun r2 f2 => E.ct (r2.set i .no) f2 },
      ⟨_, (q.afterHid al.gen (q.dk.stp al)).set i (d := .exn n' ns xs) (v := .ref a) ⟨C, a, dd, vs, q1, rfl, upd_same, by rw [upd_ne ne]; exact hdd, hl, hv.mono al.ext⟩⟩,
      ⟨fun r f st H ⟨Hs, q⟩ h => e.nx _ f _ H ⟨Hs, q.unset i⟩ h, e.rt, fun r f st H ⟨Hs, q⟩ h => e.bk _ f _ H ⟨Hs, q.unset i⟩ h, fun r f st H ⟨Hs, q⟩ h => e.ct _ f _ H ⟨Hs, q.unset i⟩ h, fun _ _ _ _ _ _ _ _ z => z.elim⟩, h2⟩
theorem ds_tryN {h₀ : ExceptHandler} {hds : List ExceptHandler} {l : List ((Str → Option Bool) × Nat × DTS)} {cs : List Value} {body : List Stmt} {pos : Pos} {db : DTS} (hs : X.stack = X.env :: X.outer) (hf : X.env.frame = some X.env.locals) (hN : X.N.Nodup)
    (hb : ∀ (pn : List (Addr × Obj)) (xe : Value → Shared → Prop), PassesOwn (model X.prog X.w) X.A X.env xe → DSs (X.tr pn xe) body db) (hh : HdsD X (h₀ :: hds) l cs) : DS X (.Try body (h₀ :: hds) [] [] pos) (sTryN l db) := by
  refine .mk' (ps_try_keepN (tb := fun W => sOf X.K W db) hs hf hN (takes_wx X) (fun W pn xe tk po => ⟨fun pins s st H D I h => (hb pn xe po).ps.run pins s st H D I (sOf_mono (fun cls d st H w => wx_of tk w) h)⟩) (hds_k hh)) fun g H0 Hs0 r f st H D E s e hd => ?_
  exact ⟨g, H0, Hs0, r, f, { nx := E.nx, rt := E.rt, bk := E.bk, ct := E.ct, xc := xcN E g l }, s, ⟨e.nx, e.rt, e.bk, e.ct, fun x r' f' st' H' cls d ⟨Hs', q, hx⟩ h => hds_w hh e q hx h⟩, hd⟩
/-! a if c else b, where a and b may raise -/
def dIfX (t : DTT) (a b : DTX) : DTX := fun g r f Q E => t g r f fun c f1 => if c = true then a g r f1 Q E else b g r f1 Q E
theorem dex_ifExp {c a b : Expr} {pos : Pos} {dt : DTT} {da db : DTX} (hc : DP X c dt) (ha : DEX X a da) (hb : DEX X b db) : DEX X (.IfExp c a b pos) (dIfX dt da db) := .mk' (pe_ifExp hc.pt ha.pe hb.pe) fun g r f st H Hs Q Q' E' A h1 h2 hd => by
  refine hc.sn g r f st H Hs _ _ A (fun c f1 H1 Hs1 s1 k1 q1 => ?_) hd
  cases c with
  | true =>
    rw [if_pos rfl] at q1 ⊢
    exact ha.sn g r f1 st H1 Hs1 Q Q' E' (A.step s1 k1) (fun d f' v H' Hs' s2 k2 r2 q2 => h1 d f' v H' Hs' (s1.trans s2) k2 r2 q2) (fun x f' cls d H' Hs' s2 k2 x2 q2 => h2 x f' cls d H' Hs' (s1.trans s2) k2 x2 q2) q1
  | false =>
    rw [if_neg (by decide)] at q1 ⊢
    exact hb.sn g r f1 st H1 Hs1 Q Q' E' (A.step s1 k1) (fun d f' v H' Hs' s2 k2 r2 q2 => h1 d f' v H' Hs' (s1.trans s2) k2 r2 q2) (fun x f' cls d H' Hs' s2 k2 x2 q2 => h2 x f' cls d H' Hs' (s1.trans s2) k2 x2 q2) q1
/-- y = {..} where inner scopes read y: the slot owns the dict -/
theorem ds_setDcC {i : Nat} {y : Str} {py : Pos} {kx vx tg iter : Expr} {ifs : List Expr} {scope : Scope} {own : List (Str × Nat)} {pos spos : Pos} {is : List Nat} {di : DTA} {t : TgF} {c : DTT} {k e : DT} (hN : X.N.Nodup) (hi : DI X tg iter di) (ok : BlkOk X.N X.env.scope scope own)
    (hg : ∀ (s : Shared) (H : Hp) (C : Addr) (cl : List (Str × Addr)) (fp : List Addr), DG (X.blk s H scope (compEnvC scope cl C X.env) fp) tg is t) (ht : ∀ (s : Shared) (H : Hp) (C : Addr) (cl : List (Str × Addr)) (fp : List Addr), DTs (X.blk s H scope (compEnvC scope cl C X.env) fp) ifs c)
    (hk : ∀ (s : Shared) (H : Hp) (C : Addr) (cl : List (Str × Addr)) (fp : List Addr), DE (X.blk s H scope (compEnvC scope cl C X.env) fp) kx k)
    (he : ∀ (s : Shared) (H : Hp) (C : Addr) (cl : List (Str × Addr)) (fp : List Addr), DE (X.blk s H scope (compEnvC scope cl C X.env) fp) vx e)
    (hy : X.N[i]? = some y := by rfl) (hx : Loc X.env.scope y := by first | exact Or.inl rfl | exact Or.inr rfl) (hc : X.calm = true := by rfl)
    (hsw : swapsWith (.DictComp kx vx [⟨tg, iter, ifs, 0⟩] scope pos) (some (.Name y py)) spos.line X.env = pure false := by rfl) (hs : ∀ x, foldedSetIterable iter X.env x = pure x := by intro _; rfl) (hsub : ∀ j ∈ is, j ∈ own.map (·.2) := by decide)
    (hf : X.fn y = true ∨ X.env.scope.names.lookup y = some .local := by first | exact .inl rfl | exact .inr rfl | assumption) :
    DS X (.Assign [.Name y py] (.DictComp kx vx [⟨tg, iter, ifs, 0⟩] scope pos) spos) (sSetDc i (dDc di t c k e (own.map (·.2)))) :=
  DS.mk' (ps_set hN hy hx (pe_dc (g := gOf X.K is t) (tt := tOfT X.K c) (tk := tOf X.K k) (tv := tOf X.K e) hc hN hi.pi ok (fun s H C cl fp => (hg s H C cl fp).pg) (fun s H C cl fp => (ht s H C cl fp).pt) (fun s H C cl fp => (hk s H C cl fp).pe) (fun s H C cl fp => (he s H C cl fp).pe) hs) hsw hf)
    (snd_setDc (snd_dc hi.sn (hg X.s_0 (fun _ => none) 0 [] []).sn (ht X.s_0 (fun _ => none) 0 [] []).sn (hk X.s_0 (fun _ => none) 0 [] []).sn (he X.s_0 (fun _ => none) 0 [] []).sn hsub))
/-! a, b = {}, e, a cell among them: the first owns -/
/-! y = a[e], e reads what slots own -/
def sSetIxO (i : Nat) (a b : DT) : DTS := fun g r f E => evM false a g r f fun x f1 => evM true b g r f1 fun y f2 => oIx x y fun z => E.nx (r.set i (.sh z)) f2
theorem ds_setIxO {i : Nat} {x : Str} {a b : Expr} {spos pos pos' : Pos} {da db : DT} (hN : X.N.Nodup) (ha : DE X a da) (hb : DE X b db) (hi : X.N[i]? = some x := by rfl) (hx : Loc X.env.scope x := by first | exact Or.inl rfl | exact Or.inr rfl)
    (hpl : PlainIx b := by exact fun _ _ => rfl) (hs : swapsWith (.Subscript a b spos) (some (.Name x pos')) pos.line X.env = pure false := by rfl) (hf : X.fn x = true ∨ X.env.scope.names.lookup x = some .local := by first | exact .inl rfl | exact .inr rfl | assumption) :
    DS X (.Assign [.Name x pos'] (.Subscript a b spos) pos) (sSetIxO i da db) := .mk' (ps_set hN hi hx (pe_ix ix_seq ha.pe hb.pe hpl) hs hf) fun g H0 Hs0 r f st H D E s e hd => by
  obtain ⟨Hs, s⟩ := s
  refine snd_evM ha.sn (m := false) s (fun x f1 v H1 Hs1 s1 e1 r1 q1 => ?_) hd
  refine snd_evM hb.sn (m := true) s1 (fun y f2 w H2 Hs2 s2 e2 r2 q2 => ?_) q1
  exact sr_ix H2 Hs2 x y v w _ (fun z => E.nx (r.set i (.sh z)) f2) s2.stp.sub (r1.mono e2) r2 (fun z u H3 Hs3 s3 r3 q3 => e.nx _ f2 _ H3 ⟨_, (s2.afterHid s3.gen (s2.dk.stp s3)).set i r3⟩ q3) q2
end
end DL
namespace DL
open PySem PySem.Spec PyProof.Rows L2
def topS (i : Nat) : Stmt := PySem.Challenge.pw_mayrest_k62_towers.main.body.getD i (.Pass ⟨0, 0, 0, 0⟩)
def clsS (i j : Nat) : Stmt := match topS i with
  | .ClassDef _ _ _ b _ _ _ _ _ _ _ => b.getD j (.Pass ⟨0, 0, 0, 0⟩)
  | s => s
abbrev s__law_draw : Stmt := topS 42
abbrev s__law_pick : Stmt := topS 43
abbrev s__law_names : Stmt := topS 44
abbrev s__law_areas : Stmt := topS 45
abbrev s_is_name : Stmt := topS 7
abbrev s_is_path : Stmt := topS 8
abbrev s_covers : Stmt := topS 9
abbrev s_overlap : Stmt := topS 10
abbrev s_first_overlap : Stmt := topS 12
abbrev s_modules_error : Stmt := topS 35
abbrev s__law_shuffled : Stmt := topS 50
abbrev s_covered : Stmt := topS 11
abbrev s_is_pair : Stmt := topS 34
abbrev s_uses_error : Stmt := topS 36
abbrev s_program_error : Stmt := topS 37
abbrev s_parts_of : Stmt := topS 38
abbrev s_Program___init__ : Stmt := clsS 39 0
abbrev s_Program_modules : Stmt := clsS 39 1
abbrev s_owners_of : Stmt := topS 25
abbrev s_Program_uses : Stmt := clsS 39 2
abbrev s_counts_of : Stmt := topS 26
abbrev s_steps_to : Stmt := topS 14
abbrev s_ring_from : Stmt := topS 28
abbrev s__law_modules : Stmt := topS 46
abbrev s__law_covers : Stmt := topS 48
abbrev s__law_uses : Stmt := topS 47
abbrev s__law_ranked : Stmt := topS 51
abbrev s__law_within : Stmt := topS 49
abbrev s__law_rests : Stmt := topS 52
abbrev s_look_over : Stmt := topS 24
abbrev s_rests_of : Stmt := topS 27
abbrev s_first_ring : Stmt := topS 29
abbrev s_x_Circular : Stmt := clsS 19 0
abbrev s_checked_rests : Stmt := topS 30
abbrev s_levels : Stmt := topS 31
abbrev s_tower : Stmt := topS 32
abbrev s__law_told : Stmt := topS 54
abbrev s__law_ringed : Stmt := topS 53
abbrev s__law_highest : Stmt := topS 55
abbrev s__law_stream : Stmt := topS 41
abbrev s_law : Stmt := topS 56
section
set_option maxHeartbeats 0
def exs0 : List FrB := [fun K => decide (PySem.W.nsIn K mainGlobals "Program" = some (some (.ref (He.ga K "Program")))),
  fun K => PySem.W.plainGet K (He.ga K "Program") Str.empty,
  fun K => PySem.W.hasDictIn K (He.ga K "Program"),
  fun K => PySem.W.plainOver K (He.ga K "Program"),
  fun K => decide (PySem.W.findIn K (.ref (He.ga K "Program")) "__setattr__" = some (some (.builtin "object.__setattr__"))),
  fun K => decide (PySem.W.findIn K (.ref (He.ga K "Program")) "__class__" = some (some (.builtin "object.__class__"))),
  fun K => decide (PySem.W.specialIn K (.builtin "object.__class__") "__get__" = some (some (.builtin "getset_descriptor.__get__"))),
  fun K => decide (PySem.W.takesIn K (.builtin "object.__class__") = some true),
  fun K => decide (PySem.W.mroIn K (He.ga K "Program") (.type "object") = some true),
  fun K => decide (PySem.W.subIn K (.ref (He.ga K "Program")) (.type "tuple") = some false),
  fun K => decide (PySem.W.subIn K (.ref (He.ga K "Program")) (.type "str") = some false),
  fun K => decide (PySem.W.nsIn K mainGlobals "Circular" = some (some (.ref (He.ga K "Circular"))))]
def exs1 : List FrB := [fun K => decide (PySem.W.nsIn K mainGlobals "Overlap" = some (some (.ref (He.ga K "Overlap")))),
  fun K => decide (PySem.W.findIn K (.ref (He.ga K "Circular")) "__getattribute__" = some (some (.builtin "BaseException.__getattribute__"))),
  fun K => decide (PySem.W.findIn K (.ref (He.ga K "Circular")) "__getattr__" = some none),
  fun K => decide (PySem.W.subIn K (.ref (He.ga K "Circular")) (.type "BaseException") = some true),
  fun K => PySem.W.hasDictIn K (He.ga K "Circular"),
  fun K => decide (PySem.W.findIn K (.ref (He.ga K "Circular")) "__class__" = some (some (.builtin "object.__class__"))),
  fun K => decide (PySem.W.specialIn K (.builtin "object.__class__") "__get__" = some (some (.builtin "getset_descriptor.__get__"))),
  fun K => decide (PySem.W.takesIn K (.builtin "object.__class__") = some true),
  fun K => decide (PySem.W.mroIn K (He.ga K "Circular") (.type "object") = some true),
  fun K => decide (PySem.W.findIn K (.ref (He.ga K "Overlap")) "__getattribute__" = some (some (.builtin "BaseException.__getattribute__"))),
  fun K => decide (PySem.W.findIn K (.ref (He.ga K "Overlap")) "__getattr__" = some none),
  fun K => decide (PySem.W.subIn K (.ref (He.ga K "Overlap")) (.type "BaseException") = some true)]
def exs2 : List FrB := [fun K => PySem.W.hasDictIn K (He.ga K "Overlap"),
  fun K => decide (PySem.W.findIn K (.ref (He.ga K "Overlap")) "__class__" = some (some (.builtin "object.__class__"))),
  fun K => decide (PySem.W.specialIn K (.builtin "object.__class__") "__get__" = some (some (.builtin "getset_descriptor.__get__"))),
  fun K => decide (PySem.W.takesIn K (.builtin "object.__class__") = some true),
  fun K => decide (PySem.W.mroIn K (He.ga K "Overlap") (.type "object") = some true),
  fun K => decide (PySem.W.exmOne K (.ref (He.ga K "Circular")) (.ref (He.ga K "Overlap")) = some false),
  fun K => decide (PySem.W.exmOne K (.ref (He.ga K "Circular")) (.ref (He.ga K "Circular")) = some true),
  fun K => decide (PySem.W.findIn K (.ref (He.ga K "Program")) "heads" = some none),
  fun K => decide (PySem.W.findIn K (.ref (He.ga K "Program")) "links" = some none),
  fun K => decide (PySem.W.findIn K (.ref (He.ga K "Program")) "places" = some none),
  fun K => decide (PySem.W.findIn K (.ref (He.ga K "Overlap")) "path" = some none),
  fun K => decide (PySem.W.findIn K (.ref (He.ga K "Circular")) "evidence" = some none)]
def exs3 : List FrB := [fun K => decide (PySem.W.findIn K (.ref (He.ga K "Circular")) "__setattr__" = some (some (.builtin "object.__setattr__"))),
  fun K => decide (PySem.W.subIn K (.ref (He.ga K "Circular")) (.type "BaseException") = some true),
  fun K => decide (PySem.W.typeIn K (.ref (He.ga K "Circular")) = some (.type "type")),
  fun K => PySem.W.keepIn K (.ref (He.ga K "Circular")),
  fun K => decide (PySem.W.findIn K (.ref (He.ga K "Circular")) "evidence" = some none),
  fun K => decide (PySem.W.findIn K (.ref (He.ga K "Circular")) "__init__" = some (some (.ref (He.ma K (He.ga K "Circular") "__init__")))),
  fun K => decide (PySem.W.typeIn K (.ref (He.ma K (He.ga K "Circular") "__init__")) = some (.type "function")),
  fun K => decide (PySem.W.nsIn K mainGlobals "_law_draw" = some (some (.ref (He.ga K "_law_draw")))),
  fun K => decide (PySem.W.nsIn K mainGlobals "_law_pick" = some (some (.ref (He.ga K "_law_pick")))),
  fun K => decide (PySem.W.nsIn K mainGlobals "_law_names" = some (some (.ref (He.ga K "_law_names")))),
  fun K => decide (PySem.W.nsIn K mainGlobals "_law_areas" = some (some (.ref (He.ga K "_law_areas")))),
  fun K => decide (PySem.W.nsIn K mainGlobals "is_name" = some (some (.ref (He.ga K "is_name"))))]
def exs4 : List FrB := [fun K => decide (PySem.W.nsIn K mainGlobals "is_path" = some (some (.ref (He.ga K "is_path")))),
  fun K => decide (PySem.W.nsIn K mainGlobals "covers" = some (some (.ref (He.ga K "covers")))),
  fun K => decide (PySem.W.nsIn K mainGlobals "overlap" = some (some (.ref (He.ga K "overlap")))),
  fun K => decide (PySem.W.nsIn K mainGlobals "first_overlap" = some (some (.ref (He.ga K "first_overlap")))),
  fun K => decide (PySem.W.nsIn K mainGlobals "modules_error" = some (some (.ref (He.ga K "modules_error")))),
  fun K => decide (PySem.W.nsIn K mainGlobals "_law_shuffled" = some (some (.ref (He.ga K "_law_shuffled")))),
  fun K => decide (PySem.W.nsIn K mainGlobals "covered" = some (some (.ref (He.ga K "covered")))),
  fun K => decide (PySem.W.nsIn K mainGlobals "is_pair" = some (some (.ref (He.ga K "is_pair")))),
  fun K => decide (PySem.W.nsIn K mainGlobals "uses_error" = some (some (.ref (He.ga K "uses_error")))),
  fun K => decide (PySem.W.nsIn K mainGlobals "program_error" = some (some (.ref (He.ga K "program_error")))),
  fun K => decide (PySem.W.nsIn K mainGlobals "parts_of" = some (some (.ref (He.ga K "parts_of")))),
  fun K => decide (PySem.W.findIn K (.ref (He.ga K "Program")) "__init__" = some (some (.ref (He.ma K (He.ga K "Program") "__init__"))))]
def exs5 : List FrB := [fun K => PySem.W.isFn K (.ref (He.ma K (He.ga K "Program") "__init__")),
  fun K => PySem.W.makesIn K (He.ga K "Program"),
  fun K => PySem.W.keepIn K (.ref (He.ga K "Program")),
  fun K => decide (PySem.W.findIn K (.ref (He.ga K "Program")) "modules" = some (some (.ref (He.ma K (He.ga K "Program") "modules")))),
  fun K => decide (PySem.W.specialIn K (.ref (He.ma K (He.ga K "Program") "modules")) "__get__" = some (some (.builtin "property.__get__"))),
  fun K => decide (PySem.W.takesIn K (.ref (He.ma K (He.ga K "Program") "modules")) = some true),
  fun K => decide (PySem.W.recIn K (He.ma K (He.ga K "Program") "modules") "property" = some (.ref (rcA K (He.ma K (He.ga K "Program") "modules") "property") :: (rcR K (He.ma K (He.ga K "Program") "modules") "property"))),
  fun K => decide (PySem.W.nsIn K mainGlobals "owners_of" = some (some (.ref (He.ga K "owners_of")))),
  fun K => decide (PySem.W.findIn K (.ref (He.ga K "Program")) "uses" = some (some (.ref (He.ma K (He.ga K "Program") "uses")))),
  fun K => decide (PySem.W.specialIn K (.ref (He.ma K (He.ga K "Program") "uses")) "__get__" = some (some (.builtin "property.__get__"))),
  fun K => decide (PySem.W.takesIn K (.ref (He.ma K (He.ga K "Program") "uses")) = some true),
  fun K => decide (PySem.W.recIn K (He.ma K (He.ga K "Program") "uses") "property" = some (.ref (rcA K (He.ma K (He.ga K "Program") "uses") "property") :: (rcR K (He.ma K (He.ga K "Program") "uses") "property")))]
def exs6 : List FrB := [fun K => decide (PySem.W.nsIn K mainGlobals "counts_of" = some (some (.ref (He.ga K "counts_of")))),
  fun K => decide (PySem.W.nsIn K mainGlobals "steps_to" = some (some (.ref (He.ga K "steps_to")))),
  fun K => decide (PySem.W.nsIn K mainGlobals "ring_from" = some (some (.ref (He.ga K "ring_from")))),
  fun K => decide (PySem.W.nsIn K mainGlobals "_law_modules" = some (some (.ref (He.ga K "_law_modules")))),
  fun K => decide (PySem.W.nsIn K mainGlobals "_law_covers" = some (some (.ref (He.ga K "_law_covers")))),
  fun K => decide (PySem.W.nsIn K mainGlobals "_law_uses" = some (some (.ref (He.ga K "_law_uses")))),
  fun K => decide (PySem.W.nsIn K mainGlobals "_law_ranked" = some (some (.ref (He.ga K "_law_ranked")))),
  fun K => decide (PySem.W.nsIn K mainGlobals "_law_within" = some (some (.ref (He.ga K "_law_within")))),
  fun K => decide (PySem.W.nsIn K mainGlobals "_law_rests" = some (some (.ref (He.ga K "_law_rests")))),
  fun K => decide (PySem.W.nsIn K mainGlobals "look_over" = some (some (.ref (He.ga K "look_over")))),
  fun K => decide (PySem.W.nsIn K mainGlobals "rests_of" = some (some (.ref (He.ga K "rests_of")))),
  fun K => decide (PySem.W.nsIn K mainGlobals "first_ring" = some (some (.ref (He.ga K "first_ring"))))]
def exs7 : List FrB := [fun K => decide (PySem.W.nsIn K mainGlobals "checked_rests" = some (some (.ref (He.ga K "checked_rests")))),
  fun K => decide (PySem.W.nsIn K mainGlobals "levels" = some (some (.ref (He.ga K "levels")))),
  fun K => decide (PySem.W.nsIn K mainGlobals "tower" = some (some (.ref (He.ga K "tower")))),
  fun K => decide (PySem.W.nsIn K mainGlobals "_law_told" = some (some (.ref (He.ga K "_law_told")))),
  fun K => decide (PySem.W.nsIn K mainGlobals "_law_ringed" = some (some (.ref (He.ga K "_law_ringed")))),
  fun K => decide (PySem.W.nsIn K mainGlobals "_law_highest" = some (some (.ref (He.ga K "_law_highest")))),
  fun K => decide (PySem.W.nsIn K mainGlobals "_law_stream" = some (some (.ref (He.ga K "_law_stream")))),
  fun K => decide (PySem.W.nsIn K mainGlobals "law" = some (some (.ref (He.ga K "law")))),
  fun K => decide (PySem.W.nsIn K mainGlobals "len" = some none),
  fun K => decide (PySem.W.nsIn K mainGlobals "int" = some none),
  fun K => decide (PySem.W.nsIn K mainGlobals "range" = some none),
  fun K => decide (PySem.W.nsIn K mainGlobals "all" = some none)]
def exs8 : List FrB := [fun K => decide (PySem.W.nsIn K mainGlobals "str" = some none),
  fun K => decide (PySem.W.nsIn K mainGlobals "isinstance" = some none),
  fun K => decide (PySem.W.nsIn K mainGlobals "enumerate" = some none),
  fun K => decide (PySem.W.nsIn K mainGlobals "tuple" = some none),
  fun K => decide (PySem.W.nsIn K mainGlobals "sorted" = some none),
  fun K => decide (PySem.W.nsIn K mainGlobals "list" = some none),
  fun K => decide (PySem.W.nsIn K mainGlobals "min" = some none),
  fun K => decide (PySem.W.nsIn K mainGlobals "max" = some none),
  fun K => decide (PySem.W.nsIn K mainGlobals "abs" = some none),
  fun K => decide (PySem.W.nsIn K mainGlobals "LETTERS" = some (some (.str "abcdefghijklmnopqrstuvwxyz" (tkOf K "LETTERS")))),
  fun K => decide (PySem.W.nsIn K mainGlobals "MAX_LETTERS" = some (some (.int 8 (tkOf K "MAX_LETTERS")))),
  fun K => decide (PySem.W.nsIn K mainGlobals "MAX_NAMES" = some (some (.int 6 (tkOf K "MAX_NAMES"))))]
def exs9 : List FrB := [fun K => decide (PySem.W.nsIn K mainGlobals "MAX_MODULES" = some (some (.int 24 (tkOf K "MAX_MODULES")))),
  fun K => decide (PySem.W.nsIn K mainGlobals "MAX_USES" = some (some (.int 200 (tkOf K "MAX_USES")))),
  fun K => oexB K (He.ga K "Circular")]
def exsR : List (List FrB) := [exs0, exs1, exs2, exs3, exs4, exs5, exs6, exs7, exs8, exs9]
def exR : List FrB := exsR.map fun l => fun K => l.all fun f => f K
def fnsR : List He5.DefA := [⟨fun K => (He.ga K "_law_draw"), "_law_draw", "_law_draw", defArgs s__law_draw, defBody s__law_draw, defScope s__law_draw, [], []⟩,
  ⟨fun K => (He.ga K "_law_pick"), "_law_pick", "_law_pick", defArgs s__law_pick, defBody s__law_pick, defScope s__law_pick, [], []⟩,
  ⟨fun K => (He.ga K "_law_names"), "_law_names", "_law_names", defArgs s__law_names, defBody s__law_names, defScope s__law_names, [], []⟩,
  ⟨fun K => (He.ga K "_law_areas"), "_law_areas", "_law_areas", defArgs s__law_areas, defBody s__law_areas, defScope s__law_areas, [], []⟩,
  ⟨fun K => (He.ga K "is_name"), "is_name", "is_name", defArgs s_is_name, defBody s_is_name, defScope s_is_name, [], []⟩,
  ⟨fun K => (He.ga K "is_path"), "is_path", "is_path", defArgs s_is_path, defBody s_is_path, defScope s_is_path, [], []⟩,
  ⟨fun K => (He.ga K "covers"), "covers", "covers", defArgs s_covers, defBody s_covers, defScope s_covers, [], []⟩,
  ⟨fun K => (He.ga K "overlap"), "overlap", "overlap", defArgs s_overlap, defBody s_overlap, defScope s_overlap, [], []⟩,
  ⟨fun K => (He.ga K "first_overlap"), "first_overlap", "first_overlap", defArgs s_first_overlap, defBody s_first_overlap, defScope s_first_overlap, [], []⟩,
  ⟨fun K => (He.ga K "modules_error"), "modules_error", "modules_error", defArgs s_modules_error, defBody s_modules_error, defScope s_modules_error, [], []⟩,
  ⟨fun K => (He.ga K "_law_shuffled"), "_law_shuffled", "_law_shuffled", defArgs s__law_shuffled, defBody s__law_shuffled, defScope s__law_shuffled, [], []⟩,
  ⟨fun K => (He.ga K "covered"), "covered", "covered", defArgs s_covered, defBody s_covered, defScope s_covered, [], []⟩,
  ⟨fun K => (He.ga K "is_pair"), "is_pair", "is_pair", defArgs s_is_pair, defBody s_is_pair, defScope s_is_pair, [], []⟩,
  ⟨fun K => (He.ga K "uses_error"), "uses_error", "uses_error", defArgs s_uses_error, defBody s_uses_error, defScope s_uses_error, [], []⟩,
  ⟨fun K => (He.ga K "program_error"), "program_error", "program_error", defArgs s_program_error, defBody s_program_error, defScope s_program_error, [], []⟩,
  ⟨fun K => (He.ga K "parts_of"), "parts_of", "parts_of", defArgs s_parts_of, defBody s_parts_of, defScope s_parts_of, [], []⟩,
  ⟨fun K => (He.ma K (He.ga K "Program") "__init__"), "__init__", "Program.__init__", defArgs s_Program___init__, defBody s_Program___init__, defScope s_Program___init__, [], []⟩,
  ⟨fun K => (rcA K (He.ma K (He.ga K "Program") "modules") "property"), "modules", "Program.modules", defArgs s_Program_modules, defBody s_Program_modules, defScope s_Program_modules, [], []⟩,
  ⟨fun K => (He.ga K "owners_of"), "owners_of", "owners_of", defArgs s_owners_of, defBody s_owners_of, defScope s_owners_of, [], []⟩,
  ⟨fun K => (rcA K (He.ma K (He.ga K "Program") "uses") "property"), "uses", "Program.uses", defArgs s_Program_uses, defBody s_Program_uses, defScope s_Program_uses, [], []⟩,
  ⟨fun K => (He.ga K "counts_of"), "counts_of", "counts_of", defArgs s_counts_of, defBody s_counts_of, defScope s_counts_of, [], []⟩,
  ⟨fun K => (He.ga K "steps_to"), "steps_to", "steps_to", defArgs s_steps_to, defBody s_steps_to, defScope s_steps_to, [], []⟩,
  ⟨fun K => (He.ga K "ring_from"), "ring_from", "ring_from", defArgs s_ring_from, defBody s_ring_from, defScope s_ring_from, [], []⟩,
  ⟨fun K => (He.ga K "_law_modules"), "_law_modules", "_law_modules", defArgs s__law_modules, defBody s__law_modules, defScope s__law_modules, [], []⟩,
  ⟨fun K => (He.ga K "_law_covers"), "_law_covers", "_law_covers", defArgs s__law_covers, defBody s__law_covers, defScope s__law_covers, [], []⟩,
  ⟨fun K => (He.ga K "_law_uses"), "_law_uses", "_law_uses", defArgs s__law_uses, defBody s__law_uses, defScope s__law_uses, [], []⟩,
  ⟨fun K => (He.ga K "_law_ranked"), "_law_ranked", "_law_ranked", defArgs s__law_ranked, defBody s__law_ranked, defScope s__law_ranked, [], []⟩,
  ⟨fun K => (He.ga K "_law_within"), "_law_within", "_law_within", defArgs s__law_within, defBody s__law_within, defScope s__law_within, [], []⟩,
  ⟨fun K => (He.ga K "_law_rests"), "_law_rests", "_law_rests", defArgs s__law_rests, defBody s__law_rests, defScope s__law_rests, [], []⟩,
  ⟨fun K => (He.ga K "look_over"), "look_over", "look_over", defArgs s_look_over, defBody s_look_over, defScope s_look_over, [], []⟩,
  ⟨fun K => (He.ga K "rests_of"), "rests_of", "rests_of", defArgs s_rests_of, defBody s_rests_of, defScope s_rests_of, [], []⟩,
  ⟨fun K => (He.ga K "first_ring"), "first_ring", "first_ring", defArgs s_first_ring, defBody s_first_ring, defScope s_first_ring, [], []⟩,
  ⟨fun K => (He.ga K "checked_rests"), "checked_rests", "checked_rests", defArgs s_checked_rests, defBody s_checked_rests, defScope s_checked_rests, [], []⟩,
  ⟨fun K => (He.ga K "levels"), "levels", "levels", defArgs s_levels, defBody s_levels, defScope s_levels, [], []⟩,
  ⟨fun K => (He.ga K "tower"), "tower", "tower", defArgs s_tower, defBody s_tower, defScope s_tower, [], []⟩,
  ⟨fun K => (He.ga K "_law_told"), "_law_told", "_law_told", defArgs s__law_told, defBody s__law_told, defScope s__law_told, [], []⟩,
  ⟨fun K => (He.ga K "_law_ringed"), "_law_ringed", "_law_ringed", defArgs s__law_ringed, defBody s__law_ringed, defScope s__law_ringed, [], []⟩,
  ⟨fun K => (He.ga K "_law_highest"), "_law_highest", "_law_highest", defArgs s__law_highest, defBody s__law_highest, defScope s__law_highest, [], []⟩,
  ⟨fun K => (He.ga K "_law_stream"), "_law_stream", "_law_stream", defArgs s__law_stream, defBody s__law_stream, defScope s__law_stream, [], []⟩,
  ⟨fun K => (He.ga K "law"), "law", "law", defArgs s_law, defBody s_law, defScope s_law, [], []⟩,
  ⟨fun K => (He.ma K (He.ga K "Circular") "__init__"), "__init__", "Circular.__init__", defArgs s_x_Circular, defBody s_x_Circular, defScope s_x_Circular, [], []⟩]
def tabsR : List He.Tab := []
def loose0 : List PySem.Str := ["_wall", "MAX_MODULES", "MAX_NAMES", "MAX_USES", "LETTERS", "MAX_LETTERS", "is_name", "is_path", "covers", "overlap", "covered", "first_overlap"]
def loose1 : List PySem.Str := ["steps_to", "RestError", "BadProgram", "BadUse", "Circular", "Clash", "Overlap", "TooMany", "look_over", "owners_of", "counts_of", "rests_of"]
def loose2 : List PySem.Str := ["ring_from", "first_ring", "checked_rests", "levels", "tower", "is_pair", "modules_error", "uses_error", "program_error", "parts_of", "Program", "_law_stream"]
def loose3 : List PySem.Str := ["_law_draw", "_law_pick", "_law_names", "_law_areas", "_law_modules", "_law_uses", "_law_covers", "_law_within", "_law_shuffled", "_law_ranked", "_law_rests", "_law_ringed"]
def loose4 : List PySem.Str := ["_law_told", "_law_highest"]
def looseR : List PySem.Str := loose0 ++ loose1 ++ loose2 ++ loose3 ++ loose4
noncomputable abbrev hkR : PySem.W.Hook := hookY 6 exR fnsR tabsR
noncomputable def obR (s : PySem.W.SharedT) : AlY := obsYG 6 exR fnsR tabsR (HandSHeadRun.getT s)
theorem obR_eq (s : PySem.W.SharedT) : obR s = hkR.obs s.abs := obsYG_eq (HandSHeadRun.getT_eq s)
theorem runR0 (w : World) : HandSHeadRun.RunEq (PySem.W.OpenLaw.row PySem.Challenge.rw_mayrest_k62_towers) (PySem.W.view (PySem.W.OpenLaw.row PySem.Challenge.rw_mayrest_k62_towers).prog [56]) hkR obR 20000 looseR (w.withFollow "special-get-raises" false) := by
  intro os
  kernel_rfl
theorem runR1 (w : World) : HandSHeadRun.RunEq (PySem.W.OpenLaw.row PySem.Challenge.rw_mayrest_k62_towers) (PySem.W.view (PySem.W.OpenLaw.row PySem.Challenge.rw_mayrest_k62_towers).prog [56]) hkR obR 20000 looseR (w.withFollow "special-get-raises" true) := by
  intro os
  kernel_rfl
theorem runR (w : World) : HandSHeadRun.RunEq (PySem.W.OpenLaw.row PySem.Challenge.rw_mayrest_k62_towers) (PySem.W.view (PySem.W.OpenLaw.row PySem.Challenge.rw_mayrest_k62_towers).prog [56]) hkR obR 20000 looseR w := PySem.W.byRow2 "special-get-raises" (P := fun w => HandSHeadRun.RunEq (PySem.W.OpenLaw.row PySem.Challenge.rw_mayrest_k62_towers) (PySem.W.view (PySem.W.OpenLaw.row PySem.Challenge.rw_mayrest_k62_towers).prog [56]) hkR obR 20000 looseR w) runR0 runR1 w
end
set_option maxHeartbeats 200000
section
variable {P : Program} {w : World} {K : PySem.W.Frag} {mg : Str → Option Value} {base : Heap}
theorem sc__law_draw : FnScope ["_law_stream_here", "_law_many", "_law_rest", "_law_turn", "_law_unit", "_law_mixed"] ["_law_stream_here", "_law_many"] (defScope s__law_draw) := ⟨rfl, rfl, rfl, by decide +kernel, rfl, by decide +kernel, by decide +kernel⟩
def Sp__law_draw : DSp := fun g ds f Q => ∃ (k : Dk) (m : Int) (f' : Nat), g = some k ∧ ds = [.any (.ref k.a), .int m] ∧ 0 < m ∧ m < 1000000000 ∧ f = f' + 1 ∧ ∀ r : Int, 0 ≤ r → r < m → Q (.int r) f'
theorem ok__law_draw (d : Df K mg "_law_draw" s__law_draw) (m_len : mg "len" = none) (m_int : mg "int" = none) : Cal P w K mg base 1 "_law_draw" ["_law_stream_here", "_law_many"] Sp__law_draw := by
  obtain ⟨f, fd, F, mm⟩ := d
  refine ⟨f, fd, ?_, F.kp, F.binds fun _ _ _ _ _ _ us hl => match us, hl with | [_, _], _ => rfl, mm⟩
  refine F.ok sc__law_draw (fun vs H Q E h => ?_) (fun cdv A outer s H vs Q E hr h => ?_)
  · obtain ⟨g, Hs, ds, n, Q', h1, h2, h3, ⟨k', m, f', e1, e2, _⟩, h5⟩ := h
    subst e2
    rw [← h3.length]
    rfl
  · obtain ⟨g, Hs, ds, n, Q', h1, h2, h3, ⟨k', m, f', e1, e2, m0, m1, e3, h4⟩, h5⟩ := h
    subst e1 e2 e3
    obtain ⟨v1, v2, rfl, r1, r2⟩ := rpA2 h3
    cases r1
    cases r2
    have dk0 := h2
    obtain ⟨⟨nab, nac, nbc, n, xs, ys, ha, hb, hc, px, py, py0, n0, nf⟩, na, nb, nc, tb⟩ := h2
    refine ⟨_, pss_cons (ps_while PassesOwn.never (pt_cmpR (op_neD hr.units) (pe_ix ix_list (pv 0) pe_int (fun _ _ => rfl)) (pe_lst pa_nil) (nomark _))
        (pss_cons (ps_set (i := 2) sc__law_draw.nd rfl (.inl rfl) (pe_ix ix_list (pe_ix ix_list (pv 0) pe_int (fun _ _ => rfl)) pe_int (fun _ _ => rfl)))
        (pss_cons (ps_if (pt_cmpR op_gt (pv 2) pe_int (nomark _))
          (pss_cons (ps_asg (pe_op op_fdivW (pv 2) (pv 1)) (pg_sub (pe_ix ix_list (pv 0) pe_int (fun _ _ => rfl)) pe_int set_list))
          (pss_one (ps_ret (pe_op op_mod (pe_callTy call_int1 (by rfl) m_int PyProof.Rows.boot_int (pa_cons (pv 2) pa_nil)) (pv 1))))) pss_nil)
        (pss_one (ps_expr (pe_bm PySem.F.plainAttrs_list PySem.F.slot_list_pop PySem.F.type_list_pop mt_popAt (pe_ix ix_list (pv 0) pe_int (fun _ _ => rfl)) (pa_cons pe_int pa_nil)))))))
      (pss_cons (ps_set (i := 3) sc__law_draw.nd rfl (.inl rfl) (pe_op op_add (pe_ix ix_list (pv 0) pe_int (fun _ _ => rfl)) pe_int))
      (pss_cons (ps_asg (pv 3) (pg_sub (pv 0) pe_int set_list))
      (pss_cons (ps_set (i := 4) sc__law_draw.nd rfl (.inl rfl) (pe_op op_mod (pe_callTy call_int1 (by rfl) m_int PyProof.Rows.boot_int (pa_cons (pe_ix ix_list (pe_ix ix_list (pv 0) pe_int (fun _ _ => rfl))
          (pe_op op_mod (pe_callTy call_int1 (by rfl) m_int PyProof.Rows.boot_int (pa_cons (pv 3) pa_nil)) (pe_callB call_len_seq (by rfl) m_len PySem.boot_len (pa_cons (pe_ix ix_list (pv 0) pe_int (fun _ _ => rfl)) pa_nil))) (fun _ _ => rfl)) pa_nil)) pe_int))
      (pss_cons (ps_set (i := 5) sc__law_draw.nd rfl (.inl rfl) (pe_op op_mod (pe_callTy call_int1 (by rfl) m_int PyProof.Rows.boot_int (pa_cons (pe_op op_add (pe_op op_add (pe_op op_mul (pv 4) (pe_op op_add pe_int (pe_op op_mul pe_int (pv 3)))) (pe_op op_mul (pe_op op_mul pe_int (pv 3)) (pv 3))) pe_int) pa_nil)) pe_int))
      (pss_one (ps_ret (pe_op op_mod (pe_op op_fdiv (pe_op op_mod (pe_callTy call_int1 (by rfl) m_int PyProof.Rows.boot_int (pa_cons (pe_op op_mul (pv 5) (pv 5)) pa_nil)) pe_int) pe_int) (pv 1)))))))), ?_⟩
    -- what stays: nothing but the deck's three lists changes
    have fin : ∀ (H3 : Hp) (n3 : Int) (x3 : List Int) (f3 : Nat) (d : D) (v : V), H3 k'.a = some (.lst [.ref k'.b, .ref k'.c, .int n3]) → H3 k'.b = some (.lst (x3.map V.int)) → H3 k'.c = some (.lst (ys.map V.int)) → (∀ x ∈ x3, (0 : Int) ≤ x) → 0 ≤ n3 → n3 + (f3 : Int) ≤ 1000000000000 →
        (∀ b o, b ≠ k'.a → b ≠ k'.b → H b = some o → H3 b = some o) → Rp K Hs d v → Q' d f3 → Q v H3 := by
      intro H3 n3 x3 f3 d v g1 g2 g3 g4 g5 g6 g7 g8 g9
      refine h5 d f3 v H3 Hs ⟨fun b o e => ?_, Same.refl _, fun b o e n => ?_, fun b o e => ?_, fun _ _ _ h => h⟩ ⟨⟨nab, nac, nbc, n3, x3, ys, g1, g2, g3, g4, py, py0, g5, g6⟩, na, nb, nc, tb.to (fun x hx u e1 e2 => ⟨g7 x u (tb.neL hx ha) (tb.neL hx hb) e1, e2⟩) fun _ _ e _ _ => e⟩ g8 g9
      · refine g7 b o (fun z => ?_) (fun z => ?_) (h1 b o e)
        · subst z; rw [na] at e; cases e
        · subst z; rw [nb] at e; cases e
      · exact g7 b o (fun z => n (.inl z)) (fun z => n (.inr (.inl z))) e
      · by_cases z : b = k'.a
        · exact ⟨_, z ▸ g1⟩
        · by_cases z' : b = k'.b
          · exact ⟨_, z' ▸ g2⟩
          · exact ⟨o, g7 b o z z' e⟩
    -- the while
    refine ⟨fun mm st H2 => ∃ y2 zs, mm = zs.length ∧ st = [some (.ref k'.a), some (.int m), y2, none, none, none] ∧ (∀ x ∈ zs, (0 : Int) ≤ x) ∧ H2 k'.a = some (.lst [.ref k'.b, .ref k'.c, .int n]) ∧ H2 k'.b = some (.lst (zs.map V.int)) ∧ H2 k'.c = some (.lst (ys.map V.int)) ∧ ∀ b o, b ≠ k'.a → b ≠ k'.b → H b = some o → H2 b = some o,
      ⟨xs.length, none, xs, rfl, rfl, px, ha, hb, hc, fun _ _ _ _ h => h⟩, ?_⟩
    rintro mm st H2 ⟨y2, zs, rfl, rfl, pz, ea, eb, ec, kp⟩
    refine ⟨.ref k'.a, rfl, k'.a, _, 0, _, rfl, rfl, SqL.of ea, atI0, Nat.zero_le _, fun p hp => ?_⟩
    have epb : k'.b ≠ p := ne_of_none eb hp
    have epa : k'.a ≠ p := ne_of_none ea hp
    have epc : k'.c ≠ p := ne_of_none ec hp
    refine ⟨.list (zs.map PyData.int), .list (([] : List Int).map PyData.int), dp_ints (by rw [upd_ne epb]; exact eb), dp_ints (l := []) upd_same, shaped_ints _, shaped_ints [], ?_⟩
    have ea' : upd H2 p (.lst []) k'.a = some (.lst [.ref k'.b, .ref k'.c, .int n]) := by rw [upd_ne epa]; exact ea
    have eb' : upd H2 p (.lst []) k'.b = some (.lst (zs.map V.int)) := by rw [upd_ne epb]; exact eb
    have ec' : upd H2 p (.lst []) k'.c = some (.lst (ys.map V.int)) := by rw [upd_ne epc]; exact ec
    have kp' : ∀ b o, b ≠ k'.a → b ≠ k'.b → H b = some o → upd H2 p (.lst []) b = some o := fun b o e1 e2 e => by
      have q := kp b o e1 e2 e
      rw [upd_ne (ne_of_none q hp)]
      exact q
    generalize upd H2 p (.lst []) = H3 at ea' eb' ec' kp' ⊢
    cases zs with
    | nil =>
      refine ⟨false, rfl, ?_⟩
      refine iteF ?_
      refine ⟨.ref k'.a, rfl, k'.a, _, 2, _, rfl, rfl, SqL.of ea', rfl, n, 1, rfl, rfl, .int (n + 1), rfl, .ref k'.a, rfl, k'.a, _, 2, 2, rfl, rfl, ea', rfl, ?_⟩
      generalize hH4 : upd H3 k'.a (.lst ([V.ref k'.b, V.ref k'.c, V.int n].set 2 (V.int (n + 1)))) = H4
      have fa : H4 k'.a = some (.lst [.ref k'.b, .ref k'.c, .int (n + 1)]) := by rw [← hH4, upd_same]; rfl
      have fb : H4 k'.b = some (.lst (([] : List Int).map V.int)) := by rw [← hH4, upd_ne (Ne.symm nab)]; exact eb'
      have fc : H4 k'.c = some (.lst (ys.map V.int)) := by rw [← hH4, upd_ne (Ne.symm nac)]; exact ec'
      have keep : ∀ b o, b ≠ k'.a → b ≠ k'.b → H b = some o → H4 b = some o := fun b o e1 e2 e => by
        rw [← hH4, upd_ne e1]
        exact kp' b o e1 e2 e
      have hz : (0 : Int) ≤ (n + 1) % (ys.length : Int) ∧ (n + 1) % (ys.length : Int) < ys.length := ⟨Int.emod_nonneg _ (by omega), Int.emod_lt_of_pos _ (by omega)⟩
      have hj : ((n + 1) % (ys.length : Int)).toNat < ys.length := by omega
      -- number
      refine ⟨.ref k'.a, rfl, k'.a, _, 1, _, rfl, rfl, SqL.of fa, rfl, .int (n + 1), rfl, .inl ⟨n + 1, rfl, ?_⟩⟩
      refine ⟨.ref k'.a, rfl, k'.a, _, 1, _, rfl, rfl, SqL.of fa, rfl, k'.c, ys.map V.int, rfl, .inl (SqL.of fc), n + 1, _, rfl, rfl, ?_, ?_⟩
      · rw [List.length_map]; show (0 : Int) < (ys.length : Int); omega
      refine ⟨k'.c, ys.map V.int, _, .int (ys[((n + 1) % (ys.length : Int)).toNat]'hj), rfl, rfl, SqL.of fc, ?_, .inl ⟨_, rfl, ?_⟩⟩
      · rw [List.length_map]
        have := atI_nat (xs := ys.map V.int) (j := ((n + 1) % (ys.length : Int)).toNat) (v := .int (ys[((n + 1) % (ys.length : Int)).toNat]'hj)) (by rw [List.getElem?_map, List.getElem?_eq_getElem hj]; rfl)
        rw [Int.toNat_of_nonneg hz.1] at this
        exact this
      refine ⟨_, _, rfl, rfl, by show (0 : Int) < 2147483563; decide, ?_⟩
      have num0 := Int.emod_nonneg (ys[((n + 1) % (ys.length : Int)).toNat]'hj) (show (2147483563 : Int) ≠ 0 by decide)
      have num1 := Int.lt_trans (Int.emod_lt_of_pos (ys[((n + 1) % (ys.length : Int)).toNat]'hj) (show (0 : Int) < 2147483563 by decide)) (show (2147483563 : Int) < 2147483647 by decide)
      -- mixed
      refine ⟨_, rfl, .int (n + 1), rfl, 65539, n + 1, rfl, rfl, .inl ⟨by decide, by decide⟩, 52501, _, rfl, rfl, _, _, rfl, rfl, .inl ⟨lo64 num0, hi64 num1⟩, .int (n + 1), rfl, 40503, n + 1, rfl, rfl, .inl ⟨by decide, by decide⟩, .int (n + 1), rfl, _, n + 1, rfl, rfl, .inr ⟨by omega, by omega⟩, _, _, rfl, rfl, _, 97, rfl, rfl, .inl ⟨_, rfl, _, _, rfl, rfl, by show (0 : Int) < 2147483647; decide, ?_⟩⟩
      have mix0 : ∀ x : Int, 0 ≤ x % 2147483647 := fun x => Int.emod_nonneg x (by decide)
      have mix1 : ∀ x : Int, x % 2147483647 < 2147483647 := fun x => Int.emod_lt_of_pos x (by decide)
      refine ⟨_, rfl, _, rfl, _, _, rfl, rfl, .inl ⟨lo64 (mix0 _), hi64 (mix1 _)⟩, .inl ⟨_, rfl, _, _, rfl, rfl, by show (0 : Int) < 2147483629; decide, _, _, rfl, rfl, ⟨by decide, by decide⟩, .int m, rfl, _, m, rfl, rfl, m0, ?_⟩⟩
      exact fin H4 (n + 1) [] f' (.int _) _ fa fb fc (by simp) (by omega) (by omega) keep rfl (h4 _ (Int.emod_nonneg _ (by omega)) (Int.emod_lt_of_pos _ m0))
    | cons z zs =>
      refine ⟨true, rfl, ?_⟩
      refine iteT ?_
      have pz0 : 0 ≤ z := pz z (by simp)
      refine ⟨fun st4 H4 => ∃ y2, st4 = [some (.ref k'.a), some (.int m), y2, none, none, none] ∧ H4 = upd H3 k'.b (.lst (zs.map V.int)), ?_, ?_⟩
      · rintro st4 H4 ⟨y3, rfl, rfl⟩
        refine ⟨zs.length, Nat.lt_succ_self _, y3, zs, rfl, rfl, fun x hx => pz x (by simp [hx]), by rw [upd_ne nab]; exact ea', upd_same, by rw [upd_ne (Ne.symm nbc)]; exact ec', fun b o e1 e2 e => by rw [upd_ne e2]; exact kp' b o e1 e2 e⟩
      refine ⟨.ref k'.a, rfl, k'.a, _, 0, _, rfl, rfl, SqL.of ea', atI0, k'.b, _, 0, _, rfl, rfl, SqL.of eb', atI0, ?_⟩
      refine ⟨.int z, rfl, z, 0, rfl, rfl, _, rfl, ite2 (fun c => ?_) (fun c => ?_)⟩
      · -- a digit of a great cell
        refine ⟨.int z, rfl, .int m, rfl, z, m, rfl, rfl, wide_div (b := 40) m0 (by omega) (by decide) (by decide), ?_⟩
        refine ⟨.ref k'.a, rfl, k'.a, _, 0, _, rfl, rfl, SqL.of ea', atI0, k'.b, _, 0, 0, rfl, rfl, eb', ix0 _, ?_⟩
        refine ⟨.int z, rfl, .inl ⟨z, rfl, .int m, rfl, z, m, rfl, rfl, m0, ?_⟩⟩
        refine fin _ n ((z / m) :: zs) f' (.int _) _ (by rw [upd_ne nab]; exact ea') upd_same (by rw [upd_ne (Ne.symm nbc)]; exact ec') ?_ n0 (by omega) (fun b o e1 e2 e => by rw [upd_ne e2]; exact kp' b o e1 e2 e) rfl (h4 _ (Int.emod_nonneg _ (by omega)) (Int.emod_lt_of_pos _ m0))
        intro x hx
        rcases List.mem_cons.mp hx with e | e
        · rw [e]; exact Int.ediv_nonneg pz0 (by omega)
        · exact pz x (by simp [e])
      · refine ⟨.ref k'.a, rfl, k'.a, _, 0, _, rfl, rfl, SqL.of ea', atI0, .inl ⟨rfl, _, SqL.of eb'⟩, k'.b, _, 0, 0, _, rfl, rfl, eb', by decide, by decide, ?_, rfl, ?_⟩
        · exact (ixN_seq (ix0 _)).1
        · exact ⟨_, rfl, rfl⟩
/-! _law_pick -/
theorem sc__law_pick : FnScope ["_law_stream_here", "_law_items"] ["_law_stream_here", "_law_items"] (defScope s__law_pick) := ⟨rfl, rfl, rfl, by decide +kernel, rfl, by decide +kernel, by decide +kernel⟩
def Sp__law_pick : DSp := fun g ds f Q => (∃ (k : Dk) (xs : List D), g = some k ∧ ds = [.any (.ref k.a), .lst xs] ∧ 0 < xs.length ∧ xs.length ≤ 100000 ∧ 1 ≤ f ∧ ∀ x ∈ xs, ∀ f', f ≤ f' + 1 → Q x f') ∨
  ∃ (k : Dk) (z : Str), g = some k ∧ ds = [.any (.ref k.a), .str z] ∧ 0 < z.length ∧ z.length ≤ 100000 ∧ 1 ≤ f ∧ ∀ c ∈ z.cps.toList, ∀ f', f ≤ f' + 1 → Q (.str ⟨#[c]⟩) f'
set_option maxHeartbeats 2000000 in
theorem ok__law_pick (d : Df K mg "_law_pick" s__law_pick) (m_len : mg "len" = none) (c__law_draw : Cal P w K mg base 1 "_law_draw" ["_law_stream_here", "_law_many"] Sp__law_draw) : Cal P w K mg base 2 "_law_pick" ["_law_stream_here", "_law_items"] Sp__law_pick := by
  obtain ⟨f, fd, F, m⟩ := d
  refine ⟨f, fd, dfn (k := 1) (S := Sp__law_pick) F sc__law_pick ?len (fun cdv A outer s H E hr => (dss_one (ds_ret (de_ix (de_v 1) (de_callC c__law_draw (hr.mono (by decide)) (da_cons (de_v 0) (da_cons (de_len m_len (da_cons (de_v 1) da_nil)) da_nil))))))) ?h, F.kp, F.binds fun _ _ _ _ _ _ us hl => match us, hl with | [_, _], _ => rfl, m⟩
  case len =>
    intro g ds n Q h; rcases h with ⟨_, _, _, rfl, _⟩ | ⟨_, _, _, rfl, _⟩ <;> rfl
  case h =>
    intro g ds n Q h
    rcases h with ⟨k, xs, rfl, rfl, h0, hl, hf, q⟩ | ⟨k, z, rfl, rfl, h0, hl, hf, q⟩
    · obtain ⟨f1, rfl⟩ : ∃ f1, n = f1 + 1 := ⟨n - 1, by omega⟩
      refine ⟨k, (xs.length : Int), f1, rfl, rfl, by omega, by omega, rfl, fun r r0 r1 => ?_⟩
      obtain ⟨d, hd, hm⟩ := atI_mem (xs := xs) r0 r1
      exact ⟨d, hd, q d hm f1 (Nat.le_refl _)⟩
    · obtain ⟨f1, rfl⟩ : ∃ f1, n = f1 + 1 := ⟨n - 1, by omega⟩
      refine ⟨L1 hl, k, (z.length : Int), f1, rfl, rfl, by omega, by omega, rfl, fun r r0 r1 => ?_⟩
      obtain ⟨c, hc, hm⟩ := atI_mem (xs := z.cps.toList) r0 r1
      exact ⟨L1 hl, c, hc, q c hm f1 (Nat.le_refl _)⟩
/-! _law_names -/
theorem sc__law_names : FnScope ["_law_stream_here", "_law_many", "_law_letters", "_law_wide", "_law_place", "_law_shift", "_law_alike", "_law_found", "_law_body", "_law_k", "_law_code", "_law_length", "_law_t"] ["_law_stream_here", "_law_many"] (defScope s__law_names) := ⟨rfl, rfl, rfl, by decide +kernel, rfl, by decide +kernel, by decide +kernel⟩
def chr1 (c : Nat) : Str := ⟨#[c]⟩
theorem letter_eq {r : Int} (h0 : 0 ≤ r) (h1 : r < 26) : atI (Str.ofString "abcdefghijklmnopqrstuvwxyz").cps.toList r = some (97 + r.toNat) := by
  obtain ⟨j, rfl⟩ : ∃ j : Nat, r = j := ⟨r.toNat, by omega⟩
  refine atI_nat ?_
  rw [show (Str.ofString "abcdefghijklmnopqrstuvwxyz").cps.toList = List.range' 97 26 from by decide +kernel]
  rw [List.getElem?_range' (by omega)]
  show some (97 + 1 * j) = some (97 + ((j : Int)).toNat)
  rw [Int.toNat_natCast, Nat.one_mul]
theorem cs_of : ∀ {ys : List D}, (∀ y ∈ ys, ∃ c : Nat, y = .str (chr1 c) ∧ 97 ≤ c ∧ c ≤ 122) → ∃ cs : List Nat, ys = cs.map (fun c => D.str (chr1 c)) ∧ ∀ c ∈ cs, 97 ≤ c ∧ c ≤ 122
  | [], _ => ⟨[], rfl, by simp⟩
  | y :: ys, h => by
    obtain ⟨c, rfl, hc⟩ := h y (by simp)
    obtain ⟨cs, rfl, hcs⟩ := cs_of (ys := ys) fun z hz => h z (by simp [hz])
    exact ⟨c :: cs, rfl, fun d hd => (List.mem_cons.mp hd).elim (fun e => e ▸ hc) (hcs d)⟩
theorem cd_codes (cs : List Nat) : cd (Txt.join "" (cs.map chr1)) = cs := by
  rw [join_nil_cd, List.map_map]
  induction cs with
  | nil => rfl
  | cons c cs ih => rw [List.map_cons, List.flatten_cons, ih]; rfl
theorem cd_len (s : Str) : (cd s).length = s.length := (TL.len_tl s).symm
theorem cd_app (a b : Str) : cd (a ++ b) = cd a ++ cd b := TL.tl_append a b
theorem cd_to {b : Str} {p : Nat} (h : p ≤ b.length) : cd (cutS b none (some (p : Int))) = (cd b).take p := by
  show ((b.cps.toList.drop (HT.sIx b.length 0 none)).take (HT.sIx b.length b.length (some (p : Int)) - HT.sIx b.length 0 none)) = _
  rw [HT.sIx_none, show HT.sIx b.length b.length (some (p : Int)) = min p b.length from HT.sIx_nat b.length b.length p, Nat.min_eq_left h]
  rfl
theorem cd_from {b : Str} {p : Nat} (h : p ≤ b.length) : cd (cutS b (some (p : Int)) none) = (cd b).drop p := by
  show ((b.cps.toList.drop (HT.sIx b.length 0 (some (p : Int)))).take (HT.sIx b.length b.length none - HT.sIx b.length 0 (some (p : Int)))) = _
  rw [HT.sIx_none, show HT.sIx b.length 0 (some (p : Int)) = min p b.length from HT.sIx_nat b.length 0 p, Nat.min_eq_left h]
  refine List.take_of_length_le ?_
  rw [List.length_drop]
  exact Nat.le_of_eq (congrArg (· - p) (cd_len b))
/-- a body of letters -/
def Bd (b : Str) : Prop := ∀ c ∈ cd b, 97 ≤ c ∧ c ≤ 122
def Sp__law_names : DSp := fun g ds f Q => ∃ (k : Dk) (m : Nat), g = some k ∧ ds = [.any (.ref k.a), .int m] ∧ m ≤ 26 ∧ 250 ≤ f ∧
  ∀ (l : List Str) f', l.length = m → (∀ n ∈ l, isName n) → l.Nodup → f ≤ f' + 250 → Q (.lst (l.map D.str)) f'
set_option maxHeartbeats 2000000 in
theorem ok__law_names (d : Df K mg "_law_names" s__law_names) (m_range : mg "range" = none) (m_int : mg "int" = none) (c__law_pick : Cal P w K mg base 2 "_law_pick" ["_law_stream_here", "_law_items"] Sp__law_pick) (c__law_draw : Cal P w K mg base 1 "_law_draw" ["_law_stream_here", "_law_many"] Sp__law_draw) : Cal P w K mg base 3 "_law_names" ["_law_stream_here", "_law_many"] Sp__law_names := by
  obtain ⟨f, fd, F, m⟩ := d
  refine ⟨f, fd, dfn (k := 2) (S := Sp__law_names) F sc__law_names ?len (fun cdv A outer s H E hr => (dss_cons (ds_set false (i := 2) sc__law_names.nd de_str)
      (dss_cons (ds_set false (i := 3) sc__law_names.nd (de_ifExp (dp_gt (de_v 1) de_int) de_int (de_add de_int (de_callC c__law_draw (hr.mono (by decide)) (da_cons (de_v 0) (da_cons de_int da_nil))))))
      (dss_cons (ds_par3 false (i := 4) (j := 5) (l := 6) sc__law_names.nd (de_callC c__law_draw (hr.mono (by decide)) (da_cons (de_v 0) (da_cons (de_sub de_int (de_v 3)) da_nil))) (de_callC c__law_draw (hr.mono (by decide)) (da_cons (de_v 0) (da_cons de_int da_nil))) (de_eq hr.units (de_callC c__law_draw (hr.mono (by decide)) (da_cons (de_v 0) (da_cons de_int da_nil))) de_int))
      (dss_cons (ds_parLS (i := 7) (j := 8) sc__law_names.nd (dl_lst da_nil) (de_str))
      (dss_cons (ds_for [] PassesOwn.never (di_range1 m_range (da_cons (de_v 1) da_nil)) (dg_name (i := 9) sc__law_names.nd) (dss_cons (ds_if (DW.p (dw_or (dp_eq hr.units (de_v 9) de_int) (dw_or1 (dp_not (dp_val (de_v 6)))))) (dss_cons (ds_set false (i := 11) sc__law_names.nd (de_add (de_v 4) (de_callC c__law_draw (hr.mono (by decide)) (da_cons (de_v 0) (da_cons (de_sub (de_sub de_int (de_v 3)) (de_v 4)) da_nil)))))
      (dss_one (ds_set false (i := 8) sc__law_names.nd (de_join de_str (dl_lc (own := [("_law_t", 12)]) rfl sc__law_names.nd (di_range1 m_range (da_cons (de_v 11) da_nil)) (blkOk_by (own := [("_law_t", 12)]) (N := ["_law_stream_here", "_law_many", "_law_letters", "_law_wide", "_law_place", "_law_shift", "_law_alike", "_law_found", "_law_body", "_law_k", "_law_code", "_law_length", "_law_t"]) (sc := defScope s__law_names) (by decide +kernel)) (fun _ _ _ _ _ => dg_name (i := 12) sc__law_names.nd) (fun _ _ _ _ _ => dts_nil) (fun _ _ _ _ _ => (de_callC c__law_pick (hr.mono (by decide)) (da_cons (de_v 0) (da_cons (de_v 2) da_nil))))).e)))) dss_nil)
      (dss_cons (ds_set false (i := 10) sc__law_names.nd (de_ix (de_v 2) (de_mod (de_callTy call_int1 sc_int (by rfl) m_int PyProof.Rows.boot_int (da_cons (de_add (de_v 9) (de_v 5)) da_nil)) de_int)))
      (dss_cons (ds_if (dp_eq hr.units (de_v 3) de_int) (dss_one (ds_set false (i := 10) sc__law_names.nd (de_add (de_ix (de_v 2) (de_mod (de_callTy call_int1 sc_int (by rfl) m_int PyProof.Rows.boot_int (da_cons (de_add (de_fdiv (de_v 9) de_int) (de_v 5)) da_nil)) de_int)) (de_v 10)))) dss_nil)
      (dss_one (ds_app false (i := 7) (de_add (de_add (de_sl (de_v 8) do_none (do_some (de_v 4))) (de_v 10)) (de_sl (de_v 8) (do_some (de_v 4)) do_none))))))))
      (dss_one (ds_ret (de_v 7))))))))) ?h, F.kp, F.binds fun _ _ _ _ _ _ us hl => match us, hl with | [_, _], _ => rfl, m⟩
  case len =>
    intro g ds n Q h; obtain ⟨_, _, _, rfl, _⟩ := h; rfl
  case h =>
    intro g ds n Q h
    obtain ⟨k, m, rfl, rfl, hm, hf, q⟩ := h
    obtain ⟨f1, rfl⟩ : ∃ f1, n = f1 + 250 := ⟨n - 250, by omega⟩
    have lc : ∀ c ∈ (Str.ofString "abcdefghijklmnopqrstuvwxyz").cps.toList, 97 ≤ c ∧ c ≤ 122 := by decide +kernel
    show if decide ((m : Int) > 26) = true then _ else _
    rw [decide_eq_false (by omega)]
    refine iteF ⟨k, 2, f1 + 249, rfl, rfl, by decide, by decide, rfl, fun w0 w1 w2 => ?_⟩
    obtain ⟨wd, hwd⟩ : ∃ z : Nat, 1 + w0 = (z : Int) := ⟨(1 + w0).toNat, by omega⟩
    simp only [oAdd]
    rw [hwd]
    simp only [List.set_cons_succ, List.set_cons_zero, setsR, startR, List.map_cons, List.map_nil, List.cons_append, List.nil_append, List.replicate_succ, List.replicate_zero, List.length_cons, List.length_nil, Nat.reduceAdd, Nat.reduceSub]
    refine ⟨k, 9 - (wd : Int), f1 + 248, rfl, rfl, by omega, by omega, rfl, fun pl p0 p1 => ?_⟩
    obtain ⟨pl, rfl⟩ : ∃ z : Nat, pl = (z : Int) := ⟨pl.toNat, by omega⟩
    refine ⟨k, 26, f1 + 247, rfl, rfl, by decide, by decide, rfl, fun sh s0 s1 => ?_⟩
    refine ⟨k, 2, f1 + 246, rfl, rfl, by decide, by decide, rfl, fun al a0 a1 => ?_⟩
    refine ⟨Nat.zero_le _, ?_⟩
    simp only [List.set_cons_succ, List.set_cons_zero, setsR, startR, List.map_cons, List.map_nil, List.cons_append, List.nil_append, List.replicate_succ, List.replicate_zero, List.length_cons, List.length_nil, Nat.reduceAdd, Nat.reduceSub]
    refine ⟨by omega, by omega, ?_⟩
    have e0 : ((m : Int)).toNat = m := by omega
    rw [e0]
    refine dFor_range (fun i r f => ∃ (x y w v : Sl) (l : List Str) (b : Str), r = [.sh (.any (.ref k.a)), .sh (.int m), .sh (.str (Str.ofString "abcdefghijklmnopqrstuvwxyz")), .sh (.int wd), .sh (.int pl), .sh (.int sh), .sh (.bool (xb false (decide (al = 0)))), .ow (l.map D.str), .sh (.str b), x, y, w, v] ∧ l.length = i ∧ (∀ n ∈ l, isName n) ∧ (∀ j (h : j < l.length), (cd l[j])[pl + wd - 1]? = some (97 + (((j : Int) + sh) % 26).toNat)) ∧ (0 < i → Bd b ∧ pl ≤ b.length ∧ b.length + wd ≤ 8) ∧ f1 + 250 ≤ f + 8 * i + 4) 0 _ _ _ ?_ (fun r f => ?_) ⟨_, _, _, _, [], "", rfl, rfl, by simp, fun j h => by simp at h, by simp, by show f1 + 250 ≤ f1 + 246 + 8 * 0 + 4; omega⟩
    · rintro i r f N hi ⟨x, y, w, v, l, b, rfl, hl2, hn, hc, hb, hf2⟩ hN
      refine ⟨_, rfl, ?_⟩
      refine mid (fun r f => ∃ (y w v : Sl) (b : Str), r = [.sh (.any (.ref k.a)), .sh (.int m), .sh (.str (Str.ofString "abcdefghijklmnopqrstuvwxyz")), .sh (.int wd), .sh (.int pl), .sh (.int sh), .sh (.bool (xb false (decide (al = 0)))), .ow (l.map D.str), .sh (.str b), .sh (.int (0 + (i : Int))), y, w, v] ∧ (Bd b ∧ pl ≤ b.length ∧ b.length + wd ≤ 8) ∧ f1 + 250 ≤ f + 8 * (i + 1) + 4) ?_ (fun hk => ?_)
      · rintro r f ⟨y, w, v, b, rfl, ⟨hb1, hb2, hb3⟩, hf3⟩
        have v0 := Int.emod_nonneg ((0 + (i : Int)) + sh) (show (26 : Int) ≠ 0 by decide)
        have v1 := Int.emod_lt_of_pos ((0 + (i : Int)) + sh) (show (0 : Int) < 26 by decide)
        have hi0 : ((i : Int) + sh) % 26 = ((0 + (i : Int)) + sh) % 26 := by rw [Int.zero_add]
        refine ⟨show (0 : Int) < 26 by decide, by decide +kernel, _, letter_eq v0 v1, ?_⟩
        simp only [List.set_cons_succ, List.set_cons_zero, setsR, startR, List.map_cons, List.map_nil, List.cons_append, List.nil_append, List.replicate_succ, List.replicate_zero, List.length_cons, List.length_nil, Nat.reduceAdd, Nat.reduceSub]
        refine mid (fun r f => ∃ (w v : Sl) (c : Str), r = [.sh (.any (.ref k.a)), .sh (.int m), .sh (.str (Str.ofString "abcdefghijklmnopqrstuvwxyz")), .sh (.int wd), .sh (.int pl), .sh (.int sh), .sh (.bool (xb false (decide (al = 0)))), .ow (l.map D.str), .sh (.str b), .sh (.int (0 + (i : Int))), .sh (.str c), w, v] ∧ Bd c ∧ c.length = wd ∧ (cd c)[wd - 1]? = some (97 + (((i : Int) + sh) % 26).toNat) ∧ f1 + 250 ≤ f + 8 * (i + 1) + 4) ?_ (fun hk2 => ?_)
        · rintro r f ⟨w, v, c, rfl, hc1, hc2, hc3, hf4⟩
          have la : (cutS b none (some (pl : Int))).length = pl := by
            rw [← cd_len, cd_to hb2, List.length_take, cd_len]
            exact Nat.min_eq_left hb2
          have lb : (cutS b (some (pl : Int)) none).length = b.length - pl := by
            rw [← cd_len, cd_from hb2, List.length_drop, cd_len]
          have L : ∀ {n : Nat}, n ≤ 100 → n ≤ lim := fun h => Nat.le_trans h (by decide)
          refine ⟨_, rfl, L (by omega), L (by rw [la]; omega), L (by omega), L (by rw [app_len, la, lb]; omega), L (by rw [List.length_map]; omega), ?_⟩
          refine hN _ _ ⟨_, _, _, _, l ++ [cutS b none (some (pl : Int)) ++ c ++ cutS b (some (pl : Int)) none], b, by rw [List.map_append]; rfl, by rw [List.length_append, hl2]; rfl, fun x hx => ?_, fun j hj' => ?_, fun _ => ⟨hb1, hb2, hb3⟩, by omega⟩
          · rcases List.mem_append.mp hx with h | h
            · exact hn x h
            · rw [List.mem_singleton.mp h]
              refine ⟨?_, ?_, fun d hd => ?_⟩
              · rw [app_len, app_len, la, lb]; omega
              · rw [app_len, app_len, la, lb]; omega
              · have hd : d ∈ cd (cutS b none (some (pl : Int)) ++ c ++ cutS b (some (pl : Int)) none) := hd
                rw [cd_app, cd_app, cd_to hb2, cd_from hb2] at hd
                rcases List.mem_append.mp hd with h | h
                · rcases List.mem_append.mp h with h | h
                  · exact hb1 d (List.mem_of_mem_take h)
                  · exact hc1 d h
                · exact hb1 d (List.mem_of_mem_drop h)
          · rw [List.length_append] at hj'
            have hj' : j < l.length + 1 := hj'
            by_cases hjl : j < l.length
            · rw [List.getElem_append_left hjl]
              exact hc j hjl
            · have : j = l.length := by omega
              subst this
              rw [List.getElem_append_right (Nat.le_refl _)]
              simp only [Nat.sub_self, List.getElem_cons_zero]
              rw [cd_app, cd_app, cd_to hb2, cd_from hb2]
              have lt : ((cd b).take pl).length = pl := by rw [List.length_take, cd_len]; exact Nat.min_eq_left hb2
              rw [List.getElem?_append_left (by rw [List.length_append, lt, cd_len]; omega), List.getElem?_append_right (by rw [lt]; omega), lt, show pl + wd - 1 - pl = wd - 1 by omega, hc3, hl2]
        · show if decide ((wd : Int) = 2) = true then _ else _
          by_cases h2 : (wd : Int) = 2
          · rw [decide_eq_true h2]
            refine iteT ?_
            have u0 := Int.emod_nonneg ((0 + (i : Int)) / 26 + sh) (show (26 : Int) ≠ 0 by decide)
            have u1 := Int.emod_lt_of_pos ((0 + (i : Int)) / 26 + sh) (show (0 : Int) < 26 by decide)
            refine ⟨⟨by decide, by decide⟩, show (0 : Int) < 26 by decide, by decide +kernel, _, letter_eq u0 u1, show 1 + 1 ≤ lim by decide, ?_⟩
            have w2 : wd = 2 := by omega
            refine hk2 _ _ ⟨_, _, _, rfl, fun c hc => ?_, ?_, ?_, by omega⟩
            · have hc : c ∈ [97 + (((0 + (i : Int)) / 26 + sh) % 26).toNat, 97 + ((0 + (i : Int) + sh) % 26).toNat] := hc
              simp only [List.mem_cons, List.not_mem_nil, or_false] at hc
              rcases hc with rfl | rfl <;> omega
            · rw [w2]; rfl
            · rw [w2, hi0]; rfl
          · rw [decide_eq_false h2]
            have w1 : wd = 1 := by omega
            refine iteF (nxt (hk2 _ _ ⟨_, _, _, rfl, fun c hc => ?_, ?_, ?_, by omega⟩))
            · have hc : c ∈ [97 + ((0 + (i : Int) + sh) % 26).toNat] := hc
              rw [List.mem_singleton.mp hc]
              omega
            · rw [w1]; rfl
            · rw [w1, hi0]; rfl
      · have wd1 : 1 ≤ wd := by omega
        show if decide ((0 + (i : Int)) = 0) = true then _ else _
        by_cases hz : (0 + (i : Int)) = 0
        · rw [decide_eq_true hz]
          refine iteT ?_
          obtain ⟨f3, rfl⟩ : ∃ f3, f = f3 + 1 := ⟨f - 1, by omega⟩
          refine ⟨k, 9 - (wd : Int) - (pl : Int), f3, rfl, rfl, by omega, by omega, rfl, fun ln n0 n1 => ?_⟩
          obtain ⟨z, hz2⟩ : ∃ z : Nat, (pl : Int) + ln = (z : Int) := ⟨((pl : Int) + ln).toNat, by omega⟩
          simp only [oAdd]
          rw [hz2]
          simp only [List.set_cons_succ, List.set_cons_zero, setsR, startR, List.map_cons, List.map_nil, List.cons_append, List.nil_append, List.replicate_succ, List.replicate_zero, List.length_cons, List.length_nil, Nat.reduceAdd, Nat.reduceSub]
          refine ⟨trivial, by omega, by omega, by rw [intsD_len]; exact L1 (by omega), ?_⟩
          refine dLcGo_each (P := fun y => ∃ c : Nat, y = .str (chr1 c) ∧ 97 ≤ c ∧ c ≤ 122) 1 _ _ _ (by rw [intsD_len]; omega) (fun d _ => ⟨_, rfl, fun f Q hf hq => .inr ⟨k, _, rfl, rfl, by decide +kernel, by decide +kernel, hf, fun c hc f' hf' => hq _ _ ⟨c, rfl, lc c hc⟩ hf'⟩⟩) (fun ys f' hl hy hf' => ?_)
          rw [intsD_len] at hl hf'
          obtain ⟨cs, rfl, hcs⟩ := cs_of hy
          rw [List.length_map] at hl
          refine ⟨cs.map chr1, by rw [List.map_map]; rfl, join_names _ (fun x hx => ?_) (by rw [List.length_map]; omega) _ (by decide +kernel), ?_⟩
          · obtain ⟨c, _, rfl⟩ := List.mem_map.mp hx
            exact (by decide : 1 ≤ 1000)
          have jl : (Txt.join "" (cs.map chr1)).length = z := by
            rw [← cd_len, cd_codes, hl]
            omega
          exact hk _ _ ⟨_, _, _, Txt.join "" (cs.map chr1), rfl, ⟨fun c hc => by rw [cd_codes] at hc; exact hcs c hc, by omega, by omega⟩, by omega⟩
        · rw [decide_eq_false hz]
          refine iteF ?_
          show if (!(xb false (decide (al = 0)))) = true then _ else _
          by_cases e : al = 0
          · rw [decide_eq_true e] at hk ⊢
            exact iteF (nxt (hk _ _ ⟨_, _, _, b, rfl, hb (by omega), by omega⟩))
          · rw [decide_eq_false e] at hk ⊢
            refine iteT ?_
            obtain ⟨f3, rfl⟩ : ∃ f3, f = f3 + 1 := ⟨f - 1, by omega⟩
            refine ⟨k, 9 - (wd : Int) - (pl : Int), f3, rfl, rfl, by omega, by omega, rfl, fun ln n0 n1 => ?_⟩
            obtain ⟨z, hz2⟩ : ∃ z : Nat, (pl : Int) + ln = (z : Int) := ⟨((pl : Int) + ln).toNat, by omega⟩
            simp only [oAdd]
            rw [hz2]
            simp only [List.set_cons_succ, List.set_cons_zero, setsR, startR, List.map_cons, List.map_nil, List.cons_append, List.nil_append, List.replicate_succ, List.replicate_zero, List.length_cons, List.length_nil, Nat.reduceAdd, Nat.reduceSub]
            refine ⟨trivial, by omega, by omega, by rw [intsD_len]; exact L1 (by omega), ?_⟩
            refine dLcGo_each (P := fun y => ∃ c : Nat, y = .str (chr1 c) ∧ 97 ≤ c ∧ c ≤ 122) 1 _ _ _ (by rw [intsD_len]; omega) (fun d _ => ⟨_, rfl, fun f Q hf hq => .inr ⟨k, _, rfl, rfl, by decide +kernel, by decide +kernel, hf, fun c hc f' hf' => hq _ _ ⟨c, rfl, lc c hc⟩ hf'⟩⟩) (fun ys f' hl hy hf' => ?_)
            rw [intsD_len] at hl hf'
            obtain ⟨cs, rfl, hcs⟩ := cs_of hy
            rw [List.length_map] at hl
            refine ⟨cs.map chr1, by rw [List.map_map]; rfl, join_names _ (fun x hx => ?_) (by rw [List.length_map]; omega) _ (by decide +kernel), ?_⟩
            · obtain ⟨c, _, rfl⟩ := List.mem_map.mp hx
              exact (by decide : 1 ≤ 1000)
            have jl : (Txt.join "" (cs.map chr1)).length = z := by
              rw [← cd_len, cd_codes, hl]
              omega
            exact hk _ _ ⟨_, _, _, Txt.join "" (cs.map chr1), rfl, ⟨fun c hc => by rw [cd_codes] at hc; exact hcs c hc, by omega, by omega⟩, by omega⟩
    · rintro ⟨x, y, w, v, l, b, rfl, hl2, hn, hc, hb, hf2⟩
      refine q l f hl2 hn ?_ (by omega)
      refine List.pairwise_iff_getElem.mpr fun i j hi hj hij e => ?_
      have h1 := hc i hi
      have h2 := hc j hj
      rw [e, h2] at h1
      have h1 := Option.some.inj h1
      omega
/-! _law_areas -/
theorem sc__law_areas : FnScope ["_law_stream_here", "_law_heads", "_law_names_here", "_law_deep", "_law_found", "_law_name", "_law_many"] ["_law_stream_here", "_law_heads", "_law_names_here", "_law_deep"] (defScope s__law_areas) := ⟨rfl, rfl, rfl, by decide +kernel, rfl, by decide +kernel, by decide +kernel⟩
/-- an area: a head some times, and its name -/
def arN (z : Str × Nat × Str) : List Str := List.replicate z.2.1 z.1 ++ [z.2.2]
def arS (z : Str × Nat × Str) : Str := Txt.join "." (arN z)
structure Ars (hs ns : List Str) (d : Nat) (zs : List (Str × Nat × Str)) : Prop where
  n : zs.map (·.2.2) = ns
  h : ∀ z ∈ zs, z.1 ∈ hs ∧ z.2.1 ≤ d
def Sp__law_areas : DSp := fun g ds f Q => ∃ (k : Dk) (hs ns : List Str) (dp : Nat), g = some k ∧ ds = [.any (.ref k.a), .lst (hs.map D.str), .lst (ns.map D.str), .int dp] ∧ 0 < hs.length ∧ hs.length ≤ 100 ∧ (∀ s ∈ hs, isName s) ∧ ns.length ≤ 100 ∧ (∀ s ∈ ns, isName s) ∧ dp ≤ 4 ∧ 3 * ns.length ≤ f ∧
  ∀ zs f', Ars hs ns dp zs → f ≤ f' + 3 * ns.length → Q (.lst ((zs.map arS).map D.str)) f'
set_option maxHeartbeats 2000000 in
theorem ok__law_areas (d : Df K mg "_law_areas" s__law_areas) (c__law_pick : Cal P w K mg base 2 "_law_pick" ["_law_stream_here", "_law_items"] Sp__law_pick) (c__law_draw : Cal P w K mg base 1 "_law_draw" ["_law_stream_here", "_law_many"] Sp__law_draw) : Cal P w K mg base 3 "_law_areas" ["_law_stream_here", "_law_heads", "_law_names_here", "_law_deep"] Sp__law_areas := by
  obtain ⟨f, fd, F, m⟩ := d
  refine ⟨f, fd, dfn (k := 2) (S := Sp__law_areas) F sc__law_areas ?len (fun cdv A outer s H E hr => (dss_cons (ds_setL false (i := 4) sc__law_areas.nd (dl_lst da_nil))
      (dss_cons (ds_for [] PassesOwn.never (di_seq (de_v 2)) (dg_name (i := 5) sc__law_areas.nd) (dss_cons (ds_set false (i := 6) sc__law_areas.nd (de_mul (de_callC c__law_draw (hr.mono (by decide)) (da_cons (de_v 0) (da_cons de_int da_nil))) (de_callC c__law_draw (hr.mono (by decide)) (da_cons (de_v 0) (da_cons (de_add (de_v 3) de_int) da_nil)))))
      (dss_one (ds_app false (i := 4) (de_join de_str (de_add (de_mulL (dl_lst (da_cons (de_callC c__law_pick (hr.mono (by decide)) (da_cons (de_v 0) (da_cons (de_v 1) da_nil))) da_nil)).e (de_v 6)) (dl_lst (da_cons (de_v 5) da_nil)).e))))))
      (dss_one (ds_ret (de_v 4)))))) ?h, F.kp, F.binds fun _ _ _ _ _ _ us hl => match us, hl with | [_, _, _, _], _ => rfl, m⟩
  case len =>
    intro g ds n Q h; obtain ⟨_, _, _, _, _, rfl, _⟩ := h; rfl
  case h =>
    intro g ds n Q h
    obtain ⟨k, hs, ns, dp, rfl, rfl, h0, h1, hhs, hl, hns, hdp, hf, q⟩ := h
    refine ⟨Nat.zero_le _, ?_⟩
    refine dFor_list D.str (fun done rest r f => ∃ (zs : List (Str × Nat × Str)) (a b : Sl), r = [.sh (.any (.ref k.a)), .sh (.lst (hs.map D.str)), .sh (.lst (ns.map D.str)), .sh (.int dp), .ow ((zs.map arS).map D.str), a, b] ∧ Ars hs done dp zs ∧ n ≤ f + 3 * done.length) _ _ _ ?_ ?_ ⟨[], _, _, rfl, ⟨rfl, by simp⟩, by simp⟩
    · rintro done nm rest r f N hx ⟨zs, a, b, rfl, hz, hf2⟩ hN
      have hxl := congrArg List.length hx
      rw [List.length_append, List.length_cons] at hxl
      have hnm : isName nm := hns nm (by rw [hx]; simp)
      obtain ⟨f1, rfl⟩ : ∃ f1, f = f1 + 3 := ⟨f - 3, by omega⟩
      refine ⟨_, rfl, k, 2, f1 + 2, rfl, rfl, by decide, by decide, rfl, fun x x0 x1 => ?_⟩
      refine ⟨k, (dp : Int) + 1, f1 + 1, rfl, rfl, by omega, by omega, rfl, fun y y0 y1 => ?_⟩
      have xy : 0 ≤ x * y ∧ x * y ≤ dp := by
        have : x = 0 ∨ x = 1 := by omega
        rcases this with rfl | rfl
        · rw [Int.zero_mul]; omega
        · rw [Int.one_mul]; omega
      refine ⟨.inl ⟨by omega, by omega⟩, ?_⟩
      have hmd : (x * y).toNat ≤ dp := by omega
      simp only [List.set_cons_succ, List.set_cons_zero, setsR, startR, List.map_cons, List.map_nil, List.cons_append, List.nil_append, List.replicate_succ, List.replicate_zero, List.length_cons, List.length_nil, Nat.reduceAdd, Nat.reduceSub]
      refine ⟨_, rfl, trivial, ?_⟩
      refine .inl ⟨k, _, rfl, rfl, by rw [List.length_map]; exact h0, by rw [List.length_map]; omega, by omega, fun hd hhd f3 hf3 => ?_⟩
      obtain ⟨h, hh, rfl⟩ := List.mem_map.mp hhd
      have rl : (List.replicate (x * y).toNat [D.str h]).flatten = (List.replicate (x * y).toNat h).map D.str := by
        generalize (x * y).toNat = m
        induction m with
        | zero => rfl
        | succ m ih => rw [List.replicate_succ, List.flatten_cons, ih, List.replicate_succ]; rfl
      refine ⟨show 1 ≤ lim by decide, xy.1, by omega, ?_, show 1 ≤ lim by decide, ?_⟩
      · show 1 * (x * y).toNat ≤ lim
        exact L1 (by omega)
      rw [rl]
      refine ⟨?_, arN (h, (x * y).toNat, nm), ?_, ?_, ?_, ?_⟩
      · rw [List.length_map, List.length_replicate]; exact L1 (by show _ + 1 ≤ _; omega)
      · unfold arN
        rw [List.map_append]
        rfl
      · refine join_names _ (fun s hs => ?_) ?_ _ (by decide +kernel)
        · unfold arN at hs
          rcases List.mem_append.mp hs with e | e
          · rw [List.eq_of_mem_replicate e]
            exact Nat.le_trans (hhs h hh).2.1 (by decide)
          · rw [List.mem_singleton.mp e]
            exact Nat.le_trans hnm.2.1 (by decide)
        · unfold arN
          rw [List.length_append, List.length_replicate]
          show (x * y).toNat + 1 ≤ 1000
          omega
      · have zl : zs.length = done.length := by rw [← hz.n, List.length_map]
        rw [List.length_map, List.length_map]
        exact L1 (by omega)
      · refine hN _ _ ⟨zs ++ [(h, (x * y).toNat, nm)], _, _, by rw [List.map_append, List.map_append]; rfl, ⟨by rw [List.map_append, hz.n]; rfl, fun z hz' => ?_⟩, by rw [List.length_append, List.length_singleton]; omega⟩
        rcases List.mem_append.mp hz' with e | e
        · exact hz.h z e
        · rw [List.mem_singleton.mp e]
          exact ⟨hh, hmd⟩
    · rintro r f ⟨zs, a, b, rfl, hz, hf2⟩
      exact q zs f hz hf2
/-! is_name -/
theorem sc_is_name : FnScope ["value", "sign"] ["value"] (defScope s_is_name) := ⟨rfl, rfl, rfl, by decide +kernel, rfl, by decide +kernel, by decide +kernel⟩
def letL : List Nat := (Str.ofString "abcdefghijklmnopqrstuvwxyz").cps.toList
def nmB (s : Str) : Bool := decide (1 ≤ s.length) && decide (s.length ≤ 8) && (cd s).all fun c => decide (c ∈ letL)
def Sp_is_name : DSp := fun _ ds f Q => ∃ s : Str, ds = [.str s] ∧ s.length ≤ 100000 ∧ Q (.bool (nmB s)) f
set_option maxHeartbeats 2000000 in
theorem ok_is_name (d : Df K mg "is_name" s_is_name) (m_all : mg "all" = none) (m_len : mg "len" = none) (m_str : mg "str" = none) (m_isinstance : mg "isinstance" = none) (g_LETTERS : ∃ t, mg "LETTERS" = some (.str "abcdefghijklmnopqrstuvwxyz" t)) (g_MAX_LETTERS : ∃ t, mg "MAX_LETTERS" = some (.int 8 t)) : Cal P w K mg base 1 "is_name" ["value"] Sp_is_name := by
  obtain ⟨f, fd, F, m⟩ := d
  refine ⟨f, fd, dfn (k := 0) (S := Sp_is_name) F sc_is_name ?len (fun cdv A outer s H E hr => (dss_one (ds_ret (de_and (de_isi m_isinstance (da_cons (de_v 0) (da_cons (de_bltn (v := .ty "str") (u := .type "str") (by rfl) m_str (by decide +kernel) rfl) da_nil))) (de_and (de_lele de_int (de_len m_len (da_cons (de_v 0) da_nil)) (de_glob (v := .int 8) (d := .int 8) (by rfl) g_MAX_LETTERS.choose_spec ⟨_, rfl⟩ (fun _ => rfl))) (de_one (de_callB (cr_all rfl) sc_all (by rfl) m_all (by decide +kernel) (da_cons (dl_lc (own := [("sign", 1)]) rfl sc_is_name.nd (di_seq (de_v 0)) (blkOk_by (own := [("sign", 1)]) (N := ["value", "sign"]) (sc := defScope s_is_name) (by decide +kernel)) (fun _ _ _ _ _ => dg_name (i := 1) sc_is_name.nd) (fun _ _ _ _ _ => dts_nil) (fun _ _ _ _ _ => (de_in hr (de_v 1) (de_glob (v := .str "abcdefghijklmnopqrstuvwxyz") (d := .str "abcdefghijklmnopqrstuvwxyz") (by rfl) g_LETTERS.choose_spec ⟨_, rfl⟩ (fun _ => rfl))))).e da_nil)))))))) ?h, F.kp, F.binds fun _ _ _ _ _ _ us hl => match us, hl with | [_], _ => rfl, m⟩
  case len =>
    intro g ds n Q h; obtain ⟨_, rfl, _⟩ := h; rfl
  case h =>
    intro g ds n Q h
    obtain ⟨s, rfl, hl, q⟩ := h
    refine ⟨"str", true, rfl, by decide +kernel, Nat.le_trans hl (by decide), ?_⟩
    unfold nmB at q
    show if decide ((1 : Int) ≤ (s.length : Int)) = true then _ else _
    by_cases h1 : 1 ≤ s.length
    · rw [decide_eq_true (by omega : (1 : Int) ≤ s.length)]
      rw [decide_eq_true h1, Bool.true_and] at q
      show if decide ((s.length : Int) ≤ 8) = true then _ else _
      by_cases h2 : s.length ≤ 8
      · rw [decide_eq_true (by omega : (s.length : Int) ≤ 8)]
        rw [decide_eq_true h2, Bool.true_and] at q
        refine ⟨?_, ?_⟩
        · unfold signs; rw [List.length_map]; rw [TL.len_tl] at h2; exact Nat.le_trans h2 (by decide)
        refine dLcGo_pure (fun _ => true) (fun d => match d with | .str z => .bool ((cd z).all fun c => decide (c ∈ letL)) | _ => .none) _ _ _ (fun d hd => ?_) ?_
        · unfold signs at hd
          obtain ⟨c, hc, rfl⟩ := List.mem_map.mp hd
          refine ⟨_, rfl, fun f Q h => h, fun _ f Q h => ⟨c, rfl, ?_⟩⟩
          have : ((cd (⟨#[c]⟩ : Str)).all fun c => decide (c ∈ letL)) = decide (c ∈ letL) := by show ([c].all fun c => decide (c ∈ letL)) = _; simp
          have h : Q (.bool ((cd (⟨#[c]⟩ : Str)).all fun c => decide (c ∈ letL))) f := h
          rw [this] at h
          exact h
        · refine ⟨(cd s).map fun c => decide (c ∈ letL), ?_, ?_⟩
          · rw [List.filter_eq_self.mpr (fun _ _ => rfl), List.nil_append]
            unfold signs
            rw [List.map_map, List.map_map]
            apply List.map_congr_left
            intro c _
            show D.bool ((cd (⟨#[c]⟩ : Str)).all fun c => decide (c ∈ letL)) = D.bool (decide (c ∈ letL))
            congr 1
            show ([c].all fun c => decide (c ∈ letL)) = _
            simp
          · rw [show (((cd s).map fun c => decide (c ∈ letL)).all id) = (cd s).all fun c => decide (c ∈ letL) from by rw [List.all_map]; rfl]
            exact q
      · rw [decide_eq_false (by omega : ¬ (s.length : Int) ≤ 8)]
        rw [decide_eq_false h2, Bool.false_and] at q
        exact q
    · rw [decide_eq_false (by omega : ¬ (1 : Int) ≤ s.length)]
      rw [decide_eq_false h1, Bool.false_and, Bool.false_and] at q
      exact q
/-! is_path -/
theorem sc_is_path : FnScope ["value", "names", "name"] ["value"] (defScope s_is_path) := ⟨rfl, rfl, rfl, by decide +kernel, rfl, by decide +kernel, by decide +kernel⟩
def pathB (s : Str) : Bool := decide ((Txt.split s ".").length ≤ 6) && (Txt.split s ".").all nmB
def isPathD : D → Bool
  | .str s => pathB s
  | _ => false
def Sp_is_path : DSp := fun _ ds f Q => ∃ x : D, ds = [x] ∧ x.tyd = true ∧ (∀ s, x = .str s → s.length ≤ 100000) ∧ Q (.bool (isPathD x)) f
theorem tyd_isi {x : D} (h : x.tyd = true) : ∃ t, x.tyN = some t ∧ kitB t "str" = some x.isSt := by
  cases x <;> first
    | (cases h; done)
    | (refine ⟨_, rfl, ?_⟩; simp only [D.isSt]; decide +kernel)
theorem split_part_len {s x : Str} (h : x ∈ Txt.split s ".") : x.length ≤ s.length := by
  have hm : cd x ∈ sp (cd s) := by rw [← split_cd]; exact List.mem_map_of_mem h
  have : ∀ (l n : List Nat), n ∈ sp l → n.length ≤ l.length := by
    intro l
    induction l with
    | nil => intro n hn; simp [sp] at hn; simp [hn]
    | cons c r ih =>
      intro n hn
      unfold sp at hn
      split at hn
      · rcases List.mem_cons.mp hn with e | e
        · simp [e]
        · have := ih n e; simp only [List.length_cons]; omega
      · cases e : sp r with
        | nil => exact absurd e (sp_ne r)
        | cons a t =>
          rw [e] at hn ih
          rcases List.mem_cons.mp hn with e' | e'
          · subst e'; have := ih a (by simp); simp only [List.length_cons]; omega
          · have := ih n (by simp [e']); simp only [List.length_cons]; omega
  rw [TL.len_tl, TL.len_tl]
  exact this _ _ hm
set_option maxHeartbeats 2000000 in
theorem ok_is_path (d : Df K mg "is_path" s_is_path) (m_all : mg "all" = none) (m_len : mg "len" = none) (m_str : mg "str" = none) (m_isinstance : mg "isinstance" = none) (g_MAX_NAMES : ∃ t, mg "MAX_NAMES" = some (.int 6 t)) (c_is_name : Cal P w K mg base 1 "is_name" ["value"] Sp_is_name) : Cal P w K mg base 2 "is_path" ["value"] Sp_is_path := by
  obtain ⟨f, fd, F, m⟩ := d
  refine ⟨f, fd, dfn (k := 1) (S := Sp_is_path) F sc_is_path ?len (fun cdv A outer s H E hr => (dss_cons (ds_if (dp_not (dp_val (de_isi m_isinstance (da_cons (de_v 0) (da_cons (de_bltn (v := .ty "str") (u := .type "str") (by rfl) m_str (by decide +kernel) rfl) da_nil))))) (dss_one (ds_ret de_bl)) dss_nil)
      (dss_cons (ds_set false (i := 1) sc_is_path.nd (dl_split (de_v 0) de_str).e)
      (dss_one (ds_ret (de_and (de_le (de_len m_len (da_cons (de_v 1) da_nil)) (de_glob (v := .int 6) (d := .int 6) (by rfl) g_MAX_NAMES.choose_spec ⟨_, rfl⟩ (fun _ => rfl))) (de_one (de_callB (cr_all rfl) sc_all (by rfl) m_all (by decide +kernel) (da_cons (dl_lc (own := [("name", 2)]) rfl sc_is_path.nd (di_seq (de_v 1)) (blkOk_by (own := [("name", 2)]) (N := ["value", "names", "name"]) (sc := defScope s_is_path) (by decide +kernel)) (fun _ _ _ _ _ => dg_name (i := 2) sc_is_path.nd) (fun _ _ _ _ _ => dts_nil) (fun _ _ _ _ _ => (de_callC c_is_name (hr.mono (by decide)) (da_cons (de_v 2) da_nil)))).e da_nil))))))))) ?h, F.kp, F.binds fun _ _ _ _ _ _ us hl => match us, hl with | [_], _ => rfl, m⟩
  case len =>
    intro g ds n Q h; obtain ⟨_, rfl, _⟩ := h; rfl
  case h =>
    intro g ds n Q h
    obtain ⟨x, rfl, hx, hl, q⟩ := h
    obtain ⟨t, ht, hk⟩ := tyd_isi hx
    refine ⟨t, _, ht, hk, ?_⟩
    cases x with
    | str s =>
      have hs := hl s rfl
      refine ⟨by decide +kernel, Nat.le_trans hs (by decide), ?_⟩
      show if decide ((((Txt.split s ".").map D.str).length : Int) ≤ 6) = true then _ else _
      rw [List.length_map]
      have q : Q (.bool (decide ((Txt.split s ".").length ≤ 6) && (Txt.split s ".").all nmB)) n := q
      by_cases h6 : (Txt.split s ".").length ≤ 6
      · rw [decide_eq_true (by omega : ((Txt.split s ".").length : Int) ≤ 6)]
        rw [decide_eq_true h6, Bool.true_and] at q
        refine ⟨by rw [List.length_map]; exact Nat.le_trans h6 (by decide), ?_⟩
        refine dLcGo_pure (fun _ => true) (fun d => match d with | .str z => .bool (nmB z) | _ => .none) _ _ _ (fun d hd => ?_) ?_
        · obtain ⟨z, hz, rfl⟩ := List.mem_map.mp hd
          exact ⟨_, rfl, fun f Q h => h, fun _ f Q h => ⟨z, rfl, Nat.le_trans (split_part_len hz) hs, h⟩⟩
        · refine ⟨(Txt.split s ".").map nmB, ?_, ?_⟩
          · rw [List.filter_eq_self.mpr (fun _ _ => rfl), List.nil_append, List.map_map, List.map_map]; rfl
          · rw [show (((Txt.split s ".").map nmB).all id) = (Txt.split s ".").all nmB from by rw [List.all_map]; rfl]
            exact q
      · rw [decide_eq_false (by omega : ¬ ((Txt.split s ".").length : Int) ≤ 6)]
        rw [decide_eq_false h6, Bool.false_and] at q
        exact q
    | dtt _ _ => cases hx
    | ktup _ => cases hx
    | ftp _ => cases hx
    | obj _ _ _ => cases hx
    | any _ => cases hx
    | _ => exact q
/-! covers -/
theorem sc_covers : FnScope ["path", "other"] ["path", "other"] (defScope s_covers) := ⟨rfl, rfl, rfl, by decide +kernel, rfl, by decide +kernel, by decide +kernel⟩
def Sp_covers : DSp := fun _ ds f Q => ∃ p o : Str, ds = [.str p, .str o] ∧ p.length ≤ 100000 ∧ Q (.bool (cov p o)) f
set_option maxHeartbeats 2000000 in
theorem ok_covers (d : Df K mg "covers" s_covers) : Cal P w K mg base 1 "covers" ["path", "other"] Sp_covers := by
  obtain ⟨f, fd, F, m⟩ := d
  refine ⟨f, fd, dfn (k := 0) (S := Sp_covers) F sc_covers ?len (fun cdv A outer s H E hr => (dss_one (ds_ret (de_or (de_eq hr.units (de_v 1) (de_v 0)) (de_one (de_starts (de_v 1) (de_add (de_v 0) de_str))))))) ?h, F.kp, F.binds fun _ _ _ _ _ _ us hl => match us, hl with | [_, _], _ => rfl, m⟩
  case len =>
    intro g ds n Q h; obtain ⟨_, _, rfl, _⟩ := h; rfl
  case h =>
    intro g ds n Q h
    obtain ⟨p, o, rfl, hl, q⟩ := h
    unfold cov at q
    show if decide (o = p) = true then Q (.bool true) n else _
    cases e : decide (o = p) with
    | true => rw [e] at q; exact q
    | false =>
      rw [e] at q
      refine iteF ⟨trivial, ?_, q⟩
      exact Nat.le_trans (Nat.add_le_add_right hl 1) (by decide)
/-! overlap -/
theorem sc_overlap : FnScope ["path", "other"] ["path", "other"] (defScope s_overlap) := ⟨rfl, rfl, rfl, by decide +kernel, rfl, by decide +kernel, by decide +kernel⟩
def Sp_overlap : DSp := fun _ ds f Q => ∃ p o : Str, ds = [.str p, .str o] ∧ p.length ≤ 100000 ∧ o.length ≤ 100000 ∧ Q (.bool (cov p o || cov o p)) f
set_option maxHeartbeats 2000000 in
theorem ok_overlap (d : Df K mg "overlap" s_overlap) (c_covers : Cal P w K mg base 1 "covers" ["path", "other"] Sp_covers) : Cal P w K mg base 2 "overlap" ["path", "other"] Sp_overlap := by
  obtain ⟨f, fd, F, m⟩ := d
  refine ⟨f, fd, dfn (k := 1) (S := Sp_overlap) F sc_overlap ?len (fun cdv A outer s H E hr => (dss_one (ds_ret (de_or (de_callC c_covers (hr.mono (by decide)) (da_cons (de_v 0) (da_cons (de_v 1) da_nil))) (de_one (de_callC c_covers (hr.mono (by decide)) (da_cons (de_v 1) (da_cons (de_v 0) da_nil)))))))) ?h, F.kp, F.binds fun _ _ _ _ _ _ us hl => match us, hl with | [_, _], _ => rfl, m⟩
  case len =>
    intro g ds n Q h; obtain ⟨_, _, rfl, _⟩ := h; rfl
  case h =>
    intro g ds n Q h
    obtain ⟨p, o, rfl, h1, h2, q⟩ := h
    refine ⟨p, o, rfl, h1, ?_⟩
    cases e : cov p o with
    | true => rw [e] at q; exact q
    | false =>
      rw [e] at q
      exact ⟨o, p, rfl, h2, q⟩
/-! first_overlap -/
theorem sc_first_overlap : FnScope ["paths", "others", "path", "other"] ["paths", "others"] (defScope s_first_overlap) := ⟨rfl, rfl, rfl, by decide +kernel, rfl, by decide +kernel, by decide +kernel⟩
def ovl (p o : Str) : Bool := cov p o || cov o p
def firstOv (ps os : List Str) : D := match ps.find? fun p => os.any (ovl p) with
  | some p => .str p
  | none => .none
def short (l : List Str) : Prop := l.length ≤ 1000 ∧ ∀ s ∈ l, s.length ≤ 10000 ∧ asc s
def Sp_first_overlap : DSp := fun _ ds f Q => ∃ ps os : List Str, ds = [.tup (ps.map D.str), .tup (os.map D.str)] ∧ short ps ∧ short os ∧ Q (firstOv ps os) f
theorem any_filter (os : List Str) (b : Str → Bool) : decide (os.filter b = []) = !os.any b := by
  induction os with
  | nil => rfl
  | cons x l ih =>
    rw [List.filter_cons, List.any_cons]
    cases b x with
    | true => simp
    | false => simpa using ih
set_option maxHeartbeats 2000000 in
theorem ok_first_overlap (d : Df K mg "first_overlap" s_first_overlap) (c_overlap : Cal P w K mg base 2 "overlap" ["path", "other"] Sp_overlap) : Cal P w K mg base 3 "first_overlap" ["paths", "others"] Sp_first_overlap := by
  obtain ⟨f, fd, F, m⟩ := d
  refine ⟨f, fd, dfn (k := 2) (S := Sp_first_overlap) F sc_first_overlap ?len (fun cdv A outer s H E hr => (dss_cons (ds_for [] PassesOwn.never (di_seq (de_v 0)) (dg_name (i := 2) sc_first_overlap.nd) (dss_one (ds_if (dp_ne hr.units (dl_lc (own := [("other", 3)]) rfl sc_first_overlap.nd (di_seq (de_v 1)) (blkOk_by (own := [("other", 3)]) (N := ["paths", "others", "path", "other"]) (sc := defScope s_first_overlap) (by decide +kernel)) (fun _ _ _ _ _ => dg_name (i := 3) sc_first_overlap.nd) (fun _ _ _ _ _ => dts_one (dp_val (de_callC c_overlap (hr.mono (by decide)) (da_cons (de_v 2) (da_cons (de_v 3) da_nil))))) (fun _ _ _ _ _ => (de_v 3))).e (dl_lst da_nil).e) (dss_one (ds_ret (de_v 2))) dss_nil)))
      (dss_one (ds_ret de_non)))) ?h, F.kp, F.binds fun _ _ _ _ _ _ us hl => match us, hl with | [_, _], _ => rfl, m⟩
  case len =>
    intro g ds n Q h; obtain ⟨_, _, rfl, _⟩ := h; rfl
  case h =>
    intro g ds n Q h
    obtain ⟨ps, os, rfl, hp, ho, q⟩ := h
    refine dFor_inv (fun rest r f => f = n ∧ ∃ (ms : List Str) (a c e : Sl), rest = ms.map D.str ∧ r = [a, .sh (.tup (os.map D.str)), c, e] ∧ (∀ m ∈ ms, m ∈ ps) ∧ firstOv ms os = firstOv ps os) _ _ _ ?_ ?_ ⟨rfl, ps, _, _, _, rfl, rfl, fun _ h => h, rfl⟩
    · rintro d rest r f N ⟨rfl, ms, a, c, e, hms, rfl, hsub, heq⟩ hN
      match ms, hms with
      | m :: ms, hms =>
      obtain ⟨rfl, rfl⟩ := List.cons.inj hms
      refine ⟨_, rfl, ?_⟩
      have hm := hp.2 m (hsub m (by simp))
      refine ⟨by rw [List.length_map]; exact Nat.le_trans ho.1 (by decide), ?_⟩
      refine dLcGo_pure (fun d => match d with | .str z => ovl m z | _ => false) id _ _ _ (fun d hd => ?_) ?_
      · obtain ⟨z, hz, rfl⟩ := List.mem_map.mp hd
        have hz' := ho.2 z hz
        exact ⟨_, rfl, fun f Q h => ⟨m, z, rfl, Nat.le_trans hm.1 (by decide), Nat.le_trans hz'.1 (by decide), h⟩, fun _ f Q h => h⟩
      · rw [List.map_id, List.nil_append, filter_strs _ (ovl m) _ (fun s => rfl)]
        refine ⟨by decide, ?_⟩
        show oEq true (.lst ((os.filter (ovl m)).map D.str)) (.lst (([] : List Str).map D.str)) _
        refine oEq_lst (m := []) (fun s hs => (ho.2 s (List.mem_filter.mp hs).1).2) (by simp) ?_
        show if (!decide (os.filter (ovl m) = [])) = true then _ else _
        rw [any_filter, Bool.not_not]
        unfold firstOv at heq
        rw [List.find?_cons] at heq
        cases hb : os.any (ovl m) with
        | true =>
          rw [hb] at heq
          have : firstOv ps os = .str m := heq.symm
          rw [this] at q
          exact q
        | false =>
          rw [hb] at heq
          exact hN _ _ ⟨rfl, ms, _, _, _, rfl, rfl, fun m' h' => hsub m' (by simp [h']), heq⟩
    · rintro r f ⟨rfl, ms, a, c, e, hms, rfl, hsub, heq⟩
      obtain rfl : ms = [] := by
        match ms, hms with
        | [], _ => rfl
      rw [← heq] at q
      exact q
/-! modules_error -/
theorem sc_modules_error : FnScope ["modules", "index", "path"] ["modules"] (defScope s_modules_error) := ⟨rfl, rfl, rfl, by decide +kernel, rfl, by decide +kernel, by decide +kernel⟩
structure PVm (ms : List Str) : Prop where
  len : ms.length ≤ 24
  path : ∀ m ∈ ms, PathN 6 m
  apart : ms.Pairwise fun a b => ovl b a = false
def Sp_modules_error : DSp := fun _ ds f Q => ∃ ms : List Str, ds = [.tup (ms.map D.str)] ∧ PVm ms ∧ Q .none f
theorem isName_nmB {s : Str} (h : isName s) : nmB s = true := by
  unfold nmB
  rw [decide_eq_true h.1, decide_eq_true h.2.1]
  show (cd s).all _ = true
  rw [List.all_eq_true]
  intro c hc
  have hb := h.2.2 c hc
  have : ∀ c : Nat, 97 ≤ c → c ≤ 122 → c ∈ letL := by
    intro c h1 h2
    have h3 : c < 123 := by omega
    revert h1 h2
    have : ∀ c < 123, 97 ≤ c → c ≤ 122 → c ∈ letL := by decide +kernel
    exact this c h3
  exact decide_eq_true (this c hb.1 hb.2)
theorem PathN.splits {m : Nat} {x : Str} (h : PathN m x) : 1 ≤ (Txt.split x ".").length ∧ (Txt.split x ".").length ≤ m ∧ (∀ n ∈ Txt.split x ".", isName n) ∧ Txt.join "." (Txt.split x ".") = x := by
  obtain ⟨ns, n1, n2, n3, rfl⟩ := h
  rw [split_join_names (fun z => by rw [z] at n1; simp at n1) n3]
  exact ⟨n1, n2, n3, rfl⟩
theorem PathN.pathB {x : Str} (h : PathN 6 x) : pathB x = true := by
  obtain ⟨h1, h2, h3, h4⟩ := h.splits
  unfold DL.pathB
  rw [decide_eq_true h2, Bool.true_and, List.all_eq_true]
  exact fun n hn => isName_nmB (h3 n hn)
theorem PVm.short {ms : List Str} (h : PVm ms) : short ms := ⟨Nat.le_trans h.len (by decide), fun s hs => ⟨Nat.le_trans (h.path s hs).len (by decide), (h.path s hs).asc⟩⟩
theorem PVm.perm {l m : List Str} (h : PVm m) (p : l.Perm m) : PVm l where
  len := by rw [p.length_eq]; exact h.len
  path := fun s hs => h.path s (p.mem_iff.mp hs)
  apart := h.apart.perm p.symm fun {a b} e => by
    unfold ovl at e ⊢
    rw [Bool.or_comm]
    exact e
theorem PVm.sub {l m : List Str} (h : PVm m) (p : l.Sublist m) : PVm l := ⟨Nat.le_trans p.length_le h.len, fun s hs => h.path s (p.subset hs), h.apart.sublist p⟩
theorem ovl_self (m : Str) : ovl m m = true := by
  unfold ovl cov
  rw [decide_eq_true (rfl : m = m)]
  rfl
theorem PVm.nd {m : List Str} (h : PVm m) : m.Nodup := h.apart.imp fun {a b} e z => by
  rw [z, ovl_self] at e
  cases e
theorem PVm.asc {m : List Str} (h : PVm m) : ∀ s ∈ m, asc s := fun s hs => (h.path s hs).asc
set_option maxHeartbeats 2000000 in
theorem ok_modules_error (d : Df K mg "modules_error" s_modules_error) (m_enumerate : mg "enumerate" = none) (m_len : mg "len" = none) (m_tuple : mg "tuple" = none) (m_isinstance : mg "isinstance" = none) (g_MAX_MODULES : ∃ t, mg "MAX_MODULES" = some (.int 24 t)) (c_first_overlap : Cal P w K mg base 3 "first_overlap" ["paths", "others"] Sp_first_overlap) (c_is_path : Cal P w K mg base 2 "is_path" ["value"] Sp_is_path) : Cal P w K mg base 4 "modules_error" ["modules"] Sp_modules_error := by
  obtain ⟨f, fd, F, m⟩ := d
  refine ⟨f, fd, dfn (k := 3) (S := Sp_modules_error) F sc_modules_error ?len (fun cdv A outer s H E hr => (dss_cons (ds_if (DW.p (dw_or (dp_not (dp_val (de_isi m_isinstance (da_cons (de_v 0) (da_cons (de_bltn (v := .ty "tuple") (u := .type "tuple") (by rfl) m_tuple (by decide +kernel) rfl) da_nil))))) (dw_or1 (dp_gt (de_len m_len (da_cons (de_v 0) da_nil)) (de_glob (v := .int 24) (d := .int 24) (by rfl) g_MAX_MODULES.choose_spec ⟨_, rfl⟩ (fun _ => rfl)))))) (dss_one (ds_ret (de_tup (da_cons de_non (da_cons de_str da_nil))))) dss_nil)
      (dss_cons (ds_for [] PassesOwn.never (di_enum m_enumerate (da_cons (de_v 0) da_nil)) (dg_tup rfl (dgs_cons (dg_name (i := 1) sc_modules_error.nd) (dgs_cons (dg_name (i := 2) sc_modules_error.nd) dgs_nil))) (dss_cons (ds_if (dp_not (dp_val (de_callC c_is_path (hr.mono (by decide)) (da_cons (de_v 2) da_nil)))) (dss_one (ds_ret (de_tup (da_cons (de_v 1) (da_cons de_str da_nil))))) dss_nil)
      (dss_one (ds_if (dp_notN (de_callC c_first_overlap (hr.mono (by decide)) (da_cons (de_tup (da_cons (de_v 2) da_nil)) (da_cons (de_sl (de_v 0) do_none (do_some (de_v 1))) da_nil))) de_non) (dss_one (ds_ret (de_tup (da_cons (de_v 1) (da_cons de_str da_nil))))) dss_nil))))
      (dss_one (ds_ret de_non))))) ?h, F.kp, F.binds fun _ _ _ _ _ _ us hl => match us, hl with | [_], _ => rfl, m⟩
  case len =>
    intro g ds n Q h; obtain ⟨_, rfl, _⟩ := h; rfl
  case h =>
    intro g ds n Q h
    obtain ⟨ms, rfl, hv, q⟩ := h
    refine ⟨"tuple", true, rfl, by decide +kernel, ?_⟩
    show if decide ((((ms.map D.str).length : Int)) > 24) = true then _ else _
    rw [List.length_map, decide_eq_false (by have := hv.len; omega)]
    refine iteF ?_
    refine dFor_inv (fun rest r f => f = n ∧ ∃ (i : Nat) (a c : Sl), rest = (enumD (ms.map D.str)).drop i ∧ r = [.sh (.tup (ms.map D.str)), a, c]) _ _ _ ?_ (fun r f ⟨e, _⟩ => by subst e; exact q) ⟨rfl, 0, _, _, rfl, rfl⟩
    rintro d rest r f N ⟨rfl, i, a, c, hr, rfl⟩ hN
    have hd : (enumD (ms.map D.str))[i]? = some d := by
      have := congrArg List.head? hr
      rw [List.head?_drop] at this
      exact this.symm
    obtain ⟨x, hx, rfl⟩ := enumD_get hd
    rw [List.getElem?_map] at hx
    cases em : ms[i]? with
    | none => rw [em] at hx; cases hx
    | some m =>
      rw [em] at hx
      cases hx
      have hm : m ∈ ms := List.mem_of_getElem? em
      have hp := hv.path m hm
      refine ⟨_, rfl, .str m, rfl, rfl, fun s e => ?_, ?_⟩
      · cases e
        exact Nat.le_trans hp.len (by decide)
      · show if (!pathB m) = true then _ else _
        rw [hp.pathB]
        have hi : i < ms.length := (List.getElem?_eq_some_iff.mp em).1
        have et : cutD (ms.map D.str) none (some (i : Int)) = (ms.take i).map D.str := by rw [cutD_take, List.map_take]
        have hno : firstOv [m] (ms.take i) = .none := by
          unfold firstOv
          rw [List.find?_cons]
          have : (ms.take i).any (ovl m) = false := by
            rw [List.any_eq_false]
            intro z hz
            obtain ⟨j, hj, ez⟩ := List.getElem_of_mem hz
            rw [List.length_take] at hj
            rw [List.getElem_take] at ez
            have := List.pairwise_iff_getElem.mp hv.apart j i (by omega) hi (by omega)
            obtain ⟨_, e2⟩ := List.getElem?_eq_some_iff.mp em
            rw [ez, e2] at this
            rw [this]
            decide
          rw [this]
          rfl
        refine iteF ⟨show 1 ≤ lim by decide, [m], ms.take i, ?_, ⟨show 1 ≤ 1000 by decide, fun s hs => by rw [List.mem_singleton.mp hs]; exact hv.short.2 m hm⟩, ⟨Nat.le_trans (by rw [List.length_take]; exact Nat.min_le_right _ _) hv.short.1, fun s hs => hv.short.2 s (List.mem_of_mem_take hs)⟩, ?_⟩
        · show [D.tup [D.str m], D.tup (cutD (ms.map D.str) none (some (i : Int)))] = _
          rw [et]
          rfl
        · rw [hno]
          refine hN _ _ ⟨rfl, i + 1, _, _, ?_, rfl⟩
          rw [← List.tail_drop, ← hr]
          rfl
theorem ovl_pre {a b : List Str} (ha : a ≠ []) (hb : b ≠ []) (na : ∀ x ∈ a, isName x) (nb : ∀ x ∈ b, isName x) (h1 : ¬ a <+: b) (h2 : ¬ b <+: a) : ovl (Txt.join "." a) (Txt.join "." b) = false := by
  have key : ∀ {a b : List Str}, a ≠ [] → b ≠ [] → (∀ x ∈ a, isName x) → (∀ x ∈ b, isName x) → ¬ a <+: b → cov (Txt.join "." a) (Txt.join "." b) = false := fun {a b} ha hb na nb h => by
    rw [cov_take, split_join_names ha na, split_join_names hb nb]
    refine decide_eq_false fun e => h ?_
    rw [← e]
    exact List.take_prefix _ _
  unfold ovl
  rw [key ha hb na nb h1, key hb ha nb na h2]
  rfl
structure Nms (hs ns lv : List Str) : Prop where
  nn : ns.Nodup
  ln : lv.Nodup
  hn : ∀ h ∈ hs, h ∉ ns ∧ h ∉ lv
  nl : ∀ n ∈ ns, n ∉ lv
  oh : ∀ x ∈ hs, isName x
  on : ∀ x ∈ ns, isName x
  ol : ∀ x ∈ lv, isName x
theorem arN_mem {z : Str × Nat × Str} {x : Str} (h : x ∈ arN z) : x = z.1 ∨ x = z.2.2 := by
  unfold arN at h
  rcases List.mem_append.mp h with e | e
  · exact .inl (List.eq_of_mem_replicate e)
  · exact .inr (List.mem_singleton.mp e)
theorem arN_last (z : Str × Nat × Str) : z.2.2 ∈ arN z := List.mem_append.mpr (.inr (by simp))
theorem arN_ne (z : Str × Nat × Str) : arN z ≠ [] := by unfold arN; simp
theorem Ars.name {hs ns : List Str} {d : Nat} {zs : List (Str × Nat × Str)} (h : Ars hs ns d zs) {z : Str × Nat × Str} (hz : z ∈ zs) : z.2.2 ∈ ns := by
  rw [← h.n]
  exact List.mem_map.mpr ⟨z, hz, rfl⟩
theorem Ars.same {hs ns : List Str} {d : Nat} {zs : List (Str × Nat × Str)} (h : Ars hs ns d zs) (hn : ns.Nodup) {z z' : Str × Nat × Str} (hz : z ∈ zs) (hz' : z' ∈ zs) (e : z.2.2 = z'.2.2) : z = z' := by
  rw [← h.n] at hn
  obtain ⟨i, hi, rfl⟩ := List.getElem_of_mem hz
  obtain ⟨j, hj, rfl⟩ := List.getElem_of_mem hz'
  have key := List.pairwise_iff_getElem.mp hn
  rcases Nat.lt_trichotomy i j with c | c | c
  · exact absurd (by rw [List.getElem_map, List.getElem_map]; exact e) (key i j (by rw [List.length_map]; exact hi) (by rw [List.length_map]; exact hj) c)
  · subst c
    rfl
  · exact absurd (by rw [List.getElem_map, List.getElem_map]; exact e.symm) (key j i (by rw [List.length_map]; exact hj) (by rw [List.length_map]; exact hi) c)
structure MI (hs ns : List Str) (F : List (Str × Nat × Str)) (done : List Str) (L : List (List Str)) : Prop where
  ne : ∀ a ∈ L, a ≠ []
  le : ∀ a ∈ L, a.length ≤ 6
  ok : ∀ a ∈ L, ∀ x ∈ a, isName x
  tg : ∀ a ∈ L, (∃ z ∈ F, a = arN z) ∨ ∃ o ∈ done, o ∈ a
  nm : ∀ a ∈ L, ∀ x ∈ a, x ∈ hs ∨ x ∈ ns ∨ x ∈ done
  ap : L.Pairwise fun a b => ¬ a <+: b ∧ ¬ b <+: a
theorem MI.start {hs ns lv : List Str} {d : Nat} {zs F : List (Str × Nat × Str)} (hA : Ars hs ns d zs) (hd : d ≤ 5) (hN : Nms hs ns lv) (hF : F.Sublist zs) : MI hs ns F [] (F.map arN) where
  ne := fun a ha => by obtain ⟨z, _, rfl⟩ := List.mem_map.mp ha; exact arN_ne z
  le := fun a ha => by
    obtain ⟨z, hz, rfl⟩ := List.mem_map.mp ha
    have := (hA.h z (hF.subset hz)).2
    unfold arN
    rw [List.length_append, List.length_replicate]
    show z.2.1 + 1 ≤ 6
    omega
  ok := fun a ha x hx => by
    obtain ⟨z, hz, rfl⟩ := List.mem_map.mp ha
    rcases arN_mem hx with rfl | rfl
    · exact hN.oh _ (hA.h z (hF.subset hz)).1
    · exact hN.on _ (hA.name (hF.subset hz))
  tg := fun a ha => by obtain ⟨z, hz, rfl⟩ := List.mem_map.mp ha; exact .inl ⟨z, hz, rfl⟩
  nm := fun a ha x hx => by
    obtain ⟨z, hz, rfl⟩ := List.mem_map.mp ha
    rcases arN_mem hx with rfl | rfl
    · exact .inl (hA.h z (hF.subset hz)).1
    · exact .inr (.inl (hA.name (hF.subset hz)))
  ap := by
    rw [List.pairwise_map]
    have hnd : (F.map (·.2.2)).Nodup := by
      have : (zs.map (·.2.2)).Nodup := by rw [hA.n]; exact hN.nn
      exact this.sublist (hF.map _)
    have hp : F.Pairwise fun z z' => z.2.2 ≠ z'.2.2 := (List.pairwise_map).mp hnd
    have key : ∀ z ∈ F, ∀ z' ∈ F, z.2.2 ≠ z'.2.2 → ¬ arN z <+: arN z' := fun z hz z' hz' h e => by
      rcases arN_mem (e.subset (arN_last z)) with h1 | h1
      · exact (hN.hn _ (hA.h z' (hF.subset hz')).1).1 (h1 ▸ hA.name (hF.subset hz))
      · exact h h1
    refine hp.imp_of_mem fun {z z'} hz hz' h => ⟨key z hz z' hz' h, key z' hz' z hz (Ne.symm h)⟩
theorem MI.add {hs ns lv done : List Str} {d : Nat} {zs F : List (Str × Nat × Str)} {L : List (List Str)} {o : Str} {pre : List Str} (hM : MI hs ns F done L) (hA : Ars hs ns d zs) (hd : d ≤ 4) (hN : Nms hs ns lv) (hF : F.Sublist zs)
    (hdn : ∀ x ∈ done, x ∈ lv) (ho : o ∈ lv) (hod : o ∉ done) (hp : pre = [] ∨ ∃ z ∈ zs, z ∉ F ∧ (pre = arN z ∨ z.2.1 ≤ 3 ∧ pre = arN z ++ [z.2.2])) : MI hs ns F (done ++ [o]) (L ++ [pre ++ [o]]) := by
  have pm : ∀ x ∈ pre, (x ∈ hs ∨ x ∈ ns) := fun x hx => by
    rcases hp with rfl | ⟨z, hz, _, rfl | ⟨z3, rfl⟩⟩
    · simp at hx
    · rcases arN_mem hx with rfl | rfl
      · exact .inl (hA.h z hz).1
      · exact .inr (hA.name hz)
    · rcases List.mem_append.mp hx with h | h
      · rcases arN_mem h with rfl | rfl
        · exact .inl (hA.h z hz).1
        · exact .inr (hA.name hz)
      · rw [List.mem_singleton.mp h]; exact .inr (hA.name hz)
  have pl : pre.length ≤ 5 := by
    rcases hp with rfl | ⟨z, hz, _, rfl | ⟨z3, rfl⟩⟩
    · decide
    · have := (hA.h z hz).2
      unfold arN
      rw [List.length_append, List.length_replicate]
      show z.2.1 + 1 ≤ 5
      omega
    · have := (hA.h z hz).2
      unfold arN
      rw [List.length_append, List.length_append, List.length_replicate]
      show z.2.1 + 1 + 1 ≤ 5
      omega
  have noh : o ∉ hs := fun h => (hN.hn o h).2 ho
  have non : o ∉ ns := fun h => hN.nl o h ho
  refine ⟨fun a ha => ?_, fun a ha => ?_, fun a ha x hx => ?_, fun a ha => ?_, fun a ha x hx => ?_, ?_⟩
  · rcases List.mem_append.mp ha with h | h
    · exact hM.ne a h
    · rw [List.mem_singleton.mp h]; simp
  · rcases List.mem_append.mp ha with h | h
    · exact hM.le a h
    · rw [List.mem_singleton.mp h, List.length_append]
      show pre.length + 1 ≤ 6
      omega
  · rcases List.mem_append.mp ha with h | h
    · exact hM.ok a h x hx
    · rw [List.mem_singleton.mp h] at hx
      rcases List.mem_append.mp hx with h2 | h2
      · exact (pm x h2).elim (hN.oh x) (hN.on x)
      · rw [List.mem_singleton.mp h2]; exact hN.ol o ho
  · rcases List.mem_append.mp ha with h | h
    · rcases hM.tg a h with ⟨z, hz, e⟩ | ⟨p, hp', hpa⟩
      · exact .inl ⟨z, hz, e⟩
      · exact .inr ⟨p, List.mem_append.mpr (.inl hp'), hpa⟩
    · refine .inr ⟨o, by simp, ?_⟩
      rw [List.mem_singleton.mp h]; simp
  · rcases List.mem_append.mp ha with h | h
    · rcases hM.nm a h x hx with e | e | e
      · exact .inl e
      · exact .inr (.inl e)
      · exact .inr (.inr (List.mem_append.mpr (.inl e)))
    · rw [List.mem_singleton.mp h] at hx
      rcases List.mem_append.mp hx with h2 | h2
      · exact (pm x h2).elim .inl fun e => .inr (.inl e)
      · rw [List.mem_singleton.mp h2]; exact .inr (.inr (by simp))
  · rw [List.pairwise_append]
    refine ⟨hM.ap, by simp, fun a ha b hb => ?_⟩
    rw [List.mem_singleton.mp hb]
    have oa : o ∉ a := fun h => by
      rcases hM.nm a ha o h with e | e | e
      · exact noh e
      · exact non e
      · exact hod e
    refine ⟨fun e => ?_, fun e => oa (e.subset (by simp))⟩
    rcases List.prefix_concat_iff.mp e with e | e
    · exact oa (by rw [e]; simp)
    · rcases hM.tg a ha with ⟨z', hz', rfl⟩ | ⟨p, hp', hpa⟩
      · have hm := e.subset (arN_last z')
        have hnz := hA.name (hF.subset hz')
        rcases hp with rfl | ⟨z, hz, hzF, hpe⟩
        · simp at hm
        · have : z'.2.2 = z.1 ∨ z'.2.2 = z.2.2 := by
            rcases hpe with rfl | ⟨_, rfl⟩
            · exact arN_mem hm
            · rcases List.mem_append.mp hm with h | h
              · exact arN_mem h
              · exact .inr (List.mem_singleton.mp h)
          rcases this with h | h
          · exact (hN.hn _ (hA.h z hz).1).1 (h ▸ hnz)
          · exact hzF (hA.same hN.nn (hF.subset hz') hz h ▸ hz')
      · rcases pm p (e.subset hpa) with h | h
        · exact (hN.hn p h).2 (hdn p hp')
        · exact hN.nl p h (hdn p hp')
theorem MI.pvm {hs ns done : List Str} {F : List (Str × Nat × Str)} {L : List (List Str)} (h : MI hs ns F done L) : PVm ((L.map (Txt.join ".")).take 24) where
  len := by rw [List.length_take]; omega
  path := fun m hm => by
    obtain ⟨a, ha, rfl⟩ := List.mem_map.mp (List.mem_of_mem_take hm)
    exact ⟨a, List.length_pos_iff.mpr (h.ne a ha), h.le a ha, h.ok a ha, rfl⟩
  apart := by
    refine List.Pairwise.sublist (List.take_sublist _ _) ?_
    rw [List.pairwise_map]
    exact h.ap.imp_of_mem fun {a b} ha hb e => ovl_pre (h.ne b hb) (h.ne a ha) (h.ok b hb) (h.ok a ha) e.2 e.1
/-! _law_shuffled -/
theorem sc__law_shuffled : FnScope ["_law_stream_here", "_law_items", "_law_found", "_law_item"] ["_law_stream_here", "_law_items"] (defScope s__law_shuffled) := ⟨rfl, rfl, rfl, by decide +kernel, rfl, by decide +kernel, by decide +kernel⟩
def Sp__law_shuffled : DSp := fun g ds f Q => ∃ (k : Dk) (xs : List D), g = some k ∧ ds = [.any (.ref k.a), .lst xs] ∧ xs.length ≤ 1000 ∧ xs.length ≤ f ∧ ∀ ys f', ys.Perm xs → f ≤ f' + xs.length → Q (.lst ys) f'
set_option maxHeartbeats 2000000 in
theorem ok__law_shuffled (d : Df K mg "_law_shuffled" s__law_shuffled) (m_len : mg "len" = none) (c__law_draw : Cal P w K mg base 1 "_law_draw" ["_law_stream_here", "_law_many"] Sp__law_draw) : Cal P w K mg base 2 "_law_shuffled" ["_law_stream_here", "_law_items"] Sp__law_shuffled := by
  obtain ⟨f, fd, F, m⟩ := d
  refine ⟨f, fd, dfn (k := 1) (S := Sp__law_shuffled) F sc__law_shuffled ?len (fun cdv A outer s H E hr => (dss_cons (ds_setL false (i := 2) sc__law_shuffled.nd (dl_lst da_nil))
      (dss_cons (ds_for [] PassesOwn.never (di_seq (de_v 1)) (dg_name (i := 3) sc__law_shuffled.nd) (dss_one (ds_ins (i := 2) (de_callC c__law_draw (hr.mono (by decide)) (da_cons (de_v 0) (da_cons (de_add (de_len m_len (da_cons (de_v 2) da_nil)) de_int) da_nil))) (de_v 3))))
      (dss_one (ds_ret (de_v 2)))))) ?h, F.kp, F.binds fun _ _ _ _ _ _ us hl => match us, hl with | [_, _], _ => rfl, m⟩
  case len =>
    intro g ds n Q h; obtain ⟨_, _, _, rfl, _⟩ := h; rfl
  case h =>
    intro g ds n Q h
    obtain ⟨k, xs, rfl, rfl, hl, hf, q⟩ := h
    refine ⟨Nat.zero_le _, ?_⟩
    refine dFor_inv (fun rest r f => ∃ (done ys : List D) (a : Sl), xs = done ++ rest ∧ r = [.sh (.any (.ref k.a)), .sh (.lst xs), .ow ys, a] ∧ ys.Perm done ∧ n ≤ f + done.length) _ _ _ ?_ ?_ ⟨[], [], _, rfl, rfl, .refl _, by simp⟩
    · rintro d rest r f N ⟨done, ys, a, rfl, rfl, hp, hf2⟩ hN
      have hpl := hp.length_eq
      rw [List.length_append, List.length_cons] at hl hf
      obtain ⟨f1, rfl⟩ : ∃ f1, f = f1 + 1 := ⟨f - 1, by omega⟩
      refine ⟨_, rfl, ys, rfl, ?_⟩
      refine ⟨k, (ys.length : Int) + 1, f1, rfl, rfl, by omega, by omega, rfl, fun i i0 i1 => ?_⟩
      refine ⟨i0, by omega, L1 (by omega), ?_⟩
      refine hN _ _ ⟨done ++ [d], _, _, by simp, rfl, ?_, by rw [List.length_append, List.length_singleton]; omega⟩
      refine List.Perm.trans ?_ (hp.append_right [d])
      have e := List.take_append_drop i.toNat ys
      have p1 : (ys.take i.toNat ++ [d] ++ ys.drop i.toNat).Perm (ys.take i.toNat ++ ys.drop i.toNat ++ [d]) := by
        rw [List.append_assoc, List.append_assoc]
        exact (List.perm_append_comm).append_left _
      rw [e] at p1
      exact p1
    · rintro r f ⟨done, ys, a, e, rfl, hp, hf2⟩
      rw [List.append_nil] at e
      subst e
      exact q ys f hp hf2
theorem cutD_mid (l : List Str) (a b : Nat) (ha : a ≤ l.length) (hb : b ≤ l.length) : cutD (l.map D.str) (some (a : Int)) (some (b : Int)) = ((l.drop a).take (b - a)).map D.str := by
  unfold cutD
  rw [HT.sIx_nat, HT.sIx_nat, List.length_map, Nat.min_eq_left ha, Nat.min_eq_left hb, List.map_take, List.map_drop]
theorem permM {α β : Type} {f : α → β} {ys zs : List β} (h : ys.Perm zs) : ∀ l : List α, zs = l.map f → ∃ l' : List α, l'.Perm l ∧ ys = l'.map f := by
  induction h with
  | nil => exact fun l e => ⟨[], by rw [List.map_eq_nil_iff.mp e.symm], rfl⟩
  | cons x _ ih =>
    intro l e
    cases l with
    | nil => cases e
    | cons a l =>
      obtain ⟨e1, e2⟩ := List.cons.inj e
      obtain ⟨l', h1, h2⟩ := ih l e2
      exact ⟨a :: l', h1.cons a, by rw [List.map_cons, ← e1, h2]⟩
  | swap x y l0 =>
    intro l e
    match l, e with
    | a :: b :: l, e =>
      obtain ⟨e1, e2⟩ := List.cons.inj e
      obtain ⟨e2, e3⟩ := List.cons.inj e2
      exact ⟨b :: a :: l, List.Perm.swap a b l, by rw [List.map_cons, List.map_cons, ← e1, ← e2, ← e3]⟩
  | trans _ _ ih1 ih2 =>
    intro l e
    obtain ⟨l2, h1, h2⟩ := ih2 l e
    obtain ⟨l3, h3, h4⟩ := ih1 l2 h2
    exact ⟨l3, h3.trans h1, h4⟩
/-- [e for x in xs], e by x -/
theorem nms10 {nl : List Str} (hn : ∀ n ∈ nl, isName n) (hd : nl.Nodup) (c d : Nat) (hc : c ≤ 8) : Nms (nl.take 2) ((nl.drop 2).take c) ((nl.drop 10).take d) := by
  have m1 : ∀ x ∈ nl.take 2, x ∈ nl := fun x h => List.mem_of_mem_take h
  have m2 : ∀ x ∈ (nl.drop 2).take c, x ∈ nl.drop 2 := fun x h => List.mem_of_mem_take h
  have m3 : ∀ x ∈ (nl.drop 10).take d, x ∈ nl.drop 10 := fun x h => List.mem_of_mem_take h
  have m4 : ∀ x ∈ nl.drop 10, x ∈ nl.drop 2 := fun x h => by
    rw [show nl.drop 10 = (nl.drop 2).drop 8 by rw [List.drop_drop]] at h
    exact List.mem_of_mem_drop h
  have k1 : ∀ x ∈ nl.take 2, x ∉ nl.drop 2 := fun x h h2 => by
    have hd' := hd
    rw [← List.take_append_drop 2 nl, List.nodup_append] at hd'
    exact hd'.2.2 x h x h2 rfl
  have k2 : ∀ x ∈ (nl.drop 2).take c, x ∉ nl.drop 10 := fun x h h2 => by
    have hd' := hd.sublist (List.drop_sublist 2 nl)
    rw [← List.take_append_drop 8 (nl.drop 2), List.nodup_append, List.drop_drop] at hd'
    have h3 : x ∈ (nl.drop 2).take 8 := by
      rw [show (nl.drop 2).take c = ((nl.drop 2).take 8).take c by rw [List.take_take, Nat.min_eq_left hc]] at h
      exact List.mem_of_mem_take h
    exact hd'.2.2 x h3 x h2 rfl
  exact {
    nn := (hd.sublist (List.drop_sublist 2 nl)).sublist (List.take_sublist c _)
    ln := (hd.sublist (List.drop_sublist 10 nl)).sublist (List.take_sublist d _)
    hn := fun h hh => ⟨fun z => k1 h hh (m2 h z), fun z => k1 h hh (m4 h (m3 h z))⟩
    nl := fun n h z => k2 n h (m3 n z)
    oh := fun x h => hn x (m1 x h)
    on := fun x h => hn x (List.mem_of_mem_drop (m2 x h))
    ol := fun x h => hn x (List.mem_of_mem_drop (m3 x h)) }
theorem ars_perm {hs ns : List Str} {d : Nat} {zs zs' : List (Str × Nat × Str)} (h : Ars hs ns d zs) (p : zs'.Perm zs) : Ars hs (zs'.map (·.2.2)) d zs' := ⟨rfl, fun z hz => h.h z (p.mem_iff.mp hz)⟩
theorem nms_perm {hs ns ns' lv : List Str} (h : Nms hs ns lv) (p : ns'.Perm ns) : Nms hs ns' lv where
  nn := p.nodup_iff.mpr h.nn
  ln := h.ln
  hn := fun x hx => ⟨fun z => (h.hn x hx).1 (p.mem_iff.mp z), (h.hn x hx).2⟩
  nl := fun x hx => h.nl x (p.mem_iff.mp hx)
  oh := h.oh
  on := fun x hx => h.on x (p.mem_iff.mp hx)
  ol := h.ol
theorem ars_pvm {hs ns lv : List Str} {d : Nat} {zs : List (Str × Nat × Str)} (h : Ars hs ns d zs) (hd : d ≤ 5) (hN : Nms hs ns lv) (hl : zs.length ≤ 24) : PVm (zs.map arS) := by
  have := MI.pvm (MI.start h hd hN (List.Sublist.refl zs))
  rw [List.take_of_length_le (by rw [List.length_map, List.length_map]; exact hl), List.map_map] at this
  exact this
/-! covered -/
theorem sc_covered : FnScope ["paths", "path", "other"] ["paths", "path"] (defScope s_covered) := ⟨rfl, rfl, rfl, by decide +kernel, rfl, by decide +kernel, by decide +kernel⟩
def covd (ps : List Str) (x : Str) : D := match ps.find? (fun p => cov p x) with
  | some p => .str p
  | none => .none
def Sp_covered : DSp := fun _ ds f Q => ∃ (ps : List Str) (x : Str), (ds = [.ftp (ps.map D.str), .str x] ∨ ds = [.lst (ps.map D.str), .str x]) ∧ (∀ p ∈ ps, p.length ≤ 100000) ∧ Q (covd ps x) f
set_option maxHeartbeats 2000000 in
theorem ok_covered (d : Df K mg "covered" s_covered) (c_covers : Cal P w K mg base 1 "covers" ["path", "other"] Sp_covers) : Cal P w K mg base 2 "covered" ["paths", "path"] Sp_covered := by
  obtain ⟨f, fd, F, m⟩ := d
  refine ⟨f, fd, dfn (k := 1) (S := Sp_covered) F sc_covered ?len (fun cdv A outer s H E hr => (dss_cons (ds_for [] PassesOwn.never (di_seq (de_v 0)) (dg_name (i := 2) sc_covered.nd) (dss_one (ds_if (dp_val (de_callC c_covers (hr.mono (by decide)) (da_cons (de_v 2) (da_cons (de_v 1) da_nil)))) (dss_one (ds_ret (de_v 2))) dss_nil)))
      (dss_one (ds_ret de_non)))) ?h, F.kp, F.binds fun _ _ _ _ _ _ us hl => match us, hl with | [_, _], _ => rfl, m⟩
  case len =>
    intro g ds n Q h; obtain ⟨_, _, rfl | rfl, _⟩ := h <;> rfl
  case h =>
    intro g ds n Q h
    obtain ⟨ps, x, hds, hl, q⟩ := h
    have main : ∀ (ps : List Str) (r : Sg), (∀ p ∈ ps, p.length ≤ 100000) → r.length = 3 → r[1]? = some (.sh (.str x)) → Q (covd ps x) n →
        dForGo g (tgN 2) (sIf (dTest (dCall Sp_covers (dCons (dVar 2) (dCons (dVar 1) dNil)))) (sRet (dVar 2)) sNext) { nx := fun r' f' => sRet (dC .none) g r' f' { nx := fun _ n => Q .none n, rt := Q }, rt := Q } (ps.map D.str) r n := by
      intro ps
      induction ps with
      | nil => intro r _ _ _ h; exact h
      | cons p ps ih =>
        intro r hl h3 h1 h
        obtain ⟨a, b, c, rfl⟩ : ∃ a b c, r = [a, b, c] := by
          match r, h3 with
          | [a, b, c], _ => exact ⟨a, b, c, rfl⟩
        cases h1
        refine ⟨p, x, rfl, hl p (by simp), ?_⟩
        unfold covd at h
        rw [List.find?_cons] at h
        cases e : cov p x with
        | true => rw [e] at h; exact h
        | false =>
          rw [e] at h
          exact ih [a, .sh (.str x), .sh (.str p)] (fun p hp => hl p (by simp [hp])) rfl rfl h
    rcases hds with rfl | rfl
    · exact main ps _ hl rfl rfl q
    · exact main ps _ hl rfl rfl q
/-! is_pair -/
theorem sc_is_pair : FnScope ["value"] ["value"] (defScope s_is_pair) := ⟨rfl, rfl, rfl, by decide +kernel, rfl, by decide +kernel, by decide +kernel⟩
def isPrg : D → Bool
  | .obj c _ _ => decide (c = "Program")
  | _ => false
def okO (x : D) : Prop := x.tyd = true ∨ isPrg x = true
def strNe : D → D → Bool
  | .str a, .str b => decide (a ≠ b)
  | _, _ => false
def pairL : List D → Bool
  | [] => false
  | a :: r => match r with
    | [] => false
    | b :: r2 => match r2 with
      | [] => strNe a b
      | _ :: _ => false
def pairB : D → Bool
  | .tup xs => pairL xs
  | _ => false
def Sp_is_pair : DSp := fun _ ds f Q => ∃ x : D, ds = [x] ∧ okO x ∧ Q (.bool (pairB x)) f
set_option maxHeartbeats 2000000 in
theorem ok_is_pair (d : Df K mg "is_pair" s_is_pair) (m_str : mg "str" = none) (m_isinstance : mg "isinstance" = none) (m_len : mg "len" = none) (m_tuple : mg "tuple" = none) {C_Program : Addr} (o_Program : KO K "Program" C_Program) : Cal P w K mg base 1 "is_pair" ["value"] Sp_is_pair := by
  obtain ⟨f, fd, F, m⟩ := d
  refine ⟨f, fd, dfn (k := 0) (S := Sp_is_pair) F sc_is_pair ?len (fun cdv A outer s H E hr => (dss_cons (ds_if (DW.p (dw_or (dp_not (dp_val (de_isiO o_Program m_isinstance (da_cons (de_v 0) (da_cons (de_bltn (v := .ty "tuple") (u := .type "tuple") (by rfl) m_tuple (by decide +kernel) rfl) da_nil))))) (dw_or1 (dp_ne hr.units (de_len m_len (da_cons (de_v 0) da_nil)) de_int)))) (dss_one (ds_ret de_bl)) dss_nil)
      (dss_one (ds_ret (de_and (de_isiO o_Program m_isinstance (da_cons (de_ix (de_v 0) de_int) (da_cons (de_bltn (v := .ty "str") (u := .type "str") (by rfl) m_str (by decide +kernel) rfl) da_nil))) (de_and (de_isiO o_Program m_isinstance (da_cons (de_ix (de_v 0) de_int) (da_cons (de_bltn (v := .ty "str") (u := .type "str") (by rfl) m_str (by decide +kernel) rfl) da_nil))) (de_one (de_ne hr.units (de_ix (de_v 0) de_int) (de_ix (de_v 0) de_int))))))))) ?h, F.kp, F.binds fun _ _ _ _ _ _ us hl => match us, hl with | [_], _ => rfl, m⟩
  case len =>
    intro g ds n Q h; obtain ⟨_, rfl, _⟩ := h; rfl
  case h =>
    intro g ds n Q h
    obtain ⟨x, rfl, hx, q⟩ := h
    cases x with
    | tup xs =>
      have hxs : tydA xs = true := by
        rcases hx with h | h
        · exact h
        · cases h
      refine ⟨"tuple", true, rfl, by decide +kernel, ?_⟩
      match xs, hxs, q with
      | [], _, q => exact q
      | [_], _, q => exact q
      | [a, b], hxs, q =>
        have h2 : a.tyd = true ∧ b.tyd = true := by
          have := Bool.and_eq_true_iff.mp hxs
          exact ⟨this.1, (Bool.and_eq_true_iff.mp this.2).1⟩
        refine ⟨a, atI0, ?_⟩
        cases a with
        | str sa =>
          refine ⟨"str", true, rfl, by decide +kernel, b, atI_nat (j := 1) rfl, ?_⟩
          cases b with
          | str sb =>
            refine ⟨"str", true, rfl, by decide +kernel, .str sa, atI0, .str sb, atI_nat (j := 1) rfl, ?_⟩
            have q : Q (.bool (decide (sa ≠ sb))) n := q
            have e : decide (sa ≠ sb) = !decide (sa = sb) := by by_cases h : sa = sb <;> simp [h]
            rw [e] at q
            exact q
          | any v => cases h2.2
          | dtt _ _ => cases h2.2
          | ktup _ => cases h2.2
          | ftp _ => cases h2.2
          | obj _ _ _ => cases h2.2
          | exn _ _ _ => cases h2.2
          | _ => exact ⟨_, false, rfl, by decide +kernel, q⟩
        | any v => cases h2.1
        | dtt _ _ => cases h2.1
        | ktup _ => cases h2.1
        | ftp _ => cases h2.1
        | obj _ _ _ => cases h2.1
        | exn _ _ _ => cases h2.1
        | _ => exact ⟨_, false, rfl, by decide +kernel, q⟩
      | a :: b :: c :: l, _, q =>
        have e : (!decide (((a :: b :: c :: l).length : Int) = 2)) = true := by
          rw [decide_eq_false (by simp only [List.length_cons]; omega)]
          rfl
        refine iteF ?_
        exact q
    | any v =>
      rcases hx with h | h
      · cases h
      · cases h
    | dtt _ _ =>
      rcases hx with h | h <;> cases h
    | ktup _ =>
      rcases hx with h | h <;> cases h
    | ftp _ =>
      rcases hx with h | h <;> cases h
    | exn _ _ _ =>
      rcases hx with h | h
      · cases h
      · cases h
    | obj c ns xs =>
      rcases hx with h | h
      · cases h
      · exact ⟨of_decide_eq_true h, .inl rfl, q⟩
    | _ => exact ⟨_, false, rfl, by decide +kernel, q⟩
/-! uses_error -/
theorem sc_uses_error : FnScope ["modules", "uses", "index", "use"] ["modules", "uses"] (defScope s_uses_error) := ⟨rfl, rfl, rfl, by decide +kernel, rfl, by decide +kernel, by decide +kernel⟩
structure PVu (ms : List Str) (us : List Us) : Prop where
  len : us.length ≤ 200
  mem : ∀ u ∈ us, u.1 ∈ ms ∧ u.2 ∈ ms ∧ u.1 ≠ u.2
  nd : us.Nodup
def Sp_uses_error : DSp := fun _ ds f Q => ∃ (ms : List Str) (us : List Us), ds = [.tup (ms.map D.str), .tup (us.map pairD)] ∧ PVm ms ∧ PVu ms us ∧ Q .none f
theorem PVu.asc {ms : List Str} {us : List Us} (hm : PVm ms) (h : PVu ms us) : ∀ u ∈ us, ascU u := fun u hu => ⟨(hm.path _ (h.mem u hu).1).asc, (hm.path _ (h.mem u hu).2.1).asc⟩
theorem PVu.perm {l m : List Str} {us vs : List Us} (h : PVu m us) (p : l.Perm m) (q : vs.Perm us) : PVu l vs where
  len := by rw [q.length_eq]; exact h.len
  mem := fun u hu => by
    obtain ⟨h1, h2, h3⟩ := h.mem u (q.mem_iff.mp hu)
    exact ⟨p.mem_iff.mpr h1, p.mem_iff.mpr h2, h3⟩
  nd := q.nodup_iff.mpr h.nd
theorem PVu.sub {m : List Str} {us vs : List Us} (h : PVu m us) (p : vs.Sublist us) : PVu m vs := ⟨Nat.le_trans p.length_le h.len, fun u hu => h.mem u (p.subset hu), h.nd.sublist p⟩
set_option maxHeartbeats 2000000 in
theorem ok_uses_error (d : Df K mg "uses_error" s_uses_error) (m_enumerate : mg "enumerate" = none) (m_len : mg "len" = none) (m_tuple : mg "tuple" = none) (m_isinstance : mg "isinstance" = none) (g_MAX_USES : ∃ t, mg "MAX_USES" = some (.int 200 t)) (c_is_pair : Cal P w K mg base 1 "is_pair" ["value"] Sp_is_pair) : Cal P w K mg base 2 "uses_error" ["modules", "uses"] Sp_uses_error := by
  obtain ⟨f, fd, F, m⟩ := d
  refine ⟨f, fd, dfn (k := 1) (S := Sp_uses_error) F sc_uses_error ?len (fun cdv A outer s H E hr => (dss_cons (ds_if (DW.p (dw_or (dp_not (dp_val (de_isi m_isinstance (da_cons (de_v 1) (da_cons (de_bltn (v := .ty "tuple") (u := .type "tuple") (by rfl) m_tuple (by decide +kernel) rfl) da_nil))))) (dw_or1 (dp_gt (de_len m_len (da_cons (de_v 1) da_nil)) (de_glob (v := .int 200) (d := .int 200) (by rfl) g_MAX_USES.choose_spec ⟨_, rfl⟩ (fun _ => rfl)))))) (dss_one (ds_ret (de_tup (da_cons de_non (da_cons de_str da_nil))))) dss_nil)
      (dss_cons (ds_for [] PassesOwn.never (di_enum m_enumerate (da_cons (de_v 1) da_nil)) (dg_tup rfl (dgs_cons (dg_name (i := 2) sc_uses_error.nd) (dgs_cons (dg_name (i := 3) sc_uses_error.nd) dgs_nil))) (dss_cons (ds_if (DW.p (dw_or (dp_not (dp_val (de_callC c_is_pair (hr.mono (by decide)) (da_cons (de_v 3) da_nil)))) (dw_or (dp_notIn hr (de_ix (de_v 3) de_int) (de_v 0)) (dw_or1 (dp_notIn hr (de_ix (de_v 3) de_int) (de_v 0)))))) (dss_one (ds_ret (de_tup (da_cons (de_v 2) (da_cons de_str da_nil))))) dss_nil)
      (dss_one (ds_if (dp_in hr (de_v 3) (de_sl (de_v 1) do_none (do_some (de_v 2)))) (dss_one (ds_ret (de_tup (da_cons (de_v 2) (da_cons de_str da_nil))))) dss_nil))))
      (dss_one (ds_ret de_non))))) ?h, F.kp, F.binds fun _ _ _ _ _ _ us hl => match us, hl with | [_, _], _ => rfl, m⟩
  case len =>
    intro g ds n Q h; obtain ⟨_, _, rfl, _⟩ := h; rfl
  case h =>
    intro g ds n Q h
    obtain ⟨ms, us, rfl, hm, hv, q⟩ := h
    refine ⟨"tuple", true, rfl, by decide +kernel, ?_⟩
    show if decide ((((us.map pairD).length : Int)) > 200) = true then _ else _
    rw [List.length_map, decide_eq_false (by have := hv.len; omega)]
    refine iteF ?_
    have hasc := hv.asc hm
    refine dFor_inv (fun rest r f => f = n ∧ ∃ (i : Nat) (a c : Sl), rest = (enumD (us.map pairD)).drop i ∧ r = [.sh (.tup (ms.map D.str)), .sh (.tup (us.map pairD)), a, c]) _ _ _ ?_ (fun r f ⟨e, _⟩ => by subst e; exact q) ⟨rfl, 0, _, _, rfl, rfl⟩
    rintro d rest r f N ⟨rfl, i, a, c, hr, rfl⟩ hN
    have hd : (enumD (us.map pairD))[i]? = some d := by
      have := congrArg List.head? hr
      rw [List.head?_drop] at this
      exact this.symm
    obtain ⟨x, hx, rfl⟩ := enumD_get hd
    rw [List.getElem?_map] at hx
    cases em : us[i]? with
    | none => rw [em] at hx; cases hx
    | some u =>
      rw [em] at hx
      cases hx
      have hu : u ∈ us := List.mem_of_getElem? em
      obtain ⟨h1, h2, h3⟩ := hv.mem u hu
      obtain ⟨a1, a2⟩ := hasc u hu
      have hi : i < us.length := (List.getElem?_eq_some_iff.mp em).1
      have et : cutD (us.map pairD) none (some (i : Int)) = (us.take i).map pairD := by rw [cutD_take, List.map_take]
      refine ⟨_, rfl, pairD u, rfl, .inl rfl, ?_⟩
      show if (!decide (u.1 ≠ u.2)) = true then _ else _
      rw [decide_eq_true h3]
      refine iteF ⟨.str u.1, atI0, ?_⟩
      have hms : ∀ s ∈ ms, asc s := fun s hs => (hm.path s hs).asc
      refine ⟨shaped_str a1, shaped_strsT hms, ?_⟩
      have e1 : ((pyA (ms.map D.str)).any fun z => PyData.eqv z (D.str u.1).py) = true := by rw [pyA_strs]; exact (any_strs ms u.1).trans (decide_eq_true h1)
      have e2 : ((pyA (ms.map D.str)).any fun z => PyData.eqv z (D.str u.2).py) = true := by rw [pyA_strs]; exact (any_strs ms u.2).trans (decide_eq_true h2)
      rw [e1]
      refine iteF ⟨.str u.2, atI_nat (j := 1) rfl, shaped_str a2, shaped_strsT hms, ?_⟩
      rw [e2]
      refine iteF ?_
      have hno : u ∉ us.take i := fun hz => by
        obtain ⟨j, hj, ez⟩ := List.getElem_of_mem hz
        rw [List.length_take] at hj
        rw [List.getElem_take] at ez
        have := List.pairwise_iff_getElem.mp hv.nd j i (by omega) hi (by omega)
        obtain ⟨_, e3⟩ := List.getElem?_eq_some_iff.mp em
        exact this (ez.trans e3.symm)
      have hta : ∀ s ∈ us.take i, ascU s := fun s hs => hasc s (List.mem_of_mem_take hs)
      have e3 : ((pyA (cutD (us.map pairD) none (some (i : Int)))).any fun z => PyData.eqv z (pairD u).py) = false := by rw [et, pyA_pairs]; exact (any_pairs _ u).trans (decide_eq_false hno)
      refine ⟨shaped_pair ⟨a1, a2⟩, by rw [et, pyA_pairs]; exact shaped_pairsT hta, ?_⟩
      rw [e3]
      refine hN _ _ ⟨rfl, i + 1, _, _, ?_, rfl⟩
      rw [← List.tail_drop, ← hr]
      rfl
/-! program_error -/
theorem sc_program_error : FnScope ["modules", "uses", "error"] ["modules", "uses"] (defScope s_program_error) := ⟨rfl, rfl, rfl, by decide +kernel, rfl, by decide +kernel, by decide +kernel⟩
def Sp_program_error : DSp := fun _ ds f Q => ∃ (ms : List Str) (us : List Us), ds = [.tup (ms.map D.str), .tup (us.map pairD)] ∧ PVm ms ∧ PVu ms us ∧ Q .none f
set_option maxHeartbeats 2000000 in
theorem ok_program_error (d : Df K mg "program_error" s_program_error) (c_uses_error : Cal P w K mg base 2 "uses_error" ["modules", "uses"] Sp_uses_error) (c_modules_error : Cal P w K mg base 4 "modules_error" ["modules"] Sp_modules_error) : Cal P w K mg base 5 "program_error" ["modules", "uses"] Sp_program_error := by
  obtain ⟨f, fd, F, m⟩ := d
  refine ⟨f, fd, dfn (k := 4) (S := Sp_program_error) F sc_program_error ?len (fun cdv A outer s H E hr => (dss_cons (ds_set false (i := 2) sc_program_error.nd (de_callC c_modules_error (hr.mono (by decide)) (da_cons (de_v 0) da_nil)))
      (dss_cons (ds_if (dp_isN (de_v 2) de_non) (dss_one (ds_set false (i := 2) sc_program_error.nd (de_callC c_uses_error (hr.mono (by decide)) (da_cons (de_v 0) (da_cons (de_v 1) da_nil))))) dss_nil)
      (dss_one (ds_ret (de_v 2)))))) ?h, F.kp, F.binds fun _ _ _ _ _ _ us hl => match us, hl with | [_, _], _ => rfl, m⟩
  case len =>
    intro g ds n Q h; obtain ⟨_, _, rfl, _⟩ := h; rfl
  case h =>
    intro g ds n Q h
    obtain ⟨ms, us, rfl, hm, hv, q⟩ := h
    exact ⟨ms, rfl, hm, ms, us, rfl, hm, hv, q⟩
/-! parts_of -/
theorem sc_parts_of : FnScope ["modules", "found", "module", "names", "many"] ["modules"] (defScope s_parts_of) := ⟨rfl, rfl, rfl, by decide +kernel, rfl, by decide +kernel, by decide +kernel⟩
def isPart (ms : List Str) (x : Str) : Prop := ∃ m ∈ ms, ∃ k, 1 ≤ k ∧ k ≤ (Txt.split m ".").length ∧ x = Txt.join "." ((Txt.split m ".").take k)
structure Parts (ms ks : List Str) : Prop where
  nd : ks.Nodup
  mem : ∀ x, x ∈ ks ↔ isPart ms x
theorem Parts.perm {l m ks : List Str} (h : Parts l ks) (p : l.Perm m) : Parts m ks :=
  ⟨h.nd, fun x => (h.mem x).trans ⟨fun ⟨a, b, c⟩ => ⟨a, p.mem_iff.mp b, c⟩, fun ⟨a, b, c⟩ => ⟨a, p.mem_iff.mpr b, c⟩⟩⟩
def Sp_parts_of : DSp := fun _ ds f Q => ∃ ms : List Str, ds = [.tup (ms.map D.str)] ∧ PVm ms ∧ ∀ ks, Parts ms ks → Q (.tup ((sortS ks).map D.str)) f
theorem join_take {m : Str} {k : Nat} (h : PathN 6 m) (h1 : 1 ≤ k) : PathN 6 (Txt.join "." ((Txt.split m ".").take k)) := by
  obtain ⟨s1, s2, s3, s4⟩ := h.splits
  refine ⟨_, by rw [List.length_take]; omega, by rw [List.length_take]; omega, fun n hn => s3 n (List.mem_of_mem_take hn), rfl⟩
theorem intsD_cons (lo : Int) (n : Nat) : intsD lo (n + 1) = .int lo :: intsD (lo + 1) n := by
  unfold intsD
  rw [List.range_succ_eq_map, List.map_cons, List.map_map]
  refine congr (congrArg _ (by simp)) ?_
  apply List.map_congr_left
  intro i _
  show D.int _ = D.int _
  congr 1
  show lo + ((i + 1 : Nat) : Int) = lo + 1 + (i : Int)
  omega
theorem putKs_strs (ks : List Str) (x : Str) : putKs (ks.map Sum.inr) (.inr x) = (putS ks x).map Sum.inr := by
  unfold putKs putS
  have e : (Sum.inr x : Key) ∈ ks.map Sum.inr ↔ x ∈ ks := by
    constructor
    · intro h
      obtain ⟨y, hy, e⟩ := List.mem_map.mp h
      cases e
      exact hy
    · exact List.mem_map_of_mem
  by_cases h : x ∈ ks
  · rw [if_pos (e.mpr h), if_pos h]
  · rw [if_neg fun z => h (e.mp z), if_neg h, List.map_append]
    rfl
theorem isPart.pathG {ms : List Str} {x : Str} (hm : ∀ m ∈ ms, PathN 6 m) (h : isPart ms x) : PathN 6 x := by
  obtain ⟨m, hmm, k, h1, h2, rfl⟩ := h
  exact join_take (hm m hmm) h1
theorem isPart.path {ms : List Str} {x : Str} (hm : PVm ms) (h : isPart ms x) : PathN 6 x := h.pathG hm.path
theorem Parts.len {ms ks : List Str} (hm : ∀ m ∈ ms, PathN 6 m) (h : Parts ms ks) : ks.length ≤ 6 * ms.length := by
  have hsub : ∀ x ∈ ks, x ∈ ms.flatMap (fun m => (List.range 6).map fun k => Txt.join "." ((Txt.split m ".").take (k + 1))) := fun x hx => by
    obtain ⟨m, h1, k, h2, h3, h4⟩ := (h.mem x).mp hx
    have := (hm m h1).splits.2.1
    refine List.mem_flatMap.mpr ⟨m, h1, List.mem_map.mpr ⟨k - 1, List.mem_range.mpr (by omega), ?_⟩⟩
    rw [h4, show k - 1 + 1 = k by omega]
  refine Nat.le_trans (nodup_sub_len h.nd hsub) ?_
  rw [List.length_flatMap]
  have : ∀ l : List Str, (l.map fun m => ((List.range 6).map fun k => Txt.join "." ((Txt.split m ".").take (k + 1))).length).sum = 6 * l.length := by
    intro l
    induction l with
    | nil => rfl
    | cons x l ih => rw [List.map_cons, List.sum_cons, ih, List.length_map, List.length_range, List.length_cons]; omega
  rw [this]
  exact Nat.le_refl _
set_option maxHeartbeats 2000000 in
theorem ok_parts_of (d : Df K mg "parts_of" s_parts_of) (m_sorted : mg "sorted" = none) (m_tuple : mg "tuple" = none) (m_range : mg "range" = none) (m_len : mg "len" = none) : Cal P w K mg base 1 "parts_of" ["modules"] Sp_parts_of := by
  obtain ⟨f, fd, F, m⟩ := d
  refine ⟨f, fd, dfn (k := 0) (S := Sp_parts_of) F sc_parts_of ?len (fun cdv A outer s H E hr => (dss_cons (ds_setD0 (i := 1) sc_parts_of.nd)
      (dss_cons (ds_for [] PassesOwn.never (di_seq (de_v 0)) (dg_name (i := 2) sc_parts_of.nd) (dss_cons (ds_set false (i := 3) sc_parts_of.nd (dl_split (de_v 2) de_str).e)
      (dss_one (ds_for [] PassesOwn.never (di_range2 m_range (da_cons de_int (da_cons (de_add (de_len m_len (da_cons (de_v 3) da_nil)) de_int) da_nil))) (dg_name (i := 4) sc_parts_of.nd) (dss_one (ds_setKey false hr (i := 1) (de_join de_str (de_sl (de_v 3) do_none (do_some (de_v 4)))) de_bl))))))
      (dss_one (ds_ret (de_callTy call_tuple_of sc_tuple (by rfl) m_tuple (by decide +kernel) (da_cons (de_sorted hr m_sorted (da_cons (de_v 1) da_nil)) da_nil))))))) ?h, F.kp, F.binds fun _ _ _ _ _ _ us hl => match us, hl with | [_], _ => rfl, m⟩
  case len =>
    intro g ds n Q h; obtain ⟨_, rfl, _⟩ := h; rfl
  case h =>
    intro g ds n Q h
    obtain ⟨ms, rfl, hm, q⟩ := h
    refine dFor_inv (fun rest r f => f = n ∧ ∃ (done rest' : List Str) (ks : List Str) (xs : List D) (a b c : Sl), rest = rest'.map D.str ∧ ms = done ++ rest' ∧ r = [.sh (.tup (ms.map D.str)), .od (ks.map Sum.inr) xs, a, b, c] ∧ Parts done ks ∧ ks.length ≤ 6 * done.length) _ _ _ ?_ ?_ ⟨rfl, [], ms, [], [], _, _, _, rfl, rfl, rfl, ⟨List.nodup_nil, fun x => ⟨fun h => by simp at h, fun ⟨_, h, _⟩ => by simp at h⟩⟩, by simp⟩
    · rintro d rest r n0 N ⟨en0, done, rest', ks, xs, a, b, c, hr, hms, rfl, hp, hl⟩ hN
      match rest', hr with
      | m :: rest', hr =>
      obtain ⟨rfl, rfl⟩ := List.cons.inj hr
      have hmm : m ∈ ms := by rw [hms]; simp
      have hpath := hm.path m hmm
      obtain ⟨s1, s2, s3, s4⟩ := hpath.splits
      refine ⟨_, rfl, by decide +kernel, Nat.le_trans hpath.len (by decide), ?_⟩
      refine ⟨?rng, ?_⟩
      case rng => simp only [List.length_map]; omega
      refine dFor_inv (fun rest2 r f => f = n0 ∧ ∃ (j : Nat) (ks2 : List Str) (xs2 : List D) (c : Sl), rest2 = intsD (1 + (j : Int)) ((Txt.split m ".").length - j) ∧ j ≤ (Txt.split m ".").length ∧ r = [.sh (.tup (ms.map D.str)), .od (ks2.map Sum.inr) xs2, .sh (.str m), .sh (.lst ((Txt.split m ".").map D.str)), c] ∧ ks2.Nodup ∧ (∀ x, x ∈ ks2 ↔ isPart done x ∨ ∃ k, 1 ≤ k ∧ k ≤ j ∧ x = Txt.join "." ((Txt.split m ".").take k)) ∧ ks2.length ≤ 6 * done.length + j) _ _ _ ?_ ?_ ⟨rfl, 0, ks, xs, _, ?_, Nat.zero_le _, rfl, hp.nd, fun x => ?_, by omega⟩
      · rintro d2 rest2 r f N2 ⟨rfl, j, ks2, xs2, c2, hr2, hj, rfl, nd2, mem2, len2⟩ hN2
        obtain ⟨t, ht⟩ : ∃ t, (Txt.split m ".").length - j = t + 1 := by
          cases e : (Txt.split m ".").length - j with
          | zero => rw [e] at hr2; cases hr2
          | succ t => exact ⟨t, rfl⟩
        rw [ht, intsD_cons] at hr2
        obtain ⟨rfl, rfl⟩ := List.cons.inj hr2
        have hdl : done.length ≤ 24 := by have := hm.len; rw [hms, List.length_append] at this; omega
        have ej : (1 + (j : Int)) = ((j + 1 : Nat) : Int) := by omega
        have et : cutD ((Txt.split m ".").map D.str) none (some (1 + (j : Int))) = ((Txt.split m ".").take (j + 1)).map D.str := by rw [ej, cutD_take, List.map_take]
        refine ⟨_, rfl, ks2.map Sum.inr, xs2, rfl, trivial, (Txt.split m ".").take (j + 1), et, join_names _ (fun n hn => Nat.le_trans (s3 n (List.mem_of_mem_take hn)).2.1 (by decide)) (by rw [List.length_take]; omega) _ (by decide +kernel), _, rfl, by rw [List.length_map]; exact Nat.le_trans (by omega : ks2.length ≤ 200) (by decide), ?_⟩
        rw [putKs_strs]
        refine hN2 _ _ ⟨rfl, j + 1, putS ks2 (Txt.join "." ((Txt.split m ".").take (j + 1))), _, _, ?_, by omega, rfl, putS_nodup nd2, fun x => ?_, ?_⟩
        · rw [show (Txt.split m ".").length - (j + 1) = t by omega, show (1 + ((j + 1 : Nat) : Int)) = 1 + (j : Int) + 1 by omega]
        · rw [putS_mem, mem2 x]
          constructor
          · rintro ((h | ⟨k, h1, h2, h3⟩) | h)
            · exact .inl h
            · exact .inr ⟨k, h1, by omega, h3⟩
            · exact .inr ⟨j + 1, by omega, by omega, h⟩
          · rintro (h | ⟨k, h1, h2, h3⟩)
            · exact .inl (.inl h)
            · by_cases hk : k = j + 1
              · subst hk; exact .inr h3
              · exact .inl (.inr ⟨k, h1, by omega, h3⟩)
        · have := putS_len ks2 (Txt.join "." ((Txt.split m ".").take (j + 1)))
          omega
      · rintro r f ⟨rfl, j, ks2, xs2, c2, hr2, hj, rfl, nd2, mem2, len2⟩
        have hjl : j = (Txt.split m ".").length := by
          cases e : (Txt.split m ".").length - j with
          | zero => omega
          | succ t => rw [e, intsD_cons] at hr2; cases hr2
        subst hjl
        refine hN _ _ ⟨en0, done ++ [m], rest', ks2, xs2, _, _, _, rfl, by rw [hms]; simp, rfl, ⟨nd2, fun x => ?_⟩, by rw [List.length_append]; simp; omega⟩
        rw [mem2 x]
        constructor
        · rintro (⟨m', h1, h2⟩ | ⟨k, h1, h2, h3⟩)
          · exact ⟨m', by simp [h1], h2⟩
          · exact ⟨m, by simp, k, h1, h2, h3⟩
        · rintro ⟨m', h1, k, h2, h3, h4⟩
          rcases List.mem_append.mp h1 with h | h
          · exact .inl ⟨m', h, k, h2, h3, h4⟩
          · rw [List.mem_singleton.mp h] at h3 h4
            exact .inr ⟨k, h2, h3, h4⟩
      · show intsD 1 (((((Txt.split m ".").map D.str).length : Int) + 1) - 1).toNat = _
        rw [List.length_map]
        congr 1
        omega
      · rw [hp.mem x]
        constructor
        · exact .inl
        · rintro (h | ⟨k, h1, h2, _⟩)
          · exact h
          · omega
    · rintro r f ⟨rfl, done, rest', ks, xs, a, b, c, hr, hms, rfl, hp, hl⟩
      obtain rfl : rest' = [] := by
        match rest', hr with
        | [], _ => rfl
      rw [List.append_nil] at hms
      subst hms
      have hk : (ks.map Sum.inr).map keyD = ks.map D.str := by rw [List.map_map]; rfl
      refine ⟨?_, ?_⟩
      · rw [hk]
        exact sorts_strs (Nat.le_trans hl (Nat.le_trans (Nat.mul_le_mul_left 6 hm.len) (by decide))) fun s hs => ((hp.mem s).mp hs).path hm |>.asc
      · rw [hk, sortD_strs]
        exact q ks hp
/-! Program.__init__ -/
theorem sc_Program___init__ : FnScope ["self", "modules", "uses", "error"] ["self", "modules", "uses"] (defScope s_Program___init__) := ⟨rfl, rfl, rfl, by decide +kernel, rfl, by decide +kernel, by decide +kernel⟩
def prgD (ms : List Str) (us : List Us) (ks : List Str) : D := .obj "Program" ["places", "links", "heads"] [.tup ((sortS ms).map D.str), .tup ((sortU us).map pairD), .tup ((sortS ks).map D.str)]
def Sp_Program___init__ : DSp := fun _ ds f Q => ∃ (ms : List Str) (us : List Us), ds = [.tup (ms.map D.str), .tup (us.map pairD)] ∧ PVm ms ∧ PVu ms us ∧ ∀ ks, Parts ms ks → Q (prgD ms us ks) f
set_option maxHeartbeats 2000000 in
theorem ok_Program___init__ (m_sorted : mg "sorted" = none) (m_tuple : mg "tuple" = none) {C_Program : Addr} (k_Program : KC K "Program" C_Program) (n_Program_heads : NoAttr K C_Program "heads") (n_Program_links : NoAttr K C_Program "links") (n_Program_places : NoAttr K C_Program "places") (c_parts_of : Cal P w K mg base 1 "parts_of" ["modules"] Sp_parts_of) (c_program_error : Cal P w K mg base 5 "program_error" ["modules", "uses"] Sp_program_error) (mg_Program : mg "Program" = some (.ref C_Program)) (d : ∃ f fd, Fun K "__init__" "Program.__init__" s_Program___init__ f fd ∧ Mk K C_Program f) : Mkr P w K mg base 6 "Program" ["self", "modules", "uses"] Sp_Program___init__ := by
  obtain ⟨f, fd, F, M⟩ := d
  refine ⟨C_Program, f, fd, M, dinit (k := 5) (S := Sp_Program___init__) (c := "Program") F sc_Program___init__ ?len (fun cdv A outer s H E hr => (dss_cons (ds_set false (i := 3) sc_Program___init__.nd (de_callC c_program_error (hr.mono (by decide)) (da_cons (de_v 1) (da_cons (de_v 2) da_nil))))
      (dss_cons (ds_if (dp_notN (de_v 3) de_non) (dss_one ds_never) dss_nil)
      (dss_cons (ds_fldO false (i := 0) k_Program n_Program_places (de_callTy call_tuple_of sc_tuple (by rfl) m_tuple (by decide +kernel) (da_cons (de_sorted hr m_sorted (da_cons (de_v 1) da_nil)) da_nil)))
      (dss_cons (ds_fldO false (i := 0) k_Program n_Program_links (de_callTy call_tuple_of sc_tuple (by rfl) m_tuple (by decide +kernel) (da_cons (de_sorted hr m_sorted (da_cons (de_v 2) da_nil)) da_nil)))
      (dss_one (ds_fldO false (i := 0) k_Program n_Program_heads (de_callC c_parts_of (hr.mono (by decide)) (da_cons (de_v 1) da_nil))))))))) ?h, F.binds fun _ _ _ _ _ _ us hl => match us, hl with | [_, _, _], _ => rfl, k_Program.ns, mg_Program⟩
  case len =>
    intro g ds n Q h; obtain ⟨_, _, rfl, _⟩ := h; rfl
  case h =>
    intro a g ds n Q h
    obtain ⟨ms, us, rfl, hm, hv, q⟩ := h
    refine ⟨ms, us, rfl, hm, hv, ?_⟩
    have hs1 : Sorts (ms.map D.str) := sorts_strs (Nat.le_trans hm.len (by decide)) fun s hs => (hm.path s hs).asc
    have hs2 : Sorts (us.map pairD) := sorts_pairs (Nat.le_trans hv.len (by decide)) (hv.asc hm)
    refine ⟨a, [], [], rfl, by decide, by decide, hs1, ?_⟩
    refine ⟨a, ["places"], _, rfl, by decide, by decide, hs2, ?_⟩
    refine ⟨a, ["places", "links"], _, rfl, by decide, by decide, ms, rfl, hm, fun ks hk => ?_⟩
    refine ⟨["places", "links", "heads"], _, rfl, ?_⟩
    have := q ks hk
    unfold prgD at this
    rw [← sortD_strs ms, ← sortD_pairs us] at this
    exact this
/-- uses of what a covers on what b covers -/
def ctU (us : List Us) (a b : Str) : List Us := us.filter fun u => cov a u.1 && cov b u.2
def cnt (us : List Us) (v : Str × Str) : Nat := if v.1 = v.2 then 0 else (ctU us v.1 v.2).length
def prs (ps : List Str) : List (Str × Str) := ps.flatMap fun a => ps.map fun b => (a, b)
def cnD (us : List Us) (v : Str × Str) : D := .int (cnt us v : Nat)
def cntT (us : List Us) (ps : List Str) : D := .dtt ((prs ps).map kPair) ((prs ps).map (cnD us))
theorem mem_prs {ps : List Str} {a b : Str} : (a, b) ∈ prs ps ↔ a ∈ ps ∧ b ∈ ps := by
  unfold prs
  rw [List.mem_flatMap]
  constructor
  · rintro ⟨x, hx, h⟩
    obtain ⟨y, hy, e⟩ := List.mem_map.mp h
    cases e
    exact ⟨hx, hy⟩
  · rintro ⟨h1, h2⟩
    exact ⟨a, h1, List.mem_map.mpr ⟨b, h2, rfl⟩⟩
theorem cnt_perm {us vs : List Us} (h : us.Perm vs) (v : Str × Str) : cnt us v = cnt vs v := by
  unfold cnt ctU
  rw [(h.filter _).length_eq]
theorem covd_some {ps : List Str} {x p : Str} (h : covd ps x = .str p) : p ∈ ps ∧ cov p x = true := by
  unfold covd at h
  cases e : ps.find? (fun p => cov p x) with
  | none => rw [e] at h; cases h
  | some q =>
    rw [e] at h
    cases h
    exact ⟨List.mem_of_find?_eq_some e, List.find?_some (p := fun p => cov p x) e⟩
theorem covd_none {ps : List Str} {x : Str} (h : covd ps x = .none) : ∀ p ∈ ps, cov p x = false := by
  unfold covd at h
  cases e : ps.find? (fun p => cov p x) with
  | none =>
    intro p hp
    have := List.find?_eq_none.mp e p hp
    simpa using this
  | some q => rw [e] at h; cases h
theorem covd_or (ps : List Str) (x : Str) : covd ps x = .none ∨ ∃ p, covd ps x = .str p := by
  unfold covd
  cases ps.find? (fun p => cov p x) with
  | none => exact .inl rfl
  | some q => exact .inr ⟨q, rfl⟩
theorem cov_both {p q m : Str} (h1 : cov p m = true) (h2 : cov q m = true) : ovl p q = true := by
  unfold ovl
  rw [cov_take, decide_eq_true_iff] at h1 h2
  rw [Bool.or_eq_true, cov_take, cov_take, decide_eq_true_iff, decide_eq_true_iff]
  rcases Nat.le_total (Txt.split p ".").length (Txt.split q ".").length with h | h
  · left
    rw [← h2, List.take_take, Nat.min_eq_left h]
    exact h1
  · right
    rw [← h1, List.take_take, Nat.min_eq_left h]
    exact h2
/-- areas apart: what covers the same is the same -/
theorem cov_one {ps : List Str} (h : PVm ps) {a b x : Str} (ha : a ∈ ps) (hb : b ∈ ps) (h1 : cov a x = true) (h2 : cov b x = true) : a = b := by
  apply Classical.byContradiction
  intro ne
  obtain ⟨i, hi, rfl⟩ := List.getElem_of_mem ha
  obtain ⟨j, hj, rfl⟩ := List.getElem_of_mem hb
  have key := List.pairwise_iff_getElem.mp h.apart
  rcases Nat.lt_trichotomy i j with c | c | c
  · have := key i j hi hj c
    rw [cov_both h2 h1] at this
    cases this
  · subst c
    exact ne rfl
  · have := key j i hj hi c
    rw [cov_both h1 h2] at this
    cases this
/-! Program.modules -/
theorem sc_Program_modules : FnScope ["self"] ["self"] (defScope s_Program_modules) := ⟨rfl, rfl, rfl, by decide +kernel, rfl, by decide +kernel, by decide +kernel⟩
def Sp_Program_modules : DSp := fun _ ds f Q => ∃ (ms : List Str) (us : List Us) (ks : List Str), ds = [prgD ms us ks] ∧ Q (.tup ((sortS ms).map D.str)) f
set_option maxHeartbeats 2000000 in
theorem ok_Program_modules {C_Program : Addr} (k_Program : KC K "Program" C_Program) (n_Program_places : NoAttr K C_Program "places") (d : ∃ p f fd, Fun K "modules" "Program.modules" s_Program_modules f fd ∧ PropOf K C_Program "modules" p f) : CalP P w K mg base 1 "Program" "modules" ["self"] Sp_Program_modules := by
  obtain ⟨p, f, fd, F, M⟩ := d
  refine ⟨C_Program, p, f, fd, k_Program, M, dfn (k := 0) (S := Sp_Program_modules) F sc_Program_modules ?len (fun cdv A outer s H E hr => (dss_one (ds_ret (de_fld k_Program n_Program_places (de_v 0))))) ?h, F.binds fun _ _ _ _ _ _ us hl => match us, hl with | [_], _ => rfl⟩
  case len =>
    intro g ds n Q h; obtain ⟨_, _, _, rfl, _⟩ := h; rfl
  case h =>
    intro g ds n Q h
    obtain ⟨ms, us, ks, rfl, q⟩ := h
    exact ⟨rfl, _, rfl, q⟩
/-! owners_of -/
theorem sc_owners_of : FnScope ["program", "paths", "module"] ["program", "paths"] (defScope s_owners_of) := ⟨rfl, rfl, rfl, by decide +kernel, rfl, by decide +kernel, by decide +kernel⟩
theorem dcMs (F : Str → D) {g : Option Dk} {t : TgF} {k v : DT} {r : Sg} {Q : List Key → List D → Nat → Prop} : ∀ (rest done : List Str) (f : Nat), (done ++ rest).Nodup →
    (∀ x ∈ rest, ∃ l, t (.str x) = some l ∧ (∀ (f : Nat) (Q : QD), Q (.str x) f → k g (setsR r l) f Q) ∧ ∀ (f : Nat) (Q : QD), Q (F x) f → v g (setsR r l) f Q) →
    Q ((done ++ rest).map Sum.inr) ((done ++ rest).map F) f → dDcGo g t dYes k v r (rest.map D.str) (done.map Sum.inr) (done.map F) f Q
  | [], done, f, _, _, q => by
    rw [List.append_nil] at q
    exact q
  | x :: rest, done, f, hn, he, q => by
    obtain ⟨l, hl, h1, h2⟩ := he x (by simp)
    have hx : x ∉ done := fun z => (List.nodup_append.mp hn).2.2 x z x (by simp) rfl
    simp only [List.map_cons, dDcGo, hl]
    refine (h1 f _ (h2 f _ ⟨.inr x, rfl, ?_⟩) : k g (setsR r l) f fun x f2 => v g (setsR r l) f2 fun y f3 => ∃ key, x.key = some key ∧ dDcGo g t dYes k v r (rest.map D.str) (putKs (done.map Sum.inr) key) (putXs (done.map Sum.inr) (done.map F) key y) f3 Q)
    rw [putKs_new hx, putXs_new hx]
    have e : done ++ x :: rest = (done ++ [x]) ++ rest := by simp
    rw [e] at hn q
    have e2 : done.map F ++ [F x] = (done ++ [x]).map F := by simp
    rw [e2]
    exact dcMs F rest (done ++ [x]) f hn (fun y hy => he y (by simp [hy])) q
def ownT (ms ps : List Str) : D := .dct (ms.map Sum.inr) (ms.map (covd ps))
def Sp_owners_of : DSp := fun _ ds f Q => ∃ (ms : List Str) (us : List Us) (ks ps : List Str), ds = [prgD ms us ks, .ftp (ps.map D.str)] ∧ PVm ms ∧ PVm ps ∧ Q (ownT (sortS ms) ps) f
set_option maxHeartbeats 2000000 in
theorem ok_owners_of (d : Df K mg "owners_of" s_owners_of) (c_Program_modules : CalP P w K mg base 1 "Program" "modules" ["self"] Sp_Program_modules) (c_covered : Cal P w K mg base 2 "covered" ["paths", "path"] Sp_covered) : Cal P w K mg base 3 "owners_of" ["program", "paths"] Sp_owners_of := by
  obtain ⟨f, fd, F, m⟩ := d
  refine ⟨f, fd, dfn (k := 2) (S := Sp_owners_of) F sc_owners_of ?len (fun cdv A outer s H E hr => (dss_one (ds_ret (de_dc (own := [("module", 2)]) sc_owners_of.nd (di_seq (de_prop c_Program_modules (hr.mono (by decide)) (de_v 0))) (blkOk_by (own := [("module", 2)]) (N := ["program", "paths", "module"]) (sc := defScope s_owners_of) (by decide +kernel)) (fun _ _ _ _ _ => dg_name (i := 2) sc_owners_of.nd) (fun _ _ _ _ _ => dts_nil) (fun _ _ _ _ _ => (de_v 2)) (fun _ _ _ _ _ => (de_callC c_covered (hr.mono (by decide)) (da_cons (de_v 1) (da_cons (de_v 2) da_nil)))))))) ?h, F.kp, F.binds fun _ _ _ _ _ _ us hl => match us, hl with | [_, _], _ => rfl, m⟩
  case len =>
    intro g ds n Q h; obtain ⟨_, _, _, _, rfl, _⟩ := h; rfl
  case h =>
    intro g ds n Q h
    obtain ⟨ms, us, ks, ps, rfl, hm, hp, q⟩ := h
    refine ⟨rfl, ms, us, ks, rfl, ?_⟩
    have hs : PVm (sortS ms) := hm.perm (sortS_perm ms)
    refine ⟨by rw [List.length_map]; exact Nat.le_trans hs.len (by decide), ?_⟩
    refine dcMs (covd ps) (sortS ms) [] n hs.nd (fun x hx => ⟨_, rfl, fun f Q q => q, fun f Q q => ?_⟩) q
    exact ⟨ps, x, .inl rfl, fun p hp' => Nat.le_trans (hp.short.2 p hp').1 (by decide), q⟩
/-! Program.uses -/
theorem sc_Program_uses : FnScope ["self"] ["self"] (defScope s_Program_uses) := ⟨rfl, rfl, rfl, by decide +kernel, rfl, by decide +kernel, by decide +kernel⟩
def Sp_Program_uses : DSp := fun _ ds f Q => ∃ (ms : List Str) (us : List Us) (ks : List Str), ds = [prgD ms us ks] ∧ Q (.tup ((sortU us).map pairD)) f
set_option maxHeartbeats 2000000 in
theorem ok_Program_uses {C_Program : Addr} (k_Program : KC K "Program" C_Program) (n_Program_links : NoAttr K C_Program "links") (d : ∃ p f fd, Fun K "uses" "Program.uses" s_Program_uses f fd ∧ PropOf K C_Program "uses" p f) : CalP P w K mg base 1 "Program" "uses" ["self"] Sp_Program_uses := by
  obtain ⟨p, f, fd, F, M⟩ := d
  refine ⟨C_Program, p, f, fd, k_Program, M, dfn (k := 0) (S := Sp_Program_uses) F sc_Program_uses ?len (fun cdv A outer s H E hr => (dss_one (ds_ret (de_fld k_Program n_Program_links (de_v 0))))) ?h, F.binds fun _ _ _ _ _ _ us hl => match us, hl with | [_], _ => rfl⟩
  case len =>
    intro g ds n Q h; obtain ⟨_, _, _, rfl, _⟩ := h; rfl
  case h =>
    intro g ds n Q h
    obtain ⟨ms, us, ks, rfl, q⟩ := h
    exact ⟨rfl, _, rfl, q⟩
/-! counts_of -/
theorem sc_counts_of : FnScope ["program", "paths", "owners", "found", "user", "used", "one", "other"] ["program", "paths"] (defScope s_counts_of) := ⟨rfl, rfl, rfl, by decide +kernel, rfl, by decide +kernel, by decide +kernel⟩
theorem tc_in (val : Str × Str → D) {g : Option Dk} {t : TgF} {k v : DT} {r : Sg} {Q : List TKey → List D → Nat → Prop} (a : Str) : ∀ (rest : List Str) (L : List (Str × Str)) (f : Nat), (L ++ rest.map fun b => (a, b)).Nodup → L.length + rest.length ≤ lim →
    (∀ x ∈ rest, ∃ l, t (.str x) = some l ∧ (∀ (f : Nat) (Q : QD), Q (.tup [.str a, .str x]) f → k g (setsR r l) f Q) ∧ ∀ (f : Nat) (Q : QD), Q (val (a, x)) f → v g (setsR r l) f Q) →
    Q ((L ++ rest.map fun b => (a, b)).map kPair) ((L ++ rest.map fun b => (a, b)).map val) f → dTcGo g t dYes k v r (rest.map D.str) (L.map kPair) (L.map val) f Q
  | [], L, f, _, _, _, q => by
    rw [List.map_nil, List.append_nil] at q
    exact q
  | x :: rest, L, f, hn, hl, he, q => by
    obtain ⟨l, h0, h1, h2⟩ := he x (by simp)
    have hx : (a, x) ∉ L := fun z => (List.nodup_append.mp hn).2.2 _ z (a, x) (by simp) rfl
    rw [List.length_cons] at hl
    simp only [List.map_cons, dTcGo, h0]
    refine (h1 f _ (h2 f _ ⟨kPair (a, x), rfl, by rw [List.length_map]; omega, ?_⟩) : k g (setsR r l) f fun x f2 => v g (setsR r l) f2 fun y f3 => ∃ key, x.tkey = some key ∧ (L.map kPair).length ≤ lim ∧ dTcGo g t dYes k v r (rest.map D.str) (putTs (L.map kPair) key) (putTx (L.map kPair) (L.map val) key y) f3 Q)
    have hk : kPair (a, x) ∉ L.map kPair := fun z => hx (kPair_mem.mp z)
    have e1 : putTs (L.map kPair) (kPair (a, x)) = (L ++ [(a, x)]).map kPair := by unfold putTs; rw [if_neg hk, List.map_append]; rfl
    have e2 : putTx (L.map kPair) (L.map val) (kPair (a, x)) (val (a, x)) = (L ++ [(a, x)]).map val := by unfold putTx; rw [if_neg hk, List.map_append]; rfl
    rw [e1, e2]
    have e : L ++ (x :: rest).map (fun b => (a, b)) = (L ++ [(a, x)]) ++ rest.map fun b => (a, b) := by simp
    rw [e] at hn q
    exact tc_in val a rest (L ++ [(a, x)]) f hn (by rw [List.length_append]; show L.length + 1 + rest.length ≤ lim; omega) (fun y hy => he y (by simp [hy])) q
theorem tc_out (val : Str × Str → D) {g : Option Dk} {t t1 : TgF} {i1 : DTA} {k v : DT} {vs1 : List Nat} {r : Sg} {Q : List TKey → List D → Nat → Prop} (bs : List Str) : ∀ (rest : List Str) (L : List (Str × Str)) (f : Nat), (L ++ rest.flatMap fun a => bs.map fun b => (a, b)).Nodup → L.length + rest.length * bs.length ≤ lim →
    (∀ a ∈ rest, ∃ l, t (.str a) = some l ∧ (∀ (f : Nat) (Q : List D → Nat → Prop), Q (bs.map D.str) f → i1 g (setsR r l) f Q) ∧ ∀ x ∈ bs, ∃ l1, t1 (.str x) = some l1 ∧ (∀ (f : Nat) (Q : QD), Q (.tup [.str a, .str x]) f → k g (setsR (wipeR (setsR r l) vs1) l1) f Q) ∧ ∀ (f : Nat) (Q : QD), Q (val (a, x)) f → v g (setsR (wipeR (setsR r l) vs1) l1) f Q) →
    Q ((L ++ rest.flatMap fun a => bs.map fun b => (a, b)).map kPair) ((L ++ rest.flatMap fun a => bs.map fun b => (a, b)).map val) f → dTc2Go g t dYes i1 t1 dYes k v vs1 r (rest.map D.str) (L.map kPair) (L.map val) f Q
  | [], L, f, _, _, _, q => by
    rw [List.flatMap_nil, List.append_nil] at q
    exact q
  | a :: rest, L, f, hn, hl, he, q => by
    obtain ⟨l, h0, h1, h2⟩ := he a (by simp)
    rw [List.length_cons, Nat.add_mul, Nat.one_mul] at hl
    have e : L ++ (a :: rest).flatMap (fun a => bs.map fun b => (a, b)) = (L ++ bs.map fun b => (a, b)) ++ rest.flatMap fun a => bs.map fun b => (a, b) := by rw [List.flatMap_cons, List.append_assoc]
    rw [e] at hn q
    simp only [List.map_cons, dTc2Go, h0]
    refine (h1 f _ ?_ : i1 g (setsR r l) f fun es f2 => dTcGo g t1 dYes k v (wipeR (setsR r l) vs1) es (L.map kPair) (L.map val) f2 fun ks' xs' f3 => dTc2Go g t dYes i1 t1 dYes k v vs1 r (rest.map D.str) ks' xs' f3 Q)
    refine tc_in val a bs L f (List.nodup_append.mp hn).1 (by omega) h2 ?_
    exact tc_out val bs rest (L ++ bs.map fun b => (a, b)) f hn (by rw [List.length_append, List.length_map]; omega) (fun y hy => he y (by simp [hy])) q
theorem prs_nd {ps : List Str} (h : ps.Nodup) : (prs ps).Nodup := by
  unfold prs List.Nodup
  rw [List.pairwise_flatMap]
  refine ⟨fun a _ => ?_, ?_⟩
  · rw [List.pairwise_map]
    exact h.imp fun {x y} e z => e (congrArg Prod.snd z)
  · refine h.imp fun {a b} e x hx y hy z => ?_
    obtain ⟨x', _, rfl⟩ := List.mem_map.mp hx
    obtain ⟨y', _, rfl⟩ := List.mem_map.mp hy
    exact e (congrArg Prod.fst z)
theorem prs_len (ps : List Str) : (prs ps).length = ps.length * ps.length := by
  unfold prs
  rw [List.length_flatMap]
  have : ∀ l : List Str, (l.map fun a => (ps.map fun b => (a, b)).length).sum = l.length * ps.length := fun l => by
    induction l with
    | nil => simp
    | cons x l ih => rw [List.map_cons, List.sum_cons, ih, List.length_map, List.length_cons, Nat.add_mul, Nat.one_mul, Nat.add_comm]
  exact this ps
theorem put_cn {val val' : Str × Str → D} {l : List (Str × Str)} {u : Str × Str} (hu : u ∈ l) (h1 : ∀ v ∈ l, v ≠ u → val' v = val v) : putTs (l.map kPair) (kPair u) = l.map kPair ∧ putTx (l.map kPair) (l.map val) (kPair u) (val' u) = l.map val' := by
  have hk : kPair u ∈ l.map kPair := kPair_mem.mpr hu
  unfold putTs putTx
  rw [if_pos hk, if_pos hk]
  refine ⟨rfl, ?_⟩
  rw [List.zip_map', List.map_map]
  refine List.map_congr_left fun v hv => ?_
  show (if kPair v = kPair u then val' u else val v) = val' v
  by_cases e : v = u
  · subst e
    rw [if_pos rfl]
  · rw [if_neg fun z => e (kPair_inj z), h1 v hv e]
def Sp_counts_of : DSp := fun _ ds f Q => ∃ (ms : List Str) (us : List Us) (ks ps : List Str), ds = [prgD ms us ks, .ftp (ps.map D.str)] ∧ PVm ms ∧ PVu ms us ∧ PVm ps ∧ Q (cntT us ps) f
set_option maxHeartbeats 2000000 in
theorem ok_counts_of (d : Df K mg "counts_of" s_counts_of) (c_Program_uses : CalP P w K mg base 1 "Program" "uses" ["self"] Sp_Program_uses) (c_owners_of : Cal P w K mg base 3 "owners_of" ["program", "paths"] Sp_owners_of) : Cal P w K mg base 4 "counts_of" ["program", "paths"] Sp_counts_of := by
  obtain ⟨f, fd, F, m⟩ := d
  refine ⟨f, fd, dfn (k := 3) (S := Sp_counts_of) F sc_counts_of ?len (fun cdv A outer s H E hr => (dss_cons (ds_set false (i := 2) sc_counts_of.nd (de_callC c_owners_of (hr.mono (by decide)) (da_cons (de_v 0) (da_cons (de_v 1) da_nil))))
      (dss_cons (ds_setTc2 (i := 3) (own := [("one", 6), ("other", 7)]) (vs1 := [7]) hr sc_counts_of.nd (di_seq (de_v 1)) (blkOk_by (own := [("one", 6), ("other", 7)]) (N := ["program", "paths", "owners", "found", "user", "used", "one", "other"]) (sc := defScope s_counts_of) (by decide +kernel)) (fun _ _ _ _ _ => dg_name (i := 6) sc_counts_of.nd) (fun _ _ _ _ _ => dts_nil) (fun _ _ _ _ _ => (di_seq (de_v 1))) (fun _ _ _ _ _ => dg_name (i := 7) sc_counts_of.nd) (fun _ _ _ _ _ => dts_nil) (fun _ _ _ _ _ => (de_tup (da_cons (de_v 6) (da_cons (de_v 7) da_nil)))) (fun _ _ _ _ _ => de_int))
      (dss_cons (ds_for [] PassesOwn.never (di_seq (de_prop c_Program_uses (hr.mono (by decide)) (de_v 0))) (dg_tup rfl (dgs_cons (dg_name (i := 4) sc_counts_of.nd) (dgs_cons (dg_name (i := 5) sc_counts_of.nd) dgs_nil))) (dss_cons (ds_par false (i := 6) (j := 7) sc_counts_of.nd (de_dget hr (de_v 2) (de_v 4)) (de_dget hr (de_v 2) (de_v 5)))
      (dss_one (ds_if (DW.p (dw_and (dp_notN (de_v 6) de_non) (dw_and (dp_notN (de_v 7) de_non) (dw_and1 (dp_ne hr.units (de_v 6) (de_v 7)))))) (dss_one (ds_augKT (i := 3) hr (de_tup (da_cons (de_v 6) (da_cons (de_v 7) da_nil))) de_int)) dss_nil))))
      (dss_one (ds_ret (de_v 3))))))) ?h, F.kp, F.binds fun _ _ _ _ _ _ us hl => match us, hl with | [_, _], _ => rfl, m⟩
  case len =>
    intro g ds n Q h; obtain ⟨_, _, _, _, rfl, _⟩ := h; rfl
  case h =>
    intro g ds n Q h
    obtain ⟨ms, us, ks, ps, rfl, hm, hu, hp, q⟩ := h
    refine ⟨ms, us, ks, ps, rfl, hm, hp, ?_⟩
    simp only [List.set_cons_succ, List.set_cons_zero, setsR, startR, List.map_cons, List.map_nil, List.cons_append, List.nil_append, List.replicate_succ, List.replicate_zero, List.length_cons, List.length_nil, Nat.reduceAdd, Nat.reduceSub]
    have hl := hp.len
    have hll : ps.length * ps.length ≤ 576 := Nat.mul_le_mul hl hl
    refine tc_out (cnD []) ps ps [] n (prs_nd hp.nd) (by show 0 + ps.length * ps.length ≤ lim; exact Nat.le_trans (by omega) (by decide : 576 ≤ lim)) (fun a ha => ⟨_, rfl, fun f Q q => q, fun x hx => ⟨_, rfl, fun f Q q => ⟨show 2 ≤ lim by decide, q⟩, fun f Q q => ?_⟩⟩) ?_
    · have : cnD [] (a, x) = .int 0 := by unfold cnD cnt; split <;> rfl
      rw [this] at q
      exact q
    refine ⟨rfl, ms, us, ks, rfl, ?_⟩
    refine dFor_list pairD (fun done rest r f => f = n ∧ ∃ (a b c d : Sl), r = [.sh (prgD ms us ks), .sh (.ftp (ps.map D.str)), .sh (ownT (sortS ms) ps), .ot ((prs ps).map kPair) ((prs ps).map (cnD done)), a, b, c, d]) _ _ _ ?_ ?_ ⟨rfl, _, _, _, _, rfl⟩
    · rintro done u rest r f N hx ⟨rfl, a, b, c, d, rfl⟩ hN
      have hmem : u ∈ us := (sortU_perm us).mem_iff.mp (by rw [hx]; simp)
      obtain ⟨h1, h2, _⟩ := hu.mem u hmem
      have s1 : u.1 ∈ sortS ms := (sortS_perm ms).mem_iff.mpr h1
      have s2 : u.2 ∈ sortS ms := (sortS_perm ms).mem_iff.mpr h2
      have keep : (∀ v ∈ prs ps, cnt (done ++ [u]) v = cnt done v) → (prs ps).map (cnD done) = (prs ps).map (cnD (done ++ [u])) := fun e => List.map_congr_left fun v hv => by unfold cnD; rw [e v hv]
      have cstep : ∀ v : Str × Str, cnt (done ++ [u]) v = cnt done v + if v.1 ≠ v.2 ∧ cov v.1 u.1 = true ∧ cov v.2 u.2 = true then 1 else 0 := fun v => by
        unfold cnt ctU
        by_cases e : v.1 = v.2
        · rw [if_pos e, if_pos e, if_neg fun z => z.1 e]
        · rw [if_neg e, if_neg e, List.filter_append, List.length_append]
          congr 1
          by_cases c1 : cov v.1 u.1 = true
          · by_cases c2 : cov v.2 u.2 = true
            · rw [if_pos ⟨e, c1, c2⟩]; simp [c1, c2]
            · rw [if_neg fun z => c2 z.2.2]; simp [c2]
          · rw [if_neg fun z => c1 z.2.1]; simp [c1]
      refine ⟨_, rfl, .inr u.1, _, rfl, look_map s1, .inr u.2, _, rfl, look_map s2, ?_⟩
      simp only [List.set_cons_succ, List.set_cons_zero, setsR, startR, List.map_cons, List.map_nil, List.cons_append, List.nil_append, List.replicate_succ, List.replicate_zero, List.length_cons, List.length_nil, Nat.reduceAdd, Nat.reduceSub]
      have stay : (∀ v ∈ prs ps, ¬ (v.1 ≠ v.2 ∧ cov v.1 u.1 = true ∧ cov v.2 u.2 = true)) → N [.sh (prgD ms us ks), .sh (.ftp (ps.map D.str)), .sh (ownT (sortS ms) ps), .ot ((prs ps).map kPair) ((prs ps).map (cnD done)), .sh (.str u.1), .sh (.str u.2), .sh (covd ps u.1), .sh (covd ps u.2)] f := fun hn => hN _ _ ⟨rfl, _, _, _, _, by rw [← keep fun v hv => by rw [cstep v, if_neg (hn v hv)]; rfl]⟩
      rcases covd_or ps u.1 with e1 | ⟨p, e1⟩
      · have st := stay fun v hv z => by
          have := covd_none e1 v.1 (mem_prs.mp hv).1
          rw [z.2.1] at this
          cases this
        rw [e1] at st ⊢
        exact st
      rcases covd_or ps u.2 with e2 | ⟨q2, e2⟩
      · have st := stay fun v hv z => by
          have := covd_none e2 v.2 (mem_prs.mp hv).2
          rw [z.2.2] at this
          cases this
        rw [e1, e2] at st ⊢
        exact st
      obtain ⟨p1, p2⟩ := covd_some e1
      obtain ⟨q1, q3⟩ := covd_some e2
      by_cases hpq : p = q2
      · have st := stay fun v hv z => by
          have a1 := cov_one hp (mem_prs.mp hv).1 p1 z.2.1 p2
          have a2 := cov_one hp (mem_prs.mp hv).2 q1 z.2.2 q3
          exact z.1 (by rw [a1, a2, hpq])
        rw [e1, e2] at st ⊢
        show if (!decide (p = q2)) = true then _ else _
        rw [decide_eq_true hpq]
        exact st
      · rw [e1, e2]
        show if (!decide (p = q2)) = true then _ else _
        rw [decide_eq_false hpq]
        have hv : (p, q2) ∈ prs ps := mem_prs.mpr ⟨p1, q1⟩
        obtain ⟨w1, w2⟩ := put_cn (val := cnD done) (val' := cnD (done ++ [u])) hv fun v hv' ne => by
          unfold cnD
          rw [cstep v, if_neg fun z => ne (Prod.ext (cov_one hp (mem_prs.mp hv').1 p1 z.2.1 p2) (cov_one hp (mem_prs.mp hv').2 q1 z.2.2 q3))]
          rfl
        have w3 : cnD (done ++ [u]) (p, q2) = .int ((cnt done (p, q2) : Nat) + 1) := by
          unfold cnD
          rw [cstep, if_pos ⟨hpq, p2, q3⟩]
          rfl
        rw [w3] at w2
        refine iteT ⟨_, _, rfl, show 2 ≤ lim by decide, kPair (p, q2), _, rfl, lookT_pair hv, _, rfl, ?_, ?_⟩
        · rw [List.length_map, prs_len]; exact Nat.le_trans hll (by decide)
        · refine hN _ _ ⟨rfl, .sh (.str u.1), .sh (.str u.2), .sh (.str p), .sh (.str q2), ?_⟩
          rw [w1, w2]
          rfl
    · rintro r f ⟨rfl, a, b, c, d, rfl⟩
      have : (prs ps).map (cnD (sortU us)) = (prs ps).map (cnD us) := List.map_congr_left fun v _ => by unfold cnD; rw [cnt_perm (sortU_perm us)]
      show Q (.dtt ((prs ps).map kPair) ((prs ps).map (cnD (sortU us)))) f
      rw [this]
      exact q
def swp (us : List Us) : List Us := us.map fun u => (u.2, u.1)
inductive Wk (vs : List Us) (gs : List Str) : Nat → Str → Prop where
  | zero {m : Str} : m ∈ gs → Wk vs gs 0 m
  | step {n : Nat} {a b : Str} : Wk vs gs n a → (a, b) ∈ vs → Wk vs gs (n + 1) b
def Dst (vs : List Us) (gs : List Str) (n : Nat) (m : Str) : Prop := Wk vs gs n m ∧ ∀ k, k < n → ¬ Wk vs gs k m
/-! steps_to -/
theorem sc_steps_to : FnScope ["before", "goals", "found", "row", "steps", "more", "module", "goal", "user"] ["before", "goals"] (defScope s_steps_to) := ⟨rfl, rfl, rfl, by decide +kernel, rfl, by decide +kernel, by decide +kernel⟩
def Sp_steps_to : DSp := fun _ ds f Q => ∃ (ms : List Str) (vs : List Us) (gs : List Str), ds = [lnkD ms vs, .lst (gs.map D.str)] ∧ ms.Nodup ∧ ms.length ≤ 24 ∧ (∀ m ∈ ms, asc m) ∧ (∀ u ∈ vs, u.1 ∈ ms ∧ u.2 ∈ ms) ∧ gs.Nodup ∧ (∀ g ∈ gs, g ∈ ms) ∧
  ∀ (fk : List Str) (dist : Str → Nat), fk.Nodup → (∀ m, m ∈ fk ↔ ∃ k, Wk vs gs k m) → (∀ m ∈ fk, Dst vs gs (dist m) m) → Q (.dct (fk.map Sum.inr) (fk.map fun m => .int (dist m))) f
structure BF (vs : List Us) (gs : List Str) (n : Nat) (fk row : List Str) (dist : Str → Nat) : Prop where
  nd : fk.Nodup
  mem : ∀ m, m ∈ fk ↔ ∃ k, k ≤ n ∧ Wk vs gs k m
  ds : ∀ m ∈ fk, Dst vs gs (dist m) m
  row : ∀ m, m ∈ row ↔ (m ∈ fk ∧ dist m = n)
structure BM (vs : List Us) (gs : List Str) (n : Nat) (fk row more : List Str) : Prop where
  nd : (fk ++ more).Nodup
  new : ∀ m ∈ more, ∃ a ∈ row, (a, m) ∈ vs
theorem BM.snoc {vs : List Us} {gs : List Str} {n : Nat} {fk row more : List Str} {a y : Str} (h : BM vs gs n fk row more) (hy : y ∉ fk ++ more) (ha : a ∈ row) (hu : (a, y) ∈ vs) : BM vs gs n fk row (more ++ [y]) := by
  refine ⟨?_, fun m hm => ?_⟩
  · rw [← List.append_assoc, List.nodup_append]
    exact ⟨h.nd, by simp, fun a ha b hb e => hy (by rw [← List.mem_singleton.mp hb, ← e]; exact ha)⟩
  · rcases List.mem_append.mp hm with e | e
    · exact h.new m e
    · rw [List.mem_singleton.mp e]; exact ⟨a, ha, hu⟩
theorem BF.next {vs : List Us} {gs : List Str} {n : Nat} {fk row more : List Str} {dist : Str → Nat} (h : BF vs gs n fk row dist) (b : BM vs gs n fk row more) (hd : ∀ a ∈ row, ∀ y, (a, y) ∈ vs → y ∈ fk ++ more) :
    BF vs gs (n + 1) (fk ++ more) more (fun m => if m ∈ more then n + 1 else dist m) := by
  have dj : ∀ m ∈ more, m ∉ fk := fun m hm hf => (List.nodup_append.mp b.nd).2.2 m hf m hm rfl
  have wnew : ∀ m ∈ more, Wk vs gs (n + 1) m := fun m hm => by
    obtain ⟨a, h1, h2⟩ := b.new m hm
    obtain ⟨h3, h4⟩ := (h.row a).mp h1
    have := (h.ds a h3).1
    rw [h4] at this
    exact .step this h2
  refine ⟨b.nd, fun m => ?_, fun m hm => ?_, fun m => ?_⟩
  · rw [List.mem_append]
    constructor
    · rintro (e | e)
      · obtain ⟨k, h1, h2⟩ := (h.mem m).mp e
        exact ⟨k, by omega, h2⟩
      · exact ⟨n + 1, Nat.le_refl _, wnew m e⟩
    · rintro ⟨k, h1, h2⟩
      by_cases hk : k ≤ n
      · exact .inl ((h.mem m).mpr ⟨k, hk, h2⟩)
      · obtain rfl : k = n + 1 := by omega
        cases h2 with
        | step h3 h4 =>
          rename_i a
          have ha : a ∈ fk := (h.mem a).mpr ⟨n, Nat.le_refl _, h3⟩
          have hda := (h.ds a ha)
          have hle : dist a ≤ n := by
            by_cases q : dist a ≤ n
            · exact q
            · exact absurd h3 (hda.2 n (by omega))
          by_cases q : dist a = n
          · exact List.mem_append.mp (hd a ((h.row a).mpr ⟨ha, q⟩) m h4)
          · exact .inl ((h.mem m).mpr ⟨dist a + 1, by omega, .step hda.1 h4⟩)
  · by_cases e : m ∈ more
    · rw [if_pos e]
      refine ⟨wnew m e, fun k hk hw => dj m e ((h.mem m).mpr ⟨k, by omega, hw⟩)⟩
    · rw [if_neg e]
      exact h.ds m ((List.mem_append.mp hm).resolve_right e)
  · rw [List.mem_append]
    constructor
    · intro e
      exact ⟨.inr e, by rw [if_pos e]⟩
    · rintro ⟨e | e, q⟩
      · by_cases hm : m ∈ more
        · exact hm
        · rw [if_neg hm] at q
          obtain ⟨k, h1, h2⟩ := (h.mem m).mp e
          have := (h.ds m e).2 k
          by_cases hk : k < dist m
          · exact absurd h2 (this hk)
          · omega
      · exact e
theorem BF.fin {vs : List Us} {gs : List Str} {n : Nat} {fk : List Str} {dist : Str → Nat} (h : BF vs gs n fk [] dist) : ∀ m, m ∈ fk ↔ ∃ k, Wk vs gs k m := by
  have all : ∀ k m, Wk vs gs k m → m ∈ fk := by
    intro k
    induction k with
    | zero => intro m hw; exact (h.mem m).mpr ⟨0, Nat.zero_le _, hw⟩
    | succ k ih =>
      intro m hw
      cases hw with
      | step h3 h4 =>
        rename_i a
        have ha := ih a h3
        have hda := h.ds a ha
        obtain ⟨j, h1, h2⟩ := (h.mem a).mp ha
        have hle : dist a ≤ n := by
          by_cases q : dist a ≤ n
          · exact q
          · exact absurd h2 (hda.2 j (by omega))
        have hne : dist a ≠ n := fun q => by
          have := (h.row a).mpr ⟨ha, q⟩
          simp at this
        exact (h.mem m).mpr ⟨dist a + 1, by omega, .step hda.1 h4⟩
  exact fun m => ⟨fun hm => by obtain ⟨k, _, q⟩ := (h.mem m).mp hm; exact ⟨k, q⟩, fun ⟨k, q⟩ => all k m q⟩
set_option maxHeartbeats 2000000 in
theorem ok_steps_to (d : Df K mg "steps_to" s_steps_to) (m_list : mg "list" = none) : Cal P w K mg base 1 "steps_to" ["before", "goals"] Sp_steps_to := by
  obtain ⟨f, fd, F, m⟩ := d
  refine ⟨f, fd, dfn (k := 0) (S := Sp_steps_to) F sc_steps_to ?len (fun cdv A outer s H E hr => (dss_cons (ds_setDc (i := 2) (own := [("goal", 7)]) sc_steps_to.nd (di_seq (de_v 1)) (blkOk_by (own := [("goal", 7)]) (N := ["before", "goals", "found", "row", "steps", "more", "module", "goal", "user"]) (sc := defScope s_steps_to) (by decide +kernel)) (fun _ _ _ _ _ => dg_name (i := 7) sc_steps_to.nd) (fun _ _ _ _ _ => dts_nil) (fun _ _ _ _ _ => (de_v 7)) (fun _ _ _ _ _ => de_int))
      (dss_cons (ds_setL false (i := 3) sc_steps_to.nd (dl_listOf m_list (da_cons (de_v 1) da_nil)))
      (dss_cons (ds_set false (i := 4) sc_steps_to.nd de_int)
      (dss_cons (ds_while PassesOwn.never (dp_ne hr.units (de_v 3) (dl_lst da_nil).e) (dss_cons (ds_augAdd false (i := 4) sc_steps_to.nd de_int)
      (dss_cons (ds_setL false (i := 5) sc_steps_to.nd (dl_lst da_nil))
      (dss_cons (ds_for [3] PassesOwn.never (di_seq (de_v 3)) (dg_name (i := 6) sc_steps_to.nd) (dss_one (ds_for [] PassesOwn.never (di_seq (de_dget hr (de_v 0) (de_v 6))) (dg_name (i := 8) sc_steps_to.nd) (dss_one (ds_if (dp_dnotIn hr (de_v 8) (de_v 2)) (dss_cons (ds_setKey false hr (i := 2) (de_v 8) (de_v 4))
      (dss_one (ds_app false (i := 5) (de_v 8)))) dss_nil)))))
      (dss_one (ds_setL true (i := 3) sc_steps_to.nd (dl_listOf m_list (da_cons (de_v 5) da_nil))))))))
      (dss_one (ds_ret (de_v 2)))))))) ?h, F.kp, F.binds fun _ _ _ _ _ _ us hl => match us, hl with | [_, _], _ => rfl, m⟩
  case len =>
    intro g ds n Q h; obtain ⟨_, _, _, rfl, _⟩ := h; rfl
  case h =>
    intro g ds n Q h
    obtain ⟨ms, vs, gs, rfl, hn, hl, ha, hu, hgn, hgm, q⟩ := h
    have hin : ∀ {k : Nat} {m : Str}, Wk vs gs k m → m ∈ ms := fun h => by
      cases h with
      | zero h => exact hgm _ h
      | step _ h => exact (hu _ h).2
    have lg : gs.length ≤ 24 := Nat.le_trans (nodup_sub_len hgn hgm) hl
    refine ⟨by rw [List.length_map]; exact L1 (by omega), ?_⟩
    refine dcM (fun _ => .int 0) gs [] _ (by simpa using hgn) (fun x hx => ⟨_, rfl, fun f Q q => q, fun f Q q => q⟩) ?_
    rw [List.nil_append]
    have b0 : BF vs gs 0 gs gs (fun _ => 0) := ⟨hgn, fun m => ⟨fun h => ⟨0, Nat.le_refl _, .zero h⟩, fun ⟨k, h1, h2⟩ => by
        obtain rfl : k = 0 := by omega
        cases h2 with | zero h => exact h⟩, fun m hm => ⟨.zero hm, fun k hk => absurd hk (Nat.not_lt_zero _)⟩, fun m => ⟨fun h => ⟨h, rfl⟩, fun h => h.1⟩⟩
    refine dWhile_inv (fun v r f => ∃ (fk row : List Str) (dist : Str → Nat) (j : Nat) (a b c d : Sl), r = [.sh (lnkD ms vs), .sh (.lst (gs.map D.str)), .od (fk.map Sum.inr) (fk.map fun m => .int (dist m)), .ow (row.map D.str), .sh (.int j), a, b, c, d] ∧ n = f ∧ BF vs gs j fk row dist ∧ v = (24 - fk.length) + if row = [] then 0 else 1) ?_ ⟨gs, gs, fun _ => 0, 0, _, _, _, _, rfl, rfl, b0, rfl⟩
    rintro v r f N ⟨fk, row, dist, j, a, b, c, d, rfl, rfl, hk, rfl⟩ hN
    have fin : ∀ m ∈ fk, m ∈ ms := fun m hm => by obtain ⟨k, _, q⟩ := (hk.mem m).mp hm; exact hin q
    have hfl : fk.length ≤ 24 := Nat.le_trans (nodup_sub_len hk.nd fin) hl
    have rin : ∀ m ∈ row, m ∈ ms := fun m hm => fin m ((hk.row m).mp hm).1
    refine ⟨Nat.zero_le _, shpS (fun m hm => ha m (rin m hm)), rfl, ?_⟩
    rw [eqvL_nil]
    show if (!decide (row.map D.str = [])) = true then _ else _
    by_cases hrow : row = []
    · subst hrow
      exact q fk dist hk.nd hk.fin hk.ds
    · rw [decide_eq_false (by simpa using hrow)]
      refine iteT ⟨j, rfl, Nat.zero_le _, ?_⟩
      refine dFor_list D.str (fun done rest r f => ∃ (more : List Str) (a b c : Sl), r = [.sh (lnkD ms vs), .sh (.lst (gs.map D.str)), .od ((fk ++ more).map Sum.inr) (fk.map (fun m => .int (dist m)) ++ more.map fun _ => .int ((j : Int) + 1)), .sh (.lst (row.map D.str)), .sh (.int ((j : Int) + 1)), .ow (more.map D.str), a, b, c] ∧ n = f ∧ BM vs gs j fk row more ∧ ∀ m ∈ done, ∀ y, (m, y) ∈ vs → y ∈ fk ++ more) row _ _ ?_ ?_ ⟨[], _, _, _, by rw [List.append_nil, List.map_nil, List.append_nil]; rfl, rfl, ⟨by rw [List.append_nil]; exact hk.nd, by simp⟩, by simp⟩
      · rintro done x rest r f N1 hx ⟨more, a, b, c, rfl, rfl, hm, hd⟩ hN1
        have hxr : x ∈ row := by rw [hx]; simp
        refine ⟨_, rfl, .inr x, .lst ((usesOf vs x).map D.str), rfl, look_map (f := fun m => .lst ((usesOf vs m).map D.str)) (rin x hxr), ?_⟩
        refine dFor_list D.str (fun done' rest r f => ∃ (more : List Str) (b c : Sl), r = [.sh (lnkD ms vs), .sh (.lst (gs.map D.str)), .od ((fk ++ more).map Sum.inr) (fk.map (fun m => .int (dist m)) ++ more.map fun _ => .int ((j : Int) + 1)), .sh (.lst (row.map D.str)), .sh (.int ((j : Int) + 1)), .ow (more.map D.str), .sh (.str x), b, c] ∧ n = f ∧ BM vs gs j fk row more ∧ (∀ m ∈ done, ∀ y, (m, y) ∈ vs → y ∈ fk ++ more) ∧ ∀ m ∈ done', m ∈ fk ++ more) (usesOf vs x) _ _ ?_ ?_ ⟨more, _, _, rfl, rfl, hm, hd, by simp⟩
        · rintro done' y rest' r f N2 hy ⟨more, b, c, rfl, rfl, hm, hd, hd'⟩ hN2
          have hyu : (x, y) ∈ vs := mem_usesOf.mp (by rw [hy]; simp)
          refine ⟨_, rfl, .inr y, rfl, ?_⟩
          show if (!decide ((Sum.inr y : Key) ∈ (fk ++ more).map (Sum.inr : Str → Key))) = true then _ else _
          by_cases hin' : y ∈ fk ++ more
          · rw [decide_eq_true (mem_inr.mpr hin')]
            exact hN2 _ _ ⟨more, _, _, rfl, rfl, hm, hd, fun m h => by
              rcases List.mem_append.mp h with e | e
              · exact hd' m e
              · rw [List.mem_singleton.mp e]; exact hin'⟩
          · rw [decide_eq_false fun z => hin' (mem_inr.mp z)]
            have hml : (fk ++ more).length ≤ 24 := Nat.le_trans (nodup_sub_len hm.nd fun m hm' => by
              rcases List.mem_append.mp hm' with e | e
              · exact fin m e
              · obtain ⟨a, _, h2⟩ := hm.new m e; exact (hu _ h2).2) hl
            rw [List.length_append] at hml
            refine iteT ⟨_, _, rfl, .inr y, rfl, by rw [List.length_map, List.length_append]; exact L1 (by omega), _, rfl, by rw [List.length_map]; exact L1 (by omega), ?_⟩
            refine hN2 _ _ ⟨more ++ [y], b, .sh (.str y), ?_, rfl, hm.snoc hin' hxr hyu, fun m h b hb => ?_, fun m h => ?_⟩
            · have e1 : (more ++ [y]).map (fun _ : Str => D.int ((j : Int) + 1)) = more.map (fun _ => D.int ((j : Int) + 1)) ++ [D.int ((j : Int) + 1)] := by rw [List.map_append]; rfl
              have e2 : (more ++ [y]).map D.str = more.map D.str ++ [D.str y] := by rw [List.map_append]; rfl
              rw [e1, e2, putKs_new hin', putXs_new hin', List.append_assoc, ← List.append_assoc (fk.map _)]
              rfl
            · rw [← List.append_assoc]; exact List.mem_append_left _ (hd m h b hb)
            · rw [← List.append_assoc]
              rcases List.mem_append.mp h with e | e
              · exact List.mem_append_left _ (hd' m e)
              · exact List.mem_append_right _ e
        · rintro r f ⟨more, b, c, rfl, rfl, hm, hd, hd'⟩
          refine hN1 _ _ ⟨more, _, _, _, rfl, rfl, hm, fun m h b hb => ?_⟩
          rcases List.mem_append.mp h with e | e
          · exact hd m e b hb
          · rw [List.mem_singleton.mp e] at hb; exact hd' b (mem_usesOf.mpr hb)
      · rintro r f ⟨more, a, b, c, rfl, rfl, hm, hd⟩
        have hml : (fk ++ more).length ≤ 24 := Nat.le_trans (nodup_sub_len hm.nd fun m hm' => by
          rcases List.mem_append.mp hm' with e | e
          · exact fin m e
          · obtain ⟨a, _, h2⟩ := hm.new m e; exact (hu _ h2).2) hl
        have dj : ∀ m ∈ more, m ∉ fk := fun m hm' hf => (List.nodup_append.mp hm.nd).2.2 m hf m hm' rfl
        have e3 : (fk ++ more).map (fun m => D.int ((if m ∈ more then j + 1 else dist m : Nat) : Int)) = fk.map (fun m => D.int (dist m)) ++ more.map fun _ => D.int ((j : Int) + 1) := by
          rw [List.map_append]
          congr 1
          · apply List.map_congr_left
            intro m hm'
            rw [if_neg (fun z : m ∈ more => dj m z hm')]
          · apply List.map_congr_left
            intro m hm'
            rw [if_pos hm']
            rfl
        refine ⟨flatA_strs more, ?_⟩
        refine hN _ _ _ ?_ ⟨fk ++ more, more, fun m => if m ∈ more then j + 1 else dist m, j + 1, _, _, _, _, by rw [e3]; rfl, rfl, hk.next hm hd, rfl⟩
        rw [if_neg hrow]
        rw [List.length_append] at hml ⊢
        by_cases e : more = []
        · rw [if_pos e]
          omega
        · rw [if_neg e]
          have := List.length_pos_iff.mpr e
          omega
theorem Dst.uniq {vs : List Us} {gs : List Str} {n k : Nat} {m : Str} (h : Dst vs gs n m) (h' : Dst vs gs k m) : n = k := by
  rcases Nat.lt_trichotomy n k with e | e | e
  · exact absurd h.1 (h'.2 n e)
  · exact e
  · exact absurd h'.1 (h.2 k e)
theorem Dst.pred {vs : List Us} {gs : List Str} {n : Nat} {m : Str} (h : Dst vs gs (n + 1) m) : ∃ a, Dst vs gs n a ∧ (a, m) ∈ vs := by
  cases h.1 with
  | step h1 h2 => exact ⟨_, ⟨h1, fun k hk hw => h.2 (k + 1) (by omega) (.step hw h2)⟩, h2⟩
theorem Wk.dst {vs : List Us} {gs : List Str} {m : Str} : ∀ n : Nat, Wk vs gs n m → ∃ k, k ≤ n ∧ Dst vs gs k m := by
  intro n
  induction n using Nat.strongRecOn with
  | _ n ih =>
    intro h
    by_cases q : ∃ k, k < n ∧ Wk vs gs k m
    · obtain ⟨k, h1, h2⟩ := q
      obtain ⟨j, h3, h4⟩ := ih k h1 h2
      exact ⟨j, by omega, h4⟩
    · exact ⟨n, Nat.le_refl _, h, fun k hk hw => q ⟨k, hk, hw⟩⟩
theorem Dst.le {vs : List Us} {gs : List Str} {n k : Nat} {m : Str} (h : Dst vs gs n m) (h' : Wk vs gs k m) : n ≤ k := by
  by_cases q : n ≤ k
  · exact q
  · exact absurd h' (h.2 k (by omega))
/-- a nearest way meets as many modules as it has steps, and one more -/
theorem Dst.row {vs : List Us} {gs : List Str} : ∀ {n : Nat} {m : Str}, Dst vs gs n m → ∃ l : List Str, l.length = n + 1 ∧ l.Nodup ∧ ∀ x ∈ l, ∃ k, k ≤ n ∧ Dst vs gs k x := by
  intro n
  induction n with
  | zero => exact fun {m} h => ⟨[m], rfl, by simp, fun x hx => by rw [List.mem_singleton.mp hx]; exact ⟨0, Nat.le_refl _, h⟩⟩
  | succ n ih =>
    intro m h
    obtain ⟨a, h1, _⟩ := h.pred
    obtain ⟨l, h2, h3, h4⟩ := ih h1
    refine ⟨m :: l, by rw [List.length_cons, h2], List.nodup_cons.mpr ⟨fun hm => ?_, h3⟩, fun x hx => ?_⟩
    · obtain ⟨k, h5, h6⟩ := h4 m hm
      have := h.uniq h6
      omega
    · rcases List.mem_cons.mp hx with rfl | e
      · exact ⟨_, Nat.le_refl _, h⟩
      · obtain ⟨k, h5, h6⟩ := h4 x e
        exact ⟨k, by omega, h6⟩
theorem Wk.mem {vs : List Us} {gs ms : List Str} (hg : ∀ g ∈ gs, g ∈ ms) (hv : ∀ v ∈ vs, v.2 ∈ ms) {n : Nat} {m : Str} (h : Wk vs gs n m) : m ∈ ms := by
  cases h with
  | zero h => exact hg _ h
  | step _ h => exact hv _ h
theorem Dst.lt {vs : List Us} {gs ms : List Str} (hg : ∀ g ∈ gs, g ∈ ms) (hv : ∀ v ∈ vs, v.2 ∈ ms) {n : Nat} {m : Str} (h : Dst vs gs n m) : n < ms.length := by
  obtain ⟨l, h1, h2, h3⟩ := h.row
  have := nodup_sub_len h2 (m := ms) fun x hx => by
    obtain ⟨k, _, h5⟩ := h3 x hx
    exact h5.1.mem hg hv
  omega
/-- the first of the nearest ways -/
inductive FW (us : List Us) (gs : List Str) : Nat → Str → List Str → Prop where
  | zero {m : Str} : m ∈ gs → FW us gs 0 m [m]
  | step {n : Nat} {m o : Str} {w : List Str} : (m, o) ∈ us → Dst (swp us) gs n o → (∀ z, (m, z) ∈ us → Dst (swp us) gs n z → leS o z = true) → FW us gs n o w → FW us gs (n + 1) m (m :: w)
theorem FW.uniq {us : List Us} {gs : List Str} {n : Nat} {m : Str} {w : List Str} (h : FW us gs n m w) : ∀ {w' : List Str}, FW us gs n m w' → w = w' := by
  induction h with
  | zero _ => intro w' h'; cases h'; rfl
  | step h1 h2 h3 _ ih =>
    intro w' h'
    cases h' with
    | step k1 k2 k3 k4 =>
      obtain rfl := leS_antisymm (h3 _ k1 k2) (k3 _ h1 h2)
      rw [ih k4]
theorem FW.len {us : List Us} {gs : List Str} {n : Nat} {m : Str} {w : List Str} (h : FW us gs n m w) : w.length = n + 1 := by
  induction h with
  | zero _ => rfl
  | step _ _ _ _ ih => rw [List.length_cons, ih]
/-- the first of some ways, the shortest ahead -/
def wD (w : List Str) : D := .tup [.int w.length, .tup (w.map D.str)]
def ltW (v w : List Str) : Bool := PySem.W.dataLt (wD v).py (wD w).py
def stepW : Option (List Str) → List Str → Option (List Str)
  | none, w => some w
  | some v, w => if ltW w v = true then some w else some v
def best (ws : List (List Str)) : Option (List Str) := ws.foldl stepW none
/-! rests: who rests on whom -/
def rst (us : List Us) (ps : List Str) (a : Str) : List Str := (sortS ps).filter fun b => decide (0 < cnt us (a, b))
def rstD (us : List Us) (ps : List Str) (a : Str) : D := .lst ((rst us ps a).map D.str)
def rstT (us : List Us) (ps : List Str) : D := .dct (ps.map Sum.inr) (ps.map (rstD us ps))
theorem mem_rst {us : List Us} {ps : List Str} {a b : Str} : b ∈ rst us ps a ↔ b ∈ ps ∧ 0 < cnt us (a, b) := by
  unfold rst
  rw [List.mem_filter, (sortS_perm ps).mem_iff, decide_eq_true_iff]
/-- the edges, from what rests to what it rests on, and back -/
def fE (us : List Us) (ps : List Str) : List Us := (prs ps).filter fun v => decide (0 < cnt us v)
def bE (us : List Us) (ps : List Str) : List Us := ps.flatMap fun p => (ps.filter fun o => decide (p ∈ rst us ps o)).map fun o => (p, o)
theorem mem_fE {us : List Us} {ps : List Str} {a b : Str} : (a, b) ∈ fE us ps ↔ a ∈ ps ∧ b ∈ ps ∧ 0 < cnt us (a, b) := by
  unfold fE
  rw [List.mem_filter, mem_prs, decide_eq_true_iff, and_assoc]
theorem mem_bE {us : List Us} {ps : List Str} {a b : Str} : (a, b) ∈ bE us ps ↔ a ∈ ps ∧ b ∈ ps ∧ 0 < cnt us (b, a) := by
  unfold bE
  simp only [List.mem_flatMap, List.mem_map, List.mem_filter, decide_eq_true_iff, mem_rst]
  constructor
  · rintro ⟨p, hp, o, ⟨ho, h1, h2⟩, e⟩
    cases e
    exact ⟨hp, ho, h2⟩
  · rintro ⟨h1, h2, h3⟩
    exact ⟨a, h1, b, ⟨h2, h1, h3⟩, rfl⟩
theorem uses_flat {f : Str → List Str} : ∀ {l : List Str} {m : Str}, l.Nodup → m ∈ l → usesOf (l.flatMap fun p => (f p).map fun o => (p, o)) m = f m
  | [], m, _, h => nomatch h
  | p :: l, m, hn, h => by
    rw [List.nodup_cons] at hn
    rw [List.flatMap_cons]
    have sp : ∀ (l1 l2 : List Us), usesOf (l1 ++ l2) m = usesOf l1 m ++ usesOf l2 m := fun l1 l2 => by unfold usesOf; rw [List.filter_append, List.map_append]
    rw [sp]
    have own : ∀ (q : Str) (xs : List Str), usesOf (xs.map fun o => (q, o)) m = if q = m then xs else [] := fun q xs => by
      unfold usesOf
      by_cases e : q = m
      · rw [if_pos e, List.filter_eq_self.mpr (fun u hu => by obtain ⟨o, _, rfl⟩ := List.mem_map.mp hu; exact decide_eq_true e), List.map_map]
        exact List.map_id' _
      · rw [if_neg e, List.filter_eq_nil_iff.mpr (fun u hu => by obtain ⟨o, _, rfl⟩ := List.mem_map.mp hu; simpa using e)]
        rfl
    rw [own]
    by_cases e : p = m
    · subst e
      rw [if_pos rfl]
      have : usesOf (l.flatMap fun p => (f p).map fun o => (p, o)) p = [] := by
        unfold usesOf
        rw [List.filter_eq_nil_iff.mpr (fun u hu => ?_)]
        · rfl
        · obtain ⟨q, hq, hu⟩ := List.mem_flatMap.mp hu
          obtain ⟨o, _, rfl⟩ := List.mem_map.mp hu
          simp only [decide_eq_true_iff]
          intro z
          exact hn.1 (z ▸ hq)
      rw [this, List.append_nil]
    · rw [if_neg e, List.nil_append]
      rcases List.mem_cons.mp h with h | h
      · exact absurd h.symm e
      · exact uses_flat hn.2 h
theorem bE_lnk {us : List Us} {ps : List Str} (hn : ps.Nodup) : lnkD ps (bE us ps) = .dct (ps.map Sum.inr) (ps.map fun p => .lst ((ps.filter fun o => decide (p ∈ rst us ps o)).map D.str)) := by
  unfold lnkD
  refine congrArg _ (List.map_congr_left fun p hp => ?_)
  unfold bE
  rw [uses_flat hn hp]
/-! walks: along edges and back -/
theorem Wk.cat {vs : List Us} {gs : List Str} {a b : Str} {n : Nat} : ∀ {k : Nat}, Wk vs gs n a → Wk vs [a] k b → Wk vs gs (n + k) b
  | 0, h, .zero hb => by
    rw [List.mem_singleton.mp hb]
    exact h
  | _ + 1, h, .step g e => .step (h.cat g) e
theorem Wk.turn {vs ws : List Us} (hv : ∀ a b, (a, b) ∈ vs ↔ (b, a) ∈ ws) {a b : Str} : ∀ {k : Nat}, Wk vs [a] k b → Wk ws [b] k a
  | 0, .zero h => by
    rw [List.mem_singleton.mp h]
    exact .zero (List.mem_singleton.mpr rfl)
  | k + 1, .step (a := c) g e => by
    have h1 : Wk ws [b] 1 c := .step (.zero (List.mem_singleton.mpr rfl)) ((hv _ _).mp e)
    have := h1.cat (g.turn hv)
    rwa [Nat.add_comm] at this
theorem Wk.start {vs : List Us} {gs : List Str} {b : Str} : ∀ {k : Nat}, Wk vs gs k b → ∃ a ∈ gs, Wk vs [a] k b
  | 0, .zero h => ⟨b, h, .zero (List.mem_singleton.mpr rfl)⟩
  | k + 1, .step g e => by
    obtain ⟨a, h1, h2⟩ := g.start
    exact ⟨a, h1, .step h2 e⟩
theorem Wk.from {vs : List Us} {gs : List Str} {a b : Str} {k : Nat} (ha : a ∈ gs) (h : Wk vs [a] k b) : Wk vs gs k b := by
  have := (Wk.zero ha : Wk vs gs 0 a).cat h
  rwa [Nat.zero_add] at this
/-- no way leads back -/
def Acy (vs : List Us) (ps : List Str) : Prop := ∀ p ∈ ps, ∀ k, ¬ Wk vs [p] (k + 1) p
theorem Acy.turn {vs ws : List Us} {ps : List Str} (hv : ∀ a b, (a, b) ∈ vs ↔ (b, a) ∈ ws) (h : Acy vs ps) : Acy ws ps := fun p hp k hw => h p hp k (hw.turn fun a b => (hv b a).symm)
theorem Acy.short {vs : List Us} {ps : List Str} (h : Acy vs ps) (hv : ∀ u ∈ vs, u.2 ∈ ps) {k : Nat} {p : Str} (hw : Wk vs ps k p) : k < ps.length := by
  have key : ∀ (k : Nat) (p : Str), Wk vs ps k p → ∃ l : List Str, l.Nodup ∧ l.length = k + 1 ∧ ∀ x ∈ l, x ∈ ps ∧ (x = p ∨ ∃ j, Wk vs [x] (j + 1) p) := by
    intro k
    induction k with
    | zero =>
      intro p hw
      cases hw with
      | zero hp => exact ⟨[p], by simp, rfl, fun x hx => by rw [List.mem_singleton.mp hx]; exact ⟨hp, .inl rfl⟩⟩
    | succ k ih =>
      intro p hw
      cases hw with
      | step g e =>
        rename_i a
        obtain ⟨l, h1, h2, h3⟩ := ih a g
        have reach : ∀ x ∈ l, ∃ j, Wk vs [x] (j + 1) p := fun x hx => by
          rcases (h3 x hx).2 with rfl | ⟨j, hj⟩
          · exact ⟨0, .step (.zero (List.mem_singleton.mpr rfl)) e⟩
          · exact ⟨j + 1, .step hj e⟩
        have hp : p ∈ ps := hv _ e
        refine ⟨p :: l, List.nodup_cons.mpr ⟨fun hm => ?_, h1⟩, by rw [List.length_cons, h2], fun x hx => ?_⟩
        · obtain ⟨j, hj⟩ := reach p hm
          exact h p hp j hj
        · rcases List.mem_cons.mp hx with rfl | hx
          · exact ⟨hp, .inl rfl⟩
          · exact ⟨(h3 x hx).1, .inr (reach x hx)⟩
  obtain ⟨l, h1, h2, h3⟩ := key k p hw
  have := nodup_sub_len h1 fun x hx => (h3 x hx).1
  omega
theorem not_acy {vs : List Us} {ps : List Str} {p : Str} {k : Nat} (hp : p ∈ ps) (h : Wk vs [p] (k + 1) p) : ∀ n, ∃ q, Wk vs ps n q := by
  have rep : ∀ n, Wk vs [p] (n * (k + 1)) p := fun n => by
    induction n with
    | zero => rw [Nat.zero_mul]; exact .zero (List.mem_singleton.mpr rfl)
    | succ n ih => rw [Nat.add_mul, Nat.one_mul]; exact ih.cat h
  have cut : ∀ (m n : Nat) (q : Str), n ≤ m → Wk vs ps m q → ∃ q, Wk vs ps n q := by
    intro m
    induction m with
    | zero => intro n q hn hw; rw [Nat.le_zero.mp hn]; exact ⟨q, hw⟩
    | succ m ih =>
      intro n q hn hw
      by_cases e : n = m + 1
      · exact ⟨q, e ▸ hw⟩
      · cases hw with
        | step g _ => exact ih n _ (by omega) g
  intro n
  exact cut _ n p (Nat.le_mul_of_pos_right n (Nat.succ_pos k)) ((rep n).from hp)
theorem fE_b {us : List Us} {ps : List Str} (a b : Str) : (a, b) ∈ fE us ps ↔ (b, a) ∈ bE us ps := by
  rw [mem_fE, mem_bE]
  exact ⟨fun ⟨h1, h2, h3⟩ => ⟨h2, h1, h3⟩, fun ⟨h1, h2, h3⟩ => ⟨h2, h1, h3⟩⟩
theorem bE_mem {us : List Us} {ps : List Str} : ∀ u ∈ bE us ps, u.1 ∈ ps ∧ u.2 ∈ ps := fun u hu => ⟨(mem_bE.mp hu).1, (mem_bE.mp hu).2.1⟩
theorem fE_mem {us : List Us} {ps : List Str} : ∀ u ∈ fE us ps, u.1 ∈ ps ∧ u.2 ∈ ps := fun u hu => ⟨(mem_fE.mp hu).1, (mem_fE.mp hu).2.1⟩
/-- how many steps the longest walk to p has -/
structure LvOk (vs : List Us) (ps : List Str) (lv : Str → Nat) : Prop where
  wk : ∀ p ∈ ps, Wk vs ps (lv p) p
  le : ∀ p ∈ ps, ∀ k, Wk vs ps k p → k ≤ lv p
theorem LvOk.same {vs : List Us} {ps : List Str} {l1 l2 : Str → Nat} (h : LvOk vs ps l1) (g : LvOk vs ps l2) : ∀ p ∈ ps, l1 p = l2 p := fun p hp => Nat.le_antisymm (g.le p hp _ (h.wk p hp)) (h.le p hp _ (g.wk p hp))
theorem LvOk.up {vs : List Us} {ps : List Str} {lv : Str → Nat} (h : LvOk vs ps lv) {a b : Str} (ha : a ∈ ps) (hb : b ∈ ps) (e : (a, b) ∈ vs) : lv a + 1 ≤ lv b := h.le b hb _ (.step (h.wk a ha) e)
theorem LvOk.pred {vs : List Us} {ps : List Str} {lv : Str → Nat} (hv : ∀ u ∈ vs, u.1 ∈ ps) (h : LvOk vs ps lv) {b : Str} (hb : b ∈ ps) (h0 : 0 < lv b) : ∃ a ∈ ps, (a, b) ∈ vs ∧ lv a + 1 = lv b := by
  obtain ⟨n, hn⟩ : ∃ n, lv b = n + 1 := ⟨lv b - 1, by omega⟩
  have w := h.wk b hb
  rw [hn] at w
  cases w with
  | step g e =>
    rename_i a
    have ha : a ∈ ps := hv _ e
    refine ⟨a, ha, e, ?_⟩
    have h1 := h.le a ha _ g
    have h2 := h.up ha hb e
    omega
theorem dFor_dc {g : Option Dk} {t : TgF} {body : DTS} {E : DEnds} (I : Nat → Sg → Nat → Prop) (hi : Int) : ∀ (n : Nat) (r : Sg) (f : Nat),
    (∀ i r f (N : Sg → Nat → Prop), i < n → I i r f → (∀ r' f', I (i + 1) r' f' → N r' f') → ∃ l, t (.int (hi - i)) = some l ∧ body g (setsR r l) f { E with nx := N, ct := N, bk := E.nx }) →
    (∀ r f, I n r f → E.nx r f) → I 0 r f → dForGo g t body E (downD hi n) r f := by
  intro n r f hs h0 h
  have hln : (downD hi n).length = n := by unfold downD; simp
  refine dFor_inv (fun rest r f => ∃ i, i ≤ n ∧ rest = (downD hi n).drop i ∧ I i r f) _ _ _ ?_ ?_ ⟨0, Nat.zero_le _, rfl, h⟩
  · rintro d rest r f N ⟨i, hi', hr, hI⟩ hN
    have hlt : i < n := by
      by_cases e : i < n
      · exact e
      · rw [List.drop_of_length_le (by rw [hln]; omega)] at hr
        cases hr
    have hd : (downD hi n)[i]? = some (.int (hi - i)) := by
      unfold downD
      rw [List.getElem?_map, List.getElem?_range hlt]
      rfl
    have hdr : (downD hi n).drop i = .int (hi - i) :: (downD hi n).drop (i + 1) := by
      obtain ⟨h1, h2⟩ := List.getElem?_eq_some_iff.mp hd
      rw [List.drop_eq_getElem_cons h1, h2]
    rw [hdr] at hr
    obtain ⟨rfl, rfl⟩ := List.cons.inj hr
    exact hs i r f N hlt hI fun r' f' h' => hN r' f' ⟨i + 1, by omega, rfl, h'⟩
  · rintro r f ⟨i, hi', hr, hI⟩
    have : i = n := by
      have e := congrArg List.length hr
      rw [List.length_drop, hln] at e
      have : 0 = n - i := e
      omega
    exact h0 r f (this ▸ hI)
/-! lists, one place behind the other -/
def lxLt {α : Type} [DecidableEq α] (le : α → α → Bool) : List α → List α → Bool
  | [], [] => false
  | [], _ :: _ => true
  | _ :: _, [] => false
  | x :: xs, y :: ys => if x = y then lxLt le xs ys else le x y
structure TotLe {α : Type} (le : α → α → Bool) : Prop where
  trans : ∀ a b c, le a b = true → le b c = true → le a c = true
  total : ∀ a b, (le a b || le b a) = true
  anti : ∀ a b, le a b = true → le b a = true → a = b
theorem lx_tri {α : Type} [DecidableEq α] {le : α → α → Bool} (T : TotLe le) : ∀ a b : List α, lxLt le a b = true ∨ a = b ∨ lxLt le b a = true
  | [], [] => .inr (.inl rfl)
  | [], _ :: _ => .inl rfl
  | _ :: _, [] => .inr (.inr rfl)
  | x :: a, y :: b => by
    by_cases e : x = y
    · subst e
      rw [lxLt, lxLt, if_pos rfl, if_pos rfl]
      rcases lx_tri T a b with h | h | h
      · exact .inl h
      · exact .inr (.inl (by rw [h]))
      · exact .inr (.inr h)
    · rw [lxLt, lxLt, if_neg e, if_neg fun z => e z.symm]
      have := T.total x y
      rw [Bool.or_eq_true] at this
      exact this.imp id .inr
/-- the first one: the shortest ahead -/
structure Frst {α : Type} [DecidableEq α] (le : α → α → Bool) (P : List α → Prop) (w : List α) : Prop where
  is : P w
  least : ∀ w', P w' → w.length < w'.length ∨ (w.length = w'.length ∧ lxLt le w' w = false)
theorem Frst.uniq {α : Type} [DecidableEq α] {le : α → α → Bool} (T : TotLe le) {P : List α → Prop} {v w : List α} (h1 : Frst le P v) (h2 : Frst le P w) : v = w := by
  rcases h1.least w h2.is with a | ⟨a, a'⟩
  · rcases h2.least v h1.is with b | ⟨b, _⟩ <;> omega
  · rcases h2.least v h1.is with b | ⟨_, b'⟩
    · omega
    · rcases lx_tri T v w with h | h | h
      · rw [h] at b'; cases b'
      · exact h
      · rw [h] at a'; cases a'
theorem Frst.len {α : Type} [DecidableEq α] {le : α → α → Bool} {P : List α → Prop} {v w : List α} (h : Frst le P v) (hw : P w) : v.length ≤ w.length := by
  rcases h.least w hw with a | ⟨a, _⟩ <;> omega
/-! the order of data, read as an order of lists -/
theorem dataLt_lx {α : Type} [DecidableEq α] {le : α → α → Bool} {em : α → PyData} (h1 : ∀ a b, PySem.W.alike (em a) (em b) = true) (h2 : ∀ a b, PyData.eqv (em a) (em b) = decide (a = b)) (h3 : ∀ a b, a ≠ b → PySem.W.dataLt (em a) (em b) = le a b) :
    ∀ v w : List α, PyProof.Rows.lexLt PyProof.Rows.itemOrd (PySem.W.keyToksAll (v.map em)) (PySem.W.keyToksAll (w.map em)) = lxLt le v w
  | [], [] => PyProof.Rows.lex_irrefl _
  | [], y :: w => by
    rw [List.map_nil, List.map_cons, PySem.W.toks_all_cons]
    simp only [PySem.W.keyToksAll]
    rw [PyProof.Rows.lex_diff (O := PyProof.Rows.itemOrd) (by simp)]
    rfl
  | x :: v, [] => by
    rw [List.map_nil, List.map_cons, PySem.W.toks_all_cons]
    simp only [PySem.W.keyToksAll]
    rw [PyProof.Rows.lex_diff (O := PyProof.Rows.itemOrd) (by simp)]
    rfl
  | x :: v, y :: w => by
    rw [List.map_cons, List.map_cons, lxLt, PySem.W.dataLt_cons (h1 x y), h2, dataLt_lx h1 h2 h3 v w]
    by_cases e : x = y
    · rw [if_pos e, decide_eq_true e, if_pos rfl]
    · rw [if_neg e, decide_eq_false e, if_neg Bool.false_ne_true, h3 _ _ e]
theorem alike_pairP (a b : Us) : PySem.W.alike (pairP a) (pairP b) = true := by simp [pairP, PySem.W.alike, PySem.W.alikeAll]
theorem ltS_ne {x y : Str} (h : x ≠ y) : PySem.W.dataLt (.str x) (.str y) = leS x y := by
  rw [PySem.W.dataLt_str, leS_eq]
  refine decide_eq_decide.mpr ⟨List.le_of_lt, fun q => ?_⟩
  rcases List.le_iff_lt_or_eq.mp q with q | q
  · exact q
  · exact absurd (str_ext q) h
theorem ltP_ne {a b : Us} (h : a ≠ b) : PySem.W.dataLt (pairP a) (pairP b) = leU a b := by
  unfold pairP
  rw [PySem.W.dataLt_pair rfl rfl, leU_eq]
  have e : ∀ x y : Str, PyData.eqv (.str x) (.str y) = decide (x = y) := fun x y => Bool.beq_eq_decide_eq x y
  rw [e, e]
  by_cases h1 : a.1 = b.1
  · have h2 : ¬ a.2 = b.2 := fun z => h (Prod.ext h1 z)
    rw [decide_eq_true h1, if_pos rfl, decide_eq_false h2, if_neg Bool.false_ne_true, if_pos h1.symm, if_neg fun z => h2 z.symm, ltS_ne h2]
  · rw [decide_eq_false h1, if_neg Bool.false_ne_true, if_neg fun z => h1 z.symm, ltS_ne h1]
def tpU (w : List Us) : D := .tup (w.map pairD)
theorem tpU_py (w : List Us) : (tpU w).py = .tuple (w.map pairP) := by
  show PyData.tuple (pyA (w.map pairD)) = _
  rw [pyA_pairs]
theorem ltU (v w : List Us) : PySem.W.dataLt (tpU v).py (tpU w).py = lxLt leU v w := by
  rw [tpU_py, tpU_py, PySem.W.dataLt_tuple]
  exact dataLt_lx alike_pairP eqv_pair (fun a b h => ltP_ne h) v w
theorem alike_all {α : Type} {em : α → PyData} (h1 : ∀ a b, PySem.W.alike (em a) (em b) = true) : ∀ v w : List α, PySem.W.alikeAll (v.map em) (w.map em) = true
  | [], _ => by simp [PySem.W.alikeAll]
  | x :: v, [] => by simp [PySem.W.alikeAll]
  | x :: v, y :: w => by
    simp only [List.map_cons, PySem.W.alikeAll, h1, Bool.true_and]
    exact alike_all h1 v w
theorem tpU_alike (v w : List Us) : PySem.W.alike (tpU v).py (tpU w).py = true := by
  rw [tpU_py, tpU_py]
  simp only [PySem.W.alike]
  exact alike_all alike_pairP v w
theorem tpU_lay {w : List Us} (h : ∀ u ∈ w, ascU u) : (tpU w).py.canLay0 = true := by
  rw [tpU_py]
  exact lay_pairs h
theorem tpU_depth (w : List Us) : (tpU w).py.depth ≤ 2 := by
  rw [tpU_py]
  have := depth_pairs w
  show PyData.depthAll (w.map pairP) + 1 ≤ 2
  omega
/-! rows of a walk and where it leads, sorted -/
abbrev WE := List Us × Str
open Classical in
noncomputable def dO (vs : List Us) (gs : List Str) (m : Str) : Option Nat := if h : ∃ k, Dst vs gs k m then some h.choose else none
theorem dO_some {vs : List Us} {gs : List Str} {m : Str} {k : Nat} : dO vs gs m = some k ↔ Dst vs gs k m := by
  unfold dO
  constructor
  · intro h
    split at h
    · next hc => cases h; exact hc.choose_spec
    · cases h
  · intro h
    have hc : ∃ k, Dst vs gs k m := ⟨k, h⟩
    rw [dif_pos hc]
    exact congrArg some (hc.choose_spec.uniq h)
theorem dO_none {vs : List Us} {gs : List Str} {m : Str} (h : ∀ k, ¬ Wk vs gs k m) : dO vs gs m = none := by
  cases e : dO vs gs m with
  | none => rfl
  | some k => exact absurd (dO_some.mp e).1 (h k)
/-- steps, as a dict says them -/
structure Stps (vs : List Us) (gs : List Str) (fk : List Str) (dist : Str → Nat) : Prop where
  nd : fk.Nodup
  mem : ∀ m, m ∈ fk ↔ ∃ k, Wk vs gs k m
  ds : ∀ m ∈ fk, Dst vs gs (dist m) m
def stpT (fk : List Str) (dist : Str → Nat) : D := .dct (fk.map Sum.inr) (fk.map fun m => .int (dist m))
theorem Stps.dO {vs : List Us} {gs : List Str} {fk : List Str} {dist : Str → Nat} (h : Stps vs gs fk dist) (m : Str) : (m ∈ fk ∧ dO vs gs m = some (dist m)) ∨ (m ∉ fk ∧ dO vs gs m = none) := by
  by_cases c : m ∈ fk
  · exact .inl ⟨c, dO_some.mpr (h.ds m c)⟩
  · exact .inr ⟨c, dO_none fun k hw => c ((h.mem m).mpr ⟨k, hw⟩)⟩
theorem lookD_out {f : Str → D} {m : Str} {ms : List Str} (h : m ∉ ms) : lookD (ms.map Sum.inr) (ms.map f) (.inr m) = none := by
  induction ms with
  | nil => rfl
  | cons x ms ih =>
    have hx : x ≠ m := fun e => h (by simp [e])
    have := ih fun z => h (by simp [z])
    unfold lookD at this ⊢
    simp only [List.map_cons, List.zip_cons_cons, List.find?_cons]
    have e : decide ((Sum.inr x : Key) = Sum.inr m) = false := decide_eq_false fun z => hx (by injection z)
    rw [e]
    exact this
noncomputable def nB (us : List Us) (ps : List Str) (s here : Str) (left : Nat) (u : Us) : Bool := match ps.find? (fun p => cov p u.1), ps.find? (fun p => cov p u.2) with
  | some a, some b => decide (a = here) && (decide (b ≠ here) && decide (dO (bE us ps) [s] b = some left))
  | _, _ => false
def homeS (ps : List Str) (x : Str) : Str := (ps.find? (fun p => cov p x)).getD ""
noncomputable def evU (us : List Us) (ps : List Str) (s : Str) : Nat → Str → List Us
  | 0, _ => []
  | n + 1, here => match (sortU us).find? (nB us ps s here n) with
    | some u => u :: evU us ps s n (homeS ps u.2)
    | none => []
theorem find_cov' (ps : List Str) (x : Str) : (∃ p, ps.find? (fun p => cov p x) = some p ∧ covd ps x = .str p ∧ p ∈ ps ∧ cov p x = true) ∨ (ps.find? (fun p => cov p x) = none ∧ covd ps x = .none) := by
  unfold covd
  cases e : ps.find? fun p => cov p x with
  | none => exact .inr ⟨rfl, rfl⟩
  | some p => exact .inl ⟨p, rfl, rfl, List.mem_of_find?_eq_some e, List.find?_some (p := fun p => cov p x) e⟩
theorem find_own {ps : List Str} (hp : PVm ps) {p x : Str} (h1 : p ∈ ps) (h2 : cov p x = true) : ps.find? (fun p => cov p x) = some p := by
  cases e : ps.find? fun p => cov p x with
  | none => exact absurd h2 (by simpa using List.find?_eq_none.mp e p h1)
  | some q => rw [cov_one hp (List.mem_of_find?_eq_some e) h1 (List.find?_some (p := fun p => cov p x) e) h2]
/-- an edge has a use -/
theorem cnt_use {us : List Us} {a b : Str} (h : 0 < cnt us (a, b)) : a ≠ b ∧ ∃ u ∈ us, cov a u.1 = true ∧ cov b u.2 = true := by
  unfold cnt at h
  split at h
  · cases h
  · next ne =>
    obtain ⟨u, hu⟩ := List.length_pos_iff_exists_mem.mp h
    obtain ⟨h1, h2⟩ := List.mem_filter.mp hu
    obtain ⟨h3, h4⟩ := Bool.and_eq_true_iff.mp h2
    exact ⟨ne, u, h1, h3, h4⟩
theorem use_cnt {us : List Us} {a b : Str} {u : Us} (ne : a ≠ b) (hu : u ∈ us) (h1 : cov a u.1 = true) (h2 : cov b u.2 = true) : 0 < cnt us (a, b) := by
  unfold cnt
  rw [if_neg ne]
  exact List.length_pos_iff_exists_mem.mpr ⟨u, List.mem_filter.mpr ⟨hu, Bool.and_eq_true_iff.mpr ⟨h1, h2⟩⟩⟩
theorem nB_ex {us : List Us} {ps : List Str} (hp : PVm ps) {s here b : Str} {left : Nat} (h1 : here ∈ ps) (h2 : b ∈ ps) (h3 : 0 < cnt us (here, b)) (h4 : dO (bE us ps) [s] b = some left) : ∃ u, (sortU us).find? (nB us ps s here left) = some u := by
  obtain ⟨ne, u, hu, c1, c2⟩ := cnt_use h3
  have : nB us ps s here left u = true := by
    unfold nB
    rw [find_own hp h1 c1, find_own hp h2 c2]
    show (decide (here = here) && (decide (b ≠ here) && decide (dO (bE us ps) [s] b = some left))) = true
    rw [decide_eq_true rfl, decide_eq_true (Ne.symm ne), decide_eq_true h4]
    rfl
  cases e : (sortU us).find? (nB us ps s here left) with
  | some v => exact ⟨v, rfl⟩
  | none => exact absurd this (by simpa using List.find?_eq_none.mp e u ((sortU_perm us).mem_iff.mpr hu))
/-- what the next use leads to -/
theorem nB_to {us : List Us} {ps : List Str} {s here : Str} {left : Nat} {u : Us} (h : (sortU us).find? (nB us ps s here left) = some u) :
    u ∈ us ∧ ∃ b, b ∈ ps ∧ ps.find? (fun p => cov p u.1) = some here ∧ ps.find? (fun p => cov p u.2) = some b ∧ covd ps u.1 = .str here ∧ covd ps u.2 = .str b ∧ homeS ps u.2 = b ∧ b ≠ here ∧ Dst (bE us ps) [s] left b := by
  have hn : nB us ps s here left u = true := List.find?_some h
  refine ⟨(sortU_perm us).mem_iff.mp (List.mem_of_find?_eq_some h), ?_⟩
  unfold nB at hn
  rcases find_cov' ps u.1 with ⟨a, e1, e1', _⟩ | ⟨e1, _⟩
  · rcases find_cov' ps u.2 with ⟨b, e2, e2', m2, _⟩ | ⟨e2, _⟩
    · rw [e1, e2] at hn
      have hn : (decide (a = here) && (decide (b ≠ here) && decide (dO (bE us ps) [s] b = some left))) = true := hn
      simp only [Bool.and_eq_true, decide_eq_true_iff] at hn
      obtain ⟨rfl, h2, h3⟩ := hn
      exact ⟨b, m2, e1, e2, e1', e2', by unfold homeS; rw [e2]; rfl, h2, dO_some.mp h3⟩
    · rw [e1, e2] at hn; cases hn
  · rw [e1] at hn; cases hn
theorem nB_next {us : List Us} {ps : List Str} {s b : Str} {n : Nat} (h : Dst (bE us ps) [s] (n + 1) b) : ∃ c ∈ ps, 0 < cnt us (b, c) ∧ dO (bE us ps) [s] c = some n := by
  obtain ⟨c, h1, h2⟩ := h.pred
  obtain ⟨h3, _, h4⟩ := mem_bE.mp h2
  exact ⟨c, h3, h4, dO_some.mpr h1⟩
/-! ring_from -/
theorem sc_ring_from : FnScope ["program", "owners", "steps", "start", "many", "found", "here", "left", "own", "use"] ["program", "owners", "steps", "start", "many"] (defScope s_ring_from) := ⟨rfl, rfl, rfl, by decide +kernel, rfl, by decide +kernel, by decide +kernel⟩
def Sp_ring_from : DSp := fun _ ds f Q => ∃ (ms : List Str) (us : List Us) (ks ps fk : List Str) (dist : Str → Nat) (s : Str) (M : Nat), ds = [prgD ms us ks, ownT (sortS ms) ps, stpT fk dist, .str s, .int ((M : Int) + 1)] ∧ PVm ms ∧ PVu ms us ∧ PVm ps ∧ s ∈ ps ∧
  Stps (bE us ps) [s] fk dist ∧ M ≤ 100 ∧ (∃ b ∈ ps, 0 < cnt us (s, b) ∧ dO (bE us ps) [s] b = some M) ∧ Q (tpU (evU us ps s (M + 1) s)) f
set_option maxHeartbeats 2000000 in
theorem ok_ring_from (d : Df K mg "ring_from" s_ring_from) (m_tuple : mg "tuple" = none) (m_range : mg "range" = none) (c_Program_uses : CalP P w K mg base 1 "Program" "uses" ["self"] Sp_Program_uses) : Cal P w K mg base 3 "ring_from" ["program", "owners", "steps", "start", "many"] Sp_ring_from := by
  obtain ⟨f, fd, F, m⟩ := d
  refine ⟨f, fd, dfn (k := 2) (S := Sp_ring_from) F sc_ring_from ?len (fun cdv A outer s H E hr => (dss_cons (ds_setL false (i := 5) sc_ring_from.nd (dl_lst da_nil))
      (dss_cons (ds_set false (i := 6) sc_ring_from.nd (de_v 3))
      (dss_cons (ds_for [] PassesOwn.never (di_rangeD m_range (da_cons (de_sub (de_v 4) de_int) (da_cons (de_neg de_int) (da_cons (de_neg de_int) da_nil)))) (dg_name (i := 7) sc_ring_from.nd) (dss_cons (ds_setLc (i := 8) (own := [("use", 9)]) sc_ring_from.nd (di_seq (de_prop c_Program_uses (hr.mono (by decide)) (de_v 0))) (blkOk_by (own := [("use", 9)]) (N := ["program", "owners", "steps", "start", "many", "found", "here", "left", "own", "use"]) (sc := defScope s_ring_from) (by decide +kernel)) (fun _ _ _ _ _ => dg_name (i := 9) sc_ring_from.nd) (fun _ _ _ _ _ => dts_one (DW.p (dw_and (dp_eq hr.units (de_dget hr (de_v 1) (de_ix (de_v 9) de_int)) (de_v 6)) (dw_and1 (dp_notN (de_dget hr (de_v 1) (de_ix (de_v 9) de_int)) de_non))))) (fun _ _ _ _ _ => (de_v 9)) (fun _ _ _ h => snd_set (m := false) (i := 8) h.e))
      (dss_cons (ds_set false (i := 9) sc_ring_from.nd (de_ix (dl_lc (own := [("use", 9)]) rfl sc_ring_from.nd (di_seq (de_v 8)) (blkOk_by (own := [("use", 9)]) (N := ["program", "owners", "steps", "start", "many", "found", "here", "left", "own", "use"]) (sc := defScope s_ring_from) (by decide +kernel)) (fun _ _ _ _ _ => dg_name (i := 9) sc_ring_from.nd) (fun _ _ _ _ _ => dts_one (DW.p (dw_and (dp_ne hr.units (de_dget hr (de_v 1) (de_ix (de_v 9) de_int)) (de_v 6)) (dw_and1 (dp_eq hr.units (de_dget2 hr (de_v 2) (de_dget hr (de_v 1) (de_ix (de_v 9) de_int)) (de_neg de_int)) (de_v 7)))))) (fun _ _ _ _ _ => (de_v 9))).e de_int))
      (dss_cons (ds_app false (i := 5) (de_v 9))
      (dss_one (ds_set false (i := 6) sc_ring_from.nd (de_dget hr (de_v 1) (de_ix (de_v 9) de_int))))))))
      (dss_one (ds_ret (de_callTy call_tuple_of sc_tuple (by rfl) m_tuple (by decide +kernel) (da_cons (de_v 5) da_nil)))))))) ?h, F.kp, F.binds fun _ _ _ _ _ _ us hl => match us, hl with | [_, _, _, _, _], _ => rfl, m⟩
  case len =>
    intro g ds n Q h; obtain ⟨_, _, _, _, _, _, _, _, rfl, _⟩ := h; rfl
  case h =>
    intro g ds n Q h
    obtain ⟨ms, us, ks, ps, fk, dist, s, M, rfl, hm, hu, hp, hs, hS, hM, hex, q⟩ := h
    refine ⟨Nat.zero_le _, rfl, ⟨by omega, by omega, by omega, by omega⟩, ?_⟩
    have e1 : ((M : Int) + 1 - 1 - -1).toNat = M + 1 := by omega
    rw [e1]
    have hul := hu.len
    have hsl : (sortU us).length = us.length := (sortU_perm us).length_eq
    have mm : ∀ u ∈ sortU us, u.1 ∈ sortS ms ∧ u.2 ∈ sortS ms := fun u hu' => by
      obtain ⟨h1, h2, _⟩ := hu.mem u ((sortU_perm us).mem_iff.mp hu')
      exact ⟨(sortS_perm ms).mem_iff.mpr h1, (sortS_perm ms).mem_iff.mpr h2⟩
    refine dFor_dc (fun i r f => f = n ∧ ∃ (L : List Us) (here : Str) (a b c : Sl), r = [.sh (prgD ms us ks), .sh (ownT (sortS ms) ps), .sh (stpT fk dist), .sh (.str s), .sh (.int ((M : Int) + 1)), .ow (L.map pairD), .sh (.str here), a, b, c] ∧ L.length ≤ i ∧ here ∈ ps ∧
      (i ≤ M → ∃ b ∈ ps, 0 < cnt us (here, b) ∧ dO (bE us ps) [s] b = some (M - i)) ∧ L ++ evU us ps s (M + 1 - i) here = evU us ps s (M + 1) s) _ (M + 1) _ _ ?_ ?_ ⟨rfl, [], s, _, _, _, rfl, Nat.le_refl _, hs, fun _ => hex, rfl⟩
    · rintro i r f N hi ⟨rfl, L, here, a, b, c, rfl, hL, hh, hx, he⟩ hN
      obtain ⟨d, hd, hc, hdo⟩ := hx (by omega)
      obtain ⟨u, hu1⟩ := nB_ex hp hh hd hc hdo
      obtain ⟨hum, b', hb', f1, f2, c1, c2, hb2, hne, hD⟩ := nB_to hu1
      refine ⟨_, rfl, rfl, ms, us, ks, rfl, by rw [List.length_map]; exact L1 (by omega), ?_⟩
      have el : (M : Int) + 1 - 1 - (i : Int) = ((M - i : Nat) : Int) := by omega
      rw [el]
      refine lcF pairD (fun u => match ps.find? (fun p => cov p u.1), ps.find? (fun p => cov p u.2) with | some a, some _ => decide (a = here) | _, _ => false) (sortU us) _ (fun v hv => ⟨_, rfl, fun f Q h => ?_, fun _ f Q h => h⟩) ?_
      · obtain ⟨s1, s2⟩ := mm v hv
        refine ⟨_, atI0, .inr v.1, _, rfl, look_map s1, ?_⟩
        rcases find_cov' ps v.1 with ⟨p1, e1, e1', _⟩ | ⟨e1, e1'⟩
        · rw [e1] at h
          rw [e1']
          show if decide (p1 = here) = true then _ else _
          by_cases ep : p1 = here
          · rw [decide_eq_true ep]
            refine iteT ⟨_, atI_nat (j := 1) rfl, .inr v.2, _, rfl, look_map s2, ?_⟩
            rcases find_cov' ps v.2 with ⟨p2, e2, e2', _⟩ | ⟨e2, e2'⟩
            · rw [e2] at h
              rw [e2']
              have h : Q (decide (p1 = here)) f := h
              rw [decide_eq_true ep] at h
              exact h
            · rw [e2] at h
              rw [e2']
              exact h
          · rw [decide_eq_false ep]
            refine iteF ?_
            rcases find_cov' ps v.2 with ⟨p2, e2, e2', _⟩ | ⟨e2, e2'⟩
            · rw [e2] at h
              have h : Q (decide (p1 = here)) f := h
              rw [decide_eq_false ep] at h
              exact h
            · rw [e2] at h
              exact h
        · rw [e1] at h
          rw [e1']
          exact h
      simp only [List.set_cons_succ, List.set_cons_zero, setsR, startR, List.map_cons, List.map_nil, List.cons_append, List.nil_append, List.replicate_succ, List.replicate_zero, List.length_cons, List.length_nil, Nat.reduceAdd, Nat.reduceSub]
      generalize hown : (sortU us).filter (fun u => match ps.find? (fun p => cov p u.1), ps.find? (fun p => cov p u.2) with | some a, some _ => decide (a = here) | _, _ => false) = own
      have hol : own.length ≤ 200 := by rw [← hown]; exact Nat.le_trans (List.length_filter_le _ _) (by omega)
      have homem : ∀ v ∈ own, v ∈ sortU us ∧ ∃ p2, covd ps v.2 = .str p2 ∧ ps.find? (fun p => cov p v.2) = some p2 ∧ ps.find? (fun p => cov p v.1) = some here := fun v hv => by
        rw [← hown] at hv
        obtain ⟨h1, h2⟩ := List.mem_filter.mp hv
        refine ⟨h1, ?_⟩
        rcases find_cov' ps v.1 with ⟨p1, e1, e1', _⟩ | ⟨e1, e1'⟩
        · rcases find_cov' ps v.2 with ⟨p2, e2, e2', _⟩ | ⟨e2, e2'⟩
          · rw [e1, e2] at h2
            have h2 : decide (p1 = here) = true := h2
            exact ⟨p2, e2', e2, by rw [e1, of_decide_eq_true h2]⟩
          · rw [e1, e2] at h2; cases h2
        · rw [e1] at h2; cases h2
      refine ⟨by rw [List.length_map]; exact L1 (by omega), ?_⟩
      refine lcF pairD (nB us ps s here (M - i)) own _ (fun v hv => ⟨_, rfl, fun f Q h => ?_, fun _ f Q h => h⟩) ?_
      · obtain ⟨hv1, p2, e2', e2, e1⟩ := homem v hv
        obtain ⟨s1, s2⟩ := mm v hv1
        have l2 : lookD ((sortS ms).map Sum.inr) ((sortS ms).map (covd ps)) (.inr v.2) = some (.str p2) := by rw [look_map s2, e2']
        unfold nB at h
        rw [e1, e2] at h
        have h : Q (decide (here = here) && (decide (p2 ≠ here) && decide (dO (bE us ps) [s] p2 = some (M - i)))) f := h
        rw [decide_eq_true rfl, Bool.true_and] at h
        refine ⟨_, atI_nat (j := 1) rfl, .inr v.2, _, rfl, l2, ?_⟩
        show if (!decide (p2 = here)) = true then _ else _
        by_cases ep : p2 = here
        · rw [decide_eq_true ep]
          rw [decide_eq_false (fun z => z ep)] at h
          exact iteF h
        · rw [decide_eq_false ep]
          rw [decide_eq_true ep, Bool.true_and] at h
          refine iteT ⟨_, atI_nat (j := 1) rfl, .inr v.2, _, rfl, l2, .inr p2, rfl, ?_⟩
          rcases hS.dO p2 with ⟨m1, m2⟩ | ⟨m1, m2⟩
          · rw [look_map m1]
            rw [m2] at h
            show Q (decide (((dist p2 : Nat) : Int) = ((M - i : Nat) : Int))) f
            rw [show decide (((dist p2 : Nat) : Int) = ((M - i : Nat) : Int)) = decide (some (dist p2) = some (M - i)) from decide_eq_decide.mpr ⟨fun e => congrArg some (by omega), fun e => by injection e with e; omega⟩]
            exact h
          · rw [lookD_out m1]
            rw [m2] at h
            show Q (decide ((-1 : Int) = ((M - i : Nat) : Int))) f
            rw [decide_eq_false (by omega)]
            rw [decide_eq_false (fun e => nomatch e)] at h
            exact h
      · have hf : own.filter (nB us ps s here (M - i)) = (sortU us).filter (nB us ps s here (M - i)) := by
          rw [← hown, List.filter_filter]
          refine List.filter_congr fun v _ => ?_
          unfold nB
          cases ps.find? fun p => cov p v.1 with
          | none => rfl
          | some a =>
            cases ps.find? fun p => cov p v.2 with
            | none => rfl
            | some b =>
              show ((decide (a = here) && (decide (b ≠ here) && decide (dO (bE us ps) [s] b = some (M - i)))) && decide (a = here)) = (decide (a = here) && (decide (b ≠ here) && decide (dO (bE us ps) [s] b = some (M - i))))
              by_cases ea : a = here
              · rw [decide_eq_true ea, Bool.and_true]
              · rw [decide_eq_false ea, Bool.false_and, Bool.false_and]
        rw [hf]
        have hh0 : ((sortU us).filter (nB us ps s here (M - i))).head? = some u := by rw [List.head?_filter]; exact hu1
        obtain ⟨tl, htl⟩ : ∃ tl, (sortU us).filter (nB us ps s here (M - i)) = u :: tl := by
          cases hfl : (sortU us).filter (nB us ps s here (M - i)) with
          | nil => rw [hfl] at hh0; cases hh0
          | cons x tl => rw [hfl] at hh0; cases hh0; exact ⟨tl, rfl⟩
        rw [htl]
        refine ⟨_, atI0, ?_⟩
        simp only [List.set_cons_succ, List.set_cons_zero, setsR, startR, List.map_cons, List.map_nil, List.cons_append, List.nil_append, List.replicate_succ, List.replicate_zero, List.length_cons, List.length_nil, Nat.reduceAdd, Nat.reduceSub]
        obtain ⟨s1, s2⟩ := mm u ((sortU_perm us).mem_iff.mpr hum)
        refine ⟨L.map pairD, rfl, by rw [List.length_map]; exact L1 (by omega), ?_⟩
        simp only [List.set_cons_succ, List.set_cons_zero, setsR, startR, List.map_cons, List.map_nil, List.cons_append, List.nil_append, List.replicate_succ, List.replicate_zero, List.length_cons, List.length_nil, Nat.reduceAdd, Nat.reduceSub]
        have l2 : lookD ((sortS ms).map Sum.inr) ((sortS ms).map (covd ps)) (.inr u.2) = some (.str b') := by rw [look_map s2, c2]
        refine ⟨_, atI_nat (j := 1) rfl, .inr u.2, _, rfl, l2, ?_⟩
        refine hN _ _ ⟨rfl, L ++ [u], b', _, _, _, by rw [List.map_append]; rfl, by rw [List.length_append]; show _ + 1 ≤ _; omega, hb', fun hi2 => ?_, ?_⟩
        · rw [show M - i = (M - (i + 1)) + 1 by omega] at hD
          exact nB_next hD
        · rw [← he, show M + 1 - i = (M - i) + 1 by omega]
          show _ = L ++ (match (sortU us).find? (nB us ps s here (M - i)) with | some u => u :: evU us ps s (M - i) (homeS ps u.2) | none => [])
          rw [hu1]
          dsimp only
          rw [hb2, show M + 1 - (i + 1) = M - i by omega, List.append_assoc]
          rfl
    · rintro r f ⟨rfl, L, here, a, b, c, rfl, hL, hh, hx, he⟩
      rw [Nat.sub_self] at he
      have he : L = evU us ps s (M + 1) s := by rw [← he]; exact (List.append_nil L).symm
      rw [he]
      exact q
/-! the first of some rows of uses -/
theorem lkey_tpU (w : List Us) : lkey (tpU w).py = .tuple [.int w.length, (tpU w).py] := by
  unfold lkey
  rw [tpU_py]
  show PyData.tuple [.int ((w.map pairP).length), _] = _
  rw [List.length_map]
theorem lkey_lt (v w : List Us) : PySem.W.dataLt (lkey (tpU v).py) (lkey (tpU w).py) = if v.length = w.length then lxLt leU v w else decide (v.length < w.length) := by
  rw [lkey_tpU, lkey_tpU, PySem.W.dataLt_pair rfl (tpU_alike v w), ltU]
  have e1 : PyData.eqv (.int (v.length : Int)) (.int w.length) = decide (v.length = w.length) := by
    show decide ((v.length : Int) = w.length) = _
    exact decide_eq_decide.mpr ⟨fun h => by omega, fun h => by omega⟩
  rw [e1]
  by_cases h : v.length = w.length
  · rw [decide_eq_true h, if_pos rfl, if_pos h]
    split
    · next e =>
      have e := (PySem.W.toks_eqv _ _ (tpU_alike v w)).1 e
      rw [← ltU]
      show false = PyProof.Rows.lexLt PyProof.Rows.itemOrd (PySem.W.keyToks (tpU v).py) (PySem.W.keyToks (tpU w).py)
      rw [e]
      exact (PyProof.Rows.lex_irrefl _).symm
    · rfl
  · rw [decide_eq_false h, if_neg Bool.false_ne_true, if_neg h, PySem.W.dataLt_int]
    exact decide_eq_decide.mpr ⟨fun h => by omega, fun h => by omega⟩
/-- the fewest steps from what s rests on back to s -/
def Mn (us : List Us) (ps : List Str) (s : Str) (M : Nat) : Prop := (∃ b ∈ rst us ps s, dO (bE us ps) [s] b = some M) ∧ ∀ b ∈ rst us ps s, ∀ k, dO (bE us ps) [s] b = some k → M ≤ k
theorem Mn.uniq {us : List Us} {ps : List Str} {s : Str} {M N : Nat} (h : Mn us ps s M) (g : Mn us ps s N) : M = N := by
  obtain ⟨⟨b, h1, h2⟩, h3⟩ := h
  obtain ⟨⟨c, g1, g2⟩, g3⟩ := g
  exact Nat.le_antisymm (h3 c g1 N g2) (g3 b h1 M h2)
theorem mn_ex {us : List Us} {ps : List Str} {s : Str} : ∀ (k : Nat) (b : Str), b ∈ rst us ps s → dO (bE us ps) [s] b = some k → ∃ M, Mn us ps s M := fun k => by
  induction k using Nat.strongRecOn with
  | _ k ih =>
    intro b hb hk
    by_cases c : ∃ c ∈ rst us ps s, ∃ j, j < k ∧ dO (bE us ps) [s] c = some j
    · obtain ⟨c, h1, j, h2, h3⟩ := c
      exact ih j h2 c h1 h3
    · refine ⟨k, ⟨b, hb, hk⟩, fun c' h1 j h2 => ?_⟩
      apply Classical.byContradiction
      intro z
      exact c ⟨c', h1, j, by omega, h2⟩
open Classical in
noncomputable def mnO (us : List Us) (ps : List Str) (s : Str) : Option Nat := if h : ∃ M, Mn us ps s M then some h.choose else none
theorem mnO_some {us : List Us} {ps : List Str} {s : Str} {M : Nat} : mnO us ps s = some M ↔ Mn us ps s M := by
  unfold mnO
  constructor
  · intro h
    split at h
    · next hc => cases h; exact hc.choose_spec
    · cases h
  · intro h
    have hc : ∃ M, Mn us ps s M := ⟨M, h⟩
    rw [dif_pos hc]
    exact congrArg some (hc.choose_spec.uniq h)
theorem mnO_none {us : List Us} {ps : List Str} {s : Str} (h : ∀ b ∈ rst us ps s, dO (bE us ps) [s] b = none) : mnO us ps s = none := by
  cases e : mnO us ps s with
  | none => rfl
  | some M =>
    obtain ⟨⟨b, h1, h2⟩, _⟩ := mnO_some.mp e
    rw [h b h1] at h2
    cases h2
theorem Mn.lt {us : List Us} {ps : List Str} {s : Str} {M : Nat} (hs : s ∈ ps) (h : Mn us ps s M) : M < ps.length := by
  obtain ⟨⟨b, h1, h2⟩, _⟩ := h
  exact (dO_some.mp h2).lt (fun g hg => by rw [List.mem_singleton.mp hg]; exact hs) fun u hu => (bE_mem u hu).2
theorem mnO_cyc {us : List Us} {ps : List Str} {s : Str} (hs : s ∈ ps) : mnO us ps s = none ↔ ∀ k, ¬ Wk (bE us ps) [s] (k + 1) s := by
  constructor
  · intro h k hw
    cases hw with
    | step g e =>
      rename_i b
      obtain ⟨m1, m2, m3⟩ := mem_bE.mp e
      obtain ⟨j, _, hj⟩ := g.dst
      obtain ⟨M, hM⟩ := mn_ex j b (mem_rst.mpr ⟨m1, m3⟩) (dO_some.mpr hj)
      rw [mnO_some.mpr hM] at h
      cases h
  · intro h
    refine mnO_none fun b hb => dO_none fun k hw => ?_
    obtain ⟨h1, h2⟩ := mem_rst.mp hb
    exact h k (.step hw (mem_bE.mpr ⟨h1, hs, h2⟩))
def ltE (v w : List Us) : Bool := if v.length = w.length then lxLt leU v w else decide (v.length < w.length)
theorem ltE_ok {v w : List Us} {Q : D → Prop} (hv : ∀ u ∈ v, ascU u) (hw : ∀ u ∈ w, ascU u) (h : Q (.bool (ltE v w))) : oLtDt (.tup [.int ((v.map pairD).length : Nat), tpU v]) (.tup [.int ((w.map pairD).length : Nat), tpU w]) Q := by
  have ky : ∀ x : List Us, (D.tup [.int ((x.map pairD).length : Nat), tpU x]).py = lkey (tpU x).py := fun x => by
    rw [lkey_tpU]
    show PyData.tuple [.int ((x.map pairD).length : Nat), (tpU x).py] = _
    rw [List.length_map]
  have ll : ∀ x : List Us, (∀ u ∈ x, ascU u) → (D.tup [.int ((x.map pairD).length : Nat), tpU x]).py.canLay0 = true := fun x h => by
    show (true && ((tpU x).py.canLay0 && true)) = true
    rw [tpU_lay h]; rfl
  have al : PySem.W.alike (D.tup [.int ((v.map pairD).length : Nat), tpU v]).py (D.tup [.int ((w.map pairD).length : Nat), tpU w]).py = true := by
    show PySem.W.alikeAll [.int ((v.map pairD).length : Nat), (tpU v).py] [.int ((w.map pairD).length : Nat), (tpU w).py] = true
    simp only [PySem.W.alikeAll, PySem.W.alike, Bool.and_true]
    exact tpU_alike v w
  refine ⟨ll v hv, ll w hw, al, (fun z => by cases z), ?_, ?_⟩
  · show max 0 (max (tpU v).py.depth 0) + 1 ≤ 60
    have := tpU_depth v
    omega
  · rw [ky, ky, lkey_lt]
    exact h
theorem evU_mem {us : List Us} {ps : List Str} {s : Str} : ∀ (n : Nat) (here : Str), ∀ u ∈ evU us ps s n here, u ∈ us
  | 0, _, u, h => nomatch h
  | n + 1, here, u, h => by
    unfold evU at h
    split at h
    · next v e =>
      rcases List.mem_cons.mp h with rfl | h
      · exact (sortU_perm us).mem_iff.mp (List.mem_of_find?_eq_some e)
      · exact evU_mem n _ u h
    · cases h
theorem evU_len {us : List Us} {ps : List Str} {s : Str} : ∀ (n : Nat) (here : Str), (evU us ps s n here).length ≤ n
  | 0, _ => Nat.le_refl _
  | n + 1, here => by
    unfold evU
    split
    · next v e =>
      have := evU_len n (us := us) (ps := ps) (s := s) (homeS ps v.2)
      rw [List.length_cons]
      omega
    · exact Nat.zero_le _
noncomputable def frB (us : List Us) (ps : List Str) (best : Option (List Us)) (s : Str) : Option (List Us) := match mnO us ps s with
  | none => best
  | some M => match best with
    | none => some (evU us ps s (M + 1) s)
    | some w => if M + 1 ≤ w.length then (if ltE (evU us ps s (M + 1) s) w = true then some (evU us ps s (M + 1) s) else some w) else some w
noncomputable def frR (us : List Us) (ps : List Str) : Option (List Us) := ps.foldl (frB us ps) none
def optU : Option (List Us) → D
  | none => .none
  | some w => tpU w
theorem frB_some {us : List Us} {ps : List Str} {w : List Us} {s : Str} : ∃ v, frB us ps (some w) s = some v := by
  unfold frB
  cases mnO us ps s with
  | none => exact ⟨w, rfl⟩
  | some M =>
    dsimp only
    split
    · split
      · exact ⟨_, rfl⟩
      · exact ⟨w, rfl⟩
    · exact ⟨w, rfl⟩
theorem fr_some {us : List Us} {ps : List Str} : ∀ (l : List Str) (w : List Us), ∃ v, l.foldl (frB us ps) (some w) = some v
  | [], w => ⟨w, rfl⟩
  | s :: l, w => by
    obtain ⟨v, e⟩ := frB_some (us := us) (ps := ps) (w := w) (s := s)
    rw [List.foldl_cons, e]
    exact fr_some l v
theorem fr_none {us : List Us} {ps : List Str} : ∀ (l : List Str), l.foldl (frB us ps) none = none ↔ ∀ s ∈ l, mnO us ps s = none
  | [] => ⟨(fun _ _ h => nomatch h), fun _ => rfl⟩
  | s :: l => by
    rw [List.foldl_cons]
    have e : frB us ps none s = match mnO us ps s with | none => none | some M => some (evU us ps s (M + 1) s) := by
      unfold frB
      cases mnO us ps s <;> rfl
    cases h : mnO us ps s with
    | none =>
      rw [h] at e
      rw [e]
      rw [fr_none l]
      exact ⟨fun q x hx => (List.mem_cons.mp hx).elim (fun e => by rw [e]; exact h) (q x), fun q x hx => q x (List.mem_cons_of_mem _ hx)⟩
    | some M =>
      rw [h] at e
      rw [e]
      obtain ⟨v, ev⟩ := fr_some (us := us) (ps := ps) l (evU us ps s (M + 1) s)
      dsimp only
      rw [ev]
      exact ⟨(fun z => nomatch z), fun q => by have := q s (by simp); rw [h] at this; cases this⟩
theorem frR_acy {us : List Us} {ps : List Str} : frR us ps = none ↔ Acy (bE us ps) ps := by
  unfold frR
  rw [fr_none]
  exact ⟨fun h p hp => (mnO_cyc hp).mp (h p hp), fun h p hp => (mnO_cyc hp).mpr (h p hp)⟩
theorem frB_mem {us : List Us} {ps : List Str} {best : Option (List Us)} {s : Str} (h : ∀ w, best = some w → w.length ≤ 1000 ∧ ∀ u ∈ w, u ∈ us) (hl : ps.length ≤ 24) (hs : s ∈ ps) : ∀ w, frB us ps best s = some w → w.length ≤ 1000 ∧ ∀ u ∈ w, u ∈ us := by
  intro w hw
  unfold frB at hw
  cases hm : mnO us ps s with
  | none => rw [hm] at hw; exact h w hw
  | some M =>
    rw [hm] at hw
    dsimp only at hw
    have hM := (mnO_some.mp hm).lt hs
    have ok : (evU us ps s (M + 1) s).length ≤ 1000 ∧ ∀ u ∈ evU us ps s (M + 1) s, u ∈ us := ⟨Nat.le_trans (evU_len _ _) (by omega), evU_mem _ _⟩
    cases best with
    | none => cases hw; exact ok
    | some v =>
      dsimp only at hw
      split at hw
      · split at hw
        · cases hw; exact ok
        · exact h w hw
      · exact h w hw
/-- relaxing along edges, turn by turn -/
structure RX (vs : List Us) (ps : List Str) (t : Nat) (pl : Str → Nat) : Prop where
  wk : ∀ p ∈ ps, Wk vs ps (pl p) p
  le : ∀ p ∈ ps, ∀ k, k ≤ t → Wk vs ps k p → k ≤ pl p
/-- within a turn -/
structure RY (vs : List Us) (ps : List Str) (p0 : Str → Nat) (es : Str → Str → Prop) (pl : Str → Nat) : Prop where
  wk : ∀ p ∈ ps, Wk vs ps (pl p) p
  up : ∀ p ∈ ps, p0 p ≤ pl p
  dn : ∀ a b, es a b → p0 a + 1 ≤ pl b
def relx (pl : Str → Nat) (a b : Str) (p : Str) : Nat := if p = b then (if pl a + 1 > pl b then pl a + 1 else pl b) else pl p
theorem relx_le (pl : Str → Nat) (a b p : Str) : pl p ≤ relx pl a b p := by
  unfold relx
  split
  · next e => subst e; split <;> omega
  · exact Nat.le_refl _
theorem RX.zero {vs : List Us} {ps : List Str} : RX vs ps 0 fun _ => 0 := ⟨fun p hp => .zero hp, fun p hp k hk _ => hk⟩
theorem RX.turn {vs : List Us} {ps : List Str} {t : Nat} {pl : Str → Nat} (h : RX vs ps t pl) : RY vs ps pl (fun _ _ => False) pl := ⟨h.wk, fun _ _ => Nat.le_refl _, fun _ _ z => z.elim⟩
theorem RY.step {vs : List Us} {ps : List Str} {p0 pl : Str → Nat} {es : Str → Str → Prop} (h : RY vs ps p0 es pl) {a b : Str} (ha : a ∈ ps) (e : (a, b) ∈ vs) : RY vs ps p0 (fun x y => es x y ∨ (x = a ∧ y = b)) (relx pl a b) where
  wk := fun p hp => by
    unfold relx
    split
    · next q =>
      subst q
      split
      · exact .step (h.wk a ha) e
      · exact h.wk p hp
    · exact h.wk p hp
  up := fun p hp => Nat.le_trans (h.up p hp) (relx_le pl a b p)
  dn := fun x y q => by
    rcases q with q | ⟨rfl, rfl⟩
    · exact Nat.le_trans (h.dn x y q) (relx_le pl a b y)
    · unfold relx
      rw [if_pos rfl]
      have := h.up x ha
      split <;> omega
theorem RY.imp {vs : List Us} {ps : List Str} {p0 pl : Str → Nat} {es es' : Str → Str → Prop} (h : RY vs ps p0 es pl) (i : ∀ a b, es' a b → es a b) : RY vs ps p0 es' pl := ⟨h.wk, h.up, fun a b q => h.dn a b (i a b q)⟩
theorem RY.done {vs : List Us} {ps : List Str} {t : Nat} {p0 pl : Str → Nat} (h0 : RX vs ps t p0) (hv : ∀ u ∈ vs, u.1 ∈ ps) (h : RY vs ps p0 (fun a b => (a, b) ∈ vs) pl) : RX vs ps (t + 1) pl := ⟨h.wk, fun p hp k hk hw => by
  cases hw with
  | zero => exact Nat.zero_le _
  | step g e =>
    rename_i a
    have ha : a ∈ ps := hv _ e
    have := h0.le a ha _ (by omega) g
    have := h.dn _ _ e
    omega⟩
theorem RX.lv {vs : List Us} {ps : List Str} {pl : Str → Nat} (h : RX vs ps ps.length pl) (hv : ∀ u ∈ vs, u.2 ∈ ps) (ha : Acy vs ps) : LvOk vs ps pl := ⟨h.wk, fun p hp k hw => h.le p hp k (Nat.le_of_lt (ha.short hv hw)) hw⟩
def plD (ps : List Str) (pl : Str → Nat) : List D := ps.map fun p => .int (pl p : Nat)
theorem pl_put {ps : List Str} {pl : Str → Nat} {a b : Str} (hb : b ∈ ps) : putKs (ps.map Sum.inr) (.inr b) = ps.map Sum.inr ∧ putXs (ps.map Sum.inr) (plD ps pl) (.inr b) (.int (if ((pl a : Nat) : Int) + 1 > ((pl b : Nat) : Int) then ((pl a : Nat) : Int) + 1 else ((pl b : Nat) : Int))) = plD ps (relx pl a b) := by
  obtain ⟨h1, h2⟩ := put_upd (f := fun p => .int (pl p : Nat)) (v := .int (if ((pl a : Nat) : Int) + 1 > ((pl b : Nat) : Int) then ((pl a : Nat) : Int) + 1 else ((pl b : Nat) : Int))) hb
  refine ⟨h1, h2.trans ?_⟩
  unfold plD
  refine List.map_congr_left fun p _ => ?_
  unfold relx
  by_cases e : p = b
  · subst e
    rw [if_pos rfl, if_pos rfl]
    by_cases c : pl a + 1 > pl p
    · rw [if_pos c, if_pos (by omega)]; rfl
    · rw [if_neg c, if_neg (by omega)]
  · rw [if_neg e, if_neg e]
theorem pl_put1 {ps : List Str} {pl : Str → Nat} {a b : Str} (hb : b ∈ ps) : putKs (ps.map Sum.inr) (.inr b) = ps.map Sum.inr ∧ putXs (ps.map Sum.inr) (plD ps fun p => pl p + 1) (.inr b) (.int (if ((pl a + 1 : Nat) : Int) + 1 > ((pl b + 1 : Nat) : Int) then ((pl a + 1 : Nat) : Int) + 1 else ((pl b + 1 : Nat) : Int))) = plD ps fun p => relx pl a b p + 1 := by
  obtain ⟨h1, h2⟩ := put_upd (f := fun p => .int (pl p + 1 : Nat)) (v := .int (if ((pl a + 1 : Nat) : Int) + 1 > ((pl b + 1 : Nat) : Int) then ((pl a + 1 : Nat) : Int) + 1 else ((pl b + 1 : Nat) : Int))) hb
  refine ⟨h1, h2.trans ?_⟩
  unfold plD
  refine List.map_congr_left fun p _ => ?_
  unfold relx
  dsimp only
  by_cases e : p = b
  · subst e
    rw [if_pos rfl, if_pos rfl]
    by_cases c : pl a + 1 > pl p
    · rw [if_pos c, if_pos (by omega)]; rfl
    · rw [if_neg c, if_neg (by omega)]
  · rw [if_neg e, if_neg e]
/-- the most of lv -/
structure Mst (ps : List Str) (lv : Str → Nat) (most : Nat) : Prop where
  ex : ∃ p ∈ ps, lv p = most
  le : ∀ p ∈ ps, lv p ≤ most
def rowsD (ps : List Str) (lv : Str → Nat) (most : Nat) : D := .tup ((List.range (most + 1)).map fun r => .tup (((sortS ps).filter fun p => decide (lv p = r)).map D.str))
def natD (i : Nat) : D := .int (i : Int)
def mbr (k n : Nat) : List Nat := (List.range k).filter fun i => decide (n / 2 ^ i % 2 = 1)
def rowT (c : Nat → Nat → Nat) (k : Nat) (T : List Nat) (n : Nat) : List Nat := (mbr k n).map fun l => T.getD (n - 2 ^ l) 0 + ((mbr k n).map (c l)).sum
/-- the table as far as it goes -/
structure PT (c : Nat → Nat → Nat) (k : Nat) (T : List Nat) : Prop where
  len : 0 < T.length
  z : T.getD 0 0 = 0
  st : ∀ n, 0 < n → n < T.length → T.getD n 0 ∈ rowT c k T n ∧ ∀ y ∈ rowT c k T n, T.getD n 0 ≤ y
theorem mbr_lt {k n l : Nat} (h : l ∈ mbr k n) (hn : 0 < n) : n - 2 ^ l < n := by
  have := Nat.pow_pos (n := l) (show 0 < 2 by decide)
  omega
theorem rowT_snoc {c : Nat → Nat → Nat} {k : Nat} {T : List Nat} {m n : Nat} (h0 : 0 < n) (h : n ≤ T.length) : rowT c k (T ++ [m]) n = rowT c k T n := by
  unfold rowT
  refine List.map_congr_left fun l hl => ?_
  have := mbr_lt hl h0
  rw [List.getD_eq_getElem?_getD, List.getD_eq_getElem?_getD, List.getElem?_append_left (by omega)]
theorem PT.start (c : Nat → Nat → Nat) (k : Nat) : PT c k [0] := ⟨by decide, rfl, fun n h1 h2 => by simp at h2; omega⟩
theorem getD_left {T : List Nat} {m n : Nat} (h : n < T.length) : (T ++ [m]).getD n 0 = T.getD n 0 := by
  rw [List.getD_eq_getElem?_getD, List.getD_eq_getElem?_getD, List.getElem?_append_left h]
theorem PT.snoc {c : Nat → Nat → Nat} {k : Nat} {T : List Nat} {m : Nat} (h : PT c k T) (h1 : m ∈ rowT c k T T.length) (h2 : ∀ y ∈ rowT c k T T.length, m ≤ y) : PT c k (T ++ [m]) := by
  have hl := h.len
  refine ⟨by simp, by rw [getD_left hl]; exact h.z, fun n n0 n1 => ?_⟩
  rw [List.length_append, List.length_singleton] at n1
  rw [rowT_snoc n0 (by omega)]
  by_cases e : n = T.length
  · subst e
    have : (T ++ [m]).getD T.length 0 = m := by rw [List.getD_eq_getElem?_getD, List.getElem?_append_right (Nat.le_refl _), Nat.sub_self]; rfl
    rw [this]
    exact ⟨h1, h2⟩
  · rw [getD_left (by omega)]
    exact h.st n n0 (by omega)
theorem PT.same {c : Nat → Nat → Nat} {k : Nat} {T U : List Nat} (h : PT c k T) (g : PT c k U) (hl : T.length = U.length) : T = U := by
  have key : ∀ n, n < T.length → T.getD n 0 = U.getD n 0 := fun n => by
    induction n using Nat.strongRecOn with
    | _ n ih =>
      intro hn
      by_cases n0 : n = 0
      · subst n0; rw [h.z, g.z]
      · have er : rowT c k T n = rowT c k U n := by
          unfold rowT
          refine List.map_congr_left fun l hl' => ?_
          have := mbr_lt hl' (by omega)
          rw [ih _ this (by omega)]
        obtain ⟨a1, a2⟩ := h.st n (by omega) hn
        obtain ⟨b1, b2⟩ := g.st n (by omega) (by omega)
        rw [er] at a1 a2
        have := a2 _ b1
        have := b2 _ a1
        omega
  refine List.ext_getElem hl fun i h1 h2 => ?_
  have := key i h1
  rw [List.getD_eq_getElem?_getD, List.getD_eq_getElem?_getD, List.getElem?_eq_getElem h1, List.getElem?_eq_getElem h2] at this
  exact this
theorem natD_ints (l : List Nat) : l.map natD = (l.map fun x : Nat => (x : Int)).map D.int := by rw [List.map_map]; rfl
theorem atI_getD {ps : List Str} {i : Nat} (h : i < ps.length) : atI (ps.map D.str) (i : Int) = some (.str (ps.getD i "")) := by
  refine atI_nat ?_
  rw [List.getElem?_map, List.getElem?_eq_getElem h, List.getD_eq_getElem?_getD, List.getElem?_eq_getElem h]
  rfl
theorem mem_getD' {ps : List Str} {i : Nat} (h : i < ps.length) : ps.getD i "" ∈ ps := by
  rw [List.getD_eq_getElem?_getD, List.getElem?_eq_getElem h]
  exact List.getElem_mem h
theorem atI_natD {T : List Nat} {i : Nat} (h : i < T.length) : atI (T.map natD) (i : Int) = some (natD (T.getD i 0)) := by
  refine atI_nat ?_
  rw [List.getElem?_map, List.getElem?_eq_getElem h, List.getD_eq_getElem?_getD, List.getElem?_eq_getElem h]
  rfl
def lstN (l : List Nat) : D := .lst (l.map natD)
def twr (us : List Us) (ps : List Str) (lw : Str → Nat) : Nat → Str → List Str
  | 0, x => [x]
  | n + 1, x => x :: match (rst us ps x).find? (fun y => decide (lw y = n)) with
    | some y => twr us ps lw n y
    | none => []
def twO (us : List Us) (ps : List Str) (lw : Str → Nat) (most : Nat) : List Str := match (sortS ps).find? (fun p => decide (lw p = most)) with
  | some x => twr us ps lw most x
  | none => []
theorem find_head {p : Str → Bool} {l : List Str} {x : Str} (h : l.find? p = some x) : ∃ tl, l.filter p = x :: tl := by
  rw [← List.head?_filter] at h
  cases hf : l.filter p with
  | nil => rw [hf] at h; cases h
  | cons y tl => rw [hf] at h; cases h; exact ⟨tl, rfl⟩
theorem twr_next {us : List Us} {ps : List Str} {lw : Str → Nat} (h : LvOk (bE us ps) ps lw) {x : Str} {n : Nat} (hx : x ∈ ps) (e : lw x = n + 1) : ∃ y, (rst us ps x).find? (fun y => decide (lw y = n)) = some y ∧ y ∈ ps ∧ lw y = n := by
  obtain ⟨a, h1, h2, h3⟩ := h.pred (fun u hu => (bE_mem u hu).1) hx (by omega)
  obtain ⟨_, _, h4⟩ := mem_bE.mp h2
  have ha : a ∈ rst us ps x := mem_rst.mpr ⟨h1, h4⟩
  cases hf : (rst us ps x).find? fun y => decide (lw y = n) with
  | none =>
    have := List.find?_eq_none.mp hf a ha
    simp only [decide_eq_true_iff] at this
    omega
  | some y => exact ⟨y, rfl, (mem_rst.mp (List.mem_of_find?_eq_some hf)).1, of_decide_eq_true (List.find?_some (p := fun y => decide (lw y = n)) hf)⟩
theorem twr_mem {us : List Us} {ps : List Str} {lw : Str → Nat} : ∀ (n : Nat) (x : Str), x ∈ ps → ∀ y ∈ twr us ps lw n x, y ∈ ps
  | 0, x, hx, y, h => by rw [List.mem_singleton.mp h]; exact hx
  | n + 1, x, hx, y, h => by
    rcases List.mem_cons.mp h with rfl | h
    · exact hx
    · split at h
      · next z e => exact twr_mem n z (mem_rst.mp (List.mem_of_find?_eq_some e)).1 y h
      · cases h
theorem twr_len {us : List Us} {ps : List Str} {lw : Str → Nat} (h : LvOk (bE us ps) ps lw) : ∀ (n : Nat) (x : Str), x ∈ ps → lw x = n → (twr us ps lw n x).length = n + 1
  | 0, x, _, _ => rfl
  | n + 1, x, hx, e => by
    obtain ⟨y, h1, h2, h3⟩ := twr_next h hx e
    show (x :: match (rst us ps x).find? (fun y => decide (lw y = n)) with | some y => twr us ps lw n y | none => []).length = _
    rw [h1, List.length_cons]
    dsimp only
    rw [twr_len h n y h2 h3]
theorem Mst.same {ps : List Str} {l1 l2 : Str → Nat} {m1 m2 : Nat} (h : Mst ps l1 m1) (g : Mst ps l2 m2) (e : ∀ p ∈ ps, l1 p = l2 p) : m1 = m2 := by
  obtain ⟨p, h1, h2⟩ := h.ex
  obtain ⟨q, g1, g2⟩ := g.ex
  have a := g.le p h1
  have b := h.le q g1
  rw [← e p h1] at a
  rw [e q g1] at b
  omega
theorem twr_same {us : List Us} {ps : List Str} {l1 l2 : Str → Nat} (e : ∀ p ∈ ps, l1 p = l2 p) : ∀ (n : Nat) (x : Str), x ∈ ps → twr us ps l1 n x = twr us ps l2 n x
  | 0, _, _ => rfl
  | n + 1, x, hx => by
    have ef : (rst us ps x).find? (fun y => decide (l1 y = n)) = (rst us ps x).find? (fun y => decide (l2 y = n)) := by
      rw [← List.head?_filter, ← List.head?_filter]
      congr 1
      refine List.filter_congr fun y hy => ?_
      rw [e y (mem_rst.mp hy).1]
    show x :: (match (rst us ps x).find? (fun y => decide (l1 y = n)) with | some y => twr us ps l1 n y | none => []) = x :: (match (rst us ps x).find? (fun y => decide (l2 y = n)) with | some y => twr us ps l2 n y | none => [])
    rw [ef]
    cases hf : (rst us ps x).find? fun y => decide (l2 y = n) with
    | none => rfl
    | some y =>
      dsimp only
      rw [twr_same e n y (mem_rst.mp (List.mem_of_find?_eq_some hf)).1]
theorem twO_same {us : List Us} {ps : List Str} {l1 l2 : Str → Nat} {m1 m2 : Nat} (h : LvOk (bE us ps) ps l1) (g : LvOk (bE us ps) ps l2) (hm : Mst ps l1 m1) (gm : Mst ps l2 m2) : twO us ps l1 m1 = twO us ps l2 m2 := by
  have e := h.same g
  obtain rfl := hm.same gm e
  unfold twO
  have ef : (sortS ps).find? (fun y => decide (l1 y = m1)) = (sortS ps).find? (fun y => decide (l2 y = m1)) := by
    rw [← List.head?_filter, ← List.head?_filter]
    congr 1
    refine List.filter_congr fun y hy => ?_
    rw [e y ((sortS_perm ps).mem_iff.mp hy)]
  rw [ef]
  cases hf : (sortS ps).find? fun y => decide (l2 y = m1) with
  | none => rfl
  | some y => exact twr_same e m1 y ((sortS_perm ps).mem_iff.mp (List.mem_of_find?_eq_some hf))
theorem eqv_shp {n : Nat} {d : D} (h : Shp n d) : PyData.eqv d.py d.py = true := SeqAt.eqv_refl _ h.1
theorem shp_tpU {w : List Us} (h : ∀ u ∈ w, ascU u) : Shp 2 (tpU w) := shp_tup fun x hx => by
  obtain ⟨u, hu, rfl⟩ := List.mem_map.mp hx
  exact shp_pair (h u hu)
theorem frR_mem {us : List Us} {ps : List Str} (hl : ps.length ≤ 24) : ∀ w, frR us ps = some w → w.length ≤ 1000 ∧ ∀ u ∈ w, u ∈ us := by
  have key : ∀ (l : List Str) (b : Option (List Us)), (∀ s ∈ l, s ∈ ps) → (∀ w, b = some w → w.length ≤ 1000 ∧ ∀ u ∈ w, u ∈ us) → ∀ w, l.foldl (frB us ps) b = some w → w.length ≤ 1000 ∧ ∀ u ∈ w, u ∈ us := by
    intro l
    induction l with
    | nil => exact fun b _ h => h
    | cons s l ih =>
      intro b hs h
      rw [List.foldl_cons]
      exact ih _ (fun x hx => hs x (List.mem_cons_of_mem _ hx)) (frB_mem h hl (hs s (by simp)))
  exact key ps none (fun _ h => h) fun _ h => nomatch h
/-! _law_modules -/
theorem sc__law_modules : FnScope ["_law_stream_here", "_law_areas_here", "_law_names_here", "_law_found", "_law_rooms", "_law_name", "_law_kind", "_law_area"] ["_law_stream_here", "_law_areas_here", "_law_names_here"] (defScope s__law_modules) := ⟨rfl, rfl, rfl, by decide +kernel, rfl, by decide +kernel, by decide +kernel⟩
/-- [x for x in xs if a draw says so] -/
theorem lcSub {α : Type} (em : α → D) (b : Nat) {g : Option Dk} {t : TgF} {c : DTT} {e : DT} {r : Sg} {Q : List D → Nat → Prop} : ∀ (xs : List α) (acc : List D) (f : Nat), xs.length * b ≤ f →
    (∀ x ∈ xs, ∃ l, t (em x) = some l ∧ (∀ (f : Nat) (Q : Bool → Nat → Prop), b ≤ f → (∀ v f', f ≤ f' + b → Q v f') → c g (setsR r l) f Q) ∧ ∀ (f : Nat) (Q : QD), Q (em x) f → e g (setsR r l) f Q) →
    (∀ (ys : List α) (f' : Nat), ys.Sublist xs → f ≤ f' + xs.length * b → Q (acc ++ ys.map em) f') → dLcGo g t c e r (xs.map em) acc f Q
  | [], acc, f, _, _, hq => by
    have := hq [] f (List.Sublist.refl _) (by omega)
    rw [List.map_nil, List.append_nil] at this
    exact this
  | x :: xs, acc, f, hf, he, hq => by
    obtain ⟨l, hl, h1, h2⟩ := he x (by simp)
    have hlen : (x :: xs).length * b = xs.length * b + b := by rw [List.length_cons, Nat.add_mul, Nat.one_mul]
    rw [hlen] at hf
    simp only [List.map_cons, dLcGo, hl]
    refine h1 f _ (by omega) fun v f' hv => ?_
    cases v with
    | true =>
      rw [if_pos rfl]
      refine h2 f' _ (lcSub em b xs (acc ++ [em x]) f' (by omega) (fun x' hx' => he x' (by simp [hx'])) fun ys f2 hy h3 => ?_)
      rw [List.append_assoc]
      exact hq (x :: ys) f2 (List.Sublist.cons_cons x hy) (by omega)
    | false =>
      rw [if_neg Bool.false_ne_true]
      exact lcSub em b xs acc f' (by omega) (fun x' hx' => he x' (by simp [hx'])) fun ys f2 hy h3 => hq ys f2 (List.Sublist.cons x hy) (by omega)
def Sp__law_modules : DSp := fun g ds f Q => ∃ (k : Dk) (hs ns lv : List Str) (dp : Nat) (zs : List (Str × Nat × Str)), g = some k ∧ ds = [.any (.ref k.a), .lst ((zs.map arS).map D.str), .lst (lv.map D.str)] ∧ Ars hs ns dp zs ∧ dp ≤ 4 ∧ Nms hs ns lv ∧ zs.length ≤ 30 ∧ lv.length ≤ 30 ∧ zs.length + 2 * lv.length ≤ f ∧
  ∀ ms f', PVm ms → f ≤ f' + (zs.length + 2 * lv.length) → Q (.lst (ms.map D.str)) f'
set_option maxHeartbeats 2000000 in
theorem ok__law_modules (d : Df K mg "_law_modules" s__law_modules) (c__law_pick : Cal P w K mg base 2 "_law_pick" ["_law_stream_here", "_law_items"] Sp__law_pick) (c__law_draw : Cal P w K mg base 1 "_law_draw" ["_law_stream_here", "_law_many"] Sp__law_draw) : Cal P w K mg base 3 "_law_modules" ["_law_stream_here", "_law_areas_here", "_law_names_here"] Sp__law_modules := by
  obtain ⟨f, fd, F, m⟩ := d
  refine ⟨f, fd, dfn (k := 2) (S := Sp__law_modules) F sc__law_modules ?len (fun cdv A outer s H E hr => (dss_cons (ds_setL false (i := 3) sc__law_modules.nd (dl_lc (own := [("_law_area", 7)]) rfl sc__law_modules.nd (di_seq (de_v 1)) (blkOk_by (own := [("_law_area", 7)]) (N := ["_law_stream_here", "_law_areas_here", "_law_names_here", "_law_found", "_law_rooms", "_law_name", "_law_kind", "_law_area"]) (sc := defScope s__law_modules) (by decide +kernel)) (fun _ _ _ _ _ => dg_name (i := 7) sc__law_modules.nd) (fun _ _ _ _ _ => dts_one (dp_eq hr.units (de_callC c__law_draw (hr.mono (by decide)) (da_cons (de_v 0) (da_cons de_int da_nil))) de_int)) (fun _ _ _ _ _ => (de_v 7))))
      (dss_cons (ds_setLc (i := 4) (own := [("_law_area", 7)]) sc__law_modules.nd (di_seq (de_v 1)) (blkOk_by (own := [("_law_area", 7)]) (N := ["_law_stream_here", "_law_areas_here", "_law_names_here", "_law_found", "_law_rooms", "_law_name", "_law_kind", "_law_area"]) (sc := defScope s__law_modules) (by decide +kernel)) (fun _ _ _ _ _ => dg_name (i := 7) sc__law_modules.nd) (fun _ _ _ _ _ => dts_one (dp_notIn hr (de_v 7) (de_v 3))) (fun _ _ _ _ _ => (de_v 7)) (fun _ _ _ h => snd_setL (m := true) (i := 4) h))
      (dss_cons (ds_for [] PassesOwn.never (di_seq (de_v 2)) (dg_name (i := 5) sc__law_modules.nd) (dss_cons (ds_set false (i := 6) sc__law_modules.nd (de_callC c__law_draw (hr.mono (by decide)) (da_cons (de_v 0) (da_cons de_int da_nil))))
      (dss_cons (ds_set true (i := 7) sc__law_modules.nd (de_callC c__law_pick (hr.mono (by decide)) (da_cons (de_v 0) (da_cons (de_add (de_v 4) (dl_lst (da_cons de_str da_nil)).e) da_nil))))
      (dss_one (ds_if (DW.p (dw_or (dp_eq hr.units (de_v 7) de_str) (dw_or1 (dp_eq hr.units (de_v 6) de_int)))) (dss_one (ds_app false (i := 3) (de_v 5))) (dss_one (ds_if (DW.p (dw_and (dp_eq hr.units (de_v 6) de_int) (dw_and1 (dp_lt (de_count (de_v 7) de_str) de_int)))) (dss_one (ds_app false (i := 3) (de_add (de_add (de_add (de_add (de_v 7) de_str) (de_ix (dl_split (de_v 7) de_str).e (de_neg de_int))) de_str) (de_v 5)))) (dss_one (ds_app false (i := 3) (de_add (de_add (de_v 7) de_str) (de_v 5)))))))))))
      (dss_one (ds_ret (de_sl (de_v 3) do_none (do_some de_int)))))))) ?h, F.kp, F.binds fun _ _ _ _ _ _ us hl => match us, hl with | [_, _, _], _ => rfl, m⟩
  case len =>
    intro g ds n Q h; obtain ⟨_, _, _, _, _, _, _, rfl, _⟩ := h; rfl
  case h =>
    intro g ds n Q h
    obtain ⟨k, hs, ns, lv, dp, zs, rfl, rfl, hA, hdp, hN, hl1, hl2, hf, q⟩ := h
    have har : ∀ z ∈ zs, asc (arS z) ∧ (arS z).length ≤ 54 := fun z hz => by
      have pp : PathN 6 (arS z) := ⟨arN z, List.length_pos_iff.mpr (arN_ne z), by unfold arN; rw [List.length_append, List.length_replicate]; have := (hA.h z hz).2; show z.2.1 + 1 ≤ 6; omega, fun x hx => by
        rcases arN_mem hx with rfl | rfl
        · exact hN.oh _ (hA.h z hz).1
        · exact hN.on _ (hA.name hz), rfl⟩
      exact ⟨pp.asc, pp.len⟩
    rw [List.map_map]
    refine ⟨by rw [List.length_map]; exact L1 (by omega), ?_⟩
    refine lcSub (D.str ∘ arS) 1 zs [] n (by omega) (fun z hz => ⟨_, rfl, fun f Q hf hq => ?_, fun f Q h => h⟩) (fun F f1 hF hf1 => ?_)
    · obtain ⟨f2, rfl⟩ : ∃ f2, f = f2 + 1 := ⟨f - 1, by omega⟩
      exact ⟨k, 6, f2, rfl, rfl, by decide, by decide, rfl, fun r _ _ => hq _ _ (by omega)⟩
    · rw [List.nil_append]
      refine ⟨by rw [List.length_map]; exact L1 (by omega), ?_⟩
      refine lcF (D.str ∘ arS) (fun z => !decide (arS z ∈ F.map arS)) zs _ (fun z hz => ⟨_, rfl, fun f Q h => ?_, fun _ f Q h => h⟩) ?_
      · show _ ∧ _
        have hF2 : ∀ s ∈ F.map arS, asc s := fun s hs => by
          obtain ⟨z', hz', rfl⟩ := List.mem_map.mp hs
          exact (har z' (hF.subset hz')).1
        rw [← List.map_map]
        refine ⟨shaped_str (har z hz).1, shpST hF2, ?_⟩
        show Q (xb true ((pyA ((F.map arS).map D.str)).any fun y => y.eqv (D.str (arS z)).py)) f
        rw [anyS']
        exact h
      · rw [← List.map_map, ← List.map_map]
        refine ⟨flatA_strs _, ?_⟩
        simp only [List.set_cons_succ, List.set_cons_zero, setsR, startR, List.map_cons, List.map_nil, List.cons_append, List.nil_append, List.replicate_succ, List.replicate_zero, List.length_cons, List.length_nil, Nat.reduceAdd, Nat.reduceSub]
        generalize hR : zs.filter (fun z => !decide (arS z ∈ F.map arS)) = R
        have hRz : ∀ z ∈ R, z ∈ zs ∧ z ∉ F := fun z hz => by
          rw [← hR] at hz
          obtain ⟨h1, h2⟩ := List.mem_filter.mp hz
          refine ⟨h1, fun h => ?_⟩
          rw [decide_eq_true (List.mem_map.mpr ⟨z, h, rfl⟩)] at h2
          cases h2
        have hRl : R.length ≤ 30 := by rw [← hR]; exact Nat.le_trans (List.length_filter_le _ _) hl1
        refine dFor_list D.str (fun done rest r f => ∃ (L : List (List Str)) (a b c : Sl), r = [.sh (.any (.ref k.a)), .sh (.lst ((zs.map arS).map D.str)), .sh (.lst (lv.map D.str)), .ow ((L.map (Txt.join ".")).map D.str), .ow ((R.map arS).map D.str), a, b, c] ∧ MI hs ns F done L ∧ L.length ≤ F.length + done.length ∧ f1 ≤ f + 2 * done.length) _ _ _ ?_ ?_ ⟨F.map arN, _, _, _, by rw [List.map_map, List.map_map, List.map_map, List.map_map]; rfl, MI.start hA (by omega) hN hF, by simp, by simp⟩
        · rintro done o rest r f N hx ⟨L, a, b, c, rfl, hM, hL, hf2⟩ hNn
          have hxl := congrArg List.length hx
          rw [List.length_append, List.length_cons] at hxl
          have hol : o ∈ lv := by rw [hx]; simp
          have hod : o ∉ done := by
            have := hN.ln
            rw [hx, List.nodup_append] at this
            exact fun h => this.2.2 o h o (by simp) rfl
          have hdn : ∀ x ∈ done, x ∈ lv := fun x h => by rw [hx]; exact List.mem_append.mpr (.inl h)
          have hon := hN.ol o hol
          have hFl := hF.length_le
          obtain ⟨f2, rfl⟩ : ∃ f2, f = f2 + 2 := ⟨f - 2, by omega⟩
          refine ⟨_, rfl, k, 9, f2 + 1, rfl, rfl, by decide, by decide, rfl, fun kd k0 k1 => ?_⟩
          have fin : ∀ (pre : List Str) (a' b' c' : Sl) (f' : Nat), f2 ≤ f' → (pre = [] ∨ ∃ z ∈ zs, z ∉ F ∧ (pre = arN z ∨ z.2.1 ≤ 3 ∧ pre = arN z ++ [z.2.2])) → N [.sh (.any (.ref k.a)), .sh (.lst ((zs.map arS).map D.str)), .sh (.lst (lv.map D.str)), .ow ((L.map (Txt.join ".")).map D.str ++ [.str (Txt.join "." (pre ++ [o]))]), .ow ((R.map arS).map D.str), a', b', c'] f' := fun pre a' b' c' f' hf' hp =>
            hNn _ _ ⟨L ++ [pre ++ [o]], _, _, _, by rw [List.map_append, List.map_append]; rfl, hM.add hA hdp hN hF hdn hol hod hp, by rw [List.length_append, List.length_append, List.length_singleton, List.length_singleton]; omega, by rw [List.length_append, List.length_singleton]; omega⟩
          have hLl : ((L.map (Txt.join ".")).map D.str).length ≤ lim := by
            rw [List.length_map, List.length_map]
            exact L1 (by omega)
          have e1 : Txt.join "." ([] ++ [o]) = o := str_ext (by
            show cd (Txt.join "." [o]) = cd o
            rw [cd_join]
            rfl)
          simp only [List.set_cons_succ, List.set_cons_zero, setsR, startR, List.map_cons, List.map_nil, List.cons_append, List.nil_append, List.replicate_succ, List.replicate_zero, List.length_cons, List.length_nil, Nat.reduceAdd, Nat.reduceSub]
          refine ⟨show 1 ≤ lim by decide, ?_, ?_⟩
          · rw [List.length_map, List.length_map]; exact L1 (by show R.length + 1 ≤ 100000; omega)
          refine .inl ⟨k, _, rfl, rfl, ?_, ?_, by omega, fun ad had f3 hf3 => ?_⟩
          · rw [List.length_append]; show 0 < _ + 1; omega
          · rw [List.length_append, List.length_map, List.length_map]; show R.length + 1 ≤ 100000; omega
          rcases List.mem_append.mp had with had | had
          · obtain ⟨s, hs, rfl⟩ := List.mem_map.mp had
            obtain ⟨z, hz, rfl⟩ := List.mem_map.mp hs
            refine ⟨rfl, ?_⟩
            simp only [List.set_cons_succ, List.set_cons_zero, setsR, startR, List.map_cons, List.map_nil, List.cons_append, List.nil_append, List.replicate_succ, List.replicate_zero, List.length_cons, List.length_nil, Nat.reduceAdd, Nat.reduceSub]
            have alone : N [.sh (.any (.ref k.a)), .sh (.lst ((zs.map arS).map D.str)), .sh (.lst (lv.map D.str)), .ow ((L.map (Txt.join ".")).map D.str ++ [.str o]), .ow ((R.map arS).map D.str), .sh (.str o), .sh (.int kd), .sh (.str (arS z))] f3 := by
              have := fin [] (.sh (.str o)) (.sh (.int kd)) (.sh (.str (arS z))) f3 (by omega) (.inl rfl)
              rw [e1] at this
              exact this
            obtain ⟨hz1, hz2⟩ := hRz z hz
            have hzl := (har z hz1).2
            have e2 : arS z ++ "." ++ o = Txt.join "." (arN z ++ [o]) := join_snoc (arN z) o (arN_ne z)
            have hol8 := hon.2.1
            have short : arS z ++ "." ++ o = Txt.join "." (arN z ++ [o]) → N [.sh (.any (.ref k.a)), .sh (.lst ((zs.map arS).map D.str)), .sh (.lst (lv.map D.str)), .ow ((L.map (Txt.join ".")).map D.str ++ [.str (arS z ++ "." ++ o)]), .ow ((R.map arS).map D.str), .sh (.str o), .sh (.int kd), .sh (.str (arS z))] f3 := fun e => by
              rw [e]
              exact fin (arN z) _ _ _ f3 (by omega) (.inr ⟨z, hz1, hz2, .inl rfl⟩)
            have d1 : (Str.ofString ".").length = 1 := by decide +kernel
            have c1 : (arS z).length + (Str.ofString ".").length ≤ lim := L1 (by omega)
            have c2 : (arS z ++ Str.ofString ".").length + o.length ≤ lim := L1 (by rw [app_len]; omega)
            show if decide (arS z = "") = true then _ else _
            by_cases e0 : arS z = ""
            · rw [decide_eq_true e0]
              refine iteT ⟨_, rfl, hLl, ?_⟩
              exact alone
            · rw [decide_eq_false e0]
              refine iteF ?_
              show if decide (kd = 0) = true then _ else _
              by_cases e3 : kd = 0
              · rw [decide_eq_true e3]
                refine iteT ⟨_, rfl, hLl, ?_⟩
                exact alone
              · rw [decide_eq_false e3]
                refine iteF ?_
                show if decide (kd = 1) = true then _ else _
                by_cases e4 : kd = 1
                · rw [decide_eq_true e4]
                  refine iteT ⟨trivial, ?_⟩
                  show if decide ((Txt.count (arS z) ".") < 4) = true then _ else _
                  by_cases e5 : (Txt.count (arS z) ".") < 4
                  · rw [decide_eq_true e5]
                    have hsp : Txt.split (arS z) "." = arN z := split_join_names (arN_ne z) fun x hx => by
                      rcases arN_mem hx with rfl | rfl
                      · exact hN.oh _ (hA.h z hz1).1
                      · exact hN.on _ (hA.name hz1)
                    have hn8 := (hN.on _ (hA.name hz1)).2.1
                    have la : atI ((Txt.split (arS z) ".").map D.str) (-1) = some (.str z.2.2) := by
                      rw [hsp, atI_last]
                      unfold arN
                      rw [List.getLast?_concat]
                      rfl
                    have e7 : arS z ++ "." ++ z.2.2 = Txt.join "." (arN z ++ [z.2.2]) := join_snoc (arN z) z.2.2 (arN_ne z)
                    have e8 : arS z ++ "." ++ z.2.2 ++ "." ++ o = Txt.join "." (arN z ++ [z.2.2] ++ [o]) := by
                      rw [e7]
                      exact join_snoc (arN z ++ [z.2.2]) o (by simp)
                    refine iteT ⟨_, rfl, c1, by decide +kernel, L1 (by omega), .str z.2.2, la, ?_⟩
                    refine ⟨L1 (by rw [app_len]; omega), L1 (by rw [app_len, app_len]; omega), L1 (by rw [app_len, app_len, app_len]; omega), hLl, ?_⟩
                    show N [.sh (.any (.ref k.a)), .sh (.lst ((zs.map arS).map D.str)), .sh (.lst (lv.map D.str)), .ow ((L.map (Txt.join ".")).map D.str ++ [.str (arS z ++ "." ++ z.2.2 ++ "." ++ o)]), .ow ((R.map arS).map D.str), .sh (.str o), .sh (.int kd), .sh (.str (arS z))] f3
                    rw [e8]
                    have hc3 : z.2.1 ≤ 3 := by
                      have h5 := count_split (arS z)
                      rw [hsp] at h5
                      unfold arN at h5
                      rw [List.length_append, List.length_replicate] at h5
                      have : (Txt.count (arS z) ".") + 1 = ((z.2.1 + 1 : Nat) : Int) := h5
                      omega
                    exact fin (arN z ++ [z.2.2]) _ _ _ f3 (by omega) (.inr ⟨z, hz1, hz2, .inr ⟨hc3, rfl⟩⟩)
                  · rw [decide_eq_false e5]
                    refine iteF ⟨_, rfl, c1, c2, hLl, ?_⟩
                    exact short e2
                · rw [decide_eq_false e4]
                  refine iteF ?_
                  refine ⟨_, rfl, c1, c2, hLl, ?_⟩
                  exact short e2
          · rw [List.mem_singleton.mp had]
            refine ⟨rfl, ?_⟩
            refine ⟨_, rfl, hLl, ?_⟩
            have := fin [] (.sh (.str o)) (.sh (.int kd)) (.sh (.str "")) f3 (by omega) (.inl rfl)
            rw [e1] at this
            exact this
        · rintro r f ⟨L, a, b, c, rfl, hM, hL, hf2⟩
          have e6 : cutD ((L.map (Txt.join ".")).map D.str) none (some (24 : Int)) = ((L.map (Txt.join ".")).take 24).map D.str := by
            rw [show (24 : Int) = ((24 : Nat) : Int) from rfl, cutD_take, List.map_take]
          show Q (.lst (cutD ((L.map (Txt.join ".")).map D.str) none (some (24 : Int)))) f
          rw [e6]
          exact q _ f hM.pvm (by omega)
/-! _law_covers -/
theorem sc__law_covers : FnScope ["_law_path", "_law_other"] ["_law_path", "_law_other"] (defScope s__law_covers) := ⟨rfl, rfl, rfl, by decide +kernel, rfl, by decide +kernel, by decide +kernel⟩
theorem cov_cut (p o : Str) : decide (cutS o none (some ((p.length : Int) + 1)) = p ++ ".") = Txt.startswith o (p ++ ".") := by
  rw [starts_cd, Bool.eq_iff_iff, decide_eq_true_iff, List.isPrefixOf_iff_prefix, List.prefix_iff_eq_take]
  have e1 : cd (cutS o none (some ((p.length : Int) + 1))) = (cd o).take (p.length + 1) := by
    show ((o.cps.toList.drop (HT.sIx o.length 0 none)).take (HT.sIx o.length o.length (some ((p.length : Int) + 1)) - HT.sIx o.length 0 none)) = _
    rw [show (p.length : Int) + 1 = ((p.length + 1 : Nat) : Int) by omega, HT.sIx_nat]
    show ((cd o).drop 0).take (min (p.length + 1) o.length - 0) = _
    rw [List.drop_zero, Nat.sub_zero]
    have hl : o.length = (cd o).length := TL.len_tl o
    by_cases h : p.length + 1 ≤ o.length
    · rw [Nat.min_eq_left h]
    · rw [Nat.min_eq_right (by omega), List.take_of_length_le (by omega), List.take_of_length_le (by omega)]
  have e2 : (cd (p ++ ".")).length = p.length + 1 := by
    rw [show cd (p ++ ".") = cd p ++ cd (Str.ofString ".") from TL.tl_append p _, List.length_append, show (cd (Str.ofString ".")).length = 1 by decide +kernel, show (cd p).length = p.length from (TL.len_tl p).symm]
  rw [e2, ← e1]
  exact ⟨fun h => by rw [h], fun h => (TL.ext_tl h).symm⟩
def Sp__law_covers : DSp := fun _ ds f Q => ∃ p o : Str, ds = [.str p, .str o] ∧ p.length ≤ 100000 ∧ o.length ≤ 100000 ∧ Q (.bool (cov p o)) f
set_option maxHeartbeats 2000000 in
theorem ok__law_covers (d : Df K mg "_law_covers" s__law_covers) (m_len : mg "len" = none) : Cal P w K mg base 1 "_law_covers" ["_law_path", "_law_other"] Sp__law_covers := by
  obtain ⟨f, fd, F, m⟩ := d
  refine ⟨f, fd, dfn (k := 0) (S := Sp__law_covers) F sc__law_covers ?len (fun cdv A outer s H E hr => (dss_one (ds_ret (de_or (de_eq hr.units (de_v 1) (de_v 0)) (de_one (de_eq hr.units (de_sl (de_v 1) do_none (do_some (de_add (de_len m_len (da_cons (de_v 0) da_nil)) de_int))) (de_add (de_v 0) de_str))))))) ?h, F.kp, F.binds fun _ _ _ _ _ _ us hl => match us, hl with | [_, _], _ => rfl, m⟩
  case len =>
    intro g ds n Q h; obtain ⟨_, _, rfl, _⟩ := h; rfl
  case h =>
    intro g ds n Q h
    obtain ⟨p, o, rfl, h1, h2, q⟩ := h
    show if decide (o = p) = true then _ else _
    have q : Q (.bool (decide (o = p) || Txt.startswith o (p ++ "."))) n := q
    cases e : decide (o = p) with
    | true => rw [e] at q; exact iteT q
    | false =>
      rw [e, Bool.false_or, ← cov_cut] at q
      refine iteF ⟨Nat.le_trans h1 (by decide), Nat.le_trans h2 (by decide), ?_⟩
      have k1 : (Str.ofString ".").length = 1 := by decide +kernel
      exact ⟨Nat.le_trans (show p.length + (Str.ofString ".").length ≤ 100001 by omega) (by decide), q⟩
/-! _law_uses -/
theorem sc__law_uses : FnScope ["_law_stream_here", "_law_modules_here", "_law_bound", "_law_found", "_law_sizes", "_law_turn", "_law_use", "_law_k"] ["_law_stream_here", "_law_modules_here", "_law_bound"] (defScope s__law_uses) := ⟨rfl, rfl, rfl, by decide +kernel, rfl, by decide +kernel, by decide +kernel⟩
theorem pvu_nil {ms : List Str} : PVu ms [] := ⟨by decide, by simp, by simp⟩
theorem PVu.snoc {ms : List Str} {us : List Us} {x y : Str} (h : PVu ms us) (hl : us.length < 200) (hx : x ∈ ms) (hy : y ∈ ms) (hxy : x ≠ y) (hn : (x, y) ∉ us) : PVu ms (us ++ [(x, y)]) := by
  refine ⟨by rw [List.length_append]; exact hl, fun u hu' => ?_, ?_⟩
  · rcases List.mem_append.mp hu' with e | e
    · exact h.mem u e
    · rw [List.mem_singleton.mp e]; exact ⟨hx, hy, hxy⟩
  · rw [List.nodup_append]
    refine ⟨h.nd, by simp, fun a ha b hb e => ?_⟩
    rw [List.mem_singleton.mp hb] at e
    exact hn (e ▸ ha)
def rowU (ms : List Str) (i : Nat) : Us := (ms.getD i "", ms.getD (i + 1) "")
theorem rowU_ok {ms : List Str} (hv : PVm ms) {c : Nat} (hc : c + 1 ≤ ms.length) : PVu ms ((List.range c).map (rowU ms)) := by
  have hg : ∀ i (h : i < ms.length), ms.getD i "" = ms[i] := fun i h => by rw [List.getD_eq_getElem?_getD, List.getElem?_eq_getElem h]; rfl
  have inj : ∀ i j (hi : i < ms.length) (hj : j < ms.length), ms[i] = ms[j] → i = j := fun i j hi hj e => by
    have key := List.pairwise_iff_getElem.mp hv.nd
    rcases Nat.lt_trichotomy i j with c | c | c
    · exact absurd e (key i j hi hj c)
    · exact c
    · exact absurd e.symm (key j i hj hi c)
  refine ⟨?_, fun u hu => ?_, ?_⟩
  · rw [List.length_map, List.length_range]; have := hv.len; omega
  · obtain ⟨i, hi, rfl⟩ := List.mem_map.mp hu
    have hi := List.mem_range.mp hi
    unfold rowU
    rw [hg i (by omega), hg (i + 1) (by omega)]
    exact ⟨List.getElem_mem _, List.getElem_mem _, fun e => by have := inj _ _ _ _ e; omega⟩
  · refine List.pairwise_map.mpr ?_
    refine (List.nodup_range (n := c)).imp_of_mem fun {i j} hi hj h e => h ?_
    have hi := List.mem_range.mp hi
    have hj := List.mem_range.mp hj
    have e1 : ms.getD i "" = ms.getD j "" := congrArg Prod.fst e
    rw [hg i (by omega), hg j (by omega)] at e1
    exact inj _ _ _ _ e1
def Sp__law_uses : DSp := fun g ds f Q => ∃ (k : Dk) (ms : List Str) (m : Nat), g = some k ∧ ds = [.any (.ref k.a), .lst (ms.map D.str), .int m] ∧ PVm ms ∧ 1 ≤ m ∧ m ≤ 200 ∧ 410 ≤ f ∧
  ∀ (us : List Us) f', us.length ≤ m → PVu ms us → f ≤ f' + 410 → Q (.lst (us.map pairD)) f'
set_option maxHeartbeats 2000000 in
theorem ok__law_uses (d : Df K mg "_law_uses" s__law_uses) (m_range : mg "range" = none) (m_len : mg "len" = none) (m_min : mg "min" = none) (c__law_draw : Cal P w K mg base 1 "_law_draw" ["_law_stream_here", "_law_many"] Sp__law_draw) (c__law_pick : Cal P w K mg base 2 "_law_pick" ["_law_stream_here", "_law_items"] Sp__law_pick) : Cal P w K mg base 3 "_law_uses" ["_law_stream_here", "_law_modules_here", "_law_bound"] Sp__law_uses := by
  obtain ⟨f, fd, F, m⟩ := d
  refine ⟨f, fd, dfn (k := 2) (S := Sp__law_uses) F sc__law_uses ?len (fun cdv A outer s H E hr => (dss_cons (ds_setL false (i := 3) sc__law_uses.nd (dl_lst da_nil))
      (dss_cons (ds_if (dp_lt (de_len m_len (da_cons (de_v 1) da_nil)) de_int) (dss_one (ds_ret (de_v 3))) dss_nil)
      (dss_cons (ds_if (dp_eq hr.units (de_callC c__law_draw (hr.mono (by decide)) (da_cons (de_v 0) (da_cons de_int da_nil))) de_int) (dss_one (ds_setLc (i := 3) (own := [("_law_k", 7)]) sc__law_uses.nd (di_range1 m_range (da_cons (de_callB (call_min2 rfl) sc_min2 (by rfl) m_min (by decide +kernel) (da_cons (de_v 2) (da_cons (de_sub (de_len m_len (da_cons (de_v 1) da_nil)) de_int) da_nil))) da_nil)) (blkOk_by (own := [("_law_k", 7)]) (N := ["_law_stream_here", "_law_modules_here", "_law_bound", "_law_found", "_law_sizes", "_law_turn", "_law_use", "_law_k"]) (sc := defScope s__law_uses) (by decide +kernel)) (fun _ _ _ _ _ => dg_name (i := 7) sc__law_uses.nd) (fun _ _ _ _ _ => dts_nil) (fun _ _ _ _ _ => (de_tup (da_cons (de_ix (de_v 1) (de_v 7)) (da_cons (de_ix (de_v 1) (de_add (de_v 7) de_int)) da_nil)))) (fun _ _ _ h => snd_setL (m := false) (i := 3) h))) dss_nil)
      (dss_cons (ds_set false (i := 4) sc__law_uses.nd (dl_lst (da_cons de_int (da_cons (de_add (de_len m_len (da_cons (de_v 1) da_nil)) de_int) (da_cons (de_mul de_int (de_len m_len (da_cons (de_v 1) da_nil))) (da_cons (de_add (de_v 2) de_int) da_nil))))).e)
      (dss_cons (ds_for [] PassesOwn.never (di_range1 m_range (da_cons (de_callC c__law_draw (hr.mono (by decide)) (da_cons (de_v 0) (da_cons (de_callC c__law_pick (hr.mono (by decide)) (da_cons (de_v 0) (da_cons (de_v 4) da_nil))) da_nil))) da_nil)) (dg_name (i := 5) sc__law_uses.nd) (dss_cons (ds_set false (i := 6) sc__law_uses.nd (de_tup (da_cons (de_callC c__law_pick (hr.mono (by decide)) (da_cons (de_v 0) (da_cons (de_v 1) da_nil))) (da_cons (de_callC c__law_pick (hr.mono (by decide)) (da_cons (de_v 0) (da_cons (de_v 1) da_nil))) da_nil))))
      (dss_one (ds_if (DW.p (dw_and (dp_ne hr.units (de_ix (de_v 6) de_int) (de_ix (de_v 6) de_int)) (dw_and (dp_notIn hr (de_v 6) (de_v 3)) (dw_and1 (dp_lt (de_len m_len (da_cons (de_v 3) da_nil)) (de_v 2)))))) (dss_one (ds_app false (i := 3) (de_v 6))) dss_nil))))
      (dss_one (ds_ret (de_v 3))))))))) ?h, F.kp, F.binds fun _ _ _ _ _ _ us hl => match us, hl with | [_, _, _], _ => rfl, m⟩
  case len =>
    intro g ds n Q h; obtain ⟨_, _, _, _, rfl, _⟩ := h; rfl
  case h =>
    intro g ds n Q h
    obtain ⟨k, ms, m, rfl, rfl, hv, hm1, hm, hf, q⟩ := h
    obtain ⟨f2, rfl⟩ : ∃ f2, n = f2 + 410 := ⟨n - 410, by omega⟩
    have hml : (ms.map D.str).length = ms.length := List.length_map _
    have hvl := hv.len
    refine ⟨Nat.zero_le _, ?_⟩
    show if decide ((((ms.map D.str).length : Nat) : Int) < 2) = true then _ else _
    rw [hml]
    by_cases h2 : ((ms.length : Nat) : Int) < 2
    · rw [decide_eq_true h2]
      exact iteT (q [] _ (by simp) pvu_nil (by omega))
    rw [decide_eq_false h2]
    refine iteF (nxt ?_)
    simp only [List.set_cons_succ, List.set_cons_zero, setsR, startR, List.map_cons, List.map_nil, List.cons_append, List.nil_append, List.replicate_succ, List.replicate_zero, List.length_cons, List.length_nil, Nat.reduceAdd, Nat.reduceSub]
    refine mid (fun r f => ∃ (us : List Us) (a b c d : Sl), r = [.sh (.any (.ref k.a)), .sh (.lst (ms.map D.str)), .sh (.int m), .ow (us.map pairD), a, b, c, d] ∧ PVu ms us ∧ us.length ≤ m ∧ f2 + 409 ≤ f) ?_ (fun hk => ?_)
    · rintro r f ⟨us, a, b, c, d, rfl, hu, hul, hf3⟩
      have hasc := hu.asc hv
      have L3 : ∀ {n : Nat}, n ≤ 1000 → n ≤ lim := fun h => Nat.le_trans h (by decide)
      refine ⟨.inl ⟨by decide, by decide⟩, show 4 ≤ lim by decide, ?_⟩
      refine .inl ⟨k, _, rfl, rfl, by exact (show 0 < 4 by decide), by exact (show 4 ≤ 100000 by decide), by omega, fun vd hvd f4 hf4 => ?_⟩
      obtain ⟨v, rfl, hv1, hv2⟩ : ∃ v : Int, vd = .int v ∧ 0 < v ∧ v ≤ 201 := by
        simp only [List.mem_cons, List.not_mem_nil, or_false] at hvd
        rcases hvd with rfl | rfl | rfl | rfl
        · exact ⟨_, rfl, by decide, by decide⟩
        · exact ⟨_, rfl, by rw [hml]; omega, by rw [hml]; omega⟩
        · exact ⟨_, rfl, by rw [hml]; omega, by rw [hml]; omega⟩
        · exact ⟨_, rfl, by omega, by omega⟩
      clear hvd
      obtain ⟨f5, rfl⟩ : ∃ f5, f4 = f5 + 1 := ⟨f4 - 1, by omega⟩
      refine ⟨k, v, f5, rfl, rfl, by omega, by omega, rfl, fun w w0 w1 => ?_⟩
      refine ⟨by omega, by omega, ?_⟩
      refine dFor_range (fun i r f => ∃ (us : List Us) (a b c d : Sl), r = [.sh (.any (.ref k.a)), .sh (.lst (ms.map D.str)), .sh (.int m), .ow (us.map pairD), a, b, c, d] ∧ PVu ms us ∧ us.length ≤ m ∧ f5 ≤ f + 2 * i) 0 _ _ _ ?_ ?_ ⟨us, _, _, _, _, rfl, hu, hul, by omega⟩
      · rintro i r f N hi ⟨us, a, b, c, d, rfl, hu, hul, hfi⟩ hN
        have hasc := hu.asc hv
        have hi : i < w.toNat := hi
        refine ⟨_, rfl, .inl ⟨k, _, rfl, rfl, by rw [hml]; omega, by rw [hml]; omega, by omega, fun xd hxd f6 hf6 => ?_⟩⟩
        obtain ⟨x, hx, rfl⟩ := List.mem_map.mp hxd
        refine .inl ⟨k, _, rfl, rfl, by rw [hml]; omega, by rw [hml]; omega, by omega, fun yd hyd f7 hf7 => ?_⟩
        obtain ⟨y, hy, rfl⟩ := List.mem_map.mp hyd
        have ax := (hv.path x hx).asc
        have ay := (hv.path y hy).asc
        refine ⟨show 2 ≤ lim by decide, ?_⟩
        refine ⟨.str x, atI0, .str y, atI_nat (j := 1) rfl, ?_⟩
        show if (!decide (x = y)) = true then _ else _
        by_cases hxy : x = y
        · rw [decide_eq_true hxy]
          exact iteF (nxt (g := some k) (hN _ _ ⟨us, _, _, _, _, rfl, hu, by omega, by omega⟩))
        · rw [decide_eq_false hxy]
          refine iteT ?_
          refine ⟨shaped_pair (u := (x, y)) ⟨ax, ay⟩, shpU hasc, ?_⟩
          rw [anyU']
          show if (!decide ((x, y) ∈ us)) = true then _ else _
          by_cases hin : (x, y) ∈ us
          · rw [decide_eq_true hin]
            exact iteF (nxt (g := some k) (hN _ _ ⟨us, _, _, _, _, rfl, hu, by omega, by omega⟩))
          · rw [decide_eq_false hin]
            refine iteT ?_
            show if decide ((((us.map pairD).length : Nat) : Int) < (m : Int)) = true then _ else _
            rw [List.length_map]
            by_cases hlt : ((us.length : Nat) : Int) < (m : Int)
            · rw [decide_eq_true hlt]
              refine iteT ⟨us.map pairD, rfl, by rw [List.length_map]; exact L3 (by omega), ?_⟩
              exact hN _ _ ⟨us ++ [(x, y)], _, _, _, _, by rw [List.map_append]; rfl, hu.snoc (by omega) hx hy hxy hin, by rw [List.length_append]; show us.length + 1 ≤ m; omega, by omega⟩
            · rw [decide_eq_false hlt]
              exact iteF (nxt (g := some k) (hN _ _ ⟨us, _, _, _, _, rfl, hu, by omega, by omega⟩))
      · rintro r f ⟨us, a, b, c, d, rfl, hu, hul, hfi⟩
        exact q us f hul hu (by omega)
    · refine ⟨k, 3, f2 + 409, rfl, rfl, by decide, by decide, rfl, fun r0 r0a r0b => ?_⟩
      show if decide (r0 = 0) = true then _ else _
      by_cases h0 : r0 = 0
      · rw [decide_eq_true h0]
        refine iteT ?_
        obtain ⟨c, hc, hc1, hc2⟩ : ∃ c : Nat, (if (((ms.map D.str).length : Nat) : Int) - 1 < (m : Int) then (((ms.map D.str).length : Nat) : Int) - 1 else (m : Int)) = (c : Int) ∧ c ≤ m ∧ c + 1 ≤ ms.length := by
          rw [hml]
          split
          · exact ⟨ms.length - 1, by omega, by omega, by omega⟩
          · exact ⟨m, rfl, by omega, by omega⟩
        show (_ ∧ _ ∧ _)
        rw [hc]
        refine ⟨by omega, by omega, by rw [intsD_len]; exact L1 (by omega), ?_⟩
        rw [show ((c : Int)).toNat = c from rfl]
        refine lcM (fun i : Nat => D.int (0 + (i : Int))) pairD (rowU ms) (List.range c) _ (fun i hi => ⟨_, rfl, fun f Q h => ?_⟩) ?_
        · have hi := List.mem_range.mp hi
          have g1 : ∀ j, j < ms.length → atI (ms.map D.str) (j : Int) = some (.str (ms.getD j "")) := fun j hj => by
            refine atI_nat ?_
            rw [List.getElem?_map, List.getElem?_eq_getElem hj, List.getD_eq_getElem?_getD, List.getElem?_eq_getElem hj]
            rfl
          have g2 := g1 i (by omega)
          have g3 := g1 (i + 1) (by omega)
          rw [show (i : Int) = 0 + (i : Int) by omega] at g2
          rw [show ((i + 1 : Nat) : Int) = 0 + (i : Int) + 1 by omega] at g3
          exact ⟨_, g2, _, g3, show 2 ≤ lim by decide, h⟩
        · have hu0 := rowU_ok hv hc2
          exact hk _ _ ⟨(List.range c).map (rowU ms), _, _, _, _, rfl, hu0, by rw [List.length_map, List.length_range]; exact hc1, by omega⟩
      · rw [decide_eq_false h0]
        exact iteF (nxt (hk _ _ ⟨[], _, _, _, _, rfl, pvu_nil, by simp, by omega⟩))
/-! _law_ranked -/
theorem sc__law_ranked : FnScope ["_law_stream_here", "_law_areas_here", "_law_modules_here", "_law_places", "_law_found", "_law_turn", "_law_one", "_law_other", "_law_use", "_law_module", "_law_k"] ["_law_stream_here", "_law_areas_here", "_law_modules_here"] (defScope s__law_ranked) := ⟨rfl, rfl, rfl, by decide +kernel, rfl, by decide +kernel, by decide +kernel⟩
/-- the numbers of the areas that cover, and one behind them -/
def plN (as : List Str) (m : Str) : List Nat := ((List.range as.length).filter fun k => cov (as.getD k "") m) ++ [as.length]
def Sp__law_ranked : DSp := fun g ds f Q => ∃ (k : Dk) (as ms : List Str), g = some k ∧ ds = [.any (.ref k.a), .lst (as.map D.str), .lst (ms.map D.str)] ∧ PVm as ∧ PVm ms ∧ 170 ≤ f ∧
  ∀ (us : List Us) f', PVu ms us → f ≤ f' + 170 → Q (.lst (us.map pairD)) f'
set_option maxHeartbeats 2000000 in
theorem ok__law_ranked (d : Df K mg "_law_ranked" s__law_ranked) (m_range : mg "range" = none) (m_len : mg "len" = none) (c__law_draw : Cal P w K mg base 1 "_law_draw" ["_law_stream_here", "_law_many"] Sp__law_draw) (c__law_pick : Cal P w K mg base 2 "_law_pick" ["_law_stream_here", "_law_items"] Sp__law_pick) (c__law_covers : Cal P w K mg base 1 "_law_covers" ["_law_path", "_law_other"] Sp__law_covers) : Cal P w K mg base 3 "_law_ranked" ["_law_stream_here", "_law_areas_here", "_law_modules_here"] Sp__law_ranked := by
  obtain ⟨f, fd, F, m⟩ := d
  refine ⟨f, fd, dfn (k := 2) (S := Sp__law_ranked) F sc__law_ranked ?len (fun cdv A outer s H E hr => (dss_cons (ds_setLc (i := 3) (own := [("_law_module", 9)]) sc__law_ranked.nd (di_seq (de_v 2)) (blkOk_by (own := [("_law_module", 9)]) (N := ["_law_stream_here", "_law_areas_here", "_law_modules_here", "_law_places", "_law_found", "_law_turn", "_law_one", "_law_other", "_law_use", "_law_module", "_law_k"]) (sc := defScope s__law_ranked) (by decide +kernel)) (fun _ _ _ _ _ => dg_name (i := 9) sc__law_ranked.nd) (fun _ _ _ _ _ => dts_nil) (fun _ _ _ _ _ => (de_add (dl_lc (own := [("_law_k", 10)]) rfl sc__law_ranked.nd (di_range1 m_range (da_cons (de_len m_len (da_cons (de_v 1) da_nil)) da_nil)) (blkOk_by (own := [("_law_k", 10)]) (N := ["_law_stream_here", "_law_areas_here", "_law_modules_here", "_law_places", "_law_found", "_law_turn", "_law_one", "_law_other", "_law_use", "_law_module", "_law_k"]) (sc := _) (by rfl)) (fun _ _ _ _ _ => dg_name (i := 10) sc__law_ranked.nd) (fun _ _ _ _ _ => dts_one (dp_val (de_callC c__law_covers (hr.mono (by decide)) (da_cons (de_ix (de_v 1) (de_v 10)) (da_cons (de_v 9) da_nil))))) (fun _ _ _ _ _ => (de_v 10))).e (dl_lst (da_cons (de_len m_len (da_cons (de_v 1) da_nil)) da_nil)).e)) (fun _ _ _ h => snd_set (m := false) (i := 3) h.e))
      (dss_cons (ds_setL false (i := 4) sc__law_ranked.nd (dl_lst da_nil))
      (dss_cons (ds_if (dp_lt (de_len m_len (da_cons (de_v 2) da_nil)) de_int) (dss_one (ds_ret (de_v 4))) dss_nil)
      (dss_cons (ds_for [] PassesOwn.never (di_range1 m_range (da_cons (de_callC c__law_draw (hr.mono (by decide)) (da_cons (de_v 0) (da_cons (de_mul de_int (de_len m_len (da_cons (de_v 2) da_nil))) da_nil))) da_nil)) (dg_name (i := 5) sc__law_ranked.nd) (dss_cons (ds_par false (i := 6) (j := 7) sc__law_ranked.nd (de_callC c__law_draw (hr.mono (by decide)) (da_cons (de_v 0) (da_cons (de_len m_len (da_cons (de_v 2) da_nil)) da_nil))) (de_callC c__law_draw (hr.mono (by decide)) (da_cons (de_v 0) (da_cons (de_len m_len (da_cons (de_v 2) da_nil)) da_nil))))
      (dss_cons (ds_if (dp_gt (de_ix (de_ix (de_v 3) (de_v 6)) de_int) (de_ix (de_ix (de_v 3) (de_v 7)) de_int)) (dss_one (ds_par false (i := 6) (j := 7) sc__law_ranked.nd (de_v 7) (de_v 6))) dss_nil)
      (dss_one (ds_if (DW.p (dw_and (dp_ne hr.units (de_v 6) (de_v 7)) (dw_and1 (dp_notIn hr (de_tup (da_cons (de_ix (de_v 2) (de_v 6)) (da_cons (de_ix (de_v 2) (de_v 7)) da_nil))) (de_v 4))))) (dss_one (ds_app false (i := 4) (de_tup (da_cons (de_ix (de_v 2) (de_v 6)) (da_cons (de_ix (de_v 2) (de_v 7)) da_nil))))) dss_nil)))))
      (dss_cons (ds_for [] PassesOwn.never (di_range1 m_range (da_cons (de_mul (de_callC c__law_draw (hr.mono (by decide)) (da_cons (de_v 0) (da_cons de_int da_nil))) (de_callC c__law_draw (hr.mono (by decide)) (da_cons (de_v 0) (da_cons de_int da_nil)))) da_nil)) (dg_name (i := 5) sc__law_ranked.nd) (dss_cons (ds_set false (i := 8) sc__law_ranked.nd (de_tup (da_cons (de_callC c__law_pick (hr.mono (by decide)) (da_cons (de_v 0) (da_cons (de_v 2) da_nil))) (da_cons (de_callC c__law_pick (hr.mono (by decide)) (da_cons (de_v 0) (da_cons (de_v 2) da_nil))) da_nil))))
      (dss_one (ds_if (DW.p (dw_and (dp_ne hr.units (de_ix (de_v 8) de_int) (de_ix (de_v 8) de_int)) (dw_and1 (dp_notIn hr (de_v 8) (de_v 4))))) (dss_one (ds_app false (i := 4) (de_v 8))) dss_nil))))
      (dss_one (ds_ret (de_v 4))))))))) ?h, F.kp, F.binds fun _ _ _ _ _ _ us hl => match us, hl with | [_, _, _], _ => rfl, m⟩
  case len =>
    intro g ds n Q h; obtain ⟨_, _, _, _, rfl, _⟩ := h; rfl
  case h =>
    intro g ds n Q h
    obtain ⟨k, as, ms, rfl, rfl, ha, hv, hf, q⟩ := h
    obtain ⟨f2, rfl⟩ : ∃ f2, n = f2 + 170 := ⟨n - 170, by omega⟩
    have hml : (((ms.map D.str).length : Nat) : Int) = ((ms.length : Nat) : Int) := by rw [List.length_map]
    have hal : (((as.map D.str).length : Nat) : Int) = ((as.length : Nat) : Int) := by rw [List.length_map]
    have hvl := hv.len
    have hall := ha.len
    refine ⟨by rw [List.length_map]; exact L1 (by omega), ?_⟩
    refine lcM D.str lstN (plN as) ms _ (fun m hm => ⟨_, rfl, fun f Q h => ?_⟩) ?_
    · show (_ ∧ _ ∧ _)
      rw [hal]
      refine ⟨by omega, by omega, by rw [intsD_len]; exact L1 (by omega), ?_⟩
      rw [show ((as.length : Int)).toNat = as.length from rfl]
      have pm := hv.path m hm
      refine lcT (fun i : Nat => D.int (0 + (i : Int))) natD (fun i => cov (as.getD i "") m) id (List.range as.length) [] f (fun i hi => ⟨_, rfl, fun f Q h => ?_, fun _ f Q h => ?_⟩) ?_
      · have hi := List.mem_range.mp hi
        have hi1 := atI_getD hi
        rw [show (i : Int) = 0 + (i : Int) by omega] at hi1
        have pa := ha.path _ (mem_getD' hi)
        exact ⟨_, hi1, _, m, rfl, Nat.le_trans pa.len (by decide), Nat.le_trans pm.len (by decide), h⟩
      · show Q (.int (0 + (i : Int))) f
        rw [Int.zero_add]
        exact h
      · rw [List.map_id, List.nil_append]
        refine ⟨show 1 ≤ lim by decide, by
          have h8 : ((List.range as.length).filter fun k => cov (as.getD k "") m).length ≤ as.length := Nat.le_trans (List.length_filter_le _ _) (by rw [List.length_range]; omega)
          rw [List.length_map]
          exact L1 (by show _ + 1 ≤ _; omega), ?_⟩
        show Q (.lst (((List.range as.length).filter fun k => cov (as.getD k "") m).map natD ++ [.int (((as.map D.str).length : Nat) : Int)])) f
        rw [hal]
        unfold lstN plN at h
        rw [List.map_append] at h
        exact h
    simp only [List.set_cons_succ, List.set_cons_zero, setsR, startR, List.map_cons, List.map_nil, List.cons_append, List.nil_append, List.replicate_succ, List.replicate_zero, List.length_cons, List.length_nil, Nat.reduceAdd, Nat.reduceSub]
    refine ⟨Nat.zero_le _, ?_⟩
    show if decide ((((ms.map D.str).length : Nat) : Int) < 2) = true then _ else _
    rw [hml]
    by_cases h2 : ((ms.length : Nat) : Int) < 2
    · rw [decide_eq_true h2]
      exact iteT (q [] _ pvu_nil (by omega))
    rw [decide_eq_false h2]
    refine iteF (nxt ?_)
    simp only [List.set_cons_succ, List.set_cons_zero, setsR, startR, List.map_cons, List.map_nil, List.cons_append, List.nil_append, List.replicate_succ, List.replicate_zero, List.length_cons, List.length_nil, Nat.reduceAdd, Nat.reduceSub]
    have rd : ∀ x : Nat, x < ms.length → atI (((ms.map (plN as)).map lstN)) (x : Int) = some (lstN (plN as (ms.getD x ""))) := fun x hx => by
      refine atI_nat ?_
      rw [List.getElem?_map, List.getElem?_map, List.getElem?_eq_getElem hx, List.getD_eq_getElem?_getD, List.getElem?_eq_getElem hx]
      rfl
    have rd0 : ∀ m : Str, atI ((plN as m).map natD) 0 = some (natD ((plN as m).getD 0 0)) := fun m => atI_natD (T := plN as m) (i := 0) (by unfold plN; rw [List.length_append]; exact Nat.succ_pos _)
    have gne : ∀ x y : Nat, x < ms.length → y < ms.length → x ≠ y → ms.getD x "" ≠ ms.getD y "" := fun x y hx hy ne e => by
      rw [List.getD_eq_getElem?_getD, List.getD_eq_getElem?_getD, List.getElem?_eq_getElem hx, List.getElem?_eq_getElem hy] at e
      have e : ms[x] = ms[y] := e
      have key := List.pairwise_iff_getElem.mp hv.nd
      rcases Nat.lt_trichotomy x y with c | c | c
      · exact key x y hx hy c e
      · exact ne c
      · exact key y x hy hx c e.symm
    refine ⟨.inl ⟨by decide, by decide⟩, k, _, f2 + 169, rfl, rfl, by rw [hml]; omega, by rw [hml]; omega, rfl, fun w w0 w1 => ?_⟩
    rw [hml] at w1
    refine ⟨by omega, by omega, ?_⟩
    refine dFor_range (fun i r f => ∃ (us : List Us) (a b c d e2 e3 : Sl), r = [.sh (.any (.ref k.a)), .sh (.lst (as.map D.str)), .sh (.lst (ms.map D.str)), .sh (.lst ((ms.map (plN as)).map lstN)), .ow (us.map pairD), a, b, c, d, e2, e3] ∧ PVu ms us ∧ us.length ≤ i ∧ f2 + 169 ≤ f + 2 * i) 0 _ _ _ ?_ ?_ ⟨[], _, _, _, _, _, _, rfl, pvu_nil, by decide, by omega⟩
    · rintro i r f N hi ⟨us, a, b, c, d, e2, e3, rfl, hu, hul, hfi⟩ hN
      have hasc := hu.asc hv
      obtain ⟨f5, rfl⟩ : ∃ f5, f = f5 + 2 := ⟨f - 2, by omega⟩
      refine ⟨_, rfl, k, _, f5 + 1, rfl, rfl, by rw [hml]; omega, by rw [hml]; omega, rfl, fun x x0 x1 => ?_⟩
      refine ⟨k, _, f5, rfl, rfl, by rw [hml]; omega, by rw [hml]; omega, rfl, fun y y0 y1 => ?_⟩
      rw [hml] at x1 y1
      obtain ⟨x, rfl⟩ : ∃ z : Nat, x = (z : Int) := ⟨x.toNat, by omega⟩
      obtain ⟨y, rfl⟩ : ∃ z : Nat, y = (z : Int) := ⟨y.toNat, by omega⟩
      simp only [List.set_cons_succ, List.set_cons_zero, setsR, startR, List.map_cons, List.map_nil, List.cons_append, List.nil_append, List.replicate_succ, List.replicate_zero, List.length_cons, List.length_nil, Nat.reduceAdd, Nat.reduceSub]
      refine mid (fun r f => ∃ x y : Nat, x < ms.length ∧ y < ms.length ∧ r = [.sh (.any (.ref k.a)), .sh (.lst (as.map D.str)), .sh (.lst (ms.map D.str)), .sh (.lst ((ms.map (plN as)).map lstN)), .ow (us.map pairD), .sh (.int (0 + (i : Int))), .sh (.int (x : Int)), .sh (.int (y : Int)), d, e2, e3] ∧ f = f5) ?_ (fun hk => ?_)
      · rintro r f ⟨x, y, hx, hy, rfl, rfl⟩
        have gx := atI_getD hx
        have gy := atI_getD hy
        have ax := (hv.path _ (mem_getD' hx)).asc
        have ay := (hv.path _ (mem_getD' hy)).asc
        show if (!decide ((x : Int) = (y : Int))) = true then _ else _
        by_cases hxy : x = y
        · rw [decide_eq_true (by omega)]
          exact hN _ _ ⟨us, _, _, _, _, _, _, rfl, hu, by omega, by omega⟩
        · rw [decide_eq_false (by omega)]
          refine iteT ⟨_, gx, _, gy, show 2 ≤ lim by decide, shaped_pair (u := (ms.getD x "", ms.getD y "")) ⟨ax, ay⟩, shpU hasc, ?_⟩
          rw [anyU']
          show if (!decide ((ms.getD x "", ms.getD y "") ∈ us)) = true then _ else _
          by_cases hin : (ms.getD x "", ms.getD y "") ∈ us
          · rw [decide_eq_true hin]
            exact hN _ _ ⟨us, _, _, _, _, _, _, rfl, hu, by omega, by omega⟩
          · rw [decide_eq_false hin]
            refine iteT ⟨us.map pairD, rfl, _, gx, _, gy, show 2 ≤ lim by decide, by rw [List.length_map]; exact L1 (by omega), ?_⟩
            exact hN _ _ ⟨us ++ [(ms.getD x "", ms.getD y "")], _, _, _, _, _, _, by rw [List.map_append]; rfl, hu.snoc (by omega) (mem_getD' hx) (mem_getD' hy) (gne x y hx hy hxy) hin, by rw [List.length_append]; show us.length + 1 ≤ i + 1; omega, by omega⟩
      · refine ⟨_, rd x (by omega), _, rd0 _, _, rd y (by omega), _, rd0 _, ?_⟩
        show if decide ((((plN as (ms.getD y "")).getD 0 0 : Nat) : Int) < (((plN as (ms.getD x "")).getD 0 0 : Nat) : Int)) = true then _ else _
        by_cases hc : (((plN as (ms.getD y "")).getD 0 0 : Nat) : Int) < (((plN as (ms.getD x "")).getD 0 0 : Nat) : Int)
        · rw [decide_eq_true hc]
          refine iteT ?_
          exact hk _ _ ⟨y, x, by omega, by omega, rfl, rfl⟩
        · rw [decide_eq_false hc]
          refine iteF (nxt ?_)
          exact hk _ _ ⟨x, y, by omega, by omega, rfl, rfl⟩
    · rintro r f ⟨us, a, b, c, d, e2, e3, rfl, hu, hul, hfi⟩
      have hw : w.toNat ≤ 71 := by omega
      obtain ⟨f5, rfl⟩ : ∃ f5, f = f5 + 2 := ⟨f - 2, by omega⟩
      refine ⟨k, 3, f5 + 1, rfl, rfl, by decide, by decide, rfl, fun u0 u1 u2 => ?_⟩
      refine ⟨k, 3, f5, rfl, rfl, by decide, by decide, rfl, fun v0 v1 v2 => ?_⟩
      have huv : 0 ≤ u0 * v0 ∧ u0 * v0 ≤ 4 := by
        have : u0 = 0 ∨ u0 = 1 ∨ u0 = 2 := by omega
        rcases this with rfl | rfl | rfl <;> omega
      refine ⟨.inl ⟨by omega, by omega⟩, by omega, by omega, ?_⟩
      refine dFor_range (fun i r f => ∃ (us : List Us) (a b c d e2 e3 : Sl), r = [.sh (.any (.ref k.a)), .sh (.lst (as.map D.str)), .sh (.lst (ms.map D.str)), .sh (.lst ((ms.map (plN as)).map lstN)), .ow (us.map pairD), a, b, c, d, e2, e3] ∧ PVu ms us ∧ us.length ≤ 71 + i ∧ f5 ≤ f + 2 * i) 0 _ _ _ ?_ ?_ ⟨us, _, _, _, _, _, _, rfl, hu, by omega, by omega⟩
      · rintro i r f N hi ⟨us, a, b, c, d, e2, e3, rfl, hu, hul, hfi⟩ hN
        have hasc := hu.asc hv
        have hi4 : i < 4 := by omega
        obtain ⟨f6, rfl⟩ : ∃ f6, f = f6 + 2 := ⟨f - 2, by omega⟩
        refine ⟨_, rfl, .inl ⟨k, _, rfl, rfl, by omega, by rw [List.length_map]; omega, by omega, fun xd hxd f7 hf7 => ?_⟩⟩
        obtain ⟨x, hx, rfl⟩ := List.mem_map.mp hxd
        refine .inl ⟨k, _, rfl, rfl, by omega, by rw [List.length_map]; omega, by omega, fun yd hyd f8 hf8 => ?_⟩
        obtain ⟨y, hy, rfl⟩ := List.mem_map.mp hyd
        have ax := (hv.path x hx).asc
        have ay := (hv.path y hy).asc
        refine ⟨show 2 ≤ lim by decide, ?_⟩
        simp only [List.set_cons_succ, List.set_cons_zero, setsR, startR, List.map_cons, List.map_nil, List.cons_append, List.nil_append, List.replicate_succ, List.replicate_zero, List.length_cons, List.length_nil, Nat.reduceAdd, Nat.reduceSub]
        refine ⟨_, atI0, _, atI_nat (j := 1) rfl, ?_⟩
        show if (!decide (x = y)) = true then _ else _
        by_cases hxy : x = y
        · rw [decide_eq_true hxy]
          exact hN _ _ ⟨us, _, _, _, _, _, _, rfl, hu, by omega, by omega⟩
        · rw [decide_eq_false hxy]
          refine iteT ⟨shaped_pair (u := (x, y)) ⟨ax, ay⟩, shpU hasc, ?_⟩
          rw [anyU']
          show if (!decide ((x, y) ∈ us)) = true then _ else _
          by_cases hin : (x, y) ∈ us
          · rw [decide_eq_true hin]
            exact hN _ _ ⟨us, _, _, _, _, _, _, rfl, hu, by omega, by omega⟩
          · rw [decide_eq_false hin]
            refine iteT ⟨us.map pairD, rfl, by rw [List.length_map]; exact L1 (by omega), ?_⟩
            exact hN _ _ ⟨us ++ [(x, y)], _, _, _, _, _, _, by rw [List.map_append]; rfl, hu.snoc (by omega) hx hy hxy hin, by rw [List.length_append]; show us.length + 1 ≤ 71 + (i + 1); omega, by omega⟩
      · rintro r f ⟨us, a, b, c, d, e2, e3, rfl, hu, hul, hfi⟩
        exact q us f hu (by omega)
/-! _law_within -/
theorem sc__law_within : FnScope ["_law_paths", "_law_modules_here", "_law_module", "_law_path"] ["_law_paths", "_law_modules_here"] (defScope s__law_within) := ⟨rfl, rfl, rfl, by decide +kernel, rfl, by decide +kernel, by decide +kernel⟩
def Sp__law_within : DSp := fun _ ds f Q => ∃ ps ms : List Str, ds = [.lst (ps.map D.str), .lst (ms.map D.str)] ∧ ps.length ≤ 300 ∧ ms.length ≤ 300 ∧ (∀ p ∈ ps, p.length ≤ 1000 ∧ asc p) ∧ (∀ m ∈ ms, m.length ≤ 1000) ∧ Q (.lst ((ms.filter fun m => ps.any fun p => cov p m).map D.str)) f
set_option maxHeartbeats 2000000 in
theorem ok__law_within (d : Df K mg "_law_within" s__law_within) (c__law_covers : Cal P w K mg base 1 "_law_covers" ["_law_path", "_law_other"] Sp__law_covers) : Cal P w K mg base 2 "_law_within" ["_law_paths", "_law_modules_here"] Sp__law_within := by
  obtain ⟨f, fd, F, m⟩ := d
  refine ⟨f, fd, dfn (k := 1) (S := Sp__law_within) F sc__law_within ?len (fun cdv A outer s H E hr => (dss_one (ds_ret (dl_lc (own := [("_law_module", 2)]) rfl sc__law_within.nd (di_seq (de_v 1)) (blkOk_by (own := [("_law_module", 2)]) (N := ["_law_paths", "_law_modules_here", "_law_module", "_law_path"]) (sc := defScope s__law_within) (by decide +kernel)) (fun _ _ _ _ _ => dg_name (i := 2) sc__law_within.nd) (fun _ _ _ _ _ => dts_one (dp_ne hr.units (dl_lc (own := [("_law_path", 3)]) rfl sc__law_within.nd (di_seq (de_v 0)) (blkOk_by (own := [("_law_path", 3)]) (N := ["_law_paths", "_law_modules_here", "_law_module", "_law_path"]) (sc := _) (by rfl)) (fun _ _ _ _ _ => dg_name (i := 3) sc__law_within.nd) (fun _ _ _ _ _ => dts_one (dp_val (de_callC c__law_covers (hr.mono (by decide)) (da_cons (de_v 3) (da_cons (de_v 2) da_nil))))) (fun _ _ _ _ _ => (de_v 3))).e (dl_lst da_nil).e)) (fun _ _ _ _ _ => (de_v 2))).e))) ?h, F.kp, F.binds fun _ _ _ _ _ _ us hl => match us, hl with | [_, _], _ => rfl, m⟩
  case len =>
    intro g ds n Q h; obtain ⟨_, _, rfl, _⟩ := h; rfl
  case h =>
    intro g ds n Q h
    obtain ⟨ps, ms, rfl, h1, h2, h3, h4, q⟩ := h
    refine ⟨by rw [List.length_map]; exact L1 (by omega), ?_⟩
    refine lcF D.str (fun m => ps.any fun p => cov p m) ms _ (fun m hm => ⟨_, rfl, fun f Q h => ?_, fun _ f Q h => h⟩) q
    refine ⟨by rw [List.length_map]; exact L1 (by omega), ?_⟩
    refine lcF D.str (fun p => cov p m) ps _ (fun p hp => ⟨_, rfl, fun f Q h => ⟨p, m, rfl, (by have := (h3 p hp).1; omega), (by have := h4 m hm; omega), h⟩, fun _ f Q h => h⟩) ?_
    refine ⟨Nat.zero_le _, ?_⟩
    show oEq true (.lst ((ps.filter fun p => cov p m).map D.str)) (.lst (([] : List Str).map D.str)) _
    refine oEq_lst (m := []) (fun s hs => (h3 s (List.mem_filter.mp hs).1).2) (by simp) ?_
    show Q (!decide ((ps.filter fun p => cov p m) = [])) f
    have any_f : decide ((ps.filter fun p => cov p m) = []) = !(ps.any fun p => cov p m) := by
      rw [Bool.eq_iff_iff, decide_eq_true_iff, List.filter_eq_nil_iff, Bool.not_eq_true', List.any_eq_false]
    rw [any_f, Bool.not_not]
    exact h
/-! _law_rests -/
theorem sc__law_rests : FnScope ["_law_paths", "_law_uses_here", "_law_found", "_law_one", "_law_own", "_law_use", "_law_other"] ["_law_paths", "_law_uses_here"] (defScope s__law_rests) := ⟨rfl, rfl, rfl, by decide +kernel, rfl, by decide +kernel, by decide +kernel⟩
def rstL (us : List Us) (ps : List Str) : D := .lst (ps.map (rstD us ps))
def Sp__law_rests : DSp := fun _ ds f Q => ∃ (ms ps : List Str) (us : List Us), ds = [.ftp (ps.map D.str), .lst (us.map pairD)] ∧ PVm ms ∧ PVu ms us ∧ PVm ps ∧ Q (rstL us ps) f
set_option maxHeartbeats 2000000 in
theorem ok__law_rests (d : Df K mg "_law_rests" s__law_rests) (m_sorted : mg "sorted" = none) (c__law_within : Cal P w K mg base 2 "_law_within" ["_law_paths", "_law_modules_here"] Sp__law_within) (c__law_covers : Cal P w K mg base 1 "_law_covers" ["_law_path", "_law_other"] Sp__law_covers) : Cal P w K mg base 3 "_law_rests" ["_law_paths", "_law_uses_here"] Sp__law_rests := by
  obtain ⟨f, fd, F, m⟩ := d
  refine ⟨f, fd, dfn (k := 2) (S := Sp__law_rests) F sc__law_rests ?len (fun cdv A outer s H E hr => (dss_cons (ds_setL false (i := 2) sc__law_rests.nd (dl_lst da_nil))
      (dss_cons (ds_for [] PassesOwn.never (di_seq (de_v 0)) (dg_name (i := 3) sc__law_rests.nd) (dss_cons (ds_set false (i := 4) sc__law_rests.nd (dl_lc (own := [("_law_use", 5)]) rfl sc__law_rests.nd (di_seq (de_v 1)) (blkOk_by (own := [("_law_use", 5)]) (N := ["_law_paths", "_law_uses_here", "_law_found", "_law_one", "_law_own", "_law_use", "_law_other"]) (sc := defScope s__law_rests) (by decide +kernel)) (fun _ _ _ _ _ => dg_name (i := 5) sc__law_rests.nd) (fun _ _ _ _ _ => dts_one (dp_val (de_callC c__law_covers (hr.mono (by decide)) (da_cons (de_v 3) (da_cons (de_ix (de_v 5) de_int) da_nil))))) (fun _ _ _ _ _ => (de_ix (de_v 5) de_int))).e)
      (dss_one (ds_app false (i := 2) (dl_lc (own := [("_law_other", 6)]) rfl sc__law_rests.nd (di_seq (de_sorted hr m_sorted (da_cons (de_v 0) da_nil))) (blkOk_by (own := [("_law_other", 6)]) (N := ["_law_paths", "_law_uses_here", "_law_found", "_law_one", "_law_own", "_law_use", "_law_other"]) (sc := defScope s__law_rests) (by decide +kernel)) (fun _ _ _ _ _ => dg_name (i := 6) sc__law_rests.nd) (fun _ _ _ _ _ => dts_one (DW.p (dw_and (dp_ne hr.units (de_v 6) (de_v 3)) (dw_and1 (dp_ne hr.units (de_callC c__law_within (hr.mono (by decide)) (da_cons (dl_lst (da_cons (de_v 6) da_nil)).e (da_cons (de_v 4) da_nil))) (dl_lst da_nil).e))))) (fun _ _ _ _ _ => (de_v 6))).e))))
      (dss_one (ds_ret (de_v 2)))))) ?h, F.kp, F.binds fun _ _ _ _ _ _ us hl => match us, hl with | [_, _], _ => rfl, m⟩
  case len =>
    intro g ds n Q h; obtain ⟨_, _, _, rfl, _⟩ := h; rfl
  case h =>
    intro g ds n Q h
    obtain ⟨ms, ps, us, rfl, hm, hu, hp, q⟩ := h
    have hl := hp.len
    have hul := hu.len
    have plen : ∀ {p : Str}, p ∈ ps → asc p ∧ p.length ≤ 1000 := fun {p} h => ⟨(hp.path p h).asc, Nat.le_trans (hp.path p h).len (by decide)⟩
    have mlen : ∀ {p : Str}, p ∈ ms → p.length ≤ 1000 := fun {p} h => Nat.le_trans (hm.path p h).len (by decide)
    refine ⟨Nat.zero_le _, ?_⟩
    simp only [List.set_cons_succ, List.set_cons_zero, setsR, startR, List.map_cons, List.map_nil, List.cons_append, List.nil_append, List.replicate_succ, List.replicate_zero, List.length_cons, List.length_nil, Nat.reduceAdd, Nat.reduceSub]
    refine dFor_list D.str (fun done rest r f => f = n ∧ ∃ (a b c d : Sl), r = [.sh (.ftp (ps.map D.str)), .sh (.lst (us.map pairD)), .ow (done.map (rstD us ps)), a, b, c, d]) ps _ _ ?_ ?_ ⟨rfl, _, _, _, _, rfl⟩
    · rintro done one rest r f N hx ⟨rfl, a, b, c, d, rfl⟩ hN
      have h1 : one ∈ ps := by rw [hx]; simp
      have hdl : done.length ≤ 24 := by have := congrArg List.length hx; rw [List.length_append] at this; omega
      refine ⟨_, rfl, by rw [List.length_map]; exact L1 (by omega), ?_⟩
      refine lcT pairD D.str (fun u => cov one u.1) (·.2) us [] _ (fun u hu' => ⟨_, rfl, fun f Q h => ?_, fun _ f Q h => ⟨_, atI_nat (j := 1) rfl, h⟩⟩) ?_
      · exact ⟨_, atI0, one, u.1, rfl, by have := (plen h1).2; omega, by have := mlen (hu.mem u hu').1; omega, h⟩
      rw [List.nil_append]
      simp only [List.set_cons_succ, List.set_cons_zero, setsR, startR, List.map_cons, List.map_nil, List.cons_append, List.nil_append, List.replicate_succ, List.replicate_zero, List.length_cons, List.length_nil, Nat.reduceAdd, Nat.reduceSub]
      generalize hown : (us.filter fun u => cov one u.1).map (·.2) = own
      have ownm : ∀ m ∈ own, m ∈ ms := fun m h => by
        rw [← hown] at h
        obtain ⟨u, h2, rfl⟩ := List.mem_map.mp h
        exact (hu.mem u (List.mem_filter.mp h2).1).2.1
      have ownl : own.length ≤ 200 := by rw [← hown, List.length_map]; exact Nat.le_trans (List.length_filter_le _ _) hul
      refine ⟨_, rfl, sorts_strs (L1 (by omega)) (fun s hs => (hp.path s hs).asc), ?_⟩
      rw [sortD_strs]
      refine ⟨by rw [List.length_map, (sortS_perm ps).length_eq]; exact L1 (by omega), ?_⟩
      refine lcF D.str (fun b => decide (0 < cnt us (one, b))) (sortS ps) _ (fun b hb => ⟨_, rfl, fun f Q h => ?_, fun _ f Q h => h⟩) ?_
      · have hb' : b ∈ ps := (sortS_perm ps).mem_iff.mp hb
        show if (!decide (b = one)) = true then _ else _
        by_cases e : b = one
        · rw [decide_eq_true e]
          have : cnt us (one, b) = 0 := by unfold cnt; rw [if_pos e.symm]
          rw [this] at h
          exact iteF h
        · rw [decide_eq_false e]
          refine iteT ⟨show 1 ≤ lim by decide, [b], own, rfl, show 1 ≤ 300 by decide, by omega, fun p h => by rw [List.mem_singleton.mp h]; exact ⟨(plen hb').2, (plen hb').1⟩, fun m h => mlen (ownm m h), Nat.zero_le _, ?_⟩
          show oEq true (.lst ((own.filter fun m => [b].any fun p => cov p m).map D.str)) (.lst (([] : List Str).map D.str)) _
          refine oEq_lst (m := []) (fun s hs => (hm.path s (ownm s (List.mem_filter.mp hs).1)).asc) (by simp) ?_
          show Q (!decide ((own.filter fun m => [b].any fun p => cov p m) = [])) f
          have : (!decide ((own.filter fun m => [b].any fun p => cov p m) = [])) = decide (0 < cnt us (one, b)) := by
            rw [← decide_not]
            refine decide_eq_decide.mpr ⟨fun hne => ?_, fun hc hnil => ?_⟩
            · obtain ⟨m, hm2⟩ := List.exists_mem_of_ne_nil _ hne
              obtain ⟨k1, k2⟩ := List.mem_filter.mp hm2
              rw [← hown] at k1
              obtain ⟨u, k3, rfl⟩ := List.mem_map.mp k1
              obtain ⟨k4, k5⟩ := List.mem_filter.mp k3
              exact use_cnt (Ne.symm e) k4 k5 (by simpa using k2)
            · obtain ⟨_, u, k1, k2, k3⟩ := cnt_use hc
              have : u.2 ∈ own.filter fun m => [b].any fun p => cov p m := by
                refine List.mem_filter.mpr ⟨?_, by simpa using k3⟩
                rw [← hown]
                exact List.mem_map.mpr ⟨u, List.mem_filter.mpr ⟨k1, k2⟩, rfl⟩
              rw [hnil] at this
              cases this
          rw [this]
          exact h
      · refine ⟨by rw [List.length_map]; exact L1 (by omega), hN _ _ ⟨rfl, _, _, _, _, by rw [List.map_append]; rfl⟩⟩
    · rintro r f ⟨rfl, a, b, c, d, rfl⟩
      exact q
/-! look_over -/
theorem sc_look_over : FnScope ["paths", "index", "path"] ["paths"] (defScope s_look_over) := ⟨rfl, rfl, rfl, by decide +kernel, rfl, by decide +kernel, by decide +kernel⟩
def Sp_look_over : DSp := fun _ ds f Q => ∃ ps : List Str, ds = [.ftp (ps.map D.str)] ∧ PVm ps ∧ Q .none f
set_option maxHeartbeats 2000000 in
theorem ok_look_over (d : Df K mg "look_over" s_look_over) (m_enumerate : mg "enumerate" = none) (c_first_overlap : Cal P w K mg base 3 "first_overlap" ["paths", "others"] Sp_first_overlap) : Cal P w K mg base 4 "look_over" ["paths"] Sp_look_over := by
  obtain ⟨f, fd, F, m⟩ := d
  refine ⟨f, fd, dfn (k := 3) (S := Sp_look_over) F sc_look_over ?len (fun cdv A outer s H E hr => (dss_one (ds_for [] PassesOwn.never (di_enum m_enumerate (da_cons (de_v 0) da_nil)) (dg_tup rfl (dgs_cons (dg_name (i := 1) sc_look_over.nd) (dgs_cons (dg_name (i := 2) sc_look_over.nd) dgs_nil))) (dss_one (ds_if (dp_notN (de_callC c_first_overlap (hr.mono (by decide)) (da_cons (de_tup (da_cons (de_v 2) da_nil)) (da_cons (de_sl (de_v 0) do_none (do_some (de_v 1))) da_nil))) de_non) (dss_one ds_never) dss_nil))))) ?h, F.kp, F.binds fun _ _ _ _ _ _ us hl => match us, hl with | [_], _ => rfl, m⟩
  case len =>
    intro g ds n Q h; obtain ⟨_, rfl, _⟩ := h; rfl
  case h =>
    intro g ds n Q h
    obtain ⟨ms, rfl, hv, q⟩ := h
    refine dFor_inv (fun rest r f => f = n ∧ ∃ (i : Nat) (a c : Sl), rest = (enumD (ms.map D.str)).drop i ∧ r = [.sh (.ftp (ms.map D.str)), a, c]) _ _ _ ?_ (fun r f ⟨e, _⟩ => by subst e; exact q) ⟨rfl, 0, _, _, rfl, rfl⟩
    rintro d rest r f N ⟨rfl, i, a, c, hr, rfl⟩ hN
    have hd : (enumD (ms.map D.str))[i]? = some d := by
      have := congrArg List.head? hr
      rw [List.head?_drop] at this
      exact this.symm
    obtain ⟨x, hx, rfl⟩ := enumD_get hd
    rw [List.getElem?_map] at hx
    cases em : ms[i]? with
    | none => rw [em] at hx; cases hx
    | some m =>
      rw [em] at hx
      cases hx
      have hm : m ∈ ms := List.mem_of_getElem? em
      have hi : i < ms.length := (List.getElem?_eq_some_iff.mp em).1
      have et : cutD (ms.map D.str) none (some (i : Int)) = (ms.take i).map D.str := by rw [cutD_take, List.map_take]
      have hno : firstOv [m] (ms.take i) = .none := by
        unfold firstOv
        rw [List.find?_cons]
        have : (ms.take i).any (ovl m) = false := by
          rw [List.any_eq_false]
          intro z hz
          obtain ⟨j, hj, ez⟩ := List.getElem_of_mem hz
          rw [List.length_take] at hj
          rw [List.getElem_take] at ez
          have := List.pairwise_iff_getElem.mp hv.apart j i (by omega) hi (by omega)
          obtain ⟨_, e2⟩ := List.getElem?_eq_some_iff.mp em
          rw [ez, e2] at this
          rw [this]
          decide
        rw [this]
        rfl
      refine ⟨_, rfl, show 1 ≤ lim by decide, fun z => absurd z.2 (by rw [show HT.sIx (ms.map D.str).length (ms.map D.str).length (some (i : Int)) = min i (ms.map D.str).length from HT.sIx_nat _ _ i, List.length_map]; omega), [m], ms.take i, ?_, ⟨show 1 ≤ 1000 by decide, fun s hs => by rw [List.mem_singleton.mp hs]; exact hv.short.2 m hm⟩, ⟨Nat.le_trans (by rw [List.length_take]; exact Nat.min_le_right _ _) hv.short.1, fun s hs => hv.short.2 s (List.mem_of_mem_take hs)⟩, ?_⟩
      · show [D.tup [D.str m], D.tup (cutD (ms.map D.str) none (some (i : Int)))] = _
        rw [et]
        rfl
      · rw [hno]
        refine hN _ _ ⟨rfl, i + 1, _, _, ?_, rfl⟩
        rw [← List.tail_drop, ← hr]
        rfl
/-! rests_of -/
theorem sc_rests_of : FnScope ["counts", "paths", "one", "other"] ["counts", "paths"] (defScope s_rests_of) := ⟨rfl, rfl, rfl, by decide +kernel, rfl, by decide +kernel, by decide +kernel⟩
def Sp_rests_of : DSp := fun _ ds f Q => ∃ (us : List Us) (ps : List Str), ds = [cntT us ps, .ftp (ps.map D.str)] ∧ PVm ps ∧ Q (rstT us ps) f
set_option maxHeartbeats 2000000 in
theorem ok_rests_of (d : Df K mg "rests_of" s_rests_of) (m_sorted : mg "sorted" = none) : Cal P w K mg base 1 "rests_of" ["counts", "paths"] Sp_rests_of := by
  obtain ⟨f, fd, F, m⟩ := d
  refine ⟨f, fd, dfn (k := 0) (S := Sp_rests_of) F sc_rests_of ?len (fun cdv A outer s H E hr => (dss_one (ds_ret (de_dc (own := [("one", 2)]) sc_rests_of.nd (di_seq (de_v 1)) (blkOk_by (own := [("one", 2)]) (N := ["counts", "paths", "one", "other"]) (sc := defScope s_rests_of) (by decide +kernel)) (fun _ _ _ _ _ => dg_name (i := 2) sc_rests_of.nd) (fun _ _ _ _ _ => dts_nil) (fun _ _ _ _ _ => (de_v 2)) (fun _ _ _ _ _ => (dl_lc (own := [("other", 3)]) rfl sc_rests_of.nd (di_seq (de_sorted hr m_sorted (da_cons (de_v 1) da_nil))) (blkOk_by (own := [("other", 3)]) (N := ["counts", "paths", "one", "other"]) (sc := _) (by rfl)) (fun _ _ _ _ _ => dg_name (i := 3) sc_rests_of.nd) (fun _ _ _ _ _ => dts_one (dp_gt (de_dgetT hr (de_v 0) (de_tup (da_cons (de_v 2) (da_cons (de_v 3) da_nil)))) de_int)) (fun _ _ _ _ _ => (de_v 3))).e))))) ?h, F.kp, F.binds fun _ _ _ _ _ _ us hl => match us, hl with | [_, _], _ => rfl, m⟩
  case len =>
    intro g ds n Q h; obtain ⟨_, _, rfl, _⟩ := h; rfl
  case h =>
    intro g ds n Q h
    obtain ⟨us, ps, rfl, hp, q⟩ := h
    have hl := hp.len
    have hll : ps.length * ps.length ≤ 576 := Nat.mul_le_mul hl hl
    refine ⟨by rw [List.length_map]; exact L1 (by omega), ?_⟩
    refine dcMs (rstD us ps) ps [] n hp.nd (fun x hx => ⟨_, rfl, fun f Q q => q, fun f Q q => ?_⟩) q
    refine ⟨sorts_strs (L1 (by omega)) (fun s hs => (hp.path s hs).asc), ?_⟩
    rw [sortD_strs]
    refine ⟨by rw [List.length_map, (sortS_perm ps).length_eq]; exact L1 (by omega), ?_⟩
    refine lcF D.str (fun b => decide (0 < cnt us (x, b))) (sortS ps) f (fun b hb => ⟨_, rfl, fun f Q h => ?_, fun _ f Q h => h⟩) q
    have hb' : b ∈ ps := (sortS_perm ps).mem_iff.mp hb
    refine ⟨show 2 ≤ lim by decide, kPair (x, b), _, rfl, lookT_pair (mem_prs.mpr ⟨hx, hb'⟩), ?_⟩
    show Q (decide ((0 : Int) < ((cnt us (x, b) : Nat) : Int))) f
    rw [show decide ((0 : Int) < ((cnt us (x, b) : Nat) : Int)) = decide (0 < cnt us (x, b)) from decide_eq_decide.mpr (by omega)]
    exact h
/-! first_ring -/
theorem sc_first_ring : FnScope ["program", "paths", "rests", "owners", "before", "best", "start", "steps", "many", "path", "evidence", "other"] ["program", "paths", "rests"] (defScope s_first_ring) := ⟨rfl, rfl, rfl, by decide +kernel, rfl, by decide +kernel, by decide +kernel⟩
def Sp_first_ring : DSp := fun _ ds f Q => ∃ (ms : List Str) (us : List Us) (ks ps : List Str), ds = [prgD ms us ks, .ftp (ps.map D.str), rstT us ps] ∧ PVm ms ∧ PVu ms us ∧ PVm ps ∧ Q (optU (frR us ps)) f
set_option maxHeartbeats 2000000 in
theorem ok_first_ring (d : Df K mg "first_ring" s_first_ring) (m_len : mg "len" = none) (m_min : mg "min" = none) (c_ring_from : Cal P w K mg base 3 "ring_from" ["program", "owners", "steps", "start", "many"] Sp_ring_from) (c_steps_to : Cal P w K mg base 1 "steps_to" ["before", "goals"] Sp_steps_to) (c_owners_of : Cal P w K mg base 3 "owners_of" ["program", "paths"] Sp_owners_of) : Cal P w K mg base 4 "first_ring" ["program", "paths", "rests"] Sp_first_ring := by
  obtain ⟨f, fd, F, m⟩ := d
  refine ⟨f, fd, dfn (k := 3) (S := Sp_first_ring) F sc_first_ring ?len (fun cdv A outer s H E hr => (dss_cons (ds_set false (i := 3) sc_first_ring.nd (de_callC c_owners_of (hr.mono (by decide)) (da_cons (de_v 0) (da_cons (de_v 1) da_nil))))
      (dss_cons (ds_setDcS (i := 4) (own := [("path", 9)]) sc_first_ring.nd (di_seq (de_v 1)) (blkOk_by (own := [("path", 9)]) (N := ["program", "paths", "rests", "owners", "before", "best", "start", "steps", "many", "path", "evidence", "other"]) (sc := defScope s_first_ring) (by decide +kernel)) (fun _ _ _ _ _ => dg_name (i := 9) sc_first_ring.nd) (fun _ _ _ _ _ => dts_nil) (fun _ _ _ _ _ => (de_v 9)) (fun _ _ _ _ _ => (dl_lc (own := [("other", 11)]) rfl sc_first_ring.nd (di_seq (de_v 1)) (blkOk_by (own := [("other", 11)]) (N := ["program", "paths", "rests", "owners", "before", "best", "start", "steps", "many", "path", "evidence", "other"]) (sc := _) (by rfl)) (fun _ _ _ _ _ => dg_name (i := 11) sc_first_ring.nd) (fun _ _ _ _ _ => dts_one (dp_in hr (de_v 9) (de_dget hr (de_v 2) (de_v 11)))) (fun _ _ _ _ _ => (de_v 11))).e))
      (dss_cons (ds_set false (i := 5) sc_first_ring.nd de_non)
      (dss_cons (ds_for [] PassesOwn.never (di_seq (de_v 1)) (dg_name (i := 6) sc_first_ring.nd) (dss_cons (ds_set false (i := 7) sc_first_ring.nd (de_callC c_steps_to (hr.mono (by decide)) (da_cons (de_v 4) (da_cons (dl_lst (da_cons (de_v 6) da_nil)).e da_nil))))
      (dss_cons (ds_set false (i := 8) sc_first_ring.nd (de_minZ hr m_min (dl_lc (own := [("other", 11)]) rfl sc_first_ring.nd (di_seq (de_dget hr (de_v 2) (de_v 6))) (blkOk_by (own := [("other", 11)]) (N := ["program", "paths", "rests", "owners", "before", "best", "start", "steps", "many", "path", "evidence", "other"]) (sc := defScope s_first_ring) (by decide +kernel)) (fun _ _ _ _ _ => dg_name (i := 11) sc_first_ring.nd) (fun _ _ _ _ _ => dts_one (dp_din hr (de_v 11) (de_v 7))) (fun _ _ _ _ _ => (de_add (de_dget hr (de_v 7) (de_v 11)) de_int))).e))
      (dss_one (ds_if (DW.p (dw_and (dp_gt (de_v 8) de_int) (dw_and1 (DW.p (dw_or (dp_isN (de_v 5) de_non) (dw_or1 (dp_le (de_v 8) (de_len m_len (da_cons (de_v 5) da_nil))))))))) (dss_cons (ds_set false (i := 10) sc_first_ring.nd (de_callC c_ring_from (hr.mono (by decide)) (da_cons (de_v 0) (da_cons (de_v 3) (da_cons (de_v 7) (da_cons (de_v 6) (da_cons (de_v 8) da_nil)))))))
      (dss_one (ds_if (DW.p (dw_or (dp_isN (de_v 5) de_non) (dw_or1 (dp_ltD hr.units (de_tup (da_cons (de_len m_len (da_cons (de_v 10) da_nil)) (da_cons (de_v 10) da_nil))) (de_tup (da_cons (de_len m_len (da_cons (de_v 5) da_nil)) (da_cons (de_v 5) da_nil))))))) (dss_one (ds_set false (i := 5) sc_first_ring.nd (de_v 10))) dss_nil))) dss_nil)))))
      (dss_one (ds_ret (de_v 5)))))))) ?h, F.kp, F.binds fun _ _ _ _ _ _ us hl => match us, hl with | [_, _, _], _ => rfl, m⟩
  case len =>
    intro g ds n Q h; obtain ⟨_, _, _, _, rfl, _⟩ := h; rfl
  case h =>
    intro g ds n Q h
    obtain ⟨ms, us, ks, ps, rfl, hm, hu, hp, q⟩ := h
    have hl := hp.len
    refine ⟨ms, us, ks, ps, rfl, hm, hp, ?_⟩
    simp only [List.set_cons_succ, List.set_cons_zero, setsR, startR, List.map_cons, List.map_nil, List.cons_append, List.nil_append, List.replicate_succ, List.replicate_zero, List.length_cons, List.length_nil, Nat.reduceAdd, Nat.reduceSub]
    refine ⟨by rw [List.length_map]; exact L1 (by omega), ?_⟩
    have rasc : ∀ s ∈ ps, asc s := fun s hs => (hp.path s hs).asc
    refine dcMs (fun p => .lst ((ps.filter fun o => decide (p ∈ rst us ps o)).map D.str)) ps [] n hp.nd (fun x hx => ⟨_, rfl, fun f Q q => q, fun f Q q => ?_⟩) ?_
    · refine ⟨by rw [List.length_map]; exact L1 (by omega), ?_⟩
      refine lcF D.str (fun o => decide (x ∈ rst us ps o)) ps f (fun o ho => ⟨_, rfl, fun f Q h => ?_, fun _ f Q h => h⟩) q
      refine ⟨.inr o, _, rfl, look_map ho, shaped_str (rasc x hx), shpS fun s hs => rasc s (mem_rst.mp hs).1, ?_⟩
      show Q ((pyA ((rst us ps o).map D.str)).any fun z => PyData.eqv z (D.str x).py) f
      rw [anyS']
      exact h
    simp only [List.set_cons_succ, List.set_cons_zero, setsR, startR, List.map_cons, List.map_nil, List.cons_append, List.nil_append, List.replicate_succ, List.replicate_zero, List.length_cons, List.length_nil, Nat.reduceAdd, Nat.reduceSub]
    refine dFor_list D.str (fun done rest r f => f = n ∧ ∃ (best : Option (List Us)) (a b c d e z : Sl), r = [.sh (prgD ms us ks), .sh (.ftp (ps.map D.str)), .sh (rstT us ps), .sh (ownT (sortS ms) ps), .sh (lnkD ps (bE us ps)), .sh (optU best), a, b, c, d, e, z] ∧ best = done.foldl (frB us ps) none ∧ ∀ w, best = some w → w.length ≤ 1000 ∧ ∀ u ∈ w, u ∈ us) ps _ _ ?_ ?_ ⟨rfl, none, .no, .no, .no, .no, .no, .no, ?_, rfl, fun _ h => nomatch h⟩
    · rintro done s rest r f N hx ⟨rfl, best, a, b, c, d, e, z, rfl, hb, hw⟩ hN
      have hs : s ∈ ps := by rw [hx]; simp
      have hnext : (done ++ [s]).foldl (frB us ps) none = frB us ps best s := by rw [List.foldl_append, ← hb]; rfl
      have hw2 := frB_mem (best := best) hw hl hs
      refine ⟨_, rfl, show 1 ≤ lim by decide, ps, bE us ps, [s], rfl, hp.nd, hl, rasc, bE_mem, by simp, fun g hg => by rw [List.mem_singleton.mp hg]; exact hs, fun fk dist h1 h2 h3 => ?_⟩
      have hS : Stps (bE us ps) [s] fk dist := ⟨h1, h2, h3⟩
      simp only [List.set_cons_succ, List.set_cons_zero, setsR, startR, List.map_cons, List.map_nil, List.cons_append, List.nil_append, List.replicate_succ, List.replicate_zero, List.length_cons, List.length_nil, Nat.reduceAdd, Nat.reduceSub]
      refine ⟨.inr s, _, rfl, look_map hs, by rw [List.length_map]; exact L1 (Nat.le_trans (List.length_filter_le _ _) (by rw [(sortS_perm ps).length_eq]; omega)), ?_⟩
      refine lcT D.str D.int (fun b => decide (b ∈ fk)) (fun b => ((dist b : Nat) : Int) + 1) (rst us ps s) [] f (fun b hb' => ⟨_, rfl, fun f Q h => ?_, fun hb2 f Q h => ?_⟩) ?_
      · refine ⟨.inr b, rfl, ?_⟩
        show Q (decide ((Sum.inr b : Key) ∈ fk.map (Sum.inr : Str → Key))) f
        rw [show decide ((Sum.inr b : Key) ∈ fk.map (Sum.inr : Str → Key)) = decide (b ∈ fk) from decide_eq_decide.mpr mem_inr]
        exact h
      · exact ⟨.inr b, _, rfl, look_map (of_decide_eq_true hb2), h⟩
      rw [List.nil_append]
      refine ⟨_, rfl, fun hz => ?_, fun m hm1 hm2 => ?_⟩
      · -- none leads back
        simp only [List.set_cons_succ, List.set_cons_zero, setsR, startR, List.map_cons, List.map_nil, List.cons_append, List.nil_append, List.replicate_succ, List.replicate_zero, List.length_cons, List.length_nil, Nat.reduceAdd, Nat.reduceSub]
        have hnone : mnO us ps s = none := mnO_none fun b hb' => by
          rcases hS.dO b with ⟨m1, _⟩ | ⟨_, m2⟩
          · have : b ∈ (rst us ps s).filter fun b => decide (b ∈ fk) := List.mem_filter.mpr ⟨hb', decide_eq_true m1⟩
            rw [List.map_eq_nil_iff.mp hz] at this
            cases this
          · exact m2
        have hstay : frB us ps best s = best := by unfold frB; rw [hnone]
        exact hN _ _ ⟨rfl, best, _, _, _, _, _, _, rfl, by rw [hnext, hstay], hw⟩
      · obtain ⟨b, hb1, rfl⟩ := List.mem_map.mp hm1
        obtain ⟨hb2, hb3⟩ := List.mem_filter.mp hb1
        have hb3 := of_decide_eq_true hb3
        have hD := hS.ds b hb3
        have hMn : Mn us ps s (dist b) := ⟨⟨b, hb2, dO_some.mpr hD⟩, fun c hc k hk => by
          rcases hS.dO c with ⟨m1, m2⟩ | ⟨_, m2⟩
          · rw [m2] at hk
            cases hk
            have := hm2 _ (List.mem_map.mpr ⟨c, List.mem_filter.mpr ⟨hc, decide_eq_true m1⟩, rfl⟩)
            omega
          · rw [m2] at hk; cases hk⟩
        have hM := hMn.lt hs
        have hmn := mnO_some.mpr hMn
        have hbb : ∃ b' ∈ ps, 0 < cnt us (s, b') ∧ dO (bE us ps) [s] b' = some (dist b) := ⟨b, (mem_rst.mp hb2).1, (mem_rst.mp hb2).2, dO_some.mpr hD⟩
        simp only [List.set_cons_succ, List.set_cons_zero, setsR, startR, List.map_cons, List.map_nil, List.cons_append, List.nil_append, List.replicate_succ, List.replicate_zero, List.length_cons, List.length_nil, Nat.reduceAdd, Nat.reduceSub]
        have easc : ∀ u ∈ evU us ps s (dist b + 1) s, ascU u := fun u h => hu.asc hm u (evU_mem _ _ u h)
        show if decide ((0 : Int) < ((dist b : Nat) : Int) + 1) = true then _ else _
        rw [decide_eq_true (by omega)]
        refine iteT ?_
        cases best with
        | none =>
          have hst : frB us ps none s = some (evU us ps s (dist b + 1) s) := by unfold frB; rw [hmn]
          refine ⟨ms, us, ks, ps, fk, dist, s, dist b, rfl, hm, hu, hp, hs, hS, by omega, hbb, ?_⟩
          simp only [List.set_cons_succ, List.set_cons_zero, setsR, startR, List.map_cons, List.map_nil, List.cons_append, List.nil_append, List.replicate_succ, List.replicate_zero, List.length_cons, List.length_nil, Nat.reduceAdd, Nat.reduceSub]
          exact hN _ _ ⟨rfl, _, _, _, _, _, _, _, rfl, by rw [hnext, hst], fun w e => hw2 w (by rw [hst]; exact e)⟩
        | some w =>
          have hst : frB us ps (some w) s = if dist b + 1 ≤ w.length then (if ltE (evU us ps s (dist b + 1) s) w = true then some (evU us ps s (dist b + 1) s) else some w) else some w := by unfold frB; rw [hmn]
          obtain ⟨w1, w2⟩ := hw w rfl
          have wasc : ∀ u ∈ w, ascU u := fun u h => hu.asc hm u (w2 u h)
          show if decide (((dist b : Nat) : Int) + 1 ≤ (((w.map pairD).length : Nat) : Int)) = true then _ else _
          by_cases hle : dist b + 1 ≤ w.length
          · rw [decide_eq_true (by rw [List.length_map]; omega)]
            rw [if_pos hle] at hst
            refine iteT ⟨ms, us, ks, ps, fk, dist, s, dist b, rfl, hm, hu, hp, hs, hS, by omega, hbb, ?_⟩
            simp only [List.set_cons_succ, List.set_cons_zero, setsR, startR, List.map_cons, List.map_nil, List.cons_append, List.nil_append, List.replicate_succ, List.replicate_zero, List.length_cons, List.length_nil, Nat.reduceAdd, Nat.reduceSub]
            refine ⟨show 2 ≤ lim by decide, show 2 ≤ lim by decide, ltE_ok easc wasc ?_⟩
            show if ltE (evU us ps s (dist b + 1) s) w = true then _ else _
            by_cases hlt : ltE (evU us ps s (dist b + 1) s) w = true
            · rw [hlt]
              rw [if_pos hlt] at hst
              exact iteT (hN _ _ ⟨rfl, _, _, _, _, _, _, _, rfl, by rw [hnext, hst], fun w e => hw2 w (by rw [hst]; exact e)⟩)
            · rw [Bool.eq_false_iff.mpr hlt]
              rw [if_neg hlt] at hst
              exact iteF (hN _ _ ⟨rfl, some w, _, _, _, _, _, _, rfl, by rw [hnext, hst], fun w e => hw2 w (by rw [hst]; exact e)⟩)
          · rw [decide_eq_false (by rw [List.length_map]; omega)]
            rw [if_neg hle] at hst
            exact iteF (hN _ _ ⟨rfl, some w, _, _, _, _, _, _, rfl, by rw [hnext, hst], fun w e => hw2 w (by rw [hst]; exact e)⟩)
    · rintro r f ⟨rfl, best, a, b, c, d, e, z, rfl, hb, hw⟩
      have : best = frR us ps := hb
      rw [← this] at q
      exact q
    · rw [bE_lnk hp.nd]
      rfl
theorem sc_x_Circular : FnScope ["self", "evidence"] ["self", "evidence"] (defScope s_x_Circular) := ⟨rfl, rfl, rfl, by decide +kernel, rfl, by decide +kernel, by decide +kernel⟩
theorem ok_x_Circular {C fI : Addr} {fd : FuncData} (T : OexC K C) (hno : PySem.W.findIn K (.ref C) "evidence" = some none) (F : Fun K "__init__" "Circular.__init__" s_x_Circular fI fd) (i1 : PySem.W.findIn K (.ref C) "__init__" = some (some (.ref fI))) (i2 : PySem.W.typeIn K (.ref fI) = some (.type "function")) (hns : PySem.W.nsIn K mainGlobals "Circular" = some (some (.ref C))) (hm : mg "Circular" = some (.ref C)) : Exn P w K mg base 1 "Circular" "evidence" :=
  exn_mk T hno F i1 i2 hns hm sc_x_Circular (F.binds fun _ _ _ _ _ _ us hl => match us, hl with | [_, _], _ => rfl) (fun cdv A outer s H E => pss_one (ps_ost (pv 0) (pv 1)))
/-! checked_rests -/
theorem sc_checked_rests : FnScope ["program", "paths", "rests", "evidence"] ["program", "paths"] (defScope s_checked_rests) := ⟨rfl, rfl, rfl, by decide +kernel, rfl, by decide +kernel, by decide +kernel⟩
def Sp_checked_rests : DSpX := fun _ ds f Q E => ∃ (ms : List Str) (us : List Us) (ks ps : List Str), ds = [prgD ms us ks, .ftp (ps.map D.str)] ∧ PVm ms ∧ PVu ms us ∧ PVm ps ∧
  (∀ w, frR us ps = some w → E (.obj "Circular" ["evidence"] [tpU w]) f) ∧ (frR us ps = none → Q (rstT us ps) f)
set_option maxHeartbeats 2000000 in
theorem ok_checked_rests (d : Df K mg "checked_rests" s_checked_rests) (x_Circular : Exn P w K mg base 1 "Circular" "evidence") (c_first_ring : Cal P w K mg base 4 "first_ring" ["program", "paths", "rests"] Sp_first_ring) (c_rests_of : Cal P w K mg base 1 "rests_of" ["counts", "paths"] Sp_rests_of) (c_counts_of : Cal P w K mg base 4 "counts_of" ["program", "paths"] Sp_counts_of) (c_look_over : Cal P w K mg base 4 "look_over" ["paths"] Sp_look_over) : CalX P w K mg base 5 "checked_rests" ["program", "paths"] Sp_checked_rests := by
  obtain ⟨f, fd, F, m⟩ := d
  refine ⟨f, fd, dfnX (k := 4) (S := Sp_checked_rests) F sc_checked_rests ?len (fun cdv A outer s H E hr => (dss_cons (ds_expr (de_callC c_look_over (hr.mono (by decide)) (da_cons (de_v 1) da_nil)))
      (dss_cons (ds_set false (i := 2) sc_checked_rests.nd (de_callC c_rests_of (hr.mono (by decide)) (da_cons (de_callC c_counts_of (hr.mono (by decide)) (da_cons (de_v 0) (da_cons (de_v 1) da_nil))) (da_cons (de_v 1) da_nil))))
      (dss_cons (ds_set false (i := 3) sc_checked_rests.nd (de_callC c_first_ring (hr.mono (by decide)) (da_cons (de_v 0) (da_cons (de_v 1) (da_cons (de_v 2) da_nil)))))
      (dss_cons (ds_if (dp_notN (de_v 3) de_non) (dss_one (ds_raise x_Circular (hr.mono (by decide)) (de_v 3))) dss_nil)
      (dss_one (ds_ret (de_v 2)))))))) ?h, F.kp, F.binds fun _ _ _ _ _ _ us hl => match us, hl with | [_, _], _ => rfl, m⟩
  case len =>
    intro g ds n Q E h; obtain ⟨_, _, _, _, rfl, _⟩ := h; rfl
  case h =>
    intro g ds n Q E h
    obtain ⟨ms, us, ks, ps, rfl, hm, hu, hp, e, q⟩ := h
    refine ⟨ps, rfl, hp, ?_⟩
    simp only [List.set_cons_succ, List.set_cons_zero, setsR, startR, List.map_cons, List.map_nil, List.cons_append, List.nil_append, List.replicate_succ, List.replicate_zero, List.length_cons, List.length_nil, Nat.reduceAdd, Nat.reduceSub]
    refine ⟨ms, us, ks, ps, rfl, hm, hu, hp, ?_⟩
    refine ⟨us, ps, rfl, hp, ?_⟩
    simp only [List.set_cons_succ, List.set_cons_zero, setsR, startR, List.map_cons, List.map_nil, List.cons_append, List.nil_append, List.replicate_succ, List.replicate_zero, List.length_cons, List.length_nil, Nat.reduceAdd, Nat.reduceSub]
    refine ⟨ms, us, ks, ps, rfl, hm, hu, hp, ?_⟩
    simp only [List.set_cons_succ, List.set_cons_zero, setsR, startR, List.map_cons, List.map_nil, List.cons_append, List.nil_append, List.replicate_succ, List.replicate_zero, List.length_cons, List.length_nil, Nat.reduceAdd, Nat.reduceSub]
    cases hf : frR us ps with
    | none => exact q hf
    | some w => exact e w hf
/-! levels -/
theorem sc_levels : FnScope ["program", "paths", "rests", "place", "turn", "most", "one", "path", "other", "row"] ["program", "paths"] (defScope s_levels) := ⟨rfl, rfl, rfl, by decide +kernel, rfl, by decide +kernel, by decide +kernel⟩
def Sp_levels : DSpX := fun _ ds f Q E => ∃ (ms : List Str) (us : List Us) (ks ps : List Str), ds = [prgD ms us ks, .ftp (ps.map D.str)] ∧ PVm ms ∧ PVu ms us ∧ PVm ps ∧ ps ≠ [] ∧
  (∀ w, frR us ps = some w → E (.obj "Circular" ["evidence"] [tpU w]) f) ∧ (frR us ps = none → ∀ lv most, LvOk (fE us ps) ps lv → Mst ps lv most → Q (rowsD ps lv most) f)
set_option maxHeartbeats 2000000 in
theorem ok_levels (d : Df K mg "levels" s_levels) (m_range : mg "range" = none) (m_sorted : mg "sorted" = none) (m_tuple : mg "tuple" = none) (m_max : mg "max" = none) (m_len : mg "len" = none) (c_checked_rests : CalX P w K mg base 5 "checked_rests" ["program", "paths"] Sp_checked_rests) : CalX P w K mg base 6 "levels" ["program", "paths"] Sp_levels := by
  obtain ⟨f, fd, F, m⟩ := d
  refine ⟨f, fd, dfnX (k := 5) (S := Sp_levels) F sc_levels ?len (fun cdv A outer s H E hr => (dss_cons (ds_setX (i := 2) sc_levels.nd (dex_call c_checked_rests (hr.mono (by decide)) (da_cons (de_v 0) (da_cons (de_v 1) da_nil))))
      (dss_cons (ds_setDcC (i := 3) (own := [("path", 7)]) sc_levels.nd (di_seq (de_v 1)) (blkOk_by (own := [("path", 7)]) (N := ["program", "paths", "rests", "place", "turn", "most", "one", "path", "other", "row"]) (sc := defScope s_levels) (by decide +kernel)) (fun _ _ _ _ _ => dg_name (i := 7) sc_levels.nd) (fun _ _ _ _ _ => dts_nil) (fun _ _ _ _ _ => (de_v 7)) (fun _ _ _ _ _ => de_int))
      (dss_cons (ds_for [] (passes_of rfl) (di_range1 m_range (da_cons (de_len m_len (da_cons (de_v 1) da_nil)) da_nil)) (dg_name (i := 4) sc_levels.nd) (dss_one (ds_for [] (passes_of rfl) (di_seq (de_v 1)) (dg_name (i := 6) sc_levels.nd) (dss_one (ds_for [] (passes_of rfl) (di_seq (de_dget hr (de_v 2) (de_v 6))) (dg_name (i := 8) sc_levels.nd) (dss_one (ds_setKey true hr (i := 3) (de_v 8) (de_callB (call_max2 rfl) sc_max2 (by rfl) m_max (by decide +kernel) (da_cons (de_dget hr (de_v 3) (de_v 8)) (da_cons (de_add (de_dget hr (de_v 3) (de_v 6)) de_int) da_nil))))))))))
      (dss_cons (ds_set true (i := 5) sc_levels.nd (de_callB (cr_max rfl) sc_maxL (by rfl) m_max (by decide +kernel) (da_cons (dl_lc (own := [("path", 7)]) rfl sc_levels.nd (di_seq (de_v 1)) (blkOk_by (own := [("path", 7)]) (N := ["program", "paths", "rests", "place", "turn", "most", "one", "path", "other", "row"]) (sc := defScope s_levels) (by decide +kernel)) (fun _ _ _ _ _ => dg_name (i := 7) sc_levels.nd) (fun _ _ _ _ _ => dts_nil) (fun _ _ _ _ _ => (de_dget hr (de_v 3) (de_v 7)))).e da_nil)))
      (dss_one (ds_ret (de_callTy call_tuple_of sc_tuple (by rfl) m_tuple (by decide +kernel) (da_cons (dl_lc (own := [("row", 9)]) rfl sc_levels.nd (di_range1 m_range (da_cons (de_add (de_v 5) de_int) da_nil)) (blkOk_by (own := [("row", 9)]) (N := ["program", "paths", "rests", "place", "turn", "most", "one", "path", "other", "row"]) (sc := defScope s_levels) (by decide +kernel)) (fun _ _ _ _ _ => dg_name (i := 9) sc_levels.nd) (fun _ _ _ _ _ => dts_nil) (fun _ _ _ _ _ => (de_callTy call_tuple_of sc_tuple (by rfl) m_tuple (by decide +kernel) (da_cons (dl_lc (own := [("path", 7)]) rfl sc_levels.nd (di_seq (de_sorted hr m_sorted (da_cons (de_v 1) da_nil))) (blkOk_by (own := [("path", 7)]) (N := ["program", "paths", "rests", "place", "turn", "most", "one", "path", "other", "row"]) (sc := _) (by rfl)) (fun _ _ _ _ _ => dg_name (i := 7) sc_levels.nd) (fun _ _ _ _ _ => dts_one (dp_eq hr.units (de_dget hr (de_v 3) (de_v 7)) (de_v 9))) (fun _ _ _ _ _ => (de_v 7))).e da_nil)))).e da_nil))))))))) ?h, F.kp, F.binds fun _ _ _ _ _ _ us hl => match us, hl with | [_, _], _ => rfl, m⟩
  case len =>
    intro g ds n Q E h; obtain ⟨_, _, _, _, rfl, _⟩ := h; rfl
  case h =>
    intro g ds n Q E h
    obtain ⟨ms, us, ks, ps, rfl, hm, hu, hp, hne, e, q⟩ := h
    have hl := hp.len
    have hpos := List.length_pos_iff.mpr hne
    refine ⟨ms, us, ks, ps, rfl, hm, hu, hp, e, fun hf => ?_⟩
    have hac : Acy (fE us ps) ps := (frR_acy.mp hf).turn fun a b => (fE_b b a).symm
    have q := q hf
    simp only [List.set_cons_succ, List.set_cons_zero, setsR, startR, List.map_cons, List.map_nil, List.cons_append, List.nil_append, List.replicate_succ, List.replicate_zero, List.length_cons, List.length_nil, Nat.reduceAdd, Nat.reduceSub]
    refine ⟨by rw [List.length_map]; exact L1 (by omega), ?_⟩
    refine dcMs (fun _ => .int 0) ps [] n hp.nd (fun x hx => ⟨_, rfl, fun f Q q => q, fun f Q q => q⟩) ?_
    simp only [List.set_cons_succ, List.set_cons_zero, setsR, startR, List.map_cons, List.map_nil, List.cons_append, List.nil_append, List.replicate_succ, List.replicate_zero, List.length_cons, List.length_nil, Nat.reduceAdd, Nat.reduceSub]
    have el : (((ps.map D.str).length : Nat) : Int) = ((ps.length : Nat) : Int) := by rw [List.length_map]
    show (_ ∧ _ ∧ _)
    rw [el]
    refine ⟨by omega, by omega, ?_⟩
    rw [show ((ps.length : Int)).toNat = ps.length from rfl]
    refine dFor_range (fun t r f => f = n ∧ ∃ (pl : Str → Nat) (a b c d z y : Sl), r = [.sh (prgD ms us ks), .sh (.ftp (ps.map D.str)), .sh (rstT us ps), .od (ps.map Sum.inr) (plD ps pl), a, b, c, d, z, y] ∧ RX (fE us ps) ps t pl) 0 _ _ _ ?_ ?_ ⟨rfl, fun _ => 0, _, _, _, _, _, _, rfl, RX.zero⟩
    · rintro t r f N ht ⟨rfl, p0, a, b, c, d, z, y, rfl, hR⟩ hN
      refine ⟨_, rfl, ?_⟩
      simp only [List.set_cons_succ, List.set_cons_zero, setsR, startR, List.map_cons, List.map_nil, List.cons_append, List.nil_append, List.replicate_succ, List.replicate_zero, List.length_cons, List.length_nil, Nat.reduceAdd, Nat.reduceSub]
      refine dFor_list D.str (fun done rest r f1 => f1 = f ∧ ∃ (pl : Str → Nat) (a b c d z y : Sl), r = [.sh (prgD ms us ks), .sh (.ftp (ps.map D.str)), .sh (rstT us ps), .od (ps.map Sum.inr) (plD ps pl), a, b, c, d, z, y] ∧ RY (fE us ps) ps p0 (fun a b => a ∈ done ∧ b ∈ rst us ps a) pl) ps _ _ ?_ ?_ ⟨rfl, p0, _, _, _, _, _, _, rfl, hR.turn.imp fun _ _ h => nomatch h.1⟩
      · rintro done one rest r f1 N2 hx ⟨rfl, pl, a, b, c, d, z, y, rfl, hY⟩ hN2
        have h1 : one ∈ ps := by rw [hx]; simp
        refine ⟨_, rfl, .inr one, _, rfl, look_map h1, ?_⟩
        refine dFor_list D.str (fun dn rst2 r f2 => f2 = f1 ∧ ∃ (pl : Str → Nat) (a b c d z : Sl), r = [.sh (prgD ms us ks), .sh (.ftp (ps.map D.str)), .sh (rstT us ps), .od (ps.map Sum.inr) (plD ps pl), a, b, .sh (.str one), c, d, z] ∧ RY (fE us ps) ps p0 (fun a b => (a ∈ done ∧ b ∈ rst us ps a) ∨ (a = one ∧ b ∈ dn)) pl) (rst us ps one) _ _ ?_ ?_ ⟨rfl, pl, _, _, _, _, _, rfl, hY.imp fun _ _ h => h.elim id fun h => nomatch h.2⟩
        · rintro dn oth rst2 r f2 N3 hx2 ⟨rfl, pl, a, b, c, d, z, rfl, hY⟩ hN3
          have h2 : oth ∈ rst us ps one := by rw [hx2]; simp
          obtain ⟨h3, h4⟩ := mem_rst.mp h2
          refine ⟨_, rfl, _, _, rfl, ?_⟩
          refine ⟨.inr oth, _, rfl, look_map h3, .inr one, _, rfl, look_map h1, rfl, .inr oth, rfl, by rw [List.length_map]; exact L1 (by omega), ?_⟩
          obtain ⟨w1, w2⟩ := pl_put (pl := pl) (a := one) h3
          refine hN3 _ _ ⟨rfl, relx pl one oth, a, b, c, .sh (.str oth), z, ?_, (hY.step h1 (mem_fE.mpr ⟨h1, h3, h4⟩)).imp fun x y hxy => ?_⟩
          · rw [← w2, w1]
            rfl
          · rcases hxy with h | ⟨h, h'⟩
            · exact .inl (.inl h)
            · rcases List.mem_append.mp h' with h' | h'
              · exact .inl (.inr ⟨h, h'⟩)
              · exact .inr ⟨h, List.mem_singleton.mp h'⟩
        · rintro r f2 ⟨rfl, pl, a, b, c, d, z, rfl, hY⟩
          refine hN2 _ _ ⟨rfl, pl, _, _, _, _, _, _, rfl, hY.imp fun x y hxy => ?_⟩
          obtain ⟨h, h'⟩ := hxy
          rcases List.mem_append.mp h with h | h
          · exact .inl ⟨h, h'⟩
          · have := List.mem_singleton.mp h
            subst this
            exact .inr ⟨rfl, h'⟩
      · rintro r f1 ⟨rfl, pl, a, b, c, d, z, y, rfl, hY⟩
        refine hN _ _ ⟨rfl, pl, _, _, _, _, _, _, rfl, RY.done hR (fun u hu => (fE_mem u hu).1) (hY.imp fun a b hab => ?_)⟩
        obtain ⟨m1, m2, m3⟩ := mem_fE.mp hab
        exact ⟨m1, mem_rst.mpr ⟨m2, m3⟩⟩
    · rintro r f ⟨rfl, pl, a, b, c, d, z, y, rfl, hR⟩
      have hL : LvOk (fE us ps) ps pl := hR.lv (fun u hu => (fE_mem u hu).2) hac
      refine ⟨by rw [List.length_map]; exact L1 (by omega), ?_⟩
      refine lcT D.str D.int (fun _ => true) (fun p => ((pl p : Nat) : Int)) ps [] _ (fun p hp' => ⟨_, rfl, fun f Q q => q, fun _ f Q q => ⟨.inr p, _, rfl, look_map hp', q⟩⟩) ?_
      rw [List.filter_eq_self.mpr (fun _ _ => rfl), List.nil_append]
      refine ⟨_, rfl, by rw [List.length_map]; exact hpos, fun m hm1 hm2 => ?_⟩
      obtain ⟨p1, hp1, rfl⟩ := List.mem_map.mp hm1
      have hM : Mst ps pl (pl p1) := ⟨⟨p1, hp1, rfl⟩, fun p hp' => by have := hm2 _ (List.mem_map.mpr ⟨p, hp', rfl⟩); omega⟩
      have hlt : pl p1 < ps.length := hac.short (fun u hu => (fE_mem u hu).2) (hL.wk p1 hp1)
      refine ⟨rfl, ?_⟩
      simp only [List.set_cons_succ, List.set_cons_zero, setsR, startR, List.map_cons, List.map_nil, List.cons_append, List.nil_append, List.replicate_succ, List.replicate_zero, List.length_cons, List.length_nil, Nat.reduceAdd, Nat.reduceSub]
      show (_ ∧ _ ∧ _)
      refine ⟨by omega, by omega, ?_⟩
      rw [show (((pl p1 : Nat) : Int) + 1).toNat = pl p1 + 1 by omega]
      refine ⟨by rw [intsD_len]; exact L1 (by omega), ?_⟩
      refine lcT (fun i : Nat => D.int (0 + (i : Int))) (fun r : Nat => .tup (((sortS ps).filter fun p => decide (pl p = r)).map D.str)) (fun _ => true) id (List.range (pl p1 + 1)) [] _ (fun i hi => ⟨_, rfl, fun f Q h => h, fun _ f Q h => ?_⟩) ?_
      · refine ⟨sorts_strs (L1 (by omega)) (fun s hs => (hp.path s hs).asc), ?_⟩
        rw [sortD_strs]
        refine ⟨by rw [List.length_map, (sortS_perm ps).length_eq]; exact L1 (by omega), ?_⟩
        refine lcF D.str (fun p => decide (pl p = i)) (sortS ps) f (fun p hp' => ⟨_, rfl, fun f Q h => ?_, fun _ f Q h => h⟩) h
        refine ⟨.inr p, _, rfl, look_map ((sortS_perm ps).mem_iff.mp hp'), ?_⟩
        show Q (decide (((pl p : Nat) : Int) = 0 + ((i : Nat) : Int))) f
        rw [show decide (((pl p : Nat) : Int) = 0 + ((i : Nat) : Int)) = decide (pl p = i) from decide_eq_decide.mpr (by omega)]
        exact h
      · rw [List.filter_eq_self.mpr (fun _ _ => rfl), List.map_id, List.nil_append]
        exact q pl _ hL hM
/-! tower -/
theorem sc_tower : FnScope ["program", "paths", "rests", "many", "turn", "most", "found", "one", "path", "other"] ["program", "paths"] (defScope s_tower) := ⟨rfl, rfl, rfl, by decide +kernel, rfl, by decide +kernel, by decide +kernel⟩
def Sp_tower : DSpX := fun _ ds f Q E => ∃ (ms : List Str) (us : List Us) (ks ps : List Str), ds = [prgD ms us ks, .ftp (ps.map D.str)] ∧ PVm ms ∧ PVu ms us ∧ PVm ps ∧ ps ≠ [] ∧
  (∀ w, frR us ps = some w → E (.obj "Circular" ["evidence"] [tpU w]) f) ∧ (frR us ps = none → ∀ lw most, LvOk (bE us ps) ps lw → Mst ps lw most → Q (.tup ((twO us ps lw most).map D.str)) f)
set_option maxHeartbeats 2000000 in
theorem ok_tower (d : Df K mg "tower" s_tower) (m_tuple : mg "tuple" = none) (m_sorted : mg "sorted" = none) (m_max : mg "max" = none) (m_range : mg "range" = none) (m_len : mg "len" = none) (c_checked_rests : CalX P w K mg base 5 "checked_rests" ["program", "paths"] Sp_checked_rests) : CalX P w K mg base 6 "tower" ["program", "paths"] Sp_tower := by
  obtain ⟨f, fd, F, m⟩ := d
  refine ⟨f, fd, dfnX (k := 5) (S := Sp_tower) F sc_tower ?len (fun cdv A outer s H E hr => (dss_cons (ds_setX (i := 2) sc_tower.nd (dex_call c_checked_rests (hr.mono (by decide)) (da_cons (de_v 0) (da_cons (de_v 1) da_nil))))
      (dss_cons (ds_setDcC (i := 3) (own := [("path", 8)]) sc_tower.nd (di_seq (de_v 1)) (blkOk_by (own := [("path", 8)]) (N := ["program", "paths", "rests", "many", "turn", "most", "found", "one", "path", "other"]) (sc := defScope s_tower) (by decide +kernel)) (fun _ _ _ _ _ => dg_name (i := 8) sc_tower.nd) (fun _ _ _ _ _ => dts_nil) (fun _ _ _ _ _ => (de_v 8)) (fun _ _ _ _ _ => de_int))
      (dss_cons (ds_for [] (passes_of rfl) (di_range1 m_range (da_cons (de_len m_len (da_cons (de_v 1) da_nil)) da_nil)) (dg_name (i := 4) sc_tower.nd) (dss_one (ds_for [] (passes_of rfl) (di_seq (de_v 1)) (dg_name (i := 7) sc_tower.nd) (dss_one (ds_for [] (passes_of rfl) (di_seq (de_dget hr (de_v 2) (de_v 7))) (dg_name (i := 9) sc_tower.nd) (dss_one (ds_setKey true hr (i := 3) (de_v 7) (de_callB (call_max2 rfl) sc_max2 (by rfl) m_max (by decide +kernel) (da_cons (de_dget hr (de_v 3) (de_v 7)) (da_cons (de_add (de_dget hr (de_v 3) (de_v 9)) de_int) da_nil))))))))))
      (dss_cons (ds_set true (i := 5) sc_tower.nd (de_callB (cr_max rfl) sc_maxL (by rfl) m_max (by decide +kernel) (da_cons (dl_lc (own := [("path", 8)]) rfl sc_tower.nd (di_seq (de_v 1)) (blkOk_by (own := [("path", 8)]) (N := ["program", "paths", "rests", "many", "turn", "most", "found", "one", "path", "other"]) (sc := defScope s_tower) (by decide +kernel)) (fun _ _ _ _ _ => dg_name (i := 8) sc_tower.nd) (fun _ _ _ _ _ => dts_nil) (fun _ _ _ _ _ => (de_dget hr (de_v 3) (de_v 8)))).e da_nil)))
      (dss_cons (ds_setL true (i := 6) sc_tower.nd (dl_lst (da_cons (de_ix (dl_lc (own := [("path", 8)]) rfl sc_tower.nd (di_seq (de_sorted hr m_sorted (da_cons (de_v 1) da_nil))) (blkOk_by (own := [("path", 8)]) (N := ["program", "paths", "rests", "many", "turn", "most", "found", "one", "path", "other"]) (sc := defScope s_tower) (by decide +kernel)) (fun _ _ _ _ _ => dg_name (i := 8) sc_tower.nd) (fun _ _ _ _ _ => dts_one (dp_eq hr.units (de_dget hr (de_v 3) (de_v 8)) (de_v 5))) (fun _ _ _ _ _ => (de_v 8))).e de_int) da_nil)))
      (dss_cons (ds_while (passes_of rfl) (dp_gt (de_dget hr (de_v 3) (de_ix (de_v 6) (de_neg de_int))) de_int) (dss_one (ds_app true (i := 6) (de_ix (dl_lc (own := [("path", 8)]) rfl sc_tower.nd (di_seq (de_dget hr (de_v 2) (de_ix (de_v 6) (de_neg de_int)))) (blkOk_by (own := [("path", 8)]) (N := ["program", "paths", "rests", "many", "turn", "most", "found", "one", "path", "other"]) (sc := defScope s_tower) (by decide +kernel)) (fun _ _ _ _ _ => dg_name (i := 8) sc_tower.nd) (fun _ _ _ _ _ => dts_one (dp_eq hr.units (de_dget hr (de_v 3) (de_v 8)) (de_sub (de_dget hr (de_v 3) (de_ix (de_v 6) (de_neg de_int))) de_int))) (fun _ _ _ _ _ => (de_v 8))).e de_int))))
      (dss_one (ds_ret (de_callTy call_tuple_of sc_tuple (by rfl) m_tuple (by decide +kernel) (da_cons (de_v 6) da_nil))))))))))) ?h, F.kp, F.binds fun _ _ _ _ _ _ us hl => match us, hl with | [_, _], _ => rfl, m⟩
  case len =>
    intro g ds n Q E h; obtain ⟨_, _, _, _, rfl, _⟩ := h; rfl
  case h =>
    intro g ds n Q E h
    obtain ⟨ms, us, ks, ps, rfl, hm, hu, hp, hne, e, q⟩ := h
    have hl := hp.len
    have hpos := List.length_pos_iff.mpr hne
    refine ⟨ms, us, ks, ps, rfl, hm, hu, hp, e, fun hf => ?_⟩
    have hac : Acy (bE us ps) ps := frR_acy.mp hf
    have q := q hf
    simp only [List.set_cons_succ, List.set_cons_zero, setsR, startR, List.map_cons, List.map_nil, List.cons_append, List.nil_append, List.replicate_succ, List.replicate_zero, List.length_cons, List.length_nil, Nat.reduceAdd, Nat.reduceSub]
    refine ⟨by rw [List.length_map]; exact L1 (by omega), ?_⟩
    refine dcMs (fun _ => .int 1) ps [] n hp.nd (fun x hx => ⟨_, rfl, fun f Q q => q, fun f Q q => q⟩) ?_
    simp only [List.set_cons_succ, List.set_cons_zero, setsR, startR, List.map_cons, List.map_nil, List.cons_append, List.nil_append, List.replicate_succ, List.replicate_zero, List.length_cons, List.length_nil, Nat.reduceAdd, Nat.reduceSub]
    have el : (((ps.map D.str).length : Nat) : Int) = ((ps.length : Nat) : Int) := by rw [List.length_map]
    show (_ ∧ _ ∧ _)
    rw [el]
    refine ⟨by omega, by omega, ?_⟩
    rw [show ((ps.length : Int)).toNat = ps.length from rfl]
    refine dFor_range (fun t r f => f = n ∧ ∃ (pl : Str → Nat) (a b c d z y : Sl), r = [.sh (prgD ms us ks), .sh (.ftp (ps.map D.str)), .sh (rstT us ps), .od (ps.map Sum.inr) (plD ps fun p => pl p + 1), a, b, c, d, z, y] ∧ RX (bE us ps) ps t pl) 0 _ _ _ ?_ ?_ ⟨rfl, fun _ => 0, _, _, _, _, _, _, rfl, RX.zero⟩
    · rintro t r f N ht ⟨rfl, p0, a, b, c, d, z, y, rfl, hR⟩ hN
      refine ⟨_, rfl, ?_⟩
      simp only [List.set_cons_succ, List.set_cons_zero, setsR, startR, List.map_cons, List.map_nil, List.cons_append, List.nil_append, List.replicate_succ, List.replicate_zero, List.length_cons, List.length_nil, Nat.reduceAdd, Nat.reduceSub]
      refine dFor_list D.str (fun done rest r f1 => f1 = f ∧ ∃ (pl : Str → Nat) (a b c d z y : Sl), r = [.sh (prgD ms us ks), .sh (.ftp (ps.map D.str)), .sh (rstT us ps), .od (ps.map Sum.inr) (plD ps fun p => pl p + 1), a, b, c, d, z, y] ∧ RY (bE us ps) ps p0 (fun b a => a ∈ done ∧ b ∈ rst us ps a) pl) ps _ _ ?_ ?_ ⟨rfl, p0, _, _, _, _, _, _, rfl, hR.turn.imp fun _ _ h => nomatch h.1⟩
      · rintro done one rest r f1 N2 hx ⟨rfl, pl, a, b, c, d, z, y, rfl, hY⟩ hN2
        have h1 : one ∈ ps := by rw [hx]; simp
        refine ⟨_, rfl, .inr one, _, rfl, look_map h1, ?_⟩
        refine dFor_list D.str (fun dn rst2 r f2 => f2 = f1 ∧ ∃ (pl : Str → Nat) (a b c d z : Sl), r = [.sh (prgD ms us ks), .sh (.ftp (ps.map D.str)), .sh (rstT us ps), .od (ps.map Sum.inr) (plD ps fun p => pl p + 1), a, b, c, .sh (.str one), d, z] ∧ RY (bE us ps) ps p0 (fun b a => (a ∈ done ∧ b ∈ rst us ps a) ∨ (a = one ∧ b ∈ dn)) pl) (rst us ps one) _ _ ?_ ?_ ⟨rfl, pl, _, _, _, _, _, rfl, hY.imp fun _ _ h => h.elim id fun h => nomatch h.2⟩
        · rintro dn oth rst2 r f2 N3 hx2 ⟨rfl, pl, a, b, c, d, z, rfl, hY⟩ hN3
          have h2 : oth ∈ rst us ps one := by rw [hx2]; simp
          obtain ⟨h3, h4⟩ := mem_rst.mp h2
          refine ⟨_, rfl, _, _, rfl, ?_⟩
          refine ⟨.inr one, _, rfl, look_map h1, .inr oth, _, rfl, look_map h3, rfl, .inr one, rfl, by rw [List.length_map]; exact L1 (by omega), ?_⟩
          obtain ⟨w1, w2⟩ := pl_put1 (pl := pl) (a := oth) h1
          refine hN3 _ _ ⟨rfl, relx pl oth one, a, b, c, d, .sh (.str oth), ?_, (hY.step h3 (mem_bE.mpr ⟨h3, h1, h4⟩)).imp fun x y hxy => ?_⟩
          · rw [← w2, w1]
            rfl
          · rcases hxy with h | ⟨h, h'⟩
            · exact .inl (.inl h)
            · rcases List.mem_append.mp h' with h' | h'
              · exact .inl (.inr ⟨h, h'⟩)
              · exact .inr ⟨List.mem_singleton.mp h', h⟩
        · rintro r f2 ⟨rfl, pl, a, b, c, d, z, rfl, hY⟩
          refine hN2 _ _ ⟨rfl, pl, _, _, _, _, _, _, rfl, hY.imp fun x y hxy => ?_⟩
          obtain ⟨h, h'⟩ := hxy
          rcases List.mem_append.mp h with h | h
          · exact .inl ⟨h, h'⟩
          · have := List.mem_singleton.mp h
            subst this
            exact .inr ⟨rfl, h'⟩
      · rintro r f1 ⟨rfl, pl, a, b, c, d, z, y, rfl, hY⟩
        refine hN _ _ ⟨rfl, pl, _, _, _, _, _, _, rfl, RY.done hR (fun u hu => (bE_mem u hu).1) (hY.imp fun a b hab => ?_)⟩
        obtain ⟨m1, m2, m3⟩ := mem_bE.mp hab
        exact ⟨m2, mem_rst.mpr ⟨m1, m3⟩⟩
    · rintro r f ⟨rfl, pl, a, b, c, d, z, y, rfl, hR⟩
      have hL : LvOk (bE us ps) ps pl := hR.lv (fun u hu => (bE_mem u hu).2) hac
      refine ⟨by rw [List.length_map]; exact L1 (by omega), ?_⟩
      refine lcT D.str D.int (fun _ => true) (fun p => ((pl p + 1 : Nat) : Int)) ps [] _ (fun p hp' => ⟨_, rfl, fun f Q q => q, fun _ f Q q => ⟨.inr p, _, rfl, look_map hp', q⟩⟩) ?_
      rw [List.filter_eq_self.mpr (fun _ _ => rfl), List.nil_append]
      refine ⟨_, rfl, by rw [List.length_map]; exact hpos, fun m hm1 hm2 => ?_⟩
      obtain ⟨p1, hp1, rfl⟩ := List.mem_map.mp hm1
      have hM : Mst ps pl (pl p1) := ⟨⟨p1, hp1, rfl⟩, fun p hp' => by have := hm2 _ (List.mem_map.mpr ⟨p, hp', rfl⟩); omega⟩
      have hlt : ∀ p ∈ ps, pl p < ps.length := fun p hp' => hac.short (fun u hu => (bE_mem u hu).2) (hL.wk p hp')
      have q := q pl _ hL hM
      refine ⟨rfl, ?_⟩
      simp only [List.set_cons_succ, List.set_cons_zero, setsR, startR, List.map_cons, List.map_nil, List.cons_append, List.nil_append, List.replicate_succ, List.replicate_zero, List.length_cons, List.length_nil, Nat.reduceAdd, Nat.reduceSub]
      obtain ⟨x0, hx0⟩ : ∃ x0, (sortS ps).find? (fun p => decide (pl p = pl p1)) = some x0 := by
        cases hf2 : (sortS ps).find? fun p => decide (pl p = pl p1) with
        | some x => exact ⟨x, rfl⟩
        | none =>
          have := List.find?_eq_none.mp hf2 p1 ((sortS_perm ps).mem_iff.mpr hp1)
          simp at this
      have x0m : x0 ∈ ps := (sortS_perm ps).mem_iff.mp (List.mem_of_find?_eq_some hx0)
      have x0v : pl x0 = pl p1 := of_decide_eq_true (List.find?_some (p := fun p => decide (pl p = pl p1)) hx0)
      unfold twO at q
      rw [hx0] at q
      rw [← x0v] at q
      obtain ⟨tl, htl⟩ := find_head hx0
      refine ⟨sorts_strs (L1 (by omega)) (fun s hs => (hp.path s hs).asc), ?_⟩
      rw [sortD_strs]
      refine ⟨by rw [List.length_map, (sortS_perm ps).length_eq]; exact L1 (by omega), ?_⟩
      refine lcF D.str (fun p => decide (pl p = pl p1)) (sortS ps) _ (fun p hp' => ⟨_, rfl, fun f Q h => ?_, fun _ f Q h => h⟩) ?_
      · refine ⟨.inr p, _, rfl, look_map ((sortS_perm ps).mem_iff.mp hp'), ?_⟩
        show Q (decide (((pl p + 1 : Nat) : Int) = ((pl p1 + 1 : Nat) : Int))) f
        rw [show decide (((pl p + 1 : Nat) : Int) = ((pl p1 + 1 : Nat) : Int)) = decide (pl p = pl p1) from decide_eq_decide.mpr (by omega)]
        exact h
      rw [htl]
      refine ⟨_, atI0, show 1 ≤ lim by decide, rfl, ?_⟩
      simp only [List.set_cons_succ, List.set_cons_zero, setsR, startR, List.map_cons, List.map_nil, List.cons_append, List.nil_append, List.replicate_succ, List.replicate_zero, List.length_cons, List.length_nil, Nat.reduceAdd, Nat.reduceSub]
      refine dWhile_inv (fun v r f1 => f1 = f ∧ ∃ (L : List Str) (x : Str) (a b c d z : Sl), r = [.sh (prgD ms us ks), .sh (.ftp (ps.map D.str)), .sh (rstT us ps), .od (ps.map Sum.inr) (plD ps fun p => pl p + 1), a, b, .ow ((L ++ [x]).map D.str), c, d, z] ∧ x ∈ ps ∧ v = pl x ∧ L.length + pl x ≤ 100 ∧ L ++ twr us ps pl (pl x) x = twr us ps pl (pl x0) x0) ?_ ⟨rfl, [], x0, _, _, _, _, _, rfl, x0m, rfl, by have := hlt x0 x0m; show 0 + _ ≤ _; omega, rfl⟩
      rintro v r f N ⟨rfl, L, x, a, b, c, d, z, rfl, hx, rfl, hlen, heq⟩ hN
      have hlast : atI ((L ++ [x]).map D.str) (-1) = some (.str x) := by rw [atI_last]; simp
      refine ⟨_, hlast, .inr x, _, rfl, look_map hx, ?_⟩
      show if decide ((1 : Int) < ((pl x + 1 : Nat) : Int)) = true then _ else _
      cases hpx : pl x with
      | zero =>
        rw [decide_eq_false (by omega)]
        refine iteF ?_
        rw [hpx] at heq
        have heq : L ++ [x] = twr us ps pl (pl x0) x0 := heq
        simp only [List.set_cons_succ, List.set_cons_zero, setsR, startR, List.map_cons, List.map_nil, List.cons_append, List.nil_append, List.replicate_succ, List.replicate_zero, List.length_cons, List.length_nil, Nat.reduceAdd, Nat.reduceSub]
        rw [heq]
        exact q
      | succ k =>
        rw [decide_eq_true (by omega)]
        obtain ⟨y, hy1, hy2, hy3⟩ := twr_next hL hx hpx
        obtain ⟨tl2, htl2⟩ := find_head hy1
        refine iteT ⟨_, rfl, ?_⟩
        refine ⟨_, hlast, .inr x, _, rfl, look_map hx, by rw [List.length_map]; exact L1 (Nat.le_trans (List.length_filter_le _ _) (by rw [(sortS_perm ps).length_eq]; omega)), ?_⟩
        refine lcF D.str (fun y => decide (pl y = k)) (rst us ps x) _ (fun p hp' => ⟨_, rfl, fun f Q h => ?_, fun _ f Q h => h⟩) ?_
        · refine ⟨.inr p, _, rfl, look_map (mem_rst.mp hp').1, _, hlast, .inr x, _, rfl, look_map hx, ?_⟩
          show Q (decide (((pl p + 1 : Nat) : Int) = ((pl x + 1 : Nat) : Int) - 1)) f
          rw [show decide (((pl p + 1 : Nat) : Int) = ((pl x + 1 : Nat) : Int) - 1) = decide (pl p = k) from decide_eq_decide.mpr (by omega)]
          exact h
        rw [htl2]
        refine ⟨_, atI0, rfl, by rw [List.length_map, List.length_append]; exact L1 (by show L.length + 1 ≤ _; omega), ?_⟩
        refine hN k _ _ (by omega) ⟨rfl, L ++ [x], y, _, _, _, _, _, by rw [List.map_append (l₂ := [y])]; rfl, hy2, hy3.symm, by rw [List.length_append, hy3]; show L.length + 1 + k ≤ 100; omega, ?_⟩
        rw [← heq, hpx, hy3]
        show _ = L ++ (x :: match (rst us ps x).find? (fun y => decide (pl y = k)) with | some y => twr us ps pl k y | none => [])
        rw [hy1, List.append_assoc]
        rfl
/-! _law_told -/
theorem sc__law_told : FnScope ["_law_word", "_law_program", "_law_paths", "_law_found", "_law_back", "error"] ["_law_word", "_law_program", "_law_paths"] (defScope s__law_told) := ⟨rfl, rfl, rfl, by decide +kernel, rfl, by decide +kernel, by decide +kernel⟩
def Sp__law_told : DSp := fun _ ds f Q => ∃ (wd : Str) (ms : List Str) (us : List Us) (ks ps : List Str), ds = [.str wd, prgD ms us ks, .ftp (ps.map D.str)] ∧ PVm ms ∧ PVu ms us ∧ PVm ps ∧ ps ≠ [] ∧
  (∀ w, frR us ps = some w → Q (.tup [.str "circular", tpU w]) f) ∧
  (frR us ps = none → if wd = "levels" then (∀ lv most, LvOk (fE us ps) ps lv → Mst ps lv most → Q (.lst [rowsD ps lv most]) f) else (∀ lw most, LvOk (bE us ps) ps lw → Mst ps lw most → Q (.lst [.tup ((twO us ps lw most).map D.str)]) f))
set_option maxHeartbeats 2000000 in
theorem ok__law_told (d : Df K mg "_law_told" s__law_told) {C_Overlap : Addr} {C_Circular : Addr} (mg_Overlap : mg "Overlap" = some (.ref C_Overlap)) (cat_Overlap : Cat K (.ref C_Overlap) (tblX [("Circular", false)])) (kx_Overlap : KX K "Overlap" C_Overlap) (n_Overlap_path : NoAttr K C_Overlap "path") (mg_Circular : mg "Circular" = some (.ref C_Circular)) (cat_Circular : Cat K (.ref C_Circular) (tblX [("Circular", true)])) (kx_Circular : KX K "Circular" C_Circular) (n_Circular_evidence : NoAttr K C_Circular "evidence") (c_levels : CalX P w K mg base 6 "levels" ["program", "paths"] Sp_levels) (c_tower : CalX P w K mg base 6 "tower" ["program", "paths"] Sp_tower) : Cal P w K mg base 7 "_law_told" ["_law_word", "_law_program", "_law_paths"] Sp__law_told := by
  obtain ⟨f, fd, F, m⟩ := d
  refine ⟨f, fd, dfn (k := 6) (S := Sp__law_told) F sc__law_told ?len (fun cdv A outer s H E hr => (dss_cons (ds_asg false (de_tup (da_cons de_non (da_cons de_non da_nil))) (dg_tup rfl (dgs_cons (dg_name (i := 3) sc__law_told.nd) (dgs_cons (dg_name (i := 4) sc__law_told.nd) dgs_nil))))
      (dss_cons (ds_tryN rfl rfl sc__law_told.nd (fun pn xe po => (dss_one (ds_setX (i := 4) sc__law_told.nd (dex_ifExp (dp_eq hr.units (de_v 0) de_str) (dex_call c_levels (hr.mono (by decide)) (da_cons (de_v 1) (da_cons (de_v 2) da_nil))) (dex_call c_tower (hr.mono (by decide)) (da_cons (de_v 1) (da_cons (de_v 2) da_nil)))))))
      (HdsD.cons (i := 5) ⟨rfl, by decide, .inl mg_Circular⟩ cat_Circular (fun a pn => (dss_one (ds_set false (i := 3) sc__law_told.nd (de_tup (da_cons de_str (da_cons (de_xf kx_Circular n_Circular_evidence (de_v 5)) da_nil))))))
      (HdsD.cons (i := 5) ⟨rfl, by decide, .inl mg_Overlap⟩ cat_Overlap (fun a pn => (dss_one (ds_set false (i := 3) sc__law_told.nd (de_tup (da_cons de_str (da_cons (de_xf kx_Overlap n_Overlap_path (de_v 5)) da_nil))))))
      HdsD.nil)))
      (dss_one (ds_ret (de_ifExp (dp_isN (de_v 3) de_non) (dl_lst (da_cons (de_v 4) da_nil)).e (de_v 3))))))) ?h, F.kp, F.binds fun _ _ _ _ _ _ us hl => match us, hl with | [_, _, _], _ => rfl, m⟩
  case len =>
    intro g ds n Q h; obtain ⟨_, _, _, _, _, rfl, _⟩ := h; rfl
  case h =>
    intro g ds n Q h
    obtain ⟨wd, ms, us, ks, ps, rfl, hm, hu, hp, hne, e, q⟩ := h
    refine ⟨show 2 ≤ lim by decide, ?_⟩
    simp only [List.set_cons_succ, List.set_cons_zero, setsR, startR, List.map_cons, List.map_nil, List.cons_append, List.nil_append, List.replicate_succ, List.replicate_zero, List.length_cons, List.length_nil, Nat.reduceAdd, Nat.reduceSub]
    show if decide (wd = "levels") = true then _ else _
    by_cases hw : wd = "levels"
    · rw [decide_eq_true hw]
      refine iteT ⟨ms, us, ks, ps, rfl, hm, hu, hp, hne, fun w hf => ?_, fun hf lv most h1 h2 => ?_⟩
      · exact ⟨true, rfl, fun _ => ⟨by simp, ⟨rfl, _, rfl, show 2 ≤ lim by decide, e w hf⟩⟩, fun h => nomatch h⟩
      · have q := q hf
        rw [if_pos hw] at q
        exact ⟨show 1 ≤ lim by decide, q lv most h1 h2⟩
    · rw [decide_eq_false hw]
      refine iteF ⟨ms, us, ks, ps, rfl, hm, hu, hp, hne, fun w hf => ?_, fun hf lw most h1 h2 => ?_⟩
      · exact ⟨true, rfl, fun _ => ⟨by simp, ⟨rfl, _, rfl, show 2 ≤ lim by decide, e w hf⟩⟩, fun h => nomatch h⟩
      · have q := q hf
        rw [if_neg hw] at q
        exact ⟨show 1 ≤ lim by decide, q lw most h1 h2⟩
/-! _law_ringed -/
theorem sc__law_ringed : FnScope ["_law_paths", "_law_rests_here", "_law_left", "_law_turn", "_law_path", "_law_other"] ["_law_paths", "_law_rests_here"] (defScope s__law_ringed) := ⟨rfl, rfl, rfl, by decide +kernel, rfl, by decide +kernel, by decide +kernel⟩
def ringL (us : List Us) (ps : List Str) : Nat → List Str
  | 0 => ps
  | n + 1 => (ringL us ps n).filter fun p => (rst us ps p).any fun o => decide (o ∈ ringL us ps n)
theorem Wk.less {vs : List Us} {ps : List Str} (hv : ∀ u ∈ vs, u.2 ∈ ps) : ∀ {n : Nat} {p : Str}, Wk vs ps (n + 1) p → Wk vs ps n p
  | 0, _, .step _ e => .zero (hv _ e)
  | _ + 1, _, .step g e => .step (g.less hv) e
theorem mem_ringL {us : List Us} {ps : List Str} : ∀ (n : Nat) (p : Str), p ∈ ringL us ps n ↔ Wk (bE us ps) ps n p
  | 0, p => ⟨.zero, fun h => by cases h; assumption⟩
  | n + 1, p => by
    show p ∈ (ringL us ps n).filter _ ↔ _
    rw [List.mem_filter, List.any_eq_true]
    constructor
    · rintro ⟨h1, o, h2, h3⟩
      have h3 := of_decide_eq_true h3
      obtain ⟨m1, m2⟩ := mem_rst.mp h2
      have hp : p ∈ ps := ((mem_ringL n p).mp h1).mem (fun _ h => h) fun u hu => (bE_mem u hu).2
      exact .step ((mem_ringL n o).mp h3) (mem_bE.mpr ⟨m1, hp, m2⟩)
    · intro h
      refine ⟨(mem_ringL n p).mpr (h.less fun u hu => (bE_mem u hu).2), ?_⟩
      cases h with
      | step g e =>
        rename_i o
        obtain ⟨m1, m2, m3⟩ := mem_bE.mp e
        exact ⟨o, mem_rst.mpr ⟨m1, m3⟩, decide_eq_true ((mem_ringL n o).mpr g)⟩
theorem ringL_sub {us : List Us} {ps : List Str} : ∀ (n : Nat), ∀ p ∈ ringL us ps n, p ∈ ps := fun n p h => ((mem_ringL n p).mp h).mem (fun _ h => h) fun u hu => (bE_mem u hu).2
theorem ringL_len {us : List Us} {ps : List Str} : ∀ (n : Nat), (ringL us ps n).length ≤ ps.length
  | 0 => Nat.le_refl _
  | n + 1 => Nat.le_trans (List.length_filter_le _ _) (ringL_len n)
theorem ringL_end {us : List Us} {ps : List Str} : decide (ringL us ps ps.length = []) = !(frR us ps).isSome := by
  cases h : frR us ps with
  | none =>
    refine decide_eq_true (List.eq_nil_iff_forall_not_mem.mpr fun p hp => ?_)
    exact absurd ((frR_acy.mp h).short (fun u hu => (bE_mem u hu).2) ((mem_ringL _ p).mp hp)) (Nat.lt_irrefl _)
  | some w =>
    refine decide_eq_false fun e => ?_
    have hn : ¬ Acy (bE us ps) ps := fun ha => by rw [frR_acy.mpr ha] at h; cases h
    apply hn
    intro p hp k hw
    obtain ⟨q, hq⟩ := not_acy hp hw ps.length
    have := (mem_ringL _ q).mpr hq
    rw [e] at this
    cases this
theorem atI_fi {F : Str → D} {ps : List Str} {z : Str} (h : z ∈ ps) : atI (ps.map F) ((ps.findIdx fun a => decide (a = z) : Nat) : Int) = some (F z) := by
  refine atI_nat ?_
  have hl : (ps.findIdx fun a => decide (a = z)) < ps.length := List.findIdx_lt_length_of_exists ⟨z, h, decide_eq_true rfl⟩
  rw [List.getElem?_map, List.getElem?_eq_getElem hl]
  have := List.findIdx_getElem (p := fun a => decide (a = z)) (xs := ps) (w := hl)
  rw [of_decide_eq_true this]
  rfl
theorem dec_filter {α : Type} [DecidableEq α] (l : List α) (p : α → Bool) : decide (l.filter p = []) = !(l.any p) := by
  rw [Bool.eq_iff_iff, decide_eq_true_iff, List.filter_eq_nil_iff, Bool.not_eq_true', List.any_eq_false]
def Sp__law_ringed : DSp := fun _ ds f Q => ∃ (us : List Us) (ps : List Str), ds = [.ftp (ps.map D.str), rstL us ps] ∧ PVm ps ∧ Q (.bool (frR us ps).isSome) f
set_option maxHeartbeats 2000000 in
theorem ok__law_ringed (d : Df K mg "_law_ringed" s__law_ringed) (m_list : mg "list" = none) : Cal P w K mg base 1 "_law_ringed" ["_law_paths", "_law_rests_here"] Sp__law_ringed := by
  obtain ⟨f, fd, F, m⟩ := d
  refine ⟨f, fd, dfn (k := 0) (S := Sp__law_ringed) F sc__law_ringed ?len (fun cdv A outer s H E hr => (dss_cons (ds_set false (i := 2) sc__law_ringed.nd (de_callTy call_list_of sc_list (by rfl) m_list (by decide +kernel) (da_cons (de_v 0) da_nil)))
      (dss_cons (ds_for [] PassesOwn.never (di_seq (de_v 0)) (dg_name (i := 3) sc__law_ringed.nd) (dss_one (ds_set false (i := 2) sc__law_ringed.nd (dl_lc (own := [("_law_path", 4)]) rfl sc__law_ringed.nd (di_seq (de_v 2)) (blkOk_by (own := [("_law_path", 4)]) (N := ["_law_paths", "_law_rests_here", "_law_left", "_law_turn", "_law_path", "_law_other"]) (sc := defScope s__law_ringed) (by decide +kernel)) (fun _ _ _ _ _ => dg_name (i := 4) sc__law_ringed.nd) (fun _ _ _ _ _ => dts_one (dp_ne hr.units (dl_lc (own := [("_law_other", 5)]) rfl sc__law_ringed.nd (di_seq (de_ix (de_v 1) (de_indexF (de_v 0) (de_v 4)))) (blkOk_by (own := [("_law_other", 5)]) (N := ["_law_paths", "_law_rests_here", "_law_left", "_law_turn", "_law_path", "_law_other"]) (sc := _) (by rfl)) (fun _ _ _ _ _ => dg_name (i := 5) sc__law_ringed.nd) (fun _ _ _ _ _ => dts_one (dp_in hr (de_v 5) (de_v 2))) (fun _ _ _ _ _ => (de_v 5))).e (dl_lst da_nil).e)) (fun _ _ _ _ _ => (de_v 4))).e)))
      (dss_one (ds_ret (de_ne hr.units (de_v 2) (dl_lst da_nil).e)))))) ?h, F.kp, F.binds fun _ _ _ _ _ _ us hl => match us, hl with | [_, _], _ => rfl, m⟩
  case len =>
    intro g ds n Q h; obtain ⟨_, _, rfl, _⟩ := h; rfl
  case h =>
    intro g ds n Q h
    obtain ⟨us, ps, rfl, hp, q⟩ := h
    have hl := hp.len
    have rasc : ∀ s ∈ ps, asc s := fun s hs => (hp.path s hs).asc
    refine dFor_list D.str (fun done rest r f => f = n ∧ ∃ (a b c : Sl), r = [.sh (.ftp (ps.map D.str)), .sh (rstL us ps), .sh (.lst ((ringL us ps done.length).map D.str)), a, b, c]) ps _ _ ?_ ?_ ⟨rfl, _, _, _, rfl⟩
    · rintro done x rest r f N hx ⟨rfl, a, b, c, rfl⟩ hN
      have hrl := ringL_len (us := us) (ps := ps) done.length
      have hsub := ringL_sub (us := us) (ps := ps) done.length
      refine ⟨_, rfl, by rw [List.length_map]; exact L1 (by omega), ?_⟩
      refine lcF D.str (fun p => (rst us ps p).any fun o => decide (o ∈ ringL us ps done.length)) (ringL us ps done.length) _ (fun p hp' => ⟨_, rfl, fun f Q h => ?_, fun _ f Q h => h⟩) ?_
      · have hpp := hsub p hp'
        refine ⟨ps, rfl, hpp, _, atI_fi hpp, by rw [List.length_map]; exact L1 (Nat.le_trans (List.length_filter_le _ _) (by rw [(sortS_perm ps).length_eq]; omega)), ?_⟩
        refine lcF D.str (fun o => decide (o ∈ ringL us ps done.length)) (rst us ps p) _ (fun o ho => ⟨_, rfl, fun f Q h => ?_, fun _ f Q h => h⟩) ?_
        · refine ⟨shaped_str (rasc o (mem_rst.mp ho).1), shpS fun s hs => rasc s (hsub s hs), ?_⟩
          show Q ((pyA ((ringL us ps done.length).map D.str)).any fun z => PyData.eqv z (D.str o).py) f
          rw [anyS']
          exact h
        refine ⟨Nat.zero_le _, ?_⟩
        show oEq true (.lst (((rst us ps p).filter fun o => decide (o ∈ ringL us ps done.length)).map D.str)) (.lst (([] : List Str).map D.str)) _
        refine oEq_lst (m := []) (fun s hs => rasc s (mem_rst.mp (List.mem_filter.mp hs).1).1) (by simp) ?_
        show Q (!decide (((rst us ps p).filter fun o => decide (o ∈ ringL us ps done.length)) = [])) f
        rw [dec_filter, Bool.not_not]
        exact h
      · refine hN _ _ ⟨rfl, .sh (.str x), b, c, ?_⟩
        rw [List.length_append]
        rfl
    · rintro r f ⟨rfl, a, b, c, rfl⟩
      refine ⟨Nat.zero_le _, ?_⟩
      show oEq true (.lst ((ringL us ps ps.length).map D.str)) (.lst (([] : List Str).map D.str)) _
      refine oEq_lst (m := []) (fun s hs => rasc s (ringL_sub _ s hs)) (by simp) ?_
      show Q (.bool (!decide (ringL us ps ps.length = []))) f
      rw [ringL_end, Bool.not_not]
      exact q
def mxS (us : List Us) (ps : List Str) (pl : Str → Nat) (p : Str) : Nat := ((rst us ps p).map fun o => pl o + 1).foldl max 0
theorem fold_mx : ∀ (l : List Nat) (n : Nat), (l.foldl max n = n ∨ l.foldl max n ∈ l) ∧ n ≤ l.foldl max n ∧ ∀ y ∈ l, y ≤ l.foldl max n
  | [], n => ⟨.inl rfl, Nat.le_refl _, fun _ h => nomatch h⟩
  | x :: l, n => by
    obtain ⟨h1, h2, h3⟩ := fold_mx l (max n x)
    rw [List.foldl_cons]
    refine ⟨?_, by omega, fun y hy => ?_⟩
    · rcases h1 with h1 | h1
      · rw [h1]
        rcases Nat.le_total n x with h | h
        · rw [Nat.max_eq_right h]; exact .inr (by simp)
        · rw [Nat.max_eq_left h]; exact .inl rfl
      · exact .inr (List.mem_cons_of_mem _ h1)
    · rcases List.mem_cons.mp hy with rfl | hy
      · omega
      · exact h3 y hy
theorem RX.sync {us : List Us} {ps : List Str} {t : Nat} {pl : Str → Nat} (h : RX (bE us ps) ps t pl) : RX (bE us ps) ps (t + 1) (mxS us ps pl) where
  wk := fun p hp => by
    obtain ⟨h1, _, _⟩ := fold_mx ((rst us ps p).map fun o => pl o + 1) 0
    unfold mxS
    rcases h1 with h1 | h1
    · rw [h1]; exact .zero hp
    · obtain ⟨o, ho, e⟩ := List.mem_map.mp h1
      rw [← e]
      obtain ⟨m1, m2⟩ := mem_rst.mp ho
      exact .step (h.wk o m1) (mem_bE.mpr ⟨m1, hp, m2⟩)
  le := fun p hp k hk hw => by
    cases hw with
    | zero => exact Nat.zero_le _
    | step g e =>
      rename_i o
      obtain ⟨m1, m2, m3⟩ := mem_bE.mp e
      have h1 := h.le o m1 _ (by omega) g
      have h2 := (fold_mx ((rst us ps p).map fun o => pl o + 1) 0).2.2 (pl o + 1) (List.mem_map.mpr ⟨o, mem_rst.mpr ⟨m1, m3⟩, rfl⟩)
      unfold mxS
      omega
def tlO (us : List Us) (ps : List Str) (lw : Str → Nat) (n : Nat) (R : List Str) : List Str := match R.find? (fun p => decide (lw p = n)) with
  | some x => twr us ps lw n x
  | none => []
theorem twr_s (us : List Us) (ps : List Str) (lw : Str → Nat) (n : Nat) (x : Str) : twr us ps lw (n + 1) x = x :: tlO us ps lw n (rst us ps x) := rfl
theorem most_eq {us : List Us} {ps : List Str} {lv lw : Str → Nat} {m1 m2 : Nat} (h : LvOk (fE us ps) ps lv) (g : LvOk (bE us ps) ps lw) (hm : Mst ps lv m1) (gm : Mst ps lw m2) : m1 = m2 := by
  obtain ⟨p, p1, p2⟩ := hm.ex
  obtain ⟨q, q1, q2⟩ := gm.ex
  have a : m1 ≤ m2 := by
    have w := h.wk p p1
    rw [p2] at w
    obtain ⟨s, s1, s2⟩ := w.start
    have t := (s2.turn (ws := bE us ps) fun a b => fE_b a b).from p1
    exact Nat.le_trans (g.le s s1 _ t) (gm.le s s1)
  have b : m2 ≤ m1 := by
    have w := g.wk q q1
    rw [q2] at w
    obtain ⟨s, s1, s2⟩ := w.start
    have t := (s2.turn (ws := fE us ps) fun a b => (fE_b b a).symm).from q1
    exact Nat.le_trans (h.le s s1 _ t) (hm.le s s1)
  omega
/-! _law_highest -/
theorem sc__law_highest : FnScope ["_law_paths", "_law_rests_here", "_law_many", "_law_turn", "_law_found", "_law_row", "_law_left", "_law_path", "_law_other"] ["_law_paths", "_law_rests_here"] (defScope s__law_highest) := ⟨rfl, rfl, rfl, by decide +kernel, rfl, by decide +kernel, by decide +kernel⟩
def Sp__law_highest : DSp := fun _ ds f Q => ∃ (us : List Us) (ps : List Str), ds = [.ftp (ps.map D.str), rstL us ps] ∧ PVm ps ∧ ps ≠ [] ∧ frR us ps = none ∧ ∀ lw most, LvOk (bE us ps) ps lw → Mst ps lw most → Q (.tup ((twO us ps lw most).map D.str)) f
set_option maxHeartbeats 2000000 in
theorem ok__law_highest (d : Df K mg "_law_highest" s__law_highest) (m_tuple : mg "tuple" = none) (m_range : mg "range" = none) (m_max : mg "max" = none) (m_sorted : mg "sorted" = none) : Cal P w K mg base 1 "_law_highest" ["_law_paths", "_law_rests_here"] Sp__law_highest := by
  obtain ⟨f, fd, F, m⟩ := d
  refine ⟨f, fd, dfn (k := 0) (S := Sp__law_highest) F sc__law_highest ?len (fun cdv A outer s H E hr => (dss_cons (ds_set false (i := 2) sc__law_highest.nd (dl_lc (own := [("_law_path", 7)]) rfl sc__law_highest.nd (di_seq (de_v 0)) (blkOk_by (own := [("_law_path", 7)]) (N := ["_law_paths", "_law_rests_here", "_law_many", "_law_turn", "_law_found", "_law_row", "_law_left", "_law_path", "_law_other"]) (sc := defScope s__law_highest) (by decide +kernel)) (fun _ _ _ _ _ => dg_name (i := 7) sc__law_highest.nd) (fun _ _ _ _ _ => dts_nil) (fun _ _ _ _ _ => de_int)).e)
      (dss_cons (ds_for [] PassesOwn.never (di_seq (de_v 0)) (dg_name (i := 3) sc__law_highest.nd) (dss_one (ds_set false (i := 2) sc__law_highest.nd (dl_lc (own := [("_law_row", 5)]) rfl sc__law_highest.nd (di_seq (de_v 1)) (blkOk_by (own := [("_law_row", 5)]) (N := ["_law_paths", "_law_rests_here", "_law_many", "_law_turn", "_law_found", "_law_row", "_law_left", "_law_path", "_law_other"]) (sc := defScope s__law_highest) (by decide +kernel)) (fun _ _ _ _ _ => dg_name (i := 5) sc__law_highest.nd) (fun _ _ _ _ _ => dts_nil) (fun _ _ _ _ _ => (de_add de_int (de_callB (cr_max rfl) sc_maxL (by rfl) m_max (by decide +kernel) (da_cons (de_add (dl_lst (da_cons de_int da_nil)).e (dl_lc (own := [("_law_other", 8)]) rfl sc__law_highest.nd (di_seq (de_v 5)) (blkOk_by (own := [("_law_other", 8)]) (N := ["_law_paths", "_law_rests_here", "_law_many", "_law_turn", "_law_found", "_law_row", "_law_left", "_law_path", "_law_other"]) (sc := _) (by rfl)) (fun _ _ _ _ _ => dg_name (i := 8) sc__law_highest.nd) (fun _ _ _ _ _ => dts_nil) (fun _ _ _ _ _ => (de_ix (de_v 2) (de_indexF (de_v 0) (de_v 8))))).e) da_nil))))).e)))
      (dss_cons (ds_parLS (i := 4) (j := 5) sc__law_highest.nd (dl_lst da_nil) ((de_sorted hr m_sorted (da_cons (de_v 0) da_nil))))
      (dss_cons (ds_for [] PassesOwn.never (di_rangeD m_range (da_cons (de_callB (cr_max rfl) sc_maxL (by rfl) m_max (by decide +kernel) (da_cons (de_v 2) da_nil)) (da_cons de_int (da_cons (de_neg de_int) da_nil)))) (dg_name (i := 6) sc__law_highest.nd) (dss_cons (ds_app false (i := 4) (de_ix (dl_lc (own := [("_law_path", 7)]) rfl sc__law_highest.nd (di_seq (de_v 5)) (blkOk_by (own := [("_law_path", 7)]) (N := ["_law_paths", "_law_rests_here", "_law_many", "_law_turn", "_law_found", "_law_row", "_law_left", "_law_path", "_law_other"]) (sc := defScope s__law_highest) (by decide +kernel)) (fun _ _ _ _ _ => dg_name (i := 7) sc__law_highest.nd) (fun _ _ _ _ _ => dts_one (dp_eq hr.units (de_ix (de_v 2) (de_indexF (de_v 0) (de_v 7))) (de_v 6))) (fun _ _ _ _ _ => (de_v 7))).e de_int))
      (dss_one (ds_setIxO (i := 5) sc__law_highest.nd (de_v 1) (de_indexF (de_v 0) (de_ix (de_v 4) (de_neg de_int)))))))
      (dss_one (ds_ret (de_callTy call_tuple_of sc_tuple (by rfl) m_tuple (by decide +kernel) (da_cons (de_v 4) da_nil))))))))) ?h, F.kp, F.binds fun _ _ _ _ _ _ us hl => match us, hl with | [_, _], _ => rfl, m⟩
  case len =>
    intro g ds n Q h; obtain ⟨_, _, rfl, _⟩ := h; rfl
  case h =>
    intro g ds n Q h
    obtain ⟨us, ps, rfl, hp, hne, hfr, q⟩ := h
    have hl := hp.len
    have hpos := List.length_pos_iff.mpr hne
    have hac : Acy (bE us ps) ps := frR_acy.mp hfr
    have rasc : ∀ s ∈ ps, asc s := fun s hs => (hp.path s hs).asc
    have rlen : ∀ p, (rst us ps p).length ≤ 24 := fun p => Nat.le_trans (List.length_filter_le _ _) (by rw [(sortS_perm ps).length_eq]; omega)
    refine ⟨by rw [List.length_map]; exact L1 (by omega), ?_⟩
    refine lcT D.str natD (fun _ => true) (fun _ => 1) ps [] n (fun p hp' => ⟨_, rfl, fun f Q q => q, fun _ f Q q => q⟩) ?_
    rw [List.filter_eq_self.mpr (fun _ _ => rfl), List.nil_append, List.map_map]
    simp only [List.set_cons_succ, List.set_cons_zero, setsR, startR, List.map_cons, List.map_nil, List.cons_append, List.nil_append, List.replicate_succ, List.replicate_zero, List.length_cons, List.length_nil, Nat.reduceAdd, Nat.reduceSub]
    refine dFor_list D.str (fun done rest r f => f = n ∧ ∃ (pl : Str → Nat) (a b c d e z : Sl), r = [.sh (.ftp (ps.map D.str)), .sh (rstL us ps), .sh (.lst (ps.map fun p => natD (pl p + 1))), a, b, c, d, e, z] ∧ RX (bE us ps) ps done.length pl) ps _ _ ?_ ?_ ⟨rfl, fun _ => 0, _, _, _, _, _, _, rfl, RX.zero⟩
    · rintro done x rest r f N hx ⟨rfl, pl, a, b, c, d, e, z, rfl, hR⟩ hN
      refine ⟨_, rfl, by rw [List.length_map]; exact L1 (by omega), ?_⟩
      refine lcT (rstD us ps) natD (fun _ => true) (fun p => mxS us ps pl p + 1) ps [] f (fun p hp' => ⟨_, rfl, fun f Q q => q, fun _ f Q q => ?_⟩) ?_
      · refine ⟨show 1 ≤ lim by decide, by rw [List.length_map]; exact L1 (by have := rlen p; omega), ?_⟩
        refine lcT D.str natD (fun _ => true) (fun o => pl o + 1) (rst us ps p) [] f (fun o ho => ⟨_, rfl, fun f Q q => q, fun _ f Q q => ?_⟩) ?_
        · have o1 := (mem_rst.mp ho).1
          exact ⟨ps, rfl, o1, _, atI_fi o1, q⟩
        rw [List.filter_eq_self.mpr (fun _ _ => rfl), List.nil_append]
        refine ⟨by rw [List.length_map, List.length_map]; exact L1 (by have := rlen p; show 1 + _ ≤ _; omega), ?_⟩
        refine ⟨0 :: ((rst us ps p).map fun o => pl o + 1).map (fun x : Nat => (x : Int)), ?_, by simp, fun m hm1 hm2 => ?_⟩
        · rw [natD_ints]; rfl
        have hm : m = ((mxS us ps pl p : Nat) : Int) := by
          obtain ⟨h1, h2, h3⟩ := fold_mx ((rst us ps p).map fun o => pl o + 1) 0
          have hle : ((mxS us ps pl p : Nat) : Int) ≤ m := by
            unfold mxS
            rcases h1 with h1 | h1
            · rw [h1]; exact hm2 0 (by simp)
            · exact hm2 _ (List.mem_cons_of_mem _ (List.mem_map.mpr ⟨_, h1, rfl⟩))
          have hge : m ≤ ((mxS us ps pl p : Nat) : Int) := by
            unfold mxS
            rcases List.mem_cons.mp hm1 with rfl | hm1
            · omega
            · obtain ⟨y, hy, rfl⟩ := List.mem_map.mp hm1
              have := h3 y hy
              omega
          omega
        show Q (.int (1 + m)) f
        rw [hm, show (1 : Int) + ((mxS us ps pl p : Nat) : Int) = ((mxS us ps pl p + 1 : Nat) : Int) by omega]
        exact q
      rw [List.filter_eq_self.mpr (fun _ _ => rfl), List.nil_append, List.map_map]
      refine hN _ _ ⟨rfl, mxS us ps pl, .sh (.str x), b, c, d, e, z, rfl, ?_⟩
      rw [List.length_append]
      exact hR.sync
    · rintro r f ⟨rfl, pl, a, b, c, d, e, z, rfl, hR⟩
      have hL : LvOk (bE us ps) ps pl := hR.lv (fun u hu => (bE_mem u hu).2) hac
      refine ⟨Nat.zero_le _, sorts_strs (L1 (by omega)) rasc, ?_⟩
      rw [sortD_strs]
      simp only [List.set_cons_succ, List.set_cons_zero, setsR, startR, List.map_cons, List.map_nil, List.cons_append, List.nil_append, List.replicate_succ, List.replicate_zero, List.length_cons, List.length_nil, Nat.reduceAdd, Nat.reduceSub]
      have ei : (ps.map fun p => natD (pl p + 1)) = ((ps.map fun p => pl p + 1).map fun x : Nat => (x : Int)).map D.int := by rw [← natD_ints, List.map_map]; rfl
      refine ⟨_, congrArg (fun z => [D.lst z]) ei, by rw [List.length_map, List.length_map]; exact hpos, fun m hm1 hm2 => ?_⟩
      obtain ⟨y, hy, rfl⟩ := List.mem_map.mp hm1
      obtain ⟨p1, hp1, rfl⟩ := List.mem_map.mp hy
      have hM : Mst ps pl (pl p1) := ⟨⟨p1, hp1, rfl⟩, fun p hp' => by have := hm2 _ (List.mem_map.mpr ⟨_, List.mem_map.mpr ⟨p, hp', rfl⟩, rfl⟩); omega⟩
      have q := q pl _ hL hM
      have hlt := hac.short (fun u hu => (bE_mem u hu).2) (hL.wk p1 hp1)
      generalize hmo : pl p1 = most at *
      refine ⟨rfl, ⟨by omega, by omega, by decide, by decide⟩, ?_⟩
      rw [show (((most + 1 : Nat) : Int) - 0).toNat = most + 1 by omega]
      refine dFor_dc (fun j r f1 => f1 = f ∧ ∃ (L R : List Str) (c d e z : Sl), r = [.sh (.ftp (ps.map D.str)), .sh (rstL us ps), .sh (.lst (ps.map fun p => natD (pl p + 1))), c, .ow (L.map D.str), .sh (.lst (R.map D.str)), d, e, z] ∧ L.length = j ∧ R.length ≤ 24 ∧ (∀ x ∈ R, x ∈ ps) ∧ (j ≤ most → ∃ x, R.find? (fun p => decide (pl p = most - j)) = some x) ∧ L ++ (if j ≤ most then tlO us ps pl (most - j) R else []) = twO us ps pl most) _ (most + 1) _ _ ?_ ?_ ⟨rfl, [], sortS ps, _, _, _, _, rfl, rfl, by rw [(sortS_perm ps).length_eq]; exact hl, fun x h => (sortS_perm ps).mem_iff.mp h, fun _ => ?_, ?_⟩
      · rintro j r f1 N hj ⟨rfl, L, R, c, d, e, z, rfl, hLl, hRl, hRs, hex, heq⟩ hN
        have hjm : j ≤ most := by omega
        obtain ⟨x, hx⟩ := hex hjm
        obtain ⟨tl, htl⟩ := find_head hx
        have xR : x ∈ R := List.mem_of_find?_eq_some hx
        have xp := hRs x xR
        have xv : pl x = most - j := of_decide_eq_true (List.find?_some (p := fun p => decide (pl p = most - j)) hx)
        refine ⟨_, rfl, _, rfl, by rw [List.length_map]; exact L1 (by omega), ?_⟩
        refine lcF D.str (fun p => decide (pl p = most - j)) R _ (fun p hp' => ⟨_, rfl, fun f Q h => ?_, fun _ f Q h => h⟩) ?_
        · refine ⟨ps, rfl, hRs p hp', _, atI_fi (hRs p hp'), ?_⟩
          show Q (decide (((pl p + 1 : Nat) : Int) = ((most + 1 : Nat) : Int) - (j : Int))) f
          rw [show decide (((pl p + 1 : Nat) : Int) = ((most + 1 : Nat) : Int) - (j : Int)) = decide (pl p = most - j) from decide_eq_decide.mpr (by omega)]
          exact h
        rw [htl]
        refine ⟨_, atI0, by rw [List.length_map]; exact L1 (by omega), ?_⟩
        simp only [List.set_cons_succ, List.set_cons_zero, setsR, startR, List.map_cons, List.map_nil, List.cons_append, List.nil_append, List.replicate_succ, List.replicate_zero, List.length_cons, List.length_nil, Nat.reduceAdd, Nat.reduceSub]
        have hlast : atI (L.map D.str ++ [D.str x]) (-1) = some (.str x) := by
          rw [show L.map D.str ++ [D.str x] = (L ++ [x]).map D.str by rw [List.map_append]; rfl, atI_last]; simp
        refine ⟨_, hlast, ps, rfl, xp, rfl, _, atI_fi xp, ?_⟩
        simp only [List.set_cons_succ, List.set_cons_zero, setsR, startR, List.map_cons, List.map_nil, List.cons_append, List.nil_append, List.replicate_succ, List.replicate_zero, List.length_cons, List.length_nil, Nat.reduceAdd, Nat.reduceSub]
        rw [if_pos hjm] at heq
        unfold tlO at heq
        rw [hx] at heq
        dsimp only at heq
        refine hN _ _ ⟨rfl, L ++ [x], rst us ps x, c, _, _, z, by rw [List.map_append]; rfl, by rw [List.length_append, hLl]; rfl, rlen x, fun y hy => (mem_rst.mp hy).1, fun hj2 => ?_, ?_⟩
        · obtain ⟨y, hy, _⟩ := twr_next (n := most - (j + 1)) hL xp (by omega)
          exact ⟨y, hy⟩
        · by_cases hj2 : j + 1 ≤ most
          · rw [if_pos hj2, ← heq, show most - j = (most - (j + 1)) + 1 by omega, twr_s, List.append_assoc]
            rfl
          · rw [if_neg hj2, ← heq, show most - j = 0 by omega, List.append_nil]
            rfl
      · rintro r f1 ⟨rfl, L, R, c, d, e, z, rfl, hLl, hRl, hRs, hex, heq⟩
        rw [if_neg (by omega), List.append_nil] at heq
        rw [heq]
        exact q
      · obtain ⟨p, h1, h2⟩ := hM.ex
        cases hf : (sortS ps).find? fun p => decide (pl p = most - 0) with
        | some x => exact ⟨x, rfl⟩
        | none =>
          have := List.find?_eq_none.mp hf p ((sortS_perm ps).mem_iff.mpr h1)
          simp at this
          omega
      · rw [if_pos (Nat.zero_le _)]
        rfl
theorem sc__law_stream : FnScope ["_law_script", "_law_units", "_law_unit"] ["_law_script"] (defScope s__law_stream) := ⟨rfl, rfl, rfl, by decide +kernel, rfl, by decide +kernel, by decide +kernel⟩
theorem ok__law_stream (d : Df K mg "_law_stream" s__law_stream) (m_abs : mg "abs" = none) : CalDn "_law_stream" P w K mg base := by
  obtain ⟨f, fd, F, mm⟩ := d
  refine ⟨f, fd, ?_, F.kp, F.binds fun _ _ _ _ _ _ us hl => match us, hl with | [_], _ => rfl, mm⟩
  refine F.ok sc__law_stream (fun vs H Q E h => ?_) (fun cdv A outer s H vs Q E hr h => ?_)
  · obtain ⟨a, ns, rfl, _⟩ := h
    rfl
  · obtain ⟨a, ns, rfl, hS, hlen, q⟩ := h
    refine ⟨_, pss_cons (ps_setLc (i := 1) (own := [("_law_unit", 2)]) (g := gName 2) (tt := tYes) rfl sc__law_stream.nd rfl rfl (sw_true rfl rfl rfl (by decide +kernel)) (pi_list (pv 0)) (blkOk_by (N := ["_law_script", "_law_units", "_law_unit"]) (sc := defScope s__law_stream) (by decide +kernel))
        (fun _ _ _ _ _ => pg_name (i := 2) sc__law_stream.nd rfl (Or.inl rfl)) (fun _ _ _ _ _ => pts_nil) (fun _ _ _ _ _ => pe_callB call_abs (by rfl) m_abs (by decide +kernel) (pa_cons (pv 2) pa_nil)))
      (pss_one (ps_ret (pe_lst (pa_cons (pe_lc (own := [("_law_unit", 2)]) (g := gName 2) rfl sc__law_stream.nd (pi_list (pv 1)) (blkOk_by (N := ["_law_script", "_law_units", "_law_unit"]) (sc := defScope s__law_stream) (by decide +kernel))
          (fun _ _ _ _ _ => pg_name (i := 2) sc__law_stream.nd rfl (Or.inl rfl)) (fun _ _ _ _ _ => pts_one (pt_cmpR op_ge (pv 2) (pe_op op_pow pe_int pe_int) (nomark _))) (fun _ _ _ _ _ => pv 2))
        (pa_cons (pe_ifExp (pt_cmpR (op_neD hr.units) (pv 1) (pe_lst pa_nil) (nomark _)) (pv 1) (pe_lst (pa_cons pe_int pa_nil)))
        (pa_cons pe_int pa_nil)))))), ?_⟩
    -- cells
    refine ⟨.ref a, rfl, a, rfl, ⟨_, hS⟩, fun D hD => ?_⟩
    have ab : ∀ i : Int, (if i < 0 then -i else i) = (i.natAbs : Int) := fun i => by split <;> omega
    refine lc_list (K := K) (a := a) (xs := ns.map V.int) (fun i H2 => Same H H2 ∧ H2 D = some (.lst (((ns.take i).map fun n => (n.natAbs : Int)).map V.int))) ⟨same_upd hD, upd_same⟩ (fun i H2 _ h2 => h2.1.seq hS) (fun i x H2 hx h2 => ?_) (fun H1 h1 => ?_)
    · obtain ⟨s2, e2⟩ := h2
      have hil : i < ns.length := by
        have := (List.getElem?_eq_some_iff.mp hx).1
        simpa using this
      rw [List.getElem?_map, List.getElem?_eq_getElem hil] at hx
      cases hx
      refine ⟨rfl, ?_⟩
      unfold tYes
      refine iteT ?_
      refine ⟨.int ns[i], rfl, ns[i], rfl, _, e2, ?_, ?_, ?_⟩
      · rw [List.length_map, List.length_map, List.length_take]
        exact lim_lt (Nat.le_trans (Nat.min_le_left _ _) (Nat.le_trans (Nat.le_of_lt hil) (Nat.le_trans hlen (by decide))))
      · intro b o e
        rw [upd_ne (ne_of_none e hD)]
        exact s2 b o e
      · rw [upd_same, ab, List.take_add_one, List.getElem?_eq_getElem hil, List.map_append, List.map_append]
        rfl
    obtain ⟨s1, e1⟩ := h1
    rw [List.length_map, List.take_length] at e1
    generalize hcs : (ns.map fun n => (n.natAbs : Int)) = cs at e1
    have hcl : cs.length = ns.length := by rw [← hcs, List.length_map]
    have hcp : ∀ x ∈ cs, 0 ≤ x := fun x hx => by
      rw [← hcs] at hx
      obtain ⟨n, _, rfl⟩ := List.mem_map.mp hx
      exact Int.natCast_nonneg _
    -- the great ones
    refine ⟨.ref D, rfl, D, rfl, ⟨_, SqL.of e1⟩, fun B hB => ?_⟩
    have nDB : D ≠ B := ne_of_none e1 hB
    refine lc_list (K := K) (a := D) (xs := cs.map V.int) (fun i H2 => Same H1 H2 ∧ ∃ zs : List Int, H2 B = some (.lst (zs.map V.int)) ∧ zs.length ≤ i ∧ ∀ z ∈ zs, 0 ≤ z) ⟨same_upd hB, [], upd_same, Nat.le_refl _, by simp⟩ (fun i H2 _ h2 => SqL.of (h2.1 _ _ e1)) (fun i x H2 hx h2 => ?_) (fun H2 h2 => ?_)
    · obtain ⟨s2, zs, e2, l2, p2⟩ := h2
      have hil : i < cs.length := by
        have := (List.getElem?_eq_some_iff.mp hx).1
        simpa using this
      rw [List.getElem?_map, List.getElem?_eq_getElem hil] at hx
      cases hx
      refine ⟨rfl, .int cs[i], rfl, 10, 18, rfl, rfl, ⟨by decide, by decide, by decide⟩, cs[i], _, rfl, rfl, _, rfl, ite2 (fun _ => ?_) (fun _ => ?_)⟩
      · refine ⟨.int cs[i], rfl, zs.map V.int, e2, ?_, fun b o e => ?_, zs ++ [cs[i]], ?_, ?_, ?_⟩
        · rw [List.length_map]
          exact lim_lt (Nat.le_trans l2 (Nat.le_trans (Nat.le_of_lt hil) (by rw [hcl]; exact Nat.le_trans hlen (by decide))))
        · rw [upd_ne (ne_of_none e hB)]
          exact s2 b o e
        · rw [upd_same, List.map_append]; rfl
        · simp; omega
        · intro z hz
          rcases List.mem_append.mp hz with h | h
          · exact p2 z h
          · rw [List.mem_singleton.mp h]; exact hcp _ (List.getElem_mem hil)
      · exact ⟨s2, zs, e2, Nat.le_trans l2 (Nat.le_succ i), p2⟩
    obtain ⟨s2, zs, e2, l2, p2⟩ := h2
    have f1 : H2 D = some (.lst (cs.map V.int)) := s2 _ _ e1
    -- units, or [53]
    have hDn : H D = none := hD
    have s02 : Same H H2 := s1.trans s2
    have hBn : H B = none := s1.free hB
    have tail : ∀ (H5 : Hp) (C : Addr) (ys : List Int) (p : Addr), Same H2 H5 → H C = none → B ≠ C → H5 C = some (.lst (ys.map V.int)) → (∀ y ∈ ys, 0 ≤ y) → 0 < ys.length → H5 p = none → Q (.ref p) (upd H5 p (.lst [V.ref B, V.ref C, V.int 0])) := by
      intro H5 C ys p s5 hC nBC e5 py ly hp
      have gB := s5 _ _ e2
      have nBp : B ≠ p := ne_of_none gB hp
      have nCp : C ≠ p := ne_of_none e5 hp
      have sp := same_upd (o := .lst [V.ref B, V.ref C, V.int 0]) hp
      refine q _ ⟨p, B, C, []⟩ ((s02.trans s5).trans sp) ((s02.trans s5).free hp) hBn hC ⟨fun e => nBp e.symm, fun e => nCp e.symm, nBC, 0, zs, ys, upd_same, ?_, ?_, p2, py, ly, by decide, by decide⟩
      · rw [upd_ne nBp]; exact gB
      · rw [upd_ne nCp]; exact e5
    refine ⟨.ref D, rfl, Nat.zero_le _, fun T hT => ?_⟩
    have nDT : D ≠ T := ne_of_none f1 hT
    have sT : Same H2 (upd H2 T (.lst [])) := same_upd hT
    refine ⟨.list (cs.map PyData.int), .list (([] : List Int).map PyData.int), dp_ints (by rw [upd_ne nDT]; exact f1), dp_ints (l := []) upd_same, shaped_ints _, shaped_ints [], ?_⟩
    have f2 : upd H2 T (.lst []) D = some (.lst (cs.map V.int)) := sT _ _ f1
    generalize upd H2 T (.lst []) = H4 at sT f2 ⊢
    cases cs with
    | nil =>
      refine ⟨false, rfl, ?_⟩
      refine iteF ?_
      refine ⟨by show 1 ≤ sizeLine; decide, fun C hC => ?_⟩
      refine ⟨by show 3 ≤ sizeLine; decide, fun p hp => ?_⟩
      exact tail _ C [53] p (sT.trans (same_upd hC)) ((s02.trans sT).free hC) (ne_of_none (sT _ _ e2) hC) upd_same (by simp) (by simp) hp
    | cons c cs =>
      refine ⟨true, rfl, ?_⟩
      refine iteT ?_
      refine ⟨.ref D, rfl, ?_⟩
      refine ⟨by show 3 ≤ sizeLine; decide, fun p hp => ?_⟩
      exact tail _ D (c :: cs) p sT hDn nDB.symm f2 hcp (by simp) hp
/-! law -/
theorem sc_law : FnScope ["_law_script", "_law_stream_here", "_law_turn", "_law_names_here", "_law_areas_here", "_law_modules_here", "_law_uses_here", "_law_paths", "_law_program", "_law_rests_here", "_law_told_here", "_law_due", "_law_word"] ["_law_script"] (defScope s_law) := ⟨rfl, rfl, rfl, by decide +kernel, rfl, by decide +kernel, by decide +kernel⟩
set_option maxHeartbeats 4000000 in
theorem ok_law {f : Addr} {fd : FuncData} (F : Fun K "law" "law" s_law f fd) (c__law_deck : CalDn "_law_stream" P w K mg base) (m_range : mg "range" = none) (m_len : mg "len" = none) (m_tuple : mg "tuple" = none) {C_Program : Addr} (k_Program : KC K "Program" C_Program) (c__law_ringed : Cal P w K mg base 1 "_law_ringed" ["_law_paths", "_law_rests_here"] Sp__law_ringed) (c__law_highest : Cal P w K mg base 1 "_law_highest" ["_law_paths", "_law_rests_here"] Sp__law_highest) (c__law_told : Cal P w K mg base 7 "_law_told" ["_law_word", "_law_program", "_law_paths"] Sp__law_told) (c__law_rests : Cal P w K mg base 3 "_law_rests" ["_law_paths", "_law_uses_here"] Sp__law_rests) (c_Program___init__ : Mkr P w K mg base 6 "Program" ["self", "modules", "uses"] Sp_Program___init__) (c__law_shuffled : Cal P w K mg base 2 "_law_shuffled" ["_law_stream_here", "_law_items"] Sp__law_shuffled) (c__law_ranked : Cal P w K mg base 3 "_law_ranked" ["_law_stream_here", "_law_areas_here", "_law_modules_here"] Sp__law_ranked) (c__law_modules : Cal P w K mg base 3 "_law_modules" ["_law_stream_here", "_law_areas_here", "_law_names_here"] Sp__law_modules) (c__law_draw : Cal P w K mg base 1 "_law_draw" ["_law_stream_here", "_law_many"] Sp__law_draw) (c__law_areas : Cal P w K mg base 3 "_law_areas" ["_law_stream_here", "_law_heads", "_law_names_here", "_law_deep"] Sp__law_areas) (c__law_names : Cal P w K mg base 3 "_law_names" ["_law_stream_here", "_law_many"] Sp__law_names) : FnOk P w K mg base CX0 8 f fd ["_law_script"] (spLaw K) := by
  obtain ⟨fD, fdD, GD, kD, bD, mD⟩ := c__law_deck
  refine dlaw F sc_law (by decide) rfl (fun cdv A outer s H E hr => ⟨ps_set (i := 1) sc_law.nd rfl (.inl rfl) (pe_call GD (hr.mono (by decide)) (by rfl) mD kD bD .nil pass0 (pa_cons (pv 0) pa_nil)), (dss_cons (ds_for [] PassesOwn.never (di_range1 m_range (da_cons de_int da_nil)) (dg_name (i := 2) sc_law.nd) (dss_cons (ds_set false (i := 3) sc_law.nd (de_callC c__law_names (hr.mono (by decide)) (da_cons (de_v 1) (da_cons de_int da_nil))))
      (dss_cons (ds_set false (i := 4) sc_law.nd (de_callC c__law_shuffled (hr.mono (by decide)) (da_cons (de_v 1) (da_cons (de_callC c__law_areas (hr.mono (by decide)) (da_cons (de_v 1) (da_cons (de_sl (de_v 3) do_none (do_some de_int)) (da_cons (de_sl (de_v 3) (do_some de_int) (do_some (de_add de_int (de_callC c__law_draw (hr.mono (by decide)) (da_cons (de_v 1) (da_cons de_int da_nil)))))) (da_cons de_int da_nil))))) da_nil))))
      (dss_cons (ds_set false (i := 5) sc_law.nd (de_callC c__law_modules (hr.mono (by decide)) (da_cons (de_v 1) (da_cons (de_v 4) (da_cons (de_sl (de_v 3) (do_some de_int) (do_some (de_add de_int (de_callC c__law_draw (hr.mono (by decide)) (da_cons (de_v 1) (da_cons de_int da_nil)))))) da_nil)))))
      (dss_cons (ds_set false (i := 6) sc_law.nd (de_callC c__law_ranked (hr.mono (by decide)) (da_cons (de_v 1) (da_cons (de_v 4) (da_cons (de_v 5) da_nil)))))
      (dss_cons (ds_set false (i := 7) sc_law.nd (de_callTy call_tupleF sc_tupF (by rfl) m_tuple (by decide +kernel) (da_cons (de_callC c__law_shuffled (hr.mono (by decide)) (da_cons (de_v 1) (da_cons (de_v 4) da_nil))) da_nil)))
      (dss_cons (ds_set false (i := 8) sc_law.nd (de_make c_Program___init__ (hr.mono (by decide)) (da_cons (de_callTy call_tuple_of sc_tuple (by rfl) m_tuple (by decide +kernel) (da_cons (de_v 5) da_nil)) (da_cons (de_callTy call_tuple_of sc_tuple (by rfl) m_tuple (by decide +kernel) (da_cons (de_v 6) da_nil)) da_nil))))
      (dss_cons (ds_set false (i := 9) sc_law.nd (de_callC c__law_rests (hr.mono (by decide)) (da_cons (de_v 7) (da_cons (de_v 6) da_nil))))
      (dss_cons (ds_setLc (i := 10) (own := [("_law_word", 12)]) sc_law.nd (di_seq (dl_lst (da_cons de_str (da_cons de_str (da_cons de_str da_nil)))).e) (blkOk_by (own := [("_law_word", 12)]) (N := ["_law_script", "_law_stream_here", "_law_turn", "_law_names_here", "_law_areas_here", "_law_modules_here", "_law_uses_here", "_law_paths", "_law_program", "_law_rests_here", "_law_told_here", "_law_due", "_law_word"]) (sc := defScope s_law) (by decide +kernel)) (fun _ _ _ _ _ => dg_name (i := 12) sc_law.nd) (fun _ _ _ _ _ => dts_nil) (fun _ _ _ _ _ => (de_callC c__law_told (hr.mono (by decide)) (da_cons (de_v 12) (da_cons (de_v 8) (da_cons (de_v 7) da_nil))))) (fun _ _ _ h => snd_set (m := false) (i := 10) h.e))
      (dss_cons (ds_if (dp_val (de_callC c__law_ringed (hr.mono (by decide)) (da_cons (de_v 7) (da_cons (de_v 9) da_nil)))) (dss_one (ds_if (DW.p (dw_or (dp_ne hr.units (de_ix (de_ix (de_v 10) de_int) de_int) de_str) (dw_or1 (dp_ne hr.units (de_ix (de_ix (de_v 10) de_int) de_int) de_str)))) (dss_one (ds_ret de_bl)) dss_nil)) (dss_cons (ds_set false (i := 11) sc_law.nd (de_callC c__law_highest (hr.mono (by decide)) (da_cons (de_v 7) (da_cons (de_v 9) da_nil))))
      (dss_one (ds_if (DW.p (dw_or (dp_ne hr.units (de_ix (de_v 10) de_int) (dl_lst (da_cons (de_v 11) da_nil)).e) (dw_or1 (dp_ne hr.units (de_len m_len (da_cons (de_ix (de_ix (de_v 10) de_int) de_int) da_nil)) (de_len m_len (da_cons (de_v 11) da_nil)))))) (dss_one (ds_ret de_bl)) dss_nil))))
      (dss_one (ds_if (dp_ne hr.units (de_ix (de_v 10) de_int) (de_ix (de_v 10) de_int)) (dss_one (ds_ret de_bl)) dss_nil))))))))))))
      (dss_one (ds_ret de_bl)))⟩) ?h
  case h =>
    intro dk
    refine ⟨by decide, by decide, ?_⟩
    refine dFor_range (fun i r f => ∃ a2 a3 a4 a5 a6 a7 a8 a9 a10 a11 a12 : Sl, r = [.no, .sh (.any (.ref dk.a)), a2, a3, a4, a5, a6, a7, a8, a9, a10, a11, a12] ∧ 1000000000000 ≤ f + 10000 * i) 0 _ _ _ ?_ (fun r f _ => rfl) ⟨_, _, _, _, _, _, _, _, _, _, _, rfl, by omega⟩
    rintro i r f N hi ⟨a2, a3, a4, a5, a6, a7, a8, a9, a10, a11, a12, rfl, hf⟩ hN
    have hi : i < 3 := hi
    refine ⟨_, rfl, dk, 25, rfl, rfl, by decide, by omega, fun nl f1 nlen hnm hnd hf1 => ?_⟩
    have hnl : nl.length = 25 := nlen
    obtain ⟨f2, rfl⟩ : ∃ f2, f1 = f2 + 1 := ⟨f1 - 1, by omega⟩
    refine ⟨dk, 8, f2, rfl, rfl, by decide, by decide, rfl, fun c hc0 hc1 => ?_⟩
    obtain ⟨c, rfl⟩ : ∃ c' : Nat, c = c' := ⟨c.toNat, by omega⟩
    have e3 : cutD (nl.map D.str) (some 2) (some (3 + (c : Int))) = ((nl.drop 2).take (c + 1)).map D.str := by
      have := cutD_mid nl 2 (3 + c) (by omega) (by omega)
      rw [show 3 + c - 2 = c + 1 by omega] at this
      exact this
    have e4 : cutD (nl.map D.str) none (some 2) = (nl.take 2).map D.str := cutD_takeS nl 2
    refine ⟨dk, nl.take 2, (nl.drop 2).take (c + 1), 4, rfl, ?_, by rw [List.length_take]; omega, by rw [List.length_take]; omega, fun x h => hnm x (List.mem_of_mem_take h), by rw [List.length_take]; omega, fun x h => hnm x (List.mem_of_mem_drop (List.mem_of_mem_take h)), by decide, by rw [List.length_take]; omega, fun zs0 f3 hzs0 hf3 => ?_⟩
    · show [D.any (V.ref dk.a), D.lst (cutD (nl.map D.str) none (some 2)), D.lst (cutD (nl.map D.str) (some 2) (some (3 + (c : Int)))), D.int 4] = _
      rw [e3, e4]
      rfl
    have hzl0 : zs0.length = c + 1 := by
      have := congrArg List.length hzs0.n
      rw [List.length_map, List.length_take, List.length_drop] at this
      omega
    have hf3 : f2 ≤ f3 + 24 := by rw [List.length_take] at hf3; omega
    refine ⟨dk, _, rfl, rfl, by rw [List.length_map, List.length_map]; omega, by rw [List.length_map, List.length_map]; omega, fun ys f4 hperm hf4 => ?_⟩
    rw [List.map_map] at hperm
    obtain ⟨zs, hpz, rfl⟩ := permM hperm zs0 rfl
    rw [List.length_map, List.length_map] at hf4
    have hzl : zs.length = c + 1 := by rw [hpz.length_eq]; exact hzl0
    have hzs := ars_perm hzs0 hpz
    simp only [List.set_cons_succ, List.set_cons_zero, setsR, startR, List.map_cons, List.map_nil, List.cons_append, List.nil_append, List.replicate_succ, List.replicate_zero, List.length_cons, List.length_nil, Nat.reduceAdd, Nat.reduceSub]
    obtain ⟨f5, rfl⟩ : ∃ f5, f4 = f5 + 1 := ⟨f4 - 1, by omega⟩
    refine ⟨dk, 15, f5, rfl, rfl, by decide, by decide, rfl, fun d hd0 hd1 => ?_⟩
    obtain ⟨d, rfl⟩ : ∃ d' : Nat, d = d' := ⟨d.toNat, by omega⟩
    have hN2 : Nms (nl.take 2) (zs.map (·.2.2)) ((nl.drop 10).take d) := nms_perm (nms10 hnm hnd (c + 1) d (by omega)) (by rw [← hzs0.n]; exact hpz.map _)
    have e5 : cutD (nl.map D.str) (some 10) (some (10 + (d : Int))) = ((nl.drop 10).take d).map D.str := by
      have := cutD_mid nl 10 (10 + d) (by omega) (by omega)
      rw [show 10 + d - 10 = d by omega] at this
      exact this
    have hll : ((nl.drop 10).take d).length ≤ 14 := by rw [List.length_take]; omega
    have hp : PVm (zs.map arS) := ars_pvm hzs (by decide) hN2 (by omega)
    have hpl : (zs.map arS).length ≤ 8 := by rw [List.length_map]; omega
    refine ⟨dk, nl.take 2, zs.map (·.2.2), (nl.drop 10).take d, 4, zs, rfl, ?_, hzs, by decide, hN2, by omega, by omega, by omega, fun ms f6 hm hf6 => ?_⟩
    · show [D.any (V.ref dk.a), D.lst (zs.map (D.str ∘ arS)), D.lst (cutD (nl.map D.str) (some 10) (some (10 + (d : Int))))] = _
      rw [e5, List.map_map]
    rw [← List.map_map]
    have hpa : PVm (zs.map arS) := hp
    generalize hps : zs.map arS = as at hp hpl ⊢
    simp only [List.set_cons_succ, List.set_cons_zero, setsR, startR, List.map_cons, List.map_nil, List.cons_append, List.nil_append, List.replicate_succ, List.replicate_zero, List.length_cons, List.length_nil, Nat.reduceAdd, Nat.reduceSub]
    refine ⟨dk, as, ms, rfl, rfl, hp, hm, by omega, fun us f8 hu hf8 => ?_⟩
    simp only [List.set_cons_succ, List.set_cons_zero, setsR, startR, List.map_cons, List.map_nil, List.cons_append, List.nil_append, List.replicate_succ, List.replicate_zero, List.length_cons, List.length_nil, Nat.reduceAdd, Nat.reduceSub]
    refine ⟨dk, as.map D.str, rfl, rfl, by rw [List.length_map]; omega, by rw [List.length_map]; omega, fun ys f9 hperm2 hf9 => ?_⟩
    obtain ⟨ps, hpp, rfl⟩ := permM hperm2 as rfl
    rw [List.length_map] at hf9
    have hp2 : PVm ps := hp.perm hpp
    have hne : ps ≠ [] := by
      intro e
      subst e
      have := hpp.length_eq
      rw [← hps, List.length_map, hzl] at this
      cases this
    have hul := hu.len
    simp only [List.set_cons_succ, List.set_cons_zero, setsR, startR, List.map_cons, List.map_nil, List.cons_append, List.nil_append, List.replicate_succ, List.replicate_zero, List.length_cons, List.length_nil, Nat.reduceAdd, Nat.reduceSub]
    refine ⟨ms, us, rfl, hm, hu, fun ks hks => ?_⟩
    simp only [List.set_cons_succ, List.set_cons_zero, setsR, startR, List.map_cons, List.map_nil, List.cons_append, List.nil_append, List.replicate_succ, List.replicate_zero, List.length_cons, List.length_nil, Nat.reduceAdd, Nat.reduceSub]
    refine ⟨ms, ps, us, rfl, hm, hu, hp2, ?_⟩
    simp only [List.set_cons_succ, List.set_cons_zero, setsR, startR, List.map_cons, List.map_nil, List.cons_append, List.nil_append, List.replicate_succ, List.replicate_zero, List.length_cons, List.length_nil, Nat.reduceAdd, Nat.reduceSub]
    have rasc : ∀ s ∈ ps, asc s := fun s hs => (hp2.path s hs).asc
    have fin : ∀ (b9 b10 b11 b12 : Sl), N [.no, .sh (.any (.ref dk.a)), .sh (.int (0 + (i : Int))), .sh (.lst (nl.map D.str)), .sh (.lst (as.map D.str)), .sh (.lst (ms.map D.str)), .sh (.lst (us.map pairD)), .sh (.ftp (ps.map D.str)), .sh (prgD ms us ks), b9, b10, b11, b12] f9 := fun b9 b10 b11 b12 => hN _ _ ⟨_, _, _, _, _, _, _, _, _, _, _, rfl, by omega⟩
    refine ⟨show 3 ≤ lim by decide, show 3 ≤ lim by decide, ?_⟩
    have ne : ¬ ("tower" : Str) = "levels" := by decide +kernel
    cases hfr : frR us ps with
    | some w =>
      have wasc : ∀ u ∈ w, ascU u := fun u h => hu.asc hm u ((frR_mem hp2.len w hfr).2 u h)
      have hsh : Shp 3 (D.tup [.str "circular", tpU w]) := shp_tup fun x hx => by
        simp only [List.mem_cons, List.not_mem_nil, or_false] at hx
        rcases hx with rfl | rfl
        · exact shp_str (by decide +kernel) 2
        · exact shp_tpU wasc
      refine ⟨_, ms, us, ks, ps, rfl, hm, hu, hp2, hne, fun w2 hw2 => ?_, fun hw2 => by rw [hfr] at hw2; cases hw2⟩
      rw [hfr] at hw2
      cases hw2
      refine ⟨_, ms, us, ks, ps, rfl, hm, hu, hp2, hne, fun w2 hw2 => ?_, fun hw2 => by rw [hfr] at hw2; cases hw2⟩
      rw [hfr] at hw2
      cases hw2
      refine ⟨_, ms, us, ks, ps, rfl, hm, hu, hp2, hne, fun w2 hw2 => ?_, fun hw2 => by rw [hfr] at hw2; cases hw2⟩
      rw [hfr] at hw2
      cases hw2
      simp only [List.set_cons_succ, List.set_cons_zero, setsR, startR, List.map_cons, List.map_nil, List.cons_append, List.nil_append, List.replicate_succ, List.replicate_zero, List.length_cons, List.length_nil, Nat.reduceAdd, Nat.reduceSub]
      refine ⟨us, ps, rfl, hp2, ?_⟩
      rw [hfr]
      refine iteT ⟨_, atI0, _, atI0, ?_⟩
      refine ⟨_, atI_nat (j := 1) rfl, _, atI0, ?_⟩
      refine nxt (g := some dk) ?_
      refine ⟨_, atI_nat (j := 2) rfl, _, atI0, ?_⟩
      refine (oEq_data (neg := true) (hsh.of (by decide)) (hsh.of (by decide)) ?_ : oEq true _ _ _)
      rw [eqv_shp hsh]
      exact iteF (nxt (g := some dk) (fin _ _ _ _))
    | none =>
      refine ⟨_, ms, us, ks, ps, rfl, hm, hu, hp2, hne, (fun w2 hw2 => by rw [hfr] at hw2; cases hw2), fun _ => ?_⟩
      rw [if_neg ne]
      intro l1 m1 a1 b1
      refine ⟨_, ms, us, ks, ps, rfl, hm, hu, hp2, hne, (fun w2 hw2 => by rw [hfr] at hw2; cases hw2), fun _ => ?_⟩
      rw [if_pos rfl]
      intro l2 m2 a2 b2
      refine ⟨_, ms, us, ks, ps, rfl, hm, hu, hp2, hne, (fun w2 hw2 => by rw [hfr] at hw2; cases hw2), fun _ => ?_⟩
      rw [if_neg ne]
      intro l3 m3 a3 b3
      simp only [List.set_cons_succ, List.set_cons_zero, setsR, startR, List.map_cons, List.map_nil, List.cons_append, List.nil_append, List.replicate_succ, List.replicate_zero, List.length_cons, List.length_nil, Nat.reduceAdd, Nat.reduceSub]
      refine ⟨us, ps, rfl, hp2, ?_⟩
      rw [hfr]
      refine ⟨us, ps, rfl, hp2, hne, hfr, fun l4 m4 a4 b4 => ?_⟩
      simp only [List.set_cons_succ, List.set_cons_zero, setsR, startR, List.map_cons, List.map_nil, List.cons_append, List.nil_append, List.replicate_succ, List.replicate_zero, List.length_cons, List.length_nil, Nat.reduceAdd, Nat.reduceSub]
      rw [twO_same a1 a4 b1 b4, twO_same a3 a4 b3 b4]
      have htm : ∀ s ∈ twO us ps l4 m4, asc s := fun s hs => by
        unfold twO at hs
        split at hs
        · next x e => exact rasc s (twr_mem _ _ ((sortS_perm ps).mem_iff.mp (List.mem_of_find?_eq_some e)) s hs)
        · cases hs
      have hsh1 : Shp 1 (D.tup ((twO us ps l4 m4).map D.str)) := shp_tup fun x hx => by
        obtain ⟨s, hs, rfl⟩ := List.mem_map.mp hx
        exact shp_str (htm s hs) 0
      have hsh : Shp 2 (D.lst [.tup ((twO us ps l4 m4).map D.str)]) := shp_lst fun x hx => by
        rw [List.mem_singleton.mp hx]
        exact hsh1
      have hlen : (twO us ps l4 m4).length = m4 + 1 := by
        obtain ⟨p, p1, p2⟩ := b4.ex
        unfold twO
        cases hf : (sortS ps).find? fun p => decide (l4 p = m4) with
        | none =>
          have := List.find?_eq_none.mp hf p ((sortS_perm ps).mem_iff.mpr p1)
          rw [decide_eq_true p2] at this
          exact absurd rfl this
        | some x => exact twr_len a4 m4 x ((sortS_perm ps).mem_iff.mp (List.mem_of_find?_eq_some hf)) (of_decide_eq_true (List.find?_some (p := fun p => decide (l4 p = m4)) hf))
      refine ⟨_, atI0, show 1 ≤ lim by decide, ?_⟩
      refine (oEq_data (neg := true) (hsh.of (by decide)) (hsh.of (by decide)) ?_ : oEq true _ _ _)
      rw [eqv_shp hsh]
      refine iteF ⟨_, atI_nat (j := 1) rfl, _, atI0, ?_⟩
      have e5 : ((((List.range (m2 + 1)).map fun r => D.tup (((sortS ps).filter fun p => decide (l2 p = r)).map D.str)).length : Nat) : Int) = ((((twO us ps l4 m4).map D.str).length : Nat) : Int) := by
        rw [List.length_map, List.length_range, List.length_map, hlen, most_eq a2 a4 b2 b4]
      show if (!decide (((((List.range (m2 + 1)).map fun r => D.tup (((sortS ps).filter fun p => decide (l2 p = r)).map D.str)).length : Nat) : Int) = ((((twO us ps l4 m4).map D.str).length : Nat) : Int))) = true then _ else _
      rw [decide_eq_true e5]
      refine iteF (nxt (g := some dk) ?_)
      refine ⟨_, atI_nat (j := 2) rfl, _, atI0, ?_⟩
      refine (oEq_data (neg := true) (hsh.of (by decide)) (hsh.of (by decide)) ?_ : oEq true _ _ _)
      rw [eqv_shp hsh]
      exact iteF (nxt (g := some dk) (fin _ _ _ _))
end
theorem all_mk {l : PySem.W.OpenLaw} {w : World} {K : PySem.W.Frag} {h : Heap} {mg : Str → Option Value} {fa : Addr} (X : K.In h) (G : h.Ns mainGlobals mg) (hfa : mg "law" = some (.ref fa))
    {C_Program : Addr} (kc0_Program : PySem.W.nsIn K mainGlobals "Program" = some (some (.ref C_Program))) (kc1_Program : PySem.W.plainGet K C_Program Str.empty = true) (kc2_Program : PySem.W.hasDictIn K C_Program = true) (kc3_Program : PySem.W.plainOver K C_Program = true) (kc4_Program : PySem.W.findIn K (.ref C_Program) "__setattr__" = some (some (.builtin "object.__setattr__")))
    (ko0_Program : PySem.W.findIn K (.ref C_Program) "__class__" = some (some (.builtin "object.__class__"))) (ko1_Program : PySem.W.specialIn K (.builtin "object.__class__") "__get__" = some (some (.builtin "getset_descriptor.__get__"))) (ko2_Program : PySem.W.takesIn K (.builtin "object.__class__") = some true) (ko3_Program : PySem.W.mroIn K C_Program (.type "object") = some true)
    (ko4_Program : PySem.W.subIn K (.ref C_Program) (.type "tuple") = some false) (ko5_Program : PySem.W.subIn K (.ref C_Program) (.type "str") = some false)
    {C_Circular : Addr} (xc0_Circular : PySem.W.nsIn K mainGlobals "Circular" = some (some (.ref C_Circular)))
    {C_Overlap : Addr} (xc0_Overlap : PySem.W.nsIn K mainGlobals "Overlap" = some (some (.ref C_Overlap)))
    (xf0_Circular : PySem.W.findIn K (.ref C_Circular) "__getattribute__" = some (some (.builtin "BaseException.__getattribute__"))) (xf1_Circular : PySem.W.findIn K (.ref C_Circular) "__getattr__" = some none) (xf2_Circular : PySem.W.subIn K (.ref C_Circular) (.type "BaseException") = some true) (xf3_Circular : PySem.W.hasDictIn K C_Circular = true) (xh0_Circular : PySem.W.findIn K (.ref C_Circular) "__class__" = some (some (.builtin "object.__class__"))) (xh1_Circular : PySem.W.specialIn K (.builtin "object.__class__") "__get__" = some (some (.builtin "getset_descriptor.__get__"))) (xh2_Circular : PySem.W.takesIn K (.builtin "object.__class__") = some true) (xh3_Circular : PySem.W.mroIn K C_Circular (.type "object") = some true)
    (xf0_Overlap : PySem.W.findIn K (.ref C_Overlap) "__getattribute__" = some (some (.builtin "BaseException.__getattribute__"))) (xf1_Overlap : PySem.W.findIn K (.ref C_Overlap) "__getattr__" = some none) (xf2_Overlap : PySem.W.subIn K (.ref C_Overlap) (.type "BaseException") = some true) (xf3_Overlap : PySem.W.hasDictIn K C_Overlap = true) (xh0_Overlap : PySem.W.findIn K (.ref C_Overlap) "__class__" = some (some (.builtin "object.__class__"))) (xh1_Overlap : PySem.W.specialIn K (.builtin "object.__class__") "__get__" = some (some (.builtin "getset_descriptor.__get__"))) (xh2_Overlap : PySem.W.takesIn K (.builtin "object.__class__") = some true) (xh3_Overlap : PySem.W.mroIn K C_Overlap (.type "object") = some true)
    (xm_Overlap_Circular : PySem.W.exmOne K (.ref C_Circular) (.ref C_Overlap) = some false)
    (xm_Circular_Circular : PySem.W.exmOne K (.ref C_Circular) (.ref C_Circular) = some true)
    (kn_n_Program_heads : PySem.W.findIn K (.ref C_Program) "heads" = some none)
    (kn_n_Program_links : PySem.W.findIn K (.ref C_Program) "links" = some none)
    (kn_n_Program_places : PySem.W.findIn K (.ref C_Program) "places" = some none)
    (kn_n_Overlap_path : PySem.W.findIn K (.ref C_Overlap) "path" = some none)
    (kn_n_Circular_evidence : PySem.W.findIn K (.ref C_Circular) "evidence" = some none)
    {xq0_Circular xq1_Circular xq2_Circular xq3_Circular xq4_Circular xq5_Circular xq6_Circular xq7_Circular xq8_Circular xq9_Circular xqa_Circular xqb_Circular xqc_Circular xqd_Circular xqe_Circular : _} (xl_Circular : K.lookup C_Circular = some (excClassObj xq0_Circular xq1_Circular C_Circular xq2_Circular xq3_Circular xq4_Circular true xq5_Circular xq6_Circular xq7_Circular xq8_Circular xq9_Circular xqa_Circular xqb_Circular xqc_Circular xqd_Circular xqe_Circular "ValueError.__new__")) (xr_Circular : PySem.HandSPX.refsVE xq4_Circular = true)
    (xs0_Circular : PySem.W.findIn K (.ref C_Circular) "__setattr__" = some (some (.builtin "object.__setattr__"))) (xs1_Circular : PySem.W.subIn K (.ref C_Circular) (.type "BaseException") = some true) (xs2_Circular : PySem.W.typeIn K (.ref C_Circular) = some (.type "type")) (xs3_Circular : PySem.W.keepIn K (.ref C_Circular) = true) (xs4_Circular : PySem.W.findIn K (.ref C_Circular) "evidence" = some none)
    {fx_Circular : Addr} {odx_Circular anx_Circular : Option Addr} {slx_Circular : Array (Option Value)} {ocx_Circular kVx_Circular dcx_Circular pmx_Circular cdx_Circular ctx_Circular : Value} (xi_Circular : PySem.W.findIn K (.ref C_Circular) "__init__" = some (some (.ref fx_Circular))) (xt_Circular : PySem.W.typeIn K (.ref fx_Circular) = some (.type "function")) (lx_Circular : K.lookup fx_Circular = some ⟨ocx_Circular, odx_Circular, .func (PySem.W.fnOf "__init__" "Circular.__init__" (defArgs s_x_Circular) (defBody s_x_Circular) (defScope s_x_Circular) .none kVx_Circular dcx_Circular pmx_Circular anx_Circular cdx_Circular ctx_Circular), slx_Circular⟩) (cx_Circular : PySem.W.codeIn K cdx_Circular "Circular.__init__" = true) (kx0_Circular : PySem.W.keepIn K (.ref fx_Circular) = true)
    {f0 : Addr} {od0 an0 : Option Addr} {sl0 : Array (Option Value)} {oc0 kV0 dc0 pm0 cd0 ct0 : Value}
    (a0 : PySem.W.nsIn K mainGlobals "_law_draw" = some (some (.ref f0))) (l0 : K.lookup f0 = some ⟨oc0, od0, .func (PySem.W.fnOf "_law_draw" "_law_draw" (defArgs s__law_draw) (defBody s__law_draw) (defScope s__law_draw) .none kV0 dc0 pm0 an0 cd0 ct0), sl0⟩) (c0 : PySem.W.codeIn K cd0 "_law_draw" = true) (k0 : PySem.W.keepIn K (.ref f0) = true)
    {f1 : Addr} {od1 an1 : Option Addr} {sl1 : Array (Option Value)} {oc1 kV1 dc1 pm1 cd1 ct1 : Value}
    (a1 : PySem.W.nsIn K mainGlobals "_law_pick" = some (some (.ref f1))) (l1 : K.lookup f1 = some ⟨oc1, od1, .func (PySem.W.fnOf "_law_pick" "_law_pick" (defArgs s__law_pick) (defBody s__law_pick) (defScope s__law_pick) .none kV1 dc1 pm1 an1 cd1 ct1), sl1⟩) (c1 : PySem.W.codeIn K cd1 "_law_pick" = true) (k1 : PySem.W.keepIn K (.ref f1) = true)
    {f2 : Addr} {od2 an2 : Option Addr} {sl2 : Array (Option Value)} {oc2 kV2 dc2 pm2 cd2 ct2 : Value}
    (a2 : PySem.W.nsIn K mainGlobals "_law_names" = some (some (.ref f2))) (l2 : K.lookup f2 = some ⟨oc2, od2, .func (PySem.W.fnOf "_law_names" "_law_names" (defArgs s__law_names) (defBody s__law_names) (defScope s__law_names) .none kV2 dc2 pm2 an2 cd2 ct2), sl2⟩) (c2 : PySem.W.codeIn K cd2 "_law_names" = true) (k2 : PySem.W.keepIn K (.ref f2) = true)
    {f3 : Addr} {od3 an3 : Option Addr} {sl3 : Array (Option Value)} {oc3 kV3 dc3 pm3 cd3 ct3 : Value}
    (a3 : PySem.W.nsIn K mainGlobals "_law_areas" = some (some (.ref f3))) (l3 : K.lookup f3 = some ⟨oc3, od3, .func (PySem.W.fnOf "_law_areas" "_law_areas" (defArgs s__law_areas) (defBody s__law_areas) (defScope s__law_areas) .none kV3 dc3 pm3 an3 cd3 ct3), sl3⟩) (c3 : PySem.W.codeIn K cd3 "_law_areas" = true) (k3 : PySem.W.keepIn K (.ref f3) = true)
    {f4 : Addr} {od4 an4 : Option Addr} {sl4 : Array (Option Value)} {oc4 kV4 dc4 pm4 cd4 ct4 : Value}
    (a4 : PySem.W.nsIn K mainGlobals "is_name" = some (some (.ref f4))) (l4 : K.lookup f4 = some ⟨oc4, od4, .func (PySem.W.fnOf "is_name" "is_name" (defArgs s_is_name) (defBody s_is_name) (defScope s_is_name) .none kV4 dc4 pm4 an4 cd4 ct4), sl4⟩) (c4 : PySem.W.codeIn K cd4 "is_name" = true) (k4 : PySem.W.keepIn K (.ref f4) = true)
    {f5 : Addr} {od5 an5 : Option Addr} {sl5 : Array (Option Value)} {oc5 kV5 dc5 pm5 cd5 ct5 : Value}
    (a5 : PySem.W.nsIn K mainGlobals "is_path" = some (some (.ref f5))) (l5 : K.lookup f5 = some ⟨oc5, od5, .func (PySem.W.fnOf "is_path" "is_path" (defArgs s_is_path) (defBody s_is_path) (defScope s_is_path) .none kV5 dc5 pm5 an5 cd5 ct5), sl5⟩) (c5 : PySem.W.codeIn K cd5 "is_path" = true) (k5 : PySem.W.keepIn K (.ref f5) = true)
    {f6 : Addr} {od6 an6 : Option Addr} {sl6 : Array (Option Value)} {oc6 kV6 dc6 pm6 cd6 ct6 : Value}
    (a6 : PySem.W.nsIn K mainGlobals "covers" = some (some (.ref f6))) (l6 : K.lookup f6 = some ⟨oc6, od6, .func (PySem.W.fnOf "covers" "covers" (defArgs s_covers) (defBody s_covers) (defScope s_covers) .none kV6 dc6 pm6 an6 cd6 ct6), sl6⟩) (c6 : PySem.W.codeIn K cd6 "covers" = true) (k6 : PySem.W.keepIn K (.ref f6) = true)
    {f7 : Addr} {od7 an7 : Option Addr} {sl7 : Array (Option Value)} {oc7 kV7 dc7 pm7 cd7 ct7 : Value}
    (a7 : PySem.W.nsIn K mainGlobals "overlap" = some (some (.ref f7))) (l7 : K.lookup f7 = some ⟨oc7, od7, .func (PySem.W.fnOf "overlap" "overlap" (defArgs s_overlap) (defBody s_overlap) (defScope s_overlap) .none kV7 dc7 pm7 an7 cd7 ct7), sl7⟩) (c7 : PySem.W.codeIn K cd7 "overlap" = true) (k7 : PySem.W.keepIn K (.ref f7) = true)
    {f8 : Addr} {od8 an8 : Option Addr} {sl8 : Array (Option Value)} {oc8 kV8 dc8 pm8 cd8 ct8 : Value}
    (a8 : PySem.W.nsIn K mainGlobals "first_overlap" = some (some (.ref f8))) (l8 : K.lookup f8 = some ⟨oc8, od8, .func (PySem.W.fnOf "first_overlap" "first_overlap" (defArgs s_first_overlap) (defBody s_first_overlap) (defScope s_first_overlap) .none kV8 dc8 pm8 an8 cd8 ct8), sl8⟩) (c8 : PySem.W.codeIn K cd8 "first_overlap" = true) (k8 : PySem.W.keepIn K (.ref f8) = true)
    {f9 : Addr} {od9 an9 : Option Addr} {sl9 : Array (Option Value)} {oc9 kV9 dc9 pm9 cd9 ct9 : Value}
    (a9 : PySem.W.nsIn K mainGlobals "modules_error" = some (some (.ref f9))) (l9 : K.lookup f9 = some ⟨oc9, od9, .func (PySem.W.fnOf "modules_error" "modules_error" (defArgs s_modules_error) (defBody s_modules_error) (defScope s_modules_error) .none kV9 dc9 pm9 an9 cd9 ct9), sl9⟩) (c9 : PySem.W.codeIn K cd9 "modules_error" = true) (k9 : PySem.W.keepIn K (.ref f9) = true)
    {f10 : Addr} {od10 an10 : Option Addr} {sl10 : Array (Option Value)} {oc10 kV10 dc10 pm10 cd10 ct10 : Value}
    (a10 : PySem.W.nsIn K mainGlobals "_law_shuffled" = some (some (.ref f10))) (l10 : K.lookup f10 = some ⟨oc10, od10, .func (PySem.W.fnOf "_law_shuffled" "_law_shuffled" (defArgs s__law_shuffled) (defBody s__law_shuffled) (defScope s__law_shuffled) .none kV10 dc10 pm10 an10 cd10 ct10), sl10⟩) (c10 : PySem.W.codeIn K cd10 "_law_shuffled" = true) (k10 : PySem.W.keepIn K (.ref f10) = true)
    {f11 : Addr} {od11 an11 : Option Addr} {sl11 : Array (Option Value)} {oc11 kV11 dc11 pm11 cd11 ct11 : Value}
    (a11 : PySem.W.nsIn K mainGlobals "covered" = some (some (.ref f11))) (l11 : K.lookup f11 = some ⟨oc11, od11, .func (PySem.W.fnOf "covered" "covered" (defArgs s_covered) (defBody s_covered) (defScope s_covered) .none kV11 dc11 pm11 an11 cd11 ct11), sl11⟩) (c11 : PySem.W.codeIn K cd11 "covered" = true) (k11 : PySem.W.keepIn K (.ref f11) = true)
    {f12 : Addr} {od12 an12 : Option Addr} {sl12 : Array (Option Value)} {oc12 kV12 dc12 pm12 cd12 ct12 : Value}
    (a12 : PySem.W.nsIn K mainGlobals "is_pair" = some (some (.ref f12))) (l12 : K.lookup f12 = some ⟨oc12, od12, .func (PySem.W.fnOf "is_pair" "is_pair" (defArgs s_is_pair) (defBody s_is_pair) (defScope s_is_pair) .none kV12 dc12 pm12 an12 cd12 ct12), sl12⟩) (c12 : PySem.W.codeIn K cd12 "is_pair" = true) (k12 : PySem.W.keepIn K (.ref f12) = true)
    {f13 : Addr} {od13 an13 : Option Addr} {sl13 : Array (Option Value)} {oc13 kV13 dc13 pm13 cd13 ct13 : Value}
    (a13 : PySem.W.nsIn K mainGlobals "uses_error" = some (some (.ref f13))) (l13 : K.lookup f13 = some ⟨oc13, od13, .func (PySem.W.fnOf "uses_error" "uses_error" (defArgs s_uses_error) (defBody s_uses_error) (defScope s_uses_error) .none kV13 dc13 pm13 an13 cd13 ct13), sl13⟩) (c13 : PySem.W.codeIn K cd13 "uses_error" = true) (k13 : PySem.W.keepIn K (.ref f13) = true)
    {f14 : Addr} {od14 an14 : Option Addr} {sl14 : Array (Option Value)} {oc14 kV14 dc14 pm14 cd14 ct14 : Value}
    (a14 : PySem.W.nsIn K mainGlobals "program_error" = some (some (.ref f14))) (l14 : K.lookup f14 = some ⟨oc14, od14, .func (PySem.W.fnOf "program_error" "program_error" (defArgs s_program_error) (defBody s_program_error) (defScope s_program_error) .none kV14 dc14 pm14 an14 cd14 ct14), sl14⟩) (c14 : PySem.W.codeIn K cd14 "program_error" = true) (k14 : PySem.W.keepIn K (.ref f14) = true)
    {f15 : Addr} {od15 an15 : Option Addr} {sl15 : Array (Option Value)} {oc15 kV15 dc15 pm15 cd15 ct15 : Value}
    (a15 : PySem.W.nsIn K mainGlobals "parts_of" = some (some (.ref f15))) (l15 : K.lookup f15 = some ⟨oc15, od15, .func (PySem.W.fnOf "parts_of" "parts_of" (defArgs s_parts_of) (defBody s_parts_of) (defScope s_parts_of) .none kV15 dc15 pm15 an15 cd15 ct15), sl15⟩) (c15 : PySem.W.codeIn K cd15 "parts_of" = true) (k15 : PySem.W.keepIn K (.ref f15) = true)
    {f16 : Addr} {od16 an16 : Option Addr} {sl16 : Array (Option Value)} {oc16 kV16 dc16 pm16 cd16 ct16 : Value}
    (a16 : PySem.W.findIn K (.ref C_Program) "__init__" = some (some (.ref f16))) (ma16 : PySem.W.isFn K (.ref f16) = true)
    (mb16 : PySem.W.makesIn K C_Program = true) (mc16 : PySem.W.keepIn K (.ref C_Program) = true)
    (l16 : K.lookup f16 = some ⟨oc16, od16, .func (PySem.W.fnOf "__init__" "Program.__init__" (defArgs s_Program___init__) (defBody s_Program___init__) (defScope s_Program___init__) .none kV16 dc16 pm16 an16 cd16 ct16), sl16⟩) (c16 : PySem.W.codeIn K cd16 "Program.__init__" = true) (k16 : PySem.W.keepIn K (.ref f16) = true)
    {f17 : Addr} {od17 an17 : Option Addr} {sl17 : Array (Option Value)} {oc17 kV17 dc17 pm17 cd17 ct17 : Value}
    {pr17 : Addr} {rs17 : List Value} (a17 : PySem.W.findIn K (.ref C_Program) "modules" = some (some (.ref pr17))) (pa17 : PySem.W.specialIn K (.ref pr17) "__get__" = some (some (.builtin "property.__get__"))) (pb17 : PySem.W.takesIn K (.ref pr17) = some true) (pc17 : PySem.W.recIn K pr17 "property" = some (.ref f17 :: rs17))
    (l17 : K.lookup f17 = some ⟨oc17, od17, .func (PySem.W.fnOf "modules" "Program.modules" (defArgs s_Program_modules) (defBody s_Program_modules) (defScope s_Program_modules) .none kV17 dc17 pm17 an17 cd17 ct17), sl17⟩) (c17 : PySem.W.codeIn K cd17 "Program.modules" = true) (k17 : PySem.W.keepIn K (.ref f17) = true)
    {f18 : Addr} {od18 an18 : Option Addr} {sl18 : Array (Option Value)} {oc18 kV18 dc18 pm18 cd18 ct18 : Value}
    (a18 : PySem.W.nsIn K mainGlobals "owners_of" = some (some (.ref f18))) (l18 : K.lookup f18 = some ⟨oc18, od18, .func (PySem.W.fnOf "owners_of" "owners_of" (defArgs s_owners_of) (defBody s_owners_of) (defScope s_owners_of) .none kV18 dc18 pm18 an18 cd18 ct18), sl18⟩) (c18 : PySem.W.codeIn K cd18 "owners_of" = true) (k18 : PySem.W.keepIn K (.ref f18) = true)
    {f19 : Addr} {od19 an19 : Option Addr} {sl19 : Array (Option Value)} {oc19 kV19 dc19 pm19 cd19 ct19 : Value}
    {pr19 : Addr} {rs19 : List Value} (a19 : PySem.W.findIn K (.ref C_Program) "uses" = some (some (.ref pr19))) (pa19 : PySem.W.specialIn K (.ref pr19) "__get__" = some (some (.builtin "property.__get__"))) (pb19 : PySem.W.takesIn K (.ref pr19) = some true) (pc19 : PySem.W.recIn K pr19 "property" = some (.ref f19 :: rs19))
    (l19 : K.lookup f19 = some ⟨oc19, od19, .func (PySem.W.fnOf "uses" "Program.uses" (defArgs s_Program_uses) (defBody s_Program_uses) (defScope s_Program_uses) .none kV19 dc19 pm19 an19 cd19 ct19), sl19⟩) (c19 : PySem.W.codeIn K cd19 "Program.uses" = true) (k19 : PySem.W.keepIn K (.ref f19) = true)
    {f20 : Addr} {od20 an20 : Option Addr} {sl20 : Array (Option Value)} {oc20 kV20 dc20 pm20 cd20 ct20 : Value}
    (a20 : PySem.W.nsIn K mainGlobals "counts_of" = some (some (.ref f20))) (l20 : K.lookup f20 = some ⟨oc20, od20, .func (PySem.W.fnOf "counts_of" "counts_of" (defArgs s_counts_of) (defBody s_counts_of) (defScope s_counts_of) .none kV20 dc20 pm20 an20 cd20 ct20), sl20⟩) (c20 : PySem.W.codeIn K cd20 "counts_of" = true) (k20 : PySem.W.keepIn K (.ref f20) = true)
    {f21 : Addr} {od21 an21 : Option Addr} {sl21 : Array (Option Value)} {oc21 kV21 dc21 pm21 cd21 ct21 : Value}
    (a21 : PySem.W.nsIn K mainGlobals "steps_to" = some (some (.ref f21))) (l21 : K.lookup f21 = some ⟨oc21, od21, .func (PySem.W.fnOf "steps_to" "steps_to" (defArgs s_steps_to) (defBody s_steps_to) (defScope s_steps_to) .none kV21 dc21 pm21 an21 cd21 ct21), sl21⟩) (c21 : PySem.W.codeIn K cd21 "steps_to" = true) (k21 : PySem.W.keepIn K (.ref f21) = true)
    {f22 : Addr} {od22 an22 : Option Addr} {sl22 : Array (Option Value)} {oc22 kV22 dc22 pm22 cd22 ct22 : Value}
    (a22 : PySem.W.nsIn K mainGlobals "ring_from" = some (some (.ref f22))) (l22 : K.lookup f22 = some ⟨oc22, od22, .func (PySem.W.fnOf "ring_from" "ring_from" (defArgs s_ring_from) (defBody s_ring_from) (defScope s_ring_from) .none kV22 dc22 pm22 an22 cd22 ct22), sl22⟩) (c22 : PySem.W.codeIn K cd22 "ring_from" = true) (k22 : PySem.W.keepIn K (.ref f22) = true)
    {f23 : Addr} {od23 an23 : Option Addr} {sl23 : Array (Option Value)} {oc23 kV23 dc23 pm23 cd23 ct23 : Value}
    (a23 : PySem.W.nsIn K mainGlobals "_law_modules" = some (some (.ref f23))) (l23 : K.lookup f23 = some ⟨oc23, od23, .func (PySem.W.fnOf "_law_modules" "_law_modules" (defArgs s__law_modules) (defBody s__law_modules) (defScope s__law_modules) .none kV23 dc23 pm23 an23 cd23 ct23), sl23⟩) (c23 : PySem.W.codeIn K cd23 "_law_modules" = true) (k23 : PySem.W.keepIn K (.ref f23) = true)
    {f24 : Addr} {od24 an24 : Option Addr} {sl24 : Array (Option Value)} {oc24 kV24 dc24 pm24 cd24 ct24 : Value}
    (a24 : PySem.W.nsIn K mainGlobals "_law_covers" = some (some (.ref f24))) (l24 : K.lookup f24 = some ⟨oc24, od24, .func (PySem.W.fnOf "_law_covers" "_law_covers" (defArgs s__law_covers) (defBody s__law_covers) (defScope s__law_covers) .none kV24 dc24 pm24 an24 cd24 ct24), sl24⟩) (c24 : PySem.W.codeIn K cd24 "_law_covers" = true) (k24 : PySem.W.keepIn K (.ref f24) = true)
    {f25 : Addr} {od25 an25 : Option Addr} {sl25 : Array (Option Value)} {oc25 kV25 dc25 pm25 cd25 ct25 : Value}
    (a25 : PySem.W.nsIn K mainGlobals "_law_uses" = some (some (.ref f25))) (l25 : K.lookup f25 = some ⟨oc25, od25, .func (PySem.W.fnOf "_law_uses" "_law_uses" (defArgs s__law_uses) (defBody s__law_uses) (defScope s__law_uses) .none kV25 dc25 pm25 an25 cd25 ct25), sl25⟩) (c25 : PySem.W.codeIn K cd25 "_law_uses" = true) (k25 : PySem.W.keepIn K (.ref f25) = true)
    {f26 : Addr} {od26 an26 : Option Addr} {sl26 : Array (Option Value)} {oc26 kV26 dc26 pm26 cd26 ct26 : Value}
    (a26 : PySem.W.nsIn K mainGlobals "_law_ranked" = some (some (.ref f26))) (l26 : K.lookup f26 = some ⟨oc26, od26, .func (PySem.W.fnOf "_law_ranked" "_law_ranked" (defArgs s__law_ranked) (defBody s__law_ranked) (defScope s__law_ranked) .none kV26 dc26 pm26 an26 cd26 ct26), sl26⟩) (c26 : PySem.W.codeIn K cd26 "_law_ranked" = true) (k26 : PySem.W.keepIn K (.ref f26) = true)
    {f27 : Addr} {od27 an27 : Option Addr} {sl27 : Array (Option Value)} {oc27 kV27 dc27 pm27 cd27 ct27 : Value}
    (a27 : PySem.W.nsIn K mainGlobals "_law_within" = some (some (.ref f27))) (l27 : K.lookup f27 = some ⟨oc27, od27, .func (PySem.W.fnOf "_law_within" "_law_within" (defArgs s__law_within) (defBody s__law_within) (defScope s__law_within) .none kV27 dc27 pm27 an27 cd27 ct27), sl27⟩) (c27 : PySem.W.codeIn K cd27 "_law_within" = true) (k27 : PySem.W.keepIn K (.ref f27) = true)
    {f28 : Addr} {od28 an28 : Option Addr} {sl28 : Array (Option Value)} {oc28 kV28 dc28 pm28 cd28 ct28 : Value}
    (a28 : PySem.W.nsIn K mainGlobals "_law_rests" = some (some (.ref f28))) (l28 : K.lookup f28 = some ⟨oc28, od28, .func (PySem.W.fnOf "_law_rests" "_law_rests" (defArgs s__law_rests) (defBody s__law_rests) (defScope s__law_rests) .none kV28 dc28 pm28 an28 cd28 ct28), sl28⟩) (c28 : PySem.W.codeIn K cd28 "_law_rests" = true) (k28 : PySem.W.keepIn K (.ref f28) = true)
    {f29 : Addr} {od29 an29 : Option Addr} {sl29 : Array (Option Value)} {oc29 kV29 dc29 pm29 cd29 ct29 : Value}
    (a29 : PySem.W.nsIn K mainGlobals "look_over" = some (some (.ref f29))) (l29 : K.lookup f29 = some ⟨oc29, od29, .func (PySem.W.fnOf "look_over" "look_over" (defArgs s_look_over) (defBody s_look_over) (defScope s_look_over) .none kV29 dc29 pm29 an29 cd29 ct29), sl29⟩) (c29 : PySem.W.codeIn K cd29 "look_over" = true) (k29 : PySem.W.keepIn K (.ref f29) = true)
    {f30 : Addr} {od30 an30 : Option Addr} {sl30 : Array (Option Value)} {oc30 kV30 dc30 pm30 cd30 ct30 : Value}
    (a30 : PySem.W.nsIn K mainGlobals "rests_of" = some (some (.ref f30))) (l30 : K.lookup f30 = some ⟨oc30, od30, .func (PySem.W.fnOf "rests_of" "rests_of" (defArgs s_rests_of) (defBody s_rests_of) (defScope s_rests_of) .none kV30 dc30 pm30 an30 cd30 ct30), sl30⟩) (c30 : PySem.W.codeIn K cd30 "rests_of" = true) (k30 : PySem.W.keepIn K (.ref f30) = true)
    {f31 : Addr} {od31 an31 : Option Addr} {sl31 : Array (Option Value)} {oc31 kV31 dc31 pm31 cd31 ct31 : Value}
    (a31 : PySem.W.nsIn K mainGlobals "first_ring" = some (some (.ref f31))) (l31 : K.lookup f31 = some ⟨oc31, od31, .func (PySem.W.fnOf "first_ring" "first_ring" (defArgs s_first_ring) (defBody s_first_ring) (defScope s_first_ring) .none kV31 dc31 pm31 an31 cd31 ct31), sl31⟩) (c31 : PySem.W.codeIn K cd31 "first_ring" = true) (k31 : PySem.W.keepIn K (.ref f31) = true)
    {f32 : Addr} {od32 an32 : Option Addr} {sl32 : Array (Option Value)} {oc32 kV32 dc32 pm32 cd32 ct32 : Value}
    (a32 : PySem.W.nsIn K mainGlobals "checked_rests" = some (some (.ref f32))) (l32 : K.lookup f32 = some ⟨oc32, od32, .func (PySem.W.fnOf "checked_rests" "checked_rests" (defArgs s_checked_rests) (defBody s_checked_rests) (defScope s_checked_rests) .none kV32 dc32 pm32 an32 cd32 ct32), sl32⟩) (c32 : PySem.W.codeIn K cd32 "checked_rests" = true) (k32 : PySem.W.keepIn K (.ref f32) = true)
    {f33 : Addr} {od33 an33 : Option Addr} {sl33 : Array (Option Value)} {oc33 kV33 dc33 pm33 cd33 ct33 : Value}
    (a33 : PySem.W.nsIn K mainGlobals "levels" = some (some (.ref f33))) (l33 : K.lookup f33 = some ⟨oc33, od33, .func (PySem.W.fnOf "levels" "levels" (defArgs s_levels) (defBody s_levels) (defScope s_levels) .none kV33 dc33 pm33 an33 cd33 ct33), sl33⟩) (c33 : PySem.W.codeIn K cd33 "levels" = true) (k33 : PySem.W.keepIn K (.ref f33) = true)
    {f34 : Addr} {od34 an34 : Option Addr} {sl34 : Array (Option Value)} {oc34 kV34 dc34 pm34 cd34 ct34 : Value}
    (a34 : PySem.W.nsIn K mainGlobals "tower" = some (some (.ref f34))) (l34 : K.lookup f34 = some ⟨oc34, od34, .func (PySem.W.fnOf "tower" "tower" (defArgs s_tower) (defBody s_tower) (defScope s_tower) .none kV34 dc34 pm34 an34 cd34 ct34), sl34⟩) (c34 : PySem.W.codeIn K cd34 "tower" = true) (k34 : PySem.W.keepIn K (.ref f34) = true)
    {f35 : Addr} {od35 an35 : Option Addr} {sl35 : Array (Option Value)} {oc35 kV35 dc35 pm35 cd35 ct35 : Value}
    (a35 : PySem.W.nsIn K mainGlobals "_law_told" = some (some (.ref f35))) (l35 : K.lookup f35 = some ⟨oc35, od35, .func (PySem.W.fnOf "_law_told" "_law_told" (defArgs s__law_told) (defBody s__law_told) (defScope s__law_told) .none kV35 dc35 pm35 an35 cd35 ct35), sl35⟩) (c35 : PySem.W.codeIn K cd35 "_law_told" = true) (k35 : PySem.W.keepIn K (.ref f35) = true)
    {f36 : Addr} {od36 an36 : Option Addr} {sl36 : Array (Option Value)} {oc36 kV36 dc36 pm36 cd36 ct36 : Value}
    (a36 : PySem.W.nsIn K mainGlobals "_law_ringed" = some (some (.ref f36))) (l36 : K.lookup f36 = some ⟨oc36, od36, .func (PySem.W.fnOf "_law_ringed" "_law_ringed" (defArgs s__law_ringed) (defBody s__law_ringed) (defScope s__law_ringed) .none kV36 dc36 pm36 an36 cd36 ct36), sl36⟩) (c36 : PySem.W.codeIn K cd36 "_law_ringed" = true) (k36 : PySem.W.keepIn K (.ref f36) = true)
    {f37 : Addr} {od37 an37 : Option Addr} {sl37 : Array (Option Value)} {oc37 kV37 dc37 pm37 cd37 ct37 : Value}
    (a37 : PySem.W.nsIn K mainGlobals "_law_highest" = some (some (.ref f37))) (l37 : K.lookup f37 = some ⟨oc37, od37, .func (PySem.W.fnOf "_law_highest" "_law_highest" (defArgs s__law_highest) (defBody s__law_highest) (defScope s__law_highest) .none kV37 dc37 pm37 an37 cd37 ct37), sl37⟩) (c37 : PySem.W.codeIn K cd37 "_law_highest" = true) (k37 : PySem.W.keepIn K (.ref f37) = true)
    {f38 : Addr} {od38 an38 : Option Addr} {sl38 : Array (Option Value)} {oc38 kV38 dc38 pm38 cd38 ct38 : Value}
    (a38 : PySem.W.nsIn K mainGlobals "_law_stream" = some (some (.ref f38))) (l38 : K.lookup f38 = some ⟨oc38, od38, .func (PySem.W.fnOf "_law_stream" "_law_stream" (defArgs s__law_stream) (defBody s__law_stream) (defScope s__law_stream) .none kV38 dc38 pm38 an38 cd38 ct38), sl38⟩) (c38 : PySem.W.codeIn K cd38 "_law_stream" = true) (k38 : PySem.W.keepIn K (.ref f38) = true)
    {f39 : Addr} {od39 an39 : Option Addr} {sl39 : Array (Option Value)} {oc39 kV39 dc39 pm39 cd39 ct39 : Value}
    (a39 : PySem.W.nsIn K mainGlobals "law" = some (some (.ref f39))) (l39 : K.lookup f39 = some ⟨oc39, od39, .func (PySem.W.fnOf "law" "law" (defArgs s_law) (defBody s_law) (defScope s_law) .none kV39 dc39 pm39 an39 cd39 ct39), sl39⟩) (c39 : PySem.W.codeIn K cd39 "law" = true) (k39 : PySem.W.keepIn K (.ref f39) = true)
    (z_len : PySem.W.nsIn K mainGlobals "len" = some none)
    (z_int : PySem.W.nsIn K mainGlobals "int" = some none)
    (z_range : PySem.W.nsIn K mainGlobals "range" = some none)
    (z_all : PySem.W.nsIn K mainGlobals "all" = some none)
    (z_str : PySem.W.nsIn K mainGlobals "str" = some none)
    (z_isinstance : PySem.W.nsIn K mainGlobals "isinstance" = some none)
    (z_enumerate : PySem.W.nsIn K mainGlobals "enumerate" = some none)
    (z_tuple : PySem.W.nsIn K mainGlobals "tuple" = some none)
    (z_sorted : PySem.W.nsIn K mainGlobals "sorted" = some none)
    (z_list : PySem.W.nsIn K mainGlobals "list" = some none)
    (z_min : PySem.W.nsIn K mainGlobals "min" = some none)
    (z_max : PySem.W.nsIn K mainGlobals "max" = some none)
    (z_abs : PySem.W.nsIn K mainGlobals "abs" = some none)
    {tk_LETTERS : Tok} (y_LETTERS : PySem.W.nsIn K mainGlobals "LETTERS" = some (some (.str "abcdefghijklmnopqrstuvwxyz" tk_LETTERS)))
    {tk_MAX_LETTERS : Tok} (y_MAX_LETTERS : PySem.W.nsIn K mainGlobals "MAX_LETTERS" = some (some (.int 8 tk_MAX_LETTERS)))
    {tk_MAX_NAMES : Tok} (y_MAX_NAMES : PySem.W.nsIn K mainGlobals "MAX_NAMES" = some (some (.int 6 tk_MAX_NAMES)))
    {tk_MAX_MODULES : Tok} (y_MAX_MODULES : PySem.W.nsIn K mainGlobals "MAX_MODULES" = some (some (.int 24 tk_MAX_MODULES)))
    {tk_MAX_USES : Tok} (y_MAX_USES : PySem.W.nsIn K mainGlobals "MAX_USES" = some (some (.int 200 tk_MAX_USES))) :
    ∃ fd : FuncData, (∀ (s : Shared) (v : Value), BindsTo s fd ⟨[v], []⟩ [("_law_script", v)]) ∧ ∀ base : Heap, K.In base → base.Ns mainGlobals mg → FnOk l.prog w K mg base CX0 8 fa fd ["_law_script"] (spLaw K) := by
  have e := hfa.symm.trans (PySem.W.mg_of X G a39)
  cases e
  have m_len := PySem.W.mg_none_of X G z_len
  have m_int := PySem.W.mg_none_of X G z_int
  have m_range := PySem.W.mg_none_of X G z_range
  have m_all := PySem.W.mg_none_of X G z_all
  have m_str := PySem.W.mg_none_of X G z_str
  have m_isinstance := PySem.W.mg_none_of X G z_isinstance
  have m_enumerate := PySem.W.mg_none_of X G z_enumerate
  have m_tuple := PySem.W.mg_none_of X G z_tuple
  have m_sorted := PySem.W.mg_none_of X G z_sorted
  have m_list := PySem.W.mg_none_of X G z_list
  have m_min := PySem.W.mg_none_of X G z_min
  have m_max := PySem.W.mg_none_of X G z_max
  have m_abs := PySem.W.mg_none_of X G z_abs
  have g_LETTERS : ∃ t, mg "LETTERS" = some (.str "abcdefghijklmnopqrstuvwxyz" t) := ⟨_, PySem.W.mg_of X G y_LETTERS⟩
  have g_MAX_LETTERS : ∃ t, mg "MAX_LETTERS" = some (.int 8 t) := ⟨_, PySem.W.mg_of X G y_MAX_LETTERS⟩
  have g_MAX_NAMES : ∃ t, mg "MAX_NAMES" = some (.int 6 t) := ⟨_, PySem.W.mg_of X G y_MAX_NAMES⟩
  have g_MAX_MODULES : ∃ t, mg "MAX_MODULES" = some (.int 24 t) := ⟨_, PySem.W.mg_of X G y_MAX_MODULES⟩
  have g_MAX_USES : ∃ t, mg "MAX_USES" = some (.int 200 t) := ⟨_, PySem.W.mg_of X G y_MAX_USES⟩
  have k_Program : KC K "Program" C_Program := ⟨kc0_Program, ⟨kc1_Program, kc2_Program, kc3_Program, kc4_Program⟩⟩
  have mg_Program : mg "Program" = some (.ref C_Program) := PySem.W.mg_of X G kc0_Program
  have o_Program : KO K "Program" C_Program := ⟨k_Program, ⟨ko0_Program, ko1_Program, ko2_Program, ko3_Program⟩, ko4_Program, ko5_Program⟩
  have mg_Circular : mg "Circular" = some (.ref C_Circular) := PySem.W.mg_of X G xc0_Circular
  have mg_Overlap : mg "Overlap" = some (.ref C_Overlap) := PySem.W.mg_of X G xc0_Overlap
  have kx_Circular : KX K "Circular" C_Circular := ⟨xc0_Circular, ⟨xf0_Circular, xf1_Circular, xf2_Circular, xf3_Circular⟩, xh0_Circular, xh1_Circular, xh2_Circular, xh3_Circular⟩
  have kx_Overlap : KX K "Overlap" C_Overlap := ⟨xc0_Overlap, ⟨xf0_Overlap, xf1_Overlap, xf2_Overlap, xf3_Overlap⟩, xh0_Overlap, xh1_Overlap, xh2_Overlap, xh3_Overlap⟩
  have cat_Overlap : Cat K (.ref C_Overlap) (tblX [("Circular", false)]) := (cat_cons xc0_Circular xm_Overlap_Circular cat_nil)
  have cat_Circular : Cat K (.ref C_Circular) (tblX [("Circular", true)]) := (cat_cons xc0_Circular xm_Circular_Circular cat_nil)
  have n_Program_heads : NoAttr K C_Program "heads" := kn_n_Program_heads
  have n_Program_links : NoAttr K C_Program "links" := kn_n_Program_links
  have n_Program_places : NoAttr K C_Program "places" := kn_n_Program_places
  have n_Overlap_path : NoAttr K C_Overlap "path" := kn_n_Overlap_path
  have n_Circular_evidence : NoAttr K C_Circular "evidence" := kn_n_Circular_evidence
  refine ⟨PySem.W.fnOf "law" "law" (defArgs s_law) (defBody s_law) (defScope s_law) .none kV39 dc39 pm39 an39 cd39 ct39, fun s v => .of_eq rfl, fun base _ _ => ?_⟩
  have x_Circular := ok_x_Circular (P := l.prog) (w := w) (mg := mg) (base := base) ⟨⟨_, _, _, _, _, _, _, _, _, _, _, _, _, _, _, xl_Circular, xr_Circular⟩, xs0_Circular, xs1_Circular, xs2_Circular, xs3_Circular⟩ xs4_Circular (fun_mk lx_Circular cx_Circular kx0_Circular) xi_Circular xt_Circular xc0_Circular mg_Circular
  have d__law_draw : Df K mg "_law_draw" s__law_draw := ⟨_, _, fun_mk l0 c0 k0, PySem.W.mg_of X G a0⟩
  have d__law_pick : Df K mg "_law_pick" s__law_pick := ⟨_, _, fun_mk l1 c1 k1, PySem.W.mg_of X G a1⟩
  have d__law_names : Df K mg "_law_names" s__law_names := ⟨_, _, fun_mk l2 c2 k2, PySem.W.mg_of X G a2⟩
  have d__law_areas : Df K mg "_law_areas" s__law_areas := ⟨_, _, fun_mk l3 c3 k3, PySem.W.mg_of X G a3⟩
  have d_is_name : Df K mg "is_name" s_is_name := ⟨_, _, fun_mk l4 c4 k4, PySem.W.mg_of X G a4⟩
  have d_is_path : Df K mg "is_path" s_is_path := ⟨_, _, fun_mk l5 c5 k5, PySem.W.mg_of X G a5⟩
  have d_covers : Df K mg "covers" s_covers := ⟨_, _, fun_mk l6 c6 k6, PySem.W.mg_of X G a6⟩
  have d_overlap : Df K mg "overlap" s_overlap := ⟨_, _, fun_mk l7 c7 k7, PySem.W.mg_of X G a7⟩
  have d_first_overlap : Df K mg "first_overlap" s_first_overlap := ⟨_, _, fun_mk l8 c8 k8, PySem.W.mg_of X G a8⟩
  have d_modules_error : Df K mg "modules_error" s_modules_error := ⟨_, _, fun_mk l9 c9 k9, PySem.W.mg_of X G a9⟩
  have d__law_shuffled : Df K mg "_law_shuffled" s__law_shuffled := ⟨_, _, fun_mk l10 c10 k10, PySem.W.mg_of X G a10⟩
  have d_covered : Df K mg "covered" s_covered := ⟨_, _, fun_mk l11 c11 k11, PySem.W.mg_of X G a11⟩
  have d_is_pair : Df K mg "is_pair" s_is_pair := ⟨_, _, fun_mk l12 c12 k12, PySem.W.mg_of X G a12⟩
  have d_uses_error : Df K mg "uses_error" s_uses_error := ⟨_, _, fun_mk l13 c13 k13, PySem.W.mg_of X G a13⟩
  have d_program_error : Df K mg "program_error" s_program_error := ⟨_, _, fun_mk l14 c14 k14, PySem.W.mg_of X G a14⟩
  have d_parts_of : Df K mg "parts_of" s_parts_of := ⟨_, _, fun_mk l15 c15 k15, PySem.W.mg_of X G a15⟩
  have d_owners_of : Df K mg "owners_of" s_owners_of := ⟨_, _, fun_mk l18 c18 k18, PySem.W.mg_of X G a18⟩
  have d_counts_of : Df K mg "counts_of" s_counts_of := ⟨_, _, fun_mk l20 c20 k20, PySem.W.mg_of X G a20⟩
  have d_steps_to : Df K mg "steps_to" s_steps_to := ⟨_, _, fun_mk l21 c21 k21, PySem.W.mg_of X G a21⟩
  have d_ring_from : Df K mg "ring_from" s_ring_from := ⟨_, _, fun_mk l22 c22 k22, PySem.W.mg_of X G a22⟩
  have d__law_modules : Df K mg "_law_modules" s__law_modules := ⟨_, _, fun_mk l23 c23 k23, PySem.W.mg_of X G a23⟩
  have d__law_covers : Df K mg "_law_covers" s__law_covers := ⟨_, _, fun_mk l24 c24 k24, PySem.W.mg_of X G a24⟩
  have d__law_uses : Df K mg "_law_uses" s__law_uses := ⟨_, _, fun_mk l25 c25 k25, PySem.W.mg_of X G a25⟩
  have d__law_ranked : Df K mg "_law_ranked" s__law_ranked := ⟨_, _, fun_mk l26 c26 k26, PySem.W.mg_of X G a26⟩
  have d__law_within : Df K mg "_law_within" s__law_within := ⟨_, _, fun_mk l27 c27 k27, PySem.W.mg_of X G a27⟩
  have d__law_rests : Df K mg "_law_rests" s__law_rests := ⟨_, _, fun_mk l28 c28 k28, PySem.W.mg_of X G a28⟩
  have d_look_over : Df K mg "look_over" s_look_over := ⟨_, _, fun_mk l29 c29 k29, PySem.W.mg_of X G a29⟩
  have d_rests_of : Df K mg "rests_of" s_rests_of := ⟨_, _, fun_mk l30 c30 k30, PySem.W.mg_of X G a30⟩
  have d_first_ring : Df K mg "first_ring" s_first_ring := ⟨_, _, fun_mk l31 c31 k31, PySem.W.mg_of X G a31⟩
  have d_checked_rests : Df K mg "checked_rests" s_checked_rests := ⟨_, _, fun_mk l32 c32 k32, PySem.W.mg_of X G a32⟩
  have d_levels : Df K mg "levels" s_levels := ⟨_, _, fun_mk l33 c33 k33, PySem.W.mg_of X G a33⟩
  have d_tower : Df K mg "tower" s_tower := ⟨_, _, fun_mk l34 c34 k34, PySem.W.mg_of X G a34⟩
  have d__law_told : Df K mg "_law_told" s__law_told := ⟨_, _, fun_mk l35 c35 k35, PySem.W.mg_of X G a35⟩
  have d__law_ringed : Df K mg "_law_ringed" s__law_ringed := ⟨_, _, fun_mk l36 c36 k36, PySem.W.mg_of X G a36⟩
  have d__law_highest : Df K mg "_law_highest" s__law_highest := ⟨_, _, fun_mk l37 c37 k37, PySem.W.mg_of X G a37⟩
  have d__law_stream : Df K mg "_law_stream" s__law_stream := ⟨_, _, fun_mk l38 c38 k38, PySem.W.mg_of X G a38⟩
  have c__law_draw := ok__law_draw (P := l.prog) (w := w) (mg := mg) (base := base) d__law_draw m_len m_int
  have c__law_pick := ok__law_pick (P := l.prog) (w := w) (mg := mg) (base := base) d__law_pick m_len c__law_draw
  have c__law_names := ok__law_names (P := l.prog) (w := w) (mg := mg) (base := base) d__law_names m_range m_int c__law_pick c__law_draw
  have c__law_areas := ok__law_areas (P := l.prog) (w := w) (mg := mg) (base := base) d__law_areas c__law_pick c__law_draw
  have c_is_name := ok_is_name (P := l.prog) (w := w) (mg := mg) (base := base) d_is_name m_all m_len m_str m_isinstance g_LETTERS g_MAX_LETTERS
  have c_is_path := ok_is_path (P := l.prog) (w := w) (mg := mg) (base := base) d_is_path m_all m_len m_str m_isinstance g_MAX_NAMES c_is_name
  have c_covers := ok_covers (P := l.prog) (w := w) (mg := mg) (base := base) d_covers 
  have c_overlap := ok_overlap (P := l.prog) (w := w) (mg := mg) (base := base) d_overlap c_covers
  have c_first_overlap := ok_first_overlap (P := l.prog) (w := w) (mg := mg) (base := base) d_first_overlap c_overlap
  have c_modules_error := ok_modules_error (P := l.prog) (w := w) (mg := mg) (base := base) d_modules_error m_enumerate m_len m_tuple m_isinstance g_MAX_MODULES c_first_overlap c_is_path
  have c__law_shuffled := ok__law_shuffled (P := l.prog) (w := w) (mg := mg) (base := base) d__law_shuffled m_len c__law_draw
  have c_covered := ok_covered (P := l.prog) (w := w) (mg := mg) (base := base) d_covered c_covers
  have c_is_pair := ok_is_pair (P := l.prog) (w := w) (mg := mg) (base := base) d_is_pair m_str m_isinstance m_len m_tuple o_Program
  have c_uses_error := ok_uses_error (P := l.prog) (w := w) (mg := mg) (base := base) d_uses_error m_enumerate m_len m_tuple m_isinstance g_MAX_USES c_is_pair
  have c_program_error := ok_program_error (P := l.prog) (w := w) (mg := mg) (base := base) d_program_error c_uses_error c_modules_error
  have c_parts_of := ok_parts_of (P := l.prog) (w := w) (mg := mg) (base := base) d_parts_of m_sorted m_tuple m_range m_len
  have c_Program___init__ := ok_Program___init__ (P := l.prog) (w := w) (mg := mg) (base := base) m_sorted m_tuple k_Program n_Program_heads n_Program_links n_Program_places c_parts_of c_program_error (PySem.W.mg_of X G kc0_Program) ⟨_, _, fun_mk l16 c16 k16, ⟨mb16, a16, ma16, mc16⟩⟩
  have c_Program_modules := ok_Program_modules (P := l.prog) (w := w) (mg := mg) (base := base) k_Program n_Program_places ⟨_, _, _, fun_mk l17 c17 k17, ⟨a17, pa17, pb17, _, pc17⟩⟩
  have c_owners_of := ok_owners_of (P := l.prog) (w := w) (mg := mg) (base := base) d_owners_of c_Program_modules c_covered
  have c_Program_uses := ok_Program_uses (P := l.prog) (w := w) (mg := mg) (base := base) k_Program n_Program_links ⟨_, _, _, fun_mk l19 c19 k19, ⟨a19, pa19, pb19, _, pc19⟩⟩
  have c_counts_of := ok_counts_of (P := l.prog) (w := w) (mg := mg) (base := base) d_counts_of c_Program_uses c_owners_of
  have c_steps_to := ok_steps_to (P := l.prog) (w := w) (mg := mg) (base := base) d_steps_to m_list
  have c_ring_from := ok_ring_from (P := l.prog) (w := w) (mg := mg) (base := base) d_ring_from m_tuple m_range c_Program_uses
  have c__law_modules := ok__law_modules (P := l.prog) (w := w) (mg := mg) (base := base) d__law_modules c__law_pick c__law_draw
  have c__law_covers := ok__law_covers (P := l.prog) (w := w) (mg := mg) (base := base) d__law_covers m_len
  have c__law_uses := ok__law_uses (P := l.prog) (w := w) (mg := mg) (base := base) d__law_uses m_range m_len m_min c__law_draw c__law_pick
  have c__law_ranked := ok__law_ranked (P := l.prog) (w := w) (mg := mg) (base := base) d__law_ranked m_range m_len c__law_draw c__law_pick c__law_covers
  have c__law_within := ok__law_within (P := l.prog) (w := w) (mg := mg) (base := base) d__law_within c__law_covers
  have c__law_rests := ok__law_rests (P := l.prog) (w := w) (mg := mg) (base := base) d__law_rests m_sorted c__law_within c__law_covers
  have c_look_over := ok_look_over (P := l.prog) (w := w) (mg := mg) (base := base) d_look_over m_enumerate c_first_overlap
  have c_rests_of := ok_rests_of (P := l.prog) (w := w) (mg := mg) (base := base) d_rests_of m_sorted
  have c_first_ring := ok_first_ring (P := l.prog) (w := w) (mg := mg) (base := base) d_first_ring m_len m_min c_ring_from c_steps_to c_owners_of
  have c_checked_rests := ok_checked_rests (P := l.prog) (w := w) (mg := mg) (base := base) d_checked_rests x_Circular c_first_ring c_rests_of c_counts_of c_look_over
  have c_levels := ok_levels (P := l.prog) (w := w) (mg := mg) (base := base) d_levels m_range m_sorted m_tuple m_max m_len c_checked_rests
  have c_tower := ok_tower (P := l.prog) (w := w) (mg := mg) (base := base) d_tower m_tuple m_sorted m_max m_range m_len c_checked_rests
  have c__law_told := ok__law_told (P := l.prog) (w := w) (mg := mg) (base := base) d__law_told mg_Overlap cat_Overlap kx_Overlap n_Overlap_path mg_Circular cat_Circular kx_Circular n_Circular_evidence c_levels c_tower
  have c__law_ringed := ok__law_ringed (P := l.prog) (w := w) (mg := mg) (base := base) d__law_ringed m_list
  have c__law_highest := ok__law_highest (P := l.prog) (w := w) (mg := mg) (base := base) d__law_highest m_tuple m_range m_max m_sorted
  have c__law_stream := ok__law_stream (P := l.prog) (w := w) (mg := mg) (base := base) d__law_stream m_abs
  exact ok_law (fun_mk l39 c39 k39) c__law_stream m_range m_len m_tuple k_Program c__law_ringed c__law_highest c__law_told c__law_rests c_Program___init__ c__law_shuffled c__law_ranked c__law_modules c__law_draw c__law_areas c__law_names
set_option maxHeartbeats 0
theorem factsR {l : PySem.W.OpenLaw} {w : World} {K : PySem.W.Frag} {h : Heap} {mg : Str → Option Value} {fa : Addr} (X : K.In h) (G : h.Ns mainGlobals mg) (hfa : mg "law" = some (.ref fa)) (c : SaysY exR fnsR tabsR w K) :
    ∃ fd : FuncData, (∀ (s : Shared) (v : Value), BindsTo s fd ⟨[v], []⟩ [("_law_script", v)]) ∧ ∀ base : Heap, K.In base → base.Ns mainGlobals mg → FnOk l.prog w K mg base CX0 8 fa fd ["_law_script"] (spLaw K) := by
  have fact : ∀ (i j : Nat) {l : List FrB} {f : FrB}, exsR[i]? = some l → l[j]? = some f → f K = true := fun i j {l f} h1 h2 => List.all_eq_true.mp (c.fact i (f := fun K => l.all fun f => f K) (by unfold exR; rw [List.getElem?_map, h1]; rfl)) f (List.mem_of_getElem? h2)
  obtain ⟨_, F0⟩ : ∃ fd, FunD K "_law_draw" "_law_draw" (defArgs s__law_draw) (defBody s__law_draw) (defScope s__law_draw) [] [] (He.ga K "_law_draw") fd := c.def_ 0 rfl
  obtain ⟨_, _, _, _, _, _, _, _, _, l0, c0, k0⟩ := raw_fn F0
  obtain ⟨_, F1⟩ : ∃ fd, FunD K "_law_pick" "_law_pick" (defArgs s__law_pick) (defBody s__law_pick) (defScope s__law_pick) [] [] (He.ga K "_law_pick") fd := c.def_ 1 rfl
  obtain ⟨_, _, _, _, _, _, _, _, _, l1, c1, k1⟩ := raw_fn F1
  obtain ⟨_, F2⟩ : ∃ fd, FunD K "_law_names" "_law_names" (defArgs s__law_names) (defBody s__law_names) (defScope s__law_names) [] [] (He.ga K "_law_names") fd := c.def_ 2 rfl
  obtain ⟨_, _, _, _, _, _, _, _, _, l2, c2, k2⟩ := raw_fn F2
  obtain ⟨_, F3⟩ : ∃ fd, FunD K "_law_areas" "_law_areas" (defArgs s__law_areas) (defBody s__law_areas) (defScope s__law_areas) [] [] (He.ga K "_law_areas") fd := c.def_ 3 rfl
  obtain ⟨_, _, _, _, _, _, _, _, _, l3, c3, k3⟩ := raw_fn F3
  obtain ⟨_, F4⟩ : ∃ fd, FunD K "is_name" "is_name" (defArgs s_is_name) (defBody s_is_name) (defScope s_is_name) [] [] (He.ga K "is_name") fd := c.def_ 4 rfl
  obtain ⟨_, _, _, _, _, _, _, _, _, l4, c4, k4⟩ := raw_fn F4
  obtain ⟨_, F5⟩ : ∃ fd, FunD K "is_path" "is_path" (defArgs s_is_path) (defBody s_is_path) (defScope s_is_path) [] [] (He.ga K "is_path") fd := c.def_ 5 rfl
  obtain ⟨_, _, _, _, _, _, _, _, _, l5, c5, k5⟩ := raw_fn F5
  obtain ⟨_, F6⟩ : ∃ fd, FunD K "covers" "covers" (defArgs s_covers) (defBody s_covers) (defScope s_covers) [] [] (He.ga K "covers") fd := c.def_ 6 rfl
  obtain ⟨_, _, _, _, _, _, _, _, _, l6, c6, k6⟩ := raw_fn F6
  obtain ⟨_, F7⟩ : ∃ fd, FunD K "overlap" "overlap" (defArgs s_overlap) (defBody s_overlap) (defScope s_overlap) [] [] (He.ga K "overlap") fd := c.def_ 7 rfl
  obtain ⟨_, _, _, _, _, _, _, _, _, l7, c7, k7⟩ := raw_fn F7
  obtain ⟨_, F8⟩ : ∃ fd, FunD K "first_overlap" "first_overlap" (defArgs s_first_overlap) (defBody s_first_overlap) (defScope s_first_overlap) [] [] (He.ga K "first_overlap") fd := c.def_ 8 rfl
  obtain ⟨_, _, _, _, _, _, _, _, _, l8, c8, k8⟩ := raw_fn F8
  obtain ⟨_, F9⟩ : ∃ fd, FunD K "modules_error" "modules_error" (defArgs s_modules_error) (defBody s_modules_error) (defScope s_modules_error) [] [] (He.ga K "modules_error") fd := c.def_ 9 rfl
  obtain ⟨_, _, _, _, _, _, _, _, _, l9, c9, k9⟩ := raw_fn F9
  obtain ⟨_, F10⟩ : ∃ fd, FunD K "_law_shuffled" "_law_shuffled" (defArgs s__law_shuffled) (defBody s__law_shuffled) (defScope s__law_shuffled) [] [] (He.ga K "_law_shuffled") fd := c.def_ 10 rfl
  obtain ⟨_, _, _, _, _, _, _, _, _, l10, c10, k10⟩ := raw_fn F10
  obtain ⟨_, F11⟩ : ∃ fd, FunD K "covered" "covered" (defArgs s_covered) (defBody s_covered) (defScope s_covered) [] [] (He.ga K "covered") fd := c.def_ 11 rfl
  obtain ⟨_, _, _, _, _, _, _, _, _, l11, c11, k11⟩ := raw_fn F11
  obtain ⟨_, F12⟩ : ∃ fd, FunD K "is_pair" "is_pair" (defArgs s_is_pair) (defBody s_is_pair) (defScope s_is_pair) [] [] (He.ga K "is_pair") fd := c.def_ 12 rfl
  obtain ⟨_, _, _, _, _, _, _, _, _, l12, c12, k12⟩ := raw_fn F12
  obtain ⟨_, F13⟩ : ∃ fd, FunD K "uses_error" "uses_error" (defArgs s_uses_error) (defBody s_uses_error) (defScope s_uses_error) [] [] (He.ga K "uses_error") fd := c.def_ 13 rfl
  obtain ⟨_, _, _, _, _, _, _, _, _, l13, c13, k13⟩ := raw_fn F13
  obtain ⟨_, F14⟩ : ∃ fd, FunD K "program_error" "program_error" (defArgs s_program_error) (defBody s_program_error) (defScope s_program_error) [] [] (He.ga K "program_error") fd := c.def_ 14 rfl
  obtain ⟨_, _, _, _, _, _, _, _, _, l14, c14, k14⟩ := raw_fn F14
  obtain ⟨_, F15⟩ : ∃ fd, FunD K "parts_of" "parts_of" (defArgs s_parts_of) (defBody s_parts_of) (defScope s_parts_of) [] [] (He.ga K "parts_of") fd := c.def_ 15 rfl
  obtain ⟨_, _, _, _, _, _, _, _, _, l15, c15, k15⟩ := raw_fn F15
  obtain ⟨_, F16⟩ : ∃ fd, FunD K "__init__" "Program.__init__" (defArgs s_Program___init__) (defBody s_Program___init__) (defScope s_Program___init__) [] [] (He.ma K (He.ga K "Program") "__init__") fd := c.def_ 16 rfl
  obtain ⟨_, _, _, _, _, _, _, _, _, l16, c16, k16⟩ := raw_fn F16
  obtain ⟨_, F17⟩ : ∃ fd, FunD K "modules" "Program.modules" (defArgs s_Program_modules) (defBody s_Program_modules) (defScope s_Program_modules) [] [] (rcA K (He.ma K (He.ga K "Program") "modules") "property") fd := c.def_ 17 rfl
  obtain ⟨_, _, _, _, _, _, _, _, _, l17, c17, k17⟩ := raw_fn F17
  obtain ⟨_, F18⟩ : ∃ fd, FunD K "owners_of" "owners_of" (defArgs s_owners_of) (defBody s_owners_of) (defScope s_owners_of) [] [] (He.ga K "owners_of") fd := c.def_ 18 rfl
  obtain ⟨_, _, _, _, _, _, _, _, _, l18, c18, k18⟩ := raw_fn F18
  obtain ⟨_, F19⟩ : ∃ fd, FunD K "uses" "Program.uses" (defArgs s_Program_uses) (defBody s_Program_uses) (defScope s_Program_uses) [] [] (rcA K (He.ma K (He.ga K "Program") "uses") "property") fd := c.def_ 19 rfl
  obtain ⟨_, _, _, _, _, _, _, _, _, l19, c19, k19⟩ := raw_fn F19
  obtain ⟨_, F20⟩ : ∃ fd, FunD K "counts_of" "counts_of" (defArgs s_counts_of) (defBody s_counts_of) (defScope s_counts_of) [] [] (He.ga K "counts_of") fd := c.def_ 20 rfl
  obtain ⟨_, _, _, _, _, _, _, _, _, l20, c20, k20⟩ := raw_fn F20
  obtain ⟨_, F21⟩ : ∃ fd, FunD K "steps_to" "steps_to" (defArgs s_steps_to) (defBody s_steps_to) (defScope s_steps_to) [] [] (He.ga K "steps_to") fd := c.def_ 21 rfl
  obtain ⟨_, _, _, _, _, _, _, _, _, l21, c21, k21⟩ := raw_fn F21
  obtain ⟨_, F22⟩ : ∃ fd, FunD K "ring_from" "ring_from" (defArgs s_ring_from) (defBody s_ring_from) (defScope s_ring_from) [] [] (He.ga K "ring_from") fd := c.def_ 22 rfl
  obtain ⟨_, _, _, _, _, _, _, _, _, l22, c22, k22⟩ := raw_fn F22
  obtain ⟨_, F23⟩ : ∃ fd, FunD K "_law_modules" "_law_modules" (defArgs s__law_modules) (defBody s__law_modules) (defScope s__law_modules) [] [] (He.ga K "_law_modules") fd := c.def_ 23 rfl
  obtain ⟨_, _, _, _, _, _, _, _, _, l23, c23, k23⟩ := raw_fn F23
  obtain ⟨_, F24⟩ : ∃ fd, FunD K "_law_covers" "_law_covers" (defArgs s__law_covers) (defBody s__law_covers) (defScope s__law_covers) [] [] (He.ga K "_law_covers") fd := c.def_ 24 rfl
  obtain ⟨_, _, _, _, _, _, _, _, _, l24, c24, k24⟩ := raw_fn F24
  obtain ⟨_, F25⟩ : ∃ fd, FunD K "_law_uses" "_law_uses" (defArgs s__law_uses) (defBody s__law_uses) (defScope s__law_uses) [] [] (He.ga K "_law_uses") fd := c.def_ 25 rfl
  obtain ⟨_, _, _, _, _, _, _, _, _, l25, c25, k25⟩ := raw_fn F25
  obtain ⟨_, F26⟩ : ∃ fd, FunD K "_law_ranked" "_law_ranked" (defArgs s__law_ranked) (defBody s__law_ranked) (defScope s__law_ranked) [] [] (He.ga K "_law_ranked") fd := c.def_ 26 rfl
  obtain ⟨_, _, _, _, _, _, _, _, _, l26, c26, k26⟩ := raw_fn F26
  obtain ⟨_, F27⟩ : ∃ fd, FunD K "_law_within" "_law_within" (defArgs s__law_within) (defBody s__law_within) (defScope s__law_within) [] [] (He.ga K "_law_within") fd := c.def_ 27 rfl
  obtain ⟨_, _, _, _, _, _, _, _, _, l27, c27, k27⟩ := raw_fn F27
  obtain ⟨_, F28⟩ : ∃ fd, FunD K "_law_rests" "_law_rests" (defArgs s__law_rests) (defBody s__law_rests) (defScope s__law_rests) [] [] (He.ga K "_law_rests") fd := c.def_ 28 rfl
  obtain ⟨_, _, _, _, _, _, _, _, _, l28, c28, k28⟩ := raw_fn F28
  obtain ⟨_, F29⟩ : ∃ fd, FunD K "look_over" "look_over" (defArgs s_look_over) (defBody s_look_over) (defScope s_look_over) [] [] (He.ga K "look_over") fd := c.def_ 29 rfl
  obtain ⟨_, _, _, _, _, _, _, _, _, l29, c29, k29⟩ := raw_fn F29
  obtain ⟨_, F30⟩ : ∃ fd, FunD K "rests_of" "rests_of" (defArgs s_rests_of) (defBody s_rests_of) (defScope s_rests_of) [] [] (He.ga K "rests_of") fd := c.def_ 30 rfl
  obtain ⟨_, _, _, _, _, _, _, _, _, l30, c30, k30⟩ := raw_fn F30
  obtain ⟨_, F31⟩ : ∃ fd, FunD K "first_ring" "first_ring" (defArgs s_first_ring) (defBody s_first_ring) (defScope s_first_ring) [] [] (He.ga K "first_ring") fd := c.def_ 31 rfl
  obtain ⟨_, _, _, _, _, _, _, _, _, l31, c31, k31⟩ := raw_fn F31
  obtain ⟨_, F32⟩ : ∃ fd, FunD K "checked_rests" "checked_rests" (defArgs s_checked_rests) (defBody s_checked_rests) (defScope s_checked_rests) [] [] (He.ga K "checked_rests") fd := c.def_ 32 rfl
  obtain ⟨_, _, _, _, _, _, _, _, _, l32, c32, k32⟩ := raw_fn F32
  obtain ⟨_, F33⟩ : ∃ fd, FunD K "levels" "levels" (defArgs s_levels) (defBody s_levels) (defScope s_levels) [] [] (He.ga K "levels") fd := c.def_ 33 rfl
  obtain ⟨_, _, _, _, _, _, _, _, _, l33, c33, k33⟩ := raw_fn F33
  obtain ⟨_, F34⟩ : ∃ fd, FunD K "tower" "tower" (defArgs s_tower) (defBody s_tower) (defScope s_tower) [] [] (He.ga K "tower") fd := c.def_ 34 rfl
  obtain ⟨_, _, _, _, _, _, _, _, _, l34, c34, k34⟩ := raw_fn F34
  obtain ⟨_, F35⟩ : ∃ fd, FunD K "_law_told" "_law_told" (defArgs s__law_told) (defBody s__law_told) (defScope s__law_told) [] [] (He.ga K "_law_told") fd := c.def_ 35 rfl
  obtain ⟨_, _, _, _, _, _, _, _, _, l35, c35, k35⟩ := raw_fn F35
  obtain ⟨_, F36⟩ : ∃ fd, FunD K "_law_ringed" "_law_ringed" (defArgs s__law_ringed) (defBody s__law_ringed) (defScope s__law_ringed) [] [] (He.ga K "_law_ringed") fd := c.def_ 36 rfl
  obtain ⟨_, _, _, _, _, _, _, _, _, l36, c36, k36⟩ := raw_fn F36
  obtain ⟨_, F37⟩ : ∃ fd, FunD K "_law_highest" "_law_highest" (defArgs s__law_highest) (defBody s__law_highest) (defScope s__law_highest) [] [] (He.ga K "_law_highest") fd := c.def_ 37 rfl
  obtain ⟨_, _, _, _, _, _, _, _, _, l37, c37, k37⟩ := raw_fn F37
  obtain ⟨_, F38⟩ : ∃ fd, FunD K "_law_stream" "_law_stream" (defArgs s__law_stream) (defBody s__law_stream) (defScope s__law_stream) [] [] (He.ga K "_law_stream") fd := c.def_ 38 rfl
  obtain ⟨_, _, _, _, _, _, _, _, _, l38, c38, k38⟩ := raw_fn F38
  obtain ⟨_, F39⟩ : ∃ fd, FunD K "law" "law" (defArgs s_law) (defBody s_law) (defScope s_law) [] [] (He.ga K "law") fd := c.def_ 39 rfl
  obtain ⟨_, _, _, _, _, _, _, _, _, l39, c39, k39⟩ := raw_fn F39
  obtain ⟨_, Fx_Circular⟩ : ∃ fd, FunD K "__init__" "Circular.__init__" (defArgs s_x_Circular) (defBody s_x_Circular) (defScope s_x_Circular) [] [] (He.ma K (He.ga K "Circular") "__init__") fd := c.def_ 40 rfl
  obtain ⟨_, _, _, _, _, _, _, _, _, lx_Circular, cx_Circular, kx_Circular⟩ := raw_fn Fx_Circular
  obtain ⟨_, _, _, _, _, _, _, _, _, _, _, _, _, _, _, xl_Circular, xr_Circular⟩ := oex_of (fact 9 2 rfl rfl)
  exact all_mk X G hfa (of_decide_eq_true (fact 0 0 rfl rfl))
    (fact 0 1 rfl rfl)
    (fact 0 2 rfl rfl)
    (fact 0 3 rfl rfl)
    (of_decide_eq_true (fact 0 4 rfl rfl))
    (of_decide_eq_true (fact 0 5 rfl rfl))
    (of_decide_eq_true (fact 0 6 rfl rfl))
    (of_decide_eq_true (fact 0 7 rfl rfl))
    (of_decide_eq_true (fact 0 8 rfl rfl))
    (of_decide_eq_true (fact 0 9 rfl rfl))
    (of_decide_eq_true (fact 0 10 rfl rfl))
    (of_decide_eq_true (fact 0 11 rfl rfl))
    (of_decide_eq_true (fact 1 0 rfl rfl))
    (of_decide_eq_true (fact 1 1 rfl rfl))
    (of_decide_eq_true (fact 1 2 rfl rfl))
    (of_decide_eq_true (fact 1 3 rfl rfl))
    (fact 1 4 rfl rfl)
    (of_decide_eq_true (fact 1 5 rfl rfl))
    (of_decide_eq_true (fact 1 6 rfl rfl))
    (of_decide_eq_true (fact 1 7 rfl rfl))
    (of_decide_eq_true (fact 1 8 rfl rfl))
    (of_decide_eq_true (fact 1 9 rfl rfl))
    (of_decide_eq_true (fact 1 10 rfl rfl))
    (of_decide_eq_true (fact 1 11 rfl rfl))
    (fact 2 0 rfl rfl)
    (of_decide_eq_true (fact 2 1 rfl rfl))
    (of_decide_eq_true (fact 2 2 rfl rfl))
    (of_decide_eq_true (fact 2 3 rfl rfl))
    (of_decide_eq_true (fact 2 4 rfl rfl))
    (of_decide_eq_true (fact 2 5 rfl rfl))
    (of_decide_eq_true (fact 2 6 rfl rfl))
    (of_decide_eq_true (fact 2 7 rfl rfl))
    (of_decide_eq_true (fact 2 8 rfl rfl))
    (of_decide_eq_true (fact 2 9 rfl rfl))
    (of_decide_eq_true (fact 2 10 rfl rfl))
    (of_decide_eq_true (fact 2 11 rfl rfl))
    xl_Circular
    xr_Circular
    (of_decide_eq_true (fact 3 0 rfl rfl))
    (of_decide_eq_true (fact 3 1 rfl rfl))
    (of_decide_eq_true (fact 3 2 rfl rfl))
    (fact 3 3 rfl rfl)
    (of_decide_eq_true (fact 3 4 rfl rfl))
    (of_decide_eq_true (fact 3 5 rfl rfl))
    (of_decide_eq_true (fact 3 6 rfl rfl))
    lx_Circular
    cx_Circular
    kx_Circular
    (of_decide_eq_true (fact 3 7 rfl rfl))
    l0
    c0
    k0
    (of_decide_eq_true (fact 3 8 rfl rfl))
    l1
    c1
    k1
    (of_decide_eq_true (fact 3 9 rfl rfl))
    l2
    c2
    k2
    (of_decide_eq_true (fact 3 10 rfl rfl))
    l3
    c3
    k3
    (of_decide_eq_true (fact 3 11 rfl rfl))
    l4
    c4
    k4
    (of_decide_eq_true (fact 4 0 rfl rfl))
    l5
    c5
    k5
    (of_decide_eq_true (fact 4 1 rfl rfl))
    l6
    c6
    k6
    (of_decide_eq_true (fact 4 2 rfl rfl))
    l7
    c7
    k7
    (of_decide_eq_true (fact 4 3 rfl rfl))
    l8
    c8
    k8
    (of_decide_eq_true (fact 4 4 rfl rfl))
    l9
    c9
    k9
    (of_decide_eq_true (fact 4 5 rfl rfl))
    l10
    c10
    k10
    (of_decide_eq_true (fact 4 6 rfl rfl))
    l11
    c11
    k11
    (of_decide_eq_true (fact 4 7 rfl rfl))
    l12
    c12
    k12
    (of_decide_eq_true (fact 4 8 rfl rfl))
    l13
    c13
    k13
    (of_decide_eq_true (fact 4 9 rfl rfl))
    l14
    c14
    k14
    (of_decide_eq_true (fact 4 10 rfl rfl))
    l15
    c15
    k15
    (of_decide_eq_true (fact 4 11 rfl rfl))
    (fact 5 0 rfl rfl)
    (fact 5 1 rfl rfl)
    (fact 5 2 rfl rfl)
    l16
    c16
    k16
    (of_decide_eq_true (fact 5 3 rfl rfl))
    (of_decide_eq_true (fact 5 4 rfl rfl))
    (of_decide_eq_true (fact 5 5 rfl rfl))
    (of_decide_eq_true (fact 5 6 rfl rfl))
    l17
    c17
    k17
    (of_decide_eq_true (fact 5 7 rfl rfl))
    l18
    c18
    k18
    (of_decide_eq_true (fact 5 8 rfl rfl))
    (of_decide_eq_true (fact 5 9 rfl rfl))
    (of_decide_eq_true (fact 5 10 rfl rfl))
    (of_decide_eq_true (fact 5 11 rfl rfl))
    l19
    c19
    k19
    (of_decide_eq_true (fact 6 0 rfl rfl))
    l20
    c20
    k20
    (of_decide_eq_true (fact 6 1 rfl rfl))
    l21
    c21
    k21
    (of_decide_eq_true (fact 6 2 rfl rfl))
    l22
    c22
    k22
    (of_decide_eq_true (fact 6 3 rfl rfl))
    l23
    c23
    k23
    (of_decide_eq_true (fact 6 4 rfl rfl))
    l24
    c24
    k24
    (of_decide_eq_true (fact 6 5 rfl rfl))
    l25
    c25
    k25
    (of_decide_eq_true (fact 6 6 rfl rfl))
    l26
    c26
    k26
    (of_decide_eq_true (fact 6 7 rfl rfl))
    l27
    c27
    k27
    (of_decide_eq_true (fact 6 8 rfl rfl))
    l28
    c28
    k28
    (of_decide_eq_true (fact 6 9 rfl rfl))
    l29
    c29
    k29
    (of_decide_eq_true (fact 6 10 rfl rfl))
    l30
    c30
    k30
    (of_decide_eq_true (fact 6 11 rfl rfl))
    l31
    c31
    k31
    (of_decide_eq_true (fact 7 0 rfl rfl))
    l32
    c32
    k32
    (of_decide_eq_true (fact 7 1 rfl rfl))
    l33
    c33
    k33
    (of_decide_eq_true (fact 7 2 rfl rfl))
    l34
    c34
    k34
    (of_decide_eq_true (fact 7 3 rfl rfl))
    l35
    c35
    k35
    (of_decide_eq_true (fact 7 4 rfl rfl))
    l36
    c36
    k36
    (of_decide_eq_true (fact 7 5 rfl rfl))
    l37
    c37
    k37
    (of_decide_eq_true (fact 7 6 rfl rfl))
    l38
    c38
    k38
    (of_decide_eq_true (fact 7 7 rfl rfl))
    l39
    c39
    k39
    (of_decide_eq_true (fact 7 8 rfl rfl))
    (of_decide_eq_true (fact 7 9 rfl rfl))
    (of_decide_eq_true (fact 7 10 rfl rfl))
    (of_decide_eq_true (fact 7 11 rfl rfl))
    (of_decide_eq_true (fact 8 0 rfl rfl))
    (of_decide_eq_true (fact 8 1 rfl rfl))
    (of_decide_eq_true (fact 8 2 rfl rfl))
    (of_decide_eq_true (fact 8 3 rfl rfl))
    (of_decide_eq_true (fact 8 4 rfl rfl))
    (of_decide_eq_true (fact 8 5 rfl rfl))
    (of_decide_eq_true (fact 8 6 rfl rfl))
    (of_decide_eq_true (fact 8 7 rfl rfl))
    (of_decide_eq_true (fact 8 8 rfl rfl))
    (of_decide_eq_true (fact 8 9 rfl rfl))
    (of_decide_eq_true (fact 8 10 rfl rfl))
    (of_decide_eq_true (fact 8 11 rfl rfl))
    (of_decide_eq_true (fact 9 0 rfl rfl))
    (of_decide_eq_true (fact 9 1 rfl rfl))
end DL
open PySem PySem.W PySem.Calls PyProof.Rows
set_option maxHeartbeats 0 in
theorem PySem.Challenge.cw_mayrest_k62_towers_holds : PySem.Challenge.rw_mayrest_k62_towers.Holds := by
  w_on; o_law
  refine HandSHeadRun.head_any (r := OpenLaw.row PySem.Challenge.rw_mayrest_k62_towers) (q := view (OpenLaw.row PySem.Challenge.rw_mayrest_k62_towers).prog [56]) (H := DL.hkR) (ob := DL.obR) (M := 20000) (loose := DL.looseR) (d := HandSHeadRun.topDef (OpenLaw.row PySem.Challenge.rw_mayrest_k62_towers).prog 56) (kwd := []) DL.obR_eq
    (by kernel_rfl) (fun s => by kernel_rfl) DL.runR (by kernel_rfl) (by kernel_rfl) (by kernel_rfl) (by rfl) (by first | assumption | decide +kernel) (by decide +kernel) ⟨rfl, rfl, rfl, rfl, rfl, by decide +kernel⟩ ?hw ?hc
  case hw => w_witness2
  case hc =>
    refine DL.walk_ofY (l := PySem.Challenge.rw_mayrest_k62_towers) (k := 8) (x := "_law_script") rfl (by kernel_rfl) ⟨rfl, by decide, by decide⟩ ?_
    intro w mg fa h K KX c G hmg0
    have hmg : mg ("law" : PySem.Str) = some (.ref fa) := by
      have e : (HandSHeadRun.topDef (OpenLaw.row PySem.Challenge.rw_mayrest_k62_towers).prog 56).name = ("law" : PySem.Str) := by kernel_rfl
      rw [← e]
      exact hmg0
    exact DL.factsR KX G hmg c
