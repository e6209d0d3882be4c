import PyProof.Rows.All
import HandS.Exc
import Wide.All
import OpenK.AllK
import Wide.FinOn
import HandS.ForMost
import HandS.IsInst
import HandS.TupAny
import HandS.Deep
import HandS.Style
import HandS.Wide
import HandS.Zip
import HandS.Property
import HandS.More
import HandS.Small
import KE.SortData
import KE.KDictSum
import KE.GoesMore
import KE.GoesEnum
import HandS.Set
import HandS.SetFor
import HandS.Strs
import KE.KCallOwn
import HandS.FStr
import HandS.NoneIn
import KE.KEqNest
import PyProof.EqKinds
import HandS.DictComp
import HandS.MakeKwOnly
import KE.DataMinMax
import HandS.TupLe
import KE.KDictZip
import HandS.Star
import HandS.ClsMeth
import HandS.CallLocal
import HandS.ExcInit
import HandS.ExcOwn
import HandS.TryOnly
import HandS.ExcField
import HandS.ExcIs
import HandS.ExcValue
import KE.KExcIs
import PyProof.ReprRoads
import PyProof.StrLawsRepr
import PyProof.ReprLen
import HandS.StrMore
import PyProof.NeKinds
import KE.KStateDown
import HandS.Head0
import HandS.Head1
import HandS.Head2
import HandS.HeadEnd
import HandS.HeadHook1
import HandS.HeadHook2
import HandS.HeadHook3
import HandS.HeadNt
import PyProof.ListStr
import HandS.Flow
import PyProof.ListNew
import KE.GoesEnumKw
import PyProof.Rows.CallKwBuiltin
import KE.DataMinKey
import KE.SortKeyHeap
import HandS.Lambda
import HandS.EndTab
import KE.KNestM
import HandS.Iter
import KE.KDictKeyed
import HandS.Conv
import HandS.CallSlots
import HandS.TupMul
import HandS.WideBits
import KE.KDictPairs
import PySem.Challenge.RW_mayrest_k68_modules_moved
set_option Elab.async false
set_option linter.all false
set_option maxRecDepth 100000
set_option autoImplicit false
namespace DL
open PySem PySem.Spec PyProof.Rows L2
/-! plain data, and how a value of the heap stands for it -/
inductive D where
  | none
  | bool (b : Bool)
  | int (i : Int)
  | str (x : Str)
  | tup (xs : List D)
  | lst (xs : List D)
  | dct (ks : List Key) (xs : List D)
  | dtt (ks : List (List Key)) (xs : List D)
  | ktup (xs : List Str)
  | ftp (xs : List D)
  | obj (c : Str) (ns : List Str) (xs : List D)
  | exn (c : Str) (ns : List Str) (xs : List D)
  | any (v : V)
/-- an exception that was caught, at a -/
def ExK (C dd a : Addr) : HO := .ext fun h => ∃ (oe : Obj) (vs : Array Value), h.get? a = some oe ∧ oe.cls = .ref C ∧ oe.dict = some dd ∧ oe.data = .fields vs
/-- a tuple -/
def TpAt (K : PySem.W.Frag) (H : Hp) (a : Addr) (xs : List V) : Prop := H a = some (.tup xs)
/-- a tuple of the text -/
def KtAt (K : PySem.W.Frag) (a : Addr) (xs : List V) : Prop := ∃ (o : Obj) (its : Array Value) (n : Nat), K.lookup a = some o ∧ o.cls = .type "tuple" ∧ o.data = .seq its n ∧ its.size ≤ sizeLine ∧ Vals xs its.toList
theorem KtAt.sq {K : PySem.W.Frag} {a : Addr} {xs : List V} (H : Hp) (h : KtAt K a xs) : SqT K H a xs := .inr h
/-- a tuple that is known to the object: no instance dict -/
def FtAt (H : Hp) (a : Addr) (xs : List V) : Prop := ∃ o : Obj, o.dict = none ∧ H a = some (.frz o (.tup xs))
theorem FtAt.mono {H H' : Hp} {a : Addr} {xs : List V} (e : Same H H') (h : FtAt H a xs) : FtAt H' a xs := let ⟨o, h1, h2⟩ := h; ⟨o, h1, e _ _ h2⟩
theorem FtAt.sq {K : PySem.W.Frag} {H : Hp} {a : Addr} {xs : List V} (h : FtAt H a xs) : SqT K H a xs := let ⟨o, _, h2⟩ := h; .inl (.inr ⟨o, h2⟩)
section
variable {K : PySem.W.Frag} {H H' : Hp} {a : Addr} {xs : List V}
theorem TpAt.mono (e : Same H H') (h : TpAt K H a xs) : TpAt K H' a xs := e _ _ h
theorem TpAt.sq (h : TpAt K H a xs) : SqT K H a xs := .inl (.inl h)
theorem tp_sq (e : Same H H') (h : TpAt K H a xs) : SqT K H' a xs := (h.mono e).sq
theorem sqT_mono (e : Same H H') (h : SqT K H a xs) : SqT K H' a xs := by
  rcases h with (h | ⟨o, h⟩) | h
  · exact .inl (.inl (e _ _ h))
  · exact .inl (.inr ⟨o, e _ _ h⟩)
  · exact .inr h
end
mutual
def Rp (K : PySem.W.Frag) (H : Hp) : D → V → Prop
  | .none, v => v = .non
  | .bool b, v => v = .bl b
  | .int i, v => v = .int i
  | .str x, v => v = .str x
  | .tup ds, v => ∃ a vs, v = .ref a ∧ TpAt K H a vs ∧ RpA K H ds vs
  | .lst ds, v => ∃ a vs, v = .ref a ∧ H a = some (.lst vs) ∧ RpA K H ds vs
  | .dct ks ds, v => ∃ a vs, v = .ref a ∧ H a = some (.dK (ks.zip vs)) ∧ ks.length = vs.length ∧ RpA K H ds vs
  | .dtt ks ds, v => ∃ a vs, v = .ref a ∧ H a = some (.dT (ks.zip vs)) ∧ ks.length = vs.length ∧ RpA K H ds vs
  | .ktup xs, v => ∃ a, v = .ref a ∧ KtAt K a (xs.map V.str)
  | .ftp ds, v => ∃ a vs, v = .ref a ∧ FtAt H a vs ∧ RpA K H ds vs
  | .obj c ns ds, v => ∃ C a dx vs, PySem.W.nsIn K mainGlobals c = some (some (.ref C)) ∧ v = .ref a ∧ H a = some (.ins C dx (ns.zip vs)) ∧ H dx = some (.own a) ∧ ns.length = vs.length ∧ RpA K H ds vs
  | .exn c ns ds, v => ∃ C a dd vs, PySem.W.nsIn K mainGlobals c = some (some (.ref C)) ∧ v = .ref a ∧ H a = some (ExK C dd a) ∧ H dd = some (.xd (ns.zip vs)) ∧ ns.length = vs.length ∧ RpA K H ds vs
  | .any w, v => v = w
def RpA (K : PySem.W.Frag) (H : Hp) : List D → List V → Prop
  | [], vs => vs = []
  | d :: ds, vs => ∃ v r, vs = v :: r ∧ Rp K H d v ∧ RpA K H ds r
end
section
variable {K : PySem.W.Frag} {H H' : Hp}
mutual
theorem Rp.mono (e : Same H H') : ∀ (d : D) (v : V), Rp K H d v → Rp K H' d v
  | .none, _, h => h
  | .bool _, _, h => h
  | .int _, _, h => h
  | .str _, _, h => h
  | .tup ds, _, ⟨a, vs, h1, h2, h3⟩ => ⟨a, vs, h1, h2.mono e, RpA.mono e ds vs h3⟩
  | .lst ds, _, ⟨a, vs, h1, h2, h3⟩ => ⟨a, vs, h1, e _ _ h2, RpA.mono e ds vs h3⟩
  | .dct ks ds, _, ⟨a, vs, h1, h2, h3, h4⟩ => ⟨a, vs, h1, e _ _ h2, h3, RpA.mono e ds vs h4⟩
  | .dtt ks ds, _, ⟨a, vs, h1, h2, h3, h4⟩ => ⟨a, vs, h1, e _ _ h2, h3, RpA.mono e ds vs h4⟩
  | .ktup _, _, h => h
  | .ftp ds, _, ⟨a, vs, h1, h2, h3⟩ => ⟨a, vs, h1, h2.mono e, RpA.mono e ds vs h3⟩
  | .obj c ns ds, _, ⟨C, a, dx, vs, h0, h1, h2, h3, h4, h5⟩ => ⟨C, a, dx, vs, h0, h1, e _ _ h2, e _ _ h3, h4, RpA.mono e ds vs h5⟩
  | .exn c ns ds, _, ⟨C, a, dx, vs, h0, h1, h2, h3, h4, h5⟩ => ⟨C, a, dx, vs, h0, h1, e _ _ h2, e _ _ h3, h4, RpA.mono e ds vs h5⟩
  | .any _, _, h => h
theorem RpA.mono (e : Same H H') : ∀ (ds : List D) (vs : List V), RpA K H ds vs → RpA K H' ds vs
  | [], _, h => h
  | d :: ds, _, ⟨v, r, h1, h2, h3⟩ => ⟨v, r, h1, Rp.mono e d v h2, RpA.mono e ds r h3⟩
end
theorem RpA.length : ∀ {ds : List D} {vs : List V}, RpA K H ds vs → ds.length = vs.length
  | [], _, h => by cases h; rfl
  | _ :: _, _, ⟨_, _, h1, _, h3⟩ => by subst h1; simp [RpA.length h3]
theorem RpA.get : ∀ {ds : List D} {vs : List V} {i : Nat} {d : D}, RpA K H ds vs → ds[i]? = some d → ∃ v, vs[i]? = some v ∧ Rp K H d v
  | [], _, _, _, _, e => by simp at e
  | d :: ds, _, 0, _, ⟨v, r, h1, h2, h3⟩, e => by simp at e; subst e; subst h1; exact ⟨v, rfl, h2⟩
  | d :: ds, _, i + 1, _, ⟨v, r, h1, h2, h3⟩, e => by subst h1; simpa using RpA.get h3 (by simpa using e)
theorem RpA.append : ∀ {ds es : List D} {vs ws : List V}, RpA K H ds vs → RpA K H es ws → RpA K H (ds ++ es) (vs ++ ws)
  | [], _, _, _, h, q => by cases h; exact q
  | d :: ds, _, _, _, ⟨v, r, h1, h2, h3⟩, q => by subst h1; exact ⟨v, r ++ _, rfl, h2, RpA.append h3 q⟩
theorem RpA.take : ∀ {ds : List D} {vs : List V} (n : Nat), RpA K H ds vs → RpA K H (ds.take n) (vs.take n)
  | _, _, 0, _ => rfl
  | [], _, _ + 1, h => by cases h; rfl
  | _ :: _, _, n + 1, ⟨v, r, h1, h2, h3⟩ => by subst h1; exact ⟨v, _, rfl, h2, RpA.take n h3⟩
theorem RpA.drop : ∀ {ds : List D} {vs : List V} (n : Nat), RpA K H ds vs → RpA K H (ds.drop n) (vs.drop n)
  | _, _, 0, h => h
  | [], _, _ + 1, h => by cases h; rfl
  | _ :: _, _, n + 1, ⟨v, r, h1, h2, h3⟩ => by subst h1; exact RpA.drop n h3
theorem RpA.one {d : D} {v : V} (h : Rp K H d v) : RpA K H [d] [v] := ⟨v, [], rfl, h, rfl⟩
theorem RpA.set : ∀ {ds : List D} {vs : List V} {d : D} {v : V} (n : Nat), RpA K H ds vs → Rp K H d v → RpA K H (ds.set n d) (vs.set n v)
  | [], _, _, _, _, h, _ => by cases h; rfl
  | _ :: _, _, _, _, 0, ⟨v, r, h1, h2, h3⟩, q => by subst h1; exact ⟨_, _, rfl, q, h3⟩
  | _ :: _, _, _, _, n + 1, ⟨v, r, h1, h2, h3⟩, q => by subst h1; exact ⟨_, _, rfl, h2, RpA.set n h3 q⟩
theorem RpA.reverse : ∀ {ds : List D} {vs : List V}, RpA K H ds vs → RpA K H ds.reverse vs.reverse
  | [], _, h => by cases h; rfl
  | d :: ds, _, ⟨v, r, h1, h2, h3⟩ => by subst h1; rw [List.reverse_cons, List.reverse_cons]; exact RpA.append (RpA.reverse h3) (RpA.one h2)
theorem RpA.map {α : Type} {f : α → D} {g : α → V} (h : ∀ x, Rp K H (f x) (g x)) : ∀ l : List α, RpA K H (l.map f) (l.map g)
  | [] => rfl
  | x :: l => ⟨_, _, rfl, h x, RpA.map h l⟩
theorem RpA.strs : ∀ {l : List Str} {vs : List V}, RpA K H (l.map D.str) vs → vs = l.map V.str
  | [], _, h => h
  | x :: l, _, ⟨v, r, h1, h2, h3⟩ => by subst h1; cases h2; rw [RpA.strs h3]; rfl
theorem RpA.bools : ∀ {l : List Bool} {vs : List V}, RpA K H (l.map D.bool) vs → vs = l.map V.bl
  | [], _, h => h
  | x :: l, _, ⟨v, r, h1, h2, h3⟩ => by subst h1; cases h2; rw [RpA.bools h3]; rfl
end
/-! data without lists and dicts -/
mutual
def D.flat : D → Bool
  | .none => true
  | .bool _ => true
  | .int _ => true
  | .str _ => true
  | .tup ds => flatA ds
  | .lst _ => false
  | .dct _ _ => false
  | .dtt _ _ => false
  | .ktup _ => true
  | .ftp ds => flatA ds
  | .obj _ _ _ => false
  | .exn _ _ _ => false
  | .any _ => true
def flatA : List D → Bool
  | [] => true
  | d :: ds => d.flat && flatA ds
end
def isLD : HO → Bool
  | .lst _ => true
  | .dK _ => true
  | .dT _ => true
  | .ins _ _ _ => true
  | .ext _ => true
  | _ => false
section
variable {K : PySem.W.Frag} {H H' : Hp}
mutual
theorem Rp.flat (e : ∀ a o, H a = some o → isLD o = false → H' a = some o) : ∀ (d : D) (v : V), d.flat = true → Rp K H d v → Rp K H' d v
  | .none, _, _, h => h
  | .bool _, _, _, h => h
  | .int _, _, _, h => h
  | .str _, _, _, h => h
  | .tup ds, _, f, ⟨a, vs, h1, h2, h3⟩ => ⟨a, vs, h1, e _ _ h2 rfl, RpA.flat e ds vs f h3⟩
  | .lst ds, _, f, _ => by cases f
  | .dct ks ds, _, f, _ => by cases f
  | .dtt ks ds, _, f, _ => by cases f
  | .ktup _, _, _, h => h
  | .ftp ds, _, f, ⟨a, vs, h1, ⟨o, h2, h3⟩, h4⟩ => ⟨a, vs, h1, ⟨o, h2, e _ _ h3 rfl⟩, RpA.flat e ds vs f h4⟩
  | .obj _ _ _, _, f, _ => by cases f
  | .exn _ _ _, _, f, _ => by cases f
  | .any _, _, _, h => h
theorem RpA.flat (e : ∀ a o, H a = some o → isLD o = false → H' a = some o) : ∀ (ds : List D) (vs : List V), flatA ds = true → RpA K H ds vs → RpA K H' ds vs
  | [], _, _, h => h
  | d :: ds, _, f, ⟨v, r, h1, h2, h3⟩ => by
    have f' : d.flat = true ∧ flatA ds = true := Bool.and_eq_true_iff.mp f
    exact ⟨v, r, h1, Rp.flat e d v f'.1 h2, RpA.flat e ds r f'.2 h3⟩
end
end
/-! the deck of draws -/
structure Dk where
  a : Addr
  b : Addr
  c : Addr
  /-- the tables of code objects that lambdas are put in, and the lambdas' names -/
  t : List (Addr × Str)
def Dk.has (g : Option Dk) (x : Addr) : Prop := match g with
  | none => False
  | some k => x = k.a ∨ x = k.b ∨ x = k.c ∨ x ∈ k.t.map (·.1)
/-- the table at P: the code objects that it tells are shared, and of the name q -/
def TabH (H Hs : Hp) (P : Addr) (q : Str) : Prop := ∃ ps : Array Value, H P = some (.tbl ps) ∧ TriplesOk ps.toList ∧ ∀ (pos : Pos) (cv : Value), codeAmong pos ps.toList = some cv → ∃ c, cv = .ref c ∧ Hs c = some (LamX.CodeO c q)
structure TbOk (k : Dk) (H Hs : Hp) : Prop where
  nd : (k.t.map (·.1)).Nodup
  at_ : ∀ p ∈ k.t, Hs p.1 = none ∧ TabH H Hs p.1 p.2
structure DkAt (k : Dk) (H : Hp) (f : Nat) : Prop where
  ab : k.a ≠ k.b
  ac : k.a ≠ k.c
  bc : k.b ≠ k.c
  at_ : ∃ (n : Int) (xs ys : List Int), H k.a = some (.lst [.ref k.b, .ref k.c, .int n]) ∧ H k.b = some (.lst (xs.map V.int)) ∧ H k.c = some (.lst (ys.map V.int)) ∧
    (∀ x ∈ xs, 0 ≤ x) ∧ (∀ y ∈ ys, 0 ≤ y) ∧ 0 < ys.length ∧ 0 ≤ n ∧ n + f ≤ 1000000000000
def DkOk (g : Option Dk) (H Hs : Hp) (f : Nat) : Prop := match g with
  | none => True
  | some k => DkAt k H f ∧ Hs k.a = none ∧ Hs k.b = none ∧ Hs k.c = none ∧ TbOk k H Hs
/-! from a heap and its shared part to later ones -/
structure Stp (g : Option Dk) (H Hs H' Hs' : Hp) : Prop where
  sub : Same Hs' H'
  ext : Same Hs Hs'
  keep : ∀ a o, H a = some o → ¬ Dk.has g a → H' a = some o
  there : ∀ a o, H a = some o → ∃ o', H' a = some o'
  new : ∀ a o, H a = some o → Hs a = none → Hs' a = none
theorem Stp.refl {g : Option Dk} {H Hs : Hp} (h : Same Hs H) : Stp g H Hs H Hs := ⟨h, Same.refl _, fun _ _ h _ => h, fun _ o h => ⟨o, h⟩, fun _ _ _ h => h⟩
theorem Stp.trans {g : Option Dk} {H Hs H1 Hs1 H2 Hs2 : Hp} (p : Stp g H Hs H1 Hs1) (q : Stp g H1 Hs1 H2 Hs2) : Stp g H Hs H2 Hs2 where
  sub := q.sub
  ext := p.ext.trans q.ext
  keep := fun a o h n => q.keep a o (p.keep a o h n) n
  there := fun a o h => by
    obtain ⟨o', h'⟩ := p.there a o h
    exact q.there a o' h'
  new := fun a o h n => by
    obtain ⟨o', h'⟩ := p.there a o h
    exact q.new a o' h' (p.new a o h n)
/-- a new object, shared -/
theorem Stp.alloc {g : Option Dk} {H Hs : Hp} {p : Addr} {o : HO} (s : Same Hs H) (hp : H p = none) : Stp g H Hs (upd H p o) (upd Hs p o) where
  sub := fun a u h => by
    by_cases e : a = p
    · subst e; rw [upd_same] at h ⊢; exact h
    · rw [upd_ne e] at h ⊢; exact s a u h
  ext := fun a u h => by
    have : a ≠ p := fun e => by subst e; rw [s a u h] at hp; cases hp
    rw [upd_ne this]; exact h
  keep := fun a u h _ => by rw [upd_ne (ne_of_none h hp)]; exact h
  there := fun a u h => ⟨u, by rw [upd_ne (ne_of_none h hp)]; exact h⟩
  new := fun a u h n => by rw [upd_ne (ne_of_none h hp)]; exact n
/-- a new object, not shared -/
theorem Stp.lay {g : Option Dk} {H Hs : Hp} {p : Addr} {o : HO} (s : Same Hs H) (hp : H p = none) : Stp g H Hs (upd H p o) Hs where
  sub := fun a u h => by
    have : a ≠ p := fun e => by subst e; rw [s a u h] at hp; cases hp
    rw [upd_ne this]; exact s a u h
  ext := Same.refl _
  keep := fun a u h _ => by rw [upd_ne (ne_of_none h hp)]; exact h
  there := fun a u h => ⟨u, by rw [upd_ne (ne_of_none h hp)]; exact h⟩
  new := fun a u h n => n
/-- an object that stands is shared from now on -/
theorem Stp.share {g : Option Dk} {H Hs H' Hs' : Hp} {p : Addr} {o : HO} (s : Stp g H Hs H' Hs') (h0 : H p = none) (h1 : H' p = some o) (h2 : Hs' p = none) : Stp g H Hs H' (upd Hs' p o) where
  sub := fun a u h => by
    by_cases e : a = p
    · subst e; rw [upd_same] at h; cases h; exact h1
    · rw [upd_ne e] at h; exact s.sub a u h
  ext := fun a u h => by
    have q := s.ext a u h
    rw [upd_ne (ne_of_none q h2)]; exact q
  keep := s.keep
  there := s.there
  new := fun a u h n => by rw [upd_ne (ne_of_none h h0)]; exact s.new a u h n
theorem TbOk.nil {a b c : Addr} {H Hs : Hp} : TbOk ⟨a, b, c, []⟩ H Hs := ⟨List.nodup_nil, fun _ h => nomatch h⟩
/-- the tables stay where they stand, the shared ones stay -/
theorem TbOk.to {k : Dk} {H Hs H' Hs' : Hp} (h : TbOk k H Hs) (a : ∀ p ∈ k.t.map (·.1), ∀ o, H p = some o → Hs p = none → H' p = some o ∧ Hs' p = none) (c : ∀ b o, Hs b = some o → b ∉ k.t.map (·.1) → (∃ q, o = LamX.CodeO b q) → Hs' b = some o) : TbOk k H' Hs' := ⟨h.nd, fun p hp => by
  obtain ⟨h1, ps, h2, h3, h4⟩ := h.at_ p hp
  obtain ⟨e1, e2⟩ := a p.1 (List.mem_map.mpr ⟨p, hp, rfl⟩) _ h2 h1
  refine ⟨e2, ps, e1, h3, fun pos cv hc => ?_⟩
  obtain ⟨x, e, hx⟩ := h4 pos cv hc
  refine ⟨x, e, c x _ hx (fun hm => ?_) ⟨_, rfl⟩⟩
  obtain ⟨p', hp', e'⟩ := List.mem_map.mp hm
  have := (h.at_ p' hp').1
  rw [e', hx] at this
  cases this⟩
theorem DkOk.step {g : Option Dk} {H Hs H' Hs' : Hp} {f : Nat} (h : DkOk g H Hs f) (k : ∀ a o, H a = some o → H' a = some o) (n : ∀ a o, H a = some o → Hs a = none → Hs' a = none) (e : Same Hs Hs') : DkOk g H' Hs' f := by
  cases g with
  | none => trivial
  | some d =>
    obtain ⟨⟨e1, e2, e3, n', xs, ys, h1, h2, h3, h4⟩, n1, n2, n3, tb⟩ := h
    exact ⟨⟨e1, e2, e3, n', xs, ys, k _ _ h1, k _ _ h2, k _ _ h3, h4⟩, n _ _ h1 n1, n _ _ h2 n2, n _ _ h3 n3, tb.to (fun p _ o hp hn => ⟨k _ _ hp, n _ _ hp hn⟩) fun b o hb _ _ => e b o hb⟩
theorem DkOk.stp {g : Option Dk} {H Hs H' Hs' : Hp} {f : Nat} (h : DkOk g H Hs f) (s : Stp none H Hs H' Hs') : DkOk g H' Hs' f := h.step (fun a o e => s.keep a o e id) s.new s.ext
theorem Stp.gen {g : Option Dk} {H Hs H' Hs' : Hp} (s : Stp none H Hs H' Hs') : Stp g H Hs H' Hs' := ⟨s.sub, s.ext, fun a o h _ => s.keep a o h id, s.there, s.new⟩
end DL
namespace DL
open PySem PySem.Spec PyProof.Rows L2
/-! slots -/
inductive Sl where
  | no
  | sh (d : D)
  | ow (xs : List D)
  | od (ks : List Key) (xs : List D)
  | ot (ks : List (List Key)) (xs : List D)
  | oi (a : Addr) (c : Str) (ns : List Str) (xs : List D)
  | on (w : World) (ks : List (List (Str × Str)))
def Sl.d : Sl → Option D
  | .no => none
  | .sh d => some d
  | .ow xs => some (.lst xs)
  | .od ks xs => some (.dct ks xs)
  | .ot ks xs => some (.dtt ks xs)
  | .oi _ _ _ _ => none
  | .on _ _ => none
abbrev Sg := List Sl
structure SlOk (K : PySem.W.Frag) (Hs : Hp) (r : Sg) (st : L2.St) : Prop where
  len : r.length = st.length
  get : ∀ (i : Nat) (s : Sl) (d : D), r[i]? = some s → s.d = some d → ∃ v, st[i]? = some (some v) ∧ Rp K Hs d v
theorem SlOk.mono {K : PySem.W.Frag} {Hs Hs' : Hp} {r : Sg} {st : L2.St} (h : SlOk K Hs r st) (e : Same Hs Hs') : SlOk K Hs' r st :=
  ⟨h.len, fun i s d h1 h2 => by
    obtain ⟨v, h3, h4⟩ := h.get i s d h1 h2
    exact ⟨v, h3, h4.mono e⟩⟩
theorem SlOk.set {K : PySem.W.Frag} {Hs : Hp} {r : Sg} {st : L2.St} (h : SlOk K Hs r st) (j : Nat) {d : D} {v : V} (hv : Rp K Hs d v) : SlOk K Hs (r.set j (.sh d)) (st.set j (some v)) :=
  ⟨by simp [h.len], fun i s e h1 h2 => by
    by_cases hij : j = i
    · subst hij
      by_cases hl : j < r.length
      · rw [List.getElem?_set_self hl] at h1
        cases h1
        cases h2
        exact ⟨v, List.getElem?_set_self (h.len ▸ hl), hv⟩
      · rw [List.getElem?_eq_none (by simpa using hl)] at h1
        cases h1
    · rw [List.getElem?_set_ne hij] at h1
      rw [List.getElem?_set_ne hij]
      exact h.get i s e h1 h2⟩
abbrev QD := D → Nat → Prop
abbrev DT := Option Dk → Sg → Nat → QD → Prop
abbrev DTT := Option Dk → Sg → Nat → (Bool → Nat → Prop) → Prop
abbrev DTA := Option Dk → Sg → Nat → (List D → Nat → Prop) → Prop
structure At (K : PySem.W.Frag) (g : Option Dk) (r : Sg) (f : Nat) (st : L2.St) (H Hs : Hp) : Prop where
  sub : Same Hs H
  dk : DkOk g H Hs f
  sl : SlOk K Hs r st
theorem At.step {K : PySem.W.Frag} {g : Option Dk} {r : Sg} {f f' : Nat} {st : L2.St} {H Hs H' Hs' : Hp} (a : At K g r f st H Hs) (s : Stp g H Hs H' Hs') (k : DkOk g H' Hs' f') : At K g r f' st H' Hs' :=
  ⟨s.sub, k, a.sl.mono s.ext⟩
def Snd (K : PySem.W.Frag) (t : TE) (dl : DT) : Prop := ∀ (g : Option Dk) (r : Sg) (f : Nat) (st : L2.St) (H Hs : Hp) (Q : VK) (Q' : QD), At K g r f st H Hs →
  (∀ d f' v H' Hs', Stp g H Hs H' Hs' → DkOk g H' Hs' f' → Rp K Hs' d v → Q' d f' → Q v H') → dl g r f Q' → t st H Q
def SndT (K : PySem.W.Frag) (t : TT) (dl : DTT) : Prop := ∀ (g : Option Dk) (r : Sg) (f : Nat) (st : L2.St) (H Hs : Hp) (Q : Bool → Hp → Prop) (Q' : Bool → Nat → Prop), At K g r f st H Hs →
  (∀ b f' H' Hs', Stp g H Hs H' Hs' → DkOk g H' Hs' f' → Q' b f' → Q b H') → dl g r f Q' → t st H Q
def SndA (K : PySem.W.Frag) (t : TA) (dl : DTA) : Prop := ∀ (g : Option Dk) (r : Sg) (f : Nat) (st : L2.St) (H Hs : Hp) (Q : List V → Hp → Prop) (Q' : List D → Nat → Prop), At K g r f st H Hs →
  (∀ ds f' vs H' Hs', Stp g H Hs H' Hs' → DkOk g H' Hs' f' → RpA K Hs' ds vs → Q' ds f' → Q vs H') → dl g r f Q' → t st H Q
/-- a list that is new -/
def SndL (K : PySem.W.Frag) (t : TE) (dl : DTA) : Prop := ∀ (g : Option Dk) (r : Sg) (f : Nat) (st : L2.St) (H Hs : Hp) (Q : VK) (Q' : List D → Nat → Prop), At K g r f st H Hs →
  (∀ ds f' p vs H' Hs', Stp g H Hs H' Hs' → DkOk g H' Hs' f' → H p = none → Hs' p = none → H' p = some (.lst vs) → RpA K Hs' ds vs → Q' ds f' → Q (.ref p) H') → dl g r f Q' → t st H Q
/-! the widest reading that data allow -/
def tOf (K : PySem.W.Frag) (dl : DT) : TE := fun st H Q => ∃ g r f Hs Q', At K g r f st H Hs ∧ (∀ d f' v H' Hs', Stp g H Hs H' Hs' → DkOk g H' Hs' f' → Rp K Hs' d v → Q' d f' → Q v H') ∧ dl g r f Q'
def tOfT (K : PySem.W.Frag) (dl : DTT) : TT := fun st H Q => ∃ g r f Hs Q', At K g r f st H Hs ∧ (∀ b f' H' Hs', Stp g H Hs H' Hs' → DkOk g H' Hs' f' → Q' b f' → Q b H') ∧ dl g r f Q'
def tOfA (K : PySem.W.Frag) (dl : DTA) : TA := fun st H Q => ∃ g r f Hs Q', At K g r f st H Hs ∧ (∀ ds f' vs H' Hs', Stp g H Hs H' Hs' → DkOk g H' Hs' f' → RpA K Hs' ds vs → Q' ds f' → Q vs H') ∧ dl g r f Q'
def tOfL (K : PySem.W.Frag) (dl : DTA) : TE := fun st H Q => ∃ g r f Hs Q', At K g r f st H Hs ∧ (∀ ds f' p vs H' Hs', Stp g H Hs H' Hs' → DkOk g H' Hs' f' → H p = none → Hs' p = none → H' p = some (.lst vs) → RpA K Hs' ds vs → Q' ds f' → Q (.ref p) H') ∧ dl g r f Q'
structure DE (X : Cx) (e : Expr) (dl : DT) : Prop where
  pe : PE X e (tOf X.K dl)
structure DP (X : Cx) (e : Expr) (dl : DTT) : Prop where
  pt : PT X e (tOfT X.K dl)
structure DW (X : Cx) (e : Expr) (dl : DTT) : Prop where
  pw : PW X e (tOfT X.K dl)
structure DA (X : Cx) (es : List Expr) (dl : DTA) : Prop where
  pa : PA X es (tOfA X.K dl)
structure DL' (X : Cx) (e : Expr) (dl : DTA) : Prop where
  pe : PE X e (tOfL X.K dl)
theorem DE.sn {X : Cx} {e : Expr} {dl : DT} (_ : DE X e dl) : Snd X.K (tOf X.K dl) dl := fun g r f st H Hs Q Q' a hq hd => ⟨g, r, f, Hs, Q', a, hq, hd⟩
theorem DP.sn {X : Cx} {e : Expr} {dl : DTT} (_ : DP X e dl) : SndT X.K (tOfT X.K dl) dl := fun g r f st H Hs Q Q' a hq hd => ⟨g, r, f, Hs, Q', a, hq, hd⟩
theorem DW.sn {X : Cx} {e : Expr} {dl : DTT} (_ : DW X e dl) : SndT X.K (tOfT X.K dl) dl := fun g r f st H Hs Q Q' a hq hd => ⟨g, r, f, Hs, Q', a, hq, hd⟩
theorem DA.sn {X : Cx} {es : List Expr} {dl : DTA} (_ : DA X es dl) : SndA X.K (tOfA X.K dl) dl := fun g r f st H Hs Q Q' a hq hd => ⟨g, r, f, Hs, Q', a, hq, hd⟩
theorem DL'.sn {X : Cx} {e : Expr} {dl : DTA} (_ : DL' X e dl) : SndL X.K (tOfL X.K dl) dl := fun g r f st H Hs Q Q' a hq hd => ⟨g, r, f, Hs, Q', a, hq, hd⟩
theorem DE.mk' {X : Cx} {e : Expr} {t : TE} {dl : DT} (p : PE X e t) (s : Snd X.K t dl) : DE X e dl := ⟨⟨fun pins sh st H Q I ⟨g, r, f, Hs, Q', a, hq, hd⟩ => p.run pins sh st H Q I (s g r f st H Hs Q Q' a hq hd)⟩⟩
theorem DP.mk' {X : Cx} {e : Expr} {t : TT} {dl : DTT} (p : PT X e t) (s : SndT X.K t dl) : DP X e dl := ⟨⟨fun pins sh st H Q I ⟨g, r, f, Hs, Q', a, hq, hd⟩ => p.run pins sh st H Q I (s g r f st H Hs Q Q' a hq hd)⟩⟩
theorem DW.mk' {X : Cx} {e : Expr} {t : TT} {dl : DTT} (p : PW X e t) (s : SndT X.K t dl) : DW X e dl := ⟨⟨fun whole pins sh st H Q I ⟨g, r, f, Hs, Q', a, hq, hd⟩ => p.run whole pins sh st H Q I (s g r f st H Hs Q Q' a hq hd)⟩⟩
theorem DA.mk' {X : Cx} {es : List Expr} {t : TA} {dl : DTA} (p : PA X es t) (s : SndA X.K t dl) : DA X es dl := ⟨⟨fun pos pins sh st H Q I ⟨g, r, f, Hs, Q', a, hq, hd⟩ => p.run pos pins sh st H Q I (s g r f st H Hs Q Q' a hq hd)⟩⟩
theorem DL'.mk' {X : Cx} {e : Expr} {t : TE} {dl : DTA} (p : PE X e t) (s : SndL X.K t dl) : DL' X e dl := ⟨⟨fun pins sh st H Q I ⟨g, r, f, Hs, Q', a, hq, hd⟩ => p.run pins sh st H Q I (s g r f st H Hs Q Q' a hq hd)⟩⟩
def dOfL (dl : DTA) : DT := fun g r f Q => dl g r f fun ds f' => Q (.lst ds) f'
theorem DkOk.share {g : Option Dk} {H Hs : Hp} {f : Nat} {p : Addr} {o : HO} (h : DkOk g H Hs f) (n : ¬ Dk.has g p) (hp : Hs p = none) : DkOk g H (upd Hs p o) f := by
  cases g with
  | none => trivial
  | some k =>
    obtain ⟨h0, h1, h2, h3, tb⟩ := h
    refine ⟨h0, ?_, ?_, ?_, tb.to (fun a ha u h1 h2 => ⟨h1, ?_⟩) fun b u hb _ _ => ?_⟩
    · rw [upd_ne fun e => n (.inl e.symm)]; exact h1
    · rw [upd_ne fun e => n (.inr (.inl e.symm))]; exact h2
    · rw [upd_ne fun e => n (.inr (.inr (.inl e.symm)))]; exact h3
    · rw [upd_ne fun e => n (.inr (.inr (.inr (by rw [← e]; exact ha))))]; exact h2
    · rw [upd_ne fun e => by rw [e, hp] at hb; cases hb]; exact hb
theorem DkOk.out {g : Option Dk} {H Hs : Hp} {f : Nat} {p : Addr} (h : DkOk g H Hs f) (n : H p = none) : ¬ Dk.has g p := by
  cases g with
  | none => exact id
  | some k =>
    obtain ⟨⟨_, _, _, _, _, _, h1, h2, h3, _⟩, _, _, _, tb⟩ := h
    rintro (e | e | e | e)
    · rw [e, h1] at n; cases n
    · rw [e, h2] at n; cases n
    · rw [e, h3] at n; cases n
    · obtain ⟨x, hx, rfl⟩ := List.mem_map.mp e
      obtain ⟨_, ps, e1, _⟩ := tb.at_ x hx
      rw [e1] at n; cases n
theorem DkOk.mut {g : Option Dk} {H Hs : Hp} {f : Nat} {p : Addr} {o : HO} (h : DkOk g H Hs f) (n : ¬ Dk.has g p) : DkOk g (upd H p o) Hs f := by
  cases g with
  | none => trivial
  | some k =>
    obtain ⟨⟨e1, e2, e3, n', xs, ys, h1, h2, h3, h4⟩, q1, q2, q3, tb⟩ := h
    refine ⟨⟨e1, e2, e3, n', xs, ys, ?_, ?_, ?_, h4⟩, q1, q2, q3, tb.to (fun a ha u h1 h2 => ⟨?_, h2⟩) fun b u hb _ _ => hb⟩
    · rw [upd_ne fun e => n (.inl e.symm)]; exact h1
    · rw [upd_ne fun e => n (.inr (.inl e.symm))]; exact h2
    · rw [upd_ne fun e => n (.inr (.inr (.inl e.symm)))]; exact h3
    · rw [upd_ne fun e => n (.inr (.inr (.inr (by rw [← e]; exact ha))))]; exact h1
theorem Stp.mut {g : Option Dk} {H Hs H' Hs' : Hp} {p : Addr} {o : HO} (s : Stp g H Hs H' Hs') (h0 : H p = none) (h2 : Hs' p = none) : Stp g H Hs (upd H' p o) Hs' where
  sub := fun a u h => by rw [upd_ne (ne_of_none h h2)]; exact s.sub a u h
  ext := s.ext
  keep := fun a u h n => by rw [upd_ne (ne_of_none h h0)]; exact s.keep a u h n
  there := fun a u h => by rw [upd_ne (ne_of_none h h0)]; exact s.there a u h
  new := s.new
section
variable {X : Cx} {K : PySem.W.Frag}
theorem SndL.e {t : TE} {dl : DTA} (h : SndL K t dl) : Snd K t (dOfL dl) := fun g r f st H Hs Q Q' a hq hd =>
  h g r f st H Hs Q _ a (fun ds f' p vs H' Hs' s k h0 h1 h2 hr q => hq (.lst ds) f' (.ref p) H' _ (s.share h0 h2 h1) (k.share (a.dk.out h0) h1) ⟨p, vs, rfl, upd_same, hr.mono (fun b u e => by rw [upd_ne (ne_of_none e h1)]; exact e)⟩ q) hd
theorem DL'.e {e : Expr} {dl : DTA} (h : DL' X e dl) : DE X e (dOfL dl) := .mk' (h.pe) (h.sn.e)
/-! names, constants -/
def dVar (i : Nat) : DT := fun _ r f Q => match r[i]? with
  | some s => match s.d with
    | some d => Q d f
    | none => False
  | none => False
theorem snd_var (i : Nat) : Snd K (tVar i) (dVar i) := fun g r f st H Hs Q Q' a hq hd => by
  unfold dVar at hd
  split at hd
  · next s e =>
    split at hd
    · next d e2 =>
      obtain ⟨v, h1, h2⟩ := a.sl.get i s d e e2
      exact ⟨v, h1, hq d f v H Hs (Stp.refl a.sub) a.dk h2 hd⟩
    · exact hd.elim
  · exact hd.elim
def dC (d : D) : DT := fun _ _ f Q => Q d f
theorem snd_c {d : D} {v : V} (h : ∀ H, Rp K H d v) : Snd K (tC v) (dC d) := fun g r f st H Hs Q Q' a hq hd => hq d f v H Hs (Stp.refl a.sub) a.dk (h Hs) hd
theorem de_v (i : Nat) {x : Str} {pos : Pos} (hN : X.N[i]? = some x := by rfl) (hv : Vis X.env.scope x := by first | exact Or.inl rfl | exact Or.inr (Or.inl rfl) | exact Or.inr (Or.inr rfl)) (hd : (x == ("__debug__" : Str)) = false := by decide)
    (hcd : (x == ("__classdict__" : Str)) = false := by decide) : DE X (.Name x pos) (dVar i) := .mk' (pe_var hN hv hd hcd) (snd_var i)
theorem de_int {i : Int} {j pos} : DE X (.Constant (.int i) j pos) (dC (.int i)) := .mk' (pe_int) (snd_c fun _ => rfl)
theorem de_bl {b : Bool} {j pos} : DE X (.Constant (.bool b) j pos) (dC (.bool b)) := .mk' (pe_bl) (snd_c fun _ => rfl)
theorem de_non {j pos} : DE X (.Constant .none j pos) (dC .none) := .mk' (pe_non) (snd_c fun _ => rfl)
theorem de_str {x : Str} {j pos} : DE X (.Constant (.str x) j pos) (dC (.str x)) := .mk' (pe_str) (snd_c fun _ => rfl)
theorem de_glob {x : Str} {v : V} {u : Value} {pos : Pos} {d : D} (hg : Gl X x) (hm : X.mg x = some u) (r : RelV v u) (hr : ∀ H, Rp X.K H d v) (hd : (x == ("__debug__" : Str)) = false := by decide) : DE X (.Name x pos) (dC d) := .mk' (pe_glob hg hm r hd) (snd_c hr)
theorem de_bltn {x : Str} {v : V} {u : Value} {pos : Pos} (hg : Gl X x) (hm : X.mg x = none) (hv : bootBuiltins x = some u) (r : RelV v u) (hn : x ≠ "__name__" := by decide) (hd : (x == ("__debug__" : Str)) = false := by decide) :
    DE X (.Name x pos) (dC (.any v)) := .mk' (pe_bltn hg hm hv r hn hd) (snd_c fun _ => rfl)
/-! operators by values -/
abbrev O2 := D → D → (D → Prop) → Prop
def SndR (K : PySem.W.Frag) (r : R2) (op : O2) : Prop := ∀ (H Hs : Hp) (x y : D) (vx vy : V) (Q : VK) (Q' : D → Prop), Same Hs H → Rp K Hs x vx → Rp K Hs y vy →
  (∀ z v H' Hs', Stp none H Hs H' Hs' → Rp K Hs' z v → Q' z → Q v H') → op x y Q' → r vx vy H Q
def dOp (op : O2) (a b : DT) : DT := fun g r f Q => a g r f fun x f1 => b g r f1 fun y f2 => op x y fun z => Q z f2
theorem snd_op {r : R2} {op : O2} {ta tb : TE} {a b : DT} (hr : SndR K r op) (ha : Snd K ta a) (hb : Snd K tb b) : Snd K (tOp r ta tb) (dOp op a b) := fun g ro f st H Hs Q Q' A hq hd =>
  ha g ro f st H Hs _ _ A (fun x f1 vx H1 Hs1 s1 k1 r1 q1 => hb g ro f1 st H1 Hs1 _ _ (A.step s1 k1) (fun y f2 vy H2 Hs2 s2 k2 r2 q2 =>
    hr H2 Hs2 x y vx vy Q _ s2.sub (r1.mono s2.ext) r2 (fun z v H3 Hs3 s3 r3 q3 => hq z f2 v H3 Hs3 ((s1.trans s2).trans s3.gen) (k2.stp s3) r3 q3) q2) q1) hd
theorem SndR.or {r r' : R2} {op op' : O2} (h : SndR K r op) (h' : SndR K r' op') : SndR K (fun x y H Q => r x y H Q ∨ r' x y H Q) (fun x y Q => op x y Q ∨ op' x y Q) := fun H Hs x y vx vy Q Q' s rx ry hq hd => by
  rcases hd with hd | hd
  · exact .inl (h H Hs x y vx vy Q Q' s rx ry hq hd)
  · exact .inr (h' H Hs x y vx vy Q Q' s rx ry hq hd)
theorem SndR.weak {r : R2} {op op' : O2} (h : SndR K r op) (w : ∀ x y Q, op' x y Q → op x y Q) : SndR K r op' := fun H Hs x y vx vy Q Q' s rx ry hq hd => h H Hs x y vx vy Q Q' s rx ry hq (w x y Q' hd)
theorem de_op {a b : Expr} {op : Operator} {pos : Pos} {r : R2} {o : O2} {da db : DT} (ho : OpR X (binaryOp op) r) (hr : SndR X.K r o) (ha : DE X a da) (hb : DE X b db) : DE X (.BinOp a op b pos) (dOp o da db) := .mk' (pe_op ho ha.pe hb.pe) (snd_op hr ha.sn hb.sn)
theorem de_cmp {a b : Expr} {op : CmpOp} {pos : Pos} {r : R2} {o : O2} {da db : DT} (ho : OpR X (compareOp op) r) (hr : SndR X.K r o) (ha : DE X a da) (hb : DE X b db) (hm : behindInMarks op b = false) : DE X (.Compare a [op] [b] pos) (dOp o da db) := .mk' (pe_cmpR ho ha.pe hb.pe hm) (snd_op hr ha.sn hb.sn)
def dTest (a : DT) : DTT := fun g r f Q => a g r f fun x f1 => match x with
  | .bool b => Q b f1
  | _ => False
theorem snd_test {ta : TE} {a : DT} (ha : Snd K ta a) : SndT K (tTest ta) (dTest a) := fun g ro f st H Hs Q Q' A hq hd =>
  ha g ro f st H Hs _ _ A (fun x f1 v H1 Hs1 s1 k1 r1 q1 => by
    cases x with
    | bool b => exact ⟨b, r1, hq b f1 H1 Hs1 s1 k1 q1⟩
    | _ => exact q1.elim) hd
theorem snd_B {ta : TE} {a : DT} (ha : Snd K ta a) : SndT K (tB ta) (dTest a) := fun g ro f st H Hs Q Q' A hq hd =>
  ha g ro f st H Hs _ _ A (fun x f1 v H1 Hs1 s1 k1 r1 q1 => by
    cases x with
    | bool b => exact ⟨b, r1, hq b f1 H1 Hs1 s1 k1 q1⟩
    | _ => exact q1.elim) hd
theorem dp_cmp {a b : Expr} {op : CmpOp} {pos : Pos} {r : R2} {o : O2} {da db : DT} (ho : OpR X (compareOp op) r) (hr : SndR X.K r o) (ha : DE X a da) (hb : DE X b db) (hm : behindInMarks op b = false) : DP X (.Compare a [op] [b] pos) (dTest (dOp o da db)) :=
  .mk' (pt_cmpR ho ha.pe hb.pe hm) (snd_test (snd_op hr ha.sn hb.sn))
theorem dp_val {e : Expr} {d : DT} (h : DE X e d) (he : ∀ whole, isTrue e X.env whole = (do let v ← whole; standAt e.pos; holding [v] (truthy v)) := by intro _; rfl) : DP X e (dTest d) := .mk' (pt_val h.pe he) (snd_B h.sn)
def dChain (o o' : O2) (a b c : DT) : DT := fun g r f Q => a g r f fun x f1 => b g r f1 fun y f2 => o x y fun z => match z with
  | .bool k => if k = true then c g r f2 fun w f3 => o' y w fun z' => Q z' f3 else Q (.bool false) f2
  | _ => False
end
end DL
namespace DL
open PySem PySem.Spec PyProof.Rows L2
section
variable {X : Cx} {K : PySem.W.Frag}
theorem snd_chain {r r' : R2} {o o' : O2} {ta tb tc : TE} {a b c : DT} (hr : SndR K r o) (hr' : SndR K r' o') (ha : Snd K ta a) (hb : Snd K tb b) (hc : Snd K tc c) : Snd K (tChain r r' ta tb tc) (dChain o o' a b c) := fun g ro f st H Hs Q Q' A hq hd =>
  ha g ro f st H Hs _ _ A (fun x f1 vx H1 Hs1 s1 k1 r1 q1 => hb g ro f1 st H1 Hs1 _ _ (A.step s1 k1) (fun y f2 vy H2 Hs2 s2 k2 r2 q2 =>
    hr H2 Hs2 x y vx vy _ _ s2.sub (r1.mono s2.ext) r2 (fun z v H3 Hs3 s3 r3 q3 => by
      cases z with
      | bool k =>
        refine ⟨k, r3, ?_⟩
        cases k with
        | true =>
          rw [if_pos rfl]
          replace q3 : c g ro f2 fun w f3 => o' y w fun z' => Q' z' f3 := q3
          have A3 := (A.step s1 k1).step s2 k2 |>.step s3.gen (k2.stp s3)
          exact hc g ro f2 st H3 Hs3 _ _ A3 (fun w f3 vw H4 Hs4 s4 k4 r4 q4 => hr' H4 Hs4 y w vy vw _ _ s4.sub ((r2.mono s3.ext).mono s4.ext) r4 (fun z v H5 Hs5 s5 r5 q5 =>
            hq z f3 v H5 Hs5 ((((s1.trans s2).trans s3.gen).trans s4).trans s5.gen) (k4.stp s5) r5 q5) q4) q3
        | false =>
          rw [if_neg Bool.false_ne_true]
          exact hq (.bool false) f2 (.bl false) H3 Hs3 ((s1.trans s2).trans s3.gen) (k2.stp s3) rfl q3
      | _ => exact q3.elim) q2) q1) hd
theorem de_chain {a b c : Expr} {op op' : CmpOp} {pos : Pos} {r r' : R2} {o o' : O2} {da db dc : DT} (ho : OpR X (compareOp op) r) (ho' : OpR X (compareOp op') r') (hr : SndR X.K r o) (hr' : SndR X.K r' o')
    (ha : DE X a da) (hb : DE X b db) (hc : DE X c dc) (hm : lastMarks [op, op'] [b, c] = false := by with_unfolding_all rfl) : DE X (.Compare a [op, op'] [b, c] pos) (dChain o o' da db dc) :=
  .mk' (pe_chain ho ho' ha.pe hb.pe hc.pe hm) (snd_chain hr hr' ha.sn hb.sn hc.sn)
/-! and, or, not, if -/
def dAnd (a b : DTT) : DTT := fun g r f Q => a g r f fun c f1 => if c = true then b g r f1 Q else Q false f1
def dOr (a b : DTT) : DTT := fun g r f Q => a g r f fun c f1 => if c = true then Q true f1 else b g r f1 Q
def dNot (a : DTT) : DTT := fun g r f Q => a g r f fun c f1 => Q (!c) f1
theorem snd_and {t u : TT} {a b : DTT} (ha : SndT K t a) (hb : SndT K u b) : SndT K (tAnd t u) (dAnd a b) := fun g ro f st H Hs Q Q' A hq hd =>
  ha g ro f st H Hs _ _ A (fun c f1 H1 Hs1 s1 k1 q1 => by
    cases c with
    | true => exact hb g ro f1 st H1 Hs1 _ _ (A.step s1 k1) (fun d f2 H2 Hs2 s2 k2 q2 => hq d f2 H2 Hs2 (s1.trans s2) k2 q2) q1
    | false => exact hq false f1 H1 Hs1 s1 k1 q1) hd
theorem snd_or {t u : TT} {a b : DTT} (ha : SndT K t a) (hb : SndT K u b) : SndT K (tOr t u) (dOr a b) := fun g ro f st H Hs Q Q' A hq hd =>
  ha g ro f st H Hs _ _ A (fun c f1 H1 Hs1 s1 k1 q1 => by
    cases c with
    | false => exact hb g ro f1 st H1 Hs1 _ _ (A.step s1 k1) (fun d f2 H2 Hs2 s2 k2 q2 => hq d f2 H2 Hs2 (s1.trans s2) k2 q2) q1
    | true => exact hq true f1 H1 Hs1 s1 k1 q1) hd
theorem snd_not {t : TT} {a : DTT} (ha : SndT K t a) : SndT K (tNot t) (dNot a) := fun g ro f st H Hs Q Q' A hq hd =>
  ha g ro f st H Hs _ _ A (fun c f1 H1 Hs1 s1 k1 q1 => hq (!c) f1 H1 Hs1 s1 k1 q1) hd
theorem dw_and1 {a : Expr} {pos : Pos} {d : DTT} (h : DP X a d) : DW X (.BoolOp .And [a] pos) d := .mk' (pw_and1 h.pt) (h.sn)
theorem dw_or1 {a : Expr} {pos : Pos} {d : DTT} (h : DP X a d) : DW X (.BoolOp .Or [a] pos) d := .mk' (pw_or1 h.pt) (h.sn)
theorem dw_and {a b : Expr} {rest : List Expr} {pos : Pos} {d e : DTT} (h : DP X a d) (h' : DW X (.BoolOp .And (b :: rest) pos) e) : DW X (.BoolOp .And (a :: b :: rest) pos) (dAnd d e) := .mk' (pw_and h.pt h'.pw) (snd_and h.sn h'.sn)
theorem dw_or {a b : Expr} {rest : List Expr} {pos : Pos} {d e : DTT} (h : DP X a d) (h' : DW X (.BoolOp .Or (b :: rest) pos) e) : DW X (.BoolOp .Or (a :: b :: rest) pos) (dOr d e) := .mk' (pw_or h.pt h'.pw) (snd_or h.sn h'.sn)
theorem DW.p {a : Expr} {d : DTT} (h : DW X a d) : DP X a d := .mk' (h.pw.pt) (h.sn)
theorem dp_not {a : Expr} {pos : Pos} {d : DTT} (h : DP X a d) : DP X (.UnaryOp .Not a pos) (dNot d) := .mk' (pt_not h.pt) (snd_not h.sn)
def dAndV (a b : DT) : DT := fun g r f Q => a g r f fun x f1 => match x with
  | .bool c => if c = true then b g r f1 Q else Q (.bool false) f1
  | _ => False
def dOrV (a b : DT) : DT := fun g r f Q => a g r f fun x f1 => match x with
  | .bool c => if c = true then Q (.bool true) f1 else b g r f1 Q
  | _ => False
theorem snd_andV {t u : TE} {a b : DT} (ha : Snd K t a) (hb : Snd K u b) : Snd K (tAndV t u) (dAndV a b) := fun g ro f st H Hs Q Q' A hq hd =>
  ha g ro f st H Hs _ _ A (fun x f1 v H1 Hs1 s1 k1 r1 q1 => by
    cases x with
    | bool c =>
      refine ⟨c, r1, ?_⟩
      cases c with
      | true => exact hb g ro f1 st H1 Hs1 _ _ (A.step s1 k1) (fun d f2 v H2 Hs2 s2 k2 r2 q2 => hq d f2 v H2 Hs2 (s1.trans s2) k2 r2 q2) q1
      | false => exact hq (.bool false) f1 _ H1 Hs1 s1 k1 rfl q1
    | _ => exact q1.elim) hd
theorem snd_orV {t u : TE} {a b : DT} (ha : Snd K t a) (hb : Snd K u b) : Snd K (tOrV t u) (dOrV a b) := fun g ro f st H Hs Q Q' A hq hd =>
  ha g ro f st H Hs _ _ A (fun x f1 v H1 Hs1 s1 k1 r1 q1 => by
    cases x with
    | bool c =>
      refine ⟨c, r1, ?_⟩
      cases c with
      | false => exact hb g ro f1 st H1 Hs1 _ _ (A.step s1 k1) (fun d f2 v H2 Hs2 s2 k2 r2 q2 => hq d f2 v H2 Hs2 (s1.trans s2) k2 r2 q2) q1
      | true => exact hq (.bool true) f1 _ H1 Hs1 s1 k1 rfl q1
    | _ => exact q1.elim) hd
theorem de_one {a : Expr} {op} {pos : Pos} {d : DT} (h : DE X a d) : DE X (.BoolOp op [a] pos) d := .mk' (pe_one h.pe) (h.sn)
theorem de_and {a b : Expr} {rest : List Expr} {pos : Pos} {d e : DT} (h : DE X a d) (h' : DE X (.BoolOp .And (b :: rest) pos) e) : DE X (.BoolOp .And (a :: b :: rest) pos) (dAndV d e) := .mk' (pe_and h.pe h'.pe) (snd_andV h.sn h'.sn)
theorem de_or {a b : Expr} {rest : List Expr} {pos : Pos} {d e : DT} (h : DE X a d) (h' : DE X (.BoolOp .Or (b :: rest) pos) e) : DE X (.BoolOp .Or (a :: b :: rest) pos) (dOrV d e) := .mk' (pe_or h.pe h'.pe) (snd_orV h.sn h'.sn)
def dIf (c : DTT) (a b : DT) : DT := fun g r f Q => c g r f fun k f1 => if k = true then a g r f1 Q else b g r f1 Q
theorem snd_if {tc : TT} {ta tb : TE} {c : DTT} {a b : DT} (hc : SndT K tc c) (ha : Snd K ta a) (hb : Snd K tb b) : Snd K (tIf tc ta tb) (dIf c a b) := fun g ro f st H Hs Q Q' A hq hd =>
  hc g ro f st H Hs _ _ A (fun k f1 H1 Hs1 s1 k1 q1 => by
    cases k with
    | true => exact ha g ro f1 st H1 Hs1 _ _ (A.step s1 k1) (fun d f2 v H2 Hs2 s2 k2 r2 q2 => hq d f2 v H2 Hs2 (s1.trans s2) k2 r2 q2) q1
    | false => exact hb g ro f1 st H1 Hs1 _ _ (A.step s1 k1) (fun d f2 v H2 Hs2 s2 k2 r2 q2 => hq d f2 v H2 Hs2 (s1.trans s2) k2 r2 q2) q1) hd
theorem de_ifExp {c a b : Expr} {pos : Pos} {dc : DTT} {da db : DT} (hc : DP X c dc) (ha : DE X a da) (hb : DE X b db) : DE X (.IfExp c a b pos) (dIf dc da db) := .mk' (pe_ifExp hc.pt ha.pe hb.pe) (snd_if hc.sn ha.sn hb.sn)
/-! argument lists, displays -/
def dNil : DTA := fun _ _ f Q => Q [] f
def dCons (a : DT) (t : DTA) : DTA := fun g r f Q => a g r f fun x f1 => t g r f1 fun xs f2 => Q (x :: xs) f2
theorem snd_nil : SndA K tNil dNil := fun g ro f st H Hs Q Q' A hq hd => hq [] f [] H Hs (Stp.refl A.sub) A.dk rfl hd
theorem snd_cons {ta : TE} {t : TA} {a : DT} {d : DTA} (ha : Snd K ta a) (ht : SndA K t d) : SndA K (tCons ta t) (dCons a d) := fun g ro f st H Hs Q Q' A hq hd =>
  ha g ro f st H Hs _ _ A (fun x f1 v H1 Hs1 s1 k1 r1 q1 => ht g ro f1 st H1 Hs1 _ _ (A.step s1 k1) (fun ds f2 vs H2 Hs2 s2 k2 r2 q2 =>
    hq (x :: ds) f2 (v :: vs) H2 Hs2 (s1.trans s2) k2 ⟨v, vs, rfl, r1.mono s2.ext, r2⟩ q2) q1) hd
theorem da_nil : DA X [] dNil := .mk' (pa_nil) (snd_nil)
theorem da_cons {e : Expr} {es : List Expr} {d : DT} {dl : DTA} (h : DE X e d) (h' : DA X es dl) (hs : starEach (e :: es) X.env = (false, eval e X.env) :: starEach es X.env := by rfl) : DA X (e :: es) (dCons d dl) := .mk' (pa_cons h.pe h'.pa hs) (snd_cons h.sn h'.sn)
def lim : Nat := 1000000
theorem lim_le {n : Nat} (h : n ≤ lim) : n ≤ sizeLine := Nat.le_trans h (by decide)
theorem lim_lt {n : Nat} (h : n ≤ lim) : n < sizeLine := Nat.lt_of_le_of_lt h (by decide)
def dTup (t : DTA) : DT := fun g r f Q => t g r f fun ds f1 => ds.length ≤ lim ∧ Q (.tup ds) f1
theorem RpA.le {H : Hp} {ds : List D} {vs : List V} (h : RpA K H ds vs) (l : ds.length ≤ lim) : vs.length ≤ sizeLine := by rw [← h.length]; exact lim_le l
theorem RpA.lt {H : Hp} {ds : List D} {vs : List V} (h : RpA K H ds vs) (l : ds.length ≤ lim) : vs.length < sizeLine := by rw [← h.length]; exact lim_lt l
theorem rp_tup {H : Hp} {p : Addr} {ds : List D} {vs : List V} (hr : RpA K H ds vs) (hn : H p = none) : Rp K (upd H p (.tup vs)) (.tup ds) (.ref p) :=
  ⟨p, vs, rfl, upd_same, hr.mono fun b u e => by rw [upd_ne (ne_of_none e hn)]; exact e⟩
theorem rp_lst {H : Hp} {p : Addr} {ds : List D} {vs : List V} (hr : RpA K H ds vs) (hn : H p = none) : Rp K (upd H p (.lst vs)) (.lst ds) (.ref p) :=
  ⟨p, vs, rfl, upd_same, hr.mono fun b u e => by rw [upd_ne (ne_of_none e hn)]; exact e⟩
theorem same_none {H Hs : Hp} {p : Addr} (s : Same Hs H) (h : H p = none) : Hs p = none := by
  cases e : Hs p with
  | none => rfl
  | some o => rw [s p o e] at h; cases h
theorem snd_tup {t : TA} {d : DTA} (h : SndA K t d) : Snd K (tTup t) (dTup d) := fun g ro f st H Hs Q Q' A hq hd =>
  h g ro f st H Hs _ _ A (fun ds f1 vs H1 Hs1 s1 k1 r1 q1 => ⟨r1.le q1.1, fun p hp => by
    have al : Stp none H1 Hs1 (upd H1 p (.tup vs)) (upd Hs1 p (.tup vs)) := Stp.alloc s1.sub hp
    exact hq (.tup ds) f1 (.ref p) _ _ (s1.trans al.gen) (k1.stp al) (rp_tup r1 (same_none s1.sub hp)) q1.2⟩) hd
theorem de_tup {es : List Expr} {x1} {pos : Pos} {d : DTA} (h : DA X es d) : DE X (.Tuple es x1 pos) (dTup d) := .mk' (pe_tup h.pa) (snd_tup h.sn)
def dLst (t : DTA) : DTA := fun g r f Q => t g r f fun ds f1 => ds.length ≤ lim ∧ Q ds f1
theorem snd_lst {t : TA} {d : DTA} (h : SndA K t d) : SndL K (tLst t) (dLst d) := fun g ro f st H Hs Q Q' A hq hd =>
  h g ro f st H Hs _ _ A (fun ds f1 vs H1 Hs1 s1 k1 r1 q1 => ⟨r1.le q1.1, fun p hp => by
    have al : Stp none H1 Hs1 (upd H1 p (.lst vs)) Hs1 := Stp.lay s1.sub hp
    refine hq ds f1 p vs _ _ (s1.trans al.gen) (k1.stp al) ?_ (same_none s1.sub hp) upd_same r1 q1.2
    cases e : H p with
    | none => rfl
    | some o =>
      obtain ⟨o', e'⟩ := s1.there p o e
      rw [e'] at hp; cases hp⟩) hd
theorem dl_lst {es : List Expr} {pos : Pos} {d : DTA} (h : DA X es d) : DL' X (.List es pos) (dLst d) := .mk' (pe_lst h.pa) (snd_lst h.sn)
/-! plain results -/
theorem SndR.pure {r : R2} {op : O2} (h : ∀ H Hs x y vx vy (Q : VK) (Q' : D → Prop), Same Hs H → Rp K Hs x vx → Rp K Hs y vy → (∀ z v, Rp K Hs z v → Q' z → Q v H) → op x y Q' → r vx vy H Q) : SndR K r op := fun H Hs x y vx vy Q Q' s rx ry hq hd =>
  h H Hs x y vx vy Q Q' s rx ry (fun z v rz q => hq z v H Hs (Stp.refl s) rz q) hd
def oI0 (g : Int → Int → D) : O2 := fun x y Q => match x, y with
  | .int i, .int j => Q (g i j)
  | _, _ => False
def oI (C : Int → Int → Prop) (g : Int → Int → D) : O2 := fun x y Q => match x, y with
  | .int i, .int j => C i j ∧ Q (g i j)
  | _, _ => False
theorem sr_I0 {g : Int → Int → V} {g' : Int → Int → D} (hg : ∀ i j H, Rp K H (g' i j) (g i j)) : SndR K (rI0 g) (oI0 g') := SndR.pure fun H Hs x y vx vy Q Q' s rx ry hq hd => by
  cases x <;> try exact hd.elim
  cases y <;> try exact hd.elim
  exact ⟨_, _, rx, ry, hq _ _ (hg _ _ _) hd⟩
theorem sr_I {C : Int → Int → Prop} {g : Int → Int → V} {g' : Int → Int → D} (hg : ∀ i j H, Rp K H (g' i j) (g i j)) : SndR K (rI C g) (oI C g') := SndR.pure fun H Hs x y vx vy Q Q' s rx ry hq hd => by
  cases x <;> try exact hd.elim
  cases y <;> try exact hd.elim
  exact ⟨_, _, rx, ry, hd.1, hq _ _ (hg _ _ _) hd.2⟩
def oAddS : O2 := fun x y Q => match x, y with
  | .str i, .str j => i.length + j.length ≤ lim ∧ Q (.str (i ++ j))
  | _, _ => False
theorem sr_addS : SndR K (fun x y H Q => ∃ i j, x = .str i ∧ y = .str j ∧ i.length + j.length ≤ sizeLine ∧ Q (.str (i ++ j)) H) oAddS := SndR.pure fun H Hs x y vx vy Q Q' s rx ry hq hd => by
  cases x <;> try exact hd.elim
  cases y <;> try exact hd.elim
  exact ⟨_, _, rx, ry, lim_le hd.1, hq (.str _) _ rfl hd.2⟩
def oCat : O2 := fun x y Q => match x, y with
  | .lst i, .lst j => i.length + j.length ≤ lim ∧ Q (.lst (i ++ j))
  | _, _ => False
theorem sr_cat : SndR K rCat oCat := fun H Hs x y vx vy Q Q' s rx ry hq hd => by
  cases x <;> try exact hd.elim
  cases y <;> try exact hd.elim
  obtain ⟨a, vs, rfl, h1, h2⟩ := rx
  obtain ⟨b, ws, rfl, h3, h4⟩ := ry
  refine ⟨a, b, vs, ws, rfl, rfl, s _ _ h1, s _ _ h3, ?_, fun p hp => ?_⟩
  · rw [← h2.length, ← h4.length]; exact lim_le hd.1
  · exact hq _ _ _ _ (Stp.alloc s hp) (rp_lst (h2.append h4) (same_none s hp)) hd.2
def oCatT : O2 := fun x y Q => match x, y with
  | .tup i, .tup j => i.length + j.length ≤ lim ∧ Q (.tup (i ++ j))
  | _, _ => False
theorem sr_catT : SndR K (rCatA K) oCatT := fun H Hs x y vx vy Q Q' s rx ry hq hd => by
  cases x <;> try exact hd.elim
  cases y <;> try exact hd.elim
  obtain ⟨a, vs, rfl, h1, h2⟩ := rx
  obtain ⟨b, ws, rfl, h3, h4⟩ := ry
  refine ⟨a, b, vs, ws, rfl, rfl, (tp_sq s h1), (tp_sq s h3), ?_, fun e => ?_, fun _ e => ?_, fun _ _ p hp => ?_⟩
  · rw [← h2.length, ← h4.length]; exact lim_le hd.1
  · have := h2.append h4
    rw [e] at this
    exact hq (.tup _) _ _ _ (Stp.refl s) ⟨b, ws, rfl, h3, this⟩ hd.2
  · have := h2.append h4
    rw [e, List.append_nil] at this
    exact hq (.tup _) _ _ _ (Stp.refl s) ⟨a, vs, rfl, h1, this⟩ hd.2
  · exact hq _ _ _ _ (Stp.alloc s hp) (rp_tup (h2.append h4) (same_none s hp)) hd.2
/-- x + y of any of the four kinds -/
def oAdd : O2 := fun x y Q => match x, y with
  | .int i, .int j => Q (.int (i + j))
  | .str i, .str j => i.length + j.length ≤ lim ∧ Q (.str (i ++ j))
  | .lst i, .lst j => i.length + j.length ≤ lim ∧ Q (.lst (i ++ j))
  | .tup i, .tup j => i.length + j.length ≤ lim ∧ Q (.tup (i ++ j))
  | _, _ => False
def rAddA (K : PySem.W.Frag) : R2 := fun x y H Q => rI0 (fun i j => .int (i + j)) x y H Q ∨ ((∃ i j, x = .str i ∧ y = .str j ∧ i.length + j.length ≤ sizeLine ∧ Q (.str (i ++ j)) H) ∨ (rCat x y H Q ∨ rCatA K x y H Q))
theorem op_addA : OpR X (binaryOp .Add) (rAddA X.K) := op_add.or (op_add_str.or (op_cat.or op_catA))
theorem sr_add : SndR K (rAddA K) oAdd := ((sr_I0 (g' := fun i j => .int (i + j)) fun _ _ _ => rfl).or (sr_addS.or (sr_cat.or sr_catT))).weak fun x y Q h => by
  cases x <;> cases y <;> first | exact h.elim | exact .inl h | exact .inr (.inl h) | exact .inr (.inr (.inl h)) | exact .inr (.inr (.inr h))
theorem de_add {a b : Expr} {pos : Pos} {da db : DT} (ha : DE X a da) (hb : DE X b db) : DE X (.BinOp a .Add b pos) (dOp oAdd da db) := de_op op_addA sr_add ha hb
theorem de_sub {a b : Expr} {pos : Pos} {da db : DT} (ha : DE X a da) (hb : DE X b db) : DE X (.BinOp a .Sub b pos) (dOp (oI0 fun i j => .int (i - j)) da db) := de_op op_sub (sr_I0 fun _ _ _ => rfl) ha hb
theorem de_mul {a b : Expr} {pos : Pos} {da db : DT} (ha : DE X a da) (hb : DE X b db) : DE X (.BinOp a .Mult b pos) (dOp (oI CMul fun i j => .int (i * j)) da db) := de_op op_mul (sr_I fun _ _ _ => rfl) ha hb
theorem de_mod {a b : Expr} {pos : Pos} {da db : DT} (ha : DE X a da) (hb : DE X b db) : DE X (.BinOp a .Mod b pos) (dOp (oI (fun _ j => 0 < j) fun i j => .int (i % j)) da db) := de_op op_mod (sr_I fun _ _ _ => rfl) ha hb
theorem de_fdiv {a b : Expr} {pos : Pos} {da db : DT} (ha : DE X a da) (hb : DE X b db) : DE X (.BinOp a .FloorDiv b pos) (dOp (oI CDiv fun i j => .int (i / j)) da db) := de_op op_fdiv (sr_I fun _ _ _ => rfl) ha hb
def dNeg (a : DT) : DT := fun g r f Q => a g r f fun x f1 => match x with
  | .int i => Q (.int (-i)) f1
  | _ => False
theorem de_neg {a : Expr} {pos : Pos} {d : DT} (h : DE X a d) : DE X (.UnaryOp .USub a pos) (dNeg d) := .mk' (pe_un un_neg h.pe) (fun g ro f st H Hs Q Q' A hq hd =>
  h.sn g ro f st H Hs _ _ A (fun x f1 v H1 Hs1 s1 k1 r1 q1 => by
    cases x <;> try exact q1.elim
    exact ⟨_, r1, hq (.int (-_)) f1 _ H1 Hs1 s1 k1 rfl q1⟩) hd)
/-! == and != -/
mutual
def D.py : D → PyData
  | .none => .none
  | .bool b => .bool b
  | .int i => .int i
  | .str x => .str x
  | .tup ds => .tuple (pyA ds)
  | .lst ds => .list (pyA ds)
  | .dct _ _ => .dict []
  | .dtt _ _ => .dict []
  | .ktup _ => .dict []
  | .ftp ds => .tuple (pyA ds)
  | .obj _ _ _ => .dict []
  | .exn _ _ _ => .dict []
  | .any _ => .dict []
def pyA : List D → List PyData
  | [] => []
  | d :: ds => d.py :: pyA ds
end
mutual
theorem Rp.dp {H : Hp} : ∀ (d : D) (v : V), Rp K H d v → d.py.canLay0 = true → Dp K H v d.py
  | .none, _, h, _ => by cases h; exact .non
  | .bool _, _, h, _ => by cases h; exact .bl _
  | .int _, _, h, _ => by cases h; exact .int _
  | .str _, _, h, _ => by cases h; exact .str _
  | .tup ds, _, ⟨a, vs, h1, h2, h3⟩, c => by cases h1; exact .tup h2.sq (RpA.dp ds vs h3 c)
  | .lst ds, _, ⟨a, vs, h1, h2, h3⟩, c => by cases h1; exact .lst (SqL.of h2) (RpA.dp ds vs h3 c)
  | .dct _ _, _, _, c => by simp [D.py, PyData.canLay0] at c
  | .dtt _ _, _, _, c => by simp [D.py, PyData.canLay0] at c
  | .ktup _, _, _, c => by simp [D.py, PyData.canLay0] at c
  | .ftp ds, _, ⟨a, vs, h1, h2, h3⟩, c => by cases h1; exact .tup h2.sq (RpA.dp ds vs h3 c)
  | .obj _ _ _, _, _, c => by simp [D.py, PyData.canLay0] at c
  | .exn _ _ _, _, _, c => by simp [D.py, PyData.canLay0] at c
  | .any _, _, _, c => by simp [D.py, PyData.canLay0] at c
theorem RpA.dp {H : Hp} : ∀ (ds : List D) (vs : List V), RpA K H ds vs → PyData.canLayAll0 (pyA ds) = true → DpAll K H vs (pyA ds)
  | [], _, h, _ => by cases h; exact .nil
  | d :: ds, _, ⟨v, r, h1, h2, h3⟩, c => by
    have c' : d.py.canLay0 = true ∧ PyData.canLayAll0 (pyA ds) = true := Bool.and_eq_true_iff.mp c
    cases h1
    exact .cons (Rp.dp d v h2 c'.1) (RpA.dp ds r h3 c'.2)
end
theorem Rp.dpS {H : Hp} {d : D} {v : V} (h : Rp K H d v) (c : SeqAt.shaped d.py = true) : Dp K H v d.py := h.dp d v (Bool.and_eq_true_iff.mp c).1
theorem dp_mono {H H' : Hp} (e : Same H H') {v : V} {d : PyData} (h : Dp K H v d) : Dp K H' v d := by
  refine Dp.rec (motive_1 := fun v d _ => Dp K H' v d) (motive_2 := fun vs ds _ => DpAll K H' vs ds) .non .bl .int .str ?_ ?_ .nil ?_ h
  · intro a xs ds h1 _ h2; exact .lst (e.seq h1) h2
  · intro a xs ds h1 _ h2; exact .tup (sqT_mono e h1) h2
  · intro v vs d ds _ _ h1 h2; exact .cons h1 h2
def xb (neg b : Bool) : Bool := match neg with
  | true => !b
  | false => b
def seq : D → D → Option Bool
  | .none, .none => some true
  | .none, .int _ => some false
  | .none, .bool _ => some false
  | .none, .str _ => some false
  | .int _, .none => some false
  | .bool _, .none => some false
  | .str _, .none => some false
  | .int a, .int b => some (decide (a = b))
  | .bool a, .bool b => some (decide (a = b))
  | .str a, .str b => some (decide (a = b))
  | .int _, .str _ => some false
  | .str _, .int _ => some false
  | .bool _, .str _ => some false
  | .str _, .bool _ => some false
  | _, _ => Option.none
def oEq (neg : Bool) : O2 := fun x y Q => match seq x y with
  | some b => Q (.bool (xb neg b))
  | Option.none => SeqAt.shaped x.py = true ∧ SeqAt.shaped y.py = true ∧ Q (.bool (xb neg (PyData.eqv x.py y.py)))
theorem seq_eqv : ∀ (x y : D) (b : Bool), seq x y = some b → PyData.eqv x.py y.py = b := by
  have es : ∀ a b : Str, (a == b) = decide (a = b) := fun a b => Bool.beq_eq_decide_eq a b
  intro x y b h
  cases x <;> cases y <;> simp only [seq, Option.some.injEq, reduceCtorEq] at h <;> subst h <;> simp [D.py, PyData.eqv]
  all_goals first | exact es _ _ | exact Bool.beq_eq_decide_eq _ _
theorem oEq_data {x y : D} {neg : Bool} {Q : D → Prop} (hx : SeqAt.shaped x.py = true) (hy : SeqAt.shaped y.py = true) (h : Q (.bool (xb neg (PyData.eqv x.py y.py)))) : oEq neg x y Q := by
  unfold oEq
  split
  · next b e => rw [seq_eqv x y b e] at h; exact h
  · exact ⟨hx, hy, h⟩
theorem sr_eqD : SndR K (rEqD K) (fun x y Q => SeqAt.shaped x.py = true ∧ SeqAt.shaped y.py = true ∧ Q (.bool (PyData.eqv x.py y.py))) := SndR.pure fun H Hs x y vx vy Q Q' s rx ry hq hd =>
  ⟨x.py, y.py, dp_mono s (rx.dpS hd.1), dp_mono s (ry.dpS hd.2.1), hd.1, hd.2.1, hq (.bool _) _ rfl hd.2.2⟩
theorem sr_neD : SndR K (rNeD K) (fun x y Q => SeqAt.shaped x.py = true ∧ SeqAt.shaped y.py = true ∧ Q (.bool (!PyData.eqv x.py y.py))) := SndR.pure fun H Hs x y vx vy Q Q' s rx ry hq hd =>
  ⟨x.py, y.py, dp_mono s (rx.dpS hd.1), dp_mono s (ry.dpS hd.2.1), hd.1, hd.2.1, hq (.bool _) _ rfl hd.2.2⟩
theorem seq_V {H : Hp} : ∀ (x y : D) (vx vy : V) (b : Bool), Rp K H x vx → Rp K H y vy → seq x y = some b → scal vx vy = true ∧ decide (vx = vy) = b := by
  intro x y vx vy b rx ry h
  cases x <;> cases y <;> simp only [seq, Option.some.injEq, reduceCtorEq] at h <;> subst h <;> cases rx <;> cases ry <;> simp [scal]
theorem sr_eqS : SndR K rEq (fun x y Q => ∃ b, seq x y = some b ∧ Q (.bool b)) := SndR.pure fun H Hs x y vx vy Q Q' s rx ry hq hd => by
  obtain ⟨b, e, h⟩ := hd
  obtain ⟨h1, h2⟩ := seq_V x y vx vy b rx ry e
  exact ⟨h1, hq (.bool b) _ (by rw [h2]; rfl) h⟩
theorem sr_neS : SndR K rNe (fun x y Q => ∃ b, seq x y = some b ∧ Q (.bool (!b))) := SndR.pure fun H Hs x y vx vy Q Q' s rx ry hq hd => by
  obtain ⟨b, e, h⟩ := hd
  obtain ⟨h1, h2⟩ := seq_V x y vx vy b rx ry e
  exact ⟨h1, hq (.bool (!b)) _ (by rw [h2]; rfl) h⟩
def rEqA (K : PySem.W.Frag) : R2 := fun x y H Q => rEq x y H Q ∨ rEqD K x y H Q
def rNeA (K : PySem.W.Frag) : R2 := fun x y H Q => rNe x y H Q ∨ rNeD K x y H Q
theorem sr_eq : SndR K (rEqA K) (oEq false) := (sr_eqS.or sr_eqD).weak fun x y Q h => by
  unfold oEq at h
  simp only [xb] at h
  split at h
  · next b e => exact .inl ⟨b, e, h⟩
  · exact .inr h
theorem sr_ne : SndR K (rNeA K) (oEq true) := (sr_neS.or sr_neD).weak fun x y Q h => by
  unfold oEq at h
  simp only [xb] at h
  split at h
  · next b e => exact .inl ⟨b, e, h⟩
  · exact .inr h
theorem de_eq {a b : Expr} {pos : Pos} {da db : DT} (hu : X.A.units + 64 < cLine) (ha : DE X a da) (hb : DE X b db) : DE X (.Compare a [.Eq] [b] pos) (dOp (oEq false) da db) := de_cmp (op_eq.or (op_eqD hu)) sr_eq ha hb (nomark _)
theorem de_ne {a b : Expr} {pos : Pos} {da db : DT} (hu : X.A.units + 64 < cLine) (ha : DE X a da) (hb : DE X b db) : DE X (.Compare a [.NotEq] [b] pos) (dOp (oEq true) da db) := de_cmp (op_ne.or (op_neD hu)) sr_ne ha hb (nomark _)
theorem dp_eq {a b : Expr} {pos : Pos} {da db : DT} (hu : X.A.units + 64 < cLine) (ha : DE X a da) (hb : DE X b db) : DP X (.Compare a [.Eq] [b] pos) (dTest (dOp (oEq false) da db)) := dp_cmp (op_eq.or (op_eqD hu)) sr_eq ha hb (nomark _)
theorem dp_ne {a b : Expr} {pos : Pos} {da db : DT} (hu : X.A.units + 64 < cLine) (ha : DE X a da) (hb : DE X b db) : DP X (.Compare a [.NotEq] [b] pos) (dTest (dOp (oEq true) da db)) := dp_cmp (op_ne.or (op_neD hu)) sr_ne ha hb (nomark _)
/-! < <= > >= of numbers -/
theorem de_le {a b : Expr} {pos : Pos} {da db : DT} (ha : DE X a da) (hb : DE X b db) : DE X (.Compare a [.LtE] [b] pos) (dOp (oI0 fun i j => .bool (decide (i ≤ j))) da db) := de_cmp op_le (sr_I0 fun _ _ _ => rfl) ha hb (nomark _)
theorem dp_lt {a b : Expr} {pos : Pos} {da db : DT} (ha : DE X a da) (hb : DE X b db) : DP X (.Compare a [.Lt] [b] pos) (dTest (dOp (oI0 fun i j => .bool (decide (i < j))) da db)) := dp_cmp op_lt (sr_I0 fun _ _ _ => rfl) ha hb (nomark _)
theorem dp_gt {a b : Expr} {pos : Pos} {da db : DT} (ha : DE X a da) (hb : DE X b db) : DP X (.Compare a [.Gt] [b] pos) (dTest (dOp (oI0 fun i j => .bool (decide (j < i))) da db)) := dp_cmp op_gt (sr_I0 fun _ _ _ => rfl) ha hb (nomark _)
/-- a <= b <= c of numbers -/
theorem de_lele {a b c : Expr} {pos : Pos} {da db dc : DT} (ha : DE X a da) (hb : DE X b db) (hc : DE X c dc) (hm : lastMarks [CmpOp.LtE, CmpOp.LtE] [b, c] = false := by with_unfolding_all rfl) : DE X (.Compare a [.LtE, .LtE] [b, c] pos) (dChain (oI0 fun i j => .bool (decide (i ≤ j))) (oI0 fun i j => .bool (decide (i ≤ j))) da db dc) := de_chain op_le op_le (sr_I0 fun _ _ _ => rfl) (sr_I0 fun _ _ _ => rfl) ha hb hc hm
/-! is None -/
def D.isN : D → Bool
  | .none => true
  | .any v => decide (v = .non)
  | _ => false
def oIsN (neg : Bool) : O2 := fun x y Q => match y with
  | .none => Q (.bool (xb neg x.isN))
  | _ => False
theorem isN_V {H : Hp} : ∀ (x : D) (v : V), Rp K H x v → decide (v = .non) = x.isN := by
  intro x v h
  cases x <;> try (cases h; rfl)
  · obtain ⟨a, vs, rfl, _⟩ := h; rfl
  · obtain ⟨a, vs, rfl, _⟩ := h; rfl
  · obtain ⟨a, vs, rfl, _⟩ := h; rfl
  · obtain ⟨a, vs, rfl, _⟩ := h; rfl
  · obtain ⟨a, rfl, _⟩ := h; rfl
  · obtain ⟨a, vs, rfl, _⟩ := h; rfl
  · obtain ⟨C, a, dx, vs, _, rfl, _⟩ := h; rfl
  · obtain ⟨C, a, dx, vs, _, rfl, _⟩ := h; rfl
theorem sr_isN : SndR K (fun x y H Q => y = .non ∧ Q (.bl (decide (x = .non))) H) (oIsN false) := SndR.pure fun H Hs x y vx vy Q Q' s rx ry hq hd => by
  cases y <;> try exact hd.elim
  refine ⟨ry, ?_⟩
  rw [isN_V _ _ rx]
  exact hq (.bool _) _ rfl (by simpa [oIsN, xb] using hd)
theorem sr_notN : SndR K (fun x y H Q => y = .non ∧ Q (.bl (!decide (x = .non))) H) (oIsN true) := SndR.pure fun H Hs x y vx vy Q Q' s rx ry hq hd => by
  cases y <;> try exact hd.elim
  refine ⟨ry, ?_⟩
  rw [isN_V _ _ rx]
  exact hq (.bool _) _ rfl (by simpa [oIsN, xb] using hd)
theorem dp_isN {a b : Expr} {pos : Pos} {da db : DT} (ha : DE X a da) (hb : DE X b db) : DP X (.Compare a [.Is] [b] pos) (dTest (dOp (oIsN false) da db)) := dp_cmp op_isN sr_isN ha hb (nomark _)
theorem dp_notN {a b : Expr} {pos : Pos} {da db : DT} (ha : DE X a da) (hb : DE X b db) : DP X (.Compare a [.IsNot] [b] pos) (dTest (dOp (oIsN true) da db)) := dp_cmp op_notN sr_notN ha hb (nomark _)
end
end DL
namespace DL
open PySem PySem.Spec PyProof.Rows L2
section
variable {X : Cx} {K : PySem.W.Frag}
/-! calls of built-ins by values -/
abbrev OA := List D → (D → Prop) → Prop
def SndC (K : PySem.W.Frag) (r : List V → Hp → VK → Prop) (op : OA) : Prop := ∀ (H Hs : Hp) (ds : List D) (vs : List V) (Q : VK) (Q' : D → Prop), Same Hs H → RpA K Hs ds vs →
  (∀ z v H' Hs', Stp none H Hs H' Hs' → Rp K Hs' z v → Q' z → Q v H') → op ds Q' → r vs H Q
def dCB (op : OA) (t : DTA) : DT := fun g r f Q => t g r f fun ds f1 => op ds fun z => Q z f1
theorem snd_cb {r : List V → Hp → VK → Prop} {op : OA} {t : TA} {d : DTA} (hr : SndC K r op) (ht : SndA K t d) : Snd K (tCB r t) (dCB op d) := fun g ro f st H Hs Q Q' A hq hd =>
  ht g ro f st H Hs _ _ A (fun ds f1 vs H1 Hs1 s1 k1 r1 q1 => hr H1 Hs1 ds vs Q _ s1.sub r1 (fun z v H2 Hs2 s2 r2 q2 => hq z f1 v H2 Hs2 (s1.trans s2.gen) (k1.stp s2) r2 q2) q1) hd
theorem SndC.or {r r' : List V → Hp → VK → Prop} {op op' : OA} (h : SndC K r op) (h' : SndC K r' op') : SndC K (fun xs H Q => r xs H Q ∨ r' xs H Q) (fun xs Q => op xs Q ∨ op' xs Q) := fun H Hs ds vs Q Q' s rx hq hd => by
  rcases hd with hd | hd
  · exact .inl (h H Hs ds vs Q Q' s rx hq hd)
  · exact .inr (h' H Hs ds vs Q Q' s rx hq hd)
theorem SndC.weak {r : List V → Hp → VK → Prop} {op op' : OA} (h : SndC K r op) (w : ∀ ds Q, op' ds Q → op ds Q) : SndC K r op' := fun H Hs ds vs Q Q' s rx hq hd => h H Hs ds vs Q Q' s rx hq (w ds Q' hd)
theorem SndC.pure {r : List V → Hp → VK → Prop} {op : OA} (h : ∀ H Hs ds vs (Q : VK) (Q' : D → Prop), Same Hs H → RpA K Hs ds vs → (∀ z v, Rp K Hs z v → Q' z → Q v H) → op ds Q' → r vs H Q) : SndC K r op := fun H Hs ds vs Q Q' s rx hq hd =>
  h H Hs ds vs Q Q' s rx (fun z v rz q => hq z v H Hs (Stp.refl s) rz q) hd
theorem de_callB {x : Str} {id : String} {p pos : Pos} {e : Expr} {es : List Expr} {d : DTA} {r : List V → Hp → VK → Prop} {op : OA} (hc : CallR X (.builtin id) r) (hr : SndC X.K r op) (hg : Gl X x) (hm : X.mg x = none) (hv : bootBuiltins x = some (.builtin id)) (ha : DA X (e :: es) d)
    (hn : x ≠ "__name__" := by decide) (hdb : (x == ("__debug__" : Str)) = false := by decide) (hs : starEach (e :: es) X.env = (false, eval e X.env) :: starEach es X.env := by rfl)
    (hpl : (backTo pos (starEach es X.env)).any (·.1) = false := by rfl) : DE X (.Call (.Name x p) (e :: es) [] pos) (dCB op d) :=
  .mk' (pe_callB hc hg hm hv ha.pa hn hdb hs hpl) (snd_cb hr ha.sn)
theorem de_callTy {x : Str} {T : String} {p pos : Pos} {e : Expr} {es : List Expr} {d : DTA} {r : List V → Hp → VK → Prop} {op : OA} (hc : CallR X (.type T) r) (hr : SndC X.K r op) (hg : Gl X x) (hm : X.mg x = none) (hv : bootBuiltins x = some (.type T)) (ha : DA X (e :: es) d)
    (hn : x ≠ "__name__" := by decide) (hdb : (x == ("__debug__" : Str)) = false := by decide) (hs : starEach (e :: es) X.env = (false, eval e X.env) :: starEach es X.env := by rfl)
    (hpl : (backTo pos (starEach es X.env)).any (·.1) = false := by rfl) : DE X (.Call (.Name x p) (e :: es) [] pos) (dCB op d) :=
  .mk' (pe_callTy hc hg hm hv ha.pa hn hdb hs hpl) (snd_cb hr ha.sn)
/-- len -/
def oLen : OA := fun ds Q => match ds with
  | [.str x] => x.length ≤ lim ∧ Q (.int x.length)
  | [.lst xs] => Q (.int xs.length)
  | [.tup xs] => Q (.int xs.length)
  | [.ktup xs] => Q (.int xs.length)
  | [.ftp xs] => Q (.int xs.length)
  | _ => False
theorem rpA1 {H : Hp} {d : D} {vs : List V} (h : RpA K H [d] vs) : ∃ v, vs = [v] ∧ Rp K H d v := by
  obtain ⟨v, r, h1, h2, h3⟩ := h
  cases h3
  exact ⟨v, h1, h2⟩
theorem rpA2 {H : Hp} {d e : D} {vs : List V} (h : RpA K H [d, e] vs) : ∃ v w, vs = [v, w] ∧ Rp K H d v ∧ Rp K H e w := by
  obtain ⟨v, r, h1, h2, h3⟩ := h
  obtain ⟨w, rfl, h4⟩ := rpA1 h3
  exact ⟨v, w, h1, h2, h4⟩
theorem sc_len : SndC K (fun xs H Q => ∃ x n, xs = [x] ∧ LenV K x H n ∧ Q (.int n) H) oLen := SndC.pure fun H Hs ds vs Q Q' s rx hq hd => by
  unfold oLen at hd
  split at hd
  · obtain ⟨v, rfl, h⟩ := rpA1 rx
    cases h
    exact ⟨_, _, rfl, ⟨lim_le hd.1, rfl⟩, hq (.int _) _ rfl hd.2⟩
  · obtain ⟨v, rfl, a, vs, rfl, h1, h2⟩ := rpA1 rx
    exact ⟨_, _, rfl, .inl ⟨vs, SqL.of (s _ _ h1), rfl⟩, hq (.int _) _ (by rw [h2.length]; rfl) hd⟩
  · obtain ⟨v, rfl, a, vs, rfl, h1, h2⟩ := rpA1 rx
    exact ⟨_, _, rfl, .inr ⟨vs, (tp_sq s h1), rfl⟩, hq (.int _) _ (by rw [h2.length]; rfl) hd⟩
  · obtain ⟨v, rfl, a, rfl, h1⟩ := rpA1 rx
    exact ⟨_, _, rfl, .inr ⟨_, h1.sq _, rfl⟩, hq (.int _) _ (by rw [List.length_map]; rfl) hd⟩
  · obtain ⟨v, rfl, a, vs, rfl, h1, h2⟩ := rpA1 rx
    exact ⟨_, _, rfl, .inr ⟨vs, (h1.mono s).sq, rfl⟩, hq (.int _) _ (by rw [h2.length]; rfl) hd⟩
  · exact hd.elim
theorem de_len {p pos : Pos} {e : Expr} {d : DTA} (hm : X.mg "len" = none) (ha : DA X [e] d) (hg : Gl X "len" := by rfl) (hs : starEach [e] X.env = [(false, eval e X.env)] := by rfl) : DE X (.Call (.Name "len" p) [e] [] pos) (dCB oLen d) :=
  de_callB call_len sc_len hg hm PySem.boot_len ha (by decide) (by decide) hs (by rfl)
/-- all, any -/
def oAll (all : Bool) : OA := fun ds Q => match ds with
  | [.lst xs] => ∃ bs : List Bool, xs = bs.map D.bool ∧ Q (.bool (if all then bs.all id else bs.any id))
  | _ => False
theorem sc_all : SndC K (rAll K) (oAll true) := SndC.pure fun H Hs ds vs Q Q' s rx hq hd => by
  unfold oAll at hd
  split at hd
  · obtain ⟨bs, rfl, q⟩ := hd
    obtain ⟨v, rfl, a, vs, rfl, h1, h2⟩ := rpA1 rx
    have e := h2.bools
    subst e
    exact ⟨a, bs, rfl, SqL.of (s _ _ h1), hq (.bool _) _ rfl q⟩
  · exact hd.elim
/-- min(m, n), max(m, n) -/
def oMin2 : OA := fun ds Q => match ds with
  | [.int i, .int j] => Q (.int (if j < i then j else i))
  | _ => False
theorem sc_min2 : SndC K (fun xs H Q => ∃ i j, xs = [.int i, .int j] ∧ Q (.int (if j < i then j else i)) H) oMin2 := SndC.pure fun H Hs ds vs Q Q' s rx hq hd => by
  unfold oMin2 at hd
  split at hd
  · obtain ⟨v, w, rfl, h1, h2⟩ := rpA2 rx
    cases h1
    cases h2
    exact ⟨_, _, rfl, hq (.int _) _ rfl hd⟩
  · exact hd.elim
/-- int(n) -/
def oInt : OA := fun ds Q => match ds with
  | [.int i] => Q (.int i)
  | [.bool b] => Q (.int (if b then 1 else 0))
  | _ => False
theorem sc_int : SndC K (fun xs H Q => (∃ i, xs = [.int i] ∧ Q (.int i) H) ∨ ∃ k, xs = [.bl k] ∧ Q (.int (if k then 1 else 0)) H) oInt := SndC.pure fun H Hs ds vs Q Q' s rx hq hd => by
  unfold oInt at hd
  split at hd
  · obtain ⟨v, rfl, h1⟩ := rpA1 rx
    cases h1
    exact .inl ⟨_, rfl, hq (.int _) _ rfl hd⟩
  · obtain ⟨v, rfl, h1⟩ := rpA1 rx
    cases h1
    exact .inr ⟨_, rfl, hq (.int _) _ rfl hd⟩
  · exact hd.elim
/-- tuple(xs) -/
def oTuple : OA := fun ds Q => match ds with
  | [.lst xs] => Q (.tup xs)
  | [.tup xs] => Q (.tup xs)
  | _ => False
theorem sc_tuple : SndC K (fun xs H Q => ∃ p ys, xs = [.ref p] ∧ ((SqL K H p ys ∧ ∀ l, H l = none → Q (.ref l) (upd H l (.tup ys))) ∨ (SqT K H p ys ∧ Q (.ref p) H))) oTuple := fun H Hs ds vs Q Q' s rx hq hd => by
  unfold oTuple at hd
  split at hd
  · obtain ⟨v, rfl, a, vs, rfl, h1, h2⟩ := rpA1 rx
    exact ⟨a, vs, rfl, .inl ⟨SqL.of (s _ _ h1), fun l hl => hq (.tup _) _ _ _ (Stp.alloc s hl) (rp_tup h2 (same_none s hl)) hd⟩⟩
  · obtain ⟨v, rfl, a, vs, rfl, h1, h2⟩ := rpA1 rx
    exact ⟨a, vs, rfl, .inr ⟨(tp_sq s h1), hq (.tup _) _ _ _ (Stp.refl s) ⟨a, vs, rfl, h1, h2⟩ hd⟩⟩
  · exact hd.elim
/-- isinstance(x, T), T built in; (T1, T2) -/
def D.tyN : D → Option String
  | .none => some "NoneType"
  | .bool _ => some "bool"
  | .int _ => some "int"
  | .str _ => some "str"
  | .tup _ => some "tuple"
  | .lst _ => some "list"
  | .dct _ _ => some "dict"
  | _ => Option.none
theorem tyT {H : Hp} {a : Addr} {vs : List V} (h : SqT K H a vs) : TyX K H (.ref a) (.type "tuple") := by
  rcases h with (h | ⟨o, h⟩) | ⟨o, its, n, h1, h2, _⟩
  · exact .base (.tup h)
  · exact .fTuple h
  · exact .kTuple h1 h2
theorem tyN_ok {H : Hp} {d : D} {v : V} {n : String} (h : Rp K H d v) (e : d.tyN = some n) : TyX K H v (.type n) := by
  cases d <;> simp only [D.tyN, Option.some.injEq, reduceCtorEq] at e <;> subst e
  · cases h; exact .base .non
  · cases h; exact .base (.bl _)
  · cases h; exact .base (.int _)
  · cases h; exact .base (.str _)
  · obtain ⟨a, vs, rfl, h1, _⟩ := h
    exact tyT h1.sq
  · obtain ⟨a, vs, rfl, h1, _⟩ := h; exact .base (.lst h1)
  · obtain ⟨a, vs, rfl, h1, _⟩ := h; exact .base (.dK h1)
def oIsi : OA := fun ds Q => match ds with
  | [x, .any (.ty n)] => ∃ t b, x.tyN = some t ∧ kitB t n = some b ∧ Q (.bool b)
  | _ => False
theorem sc_isi : SndC K (rIsi K) oIsi := SndC.pure fun H Hs ds vs Q Q' s rx hq hd => by
  unfold oIsi at hd
  split at hd
  · obtain ⟨t, b, h1, h2, h3⟩ := hd
    obtain ⟨v, w, rfl, h4, h5⟩ := rpA2 rx
    cases h5
    exact ⟨v, _, _, _, b, rfl, .ty _, tyN_ok (h4.mono s) h1, kit_ty h2, hq (.bool _) _ rfl h3⟩
  · exact hd.elim
theorem de_isi {p pos : Pos} {e e2 : Expr} {d : DTA} (hm : X.mg "isinstance" = none) (ha : DA X [e, e2] d) (hg : Gl X "isinstance" := by rfl) (hs : starEach [e, e2] X.env = (false, eval e X.env) :: starEach [e2] X.env := by rfl)
    (hpl : (backTo pos (starEach [e2] X.env)).any (·.1) = false := by rfl) : DE X (.Call (.Name "isinstance" p) [e, e2] [] pos) (dCB oIsi d) :=
  de_callB call_isi sc_isi hg hm (by decide +kernel) ha (by decide) (by decide) hs hpl
/-! methods of texts -/
abbrev OM := D → List D → (D → Prop) → Prop
def SndM (K : PySem.W.Frag) (r : V → List V → Hp → VK → Prop) (op : OM) : Prop := ∀ (H Hs : Hp) (x : D) (vx : V) (ds : List D) (vs : List V) (Q : VK) (Q' : D → Prop), Same Hs H → Rp K Hs x vx → RpA K Hs ds vs →
  (∀ z v H' Hs', Stp none H Hs H' Hs' → Rp K Hs' z v → Q' z → Q v H') → op x ds Q' → r vx vs H Q
def D.isStr : D → Prop
  | .str _ => True
  | _ => False
def dM1 (op : OM) (o e : DT) : DT := fun g r f Q => o g r f fun x f1 => x.isStr ∧ e g r f1 fun y f2 => op x [y] fun z => Q z f2
theorem isStr_V {H : Hp} {d : D} {v : V} (h : Rp K H d v) (i : d.isStr) : ∃ a, v = .str a := by
  cases d <;> first | exact i.elim | exact ⟨_, h⟩
theorem snd_m1 {r : V → List V → Hp → VK → Prop} {op : OM} {to te : TE} {o e : DT} (hr : SndM K r op) (ho : Snd K to o) (he : Snd K te e) : Snd K (tM1 r to te) (dM1 op o e) := fun g ro f st H Hs Q Q' A hq hd =>
  ho g ro f st H Hs _ _ A (fun x f1 vx H1 Hs1 s1 k1 r1 q1 => ⟨isStr_V r1 q1.1, he g ro f1 st H1 Hs1 _ _ (A.step s1 k1) (fun y f2 vy H2 Hs2 s2 k2 r2 q2 =>
    hr H2 Hs2 x vx [y] [vy] Q _ s2.sub (r1.mono s2.ext) (RpA.one r2) (fun z v H3 Hs3 s3 r3 q3 => hq z f2 v H3 Hs3 ((s1.trans s2).trans s3.gen) (k2.stp s3) r3 q3) q2) q1.2⟩) hd
def oStarts : OM := fun x ds Q => match x, ds with
  | .str a, [.str b] => Q (.bool (Txt.startswith a b))
  | _, _ => False
theorem sm_starts : SndM K (fun x xs H Q => ∃ a b, x = .str a ∧ xs = [.str b] ∧ Q (.bl (Txt.startswith a b)) H) oStarts := fun H Hs x vx ds vs Q Q' s rx rs hq hd => by
  unfold oStarts at hd
  split at hd
  · obtain ⟨v, rfl, h⟩ := rpA1 rs
    cases h
    exact ⟨_, _, rx, rfl, hq (.bool _) _ _ _ (Stp.refl s) rfl hd⟩
  · exact hd.elim
theorem de_starts {o e : Expr} {apos pos : Pos} {d d2 : DT} (ho : DE X o d) (he : DE X e d2) (hs : starEach [e] X.env = [(false, eval e X.env)] := by rfl) (hbase : attributeBase o "startswith" X.env (eval o X.env) = eval o X.env := by rfl) (hline : (apos.endLine == pos.line) = true := by rfl) :
    DE X (.Call (.Attribute o "startswith" apos) [e] [] pos) (dM1 oStarts d d2) := .mk' (pe_m1 F.slot_str_startswith F.type_str_startswith mt_startswith ho.pe he.pe hs hbase hline) (snd_m1 sm_starts ho.sn he.sn)
def oJoin : OM := fun x ds Q => match x, ds with
  | .str a, [.lst xs] => ∃ ys : List Str, xs = ys.map D.str ∧ (ys.map (·.length)).sum + ys.length * a.length ≤ 16777216 ∧ Q (.str (Txt.join a ys))
  | .str a, [.tup xs] => ∃ ys : List Str, xs = ys.map D.str ∧ (ys.map (·.length)).sum + ys.length * a.length ≤ 16777216 ∧ Q (.str (Txt.join a ys))
  | _, _ => False
theorem sm_join : SndM K (fun x xs H Q => ∃ a p, ∃ ys : List Str, x = .str a ∧ xs = [.ref p] ∧ (SqL K H p (ys.map V.str) ∨ SqT K H p (ys.map V.str)) ∧ (ys.map (·.length)).sum + ys.length * a.length ≤ 16777216 ∧ Q (.str (Txt.join a ys)) H) oJoin := fun H Hs x vx ds vs Q Q' s rx rs hq hd => by
  unfold oJoin at hd
  split at hd
  · obtain ⟨ys, rfl, h1, h2⟩ := hd
    obtain ⟨v, rfl, a, vs, rfl, h3, h4⟩ := rpA1 rs
    have e := h4.strs
    subst e
    exact ⟨_, a, ys, rx, rfl, .inl (SqL.of (s _ _ h3)), h1, hq (.str _) _ _ _ (Stp.refl s) rfl h2⟩
  · obtain ⟨ys, rfl, h1, h2⟩ := hd
    obtain ⟨v, rfl, a, vs, rfl, h3, h4⟩ := rpA1 rs
    have e := h4.strs
    subst e
    exact ⟨_, a, ys, rx, rfl, .inr ((tp_sq s h3)), h1, hq (.str _) _ _ _ (Stp.refl s) rfl h2⟩
  · exact hd.elim
theorem de_join {o e : Expr} {apos pos : Pos} {d d2 : DT} (ho : DE X o d) (he : DE X e d2) (hs : starEach [e] X.env = [(false, eval e X.env)] := by rfl) (hbase : attributeBase o "join" X.env (eval o X.env) = eval o X.env := by rfl) (hline : (apos.endLine == pos.line) = true := by rfl) :
    DE X (.Call (.Attribute o "join" apos) [e] [] pos) (dM1 oJoin d d2) :=
  .mk' (pe_join ho.pe he.pe hs hbase hline) (snd_m1 sm_join ho.sn he.sn)
/-- x.split(sep): a new list -/
def dSplit (o e : DT) : DTA := fun g r f Q => o g r f fun x f1 => match x with
  | .str a => e g r f1 fun y f2 => match y with
    | .str b => (b.length == 0) = false ∧ a.length ≤ lim ∧ Q ((Txt.split a b).map D.str) f2
    | _ => False
  | _ => False
theorem dl_split {o e : Expr} {apos pos : Pos} {d d2 : DT} (ho : DE X o d) (he : DE X e d2) (hs : starEach [e] X.env = [(false, eval e X.env)] := by rfl) (hbase : attributeBase o "split" X.env (eval o X.env) = eval o X.env := by rfl) (hline : (apos.endLine == pos.line) = true := by rfl) :
    DL' X (.Call (.Attribute o "split" apos) [e] [] pos) (dSplit d d2) :=
  .mk' (pe_split ho.pe he.pe hs hbase hline) (fun g ro f st H Hs Q Q' A hq hd =>
    ho.sn g ro f st H Hs _ _ A (fun x f1 vx H1 Hs1 s1 k1 r1 q1 => by
      cases x <;> try exact q1.elim
      next a =>
      refine ⟨⟨a, r1⟩, he.sn g ro f1 st H1 Hs1 _ _ (A.step s1 k1) (fun y f2 vy H2 Hs2 s2 k2 r2 q2 => ?_) q1⟩
      cases y <;> try exact q2.elim
      next b =>
      cases r1
      cases r2
      refine ⟨a, b, rfl, rfl, q2.1, Nat.le_trans (Nat.add_le_add_right q2.2.1 2) (by decide), fun p hp => ?_⟩
      have al : Stp none H2 Hs2 (upd H2 p (.lst ((Txt.split a b).map V.str))) Hs2 := Stp.lay s2.sub hp
      refine hq _ f2 p _ _ _ ((s1.trans s2).trans al.gen) (k2.stp al) ?_ (same_none s2.sub hp) upd_same (RpA.map (f := D.str) (g := V.str) (fun _ => rfl) _) q2.2.2
      cases e : H p with
      | none => rfl
      | some o =>
        obtain ⟨o', e'⟩ := (s1.trans s2).there p o e
        rw [e'] at hp; cases hp) hd)
end
end DL
namespace DL
open PySem PySem.Spec PyProof.Rows L2
section
variable {X : Cx} {K : PySem.W.Frag}
/-! items and slices -/
def oIx : O2 := fun x y Q => match x, y with
  | .lst xs, .int i => ∃ d, atI xs i = some d ∧ Q d
  | .tup xs, .int i => ∃ d, atI xs i = some d ∧ Q d
  | .ktup xs, .int i => ∃ d, atI (xs.map D.str) i = some d ∧ Q d
  | .ftp xs, .int i => ∃ d, atI xs i = some d ∧ Q d
  | .str z, .int i => z.length ≤ lim ∧ ∃ c, atI z.cps.toList i = some c ∧ Q (.str ⟨#[c]⟩)
  | _, _ => False
theorem atI_rp {H : Hp} {ds : List D} {vs : List V} {i : Int} {d : D} (h : RpA K H ds vs) (e : atI ds i = some d) : ∃ v, atI vs i = some v ∧ Rp K H d v := by
  unfold atI at e ⊢
  rw [h.length] at e
  cases e2 : ixN vs.length i with
  | none => rw [e2] at e; cases e
  | some j =>
    rw [e2] at e
    obtain ⟨v, h1, h2⟩ := h.get (i := j) (d := d) e
    exact ⟨v, h1, h2⟩
theorem sr_ix : SndR K (rIx K) oIx := SndR.pure fun H Hs x y vx vy Q Q' s rx ry hq hd => by
  unfold oIx at hd
  split at hd
  · obtain ⟨d, e, q⟩ := hd
    obtain ⟨a, vs, rfl, h1, h2⟩ := rx
    obtain ⟨v, h3, h4⟩ := atI_rp h2 e
    exact .inl ⟨a, vs, _, v, rfl, ry, SqL.of (s _ _ h1), h3, hq d v h4 q⟩
  · obtain ⟨d, e, q⟩ := hd
    obtain ⟨a, vs, rfl, h1, h2⟩ := rx
    obtain ⟨v, h3, h4⟩ := atI_rp h2 e
    exact .inr (.inl ⟨a, vs, _, v, rfl, ry, (tp_sq s h1), h3, hq d v h4 q⟩)
  · obtain ⟨d, e, q⟩ := hd
    obtain ⟨a, rfl, h1⟩ := rx
    obtain ⟨v, h3, h4⟩ := atI_rp (RpA.map (f := D.str) (g := V.str) (fun _ => rfl) _) e
    exact .inr (.inl ⟨a, _, _, v, rfl, ry, h1.sq _, h3, hq d v h4 q⟩)
  · obtain ⟨d, e, q⟩ := hd
    obtain ⟨a, vs, rfl, h1, h2⟩ := rx
    obtain ⟨v, h3, h4⟩ := atI_rp h2 e
    exact .inr (.inl ⟨a, vs, _, v, rfl, ry, (h1.mono s).sq, h3, hq d v h4 q⟩)
  · obtain ⟨hz, c, e, q⟩ := hd
    exact .inr (.inr ⟨_, _, c, rx, ry, lim_le hz, e, hq (.str _) _ rfl q⟩)
  · exact hd.elim
theorem de_ix {a b : Expr} {pos : Pos} {da db : DT} (ha : DE X a da) (hb : DE X b db) (hs : PlainIx b := by exact fun _ _ => rfl) : DE X (.Subscript a b pos) (dOp oIx da db) := .mk' (pe_ix ix_seq ha.pe hb.pe hs) (snd_op sr_ix ha.sn hb.sn)
abbrev DTO := Option Dk → Sg → Nat → (Option Int → Nat → Prop) → Prop
def SndO (K : PySem.W.Frag) (t : TO) (dl : DTO) : Prop := ∀ (g : Option Dk) (r : Sg) (f : Nat) (st : L2.St) (H Hs : Hp) (Q : Option Int → Hp → Prop) (Q' : Option Int → Nat → Prop), At K g r f st H Hs →
  (∀ b f' H' Hs', Stp g H Hs H' Hs' → DkOk g H' Hs' f' → Q' b f' → Q b H') → dl g r f Q' → t st H Q
def tOfO (K : PySem.W.Frag) (dl : DTO) : TO := fun st H Q => ∃ g r f Hs Q', At K g r f st H Hs ∧ (∀ b f' H' Hs', Stp g H Hs H' Hs' → DkOk g H' Hs' f' → Q' b f' → Q b H') ∧ dl g r f Q'
structure DO (X : Cx) (e : Option Expr) (dl : DTO) : Prop where
  po : PO X e (tOfO X.K dl)
theorem DO.sn {e : Option Expr} {dl : DTO} (_ : DO X e dl) : SndO X.K (tOfO X.K dl) dl := fun g r f st H Hs Q Q' a hq hd => ⟨g, r, f, Hs, Q', a, hq, hd⟩
theorem DO.mk' {e : Option Expr} {t : TO} {dl : DTO} (p : PO X e t) (s : SndO X.K t dl) : DO X e dl := ⟨⟨fun pins sh st H Q I ⟨g, r, f, Hs, Q', a, hq, hd⟩ => p.run pins sh st H Q I (s g r f st H Hs Q Q' a hq hd)⟩⟩
theorem do_none : DO X none (fun _ _ f Q => Q none f) := .mk' (po_none) (fun g ro f st H Hs Q Q' A hq hd => hq none f H Hs (Stp.refl A.sub) A.dk hd)
def dPart (d : DT) : DTO := fun g r f Q => d g r f fun x f1 => match x with
  | .int i => Q (some i) f1
  | _ => False
theorem do_some {e : Expr} {d : DT} (h : DE X e d) : DO X (some e) (dPart d) := .mk' (po_some h.pe) (fun g ro f st H Hs Q Q' A hq hd =>
  h.sn g ro f st H Hs _ _ A (fun x f1 v H1 Hs1 s1 k1 r1 q1 => by
    cases x <;> try exact q1.elim
    exact ⟨_, r1, hq _ f1 H1 Hs1 s1 k1 q1⟩) hd)
def cutD (xs : List D) (lo hi : Option Int) : List D := (xs.drop (HT.sIx xs.length 0 lo)).take (HT.sIx xs.length xs.length hi - HT.sIx xs.length 0 lo)
theorem cut_rp {H : Hp} {ds : List D} {vs : List V} {lo hi : Option Int} (h : RpA K H ds vs) : RpA K H (cutD ds lo hi) (cutV vs lo hi) := by
  unfold cutD cutV
  rw [h.length]
  exact (h.drop _).take _
abbrev O3 := D → Option Int → Option Int → (D → Prop) → Prop
def oSl : O3 := fun x lo hi Q => match x with
  | .lst xs => Q (.lst (cutD xs lo hi))
  | .tup xs => Q (.tup (cutD xs lo hi))
  | .ftp xs => ((HT.sIx xs.length 0 lo = 0 ∧ HT.sIx xs.length xs.length hi = xs.length) → Q (.ftp xs)) ∧ Q (.tup (cutD xs lo hi))
  | .str z => z.length ≤ lim ∧ Q (.str (cutS z lo hi))
  | _ => False
def rSl (K : PySem.W.Frag) : V → Option Int → Option Int → Hp → VK → Prop := fun x lo hi H Q => rSlL K x lo hi H Q ∨ (rSlA K x lo hi H Q ∨ rSlS x lo hi H Q)
theorem cutD_whole {xs : List D} {lo hi : Option Int} (h : HT.sIx xs.length 0 lo = 0 ∧ HT.sIx xs.length xs.length hi = xs.length) : cutD xs lo hi = xs := by
  unfold cutD
  rw [h.1, h.2]
  simp
theorem sl_all : SlR X (rSl X.K) := sl_list.or (sl_tupA.or sl_str)
def dSl (a : DT) (lo hi : DTO) : DT := fun g r f Q => a g r f fun x f1 => lo g r f1 fun i f2 => hi g r f2 fun j f3 => oSl x i j fun z => Q z f3
theorem sr_sl {H Hs : Hp} {x : D} {vx : V} {lo hi : Option Int} {Q : VK} {Q' : D → Prop} (s : Same Hs H) (rx : Rp K Hs x vx) (hq : ∀ z v H' Hs', Stp none H Hs H' Hs' → Rp K Hs' z v → Q' z → Q v H') (hd : oSl x lo hi Q') : rSl K vx lo hi H Q := by
  cases x <;> try exact hd.elim
  · exact .inr (.inr ⟨_, rx, lim_le hd.1, hq (.str _) _ _ _ (Stp.refl s) rfl hd.2⟩)
  · obtain ⟨a, vs, rfl, h1, h2⟩ := rx
    refine .inr (.inl ⟨a, vs, rfl, (tp_sq s h1), fun e => ?_, fun e p hp => ?_⟩)
    · rw [← h2.length] at e
      exact hq (.tup _) _ _ _ (Stp.refl s) ⟨a, vs, rfl, h1, by rw [cutD_whole e]; exact h2⟩ hd
    · exact hq (.tup _) _ _ _ (Stp.alloc s hp) (rp_tup (cut_rp h2) (same_none s hp)) hd
  · obtain ⟨a, vs, rfl, h1, h2⟩ := rx
    exact .inl ⟨a, vs, rfl, SqL.of (s _ _ h1), fun p hp => hq (.lst _) _ _ _ (Stp.alloc s hp) (rp_lst (cut_rp h2) (same_none s hp)) hd⟩
  · obtain ⟨a, vs, rfl, h1, h2⟩ := rx
    refine .inr (.inl ⟨a, vs, rfl, (h1.mono s).sq, fun e => ?_, fun e p hp => ?_⟩)
    · rw [← h2.length] at e
      exact hq (.ftp _) _ _ _ (Stp.refl s) ⟨a, vs, rfl, h1, h2⟩ (hd.1 e)
    · exact hq (.tup _) _ _ _ (Stp.alloc s hp) (rp_tup (cut_rp h2) (same_none s hp)) hd.2
theorem de_sl {e : Expr} {lo hi : Option Expr} {p2 pos : Pos} {d : DT} {dl dh : DTO} (he : DE X e d) (hl : DO X lo dl) (hh : DO X hi dh) : DE X (.Subscript e (.Slice lo hi none p2) pos) (dSl d dl dh) :=
  .mk' (pe_slice sl_all he.pe hl.po hh.po) (fun g ro f st H Hs Q Q' A hq hd =>
    he.sn g ro f st H Hs _ _ A (fun x f1 v H1 Hs1 s1 k1 r1 q1 => hl.sn g ro f1 st H1 Hs1 _ _ (A.step s1 k1) (fun i f2 H2 Hs2 s2 k2 q2 =>
      hh.sn g ro f2 st H2 Hs2 _ _ ((A.step s1 k1).step s2 k2) (fun j f3 H3 Hs3 s3 k3 q3 =>
        sr_sl s3.sub ((r1.mono s2.ext).mono s3.ext) (fun z v H4 Hs4 s4 r4 q4 => hq z f3 v H4 Hs4 (((s1.trans s2).trans s3).trans s4.gen) (k3.stp s4) r4 q4) q3) q2) q1) hd)
/-- xs[::-1] of a list -/
def dRev (a : DT) : DTA := fun g r f Q => a g r f fun x f1 => match x with
  | .lst xs => Q xs.reverse f1
  | _ => False
theorem none_back {g : Option Dk} {H Hs H' Hs' : Hp} {p : Addr} (s : Stp g H Hs H' Hs') (h : H' p = none) : H p = none := by
  cases e : H p with
  | none => rfl
  | some o =>
    obtain ⟨o', e'⟩ := s.there p o e
    rw [e'] at h; cases h
theorem dl_rev {e : Expr} {d : DT} {k : Nat} {p1 p2 p3 pos : Pos} (he : DE X e d) : DL' X (.Subscript e (.Slice none none (some (.UnaryOp .USub (.Constant (.int 1) k p1) p2)) p3) pos) (dRev d) :=
  .mk' (pe_revL he.pe) (fun g ro f st H Hs Q Q' A hq hd =>
    he.sn g ro f st H Hs _ _ A (fun x f1 v H1 Hs1 s1 k1 r1 q1 => by
      cases x <;> try exact q1.elim
      obtain ⟨a, vs, rfl, h1, h2⟩ := r1
      refine ⟨a, vs, rfl, SqL.of (s1.sub _ _ h1), fun p hp => ?_⟩
      have al : Stp none H1 Hs1 (upd H1 p (.lst vs.reverse)) Hs1 := Stp.lay s1.sub hp
      exact hq _ f1 p _ _ _ (s1.trans al.gen) (k1.stp al) (none_back s1 hp) (same_none s1.sub hp) upd_same h2.reverse q1) hd)
/-! calls of defs -/
abbrev DSp := Option Dk → List D → Nat → QD → Prop
def spOf (K : PySem.W.Frag) (S : DSp) : Sp := fun vs H Q _ => ∃ (g : Option Dk) (Hs : Hp) (ds : List D) (f : Nat) (Q' : QD), Same Hs H ∧ DkOk g H Hs f ∧ RpA K Hs ds vs ∧ S g ds f Q' ∧
  ∀ d f' v H' Hs', Stp g H Hs H' Hs' → DkOk g H' Hs' f' → Rp K Hs' d v → Q' d f' → Q v H'
def dCall (S : DSp) (t : DTA) : DT := fun g r f Q => t g r f fun ds f1 => S g ds f1 Q
theorem snd_call {S : DSp} {E : XK} {t : TA} {d : DTA} (ht : SndA K t d) : Snd K (tCall (spOf K S) [] E t) (dCall S d) := fun g ro f st H Hs Q Q' A hq hd =>
  ht g ro f st H Hs _ _ A (fun ds f1 vs H1 Hs1 s1 k1 r1 q1 => by
    show spOf K S (vs ++ []) H1 Q E
    rw [List.append_nil]
    exact ⟨g, Hs1, ds, f1, Q', s1.sub, k1, r1, q1, fun d f' v H' Hs' s2 k2 r2 q2 => hq d f' v H' Hs' (s1.trans s2) k2 r2 q2⟩) hd
/-! what is walked -/
structure Walks (K : PySem.W.Frag) (J : It) (Hb : Hp) (ds : List D) : Prop where
  go : ∀ (i : Nat) (d : D) (H Hs : Hp), Same Hb Hs → Same Hs H → ds[i]? = some d → J.go i H ∧ ∀ x H', J.yld i H x H' → ∃ Hs', Stp none H Hs H' Hs' ∧ Rp K Hs' d x
  stop : ∀ H, Same Hb H → J.stop ds.length H
def SndI (K : PySem.W.Frag) (wi : TI) (dl : DTA) : Prop := ∀ (g : Option Dk) (r : Sg) (f : Nat) (st : L2.St) (H Hs : Hp) (R : It → Hp → Prop) (Q' : List D → Nat → Prop), At K g r f st H Hs →
  (∀ ds f' J H' Hs', Stp g H Hs H' Hs' → DkOk g H' Hs' f' → Walks K J Hs' ds → Q' ds f' → R J H') → dl g r f Q' → wi st H R
def tOfI (K : PySem.W.Frag) (dl : DTA) : TI := fun st H R => ∃ g r f Hs Q', At K g r f st H Hs ∧ (∀ ds f' J H' Hs', Stp g H Hs H' Hs' → DkOk g H' Hs' f' → Walks K J Hs' ds → Q' ds f' → R J H') ∧ dl g r f Q'
structure DI (X : Cx) (tg e : Expr) (dl : DTA) : Prop where
  pi : PI X tg e (tOfI X.K dl)
theorem DI.sn {tg e : Expr} {dl : DTA} (_ : DI X tg e dl) : SndI X.K (tOfI X.K dl) dl := fun g r f st H Hs Q Q' a hq hd => ⟨g, r, f, Hs, Q', a, hq, hd⟩
theorem DI.mk' {tg e : Expr} {wi : TI} {dl : DTA} (p : PI X tg e wi) (s : SndI X.K wi dl) : DI X tg e dl := ⟨⟨fun pins sh st H R I ⟨g, r, f, Hs, Q', a, hq, hd⟩ => p.run pins sh st H R I (s g r f st H Hs R Q' a hq hd)⟩⟩
/-- a list, a tuple, a text -/
def iSeq (K : PySem.W.Frag) (tl : TE) : TI := fun st H R => tl st H fun x H1 => (∃ a, x = .ref a ∧ (((∃ xs, SqL K H1 a xs) ∧ R (Itl K a) H1) ∨ ((∃ xs, SqT K H1 a xs) ∧ R (Itt K a) H1))) ∨ ∃ z, x = .str z ∧ R (Its z) H1
theorem pi_seq {tg l : Expr} {tl : TE} (hl : PE X l tl) : PI X tg l (iSeq X.K tl) := by
  refine ⟨fun pins s st H R I h => ?_⟩
  refine thn (hl.run pins s st H _ I h) fun v s1 ⟨x, H1, I1, r1, q1⟩ => ?_
  rcases q1 with ⟨a, e, (⟨⟨xs, hq⟩, q⟩ | ⟨⟨xs, hq⟩, q⟩)⟩ | ⟨z, e, q⟩
  · subst e
    cases r1
    obtain ⟨its, rv, p, hz⟩ := I1.list hq
    refine wpAny_pyIter_list p.isList ?_
    refine ⟨s1.heap.objs.size, [s1.heap.objs.size], _, _, H1, rfl, I1.kept (t' := s1.toks) fun b o e => Heap.get?_push_of_some _ e, turn_list a _, ⟨_, Heap.get?_push_size _ rfl, rfl, rfl⟩, fun b hb => ?_, q⟩
    have e : b = s1.heap.objs.size := by simpa using hb
    subst e
    exact I1.fpOk (Nat.le_refl _) (I1.hok.fresh (Nat.le_refl _))
  · subst e
    cases r1
    obtain ⟨its, rv, p, hz⟩ := I1.tuple hq
    refine wpAny_pyIter_tuple (show s1.heap.IsTuple a its.toArray from p) ?_
    refine ⟨s1.heap.objs.size, [s1.heap.objs.size], _, _, H1, rfl, I1.kept (t' := s1.toks) fun b o e => Heap.get?_push_of_some _ e, turn_tuple a _, ⟨_, Heap.get?_push_size _ rfl, rfl, rfl⟩, fun b hb => ?_, q⟩
    have e : b = s1.heap.objs.size := by simpa using hb
    subst e
    exact I1.fpOk (Nat.le_refl _) (I1.hok.fresh (Nat.le_refl _))
  · subst e
    obtain ⟨t, rfl⟩ := r1
    cases ha : z.cps.all (· < 128)
    · exact wpAny_pyIter_wide ha (pi_one (tk := s1.toks) I1 _ (turn_str _ z t "str_iterator" (.inr rfl)) ⟨_, Heap.get?_push_size _ rfl, rfl, rfl⟩ q)
    · exact wpAny_pyIter_ascii ha (pi_one (tk := s1.toks) I1 _ (turn_str _ z t "str_ascii_iterator" (.inl rfl)) ⟨_, Heap.get?_push_size _ rfl, rfl, rfl⟩ q)
def signs (z : Str) : List D := z.cps.toList.map fun c => .str ⟨#[c]⟩
def dSeq' (d : DT) : DTA := fun g r f Q => d g r f fun x f1 => match x with
  | .lst xs => Q xs f1
  | .tup xs => Q xs f1
  | .ftp xs => Q xs f1
  | .str z => Q (signs z) f1
  | _ => False
theorem walks_list {Hb : Hp} {a : Addr} {vs : List V} {ds : List D} (h1 : Hb a = some (.lst vs)) (h2 : RpA K Hb ds vs) : Walks K (Itl K a) Hb ds where
  go := fun i d H Hs s1 s2 e => by
    obtain ⟨v, hv, hr⟩ := h2.get e
    have q : SqL K H a vs := SqL.of (s2 _ _ (s1 _ _ h1))
    refine ⟨⟨vs, v, q, hv⟩, ?_⟩
    rintro x H' ⟨rfl, hx⟩
    have := hx vs q
    rw [hv] at this
    cases this
    exact ⟨Hs, Stp.refl s2, hr.mono s1⟩
  stop := fun H s => ⟨vs, SqL.of (s _ _ h1), by rw [h2.length]; exact Nat.le_refl _⟩
theorem walks_sqT {Hb : Hp} {a : Addr} {vs : List V} {ds : List D} (h1 : SqT K Hb a vs) (h2 : RpA K Hb ds vs) : Walks K (Itt K a) Hb ds where
  go := fun i d H Hs s1 s2 e => by
    obtain ⟨v, hv, hr⟩ := h2.get e
    have q : SqT K H a vs := sqT_mono s2 (sqT_mono s1 h1)
    refine ⟨⟨vs, v, q, hv⟩, ?_⟩
    rintro x H' ⟨rfl, hx⟩
    have := hx vs q
    rw [hv] at this
    cases this
    exact ⟨Hs, Stp.refl s2, hr.mono s1⟩
  stop := fun H s => ⟨vs, sqT_mono s h1, by rw [h2.length]; exact Nat.le_refl _⟩
theorem walks_tup {Hb : Hp} {a : Addr} {vs : List V} {ds : List D} (h1 : TpAt K Hb a vs) (h2 : RpA K Hb ds vs) : Walks K (Itt K a) Hb ds where
  go := fun i d H Hs s1 s2 e => by
    obtain ⟨v, hv, hr⟩ := h2.get e
    have q : SqT K H a vs := sqT_mono s2 (tp_sq s1 h1)
    refine ⟨⟨vs, v, q, hv⟩, ?_⟩
    rintro x H' ⟨rfl, hx⟩
    have := hx vs q
    rw [hv] at this
    cases this
    exact ⟨Hs, Stp.refl s2, hr.mono s1⟩
  stop := fun H s => ⟨vs, tp_sq s h1, by rw [h2.length]; exact Nat.le_refl _⟩
theorem walks_str {Hb : Hp} {z : Str} : Walks K (Its z) Hb (signs z) where
  go := fun i d H Hs s1 s2 e => by
    unfold signs at e
    rw [List.getElem?_map] at e
    cases ec : z.cps.toList[i]? with
    | none => rw [ec] at e; cases e
    | some c =>
      rw [ec] at e
      cases e
      have hl : i < z.cps.size := by
        have := List.getElem?_eq_some_iff.mp ec
        simpa using this.1
      refine ⟨hl, ?_⟩
      rintro x H' ⟨rfl, c', hc, rfl⟩
      have : c' = c := by
        rw [Array.getElem?_toList] at ec
        rw [hc] at ec
        exact Option.some.inj ec
      subst this
      exact ⟨Hs, Stp.refl s2, rfl⟩
  stop := fun H s => by
    show z.cps.size ≤ (signs z).length
    unfold signs
    simp
theorem di_seq {tg l : Expr} {d : DT} (h : DE X l d) : DI X tg l (dSeq' d) := .mk' (pi_seq h.pe) (fun g ro f st H Hs R Q' A hq hd =>
  h.sn g ro f st H Hs _ _ A (fun x f1 v H1 Hs1 s1 k1 r1 q1 => by
    cases x <;> try exact q1.elim
    · exact .inr ⟨_, r1, hq _ f1 _ H1 Hs1 s1 k1 walks_str q1⟩
    · obtain ⟨a, vs, rfl, h1, h2⟩ := r1
      exact .inl ⟨a, rfl, .inr ⟨⟨vs, (tp_sq s1.sub h1)⟩, hq _ f1 _ H1 Hs1 s1 k1 (walks_tup h1 h2) q1⟩⟩
    · obtain ⟨a, vs, rfl, h1, h2⟩ := r1
      exact .inl ⟨a, rfl, .inl ⟨⟨vs, SqL.of (s1.sub _ _ h1)⟩, hq _ f1 _ H1 Hs1 s1 k1 (walks_list h1 h2) q1⟩⟩
    · obtain ⟨a, vs, rfl, h1, h2⟩ := r1
      exact .inl ⟨a, rfl, .inr ⟨⟨vs, sqT_mono s1.sub h1.sq⟩, hq _ f1 _ H1 Hs1 s1 k1 (walks_sqT h1.sq h2) q1⟩⟩) hd)
def intsD (lo : Int) (n : Nat) : List D := (List.range n).map fun (i : Nat) => D.int (lo + (i : Int))
theorem walks_range {Hb : Hp} {lo : Int} {n : Nat} : Walks K (Itr lo n) Hb (intsD lo n) where
  go := fun i d H Hs s1 s2 e => by
    unfold intsD at e
    rw [List.getElem?_map] at e
    by_cases hl : i < n
    · rw [List.getElem?_range hl] at e
      cases e
      refine ⟨hl, ?_⟩
      rintro x H' ⟨rfl, rfl⟩
      exact ⟨Hs, Stp.refl s2, rfl⟩
    · rw [List.getElem?_eq_none (by simpa using hl)] at e
      cases e
  stop := fun H s => by
    show n ≤ (intsD lo n).length
    unfold intsD
    simp
def dRng1 (t : DTA) : DTA := fun g r f Q => t g r f fun ds f1 => match ds with
  | [.int j] => -(2 ^ 62) ≤ j ∧ j < 2 ^ 62 ∧ Q (intsD 0 j.toNat) f1
  | _ => False
theorem di_range1 {tg a : Expr} {d : DTA} {p pos : Pos} (hm : X.mg "range" = none) (ha : DA X [a] d) (hg : Gl X "range" := by rfl) (hs : starEach [a] X.env = [(false, eval a X.env)] := by rfl) : DI X tg (.Call (.Name "range" p) [a] [] pos) (dRng1 d) :=
  .mk' (pi_range1 hg hm ha.pa hs) (fun g ro f st H Hs R Q' A hq hd =>
    ha.sn g ro f st H Hs _ _ A (fun ds f1 vs H1 Hs1 s1 k1 r1 q1 => by
      split at q1
      · obtain ⟨v, rfl, h⟩ := rpA1 r1
        cases h
        exact ⟨_, rfl, q1.1, q1.2.1, hq _ f1 _ H1 Hs1 s1 k1 walks_range q1.2.2⟩
      · exact q1.elim) hd)
def dRng2 (t : DTA) : DTA := fun g r f Q => t g r f fun ds f1 => match ds with
  | [.int i, .int j] => (-(2 ^ 62) ≤ i ∧ i < 2 ^ 62 ∧ -(2 ^ 62) ≤ j ∧ j < 2 ^ 62) ∧ Q (intsD i (j - i).toNat) f1
  | _ => False
theorem di_range2 {tg a b : Expr} {d : DTA} {p pos : Pos} (hm : X.mg "range" = none) (ha : DA X [a, b] d) (hg : Gl X "range" := by rfl) (hs : starEach [a, b] X.env = [(false, eval a X.env), (false, eval b X.env)] := by rfl) (hs2 : starEach [b] X.env = [(false, eval b X.env)] := by rfl) : DI X tg (.Call (.Name "range" p) [a, b] [] pos) (dRng2 d) :=
  .mk' (pi_range2 hg hm ha.pa hs hs2) (fun g ro f st H Hs R Q' A hq hd =>
    ha.sn g ro f st H Hs _ _ A (fun ds f1 vs H1 Hs1 s1 k1 r1 q1 => by
      split at q1
      · obtain ⟨v, w, rfl, h, h'⟩ := rpA2 r1
        cases h
        cases h'
        exact ⟨_, _, rfl, q1.1, hq _ f1 _ H1 Hs1 s1 k1 walks_range q1.2⟩
      · exact q1.elim) hd)
end
end DL
namespace DL
open PySem PySem.Spec PyProof.Rows L2
/-! targets -/
abbrev TgF := D → Option (List (Nat × D))
def setsR (r : Sg) : List (Nat × D) → Sg
  | [] => r
  | (i, d) :: l => setsR (r.set i (.sh d)) l
def setsV (st : L2.St) : List Nat → List V → L2.St
  | i :: is, v :: vs => setsV (st.set i (some v)) is vs
  | _, _ => st
section
variable {X : Cx} {K : PySem.W.Frag}
theorem SlOk.sets {Hs : Hp} : ∀ {l : List (Nat × D)} {vs : List V} {r : Sg} {st : L2.St}, SlOk K Hs r st → RpA K Hs (l.map (·.2)) vs → SlOk K Hs (setsR r l) (setsV st (l.map (·.1)) vs)
  | [], _, _, _, h, _ => by
    have e : ∀ (st : L2.St) (vs : List V), setsV st [] vs = st := fun st vs => by cases vs <;> rfl
    show SlOk K Hs _ (setsV _ [] _)
    rw [e]
    exact h
  | (i, d) :: l, _, r, st, h, ⟨v, vr, h1, h2, h3⟩ => by
    subst h1
    show SlOk K Hs (setsR (r.set i (.sh d)) l) (setsV (st.set i (some v)) (l.map (·.1)) vr)
    exact SlOk.sets (SlOk.set h i h2) h3
theorem wipe_set {st : L2.St} {i : Nat} {x : Option V} : ∀ {vs : List Nat}, i ∈ vs → wipe (st.set i x) vs = wipe st vs
  | v :: vs, h => by
    unfold wipe
    by_cases e : i ∈ vs
    · rw [wipe_set e]
    · have hv : i = v := by
        rcases List.mem_cons.mp h with h | h
        · exact h
        · exact absurd h e
      subst hv
      have : ∀ (vs : List Nat), i ∉ vs → wipe (st.set i x) vs = (wipe st vs).set i x := by
        intro vs
        induction vs with
        | nil => intro _; rfl
        | cons w ws ih =>
          intro hn
          have h1 : i ≠ w := fun e => hn (by simp [e])
          have h2 : i ∉ ws := fun e => hn (by simp [e])
          unfold wipe
          rw [ih h2, List.set_comm _ _ h1]
      rw [this vs e, List.set_set]
theorem wipe_sets {ws : List Nat} : ∀ {is : List Nat} {vs : List V} {st : L2.St}, (∀ i ∈ is, i ∈ ws) → wipe (setsV st is vs) ws = wipe st ws
  | [], _, _, _ => by unfold setsV; rfl
  | _ :: _, [], _, _ => by unfold setsV; rfl
  | i :: is, v :: vs, st, h => by
    unfold setsV
    rw [wipe_sets (fun j hj => h j (by simp [hj])), wipe_set (h i (by simp))]
theorem wipe_idem {st : L2.St} : ∀ {vs : List Nat} (ws : List Nat), (∀ i ∈ vs, i ∈ ws) → L2.wipe (L2.wipe st vs) ws = L2.wipe st ws
  | [], _, _ => rfl
  | v :: vs, ws, h => by
    show L2.wipe ((L2.wipe st vs).set v none) ws = _
    rw [wipe_set (h v (by simp)), wipe_idem ws fun i hi => h i (by simp [hi])]
theorem wipe_wipe_sets {vs is : List Nat} {us : List V} {st : L2.St} (h : ∀ i ∈ is, i ∈ vs) : L2.wipe (setsV (L2.wipe st vs) is us) vs = L2.wipe st vs := by
  rw [wipe_sets h, wipe_idem vs fun _ h => h]
def SndG (K : PySem.W.Frag) (is : List Nat) (g : TG) (t : TgF) : Prop := (∀ d l, t d = some l → l.map (·.1) = is) ∧ ∀ (H Hs : Hp) (st : L2.St) (d : D) (v : V) (Q : L2.St → Hp → Prop) (l : List (Nat × D)), Same Hs H → Rp K Hs d v → t d = some l →
  (∀ vs, RpA K Hs (l.map (·.2)) vs → Q (setsV st is vs) H) → g v st H Q
def gOf (K : PySem.W.Frag) (is : List Nat) (t : TgF) : TG := fun v st H Q => ∃ Hs d l, Same Hs H ∧ Rp K Hs d v ∧ t d = some l ∧ ∀ vs, RpA K Hs (l.map (·.2)) vs → Q (setsV st is vs) H
structure DG (X : Cx) (tg : Expr) (is : List Nat) (t : TgF) : Prop where
  pg : PG X tg (gOf X.K is t)
  ix : ∀ d l, t d = some l → l.map (·.1) = is
theorem DG.sn {tg : Expr} {is : List Nat} {t : TgF} (h : DG X tg is t) : SndG X.K is (gOf X.K is t) t := ⟨h.ix, fun H Hs st d v Q l s hr e hq => ⟨Hs, d, l, s, hr, e, hq⟩⟩
theorem DG.mk' {tg : Expr} {is : List Nat} {g : TG} {t : TgF} (p : PG X tg g) (s : SndG X.K is g t) : DG X tg is t := ⟨⟨fun pins sh st H v u Q I r ⟨Hs, d, l, h1, h2, h3, h4⟩ => p.run pins sh st H v u Q I r (s.2 H Hs st d v Q l h1 h2 h3 h4)⟩, s.1⟩
def tgN (i : Nat) : TgF := fun d => some [(i, d)]
theorem sg_name (i : Nat) : SndG K [i] (gName i) (tgN i) := ⟨fun d l e => by cases e; rfl, fun H Hs st d v Q l s rx e h => by
  cases e
  exact h [v] (RpA.one rx)⟩
theorem dg_name {i : Nat} {x : Str} {pos : Pos} (hN : X.N.Nodup) (hi : X.N[i]? = some x := by rfl) (hx : Loc X.env.scope x := by first | exact Or.inl rfl | exact Or.inr rfl) (hf : X.fn x = true ∨ X.env.scope.names.lookup x = some .local := by first | exact .inl rfl | exact .inr rfl | assumption) : DG X (.Name x pos) [i] (tgN i) := .mk' (pg_name hN hi hx hf) (sg_name i)
def tgT : List TgF → List D → Option (List (Nat × D))
  | [], [] => some []
  | t :: ts, d :: ds => (t d).bind fun l => (tgT ts ds).map fun m => l ++ m
  | _, _ => none
def tgTup (ts : List TgF) : TgF := fun d => match d with
  | .tup ds => tgT ts ds
  | _ => none
def SndGs (K : PySem.W.Frag) (is : List Nat) (g : TGs) (ts : List TgF) : Prop := (∀ ds l, tgT ts ds = some l → l.map (·.1) = is) ∧ ∀ (H Hs : Hp) (st : L2.St) (ds : List D) (vs : List V) (Q : L2.St → Hp → Prop) (l : List (Nat × D)), Same Hs H → RpA K Hs ds vs → tgT ts ds = some l →
  (∀ ws, RpA K Hs (l.map (·.2)) ws → Q (setsV st is ws) H) → g vs st H Q
def gOfs (K : PySem.W.Frag) (is : List Nat) (ts : List TgF) : TGs := fun vs st H Q => ∃ Hs ds l, Same Hs H ∧ RpA K Hs ds vs ∧ tgT ts ds = some l ∧ ∀ ws, RpA K Hs (l.map (·.2)) ws → Q (setsV st is ws) H
structure DGs (X : Cx) (tgs : List Expr) (is : List Nat) (ts : List TgF) : Prop where
  pg : PGs X tgs (gOfs X.K is ts)
  ix : ∀ ds l, tgT ts ds = some l → l.map (·.1) = is
theorem DGs.sn {tgs : List Expr} {is : List Nat} {ts : List TgF} (h : DGs X tgs is ts) : SndGs X.K is (gOfs X.K is ts) ts := ⟨h.ix, fun H Hs st ds vs Q l s hr e hq => ⟨Hs, ds, l, s, hr, e, hq⟩⟩
theorem DGs.mk' {tgs : List Expr} {is : List Nat} {g : TGs} {ts : List TgF} (p : PGs X tgs g) (s : SndGs X.K is g ts) : DGs X tgs is ts := ⟨⟨fun pins sh st H vs us Q I r ⟨Hs, ds, l, h1, h2, h3, h4⟩ => p.run pins sh st H vs us Q I r (s.2 H Hs st ds vs Q l h1 h2 h3 h4)⟩, s.1⟩
theorem setsV_append : ∀ (is js : List Nat) (vs ws : List V) (st : L2.St), is.length = vs.length → setsV st (is ++ js) (vs ++ ws) = setsV (setsV st is vs) js ws
  | [], js, vs, ws, st, h => by cases vs with
    | nil => rfl
    | cons v r => simp at h
  | i :: is, js, [], ws, st, h => by simp at h
  | i :: is, js, v :: vs, ws, st, h => by
    show setsV (st.set i (some v)) (is ++ js) (vs ++ ws) = _
    rw [setsV_append is js vs ws _ (by simpa using h)]
    rfl
theorem RpA.split {H : Hp} : ∀ {a b : List D} {vs : List V}, RpA K H (a ++ b) vs → ∃ p q, vs = p ++ q ∧ RpA K H a p ∧ RpA K H b q
  | [], _, vs, h => ⟨[], vs, rfl, rfl, h⟩
  | d :: a, b, _, ⟨v, r, h1, h2, h3⟩ => by
    subst h1
    obtain ⟨p, q, rfl, h4, h5⟩ := RpA.split h3
    exact ⟨v :: p, q, rfl, ⟨v, p, rfl, h2, h4⟩, h5⟩
theorem sgs_nil : SndGs K [] gNil [] := by
  refine ⟨fun ds l e => ?_, fun H Hs st ds vs Q l s rx e h => ?_⟩
  · cases ds with
    | nil => cases e; rfl
    | cons _ _ => cases e
  · cases ds with
    | nil => cases e; cases rx; exact ⟨rfl, h [] rfl⟩
    | cons _ _ => cases e
theorem sgs_cons {is js : List Nat} {g : TG} {u : TGs} {t : TgF} {ts : List TgF} (h1 : SndG K is g t) (h2 : SndGs K js u ts) : SndGs K (is ++ js) (gCons g u) (t :: ts) := by
  refine ⟨fun ds l e => ?_, fun H Hs st ds vs Q l s rx e h => ?_⟩
  · cases ds with
    | nil => cases e
    | cons d ds =>
      simp only [tgT] at e
      cases e1 : t d with
      | none => rw [e1] at e; cases e
      | some l1 =>
        rw [e1] at e
        cases e2 : tgT ts ds with
        | none => rw [e2] at e; cases e
        | some l2 =>
          rw [e2] at e
          cases e
          rw [List.map_append, h1.1 d l1 e1, h2.1 ds l2 e2]
  · cases ds with
    | nil => cases e
    | cons d ds =>
      simp only [tgT] at e
      cases e1 : t d with
      | none => rw [e1] at e; cases e
      | some l1 =>
        rw [e1] at e
        cases e2 : tgT ts ds with
        | none => rw [e2] at e; cases e
        | some l2 =>
          rw [e2] at e
          cases e
          obtain ⟨v, r, rfl, q1, q2⟩ := rx
          refine ⟨v, r, rfl, h1.2 H Hs st d v _ l1 s q1 e1 fun ws1 hw1 => h2.2 H Hs _ ds r Q l2 s q2 e2 fun ws2 hw2 => ?_⟩
          have hh := h (ws1 ++ ws2) (by rw [List.map_append]; exact hw1.append hw2)
          rw [setsV_append _ _ _ _ _ (by rw [← h1.1 d l1 e1, ← hw1.length]; simp)] at hh
          exact hh
theorem sg_tup {is : List Nat} {g : TGs} {ts : List TgF} {n : Nat} (h : SndGs K is g ts) (hn : ∀ ds l, tgT ts ds = some l → ds.length = n) : SndG K is (gTup K n g) (tgTup ts) := ⟨fun d l e => by
    cases d <;> first | (cases e; done) | exact h.1 _ l e, fun H Hs st d v Q l s rx e q => by
  cases d <;> try (cases e; done)
  obtain ⟨a, vs, rfl, h1, h2⟩ := rx
  exact ⟨a, vs, rfl, (tp_sq s h1), by rw [← h2.length]; exact hn _ l e, h.2 H Hs st _ vs Q l s h2 e q⟩⟩
theorem tgT_len : ∀ {ts : List TgF} {ds : List D} {l : List (Nat × D)}, tgT ts ds = some l → ds.length = ts.length
  | [], [], _, _ => rfl
  | [], _ :: _, _, e => by cases e
  | _ :: _, [], _, e => by cases e
  | t :: ts, d :: ds, l, e => by
    simp only [tgT] at e
    cases e1 : t d with
    | none => rw [e1] at e; cases e
    | some l1 =>
      rw [e1] at e
      cases e2 : tgT ts ds with
      | none => rw [e2] at e; cases e
      | some l2 => simp [tgT_len e2]
theorem dgs_nil : DGs X [] [] [] := .mk' (pgs_nil) (sgs_nil)
theorem dgs_cons {e : Expr} {es : List Expr} {is js : List Nat} {t : TgF} {ts : List TgF} (h1 : DG X e is t) (h2 : DGs X es js ts)
    (hs : (assignEach (e :: es) X.env).map (·.2) = assign e X.env :: (assignEach es X.env).map (·.2) := by rfl) : DGs X (e :: es) (is ++ js) (t :: ts) := .mk' (pgs_cons h1.pg h2.pg hs) (sgs_cons h1.sn h2.sn)
theorem dg_tup {es : List Expr} {k n : Nat} {pos : Pos} {is : List Nat} {ts : List TgF} (hc : X.calm = true) (h : DGs X es is ts) (hn : (assignEach es X.env).length = n := by rfl) (hst : (assignEach es X.env).findIdx? (·.1) = none := by rfl) (hl : ts.length = n := by rfl) :
    DG X (.Tuple es k pos) is (tgTup ts) := .mk' (pg_tup hc h.pg hn hst) (sg_tup h.sn fun ds l e => by rw [tgT_len e, hl])
/-! comprehensions -/
def wipeR (r : Sg) : List Nat → Sg
  | [] => r
  | v :: vs => (wipeR r vs).set v .no
theorem SlOk.wipe {Hs : Hp} {r : Sg} {st : L2.St} (h : SlOk K Hs r st) : ∀ vs : List Nat, SlOk K Hs (wipeR r vs) (L2.wipe st vs)
  | [] => h
  | v :: vs => by
    have ih := SlOk.wipe h vs
    refine ⟨by unfold wipeR L2.wipe; simp [ih.len], fun i s d h1 h2 => ?_⟩
    unfold wipeR at h1
    unfold L2.wipe
    by_cases e : v = i
    · subst e
      by_cases hl : v < (wipeR r vs).length
      · rw [List.getElem?_set_self hl] at h1
        cases h1
        cases h2
      · rw [List.getElem?_eq_none (by simpa using hl)] at h1
        cases h1
    · rw [List.getElem?_set_ne e] at h1
      rw [List.getElem?_set_ne e]
      exact ih.get i s d h1 h2
def dLcGo (g : Option Dk) (t : TgF) (c : DTT) (e : DT) (r : Sg) : List D → List D → Nat → (List D → Nat → Prop) → Prop
  | [], acc, f, Q => Q acc f
  | d :: ds, acc, f, Q => match t d with
    | none => False
    | some l => c g (setsR r l) f fun b f1 => if b = true then e g (setsR r l) f1 fun y f2 => dLcGo g t c e r ds (acc ++ [y]) f2 Q else dLcGo g t c e r ds acc f1 Q
def dLc (i : DTA) (t : TgF) (c : DTT) (e : DT) (vs : List Nat) : DTA := fun g r f Q => i g r f fun ds f1 => ds.length ≤ lim ∧ dLcGo g t c e (wipeR r vs) ds [] f1 Q
structure DTs (X : Cx) (ifs : List Expr) (d : DTT) : Prop where
  pt : PTs X ifs (tOfT X.K d)
theorem DTs.sn {ifs : List Expr} {dl : DTT} (_ : DTs X ifs dl) : SndT X.K (tOfT X.K dl) dl := fun g r f st H Hs Q Q' a hq hd => ⟨g, r, f, Hs, Q', a, hq, hd⟩
theorem DTs.mk' {ifs : List Expr} {t : TT} {dl : DTT} (p : PTs X ifs t) (s : SndT X.K t dl) : DTs X ifs dl := ⟨⟨fun pins sh st H Q I ⟨g, r, f, Hs, Q', a, hq, hd⟩ => p.run pins sh st H Q I (s g r f st H Hs Q Q' a hq hd)⟩⟩
def dYes : DTT := fun _ _ f Q => Q true f
theorem dts_nil : DTs X [] dYes := .mk' (pts_nil) (fun g r f st H Hs Q Q' A hq hd => hq true f H Hs (Stp.refl A.sub) A.dk hd)
theorem dts_one {c : Expr} {d : DTT} (h : DP X c d) : DTs X [c] d := .mk' (pts_one h.pt) (h.sn)
theorem snd_lc {wi : TI} {gt : TG} {tt : TT} {te : TE} {vs is : List Nat} {i : DTA} {t : TgF} {c : DTT} {e : DT} (hi : SndI K wi i) (hg : SndG K is gt t) (hc : SndT K tt c) (he : Snd K te e) (hs : ∀ j ∈ is, j ∈ vs) : SndL K (tLc wi gt tt te vs) (dLc i t c e vs) := by
  intro g r f st H Hs Q Q' A hq hd
  refine hi g r f st H Hs _ _ A (fun ds f1 J H1 Hs1 s1 k1 wk q1 => ?_) hd
  intro D hD
  have hDs : Hs1 D = none := same_none s1.sub hD
  have hDk : ¬ Dk.has g D := k1.out hD
  refine ⟨fun i m H2 => m = ds.length - i ∧ i ≤ ds.length ∧ ∃ f2 Hs2 acc ws, Stp g H1 Hs1 H2 Hs2 ∧ DkOk g H2 Hs2 f2 ∧ Hs2 D = none ∧ H2 D = some (.lst ws) ∧ RpA K Hs2 acc ws ∧ acc.length ≤ i ∧ dLcGo g t c e (wipeR r vs) (ds.drop i) acc f2 Q', ⟨ds.length, rfl, Nat.zero_le _, f1, Hs1, [], [], ?_, ?_, hDs, upd_same, rfl, Nat.le_refl _, q1.2⟩, ?_⟩
  · exact (Stp.lay s1.sub hD : Stp none H1 Hs1 (upd H1 D (.lst [])) Hs1).gen
  · exact k1.mut hDk
  rintro i m H2 ⟨rfl, hil, f2, Hs2, acc, ws, s2, k2, n2, e2, r2, l2, q2⟩
  by_cases hlt : i < ds.length
  · have hgd : ds[i]? = some ds[i] := List.getElem?_eq_getElem hlt
    have hdr : ds.drop i = ds[i] :: ds.drop (i + 1) := List.drop_eq_getElem_cons hlt
    rw [hdr] at q2
    obtain ⟨hgo, hy⟩ := wk.go i _ H2 Hs2 s2.ext s2.sub hgd
    refine .inr ⟨hgo, fun H3 => i + 1 ≤ ds.length ∧ ∃ f2 Hs2 acc ws, Stp g H1 Hs1 H3 Hs2 ∧ DkOk g H3 Hs2 f2 ∧ Hs2 D = none ∧ H3 D = some (.lst ws) ∧ RpA K Hs2 acc ws ∧ acc.length ≤ i + 1 ∧ dLcGo g t c e (wipeR r vs) (ds.drop (i + 1)) acc f2 Q', fun H3 h3 => ⟨_, by omega, rfl, h3⟩, fun x H3 hx => ?_⟩
    obtain ⟨Hs3, s3, r3⟩ := hy x H3 hx
    simp only [dLcGo] at q2
    cases et : t ds[i] with
    | none => rw [et] at q2; exact q2.elim
    | some l =>
      rw [et] at q2
      replace q2 : c g (setsR (wipeR r vs) l) f2 fun b f1 => if b = true then e g (setsR (wipeR r vs) l) f1 fun y f2 => dLcGo g t c e (wipeR r vs) (ds.drop (i + 1)) (acc ++ [y]) f2 Q' else dLcGo g t c e (wipeR r vs) (ds.drop (i + 1)) acc f1 Q' := q2
      have sl0 : SlOk K Hs3 (wipeR r vs) (L2.wipe st vs) := (((A.sl.mono s1.ext).mono s2.ext).mono s3.ext).wipe vs
      refine hg.2 H3 Hs3 _ _ x _ l s3.sub r3 et fun us hus => ⟨wipe_wipe_sets hs, ?_⟩
      have A3 : At K g (setsR (wipeR r vs) l) f2 (setsV (L2.wipe st vs) is us) H3 Hs3 := ⟨s3.sub, k2.stp s3, by
        have := SlOk.sets sl0 hus
        rw [hg.1 _ l et] at this
        exact this⟩
      refine hc g _ f2 _ H3 Hs3 _ _ A3 (fun b f4 H4 Hs4 s4 k4 q4 => ?_) q2
      have t4 : Stp g H1 Hs1 H4 Hs4 := (s2.trans s3.gen).trans s4
      have keepD : ∀ {H5 Hs5 : Hp}, Stp g H1 Hs1 H5 Hs5 → True := fun _ => trivial
      have n3 : Hs3 D = none := s3.new D _ e2 n2
      have e3 : H3 D = some (.lst ws) := s3.keep D _ e2 id
      have n4 : Hs4 D = none := s4.new D _ e3 n3
      have e4 : H4 D = some (.lst ws) := s4.keep D _ e3 hDk
      cases b with
      | false =>
        rw [if_neg Bool.false_ne_true]
        exact ⟨hlt, f4, Hs4, acc, ws, t4, k4, n4, e4, (r2.mono s3.ext).mono s4.ext, by omega, q4⟩
      | true =>
        rw [if_pos rfl]
        refine he g _ f4 _ H4 Hs4 _ _ (A3.step s4 k4) (fun y f5 v H5 Hs5 s5 k5 r5 q5 => ?_) q4
        have n5 : Hs5 D = none := s5.new D _ e4 n4
        have e5 : H5 D = some (.lst ws) := s5.keep D _ e4 hDk
        have r5' : RpA K Hs5 acc ws := ((r2.mono s3.ext).mono s4.ext).mono s5.ext
        refine ⟨ws, e5, ?_, hlt, f5, Hs5, acc ++ [y], ws ++ [v], (t4.trans s5).mut hD n5, k5.mut hDk, n5, upd_same, r5'.append (RpA.one r5), by simp; omega, q5⟩
        rw [← r5'.length]
        have := q1.1
        exact lim_lt (by omega)
  · have ei : i = ds.length := by omega
    subst ei
    rw [List.drop_length] at q2
    refine .inl ⟨wk.stop H2 (fun a o h => s2.sub a o (s2.ext a o h)), ?_⟩
    exact hq acc f2 D ws H2 Hs2 (s1.trans s2) k2 (none_back s1 hD) n2 e2 r2 q2
theorem dl_lc {elt tg iter : Expr} {ifs : List Expr} {scope : Scope} {own : List (Str × Nat)} {pos : Pos} {is : List Nat} {i : DTA} {t : TgF} {c : DTT} {e : DT} (hc : X.calm = true) (hN : X.N.Nodup) (hi : DI X tg iter i) (ok : BlkOk X.N X.env.scope scope own)
    (hg : ∀ (s : Shared) (H : Hp) (C : Addr) (cl : List (Str × Addr)) (fp : List Addr), DG (X.blk s H scope (compEnvC scope cl C X.env) fp) tg is t) (ht : ∀ (s : Shared) (H : Hp) (C : Addr) (cl : List (Str × Addr)) (fp : List Addr), DTs (X.blk s H scope (compEnvC scope cl C X.env) fp) ifs c)
    (he : ∀ (s : Shared) (H : Hp) (C : Addr) (cl : List (Str × Addr)) (fp : List Addr), DE (X.blk s H scope (compEnvC scope cl C X.env) fp) elt e) (hs : ∀ x, foldedSetIterable iter X.env x = pure x := by intro _; rfl) (hsub : ∀ j ∈ is, j ∈ own.map (·.2) := by decide) :
    DL' X (.ListComp elt [⟨tg, iter, ifs, 0⟩] scope pos) (dLc i t c e (own.map (·.2))) := by
  refine DL'.mk' (pe_lc (g := gOf X.K is t) (tt := tOfT X.K c) (te := tOf X.K e) hc hN hi.pi ok (fun s H C cl fp => (hg s H C cl fp).pg) (fun s H C cl fp => (ht s H C cl fp).pt) (fun s H C cl fp => (he s H C cl fp).pe) hs) ?_
  intro g r f st H Hs Q Q' A
  exact snd_lc hi.sn (hg X.s_0 H 0 [] []).sn (ht X.s_0 H 0 [] []).sn (he X.s_0 H 0 [] []).sn hsub g r f st H Hs Q Q' A
end
end DL
namespace DL
open PySem PySem.Spec PyProof.Rows L2
/-! statements: slots that own a list or a dict -/
def Sl.own : Sl → Bool
  | .ow _ => true
  | .od _ _ => true
  | .ot _ _ => true
  | .oi _ _ _ _ => true
  | .on _ _ => true
  | _ => false
/-- a tuple of pairs of texts, as a key -/
def nKey (k : List (Str × Str)) : NestedKey := .tup (k.map fun u => .tup [.text u.1, .text u.2])
def upD (k : List (Str × Str)) : D := .tup (k.map fun u => .tup [.str u.1, .str u.2])
/-- a dict whose keys are such tuples, all its values True -/
def DnB (w : World) (a : Addr) (L : List (List (Str × Str) × Addr)) (h : Heap) : Prop := ∃ o es ep, h.get? a = some o ∧ o.ExactDict ∧ o.data = .dict es ep ∧ es.toList = L.map (fun p => (⟨(nKey p.1).hash w, .ref p.2, .bool true⟩ : DictEntry)) ∧ (L.map (·.1)).Nodup ∧ (a == sysModules) = false ∧ L.length ≤ lim
def DnO (w : World) (a : Addr) (L : List (List (Str × Str) × Addr)) : HO := .ext (DnB w a L)
def OwAt (K : PySem.W.Frag) (H0 H Hs : Hp) (a : Addr) : Sl → Prop
  | .ow xs => ∃ vs, H a = some (.lst vs) ∧ RpA K Hs xs vs
  | .od ks xs => ∃ vs, H a = some (.dK (ks.zip vs)) ∧ ks.length = vs.length ∧ RpA K Hs xs vs
  | .ot ks xs => ∃ vs, H a = some (.dT (ks.zip vs)) ∧ ks.length = vs.length ∧ RpA K Hs xs vs
  | .oi b c ns xs => b = a ∧ ∃ C dx vs, PySem.W.nsIn K mainGlobals c = some (some (.ref C)) ∧ H a = some (.ins C dx (ns.zip vs)) ∧ H dx = some (.own a) ∧ Hs dx = none ∧ H0 dx = none ∧ ns.length = vs.length ∧ RpA K Hs xs vs
  | .on w ks => ∃ bs : List Addr, H a = some (DnO w a (ks.zip bs)) ∧ ks.length = bs.length ∧ RpA K Hs (ks.map upD) (bs.map V.ref)
  | _ => False
structure SIn (K : PySem.W.Frag) (g : Option Dk) (H0 Hs0 : Hp) (r : Sg) (f : Nat) (st : L2.St) (H Hs : Hp) : Prop where
  len : r.length = st.length
  dk0 : ∃ f0, DkOk g H0 Hs0 f0
  dk : DkOk g H Hs f
  stp : Stp g H0 Hs0 H Hs
  sh : ∀ (i : Nat) (d : D), r[i]? = some (.sh d) → ∃ v, st[i]? = some (some v) ∧ Rp K Hs d v
  ow : ∀ (i : Nat) (s : Sl), r[i]? = some s → s.own = true → ∃ a, st[i]? = some (some (.ref a)) ∧ Hs a = none ∧ H0 a = none ∧ OwAt K H0 H Hs a s
  inj : ∀ (i j : Nat) (s u : Sl) (a : Addr), r[i]? = some s → r[j]? = some u → s.own = true → u.own = true → st[i]? = some (some (.ref a)) → st[j]? = some (some (.ref a)) → i = j
def SOk (K : PySem.W.Frag) (g : Option Dk) (H0 Hs0 : Hp) (r : Sg) (f : Nat) (st : L2.St) (H : Hp) : Prop := ∃ Hs, SIn K g H0 Hs0 r f st H Hs
/-- an exception of a class of the text: its data, the class and the dict at which it stands -/
def ExR (K : PySem.W.Frag) (H Hs : Hp) : D → Value → Option Addr → Prop
  | .obj c ns xs, cls, d => ∃ C, PySem.W.nsIn K mainGlobals c = some (some (.ref C)) ∧ cls = .ref C ∧ ((ns = [] ∧ xs = [] ∧ d = Option.none) ∨ ∃ dd vs, d = some dd ∧ Hs dd = some (.xd (ns.zip vs)) ∧ ns.length = vs.length ∧ RpA K Hs xs vs)
  | _, _, _ => False
structure DEnds where
  nx : Sg → Nat → Prop
  rt : QD
  bk : Sg → Nat → Prop := fun _ _ => False
  ct : Sg → Nat → Prop := fun _ _ => False
  xc : D → Sg → Nat → Prop := fun _ _ _ => False
/-- what a body wants of exceptions, at the most -/
def wx (X : Cx) : WX := fun cls d st H => Takes X (fun cls' d' st' H' => cls' = cls ∧ d' = d ∧ st' = st ∧ H' = H)
theorem takes_wx (X : Cx) : Takes X (wx X) := fun u s' h => by
  obtain ⟨a, B, sI, pins, st, H, cls, d, e, I, nb, up, sky, na, os, ag, w⟩ := h
  exact w u s' ⟨a, B, sI, pins, st, H, cls, d, e, I, nb, up, sky, na, os, ag, rfl, rfl, rfl, rfl⟩
theorem wx_of {X : Cx} {W : WX} (h : Takes X W) {cls : Value} {d : Option Addr} {st : L2.St} {H : Hp} (w : W cls d st H) : wx X cls d st H := h.imp fun c d' s' H' e => by
  obtain ⟨rfl, rfl, rfl, rfl⟩ := e
  exact w
abbrev DTS := Option Dk → Sg → Nat → DEnds → Prop
structure EndsOk (K : PySem.W.Frag) (W : WX) (g : Option Dk) (H0 Hs0 : Hp) (E : DEnds) (D : Ends) : Prop where
  nx : ∀ r f st H, SOk K g H0 Hs0 r f st H → E.nx r f → D.nx st H
  rt : ∀ d f v H Hs, Stp g H0 Hs0 H Hs → DkOk g H Hs f → Rp K Hs d v → E.rt d f → D.rt v H
  bk : ∀ r f st H, SOk K g H0 Hs0 r f st H → E.bk r f → D.bk st H
  ct : ∀ r f st H, SOk K g H0 Hs0 r f st H → E.ct r f → D.ct st H
  xc : ∀ x r f st H cls d, (∃ Hs, SIn K g H0 Hs0 r f st H Hs ∧ ExR K H Hs x cls d) → E.xc x r f → W cls d st H
def SndS (K : PySem.W.Frag) (W : WX) (t : TS) (dl : DTS) : Prop := ∀ (g : Option Dk) (H0 Hs0 : Hp) (r : Sg) (f : Nat) (st : L2.St) (H : Hp) (D : Ends) (E : DEnds), SOk K g H0 Hs0 r f st H → EndsOk K W g H0 Hs0 E D → dl g r f E → t D st H
def sOf (K : PySem.W.Frag) (W : WX) (dl : DTS) : TS := fun D st H => ∃ g H0 Hs0 r f E, SOk K g H0 Hs0 r f st H ∧ EndsOk K W g H0 Hs0 E D ∧ dl g r f E
structure DS (X : Cx) (st : Stmt) (dl : DTS) : Prop where
  ps : PS X st (sOf X.K (wx X) dl)
structure DSs (X : Cx) (st : List Stmt) (dl : DTS) : Prop where
  ps : PSs X st (sOf X.K (wx X) dl)
theorem DS.sn {X : Cx} {st : Stmt} {dl : DTS} (_ : DS X st dl) : SndS X.K (wx X) (sOf X.K (wx X) dl) dl := fun g H0 Hs0 r f st H D E s e h => ⟨g, H0, Hs0, r, f, E, s, e, h⟩
theorem DSs.sn {X : Cx} {st : List Stmt} {dl : DTS} (_ : DSs X st dl) : SndS X.K (wx X) (sOf X.K (wx X) dl) dl := fun g H0 Hs0 r f st H D E s e h => ⟨g, H0, Hs0, r, f, E, s, e, h⟩
theorem DS.mk' {X : Cx} {st : Stmt} {t : TS} {dl : DTS} (p : PS X st t) (s : SndS X.K (wx X) t dl) : DS X st dl := ⟨⟨fun pins sh st H D I ⟨g, H0, Hs0, r, f, E, h1, h2, h3⟩ => p.run pins sh st H D I (s g H0 Hs0 r f st H D E h1 h2 h3)⟩⟩
theorem DSs.mk' {X : Cx} {st : List Stmt} {t : TS} {dl : DTS} (p : PSs X st t) (s : SndS X.K (wx X) t dl) : DSs X st dl := ⟨⟨fun pins sh st H D I ⟨g, H0, Hs0, r, f, E, h1, h2, h3⟩ => p.run pins sh st H D I (s g H0 Hs0 r f st H D E h1 h2 h3)⟩⟩
/-- the addresses that slots own -/
def Owned (r : Sg) (st : L2.St) (a : Addr) : Prop := ∃ (i : Nat) (s : Sl), r[i]? = some s ∧ s.own = true ∧ st[i]? = some (some (.ref a))
open Classical in
noncomputable def plus (r : Sg) (st : L2.St) (H Hs : Hp) : Hp := fun a => if Owned r st a then H a else Hs a
open Classical in
noncomputable def minus (r : Sg) (st : L2.St) (Hs : Hp) : Hp := fun a => if Owned r st a then none else Hs a
section
variable {X : Cx} {K : PySem.W.Frag} {g : Option Dk} {H0 Hs0 : Hp} {r : Sg} {f f' : Nat} {st : L2.St} {H Hs H' Hs' : Hp}
theorem plus_in {a : Addr} (h : Owned r st a) : plus r st H Hs a = H a := if_pos h
theorem plus_out {a : Addr} (h : ¬ Owned r st a) : plus r st H Hs a = Hs a := if_neg h
theorem minus_in {a : Addr} (h : Owned r st a) : minus r st Hs a = none := if_pos h
theorem minus_out {a : Addr} (h : ¬ Owned r st a) : minus r st Hs a = Hs a := if_neg h
theorem SIn.owned (s : SIn K g H0 Hs0 r f st H Hs) {a : Addr} (h : Owned r st a) : Hs a = none ∧ H0 a = none ∧ ∃ sl, sl.own = true ∧ OwAt K H0 H Hs a sl := by
  obtain ⟨i, sl, h1, h2, h3⟩ := h
  obtain ⟨b, e, h4, h5, h6⟩ := s.ow i sl h1 h2
  rw [h3] at e
  cases e
  exact ⟨h4, h5, sl, h2, h6⟩
theorem OwAt.ld {a : Addr} {sl : Sl} (h : OwAt K H0 H Hs a sl) : ∃ o, H a = some o ∧ isLD o = true := by
  cases sl with
  | ow xs => obtain ⟨vs, h1, _⟩ := h; exact ⟨_, h1, rfl⟩
  | od ks xs => obtain ⟨vs, h1, _⟩ := h; exact ⟨_, h1, rfl⟩
  | ot ks xs => obtain ⟨vs, h1, _⟩ := h; exact ⟨_, h1, rfl⟩
  | oi b c ns xs => obtain ⟨_, C, dx, vs, _, h1, _⟩ := h; exact ⟨_, h1, rfl⟩
  | on w ks => obtain ⟨bs, h1, _⟩ := h; exact ⟨_, h1, rfl⟩
  | _ => exact h.elim
/-- what a slot owns is no code object -/
theorem OwAt.code {a : Addr} {sl : Sl} {q : Str} (h : OwAt K H0 H Hs a sl) (e : H a = some (LamX.CodeO a q)) : False := by
  cases sl with
  | ow xs => obtain ⟨vs, h1, _⟩ := h; rw [e] at h1; cases h1
  | od ks xs => obtain ⟨vs, h1, _⟩ := h; rw [e] at h1; cases h1
  | ot ks xs => obtain ⟨vs, h1, _⟩ := h; rw [e] at h1; cases h1
  | oi b c ns xs => obtain ⟨_, C, dx, vs, _, h1, _⟩ := h; rw [e] at h1; cases h1
  | on w ks =>
    obtain ⟨bs, h1, _⟩ := h
    rw [e] at h1
    have h2 := Option.some.inj h1
    unfold LamX.CodeO DnO at h2
    injection h2 with h2
    have ho := Heap.get?_push_size ({ objs := Array.replicate a { cls := .none, data := .fields #[.none, .str q 0] } } : Heap) (o := ({ cls := .none, data := .fields #[.none, .str q 0] } : Obj)) rfl
    rw [Array.size_replicate] at ho
    have := congrFun h2 (Heap.push { objs := Array.replicate a { cls := .none, data := .fields #[.none, .str q 0] } } { cls := .none, data := .fields #[.none, .str q 0] })
    obtain ⟨o, es, ep, g1, _, g2, _⟩ := this.mp ⟨_, _, 0, ho, rfl, rfl⟩
    rw [ho] at g1
    cases g1
    cases g2
  | _ => exact h.elim
theorem SIn.plusSub (s : SIn K g H0 Hs0 r f st H Hs) : Same (plus r st H Hs) H := fun a o h => by
  by_cases e : Owned r st a
  · rw [plus_in e] at h; exact h
  · rw [plus_out e] at h; exact s.stp.sub a o h
theorem SIn.plusExt (s : SIn K g H0 Hs0 r f st H Hs) : Same Hs (plus r st H Hs) := fun a o h => by
  by_cases e : Owned r st a
  · rw [(s.owned e).1] at h; cases h
  · rw [plus_out e]; exact h
theorem SIn.notDk (s : SIn K g H0 Hs0 r f st H Hs) {a : Addr} (h : Owned r st a) : ¬ Dk.has g a := by
  obtain ⟨f0, k⟩ := s.dk0
  exact k.out (s.owned h).2.1
theorem SIn.plusDk (s : SIn K g H0 Hs0 r f st H Hs) : DkOk g H (plus r st H Hs) f := by
  have k := s.dk
  cases g with
  | none => trivial
  | some d =>
    obtain ⟨k0, n1, n2, n3, tb⟩ := k
    refine ⟨k0, ?_, ?_, ?_, tb.to (fun a ha u h1 h2 => ⟨h1, ?_⟩) fun b u hb _ _ => s.plusExt b u hb⟩
    · rw [plus_out fun e => s.notDk e (.inl rfl)]; exact n1
    · rw [plus_out fun e => s.notDk e (.inr (.inl rfl))]; exact n2
    · rw [plus_out fun e => s.notDk e (.inr (.inr (.inl rfl)))]; exact n3
    · rw [plus_out fun e => s.notDk e (.inr (.inr (.inr ha)))]; exact h2
theorem SIn.notOwnedDx (s : SIn K g H0 Hs0 r f st H Hs) {dx a : Addr} (h : H dx = some (.own a)) : ¬ Owned r st dx := fun e => by
  obtain ⟨_, _, sl, _, q⟩ := s.owned e
  obtain ⟨o, ho, ld⟩ := q.ld
  rw [h] at ho
  cases ho
  cases ld
theorem SIn.dkDx (s : SIn K g H0 Hs0 r f st H Hs) {dx : Addr} (h : H0 dx = none) : ¬ Dk.has g dx := by
  obtain ⟨f0, k⟩ := s.dk0
  exact k.out h
/-- the state with all slots to be read -/
theorem SIn.at (s : SIn K g H0 Hs0 r f st H Hs) : At K g r f st H (plus r st H Hs) := ⟨s.plusSub, s.plusDk, s.len, fun i sl d h1 h2 => by
  cases sl with
  | no => cases h2
  | sh e =>
    cases h2
    obtain ⟨v, h3, h4⟩ := s.sh i _ h1
    exact ⟨v, h3, h4.mono s.plusExt⟩
  | ow xs =>
    cases h2
    obtain ⟨a, h3, h4, h5, vs, h6, h7⟩ := s.ow i _ h1 rfl
    exact ⟨.ref a, h3, a, vs, rfl, by rw [plus_in ⟨i, _, h1, rfl, h3⟩]; exact h6, h7.mono s.plusExt⟩
  | od ks xs =>
    cases h2
    obtain ⟨a, h3, h4, h5, vs, h6, h7, h8⟩ := s.ow i _ h1 rfl
    exact ⟨.ref a, h3, a, vs, rfl, by rw [plus_in ⟨i, _, h1, rfl, h3⟩]; exact h6, h7, h8.mono s.plusExt⟩
  | ot ks xs =>
    cases h2
    obtain ⟨a, h3, h4, h5, vs, h6, h7, h8⟩ := s.ow i _ h1 rfl
    exact ⟨.ref a, h3, a, vs, rfl, by rw [plus_in ⟨i, _, h1, rfl, h3⟩]; exact h6, h7, h8.mono s.plusExt⟩
  | oi b c ns xs => cases h2
  | on w ks => cases h2⟩
/-- the slots that own are hidden -/
def hide (r : Sg) : Sg := r.map fun s => if s.own then .no else s
theorem hide_get {i : Nat} : (hide r)[i]? = (r[i]?).map fun s => if s.own then .no else s := by unfold hide; rw [List.getElem?_map]
theorem SIn.atHid (s : SIn K g H0 Hs0 r f st H Hs) : At K g (hide r) f st H Hs := ⟨s.stp.sub, s.dk, by unfold hide; rw [List.length_map]; exact s.len, fun i sl d h1 h2 => by
  rw [hide_get] at h1
  cases e : r[i]? with
  | none => rw [e] at h1; cases h1
  | some u =>
    rw [e] at h1
    cases u with
    | no => cases h1; cases h2
    | sh d' => cases h1; cases h2; exact s.sh i _ e
    | ow xs => cases h1; cases h2
    | od ks xs => cases h1; cases h2
    | ot ks xs => cases h1; cases h2
    | oi b c ns xs => cases h1; cases h2
    | on w ks => cases h1; cases h2⟩
/-- behind an expression: the shared part without what slots own -/
theorem SIn.after (s : SIn K g H0 Hs0 r f st H Hs) (p : Stp g H (plus r st H Hs) H' Hs') (k : DkOk g H' Hs' f') : SIn K g H0 Hs0 r f' st H' (minus r st Hs') := by
  have ext : Same Hs (minus r st Hs') := fun a o h => by
    have no : ¬ Owned r st a := fun e => by rw [(s.owned e).1] at h; cases h
    rw [minus_out no]
    exact p.ext a o (s.plusExt a o h)
  have keepO : ∀ a, Owned r st a → H' a = H a := fun a e => by
    obtain ⟨_, _, sl, _, q⟩ := s.owned e
    obtain ⟨o, ho, _⟩ := q.ld
    rw [ho]
    exact p.keep a o ho (s.notDk e)
  refine ⟨s.len, s.dk0, ?_, ⟨?_, s.stp.ext.trans ext, fun a o h n => p.keep a o (s.stp.keep a o h n) n, fun a o h => ?_, fun a o h n => ?_⟩, fun i d h => ?_, fun i sl h1 h2 => ?_, s.inj⟩
  · cases g with
    | none => trivial
    | some d =>
      obtain ⟨k0, n1, n2, n3, tb⟩ := k
      refine ⟨k0, ?_, ?_, ?_, tb.to (fun a ha u h1 h2 => ⟨h1, ?_⟩) fun b u hb _ hc => ?_⟩
      · rw [minus_out fun e => s.notDk e (.inl rfl)]; exact n1
      · rw [minus_out fun e => s.notDk e (.inr (.inl rfl))]; exact n2
      · rw [minus_out fun e => s.notDk e (.inr (.inr (.inl rfl)))]; exact n3
      · rw [minus_out fun e => s.notDk e (.inr (.inr (.inr ha)))]; exact h2
      · obtain ⟨q, rfl⟩ := hc
        rw [minus_out fun e => ?_]
        · exact hb
        · obtain ⟨_, _, sl, _, q'⟩ := s.owned e
          obtain ⟨o, ho, ld⟩ := q'.ld
          have h1 := p.keep b o ho (s.notDk e)
          rw [p.sub b _ hb] at h1
          cases h1
          exact q'.code ho
  · intro a o h
    by_cases e : Owned r st a
    · rw [minus_in e] at h; cases h
    · rw [minus_out e] at h; exact p.sub a o h
  · obtain ⟨o', h'⟩ := s.stp.there a o h
    exact p.there a o' h'
  · by_cases e : Owned r st a
    · exact minus_in e
    · rw [minus_out e]
      obtain ⟨o', h'⟩ := s.stp.there a o h
      refine p.new a o' h' ?_
      rw [plus_out e]
      exact s.stp.new a o h n
  · obtain ⟨v, h3, h4⟩ := s.sh i d h
    exact ⟨v, h3, h4.mono ext⟩
  · obtain ⟨a, h3, h4, h5, h6⟩ := s.ow i sl h1 h2
    have e : Owned r st a := ⟨i, sl, h1, h2, h3⟩
    refine ⟨a, h3, minus_in e, h5, ?_⟩
    cases sl with
    | ow xs => obtain ⟨vs, q1, q2⟩ := h6; exact ⟨vs, by rw [keepO a e]; exact q1, q2.mono ext⟩
    | od ks xs => obtain ⟨vs, q1, q2, q3⟩ := h6; exact ⟨vs, by rw [keepO a e]; exact q1, q2, q3.mono ext⟩
    | ot ks xs => obtain ⟨vs, q1, q2, q3⟩ := h6; exact ⟨vs, by rw [keepO a e]; exact q1, q2, q3.mono ext⟩
    | on w ks => obtain ⟨vs, q1, q2, q3⟩ := h6; exact ⟨vs, by rw [keepO a e]; exact q1, q2, q3.mono ext⟩
    | oi b c ns xs =>
      obtain ⟨qa, C, dx, vs, q0, q1, q2, q3, q4, q5, q6⟩ := h6
      have nd := s.notOwnedDx q2
      exact ⟨qa, C, dx, vs, q0, by rw [keepO a e]; exact q1, p.keep dx _ q2 (s.dkDx q4), by rw [minus_out nd]; exact p.new dx _ q2 (by rw [plus_out nd]; exact q3), q4, q5, q6.mono ext⟩
    | _ => exact h6.elim
theorem SIn.afterHid (s : SIn K g H0 Hs0 r f st H Hs) (p : Stp g H Hs H' Hs') (k : DkOk g H' Hs' f') : SIn K g H0 Hs0 r f' st H' Hs' := by
  have keepO : ∀ a, Owned r st a → H' a = H a := fun a e => by
    obtain ⟨_, _, sl, _, q⟩ := s.owned e
    obtain ⟨o, ho, _⟩ := q.ld
    rw [ho]
    exact p.keep a o ho (s.notDk e)
  refine ⟨s.len, s.dk0, k, s.stp.trans p, fun i d h => ?_, fun i sl h1 h2 => ?_, s.inj⟩
  · obtain ⟨v, h3, h4⟩ := s.sh i d h
    exact ⟨v, h3, h4.mono p.ext⟩
  · obtain ⟨a, h3, h4, h5, h6⟩ := s.ow i sl h1 h2
    have e : Owned r st a := ⟨i, sl, h1, h2, h3⟩
    obtain ⟨o, ho, _⟩ := h6.ld
    refine ⟨a, h3, p.new a o ho h4, h5, ?_⟩
    cases sl with
    | ow xs => obtain ⟨vs, q1, q2⟩ := h6; exact ⟨vs, by rw [keepO a e]; exact q1, q2.mono p.ext⟩
    | od ks xs => obtain ⟨vs, q1, q2, q3⟩ := h6; exact ⟨vs, by rw [keepO a e]; exact q1, q2, q3.mono p.ext⟩
    | ot ks xs => obtain ⟨vs, q1, q2, q3⟩ := h6; exact ⟨vs, by rw [keepO a e]; exact q1, q2, q3.mono p.ext⟩
    | on w ks => obtain ⟨vs, q1, q2, q3⟩ := h6; exact ⟨vs, by rw [keepO a e]; exact q1, q2, q3.mono p.ext⟩
    | oi b c ns xs =>
      obtain ⟨qa, C, dx, vs, q0, q1, q2, q3, q4, q5, q6⟩ := h6
      exact ⟨qa, C, dx, vs, q0, by rw [keepO a e]; exact q1, p.keep dx _ q2 (s.dkDx q4), p.new dx _ q2 q3, q4, q5, q6.mono p.ext⟩
    | _ => exact h6.elim
theorem SIn.flatV (s : SIn K g H0 Hs0 r f st H Hs) (p : Stp g H (plus r st H Hs) H' Hs') {d : D} {v : V} (fl : d.flat = true) (h : Rp K Hs' d v) : Rp K (minus r st Hs') d v :=
  h.flat (fun a o e l => by
    by_cases q : Owned r st a
    · obtain ⟨_, _, sl, _, w⟩ := s.owned q
      obtain ⟨o', ho, ld⟩ := w.ld
      have := p.keep a o' ho (s.notDk q)
      rw [p.sub a o e] at this
      cases this
      rw [ld] at l
      cases l
    · rw [minus_out q]; exact e) d v fl
/-- a slot is stored -/
theorem SIn.set (s : SIn K g H0 Hs0 r f st H Hs) (i : Nat) {d : D} {v : V} (h : Rp K Hs d v) : SIn K g H0 Hs0 (r.set i (.sh d)) f (st.set i (some v)) H Hs := by
  have low : ∀ (j : Nat) (u : Sl), (r.set i (.sh d))[j]? = some u → (j = i ∧ u = .sh d ∧ i < r.length) ∨ (j ≠ i ∧ r[j]? = some u) := fun j u e => by
    by_cases q : i = j
    · subst q
      by_cases hl : i < r.length
      · rw [List.getElem?_set_self hl] at e
        cases e
        exact .inl ⟨rfl, rfl, hl⟩
      · rw [List.getElem?_eq_none (by simpa using hl)] at e
        cases e
    · rw [List.getElem?_set_ne q] at e
      exact .inr ⟨fun z => q z.symm, e⟩
  refine ⟨by simp [s.len], s.dk0, s.dk, s.stp, fun j e hj => ?_, fun j u hj ho => ?_, fun j l u w a hj hl ho ho' h1 h2 => ?_⟩
  · rcases low j _ hj with ⟨rfl, q, hl⟩ | ⟨hne, q⟩
    · cases q
      exact ⟨v, List.getElem?_set_self (s.len ▸ hl), h⟩
    · rw [List.getElem?_set_ne (fun z => hne z.symm)]
      exact s.sh j e q
  · rcases low j u hj with ⟨rfl, q, hl⟩ | ⟨hne, q⟩
    · subst q; cases ho
    · rw [List.getElem?_set_ne (fun z => hne z.symm)]
      exact s.ow j u q ho
  · rcases low j u hj with ⟨rfl, q, hl'⟩ | ⟨hne, q⟩
    · subst q; cases ho
    · rcases low l w hl with ⟨rfl, q', hl'⟩ | ⟨hne', q'⟩
      · subst q'; cases ho'
      · rw [List.getElem?_set_ne (fun z => hne z.symm)] at h1
        rw [List.getElem?_set_ne (fun z => hne' z.symm)] at h2
        exact s.inj j l u w a q q' ho ho' h1 h2
theorem SIn.sets : ∀ {l : List (Nat × D)} {vs : List V} {r : Sg} {st : L2.St}, SIn K g H0 Hs0 r f st H Hs → RpA K Hs (l.map (·.2)) vs → SIn K g H0 Hs0 (setsR r l) f (setsV st (l.map (·.1)) vs) H Hs
  | [], _, _, _, h, _ => by
    have e : ∀ (st : L2.St) (vs : List V), setsV st [] vs = st := fun st vs => by cases vs <;> rfl
    show SIn K g H0 Hs0 _ f (setsV _ [] _) H Hs
    rw [e]
    exact h
  | (i, d) :: l, _, r, st, h, ⟨v, vr, h1, h2, h3⟩ => by
    subst h1
    show SIn K g H0 Hs0 (setsR (r.set i (.sh d)) l) f (setsV (st.set i (some v)) (l.map (·.1)) vr) H Hs
    exact SIn.sets (SIn.set h i h2) h3
/-- an object that is new belongs to a slot -/
theorem SIn.setOwn (s : SIn K g H0 Hs0 r f st H Hs) (i : Nat) {a : Addr} {u : Sl} (hu : u.own = true) (n0 : H0 a = none) (n1 : Hs a = none) (no : ∀ j s, j ≠ i → r[j]? = some s → s.own = true → st[j]? ≠ some (some (.ref a))) (h : OwAt K H0 H Hs a u) :
    SIn K g H0 Hs0 (r.set i u) f (st.set i (some (.ref a))) H Hs := by
  have low : ∀ (j : Nat) (w : Sl), (r.set i u)[j]? = some w → (j = i ∧ w = u ∧ i < r.length) ∨ (j ≠ i ∧ r[j]? = some w) := fun j w e => by
    by_cases q : i = j
    · subst q
      by_cases hl : i < r.length
      · rw [List.getElem?_set_self hl] at e
        cases e
        exact .inl ⟨rfl, rfl, hl⟩
      · rw [List.getElem?_eq_none (by simpa using hl)] at e
        cases e
    · rw [List.getElem?_set_ne q] at e
      exact .inr ⟨fun z => q z.symm, e⟩
  have self : ∀ {l : Nat}, l < r.length → (st.set l (some (.ref a)))[l]? = some (some (V.ref a)) := fun hl => List.getElem?_set_self (s.len ▸ hl)
  refine ⟨by simp [s.len], s.dk0, s.dk, s.stp, fun j e hj => ?_, fun j w hj ho => ?_, fun j l w w' b hj hl ho ho' h1 h2 => ?_⟩
  · rcases low j _ hj with ⟨rfl, q, hl⟩ | ⟨hne, q⟩
    · rw [← q] at hu; cases hu
    · rw [List.getElem?_set_ne (fun z => hne z.symm)]
      exact s.sh j e q
  · rcases low j w hj with ⟨rfl, q, hl⟩ | ⟨hne, q⟩
    · subst q
      exact ⟨a, self hl, n1, n0, h⟩
    · rw [List.getElem?_set_ne (fun z => hne z.symm)]
      exact s.ow j w q ho
  · rcases low j w hj with ⟨rfl, q, hl1⟩ | ⟨hne, q⟩
    · rcases low l w' hl with ⟨rfl, q', hl2⟩ | ⟨hne', q'⟩
      · rfl
      · rw [self hl1] at h1
        cases h1
        rw [List.getElem?_set_ne (fun z => hne' z.symm)] at h2
        exact absurd h2 (no l w' hne' q' ho')
    · rw [List.getElem?_set_ne (fun z => hne z.symm)] at h1
      rcases low l w' hl with ⟨rfl, q', hl2⟩ | ⟨hne', q'⟩
      · rw [self hl2] at h2
        cases h2
        exact absurd h1 (no j w hne q ho)
      · rw [List.getElem?_set_ne (fun z => hne' z.symm)] at h2
        exact s.inj j l w w' b q q' ho ho' h1 h2
/-- an owned object is changed -/
theorem SIn.mutOwn (s : SIn K g H0 Hs0 r f st H Hs) {i : Nat} {a : Addr} {w u : Sl} {o : HO} (hw : r[i]? = some w) (how : w.own = true) (hst : st[i]? = some (some (.ref a))) (hu : u.own = true) (h : OwAt K H0 (upd H a o) Hs a u) :
    SIn K g H0 Hs0 (r.set i u) f st (upd H a o) Hs := by
  have ho : Owned r st a := ⟨i, w, hw, how, hst⟩
  obtain ⟨n1, n0, _⟩ := s.owned ho
  have hil : i < r.length := (List.getElem?_eq_some_iff.mp hw).1
  have low : ∀ (j : Nat) (w : Sl), (r.set i u)[j]? = some w → (j = i ∧ w = u) ∨ (j ≠ i ∧ r[j]? = some w) := fun j w e => by
    by_cases q : i = j
    · subst q
      rw [List.getElem?_set_self hil] at e
      cases e
      exact .inl ⟨rfl, rfl⟩
    · rw [List.getElem?_set_ne q] at e
      exact .inr ⟨fun z => q z.symm, e⟩
  refine ⟨by simp [s.len], s.dk0, s.dk.mut (s.notDk ho), s.stp.mut n0 n1, fun j e hj => ?_, fun j w' hj ho' => ?_, fun j l x y b hj hl ho1 ho2 h1 h2 => ?_⟩
  · rcases low j _ hj with ⟨rfl, q⟩ | ⟨hne, q⟩
    · rw [← q] at hu; cases hu
    · exact s.sh j e q
  · rcases low j w' hj with ⟨rfl, q⟩ | ⟨hne, q⟩
    · subst q
      exact ⟨a, hst, n1, n0, h⟩
    · obtain ⟨b, h3, h4, h5, h6⟩ := s.ow j w' q ho'
      have hab : b ≠ a := fun e => by
        subst e
        exact hne (s.inj j i w' w b q hw ho' how h3 hst)
      refine ⟨b, h3, h4, h5, ?_⟩
      cases w' with
      | ow xs => obtain ⟨vs, q1, q2⟩ := h6; exact ⟨vs, by rw [upd_ne hab]; exact q1, q2⟩
      | od ks xs => obtain ⟨vs, q1, q2⟩ := h6; exact ⟨vs, by rw [upd_ne hab]; exact q1, q2⟩
      | ot ks xs => obtain ⟨vs, q1, q2⟩ := h6; exact ⟨vs, by rw [upd_ne hab]; exact q1, q2⟩
      | on w ks => obtain ⟨vs, q1, q2⟩ := h6; exact ⟨vs, by rw [upd_ne hab]; exact q1, q2⟩
      | oi b c ns xs =>
        obtain ⟨qa, C, dx, vs, q0, q1, q2, q3⟩ := h6
        have hda : dx ≠ a := fun z => s.notOwnedDx q2 (z ▸ ho)
        exact ⟨qa, C, dx, vs, q0, by rw [upd_ne hab]; exact q1, by rw [upd_ne hda]; exact q2, q3⟩
      | _ => exact h6.elim
  · have hx : ∃ x', r[j]? = some x' ∧ x'.own = true := by
      rcases low j x hj with ⟨rfl, _⟩ | ⟨_, q⟩
      · exact ⟨w, hw, how⟩
      · exact ⟨x, q, ho1⟩
    have hy : ∃ x', r[l]? = some x' ∧ x'.own = true := by
      rcases low l y hl with ⟨rfl, _⟩ | ⟨_, q⟩
      · exact ⟨w, hw, how⟩
      · exact ⟨y, q, ho2⟩
    obtain ⟨x', hx1, hx2⟩ := hx
    obtain ⟨y', hy1, hy2⟩ := hy
    exact s.inj j l x' y' b hx1 hy1 hx2 hy2 h1 h2
/-- what a slot owns is shared from now on -/
def frz1 : Sl → Sl
  | .ow xs => .sh (.lst xs)
  | .od ks xs => .sh (.dct ks xs)
  | .ot ks xs => .sh (.dtt ks xs)
  | s => s
def frz (r : Sg) (l : List Nat) : Sg := l.foldl (fun r i => match r[i]? with | some s => r.set i (frz1 s) | none => r) r
theorem SIn.frz1 (s : SIn K g H0 Hs0 r f st H Hs) {i : Nat} {w : Sl} (hw : r[i]? = some w) : ∃ Hs', SIn K g H0 Hs0 (r.set i (frz1 w)) f st H Hs' := by
  have same : ∀ w', w = w' → (r.set i w') = r := fun w' e => by
    subst e
    obtain ⟨hl, e⟩ := List.getElem?_eq_some_iff.mp hw
    rw [← e, List.set_getElem_self]
  by_cases hoi : DL.frz1 w = w
  · rw [hoi, same w rfl]; exact ⟨Hs, s⟩
  by_cases how : w.own = true
  · obtain ⟨a, hst, n1, n0, hat⟩ := s.ow i w hw how
    obtain ⟨o, ho, ld⟩ := hat.ld
    have own : Owned r st a := ⟨i, w, hw, how, hst⟩
    have ext : Same Hs (upd Hs a o) := fun b u e => by rw [upd_ne (ne_of_none e n1)]; exact e
    have hil : i < r.length := (List.getElem?_eq_some_iff.mp hw).1
    have hd : ∃ d, DL.frz1 w = .sh d ∧ Rp K (upd Hs a o) d (.ref a) := by
      cases w with
      | ow xs =>
        obtain ⟨vs, q1, q2⟩ := hat
        rw [q1] at ho; cases ho
        exact ⟨_, rfl, a, vs, rfl, upd_same, q2.mono ext⟩
      | od ks xs =>
        obtain ⟨vs, q1, q2, q3⟩ := hat
        rw [q1] at ho; cases ho
        exact ⟨_, rfl, a, vs, rfl, upd_same, q2, q3.mono ext⟩
      | ot ks xs =>
        obtain ⟨vs, q1, q2, q3⟩ := hat
        rw [q1] at ho; cases ho
        exact ⟨_, rfl, a, vs, rfl, upd_same, q2, q3.mono ext⟩
      | oi b c ns xs => exact absurd rfl hoi
      | on w ks => exact absurd rfl hoi
      | _ => cases how
    obtain ⟨d, ed, hd⟩ := hd
    rw [ed]
    have low : ∀ (j : Nat) (w' : Sl), (r.set i (.sh d))[j]? = some w' → (j = i ∧ w' = .sh d) ∨ (j ≠ i ∧ r[j]? = some w') := fun j w' e => by
      by_cases q : i = j
      · subst q
        rw [List.getElem?_set_self hil] at e
        cases e
        exact .inl ⟨rfl, rfl⟩
      · rw [List.getElem?_set_ne q] at e
        exact .inr ⟨fun z => q z.symm, e⟩
    refine ⟨upd Hs a o, by simp [s.len], s.dk0, s.dk.share (s.notDk own) n1, s.stp.share n0 ho n1, fun j e hj => ?_, fun j w' hj ho' => ?_, fun j l x y b hj hl ho1 ho2 h1 h2 => ?_⟩
    · rcases low j _ hj with ⟨rfl, q⟩ | ⟨hne, q⟩
      · cases q
        exact ⟨.ref a, hst, hd⟩
      · obtain ⟨v, h3, h4⟩ := s.sh j e q
        exact ⟨v, h3, h4.mono ext⟩
    · rcases low j w' hj with ⟨rfl, q⟩ | ⟨hne, q⟩
      · subst q; cases ho'
      · obtain ⟨b, h3, h4, h5, h6⟩ := s.ow j w' q ho'
        have hab : b ≠ a := fun e => by
          subst e
          exact hne (s.inj j i w' w b q hw ho' how h3 hst)
        refine ⟨b, h3, by rw [upd_ne hab]; exact h4, h5, ?_⟩
        cases w' with
        | ow xs => obtain ⟨vs, q1, q2⟩ := h6; exact ⟨vs, q1, q2.mono ext⟩
        | od ks xs => obtain ⟨vs, q1, q2, q3⟩ := h6; exact ⟨vs, q1, q2, q3.mono ext⟩
        | ot ks xs => obtain ⟨vs, q1, q2, q3⟩ := h6; exact ⟨vs, q1, q2, q3.mono ext⟩
        | on w ks => obtain ⟨vs, q1, q2, q3⟩ := h6; exact ⟨vs, q1, q2, q3.mono ext⟩
        | oi b c ns xs =>
          obtain ⟨qa, C, dx, vs, q0, q1, q2, q3, q4, q5, q6⟩ := h6
          have hda : dx ≠ a := fun z => s.notOwnedDx q2 (z ▸ own)
          exact ⟨qa, C, dx, vs, q0, q1, q2, by rw [upd_ne hda]; exact q3, q4, q5, q6.mono ext⟩
        | _ => exact h6.elim
    · rcases low j x hj with ⟨rfl, q⟩ | ⟨_, q⟩
      · subst q; cases ho1
      · rcases low l y hl with ⟨rfl, q'⟩ | ⟨_, q'⟩
        · subst q'; cases ho2
        · exact s.inj j l x y b q q' ho1 ho2 h1 h2
  · have : DL.frz1 w = w := by cases w <;> first | rfl | exact absurd rfl how
    rw [this, same w rfl]
    exact ⟨Hs, s⟩
theorem SIn.frz : ∀ (l : List Nat) {r : Sg} {Hs : Hp}, SIn K g H0 Hs0 r f st H Hs → ∃ Hs', SIn K g H0 Hs0 (frz r l) f st H Hs'
  | [], _, _, s => ⟨_, s⟩
  | i :: l, r, Hs, s => by
    show ∃ Hs', SIn K g H0 Hs0 (DL.frz (match r[i]? with | some s => r.set i (DL.frz1 s) | none => r) l) f st H Hs'
    cases e : r[i]? with
    | none => exact SIn.frz l s
    | some w =>
      obtain ⟨Hs1, s1⟩ := s.frz1 e
      exact SIn.frz l s1
end
end DL
namespace DL
open PySem PySem.Spec PyProof.Rows L2
section
variable {X : Cx} {K : PySem.W.Frag} {W : WX}
theorem SIn.stpPlus {g : Option Dk} {H0 Hs0 : Hp} {r : Sg} {f : Nat} {st : L2.St} {H Hs : Hp} (s : SIn K g H0 Hs0 r f st H Hs) : Stp g H0 Hs0 H (plus r st H Hs) where
  sub := s.plusSub
  ext := s.stp.ext.trans s.plusExt
  keep := s.stp.keep
  there := s.stp.there
  new := fun a o h n => by
    have no : ¬ Owned r st a := fun e => by rw [(s.owned e).2.1] at h; cases h
    rw [plus_out no]
    exact s.stp.new a o h n
theorem SIn.afterExt {g : Option Dk} {H0 Hs0 : Hp} {r : Sg} {f : Nat} {st : L2.St} {H Hs H' Hs' : Hp} (s : SIn K g H0 Hs0 r f st H Hs) (p : Stp g H (plus r st H Hs) H' Hs') : Same Hs (minus r st Hs') := fun a o h => by
  have no : ¬ Owned r st a := fun e => by rw [(s.owned e).1] at h; cases h
  rw [minus_out no]
  exact p.ext a o (s.plusExt a o h)
/-! another base: what is shared now is to stay -/
def mix (Hb H0 : Hp) : Hp := fun a => match Hb a with
  | some o => some o
  | none => H0 a
theorem mix_some {Hb H0 : Hp} {a : Addr} {o : HO} (h : Hb a = some o) : mix Hb H0 a = some o := by unfold mix; rw [h]
theorem mix_none {Hb H0 : Hp} {a : Addr} (h : Hb a = none) : mix Hb H0 a = H0 a := by unfold mix; rw [h]
theorem Stp.unmix {g : Option Dk} {H0 Hs0 H1 Hb H Hs : Hp} (p : Stp g H0 Hs0 H1 Hb) (q : Stp g (mix Hb H0) Hb H Hs) : Stp g H0 Hs0 H Hs where
  sub := q.sub
  ext := p.ext.trans q.ext
  keep := fun a o h n => by
    cases e : Hb a with
    | none => exact q.keep a o (by rw [mix_none e]; exact h) n
    | some o' =>
      have e1 := p.keep a o h n
      rw [p.sub a o' e] at e1
      cases e1
      exact q.keep a o (mix_some e) n
  there := fun a o h => by
    cases e : Hb a with
    | none => exact q.there a o (by rw [mix_none e]; exact h)
    | some o' => exact q.there a o' (mix_some e)
  new := fun a o h n => by
    have nb := p.new a o h n
    exact q.new a o (by rw [mix_none nb]; exact h) nb
theorem OwAt.reb {H0 H0' H Hs : Hp} {a : Addr} {sl : Sl} (e : ∀ dx, H0 dx = none → Hs dx = none → H0' dx = none) (h : OwAt K H0 H Hs a sl) : OwAt K H0' H Hs a sl := by
  cases sl with
  | oi b c ns xs =>
    obtain ⟨qa, C, dx, vs, q0, q1, q2, q3, q4, q5⟩ := h
    exact ⟨qa, C, dx, vs, q0, q1, q2, q3, e dx q4 q3, q5⟩
  | _ => exact h
theorem SIn.rebase {g : Option Dk} {H0 Hs0 Hb : Hp} {r : Sg} {f : Nat} {st : L2.St} {H Hs : Hp} (s : SIn K g H0 Hs0 r f st H Hs) (h1 : Same Hs0 Hb) (h2 : Same Hb Hs) : SIn K g (mix Hb H0) Hb r f st H Hs where
  len := s.len
  dk0 := by
    obtain ⟨f0, k⟩ := s.dk0
    refine ⟨f0, ?_⟩
    have kk := s.dk
    cases g with
    | none => trivial
    | some d =>
      obtain ⟨_, m1, m2, m3, tk⟩ := kk
      have n1 := same_none h2 m1
      have n2 := same_none h2 m2
      have n3 := same_none h2 m3
      obtain ⟨⟨e1, e2, e3, n', xs, ys, k1, k2, k3, k4⟩, _, _, _, tb⟩ := k
      refine ⟨⟨e1, e2, e3, n', xs, ys, by rw [mix_none n1]; exact k1, by rw [mix_none n2]; exact k2, by rw [mix_none n3]; exact k3, k4⟩, n1, n2, n3, tb.to (fun a ha u q1 _ => ?_) fun b u hb _ _ => h1 b u hb⟩
      obtain ⟨p, hp, rfl⟩ := List.mem_map.mp ha
      have n4 := same_none h2 (tk.at_ p hp).1
      exact ⟨by rw [mix_none n4]; exact q1, n4⟩
  dk := s.dk
  stp := by
    refine ⟨s.stp.sub, h2, fun a o h n => ?_, fun a o h => ?_, fun a o h n => ?_⟩
    · cases e : Hb a with
      | none => rw [mix_none e] at h; exact s.stp.keep a o h n
      | some o' => rw [mix_some e] at h; cases h; exact s.stp.sub a o (h2 a o e)
    · cases e : Hb a with
      | none => rw [mix_none e] at h; exact s.stp.there a o h
      | some o' => exact ⟨o', s.stp.sub a o' (h2 a o' e)⟩
    · rw [mix_none n] at h
      exact s.stp.new a o h (same_none h1 n)
  sh := s.sh
  ow := fun i sl hi ho => by
    obtain ⟨a, q1, q2, q3, q4⟩ := s.ow i sl hi ho
    exact ⟨a, q1, q2, by rw [mix_none (same_none h2 q2)]; exact q3, q4.reb fun dx z1 z2 => by rw [mix_none (same_none h2 z2)]; exact z1⟩
  inj := s.inj
theorem SIn.unbase {g : Option Dk} {H0 Hs0 H1 Hb : Hp} {r : Sg} {f : Nat} {st : L2.St} {H Hs : Hp} (p : Stp g H0 Hs0 H1 Hb) (k : ∃ f0, DkOk g H0 Hs0 f0) (s : SIn K g (mix Hb H0) Hb r f st H Hs) : SIn K g H0 Hs0 r f st H Hs where
  len := s.len
  dk0 := k
  dk := s.dk
  stp := p.unmix s.stp
  sh := s.sh
  ow := fun i sl hi ho => by
    obtain ⟨a, q1, q2, q3, q4⟩ := s.ow i sl hi ho
    exact ⟨a, q1, q2, by rw [mix_none (same_none s.stp.ext q2)] at q3; exact q3, q4.reb fun dx z1 z2 => by rw [mix_none (same_none s.stp.ext z2)] at z1; exact z1⟩
  inj := s.inj
/-- an expression's value, flat with all slots in sight (true), or any with the owning slots hidden (false) -/
def evM (m : Bool) (dl : DT) : DT := fun g r f Q => match m with
  | true => dl g r f fun d f' => d.flat = true ∧ Q d f'
  | false => dl g (hide r) f Q
theorem snd_evM {t : TE} {dl : DT} (h : Snd K t dl) {m : Bool} {g : Option Dk} {H0 Hs0 : Hp} {r : Sg} {f : Nat} {st : L2.St} {H Hs : Hp} {Q : VK} {Q' : QD} (s : SIn K g H0 Hs0 r f st H Hs)
    (hq : ∀ d f' v H' Hs', SIn K g H0 Hs0 r f' st H' Hs' → Same Hs Hs' → Rp K Hs' d v → Q' d f' → Q v H') (hd : evM m dl g r f Q') : t st H Q := by
  cases m with
  | true => exact h g r f st H _ Q _ s.at (fun d f' v H' Hs' p k hr q => hq d f' v H' _ (s.after p k) (s.afterExt p) (s.flatV p q.1 hr) q.2) hd
  | false => exact h g (hide r) f st H _ Q Q' s.atHid (fun d f' v H' Hs' p k hr q => hq d f' v H' _ (s.afterHid p k) p.ext hr q) hd
/-- a new list's items, flat with all slots in sight, or any with the owning slots hidden -/
def evL (m : Bool) (dl : DTA) : DTA := fun g r f Q => match m with
  | true => dl g r f fun ds f' => flatA ds = true ∧ Q ds f'
  | false => dl g (hide r) f Q
theorem Stp.none0 {g : Option Dk} {H Hs H' Hs' : Hp} (s : Stp g H Hs H' Hs') {p : Addr} (h : H' p = none) : H p = none := none_back s h
theorem snd_evL {t : TE} {dl : DTA} (h : SndL K t dl) {m : Bool} {g : Option Dk} {H0 Hs0 : Hp} {r : Sg} {f : Nat} {st : L2.St} {H Hs : Hp} {Q : VK} {Q' : List D → Nat → Prop} (s : SIn K g H0 Hs0 r f st H Hs)
    (hq : ∀ ds f' p vs H' Hs', SIn K g H0 Hs0 r f' st H' Hs' → H p = none → Hs' p = none → H0 p = none → H' p = some (.lst vs) → RpA K Hs' ds vs → (∀ (j : Nat) (sl : Sl), r[j]? = some sl → sl.own = true → st[j]? ≠ some (some (.ref p))) → Q' ds f' → Q (.ref p) H') (hd : evL m dl g r f Q') : t st H Q := by
  have notO : ∀ p, H p = none → ∀ (j : Nat) (sl : Sl), r[j]? = some sl → sl.own = true → st[j]? ≠ some (some (.ref p)) := fun p hp j sl h1 h2 h3 => by
    obtain ⟨a, e, _, _, q⟩ := s.ow j sl h1 h2
    rw [h3] at e
    cases e
    obtain ⟨o, ho, _⟩ := q.ld
    rw [hp] at ho; cases ho
  cases m with
  | true => exact h g r f st H _ Q _ s.at (fun ds f' p vs H' Hs' sp k n0 n1 e hr q => by
      have no : ¬ Owned r st p := fun ⟨j, sl, h1, h2, h3⟩ => notO p n0 j sl h1 h2 h3
      refine hq ds f' p vs H' _ (s.after sp k) n0 (by rw [minus_out no]; exact n1) (s.stp.none0 n0) e ?_ (notO p n0) q.2
      exact hr.flat (fun a o e l => by
        by_cases w : Owned r st a
        · obtain ⟨_, _, sl, _, u⟩ := s.owned w
          obtain ⟨o', ho, ld⟩ := u.ld
          have := sp.keep a o' ho (s.notDk w)
          rw [sp.sub a o e] at this
          cases this
          rw [ld] at l
          cases l
        · rw [minus_out w]; exact e) ds vs q.1) hd
  | false => exact h g (hide r) f st H _ Q Q' s.atHid (fun ds f' p vs H' Hs' sp k n0 n1 e hr q => hq ds f' p vs H' _ (s.afterHid sp k) n0 n1 (s.stp.none0 n0) e hr (notO p n0) q) hd
/-! blocks -/
def sNext : DTS := fun _ r f E => E.nx r f
def sSeq (a b : DTS) : DTS := fun g r f E => a g r f { E with nx := fun r' f' => b g r' f' E }
theorem dss_nil : DSs X [] sNext := .mk' (pss_nil) (fun g H0 Hs0 r f st H D E s e h => e.nx r f st H s h)
theorem dss_one {st : Stmt} {d : DTS} (h : DS X st d) : DSs X [st] d := .mk' (pss_one h.ps) (h.sn)
theorem dss_cons {st : Stmt} {rest : List Stmt} {d e : DTS} (h1 : DS X st d) (h2 : DSs X rest e) : DSs X (st :: rest) (sSeq d e) := .mk' (pss_cons h1.ps h2.ps) (fun g H0 Hs0 r f st H D E s e h =>
  h1.sn g H0 Hs0 r f st H _ { E with nx := fun r' f' => _ } s ⟨fun r' f' st' H' s' h' => h2.sn g H0 Hs0 r' f' st' H' D E s' e h', e.rt, e.bk, e.ct, e.xc⟩ h)
def sNever : DTS := fun _ _ _ _ => False
theorem ds_never {st : Stmt} : DS X st sNever := .mk' (ps_never) (fun _ _ _ _ _ _ _ _ _ _ _ h => h)
def sIf (c : DTT) (a b : DTS) : DTS := fun g r f E => c g r f fun k f1 => if k = true then a g r f1 E else b g r f1 E
theorem ds_if {c : Expr} {a b : List Stmt} {pos : Pos} {dc : DTT} {d e : DTS} (hc : DP X c dc) (ha : DSs X a d) (hb : DSs X b e) : DS X (.If c a b pos) (sIf dc d e) := .mk' (ps_if hc.pt ha.ps hb.ps) (fun g H0 Hs0 r f st H D E s e h => by
  obtain ⟨Hs, s⟩ := s
  refine hc.sn g r f st H _ _ _ s.at (fun k f1 H1 Hs1 s1 k1 q1 => ?_) h
  cases k with
  | true => exact ha.sn g H0 Hs0 r f1 st H1 D E ⟨_, s.after s1 k1⟩ e q1
  | false => exact hb.sn g H0 Hs0 r f1 st H1 D E ⟨_, s.after s1 k1⟩ e q1)
def sRet (dl : DT) : DTS := fun g r f E => dl g r f E.rt
theorem ds_ret {e : Expr} {pos : Pos} {d : DT} (h : DE X e d) : DS X (.Return (some e) pos) (sRet d) := .mk' (ps_ret h.pe) (fun g H0 Hs0 r f st H D E s e hd => by
  obtain ⟨Hs, s⟩ := s
  exact h.sn g r f st H _ _ _ s.at (fun d f1 v H1 Hs1 s1 k1 r1 q1 => e.rt d f1 v H1 Hs1 (s.stpPlus.trans s1) k1 r1 q1) hd)
/-! assignments -/
def sSet (m : Bool) (i : Nat) (dl : DT) : DTS := fun g r f E => evM m dl g r f fun d f' => E.nx (r.set i (.sh d)) f'
theorem snd_set {m : Bool} {i : Nat} {t : TE} {d : DT} (h : Snd K t d) : SndS K W (tAsg t (gName i)) (sSet m i d) := fun g H0 Hs0 r f st H D E s e hd => by
  obtain ⟨Hs, s⟩ := s
  exact snd_evM h s (fun d f' v H' Hs' s' _ hr q => e.nx _ f' _ H' ⟨_, s'.set i hr⟩ q) hd
theorem ds_set (m : Bool) {i : Nat} {x : Str} {e : Expr} {pos pos' : Pos} {d : DT} (hN : X.N.Nodup) (h : DE X e d) (hi : X.N[i]? = some x := by rfl) (hx : Loc X.env.scope x := by first | exact Or.inl rfl | exact Or.inr rfl)
    (hs : swapsWith e (some (.Name x pos')) pos.line X.env = pure false := by rfl) (hf : X.fn x = true ∨ X.env.scope.names.lookup x = some .local := by first | exact .inl rfl | exact .inr rfl | assumption) :
    DS X (.Assign [.Name x pos'] e pos) (sSet m i d) := .mk' (ps_set hN hi hx h.pe hs hf) (snd_set h.sn)
def sSetL (m : Bool) (i : Nat) (dl : DTA) : DTS := fun g r f E => evL m dl g r f fun ds f' => E.nx (r.set i (.ow ds)) f'
theorem snd_setL {m : Bool} {i : Nat} {t : TE} {d : DTA} (h : SndL K t d) : SndS K W (tAsg t (gName i)) (sSetL m i d) := fun g H0 Hs0 r f st H D E s e hd => by
  obtain ⟨Hs, s⟩ := s
  exact snd_evL h s (fun ds f' p vs H' Hs' s' n n1 n0 hp hr no q => e.nx _ f' _ H' ⟨_, s'.setOwn i (u := .ow ds) rfl n0 n1 (fun j sl _ h1 h2 => no j sl h1 h2) ⟨vs, hp, hr⟩⟩ q) hd
theorem ds_setL (m : Bool) {i : Nat} {x : Str} {e : Expr} {pos pos' : Pos} {d : DTA} (hN : X.N.Nodup) (h : DL' X e d) (hi : X.N[i]? = some x := by rfl) (hx : Loc X.env.scope x := by first | exact Or.inl rfl | exact Or.inr rfl)
    (hs : swapsWith e (some (.Name x pos')) pos.line X.env = pure false := by rfl) (hf : X.fn x = true ∨ X.env.scope.names.lookup x = some .local := by first | exact .inl rfl | exact .inr rfl | assumption) :
    DS X (.Assign [.Name x pos'] e pos) (sSetL m i d) := .mk' (ps_set hN hi hx h.pe hs hf) (snd_setL h.sn)
/-- y = [..] on one line -/
theorem ds_setLc {i : Nat} {y : Str} {py : Pos} {elt tg iter : Expr} {ifs : List Expr} {scope : Scope} {own : List (Str × Nat)} {pos spos : Pos} {is : List Nat} {di : DTA} {t : TgF} {c : DTT} {e : DT} {dl : DTS} (hN : X.N.Nodup) (hi : DI X tg iter di) (ok : BlkOk X.N X.env.scope scope own)
    (hg : ∀ (s : Shared) (H : Hp) (C : Addr) (cl : List (Str × Addr)) (fp : List Addr), DG (X.blk s H scope (compEnvC scope cl C X.env) fp) tg is t) (ht : ∀ (s : Shared) (H : Hp) (C : Addr) (cl : List (Str × Addr)) (fp : List Addr), DTs (X.blk s H scope (compEnvC scope cl C X.env) fp) ifs c)
    (he : ∀ (s : Shared) (H : Hp) (C : Addr) (cl : List (Str × Addr)) (fp : List Addr), DE (X.blk s H scope (compEnvC scope cl C X.env) fp) elt e)
    (hsn : ∀ (K : PySem.W.Frag) (W : WX) (t' : TE), SndL K t' (dLc di t c e (own.map (·.2))) → SndS K W (tAsg t' (gName i)) dl)
    (hy : X.N[i]? = some y := by rfl) (hyl : X.env.scope.names.lookup y = some .local := by rfl) (hc : X.calm = true := by rfl)
    (hsw : swapsWith (.ListComp elt [⟨tg, iter, ifs, 0⟩] scope pos) (some (.Name y py)) spos.line X.env = pure true := by exact sw_true rfl rfl rfl (by decide +kernel)) (hs : ∀ x, foldedSetIterable iter X.env x = pure x := by intro _; rfl) (hsub : ∀ j ∈ is, j ∈ own.map (·.2) := by decide) :
    DS X (.Assign [.Name y py] (.ListComp elt [⟨tg, iter, ifs, 0⟩] scope pos) spos) dl :=
  DS.mk' (ps_setLc (g := gOf X.K is t) (tt := tOfT X.K c) (te := tOf X.K e) hc hN hy hyl hsw hi.pi ok (fun s H C cl fp => (hg s H C cl fp).pg) (fun s H C cl fp => (ht s H C cl fp).pt) (fun s H C cl fp => (he s H C cl fp).pe) hs)
    (hsn X.K _ _ (snd_lc hi.sn (hg X.s_0 (fun _ => none) 0 [] []).sn (ht X.s_0 (fun _ => none) 0 [] []).sn (he X.s_0 (fun _ => none) 0 [] []).sn hsub))
/-- target = value: a tuple taken apart -/
def sAsg (m : Bool) (dl : DT) (t : TgF) : DTS := fun g r f E => evM m dl g r f fun d f' => match t d with
  | some l => E.nx (setsR r l) f'
  | none => False
theorem ds_asg (m : Bool) {tg e : Expr} {pos : Pos} {is : List Nat} {d : DT} {t : TgF} (h : DE X e d) (hg : DG X tg is t) (hs : swapsWithSole [tg] e pos.line X.env = pure false := by rfl) (hw : swappedStores [tg] e X.env = pure none := by rfl) (h1 : (assignEach [tg] X.env).map (·.2) = [assign tg X.env] := by rfl) : DS X (.Assign [tg] e pos) (sAsg m d t) :=
  .mk' (ps_asg h.pe hg.pg hs hw h1) (fun g H0 Hs0 r f st H D E s e hd => by
    obtain ⟨Hs, s⟩ := s
    refine snd_evM h.sn s (fun d f' v H' Hs' s' _ hr q => ?_) hd
    cases et : t d with
    | none => rw [et] at q; exact q.elim
    | some l =>
      rw [et] at q
      refine hg.sn.2 H' Hs' st d v _ l s'.stp.sub hr et fun vs hv => ?_
      have s2 := s'.sets hv
      rw [hg.sn.1 d l et] at s2
      exact e.nx _ f' _ H' ⟨_, s2⟩ q)
/-- a, b = e1, e2 -/
def sPar (m : Bool) (i j : Nat) (a b : DT) : DTS := fun g r f E => evM m a g r f fun x f1 => evM m b g r f1 fun y f2 => E.nx ((r.set i (.sh x)).set j (.sh y)) f2
theorem ds_par (m : Bool) {i j : Nat} {x y : Str} {a b : Expr} {da db : DT} {px py pt : Pos} {kt k2 : Nat} {pt2 pos : Pos} (hN : X.N.Nodup) (ha : DE X a da) (hb : DE X b db) (hc : X.calm = true := by rfl) (hi : X.N[i]? = some x := by rfl) (hj : X.N[j]? = some y := by rfl) (hij : i ≠ j := by decide)
    (hx : X.env.scope.names.lookup x = some .local := by rfl) (hy : X.env.scope.names.lookup y = some .local := by rfl) (hst : starEach [a, b] X.env = (false, eval a X.env) :: starEach [b] X.env := by rfl) (hst2 : starEach [b] X.env = [(false, eval b X.env)] := by rfl)
    (hw : swappedStores [.Tuple [.Name x px, .Name y py] kt pt] (.Tuple [a, b] k2 pt2) X.env = pure (some [x, y]) := by rfl)
    (hs : swapsWithSole [.Tuple [.Name x px, .Name y py] kt pt] (.Tuple [a, b] k2 pt2) pos.line X.env = pure false := by rfl) :
    DS X (.Assign [.Tuple [.Name x px, .Name y py] kt pt] (.Tuple [a, b] k2 pt2) pos) (sPar m i j da db) := DS.mk' (ps_par hc hN hi hj hij hx hy (pa_cons ha.pe (pa_cons hb.pe pa_nil hst2) hst) hw hs) (fun g H0 Hs0 r f st H D E s e hd => by
  obtain ⟨Hs, s⟩ := s
  refine snd_evM ha.sn s (fun x f1 v H1 Hs1 s1 _ r1 q1 => ?_) hd
  refine snd_evM hb.sn s1 (fun y f2 w H2 Hs2 s2 e2 r2 q2 => ?_) q1
  exact ⟨v, w, rfl, e.nx _ f2 _ H2 ⟨_, (s2.set i (r1.mono e2)).set j r2⟩ q2⟩)
/-! loops -/
def dForGo (g : Option Dk) (t : TgF) (body : DTS) (E : DEnds) : List D → Sg → Nat → Prop
  | [], r, f => E.nx r f
  | d :: ds, r, f => match t d with
    | none => False
    | some l => body g (setsR r l) f { E with nx := fun r' f' => dForGo g t body E ds r' f', ct := fun r' f' => dForGo g t body E ds r' f', bk := E.nx }
def sFor (fz : List Nat) (i : DTA) (t : TgF) (body : DTS) : DTS := fun g r f E => i g (hide (frz r fz)) f fun ds f1 => dForGo g t body E ds (frz r fz) f1
theorem snd_for {fz : List Nat} {wi : TI} {gt : TG} {tb : TS} {is : List Nat} {i : DTA} {t : TgF} {body : DTS} (hi : SndI K wi i) (hg : SndG K is gt t) (hb : SndS K W tb body) : SndS K W (tFor wi gt tb) (sFor fz i t body) := fun g H0 Hs0 r f st H D E s e hd => by
  obtain ⟨Hs, s⟩ := s
  obtain ⟨Hs, s⟩ := s.frz fz
  refine hi g _ f st H Hs _ _ s.atHid (fun ds f1 J H1 Hs1 s1 k1 wk q1 => ?_) hd
  have sb := s.afterHid s1 k1
  refine ⟨fun i m st2 H2 => m = ds.length - i ∧ i ≤ ds.length ∧ ∃ r2 f2 Hs2, SIn K g H0 Hs0 r2 f2 st2 H2 Hs2 ∧ Same Hs1 Hs2 ∧ dForGo g t body E (ds.drop i) r2 f2, ⟨ds.length, rfl, Nat.zero_le _, _, f1, Hs1, sb, Same.refl _, q1⟩, ?_⟩
  rintro i m st2 H2 ⟨rfl, hil, r2, f2, Hs2, s2, e2, q2⟩
  by_cases hlt : i < ds.length
  · have hgd : ds[i]? = some ds[i] := List.getElem?_eq_getElem hlt
    have hdr : ds.drop i = ds[i] :: ds.drop (i + 1) := List.drop_eq_getElem_cons hlt
    rw [hdr] at q2
    obtain ⟨hgo, hy⟩ := wk.go i _ H2 Hs2 e2 s2.stp.sub hgd
    refine .inr ⟨hgo, fun st3 H3 => i + 1 ≤ ds.length ∧ ∃ r2 f2 Hs2, SIn K g H0 Hs0 r2 f2 st3 H3 Hs2 ∧ Same Hs1 Hs2 ∧ dForGo g t body E (ds.drop (i + 1)) r2 f2, fun st3 H3 h3 => ⟨_, by omega, rfl, h3⟩, fun x H3 hx => ?_⟩
    obtain ⟨Hs3, s3, r3⟩ := hy x H3 hx
    simp only [dForGo] at q2
    cases et : t ds[i] with
    | none => rw [et] at q2; exact q2.elim
    | some l =>
      rw [et] at q2
      replace q2 : body g (setsR r2 l) f2 { E with nx := fun r' f' => dForGo g t body E (ds.drop (i + 1)) r' f', ct := fun r' f' => dForGo g t body E (ds.drop (i + 1)) r' f', bk := E.nx } := q2
      have s2' := s2.afterHid s3.gen (s2.dk.stp s3)
      refine hg.2 H3 Hs3 _ _ x _ l s3.sub r3 et fun us hus => ?_
      have s4 := s2'.sets hus
      rw [hg.1 _ l et] at s4
      have s5 := s4.rebase sb.stp.ext (e2.trans s3.ext)
      refine hb g _ _ _ f2 _ H3 _ { E with nx := fun r' f' => dForGo g t body E (ds.drop (i + 1)) r' f', ct := fun r' f' => dForGo g t body E (ds.drop (i + 1)) r' f', bk := E.nx } ⟨_, s5⟩ ⟨fun r' f' st' H' q h => ?_, fun d f' v H' Hs' p k hr h => e.rt d f' v H' Hs' (sb.stp.unmix p) k hr h, fun r' f' st' H' q h => ?_, fun r' f' st' H' q h => ?_, fun x' r' f' st' H' cls d' q h => ?_⟩ q2
      · obtain ⟨Hs6, q⟩ := q
        exact ⟨hlt, r', f', Hs6, q.unbase sb.stp s.dk0, q.stp.ext, h⟩
      · obtain ⟨Hs6, q⟩ := q
        exact e.nx r' f' st' H' ⟨_, q.unbase sb.stp s.dk0⟩ h
      · obtain ⟨Hs6, q⟩ := q
        exact ⟨hlt, r', f', Hs6, q.unbase sb.stp s.dk0, q.stp.ext, h⟩
      · obtain ⟨Hs6, q, q'⟩ := q
        exact e.xc x' r' f' st' H' cls d' ⟨_, q.unbase sb.stp s.dk0, q'⟩ h
  · have ei : i = ds.length := by omega
    subst ei
    rw [List.drop_length] at q2
    exact .inl ⟨wk.stop H2 (fun a o h => s2.stp.sub a o (e2 a o h)), e.nx r2 f2 st2 H2 ⟨_, s2⟩ q2⟩
theorem ds_for (fz : List Nat) {tg iter : Expr} {body : List Stmt} {pos : Pos} {is : List Nat} {i : DTA} {t : TgF} {db : DTS} (hp : PassesOwn (model X.prog X.w) X.A X.env X.xe) (hi : DI X tg iter i) (hg : DG X tg is t) (hb : DSs X body db) (hc : X.calm = true := by rfl)
    (hs : ∀ x, foldedSetIterable iter X.env x = pure x := by intro _; rfl) : DS X (.For tg iter body [] pos) (sFor fz i t db) := .mk' (ps_for hp hc hi.pi hg.pg hb.ps hs) (snd_for hi.sn hg.sn hb.sn)
/-! stores into what a slot owns -/
def sApp (m : Bool) (i : Nat) (dl : DT) : DTS := fun g r f E => ∃ xs, r[i]? = some (.ow xs) ∧ evM m dl g r f fun d f' => xs.length ≤ lim ∧ E.nx (r.set i (.ow (xs ++ [d]))) f'
theorem snd_app {m : Bool} {i : Nat} {t : TE} {d : DT} (h : Snd K t d) : SndS K W (tDrop (tBM K "list" rAppend (tVar i) (tCons t tNil))) (sApp m i d) := fun g H0 Hs0 r f st H D E s e hd => by
  obtain ⟨Hs, s⟩ := s
  obtain ⟨xs, hx, hd⟩ := hd
  obtain ⟨a, ha, n1, n0, vs, hv, hr⟩ := s.ow i _ hx rfl
  refine ⟨.ref a, ha, .inl ⟨rfl, vs, SqL.of hv⟩, ?_⟩
  refine snd_evM h s (fun d f' v H' Hs' s' _ hr' q => ?_) hd
  obtain ⟨hl, q⟩ := q
  obtain ⟨a', ha', n1', n0', vs', hv', hr2⟩ := s'.ow i _ hx rfl
  rw [ha] at ha'
  cases ha'
  exact ⟨a, vs', v, rfl, rfl, hv', hr2.lt hl, e.nx _ f' st _ ⟨_, s'.mutOwn (u := .ow (xs ++ [d])) hx rfl ha rfl ⟨vs' ++ [v], upd_same, hr2.append (RpA.one hr')⟩⟩ q⟩
theorem ds_app (m : Bool) {i : Nat} {x : Str} {e : Expr} {px apos cpos pos : Pos} {d : DT} (h : DE X e d) (hN : X.N[i]? = some x := by rfl) (hv : Vis X.env.scope x := by first | exact Or.inl rfl | exact Or.inr (Or.inl rfl) | exact Or.inr (Or.inr rfl)) (hd : (x == ("__debug__" : Str)) = false := by decide)
    (hcd : (x == ("__classdict__" : Str)) = false := by decide) (hP : ∀ t : TE, PE X (.Name x px) (tVar i) → PA X [e] (tCons t tNil) → PE X (.Call (.Attribute (.Name x px) "append" apos) [e] [] cpos) (tBM X.K "list" rAppend (tVar i) (tCons t tNil)) := by
      exact fun t a b => pe_bm PySem.F.plainAttrs_list PySem.F.slot_list_append PySem.F.type_list_append mt_append a b)
    (hs : swapsWith (.Call (.Attribute (.Name x px) "append" apos) [e] [] cpos) none pos.line X.env = pure false := by rfl) (hst : starEach [e] X.env = [(false, eval e X.env)] := by rfl) :
    DS X (.Expr (.Call (.Attribute (.Name x px) "append" apos) [e] [] cpos) pos) (sApp m i d) :=
  DS.mk' (ps_expr (hP _ (pe_var hN hv hd hcd) (pa_cons h.pe pa_nil hst)) hs) (snd_app h.sn)
/-! a def -/
def startR (n : Nat) (ds : List D) : Sg := ds.map .sh ++ List.replicate (n - ds.length) .no
theorem start_in {g : Option Dk} {H Hs : Hp} {f : Nat} {ds : List D} {vs : List V} {N : List Str} (hs : Same Hs H) (hk : DkOk g H Hs f) (hr : RpA K Hs ds vs) : SIn K g H Hs (startR N.length ds) f (L2.start N vs) H Hs := by
  refine ⟨by simp [startR, L2.start, hr.length], ⟨f, hk⟩, hk, Stp.refl hs, fun i d h => ?_, fun i s h ho => ?_, fun i j s u a h1 h2 ho => ?_⟩
  · unfold startR at h
    unfold L2.start
    by_cases hl : i < ds.length
    · rw [List.getElem?_append_left (by simpa using hl), List.getElem?_map] at h
      rw [List.getElem?_append_left (by simpa [← hr.length] using hl), List.getElem?_map]
      rw [List.getElem?_eq_getElem hl] at h
      cases h
      obtain ⟨v, h1, h2⟩ := hr.get (List.getElem?_eq_getElem hl)
      exact ⟨v, by rw [h1]; rfl, h2⟩
    · rw [List.getElem?_append_right (by simpa using hl)] at h
      rw [List.getElem?_replicate] at h
      split at h
      · cases h
      · cases h
  all_goals
    exfalso
    have : ∀ (i : Nat) (s : Sl), (startR N.length ds)[i]? = some s → s.own = false := fun i s h => by
      have := List.mem_of_getElem? h
      unfold startR at this
      rcases List.mem_append.mp this with h | h
      · obtain ⟨d, _, rfl⟩ := List.mem_map.mp h
        rfl
      · rw [(List.mem_replicate.mp h).2]
        rfl
  · rw [this i s h] at ho; cases ho
  · rw [this i s h1] at ho; cases ho
variable {P : Program} {w : World} {mg : Str → Option Value} {base : Heap}
theorem dfn {x qual : Str} {st : Stmt} {f : Addr} {fd : FuncData} {N ps : List Str} {k : Nat} {S : DSp} {dl : DTS} (F : Fun K x qual st f fd) (sc : FnScope N ps (defScope st)) (len : ∀ g ds n Q, S g ds n Q → ds.length = ps.length)
    (hb : ∀ (cdv : Value) (A : Around) (outer : List Env) (s : Shared) (H : Hp) (E : XK), Room k (A.deeper (envOfC qual (defScope st) s.heap.objs.size f cdv)) → DSs (cxOf CX0 P w K mg base N qual (defScope st) f cdv A outer s H E).nox (defBody st) dl)
    (h : ∀ g ds n Q, S g ds n Q → dl g (startR N.length ds) n { nx := fun _ n => Q .none n, rt := Q }) : FnOk P w K mg base CX0 (k + 1) f fd ps (spOf K S) := by
  refine F.ok sc (fun vs H Q E h => ?_) (fun cdv A outer s H vs Q E hr hsp => ?_)
  · obtain ⟨g, Hs, ds, n, Q', h1, h2, h3, h4, h5⟩ := h
    rw [← h3.length]
    exact len g ds n Q' h4
  · obtain ⟨g, Hs, ds, n, Q', h1, h2, h3, h4, h5⟩ := hsp
    refine ⟨_, (hb cdv A outer s H E hr).ps, ?_⟩
    refine (hb cdv A outer s H E hr).sn g H Hs _ n _ H _ { nx := fun _ n => Q' .none n, rt := Q' } ⟨Hs, start_in h1 h2 h3⟩ ⟨fun r f st H' q h => ?_, fun d f v H' Hs' p k hr h => h5 d f v H' Hs' p k hr h, fun _ _ _ _ _ h => h, fun _ _ _ _ _ h => h, fun _ _ _ _ _ _ _ _ h => h.elim⟩ (h g ds n Q' h4)
    obtain ⟨Hs', q⟩ := q
    exact h5 .none f .non H' Hs' q.stp q.dk rfl h
end
end DL
namespace DL
open PySem PySem.Spec PyProof.Rows L2
/-! a def as its callers see it -/
def Df (K : PySem.W.Frag) (mg : Str → Option Value) (x : Str) (st : Stmt) : Prop := ∃ f fd, Fun K x x st f fd ∧ mg x = some (.ref f)
def Cal (P : Program) (w : World) (K : PySem.W.Frag) (mg : Str → Option Value) (base : Heap) (k : Nat) (x : Str) (ps : List Str) (S : DSp) : Prop :=
  ∃ f fd, FnOk P w K mg base CX0 k f fd ps (spOf K S) ∧ PySem.W.keepIn K (.ref f) = true ∧ Binds K fd ps [] ∧ mg x = some (.ref f)
section
variable {X : Cx} {K : PySem.W.Frag} {W : WX}
theorem de_callC {x : Str} {ps : List Str} {k : Nat} {S : DSp} {p pos : Pos} {e : Expr} {es : List Expr} {d : DTA} (c : Cal X.prog X.w X.K X.mg X.base k x ps S) (hr : Room k X.A)
    (ha : DA X (e :: es) d) (hg : Gl X x := by rfl) (hdb : (x == ("__debug__" : Str)) = false := by decide) (hs : starEach (e :: es) X.env = (false, eval e X.env) :: starEach es X.env := by rfl)
    (hpl : (backTo pos (starEach es X.env)).any (·.1) = false := by rfl) : DE X (.Call (.Name x p) (e :: es) [] pos) (dCall S d) := by
  obtain ⟨f, fd, F, hk, hb, hm⟩ := c
  exact .mk' (pe_call F hr hg hm hk hb .nil pass0 ha.pa hdb hs hpl) (snd_call ha.sn)
/-! loops over plain data -/
theorem dLcGo_each {P : D → Prop} {g : Option Dk} {t : TgF} {e : DT} {r : Sg} (c : Nat) {Q : List D → Nat → Prop} : ∀ (ds acc : List D) (f : Nat), ds.length * c ≤ f →
    (∀ d ∈ ds, ∃ l, t d = some l ∧ ∀ (f : Nat) (Q : QD), c ≤ f → (∀ y f', P y → f ≤ f' + c → Q y f') → e g (setsR r l) f Q) →
    (∀ ys f', ys.length = ds.length → (∀ y ∈ ys, P y) → f ≤ f' + ds.length * c → Q (acc ++ ys) f') → dLcGo g t dYes e r ds acc f Q
  | [], acc, f, hf, he, hq => by
    have := hq [] f rfl (by simp) (by simp)
    rw [List.append_nil] at this
    exact this
  | d :: ds, acc, f, hf, he, hq => by
    obtain ⟨l, hl, h⟩ := he d (by simp)
    have hlen : (d :: ds).length * c = c + ds.length * c := by rw [List.length_cons, Nat.add_mul, Nat.one_mul, Nat.add_comm]
    rw [hlen] at hf
    simp only [dLcGo, hl, dYes, if_true]
    refine h f _ (by omega) fun y f' hy hf' => dLcGo_each c ds (acc ++ [y]) f' (by omega) (fun d' hd' => he d' (by simp [hd'])) fun ys f'' h1 h2 h3 => ?_
    have := hq (y :: ys) f'' (by simp [h1]) (fun z hz => by
      rcases List.mem_cons.mp hz with e | e
      · rw [e]; exact hy
      · exact h2 z e) (by rw [hlen]; omega)
    rw [List.append_assoc]
    exact this
theorem dLcGo_pure {g : Option Dk} {t : TgF} {c : DTT} {e : DT} {r : Sg} (b : D → Bool) (y : D → D) {Q : List D → Nat → Prop} : ∀ (ds acc : List D) (f : Nat),
    (∀ d ∈ ds, ∃ l, t d = some l ∧ (∀ (f : Nat) (Q : Bool → Nat → Prop), Q (b d) f → c g (setsR r l) f Q) ∧ (b d = true → ∀ (f : Nat) (Q : QD), Q (y d) f → e g (setsR r l) f Q)) →
    Q (acc ++ (ds.filter b).map y) f → dLcGo g t c e r ds acc f Q
  | [], acc, f, he, hq => by
    rw [List.filter_nil, List.map_nil, List.append_nil] at hq
    exact hq
  | d :: ds, acc, f, he, hq => by
    obtain ⟨l, hl, h1, h2⟩ := he d (by simp)
    simp only [dLcGo, hl]
    refine h1 f _ ?_
    cases hb : b d with
    | true =>
      rw [if_pos rfl]
      refine h2 hb f _ (dLcGo_pure b y ds (acc ++ [y d]) f (fun d' hd' => he d' (by simp [hd'])) ?_)
      rw [List.filter_cons, hb, if_pos rfl, List.map_cons] at hq
      rw [List.append_assoc]
      exact hq
    | false =>
      rw [if_neg Bool.false_ne_true]
      refine dLcGo_pure b y ds acc f (fun d' hd' => he d' (by simp [hd'])) ?_
      rw [List.filter_cons, hb, if_neg Bool.false_ne_true] at hq
      exact hq
theorem dFor_inv {g : Option Dk} {t : TgF} {body : DTS} {E : DEnds} (I : List D → Sg → Nat → Prop) : ∀ (ds : List D) (r : Sg) (f : Nat),
    (∀ d rest r f (N : Sg → Nat → Prop), I (d :: rest) r f → (∀ r' f', I rest r' f' → N r' f') → ∃ l, t d = some l ∧ body g (setsR r l) f { E with nx := N, ct := N, bk := E.nx }) →
    (∀ r f, I [] r f → E.nx r f) → I ds r f → dForGo g t body E ds r f
  | [], r, f, _, h0, h => h0 r f h
  | d :: ds, r, f, hs, h0, h => by
    obtain ⟨l, hl, hb⟩ := hs d ds r f (fun r' f' => dForGo g t body E ds r' f') h (fun r' f' h' => dFor_inv I ds r' f' hs h0 h')
    simp only [dForGo, hl]
    exact hb
end
/-! the law's own def -/
def spLaw (K : PySem.W.Frag) : Sp := fun vs H Q _ => ∃ (a : Addr) (ns : List Int), vs = [.ref a] ∧ SqL K H a (ns.map V.int) ∧ ns.length ≤ 63 ∧ ∀ H', Q (.bl true) H'
def spDeck (K : PySem.W.Frag) : Sp := fun vs H Q _ => ∃ (a : Addr) (ns : List Int), vs = [.ref a] ∧ SqL K H a (ns.map V.int) ∧ ns.length ≤ 63 ∧
  ∀ (H' : Hp) (k : Dk), Same H H' → H k.a = none → H k.b = none → H k.c = none → DkAt k H' 1000000000000 → Q (.ref k.a) H'
def startLaw (n : Nat) (k : Dk) : Sg := .no :: .sh (.any (.ref k.a)) :: List.replicate (n - 2) .no
def spLawT (T : List (Addr × Str)) (K : PySem.W.Frag) : Sp := fun vs H Q E => (∀ p ∈ T, H p.1 = some (.tbl #[])) ∧ spLaw K vs H Q E
theorem dlawT {T : List (Addr × Str)} (nd : (T.map (·.1)).Nodup) {P : Program} {w : World} {K : PySem.W.Frag} {mg : Str → Option Value} {base : Heap} {x qual y : Str} {s0 : Stmt} {rest : List Stmt} {st : Stmt} {f : Addr} {fd : FuncData} {N : List Str} {k : Nat} {dl : DTS} (F : Fun K x qual st f fd) (sc : FnScope N [y] (defScope st)) (hN : 2 ≤ N.length) (hbody : defBody st = s0 :: rest)
    (hb : ∀ (cdv : Value) (A : Around) (outer : List Env) (s : Shared) (H : Hp) (E : XK), Room k (A.deeper (envOfC qual (defScope st) s.heap.objs.size f cdv)) → PS (cxOf CX0 P w K mg base N qual (defScope st) f cdv A outer s H E).nox s0 (tAsg (tCall (spDeck K) [] E0 (tCons (tVar 0) tNil)) (gName 1)) ∧ DSs (cxOf CX0 P w K mg base N qual (defScope st) f cdv A outer s H E).nox rest dl)
    (h : ∀ dk : Dk, dk.t = T → dl (some dk) (startLaw N.length dk) 1000000000000 { nx := fun _ _ => False, rt := fun d _ => d = .bool true }) : FnOk P w K mg base CX0 (k + 1) f fd [y] (spLawT T K) := by
  refine F.ok sc (fun vs H Q E h => ?_) (fun cdv A outer s H vs Q E hr hsp => ?_)
  · obtain ⟨_, a, ns, rfl, _⟩ := h
    rfl
  · obtain ⟨hT, a, ns, rfl, hS, hlen, q⟩ := hsp
    obtain ⟨h1, h2⟩ := hb cdv A outer s H E hr
    refine ⟨tSeq _ (sOf K _ dl), by rw [hbody]; exact pss_cons h1 h2.ps, ?_⟩
    obtain ⟨n, hn⟩ : ∃ n, N.length = n + 2 := ⟨N.length - 2, by omega⟩
    have e0 : L2.start N [V.ref a] = some (.ref a) :: none :: List.replicate n none := by
      unfold L2.start
      rw [hn]
      rfl
    refine ⟨.ref a, by rw [e0]; rfl, a, ns, rfl, hS, hlen, fun H' dk0 same n1 n2 n3 hd0 => ?_⟩
    obtain ⟨ka, kb, kc, kt⟩ := dk0
    obtain ⟨dk, hdk⟩ : ∃ dk : Dk, dk = ⟨ka, kb, kc, T⟩ := ⟨_, rfl⟩
    have hd : DkAt dk H' 1000000000000 := by rw [hdk]; exact ⟨hd0.ab, hd0.ac, hd0.bc, hd0.at_⟩
    have tb : TbOk dk H' (fun _ => none) := by
      rw [hdk]
      exact ⟨nd, fun p hp => ⟨rfl, #[], same _ _ (hT p hp), True.intro, fun pos cv hc => by
        have z : codeAmong pos [] = some cv := hc
        simp [codeAmong] at z⟩⟩
    have eka : ka = dk.a := by rw [hdk]
    show _
    refine h2.sn (some dk) H' (fun _ => none) (startLaw N.length dk) 1000000000000 _ H' _ { nx := fun _ _ => False, rt := fun d _ => d = .bool true } ⟨fun _ => none, ?_⟩ ⟨fun _ _ _ _ _ h => h.elim, fun d f v H2 Hs2 _ _ hr h => ?_, fun _ _ _ _ _ h => h.elim, fun _ _ _ _ _ h => h.elim, fun _ _ _ _ _ _ _ _ h => h.elim⟩ (h dk (by rw [hdk]))
    · have sub : Same (fun _ => none) H' := fun a o h => nomatch h
      refine ⟨?_, ⟨_, hd, rfl, rfl, rfl, tb⟩, ⟨hd, rfl, rfl, rfl, tb⟩, Stp.refl sub, fun i d hi => ?_, fun i sl hi ho => ?_, fun i j sl u b hi hj ho => ?_⟩
      · rw [e0, hn]; simp [startLaw]
      · rw [e0]
        unfold startLaw at hi
        match i, hi with
        | 0, hi => cases hi
        | 1, hi => cases hi; exact ⟨.ref dk.a, by rw [← eka]; rfl, rfl⟩
        | i + 2, hi =>
          have hi : (List.replicate (N.length - 2) Sl.no)[i]? = some (.sh d) := hi
          rw [List.getElem?_replicate] at hi
          split at hi <;> cases hi
      all_goals
        exfalso
        have : ∀ (i : Nat) (s : Sl), (startLaw N.length dk)[i]? = some s → s.own = false := fun i s h => by
          have := List.mem_of_getElem? h
          unfold startLaw at this
          rcases List.mem_cons.mp this with h | h
          · rw [h]; rfl
          · rcases List.mem_cons.mp h with h | h
            · rw [h]; rfl
            · rw [(List.mem_replicate.mp h).2]; rfl
        rw [this i sl hi] at ho
        cases ho
    · subst h
      cases hr
      exact q H2
theorem dlaw {P : Program} {w : World} {K : PySem.W.Frag} {mg : Str → Option Value} {base : Heap} {x qual y : Str} {s0 : Stmt} {rest : List Stmt} {st : Stmt} {f : Addr} {fd : FuncData} {N : List Str} {k : Nat} {dl : DTS} (F : Fun K x qual st f fd) (sc : FnScope N [y] (defScope st)) (hN : 2 ≤ N.length) (hbody : defBody st = s0 :: rest)
    (hb : ∀ (cdv : Value) (A : Around) (outer : List Env) (s : Shared) (H : Hp) (E : XK), Room k (A.deeper (envOfC qual (defScope st) s.heap.objs.size f cdv)) → PS (cxOf CX0 P w K mg base N qual (defScope st) f cdv A outer s H E).nox s0 (tAsg (tCall (spDeck K) [] E0 (tCons (tVar 0) tNil)) (gName 1)) ∧ DSs (cxOf CX0 P w K mg base N qual (defScope st) f cdv A outer s H E).nox rest dl)
    (h : ∀ dk : Dk, dl (some dk) (startLaw N.length dk) 1000000000000 { nx := fun _ _ => False, rt := fun d _ => d = .bool true }) : FnOk P w K mg base CX0 (k + 1) f fd [y] (spLaw K) :=
  have F' := dlawT (T := []) List.nodup_nil F sc hN hbody hb fun dk _ => h dk
  F'.imp fun vs H Q E h => ⟨fun _ z => (nomatch z), h⟩
end DL
namespace DL
open PySem PySem.Spec PyProof.Rows L2
/-! texts as lists of codes; names between dots -/
abbrev cd (s : Str) : List Nat := TL.tl s
def sp : List Nat → List (List Nat)
  | [] => [[]]
  | c :: r => if c = 46 then [] :: sp r else match sp r with
    | [] => [[c]]
    | h :: t => (c :: h) :: t
theorem sp_ne : ∀ l : List Nat, sp l ≠ []
  | [] => by simp [sp]
  | c :: r => by
    unfold sp
    split
    · simp
    · split <;> simp
theorem spl_sp : ∀ (l acc : List Nat), TL.spl [46] 0 acc l = match sp l with
    | [] => [acc]
    | h :: t => (acc ++ h) :: t
  | [], acc => by rw [TL.spl_nil]; simp [sp]
  | c :: r, acc => by
    by_cases h : c = 46
    · subst h
      have hp : TL.pre [46] (46 :: r) = true := TL.pre_self [46] r
      rw [TL.spl_hit hp]
      have := spl_sp r []
      unfold sp
      rw [if_pos rfl]
      simp only [List.length_singleton, Nat.sub_self, List.append_nil]
      rw [this]
      cases e : sp r with
      | nil => exact absurd e (sp_ne r)
      | cons h t => simp
    · rw [TL.spl_miss (TL.pre_of_head [] r h), spl_sp r (acc ++ [c])]
      rw [sp, if_neg h]
      cases e : sp r with
      | nil => exact absurd e (sp_ne r)
      | cons h t => simp
theorem split_cd (x : Str) : (Txt.split x ".").map cd = sp (cd x) := by
  have := TL.split_spl x "." (by decide +kernel) (TL.kind_ok (by decide +kernel))
  rw [show TL.tl (Str.ofString ".") = [46] from by decide +kernel, spl_sp] at this
  rw [this]
  cases e : sp (cd x) with
  | nil => exact absurd e (sp_ne _)
  | cons h t => rfl
def jn : List (List Nat) → List Nat
  | [] => []
  | [a] => a
  | a :: b :: r => a ++ 46 :: jn (b :: r)
theorem joinL_jn : ∀ l : List (List Nat), TL.joinL [46] l = jn l
  | [] => rfl
  | [a] => rfl
  | a :: b :: r => by
    have := joinL_jn (b :: r)
    show a ++ ([46] ++ TL.joinL [46] (b :: r)) = a ++ 46 :: jn (b :: r)
    rw [this]
    rfl
theorem jn_sp : ∀ l : List Nat, jn (sp l) = l
  | [] => rfl
  | c :: r => by
    have ih := jn_sp r
    unfold sp
    split
    · next h =>
      subst h
      cases e : sp r with
      | nil => exact absurd e (sp_ne r)
      | cons h t =>
        rw [e] at ih
        show [] ++ 46 :: jn (h :: t) = 46 :: r
        rw [ih]
        rfl
    · cases e : sp r with
      | nil => exact absurd e (sp_ne r)
      | cons h t =>
        rw [e] at ih
        cases t with
        | nil => show c :: h = c :: r; rw [← ih]; rfl
        | cons b t => show (c :: h) ++ 46 :: jn (b :: t) = c :: r; rw [← ih]; rfl
theorem sp_one : ∀ {a : List Nat}, 46 ∉ a → sp a = [a]
  | [], _ => rfl
  | c :: r, h => by
    have hc : c ≠ 46 := fun e => h (by simp [e])
    have hr : 46 ∉ r := fun e => h (by simp [e])
    unfold sp
    rw [if_neg hc, sp_one hr]
theorem sp_app : ∀ (a r : List Nat), sp (a ++ 46 :: r) = sp a ++ sp r
  | [], r => by
    show sp (46 :: r) = [[]] ++ sp r
    rw [show sp (46 :: r) = if (46 : Nat) = 46 then [] :: sp r else _ from rfl, if_pos rfl]
    rfl
  | c :: a, r => by
    have ih := sp_app a r
    show sp (c :: (a ++ 46 :: r)) = _
    rw [sp, sp]
    by_cases h : c = 46
    · rw [if_pos h, if_pos h, ih]; rfl
    · rw [if_neg h, if_neg h, ih]
      cases e : sp a with
      | nil => exact absurd e (sp_ne a)
      | cons hd t => rfl
theorem jn_app : ∀ (a b : List (List Nat)), a ≠ [] → b ≠ [] → jn (a ++ b) = jn a ++ 46 :: jn b
  | [], _, h, _ => absurd rfl h
  | [x], [], _, h => absurd rfl h
  | [x], b :: r, _, _ => rfl
  | x :: y :: a, b, _, hb => by
    have := jn_app (y :: a) b (by simp) hb
    show x ++ 46 :: jn ((y :: a) ++ b) = (x ++ 46 :: jn (y :: a)) ++ 46 :: jn b
    rw [this]
    simp
theorem sp_jn : ∀ {l : List (List Nat)}, l ≠ [] → (∀ n ∈ l, 46 ∉ n) → sp (jn l) = l
  | [], h, _ => absurd rfl h
  | [a], _, h => sp_one (h a (by simp))
  | a :: b :: r, _, h => by
    show sp (a ++ 46 :: jn (b :: r)) = _
    rw [sp_app, sp_one (h a (by simp)), sp_jn (by simp) fun n hn => h n (by simp [hn])]
    rfl
theorem sp_inj {a b : List Nat} (h : sp a = sp b) : a = b := by rw [← jn_sp a, h, jn_sp]
/-- covering, by codes -/
theorem cov_iff (p o : List Nat) : (sp o).take (sp p).length = sp p ↔ o = p ∨ (p ++ [46]).isPrefixOf o = true := by
  constructor
  · intro h
    have e : sp o = sp p ++ (sp o).drop (sp p).length := by rw [← h, List.length_take]; rw [show min (sp p).length (sp o).length = (sp p).length from by have := congrArg List.length h; rw [List.length_take] at this; exact this]; rw [List.take_append_drop]
    by_cases hr : (sp o).drop (sp p).length = []
    · rw [hr, List.append_nil] at e
      exact .inl (sp_inj e)
    · right
      have := congrArg jn e
      rw [jn_sp, jn_app _ _ (sp_ne p) hr, jn_sp] at this
      rw [this, List.isPrefixOf_iff_prefix]
      exact ⟨jn ((sp o).drop (sp p).length), by simp⟩
  · rintro (h | h)
    · rw [h, List.take_length]
    · rw [List.isPrefixOf_iff_prefix] at h
      obtain ⟨r, rfl⟩ := h
      rw [List.append_assoc]
      show List.take _ (sp (p ++ 46 :: r)) = _
      rw [sp_app, List.take_left']
      rfl
theorem starts_cd (x y : Str) : Txt.startswith x y = (cd y).isPrefixOf (cd x) := by
  have hx : x.length = (cd x).length := TL.len_tl x
  have hy : y.length = (cd y).length := TL.len_tl y
  unfold Txt.startswith Builtin.Str.subAt
  rw [Bool.eq_iff_iff, Bool.and_eq_true, decide_eq_true_iff, List.isPrefixOf_iff_prefix, beq_iff_eq]
  constructor
  · rintro ⟨_, h⟩
    have e := congrArg Array.toList h
    rw [Array.toList_extract] at e
    simp only [Nat.zero_add, List.extract_eq_drop_take, List.drop_zero, Nat.sub_zero] at e
    exact ⟨(cd x).drop y.length, by show y.cps.toList ++ _ = _; rw [← e]; exact List.take_append_drop _ _⟩
  · rintro ⟨r, h⟩
    have hl := congrArg List.length h
    rw [List.length_append] at hl
    refine ⟨by omega, ?_⟩
    apply Array.toList_inj.mp
    rw [Array.toList_extract]
    simp only [Nat.zero_add, List.extract_eq_drop_take, List.drop_zero, Nat.sub_zero]
    show List.take y.length (cd x) = cd y
    rw [← h, hy, List.take_left']
    rfl
/-- path covers other -/
def cov (p o : Str) : Bool := decide (o = p) || Txt.startswith o (p ++ ".")
theorem cov_take (p o : Str) : cov p o = decide ((Txt.split o ".").take (Txt.split p ".").length = Txt.split p ".") := by
  have e1 := split_cd p
  have e2 := split_cd o
  have hl : (Txt.split p ".").length = (sp (cd p)).length := by rw [← e1, List.length_map]
  unfold cov
  rw [Bool.eq_iff_iff, Bool.or_eq_true, decide_eq_true_iff, decide_eq_true_iff, starts_cd, show cd (p ++ ".") = cd p ++ cd "." from TL.tl_append p ".", show cd (Str.ofString ".") = [46] from by decide +kernel]
  constructor
  · intro h
    have := (cov_iff (cd p) (cd o)).mpr (h.imp (fun e => by rw [e]) id)
    apply TL.map_tl_inj
    rw [List.map_take, hl]
    show List.take _ ((Txt.split o ".").map cd) = (Txt.split p ".").map cd
    rw [e1, e2]
    exact this
  · intro h
    have := congrArg (List.map cd) h
    rw [List.map_take, hl, e1, e2] at this
    exact ((cov_iff (cd p) (cd o)).mp this).imp (fun e => TL.ext_tl e) id
/-! plain texts -/
def asc (s : Str) : Prop := ∀ c ∈ cd s, c < 128
theorem asc_ok {s : Str} (h : asc s) : PyData.strOk s = true := by
  unfold PyData.strOk
  rw [Array.all_eq_true_iff_forall_mem]
  intro c hc
  have := h c (by simpa [cd, TL.tl] using hc)
  exact decide_eq_true (by omega)
theorem pyA_strs : ∀ l : List Str, pyA (l.map D.str) = l.map PyData.str
  | [] => rfl
  | x :: l => by show PyData.str x :: pyA (l.map D.str) = _; rw [pyA_strs l]; rfl
theorem lay_strs : ∀ {l : List Str}, (∀ s ∈ l, asc s) → PyData.canLayAll0 (l.map PyData.str) = true
  | [], _ => rfl
  | x :: l, h => Bool.and_eq_true_iff.mpr ⟨asc_ok (h x (by simp)), lay_strs fun s hs => h s (by simp [hs])⟩
theorem depth_strs : ∀ l : List Str, PyData.depthAll (l.map PyData.str) = 0
  | [] => rfl
  | x :: l => by show max 0 (PyData.depthAll (l.map PyData.str)) = 0; rw [depth_strs l]; rfl
theorem eqvAll_strs : ∀ l m : List Str, PyData.eqvAll (l.map PyData.str) (m.map PyData.str) = decide (l = m)
  | [], [] => rfl
  | [], _ :: _ => rfl
  | _ :: _, [] => rfl
  | x :: l, y :: m => by
    show ((x == y) && PyData.eqvAll (l.map PyData.str) (m.map PyData.str)) = _
    rw [eqvAll_strs l m, Bool.eq_iff_iff]
    simp
theorem shaped_strs {l : List Str} (h : ∀ s ∈ l, asc s) : SeqAt.shaped (D.lst (l.map D.str)).py = true := by
  show (PyData.canLayAll0 (pyA (l.map D.str)) && decide (PyData.depthAll (pyA (l.map D.str)) + 1 ≤ 64)) = true
  rw [pyA_strs, lay_strs h, depth_strs]
  rfl
theorem shaped_strsT {l : List Str} (h : ∀ s ∈ l, asc s) : SeqAt.shaped (D.tup (l.map D.str)).py = true := shaped_strs h
theorem oEq_lst {l m : List Str} {neg : Bool} {Q : D → Prop} (hl : ∀ s ∈ l, asc s) (hm : ∀ s ∈ m, asc s) (h : Q (.bool (xb neg (decide (l = m))))) : oEq neg (.lst (l.map D.str)) (.lst (m.map D.str)) Q := by
  refine oEq_data (shaped_strs hl) (shaped_strs hm) ?_
  show Q (.bool (xb neg (PyData.eqvAll (pyA (l.map D.str)) (pyA (m.map D.str)))))
  rw [pyA_strs, pyA_strs, eqvAll_strs]
  exact h
theorem oEq_tup {l m : List Str} {neg : Bool} {Q : D → Prop} (hl : ∀ s ∈ l, asc s) (hm : ∀ s ∈ m, asc s) (h : Q (.bool (xb neg (decide (l = m))))) : oEq neg (.tup (l.map D.str)) (.tup (m.map D.str)) Q := by
  refine oEq_data (shaped_strsT hl) (shaped_strsT hm) ?_
  show Q (.bool (xb neg (PyData.eqvAll (pyA (l.map D.str)) (pyA (m.map D.str)))))
  rw [pyA_strs, pyA_strs, eqvAll_strs]
  exact h
theorem cutD_take (xs : List D) (n : Nat) : cutD xs none (some (n : Int)) = xs.take n := by
  unfold cutD
  rw [HT.sIx_none, HT.sIx_nat]
  simp only [List.drop_zero, Nat.sub_zero]
  rw [← List.take_eq_take_min]
section
variable {K : PySem.W.Frag}
theorem shaped_ints (l : List Int) : SeqAt.shaped (.list (l.map PyData.int)) = true := by
  have h1 : PyData.canLayAll0 (l.map PyData.int) = true := by
    induction l with
    | nil => rfl
    | cons x l ih => exact Bool.and_eq_true_iff.mpr ⟨rfl, ih⟩
  have h2 : PyData.depthAll (l.map PyData.int) = 0 := by
    clear h1
    induction l with
    | nil => rfl
    | cons x l ih =>
      show max 0 (PyData.depthAll (l.map PyData.int)) = 0
      rw [ih]
      rfl
  unfold SeqAt.shaped
  show (PyData.canLayAll0 (l.map PyData.int) && decide (PyData.depthAll (l.map PyData.int) + 1 ≤ 64)) = true
  rw [h1, h2]
  rfl
theorem dp_ints {H : Hp} {a : Addr} {l : List Int} (h : H a = some (.lst (l.map V.int))) : Dp K H (.ref a) (.list (l.map PyData.int)) := by
  refine .lst (SqL.of h) ?_
  clear h
  induction l with
  | nil => exact .nil
  | cons x l ih => exact .cons (.int x) ih
theorem lo64 {x : Int} (h : 0 ≤ x) : -(2 ^ 64) < x := by omega
theorem hi64 {x : Int} (h : x < 2147483647) : x < 2 ^ 64 := by omega
theorem ix0 (n : Nat) : ixN (n + 1) 0 = some 0 := by
  unfold ixN
  rw [if_pos (by decide), if_pos (by omega)]
  rfl
theorem atI0 {α : Type} {x : α} {l : List α} : atI (x :: l) 0 = some x := atI_nat (j := 0) rfl
theorem same_upd {H : Hp} {p : Addr} {o : HO} (h : H p = none) : Same H (upd H p o) := fun b x e => by
  rw [upd_ne (ne_of_none e h)]
  exact e
end
end DL
namespace DL
open PySem PySem.Spec PyProof.Rows L2
/-! names and paths -/
def isName (s : Str) : Prop := 1 ≤ s.length ∧ s.length ≤ 8 ∧ ∀ c ∈ cd s, 97 ≤ c ∧ c ≤ 122
def PathN (m : Nat) (s : Str) : Prop := ∃ ns : List Str, 1 ≤ ns.length ∧ ns.length ≤ m ∧ (∀ n ∈ ns, isName n) ∧ s = Txt.join "." ns
theorem cd_join (ns : List Str) : cd (Txt.join "." ns) = jn (ns.map cd) := by
  rw [TL.join_eq]
  show TL.tl (Str.join "." ns) = _
  rw [TL.tl_join, show TL.tl (Str.ofString ".") = [46] from by decide +kernel, joinL_jn]
theorem jn_len : ∀ {l : List (List Nat)}, (∀ n ∈ l, n.length ≤ 8) → (jn l).length ≤ 9 * l.length
  | [], _ => Nat.zero_le _
  | [a], h => by have := h a (by simp); simp only [jn, List.length_singleton]; omega
  | a :: b :: r, h => by
    have ih := jn_len (l := b :: r) fun n hn => h n (by simp [hn])
    have := h a (by simp)
    simp only [jn, List.length_append, List.length_cons] at ih ⊢
    omega
theorem jn_mem {c : Nat} : ∀ {l : List (List Nat)}, c ∈ jn l → c = 46 ∨ ∃ n ∈ l, c ∈ n
  | [], h => by simp [jn] at h
  | [a], h => .inr ⟨a, by simp, h⟩
  | a :: b :: r, h => by
    have h : c ∈ a ++ 46 :: jn (b :: r) := h
    rcases List.mem_append.mp h with h | h
    · exact .inr ⟨a, by simp, h⟩
    · rcases List.mem_cons.mp h with h | h
      · exact .inl h
      · rcases jn_mem (l := b :: r) h with h | ⟨n, h1, h2⟩
        · exact .inl h
        · exact .inr ⟨n, by simp [h1], h2⟩
theorem isName.asc {s : Str} (h : isName s) : asc s := fun c hc => by have := h.2.2 c hc; omega
theorem isName.cdl {s : Str} (h : isName s) : (cd s).length ≤ 8 := by have := h.2.1; rw [TL.len_tl] at this; exact this
theorem PathN.mono {m n : Nat} {s : Str} (h : PathN m s) (e : m ≤ n) : PathN n s := by
  obtain ⟨ns, h1, h2, h3, h4⟩ := h
  exact ⟨ns, h1, by omega, h3, h4⟩
theorem PathN.len {m : Nat} {s : Str} (h : PathN m s) : s.length ≤ 9 * m := by
  obtain ⟨ns, h1, h2, h3, rfl⟩ := h
  have : (cd (Txt.join "." ns)).length ≤ 9 * (ns.map cd).length := by
    rw [cd_join]
    exact jn_len fun n hn => by
      obtain ⟨s, hs, rfl⟩ := List.mem_map.mp hn
      exact (h3 s hs).cdl
  rw [List.length_map] at this
  rw [TL.len_tl]
  show (cd (Txt.join "." ns)).length ≤ 9 * m
  omega
theorem PathN.asc {m : Nat} {s : Str} (h : PathN m s) : asc s := by
  obtain ⟨ns, h1, h2, h3, rfl⟩ := h
  intro c hc
  rw [cd_join] at hc
  rcases jn_mem hc with e | ⟨n, hn, e⟩
  · omega
  · obtain ⟨s, hs, rfl⟩ := List.mem_map.mp hn
    exact (h3 s hs).asc c e
theorem join_names (ns : List Str) (h : ∀ n ∈ ns, n.length ≤ 1000) (hl : ns.length ≤ 1000) (a : Str) (ha : a.length ≤ 8) : (ns.map (·.length)).sum + ns.length * a.length ≤ 16777216 := by
  have : ∀ ns : List Str, (∀ n ∈ ns, n.length ≤ 1000) → (ns.map (·.length)).sum ≤ 1000 * ns.length := by
    intro ns
    induction ns with
    | nil => intro _; exact Nat.le_refl _
    | cons x l ih =>
      intro h
      have h1 := h x (by simp)
      have h2 := ih fun n hn => h n (by simp [hn])
      simp only [List.map_cons, List.sum_cons, List.length_cons]
      omega
  have h1 := this ns h
  have h2 : ns.length * a.length ≤ ns.length * 8 := Nat.mul_le_mul_left _ ha
  omega
theorem atI_mem {α : Type} {xs : List α} {r : Int} (h0 : 0 ≤ r) (h1 : r < xs.length) : ∃ d, atI xs r = some d ∧ d ∈ xs := by
  have hl : r.toNat < xs.length := by omega
  have := atI_nat (xs := xs) (j := r.toNat) (v := xs[r.toNat]) (List.getElem?_eq_getElem hl)
  rw [Int.toNat_of_nonneg h0] at this
  exact ⟨_, this, List.getElem_mem hl⟩
theorem join_nil_cd (ns : List Str) : cd (Txt.join "" ns) = (ns.map cd).flatten := by
  rw [TL.join_eq]
  show TL.tl (Str.join "" ns) = _
  rw [TL.tl_join, show TL.tl (Str.ofString "") = [] from by decide +kernel]
  have : ∀ l : List (List Nat), TL.joinL [] l = l.flatten := by
    intro l
    induction l with
    | nil => rfl
    | cons a l ih =>
      cases l with
      | nil => simp [TL.joinL]
      | cons b l => show a ++ ([] ++ TL.joinL [] (b :: l)) = _; rw [ih]; rfl
  exact this _
theorem intsD_len (lo : Int) (n : Nat) : (intsD lo n).length = n := by unfold intsD; simp
end DL
namespace DL
open PySem PySem.Spec PyProof.Rows L2
section
variable {X : Cx} {K : PySem.W.Frag}
/-! zip of two lists, of two tuples -/
theorem pair_stp {H Hs : Hp} {T : Addr} {x y : V} {dx dy : D} (s : Same Hs H) (hT : H T = none) (h1 : Rp K Hs dx x) (h2 : Rp K Hs dy y) : ∃ Hs', Stp none H Hs (upd H T (.tup [x, y])) Hs' ∧ Rp K Hs' (.tup [dx, dy]) (.ref T) :=
  ⟨upd Hs T (.tup [x, y]), Stp.alloc s hT, rp_tup ⟨x, [y], rfl, h1, RpA.one h2⟩ (same_none s hT)⟩
end
def D.isSt : D → Bool
  | .str _ => true
  | _ => false
/-! data that are told apart sign by sign -/
mutual
/-- no objects within; dicts as they are -/
def D.tyd : D → Bool
  | .tup xs => tydA xs
  | .lst xs => tydA xs
  | .dtt _ _ => false
  | .ktup _ => false
  | .ftp _ => false
  | .obj _ _ _ => false
  | .exn _ _ _ => false
  | .any _ => false
  | _ => true
def tydA : List D → Bool
  | [] => true
  | x :: xs => x.tyd && tydA xs
end
mutual
def D.plain : D → Bool
  | .tup xs => decide (xs.length ≤ 100000) && plainA xs
  | .lst xs => decide (xs.length ≤ 100000) && plainA xs
  | .dct _ _ => false
  | .dtt _ _ => false
  | .ktup _ => false
  | .ftp _ => false
  | .obj _ _ _ => false
  | .exn _ _ _ => false
  | .any _ => false
  | _ => true
def plainA : List D → Bool
  | [] => true
  | x :: xs => x.plain && plainA xs
end
mutual
def D.dep : D → Nat
  | .tup xs => depA xs + 1
  | .lst xs => depA xs + 1
  | _ => 0
def depA : List D → Nat
  | [] => 0
  | x :: xs => max x.dep (depA xs)
end
end DL
namespace DL
open PySem PySem.Spec PyProof.Rows L2
section
variable {X : Cx} {K : PySem.W.Frag}
/-! x.rpartition(sep) -/
def rRpart : V → List V → Hp → VK → Prop := fun x xs H Q => ∃ a b, x = .str a ∧ xs = [.str b] ∧ (b.length == 0) = false ∧ a.length ≤ sizeLine ∧
    ∀ p, H p = none → Q (.ref p) (upd H p (.tup [.str (Txt.rpartition a b).1, .str (Txt.rpartition a b).2.1, .str (Txt.rpartition a b).2.2]))
theorem mt_rpart : MtR X "str.rpartition" rRpart := by
  intro pins s st H x xs v us Q I rx rs h
  obtain ⟨a, b, rfl, rfl, hb, hz, h⟩ := h
  obtain ⟨t, rfl⟩ := rx
  cases rs with
  | cons r1 rs =>
    cases rs
    obtain ⟨u, rfl⟩ := r1
    refine call_meets F.slot_str_rpartition (typeIs_str _ _ _) F.entry_str_rpartition (F.args_str_rpartition_2 _ _) (meets_str_rpartition a b t u hb hz) ?_
    unfold Txt.rpartition at h
    revert h
    cases Builtin.Str.lastOccurrence a b 0 a.length with
    | none => intro h; exact laid_parts I h
    | some i => intro h; exact laid_parts I h
def oRpart : OM := fun x ds Q => match x, ds with
  | .str a, [.str b] => (b.length == 0) = false ∧ a.length ≤ lim ∧ Q (.tup [.str (Txt.rpartition a b).1, .str (Txt.rpartition a b).2.1, .str (Txt.rpartition a b).2.2])
  | _, _ => False
theorem sm_rpart : SndM K rRpart oRpart := fun H Hs x vx ds vs Q Q' s rx rs hq hd => by
  unfold oRpart at hd
  split at hd
  · obtain ⟨v, rfl, h⟩ := rpA1 rs
    cases h
    refine ⟨_, _, rx, rfl, hd.1, lim_le hd.2.1, fun p hp => hq (.tup _) _ _ _ (Stp.alloc s hp) (rp_tup ?_ (same_none s hp)) hd.2.2⟩
    exact ⟨_, _, rfl, rfl, _, _, rfl, rfl, _, _, rfl, rfl, rfl⟩
  · exact hd.elim
theorem de_rpart {o e : Expr} {apos pos : Pos} {d d2 : DT} (ho : DE X o d) (he : DE X e d2) (hs : starEach [e] X.env = [(false, eval e X.env)] := by rfl) (hbase : attributeBase o "rpartition" X.env (eval o X.env) = eval o X.env := by rfl) (hline : (apos.endLine == pos.line) = true := by rfl) :
    DE X (.Call (.Attribute o "rpartition" apos) [e] [] pos) (dM1 oRpart d d2) := .mk' (pe_m1 F.slot_str_rpartition F.type_str_rpartition mt_rpart ho.pe he.pe hs hbase hline) (snd_m1 sm_rpart ho.sn he.sn)
end
theorem pre_dot (l : List Nat) : TL.pre [46] l = true ↔ ∃ r, l = 46 :: r := by
  unfold TL.pre
  rw [beq_iff_eq]
  cases l with
  | nil => simp
  | cons c r => simp
theorem rpart_cases (x : Str) : (Txt.rpartition x "." = (Str.empty, Str.empty, x) ∧ 46 ∉ cd x) ∨ ∃ i, cd x = (cd x).take i ++ 46 :: (cd x).drop (i + 1) ∧ 46 ∉ (cd x).drop (i + 1) ∧ cd (Txt.rpartition x ".").1 = (cd x).take i ∧ cd (Txt.rpartition x ".").2.2 = (cd x).drop (i + 1) := by
  have hd : TL.tl (Str.ofString ".") = [46] := by decide +kernel
  have hne : TL.tl (Str.ofString ".") ≠ [] := by rw [hd]; simp
  have at_ : ∀ i, PySem.StrLaws.At x "." x.length i ↔ ∃ r, (cd x).drop i = 46 :: r := fun i => by
    rw [TL.at_iff hne i, hd]
    exact pre_dot _
  have mem : ∀ k, 46 ∈ (cd x).drop k → ∃ j, k ≤ j ∧ PySem.StrLaws.At x "." x.length j := fun k h => by
    obtain ⟨j, hj, e⟩ := List.getElem_of_mem h
    rw [List.getElem_drop] at e
    have hj' : k + j < (cd x).length := by rw [List.length_drop] at hj; omega
    exact ⟨k + j, Nat.le_add_right _ _, (at_ _).mpr ⟨_, by rw [List.drop_eq_getElem_cons hj', e]⟩⟩
  rcases PySem.StrLaws.last_spec x "." with ⟨h1, h2⟩ | ⟨i, h1, h2, h3⟩
  · left
    refine ⟨by unfold Txt.rpartition; rw [h1], fun h => ?_⟩
    obtain ⟨j, _, hj⟩ := mem 0 (by simpa using h)
    exact h2 j hj
  · right
    obtain ⟨r, hr⟩ := (at_ i).mp h2
    have hil : i < (cd x).length := by
      have := congrArg List.length hr
      rw [List.length_drop, List.length_cons] at this
      omega
    have e46 : (cd x)[i] = 46 := by
      rw [List.drop_eq_getElem_cons hil] at hr
      exact (List.cons.inj hr).1
    refine ⟨i, ?_, fun h => ?_, ?_, ?_⟩
    · conv => lhs; rw [← List.take_append_drop i (cd x), List.drop_eq_getElem_cons hil, e46]
    · obtain ⟨j, hj, ha⟩ := mem (i + 1) h
      exact h3 j (by omega) ha
    · unfold Txt.rpartition
      rw [h1]
      show TL.tl (Builtin.Str.strSub x 0 i) = _
      rw [TL.tl_strSub]
      simp
    · unfold Txt.rpartition
      rw [h1]
      show TL.tl (Builtin.Str.strSub x (i + 1) x.length) = _
      rw [TL.tl_strSub_end]
/-- the names of a text, and what rpartition tells of them -/
theorem rpart_names (x : Str) : (Txt.rpartition x ".").1 = (if (Txt.split x ".").length ≤ 1 then Str.empty else Txt.join "." (Txt.split x ".").dropLast) ∧ ∃ ns, Txt.split x "." = ns ++ [(Txt.rpartition x ".").2.2] := by
  have e := split_cd x
  rcases rpart_cases x with ⟨h1, h2⟩ | ⟨i, h1, h2, h3, h4⟩
  · rw [sp_one h2] at e
    have : Txt.split x "." = [x] := TL.map_tl_inj e
    rw [this, h1]
    exact ⟨rfl, [], rfl⟩
  · rw [h1, sp_app, sp_one h2] at e
    have hne := sp_ne ((cd x).take i)
    have hlen : 2 ≤ (Txt.split x ".").length := by
      have := congrArg List.length e
      rw [List.length_map, List.length_append, List.length_singleton] at this
      have : (sp ((cd x).take i)).length ≠ 0 := fun z => hne (List.length_eq_zero_iff.mp z)
      omega
    have hn : Txt.split x "." ≠ [] := fun z => by rw [z] at hlen; simp at hlen
    have hdl : (Txt.split x ".").dropLast.map cd = sp ((cd x).take i) := by
      rw [List.map_dropLast, e, List.dropLast_concat]
    have hlast : cd ((Txt.split x ".").getLast hn) = (cd x).drop (i + 1) := by
      have h5 : ((Txt.split x ".").map cd).getLast (by simpa using hn) = (cd x).drop (i + 1) := by
        simp only [e, List.getLast_append, List.getLast_singleton]; simp
      rw [List.getLast_map] at h5
      exact h5
    refine ⟨?_, (Txt.split x ".").dropLast, ?_⟩
    · rw [if_neg (by omega)]
      apply TL.ext_tl
      show cd _ = cd _
      rw [h3, cd_join, hdl, jn_sp]
    · conv => lhs; rw [← List.dropLast_concat_getLast hn]
      congr 2
      apply TL.ext_tl
      show cd _ = cd _
      rw [hlast, h4]
theorem split_join_names {ns : List Str} (h0 : ns ≠ []) (h : ∀ n ∈ ns, isName n) : Txt.split (Txt.join "." ns) "." = ns := by
  apply TL.map_tl_inj
  show List.map cd _ = List.map cd _
  rw [split_cd, cd_join, sp_jn (by simpa using h0)]
  intro n hn hm
  obtain ⟨s, hs, rfl⟩ := List.mem_map.mp hn
  have := (h s hs).2.2 46 hm
  omega
theorem join_snoc (ns : List Str) (n : Str) (h : ns ≠ []) : Txt.join "." ns ++ "." ++ n = Txt.join "." (ns ++ [n]) := by
  apply TL.ext_tl
  show cd _ = cd _
  rw [cd_join, List.map_append, List.map_singleton, jn_app _ _ (by simpa using h) (by simp)]
  show TL.tl _ = _
  rw [TL.tl_append, TL.tl_append, show TL.tl (Str.ofString ".") = [46] from by decide +kernel]
  show cd (Txt.join "." ns) ++ [46] ++ cd n = _
  rw [cd_join]
  simp [jn]
end DL
namespace DL
open PySem PySem.Spec PyProof.Rows L2
section
variable {X : Cx} {K : PySem.W.Frag}
/-! x in y -/
def rInT (K : PySem.W.Frag) (neg : Bool) : R2 := fun x y H Q => ∃ d ds, Dp K H x d ∧ Dp K H y (.tuple ds) ∧ SeqAt.shaped d = true ∧ SeqAt.shaped (.tuple ds) = true ∧ Q (.bl (xb neg (ds.any fun z => PyData.eqv z d))) H
theorem op_inT (hu : X.A.units + 65 < cLine) : OpR X (compareOp .In) (rInT X.K false) := by
  intro pins s st H x y v u Q I rx ry h
  obtain ⟨d, ds, hd, he, sd, se, q⟩ := h
  obtain ⟨as, r1⟩ := Dp.reads I d x v hd rx
  obtain ⟨bs, r2⟩ := Dp.reads I (.tuple ds) y u he ry
  exact SeqAt.in_tuple_reads r2 r1 (SeqAt.canLay_of_shaped se) (SeqAt.canLay_of_shaped sd) (room_in_shaped sd hu) ⟨.bl _, H, I, rfl, q⟩
theorem op_notInT (hu : X.A.units + 65 < cLine) : OpR X (compareOp .NotIn) (rInT X.K true) := by
  intro pins s st H x y v u Q I rx ry h
  obtain ⟨d, ds, hd, he, sd, se, q⟩ := h
  obtain ⟨as, r1⟩ := Dp.reads I d x v hd rx
  obtain ⟨bs, r2⟩ := Dp.reads I (.tuple ds) y u he ry
  exact SeqAt.notIn_tuple_reads r2 r1 (SeqAt.canLay_of_shaped se) (SeqAt.canLay_of_shaped sd) (room_in_shaped sd hu) ⟨.bl _, H, I, rfl, q⟩
def rSign (neg : Bool) : R2 := fun x y H Q => ∃ (c : Nat) (z : Str), x = .str ⟨#[c]⟩ ∧ y = .str z ∧ Q (.bl (xb neg (decide (c ∈ z.cps.toList)))) H
def rInA (K : PySem.W.Frag) : R2 := fun x y H Q => rSign false x y H Q ∨ (rInD K x y H Q ∨ rInT K false x y H Q)
def rNotInA (K : PySem.W.Frag) : R2 := fun x y H Q => rSign true x y H Q ∨ (rNotInD K x y H Q ∨ rInT K true x y H Q)
theorem op_inA (hu : X.A.units + 65 < cLine) : OpR X (compareOp .In) (rInA X.K) := (show OpR X (compareOp .In) (rSign false) from op_in_sign).or ((op_inD hu).or (op_inT hu))
theorem op_notInA (hu : X.A.units + 65 < cLine) : OpR X (compareOp .NotIn) (rNotInA X.K) := (show OpR X (compareOp .NotIn) (rSign true) from op_notIn_sign).or ((op_notInD hu).or (op_notInT hu))
def oIn (neg : Bool) : O2 := fun x y Q => match y with
  | .str z => ∃ c : Nat, x = .str ⟨#[c]⟩ ∧ Q (.bool (xb neg (decide (c ∈ z.cps.toList))))
  | .lst ys => SeqAt.shaped x.py = true ∧ SeqAt.shaped (.list (pyA ys)) = true ∧ Q (.bool (xb neg ((pyA ys).any fun z => PyData.eqv z x.py)))
  | .tup ys => SeqAt.shaped x.py = true ∧ SeqAt.shaped (.tuple (pyA ys)) = true ∧ Q (.bool (xb neg ((pyA ys).any fun z => PyData.eqv z x.py)))
  | _ => False
theorem sr_in : SndR K (rInA K) (oIn false) := SndR.pure fun H Hs x y vx vy Q Q' s rx ry hq hd => by
  cases y <;> try exact hd.elim
  · obtain ⟨c, rfl, h⟩ := hd
    exact .inl ⟨c, _, rx, ry, hq (.bool _) _ rfl h⟩
  · next ys => exact .inr (.inr ⟨x.py, pyA ys, dp_mono s (rx.dpS hd.1), dp_mono s (Rp.dpS (d := .tup ys) ry hd.2.1), hd.1, hd.2.1, hq (.bool _) _ rfl hd.2.2⟩)
  · next ys => exact .inr (.inl ⟨x.py, pyA ys, dp_mono s (rx.dpS hd.1), dp_mono s (Rp.dpS (d := .lst ys) ry hd.2.1), hd.1, hd.2.1, hq (.bool _) _ rfl hd.2.2⟩)
theorem sr_notIn : SndR K (rNotInA K) (oIn true) := SndR.pure fun H Hs x y vx vy Q Q' s rx ry hq hd => by
  cases y <;> try exact hd.elim
  · obtain ⟨c, rfl, h⟩ := hd
    exact .inl ⟨c, _, rx, ry, hq (.bool _) _ rfl h⟩
  · next ys => exact .inr (.inr ⟨x.py, pyA ys, dp_mono s (rx.dpS hd.1), dp_mono s (Rp.dpS (d := .tup ys) ry hd.2.1), hd.1, hd.2.1, hq (.bool _) _ rfl hd.2.2⟩)
  · next ys => exact .inr (.inl ⟨x.py, pyA ys, dp_mono s (rx.dpS hd.1), dp_mono s (Rp.dpS (d := .lst ys) ry hd.2.1), hd.1, hd.2.1, hq (.bool _) _ rfl hd.2.2⟩)
theorem room65 {k : Nat} {A : Around} (r : Room k A) : A.units + 65 < cLine := by have := r.un; omega
theorem de_in {k : Nat} {a b : Expr} {pos : Pos} {da db : DT} (hr : Room k X.A) (ha : DE X a da) (hb : DE X b db) (hm : behindInMarks .In b = false := by rfl) : DE X (.Compare a [.In] [b] pos) (dOp (oIn false) da db) := de_cmp (op_inA (room65 hr)) sr_in ha hb hm
theorem dp_in {k : Nat} {a b : Expr} {pos : Pos} {da db : DT} (hr : Room k X.A) (ha : DE X a da) (hb : DE X b db) (hm : behindInMarks .In b = false := by rfl) : DP X (.Compare a [.In] [b] pos) (dTest (dOp (oIn false) da db)) := dp_cmp (op_inA (room65 hr)) sr_in ha hb hm
theorem dp_notIn {k : Nat} {a b : Expr} {pos : Pos} {da db : DT} (hr : Room k X.A) (ha : DE X a da) (hb : DE X b db) (hm : behindInMarks .NotIn b = false := by rfl) : DP X (.Compare a [.NotIn] [b] pos) (dTest (dOp (oIn true) da db)) := dp_cmp (op_notInA (room65 hr)) sr_notIn ha hb hm
/-! text * number -/
def CMulS (x : Str) (n : Int) : Prop := 0 ≤ n ∧ n ≤ 100000 ∧ x.length * n.toNat ≤ lim
theorem CMulS.ok {x : Str} {n : Int} (h : CMulS x n) : MulOk x n := by
  obtain ⟨h0, h1, h2⟩ := h
  refine ⟨?_, fun a b c => ?_, fun a b => ?_⟩
  · rw [decide_eq_false (by omega), decide_eq_false (by omega)]; rfl
  · have h3 : (x.length : Int) ≤ (2 ^ 63 - 1) / n := by
      rw [Int.le_ediv_iff_mul_le (by omega)]
      have e : (x.length : Int) * n = ((x.length * n.toNat : Nat) : Int) := by rw [Int.natCast_mul, Int.toNat_of_nonneg h0]
      rw [e]
      have : lim = 1000000 := rfl
      omega
    omega
  · unfold Builtin.Str.tooLong
    exact decide_eq_false (by have := lim_le h2; omega)
/-! {} and {k: v} -/
end
end DL
namespace DL
open PySem PySem.Spec PyProof.Rows L2
/-! instances of own classes -/
structure KC (K : PySem.W.Frag) (c : Str) (C : Addr) : Prop where
  ns : PySem.W.nsIn K mainGlobals c = some (some (.ref C))
  cls : Cls K C
theorem KC.uniq {K : PySem.W.Frag} {c : Str} {C C' : Addr} (k : KC K c C) (h : PySem.W.nsIn K mainGlobals c = some (some (.ref C'))) : C' = C := by
  have := k.ns
  rw [h] at this
  cases this
  rfl
section
variable {X : Cx} {K : PySem.W.Frag} {W : WX}
theorem lookup_zip {H : Hp} {f : Str} {y : D} : ∀ {ns : List Str} {xs : List D} {vs : List V}, RpA K H xs vs → (ns.zip xs).lookup f = some y → ∃ v, (ns.zip vs).lookup f = some v ∧ Rp K H y v
  | [], _, _, _, h => by simp at h
  | _ :: _, [], _, _, h => by simp at h
  | n :: ns, x :: xs, _, ⟨v, r, h1, h2, h3⟩, h => by
    subst h1
    rw [List.zip_cons_cons, List.lookup_cons] at h ⊢
    cases e : f == n with
    | true => rw [e] at h; cases h; exact ⟨v, rfl, h2⟩
    | false => rw [e] at h; exact lookup_zip h3 h
theorem putF_new {f : Str} {v : V} : ∀ {ns : List Str} {vs : List V}, ns.length = vs.length → f ∉ ns → putF f v (ns.zip vs) = (ns ++ [f]).zip (vs ++ [v])
  | [], [], _, _ => rfl
  | n :: ns, w :: vs, hl, h => by
    have e : n ≠ f := fun e => h (by simp [e])
    show (if n = f then _ else _) = _
    rw [if_neg e]
    show (n, w) :: putF f v (ns.zip vs) = _
    rw [putF_new (by simpa using hl) fun e => h (by simp [e])]
    rfl
/-! e.f -/
def dFld (c f : Str) (dl : DT) : DT := fun g r n Q => dl g r n fun d n1 => match d with
  | .obj c' ns xs => c' = c ∧ ∃ y, (ns.zip xs).lookup f = some y ∧ Q y n1
  | _ => False
theorem snd_fld {c f : Str} {C : Addr} {t : TE} {d : DT} (k : KC K c C) (n : NoAttr K C f) (h : Snd K t d) : Snd K (tFld K t f) (dFld c f d) := fun g r fu st H Hs Q Q' A hq hd =>
  h g r fu st H Hs _ _ A (fun x f1 v H1 Hs1 s1 k1 r1 q1 => by
    cases x <;> try exact q1.elim
    obtain ⟨rfl, y, hy, q1⟩ := q1
    obtain ⟨C', a, dx, vs, h0, rfl, h2, h3, h4, h5⟩ := r1
    cases k.uniq h0
    obtain ⟨w, hw, rw'⟩ := lookup_zip h5 hy
    exact ⟨a, C, dx, _, w, rfl, s1.sub _ _ h2, k.cls, n, hw, hq y f1 w H1 Hs1 s1 k1 rw' q1⟩) hd
theorem de_fld {c f : Str} {C : Addr} {e : Expr} {pos : Pos} {d : DT} (k : KC X.K c C) (n : NoAttr X.K C f) (h : DE X e d) (hb : attributeBase e f X.env (eval e X.env) = eval e X.env := by rfl) : DE X (.Attribute e f pos) (dFld c f d) :=
  .mk' (pe_fld h.pe hb) (snd_fld k n h.sn)
/-! self.f = e under __init__ -/
def sFldO (m : Bool) (i : Nat) (c f : Str) (dl : DT) : DTS := fun g r n E => ∃ a ns xs, r[i]? = some (.oi a c ns xs) ∧ f ∉ ns ∧ ns.length < 900 ∧ evM m dl g r n fun d n' => E.nx (r.set i (.oi a c (ns ++ [f]) (xs ++ [d]))) n'
theorem snd_fldO {m : Bool} {i : Nat} {c f : Str} {C : Addr} {t : TE} {d : DT} (k : KC K c C) (n : NoAttr K C f) (h : Snd K t d) : SndS K W (sFld K (tVar i) t f) (sFldO m i c f d) := fun g H0 Hs0 r fu st H D E s e hd => by
  obtain ⟨Hs, s⟩ := s
  obtain ⟨a, ns, xs, hx, hf, hl, hd⟩ := hd
  refine snd_evM h s (fun d f' v H' Hs' s' _ hr q => ?_) hd
  obtain ⟨_, ha, n1, n0, rfl, C', dx, vs, h0, q1, q2, q3, q4, q5, q6⟩ := s'.ow i _ hx rfl
  cases k.uniq h0
  have ho : Owned r st a := ⟨i, _, hx, rfl, ha⟩
  have hne : dx ≠ a := fun z => s'.notOwnedDx q2 (z ▸ ho)
  refine ⟨.ref a, ha, a, C, dx, ns.zip vs, rfl, q1, k.cls, n, ?_, e.nx _ f' st _ ⟨Hs', ?_⟩ q⟩
  · rw [List.length_zip]; omega
  · refine s'.mutOwn (u := .oi a c (ns ++ [f]) (xs ++ [d])) hx rfl ha rfl ⟨rfl, C, dx, vs ++ [v], h0, ?_, by rw [upd_ne hne]; exact q2, q3, q4, by simp [q5], q6.append (RpA.one hr)⟩
    rw [upd_same, putF_new q5 hf]
theorem ds_fldO (m : Bool) {i : Nat} {c f x : Str} {C : Addr} {e : Expr} {px apos pos : Pos} {d : DT} (k : KC X.K c C) (n : NoAttr X.K C f) (h : DE X e d) (hN : X.N[i]? = some x := by rfl) (hv : Vis X.env.scope x := by first | exact Or.inl rfl | exact Or.inr (Or.inl rfl) | exact Or.inr (Or.inr rfl)) (hd : (x == ("__debug__" : Str)) = false := by decide)
    (hcd : (x == ("__classdict__" : Str)) = false := by decide) (hs : swapsWith e (some (.Attribute (.Name x px) f apos)) pos.line X.env = pure false := by rfl) : DS X (.Assign [.Attribute (.Name x px) f apos] e pos) (sFldO m i c f d) :=
  .mk' (ps_fld (pe_var hN hv hd hcd) h.pe hs) (snd_fldO k n h.sn)
/-! C(..) -/
def spInit (K : PySem.W.Frag) (c : Str) (S : DSp) : Sp := fun vs H Q _ => ∃ (C x dx : Addr) (us : List V) (H1 : Hp) (g : Option Dk) (Hs : Hp) (ds : List D) (f : Nat) (Q' : QD), PySem.W.nsIn K mainGlobals c = some (some (.ref C)) ∧ vs = .ref x :: us ∧
  H = upd (upd H1 dx (.own x)) x (.ins C dx []) ∧ H1 x = none ∧ H1 dx = none ∧ dx ≠ x ∧ Same Hs H1 ∧ DkOk g H1 Hs f ∧ RpA K Hs ds us ∧ S g ds f Q' ∧
  ∀ d f' H' Hs', Stp g H1 Hs H' Hs' → DkOk g H' Hs' f' → Rp K Hs' d (.ref x) → Q' d f' → Q .non H'
structure Mkr (P : Program) (w : World) (K : PySem.W.Frag) (mg : Str → Option Value) (base : Heap) (k : Nat) (c : Str) (ps : List Str) (S : DSp) : Prop where
  ex : ∃ C f fd, Mk K C f ∧ FnOk P w K mg base CX0 k f fd ps (spInit K c S) ∧ Binds K fd ps [] ∧ PySem.W.nsIn K mainGlobals c = some (some (.ref C)) ∧ mg c = some (.ref C)
theorem snd_make {c : Str} {C : Addr} {S : DSp} {E : XK} {t : TA} {d : DTA} (h0 : PySem.W.nsIn K mainGlobals c = some (some (.ref C))) (ht : SndA K t d) : Snd K (tMake C (spInit K c S) [] E t) (dCall S d) := fun g ro f st H Hs Q Q' A hq hd =>
  ht g ro f st H Hs _ _ A (fun ds f1 vs H1 Hs1 s1 k1 r1 q1 => fun x dx hx hdx hne => by
    show spInit K c S (.ref x :: (vs ++ [])) _ _ E
    rw [List.append_nil]
    exact ⟨C, x, dx, vs, H1, g, Hs1, ds, f1, Q', h0, rfl, rfl, hx, hdx, hne, s1.sub, k1, r1, q1, fun d f' H' Hs' s2 k2 r2 q2 => ⟨rfl, hq d f' (.ref x) H' Hs' (s1.trans s2) k2 r2 q2⟩⟩) hd
theorem de_make {c : Str} {ps : List Str} {k : Nat} {S : DSp} {p pos : Pos} {e : Expr} {es : List Expr} {d : DTA} (m : Mkr X.prog X.w X.K X.mg X.base k c ps S) (hr : Room (k + 1) X.A)
    (ha : DA X (e :: es) d) (hg : Gl X c := by rfl) (hdb : (c == ("__debug__" : Str)) = false := by decide) (hs : starEach (e :: es) X.env = (false, eval e X.env) :: starEach es X.env := by rfl)
    (hpl : (backTo pos (starEach es X.env)).any (·.1) = false := by rfl) : DE X (.Call (.Name c p) (e :: es) [] pos) (dCall S d) := by
  obtain ⟨C, f, fd, M, F, hb, h0, hm⟩ := m.ex
  exact .mk' (pe_make M F hr hg hm hb .nil pass0 ha.pa hdb hs hpl) (snd_make h0 ha.sn)
/-- the instance under __init__ is shared -/
theorem SIn.shareO {g : Option Dk} {H0 Hs0 : Hp} {r : Sg} {f : Nat} {st : L2.St} {H Hs : Hp} (s : SIn K g H0 Hs0 r f st H Hs) {i : Nat} {c : Str} {ns : List Str} {xs : List D} {a : Addr} (hi : r[i]? = some (.oi a c ns xs)) :
    ∃ Hs', Stp g H0 Hs0 H Hs' ∧ DkOk g H Hs' f ∧ Rp K Hs' (.obj c ns xs) (.ref a) := by
  obtain ⟨_, ha, n1, n0, rfl, C, dx, vs, h0, q1, q2, q3, q4, q5, q6⟩ := s.ow i _ hi rfl
  have ho : Owned r st a := ⟨i, _, hi, rfl, ha⟩
  have hne : dx ≠ a := fun z => s.notOwnedDx q2 (z ▸ ho)
  have na : (upd Hs dx (.own a)) a = none := by rw [upd_ne fun z => hne z.symm]; exact n1
  refine ⟨upd (upd Hs dx (.own a)) a (.ins C dx (ns.zip vs)), (s.stp.share q4 q2 q3).share n0 q1 na, (s.dk.share (s.dkDx q4) q3).share (s.notDk ho) na, C, a, dx, vs, h0, rfl, upd_same, by rw [upd_ne hne, upd_same], q5, q6.mono fun b u e => ?_⟩
  rw [upd_ne (ne_of_none e n1), upd_ne (ne_of_none e q3)]
  exact e
/-! a def __init__ -/
def startI (n : Nat) (a : Addr) (c : Str) (ds : List D) : Sg := .oi a c [] [] :: (ds.map .sh ++ List.replicate (n - ds.length) .no)
variable {P : Program} {w : World} {mg : Str → Option Value} {base : Heap}
theorem dinit {x qual c : Str} {st : Stmt} {f : Addr} {fd : FuncData} {nm : Str} {N ps : List Str} {k : Nat} {S : DSp} {dl : DTS} (F : Fun K x qual st f fd) (sc : FnScope (nm :: N) (nm :: ps) (defScope st)) (len : ∀ g ds n Q, S g ds n Q → ds.length = ps.length)
    (hb : ∀ (cdv : Value) (A : Around) (outer : List Env) (s : Shared) (H : Hp) (E : XK), Room k (A.deeper (envOfC qual (defScope st) s.heap.objs.size f cdv)) → DSs (cxOf CX0 P w K mg base (nm :: N) qual (defScope st) f cdv A outer s H E).nox (defBody st) dl)
    (h : ∀ a g ds n Q, S g ds n Q → dl g (startI N.length a c ds) n { nx := fun r n => ∃ ns xs, r[0]? = some (.oi a c ns xs) ∧ Q (.obj c ns xs) n, rt := fun _ _ => False }) : FnOk P w K mg base CX0 (k + 1) f fd (nm :: ps) (spInit K c S) := by
  refine F.ok sc (fun vs H Q E h => ?_) (fun cdv A outer s H vs Q E hr hsp => ?_)
  · obtain ⟨C, x, dx, us, H1, g, Hs, ds, n, Q', h0, rfl, _, _, _, _, h1, h2, h3, h4, h5⟩ := h
    show us.length + 1 = ps.length + 1
    rw [← h3.length, len g ds n Q' h4]
  · obtain ⟨C, x, dx, us, H1, g, Hs, ds, n, Q', h0, rfl, rfl, hx, hdx, hne, h1, h2, h3, h4, h5⟩ := hsp
    refine ⟨_, (hb cdv A outer s _ E hr).ps, ?_⟩
    have l1 : Stp g H1 Hs (upd H1 dx (.own x)) Hs := Stp.lay h1 hdx
    have hx1 : upd H1 dx (.own x) x = none := by rw [upd_ne fun z => hne z.symm]; exact hx
    have l2 : Stp g H1 Hs (upd (upd H1 dx (.own x)) x (.ins C dx [])) Hs := l1.trans (Stp.lay l1.sub hx1)
    have nx' := h2.out hx
    have ndx := h2.out hdx
    have hsx : Hs x = none := same_none h1 hx
    have hsdx : Hs dx = none := same_none h1 hdx
    have S0 : SIn K g H1 Hs (startR N.length ds) n (L2.start N us) H1 Hs := start_in h1 h2 h3
    have no : ∀ (i : Nat) (s : Sl), (startR N.length ds)[i]? = some s → s.own = false := fun i s h => by
      have := List.mem_of_getElem? h
      unfold startR at this
      rcases List.mem_append.mp this with h | h
      · obtain ⟨d, _, rfl⟩ := List.mem_map.mp h
        rfl
      · rw [(List.mem_replicate.mp h).2]
        rfl
    have st0 : L2.start (nm :: N) (.ref x :: us) = some (.ref x) :: L2.start N us := by
      unfold L2.start
      simp
    have SI : SIn K g H1 Hs (startI N.length x c ds) n (L2.start (nm :: N) (.ref x :: us)) (upd (upd H1 dx (.own x)) x (.ins C dx [])) Hs := by
      rw [st0]
      refine ⟨by show (startR N.length ds).length + 1 = (L2.start N us).length + 1; rw [S0.len], ⟨n, h2⟩, (h2.mut ndx).mut nx', l2, fun i d hi => ?_, fun i sl hi ho => ?_, fun i j sl u b hi hj ho ho' h1' h2' => ?_⟩
      · cases i with
        | zero => cases hi
        | succ i => exact S0.sh i d hi
      · cases i with
        | zero =>
          cases hi
          exact ⟨x, rfl, hsx, hx, rfl, C, dx, [], h0, upd_same, by rw [upd_ne hne, upd_same], hsdx, hdx, rfl, rfl⟩
        | succ i => rw [no i sl hi] at ho; cases ho
      · cases i with
        | zero =>
          cases j with
          | zero => rfl
          | succ j => rw [no j u hj] at ho'; cases ho'
        | succ i => rw [no i sl hi] at ho; cases ho
    refine (hb cdv A outer s (upd (upd H1 dx (.own x)) x (.ins C dx [])) E hr).sn g H1 Hs _ n _ _ _ { nx := fun r n => ∃ ns xs, r[0]? = some (.oi x c ns xs) ∧ Q' (.obj c ns xs) n, rt := fun _ _ => False } ⟨Hs, SI⟩ ⟨fun r f st H' q h => ?_, fun d f v H' Hs' p k hr h => h.elim, fun _ _ _ _ _ h => h, fun _ _ _ _ _ h => h, fun _ _ _ _ _ _ _ _ h => h.elim⟩ (h x g ds n Q' h4)
    obtain ⟨Hs', q⟩ := q
    obtain ⟨ns, xs, e, h⟩ := h
    obtain ⟨Hs2, p, kk, rr⟩ := q.shareO e
    exact h5 _ f H' Hs2 p kk rr h
end
/-! methods, properties, in -/
def CalM (P : Program) (w : World) (K : PySem.W.Frag) (mg : Str → Option Value) (base : Heap) (k : Nat) (c m : Str) (ps : List Str) (S : DSp) : Prop :=
  ∃ C f fd, KC K c C ∧ Meth K C m f ∧ FnOk P w K mg base CX0 k f fd ps (spOf K S) ∧ Binds K fd ps []
def CalP (P : Program) (w : World) (K : PySem.W.Frag) (mg : Str → Option Value) (base : Heap) (k : Nat) (c m : Str) (ps : List Str) (S : DSp) : Prop :=
  ∃ C p f fd, KC K c C ∧ PropOf K C m p f ∧ FnOk P w K mg base CX0 k f fd ps (spOf K S) ∧ Binds K fd ps []
section
variable {X : Cx} {K : PySem.W.Frag} {W : WX}
def dProp (c : Str) (S : DSp) (o : DT) : DT := fun g r n Q => o g r n fun d n1 => match d with
  | .obj c' ns xs => c' = c ∧ S g [.obj c' ns xs] n1 Q
  | _ => False
theorem snd_prop {c : Str} {C : Addr} {S : DSp} {E : XK} {to : TE} {o : DT} (k : KC K c C) (ho : Snd K to o) : Snd K (tProp C (spOf K S) [] E to) (dProp c S o) := fun g ro f st H Hs Q Q' A hq hd =>
  ho g ro f st H Hs _ _ A (fun x f1 v H1 Hs1 s1 k1 r1 q1 => by
    cases x <;> try exact q1.elim
    next c' ns xs =>
    obtain ⟨rfl, q1⟩ := q1
    have r0 := r1
    obtain ⟨C', a, dx, vs, h0, rfl, h2, h3, h4, h5⟩ := r1
    cases k.uniq h0
    exact ⟨a, dx, _, rfl, s1.sub _ _ h2, g, Hs1, [.obj c' ns xs], f1, Q', s1.sub, k1, RpA.one r0, q1, fun d f' v H' Hs' s3 k3 r3 q3 => hq d f' v H' Hs' (s1.trans s3) k3 r3 q3⟩) hd
theorem de_prop {c m : Str} {k : Nat} {ps : List Str} {S : DSp} {o : Expr} {pos : Pos} {d : DT} (cp : CalP X.prog X.w X.K X.mg X.base k c m ps S) (hr : Room (k + 1) X.A) (ho : DE X o d) (hb' : attributeBase o m X.env (eval o X.env) = eval o X.env := by rfl) : DE X (.Attribute o m pos) (dProp c S d) := by
  obtain ⟨C, p, f, fd, kc, M, F, hb⟩ := cp
  exact .mk' (pe_prop ho.pe kc.cls M F hr hb .nil pass0 hb') (snd_prop kc ho.sn)
/-! x in o, by the class's own __contains__ -/
def rInO (C : Addr) (sp : Sp) (neg : Bool) : R2 := fun x y H Q => ∃ a dx fs, y = .ref a ∧ H a = some (.ins C dx fs) ∧ sp [.ref a, x] H (fun v H' => ∃ b, v = .bl b ∧ Q (.bl (xb neg b)) H') E0
theorem contains_own {C f : Addr} {k : Nat} {fd : FuncData} {ps : List Str} {sp : Sp} (M : Meth X.K C "__contains__" f) (F : FnOk X.prog X.w X.K X.mg X.base CX0 k f fd ps sp) (hr : Room k X.A) (hb : Binds X.K fd ps []) {pins : List (Addr × Obj)} {s : Shared} {st : L2.St} {H : Hp} {x : V} {v : Value} {a dx : Addr} {fs : List (Str × V)} {Q : Bool → Shared → Prop}
    (I : Inv X pins st H s) (rx : RelV x v) (ea : H a = some (.ins C dx fs)) {Q0 : Bool → Hp → Prop} (h : sp [.ref a, x] H (fun v H' => ∃ b, v = .bl b ∧ Q0 b H') E0) (hq : ∀ b H' s', Inv X pins st H' s' → Q0 b H' → Q b s') :
    wpAny (model X.prog X.w) X.A (contains (.ref a) v) Q X.xe s := by
  obtain ⟨mA, O, _⟩ := ins_get I.hok ea
  obtain ⟨od, J, _⟩ := O.look
  unfold contains
  refine wpAny_holding (wpAny_bind (wpAny_bind (J.type.here ((PySem.W.looks_findIn I.kIn M.at_).here ?_))))
  rw [if_neg (by simp)]
  refine wpAny_bind (PySem.W.unlessNone_K I.kIn J M.at_ M.fn (thn (run_fn (vs := [.ref a, x]) F hr hb .nil pass0 I (.cons rfl (.cons rx .nil)) h) fun u s1 ⟨w, H1, I1, r1, b, hb', q⟩ => ?_))
  subst hb'
  cases (show u = Value.bool b from r1)
  exact wpAny_truthy_bool (hq b H1 s1 I1 q)
theorem op_inO {C f : Addr} {k : Nat} {fd : FuncData} {ps : List Str} {sp : Sp} (M : Meth X.K C "__contains__" f) (F : FnOk X.prog X.w X.K X.mg X.base CX0 k f fd ps sp) (hr : Room k X.A) (hb : Binds X.K fd ps []) : OpR X (compareOp .In) (rInO C sp false) := by
  intro pins s st H x y v u Q I rx ry h
  obtain ⟨a, dx, fs, rfl, ea, h⟩ := h
  cases (show u = Value.ref a from ry)
  exact wpAny_bind (contains_own M F hr hb I rx ea h fun b H' s' I' q => wpAny_pure ⟨.bl b, H', I', rfl, q⟩)
def oInO (c : Str) (S : DSp) (neg : Bool) : O2 := fun x y Q => match y with
  | .obj c' ns xs => c' = c ∧ S none [.obj c' ns xs, x] 0 (fun z _ => ∃ b, z = .bool b ∧ Q (.bool (xb neg b)))
  | _ => False
theorem sr_inO {c : Str} {C : Addr} {S : DSp} {neg : Bool} (k : KC K c C) : SndR K (rInO C (spOf K S) neg) (oInO c S neg) := fun H Hs x y vx vy Q Q' s rx ry hq hd => by
  cases y <;> try exact hd.elim
  next c' ns xs =>
  obtain ⟨rfl, q⟩ := hd
  have r0 := ry
  obtain ⟨C', a, dx, vs, h0, rfl, h2, h3, h4, h5⟩ := ry
  cases k.uniq h0
  refine ⟨a, dx, _, rfl, s _ _ h2, none, Hs, [.obj c' ns xs, x], 0, _, s, trivial, ⟨_, _, rfl, r0, RpA.one rx⟩, q, fun d f' v H' Hs' p k r q => ?_⟩
  obtain ⟨b, rfl, q⟩ := q
  exact ⟨b, r, hq (.bool _) (.bl _) H' Hs' p rfl q⟩
theorem de_inO {c : Str} {k : Nat} {ps : List Str} {S : DSp} {a b : Expr} {pos : Pos} {da db : DT} (cm : CalM X.prog X.w X.K X.mg X.base k c "__contains__" ps S) (hr : Room k X.A) (ha : DE X a da) (hb : DE X b db) (hm : behindInMarks .In b = false := by rfl) :
    DE X (.Compare a [.In] [b] pos) (dOp (oInO c S false) da db) := by
  obtain ⟨C, f, fd, kc, M, F, hb'⟩ := cm
  exact de_cmp (op_inO M F hr hb') (sr_inO kc) ha hb hm
/-! isinstance with instances of own classes among the values -/
structure KTy (K : PySem.W.Frag) (C : Addr) : Prop where
  ha : PySem.W.findIn K (.ref C) "__class__" = some (some (.builtin "object.__class__"))
  hn : PySem.W.specialIn K (.builtin "object.__class__") "__get__" = some (some (.builtin "getset_descriptor.__get__"))
  htk : PySem.W.takesIn K (.builtin "object.__class__") = some true
  hm : PySem.W.mroIn K C (.type "object") = some true
end
end DL
namespace DL
open PySem PySem.Spec PyProof.Rows L2
/-! sorted(..) of data that can be compared: a list, a tuple, a dict's keys -/
section
variable {prog : Program} {w : World} {A : Around} {E : Value → Shared → Prop} {s : Shared}
theorem collect_tup {l : Addr} {vs : List Value} {Q : List Value → Shared → Prop} (hl : IsTup s.heap l vs.toArray)
    (h : Q vs { s with heap := (s.heap.push (seqObj "list" #[] 0)).update s.heap.objs.size (Obj.mapSeq (· ++ vs.toArray)) }) (hsz : vs.length ≤ sizeLine) :
    wpAny (model prog w) A (collect (.ref l)) Q E s := by
  obtain ⟨o, ho, hc, n, hd⟩ := id hl
  unfold collect
  refine wpAny_bind (wpAny_runValue (codeAny_builtin entry_proto_collect' ?_))
  show wpAny _ _ (do again (.builtin "list.__iadd__" ⟨[← newList [], .ref l], []⟩)) _ _ s
  refine wpAny_bind (wpAny_newList (wpAny_pure ⟨Code.quiet_builtin _ (by decide +kernel), codeAny_builtin entry_list_iadd' ?_⟩))
  show wpAny _ _ (Builtin.List.listExtendWith (.ref s.heap.objs.size) (.ref l) (.ref s.heap.objs.size)) _ _ { s with heap := s.heap.push (seqObj "list" #[] 0) }
  unfold Builtin.List.listExtendWith
  have ho' : (s.heap.push (seqObj "list" #[] 0)).get? l = some o := Heap.get?_push_of_some _ ho
  refine wpAny_bind (wpAny_typeOf (T := "tuple") ⟨o, ho', hc⟩ ?_)
  have ht : (Value.type "tuple" == Value.type "tuple") = true := by rfl
  rw [if_pos (by rw [ht]; simp)]
  refine wpAny_bind (listItems_at ho' hd ?_)
  refine wpAny_bind (listItems_at (xs := #[]) (n := 0) (Heap.get?_push_size _ rfl) rfl ?_)
  rw [if_neg (by simp)]
  refine wpAny_bind (listUpdate_at (xs := #[]) (n := 0) (Heap.get?_push_size _ rfl) rfl ?_ (Nat.zero_le _) (by show (#[] ++ vs.toArray).size ≤ sizeLine + 1; simp only [Array.size_append, List.size_toArray, List.length_nil]; omega))
  refine wpAny_pure ?_
  show wpAny (model prog w) A (do
      let o ← load s.heap.objs.size
      match o.data with
      | .seq xs _ => pure xs.toList
      | _ => unsupported "internal:collect") Q E { s with heap := (s.heap.push (seqObj "list" #[] 0)).update s.heap.objs.size (Obj.mapSeq (· ++ vs.toArray)) }
  refine wpAny_bind (wpAny_load (get?_update_seq (Heap.get?_push_size _ rfl) _) ?_)
  show wpAny _ _ (pure ((#[] : Array Value) ++ vs.toArray).toList) Q E _
  rw [show ((#[] : Array Value) ++ vs.toArray).toList = vs by simp]
  exact wpAny_pure h
theorem copied_old {h : Heap} {vs : List Value} {b : Addr} {o : Obj} (e : h.get? b = some o) : ((h.push (seqObj "list" #[] 0)).update h.objs.size (Obj.mapSeq (· ++ vs.toArray))).get? b = some o := by
  rw [Heap.get?_update_ne _ _ _ _ (Nat.ne_of_lt (Heap.lt_size e))]
  exact Heap.get?_push_of_some _ e
end
mutual
theorem reads_lt {h : Heap} : ∀ {v : Value} {d : PyData} {as : List Addr}, Reads h v d as → ∀ x ∈ as, x < h.objs.size
  | _, _, _, .none, x, hx => by cases hx
  | _, _, _, .bool b, x, hx => by cases hx
  | _, _, _, .int i t, x, hx => by cases hx
  | _, _, _, .str y t, x, hx => by cases hx
  | _, _, _, .list h1 h2 h3 h4, x, hx => by
    rcases List.mem_cons.mp hx with rfl | hx
    · exact Heap.lt_size h1
    · exact readsA_lt h4 x hx
  | _, _, _, .tuple h1 h2 h3 h4, x, hx => readsA_lt h4 x hx
  | _, _, _, .dict h1 h2 h3 h4 h5, x, hx => by
    rcases List.mem_append.mp hx with hx | hx
    · rcases List.mem_cons.mp hx with rfl | hx
      · exact Heap.lt_size h1
      · exact readsA_lt h4 x hx
    · exact readsA_lt h5 x hx
theorem readsA_lt {h : Heap} : ∀ {vs : List Value} {ds : List PyData} {as : List Addr}, ReadsAll h vs ds as → ∀ x ∈ as, x < h.objs.size
  | _, _, _, .nil, x, hx => by cases hx
  | _, _, _, .cons h1 h2, x, hx => by
    rcases List.mem_append.mp hx with hx | hx
    · exact reads_lt h1 x hx
    · exact readsA_lt h2 x hx
end
def Src (K : PySem.W.Frag) (H : Hp) (a : Addr) (xs : List V) : Prop := SqL K H a xs ∨ SqT K H a xs ∨ (∃ kvs : List (Key × V), Rd H a (.dK kvs) ∧ xs = kvs.map fun kv => kV kv.1) ∨ ∃ (w : World) (L : List (List (Str × Str) × Addr)), H a = some (DnO w a L) ∧ xs = L.map fun p => V.ref p.2
section
variable {X : Cx} {pins : List (Addr × Obj)} {st : L2.St} {H : Hp} {s : Shared}
theorem collect_src {a : Addr} {xs : List V} {A : Around} {R : List Value → Shared → Prop} {E : Value → Shared → Prop} (I : Inv X pins st H s) (hc : A.handled = none) (h : Src X.K H a xs) (hl : xs.length ≤ sizeLine)
    (q : ∀ (h' : Heap) (tk : Nat) (us : List Value), (∀ b o, s.heap.get? b = some o → h'.get? b = some o) → Vals xs us → R us { s with heap := h', toks := tk }) : wpAny (model X.prog X.w) A (collect (.ref a)) R E s := by
  rcases h with h | h | ⟨kvs, h, rfl⟩ | ⟨w0, L, h, rfl⟩
  · obtain ⟨its, rv, hp, hz⟩ := I.list h
    exact collect_list hp.isList (q _ _ its (fun b o e => copied_old e) rv) (by rw [← rv.length]; exact hz)
  · obtain ⟨its, rv, hp, hz⟩ := I.tuple h
    exact collect_tup hp (q _ _ its (fun b o e => copied_old e) rv) (by rw [← rv.length]; exact hz)
  · obtain ⟨z, lo, vs, rel, dd⟩ := dk_rd I.hok h
    obtain ⟨ep, hat⟩ := dd.dictAt
    have ek : (kvs.map fun kv => kV kv.1) = vs.map fun p => kV p.1 := by
      have e := congrArg (List.map kV) rel.keys
      rw [List.map_map, List.map_map] at e
      exact e
    refine PySem.W.kdu_collect (PySem.W.kdl_dict (knd := mixKind X.prog X.w) (kvs := vs) (ep := ep) lo) hc hat (by rw [← rel.length]; exact z) fun h' tk acc hk hacc => ?_
    refine q h' tk acc.toList hk ?_
    rw [ek]
    refine keys_at (by rw [Array.length_toList, hacc.1]) fun j v e => ?_
    exact hacc.2 j v (by rw [← Array.getElem?_toList]; exact e)
  · obtain ⟨⟨o, es, ep, ho, hx, hd, he, _, lo, _⟩, _, _⟩ := (show ObjOk X.prog X.w H s.heap a (DnO w0 a L) from I.hok a _ h)
    have l1 : es.size = L.length := by
      have := congrArg List.length he
      rw [Array.length_toList, List.length_map] at this
      exact this
    refine PySem.W.kdu_collect (kdl_raw lo hx hd) hc ho (by rw [l1]; rw [List.length_map] at hl; exact hl) fun h' tk acc hk hacc => ?_
    refine q h' tk acc.toList hk ?_
    have ea : acc.toList = (L.map fun p => p.2).map Value.ref := by
      have hl2 : acc.toList.length = L.length := by rw [Array.length_toList, hacc.1]; exact l1
      apply List.ext_getElem?
      intro j
      rw [List.map_map, List.getElem?_map]
      cases hj : acc.toList[j]? with
      | none =>
        have h1 := List.getElem?_eq_none_iff.mp hj
        rw [List.getElem?_eq_none (by omega)]
        rfl
      | some v =>
        obtain ⟨en, hen, hv⟩ := hacc.2 j v (by rw [← Array.getElem?_toList]; exact hj)
        have e2 : es.toList[j]? = some en := by rw [Array.getElem?_toList]; exact hen
        rw [he, List.getElem?_map] at e2
        cases hb : L[j]? with
        | none => rw [hb] at e2; cases e2
        | some b =>
          rw [hb] at e2
          have e3 : _ = en := Option.some.inj e2
          rw [hv, ← e3]
          rfl
    have eb : (L.map fun p => V.ref p.2) = (L.map fun p => p.2).map V.ref := by rw [List.map_map]; rfl
    rw [ea, eb]
    exact vals_refs _
def rSortA (K : PySem.W.Frag) : List V → Hp → VK → Prop := fun vs H Q => ∃ (a : Addr) (bs : List (V × PyData)), vs = [.ref a] ∧ Src K H a (bs.map (·.1)) ∧ bs.length ≤ lim ∧ (∀ b ∈ bs, Dp K H b.1 b.2) ∧ PySem.W.AllAlike (bs.map (·.2)) ∧ PySem.W.Sortable (bs.map (·.2)) ∧ (∀ b ∈ bs, b.2.depth ≤ 30) ∧
  ∀ p, H p = none → Q (.ref p) (upd H p (.lst ((bs.mergeSort (PySem.W.dataLe false (·.2))).map (·.1))))
theorem each_vals : ∀ {bs : List (V × PyData)} {us : List Value}, Vals (bs.map (·.1)) us → PySem.W.EachIs (fun v (b : V × PyData) => RelV b.1 v) us bs
  | [], _, h => by cases h; exact .nil
  | b :: bs, _, h => by
    rw [List.map_cons] at h
    cases h with
    | cons r t => exact .cons r (each_vals t)
theorem vals_each : ∀ {bs : List (V × PyData)} {us : List Value}, PySem.W.EachIs (fun v (b : V × PyData) => RelV b.1 v) us bs → Vals (bs.map (·.1)) us
  | [], _, h => by cases h; exact .nil
  | b :: bs, _, h => by
    cases h with
    | cons r t => exact .cons r (vals_each t)
theorem cr_sortA (hc : X.calm = true) (hu : X.A.units + 64 < cLine) : CallR X (.builtin "sorted") (rSortA X.K) := by
  intro pins s st H vs us Q I r h
  obtain ⟨a, bs, rfl, hs, hl, hdp, hal, hk, hde, q⟩ := h
  rw [Vals.ref1 r]
  refine Calls.call_function_entry PyProof.Rows.kind_sorted PyProof.Rows.plain_sorted PyProof.Rows.entry_sorted (PyProof.Rows.args_sorted1 _) ?_
  unfold Builtin.«sorted»
  refine wpAny_bind (m := checkCount "sorted" 1 1 _) (wpAny_pure ?_)
  have hL : bs.length ≤ sizeLine := lim_le hl
  refine wpAny_bind (collect_src (A := X.A.in1) I (I.ok.hd hc) hs (by rw [List.length_map]; exact hL) fun h' tk ws keep rv => ?_)
  have I1 : Inv X pins st H { s with heap := h', toks := tk } := I.kept keep
  have hwl : ws.length = bs.length := by rw [← rv.length, List.length_map]
  refine wpAny_bind (wpAny_newList ?_ (by rw [hwl]; exact hL))
  have hoL : (h'.push (seqObj "list" ws.toArray 0)).get? h'.objs.size = some (seqObj "list" ws.toArray 0) := Heap.get?_push_size _ rfl
  show wpAny _ _ _ _ _ { s with heap := h'.push (seqObj "list" ws.toArray 0), toks := tk }
  have e := each_vals rv
  have er : PySem.W.EachIs (fun v (b : V × PyData) => ∃ as, Reads (h'.push (seqObj "list" ws.toArray 0)) v b.2 as ∧ h'.objs.size ∉ as) ws bs := by
    refine (PySem.W.each_mem e).mono fun v b ⟨rb, hb⟩ => ?_
    obtain ⟨as, ra⟩ := Dp.reads I1 b.2 b.1 v (hdp b hb) rb
    refine ⟨as, PyProof.Rows.Reads.keeps (fun _ _ z => Heap.get?_push_of_some _ z) ra, fun z => ?_⟩
    exact Nat.lt_irrefl _ (reads_lt ra _ z)
  refine wpAny_bind (wpAny_holding (PySem.W.list_sort_data (A := X.A.in1) (s := { s with heap := h'.push (seqObj "list" ws.toArray 0), toks := tk }) hoL e er hal hk hL (fun b hb => ?_) fun out ho hout => ?_))
  · have := hde b hb
    show X.A.units + 1 + 1 + b.2.depth < cLine
    omega
  · obtain ⟨e', he'⟩ := PyProof.Rows.sortedHeap_at (vs := ws) (out := out.toArray) hoL
    have hv := vals_each hout
    have hlen : ((bs.mergeSort (PySem.W.dataLe false (·.2))).map (·.1)).length ≤ sizeLine := by rw [List.length_map, List.length_mergeSort]; exact hL
    refine wpAny_pure ⟨_, rfl, .ref h'.objs.size, upd H h'.objs.size (.lst _), I1.laid (t' := tk) (fun b u e => ?_) (Nat.le_refl _)
      (show ObjOk X.prog X.w _ _ _ (.lst _) from ⟨hlen, out, e', hv, he'⟩), rfl, q _ (I1.hok.fresh (Nat.le_refl _))⟩
    have hb : b < h'.objs.size := Heap.lt_size e
    rw [PyProof.Rows.sortedHeap_old (Nat.ne_of_lt hb) (by rw [size_push']; exact Nat.lt_succ_of_lt hb)]
    exact Heap.get?_push_of_some _ e
variable {K : PySem.W.Frag}
def sortD (xs : List D) : List D := xs.mergeSort (PySem.W.dataLe false D.py)
structure Sorts (xs : List D) : Prop where
  len : xs.length ≤ lim
  lay : PyData.canLayAll0 (pyA xs) = true
  al : PySem.W.AllAlike (xs.map D.py)
  so : PySem.W.Sortable (xs.map D.py)
  dep : ∀ x ∈ xs, x.py.depth ≤ 30
def keyD : Key → D
  | .inl i => .int i
  | .inr x => .str x
def oSorted : OA := fun ds Q => match ds with
  | [.lst xs] => Sorts xs ∧ Q (.lst (sortD xs))
  | [.tup xs] => Sorts xs ∧ Q (.lst (sortD xs))
  | [.ftp xs] => Sorts xs ∧ Q (.lst (sortD xs))
  | [.dct ks _] => Sorts (ks.map keyD) ∧ Q (.lst (sortD (ks.map keyD)))
  | _ => False
theorem RpA.zip_snd {H : Hp} : ∀ {ds : List D} {vs : List V}, RpA K H ds vs → (vs.zip (ds.map D.py)).map (·.1) = vs ∧ (vs.zip (ds.map D.py)).map (·.2) = ds.map D.py ∧ (vs.zip ds).map (fun p => (p.1, p.2.py)) = vs.zip (ds.map D.py) ∧ (vs.zip ds).map (·.2) = ds
  | [], _, h => by cases h; exact ⟨rfl, rfl, rfl, rfl⟩
  | d :: ds, _, ⟨v, r, h1, h2, h3⟩ => by
    subst h1
    obtain ⟨e1, e2, e3, e4⟩ := RpA.zip_snd h3
    simp [e1, e2, e3, e4]
theorem RpA.zip_rp {H : Hp} : ∀ {ds : List D} {vs : List V}, RpA K H ds vs → ∀ p ∈ vs.zip ds, Rp K H p.2 p.1
  | [], _, h, p, hp => by cases h; simp at hp
  | d :: ds, _, ⟨v, r, h1, h2, h3⟩, p, hp => by
    subst h1
    rw [List.zip_cons_cons] at hp
    rcases List.mem_cons.mp hp with rfl | hp
    · exact h2
    · exact RpA.zip_rp h3 p hp
theorem RpA.of_pairs {H : Hp} : ∀ (l : List (V × D)), (∀ p ∈ l, Rp K H p.2 p.1) → RpA K H (l.map (·.2)) (l.map (·.1))
  | [], _ => rfl
  | p :: l, h => ⟨_, _, rfl, h p (by simp), RpA.of_pairs l fun q hq => h q (by simp [hq])⟩
theorem lay_mem {xs : List D} (h : PyData.canLayAll0 (pyA xs) = true) : ∀ x ∈ xs, x.py.canLay0 = true := by
  induction xs with
  | nil => intro x hx; cases hx
  | cons y ys ih =>
    intro x hx
    have h' : y.py.canLay0 = true ∧ PyData.canLayAll0 (pyA ys) = true := Bool.and_eq_true_iff.mp h
    rcases List.mem_cons.mp hx with rfl | hx
    · exact h'.1
    · exact ih h'.2 x hx
theorem sort_core {H Hs : Hp} {xs : List D} {vs : List V} {a : Addr} {Q : VK} {Q' : D → Prop} (s : Same Hs H) (rx : RpA K Hs xs vs) (hs : Sorts xs) (src : Src K H a vs)
    (hq : ∀ z v H' Hs', Stp none H Hs H' Hs' → Rp K Hs' z v → Q' z → Q v H') (q : Q' (.lst (sortD xs))) : rSortA K [.ref a] H Q := by
  obtain ⟨e1, e2, e3, e4⟩ := rx.zip_snd
  have hlen := rx.length
  refine ⟨a, vs.zip (xs.map D.py), rfl, by rw [e1]; exact src, ?_, fun b hb => ?_, by rw [e2]; exact hs.al, by rw [e2]; exact hs.so, fun b hb => ?_, fun p hp => ?_⟩
  · rw [List.length_zip, List.length_map, hlen, Nat.min_self, ← hlen]; exact hs.len
  · rw [← e3] at hb
    obtain ⟨p, hp, rfl⟩ := List.mem_map.mp hb
    have hd : p.2 ∈ xs := by rw [← e4]; exact List.mem_map_of_mem hp
    exact dp_mono s ((rx.zip_rp p hp).dp _ _ (lay_mem hs.lay _ hd))
  · have : b.2 ∈ xs.map D.py := by rw [← e2]; exact List.mem_map_of_mem hb
    obtain ⟨x, hx, e⟩ := List.mem_map.mp this
    rw [← e]
    exact hs.dep x hx
  · have m1 : ((vs.zip xs).mergeSort (fun p q => PySem.W.dataLe false D.py p.2 q.2)).map (fun p => (p.1, p.2.py)) = (vs.zip (xs.map D.py)).mergeSort (PySem.W.dataLe false (·.2)) := by
      rw [← e3]
      exact List.map_mergeSort fun _ _ _ _ => rfl
    have m2 : ((vs.zip xs).mergeSort (fun p q => PySem.W.dataLe false D.py p.2 q.2)).map (·.2) = sortD xs := by
      unfold sortD
      conv => rhs; rw [← e4]
      exact List.map_mergeSort fun _ _ _ _ => rfl
    rw [← m1, List.map_map]
    have al : Stp none H Hs (upd H p (.lst (List.map ((fun x : V × PyData => x.1) ∘ fun p : V × D => (p.1, p.2.py)) ((vs.zip xs).mergeSort (fun p q => PySem.W.dataLe false D.py p.2 q.2))))) (upd Hs p (.lst (List.map ((fun x : V × PyData => x.1) ∘ fun p : V × D => (p.1, p.2.py)) ((vs.zip xs).mergeSort (fun p q => PySem.W.dataLe false D.py p.2 q.2))))) := Stp.alloc s hp
    refine hq (.lst (sortD xs)) _ _ _ al ⟨p, _, rfl, upd_same, ?_⟩ q
    rw [← m2]
    refine (RpA.of_pairs _ fun q hq => ?_).mono al.ext
    exact rx.zip_rp q ((List.mergeSort_perm _ _).mem_iff.mp hq)
theorem keys_rp {H : Hp} : ∀ ks : List Key, RpA K H (ks.map keyD) (ks.map kV)
  | [] => rfl
  | k :: ks => ⟨_, _, rfl, by cases k <;> rfl, keys_rp ks⟩
theorem sc_sorted : SndC K (rSortA K) oSorted := fun H Hs ds vs Q Q' s rx hq hd => by
  unfold oSorted at hd
  split at hd
  · next xs =>
    obtain ⟨v, r, rfl, ⟨a, us, rfl, h1, h2⟩, h3⟩ := rx
    cases h3
    exact sort_core s h2 hd.1 (.inl (SqL.of (s _ _ h1))) hq hd.2
  · next xs =>
    obtain ⟨v, r, rfl, ⟨a, us, rfl, h1, h2⟩, h3⟩ := rx
    cases h3
    exact sort_core s h2 hd.1 (.inr (.inl (tp_sq s h1))) hq hd.2
  · next xs =>
    obtain ⟨v, r, rfl, ⟨a, us, rfl, h1, h2⟩, h3⟩ := rx
    cases h3
    exact sort_core s h2 hd.1 (.inr (.inl (h1.mono s).sq)) hq hd.2
  · next ks xs =>
    obtain ⟨v, r, rfl, ⟨a, us, rfl, h1, h2, h3⟩, h4⟩ := rx
    cases h4
    refine sort_core s (keys_rp ks) hd.1 (.inr (.inr (.inl ⟨ks.zip us, .inl (s _ _ h1), ?_⟩))) hq hd.2
    have : ∀ (ks : List Key) (us : List V), ks.length = us.length → ks.map kV = (ks.zip us).map fun kv => kV kv.1 := by
      intro ks
      induction ks with
      | nil => intro us _; rfl
      | cons k ks ih =>
        intro us hl
        cases us with
        | nil => simp at hl
        | cons u us => simp only [List.zip_cons_cons, List.map_cons]; rw [← ih us (by simpa using hl)]
    exact this ks us h2
  · exact hd.elim
theorem de_sorted {k : Nat} {p pos : Pos} {e : Expr} {d : DTA} (hr : Room k X.A) (hm : X.mg "sorted" = none) (ha : DA X [e] d) (hc : X.calm = true := by rfl) (hg : Gl X "sorted" := by rfl) (hs : starEach [e] X.env = (false, eval e X.env) :: starEach [] X.env := by rfl)
    (hpl : (backTo pos (starEach [] X.env)).any (·.1) = false := by rfl) : DE X (.Call (.Name "sorted" p) [e] [] pos) (dCB oSorted d) :=
  de_callB (cr_sortA hc hr.units) sc_sorted hg hm (by decide +kernel) ha (by decide) (by decide) hs hpl
end
end DL
namespace PySem
open Sem (wp)
open AutoSeq1 (wpAny_loadPart')
set_option maxHeartbeats 1000000 in
theorem meets_enumerate_newT (l : Addr) (items : Array Value) (n : Nat) (dct : Option Addr) (sl : Array (Option Value)) :
    Meets (Builtin.«enumerate.__new__» ⟨[.type "enumerate", .ref l], []⟩) (fun _ R s => s.heap.get? l = some { cls := .type "tuple", dict := dct, data := .seq items n, slots := sl } ∧
      R (.ok (.ret (.ref (s.heap.push { cls := .type "tuple_iterator", data := .fields #[.ref l, .int 0 0] }).objs.size)))
        { s with heap := (s.heap.push { cls := .type "tuple_iterator", data := .fields #[.ref l, .int 0 0] }).push { cls := .type "enumerate", data := .fields #[.none, .bool false, .ref s.heap.objs.size, rawInt 0, .none, .none] } }) :=
  .of_wp fun prog w A R s h => by
    obtain ⟨hp, g, d, tk, os⟩ := s; obtain ⟨hl, h⟩ := h
    have hsub := sub_enumerate
    have hL : Heap.IsTuple (Shared.heap ⟨hp, g, d, tk, os⟩) l items := ⟨_, hl, rfl, n, rfl⟩
    wp_walk using wpAny_loadPart' hl
    refine wpAny_stack_any fun st => wpAny_pure ?_
    split
    · rename_i c _ _ _ _ _
      cases (c == Value.type "enumerate")
      · wp_walk using wpAny_loadPart' hl, wpAny_pyIter_tuple hL
        exact ⟨_, rfl, h⟩
      · wp_walk using wpAny_loadPart' hl, wpAny_pyIter_tuple hL
        exact ⟨_, rfl, h⟩
    · wp_walk using wpAny_loadPart' hl, wpAny_pyIter_tuple hL
      exact ⟨_, rfl, h⟩
section
variable {prog : Program} {w : World} {A : Around} {E : Value → Shared → Prop} {s : Shared}
theorem call_enumerate_tuple {l : Addr} {items : Array Value} {Q : Value → Shared → Prop} (hL : s.heap.IsTuple l items)
    (h : ∀ h', IsEnum h' (s.heap.objs.size + 1) s.heap.objs.size 0 .none → h'.IsTupleIter s.heap.objs.size l 0 → h'.objs.size = s.heap.objs.size + 2 →
      (∀ b o, s.heap.get? b = some o → h'.get? b = some o) → Q (.ref (s.heap.objs.size + 1)) { s with heap := h' }) :
    wpAny (model prog w) A (call (.type "enumerate") [.ref l]) Q E s := by
  obtain ⟨⟨c, dct, dt, sl⟩, hl, hc, n, hd⟩ := hL
  replace hc : c = .type "tuple" := hc
  replace hd : dt = .seq items n := hd
  subst hc hd
  refine callType_new F.called_enumerate (by decide) (F.typeCall_enumerate_1 _) (F.newCall_enumerate_1 _) (fun obj => F.args_object_init_2 obj _) F.entry_enumerate_new
    (meets_enumerate_newT l items n dct sl) ⟨hl, ?_⟩
  have hz : (s.heap.push { cls := .type "tuple_iterator", data := .fields #[.ref l, .int 0 0] }).objs.size = s.heap.objs.size + 1 := Heap.size_push ..
  show _ ∧ _
  rw [hz]
  have he : IsEnum ((s.heap.push { cls := .type "tuple_iterator", data := .fields #[.ref l, .int 0 0] }).push
      { cls := .type "enumerate", data := .fields #[.none, .bool false, .ref s.heap.objs.size, rawInt 0, .none, .none] }) (s.heap.objs.size + 1) s.heap.objs.size 0 .none := by
    have := Heap.get?_push_size (s.heap.push { cls := .type "tuple_iterator", data := .fields #[.ref l, .int 0 0] })
      (o := { cls := .type "enumerate", data := .fields #[.none, .bool false, .ref s.heap.objs.size, rawInt 0, .none, .none] }) rfl
    rw [hz] at this; exact this
  refine ⟨⟨_, he, rfl⟩, h _ he ⟨_, Heap.get?_push_of_some _ (Heap.get?_push_size _ rfl), rfl, rfl⟩ (by rw [Heap.size_push, hz]) fun b o x => Heap.get?_push_of_some _ (Heap.get?_push_of_some _ x)⟩
theorem wpAny_pyNext_enumT_end {e it l : Addr} {i : Nat} {items : Array Value} {old : Value} {Q : Option Value → Shared → Prop} (hh : A.handled = none)
    (he : IsEnum s.heap e it i old) (hit : s.heap.IsTupleIter it l i) (hl : s.heap.IsTuple l items) (hx : items[i]? = none)
    (hQ : ∀ h', Heap.ExtBut it s.heap h' → Q none { s with heap := h' }) : wpAny (model prog w) A (pyNext (.ref e)) Q E s := by
  have hT : s.TypeIs (.ref e) "enumerate" := ⟨_, he, rfl⟩
  unfold pyNext
  refine wpAny_bind (wpAny_attempt (wpAny_callSpecial?_slot (name := Str.ofString "__next__") hT F.slot_enumerate_next
    (wpAny_call_entry F.slot_enumerate_next hT F.entry_enumerate_next ?_ (F.args_enumerate_next_1 _))))
  show wpAny _ _ (field (.ref e) 2 >>= _) _ _ _
  refine wpAny_bind (wpAny_field he rfl (x := .ref it) rfl ?_)
  refine wpAny_bind (wpAny_nextOf_tuple_end hh hit hl hx fun h' x he' hx' => ?_)
  obtain ⟨o, ho, hc⟩ := hx'
  refine wpAny_bind (wpAny_isInstance (T := "StopIteration") (b := true) ⟨o, ho, hc⟩ isSubtype_stop ?_)
  exact wpAny_pure (hQ _ he')
end
end PySem
namespace DL
open PySem PySem.Spec PyProof.Rows L2
def IteT (K : PySem.W.Frag) (a : Addr) : It :=
  ⟨fun i H => ∃ (xs : List V) (x : V), SqT K H a xs ∧ xs[i]? = some x, fun i H v H' => ∃ T x, v = .ref T ∧ H T = none ∧ H' = upd H T (.tup [.int (i : Nat), x]) ∧ ∀ xs, SqT K H a xs → xs[i]? = some x, fun i H => ∃ xs : List V, SqT K H a xs ∧ xs.length ≤ i⟩
theorem cls_ne {h : Heap} {a b : Addr} {o p : Obj} {x y : String} (h1 : h.get? a = some o) (h2 : h.get? b = some p) (c1 : o.cls = .type x) (c2 : p.cls = .type y) (n : x ≠ y) : a ≠ b := fun e => by
  subst e
  rw [h1] at h2
  cases h2
  rw [c1] at c2
  cases c2
  exact n rfl
theorem turn_enumT {P : Program} {w : World} {K : PySem.W.Frag} {elts : List Expr} {kk : Nat} {tpos : Pos} (a e it : Addr) :
    Turn P w K (.Tuple elts kk tpos) (IteT K a) [e, it] e (fun i h => (∃ old, IsEnum h e it ((i : Nat) : Int) old) ∧ h.IsTupleIter it a i ∧ e ≠ it) where
  mem := by simp
  obj := fun i h st b hb => by
    obtain ⟨⟨old, he⟩, ⟨o, ho, hc, hd⟩, _⟩ := st
    have e' : b = e ∨ b = it := by simpa using hb
    rcases e' with z | z
    · rw [z]; exact ⟨_, he, fun v q => nomatch q⟩
    · rw [z]; exact ⟨o, ho, fun v q => by rw [hd] at q; cases q⟩
  keep := fun i h h' st k => let ⟨⟨old, he⟩, hi, hne⟩ := st; ⟨⟨old, k e (by simp) _ he⟩, hi.at fun o q => k it (by simp) o q, hne⟩
  item := by
    intro X hP hw hK hc i pins s st H E I hf stt hg
    subst hP hw hK
    obtain ⟨⟨old, he⟩, hit, hne⟩ := stt
    obtain ⟨xs, x, hq, hx⟩ := hg
    obtain ⟨its, rv, p, hz⟩ := I.tuple hq
    obtain ⟨u, hu, ru⟩ := rv.get hx
    have hel : e < s.heap.objs.size := Heap.lt_size he
    have hil : it < s.heap.objs.size := by obtain ⟨_, q, _⟩ := hit; exact Heap.lt_size q
    have ht : s.heap.IsTuple a its.toArray := p
    obtain ⟨ot, hot, hct, nt, hdt⟩ := id p
    obtain ⟨oi, hoi, hci, hdi⟩ := id hit
    have n1 : a ≠ it := cls_ne hot hoi hct hci (by decide)
    have n2 : e ≠ a := cls_ne he hot rfl hct (by decide)
    have D := Draws.tuple (prog := X.prog) (w := X.w) (A := X.A.in1) (I.ok.hd hc) it a n1 its.toArray
    have hlt : i < its.toArray.size := by
      have := (List.getElem?_eq_some_iff.mp hu).1
      simpa using this
    refine wpAny_pyNext_enum_itemD D he ⟨hit, ht⟩ hlt hne (by simp [hne, n2]) fun x' h' tk hP' ho st' hT hsz hk => ?_
    have ex : x' = u := by
      have e1 : its.toArray[i]? = some u := by simpa using hu
      rw [hP'] at e1
      exact Option.some.inj e1
    subst ex
    refine ⟨_, rfl, wpAny_letOwnedTupleGo_enum (s := { s with heap := h', toks := tk + 1 }) ho fun h'' he' sb => ?_⟩
    have hT2 : h''.get? s.heap.objs.size = some { cls := .type "tuple", data := .seq #[.int i tk, x'] } := (sb.2 _ (Nat.ne_of_gt hel)).trans hT
    have new : ObjOk X.prog X.w (upd H s.heap.objs.size (.tup [.int (i : Nat), x])) h'' s.heap.objs.size (.tup [.int (i : Nat), x]) :=
      ⟨by show 2 ≤ sizeLine; decide, [.int i tk, x'], .cons ⟨_, rfl⟩ (.cons ru .nil), ⟨_, hT2, rfl, _, rfl⟩⟩
    have I1 : Inv X pins st (upd H s.heap.objs.size (.tup [.int (i : Nat), x])) { s with heap := h'', toks := tk + 1 } :=
      I.turnedNew (ch := [e, it]) (fun b ob hb q => (sb.2 b (fun z => hb (by simp [z]))).trans (hk b ob (fun z => hb (by simp [z])) (fun z => hb (by simp [z])) q)) hf (Nat.le_refl _) new
    refine ⟨.ref s.heap.objs.size, _, I1, rfl, ⟨_, x, rfl, I.hok.fresh (Nat.le_refl _), rfl, fun ys hy => by rw [I.tuple_inj hy hq]; exact hx⟩, ⟨⟨x', ?_⟩, st'.1.at fun o q => (sb.2 it (Ne.symm hne)).trans q, hne⟩, fun b hb => ?_⟩
    · have e1 : ((i + 1 : Nat) : Int) = (i : Int) + 1 := by omega
      rw [e1]; exact he'
    · have hb' : b < s.heap.objs.size := by
        have e' : b = e ∨ b = it := by simpa using hb
        rcases e' with z | z
        · rw [z]; exact hel
        · rw [z]; exact hil
      rw [upd_ne (Nat.ne_of_lt hb')]
      exact (hf b hb).1
  done := by
    intro X hP hw hK hc i pins s st H E I hf stt hg
    subst hP hw hK
    obtain ⟨⟨old, he⟩, hit, hne⟩ := stt
    obtain ⟨xs, hq, hx⟩ := hg
    obtain ⟨its, rv, p, hz⟩ := I.tuple hq
    obtain ⟨f0, f1, f2, f3, f4, f5⟩ := hf it (by simp)
    have hl := rv.length
    exact wpAny_pyNext_enumT_end (I.ok.hd hc) he hit p (by simp; omega) fun h' eb => ⟨rfl, I.turned (t' := s.toks) (fun b o hb q => eb b o hb q) f0 f1 f3 f4 f5⟩
  self := fun A i s Q E st h => let ⟨⟨_, he⟩, _⟩ := st; wpAny_pyIter_enum he h
def iEnumA (K : PySem.W.Frag) (ta : TA) : TI := fun st H R => ta st H fun vs H1 => ∃ a xs, vs = [.ref a] ∧ ((SqL K H1 a xs ∧ R (Ite K a) H1) ∨ (SqT K H1 a xs ∧ R (IteT K a) H1))
theorem pi_enumA {X : Cx} {e : Expr} {ta : TA} {p pos tpos : Pos} {elts : List Expr} {kk : Nat} (hg : Gl X "enumerate") (hm : X.mg "enumerate" = none) (ha : PA X [e] ta) (hs : starEach [e] X.env = [(false, eval e X.env)] := by rfl) :
    PI X (.Tuple elts kk tpos) (.Call (.Name "enumerate" p) [e] [] pos) (iEnumA X.K ta) := by
  refine ⟨fun pins s st H R I h => ?_⟩
  refine Call_ (ld_blt I hg hm boot_enumerate (PyProof.Rows.callWith_type1 (thn (ha.run pos pins s st H _ I h) fun us s1 ⟨vs, H1, I1, r1, q1⟩ => ?_) hs rfl))
  obtain ⟨a, xs, ex, q⟩ := q1
  subst ex
  cases r1 with
  | cons r rr =>
    cases rr
    cases r
    rcases q with ⟨hq, q⟩ | ⟨hq, q⟩
    · obtain ⟨its, rv, p', hz⟩ := I1.list hq
      refine call_enumerate_list p'.isList fun h' he hit hsz hk => wpAny_pyIter_enum he ?_
      have I2 : Inv X pins st H1 { s1 with heap := h' } := I1.kept (t' := s1.toks) hk
      refine ⟨s1.heap.objs.size + 1, [s1.heap.objs.size + 1, s1.heap.objs.size], _, _, H1, rfl, I2, turn_enum a (s1.heap.objs.size + 1) s1.heap.objs.size, ⟨⟨.none, he⟩, hit, Nat.succ_ne_self _⟩, fun b hb => ?_, q⟩
      have e' : b = s1.heap.objs.size + 1 ∨ b = s1.heap.objs.size := by simpa using hb
      have hle : s1.heap.objs.size ≤ b := by
        rcases e' with z | z
        · rw [z]; exact Nat.le_add_right _ _
        · rw [z]; exact Nat.le_refl _
      exact I1.fpOk hle (I1.hok.fresh hle)
    · obtain ⟨its, rv, p', hz⟩ := I1.tuple hq
      refine call_enumerate_tuple p' fun h' he hit hsz hk => wpAny_pyIter_enum he ?_
      have I2 : Inv X pins st H1 { s1 with heap := h' } := I1.kept (t' := s1.toks) hk
      refine ⟨s1.heap.objs.size + 1, [s1.heap.objs.size + 1, s1.heap.objs.size], _, _, H1, rfl, I2, turn_enumT a (s1.heap.objs.size + 1) s1.heap.objs.size, ⟨⟨.none, he⟩, hit, Nat.succ_ne_self _⟩, fun b hb => ?_, q⟩
      have e' : b = s1.heap.objs.size + 1 ∨ b = s1.heap.objs.size := by simpa using hb
      have hle : s1.heap.objs.size ≤ b := by
        rcases e' with z | z
        · rw [z]; exact Nat.le_add_right _ _
        · rw [z]; exact Nat.le_refl _
      exact I1.fpOk hle (I1.hok.fresh hle)
section
variable {X : Cx} {K : PySem.W.Frag}
def enumD (xs : List D) : List D := xs.mapIdx fun i x => .tup [.int i, x]
theorem enumD_get {xs : List D} {i : Nat} {d : D} (h : (enumD xs)[i]? = some d) : ∃ x, xs[i]? = some x ∧ d = .tup [.int i, x] := by
  unfold enumD at h
  rw [List.getElem?_mapIdx] at h
  cases e : xs[i]? with
  | none => rw [e] at h; cases h
  | some x => rw [e] at h; cases h; exact ⟨x, rfl, rfl⟩
theorem enumD_len (xs : List D) : (enumD xs).length = xs.length := by unfold enumD; rw [List.length_mapIdx]
def dEnum (t : DTA) : DTA := fun g r f Q => t g r f fun ds f1 => match ds with
  | [.lst xs] => Q (enumD xs) f1
  | [.tup xs] => Q (enumD xs) f1
  | [.ftp xs] => Q (enumD xs) f1
  | _ => False
theorem walks_enumL {Hb : Hp} {a : Addr} {vs : List V} {ds : List D} (h1 : Hb a = some (.lst vs)) (h2 : RpA K Hb ds vs) : Walks K (Ite K a) Hb (enumD ds) where
  go := fun i d H Hs s1 s2 e => by
    obtain ⟨x, ex, rfl⟩ := enumD_get e
    obtain ⟨v, hv, hr⟩ := h2.get ex
    have q1 : SqL K H a vs := SqL.of (s2 _ _ (s1 _ _ h1))
    refine ⟨⟨vs, v, q1, hv⟩, ?_⟩
    rintro z H' ⟨T, x', rfl, hT, rfl, hx⟩
    have e1 := hx vs q1
    rw [hv] at e1
    cases e1
    exact pair_stp s2 hT rfl (hr.mono s1)
  stop := fun H s => ⟨vs, SqL.of (s _ _ h1), by rw [enumD_len, h2.length]; exact Nat.le_refl _⟩
theorem walks_enumT {Hb : Hp} {a : Addr} {vs : List V} {ds : List D} (h1 : TpAt K Hb a vs) (h2 : RpA K Hb ds vs) : Walks K (IteT K a) Hb (enumD ds) where
  go := fun i d H Hs s1 s2 e => by
    obtain ⟨x, ex, rfl⟩ := enumD_get e
    obtain ⟨v, hv, hr⟩ := h2.get ex
    have q1 : SqT K H a vs := (tp_sq (s1.trans s2) h1)
    refine ⟨⟨vs, v, q1, hv⟩, ?_⟩
    rintro z H' ⟨T, x', rfl, hT, rfl, hx⟩
    have e1 := hx vs q1
    rw [hv] at e1
    cases e1
    exact pair_stp s2 hT rfl (hr.mono s1)
  stop := fun H s => ⟨vs, (tp_sq s h1), by rw [enumD_len, h2.length]; exact Nat.le_refl _⟩
theorem walks_enumF {Hb : Hp} {a : Addr} {vs : List V} {ds : List D} (h1 : SqT K Hb a vs) (h2 : RpA K Hb ds vs) : Walks K (IteT K a) Hb (enumD ds) where
  go := fun i d H Hs s1 s2 e => by
    obtain ⟨x, ex, rfl⟩ := enumD_get e
    obtain ⟨v, hv, hr⟩ := h2.get ex
    have q1 : SqT K H a vs := sqT_mono (s1.trans s2) h1
    refine ⟨⟨vs, v, q1, hv⟩, ?_⟩
    rintro z H' ⟨T, x', rfl, hT, rfl, hx⟩
    have e1 := hx vs q1
    rw [hv] at e1
    cases e1
    exact pair_stp s2 hT rfl (hr.mono s1)
  stop := fun H s => ⟨vs, sqT_mono s h1, by rw [enumD_len, h2.length]; exact Nat.le_refl _⟩
theorem di_enum {e : Expr} {d : DTA} {p pos tpos : Pos} {elts : List Expr} {kk : Nat} (hm : X.mg "enumerate" = none) (ha : DA X [e] d) (hg : Gl X "enumerate" := by rfl)
    (hs : starEach [e] X.env = [(false, eval e X.env)] := by rfl) : DI X (.Tuple elts kk tpos) (.Call (.Name "enumerate" p) [e] [] pos) (dEnum d) := DI.mk' (pi_enumA hg hm ha.pa hs) fun g ro f st H Hs R Q' A hq hd =>
  ha.sn g ro f st H Hs _ _ A (fun ds f1 vs H1 Hs1 s1 k1 r1 q1 => by
    split at q1
    · obtain ⟨v, r, rfl, ⟨a, us, rfl, h1, h2⟩, h3⟩ := r1
      cases h3
      exact ⟨a, us, rfl, .inl ⟨SqL.of (s1.sub _ _ h1), hq _ f1 _ H1 Hs1 s1 k1 (walks_enumL h1 h2) q1⟩⟩
    · obtain ⟨v, r, rfl, ⟨a, us, rfl, h1, h2⟩, h3⟩ := r1
      cases h3
      exact ⟨a, us, rfl, .inr ⟨(tp_sq s1.sub h1), hq _ f1 _ H1 Hs1 s1 k1 (walks_enumT h1 h2) q1⟩⟩
    · obtain ⟨v, r, rfl, ⟨a, us, rfl, h1, h2⟩, h3⟩ := r1
      cases h3
      exact ⟨a, us, rfl, .inr ⟨sqT_mono s1.sub h1.sq, hq _ f1 _ H1 Hs1 s1 k1 (walks_enumF h1.sq h2) q1⟩⟩
    · exact q1.elim) hd
end
end DL
namespace DL
open PySem PySem.Spec PyProof.Rows L2
/-! dicts that a slot owns -/
def D.key : D → Option Key
  | .int i => some (.inl i)
  | .str x => some (.inr x)
  | _ => Option.none
instance decKey (k : Key) (ks : List Key) : Decidable (k ∈ ks) := @List.instDecidableMemOfLawfulBEq Key instBEqOfDecidableEq inferInstance k ks
def putKs (ks : List Key) (k : Key) : List Key := if k ∈ ks then ks else ks ++ [k]
def putXs (ks : List Key) (xs : List D) (k : Key) (d : D) : List D := if k ∈ ks then (ks.zip xs).map fun p => if p.1 = k then d else p.2 else xs ++ [d]
section
variable {X : Cx} {K : PySem.W.Frag} {W : WX}
theorem key_v {H : Hp} {d : D} {v : V} {k : Key} (h : Rp K H d v) (e : d.key = some k) : v = kV k := by
  cases d <;> simp only [D.key, reduceCtorEq, Option.some.injEq] at e <;> subst e <;> cases h <;> rfl
theorem any_zip {k : Key} : ∀ {ks : List Key} {vs : List V}, ks.length = vs.length → ((ks.zip vs).any fun kv => decide (kv.1 = k)) = decide (k ∈ ks)
  | [], _, _ => by simp
  | _ :: _, [], h => by simp at h
  | a :: ks, v :: vs, h => by
    rw [List.zip_cons_cons, List.any_cons, any_zip (by simpa using h)]
    by_cases e : a = k
    · simp [e]
    · simp [e, Ne.symm e]
theorem put_zip {k : Key} {v : V} : ∀ {ks : List Key} {vs : List V}, ks.length = vs.length → (ks.zip vs).map (fun kv => if kv.1 = k then (kv.1, v) else kv) = ks.zip ((ks.zip vs).map fun kv => if kv.1 = k then v else kv.2)
  | [], _, _ => by simp
  | _ :: _, [], h => by simp at h
  | a :: ks, w :: vs, h => by
    simp only [List.zip_cons_cons, List.map_cons]
    rw [put_zip (by simpa using h)]
    by_cases e : a = k <;> simp [e]
theorem putXs_rp {H : Hp} {k : Key} {d : D} {v : V} (hd : Rp K H d v) : ∀ {ks : List Key} {xs : List D} {vs : List V}, RpA K H xs vs → RpA K H ((ks.zip xs).map fun p => if p.1 = k then d else p.2) ((ks.zip vs).map fun p => if p.1 = k then v else p.2)
  | [], _, _, _ => by simp [RpA]
  | _ :: _, [], _, h => by cases h; simp [RpA]
  | a :: ks, x :: xs, _, ⟨w, r, h1, h2, h3⟩ => by
    subst h1
    simp only [List.zip_cons_cons, List.map_cons]
    refine ⟨_, _, rfl, ?_, putXs_rp hd h3⟩
    by_cases e : a = k
    · rw [if_pos e, if_pos e]; exact hd
    · rw [if_neg e, if_neg e]; exact h2
theorem put_rp {H : Hp} {ks : List Key} {xs : List D} {vs : List V} {k : Key} {d : D} {v : V} (hl : ks.length = vs.length) (h : RpA K H xs vs) (hd : Rp K H d v) :
    ∃ vs', putK (ks.zip vs) k v = (putKs ks k).zip vs' ∧ (putKs ks k).length = vs'.length ∧ RpA K H (putXs ks xs k d) vs' := by
  unfold putK putKs putXs
  rw [any_zip hl]
  by_cases e : k ∈ ks
  · rw [decide_eq_true e, if_pos rfl, if_pos e, if_pos e]
    refine ⟨_, put_zip hl, ?_, putXs_rp hd h⟩
    rw [List.length_map, List.length_zip, hl, Nat.min_self]
  · rw [decide_eq_false e, if_neg Bool.false_ne_true, if_neg e, if_neg e]
    refine ⟨vs ++ [v], ?_, by simp [hl], h.append (RpA.one hd)⟩
    rw [List.zip_append hl]
    rfl
def sSetD0 (i : Nat) : DTS := fun _ r f E => E.nx (r.set i (.od [] [])) f
theorem ds_setD0 {i : Nat} {x : Str} {dpos pos pos' : Pos} (hN : X.N.Nodup) (hi : X.N[i]? = some x := by rfl) (hx : Loc X.env.scope x := by first | exact Or.inl rfl | exact Or.inr rfl)
    (hs : swapsWith (.Dict [] [] dpos) (some (.Name x pos')) pos.line X.env = pure false := by rfl) (hf : X.fn x = true ∨ X.env.scope.names.lookup x = some .local := by first | exact .inl rfl | exact .inr rfl | assumption) :
    DS X (.Assign [.Name x pos'] (.Dict [] [] dpos) pos) (sSetD0 i) := .mk' (ps_set hN hi hx pe_dnewK hs hf) fun g H0 Hs0 r f st H D E s e hd => by
  obtain ⟨Hs, s⟩ := s
  intro p hp
  have lay : Stp g H Hs (upd H p (.dK [])) Hs := Stp.lay s.stp.sub hp
  have s1 := s.afterHid lay (s.dk.mut (s.dk.out hp))
  refine e.nx _ f _ _ ⟨_, s1.setOwn i (u := .od [] []) rfl (s.stp.none0 hp) (same_none s.stp.sub hp) (fun j sl _ h1 h2 h3 => ?_) ⟨[], upd_same, rfl, rfl⟩⟩ hd
  obtain ⟨a, e', _, _, q⟩ := s.ow j sl h1 h2
  rw [h3] at e'
  cases e'
  obtain ⟨o, ho, _⟩ := q.ld
  rw [hp] at ho
  cases ho
def sSetKey (m : Bool) (i : Nat) (dk dl : DT) : DTS := fun g r f E => ∃ ks xs, r[i]? = some (.od ks xs) ∧ evM m dl g r f fun d f1 => dk g r f1 fun k f2 => ∃ key, k.key = some key ∧ ks.length ≤ lim ∧ E.nx (r.set i (.od (putKs ks key) (putXs ks xs key d))) f2
theorem snd_setKey {m : Bool} {i : Nat} {tk t : TE} {dk d : DT} (hk : Snd K tk dk) (h : Snd K t d) : SndS K W (tAsg t (gSub (tVar i) tk rSetD)) (sSetKey m i dk d) := fun g H0 Hs0 r f st H D E s e hd => by
  obtain ⟨Hs, s⟩ := s
  obtain ⟨ks, xs, hx, hd⟩ := hd
  obtain ⟨a, ha, n1, n0, vs, hv, hl, hr⟩ := s.ow i _ hx rfl
  refine snd_evM h s (fun d f' v H' Hs' s' _ hr' q => ?_) hd
  refine ⟨.ref a, ha, ?_⟩
  refine hk g r f' st H' _ _ _ s'.at (fun k f2 w H2 Hs2 s2 k2 r2 q2 => ?_) q
  have s3 := s'.after s2 k2
  obtain ⟨key, hkey, hlim, q2⟩ := q2
  obtain ⟨a', ha', n1', n0', vs', hv', hl', hr2⟩ := s3.ow i _ hx rfl
  rw [ha] at ha'
  cases ha'
  rw [key_v r2 hkey]
  obtain ⟨us, e1, e2, e3⟩ := put_rp (k := key) hl' hr2 (hr'.mono (s'.afterExt s2))
  refine ⟨a, _, rfl, DPut.k hv' ?_, e.nx _ f2 st _ ⟨_, s3.mutOwn (u := .od (putKs ks key) (putXs ks xs key d)) hx rfl ha rfl ⟨us, by rw [upd_same, e1], e2, e3⟩⟩ q2⟩
  rw [List.length_zip]
  exact Nat.lt_of_le_of_lt (Nat.min_le_left _ _) (lim_lt hlim)
theorem ds_setKey (m : Bool) {k' : Nat} {i : Nat} {x : Str} {e k : Expr} {px spos pos : Pos} {dk d : DT} (hr : Room k' X.A) (hk : DE X k dk) (h : DE X e d) (hN : X.N[i]? = some x := by rfl) (hv : Vis X.env.scope x := by first | exact Or.inl rfl | exact Or.inr (Or.inl rfl) | exact Or.inr (Or.inr rfl)) (hd : (x == ("__debug__" : Str)) = false := by decide)
    (hcd : (x == ("__classdict__" : Str)) = false := by decide)
    (ha : ∀ v, assign (.Subscript (.Name x px) k spos) X.env v = (do
      let ov ← holding [v] (eval (.Name x px) X.env)
      let iv ← holding [v, ov] (eval k X.env)
      standAt spos
      holding [v, ov, iv] (setItem ov iv v)
      release [v, ov, iv] []) := by intro _; rfl)
    (hs : swapsWithSole [.Subscript (.Name x px) k spos] e pos.line X.env = pure false := by rfl) (hw : swappedStores [.Subscript (.Name x px) k spos] e X.env = pure none := by rfl) (h1 : (assignEach [.Subscript (.Name x px) k spos] X.env).map (·.2) = [assign (.Subscript (.Name x px) k spos) X.env] := by rfl) :
    DS X (.Assign [.Subscript (.Name x px) k spos] e pos) (sSetKey m i dk d) :=
  .mk' (ps_asg h.pe (pg_sub (pe_var hN hv hd hcd) hk.pe (set_dict (hu_of hr)) ha) hs hw h1) (snd_setKey hk.sn h.sn)
end
end DL
namespace DL
open PySem PySem.Spec PyProof.Rows L2
section
variable {X : Cx} {K : PySem.W.Frag}
/-! t[::-1] -/
/-! list(xs) -/
def oList : OA := fun ds Q => match ds with
  | [.lst xs] => Q (.lst xs)
  | [.tup xs] => Q (.lst xs)
  | [.ftp xs] => Q (.lst xs)
  | _ => False
theorem sc_list : SndC K (fun xs H Q => ∃ p ys, xs = [.ref p] ∧ (SqL K H p ys ∨ SqT K H p ys) ∧ ∀ l, H l = none → Q (.ref l) (upd H l (.lst ys))) oList := fun H Hs ds vs Q Q' s rx hq hd => by
  unfold oList at hd
  split at hd
  · obtain ⟨v, rfl, a, vs, rfl, h1, h2⟩ := rpA1 rx
    refine ⟨a, vs, rfl, .inl (SqL.of (s _ _ h1)), fun l hl => ?_⟩
    have al : Stp none H Hs (upd H l (.lst vs)) (upd Hs l (.lst vs)) := Stp.alloc s hl
    exact hq (.lst _) _ _ _ al ⟨l, vs, rfl, upd_same, h2.mono al.ext⟩ hd
  · obtain ⟨v, rfl, a, vs, rfl, h1, h2⟩ := rpA1 rx
    refine ⟨a, vs, rfl, .inr ((tp_sq s h1)), fun l hl => ?_⟩
    have al : Stp none H Hs (upd H l (.lst vs)) (upd Hs l (.lst vs)) := Stp.alloc s hl
    exact hq (.lst _) _ _ _ al ⟨l, vs, rfl, upd_same, h2.mono al.ext⟩ hd
  · obtain ⟨v, rfl, a, vs, rfl, h1, h2⟩ := rpA1 rx
    refine ⟨a, vs, rfl, .inr ((h1.mono s).sq), fun l hl => ?_⟩
    have al : Stp none H Hs (upd H l (.lst vs)) (upd Hs l (.lst vs)) := Stp.alloc s hl
    exact hq (.lst _) _ _ _ al ⟨l, vs, rfl, upd_same, h2.mono al.ext⟩ hd
  · exact hd.elim
/-! isinstance(x, T), instances of one own class among the values -/
structure KO (K : PySem.W.Frag) (c : Str) (C : Addr) : Prop where
  kc : KC K c C
  ty : KTy K C
  tup : PySem.W.subIn K (.ref C) (.type "tuple") = some false
  str : PySem.W.subIn K (.ref C) (.type "str") = some false
theorem KO.one {c : Str} {C : Addr} (k : KO K c C) : PySem.W.kitOne K (.ref C) (.type "tuple") = some false ∧ PySem.W.kitOne K (.ref C) (.type "str") = some false := by
  unfold PySem.W.kitOne PySem.W.kitCls
  have h1 : (Value.ref C == Value.type "tuple") = false := rfl
  have h2 : (Value.ref C == Value.type "str") = false := rfl
  rw [h1, h2, if_neg Bool.false_ne_true, if_neg Bool.false_ne_true]
  show (if PySem.W.kitMeta "tuple" = true then PySem.W.subIn K (.ref C) (.type "tuple") else none) = _ ∧ (if PySem.W.kitMeta "str" = true then PySem.W.subIn K (.ref C) (.type "str") else none) = _
  rw [if_pos (by decide +kernel), if_pos (by decide +kernel)]
  exact ⟨k.tup, k.str⟩
def oIsiO (c : Str) : OA := fun ds Q => match ds with
  | [.obj c' _ _, .any (.ty n)] => c' = c ∧ (n = "tuple" ∨ n = "str") ∧ Q (.bool false)
  | [x, .any (.ty n)] => ∃ t b, x.tyN = some t ∧ kitB t n = some b ∧ Q (.bool b)
  | _ => False
theorem sc_isiO {c : Str} {C : Addr} (k : KO K c C) : SndC K (rIsi K) (oIsiO c) := SndC.pure fun H Hs ds vs Q Q' s rx hq hd => by
  unfold oIsiO at hd
  split at hd
  · obtain ⟨rfl, hn, q⟩ := hd
    obtain ⟨v, w, rfl, h4, h5⟩ := rpA2 rx
    cases h5
    obtain ⟨C', a, dx, us, h0, rfl, h2, h3, h6⟩ := h4
    cases k.kc.uniq h0
    refine ⟨.ref a, _, .ref C, _, false, rfl, .ty _, .base (.ins (s _ _ h2) k.kc.cls k.ty.ha k.ty.hn k.ty.htk k.ty.hm), ?_, hq (.bool _) _ rfl q⟩
    rcases hn with rfl | rfl
    · exact k.one.1
    · exact k.one.2
  · obtain ⟨t, b, h1, h2, h3⟩ := hd
    obtain ⟨v, w, rfl, h4, h5⟩ := rpA2 rx
    cases h5
    exact ⟨v, _, _, _, b, rfl, .ty _, tyN_ok (h4.mono s) h1, kit_ty h2, hq (.bool _) _ rfl h3⟩
  · exact hd.elim
theorem de_isiO {c : Str} {C : Addr} {p pos : Pos} {e e2 : Expr} {d : DTA} (k : KO X.K c C) (hm : X.mg "isinstance" = none) (ha : DA X [e, e2] d) (hg : Gl X "isinstance" := by rfl) (hs : starEach [e, e2] X.env = (false, eval e X.env) :: starEach [e2] X.env := by rfl)
    (hpl : (backTo pos (starEach [e2] X.env)).any (·.1) = false := by rfl) : DE X (.Call (.Name "isinstance" p) [e, e2] [] pos) (dCB (oIsiO c) d) :=
  de_callB call_isi (sc_isiO k) hg hm (by decide +kernel) ha (by decide) (by decide) hs hpl
end
end DL
namespace DL
open PySem PySem.Spec PyProof.Rows L2
/-! texts: length and signs -/
theorem app_len (a b : Str) : (a ++ b).length = a.length + b.length := by rw [TL.len_tl, TL.tl_append, List.length_append, ← TL.len_tl, ← TL.len_tl]
theorem asc_app {a b : Str} (ha : asc a) (hb : asc b) : asc (a ++ b) := fun c hc => by
  have hc : c ∈ TL.tl (a ++ b) := hc
  rw [TL.tl_append] at hc
  rcases List.mem_append.mp hc with h | h
  · exact ha c h
  · exact hb c h
instance decAsc (s : Str) : Decidable (asc s) := by unfold asc; infer_instance
theorem filter_strs (ps : List Str) (p : Str → Bool) (q : D → Bool) (h : ∀ s, q (.str s) = p s) : (ps.map D.str).filter q = (ps.filter p).map D.str := by
  rw [List.filter_map]
  congr 1
  apply List.filter_congr
  intro s _
  exact h s
/-! pairs of texts -/
abbrev Us := Str × Str
def pairD (u : Us) : D := .tup [.str u.1, .str u.2]
def pairP (u : Us) : PyData := .tuple [.str u.1, .str u.2]
theorem pyA_pairs : ∀ l : List Us, pyA (l.map pairD) = l.map pairP
  | [] => rfl
  | x :: l => by show (pairD x).py :: pyA (l.map pairD) = _; rw [pyA_pairs l]; rfl
def ascU (u : Us) : Prop := asc u.1 ∧ asc u.2
theorem lay_pair {u : Us} (h : ascU u) : (pairP u).canLay0 = true := by
  show (PyData.strOk u.1 && (PyData.strOk u.2 && true)) = true
  rw [asc_ok h.1, asc_ok h.2]
  rfl
theorem lay_pairs : ∀ {l : List Us}, (∀ s ∈ l, ascU s) → PyData.canLayAll0 (l.map pairP) = true
  | [], _ => rfl
  | x :: l, h => Bool.and_eq_true_iff.mpr ⟨lay_pair (h x (by simp)), lay_pairs fun s hs => h s (by simp [hs])⟩
theorem depth_pairs : ∀ l : List Us, PyData.depthAll (l.map pairP) ≤ 1
  | [] => Nat.zero_le _
  | x :: l => by
    show max 1 (PyData.depthAll (l.map pairP)) ≤ 1
    have := depth_pairs l
    omega
theorem eqv_pair (u v : Us) : PyData.eqv (pairP u) (pairP v) = decide (u = v) := by
  show ((u.1 == v.1) && ((u.2 == v.2) && true)) = _
  rw [Bool.eq_iff_iff]
  simp [Prod.ext_iff]
theorem eqvAll_pairs : ∀ l m : List Us, PyData.eqvAll (l.map pairP) (m.map pairP) = decide (l = m)
  | [], [] => rfl
  | [], _ :: _ => rfl
  | _ :: _, [] => rfl
  | x :: l, y :: m => by
    show (PyData.eqv (pairP x) (pairP y) && PyData.eqvAll (l.map pairP) (m.map pairP)) = _
    rw [eqvAll_pairs l m, eqv_pair, Bool.eq_iff_iff]
    simp
theorem shaped_pairs {l : List Us} (h : ∀ s ∈ l, ascU s) : SeqAt.shaped (.list (l.map pairP)) = true := by
  show (PyData.canLayAll0 (l.map pairP) && decide (PyData.depthAll (l.map pairP) + 1 ≤ 64)) = true
  rw [lay_pairs h, decide_eq_true (by have := depth_pairs l; omega)]
  rfl
theorem shaped_pairsT {l : List Us} (h : ∀ s ∈ l, ascU s) : SeqAt.shaped (.tuple (l.map pairP)) = true := shaped_pairs h
theorem shaped_pair {u : Us} (h : ascU u) : SeqAt.shaped (pairP u) = true := by
  show ((pairP u).canLay0 && decide (1 ≤ 64)) = true
  rw [lay_pair h]
  rfl
theorem shaped_str {s : Str} (h : asc s) : SeqAt.shaped (.str s) = true := by
  show (PyData.strOk s && decide (0 ≤ 64)) = true
  rw [asc_ok h]
  rfl
/-! in, ==, of rows of texts and of pairs -/
theorem any_strs (l : List Str) (x : Str) : ((l.map PyData.str).any fun z => PyData.eqv z (.str x)) = decide (x ∈ l) := by
  rw [List.any_map, Bool.eq_iff_iff, List.any_eq_true, decide_eq_true_iff]
  constructor
  · rintro ⟨y, hy, e⟩
    have : (y == x) = true := e
    rw [← beq_iff_eq.mp this]
    exact hy
  · intro h
    exact ⟨x, h, (beq_self_eq_true x : (x == x) = true)⟩
theorem any_pairs (l : List Us) (x : Us) : ((l.map pairP).any fun z => PyData.eqv z (pairP x)) = decide (x ∈ l) := by
  rw [List.any_map, Bool.eq_iff_iff, List.any_eq_true, decide_eq_true_iff]
  constructor
  · rintro ⟨y, hy, e⟩
    have e : PyData.eqv (pairP y) (pairP x) = true := e
    rw [eqv_pair] at e
    rw [← of_decide_eq_true e]
    exact hy
  · intro h
    refine ⟨x, h, ?_⟩
    show PyData.eqv (pairP x) (pairP x) = true
    rw [eqv_pair]
    exact decide_eq_true rfl
theorem oEq_pairsT {l m : List Us} {neg : Bool} {Q : D → Prop} (hl : ∀ s ∈ l, ascU s) (hm : ∀ s ∈ m, ascU s) (h : Q (.bool (xb neg (decide (l = m))))) : oEq neg (.tup (l.map pairD)) (.tup (m.map pairD)) Q := by
  refine oEq_data (by show SeqAt.shaped (.tuple (pyA (l.map pairD))) = true; rw [pyA_pairs]; exact shaped_pairsT hl) (by show SeqAt.shaped (.tuple (pyA (m.map pairD))) = true; rw [pyA_pairs]; exact shaped_pairsT hm) ?_
  show Q (.bool (xb neg (PyData.eqvAll (pyA (l.map pairD)) (pyA (m.map pairD)))))
  rw [pyA_pairs, pyA_pairs, eqvAll_pairs]
  exact h
/-! sorting them -/
def leS (a b : Str) : Bool := PySem.W.dataLe false D.py (.str a) (.str b)
@[irreducible] def sortS (l : List Str) : List Str := l.mergeSort leS
def leU (a b : Us) : Bool := PySem.W.dataLe false D.py (pairD a) (pairD b)
@[irreducible] def sortU (l : List Us) : List Us := l.mergeSort leU
theorem sortD_strs (l : List Str) : sortD (l.map D.str) = (sortS l).map D.str := by
  unfold sortD sortS
  rw [List.map_mergeSort (r := leS) (s := PySem.W.dataLe false D.py) (f := D.str) fun _ _ _ _ => rfl]
theorem sortD_pairs (l : List Us) : sortD (l.map pairD) = (sortU l).map pairD := by
  unfold sortD sortU
  rw [List.map_mergeSort (r := leU) (s := PySem.W.dataLe false D.py) (f := pairD) fun _ _ _ _ => rfl]
theorem sortS_perm (l : List Str) : (sortS l).Perm l := by unfold sortS; exact List.mergeSort_perm _ _
theorem sortU_perm (l : List Us) : (sortU l).Perm l := by unfold sortU; exact List.mergeSort_perm _ _
theorem mem_sortS {l : List Str} {x : Str} : x ∈ sortS l ↔ x ∈ l := (sortS_perm l).mem_iff
theorem mem_sortU {l : List Us} {x : Us} : x ∈ sortU l ↔ x ∈ l := (sortU_perm l).mem_iff
theorem sorts_strs {l : List Str} (hl : l.length ≤ lim) (h : ∀ s ∈ l, asc s) : Sorts (l.map D.str) where
  len := by rw [List.length_map]; exact hl
  lay := by rw [pyA_strs]; exact lay_strs h
  al := by rw [List.map_map]; exact PySem.W.AllAlike.of fun _ _ => rfl
  so := by rw [List.map_map]; exact PySem.W.Sortable.others fun b => ⟨fun e => by simp [D.py] at e, fun xs e => by simp [D.py] at e⟩
  dep := fun x hx => by
    obtain ⟨s, _, rfl⟩ := List.mem_map.mp hx
    exact Nat.zero_le _
theorem sorts_pairs {l : List Us} (hl : l.length ≤ lim) (h : ∀ s ∈ l, ascU s) : Sorts (l.map pairD) where
  len := by rw [List.length_map]; exact hl
  lay := by rw [pyA_pairs]; exact lay_pairs h
  al := by rw [List.map_map]; exact PySem.W.AllAlike.of fun _ _ => rfl
  so := by rw [List.map_map]; exact PySem.W.Sortable.tuples fun b => ⟨_, _, rfl⟩
  dep := fun x hx => by
    obtain ⟨s, _, rfl⟩ := List.mem_map.mp hx
    show 1 ≤ 30
    decide
end DL
namespace DL
open PySem PySem.Spec PyProof.Rows L2
/-! sets of texts: the members in the order in which they came -/
def putS (ks : List Str) (x : Str) : List Str := if x ∈ ks then ks else ks ++ [x]
theorem putS_nodup {ks : List Str} {x : Str} (h : ks.Nodup) : (putS ks x).Nodup := by
  unfold putS
  by_cases hx : x ∈ ks
  · rw [if_pos hx]; exact h
  · rw [if_neg hx, List.nodup_append]
    refine ⟨h, by simp, fun a ha b hb e => ?_⟩
    rw [List.mem_singleton.mp hb] at e
    exact hx (e ▸ ha)
theorem putS_mem {ks : List Str} {x y : Str} : y ∈ putS ks x ↔ y ∈ ks ∨ y = x := by
  unfold putS
  by_cases hx : x ∈ ks
  · rw [if_pos hx]
    exact ⟨.inl, fun h => h.elim id fun e => e ▸ hx⟩
  · rw [if_neg hx]; simp
theorem putS_len (ks : List Str) (x : Str) : (putS ks x).length ≤ ks.length + 1 := by
  unfold putS
  split
  · omega
  · simp
@[irreducible] def ded (l : List Str) : List Str := l.foldl putS []
theorem ded_snoc (l : List Str) (x : Str) : ded (l ++ [x]) = putS (ded l) x := by unfold ded; rw [List.foldl_append]; rfl
theorem ded_all (l : List Str) : (ded l).Nodup ∧ (ded l).length ≤ l.length ∧ ∀ x, x ∈ ded l ↔ x ∈ l := by
  have : ∀ (n : Nat) (l : List Str), l.length = n → (ded l).Nodup ∧ (ded l).length ≤ l.length ∧ ∀ x, x ∈ ded l ↔ x ∈ l := by
    intro n
    induction n with
    | zero =>
      intro l hl
      obtain rfl : l = [] := List.length_eq_zero_iff.mp hl
      unfold ded
      exact ⟨List.nodup_nil, Nat.le_refl _, fun x => Iff.rfl⟩
    | succ n ih =>
      intro l hl
      have hne : l ≠ [] := fun z => by rw [z] at hl; simp at hl
      have e := List.dropLast_concat_getLast hne
      have hd : l.dropLast.length = n := by rw [List.length_dropLast, hl]; rfl
      obtain ⟨i1, i2, i3⟩ := ih _ hd
      rw [← e, ded_snoc]
      refine ⟨putS_nodup i1, ?_, fun x => ?_⟩
      · have := putS_len (ded l.dropLast) (l.getLast hne)
        rw [List.length_append, List.length_singleton]
        omega
      · rw [putS_mem, i3, List.mem_append, List.mem_singleton]
  exact this _ l rfl
theorem ded_nodup (l : List Str) : (ded l).Nodup := (ded_all l).1
theorem ded_mem {l : List Str} {x : Str} : x ∈ ded l ↔ x ∈ l := (ded_all l).2.2 x
theorem ded_len (l : List Str) : (ded l).length ≤ l.length := (ded_all l).2.1
def txtOf (e : Int × Value) : Str := match e.2 with
  | .str k _ => k
  | _ => Str.empty
def TxtRow (P : Program) (w : World) (e : Int × Value) : Prop := ∃ k tk, e.2 = Value.str k tk ∧ e.1 = (PySem.strKind P w).hash k
/-- the set of the texts ks at a -/
def SetZ (P : Program) (w : World) (h : Heap) (a : Addr) (ks : List Str) : Prop :=
  ∃ o rows ep t, h.get? a = some o ∧ o.ExactSet ∧ o.data = .set rows ep t ∧ (∀ e ∈ rows.toList, TxtRow P w e) ∧ (rows.toList.map txtOf).Perm ks ∧ ks.Nodup ∧ ks.length < scanBound ∧ t.fits rows.size = true ∧ Ris t.place.toList ∧
    (w.params.followText "set-order" = true ∨ t.led = true)
section
variable {P : Program} {w : World} {A : Around} {E : Value → Shared → Prop} {s : Shared} {a : Addr} {ks : List Str}
theorem SetZ.at {h h' : Heap} (R : SetZ P w h a ks) (k : ∀ o, h.get? a = some o → h'.get? a = some o) : SetZ P w h' a ks := by
  obtain ⟨o, rows, ep, t, ho, rest⟩ := R
  exact ⟨o, rows, ep, t, k o ho, rest⟩
theorem txt_elems {l : List (Int × Value)} (g : ∀ e ∈ l, TxtRow P w e) : ElemsOf (PySem.strKind P w) l := fun e he => by
  obtain ⟨k, tk, e1, e2⟩ := g e he
  refine ⟨⟨k, ?_, e2⟩, ?_⟩
  · rw [e1]; exact strKind_is P w k tk
  · rw [e1]; rfl
theorem txt_is {e : Int × Value} (g : TxtRow P w e) (k : Str) : (PySem.strKind P w).is k e.2 = true ↔ txtOf e = k := by
  obtain ⟨k0, tk, e1, e2⟩ := g
  unfold txtOf
  rw [e1]
  constructor
  · intro h
    exact (PySem.strKind P w).inj _ _ _ (strKind_is P w k0 tk) h
  · rintro rfl
    exact strKind_is P w k0 tk
theorem rows_size {rows : Array (Int × Value)} (p : (rows.toList.map txtOf).Perm ks) : rows.size = ks.length := by
  have := p.length_eq
  rw [List.length_map, Array.length_toList] at this
  exact this
/-- the last steps of an addition -/
theorem setZ_tail {gv : Bool → Sem Unit} (hgv : ∀ (b : Bool) (s1 : Shared) (Q' : Unit → Shared → Prop), Q' () s1 → wpAny (model P w) A (gv b) Q' E s1)
    {o : Obj} {rows : Array (Int × Value)} {ep : Nat} {t : SetTable} (ho : s.heap.get? a = some o) (hex : o.ExactSet) (hd : o.data = .set rows ep t)
    {rows1 : Array (Int × Value)} {t2 : SetTable} {ks1 : List Str} (g1 : ∀ e ∈ rows1.toList, TxtRow P w e) (p1 : (rows1.toList.map txtOf).Perm ks1) (nd1 : ks1.Nodup)
    (hb1 : ks1.length < scanBound) (hf2 : t2.fits rows1.size = true) (hr : Ris t2.place.toList) (hl : w.params.followText "set-order" = true ∨ t2.led = true) {was : Bool} {R : Option Bool → Shared → Prop}
    (hR : ∀ h', Heap.SameBut a s.heap h' → SetZ P w h' a ks1 → R (some true) { s with heap := h' }) :
    wpAny (model P w) A (do
        storeSet a rows1 t2
        if (!was && t2.tooFull) = true then do
            gv (relayAll t2 rows1 (SetTable.grown rows1.size)).2.2
            storeSet a (relayAll t2 rows1 (SetTable.grown rows1.size)).1 (relayAll t2 rows1 (SetTable.grown rows1.size)).2.1
            pure (some true)
          else pure (some true)) R E s := by
  have sz1 : rows1.size < scanBound := by rw [rows_size p1]; exact hb1
  refine wpAny_bind (wpAny_storeSet_of ho hd ?_ (fits_of_scanBound sz1))
  have at1 := store_at (es' := rows1) (t' := t2) ho hd
  have sb := Heap.SameBut.update s.heap a (Obj.putSet rows1 t2)
  split
  · have pm := relayAll_perm t2 rows1 (SetTable.grown rows1.size)
    have hf3 := relayAll_fits t2 rows1 (SetTable.grown rows1.size)
    have hr3 := relayAll_ris t2 rows1 (SetTable.grown rows1.size)
    have hl3 := relayAll_led t2 rows1 (SetTable.grown rows1.size)
    generalize relayAll t2 rows1 (SetTable.grown rows1.size) = Z at pm hf3 hr3 hl3 ⊢
    obtain ⟨rows2, t3, gave⟩ := Z
    dsimp only at pm hf3 hr3 hl3 ⊢
    have p2 : (rows2.toList.map txtOf).Perm ks1 := (pm.map txtOf).trans p1
    have sz2 : rows2.size < scanBound := by rw [rows_size p2]; exact hb1
    refine wpAny_bind (hgv _ _ _ ?_)
    refine wpAny_bind (wpAny_storeSet_of at1 rfl ?_ (fits_of_scanBound sz2))
    have at2 := store_at (es' := rows2) (t' := t3) at1 rfl
    refine wpAny_pure (hR _ (sb.trans (Heap.SameBut.update _ a _)) ?_)
    refine ⟨_, rows2, _, t3, at2, hex, rfl, fun e he => g1 e (pm.mem_iff.mp he), p2, nd1, hb1, hf3, hr3, ?_⟩
    rcases hl with z | z
    · exact .inl z
    · exact .inr (hl3.trans z)
  · exact wpAny_pure (hR _ sb ⟨_, rows1, _, t2, at1, hex, rfl, g1, p1, nd1, hb1, hf2, hr, hl⟩)
/-- a text is put in -/
theorem setZ_add {k : Str} {tk : Tok} {Q : Bool → Shared → Prop} (R : SetZ P w s.heap a ks) (room : ks.length + 1 < scanBound)
    (hQ : ∀ h' b, Heap.SameBut a s.heap h' → SetZ P w h' a (putS ks k) → Q b { s with heap := h' }) :
    wpAny (model P w) A (setAddHashed a (.str k tk) ((PySem.strKind P w).hash k)) Q E s := by
  obtain ⟨o, rows, ep, t, ho, hex, hd, g, pm0, nd, hb, hf, hr, hl⟩ := R
  have sz : rows.size < scanBound := by rw [rows_size pm0]; exact hb
  have key : (PySem.strKind P w).is k (.str k tk) = true := strKind_is P w k tk
  have scn : (Value.str k tk).scannable = true := rfl
  have els : ElemsOf (PySem.strKind P w) rows.toList := txt_elems g
  unfold setAddHashed setAddHashedIn
  refine wpAny_holding (wpAny_bind (wpAny_setState_of ho hd hf ?_))
  dsimp only
  rw [byScan_of scn sz els]
  simp only [↓reduceIte]
  unfold setAddByScan
  refine wpAny_bind ?_
  refine wpAny_bind (wpAny_rule ?_)
  refine wpAny_bind (wpAny_setScan_of key ho hd hf els ?_)
  have mem : ∀ x, x ∈ ks ↔ ∃ e ∈ rows.toList, (PySem.strKind P w).is x e.2 = true := fun x => by
    rw [← pm0.mem_iff, List.mem_map]
    constructor
    · rintro ⟨e, he, q⟩
      exact ⟨e, he, (txt_is (g e he) x).2 q⟩
    · rintro ⟨e, he, q⟩
      exact ⟨e, he, (txt_is (g e he) x).1 q⟩
  cases fi : List.findIdx? (fun e => (PySem.strKind P w).is k e.2) rows.toList with
  | some j =>
    dsimp only
    obtain ⟨hj, pj, _⟩ := List.findIdx?_eq_some_iff_getElem.mp fi
    have hk : k ∈ ks := (mem k).2 ⟨rows.toList[j], List.getElem_mem hj, pj⟩
    refine wpAny_pure (wpAny_pure ?_)
    refine hQ s.heap _ (Heap.SameBut.refl a s.heap) ?_
    unfold putS
    rw [if_pos hk]
    exact ⟨o, rows, ep, t, ho, hex, hd, g, pm0, nd, hb, hf, hr, hl⟩
  | none =>
    dsimp only
    have hk : k ∉ ks := fun z => by
      obtain ⟨e, he, q⟩ := (mem k).1 z
      have c := List.findIdx?_eq_none_iff.mp fi e he
      rw [q] at c
      cases c
    have gw : ∀ (b : Bool) {s1 : Shared} {Q' : Unit → Shared → Prop}, Q' () s1 → wpAny (model P w) A (match b with | true => rule "set.scan.the-table-gave-way" | false => pure ()) Q' E s1 := fun b s1 Q' q => by
      cases b
      · exact wpAny_pure q
      · exact wpAny_rule q
    have pm := layNew_perm t rows ((PySem.strKind P w).hash k) (.str k tk)
    have hf1 := layNew_fits t rows ((PySem.strKind P w).hash k) (.str k tk)
    have hr1 := layNew_ris t rows ((PySem.strKind P w).hash k) (.str k tk) hr
    have hl1 := layNew_led t rows ((PySem.strKind P w).hash k) (.str k tk)
    generalize layNew t rows ((PySem.strKind P w).hash k) (.str k tk) = Z at pm hf1 hr1 hl1 ⊢
    obtain ⟨rows1, t1, was, gave⟩ := Z
    dsimp only at pm hf1 hr1 hl1 ⊢
    rw [Array.toList_push] at pm
    have g1 : ∀ e ∈ rows1.toList, TxtRow P w e := fun e he => by
      rcases List.mem_append.mp (pm.mem_iff.mp he) with z | z
      · exact g e z
      · rw [List.mem_singleton.mp z]; exact ⟨k, tk, rfl, rfl⟩
    have pk : (rows1.toList.map txtOf).Perm (ks ++ [k]) := by
      have q := pm.map txtOf
      rw [List.map_append] at q
      exact q.trans (pm0.append_right _)
    have ep1 : putS ks k = ks ++ [k] := by unfold putS; rw [if_neg hk]
    have nd1 : (ks ++ [k]).Nodup := by rw [← ep1]; exact putS_nodup nd
    have hb1 : (ks ++ [k]).length < scanBound := by rw [List.length_append]; exact room
    have led : w.params.followText "set-order" = true ∨ t1.led = true := by
      rcases hl with z | z
      · exact .inl z
      · exact .inr (hl1.trans z)
    have fin : ∀ h' b, Heap.SameBut a s.heap h' → SetZ P w h' a (ks ++ [k]) → Q b { s with heap := h' } := fun h' b sb r => hQ h' b sb (by rw [ep1]; exact r)
    refine wpAny_bind (gw _ ?_)
    split
    · refine wpAny_bind ?_
      rw [hashByValue_scannable 8 scn]
      refine wpAny_pure ?_
      refine setZ_tail ?_ ho hex hd g1 pk nd1 hb1 ?_ ?_ ?_ ?_
      · intro b s1 Q' q
        cases b
        · exact wpAny_pure q
        · exact wpAny_rule q
      · first | (split <;> first | exact hf1 | exact SetTable.fits_plain_off hf1) | exact hf1
      · first | (split <;> exact hr1) | exact hr1
      · first | (split <;> exact led) | exact led
      · intro h' sb r
        dsimp only
        exact wpAny_pure (fin h' _ sb r)
    · refine wpAny_bind (wpAny_pure ?_)
      simp only [↓reduceIte]
      refine setZ_tail ?_ ho hex hd g1 pk nd1 hb1 hf1 hr1 led ?_
      · intro b s1 Q' q
        cases b
        · exact wpAny_pure q
        · exact wpAny_rule q
      · intro h' sb r
        dsimp only
        exact wpAny_pure (fin h' _ sb r)
/-- the texts of a walk are put in, one behind the other -/
theorem setZ_loop {I : Addr} {fp wr : List Addr} {G : Array GenState → Array GenState → Prop} {n : Nat} {Pv : Nat → Value → Prop} {St : Nat → Shared → Prop} {R : Result → Shared → Prop}
    (W : WalksS P w A.in1 I fp wr G n Pv St) (S : Addr) (hSf : S ∉ fp) (xs : List Str) (hn : n = xs.length) (hb : xs.length + 1 < scanBound) (hval : ∀ i v, Pv i v → ∃ k t, xs[i]? = some k ∧ v = .str k t) :
    ∀ (m i : Nat) (s : Shared), n - i = m → i ≤ n → St i s → SetZ P w s.heap S (ded (xs.take i)) →
      (∀ s', Moved (S :: wr) G s s' → SetZ P w s'.heap S (ded xs) → R (.ok (.ret .none)) s') →
      codeAny (model P w) A (.builtin "set.update.loop" ⟨[.ref S, .ref I], []⟩) R s := by
  have out : S ∉ wr := fun h => hSf (W.sub _ h)
  have sub : ∀ b ∈ wr, b ∈ S :: wr := fun b hb => List.mem_cons_of_mem _ hb
  intro m
  induction m with
  | zero =>
    intro i s hm hi st hS hR
    obtain rfl : i = n := by omega
    refine codeAny_builtin F.entry_set_update_loop ?_
    rw [Around.under_plainId F.plain_set_update_loop _]
    show wpAny _ A.in1 (pyNext (.ref I) >>= _) _ _ s
    refine wpAny_bind (W.done s _ _ st fun s' mv => ?_)
    show wpAny _ A.in1 (ret Value.none) _ _ s'
    rw [List.take_of_length_le (by omega)] at hS
    exact wpAny_pure (hR s' (mv.mono sub) (hS.at fun o e => mv.heap S o out e))
  | succ m ih =>
    intro i s hm hi st hS hR
    have lt : i < n := by omega
    refine codeAny_builtin F.entry_set_update_loop ?_
    rw [Around.under_plainId F.plain_set_update_loop _]
    show wpAny _ A.in1 (pyNext (.ref I) >>= _) _ _ s
    refine wpAny_bind (W.item i s _ _ lt st fun v s' hP st' mv => ?_)
    obtain ⟨z, t, hz, rfl⟩ := hval i v hP
    have hS' : SetZ P w s'.heap S (ded (xs.take i)) := hS.at fun o e => mv.heap S o out e
    show wpAny _ A.in1 (holding [Value.str z t] (setAdd S (.str z t)) >>= _) _ _ s'
    refine wpAny_bind (wpAny_holding ?_)
    unfold setAdd
    refine wpAny_holding ?_
    refine wpAny_bind ((PySem.strKind P w).pyHash (k := z) (strKind_is _ _ _ _) ?_)
    have few : (ded (xs.take i)).length + 1 < scanBound := by
      have q := ded_len (xs.take i)
      rw [List.length_take] at q
      omega
    refine setZ_add (s := { s' with toks := s'.toks + 1 }) hS' few fun h' b sb hS2 => ?_
    have hS3 : SetZ P w h' S (ded (xs.take (i + 1))) := by
      rw [List.take_add_one, hz]
      show SetZ P w h' S (ded (xs.take i ++ [z]))
      rw [ded_snoc]
      exact hS2
    refine wpAny_pure ⟨plainId_quiet F.plain_set_update_loop _, ih (i + 1) _ (by omega) lt (W.frame _ s' _ _ st' (Nat.le_succ _) fun c hc o e => ?_) hS3 fun s2 mv2 hS4 => ?_⟩
    · rw [sb.2 c (fun z : c = S => hSf (z ▸ hc))]; exact e
    · refine hR s2 (Moved.trans W.gtrans ((mv.mono sub).then_heap (Nat.le_succ _) fun c o hc e => ?_) mv2) hS4
      rw [sb.2 c (fun z : c = S => hc (by rw [z]; exact List.mem_cons_self))]; exact e
theorem setZ_fresh {h : Heap} (ho : h.get? a = some { cls := .type "set", dict := none, data := .set #[] 0 (.fresh 0 0 (!w.params.followText "set-order")) }) : SetZ P w h a [] :=
  ⟨_, #[], 0, _, ho, ⟨rfl, rfl, rfl⟩, rfl, (fun e he => by simp at he), List.Perm.nil, List.nodup_nil, by decide, by rfl, List.Pairwise.nil, by
    show _ ∨ (!w.params.followText "set-order") = true
    cases w.params.followText "set-order"
    · exact .inr rfl
    · exact .inl rfl⟩
set_option maxRecDepth 100000 in
set_option maxHeartbeats 3200000 in
theorem call_setZ_list {l : Addr} {items : Array Value} (xs : List Str) {Q : Value → Shared → Prop} (hh : A.handled = none) (hl : s.heap.IsList l items) (sz : items.size = xs.length) (hval : ∀ (i : Nat) (v : Value), items[i]? = some v → ∃ k t, xs[i]? = some k ∧ v = .str k t)
    (hb : xs.length + 1 < scanBound) (hQ : ∀ (h' : Heap) (tk : Nat), SetZ P w h' s.heap.objs.size (ded xs) → (∀ b o, s.heap.get? b = some o → h'.get? b = some o) → Q (.ref s.heap.objs.size) { s with heap := h', toks := tk }) :
    wpAny (model P w) A (call (.type "set") [.ref l]) Q E s := by
  obtain ⟨c0, tl0, mro0⟩ := F.called_set.mro
  have made0 := F.called_set.made
  have sub0 := F.called_set.sub
  refine wpAny_call (codeAny_of_tree ?_)
  show wpAny _ _ (callAny (.type "set") _) _ _ _
  refine wpAny_pure ⟨Code.quiet_builtin _ (by decide +kernel), codeAny_builtin F.entry_type_call ?_⟩
  rw [Around.under_plain (weight_type_call_type "set" [.ref l] []) rfl]
  have nt := F.called_set.notType
  have cc := F.called_set.canCreate
  have tc := F.typeCall_set_1 (.ref l)
  repeat (any_goals (first | assumption | wp_step))
  refine codeAny_mono (code_set_led1 (.ref l) (E := E) (Q₁ := fun v s1 => v = .ref s.heap.objs.size ∧ s1 = { s with heap := s.heap.push { cls := .type "set", dict := none, data := .set #[] 0 (.fresh 0 0 (!w.params.followText "set-order")) } }) ⟨rfl, rfl⟩) fun r s1 hr => ?_
  cases r with
  | error e => exact hr
  | ok fl =>
    cases fl with
    | ret v =>
      obtain ⟨rfl, rfl⟩ := hr
      have hS : (s.heap.push { cls := .type "set", dict := none, data := .set #[] 0 (.fresh 0 0 (!w.params.followText "set-order")) }).get? s.heap.objs.size = some { cls := .type "set", dict := none, data := .set #[] 0 (.fresh 0 0 (!w.params.followText "set-order")) } := Heap.get?_push_size _ rfl
      have hT : Shared.TypeIs { s with heap := s.heap.push { cls := .type "set", dict := none, data := .set #[] 0 (.fresh 0 0 (!w.params.followText "set-order")) } } (.ref s.heap.objs.size) "set" := ⟨_, hS, rfl⟩
      have li := F.called_set.init.lookup
      have bi := F.called_set.init.bind (.ref s.heap.objs.size)
      repeat (any_goals (first | assumption | wp_step))
      refine codeAny_mono (codeAny_call_builtin (R := wants (fun r s2 => r = .none ∧ ∃ h' tk, s2 = { s with heap := h', toks := tk } ∧ SetZ P w h' s.heap.objs.size (ded xs) ∧
          (∀ b o, s.heap.get? b = some o → h'.get? b = some o)) E) F.called_set.init.plain F.entry_set_init (check_set_init_1 hT ?_)) fun r2 s2 hr2 => ?_
      · obtain ⟨ol, hol, hcl, nl, hdl⟩ := hl
        obtain ⟨ocls, odict, odata, oslots⟩ := ol
        simp only at hcl hdl
        subst hcl; subst hdl
        have hol' : (s.heap.push { cls := .type "set", dict := none, data := .set #[] 0 (.fresh 0 0 (!w.params.followText "set-order")) }).get? l = some { cls := .type "list", dict := odict, data := .seq items nl, slots := oslots } := Heap.get?_push_of_some _ hol
        have u1 := F.sub_list_set
        have u2 := F.sub_list_frozenset
        have u3 : (Value.type "list" == Value.type "dict") = false := by decide
        have hl1 : (s.heap.push { cls := .type "set", dict := none, data := .set #[] 0 (.fresh 0 0 (!w.params.followText "set-order")) }).IsList l items := ⟨_, hol', rfl, nl, rfl⟩
        unfold Builtin.«set.__init__» noKeywords Builtin.Frozenset.updateFrom
        generalize hPI : pyIter = PI
        wp_walk
        subst hPI
        refine wpAny_pyIter_list hl1 ?_
        refine wpAny_bind (wpAny_runValue ?_)
        have below : l < s.heap.objs.size := Heap.lt_size hol
        have calm3 : A.in1.in1.in1.handled = none := by simp [hh]
        have neI : l ≠ (s.heap.push { cls := .type "set", dict := none, data := .set #[] 0 (.fresh 0 0 (!w.params.followText "set-order")) }).objs.size := by rw [Heap.size_push]; exact Nat.ne_of_lt (Nat.lt_succ_of_lt below)
        have nf : s.heap.objs.size ∉ [(s.heap.push { cls := .type "set", dict := none, data := .set #[] 0 (.fresh 0 0 (!w.params.followText "set-order")) }).objs.size, l] := by
          rw [Heap.size_push]
          simp only [List.mem_cons, List.not_mem_nil, or_false, not_or]
          exact ⟨Nat.ne_of_lt (Nat.lt_succ_self _), Nat.ne_of_gt below⟩
        refine setZ_loop ((Walks.list calm3 _ l neI items).toS) s.heap.objs.size nf xs sz hb hval (items.size - 0) 0 _ (by omega) (Nat.zero_le _) ⟨⟨_, Heap.get?_push_size _ rfl, rfl, rfl⟩, (hl1.push _)⟩ ?start ?done
        case start =>
          rw [List.take_zero, show ded [] = [] by unfold ded; rfl]
          refine setZ_fresh ?_
          exact Heap.get?_push_of_some _ hS
        case done =>
          intro s' mv hS'
          obtain ⟨h', g2, d2, tk2, os2⟩ := s'
          obtain rfl : g2 = s.gens := mv.gens
          obtain rfl : d2 = s.drawn := mv.drawn
          obtain rfl : os2 = s.os := mv.os
          show wpAny _ _ _ _ _ _
          refine wpAny_pure ?_
          show wpAny _ _ (ret Value.none) _ _ _
          refine wpAny_pure ⟨rfl, h', tk2, rfl, hS', fun b o e => ?_⟩
          have lb : b < s.heap.objs.size := Heap.lt_size e
          refine mv.heap b o ?_ (Heap.get?_push_of_some _ (Heap.get?_push_of_some _ e))
          rw [Heap.size_push]
          simp only [List.mem_cons, List.not_mem_nil, or_false, not_or]
          exact ⟨Nat.ne_of_lt lb, Nat.ne_of_lt (Nat.lt_succ_of_lt lb)⟩
      · cases r2 with
        | error e => exact hr2
        | ok fl2 =>
          cases fl2 with
          | ret r =>
            obtain ⟨rfl, h', tk, rfl, hS', keep⟩ := hr2
            repeat (any_goals (first | assumption | wp_step))
            exact hQ _ _ hS' keep
          | _ => exact hr2.elim
    | _ => exact hr.elim
set_option maxRecDepth 100000 in
set_option maxHeartbeats 3200000 in
theorem call_setZ_tuple {l : Addr} {items : Array Value} (xs : List Str) {Q : Value → Shared → Prop} (hh : A.handled = none) (hl : s.heap.IsTuple l items) (sz : items.size = xs.length) (hval : ∀ (i : Nat) (v : Value), items[i]? = some v → ∃ k t, xs[i]? = some k ∧ v = .str k t)
    (hb : xs.length + 1 < scanBound) (hQ : ∀ (h' : Heap) (tk : Nat), SetZ P w h' s.heap.objs.size (ded xs) → (∀ b o, s.heap.get? b = some o → h'.get? b = some o) → Q (.ref s.heap.objs.size) { s with heap := h', toks := tk }) :
    wpAny (model P w) A (call (.type "set") [.ref l]) Q E s := by
  obtain ⟨c0, tl0, mro0⟩ := F.called_set.mro
  have made0 := F.called_set.made
  have sub0 := F.called_set.sub
  refine wpAny_call (codeAny_of_tree ?_)
  show wpAny _ _ (callAny (.type "set") _) _ _ _
  refine wpAny_pure ⟨Code.quiet_builtin _ (by decide +kernel), codeAny_builtin F.entry_type_call ?_⟩
  rw [Around.under_plain (weight_type_call_type "set" [.ref l] []) rfl]
  have nt := F.called_set.notType
  have cc := F.called_set.canCreate
  have tc := F.typeCall_set_1 (.ref l)
  repeat (any_goals (first | assumption | wp_step))
  refine codeAny_mono (code_set_led1 (.ref l) (E := E) (Q₁ := fun v s1 => v = .ref s.heap.objs.size ∧ s1 = { s with heap := s.heap.push { cls := .type "set", dict := none, data := .set #[] 0 (.fresh 0 0 (!w.params.followText "set-order")) } }) ⟨rfl, rfl⟩) fun r s1 hr => ?_
  cases r with
  | error e => exact hr
  | ok fl =>
    cases fl with
    | ret v =>
      obtain ⟨rfl, rfl⟩ := hr
      have hS : (s.heap.push { cls := .type "set", dict := none, data := .set #[] 0 (.fresh 0 0 (!w.params.followText "set-order")) }).get? s.heap.objs.size = some { cls := .type "set", dict := none, data := .set #[] 0 (.fresh 0 0 (!w.params.followText "set-order")) } := Heap.get?_push_size _ rfl
      have hT : Shared.TypeIs { s with heap := s.heap.push { cls := .type "set", dict := none, data := .set #[] 0 (.fresh 0 0 (!w.params.followText "set-order")) } } (.ref s.heap.objs.size) "set" := ⟨_, hS, rfl⟩
      have li := F.called_set.init.lookup
      have bi := F.called_set.init.bind (.ref s.heap.objs.size)
      repeat (any_goals (first | assumption | wp_step))
      refine codeAny_mono (codeAny_call_builtin (R := wants (fun r s2 => r = .none ∧ ∃ h' tk, s2 = { s with heap := h', toks := tk } ∧ SetZ P w h' s.heap.objs.size (ded xs) ∧
          (∀ b o, s.heap.get? b = some o → h'.get? b = some o)) E) F.called_set.init.plain F.entry_set_init (check_set_init_1 hT ?_)) fun r2 s2 hr2 => ?_
      · obtain ⟨ol, hol, hcl, nl, hdl⟩ := hl
        obtain ⟨ocls, odict, odata, oslots⟩ := ol
        simp only at hcl hdl
        subst hcl; subst hdl
        have hol' : (s.heap.push { cls := .type "set", dict := none, data := .set #[] 0 (.fresh 0 0 (!w.params.followText "set-order")) }).get? l = some { cls := .type "tuple", dict := odict, data := .seq items nl, slots := oslots } := Heap.get?_push_of_some _ hol
        have u1 := F.sub_tuple_set
        have u2 := F.sub_tuple_frozenset
        have u3 : (Value.type "tuple" == Value.type "dict") = false := by decide
        have hl1 : (s.heap.push { cls := .type "set", dict := none, data := .set #[] 0 (.fresh 0 0 (!w.params.followText "set-order")) }).IsTuple l items := ⟨_, hol', rfl, nl, rfl⟩
        unfold Builtin.«set.__init__» noKeywords Builtin.Frozenset.updateFrom
        generalize hPI : pyIter = PI
        wp_walk
        subst hPI
        refine wpAny_pyIter_tuple hl1 ?_
        refine wpAny_bind (wpAny_runValue ?_)
        have below : l < s.heap.objs.size := Heap.lt_size hol
        have calm3 : A.in1.in1.in1.handled = none := by simp [hh]
        have neI : l ≠ (s.heap.push { cls := .type "set", dict := none, data := .set #[] 0 (.fresh 0 0 (!w.params.followText "set-order")) }).objs.size := by rw [Heap.size_push]; exact Nat.ne_of_lt (Nat.lt_succ_of_lt below)
        have nf : s.heap.objs.size ∉ [(s.heap.push { cls := .type "set", dict := none, data := .set #[] 0 (.fresh 0 0 (!w.params.followText "set-order")) }).objs.size, l] := by
          rw [Heap.size_push]
          simp only [List.mem_cons, List.not_mem_nil, or_false, not_or]
          exact ⟨Nat.ne_of_lt (Nat.lt_succ_self _), Nat.ne_of_gt below⟩
        refine setZ_loop ((Walks.tuple calm3 _ l neI items).toS) s.heap.objs.size nf xs sz hb hval (items.size - 0) 0 _ (by omega) (Nat.zero_le _) ⟨⟨_, Heap.get?_push_size _ rfl, rfl, rfl⟩, (hl1.push _)⟩ ?start ?done
        case start =>
          rw [List.take_zero, show ded [] = [] by unfold ded; rfl]
          refine setZ_fresh ?_
          exact Heap.get?_push_of_some _ hS
        case done =>
          intro s' mv hS'
          obtain ⟨h', g2, d2, tk2, os2⟩ := s'
          obtain rfl : g2 = s.gens := mv.gens
          obtain rfl : d2 = s.drawn := mv.drawn
          obtain rfl : os2 = s.os := mv.os
          show wpAny _ _ _ _ _ _
          refine wpAny_pure ?_
          show wpAny _ _ (ret Value.none) _ _ _
          refine wpAny_pure ⟨rfl, h', tk2, rfl, hS', fun b o e => ?_⟩
          have lb : b < s.heap.objs.size := Heap.lt_size e
          refine mv.heap b o ?_ (Heap.get?_push_of_some _ (Heap.get?_push_of_some _ e))
          rw [Heap.size_push]
          simp only [List.mem_cons, List.not_mem_nil, or_false, not_or]
          exact ⟨Nat.ne_of_lt lb, Nat.ne_of_lt (Nat.lt_succ_of_lt lb)⟩
      · cases r2 with
        | error e => exact hr2
        | ok fl2 =>
          cases fl2 with
          | ret r =>
            obtain ⟨rfl, h', tk, rfl, hS', keep⟩ := hr2
            repeat (any_goals (first | assumption | wp_step))
            exact hQ _ _ hS' keep
          | _ => exact hr2.elim
    | _ => exact hr.elim
end
end DL
namespace DL
open PySem PySem.Spec PyProof.Rows L2
/-! the order of texts and of pairs of texts -/
theorem leS_eq (a b : Str) : leS a b = decide (a.cps.toList ≤ b.cps.toList) := congrFun (congrFun (PySem.W.dataLe_str (fun x : Str => x)) a) b
theorem leS_trans (a b c : Str) (h1 : leS a b = true) (h2 : leS b c = true) : leS a c = true := by
  rw [leS_eq, decide_eq_true_iff] at *
  exact List.le_trans h1 h2
theorem leS_total (a b : Str) : (leS a b || leS b a) = true := by
  rw [leS_eq, leS_eq, Bool.or_eq_true, decide_eq_true_iff, decide_eq_true_iff]
  exact List.le_total _ _
theorem str_ext {a b : Str} (h : a.cps.toList = b.cps.toList) : a = b := by
  cases a; cases b; congr 1; exact Array.toList_inj.mp h
theorem leS_antisymm {a b : Str} (h1 : leS a b = true) (h2 : leS b a = true) : a = b := by
  rw [leS_eq, decide_eq_true_iff] at *
  exact str_ext (List.le_antisymm h1 h2)
theorem leS_refl (a : Str) : leS a a = true := by
  have := leS_total a a
  rwa [Bool.or_self] at this
theorem sortS_sorted (l : List Str) : (sortS l).Pairwise fun a b => leS a b = true := by unfold sortS; exact List.pairwise_mergeSort leS_trans leS_total l
theorem sortS_eq {l m : List Str} (h : l.Perm m) : sortS l = sortS m :=
  (((sortS_perm l).trans h).trans (sortS_perm m).symm).eq_of_pairwise (fun a b _ _ h1 h2 => leS_antisymm h1 h2) (sortS_sorted l) (sortS_sorted m)
theorem perm_of_nodup {α : Type} [DecidableEq α] {l m : List α} (h1 : l.Nodup) (h2 : m.Nodup) (h : ∀ x, x ∈ l ↔ x ∈ m) : l.Perm m := by
  induction l generalizing m with
  | nil =>
    have : m = [] := by
      cases m with
      | nil => rfl
      | cons x r => exact absurd ((h x).mpr (by simp)) (by simp)
    rw [this]
  | cons x l ih =>
    obtain ⟨hx, hl⟩ := List.nodup_cons.mp h1
    have hm : x ∈ m := (h x).mp (by simp)
    refine (List.Perm.cons x (ih hl (h2.erase x) fun y => ?_)).trans (List.perm_cons_erase hm).symm
    rw [h2.mem_erase_iff, ← h y, List.mem_cons]
    constructor
    · intro hy
      exact ⟨fun e => hx (e ▸ hy), .inr hy⟩
    · rintro ⟨n, e | e⟩
      · exact absurd e n
      · exact e
theorem sortS_ext {l m : List Str} (h1 : l.Nodup) (h2 : m.Nodup) (h : ∀ x, x ∈ l ↔ x ∈ m) : sortS l = sortS m := sortS_eq (perm_of_nodup h1 h2 h)
theorem sortS_len (l : List Str) : (sortS l).length = l.length := (sortS_perm l).length_eq
theorem leU_eq (a b : Us) : leU a b = (if b.1 = a.1 then (if b.2 = a.2 then true else leS a.2 b.2) else leS a.1 b.1) := by
  show (!PySem.W.dataLt (.tuple [.str b.1, .str b.2]) (.tuple [.str a.1, .str a.2])) = _
  rw [PySem.W.dataLt_pair rfl rfl]
  have e : ∀ x y : Str, PyData.eqv (.str x) (.str y) = decide (x = y) := fun x y => Bool.beq_eq_decide_eq x y
  rw [e, e]
  by_cases h1 : b.1 = a.1
  · rw [if_pos h1, decide_eq_true h1, if_pos rfl]
    by_cases h2 : b.2 = a.2
    · rw [if_pos h2, decide_eq_true h2, if_pos rfl]; rfl
    · rw [if_neg h2, decide_eq_false h2, if_neg Bool.false_ne_true]; rfl
  · rw [if_neg h1, decide_eq_false h1, if_neg Bool.false_ne_true]; rfl
theorem leU_iff (a b : Us) : leU a b = true ↔ (a.1 = b.1 ∧ leS a.2 b.2 = true) ∨ (a.1 ≠ b.1 ∧ leS a.1 b.1 = true) := by
  rw [leU_eq]
  by_cases h1 : b.1 = a.1
  · rw [if_pos h1]
    by_cases h2 : b.2 = a.2
    · rw [if_pos h2, h2]
      simp [h1, leS_refl]
    · rw [if_neg h2]
      simp [h1]
  · rw [if_neg h1]
    have : a.1 ≠ b.1 := fun e => h1 e.symm
    simp [this]
theorem leU_trans (a b c : Us) (h1 : leU a b = true) (h2 : leU b c = true) : leU a c = true := by
  rw [leU_iff] at *
  rcases h1 with ⟨e1, l1⟩ | ⟨n1, l1⟩ <;> rcases h2 with ⟨e2, l2⟩ | ⟨n2, l2⟩
  · exact .inl ⟨e1.trans e2, leS_trans _ _ _ l1 l2⟩
  · exact .inr ⟨by rw [e1]; exact n2, by rw [e1]; exact l2⟩
  · exact .inr ⟨by rw [← e2]; exact n1, by rw [← e2]; exact l1⟩
  · refine .inr ⟨fun e => ?_, leS_trans _ _ _ l1 l2⟩
    rw [← e] at l2
    exact n1 (leS_antisymm l1 l2)
theorem leU_total (a b : Us) : (leU a b || leU b a) = true := by
  rw [Bool.or_eq_true, leU_iff, leU_iff]
  by_cases h : a.1 = b.1
  · have := leS_total a.2 b.2
    rw [Bool.or_eq_true] at this
    rcases this with l | l
    · exact .inl (.inl ⟨h, l⟩)
    · exact .inr (.inl ⟨h.symm, l⟩)
  · have := leS_total a.1 b.1
    rw [Bool.or_eq_true] at this
    rcases this with l | l
    · exact .inl (.inr ⟨h, l⟩)
    · exact .inr (.inr ⟨fun e => h e.symm, l⟩)
theorem leU_antisymm {a b : Us} (h1 : leU a b = true) (h2 : leU b a = true) : a = b := by
  rw [leU_iff] at h1 h2
  rcases h1 with ⟨e1, l1⟩ | ⟨n1, l1⟩ <;> rcases h2 with ⟨e2, l2⟩ | ⟨n2, l2⟩
  · exact Prod.ext e1 (leS_antisymm l1 l2)
  · exact absurd e1.symm n2
  · exact absurd e2.symm n1
  · exact absurd (leS_antisymm l1 l2) n1
theorem sortU_sorted (l : List Us) : (sortU l).Pairwise fun a b => leU a b = true := by unfold sortU; exact List.pairwise_mergeSort leU_trans leU_total l
theorem sortU_eq {l m : List Us} (h : l.Perm m) : sortU l = sortU m :=
  (((sortU_perm l).trans h).trans (sortU_perm m).symm).eq_of_pairwise (fun a b _ _ h1 h2 => leU_antisymm h1 h2) (sortU_sorted l) (sortU_sorted m)
/-! len(set(e)), sorted(set(e)) of texts -/
def tSortZ (K : PySem.W.Frag) (ta : TE) : TE := fun st H Q => ta st H fun x H1 => ∃ (l : Addr) (xs : List Str), x = .ref l ∧ (SqL K H1 l (xs.map V.str) ∨ SqT K H1 l (xs.map V.str)) ∧ xs.length ≤ 4000 ∧ (∀ s ∈ xs, asc s) ∧
  ∀ p, H1 p = none → Q (.ref p) (upd H1 p (.lst ((sortS (ded xs)).map V.str)))
section
variable {X : Cx} {pins : List (Addr × Obj)} {st : L2.St} {H : Hp} {s : Shared}
theorem vals_at {xs : List Str} {us : List Value} (r : Vals (xs.map V.str) us) (i : Nat) (v : Value) (h : us.toArray[i]? = some v) : ∃ k t, xs[i]? = some k ∧ v = .str k t := by
  rw [List.getElem?_toArray] at h
  have hl : us.length = xs.length := by rw [← r.length, List.length_map]
  have hi : i < xs.length := by rw [← hl]; exact (List.getElem?_eq_some_iff.mp h).1
  obtain ⟨u, hu, t, ht⟩ := r.get (i := i) (x := .str xs[i]) (by simp [hi])
  rw [h] at hu
  cases hu
  exact ⟨xs[i], t, List.getElem?_eq_getElem hi, ht⟩
theorem set_of {l : Addr} {xs : List Str} {Q : Value → Shared → Prop} {E : Value → Shared → Prop} (I : Inv X pins st H s) (hc : X.calm = true) (hq : SqL X.K H l (xs.map V.str) ∨ SqT X.K H l (xs.map V.str)) (hb : xs.length ≤ 4000)
    (h : ∀ (h' : Heap) (tk : Nat), SetZ X.prog X.w h' s.heap.objs.size (ded xs) → Inv X pins st H { s with heap := h', toks := tk } → s.heap.objs.size < h'.objs.size → Q (.ref s.heap.objs.size) { s with heap := h', toks := tk }) :
    wpAny (model X.prog X.w) X.A (call (.type "set") [.ref l]) Q E s := by
  have hb' : xs.length + 1 < scanBound := by unfold scanBound; omega
  have fin : ∀ (h' : Heap) (tk : Nat), SetZ X.prog X.w h' s.heap.objs.size (ded xs) → (∀ b o, s.heap.get? b = some o → h'.get? b = some o) → Q (.ref s.heap.objs.size) { s with heap := h', toks := tk } := fun h' tk hS k => by
    refine h h' tk hS (I.kept k) ?_
    obtain ⟨o, _, _, _, ho, _⟩ := hS
    exact Heap.lt_size ho
  rcases hq with hq | hq
  · obtain ⟨its, r, pl, hz⟩ := I.list hq
    exact call_setZ_list xs (I.ok.hd hc) pl.isList (by rw [List.size_toArray, ← r.length, List.length_map]) (vals_at r) hb' fin
  · obtain ⟨its, r, pl, hz⟩ := I.tuple hq
    exact call_setZ_tuple xs (I.ok.hd hc) pl (by rw [List.size_toArray, ← r.length, List.length_map]) (vals_at r) hb' fin
theorem vals_strs : ∀ (us : List Value), (∀ u ∈ us, ∃ k tk, u = Value.str k tk) → ∃ ks : List Str, Vals (ks.map V.str) us ∧ us.map (fun u => txtOf (0, u)) = ks
  | [], _ => ⟨[], .nil, rfl⟩
  | u :: us, h => by
    obtain ⟨k, tk, rfl⟩ := h u (by simp)
    obtain ⟨ks, h1, h2⟩ := vals_strs us fun x hx => h x (by simp [hx])
    exact ⟨k :: ks, .cons ⟨tk, rfl⟩ h1, by rw [List.map_cons, h2]; rfl⟩
theorem sorted_setZ {a : Addr} {ks : List Str} {Q : VK} (I : Inv X pins st H s) (hc : X.calm = true) (hu : X.A.units + 64 < cLine) (R : SetZ X.prog X.w s.heap a ks) (hasc : ∀ k ∈ ks, asc k)
    (hq : ∀ p, H p = none → Q (.ref p) (upd H p (.lst ((sortS ks).map V.str)))) : wpAny (model X.prog X.w) X.A (call (.builtin "sorted") [.ref a]) (EP X pins st Q) X.xe s := by
  obtain ⟨o, rows, ep, t, ho, hex, hd, g, pm, nd, hb, hf, hr, hl⟩ := R
  have sz := rows_size pm
  have few : ks.length ≤ 4096 := by unfold scanBound at hb; omega
  have hL : ks.length ≤ sizeLine := Nat.le_trans few (by decide)
  refine Calls.call_function_entry PyProof.Rows.kind_sorted PyProof.Rows.plain_sorted PyProof.Rows.entry_sorted (PyProof.Rows.args_sorted1 _) ?_
  unfold Builtin.«sorted»
  refine wpAny_bind (m := checkCount "sorted" 1 1 _) (wpAny_pure ?_)
  refine wpAny_bind (collect_set (A := X.A.in1) (I.ok.hd hc) ⟨o, ho, hex.1, hd⟩ hf (by rw [sz]; exact hb) hr hl fun s1 ws keep grow eg eo pw => ?_)
  have hw : ∀ u ∈ ws, ∃ k tk, u = Value.str k tk := fun u hu' => by
    obtain ⟨e, he, rfl⟩ := List.mem_map.mp (pw.mem_iff.mp hu')
    obtain ⟨k, tk, e1, _⟩ := g e he
    exact ⟨k, tk, e1⟩
  obtain ⟨zs, rv, ez⟩ := vals_strs ws hw
  have pz : zs.Perm ks := by
    rw [← ez]
    refine (pw.map _).trans ?_
    rw [List.map_map]
    exact pm
  have hzl : zs.length = ks.length := pz.length_eq
  have hwl : ws.length = zs.length := by rw [← ez, List.length_map]
  have I1 : Inv X pins st H { s with heap := s1.heap, gens := s1.gens, drawn := s1.drawn, toks := s1.toks } :=
    I.call (ch := []) (Un.kept keep) (I.hok.kept keep) (by rw [eg]; exact I.bare) (fun _ z => nomatch z)
  have es : s1 = { s with heap := s1.heap, gens := s1.gens, drawn := s1.drawn, toks := s1.toks } := by
    cases s1
    cases s
    cases eo
    rfl
  generalize hbs : (zs.map fun k => (V.str k, PyData.str k)) = bs
  have hb1 : bs.map (·.1) = zs.map V.str := by rw [← hbs, List.map_map]; rfl
  have hb2 : bs.map (·.2) = zs.map PyData.str := by rw [← hbs, List.map_map]; rfl
  have hbl : bs.length = zs.length := by rw [← hbs, List.length_map]
  rw [← hb1] at rv
  refine wpAny_bind (wpAny_newList ?_ (by rw [hwl, hzl]; exact hL))
  have hoL : (s1.heap.push (seqObj "list" ws.toArray 0)).get? s1.heap.objs.size = some (seqObj "list" ws.toArray 0) := Heap.get?_push_size _ rfl
  have e := each_vals rv
  have er : PySem.W.EachIs (fun v (b : V × PyData) => ∃ as, Reads (s1.heap.push (seqObj "list" ws.toArray 0)) v b.2 as ∧ s1.heap.objs.size ∉ as) ws bs := by
    refine (PySem.W.each_mem e).mono fun v b ⟨rb, hb⟩ => ?_
    rw [← hbs] at hb
    obtain ⟨k, _, rfl⟩ := List.mem_map.mp hb
    obtain ⟨tk, rfl⟩ := rb
    exact ⟨[], .str k tk, by simp⟩
  refine wpAny_bind (wpAny_holding (PySem.W.list_sort_data (A := X.A.in1) (s := { s1 with heap := s1.heap.push (seqObj "list" ws.toArray 0) }) hoL e er ?_ ?_ (by rw [hbl, hzl]; exact hL) (fun b hb => ?_) fun out hol hout => ?_))
  · rw [hb2]; exact PySem.W.AllAlike.of fun _ _ => rfl
  · rw [hb2]; exact PySem.W.Sortable.others fun b => ⟨fun e => by simp at e, fun xs e => by simp at e⟩
  · rw [← hbs] at hb
    obtain ⟨k, _, rfl⟩ := List.mem_map.mp hb
    show X.A.units + 1 + 1 + 0 < cLine
    omega
  · obtain ⟨c, hcc⟩ := PyProof.Rows.sortedHeap_at (vs := ws) (out := out.toArray) hoL
    have hv := vals_each hout
    have em : (bs.mergeSort (PySem.W.dataLe false (·.2))).map (·.1) = (sortS ks).map V.str := by
      rw [← sortS_eq pz, ← hbs]
      unfold sortS
      rw [← List.map_mergeSort (r := leS) (s := PySem.W.dataLe false (·.2)) (f := fun k => (V.str k, PyData.str k)) fun _ _ _ _ => rfl, List.map_map]
      rfl
    rw [em] at hv
    have hlen : ((sortS ks).map V.str).length ≤ sizeLine := by rw [List.length_map, sortS_len]; exact hL
    rw [es]
    refine wpAny_pure ⟨_, rfl, .ref s1.heap.objs.size, upd H s1.heap.objs.size (.lst _), I1.laid (t' := s1.toks) (fun b u e => ?_) (Nat.le_refl _)
      (show ObjOk X.prog X.w _ _ _ (.lst _) from ⟨hlen, out, c, hv, hcc⟩), rfl, hq _ (I1.hok.fresh (Nat.le_refl _))⟩
    have hb : b < s1.heap.objs.size := Heap.lt_size e
    rw [PyProof.Rows.sortedHeap_old (Nat.ne_of_lt hb) (by rw [size_push']; exact Nat.lt_succ_of_lt hb)]
    exact Heap.get?_push_of_some _ e
theorem pe_sortZ {a : Expr} {ta : TE} {p p2 q pos : Pos} (hg : Gl X "sorted") (hm : X.mg "sorted" = none) (hg2 : Gl X "set") (hm2 : X.mg "set" = none) (ha : PE X a ta) (hc : X.calm = true) (hu : X.A.units + 64 < cLine)
    (na : starEach [a] X.env = (false, eval a X.env) :: starEach [] X.env) : PE X (.Call (.Name "sorted" p) [.Call (.Name "set" p2) [a] [] q] [] pos) (tSortZ X.K ta) := by
  refine ⟨fun pins s st H Q I h => ?_⟩
  refine Call_ (ld_blt I hg hm (show bootBuiltins "sorted" = some (.builtin "sorted") by decide +kernel) ?_)
  refine PyProof.Rows.callWith_builtin1 (PyProof.Rows.args_cons ?_ rfl) rfl rfl
  refine Call_ (ld_blt I hg2 hm2 PyProof.Rows.boot_set ?_)
  refine PyProof.Rows.callWith_type1 (PyProof.Rows.args_cons (thn (ha.run pins s st H _ I h) fun v s1 ⟨x, H1, I1, r1, l, xs, e, hq, hb, hasc, q1⟩ => PyProof.Rows.args_nil ?_) na) na rfl
  subst e
  cases r1
  refine set_of I1 hc hq hb fun h' tk hS I2 _ => ?_
  refine PyProof.Rows.args_nil ?_
  exact sorted_setZ I2 hc hu hS (fun k hk => hasc k (ded_mem.mp hk)) q1
variable {K : PySem.W.Frag}
theorem rp_seqZ {H : Hp} {x : D} {v : V} {xs : List Str} (h : Rp K H x v) (e : x = .lst (xs.map D.str) ∨ x = .tup (xs.map D.str)) : ∃ l, v = .ref l ∧ (SqL K H l (xs.map V.str) ∨ SqT K H l (xs.map V.str)) := by
  rcases e with rfl | rfl
  · obtain ⟨a, vs, rfl, h1, h2⟩ := h
    rw [h2.strs] at h1
    exact ⟨a, rfl, .inl (SqL.of h1)⟩
  · obtain ⟨a, vs, rfl, h1, h2⟩ := h
    rw [h2.strs] at h1
    exact ⟨a, rfl, .inr h1.sq⟩
theorem sqZ_mono {H Hs : Hp} (s : Same Hs H) {l : Addr} {ws : List V} (h : SqL K Hs l ws ∨ SqT K Hs l ws) : SqL K H l ws ∨ SqT K H l ws := by
  rcases h with h | h
  · exact .inl (s.seq h)
  · exact .inr (sqT_mono s h)
theorem RpA.ofStrs {H : Hp} : ∀ l : List Str, RpA K H (l.map D.str) (l.map V.str)
  | [] => rfl
  | x :: l => ⟨_, _, rfl, rfl, RpA.ofStrs l⟩
end
end DL
namespace DL
open PySem PySem.Spec PyProof.Rows L2
/-! instances of own classes: isinstance, ==, len, str, operators -/
def kTys : List String := ["NoneType", "bool", "int", "str", "tuple", "list", "dict"]
structure KI (K : PySem.W.Frag) (c : Str) (C : Addr) : Prop where
  kc : KC K c C
  ty : KTy K C
  no : ∀ T ∈ kTys, PySem.W.subIn K (.type T) (.ref C) = some false
  me : ((PySem.W.clsIn K C).isSome && PySem.W.typeIn K (.ref C) == some (.type "type")) = true
  first : PySem.W.selfFirst K C = true
theorem KI.mk7 {K : PySem.W.Frag} {c : Str} {C : Addr} (kc : KC K c C) (ty : KTy K C) (h0 : PySem.W.subIn K (.type "NoneType") (.ref C) = some false) (h1 : PySem.W.subIn K (.type "bool") (.ref C) = some false) (h2 : PySem.W.subIn K (.type "int") (.ref C) = some false)
    (h3 : PySem.W.subIn K (.type "str") (.ref C) = some false) (h4 : PySem.W.subIn K (.type "tuple") (.ref C) = some false) (h5 : PySem.W.subIn K (.type "list") (.ref C) = some false) (h6 : PySem.W.subIn K (.type "dict") (.ref C) = some false)
    (h7 : PySem.W.typeIn K (.ref C) = some (.type "type")) (first : PySem.W.selfFirst K C = true) : KI K c C :=
  ⟨kc, ty, fun T hT => by
    simp only [kTys, List.mem_cons, List.not_mem_nil, or_false] at hT
    rcases hT with rfl | rfl | rfl | rfl | rfl | rfl | rfl <;> assumption, by
    obtain ⟨cd, hc, _⟩ := PySem.W.any_some kc.cls.hd
    rw [hc, h7]
    rfl, first⟩
def isC (c : Str) : D → Option Bool
  | .obj c' _ _ => if c' = c then some true else none
  | .exn _ _ _ => none
  | .any _ => none
  | .dtt _ _ => none
  | .ktup _ => none
  | .ftp _ => none
  | _ => some false
section
variable {X : Cx} {K : PySem.W.Frag}
theorem ty_of {H : Hp} {x : D} {v : V} (h : Rp K H x v) {c : Str} (e : isC c x = some false) : ∃ T ∈ kTys, TyX K H v (.type T) := by
  cases x with
  | obj c' ns xs =>
    by_cases hcc : c' = c
    · rw [show isC c (.obj c' ns xs) = some true from if_pos hcc] at e; cases e
    · rw [show isC c (.obj c' ns xs) = none from if_neg hcc] at e; cases e
  | any w => cases e
  | exn _ _ _ => cases e
  | none => exact ⟨_, by decide, tyN_ok h rfl⟩
  | bool b => exact ⟨_, by decide, tyN_ok h rfl⟩
  | int b => exact ⟨_, by decide, tyN_ok h rfl⟩
  | str b => exact ⟨_, by decide, tyN_ok h rfl⟩
  | tup b => exact ⟨_, by decide, tyN_ok h rfl⟩
  | lst b => exact ⟨_, by decide, tyN_ok h rfl⟩
  | dct b d => exact ⟨_, by decide, tyN_ok h rfl⟩
  | dtt b d => cases e
  | ktup b => cases e
  | ftp b => cases e
theorem isC_obj {c : Str} {x : D} (h : isC c x = some true) : ∃ ns xs, x = .obj c ns xs := by
  cases x <;> try (cases h; done)
  next c' ns xs =>
  by_cases hcc : c' = c
  · subst hcc; exact ⟨ns, xs, rfl⟩
  · rw [show isC c (.obj c' ns xs) = none from if_neg hcc] at h; cases h
/-! isinstance(e, C) -/
def dIsC (c : Str) (d : DT) : DT := fun g r f Q => d g r f fun x f1 => ∃ b, isC c x = some b ∧ Q (.bool b) f1
theorem kit_no {c : Str} {C : Addr} (k : KI K c C) {T : String} (h : T ∈ kTys) : PySem.W.kitOne K (.type T) (.ref C) = some false := by
  unfold PySem.W.kitOne PySem.W.kitCls
  have e : (Value.type T == Value.ref C) = false := rfl
  rw [e, if_neg Bool.false_ne_true]
  show (if _ then _ else _) = _
  rw [if_pos k.me]
  exact k.no T h
theorem kit_yes {C : Addr} : PySem.W.kitOne K (.ref C) (.ref C) = some true := by
  unfold PySem.W.kitOne
  rw [if_pos (beq_self_eq_true _)]
theorem de_isC {c : Str} {C : Addr} {p p2 pos : Pos} {e : Expr} {d : DT} (k : KI X.K c C) (hC : X.mg c = some (.ref C)) (hm : X.mg "isinstance" = none) (he : DE X e d) (hgc : Gl X c := by rfl) (hg : Gl X "isinstance" := by rfl)
    (hdb : (c == ("__debug__" : Str)) = false := by decide) (hs2 : starEach [.Name c p2] X.env = (false, eval (.Name c p2) X.env) :: starEach [] X.env := by rfl) (hs : starEach [e, .Name c p2] X.env = (false, eval e X.env) :: starEach [.Name c p2] X.env := by rfl)
    (hpl : (backTo pos (starEach [.Name c p2] X.env)).any (·.1) = false := by rfl) : DE X (.Call (.Name "isinstance" p) [e, .Name c p2] [] pos) (dIsC c d) :=
  .mk' (pe_callB call_isi hg hm (by decide +kernel) (pa_cons he.pe (pa_cons (pe_glob (v := .ref C) hgc hC rfl hdb) pa_nil hs2) hs) (by decide) (by decide) hs hpl) fun g r f st H Hs Q Q' A hq hd =>
    he.sn g r f st H Hs _ _ A (fun x f1 v H1 Hs1 s1 k1 r1 ⟨b, hb, q⟩ => by
      cases b with
      | false =>
        obtain ⟨T, hT, ty⟩ := ty_of (r1.mono s1.sub) hb
        exact ⟨v, .ref C, .type T, .ref C, false, rfl, .own C, ty, kit_no k hT, hq (.bool false) f1 _ H1 Hs1 s1 k1 rfl q⟩
      | true =>
        obtain ⟨ns, xs, rfl⟩ := isC_obj hb
        obtain ⟨C', a, dx, us, h0, rfl, h2, h3, h6⟩ := r1
        cases k.kc.uniq h0
        exact ⟨.ref a, .ref C, .ref C, .ref C, true, rfl, .own C, .base (.ins (s1.sub _ _ h2) k.kc.cls k.ty.ha k.ty.hn k.ty.htk k.ty.hm), kit_yes, hq (.bool true) f1 _ H1 Hs1 s1 k1 rfl q⟩) hd
/-! a == b by the class's own __eq__ -/
def RightOk (K : PySem.W.Frag) (C : Addr) (H : Hp) (y : V) : Prop := (∃ T ∈ kTys, TyX K H y (.type T)) ∨ ∃ b dy gs, y = .ref b ∧ H b = some (.ins C dy gs)
def rEqO (K : PySem.W.Frag) (C : Addr) (sp : Sp) : R2 := fun x y H Q => ∃ a dx fs, x = .ref a ∧ H a = some (.ins C dx fs) ∧ RightOk K C H y ∧ sp [.ref a, y] H (fun v H' => ∃ b, v = .bl b ∧ Q (.bl b) H') E0
theorem op_eqO {c : Str} {C f : Addr} {k : Nat} {fd : FuncData} {ps : List Str} {sp : Sp} (ki : KI X.K c C) (M : Meth X.K C "__eq__" f) (F : FnOk X.prog X.w X.K X.mg X.base CX0 k f fd ps sp) (hr : Room k X.A) (hb : Binds X.K fd ps []) : OpR X (compareOp .Eq) (rEqO X.K C sp) := by
  intro pins s st H x y v u Q I rx ry h
  obtain ⟨a, dx, fs, rfl, ea, hy, h⟩ := h
  cases (show v = Value.ref a from rx)
  obtain ⟨mA, O, _⟩ := ins_get I.hok ea
  obtain ⟨od, J, _⟩ := O.look
  obtain ⟨m, hF⟩ := I.fr
  have run : wpAny (model X.prog X.w) X.A (call (.ref f) [.ref a, u]) (PySem.W.CmpBack (EP X pins st Q)) X.xe s := thn (run_fn (vs := [.ref a, y]) F hr hb .nil pass0 I (.cons rfl (.cons ry .nil)) h) fun w' s1 ⟨z, H1, I1, r1, b, hb', q⟩ => by
    subst hb'
    cases (show w' = Value.bool b from r1)
    exact ⟨.bl b, H1, I1, rfl, q⟩
  rcases hy with ⟨T, hT, ty⟩ | ⟨b, dy, gs, rfl, eb⟩
  · obtain ⟨Pp, kit, hp, _⟩ := kit_of I ry ty
    refine PySem.W.cmp_K (op := .Eq) (tb := .type T) hr.units0 hF I.ok.mod.kin J (kit.ty _ _ I.kIn hp) ?_ M.at_ M.fn run
    unfold PySem.W.notFirst
    rw [ki.no T hT]
    rfl
  · cases (show u = Value.ref b from ry)
    obtain ⟨mB, O', _⟩ := ins_get I.hok eb
    obtain ⟨od', J', _⟩ := O'.look
    exact PySem.W.cmp_K (op := .Eq) (tb := .ref C) hr.units0 hF I.ok.mod.kin J J'.type (by simp [PySem.W.notFirst]) M.at_ M.fn run
def oEqO (c : Str) (S : DSp) : O2 := fun x y Q => match x with
  | .obj c' ns xs => c' = c ∧ isC c y ≠ none ∧ S none [.obj c' ns xs, y] 0 (fun z _ => ∃ b, z = .bool b ∧ Q (.bool b))
  | _ => False
theorem right_ok {c : Str} {C : Addr} (k : KC K c C) {H Hs : Hp} {y : D} {v : V} (s : Same Hs H) (h : Rp K Hs y v) (e : isC c y ≠ none) : RightOk K C H v := by
  cases hc : isC c y with
  | none => exact absurd hc e
  | some b =>
    cases b with
    | false => exact .inl (ty_of (h.mono s) hc)
    | true =>
      obtain ⟨ns, xs, rfl⟩ := isC_obj hc
      obtain ⟨C', a, dx, us, h0, rfl, h2, h3, h6⟩ := h
      cases k.uniq h0
      exact .inr ⟨a, dx, _, rfl, s _ _ h2⟩
theorem sr_eqO {c : Str} {C : Addr} {S : DSp} (k : KC K c C) : SndR K (rEqO K C (spOf K S)) (oEqO c S) := fun H Hs x y vx vy Q Q' s rx ry hq hd => by
  cases x <;> try exact hd.elim
  next c' ns xs =>
  obtain ⟨rfl, hc, q⟩ := hd
  have r0 := rx
  obtain ⟨C', a, dx, vs, h0, rfl, h2, h3, h4, h5⟩ := rx
  cases k.uniq h0
  refine ⟨a, dx, _, rfl, s _ _ h2, right_ok k s ry hc, none, Hs, [.obj c' ns xs, y], 0, _, s, trivial, ⟨_, _, rfl, r0, RpA.one ry⟩, q, fun d f' v H' Hs' p k r q => ?_⟩
  obtain ⟨b, rfl, q⟩ := q
  exact ⟨b, r, hq (.bool _) (.bl _) H' Hs' p rfl q⟩
theorem de_eqO {c : Str} {C : Addr} {k : Nat} {ps : List Str} {S : DSp} {a b : Expr} {pos : Pos} {da db : DT} (ki : KI X.K c C) (cm : CalM X.prog X.w X.K X.mg X.base k c "__eq__" ps S) (hr : Room k X.A) (ha : DE X a da) (hb : DE X b db) :
    DE X (.Compare a [.Eq] [b] pos) (dOp (oEqO c S) da db) := by
  obtain ⟨C', f, fd, kc, M, F, hb'⟩ := cm
  cases ki.kc.uniq kc.ns
  exact de_cmp (op_eqO ki M F hr hb') (sr_eqO kc) ha hb (nomark _)
/-! a op b by the class's own method, both of the class -/
/-! len(o), str(o) -/
end
end DL
namespace DL
open PySem PySem.Spec PyProof.Rows L2
/-! f-strings of texts and numbers -/
/-! comprehensions over typed data -/
theorem lcT {α β : Type} (em : α → D) (em' : β → D) (b : α → Bool) (y : α → β) {g : Option Dk} {t : TgF} {c : DTT} {e : DT} {r : Sg} {Q : List D → Nat → Prop} : ∀ (xs : List α) (acc : List D) (f : Nat),
    (∀ x ∈ xs, ∃ l, t (em x) = some l ∧ (∀ (f : Nat) (Q : Bool → Nat → Prop), Q (b x) f → c g (setsR r l) f Q) ∧ (b x = true → ∀ (f : Nat) (Q : QD), Q (em' (y x)) f → e g (setsR r l) f Q)) →
    Q (acc ++ ((xs.filter b).map y).map em') f → dLcGo g t c e r (xs.map em) acc f Q
  | [], acc, f, _, hq => by
    rw [List.filter_nil, List.map_nil, List.map_nil, List.append_nil] at hq
    exact hq
  | x :: xs, acc, f, he, hq => by
    obtain ⟨l, hl, h1, h2⟩ := he x (by simp)
    simp only [List.map_cons, dLcGo, hl]
    refine h1 f _ ?_
    cases hb : b x with
    | true =>
      rw [if_pos rfl]
      refine h2 hb f _ (lcT em em' b y xs (acc ++ [em' (y x)]) f (fun x' hx' => he x' (by simp [hx'])) ?_)
      rw [List.filter_cons, hb, if_pos rfl, List.map_cons, List.map_cons] at hq
      rw [List.append_assoc]
      exact hq
    | false =>
      rw [if_neg Bool.false_ne_true]
      refine lcT em em' b y xs acc f (fun x' hx' => he x' (by simp [hx'])) ?_
      rw [List.filter_cons, hb, if_neg Bool.false_ne_true] at hq
      exact hq
/-- [x for x in xs if b(x)] -/
theorem lcF {α : Type} (em : α → D) (b : α → Bool) {g : Option Dk} {t : TgF} {c : DTT} {e : DT} {r : Sg} {Q : List D → Nat → Prop} (xs : List α) (f : Nat)
    (h : ∀ x ∈ xs, ∃ l, t (em x) = some l ∧ (∀ (f : Nat) (Q : Bool → Nat → Prop), Q (b x) f → c g (setsR r l) f Q) ∧ (b x = true → ∀ (f : Nat) (Q : QD), Q (em x) f → e g (setsR r l) f Q))
    (q : Q ((xs.filter b).map em) f) : dLcGo g t c e r (xs.map em) [] f Q := by
  refine lcT em em b id xs [] f h ?_
  rw [List.map_id, List.nil_append]
  exact q
/-- [y(x) for x in xs] -/
theorem lcM {α β : Type} (em : α → D) (em' : β → D) (y : α → β) {g : Option Dk} {t : TgF} {e : DT} {r : Sg} {Q : List D → Nat → Prop} (xs : List α) (f : Nat)
    (h : ∀ x ∈ xs, ∃ l, t (em x) = some l ∧ ∀ (f : Nat) (Q : QD), Q (em' (y x)) f → e g (setsR r l) f Q)
    (q : Q ((xs.map y).map em') f) : dLcGo g t dYes e r (xs.map em) [] f Q := by
  refine lcT em em' (fun _ => true) y xs [] f (fun x hx => ?_) ?_
  · obtain ⟨l, h1, h2⟩ := h x hx
    exact ⟨l, h1, fun f Q q => q, fun _ f Q q => h2 f Q q⟩
  · rw [List.filter_eq_self.mpr (fun _ _ => rfl), List.nil_append]
    exact q
/-- a loop over numbers -/
theorem dFor_range {g : Option Dk} {t : TgF} {body : DTS} {E : DEnds} (I : Nat → Sg → Nat → Prop) (lo : Int) : ∀ (n : Nat) (r : Sg) (f : Nat),
    (∀ i r f (N : Sg → Nat → Prop), i < n → I i r f → (∀ r' f', I (i + 1) r' f' → N r' f') → ∃ l, t (.int (lo + i)) = some l ∧ body g (setsR r l) f { E with nx := N, ct := N, bk := E.nx }) →
    (∀ r f, I n r f → E.nx r f) → I 0 r f → dForGo g t body E (intsD lo n) r f := by
  intro n r f hs h0 h
  refine dFor_inv (fun rest r f => ∃ i, i ≤ n ∧ rest = (intsD lo n).drop i ∧ I i r f) _ _ _ ?_ ?_ ⟨0, Nat.zero_le _, rfl, h⟩
  · rintro d rest r f N ⟨i, hi, hr, hI⟩ hN
    have hlt : i < n := by
      by_cases e : i < n
      · exact e
      · rw [List.drop_of_length_le (by rw [intsD_len]; omega)] at hr
        cases hr
    have hd : (intsD lo n)[i]? = some (.int (lo + i)) := by
      unfold intsD
      rw [List.getElem?_map, List.getElem?_range hlt]
      rfl
    have hdr : (intsD lo n).drop i = .int (lo + i) :: (intsD lo n).drop (i + 1) := by
      obtain ⟨h1, h2⟩ := List.getElem?_eq_some_iff.mp hd
      rw [List.drop_eq_getElem_cons h1, h2]
    rw [hdr] at hr
    obtain ⟨rfl, rfl⟩ := List.cons.inj hr
    exact hs i r f N hlt hI fun r' f' h' => hN r' f' ⟨i + 1, by omega, rfl, h'⟩
  · rintro r f ⟨i, hi, hr, hI⟩
    have : i = n := by
      by_cases e : i < n
      · have hl := congrArg List.length hr
        rw [List.length_drop, intsD_len, List.length_nil] at hl
        omega
      · omega
    subst this
    exact h0 r f hI
/-- a loop over typed data, the part that is done told -/
theorem dFor_list {α : Type} (em : α → D) {g : Option Dk} {t : TgF} {body : DTS} {E : DEnds} (I : List α → List α → Sg → Nat → Prop) (xs : List α) (r : Sg) (f : Nat)
    (hs : ∀ done x rest r f (N : Sg → Nat → Prop), xs = done ++ x :: rest → I done (x :: rest) r f → (∀ r' f', I (done ++ [x]) rest r' f' → N r' f') → ∃ l, t (em x) = some l ∧ body g (setsR r l) f { E with nx := N, ct := N, bk := E.nx })
    (h0 : ∀ r f, I xs [] r f → E.nx r f) (h : I [] xs r f) : dForGo g t body E (xs.map em) r f := by
  refine dFor_inv (fun rest r f => ∃ done rest', xs = done ++ rest' ∧ rest = rest'.map em ∧ I done rest' r f) _ _ _ ?_ ?_ ⟨[], xs, rfl, rfl, h⟩
  · rintro d rest r f N ⟨done, rest', hx, hr, hI⟩ hN
    match rest', hr with
    | x :: rest', hr =>
      obtain ⟨rfl, rfl⟩ := List.cons.inj hr
      exact hs done x rest' r f N hx hI fun r' f' h' => hN r' f' ⟨done ++ [x], rest', by rw [hx]; simp, rfl, h'⟩
  · rintro r f ⟨done, rest', hx, hr, hI⟩
    obtain rfl : rest' = [] := by
      match rest', hr with
      | [], _ => rfl
    rw [List.append_nil] at hx
    subst hx
    exact h0 r f hI
/-! one of two numbers, by a draw -/
theorem L1 {n : Nat} (h : n ≤ 100000) : n ≤ lim := Nat.le_trans h (by decide)
/-! in, told piece by piece -/
theorem shpS {l : List Str} (h : ∀ s ∈ l, asc s) : SeqAt.shaped (.list (pyA (l.map D.str))) = true := shaped_strs h
theorem shpU {l : List Us} (h : ∀ s ∈ l, ascU s) : SeqAt.shaped (.list (pyA (l.map pairD))) = true := by rw [pyA_pairs]; exact shaped_pairs h
theorem shpST {l : List Str} (h : ∀ s ∈ l, asc s) : SeqAt.shaped (.tuple (pyA (l.map D.str))) = true := shaped_strs h
theorem shpUT {l : List Us} (h : ∀ s ∈ l, ascU s) : SeqAt.shaped (.tuple (pyA (l.map pairD))) = true := by rw [pyA_pairs]; exact shaped_pairsT h
theorem anyS (l : List Str) (x : Str) : ((pyA (l.map D.str)).any fun z => PyData.eqv z (.str x)) = decide (x ∈ l) := by rw [pyA_strs]; exact any_strs l x
theorem anyU (l : List Us) (x : Us) : ((pyA (l.map pairD)).any fun z => PyData.eqv z (pairP x)) = decide (x ∈ l) := by rw [pyA_pairs]; exact any_pairs l x
theorem anyU' (l : List Us) (x y : Str) : ((pyA (l.map pairD)).any fun z => PyData.eqv z (D.tup [.str x, .str y]).py) = decide ((x, y) ∈ l) := anyU l (x, y)
theorem anyS' (l : List Str) (x : Str) : ((pyA (l.map D.str)).any fun z => PyData.eqv z (D.str x).py) = decide (x ∈ l) := anyS l x
/-! plain rows of texts and pairs -/
theorem plainA_of {α : Type} (em : α → D) (n : Nat) : ∀ l : List α, (∀ x ∈ l, (em x).plain = true ∧ (em x).dep ≤ n) → plainA (l.map em) = true ∧ depA (l.map em) ≤ n
  | [], _ => ⟨rfl, Nat.zero_le _⟩
  | x :: l, h => by
    obtain ⟨h1, h2⟩ := plainA_of em n l fun y hy => h y (by simp [hy])
    obtain ⟨h3, h4⟩ := h x (by simp)
    refine ⟨?_, ?_⟩
    · show ((em x).plain && plainA (l.map em)) = true
      rw [h1, h3]; rfl
    · exact Nat.max_le.mpr ⟨h4, h2⟩
theorem plT {α : Type} {em : α → D} {n : Nat} {l : List α} (hl : l.length ≤ 100000) (h : ∀ x ∈ l, (em x).plain = true ∧ (em x).dep ≤ n) : (D.tup (l.map em)).plain = true ∧ (D.tup (l.map em)).dep ≤ n + 1 := by
  obtain ⟨h1, h2⟩ := plainA_of em n l h
  refine ⟨?_, Nat.succ_le_succ h2⟩
  show (decide ((l.map em).length ≤ 100000) && plainA (l.map em)) = true
  rw [h1, List.length_map, decide_eq_true hl]; rfl
/-- [y(i) for i in range(lo, lo + n)] -/
theorem lcR {β : Type} (em' : β → D) (y : Nat → β) {g : Option Dk} {t : TgF} {e : DT} {r : Sg} {Q : List D → Nat → Prop} (lo : Int) (n : Nat) (f : Nat)
    (h : ∀ i < n, ∃ l, t (.int (lo + i)) = some l ∧ ∀ (f : Nat) (Q : QD), Q (em' (y i)) f → e g (setsR r l) f Q)
    (q : Q (((List.range n).map y).map em') f) : dLcGo g t dYes e r (intsD lo n) [] f Q :=
  lcM (fun i : Nat => D.int (lo + i)) em' y (List.range n) f (fun i hi => h i (List.mem_range.mp hi)) q
theorem cutD_takeS (l : List Str) (n : Nat) : cutD (l.map D.str) none (some (n : Int)) = (l.take n).map D.str := by rw [cutD_take, List.map_take]
theorem cutD_drop (xs : List D) (n : Nat) (h : n ≤ xs.length) : cutD xs (some (n : Int)) none = xs.drop n := by
  unfold cutD
  rw [show HT.sIx xs.length 0 (some (n : Int)) = min n xs.length from HT.sIx_nat xs.length 0 n, HT.sIx_none, Nat.min_eq_left h]
  rw [← List.length_drop, List.take_length]
theorem cutD_drop' (xs : List D) (n : Nat) : cutD xs (some (n : Int)) none = xs.drop n := by
  by_cases h : n ≤ xs.length
  · exact cutD_drop xs n h
  · unfold cutD
    rw [show HT.sIx xs.length 0 (some (n : Int)) = min n xs.length from HT.sIx_nat xs.length 0 n, HT.sIx_none, Nat.min_eq_right (by omega), Nat.sub_self, List.take_zero, List.drop_of_length_le (by omega)]
end DL
namespace DL
open PySem PySem.Spec PyProof.Rows L2
/-! a list taken apart -/
/-! a choice by draws -/
/-! shapes -/
def Shp (n : Nat) (d : D) : Prop := d.py.canLay0 = true ∧ d.py.depth ≤ n
theorem Shp.of {n : Nat} {d : D} (h : Shp n d) (hn : n ≤ 64) : SeqAt.shaped d.py = true := by
  unfold SeqAt.shaped
  rw [h.1, decide_eq_true (Nat.le_trans h.2 hn)]
  rfl
theorem shp_str {s : Str} (h : asc s) (n : Nat) : Shp n (.str s) := ⟨asc_ok h, Nat.zero_le _⟩
theorem shp_bool (b : Bool) (n : Nat) : Shp n (.bool b) := ⟨rfl, Nat.zero_le _⟩
theorem shpA {n : Nat} : ∀ {xs : List D}, (∀ x ∈ xs, Shp n x) → PyData.canLayAll0 (pyA xs) = true ∧ PyData.depthAll (pyA xs) ≤ n
  | [], _ => ⟨rfl, Nat.zero_le _⟩
  | x :: xs, h => by
    obtain ⟨h1, h2⟩ := shpA fun y hy => h y (List.mem_cons_of_mem x hy)
    obtain ⟨h3, h4⟩ := h x (by simp)
    refine ⟨?_, ?_⟩
    · show (x.py.canLay0 && PyData.canLayAll0 (pyA xs)) = true
      rw [h1, h3]; rfl
    · show max x.py.depth (PyData.depthAll (pyA xs)) ≤ n
      exact Nat.max_le.mpr ⟨h4, h2⟩
theorem shp_lst {n : Nat} {xs : List D} (h : ∀ x ∈ xs, Shp n x) : Shp (n + 1) (.lst xs) := by
  obtain ⟨h1, h2⟩ := shpA h
  exact ⟨h1, Nat.succ_le_succ h2⟩
theorem shp_tup {n : Nat} {xs : List D} (h : ∀ x ∈ xs, Shp n x) : Shp (n + 1) (.tup xs) := by
  obtain ⟨h1, h2⟩ := shpA h
  exact ⟨h1, Nat.succ_le_succ h2⟩
theorem Shp.mono {n m : Nat} {d : D} (h : Shp n d) (e : n ≤ m) : Shp m d := ⟨h.1, Nat.le_trans h.2 e⟩
theorem shp_pair {u : Us} (h : ascU u) : Shp 1 (pairD u) := shp_tup fun x hx => by
  simp only [List.mem_cons, List.not_mem_nil, or_false] at hx
  rcases hx with rfl | rfl
  · exact shp_str h.1 0
  · exact shp_str h.2 0
theorem nodup_sub_len {α : Type} [DecidableEq α] : ∀ {l m : List α}, l.Nodup → (∀ x ∈ l, x ∈ m) → l.length ≤ m.length
  | [], _, _, _ => Nat.zero_le _
  | x :: l, m, hn, hs => by
    obtain ⟨h1, h2⟩ := List.nodup_cons.mp hn
    have hx : x ∈ m := hs x (by simp)
    have ih := nodup_sub_len (m := m.erase x) h2 fun y hy => (List.mem_erase_of_ne (fun e : y = x => h1 (e ▸ hy))).2 (hs y (by simp [hy]))
    rw [List.length_erase_of_mem hx] at ih
    have : 0 < m.length := List.length_pos_of_mem hx
    rw [List.length_cons]
    omega
theorem plI {n : Nat} {xs : List D} (hl : xs.length ≤ 100000) (h : ∀ x ∈ xs, x.plain = true ∧ x.dep ≤ n) : (D.tup xs).plain = true ∧ (D.tup xs).dep ≤ n + 1 := by
  have := plT (em := fun x : D => x) (n := n) (l := xs) hl h
  rw [List.map_id'] at this
  exact this
theorem pl2 {n : Nat} {a b : D} (ha : a.plain = true ∧ a.dep ≤ n) (hb : b.plain = true ∧ b.dep ≤ n) : (D.tup [a, b]).plain = true ∧ (D.tup [a, b]).dep ≤ n + 1 := plI (show 2 ≤ 100000 by decide) fun x hx => by
  simp only [List.mem_cons, List.not_mem_nil, or_false] at hx
  rcases hx with rfl | rfl
  · exact ha
  · exact hb
end DL
namespace PySem.SeqAt
open AutoSeq1 (wpAny_loadPart')
open MeetsSeq MeetsSeq2 MeetsSeq3 SeqRoads2
end PySem.SeqAt
namespace DL
open PySem PySem.Spec PyProof.Rows L2
/-! values with plain texts alone -/
/-! glued names -/
theorem split_ne (s : Str) : Txt.split s "." ≠ [] := fun z => sp_ne (cd s) (by rw [← split_cd, z]; rfl)
end DL
namespace DL
open PySem PySem.Spec PyProof.Rows L2
/-! reads of dicts -/
def lookD (ks : List Key) (xs : List D) (k : Key) : Option D := ((ks.zip xs).find? fun p => decide (p.1 = k)).map (·.2)
section
variable {X : Cx} {K : PySem.W.Frag} {W : WX}
theorem look_rp {H : Hp} {k : Key} : ∀ {ks : List Key} {xs : List D} {vs : List V} {d : D}, RpA K H xs vs → lookD ks xs k = some d → ∃ v, valV (ks.zip vs) k = some v ∧ Rp K H d v
  | [], xs, vs, d, h, e => by simp [lookD] at e
  | _ :: _, [], vs, d, h, e => by simp [lookD] at e
  | a :: ks, x :: xs, _, d, ⟨v, r, h1, h2, h3⟩, e => by
    subst h1
    by_cases q : a = k
    · have : lookD (a :: ks) (x :: xs) k = some x := by simp [lookD, q]
      rw [this] at e
      cases e
      exact ⟨v, by rw [List.zip_cons_cons]; exact valV_pos q, h2⟩
    · have : lookD (a :: ks) (x :: xs) k = lookD ks xs k := by simp [lookD, q]
      rw [this] at e
      obtain ⟨w, h4, h5⟩ := look_rp h3 e
      exact ⟨w, by rw [List.zip_cons_cons, valV_neg q]; exact h4, h5⟩
theorem val_some {k : Key} {ks : List Key} {vs : List V} (h : ks.length = vs.length) : (valV (ks.zip vs) k).isSome = decide (k ∈ ks) := by
  rw [← valV_any, any_zip h]
def rDIn (neg : Bool) : R2 := fun x y H Q => ∃ a o, y = .ref a ∧ DGet H a x o ∧ Q (.bl (xb neg o.isSome)) H
theorem op_din (hu : X.A.units + 1 < cLine) : OpR X (compareOp .In) (rDIn false) := fun pins s st H x y v u Q I rx ry h => by
  obtain ⟨a, o, rfl, g, q⟩ := h
  obtain rfl : u = Value.ref a := ry
  exact d_in hu I g rx fun s3 I3 => ⟨.bl _, H, I3, rfl, q⟩
def oDIn (neg : Bool) : O2 := fun x y Q => match y with
  | .dct ks _ => ∃ k, x.key = some k ∧ Q (.bool (xb neg (decide (k ∈ ks))))
  | _ => False
theorem sr_din (neg : Bool) : SndR K (rDIn neg) (oDIn neg) := SndR.pure fun H Hs x y vx vy Q Q' s rx ry hq hd => by
  cases y <;> try exact hd.elim
  obtain ⟨k, e, q⟩ := hd
  obtain ⟨a, vs, rfl, h1, h2, h3⟩ := ry
  rw [key_v rx e]
  refine ⟨a, _, rfl, DGet.k (s _ _ h1), ?_⟩
  rw [val_some h2]
  exact hq (.bool _) _ rfl q
theorem room1 {k : Nat} {A : Around} (r : Room k A) : A.units + 1 < cLine := by have := r.un; omega
theorem dp_din {k : Nat} {a b : Expr} {pos : Pos} {da db : DT} (hr : Room k X.A) (ha : DE X a da) (hb : DE X b db) (hm : behindInMarks .In b = false := by rfl) : DP X (.Compare a [.In] [b] pos) (dTest (dOp (oDIn false) da db)) := dp_cmp (op_din (room1 hr)) (sr_din false) ha hb hm
def dDGet (a b : DT) : DT := fun g r f Q => a g r f fun x f1 => b g r f1 fun y f2 => match x with
  | .dct ks xs => ∃ k d, y.key = some k ∧ lookD ks xs k = some d ∧ Q d f2
  | _ => False
theorem de_dget {k : Nat} {a b : Expr} {pos : Pos} {da db : DT} (hr : Room k X.A) (ha : DE X a da) (hb : DE X b db) (hs : NoSl b := by intro _ _; rfl) : DE X (.Subscript a b pos) (dDGet da db) :=
  .mk' (pe_dget (room1 hr) ha.pe hb.pe hs) fun g ro f st H Hs Q Q' A hq hd =>
    ha.sn g ro f st H Hs _ _ A (fun x f1 vx H1 Hs1 s1 k1 r1 q1 => hb.sn g ro f1 st H1 Hs1 _ _ (A.step s1 k1) (fun y f2 vy H2 Hs2 s2 k2 r2 q2 => by
      cases x <;> try exact q2.elim
      obtain ⟨key, d, e1, e2, q⟩ := q2
      obtain ⟨p, vs, rfl, h1, h2, h3⟩ := r1.mono s2.ext
      obtain ⟨v, h4, h5⟩ := look_rp h3 e2
      rw [key_v r2 e1]
      exact ⟨p, v, rfl, h4 ▸ DGet.k (s2.sub _ _ h1), hq d f2 v H2 Hs2 (s1.trans s2) k2 h5 q⟩) q1) hd
/-! list(e), a new list -/
/-! {k: v} that a slot owns -/
/-! a comprehension over what is walked already -/
/-! what is locked stands for nothing -/
end
end DL
namespace DL
open PySem PySem.Spec PyProof.Rows L2
section
variable {X : Cx} {K : PySem.W.Frag} {W : WX}
/-! {k: v for ..} -/
/-! a dict of lists of texts in the making -/
structure DLs (H : Hp) (D : Addr) (ks : List Str) (ps : List Addr) (c : Str → List Str) (H2 : Hp) : Prop where
  same : Same H H2
  d0 : H D = none
  len : ks.length = ps.length
  dk : H2 D = some (.dK ((ks.map Sum.inr).zip (ps.map V.ref)))
  p0 : ∀ p ∈ ps, H p = none ∧ p ≠ D
  at_ : ∀ (i : Nat) (m : Str) (p : Addr), ks[i]? = some m → ps[i]? = some p → H2 p = some (.lst ((c m).map V.str))
  nd : ps.Nodup
theorem DLs.mono {H : Hp} {D : Addr} {ks : List Str} {ps : List Addr} {c : Str → List Str} {H2 H3 : Hp} (h : DLs H D ks ps c H2) (e : Same H2 H3) : DLs H D ks ps c H3 :=
  ⟨h.same.trans e, h.d0, h.len, e _ _ h.dk, h.p0, fun i m p a b => e _ _ (h.at_ i m p a b), h.nd⟩
theorem DLs.start {H : Hp} {D : Addr} {c : Str → List Str} (h : H D = none) : DLs H D [] [] c (upd H D (.dK [])) :=
  ⟨same_upd h, h, rfl, upd_same, fun p hp => by simp at hp, fun i m p a b => by simp at a, List.nodup_nil⟩
theorem key_out {ks : List Str} {vs : List V} {m : Str} (hl : ks.length = vs.length) (h : m ∉ ks) : valV ((ks.map (Sum.inr : Str → Key)).zip vs) (.inr m) = none := by
  have := val_some (k := (.inr m : Key)) (ks := ks.map Sum.inr) (vs := vs) (by rw [List.length_map]; exact hl)
  rw [decide_eq_false (fun z => by
    obtain ⟨x, hx, e⟩ := List.mem_map.mp z
    cases e
    exact h hx)] at this
  exact Option.isSome_eq_false_iff.mp this |> fun e => by simpa using e
theorem DLs.add {H : Hp} {D : Addr} {ks : List Str} {ps : List Addr} {H2 : Hp} {m : Str} {p : Addr} (h : DLs H D ks ps (fun _ => []) H2) (hp : H2 p = none) (hm : m ∉ ks) :
    DLs H D (ks ++ [m]) (ps ++ [p]) (fun _ => []) (upd (upd H2 p (.lst [])) D (.dK (putK ((ks.map Sum.inr).zip (ps.map V.ref)) (.inr m) (.ref p)))) := by
  have hpD : p ≠ D := fun z => by rw [z, h.dk] at hp; cases hp
  have hp0 : H p = none := by
    cases e : H p with
    | none => rfl
    | some o => rw [h.same _ _ e] at hp; cases hp
  have hps : ∀ q ∈ ps, q ≠ p := fun q hq z => by
    obtain ⟨i, hi, e⟩ := List.getElem_of_mem hq
    have : H2 q = some (.lst []) := h.at_ i (ks[i]'(by rw [h.len]; exact hi)) q (List.getElem?_eq_getElem _) (by rw [List.getElem?_eq_getElem hi, e])
    rw [z, hp] at this
    cases this
  refine ⟨fun b o e => ?_, h.d0, by simp [h.len], ?_, fun q hq => ?_, fun i x q a b => ?_, ?_⟩
  · rw [upd_ne (ne_of_none e h.d0), upd_ne (ne_of_none e hp0)]
    exact h.same b o e
  · rw [upd_same, putK_new _ (key_out (by rw [List.length_map]; exact h.len) hm), List.map_append, List.map_append, List.zip_append (by rw [List.length_map, List.length_map]; exact h.len)]
    rfl
  · rcases List.mem_append.mp hq with q' | q'
    · exact h.p0 q q'
    · cases List.mem_singleton.mp q'
      exact ⟨hp0, hpD⟩
  · by_cases hi : i < ps.length
    · rw [List.getElem?_append_left (by rw [h.len]; exact hi)] at a
      rw [List.getElem?_append_left hi] at b
      have hq : q ∈ ps := List.mem_of_getElem? b
      rw [upd_ne (h.p0 q hq).2, upd_ne (hps q hq)]
      exact h.at_ i x q a b
    · have hi : ps.length ≤ i := by omega
      rw [List.getElem?_append_right hi] at b
      have : i - ps.length = 0 := by
        have := (List.getElem?_eq_some_iff.mp b).1
        simp at this
        omega
      rw [this] at b
      cases b
      rw [upd_ne hpD, upd_same]
      rfl
  · rw [List.nodup_append]
    exact ⟨h.nd, by simp, fun a ha b hb => by cases List.mem_singleton.mp hb; exact hps a ha⟩
open Classical in
noncomputable def shr (H2 Hs : Hp) (D : Addr) (ps : List Addr) : Hp := fun b => if b = D ∨ b ∈ ps then H2 b else Hs b
/-! while, by a number that falls -/
/-! where uses lead -/
inductive Rch (us : List Us) (s : Str) : Str → Prop where
  | refl : Rch us s s
  | step {a b : Str} : Rch us s a → (a, b) ∈ us → Rch us s b
theorem Rch.mem {us : List Us} {s m : Str} {ms : List Str} (hs : s ∈ ms) (hu : ∀ u ∈ us, u.2 ∈ ms) (h : Rch us s m) : m ∈ ms := by
  cases h with
  | refl => exact hs
  | step _ h => exact hu _ h
theorem look_map {f : Str → D} {m : Str} : ∀ {ms : List Str}, m ∈ ms → lookD (ms.map Sum.inr) (ms.map f) (.inr m) = some (f m)
  | [], h => by simp at h
  | k :: ms, h => by
    by_cases e : k = m
    · subst e
      simp [lookD]
    · have := look_map (f := f) (ms := ms) (List.mem_of_ne_of_mem (fun z => e z.symm) h)
      simpa [lookD, e] using this
theorem mem_inr {m : Str} {ms : List Str} : (Sum.inr m : Key) ∈ ms.map (Sum.inr : Str → Key) ↔ m ∈ ms := by
  rw [List.mem_map]
  exact ⟨fun ⟨x, hx, e⟩ => by cases e; exact hx, fun h => ⟨m, h, rfl⟩⟩
theorem putKs_new {ks : List Str} {m : Str} (h : m ∉ ks) : putKs (ks.map Sum.inr) (.inr m) = (ks ++ [m]).map Sum.inr := by
  unfold putKs
  rw [if_neg (fun z => h (mem_inr.mp z)), List.map_append]
  rfl
theorem putXs_new {ks : List Str} {m : Str} {xs : List D} {d : D} (h : m ∉ ks) : putXs (ks.map Sum.inr) xs (.inr m) d = xs ++ [d] := by
  unfold putXs
  rw [if_neg (fun z => h (mem_inr.mp z))]
theorem flatA_strs : ∀ l : List Str, flatA (l.map DL.D.str) = true
  | [] => rfl
  | _ :: l => flatA_strs l
end
end DL
namespace DL
open PySem PySem.Spec PyProof.Rows L2
section
variable {X : Cx} {K : PySem.W.Frag} {W : WX}
/-! list * number -/
def oMulL : O2 := fun x y Q => match x, y with
  | .lst xs, .int k => 0 ≤ k ∧ k ≤ 1000 ∧ xs.length * k.toNat ≤ lim ∧ Q (.lst (List.replicate k.toNat xs).flatten)
  | _, _ => False
theorem RpA.rep {H : Hp} {ds : List D} {vs : List V} (h : RpA K H ds vs) : ∀ n : Nat, RpA K H (List.replicate n ds).flatten (List.replicate n vs).flatten
  | 0 => rfl
  | n + 1 => by
    rw [List.replicate_succ, List.replicate_succ, List.flatten_cons, List.flatten_cons]
    exact h.append (h.rep n)
theorem sr_mulL : SndR K rRep oMulL := fun H Hs x y vx vy Q Q' s rx ry hq hd => by
  cases x <;> try exact hd.elim
  cases y <;> try exact hd.elim
  obtain ⟨h0, h1, h2, h3⟩ := hd
  obtain ⟨a, vs, rfl, q1, q2⟩ := rx
  cases ry
  refine ⟨a, _, vs, rfl, rfl, s _ _ q1, by omega, by omega, by rw [← q2.length]; exact lim_le h2, fun p hp => ?_⟩
  exact hq _ _ _ _ (Stp.alloc s hp) (rp_lst (q2.rep _) (same_none s hp)) h3
theorem de_mulL {a b : Expr} {pos : Pos} {da db : DT} (ha : DE X a da) (hb : DE X b db) : DE X (.BinOp a .Mult b pos) (dOp oMulL da db) := de_op op_rep sr_mulL ha hb
/-! what slots own is shared ahead of a statement -/
def sFrz (l : List Nat) (dl : DTS) : DTS := fun g r f E => dl g (frz r l) f E
theorem ds_frz (l : List Nat) {st : Stmt} {d : DTS} (h : DS X st d) : DS X st (sFrz l d) := .mk' h.ps fun g H0 Hs0 r f st H D E s e hd => by
  obtain ⟨Hs, s⟩ := s
  exact h.sn g H0 Hs0 _ f st H D E (s.frz l) e hd
/-! a, b = [..], [..], a cell among them: both own -/
/-! xs.append(ys.pop(e)) -/
theorem RpA.erase {H : Hp} : ∀ {ds : List D} {vs : List V} (n : Nat), RpA K H ds vs → RpA K H (ds.eraseIdx n) (vs.eraseIdx n)
  | [], _, _, h => by cases h; rfl
  | _ :: _, _, 0, ⟨v, r, h1, h2, h3⟩ => by subst h1; exact h3
  | _ :: _, _, n + 1, ⟨v, r, h1, h2, h3⟩ => by subst h1; exact ⟨v, _, rfl, h2, RpA.erase n h3⟩
end
end DL
namespace DL
open PySem PySem.Spec PyProof.Rows L2
section
variable {X : Cx} {K : PySem.W.Frag}
/-! x is True, x is not True, of truth values -/
def oIsB (neg : Bool) : O2 := fun x y Q => match x, y with
  | .bool a, .bool b => Q (.bool (xb neg (decide (a = b))))
  | _, _ => False
theorem sr_notB : SndR K (fun x y H Q => ∃ a b, x = .bl a ∧ y = .bl b ∧ Q (.bl (!decide (a = b))) H) (oIsB true) := SndR.pure fun H Hs x y vx vy Q Q' s rx ry hq hd => by
  unfold oIsB at hd
  split at hd
  · exact ⟨_, _, rx, ry, hq (.bool _) _ rfl (by simpa [xb] using hd)⟩
  · exact hd.elim
theorem dp_notB {a b : Expr} {pos : Pos} {da db : DT} (ha : DE X a da) (hb : DE X b db) : DP X (.Compare a [.IsNot] [b] pos) (dTest (dOp (oIsB true) da db)) := dp_cmp op_isnot_bl sr_notB ha hb (nomark _)
end
/-! the least of some texts -/
/-! writing at a key that is there -/
theorem put_upd {l : List Str} {f : Str → D} {m : Str} {v : D} (h : m ∈ l) : putKs (l.map Sum.inr) (.inr m) = l.map Sum.inr ∧ putXs (l.map Sum.inr) (l.map f) (.inr m) v = l.map fun x => if x = m then v else f x := by
  unfold putKs putXs
  rw [if_pos (mem_inr.mpr h), if_pos (mem_inr.mpr h)]
  refine ⟨rfl, ?_⟩
  have : ∀ l : List Str, ((l.map (Sum.inr : Str → Key)).zip (l.map f)).map (fun p => if p.1 = (.inr m : Key) then v else p.2) = l.map fun x => if x = m then v else f x := by
    intro l
    induction l with
    | nil => rfl
    | cons x l ih =>
      simp only [List.map_cons, List.zip_cons_cons, ih]
      congr 1
      by_cases e : x = m
      · rw [if_pos e, if_pos (by rw [e])]
      · rw [if_neg e, if_neg (fun z => e (Sum.inr.inj z))]
  exact this l
end DL
namespace DL
open PySem PySem.Spec PyProof.Rows L2
/-! for x in zip(a, b) of two tuples, with one name: the pair that was given out before may be there still or not -/
abbrev ZpV (h : Heap) (z ti tz : Addr) (v : Value) (b : Bool) : Prop :=
  h.get? z = some { cls := .type "zip", dict := none, data := .fields #[v, .bool b, .bool false, .ref ti, .ref tz], slots := #[] }
section
variable {prog : Program} {w : World} {A : Around} {E : Value → Shared → Prop} {s : Shared} {z ti tz i1 i2 l1 l2 T : Addr} {k1 k2 : Nat} {xs ys : Array Value} {x y v p q : Value} {b : Bool}
/-- the mark: nothing, or an address -/
def Mrk (v : Value) : Prop := v = .none ∨ ∃ T : Addr, v = rawInt T
end
section
variable {X : Cx} {K : PySem.W.Frag}
theorem atI_last (l : List Str) : atI (l.map DL.D.str) (-1) = l.getLast?.map DL.D.str := by
  unfold atI ixN
  rw [if_neg (by decide), List.length_map]
  cases h : l.length with
  | zero =>
    obtain rfl : l = [] := List.length_eq_zero_iff.mp h
    rfl
  | succ j =>
    rw [if_pos (by omega)]
    have e : ((-1 : Int) + ((j + 1 : Nat) : Int)).toNat = j := by omega
    show (l.map DL.D.str)[((-1 : Int) + ((j + 1 : Nat) : Int)).toNat]? = _
    rw [e, List.getElem?_map, List.getLast?_eq_getElem?, h]
    rfl
end
end DL
namespace DL
open PySem PySem.Spec PyProof.Rows L2
/-! expressions that may raise -/
abbrev XD := D → Nat → Prop
abbrev DTX := Option Dk → Sg → Nat → QD → XD → Prop
abbrev DSpX := Option Dk → List D → Nat → QD → XD → Prop
def SndX (K : PySem.W.Frag) (W : WX) (t : TE) (dl : DTX) : Prop := ∀ (g : Option Dk) (r : Sg) (f : Nat) (st : L2.St) (H Hs : Hp) (Q : VK) (Q' : QD) (E' : XD), At K g r f st H Hs →
  (∀ d f' v H' Hs', Stp g H Hs H' Hs' → DkOk g H' Hs' f' → Rp K Hs' d v → Q' d f' → Q v H') →
  (∀ x f' cls d H' Hs', Stp g H Hs H' Hs' → DkOk g H' Hs' f' → ExR K H' Hs' x cls d → E' x f' → W cls d st H') → dl g r f Q' E' → t st H Q
def tOfX (K : PySem.W.Frag) (W : WX) (dl : DTX) : TE := fun st H Q => ∃ g r f Hs Q' E', At K g r f st H Hs ∧ (∀ d f' v H' Hs', Stp g H Hs H' Hs' → DkOk g H' Hs' f' → Rp K Hs' d v → Q' d f' → Q v H') ∧
  (∀ x f' cls d H' Hs', Stp g H Hs H' Hs' → DkOk g H' Hs' f' → ExR K H' Hs' x cls d → E' x f' → W cls d st H') ∧ dl g r f Q' E'
structure DEX (X : Cx) (e : Expr) (dl : DTX) : Prop where
  pe : PE X e (tOfX X.K (wx X) dl)
theorem DEX.sn {X : Cx} {e : Expr} {dl : DTX} (_ : DEX X e dl) : SndX X.K (wx X) (tOfX X.K (wx X) dl) dl := fun g r f st H Hs Q Q' E' a h1 h2 hd => ⟨g, r, f, Hs, Q', E', a, h1, h2, hd⟩
theorem DEX.mk' {X : Cx} {e : Expr} {t : TE} {dl : DTX} (p : PE X e t) (s : SndX X.K (wx X) t dl) : DEX X e dl := ⟨⟨fun pins sh st H Q I h => by
  obtain ⟨g, r, f, Hs, Q', E', a, h1, h2, hd⟩ := h
  exact p.run pins sh st H Q I (s g r f st H Hs Q Q' E' a h1 h2 hd)⟩⟩
/-- a def that may raise -/
def spX (K : PySem.W.Frag) (S : DSpX) : Sp := fun vs H Q E => ∃ (g : Option Dk) (Hs : Hp) (ds : List D) (f : Nat) (Q' : QD) (E' : XD), Same Hs H ∧ DkOk g H Hs f ∧ RpA K Hs ds vs ∧ S g ds f Q' E' ∧
  (∀ d f' v H' Hs', Stp g H Hs H' Hs' → DkOk g H' Hs' f' → Rp K Hs' d v → Q' d f' → Q v H') ∧
  ∀ x f' cls d H' Hs', Stp g H Hs H' Hs' → DkOk g H' Hs' f' → ExR K H' Hs' x cls d → E' x f' → E cls d H'
section
variable {X : Cx} {K : PySem.W.Frag} {W : WX}
def CalX (P : Program) (w : World) (K : PySem.W.Frag) (mg : Str → Option Value) (base : Heap) (k : Nat) (x : Str) (ps : List Str) (S : DSpX) : Prop :=
  ∃ f fd, FnOk P w K mg base (L2.CX P w) k f fd ps (spX K S) ∧ PySem.W.keepIn K (.ref f) = true ∧ Binds K fd ps [] ∧ mg x = some (.ref f)
/-! statements of them -/
/-! raise C(e), C a class of the text with one field -/
def spExn (K : PySem.W.Frag) (C : Addr) (fld : Str) : Sp := fun vs H Q _ => ∃ (a : Addr) (y : V), vs = [.ref a, y] ∧ H a = some (exo a C none) ∧ ∀ dx, H dx = none → dx ≠ a → Q .non (upd (upd H dx (exd dx [(fld, y)])) a (exo a C (some dx)))
structure Exn (P : Program) (w : World) (K : PySem.W.Frag) (mg : Str → Option Value) (base : Heap) (k : Nat) (c fld : Str) : Prop where
  ex : ∃ C fI fd ps, OexC K C ∧ PySem.W.findIn K (.ref C) "__init__" = some (some (.ref fI)) ∧ PySem.W.typeIn K (.ref fI) = some (.type "function") ∧ FnOk P w K mg base CX0 k fI fd ps (spExn K C fld) ∧ Binds K fd ps [] ∧ mg c = some (.ref C) ∧ PySem.W.nsIn K mainGlobals c = some (some (.ref C))
def sRaise (c fld : Str) (dl : DT) : DTS := fun g r f E => dl g (hide r) f fun d f' => E.xc (.obj c [fld] [d]) r f'
theorem ds_raise {c fld : Str} {k : Nat} {e : Expr} {d : DT} {p pos pos' : Pos} (x : Exn X.prog X.w X.K X.mg X.base k c fld) (hr : Room (k + 1) X.A) (he : DE X e d) (hc : X.calm = true := by rfl) (hg : Gl X c := by rfl) (hdb : (c == ("__debug__" : Str)) = false := by decide)
    (hs : starEach [e] X.env = (false, eval e X.env) :: starEach [] X.env := by rfl) (hpl : (backTo pos (starEach [] X.env)).any (·.1) = false := by rfl) : DS X (.Raise (some (.Call (.Name c p) [e] [] pos)) none pos') (sRaise c fld d) := by
  obtain ⟨C, fI, fd, ps, T, i1, i2, F, hb, hm, hns⟩ := x.ex
  have ha : DA X [e] (dCons d dNil) := da_cons he da_nil hs
  refine .mk' (ps_raise hc (takes_wx X) (pmk_oex T i1 i2 F hr hb .nil pass0 hg hm ha.pa hdb hs hpl)) fun g H0 Hs0 r f st H D E s e hd => ?_
  obtain ⟨Hs, s⟩ := s
  refine ha.sn g (hide r) f st H Hs _ (fun ds f1 => match ds with
    | [x] => E.xc (.obj c [fld] [x]) r f1
    | _ => False) s.atHid (fun ds f1 vs H1 Hs1 s1 k1 r1 q1 => ?_) hd
  match ds, q1 with
  | [x], q1 =>
    obtain ⟨y, rfl, ry⟩ := rpA1 r1
    refine ⟨by simp, fun a ha' => ⟨a, y, rfl, upd_same, fun dx hdx hne => ?_⟩⟩
    have hd1 : H1 dx = none := by rw [upd_ne hne] at hdx; exact hdx
    refine ⟨rfl, dx, [(fld, y)], upd_same, by rw [upd_ne hne, upd_same], hd1, ?_⟩
    have eH : upd (del (upd (upd (upd H1 a (exo a C none)) dx (exd dx [(fld, y)])) a (exo a C (some dx))) a) dx (.xd [(fld, y)]) = upd H1 dx (.xd [(fld, y)]) := by
      funext b
      by_cases e1 : b = dx
      · rw [e1, upd_same, upd_same]
      · rw [upd_ne e1, upd_ne e1]
        by_cases e2 : b = a
        · rw [e2, del_same, ha']
        · rw [del_ne e2, upd_ne e2, upd_ne e1, upd_ne e2]
    rw [eH]
    have lay : Stp none H1 Hs1 (upd H1 dx (.xd [(fld, y)])) (upd Hs1 dx (.xd [(fld, y)])) := Stp.alloc s1.sub hd1
    exact e.xc (.obj c [fld] [x]) r f1 st _ _ _ ⟨_, s.afterHid (s1.trans lay.gen) (k1.stp lay), C, hns, rfl, .inr ⟨dx, [y], rfl, upd_same, rfl, RpA.one (ry.mono lay.ext)⟩⟩ q1
/-! a op b by the class's own method, which may raise -/
/-! try: body, except C: suite -/
theorem EndsOk.mono {g : Option Dk} {H0 Hs0 : Hp} {E : DEnds} {D : Ends} {W' : WX} (e : EndsOk K W g H0 Hs0 E D) (h : ∀ cls d st H, W cls d st H → W' cls d st H) : EndsOk K W' g H0 Hs0 E D := ⟨e.nx, e.rt, e.bk, e.ct, fun x r f st H cls d q hx => h _ _ _ _ (e.xc x r f st H cls d q hx)⟩
end
section
variable {P : Program} {w : World} {K : PySem.W.Frag} {mg : Str → Option Value} {base : Heap}
/-- a def that may raise, by its body -/
theorem dfnX {x qual : Str} {st : Stmt} {f : Addr} {fd : FuncData} {N ps : List Str} {k : Nat} {S : DSpX} {dl : DTS} (F : Fun K x qual st f fd) (sc : FnScope N ps (defScope st)) (len : ∀ g ds n Q E, S g ds n Q E → ds.length = ps.length)
    (hb : ∀ (cdv : Value) (A : Around) (outer : List Env) (s : Shared) (H : Hp) (E : XK), Room k (A.deeper (envOfC qual (defScope st) s.heap.objs.size f cdv)) → DSs (cxOf (L2.CX P w) P w K mg base N qual (defScope st) f cdv A outer s H E) (defBody st) dl)
    (h : ∀ g ds n Q E, S g ds n Q E → dl g (startR N.length ds) n { nx := fun _ n => Q .none n, rt := Q, xc := fun x _ n => E x n }) : FnOk P w K mg base (L2.CX P w) (k + 1) f fd ps (spX K S) := by
  obtain ⟨oc, od, kV, doc, pm, an, cdv, ct, osl, rfl, lk, hcd⟩ := F.ex
  refine fn_of lk hcd sc (fun vs H Q E h => ?_) fun A outer s H vs Q E hr hsp => ?_
  · obtain ⟨g, Hs, ds, n, Q', E', h1, h2, h3, h4, _⟩ := h
    rw [← h3.length]
    exact len g ds n Q' E' h4
  · obtain ⟨g, Hs, ds, n, Q', E', h1, h2, h3, h4, h5, h6⟩ := hsp
    have D := hb cdv A outer s H E hr
    refine ⟨_, D.ps, ?_⟩
    refine D.sn g H Hs _ n _ H _ { nx := fun _ n => Q' .none n, rt := Q', xc := fun x _ n => E' x n } ⟨Hs, start_in h1 h2 h3⟩ ⟨fun r f st H' q h => ?_, fun d f v H' Hs' p k hr h => h5 d f v H' Hs' p k hr h, fun _ _ _ _ _ h => h, fun _ _ _ _ _ h => h, fun x r f st H' cls d q h => ?_⟩ (h g ds n Q' E' h4)
    · obtain ⟨Hs', q⟩ := q
      exact h5 .none f .non H' Hs' q.stp q.dk rfl h
    · obtain ⟨Hs', q, hx⟩ := q
      exact wx_of (takes_of (E := E) rfl rfl rfl rfl) (h6 x f cls d H' Hs' q.stp q.dk hx h)
/-- the __init__ of an exception with one field -/
theorem exn_ok {qual fld : Str} {st : Stmt} {C fI : Addr} {fd : FuncData} (T : OexC K C) (hno : PySem.W.findIn K (.ref C) fld = some none) (F : Fun K "__init__" qual st fI fd) (sc : FnScope ["self", fld] ["self", fld] (defScope st))
    (hb : ∀ (cdv : Value) (A : Around) (outer : List Env) (s : Shared) (H : Hp) (E : XK), PSs (cxOf CX0 P w K mg base ["self", fld] qual (defScope st) fI cdv A outer s H E).nox (defBody st) (tOst K fld (tVar 0) (tVar 1))) :
    FnOk P w K mg base CX0 1 fI fd ["self", fld] (spExn K C fld) := by
  refine F.ok sc (fun vs H Q E h => ?_) (fun cdv A outer s H vs Q E hr hsp => ?_)
  · obtain ⟨a, y, rfl, _⟩ := h
    rfl
  · obtain ⟨a, y, rfl, ea, q⟩ := hsp
    refine ⟨_, hb cdv A outer s H E, ?_⟩
    exact ⟨y, rfl, .ref a, rfl, a, C, rfl, T, hno, .inl ⟨ea, fun dx h1 h2 => q dx h1 h2⟩⟩
end
end DL
namespace DL
open PySem PySem.Spec PyProof.Rows L2
/-! a caught exception that is looked at, kept, and looked at later -/
section
variable {X : Cx} {K : PySem.W.Frag} {W : WX} {g : Option Dk} {H0 Hs0 : Hp} {r : Sg} {f : Nat} {st : L2.St} {H Hs : Hp}
/-! its fields -/
structure KX (K : PySem.W.Frag) (c : Str) (C : Addr) : Prop where
  ns : PySem.W.nsIn K mainGlobals c = some (some (.ref C))
  xf : XfC K C
  ha : PySem.W.findIn K (.ref C) "__class__" = some (some (.builtin "object.__class__"))
  hn : PySem.W.specialIn K (.builtin "object.__class__") "__get__" = some (some (.builtin "getset_descriptor.__get__"))
  ht : PySem.W.takesIn K (.builtin "object.__class__") = some true
  hm : PySem.W.mroIn K C (.type "object") = some true
theorem KX.uniq {c : Str} {C C' : Addr} (k : KX K c C) (h : PySem.W.nsIn K mainGlobals c = some (some (.ref C'))) : C' = C := by
  have e := k.ns.symm.trans h
  cases e
  rfl
/-! isinstance of it, or of None -/
theorem KX.cls {c : Str} {C : Addr} (k : KX K c C) : (PySem.W.clsIn K C).isSome = true := by
  obtain ⟨cd, hc, _⟩ := PySem.W.any_some k.xf.hdC
  rw [hc]
  rfl
/-! small things -/
theorem DEX.e {e : Expr} {dl : DTX} (h : DEX X e dl) : DE X e (fun g r f Q => dl g r f Q fun _ _ => False) := .mk' h.pe fun g r f st H Hs Q Q' A hq hd => ⟨g, r, f, Hs, Q', fun _ _ => False, A, hq, fun _ _ _ _ _ _ _ _ _ z => z.elim, hd⟩
theorem exn_mk {P : Program} {w : World} {mg : Str → Option Value} {base : Heap} {c fld qual : Str} {st : Stmt} {C fI : Addr} {fd : FuncData} (T : OexC K C) (hno : PySem.W.findIn K (.ref C) fld = some none) (F : Fun K "__init__" qual st fI fd) (i1 : PySem.W.findIn K (.ref C) "__init__" = some (some (.ref fI)))
    (i2 : PySem.W.typeIn K (.ref fI) = some (.type "function")) (hns : PySem.W.nsIn K mainGlobals c = some (some (.ref C))) (hm : mg c = some (.ref C)) (sc : FnScope ["self", fld] ["self", fld] (defScope st)) (hb' : Binds K fd ["self", fld] [])
    (hb : ∀ (cdv : Value) (A : Around) (outer : List Env) (s : Shared) (H : Hp) (E : XK), PSs (cxOf CX0 P w K mg base ["self", fld] qual (defScope st) fI cdv A outer s H E).nox (defBody st) (tOst K fld (tVar 0) (tVar 1))) : Exn P w K mg base 1 c fld :=
  ⟨⟨C, fI, fd, _, T, i1, i2, exn_ok T hno F sc hb, hb', hm, hns⟩⟩
end
end DL
namespace DL
open PySem PySem.Spec PyProof.Rows L2
section
variable {X : Cx} {K : PySem.W.Frag} {W : WX}
/-- a, b, c = e1, e2, e3 -/
def sPar3 (m : Bool) (i j l : Nat) (a b c : DT) : DTS := fun g r f E => evM m a g r f fun x f1 => evM m b g r f1 fun y f2 => evM m c g r f2 fun z f3 => E.nx (((r.set i (.sh x)).set j (.sh y)).set l (.sh z)) f3
theorem ds_par3 (m : Bool) {i j l : Nat} {x y z : Str} {a b c : Expr} {da db dc : DT} {px py pz pt : Pos} {kt k2 : Nat} {pt2 pos : Pos} (hN : X.N.Nodup) (ha : DE X a da) (hb : DE X b db) (hc' : DE X c dc) (hc : X.calm = true := by rfl) (hi : X.N[i]? = some x := by rfl) (hj : X.N[j]? = some y := by rfl) (hl : X.N[l]? = some z := by rfl) (hij : i ≠ j := by decide) (hil : i ≠ l := by decide) (hjl : j ≠ l := by decide)
    (hx : X.env.scope.names.lookup x = some .local := by rfl) (hy : X.env.scope.names.lookup y = some .local := by rfl) (hz : X.env.scope.names.lookup z = some .local := by rfl) (hst : starEach [a, b, c] X.env = (false, eval a X.env) :: starEach [b, c] X.env := by rfl) (hst2 : starEach [b, c] X.env = (false, eval b X.env) :: starEach [c] X.env := by rfl) (hst3 : starEach [c] X.env = [(false, eval c X.env)] := by rfl)
    (hw : swappedStores [.Tuple [.Name x px, .Name y py, .Name z pz] kt pt] (.Tuple [a, b, c] k2 pt2) X.env = pure (some [x, y, z]) := by rfl)
    (hs : swapsWithSole [.Tuple [.Name x px, .Name y py, .Name z pz] kt pt] (.Tuple [a, b, c] k2 pt2) pos.line X.env = pure false := by rfl) :
    DS X (.Assign [.Tuple [.Name x px, .Name y py, .Name z pz] kt pt] (.Tuple [a, b, c] k2 pt2) pos) (sPar3 m i j l da db dc) := DS.mk' (ps_par3 hc hN hi hj hl hij hil hjl hx hy hz (pa_cons ha.pe (pa_cons hb.pe (pa_cons hc'.pe pa_nil hst3) hst2) hst) hw hs) (fun g H0 Hs0 r f st H D E s e hd => by
  obtain ⟨Hs, s⟩ := s
  refine snd_evM ha.sn s (fun x f1 v H1 Hs1 s1 _ r1 q1 => ?_) hd
  refine snd_evM hb.sn s1 (fun y f2 w H2 Hs2 s2 e2 r2 q2 => ?_) q1
  refine snd_evM hc'.sn s2 (fun z f3 u H3 Hs3 s3 e3 r3 q3 => ?_) q2
  exact ⟨v, w, u, rfl, e.nx _ f3 _ H3 ⟨_, ((s3.set i ((r1.mono e2).mono e3)).set j (r2.mono e3)).set l r3⟩ q3⟩)
end
/-! values without lists and dicts stand apart from what the slots own -/
end DL
namespace DL
open PySem PySem.Spec PyProof.Rows L2
/-! places between statements, at which ways meet: behind the first, the second, .. statement -/
section
variable {g : Option Dk} {r : Sg} {f : Nat} {E : DEnds} {a b c d e h i : DTS}
theorem mid (M : Sg → Nat → Prop) (h2 : ∀ r f, M r f → b g r f E) (h1 : (∀ r f, M r f → b g r f E) → (sSeq a b) g r f E) : (sSeq a b) g r f E := h1 h2
end
/-! isinstance of an own error class, from the answers about the classes -/
end DL
namespace DL
open PySem PySem.Spec PyProof.Rows L2
/-! repr -/
def keyP : Key → PyData
  | .inl i => .int i
  | .inr x => .str x
mutual
def D.sh : D → PyData
  | .none => .none
  | .bool b => .bool b
  | .int i => .int i
  | .str x => .str x
  | .tup ds => .tuple (shA ds)
  | .lst ds => .list (shA ds)
  | .dct ks ds => .dict ((ks.map keyP).zip (shA ds))
  | .dtt _ _ => .none
  | .ktup _ => .none
  | .ftp _ => .none
  | .obj _ _ _ => .none
  | .exn _ _ _ => .none
  | .any _ => .none
def shA : List D → List PyData
  | [] => []
  | d :: ds => d.sh :: shA ds
end
def kOk : Key → Bool
  | .inl i => decide (i.natAbs.log2 < 1920)
  | .inr x => x.cps.toList.all fun c => decide (c < 1114112)
def kWt : Key → Nat
  | .inl _ => 1921
  | .inr x => 10 * x.length + 2
mutual
/-- how deep it is -/
def D.dp : D → Nat
  | .tup ds => dpA ds + 1
  | .lst ds => dpA ds + 1
  | .dct _ ds => dpA ds + 1
  | _ => 0
def dpA : List D → Nat
  | [] => 0
  | d :: ds => max d.dp (dpA ds)
end
/-! lengths -/
theorem cps_of {x : Str} (h : (x.cps.toList.all fun c => decide (c < 1114112)) = true) : (reprText x).length ≤ 10 * x.length + 2 :=
  PySem.StrLaws.reprText_len x fun c hc => Nat.lt_trans (of_decide_eq_true (List.all_eq_true.mp h c hc)) (by decide)
/-! depths -/
/-! what is read in the heap -/
section
variable {P : Program} {w : World} {K : PySem.W.Frag} {H : Hp} {h : Heap}
theorem keys_at : ∀ {ks : List Key} {us : List Value} (n : Nat) (bs : List Addr), Paired (fun k u => keyIs k u = true) ks us → ks.all kOk = true → (∀ k ∈ ks, kWt k ≤ sizeLine) → (∃ as, ReadsAll h us (ks.map keyP) as) ∧ ReprAllK P w bs h n us (PyData.shownAll (ks.map keyP))
  | [], _, n, bs, .nil, _, _ => ⟨⟨[], .nil⟩, .nil⟩
  | k :: ks, u :: us, n, bs, .cons hk hr, ho, hz => by
    rw [List.all_cons, Bool.and_eq_true] at ho
    obtain ⟨⟨as, h1⟩, h2⟩ := keys_at n bs hr ho.2 fun k hk => hz k (List.mem_cons_of_mem _ hk)
    have hz1 := hz k (List.mem_cons_self ..)
    rcases keyIs_shape hk with ⟨i, t, rfl, rfl⟩ | ⟨x, t, rfl, rfl⟩
    · exact ⟨⟨_, .cons (.int i t) h1⟩, .cons (.of_is (ReprIs.int t (of_decide_eq_true ho.1)) _ _ _) h2⟩
    · exact ⟨⟨_, .cons (.str x t) h1⟩, .cons (.of_is (ReprIs.str x t (Nat.le_trans (cps_of ho.1) hz1)) _ _ _) h2⟩
end
end DL
namespace DL
open PySem PySem.Spec PyProof.Rows L2
/-! draws of other names -/
def CalDn (x : Str) (P : Program) (w : World) (K : PySem.W.Frag) (mg : Str → Option Value) (base : Heap) : Prop :=
  ∃ f fd, FnOk P w K mg base CX0 1 f fd ["_law_script"] (spDeck K) ∧ PySem.W.keepIn K (.ref f) = true ∧ Binds K fd ["_law_script"] [] ∧ mg x = some (.ref f)
end DL
namespace DL
open PySem PySem.Spec PyProof.Rows L2
/-! dicts of the text, with text keys -/
inductive Ents (K : PySem.W.Frag) : List DictEntry → List (Str × D) → Prop
  | nil : Ents K [] []
  | cons {e : DictEntry} {x : Str} {t : Tok} {d : D} {es : List DictEntry} {tb : List (Str × D)} : e.key = .str x t → (∃ v, RelV v e.val ∧ ∀ H, Rp K H d v) → Ents K es tb → Ents K (e :: es) ((x, d) :: tb)
def GD (K : PySem.W.Frag) (w : World) (mg : Str → Option Value) (x : Str) (tb : List (Str × D)) : Prop := ∃ (a : Addr) (es : Array DictEntry) (n : Nat), mg x = some (.ref a) ∧ KDict K w a es n ∧ Ents K es.toList tb
section
variable {X : Cx} {K : PySem.W.Frag}
theorem DE.weak {e : Expr} {d d' : DT} (h : DE X e d) (w : ∀ g r f Q, d' g r f Q → d g r f Q) : DE X e d' := .mk' h.pe fun g ro f st H Hs Q Q' A hq hd => h.sn g ro f st H Hs Q Q' A hq (w g ro f Q' hd)
theorem DP.weak {e : Expr} {d d' : DTT} (h : DP X e d) (w : ∀ g r f Q, d' g r f Q → d g r f Q) : DP X e d' := .mk' h.pt fun g ro f st H Hs Q Q' A hq hd => h.sn g ro f st H Hs Q Q' A hq (w g ro f Q' hd)
/-! the tables, from what stands in the text -/
end
end DL
namespace DL
open PySem PySem.Spec PyProof.Rows L2
/-! s.count(t), s.strip(t) -/
section
variable {X : Cx} {K : PySem.W.Frag}
def oCount : OM := fun x ds Q => match x, ds with
  | .str a, [.str b] => Q (.int (Txt.count a b))
  | _, _ => False
theorem sm_count : SndM K (fun x xs H Q => ∃ a b, x = .str a ∧ xs = [.str b] ∧ Q (.int (Txt.count a b)) H) oCount := fun H Hs x vx ds vs Q Q' s rx rs hq hd => by
  unfold oCount at hd
  split at hd
  · obtain ⟨v, rfl, h⟩ := rpA1 rs
    cases h
    exact ⟨_, _, rx, rfl, hq (.int _) _ _ _ (Stp.refl s) rfl hd⟩
  · exact hd.elim
theorem de_count {o e : Expr} {apos pos : Pos} {d d2 : DT} (ho : DE X o d) (he : DE X e d2) (hs : starEach [e] X.env = [(false, eval e X.env)] := by rfl) (hbase : attributeBase o "count" X.env (eval o X.env) = eval o X.env := by rfl) (hline : (apos.endLine == pos.line) = true := by rfl) :
    DE X (.Call (.Attribute o "count" apos) [e] [] pos) (dM1 oCount d d2) := .mk' (pe_m1 F.slot_str_count F.type_str_count mt_count ho.pe he.pe hs hbase hline) (snd_m1 sm_count ho.sn he.sn)
end
theorem parts_len (x : Str) (n : Nat) : ∀ (cuts : List Nat) (a : Nat), (PySem.StrLaws.partsFrom x n a cuts).length = cuts.length + 1
  | [], _ => rfl
  | c :: r, a => by show (PySem.StrLaws.partsFrom x n (c + n) r).length + 1 = _; rw [parts_len x n r]; rfl
theorem count_split (s : Str) : Txt.count s "." + 1 = ((Txt.split s ".").length : Int) := by
  have hy : TL.tl (Str.ofString ".") ≠ [] := by decide
  obtain ⟨f, g, hn⟩ := PySem.StrLaws.occ_tight s (Str.ofString ".") (TL.len1 hy)
  have key := TL.parts_spl hy _ 0 f (Nat.zero_le _) g hn
  rw [List.drop_zero, ← TL.split_spl s (Str.ofString ".") hy (TL.kind_ok (by decide +kernel))] at key
  have := congrArg List.length key
  rw [List.length_map, List.length_map, parts_len] at this
  unfold Txt.count
  omega
end DL
namespace DL
open PySem PySem.Spec PyProof.Rows L2
/-! `xs == []` and `xs != []` for a list of any items -/
section
variable {X : Cx} {K : PySem.W.Frag}
def rEqE (K : PySem.W.Frag) (neg : Bool) : R2 := fun x y H Q => ∃ (p q : Addr) (vs : List V), x = .ref p ∧ y = .ref q ∧ SqL K H p vs ∧ SqL K H q [] ∧ Q (.bl (xb neg vs.isEmpty)) H
theorem op_eqE (hu : X.A.units + 64 < cLine) : OpR X (compareOp .Eq) (rEqE X.K false) := by
  intro pins s st H x y v u Q I rx ry h
  obtain ⟨p, q, vs, rfl, rfl, hp, hq, hQ⟩ := h
  cases (show v = Value.ref p from rx)
  cases (show u = Value.ref q from ry)
  obtain ⟨its, r, pl, _⟩ := I.list hp
  obtain ⟨jts, r2, pl2, _⟩ := I.list hq
  cases r2
  have f : ∀ b : Bool, b = vs.isEmpty → EP X pins st Q (.bool b) s := fun b e => ⟨.bl vs.isEmpty, H, I, (show Value.bool b = Value.bool vs.isEmpty by rw [e]), hQ⟩
  cases r with
  | nil => exact SeqAt.RcAt.lists (e := fun _ => true) pl.isList pl2.isList rfl (by omega) (fun j h1 _ => absurd h1 (Nat.not_lt_zero _)) _ _ _ _ (f true rfl)
  | cons _ _ => exact SeqAt.RcAt.lists_lengths pl.isList pl2.isList (by simp) (by omega) _ _ _ _ (f false rfl)
def oEqE (neg : Bool) : O2 := fun x y Q => ∃ xs, x = .lst xs ∧ y = .lst [] ∧ Q (.bool (xb neg xs.isEmpty))
theorem sr_eqE {neg : Bool} : SndR K (rEqE K neg) (oEqE neg) := SndR.pure fun H Hs x y vx vy Q Q' s rx ry hq hd => by
  obtain ⟨xs, rfl, rfl, q⟩ := hd
  obtain ⟨p, vs, rfl, h1, h2⟩ := rx
  obtain ⟨q', ws, rfl, h3, h4⟩ := ry
  cases h4
  refine ⟨p, q', vs, rfl, rfl, SqL.of (s _ _ h1), SqL.of (s _ _ h3), ?_⟩
  have e : vs.isEmpty = xs.isEmpty := by
    have := h2.length
    cases vs <;> cases xs <;> simp_all
  rw [e]
  exact hq (.bool _) _ rfl q
theorem dp_eqE {a b : Expr} {pos : Pos} {da db : DT} (hu : X.A.units + 64 < cLine) (ha : DE X a da) (hb : DE X b db) : DP X (.Compare a [.Eq] [b] pos) (dTest (dOp (oEqE false) da db)) := dp_cmp (op_eqE hu) sr_eqE ha hb (nomark _)
end
end DL
namespace DL
open PySem PySem.Spec PyProof.Rows L2
section
variable {X : Cx} {K : PySem.W.Frag} {W : WX}
/-! a def that calls itself, before its first step -/
/-! str(number) -/
/-! a, b = e1, e2, new lists among them -/
theorem notO_new {g : Option Dk} {H0 Hs0 H Hs : Hp} {r : Sg} {f : Nat} {st : L2.St} (s : SIn K g H0 Hs0 r f st H Hs) {p : Addr} (hp : H p = none) (j : Nat) (sl : Sl) (h1 : r[j]? = some sl) (h2 : sl.own = true) : st[j]? ≠ some (some (.ref p)) := fun h3 => by
  obtain ⟨a, e, _, _, q⟩ := s.ow j sl h1 h2
  rw [h3] at e
  cases e
  obtain ⟨o, ho, _⟩ := q.ld
  rw [hp] at ho; cases ho
def sParLS (i j : Nat) (a : DTA) (b : DT) : DTS := fun g r f E => a g (hide r) f fun xs f1 => b g (hide r) f1 fun y f2 => E.nx ((r.set i (.ow xs)).set j (.sh y)) f2
theorem snd_parLS {i j : Nat} {ta tb : TE} {a : DTA} {b : DT} (hij : i ≠ j) (ha : SndL K ta a) (hb : Snd K tb b) : SndS K W (tPar i j (tCons ta (tCons tb tNil))) (sParLS i j a b) := fun g H0 Hs0 r f st H D E s e hd => by
  obtain ⟨Hs, s⟩ := s
  refine ha g _ f st H Hs _ _ s.atHid (fun xs f1 p vs H1 Hs1 t1 k1 hp np hv hr q1 => ?_) hd
  have s1 := s.afterHid t1 k1
  refine hb g _ f1 st H1 Hs1 _ _ s1.atHid (fun y f2 v H2 Hs2 t2 k2 r2 q2 => ?_) q1
  have s2 := s1.afterHid t2 k2
  have kp : ¬ Dk.has g p := s.dk.out hp
  have ep : H2 p = some (.lst vs) := t2.keep p _ hv kp
  have np2 : Hs2 p = none := t2.new p _ hv np
  exact ⟨.ref p, v, rfl, e.nx _ f2 _ H2 ⟨_, (s2.setOwn i (u := .ow xs) rfl (s.stp.none0 hp) np2 (fun l sl _ h1 h2 => notO_new s hp l sl h1 h2) ⟨vs, ep, hr.mono t2.ext⟩).set j r2⟩ q2⟩
theorem ds_parLS {i j : Nat} {x y : Str} {a b : Expr} {da : DTA} {db : DT} {px py pt : Pos} {kt k2 : Nat} {pt2 pos : Pos} (hN : X.N.Nodup) (ha : DL' X a da) (hb : DE X b db) (hc : X.calm = true := by rfl) (hi : X.N[i]? = some x := by rfl) (hj : X.N[j]? = some y := by rfl) (hij : i ≠ j := by decide)
    (hx : X.env.scope.names.lookup x = some .local := by rfl) (hy : X.env.scope.names.lookup y = some .local := by rfl) (hst : starEach [a, b] X.env = (false, eval a X.env) :: starEach [b] X.env := by rfl) (hst2 : starEach [b] X.env = [(false, eval b X.env)] := by rfl)
    (hw : swappedStores [.Tuple [.Name x px, .Name y py] kt pt] (.Tuple [a, b] k2 pt2) X.env = pure (some [x, y]) := by rfl)
    (hs : swapsWithSole [.Tuple [.Name x px, .Name y py] kt pt] (.Tuple [a, b] k2 pt2) pos.line X.env = pure false := by rfl) :
    DS X (.Assign [.Tuple [.Name x px, .Name y py] kt pt] (.Tuple [a, b] k2 pt2) pos) (sParLS i j da db) := DS.mk' (ps_par hc hN hi hj hij hx hy (pa_cons ha.pe (pa_cons hb.pe pa_nil hst2) hst) hw hs) (snd_parLS hij ha.sn hb.sn)
end
end DL
namespace DL
open PySem PySem.Spec PyProof.Rows L2
/-! defs that give a list that nobody else has -/
abbrev DTL := Option Dk → Sg → Nat → (List D → Nat → Prop) → Prop
def NewL (K : PySem.W.Frag) (g : Option Dk) (H Hs : Hp) (Q : VK) (Q' : List D → Nat → Prop) : Prop := ∀ xs f' p us H' Hs', Stp g H Hs H' Hs' → DkOk g H' Hs' f' → H p = none → Hs' p = none → H' p = some (.lst us) → RpA K Hs' xs us → Q' xs f' → Q (.ref p) H'
section
variable {X : Cx} {K : PySem.W.Frag} {W : WX}
/-! bodies that end in such a list -/
def sOfL (K : PySem.W.Frag) (dl : DTL) : TS := fun D st H => ∃ g H0 Hs0 r f E, SOk K g H0 Hs0 r f st H ∧ NewL K g H0 Hs0 D.rt E ∧ dl g r f E
structure DSsL (X : Cx) (sts : List Stmt) (dl : DTL) : Prop where
  ps : PSs X sts (sOfL X.K dl)
theorem DSsL.mk' {sts : List Stmt} {t : TS} {dl : DTL} (p : PSs X sts t) (s : ∀ D st H g H0 Hs0 r f E, SOk X.K g H0 Hs0 r f st H → NewL X.K g H0 Hs0 D.rt E → dl g r f E → t D st H) : DSsL X sts dl :=
  ⟨⟨fun pins sh st H D I ⟨g, H0, Hs0, r, f, E, h1, h2, h3⟩ => p.run pins sh st H D I (s D st H g H0 Hs0 r f E h1 h2 h3)⟩⟩
/-! the same for a pair, its second part such a list -/
abbrev DTP := Option Dk → Sg → Nat → (D → List D → Nat → Prop) → Prop
def NewP (K : PySem.W.Frag) (g : Option Dk) (H Hs : Hp) (Q : VK) (Q' : D → List D → Nat → Prop) : Prop := ∀ d xs f' t v p us H' Hs', Stp g H Hs H' Hs' → DkOk g H' Hs' f' → H p = none → Hs' p = none → H' p = some (.lst us) → H' t = some (.tup [v, .ref p]) → Rp K Hs' d v → RpA K Hs' xs us → Q' d xs f' → Q (.ref t) H'
def sOfP (K : PySem.W.Frag) (dl : DTP) : TS := fun D st H => ∃ g H0 Hs0 r f E, SOk K g H0 Hs0 r f st H ∧ NewP K g H0 Hs0 D.rt E ∧ dl g r f E
structure DSsP (X : Cx) (sts : List Stmt) (dl : DTP) : Prop where
  ps : PSs X sts (sOfP X.K dl)
theorem DSsP.mk' {sts : List Stmt} {t : TS} {dl : DTP} (p : PSs X sts t) (s : ∀ D st H g H0 Hs0 r f E, SOk X.K g H0 Hs0 r f st H → NewP X.K g H0 Hs0 D.rt E → dl g r f E → t D st H) : DSsP X sts dl :=
  ⟨⟨fun pins sh st H D I ⟨g, H0, Hs0, r, f, E, h1, h2, h3⟩ => p.run pins sh st H D I (s D st H g H0 Hs0 r f E h1 h2 h3)⟩⟩
end
end DL
namespace DL
open PySem PySem.Spec PyProof.Rows L2
section
variable {X : Cx} {K : PySem.W.Frag}
/-! xs.index(x), texts -/
def dIndex (o e : DT) : DT := fun g r f Q => o g r f fun x f1 => match x with
  | .lst xs => e g r f1 fun y f2 => match y with
    | .str z => ∃ ys : List Str, xs = ys.map D.str ∧ z ∈ ys ∧ Q (.int ((ys.findIdx fun a => decide (a = z) : Nat) : Int)) f2
    | _ => False
  | _ => False
theorem de_index {o e : Expr} {apos cpos : Pos} {d d2 : DT} (ho : DE X o d) (he : DE X e d2)
    (hbase : attributeBase o "index" X.env (eval o X.env) = eval o X.env := by rfl)
    (hfew : ((backTo cpos (starEach [e] X.env)).all (fun x => !x.1) && (backToKw cpos (keywordEach [] X.env)).all (fun x => x.1.isSome)
      && decide ([e].length + ([] : List Keyword).length + (if ([] : List Keyword).isEmpty then 0 else 1) < 30)) = true := by rfl)
    (hline : (apos.endLine == cpos.line) = true := by rfl) (hs : starEach [e] X.env = (false, eval e X.env) :: starEach [] X.env := by rfl) (hplain : (backTo cpos (starEach [] X.env)).any (·.1) = false := by rfl) :
    DE X (.Call (.Attribute o "index" apos) [e] [] cpos) (dIndex d d2) :=
  .mk' (pe_bm PySem.F.plainAttrs_list PySem.F.slot_list_index PySem.F.type_list_index mt_index ho.pe (pa_cons he.pe pa_nil hs) hbase hfew hline hs hplain) fun g ro f st H Hs Q Q' A hq hd => by
    refine ho.sn g ro f st H Hs _ _ A (fun x f1 vx H1 Hs1 s1 k1 r1 q1 => ?_) hd
    cases x <;> try exact q1.elim
    obtain ⟨a, vs, rfl, h1, h2⟩ := r1
    refine ⟨.inl ⟨rfl, vs, SqL.of (s1.sub _ _ h1)⟩, ?_⟩
    refine he.sn g ro f1 st H1 Hs1 _ _ (A.step s1 k1) (fun y f2 vy H2 Hs2 s2 k2 r2 q2 => ?_) q1
    cases y <;> try exact q2.elim
    next z =>
    obtain ⟨ys, rfl, hz, q⟩ := q2
    cases r2
    have e := h2.strs
    subst e
    have hlt : (ys.findIdx fun a => decide (a = z)) < ys.length := List.findIdx_lt_length_of_exists ⟨z, hz, decide_eq_true rfl⟩
    have hat : ys[ys.findIdx fun a => decide (a = z)] = z := of_decide_eq_true (List.findIdx_getElem (p := fun a => decide (a = z)) (w := hlt))
    refine ⟨a, ys.map V.str, .str z, _, .str z, rfl, rfl, SqL.of (s2.sub _ _ (s2.ext _ _ h1)), rfl, ?_, ?_, ?_, fun m z' hm hz' => ?_, hq (.int _) f2 (.int _) H2 Hs2 (s1.trans s2) k2 rfl q⟩
    · rw [List.all_map]
      exact List.all_eq_true.mpr fun _ _ => rfl
    · rw [List.getElem?_map, List.getElem?_eq_getElem hlt, hat]
      rfl
    · show (z == z) = true
      exact beq_self_eq_true z
    · have hml : m < ys.length := Nat.lt_trans hm hlt
      rw [List.getElem?_map, List.getElem?_eq_getElem hml] at hz'
      cases hz'
      have := List.not_of_lt_findIdx hm
      have hne : ys[m] ≠ z := of_decide_eq_false this
      show (ys[m] == z) = false
      exact beq_eq_false_iff_ne.mpr hne
end
end DL
namespace DL
open PySem PySem.Spec PyProof.Rows L2
/-! a list of lists of texts in the making -/
structure LLs (H0 : Hp) (D : Addr) (ps : List Addr) (rows : List (List Str)) (H2 : Hp) : Prop where
  d0 : H0 D = none
  len : rows.length = ps.length
  dl : H2 D = some (.lst (ps.map V.ref))
  p0 : ∀ p ∈ ps, H0 p = none ∧ p ≠ D
  at_ : ∀ (i : Nat) (r : List Str) (p : Addr), rows[i]? = some r → ps[i]? = some p → H2 p = some (.lst (r.map V.str))
  nd : ps.Nodup
/-- with the shared part beside it -/
structure LLi (g : Option Dk) (H0 Hs0 : Hp) (D : Addr) (ps : List Addr) (rows : List (List Str)) (f : Nat) (H Hs : Hp) : Prop where
  l : LLs H0 D ps rows H
  stp : Stp g H0 Hs0 H Hs
  dk : DkOk g H Hs f
  out : ∀ b, b = D ∨ b ∈ ps → Hs b = none ∧ ¬ Dk.has g b
open Classical in
noncomputable def del (Hs : Hp) (D : Addr) (ps : List Addr) : Hp := fun b => if b = D ∨ b ∈ ps then none else Hs b
section
variable {K : PySem.W.Frag} {g : Option Dk} {H0 Hs0 : Hp} {D : Addr} {ps : List Addr} {rows : List (List Str)} {f f' : Nat} {H Hs H' Hs' : Hp}
theorem shr_in {b : Addr} (h : b = D ∨ b ∈ ps) : shr H Hs D ps b = H b := if_pos h
theorem shr_out {b : Addr} (h : ¬ (b = D ∨ b ∈ ps)) : shr H Hs D ps b = Hs b := if_neg h
theorem del_in {b : Addr} (h : b = D ∨ b ∈ ps) : del Hs D ps b = none := if_pos h
theorem del_out {b : Addr} (h : ¬ (b = D ∨ b ∈ ps)) : del Hs D ps b = Hs b := if_neg h
theorem LLs.n0 (h : LLs H0 D ps rows H) {b : Addr} (hb : b = D ∨ b ∈ ps) : H0 b = none := hb.elim (fun e => e ▸ h.d0) fun e => (h.p0 b e).1
theorem LLi.sub (h : LLi g H0 Hs0 D ps rows f H Hs) : Same (shr H Hs D ps) H := fun b o e => by
  by_cases hb : b = D ∨ b ∈ ps
  · rw [shr_in hb] at e; exact e
  · rw [shr_out hb] at e; exact h.stp.sub b o e
theorem LLi.ext (h : LLi g H0 Hs0 D ps rows f H Hs) : Same Hs (shr H Hs D ps) := fun b o e => by
  have hb : ¬ (b = D ∨ b ∈ ps) := fun hb => by rw [(h.out b hb).1] at e; cases e
  rw [shr_out hb]; exact e
theorem LLi.sh (h : LLi g H0 Hs0 D ps rows f H Hs) : Stp g H0 Hs0 H (shr H Hs D ps) where
  sub := h.sub
  ext := h.stp.ext.trans h.ext
  keep := h.stp.keep
  there := h.stp.there
  new := fun b o e n => by
    have hb : ¬ (b = D ∨ b ∈ ps) := fun hb => by rw [h.l.n0 hb] at e; cases e
    rw [shr_out hb]; exact h.stp.new b o e n
/-- after an expression that saw it -/
theorem LLi.un (h : LLi g H0 Hs0 D ps rows f H Hs) (s0 : Same Hs0 H0) (s : Stp g H (shr H Hs D ps) H' Hs') (k : DkOk g H' Hs' f') : LLi g H0 Hs0 D ps rows f' H' (del Hs' D ps) ∧ Same Hs (del Hs' D ps) := by
  have st := h.sh.trans s
  have kp : ∀ b, b = D ∨ b ∈ ps → ∀ o, H b = some o → H' b = some o := fun b hb o e => s.keep b o e (h.out b hb).2
  refine ⟨⟨⟨h.l.d0, h.l.len, kp D (.inl rfl) _ h.l.dl, h.l.p0, fun i r p a b => kp p (.inr (List.mem_of_getElem? b)) _ (h.l.at_ i r p a b), h.l.nd⟩, ⟨fun b o e => ?_, fun b o e => ?_, st.keep, st.there, fun b o e n => ?_⟩, ?_, fun b hb => ⟨del_in hb, (h.out b hb).2⟩⟩, fun b o e => ?_⟩
  · by_cases hb : b = D ∨ b ∈ ps
    · rw [del_in hb] at e; cases e
    · rw [del_out hb] at e; exact st.sub b o e
  · have hb : ¬ (b = D ∨ b ∈ ps) := fun hb => by have := s0 b o e; rw [h.l.n0 hb] at this; cases this
    rw [del_out hb]; exact st.ext b o e
  · by_cases hb : b = D ∨ b ∈ ps
    · exact del_in hb
    · rw [del_out hb]; exact st.new b o e n
  · cases g with
    | none => trivial
    | some d =>
      obtain ⟨q0, q1, q2, q3, tb⟩ := k
      have nn : ∀ b, Hs' b = none → del Hs' D ps b = none := fun b e => by
        by_cases hb : b = D ∨ b ∈ ps
        · exact del_in hb
        · rw [del_out hb]; exact e
      refine ⟨q0, nn _ q1, nn _ q2, nn _ q3, tb.to (fun x hx u h1 h2 => ⟨h1, nn _ h2⟩) fun b u hb _ hq => ?_⟩
      obtain ⟨q, rfl⟩ := hq
      rw [del_out fun z => ?_]
      · exact hb
      · rcases z with rfl | z
        · have := kp b (.inl rfl) _ h.l.dl
          rw [s.sub b _ hb] at this; cases this
        · obtain ⟨i, hi, e2⟩ := List.getElem_of_mem z
          have hr : i < rows.length := by rw [h.l.len]; exact hi
          have := kp b (.inr z) _ (h.l.at_ i rows[i] b (List.getElem?_eq_getElem hr) (by rw [List.getElem?_eq_getElem hi, e2]))
          rw [s.sub b _ hb] at this; cases this
  · have hb : ¬ (b = D ∨ b ∈ ps) := fun hb => by rw [(h.out b hb).1] at e; cases e
    rw [del_out hb]
    exact s.ext b o (h.ext b o e)
theorem LLi.step (h : LLi g H0 Hs0 D ps rows f H Hs) (s : Stp g H Hs H' Hs') (k : DkOk g H' Hs' f') : LLi g H0 Hs0 D ps rows f' H' Hs' := by
  have kp : ∀ b, b = D ∨ b ∈ ps → ∀ o, H b = some o → H' b = some o := fun b hb o e => s.keep b o e (h.out b hb).2
  have ex : ∀ b, b = D ∨ b ∈ ps → ∃ o, H b = some o := fun b hb => by
    rcases hb with rfl | hb
    · exact ⟨_, h.l.dl⟩
    · obtain ⟨i, hi, e⟩ := List.getElem_of_mem hb
      have hr : i < rows.length := by rw [h.l.len]; exact hi
      exact ⟨_, h.l.at_ i rows[i] b (List.getElem?_eq_getElem hr) (by rw [List.getElem?_eq_getElem hi, e])⟩
  refine ⟨⟨h.l.d0, h.l.len, kp D (.inl rfl) _ h.l.dl, h.l.p0, fun i r p a b => kp p (.inr (List.mem_of_getElem? b)) _ (h.l.at_ i r p a b), h.l.nd⟩, h.stp.trans s, k, fun b hb => ?_⟩
  obtain ⟨o, e⟩ := ex b hb
  exact ⟨s.new b o e (h.out b hb).1, (h.out b hb).2⟩
theorem LLi.nodk (h : LLi g H0 Hs0 D ps rows f H Hs) {f0 : Nat} (k0 : DkOk g H0 Hs0 f0) {p : Addr} (hp : H p = none) : H0 p = none ∧ Hs p = none ∧ ¬ Dk.has g p ∧ p ≠ D ∧ p ∉ ps := by
  have n0 : H0 p = none := none_back h.stp hp
  refine ⟨n0, same_none h.stp.sub hp, k0.out n0, fun e => ?_, fun e => ?_⟩
  · subst e; rw [h.l.dl] at hp; cases hp
  · obtain ⟨i, hi, e2⟩ := List.getElem_of_mem e
    have hr : i < rows.length := by rw [h.l.len]; exact hi
    have := h.l.at_ i rows[i] p (List.getElem?_eq_getElem hr) (by rw [List.getElem?_eq_getElem hi, e2])
    rw [hp] at this; cases this
theorem LLi.start {f0 : Nat} (s0 : Same Hs0 H0) (k0 : DkOk g H0 Hs0 f0) {H Hs : Hp} (st : Stp g H0 Hs0 H Hs) (k : DkOk g H Hs f) {p D : Addr} {x : Str} (hp : H p = none) (hD : upd H p (.lst [V.str x]) D = none) :
    LLi g H0 Hs0 D [p] [[x]] f (upd (upd H p (.lst [V.str x])) D (.lst [V.ref p])) Hs := by
  have pD : p ≠ D := fun e => by subst e; rw [upd_same] at hD; cases hD
  have hD' : H D = none := by rwa [upd_ne (fun e => pD e.symm)] at hD
  have p0 := none_back st hp
  have d0 := none_back st hD'
  have h1 : (upd (upd H p (.lst [V.str x])) D (.lst [V.ref p])) p = some (.lst [V.str x]) := by rw [upd_ne pD, upd_same]
  refine ⟨⟨d0, rfl, upd_same, fun q hq => ?_, fun i r q a b => ?_, by simp⟩, (st.mut p0 (same_none st.sub hp)).mut d0 (same_none st.sub hD'), (k.mut (k0.out p0)).mut (k0.out d0), fun b hb => ?_⟩
  · rw [List.mem_singleton.mp hq]; exact ⟨p0, pD⟩
  · cases i with
    | zero => cases a; cases b; exact h1
    | succ i => simp at a
  · rcases hb with rfl | hb
    · exact ⟨same_none st.sub hD', k0.out d0⟩
    · rw [List.mem_singleton.mp hb]; exact ⟨same_none st.sub hp, k0.out p0⟩
theorem LLi.add {f0 : Nat} (k0 : DkOk g H0 Hs0 f0) (h : LLi g H0 Hs0 D ps rows f H Hs) {p : Addr} {x : Str} (hp : H p = none) :
    LLi g H0 Hs0 D (ps ++ [p]) (rows ++ [[x]]) f (upd (upd H p (.lst [V.str x])) D (.lst ((ps ++ [p]).map V.ref))) Hs := by
  obtain ⟨n0, ns, nk, pD, pp⟩ := h.nodk k0 hp
  have od := h.out D (.inl rfl)
  refine ⟨⟨h.l.d0, by rw [List.length_append, List.length_append, h.l.len]; rfl, upd_same, fun q hq => ?_, fun i r q a b => ?_, ?_⟩, (h.stp.mut n0 ns).mut h.l.d0 od.1, (h.dk.mut nk).mut od.2, fun b hb => ?_⟩
  · rcases List.mem_append.mp hq with e | e
    · exact h.l.p0 q e
    · rw [List.mem_singleton.mp e]; exact ⟨n0, pD⟩
  · have hqD : q ≠ D := by
      rcases List.mem_append.mp (List.mem_of_getElem? b) with e | e
      · exact (h.l.p0 q e).2
      · rw [List.mem_singleton.mp e]; exact pD
    rw [upd_ne hqD]
    by_cases hi : i < ps.length
    · rw [List.getElem?_append_left hi] at b
      rw [List.getElem?_append_left (by rw [h.l.len]; exact hi)] at a
      have hqp : q ≠ p := fun e => pp (e ▸ List.mem_of_getElem? b)
      rw [upd_ne hqp]
      exact h.l.at_ i r q a b
    · have hlen : i = ps.length := by
        have := (List.getElem?_eq_some_iff.mp b).1
        rw [List.length_append, List.length_singleton] at this
        omega
      rw [List.getElem?_append_right (by omega), hlen, Nat.sub_self] at b
      rw [List.getElem?_append_right (by rw [h.l.len]; omega), hlen, h.l.len, Nat.sub_self] at a
      cases a
      cases b
      rw [upd_same]; rfl
  · rw [List.nodup_append]
    exact ⟨h.l.nd, by simp, fun a ha b hb e => pp (by rw [List.mem_singleton.mp hb] at e; exact e ▸ ha)⟩
  · rcases hb with hb | hb
    · exact h.out b (.inl hb)
    · rcases List.mem_append.mp hb with e | e
      · exact h.out b (.inr e)
      · rw [List.mem_singleton.mp e]; exact ⟨ns, nk⟩
end
theorem nxt {g : Option Dk} {r : Sg} {f : Nat} {E : DEnds} (h : E.nx r f) : sNext g r f E := h
section
variable {K : PySem.W.Frag} {Hs : Hp}
theorem SlOk.nil : SlOk K Hs [] [] := ⟨rfl, fun i s d h => by simp at h⟩
theorem SlOk.sh {r : Sg} {st : L2.St} {d : D} {v : V} (hv : Rp K Hs d v) (h : SlOk K Hs r st) : SlOk K Hs (.sh d :: r) (some v :: st) :=
  ⟨by rw [List.length_cons, List.length_cons, h.len], fun i s e h1 h2 => by
    cases i with
    | zero => cases h1; cases h2; exact ⟨v, rfl, hv⟩
    | succ i => exact h.get i s e (by simpa using h1) h2⟩
theorem SlOk.no {r : Sg} {st : L2.St} {o : Option V} (h : SlOk K Hs r st) : SlOk K Hs (.no :: r) (o :: st) :=
  ⟨by rw [List.length_cons, List.length_cons, h.len], fun i s e h1 h2 => by
    cases i with
    | zero => cases h1; cases h2
    | succ i => exact h.get i s e (by simpa using h1) h2⟩
end
end DL
namespace DL
open PySem PySem.Spec PyProof.Rows L2
/-! the top by one run: what is looked at, as truth values over a part of the heap -/
abbrev FrB : Type := PySem.W.Frag → Bool
abbrev AlY : Type := He.AlD × List (Option (List (Option (Str × Int))))
def obsY (ex : List FrB) (fn : List He5.DefA) (ts : List He.Tab) (K : PySem.W.Frag) : AlY :=
  (((ex.all fun f => f K) && fn.all fun d => d.ok K, fn.map fun d => He5.fnA K (d.at_ K)), ts.map fun t => He.dicW K (t.1 K))
def valY (fn : List He5.DefA) (ts : List He.Tab) (w : World) : AlY := ((true, fn.map He5.DefA.val), ts.map fun t => some (He.keysIn w.params t.2))
def SaysY (ex : List FrB) (fn : List He5.DefA) (ts : List He.Tab) (w : World) (K : PySem.W.Frag) : Prop := obsY ex fn ts K = valY fn ts w
/-! what the main names reach in n steps, each address once; the seen ones are the bits of a number -/
noncomputable def putY {β : Type} (l : List Addr) : Nat → List Addr → (Nat → List Addr → β) → β :=
  List.rec (motive := fun _ => Nat → List Addr → (Nat → List Addr → β) → β) (fun m acc k => k m acc)
    (fun a _ ih m acc k => HandSHeadRun.frNat a fun a => Bool.rec (motive := fun _ => β) (HandSHeadRun.frNat (Nat.lor m (Nat.shiftLeft 1 a)) fun m => ih m (a :: acc) k) (ih m acc k) (Nat.beq (Nat.land (Nat.shiftRight m a) 1) 1)) l
noncomputable def growY {β : Type} (g : Addr → Option Obj) (l : List Addr) : Nat → List Addr → (Nat → List Addr → β) → β :=
  List.rec (motive := fun _ => Nat → List Addr → (Nat → List Addr → β) → β) (fun m acc k => k m acc)
    (fun a _ ih m acc k => Option.rec (motive := fun _ => β) (ih m acc k) (fun o => putY (He.refsD o) m acc fun m acc => ih m acc k) (g a)) l
noncomputable def asY (g : Addr → Option Obj) (n : Nat) : List Addr → Nat → List Addr :=
  Nat.rec (motive := fun _ => List Addr → Nat → List Addr) (fun fr _ => fr) (fun _ ih fr m => fr ++ growY g fr m [] fun m new => ih new m) n
noncomputable def obsYG (n : Nat) (ex : List FrB) (fn : List He5.DefA) (ts : List He.Tab) (g : Addr → Option Obj) : AlY := obsY ex fn ts (He.frG g (asY g n [mainGlobals] 0 ++ [cStatics]))
noncomputable def hookY (n : Nat) (ex : List FrB) (fn : List He5.DefA) (ts : List He.Tab) : PySem.W.Hook where
  α := AlY
  obs := fun s => obsYG n ex fn ts s.heap.get?
  val := fun w => valY fn ts w
  says := fun w h => ∃ K : PySem.W.Frag, K.In h ∧ SaysY ex fn ts w K
  of := fun _ _ e => ⟨_, He.frG_in, e⟩
  keeps := fun _ _ _ ⟨K, hK, c⟩ k => ⟨K, PySem.W.Frag.In.keeps hK k, c⟩
theorem obsYG_eq {n : Nat} {ex : List FrB} {fn : List He5.DefA} {ts : List He.Tab} {g : Addr → Option Obj} {s : Shared} (h : ∀ a, g a = s.heap.get? a) : obsYG n ex fn ts g = (hookY n ex fn ts).obs s := by
  have e : g = s.heap.get? := funext h
  rw [e] <;> rfl
section
variable {ex : List FrB} {fn : List He5.DefA} {ts : List He.Tab} {w : World} {K : PySem.W.Frag}
theorem SaysY.fact (c : SaysY ex fn ts w K) (i : Nat) {f : FrB} (h : ex[i]? = some f := by rfl) : f K = true := by
  have c1 : ((ex.all fun f => f K) && fn.all fun d => d.ok K) = true := congrArg (fun z : AlY => z.1.1) c
  rw [Bool.and_eq_true] at c1
  exact List.all_eq_true.mp c1.1 f (List.mem_of_getElem? h)
theorem SaysY.def_ (c : SaysY ex fn ts w K) (i : Nat) {d : He5.DefA} (h : fn[i]? = some d := by rfl) : ∃ fd, FunD K d.name d.qual d.params d.body d.scope (d.dvs K) (d.kws K) (d.at_ K) fd := by
  have c1 : ((ex.all fun f => f K) && fn.all fun d => d.ok K) = true := congrArg (fun z : AlY => z.1.1) c
  rw [Bool.and_eq_true] at c1
  have e : fn.map (fun d => He5.fnA K (d.at_ K)) = fn.map He5.DefA.val := congrArg (fun z : AlY => z.1.2) c
  have e2 : (fn.map fun d => He5.fnA K (d.at_ K))[i]? = (fn.map He5.DefA.val)[i]? := by rw [e]
  rw [List.getElem?_map, List.getElem?_map, h] at e2
  exact He5.DefA.funD (Option.some.inj e2) (List.all_eq_true.mp c1.2 d (List.mem_of_getElem? h))
/-! what stands in the records -/
theorem raw_fn {x q : Str} {st : Stmt} {f : Addr} {fd : FuncData} {kws : List (Str × V)} (F : FunD K x q (defArgs st) (defBody st) (defScope st) [] kws f fd) :
    ∃ (oc : Value) (od : Option Addr) (kV dc pm : Value) (an : Option Addr) (cd ct : Value) (sl : Array (Option Value)), K.lookup f = some ⟨oc, od, .func (PySem.W.fnOf x q (defArgs st) (defBody st) (defScope st) .none kV dc pm an cd ct), sl⟩ ∧ PySem.W.codeIn K cd q = true ∧ PySem.W.keepIn K (.ref f) = true := by
  obtain ⟨oc, od, dV, kV, doc, pm, an, cdv, ct, osl, e, l, c, hd, _⟩ := F.ex
  rcases hd with ⟨_, e2⟩ | ⟨e2, _⟩
  · subst e2
    subst e
    exact ⟨oc, od, kV, doc, pm, an, cdv, ct, osl, l, c, F.kp⟩
  · exact absurd rfl e2
/-- the address, and the rest, of a record that wraps -/
def rcA (K : PySem.W.Frag) (p : Addr) (T : String) : Addr := match PySem.W.recIn K p T with
  | some (.ref a :: _) => a
  | _ => 0
def rcR (K : PySem.W.Frag) (p : Addr) (T : String) : List Value := match PySem.W.recIn K p T with
  | some (_ :: r) => r
  | _ => []
def tkOf (K : PySem.W.Frag) (x : Str) : Tok := match PySem.W.nsIn K mainGlobals x with
  | some (some (.int _ t)) => t
  | some (some (.str _ t)) => t
  | _ => default
/-- a class of errors with an __init__ of its own -/
def oexB (K : PySem.W.Frag) (C : Addr) : Bool := match K.lookup C with
  | some ⟨.type c, _, .cls cd, sl⟩ => decide (c = "type") && (cd.hasDict && (!cd.hasDel && (match cd.mro, sl.toList with
    | .ref C' :: bm, [_, _, _, _, some (.builtin n), _] => decide (C' = C) && (decide (n = "ValueError.__new__") && PySem.HandSPX.refsVE bm)
    | _, _ => false)))
  | _ => false
theorem oex_of {C : Addr} (h : oexB K C = true) : ∃ nm q N bs bm sn sub ab col dd k0 k1 k2 k3 k5, K.lookup C = some (excClassObj nm q C N bs bm true sn sub ab col dd k0 k1 k2 k3 k5 "ValueError.__new__") ∧ PySem.HandSPX.refsVE bm = true := by
  unfold oexB at h
  split at h
  · next c dd cd sl ho =>
    rw [Bool.and_eq_true, Bool.and_eq_true, Bool.and_eq_true, decide_eq_true_iff, Bool.not_eq_true'] at h
    obtain ⟨rfl, h2, h3, h⟩ := h
    split at h
    · next C' bm k0 k1 k2 k3 n k5 hm hs =>
      rw [Bool.and_eq_true, Bool.and_eq_true, decide_eq_true_iff, decide_eq_true_iff] at h
      obtain ⟨rfl, rfl, h4⟩ := h
      obtain ⟨nm, bs, mro, ns, qn, hd, sn, sub, ab, col, del⟩ := cd
      dsimp only at hm h2 h3
      subst hm h2 h3
      obtain ⟨l⟩ := sl
      simp only at hs
      subst hs
      exact ⟨nm, qn, ns, bs, bm, sn, sub, ab, col, dd, k0, k1, k2, k3, k5, ho, h4⟩
    · cases h
  · cases h
/-! dicts of the text -/
end
/-- the law's end, with what was looked at -/
theorem walk_ofY {l : PySem.W.OpenLaw} {k : Nat} {q : Program} {loose : List Str} {XP : (Str → Option Value) → Heap → Prop} {ex : List FrB} {fn : List He5.DefA} {ts : List He.Tab} {d : DefRec} {x : Str}
    (hn : l.most = some 63) (hdf : d.params.defaults = []) (hr : Room k callerA)
    (F : ∀ (w : World) (mg : Str → Option Value) (fa : Addr) (h : Heap) (K : PySem.W.Frag), K.In h → SaysY ex fn ts w K → h.Ns mainGlobals mg → mg d.name = some (.ref fa) →
      ∃ fd : FuncData, (∀ (s : Shared) (u : Value), BindsTo s fd ⟨[u], []⟩ [(x, u)]) ∧ ∀ base : Heap, K.In base → base.Ns mainGlobals mg → FnOk l.prog w K mg base CX0 k fa fd [x] (spLaw K)) :
    PySem.W.WalkO q loose XP (fun w h => ∃ K : PySem.W.Frag, K.In h ∧ SaysY ex fn ts w K) l.row.toRowW d [] (fun f vs => PySem.call f vs) :=
  L2.walk_ofE (n := 63) (k := k) (CX := CX0) hn (by decide) hdf hr (fun w mg fa h ⟨K, KX, c⟩ G hm => by
    obtain ⟨fd, hb, hF⟩ := F w mg fa h K KX c G hm
    exact ⟨K, fd, spLaw K, KX, hb, fun H a ns hl _ hS => ⟨a, ns, rfl, hS, hl, fun _ => rfl⟩, hF⟩) (fun _ _ _ _ z => z)
end DL
namespace PySem.SeqAt
open AutoSeq1 (wpAny_loadPart')
open MeetsSeq MeetsSeq2 MeetsSeq3 SeqRoads2
end PySem.SeqAt
namespace DL
open PySem PySem.Spec PyProof.Rows L2
/-! any plain value in a tuple or a list of pairs of texts -/
section
variable {X : Cx} {K : PySem.W.Frag} {pins : List (Addr × Obj)} {st : L2.St} {H Hs : Hp} {s : Shared}
/-- the value is the pair u -/
def IsU (s : Shared) (y : Value) (u : Us) : Prop := ∃ (p : Addr) (ta tb : Tok), y = .ref p ∧ s.heap.IsTuple p #[.str u.1 ta, .str u.2 tb]
theorem isTup_fun {h : Heap} {p : Addr} {a b : Array Value} (h1 : h.IsTuple p a) (h2 : h.IsTuple p b) : a = b := by
  obtain ⟨o, ho, _, n, hd⟩ := h1
  obtain ⟨o2, ho2, _, n2, hd2⟩ := h2
  rw [ho] at ho2
  cases ho2
  rw [hd] at hd2
  cases hd2
  rfl
theorem IsU.uniq {y : Value} {u w : Us} (h1 : IsU s y u) (h2 : IsU s y w) : u = w := by
  obtain ⟨p, ta, tb, rfl, t1⟩ := h1
  obtain ⟨p2, ta2, tb2, e, t2⟩ := h2
  cases e
  have e := isTup_fun t1 t2
  have e := congrArg Array.toList e
  simp only [List.cons.injEq, Value.str.injEq] at e
  exact Prod.ext e.1.1 e.2.1.1
end
end DL
namespace DL
open PySem PySem.Spec PyProof.Rows L2
/-! list(zip(a, b)) of two lists -/
section
variable {prog : Program} {w : World} {A : Around} {E : Value → Shared → Prop} {s : Shared} {R : Result → Shared → Prop} {z ti tz i1 i2 l1 l2 S : Addr} {xs ys : Array Value} {n : Nat}
def ZSt (z ti tz i1 i2 l1 l2 : Addr) (xs ys : Array Value) (h : Heap) (i : Nat) : Prop :=
  (∃ v b, ZpV h z ti tz v b ∧ Mrk v) ∧ IsPair h ti (.ref i1) (.ref i2) ∧ (∃ x y, IsPair h tz x y) ∧ h.IsListIter i1 l1 i ∧ h.IsListIter i2 l2 i ∧ h.IsList l1 xs ∧ h.IsList l2 ys
/-- the pairs that were given out -/
def ZAcc (S : Addr) (xs ys : Array Value) (h : Heap) (acc : Array Value) (i : Nat) : Prop :=
  ∃ Ts : List Addr, acc = (Ts.map Value.ref).toArray ∧ Ts.length = i ∧ Ts.Nodup ∧ ∀ (j : Nat) (T : Addr), Ts[j]? = some T → S < T ∧ ∃ x y : Value, xs[j]? = some x ∧ ys[j]? = some y ∧ IsPair h T x y
theorem isList_keep {h h' : Heap} {a : Addr} {its : Array Value} (hl : h.IsList a its) (k : ∀ o, h.get? a = some o → h'.get? a = some o) : h'.IsList a its := by
  obtain ⟨o, ho, r⟩ := hl
  exact ⟨o, k o ho, r⟩
theorem ZSt.keep {h h' : Heap} {i : Nat} (st : ZSt z ti tz i1 i2 l1 l2 xs ys h i) (k : ∀ b ∈ [z, ti, tz, i1, i2, l1, l2], ∀ o, h.get? b = some o → h'.get? b = some o) : ZSt z ti tz i1 i2 l1 l2 xs ys h' i := by
  obtain ⟨⟨v, b, hz, hm⟩, hti, ⟨x, y, htz⟩, h1, h2, hl1, hl2⟩ := st
  exact ⟨⟨v, b, k z (by simp) _ hz, hm⟩, k ti (by simp) _ hti, ⟨x, y, k tz (by simp) _ htz⟩, h1.at fun o q => k i1 (by simp) o q, h2.at fun o q => k i2 (by simp) o q, isList_keep hl1 fun o q => k l1 (by simp) o q, isList_keep hl2 fun o q => k l2 (by simp) o q⟩
theorem ZAcc.keep {h h' : Heap} {i : Nat} {acc : Array Value} (st : ZAcc S xs ys h acc i) (k : ∀ b, S < b → ∀ o, h.get? b = some o → h'.get? b = some o) : ZAcc S xs ys h' acc i := by
  obtain ⟨Ts, h1, h2, h3, h4⟩ := st
  refine ⟨Ts, h1, h2, h3, fun j T hj => ?_⟩
  obtain ⟨q1, x, y, q2, q3, q4⟩ := h4 j T hj
  exact ⟨q1, x, y, q2, q3, k T q1 _ q4⟩
theorem ZAcc.size {h : Heap} {i : Nat} {acc : Array Value} (st : ZAcc S xs ys h acc i) : acc.size = i := by
  obtain ⟨Ts, h1, h2, _⟩ := st
  rw [h1, List.size_toArray, List.length_map, h2]
end
end DL
namespace DL
open PySem PySem.Spec PyProof.Rows L2
section
variable {X : Cx} {K : PySem.W.Frag} {pins : List (Addr × Obj)} {st : L2.St} {H H' : Hp} {s : Shared} {h h' : Heap} {l : Addr} {Ts : List Addr} {ps : List (V × V)}
theorem vals_refs : ∀ Ts : List Addr, Vals (Ts.map V.ref) (Ts.map Value.ref)
  | [] => .nil
  | T :: Ts => .cons rfl (vals_refs Ts)
end
end DL
namespace DL
open PySem PySem.Spec PyProof.Rows L2
/-! xs.insert(e, y), xs owned, its items any -/
section
variable {X : Cx} {K : PySem.W.Frag} {W : WX}
def rIns : V → List V → Hp → VK → Prop := fun x vs H Q => ∃ (l : Addr) (xs : List V) (i : Int) (y : V), x = .ref l ∧ vs = [.int i, y] ∧ H l = some (.lst xs) ∧ xs.length < sizeLine ∧ 0 ≤ i ∧ i < 2 ^ 63 ∧
    Q .non (upd H l (.lst (xs.take i.toNat ++ [y] ++ xs.drop i.toNat)))
def sIns (i : Nat) (de dv : DT) : DTS := fun g r f E => ∃ xs, r[i]? = some (.ow xs) ∧ de g r f fun d f' => dv g (hide r) f' fun y f2 => match d with
  | .int k => 0 ≤ k ∧ k < 100000 ∧ xs.length ≤ lim ∧ E.nx (r.set i (.ow (xs.take k.toNat ++ [y] ++ xs.drop k.toNat))) f2
  | _ => False
theorem snd_ins {i : Nat} {te tv : TE} {de dv : DT} (h : Snd K te de) (hv : Snd K tv dv) : SndS K W (tDrop (tBM K "list" rIns (tVar i) (tCons te (tCons tv tNil)))) (sIns i de dv) := fun g H0 Hs0 r f st H D E s e hd => by
  obtain ⟨Hs, s⟩ := s
  obtain ⟨xs, hi, hd⟩ := hd
  obtain ⟨a, ha, n1, n0, vs, hvs, hr⟩ := s.ow i _ hi rfl
  refine ⟨.ref a, ha, .inl ⟨rfl, vs, SqL.of hvs⟩, ?_⟩
  refine h g r f st H _ _ _ s.at (fun d f' v H' Hs' t' k' hr' q => ?_) hd
  have s' := s.after t' k'
  refine hv g (hide r) f' st H' _ _ _ s'.atHid (fun y f2 v2 H2 Hs2 t2 k2 hr2 q2 => ?_) q
  have s2 := s'.afterHid t2 k2
  cases d <;> try exact q2.elim
  cases hr'
  obtain ⟨k0, k1, hxl, q2⟩ := q2
  obtain ⟨a', ha', n1', n0', vs', hv', hr3⟩ := s2.ow i _ hi rfl
  rw [ha] at ha'
  cases ha'
  rename_i k
  exact ⟨a, vs', k, v2, rfl, rfl, hv', hr3.lt hxl, k0, Int.lt_trans k1 (by decide), e.nx _ f2 st _ ⟨_, s2.mutOwn (u := .ow (xs.take k.toNat ++ [y] ++ xs.drop k.toNat)) hi rfl ha rfl ⟨vs'.take k.toNat ++ [v2] ++ vs'.drop k.toNat, upd_same, ((hr3.take k.toNat).append (RpA.one hr2)).append (hr3.drop k.toNat)⟩⟩ q2⟩
theorem ds_ins {i : Nat} {x : Str} {e e2 : Expr} {px apos cpos pos : Pos} {d dv : DT} (h : DE X e d) (h2 : DE X e2 dv) (hN : X.N[i]? = some x := by rfl) (hv : Vis X.env.scope x := by first | exact Or.inl rfl | exact Or.inr (Or.inl rfl) | exact Or.inr (Or.inr rfl)) (hd : (x == ("__debug__" : Str)) = false := by decide)
    (hcd : (x == ("__classdict__" : Str)) = false := by decide) (hP : ∀ t : TE, ∀ t2 : TA, PE X (.Name x px) (tVar i) → PA X [e, e2] (tCons t t2) → PE X (.Call (.Attribute (.Name x px) "insert" apos) [e, e2] [] cpos) (tBM X.K "list" rIns (tVar i) (tCons t t2)) := by
      exact fun t t2 a b => pe_bm PySem.F.plainAttrs_list PySem.F.slot_list_insert PySem.F.type_list_insert mt_insert a b)
    (hs : swapsWith (.Call (.Attribute (.Name x px) "insert" apos) [e, e2] [] cpos) none pos.line X.env = pure false := by rfl) (hst : starEach [e, e2] X.env = [(false, eval e X.env), (false, eval e2 X.env)] := by rfl) (hst2 : starEach [e2] X.env = [(false, eval e2 X.env)] := by rfl) :
    DS X (.Expr (.Call (.Attribute (.Name x px) "insert" apos) [e, e2] [] cpos) pos) (sIns i d dv) :=
  DS.mk' (ps_expr (hP _ _ (pe_var hN hv hd hcd) (pa_cons h.pe (pa_cons h2.pe pa_nil hst2) (by rw [hst, hst2]))) hs) (snd_ins h.sn h2.sn)
end
end DL
namespace DL
open PySem PySem.Spec PyProof.Rows L2
/-! min(e, key=lambda x: (len(x), x), default=None) over plain data -/
theorem TbOk.neL {k : Dk} {H Hs : Hp} {x a : Addr} {l : List V} (t : TbOk k H Hs) (hx : x ∈ k.t.map (·.1)) (h : H a = some (.lst l)) : x ≠ a := fun e => by
  obtain ⟨p, hp, rfl⟩ := List.mem_map.mp hx
  obtain ⟨_, ps, h1, _⟩ := t.at_ p hp
  rw [e, h] at h1
  cases h1
end DL
namespace DL
open PySem PySem.Spec PyProof.Rows L2
/-! tuple(zip(a, b)) of two tuples -/
section
variable {prog : Program} {w : World} {A : Around} {E : Value → Shared → Prop} {s : Shared} {R : Result → Shared → Prop} {z ti tz i1 i2 l1 l2 S : Addr} {xs ys : Array Value} {n : Nat}
theorem isTup_keep {h h' : Heap} {a : Addr} {its : Array Value} (hl : h.IsTuple a its) (k : ∀ o, h.get? a = some o → h'.get? a = some o) : h'.IsTuple a its := by
  obtain ⟨o, ho, r⟩ := hl
  exact ⟨o, k o ho, r⟩
def ZStT (z ti tz i1 i2 l1 l2 : Addr) (xs ys : Array Value) (h : Heap) (i : Nat) : Prop :=
  (∃ v b, ZpV h z ti tz v b ∧ Mrk v) ∧ IsPair h ti (.ref i1) (.ref i2) ∧ (∃ x y, IsPair h tz x y) ∧ h.IsTupleIter i1 l1 i ∧ h.IsTupleIter i2 l2 i ∧ h.IsTuple l1 xs ∧ h.IsTuple l2 ys
theorem ZStT.keep {h h' : Heap} {i : Nat} (st : ZStT z ti tz i1 i2 l1 l2 xs ys h i) (k : ∀ b ∈ [z, ti, tz, i1, i2, l1, l2], ∀ o, h.get? b = some o → h'.get? b = some o) : ZStT z ti tz i1 i2 l1 l2 xs ys h' i := by
  obtain ⟨⟨v, b, hz, hm⟩, hti, ⟨x, y, htz⟩, h1, h2, hl1, hl2⟩ := st
  exact ⟨⟨v, b, k z (by simp) _ hz, hm⟩, k ti (by simp) _ hti, ⟨x, y, k tz (by simp) _ htz⟩, h1.at fun o q => k i1 (by simp) o q, h2.at fun o q => k i2 (by simp) o q, isTup_keep hl1 fun o q => k l1 (by simp) o q, isTup_keep hl2 fun o q => k l2 (by simp) o q⟩
end
end DL
namespace DL
open PySem PySem.Spec PyProof.Rows L2
/-! tuple(zip(a, b)) of two lists -/
section
variable {X : Cx} {K : PySem.W.Frag} {W : WX}
/-! for .. in range(a, b, -1) -/
/-! a, b = {k: v}, e, a cell among them: the first owns -/
/-! sorted(set(e)) is a new list -/
def dSortZL (d : DT) : DTA := fun g r f Q => d g r f fun x f1 => ∃ xs : List Str, (x = .lst (xs.map D.str) ∨ x = .tup (xs.map D.str)) ∧ xs.length ≤ 4000 ∧ (∀ s ∈ xs, asc s) ∧ Q ((sortS (ded xs)).map D.str) f1
theorem dl_sortZ {k : Nat} {a : Expr} {d : DT} {p p2 q pos : Pos} (hr : Room k X.A) (hm : X.mg "sorted" = none) (hm2 : X.mg "set" = none) (ha : DE X a d) (hg : Gl X "sorted" := by rfl) (hg2 : Gl X "set" := by rfl) (hc : X.calm = true := by rfl)
    (na : starEach [a] X.env = (false, eval a X.env) :: starEach [] X.env := by rfl) : DL' X (.Call (.Name "sorted" p) [.Call (.Name "set" p2) [a] [] q] [] pos) (dSortZL d) :=
  .mk' (pe_sortZ hg hm hg2 hm2 ha.pe hc hr.units na) fun g r f st H Hs Q Q' A hq hd => ha.sn g r f st H Hs _ _ A (fun x f1 v H1 Hs1 s1 k1 r1 ⟨xs, e, hl, hasc, q1⟩ => by
    obtain ⟨l, rfl, hs⟩ := rp_seqZ r1 e
    refine ⟨l, xs, rfl, sqZ_mono s1.sub hs, hl, hasc, fun p hp => ?_⟩
    have al : Stp none H1 Hs1 (upd H1 p (.lst ((sortS (ded xs)).map V.str))) Hs1 := Stp.lay s1.sub hp
    exact hq _ f1 p _ _ _ (s1.trans al.gen) (k1.stp al) (s1.none0 hp) (same_none s1.sub hp) upd_same (RpA.ofStrs _) q1) hd
end
end DL
namespace DL
open PySem PySem.Spec PyProof.Rows L2
/-! ### a comprehension that walks a shared dict and reads it: the dict is locked meanwhile -/
mutual
def D.noM : D → Bool
  | .dct _ _ => false
  | .dtt _ _ => false
  | .tup xs => noMA xs
  | .lst xs => noMA xs
  | .obj _ _ xs => noMA xs
  | .exn _ _ xs => noMA xs
  | .ftp _ => false
  | _ => true
def noMA : List D → Bool
  | [] => true
  | x :: xs => x.noM && noMA xs
end
/-- no dict, no locked thing -/
structure PlO (o : HO) : Prop where
  k : ∀ kvs, o ≠ .dK kvs
  t : ∀ kvs, o ≠ .dT kvs
  f : ∀ od u, o ≠ .frz od u
section
variable {X : Cx} {K : PySem.W.Frag} {W : WX}
mutual
theorem Rp.noM {H H' : Hp} (e : ∀ a o, H a = some o → PlO o → H' a = some o) : ∀ (d : D) (v : V), d.noM = true → Rp K H d v → Rp K H' d v
  | .none, _, _, h => h
  | .bool _, _, _, h => h
  | .int _, _, _, h => h
  | .str _, _, _, h => h
  | .tup ds, _, n, ⟨a, vs, h1, h2, h3⟩ => ⟨a, vs, h1, e _ _ h2 ⟨(fun _ z => nomatch z), (fun _ z => nomatch z), (fun _ _ z => nomatch z)⟩, RpA.noM e ds vs n h3⟩
  | .lst ds, _, n, ⟨a, vs, h1, h2, h3⟩ => ⟨a, vs, h1, e _ _ h2 ⟨(fun _ z => nomatch z), (fun _ z => nomatch z), (fun _ _ z => nomatch z)⟩, RpA.noM e ds vs n h3⟩
  | .dct _ _, _, n, _ => nomatch n
  | .dtt _ _, _, n, _ => nomatch n
  | .ktup _, _, _, h => h
  | .ftp _, _, n, _ => nomatch n
  | .obj c ns ds, _, n, ⟨C, a, dx, vs, h0, h1, h2, h3, h4, h5⟩ => ⟨C, a, dx, vs, h0, h1, e _ _ h2 ⟨(fun _ z => nomatch z), (fun _ z => nomatch z), (fun _ _ z => nomatch z)⟩, e _ _ h3 ⟨(fun _ z => nomatch z), (fun _ z => nomatch z), (fun _ _ z => nomatch z)⟩, h4, RpA.noM e ds vs n h5⟩
  | .exn c ns ds, _, n, ⟨C, a, dx, vs, h0, h1, h2, h3, h4, h5⟩ => ⟨C, a, dx, vs, h0, h1, e _ _ h2 ⟨(fun _ z => nomatch z), (fun _ z => nomatch z), (fun _ _ z => nomatch z)⟩, e _ _ h3 ⟨(fun _ z => nomatch z), (fun _ z => nomatch z), (fun _ _ z => nomatch z)⟩, h4, RpA.noM e ds vs n h5⟩
  | .any _, _, _, h => h
theorem RpA.noM {H H' : Hp} (e : ∀ a o, H a = some o → PlO o → H' a = some o) : ∀ (ds : List D) (vs : List V), noMA ds = true → RpA K H ds vs → RpA K H' ds vs
  | [], _, _, h => h
  | d :: ds, _, n, ⟨v, r, h1, h2, h3⟩ => ⟨v, r, h1, Rp.noM e d v (Bool.and_eq_true_iff.mp n).1 h2, RpA.noM e ds r (Bool.and_eq_true_iff.mp n).2 h3⟩
end
theorem DkOk.inHs {g : Option Dk} {H Hs : Hp} {f : Nat} {a : Addr} {o : HO} (h : DkOk g H Hs f) (e : Hs a = some o) : ¬ Dk.has g a := by
  cases g with
  | none => exact id
  | some k =>
    obtain ⟨_, h1, h2, h3, tb⟩ := h
    rintro (z | z | z | z)
    · rw [z, h1] at e; cases e
    · rw [z, h2] at e; cases e
    · rw [z, h3] at e; cases e
    · obtain ⟨x, hx, rfl⟩ := List.mem_map.mp z
      rw [(tb.at_ x hx).1] at e; cases e
theorem DkOk.swap {g : Option Dk} {H Hs : Hp} {f : Nat} {a : Addr} {o o' : HO} (h : DkOk g H Hs f) (e : Hs a = some o) (hc : ∀ b q, o ≠ LamX.CodeO b q) : DkOk g (upd H a o') (upd Hs a o') f := by
  have n := h.inHs e
  have h := h.mut (o := o') n
  cases g with
  | none => trivial
  | some k =>
    obtain ⟨h0, h1, h2, h3, tb⟩ := h
    refine ⟨h0, ?_, ?_, ?_, tb.to (fun x hx u h1 h2 => ⟨h1, ?_⟩) fun b u hb _ hq => ?_⟩
    · rw [upd_ne fun e => n (.inl e.symm)]; exact h1
    · rw [upd_ne fun e => n (.inr (.inl e.symm))]; exact h2
    · rw [upd_ne fun e => n (.inr (.inr (.inl e.symm)))]; exact h3
    · rw [upd_ne fun z => n (.inr (.inr (.inr (by rw [← z]; exact hx))))]; exact h2
    · have : b ≠ a := fun z => by
        rw [z, e] at hb
        cases hb
        obtain ⟨q, rfl⟩ := hq
        exact hc _ _ rfl
      rw [upd_ne this]; exact hb
theorem same_lk {H Hs : Hp} {a : Addr} {o : HO} (s : Same Hs H) : Same (upd Hs a o) (upd H a o) := fun b u e => by
  by_cases hb : b = a
  · rw [hb, upd_same] at e ⊢; exact e
  · rw [upd_ne hb] at e ⊢; exact s b u e
theorem Stp.unlock {g : Option Dk} {H Hs H' Hs' : Hp} {a : Addr} {o u : HO} (p : Stp g (upd H a o) (upd Hs a o) H' Hs') (s : Same Hs H) (e : Hs a = some u) : Stp g H Hs (upd H' a u) (upd Hs' a u) where
  sub := same_lk p.sub
  ext := fun b x h => by
    by_cases hb : b = a
    · rw [hb] at h ⊢; rw [upd_same, ← h, e]
    · rw [upd_ne hb]; exact p.ext b x (by rw [upd_ne hb]; exact h)
  keep := fun b x h n => by
    by_cases hb : b = a
    · rw [hb] at h ⊢; rw [upd_same, ← h, s a u e]
    · rw [upd_ne hb]; exact p.keep b x (by rw [upd_ne hb]; exact h) n
  there := fun b x h => by
    by_cases hb : b = a
    · rw [hb]; exact ⟨u, upd_same⟩
    · obtain ⟨y, hy⟩ := p.there b x (by rw [upd_ne hb]; exact h)
      exact ⟨y, by rw [upd_ne hb]; exact hy⟩
  new := fun b x h n => by
    have hb : b ≠ a := fun z => by rw [z, e] at n; cases n
    rw [upd_ne hb]
    exact p.new b x (by rw [upd_ne hb]; exact h) (by rw [upd_ne hb]; exact n)
/-- what the slots tell while the dict at a is locked -/
def lkS (s : Sl) : Sl := match s.d with
  | some d => if d.noM then .sh d else .no
  | none => .no
def lkR (i : Nat) (a : Addr) (r : Sg) : Sg := (r.map lkS).set i (.sh (.any (.ref a)))
theorem At.lock {g : Option Dk} {r : Sg} {f : Nat} {st : L2.St} {H Hs : Hp} {i : Nat} {a : Addr} {o u : HO} (A : At K g r f st H Hs) (e : Hs a = some u) (hu : ¬ PlO u) (hc : ∀ b q, u ≠ LamX.CodeO b q) (hi : st[i]? = some (some (.ref a))) : At K g (lkR i a r) f st (upd H a o) (upd Hs a o) := by
  have sl : SlOk K (upd Hs a o) (r.map lkS) st := ⟨by rw [List.length_map]; exact A.sl.len, fun j s d h1 h2 => by
    rw [List.getElem?_map] at h1
    cases er : r[j]? with
    | none => rw [er] at h1; cases h1
    | some s0 =>
      rw [er] at h1
      cases h1
      unfold lkS at h2
      cases ed : s0.d with
      | none => rw [ed] at h2; cases h2
      | some d0 =>
        rw [ed] at h2
        cases en : d0.noM with
        | false => simp only [en] at h2; cases h2
        | true =>
          simp only [en] at h2
          cases h2
          obtain ⟨v, h3, h4⟩ := A.sl.get j s0 d er ed
          refine ⟨v, h3, Rp.noM (fun b x hb px => ?_) d v en h4⟩
          rw [upd_ne fun z => by rw [z, e] at hb; cases hb; exact hu px]
          exact hb⟩
  refine ⟨same_lk A.sub, A.dk.swap e hc, ?_⟩
  have := sl.set i (d := .any (.ref a)) (v := .ref a) rfl
  have es : st.set i (some (.ref a)) = st := by
    obtain ⟨h1, h2⟩ := List.getElem?_eq_some_iff.mp hi
    rw [← h2, List.set_getElem_self]
  rw [es] at this
  exact this
/-- the locked dict at a, the key's tuple at q -/
structure LkI where
  a : Addr
  q : Addr
  ks : List (List Key)
  xs : List D
  p : Str × Str
def CLk (K : PySem.W.Frag) (κ : LkI) (g : Option Dk) (H Hs : Hp) : Prop := (∃ od us, Hs κ.a = some (.frz od (.dT (κ.ks.zip us))) ∧ RpA K Hs κ.xs us) ∧ H κ.q = some (.tup [.str κ.p.1, .str κ.p.2]) ∧ ¬ Dk.has g κ.q
theorem CLk.step {κ : LkI} {g : Option Dk} {H Hs H' Hs' : Hp} (h : CLk K κ g H Hs) (s : Stp g H Hs H' Hs') : CLk K κ g H' Hs' := by
  obtain ⟨⟨od, us, h1, h2⟩, h3, h4⟩ := h
  exact ⟨⟨od, us, s.ext _ _ h1, h2.mono s.ext⟩, s.keep _ _ h3 h4, h4⟩
def SndLk (K : PySem.W.Frag) (t : TE) (dl : LkI → DT) : Prop := ∀ (κ : LkI) (g : Option Dk) (r : Sg) (f : Nat) (st : L2.St) (H Hs : Hp) (Q : VK) (Q' : QD), At K g r f st H Hs → CLk K κ g H Hs →
  (∀ d f' v H' Hs', Stp g H Hs H' Hs' → DkOk g H' Hs' f' → Rp K Hs' d v → Q' d f' → Q v H') → dl κ g r f Q' → t st H Q
def SndLkA (K : PySem.W.Frag) (t : TA) (dl : LkI → DTA) : Prop := ∀ (κ : LkI) (g : Option Dk) (r : Sg) (f : Nat) (st : L2.St) (H Hs : Hp) (Q : List V → Hp → Prop) (Q' : List D → Nat → Prop), At K g r f st H Hs → CLk K κ g H Hs →
  (∀ ds f' vs H' Hs', Stp g H Hs H' Hs' → DkOk g H' Hs' f' → RpA K Hs' ds vs → Q' ds f' → Q vs H') → dl κ g r f Q' → t st H Q
def SndLkT (K : PySem.W.Frag) (t : TT) (dl : LkI → DTT) : Prop := ∀ (κ : LkI) (g : Option Dk) (r : Sg) (f : Nat) (st : L2.St) (H Hs : Hp) (Q : Bool → Hp → Prop) (Q' : Bool → Nat → Prop), At K g r f st H Hs → CLk K κ g H Hs →
  (∀ b f' H' Hs', Stp g H Hs H' Hs' → DkOk g H' Hs' f' → Q' b f' → Q b H') → dl κ g r f Q' → t st H Q
/-! the comprehension -/
/-! as expressions -/
def tOfLk (K : PySem.W.Frag) (dl : LkI → DT) : TE := fun st H Q => ∃ κ g r f Hs Q', At K g r f st H Hs ∧ CLk K κ g H Hs ∧ (∀ d f' v H' Hs', Stp g H Hs H' Hs' → DkOk g H' Hs' f' → Rp K Hs' d v → Q' d f' → Q v H') ∧ dl κ g r f Q'
def tOfLkA (K : PySem.W.Frag) (dl : LkI → DTA) : TA := fun st H Q => ∃ κ g r f Hs Q', At K g r f st H Hs ∧ CLk K κ g H Hs ∧ (∀ ds f' vs H' Hs', Stp g H Hs H' Hs' → DkOk g H' Hs' f' → RpA K Hs' ds vs → Q' ds f' → Q vs H') ∧ dl κ g r f Q'
def tOfLkT (K : PySem.W.Frag) (dl : LkI → DTT) : TT := fun st H Q => ∃ κ g r f Hs Q', At K g r f st H Hs ∧ CLk K κ g H Hs ∧ (∀ b f' H' Hs', Stp g H Hs H' Hs' → DkOk g H' Hs' f' → Q' b f' → Q b H') ∧ dl κ g r f Q'
structure DEk (X : Cx) (e : Expr) (dl : LkI → DT) : Prop where
  pe : PE X e (tOfLk X.K dl)
structure DAk (X : Cx) (es : List Expr) (dl : LkI → DTA) : Prop where
  pa : PA X es (tOfLkA X.K dl)
structure DTk (X : Cx) (ifs : List Expr) (dl : LkI → DTT) : Prop where
  pt : PTs X ifs (tOfLkT X.K dl)
theorem DEk.sn {e : Expr} {dl : LkI → DT} (_ : DEk X e dl) : SndLk X.K (tOfLk X.K dl) dl := fun κ g r f st H Hs Q Q' A C hq hd => ⟨κ, g, r, f, Hs, Q', A, C, hq, hd⟩
theorem DAk.sn {es : List Expr} {dl : LkI → DTA} (_ : DAk X es dl) : SndLkA X.K (tOfLkA X.K dl) dl := fun κ g r f st H Hs Q Q' A C hq hd => ⟨κ, g, r, f, Hs, Q', A, C, hq, hd⟩
theorem DTk.sn {ifs : List Expr} {dl : LkI → DTT} (_ : DTk X ifs dl) : SndLkT X.K (tOfLkT X.K dl) dl := fun κ g r f st H Hs Q Q' A C hq hd => ⟨κ, g, r, f, Hs, Q', A, C, hq, hd⟩
theorem DEk.mk' {e : Expr} {t : TE} {dl : LkI → DT} (p : PE X e t) (s : SndLk X.K t dl) : DEk X e dl := ⟨⟨fun pins sh st H Q I ⟨κ, g, r, f, Hs, Q', A, C, hq, hd⟩ => p.run pins sh st H Q I (s κ g r f st H Hs Q Q' A C hq hd)⟩⟩
theorem DAk.mk' {es : List Expr} {t : TA} {dl : LkI → DTA} (p : PA X es t) (s : SndLkA X.K t dl) : DAk X es dl := ⟨⟨fun pos pins sh st H Q I ⟨κ, g, r, f, Hs, Q', A, C, hq, hd⟩ => p.run pos pins sh st H Q I (s κ g r f st H Hs Q Q' A C hq hd)⟩⟩
theorem DTk.mk' {ifs : List Expr} {t : TT} {dl : LkI → DTT} (p : PTs X ifs t) (s : SndLkT X.K t dl) : DTk X ifs dl := ⟨⟨fun pins sh st H Q I ⟨κ, g, r, f, Hs, Q', A, C, hq, hd⟩ => p.run pins sh st H Q I (s κ g r f st H Hs Q Q' A C hq hd)⟩⟩
/-! the same with texts as keys -/
/-- the locked dict at a -/
structure LkIJ where
  a : Addr
  ks : List Key
  xs : List D
  p : Str
def CLkJ (K : PySem.W.Frag) (κ : LkIJ) (g : Option Dk) (H Hs : Hp) : Prop := ∃ od us, Hs κ.a = some (.frz od (.dK (κ.ks.zip us))) ∧ RpA K Hs κ.xs us
theorem CLkJ.step {κ : LkIJ} {g : Option Dk} {H Hs H' Hs' : Hp} (h : CLkJ K κ g H Hs) (s : Stp g H Hs H' Hs') : CLkJ K κ g H' Hs' := by
  obtain ⟨od, us, h1, h2⟩ := h
  exact ⟨od, us, s.ext _ _ h1, h2.mono s.ext⟩
def SndLkJ (K : PySem.W.Frag) (t : TE) (dl : LkIJ → DT) : Prop := ∀ (κ : LkIJ) (g : Option Dk) (r : Sg) (f : Nat) (st : L2.St) (H Hs : Hp) (Q : VK) (Q' : QD), At K g r f st H Hs → CLkJ K κ g H Hs →
  (∀ d f' v H' Hs', Stp g H Hs H' Hs' → DkOk g H' Hs' f' → Rp K Hs' d v → Q' d f' → Q v H') → dl κ g r f Q' → t st H Q
def SndLkTJ (K : PySem.W.Frag) (t : TT) (dl : LkIJ → DTT) : Prop := ∀ (κ : LkIJ) (g : Option Dk) (r : Sg) (f : Nat) (st : L2.St) (H Hs : Hp) (Q : Bool → Hp → Prop) (Q' : Bool → Nat → Prop), At K g r f st H Hs → CLkJ K κ g H Hs →
  (∀ b f' H' Hs', Stp g H Hs H' Hs' → DkOk g H' Hs' f' → Q' b f' → Q b H') → dl κ g r f Q' → t st H Q
theorem sc_ofJ {t : TE} {d : DT} (h : Snd K t d) : SndLkJ K t fun _ => d := fun κ g r f st H Hs Q Q' A _ hq hd => h g r f st H Hs Q Q' A hq hd
/-! the comprehension -/
def dLkGoJ (g : Option Dk) (s : Nat) (c : LkIJ → DTT) (e : LkIJ → DT) (a : Addr) (ks : List Key) (xs : List D) (r : Sg) : List Str → List D → Nat → (List D → Nat → Prop) → Prop
  | [], acc, f, Q => noMA acc = true ∧ Q acc f
  | p :: ps, acc, f, Q => c ⟨a, ks, xs, p⟩ g (setsR r [(s, .str p)]) f fun b f1 => if b = true then e ⟨a, ks, xs, p⟩ g (setsR r [(s, .str p)]) f1 fun y f2 => dLkGoJ g s c e a ks xs r ps (acc ++ [y]) f2 Q else dLkGoJ g s c e a ks xs r ps acc f1 Q
def dLcLkJ (i s : Nat) (c : LkIJ → DTT) (e : LkIJ → DT) (vs : List Nat) : DTA := fun g r f Q => ∃ (ps : List Str) (xs : List D), r[i]? = some (.sh (.dct (ps.map Sum.inr) xs)) ∧ ps.length ≤ lim ∧ noMA xs = true ∧ ∀ a : Addr, dLkGoJ g s c e a (ps.map (Sum.inr : Str → Key)) xs (wipeR (lkR i a r) vs) ps [] f Q
theorem lk_coreJ {gt : TG} {tt : TT} {te : TE} {vs : List Nat} {s : Nat} {c : LkIJ → DTT} {e : LkIJ → DT} (hg : SndG K [s] gt (tgN s)) (hc : SndLkTJ K tt c) (he : SndLkJ K te e) (hs : s ∈ vs) {g : Option Dk} {r : Sg} {f1 : Nat} {st : L2.St} {H1 Hs1 : Hp} {a : Addr} {od : Obj} {ps : List Str} {us : List V} {xs : List D} {Q : VK} {Q' : List D → Nat → Prop}
    (A : At K g r f1 st H1 Hs1) (h1 : Hs1 a = some (.frz od (.dK ((ps.map (Sum.inr : Str → Key)).zip us)))) (hlu : ps.length = us.length) (hr : RpA K Hs1 xs us) (hl : ps.length ≤ lim) (q1 : dLkGoJ g s c e a (ps.map (Sum.inr : Str → Key)) xs (wipeR r vs) ps [] f1 Q')
    (hq : ∀ ds f' p vs H' Hs', Stp g H1 Hs1 H' Hs' → DkOk g H' Hs' f' → H1 p = none → Hs' p = none → H' p = some (.lst vs) → RpA K Hs' ds vs → noMA ds = true → Q' ds f' → Q (.ref p) H') : tLc (fun _ H R => R (Itk a od ((ps.map (Sum.inr : Str → Key)).zip us)) H) gt tt te vs st H1 Q := by
  intro D hD
  have hDs : Hs1 D = none := same_none A.sub hD
  have hDk : ¬ Dk.has g D := A.dk.out hD
  have hkl : ((ps.map (Sum.inr : Str → Key)).zip us).length = ps.length := by rw [List.length_zip, List.length_map, hlu, Nat.min_self]
  refine ⟨fun i m H2 => m = ps.length - i ∧ i ≤ ps.length ∧ ∃ f2 Hs2 acc ws, Stp g H1 Hs1 H2 Hs2 ∧ DkOk g H2 Hs2 f2 ∧ Hs2 D = none ∧ H2 D = some (.lst ws) ∧ RpA K Hs2 acc ws ∧ acc.length ≤ i ∧ dLkGoJ g s c e a (ps.map (Sum.inr : Str → Key)) xs (wipeR r vs) (ps.drop i) acc f2 Q', ⟨ps.length, rfl, Nat.zero_le _, f1, Hs1, [], [], ?_, ?_, hDs, upd_same, rfl, Nat.le_refl _, q1⟩, ?_⟩
  · exact (Stp.lay A.sub hD : Stp none H1 Hs1 (upd H1 D (.lst [])) Hs1).gen
  · exact A.dk.mut hDk
  rintro i m H2 ⟨rfl, hil, f2, Hs2, acc, ws, s2, k2, n2, e2, r2, l2, q2⟩
  have ea : H2 a = some (.frz od (.dK ((ps.map (Sum.inr : Str → Key)).zip us))) := s2.sub _ _ (s2.ext _ _ h1)
  by_cases hlt : i < ps.length
  · have hdr : ps.drop i = ps[i] :: ps.drop (i + 1) := List.drop_eq_getElem_cons hlt
    rw [hdr] at q2
    refine .inr ⟨⟨ea, by rw [hkl]; exact hlt⟩, fun H3 => i + 1 ≤ ps.length ∧ ∃ f2 Hs2 acc ws, Stp g H1 Hs1 H3 Hs2 ∧ DkOk g H3 Hs2 f2 ∧ Hs2 D = none ∧ H3 D = some (.lst ws) ∧ RpA K Hs2 acc ws ∧ acc.length ≤ i + 1 ∧ dLkGoJ g s c e a (ps.map (Sum.inr : Str → Key)) xs (wipeR r vs) (ps.drop (i + 1)) acc f2 Q', fun H3 h3 => ⟨_, by omega, rfl, h3⟩, fun x H3 hx => ?_⟩
    obtain ⟨rfl, k, v, hk, rfl⟩ := hx
    have hk2 : k = .inr ps[i] := by
      rw [List.getElem?_zip_eq_some] at hk
      have h3 := hk.1
      rw [List.getElem?_map, List.getElem?_eq_getElem hlt] at h3
      exact (Option.some.inj h3).symm
    subst hk2
    have C2 : CLkJ K ⟨a, ps.map (Sum.inr : Str → Key), xs, ps[i]⟩ g H3 Hs2 := ⟨od, us, s2.ext _ _ h1, hr.mono s2.ext⟩
    have sl0 : SlOk K Hs2 (wipeR r vs) (L2.wipe st vs) := (A.sl.mono s2.ext).wipe vs
    refine hg.2 H3 Hs2 _ (.str ps[i]) (.str ps[i]) _ [(s, .str ps[i])] s2.sub rfl rfl fun us2 hus => ⟨wipe_wipe_sets (by simpa using hs), ?_⟩
    have A3 : At K g (setsR (wipeR r vs) [(s, .str ps[i])]) f2 (setsV (L2.wipe st vs) [s] us2) H3 Hs2 := ⟨s2.sub, k2, SlOk.sets sl0 hus⟩
    refine hc _ g _ f2 _ H3 Hs2 _ _ A3 C2 (fun b f4 H4 Hs4 s4 k4 q4 => ?_) q2
    have t4 : Stp g H1 Hs1 H4 Hs4 := s2.trans s4
    have n4 : Hs4 D = none := s4.new D _ e2 n2
    have e4 : H4 D = some (.lst ws) := s4.keep D _ e2 hDk
    cases b with
    | false =>
      rw [if_neg Bool.false_ne_true] at q4 ⊢
      exact ⟨hlt, f4, Hs4, acc, ws, t4, k4, n4, e4, r2.mono s4.ext, by omega, q4⟩
    | true =>
      rw [if_pos rfl] at q4 ⊢
      refine he _ g _ f4 _ H4 Hs4 _ _ (A3.step s4 k4) (C2.step s4) (fun y f5 v5 H5 Hs5 s5 k5 r5 q5 => ?_) q4
      have n5 : Hs5 D = none := s5.new D _ e4 n4
      have e5 : H5 D = some (.lst ws) := s5.keep D _ e4 hDk
      have r5' : RpA K Hs5 acc ws := (r2.mono s4.ext).mono s5.ext
      refine ⟨ws, e5, ?_, hlt, f5, Hs5, acc ++ [y], ws ++ [v5], (t4.trans s5).mut hD n5, k5.mut hDk, n5, upd_same, r5'.append (RpA.one r5), by simp; omega, q5⟩
      rw [← r5'.length]
      exact lim_lt (by omega)
  · have ei : i = ps.length := by omega
    subst ei
    rw [List.drop_length] at q2
    refine .inl ⟨⟨ea, by rw [hkl]; exact Nat.le_refl _⟩, ?_⟩
    exact hq acc f2 D ws H2 Hs2 s2 k2 hD n2 e2 r2 q2.1 q2.2
theorem snd_lcLkJ {i s : Nat} {gt : TG} {tt : TT} {te : TE} {vs : List Nat} {c : LkIJ → DTT} {e : LkIJ → DT} (hg : SndG K [s] gt (tgN s)) (hc : SndLkTJ K tt c) (he : SndLkJ K te e) (hs : s ∈ vs) : SndL K (tLockE (tLc (iKeys (tVar i)) gt tt te vs)) (dLcLkJ i s c e vs) := fun g r f st H Hs Q Q' A hq hd => by
  obtain ⟨ps, xs, hi, hl, hnx, hd⟩ := hd
  obtain ⟨v, hv, a, us, rfl, e1, e2, e3⟩ := A.sl.get i _ _ hi rfl
  have hlu : ps.length = us.length := by rw [← e2, List.length_map]
  refine ⟨a, _, A.sub _ _ e1, trivial, fun od => ?_⟩
  have npl : ¬ PlO (.dK ((ps.map (Sum.inr : Str → Key)).zip us)) := fun z => z.k _ rfl
  have A2 := A.lock (o := .frz od (.dK ((ps.map (Sum.inr : Str → Key)).zip us))) e1 npl (fun _ _ z => nomatch z) hv
  refine ⟨.ref a, hv, a, od, rfl, .inl ⟨_, upd_same, ?_⟩⟩
  show tLc (fun _ H R => R (Itk a od ((ps.map (Sum.inr : Str → Key)).zip us)) H) gt tt te vs st (upd H a (.frz od (.dK ((ps.map (Sum.inr : Str → Key)).zip us)))) (fun v H' => H' a = some (.frz od (.dK ((ps.map (Sum.inr : Str → Key)).zip us))) ∧ Q v (upd H' a (.dK ((ps.map (Sum.inr : Str → Key)).zip us))))
  have hr2 : RpA K (upd Hs a (.frz od (.dK ((ps.map (Sum.inr : Str → Key)).zip us)))) xs us := RpA.noM (fun b o hb pl => by rw [upd_ne fun z => by rw [z, e1] at hb; cases hb; exact npl pl]; exact hb) xs us hnx e3
  refine lk_coreJ hg hc he hs A2 upd_same hlu hr2 hl (hd a) fun ds f' p ws H' Hs' s' k' hp np hw hrw nm q => ?_
  have eHs : Hs' a = some (.frz od (.dK ((ps.map (Sum.inr : Str → Key)).zip us))) := s'.ext a _ upd_same
  have hpa : p ≠ a := fun z => by rw [z, upd_same] at hp; cases hp
  refine ⟨s'.sub _ _ eHs, ?_⟩
  refine hq ds f' p ws _ _ (s'.unlock A.sub e1) (k'.swap eHs fun _ _ z => nomatch z) (by rw [upd_ne hpa] at hp; exact hp) (by rw [upd_ne hpa]; exact np) (by rw [upd_ne hpa]; exact hw) (RpA.noM (fun b o hb pl => ?_) ds ws nm hrw) q
  have : b ≠ a := fun z => by rw [z, eHs] at hb; cases hb; exact pl.f _ _ rfl
  rw [upd_ne this]; exact hb
/-! as expressions -/
def tOfLkJ (K : PySem.W.Frag) (dl : LkIJ → DT) : TE := fun st H Q => ∃ κ g r f Hs Q', At K g r f st H Hs ∧ CLkJ K κ g H Hs ∧ (∀ d f' v H' Hs', Stp g H Hs H' Hs' → DkOk g H' Hs' f' → Rp K Hs' d v → Q' d f' → Q v H') ∧ dl κ g r f Q'
def tOfLkTJ (K : PySem.W.Frag) (dl : LkIJ → DTT) : TT := fun st H Q => ∃ κ g r f Hs Q', At K g r f st H Hs ∧ CLkJ K κ g H Hs ∧ (∀ b f' H' Hs', Stp g H Hs H' Hs' → DkOk g H' Hs' f' → Q' b f' → Q b H') ∧ dl κ g r f Q'
structure DEkJ (X : Cx) (e : Expr) (dl : LkIJ → DT) : Prop where
  pe : PE X e (tOfLkJ X.K dl)
structure DTkJ (X : Cx) (ifs : List Expr) (dl : LkIJ → DTT) : Prop where
  pt : PTs X ifs (tOfLkTJ X.K dl)
theorem DEkJ.sn {e : Expr} {dl : LkIJ → DT} (_ : DEkJ X e dl) : SndLkJ X.K (tOfLkJ X.K dl) dl := fun κ g r f st H Hs Q Q' A C hq hd => ⟨κ, g, r, f, Hs, Q', A, C, hq, hd⟩
theorem DTkJ.sn {ifs : List Expr} {dl : LkIJ → DTT} (_ : DTkJ X ifs dl) : SndLkTJ X.K (tOfLkTJ X.K dl) dl := fun κ g r f st H Hs Q Q' A C hq hd => ⟨κ, g, r, f, Hs, Q', A, C, hq, hd⟩
theorem DEkJ.mk' {e : Expr} {t : TE} {dl : LkIJ → DT} (p : PE X e t) (s : SndLkJ X.K t dl) : DEkJ X e dl := ⟨⟨fun pins sh st H Q I ⟨κ, g, r, f, Hs, Q', A, C, hq, hd⟩ => p.run pins sh st H Q I (s κ g r f st H Hs Q Q' A C hq hd)⟩⟩
theorem DTkJ.mk' {ifs : List Expr} {t : TT} {dl : LkIJ → DTT} (p : PTs X ifs t) (s : SndLkTJ X.K t dl) : DTkJ X ifs dl := ⟨⟨fun pins sh st H Q I ⟨κ, g, r, f, Hs, Q', A, C, hq, hd⟩ => p.run pins sh st H Q I (s κ g r f st H Hs Q Q' A C hq hd)⟩⟩
theorem dek_ofJ {e : Expr} {d : DT} (h : DE X e d) : DEkJ X e fun _ => d := .mk' h.pe (sc_ofJ h.sn)
theorem dtk_nilJ : DTkJ X [] fun _ => dYes := .mk' pts_nil fun κ g r f st H Hs Q Q' A _ hq hd => hq true f H Hs (Stp.refl A.sub) A.dk hd
/-! a, b = e, {} and a, b = {}, e: the dict is owned (tuple keys in the second) -/
end
end DL
namespace DL
open PySem PySem.Spec PyProof.Rows L2
/-! dicts whose keys are tuples of pairs of texts, all values True -/
theorem zip_snd {α β : Type} : ∀ {l : List α} {m : List β}, l.length = m.length → (l.zip m).map (·.2) = m
  | [], [], _ => rfl
  | [], y :: m, h => by cases h
  | x :: l, [], h => by cases h
  | x :: l, y :: m, h => by
    rw [List.zip_cons_cons, List.map_cons, zip_snd (Nat.succ.inj h)]
end DL
namespace DL
open PySem PySem.Spec PyProof.Rows L2
/-! tuples that are known to the object: tuple(e), t.index(x) -/
section
variable {X : Cx} {K : PySem.W.Frag}
theorem call_tupleF : CallR X (.type "tuple") (fun xs H Q => ∃ p ys, xs = [.ref p] ∧ SqL X.K H p ys ∧ ∀ l (ob : Obj), H l = none → ob.dict = none → Q (.ref l) (upd H l (.frz ob (.tup ys)))) := by
  intro pins s σ H xs us Q I r h
  obtain ⟨p, ys, rfl, hq, q⟩ := h
  obtain ⟨u, rfl, rx⟩ := vals1 r
  cases rx
  obtain ⟨its, r', pl, hz⟩ := I.list hq
  have hlen := r'.length
  refine call_tuple_list pl.isList (fun h' kp => ?_) (by simp only [List.size_toArray] <;> omega)
  have I1 : Inv X pins σ H { s with heap := h' } := I.kept (t' := s.toks) kp
  have I2 : Inv X pins σ (upd H h'.objs.size (.frz { cls := .type "tuple", data := .seq its.toArray } (.tup ys))) { s with heap := h'.push { cls := .type "tuple", data := .seq its.toArray } } :=
    I1.laid (t' := s.toks) (fun b o e => Heap.get?_push_of_some _ e) (Nat.le_refl _) (show ObjOk X.prog X.w _ _ _ (.frz _ (.tup ys)) from ⟨Heap.get?_push_size _ rfl, hz, its, r', IsTup.new _ _⟩)
  exact ⟨.ref h'.objs.size, _, I2, rfl, q _ _ (I1.hok.fresh (Nat.le_refl _)) rfl⟩
def oTupF : OA := fun ds Q => match ds with
  | [.lst xs] => Q (.ftp xs)
  | _ => False
theorem sc_tupF : SndC K (fun xs H Q => ∃ p ys, xs = [.ref p] ∧ SqL K H p ys ∧ ∀ l (ob : Obj), H l = none → ob.dict = none → Q (.ref l) (upd H l (.frz ob (.tup ys)))) oTupF := fun H Hs ds vs Q Q' s rx hq hd => by
  unfold oTupF at hd
  split at hd
  · obtain ⟨v, rfl, a, vs, rfl, h1, h2⟩ := rpA1 rx
    refine ⟨a, vs, rfl, SqL.of (s _ _ h1), fun l ob hl ho => hq (.ftp _) _ _ _ (Stp.alloc s hl) ⟨l, vs, rfl, ⟨ob, ho, upd_same⟩, h2.mono fun b u z => by rw [upd_ne (ne_of_none z (same_none s hl))]; exact z⟩ hd⟩
  · exact hd.elim
/-! t.index(x), t of texts -/
end
end DL
/-! DZE: the end of a law of the guard variant with one lambda. -/
/-! DZF: min(xs, default=n) of a list of whole numbers. -/
/-! DZG: several except clauses with names; a if c else b where both may raise. -/
/-! DZH: a, b = [..], e with cells among them: the first owns. -/
/-! DZI: dict(t) of a tuple of pairs, keys all apart; tuple displays whose object is known. -/
namespace DL
open PySem PySem.Spec PyProof.Rows L2
section
variable {X : Cx} {K : PySem.W.Frag}
theorem mergeK_new : ∀ (more acc : List (Key × V)), (acc.map (·.1) ++ more.map (·.1)).Nodup → mergeK acc more = acc ++ more
  | [], acc, _ => (List.append_nil acc).symm
  | p :: more, acc, h => by
    have hn : valV acc p.1 = none := by
      cases e : valV acc p.1 with
      | none => rfl
      | some v =>
        exfalso
        unfold valV at e
        obtain ⟨q, hq, _⟩ := Option.map_eq_some_iff.mp e
        have h1 := List.mem_of_find?_eq_some hq
        have h2 : q.1 = p.1 := by simpa using List.find?_some hq
        rw [List.nodup_append] at h
        exact h.2.2 _ (List.mem_map_of_mem (f := (·.1)) h1) p.1 (by simp) h2
    show mergeK (putK acc p.1 p.2) more = _
    rw [putK_new p.2 hn, mergeK_new more (acc ++ [(p.1, p.2)]) (by rw [List.map_append, List.append_assoc]; exact h), List.append_assoc]
    rfl
/-- the pairs in the real heap -/
theorem pairs3_of {pins : List (Addr × Obj)} {σ : L2.St} {H : Hp} {s : Shared} (I : Inv X pins σ H s) : ∀ {ps : List Addr} {kvs : List (Key × V)}, Paired (fun p kv => SqT X.K H p [kV kv.1, kv.2]) ps kvs →
    ∃ trs : List (Key × Value × Value), KV kvs (trs.map fun t => (t.1, t.2.2)) ∧ trs.length = ps.length ∧ ∀ (j : Nat) (q : Key × Value × Value), trs[j]? = some q → ∃ b : Addr, ps[j]? = some b ∧ IsTup s.heap b #[q.2.1, q.2.2] ∧ keyIs q.1 q.2.1 = true
  | _, _, .nil => ⟨[], .nil, rfl, fun j q e => by simp at e⟩
  | _, _, .cons (a := p) (b := kv) h t => by
    obtain ⟨trs, r, hl, hp⟩ := pairs3_of I t
    obtain ⟨its, rv, ht, _⟩ := I.tuple h
    obtain ⟨u, y, ei, ru, ry⟩ := vals2 rv
    subst ei
    refine ⟨(kv.1, u, y) :: trs, .cons ⟨rfl, ry⟩ r, by rw [List.length_cons, List.length_cons, hl], fun j q e => ?_⟩
    cases j with
    | zero =>
      have e' : (kv.1, u, y) = q := Option.some.inj e
      subst e'
      exact ⟨p, rfl, ht, kV_is (P := X.prog) (w := X.w) ru⟩
    | succ j =>
      obtain ⟨b, e1, e2, e3⟩ := hp j q (by simpa using e)
      exact ⟨b, by simpa using e1, e2, e3⟩
theorem call_dictF (hcalm : X.calm = true) : CallR X (.type "dict") (fun xs H Q => ∃ (a : Addr) (ps : List Addr) (kvs : List (Key × V)), xs = [.ref a] ∧ FtAt H a (ps.map V.ref) ∧ Paired (fun p kv => SqT X.K H p [kV kv.1, kv.2]) ps kvs ∧
    ∀ p, H p = none → Q (.ref p) (upd H p (.dK (mergeK [] kvs)))) := by
  intro pins s σ H xs us Q I r q
  obtain ⟨a, ps, kvs, ex, ⟨ob, hob, hfz⟩, hp, q⟩ := q
  subst ex
  obtain ⟨u, eu, rx⟩ := vals1 r
  subst eu
  cases rx
  obtain ⟨hget, hz, its, rv, tp⟩ := (show ObjOk X.prog X.w H s.heap a (.frz ob (.tup (ps.map V.ref))) from I.hok a _ hfz)
  have ei := refs_at rv
  subst ei
  rw [List.length_map] at hz
  obtain ⟨trs, rel, hl, hpr⟩ := pairs3_of I hp
  obtain ⟨o, ho, hc, n, hdat⟩ := tp
  rw [hget] at ho
  cases ho
  have hz2 : trs.length ≤ sizeLine := by rw [hl]; exact hz
  refine PySem.call_dict_pairs (knd := mixKind X.prog X.w) (kvs := trs.map fun t => (t.1, t.2.2)) (PairArg.tuple a (ps.map Value.ref).toArray (fun j => ps.getD j 0) (trs.map fun t => (t.2.1, t.2.2))) (I.ok.hd hcalm) ⟨⟨_, n, hget, hc, hob, hdat⟩, by simp [hl], fun j k v e => ?_⟩ ⟨by simp, fun i key v e => ?_⟩ (by simpa using hz2) fun h' tk hd' k => ?_
  · rw [List.getElem?_map] at e
    obtain ⟨q', e1, e2⟩ := Option.map_eq_some_iff.mp e
    obtain ⟨b, h1, h2, h3⟩ := hpr j q' e1
    cases e2
    refine ⟨by simp [h1], .inl ?_⟩
    show s.heap.IsTuple (ps.getD j 0) _
    rw [List.getD_eq_getElem?_getD, h1]
    exact h2
  · have e : (trs.map fun t => (t.2.1, t.2.2))[i]? = some (key, v) := e
    rw [List.getElem?_map] at e
    obtain ⟨q', e1, e2⟩ := Option.map_eq_some_iff.mp e
    obtain ⟨b, h1, h2, h3⟩ := hpr i q' e1
    cases e2
    exact ⟨q'.1, by rw [List.getElem?_map, e1]; rfl, h3⟩
  · have hm : (s.heap.objs.size == sysModules) = false := beq_eq_false_iff_ne.mpr (Nat.ne_of_gt I.big)
    have hlen : (mergeK [] kvs).length ≤ sizeLine := by
      refine Nat.le_trans (length_mergeK kvs []) ?_
      rw [List.length_nil, Nat.zero_add, rel.length, List.length_map]
      exact hz2
    exact ⟨.ref s.heap.objs.size, upd H s.heap.objs.size (.dK (mergeK [] kvs)), I.laid (t' := tk) (fun b o e => k b o (by simp) e) (Nat.le_refl _) (show ObjOk X.prog X.w _ _ _ (.dK (mergeK [] kvs)) from ⟨hlen, hm, merged [] _, KV.merge rel .nil, hd'⟩), rfl, q _ (I.hok.fresh (Nat.le_refl _))⟩
def pD (p : Str × D) : D := .tup [.str p.1, p.2]
def oDictF : OA := fun ds Q => match ds with
  | [.ftp xs] => ∃ kvs : List (Str × D), xs = kvs.map pD ∧ (kvs.map (·.1)).Nodup ∧ Q (.dct (kvs.map fun p => Sum.inr p.1) (kvs.map (·.2)))
  | _ => False
theorem pairsV {Hs : Hp} : ∀ {kvs : List (Str × D)} {vs : List V}, RpA K Hs (kvs.map pD) vs → ∃ (ps : List Addr) (ws : List V), vs = ps.map V.ref ∧ ws.length = kvs.length ∧ RpA K Hs (kvs.map (·.2)) ws ∧
    Paired (fun p kv => SqT K Hs p [kV kv.1, kv.2]) ps ((kvs.map fun p => (Sum.inr p.1 : Key)).zip ws)
  | [], vs, h => by
    obtain rfl : vs = [] := h
    exact ⟨[], [], rfl, rfl, rfl, .nil⟩
  | p :: kvs, vs, h => by
    obtain ⟨v, r, rfl, ⟨a, us, rfl, ha, hu⟩, ht⟩ := h
    obtain ⟨ps, ws, rfl, hl, hr, hp⟩ := pairsV ht
    obtain ⟨v1, r1, rfl, e1, v2, r2, rfl, e2, e3⟩ := hu
    obtain rfl : r2 = [] := e3
    obtain rfl : v1 = .str p.1 := e1
    exact ⟨a :: ps, v2 :: ws, rfl, by rw [List.length_cons, List.length_cons, hl], ⟨v2, ws, rfl, e2, hr⟩, .cons ha.sq hp⟩
theorem Paired.imp' {α β : Type} {R S : α → β → Prop} (h : ∀ a b, R a b → S a b) : ∀ {xs : List α} {ys : List β}, Paired R xs ys → Paired S xs ys
  | _, _, .nil => .nil
  | _, _, .cons h1 h2 => .cons (h _ _ h1) (Paired.imp' h h2)
theorem sc_dictF : SndC K (fun xs H Q => ∃ (a : Addr) (ps : List Addr) (kvs : List (Key × V)), xs = [.ref a] ∧ FtAt H a (ps.map V.ref) ∧ Paired (fun p kv => SqT K H p [kV kv.1, kv.2]) ps kvs ∧
    ∀ p, H p = none → Q (.ref p) (upd H p (.dK (mergeK [] kvs)))) oDictF := fun H Hs ds vs Q Q' s rx hq hd => by
  unfold oDictF at hd
  split at hd
  · obtain ⟨kvs, rfl, hn, q⟩ := hd
    obtain ⟨v, rfl, a, vs, rfl, h1, h2⟩ := rpA1 rx
    obtain ⟨ps, ws, rfl, hl, hr, hp⟩ := pairsV h2
    have hkn : ((kvs.map fun p => (Sum.inr p.1 : Key)).zip ws).map (·.1) = kvs.map fun p => (Sum.inr p.1 : Key) := by
      rw [← List.unzip_fst, List.unzip_zip_left (by rw [List.length_map, hl]; exact Nat.le_refl _)]
    refine ⟨a, ps, _, rfl, h1.mono s, Paired.imp' (fun _ _ h => sqT_mono s h) hp, fun l hl2 => ?_⟩
    have em : mergeK [] ((kvs.map fun p => (Sum.inr p.1 : Key)).zip ws) = (kvs.map fun p => (Sum.inr p.1 : Key)).zip ws := by
      have := mergeK_new ((kvs.map fun p => (Sum.inr p.1 : Key)).zip ws) [] (by
        rw [List.map_nil, List.nil_append, hkn]
        have : (kvs.map fun p => (Sum.inr p.1 : Key)) = (kvs.map (·.1)).map Sum.inr := by rw [List.map_map]; rfl
        rw [this]
        exact List.pairwise_map.mpr (hn.imp fun h e => h (Sum.inr.inj e)))
      exact this
    rw [em]
    exact hq (.dct _ _) _ _ _ (Stp.alloc s hl2) ⟨l, ws, rfl, upd_same, by rw [List.length_map, hl], hr.mono fun b u z => by rw [upd_ne (ne_of_none z (same_none s hl2))]; exact z⟩ q
  · exact hd.elim
/-! a tuple display whose object is known -/
def tTupF (t : TA) : TE := fun σ H Q => t σ H fun xs H1 => xs.length ≤ sizeLine ∧ ∀ p (ob : Obj), H1 p = none → ob.dict = none → Q (.ref p) (upd H1 p (.frz ob (.tup xs)))
theorem pe_tupF {es : List Expr} {x1} {pos : Pos} {t : TA} (h : PA X es t) : PE X (.Tuple es x1 pos) (tTupF t) := by
  refine ⟨fun pins s σ H Q I hq => ?_⟩
  refine wpAny_Tuple_spliced (thn (h.run pos pins s σ H _ I hq) fun us s1 ⟨xs, H1, I1, r, z, q⟩ => ⟨by rw [← r.length]; exact z, ?_⟩)
  have hf : H1 s1.heap.objs.size = none := I1.hok.fresh (Nat.le_refl _)
  refine ⟨.ref s1.heap.objs.size, _, I1.laid (t' := s1.toks) (o := .frz { cls := .type "tuple", data := .seq us.toArray } (.tup xs)) (fun b u e => Heap.get?_push_of_some _ e) (Nat.le_refl _) ?_, rfl, q _ { cls := .type "tuple", data := .seq us.toArray } hf rfl⟩
  exact ⟨Heap.get?_push_size _ rfl, z, us, r, ⟨_, Heap.get?_push_size _ rfl, rfl, _, rfl⟩⟩
def dTupF (t : DTA) : DT := fun g r f Q => t g r f fun ds f1 => ds.length ≤ lim ∧ Q (.ftp ds) f1
theorem snd_tupF {t : TA} {d : DTA} (h : SndA K t d) : Snd K (tTupF t) (dTupF d) := fun g ro f st H Hs Q Q' A hq hd =>
  h g ro f st H Hs _ _ A (fun ds f1 vs H1 Hs1 s1 k1 r1 q1 => ⟨r1.le q1.1, fun p ob hp ho => by
    have al : Stp none H1 Hs1 (upd H1 p (.frz ob (.tup vs))) (upd Hs1 p (.frz ob (.tup vs))) := Stp.alloc s1.sub hp
    exact hq (.ftp ds) f1 (.ref p) _ _ (s1.trans al.gen) (k1.stp al) ⟨p, vs, rfl, ⟨ob, ho, upd_same⟩, r1.mono fun b u z => by rw [upd_ne (ne_of_none z (same_none s1.sub hp))]; exact z⟩ q1.2⟩) hd
theorem de_tupF {es : List Expr} {x1} {pos : Pos} {d : DTA} (h : DA X es d) : DE X (.Tuple es x1 pos) (dTupF d) := .mk' (pe_tupF h.pa) (snd_tupF h.sn)
/-! [.. for k in d]: d a shared dict, locked meanwhile, while another dict can be read: the two differ at a key -/
def DiffS (ks : List Key) (xs : List D) (ks' : List Key) (xs' : List D) : Prop := ∃ (k : Key) (z z' : Str), lookD ks xs k = some (.str z) ∧ lookD ks' xs' k = some (.str z') ∧ z ≠ z'
def dLcLkJ2 (i s j : Nat) (c : LkIJ → DTT) (e : LkIJ → DT) (vs : List Nat) : DTA := fun g r f Q => ∃ (ps : List Str) (xs : List D) (ks' : List Key) (xs' : List D) (sj : Sl), r[i]? = some (.sh (.dct (ps.map Sum.inr) xs)) ∧ ps.length ≤ lim ∧ noMA xs = true ∧ r[j]? = some sj ∧ sj.d = some (.dct ks' xs') ∧ noMA xs' = true ∧
  ((ps = [] ∧ Q [] f) ∨ (DiffS (ps.map Sum.inr) xs ks' xs' ∧ ∀ a : Addr, dLkGoJ g s c e a (ps.map (Sum.inr : Str → Key)) xs (wipeR ((lkR i a r).set j (.sh (.dct ks' xs'))) vs) ps [] f Q))
theorem snd_lcLkJ2 {i s j : Nat} {gt : TG} {tt : TT} {te : TE} {vs : List Nat} {c : LkIJ → DTT} {e : LkIJ → DT} (hg : SndG K [s] gt (tgN s)) (hc : SndLkTJ K tt c) (he : SndLkJ K te e) (hs : s ∈ vs) : SndL K (tLockE (tLc (iKeys (tVar i)) gt tt te vs)) (dLcLkJ2 i s j c e vs) := fun g r f st H Hs Q Q' A hq hd => by
  obtain ⟨ps, xs, ks', xs', sj, hi, hl, hnx, hj, hjd, hnx', hd⟩ := hd
  rcases hd with ⟨rfl, q⟩ | ⟨hdf, hd⟩
  · exact snd_lcLkJ hg hc he hs g r f st H Hs Q Q' A hq ⟨[], xs, hi, hl, hnx, fun a => ⟨rfl, q⟩⟩
  obtain ⟨v, hv, a, us, rfl, e1, e2, e3⟩ := A.sl.get i _ _ hi rfl
  obtain ⟨v', hv', b, us', rfl, b1, b2, b3⟩ := A.sl.get j _ _ hj hjd
  have hab : b ≠ a := fun z => by
    subst z
    rw [e1] at b1
    injection b1 with b1
    injection b1 with b1
    obtain ⟨k, z, z', k1, k2, k3⟩ := hdf
    obtain ⟨w, w1, w2⟩ := look_rp e3 k1
    obtain ⟨w', w1', w2'⟩ := look_rp b3 k2
    rw [b1, w1'] at w1
    cases w1
    cases w2
    cases w2'
    exact k3 rfl
  have hlu : ps.length = us.length := by rw [← e2, List.length_map]
  refine ⟨a, _, A.sub _ _ e1, trivial, fun od => ?_⟩
  have npl : ¬ PlO (.dK ((ps.map (Sum.inr : Str → Key)).zip us)) := fun z => z.k _ rfl
  have A1 := A.lock (o := .frz od (.dK ((ps.map (Sum.inr : Str → Key)).zip us))) e1 npl (fun _ _ z => nomatch z) hv
  have A2 : At K g ((lkR i a r).set j (.sh (.dct ks' xs'))) f st (upd H a (.frz od (.dK ((ps.map (Sum.inr : Str → Key)).zip us)))) (upd Hs a (.frz od (.dK ((ps.map (Sum.inr : Str → Key)).zip us)))) := by
    refine ⟨A1.sub, A1.dk, ?_⟩
    have := A1.sl.set j (d := .dct ks' xs') (v := .ref b) ⟨b, us', rfl, by rw [upd_ne hab]; exact b1, b2, RpA.noM (fun b o hb pl => by rw [upd_ne fun z => by rw [z, e1] at hb; cases hb; exact npl pl]; exact hb) xs' us' hnx' b3⟩
    have es : st.set j (some (.ref b)) = st := by
      obtain ⟨h1, h2⟩ := List.getElem?_eq_some_iff.mp hv'
      rw [← h2, List.set_getElem_self]
    rw [es] at this
    exact this
  refine ⟨.ref a, hv, a, od, rfl, .inl ⟨_, upd_same, ?_⟩⟩
  show tLc (fun _ H R => R (Itk a od ((ps.map (Sum.inr : Str → Key)).zip us)) H) gt tt te vs st (upd H a (.frz od (.dK ((ps.map (Sum.inr : Str → Key)).zip us)))) (fun v H' => H' a = some (.frz od (.dK ((ps.map (Sum.inr : Str → Key)).zip us))) ∧ Q v (upd H' a (.dK ((ps.map (Sum.inr : Str → Key)).zip us))))
  have hr2 : RpA K (upd Hs a (.frz od (.dK ((ps.map (Sum.inr : Str → Key)).zip us)))) xs us := RpA.noM (fun b o hb pl => by rw [upd_ne fun z => by rw [z, e1] at hb; cases hb; exact npl pl]; exact hb) xs us hnx e3
  refine lk_coreJ hg hc he hs A2 upd_same hlu hr2 hl (hd a) fun ds f' p ws H' Hs' s' k' hp np hw hrw nm q => ?_
  have eHs : Hs' a = some (.frz od (.dK ((ps.map (Sum.inr : Str → Key)).zip us))) := s'.ext a _ upd_same
  have hpa : p ≠ a := fun z => by rw [z, upd_same] at hp; cases hp
  refine ⟨s'.sub _ _ eHs, ?_⟩
  refine hq ds f' p ws _ _ (s'.unlock A.sub e1) (k'.swap eHs fun _ _ z => nomatch z) (by rw [upd_ne hpa] at hp; exact hp) (by rw [upd_ne hpa]; exact np) (by rw [upd_ne hpa]; exact hw) (RpA.noM (fun b o hb pl => ?_) ds ws nm hrw) q
  have : b ≠ a := fun z => by rw [z, eHs] at hb; cases hb; exact pl.f _ _ rfl
  rw [upd_ne this]; exact hb
theorem dl_lcLkJ2 {i s : Nat} (j : Nat) {x sn : Str} {px ps : Pos} {elt : Expr} {ifs : List Expr} {scope : Scope} {own : List (Str × Nat)} {pos : Pos} {c : LkIJ → DTT} {e : LkIJ → DT} (hc : X.calm = true) (hN : X.N.Nodup) (ok : BlkOk X.N X.env.scope scope own)
    (hg : ∀ (s' : Shared) (H : Hp) (C : Addr) (cl : List (Str × Addr)) (fp : List Addr), DG (X.blk s' H scope (compEnvC scope cl C X.env) fp) (.Name sn ps) [s] (tgN s)) (ht : ∀ (s' : Shared) (H : Hp) (C : Addr) (cl : List (Str × Addr)) (fp : List Addr), DTkJ (X.blk s' H scope (compEnvC scope cl C X.env) fp) ifs c)
    (he : ∀ (s' : Shared) (H : Hp) (C : Addr) (cl : List (Str × Addr)) (fp : List Addr), DEkJ (X.blk s' H scope (compEnvC scope cl C X.env) fp) elt e)
    (hi : X.N[i]? = some x := by rfl) (hv : Vis X.env.scope x := by first | exact Or.inl rfl | exact Or.inr (Or.inl rfl) | exact Or.inr (Or.inr rfl)) (hd : (x == ("__debug__" : Str)) = false := by decide)
    (hcd : (x == ("__classdict__" : Str)) = false := by decide) (hs : ∀ y, foldedSetIterable (.Name x px) X.env y = pure y := by intro _; rfl) (hsub : s ∈ own.map (·.2) := by decide) :
    DL' X (.ListComp elt [⟨.Name sn ps, .Name x px, ifs, 0⟩] scope pos) (dLcLkJ2 i s j c e (own.map (·.2))) :=
  DL'.mk' (pe_lock (pe_lc (g := gOf X.K [s] (tgN s)) (tt := tOfLkTJ X.K c) (te := tOfLkJ X.K e) hc hN (pi_keys (pe_var hi hv hd hcd)) ok (fun s H C cl fp => (hg s H C cl fp).pg) (fun s H C cl fp => (ht s H C cl fp).pt) (fun s H C cl fp => (he s H C cl fp).pe) hs))
    (snd_lcLkJ2 (hg X.s_0 (fun _ => none) 0 [] []).sn (ht X.s_0 (fun _ => none) 0 [] []).sn (he X.s_0 (fun _ => none) 0 [] []).sn hsub)
end
end DL
/-! DZJ: a def that may raise, called where it does not. -/
namespace DL
open PySem PySem.Spec PyProof.Rows L2
section
variable {P : Program} {w : World} {K : PySem.W.Frag} {mg : Str → Option Value} {base : Heap}
/-- the promise without an exception -/
def noX (S : DSpX) : DSp := fun g ds f Q => S g ds f Q (fun _ _ => False)
theorem calX_pure {k : Nat} {x : Str} {ps : List Str} {S : DSpX} (c : CalX P w K mg base k x ps S) : Cal P w K mg base k x ps (noX S) := by
  obtain ⟨f, fd, F, h1, h2, h3⟩ := c
  have imp : ∀ vs H Q E, spOf K (noX S) vs H Q E → spX K S vs H Q (fun _ _ _ => False) := fun vs H Q E ⟨g, Hs, ds, n, Q', a, b, c, d, e⟩ => ⟨g, Hs, ds, n, Q', fun _ _ => False, a, b, c, d, e, fun x f' cls d H' Hs' _ _ _ z => z⟩
  refine ⟨f, fd, ⟨fun vs H Q E h => F.len vs H Q _ (imp _ _ _ _ h), fun A outer s H args us vs Q E hr he hb hv hs => ?_⟩, h1, h2, h3⟩
  refine codeAny_mono (F.run A outer s H args us vs Q (fun _ _ _ => False) hr he hb hv (imp _ _ _ _ hs)) fun r s' h => ?_
  cases r with
  | error e =>
    obtain ⟨a, B, H', cls, d, _, _, _, _, _, _, _, z⟩ := h
    exact z.elim
  | ok v =>
    cases v with
    | ret u => exact h
    | next => exact h
    | brk => exact h
    | cont => exact h
end
end DL
/-! DZK: list(e) of a slice of a frozen tuple. -/
/-! DZL: xs.extend(e) of an owned list, e a new list. -/
namespace DL
open PySem PySem.Spec PyProof.Rows L2
section
variable {X : Cx} {K : PySem.W.Frag} {W : WX}
def sExt (m : Bool) (i : Nat) (dl : DT) : DTS := fun g r f E => ∃ xs, r[i]? = some (.ow xs) ∧ evM m dl g r f fun d f' => ∃ ys, d = .lst ys ∧ xs.length + ys.length ≤ lim ∧ E.nx (r.set i (.ow (xs ++ ys))) f'
theorem snd_ext {m : Bool} {i : Nat} {t : TE} {d : DT} (h : Snd K t d) : SndS K W (tDrop (tBM K "list" rExtend (tVar i) (tCons t tNil))) (sExt m i d) := fun g H0 Hs0 r f st H D E s e hd => by
  obtain ⟨Hs, s⟩ := s
  obtain ⟨xs, hx, hd⟩ := hd
  obtain ⟨a, ha, n1, n0, vs, hv, hr⟩ := s.ow i _ hx rfl
  refine ⟨.ref a, ha, .inl ⟨rfl, vs, SqL.of hv⟩, ?_⟩
  refine snd_evM h s (fun d f' v H' Hs' s' _ hr' q => ?_) hd
  obtain ⟨ys, rfl, hl, q⟩ := q
  obtain ⟨b, zs, rfl, h1, h2⟩ := hr'
  obtain ⟨a', ha', n1', n0', vs', hv', hr2⟩ := s'.ow i _ hx rfl
  rw [ha] at ha'
  cases ha'
  have hlen : vs'.length + zs.length ≤ sizeLine := by rw [← hr2.length, ← h2.length]; exact lim_le hl
  exact ⟨a, b, vs', zs, rfl, rfl, hv', s'.stp.sub _ _ h1, hlen, e.nx _ f' st _ ⟨_, s'.mutOwn (u := .ow (xs ++ ys)) hx rfl ha rfl ⟨vs' ++ zs, upd_same, hr2.append h2⟩⟩ q⟩
theorem ds_ext (m : Bool) {i : Nat} {x : Str} {e : Expr} {px apos cpos pos : Pos} {d : DT} (h : DE X e d) (hN : X.N[i]? = some x := by rfl) (hv : Vis X.env.scope x := by first | exact Or.inl rfl | exact Or.inr (Or.inl rfl) | exact Or.inr (Or.inr rfl)) (hd : (x == ("__debug__" : Str)) = false := by decide)
    (hcd : (x == ("__classdict__" : Str)) = false := by decide) (hP : ∀ t : TE, PE X (.Name x px) (tVar i) → PA X [e] (tCons t tNil) → PE X (.Call (.Attribute (.Name x px) "extend" apos) [e] [] cpos) (tBM X.K "list" rExtend (tVar i) (tCons t tNil)) := by
      exact fun t a b => pe_bm PySem.F.plainAttrs_list PySem.F.slot_list_extend PySem.F.type_list_extend mt_extend a b)
    (hs : swapsWith (.Call (.Attribute (.Name x px) "extend" apos) [e] [] cpos) none pos.line X.env = pure false := by rfl) (hst : starEach [e] X.env = [(false, eval e X.env)] := by rfl) :
    DS X (.Expr (.Call (.Attribute (.Name x px) "extend" apos) [e] [] cpos) pos) (sExt m i d) :=
  DS.mk' (ps_expr (hP _ (pe_var hN hv hd hcd) (pa_cons h.pe pa_nil hst)) hs) (snd_ext h.sn)
end
end DL
namespace DL
open PySem PySem.Spec PyProof.Rows L2
/-! ### values without lists and dicts, instances among them: they do not lean on what slots own -/
mutual
def D.nol : D → Bool
  | .none => true
  | .bool _ => true
  | .int _ => true
  | .str _ => true
  | .tup ds => nolA ds
  | .lst _ => false
  | .dct _ _ => false
  | .dtt _ _ => false
  | .ktup _ => true
  | .ftp ds => nolA ds
  | .obj _ _ ds => nolA ds
  | .exn _ _ _ => false
  | .any _ => true
def nolA : List D → Bool
  | [] => true
  | d :: ds => d.nol && nolA ds
end
section
variable {X : Cx} {K : PySem.W.Frag} {W : WX} {H H' : Hp}
mutual
theorem Rp.nol (e : ∀ a o, H a = some o → isLD o = false → H' a = some o) (e2 : ∀ a C dx fs, H a = some (.ins C dx fs) → H dx = some (.own a) → H' a = some (.ins C dx fs)) : ∀ (d : D) (v : V), d.nol = true → Rp K H d v → Rp K H' d v
  | .none, _, _, h => h
  | .bool _, _, _, h => h
  | .int _, _, _, h => h
  | .str _, _, _, h => h
  | .tup ds, _, f, ⟨a, vs, h1, h2, h3⟩ => ⟨a, vs, h1, e _ _ h2 rfl, RpA.nol e e2 ds vs f h3⟩
  | .lst ds, _, f, _ => by cases f
  | .dct ks ds, _, f, _ => by cases f
  | .dtt ks ds, _, f, _ => by cases f
  | .ktup _, _, _, h => h
  | .ftp ds, _, f, ⟨a, vs, h1, ⟨o, h2, h3⟩, h4⟩ => ⟨a, vs, h1, ⟨o, h2, e _ _ h3 rfl⟩, RpA.nol e e2 ds vs f h4⟩
  | .obj c ns ds, _, f, ⟨C, a, dx, vs, h0, h1, h2, h3, h4, h5⟩ => ⟨C, a, dx, vs, h0, h1, e2 _ _ _ _ h2 h3, e _ _ h3 rfl, h4, RpA.nol e e2 ds vs f h5⟩
  | .exn _ _ _, _, f, _ => by cases f
  | .any _, _, _, h => h
theorem RpA.nol (e : ∀ a o, H a = some o → isLD o = false → H' a = some o) (e2 : ∀ a C dx fs, H a = some (.ins C dx fs) → H dx = some (.own a) → H' a = some (.ins C dx fs)) : ∀ (ds : List D) (vs : List V), nolA ds = true → RpA K H ds vs → RpA K H' ds vs
  | [], _, _, h => h
  | d :: ds, _, f, ⟨v, r, h1, h2, h3⟩ => by
    have f' : d.nol = true ∧ nolA ds = true := Bool.and_eq_true_iff.mp f
    exact ⟨v, r, h1, Rp.nol e e2 d v f'.1 h2, RpA.nol e e2 ds r f'.2 h3⟩
end
section
variable {g : Option Dk} {H0 Hs0 : Hp} {r : Sg} {f f' : Nat} {st : L2.St} {Hs Hs' : Hp}
theorem SIn.nolE (s : SIn K g H0 Hs0 r f st H Hs) (p : Stp g H (plus r st H Hs) H' Hs') : (∀ a o, Hs' a = some o → isLD o = false → minus r st Hs' a = some o) ∧ ∀ a C dx fs, Hs' a = some (.ins C dx fs) → Hs' dx = some (.own a) → minus r st Hs' a = some (.ins C dx fs) := by
  refine ⟨fun a o e l => ?_, fun a C dx fs e e3 => ?_⟩
  · by_cases q : Owned r st a
    · obtain ⟨_, _, sl, _, w⟩ := s.owned q
      obtain ⟨o', ho, ld⟩ := w.ld
      have := p.keep a o' ho (s.notDk q)
      rw [p.sub a o e] at this
      cases this
      rw [ld] at l
      cases l
    · rw [minus_out q]; exact e
  · by_cases q : Owned r st a
    · exfalso
      obtain ⟨_, _, sl, _, w⟩ := s.owned q
      obtain ⟨o', ho, ld⟩ := w.ld
      have k := p.keep a o' ho (s.notDk q)
      rw [p.sub a _ e] at k
      cases k
      cases sl with
      | ow xs => obtain ⟨vs, h1, _⟩ := w; rw [ho] at h1; cases h1
      | od ks xs => obtain ⟨vs, h1, _⟩ := w; rw [ho] at h1; cases h1
      | ot ks xs => obtain ⟨vs, h1, _⟩ := w; rw [ho] at h1; cases h1
      | on w' ks => obtain ⟨vs, h1, _⟩ := w; rw [ho] at h1; cases h1
      | oi b c ns xs =>
        obtain ⟨_, C', dx', vs, _, h1, h2, h3, _⟩ := w
        rw [ho] at h1
        cases h1
        have n := p.new dx _ h2 (by rw [plus_out (s.notOwnedDx h2)]; exact h3)
        rw [n] at e3
        cases e3
      | _ => exact w.elim
    · rw [minus_out q]; exact e
end
def evN (dl : DT) : DT := fun g r f Q => dl g r f fun d f' => d.nol = true ∧ Q d f'
theorem snd_evN {t : TE} {dl : DT} (h : Snd K t dl) {g : Option Dk} {H0 Hs0 : Hp} {r : Sg} {f : Nat} {st : L2.St} {H Hs : Hp} {Q : VK} {Q' : QD} (s : SIn K g H0 Hs0 r f st H Hs)
    (hq : ∀ d f' v H' Hs', SIn K g H0 Hs0 r f' st H' Hs' → Same Hs Hs' → Rp K Hs' d v → Q' d f' → Q v H') (hd : evN dl g r f Q') : t st H Q :=
  h g r f st H _ Q _ s.at (fun d f' v H' Hs' p k hr q => hq d f' v H' _ (s.after p k) (s.afterExt p) (Rp.nol (s.nolE p).1 (s.nolE p).2 d v q.1 hr) q.2) hd
/-- xs[i] = e, where e sees all slots -/
def sSetIxN (i : Nat) (dk dl : DT) : DTS := fun g r f E => ∃ xs, r[i]? = some (.ow xs) ∧ evN dl g r f fun d f1 => dk g r f1 fun k f2 => match k with
  | .int k => ∃ j, ixN xs.length k = some j ∧ E.nx (r.set i (.ow (xs.set j d))) f2
  | _ => False
theorem snd_setIxN {i : Nat} {tk t : TE} {dk d : DT} (hk : Snd K tk dk) (h : Snd K t d) : SndS K W (tAsg t (gSub (tVar i) tk rSetL)) (sSetIxN i dk d) := fun g H0 Hs0 r f st H D E s e hd => by
  obtain ⟨Hs, s⟩ := s
  obtain ⟨xs, hx, hd⟩ := hd
  obtain ⟨a, ha, n1, n0, vs, hv, hr⟩ := s.ow i _ hx rfl
  refine snd_evN h s (fun d f' v H' Hs' s' _ hr' q => ?_) hd
  refine ⟨.ref a, ha, ?_⟩
  refine hk g r f' st H' _ _ _ s'.at (fun k f2 w H2 Hs2 s2 k2 r2 q2 => ?_) q
  have s3 := s'.after s2 k2
  cases k <;> try exact q2.elim
  obtain ⟨j, hj, q2⟩ := q2
  obtain ⟨a', ha', n1', n0', vs', hv', hr2⟩ := s3.ow i _ hx rfl
  rw [ha] at ha'
  cases ha'
  exact ⟨a, vs', _, j, rfl, r2, hv', by rw [← hr2.length]; exact hj, e.nx _ f2 st _ ⟨_, s3.mutOwn (u := .ow (xs.set j d)) hx rfl ha rfl ⟨vs'.set j v, upd_same, hr2.set j (hr'.mono (s'.afterExt s2))⟩⟩ q2⟩
theorem ds_setIxN {i : Nat} {x : Str} {e k : Expr} {px spos pos : Pos} {dk d : DT} (hk : DE X k dk) (h : DE X e d) (hN : X.N[i]? = some x := by rfl) (hv : Vis X.env.scope x := by first | exact Or.inl rfl | exact Or.inr (Or.inl rfl) | exact Or.inr (Or.inr rfl)) (hd : (x == ("__debug__" : Str)) = false := by decide)
    (hcd : (x == ("__classdict__" : Str)) = false := by decide)
    (ha : ∀ v, assign (.Subscript (.Name x px) k spos) X.env v = (do
      let ov ← holding [v] (eval (.Name x px) X.env)
      let iv ← holding [v, ov] (eval k X.env)
      standAt spos
      holding [v, ov, iv] (setItem ov iv v)
      release [v, ov, iv] []) := by intro _; rfl)
    (hs : swapsWithSole [.Subscript (.Name x px) k spos] e pos.line X.env = pure false := by rfl) (hw : swappedStores [.Subscript (.Name x px) k spos] e X.env = pure none := by rfl) (h1 : (assignEach [.Subscript (.Name x px) k spos] X.env).map (·.2) = [assign (.Subscript (.Name x px) k spos) X.env] := by rfl) :
    DS X (.Assign [.Subscript (.Name x px) k spos] e pos) (sSetIxN i dk d) :=
  .mk' (ps_asg h.pe (pg_sub (pe_var hN hv hd hcd) hk.pe set_list ha) hs hw h1) (snd_setIxN hk.sn h.sn)
end
end DL
namespace DL
open PySem PySem.Spec PyProof.Rows L2
def topS (i : Nat) : Stmt := PySem.Challenge.pw_mayrest_k68_modules_moved.main.body.getD i (.Pass ⟨0, 0, 0, 0⟩)
def clsS (i j : Nat) : Stmt := match topS i with
  | .ClassDef _ _ _ b _ _ _ _ _ _ _ => b.getD j (.Pass ⟨0, 0, 0, 0⟩)
  | s => s
abbrev s__law_draw : Stmt := topS 30
abbrev s__law_pick : Stmt := topS 31
abbrev s__law_names : Stmt := topS 32
abbrev s__law_areas : Stmt := topS 33
abbrev s_is_name : Stmt := topS 7
abbrev s_is_path : Stmt := topS 8
abbrev s_covers : Stmt := topS 9
abbrev s_overlap : Stmt := topS 10
abbrev s_first_overlap : Stmt := topS 12
abbrev s_modules_error : Stmt := topS 21
abbrev s__law_shuffled : Stmt := topS 38
abbrev s_is_pair : Stmt := topS 20
abbrev s_uses_error : Stmt := topS 22
abbrev s_last_name : Stmt := topS 11
abbrev s_program_error : Stmt := topS 23
abbrev s_parts_of : Stmt := topS 24
abbrev s_Program___init__ : Stmt := clsS 25 0
abbrev s_Program_modules : Stmt := clsS 25 1
abbrev s_Program_parts : Stmt := clsS 25 3
abbrev s_Program_uses : Stmt := clsS 25 2
abbrev s__law_shown : Stmt := topS 45
abbrev s__law_homes : Stmt := topS 39
abbrev s__law_modules : Stmt := topS 34
abbrev s__law_uses : Stmt := topS 35
abbrev s__law_last : Stmt := topS 40
abbrev s__law_places : Stmt := topS 41
abbrev s__law_carried : Stmt := topS 42
abbrev s__law_parts : Stmt := topS 44
abbrev s_Program___contains__ : Stmt := clsS 25 6
abbrev s__law_has_right : Stmt := topS 46
abbrev s_x_Clash : Stmt := clsS 17 0
abbrev s_moved : Stmt := topS 27
abbrev s_Program___eq__ : Stmt := clsS 25 7
abbrev s__law_stream : Stmt := topS 29
abbrev s_law : Stmt := topS 47
section
set_option maxHeartbeats 0
def exs0 : List FrB := [fun K => decide (PySem.W.nsIn K mainGlobals "Program" = some (some (.ref (He.ga K "Program")))),
  fun K => PySem.W.plainGet K (He.ga K "Program") Str.empty,
  fun K => PySem.W.hasDictIn K (He.ga K "Program"),
  fun K => PySem.W.plainOver K (He.ga K "Program"),
  fun K => decide (PySem.W.findIn K (.ref (He.ga K "Program")) "__setattr__" = some (some (.builtin "object.__setattr__"))),
  fun K => decide (PySem.W.findIn K (.ref (He.ga K "Program")) "__class__" = some (some (.builtin "object.__class__"))),
  fun K => decide (PySem.W.specialIn K (.builtin "object.__class__") "__get__" = some (some (.builtin "getset_descriptor.__get__"))),
  fun K => decide (PySem.W.takesIn K (.builtin "object.__class__") = some true),
  fun K => decide (PySem.W.mroIn K (He.ga K "Program") (.type "object") = some true),
  fun K => decide (PySem.W.subIn K (.ref (He.ga K "Program")) (.type "tuple") = some false),
  fun K => decide (PySem.W.subIn K (.ref (He.ga K "Program")) (.type "str") = some false),
  fun K => decide (PySem.W.subIn K (.type "NoneType") (.ref (He.ga K "Program")) = some false)]
def exs1 : List FrB := [fun K => decide (PySem.W.subIn K (.type "bool") (.ref (He.ga K "Program")) = some false),
  fun K => decide (PySem.W.subIn K (.type "int") (.ref (He.ga K "Program")) = some false),
  fun K => decide (PySem.W.subIn K (.type "str") (.ref (He.ga K "Program")) = some false),
  fun K => decide (PySem.W.subIn K (.type "tuple") (.ref (He.ga K "Program")) = some false),
  fun K => decide (PySem.W.subIn K (.type "list") (.ref (He.ga K "Program")) = some false),
  fun K => decide (PySem.W.subIn K (.type "dict") (.ref (He.ga K "Program")) = some false),
  fun K => decide (PySem.W.typeIn K (.ref (He.ga K "Program")) = some (.type "type")),
  fun K => PySem.W.selfFirst K (He.ga K "Program"),
  fun K => decide (PySem.W.nsIn K mainGlobals "Clash" = some (some (.ref (He.ga K "Clash")))),
  fun K => decide (PySem.W.findIn K (.ref (He.ga K "Program")) "heads" = some none),
  fun K => decide (PySem.W.findIn K (.ref (He.ga K "Program")) "links" = some none),
  fun K => decide (PySem.W.findIn K (.ref (He.ga K "Program")) "places" = some none)]
def exs2 : List FrB := [fun K => decide (PySem.W.findIn K (.ref (He.ga K "Clash")) "__setattr__" = some (some (.builtin "object.__setattr__"))),
  fun K => decide (PySem.W.subIn K (.ref (He.ga K "Clash")) (.type "BaseException") = some true),
  fun K => decide (PySem.W.typeIn K (.ref (He.ga K "Clash")) = some (.type "type")),
  fun K => PySem.W.keepIn K (.ref (He.ga K "Clash")),
  fun K => decide (PySem.W.findIn K (.ref (He.ga K "Clash")) "path" = some none),
  fun K => decide (PySem.W.findIn K (.ref (He.ga K "Clash")) "__init__" = some (some (.ref (He.ma K (He.ga K "Clash") "__init__")))),
  fun K => decide (PySem.W.typeIn K (.ref (He.ma K (He.ga K "Clash") "__init__")) = some (.type "function")),
  fun K => decide (PySem.W.nsIn K mainGlobals "_law_draw" = some (some (.ref (He.ga K "_law_draw")))),
  fun K => decide (PySem.W.nsIn K mainGlobals "_law_pick" = some (some (.ref (He.ga K "_law_pick")))),
  fun K => decide (PySem.W.nsIn K mainGlobals "_law_names" = some (some (.ref (He.ga K "_law_names")))),
  fun K => decide (PySem.W.nsIn K mainGlobals "_law_areas" = some (some (.ref (He.ga K "_law_areas")))),
  fun K => decide (PySem.W.nsIn K mainGlobals "is_name" = some (some (.ref (He.ga K "is_name"))))]
def exs3 : List FrB := [fun K => decide (PySem.W.nsIn K mainGlobals "is_path" = some (some (.ref (He.ga K "is_path")))),
  fun K => decide (PySem.W.nsIn K mainGlobals "covers" = some (some (.ref (He.ga K "covers")))),
  fun K => decide (PySem.W.nsIn K mainGlobals "overlap" = some (some (.ref (He.ga K "overlap")))),
  fun K => decide (PySem.W.nsIn K mainGlobals "first_overlap" = some (some (.ref (He.ga K "first_overlap")))),
  fun K => decide (PySem.W.nsIn K mainGlobals "modules_error" = some (some (.ref (He.ga K "modules_error")))),
  fun K => decide (PySem.W.nsIn K mainGlobals "_law_shuffled" = some (some (.ref (He.ga K "_law_shuffled")))),
  fun K => decide (PySem.W.nsIn K mainGlobals "is_pair" = some (some (.ref (He.ga K "is_pair")))),
  fun K => decide (PySem.W.nsIn K mainGlobals "uses_error" = some (some (.ref (He.ga K "uses_error")))),
  fun K => decide (PySem.W.nsIn K mainGlobals "last_name" = some (some (.ref (He.ga K "last_name")))),
  fun K => decide (PySem.W.nsIn K mainGlobals "program_error" = some (some (.ref (He.ga K "program_error")))),
  fun K => decide (PySem.W.nsIn K mainGlobals "parts_of" = some (some (.ref (He.ga K "parts_of")))),
  fun K => decide (PySem.W.findIn K (.ref (He.ga K "Program")) "__init__" = some (some (.ref (He.ma K (He.ga K "Program") "__init__"))))]
def exs4 : List FrB := [fun K => PySem.W.isFn K (.ref (He.ma K (He.ga K "Program") "__init__")),
  fun K => PySem.W.makesIn K (He.ga K "Program"),
  fun K => PySem.W.keepIn K (.ref (He.ga K "Program")),
  fun K => decide (PySem.W.findIn K (.ref (He.ga K "Program")) "modules" = some (some (.ref (He.ma K (He.ga K "Program") "modules")))),
  fun K => decide (PySem.W.specialIn K (.ref (He.ma K (He.ga K "Program") "modules")) "__get__" = some (some (.builtin "property.__get__"))),
  fun K => decide (PySem.W.takesIn K (.ref (He.ma K (He.ga K "Program") "modules")) = some true),
  fun K => decide (PySem.W.recIn K (He.ma K (He.ga K "Program") "modules") "property" = some (.ref (rcA K (He.ma K (He.ga K "Program") "modules") "property") :: (rcR K (He.ma K (He.ga K "Program") "modules") "property"))),
  fun K => decide (PySem.W.findIn K (.ref (He.ga K "Program")) "parts" = some (some (.ref (He.ma K (He.ga K "Program") "parts")))),
  fun K => decide (PySem.W.specialIn K (.ref (He.ma K (He.ga K "Program") "parts")) "__get__" = some (some (.builtin "property.__get__"))),
  fun K => decide (PySem.W.takesIn K (.ref (He.ma K (He.ga K "Program") "parts")) = some true),
  fun K => decide (PySem.W.recIn K (He.ma K (He.ga K "Program") "parts") "property" = some (.ref (rcA K (He.ma K (He.ga K "Program") "parts") "property") :: (rcR K (He.ma K (He.ga K "Program") "parts") "property"))),
  fun K => decide (PySem.W.findIn K (.ref (He.ga K "Program")) "uses" = some (some (.ref (He.ma K (He.ga K "Program") "uses"))))]
def exs5 : List FrB := [fun K => decide (PySem.W.specialIn K (.ref (He.ma K (He.ga K "Program") "uses")) "__get__" = some (some (.builtin "property.__get__"))),
  fun K => decide (PySem.W.takesIn K (.ref (He.ma K (He.ga K "Program") "uses")) = some true),
  fun K => decide (PySem.W.recIn K (He.ma K (He.ga K "Program") "uses") "property" = some (.ref (rcA K (He.ma K (He.ga K "Program") "uses") "property") :: (rcR K (He.ma K (He.ga K "Program") "uses") "property"))),
  fun K => decide (PySem.W.nsIn K mainGlobals "_law_shown" = some (some (.ref (He.ga K "_law_shown")))),
  fun K => decide (PySem.W.nsIn K mainGlobals "_law_homes" = some (some (.ref (He.ga K "_law_homes")))),
  fun K => decide (PySem.W.nsIn K mainGlobals "_law_modules" = some (some (.ref (He.ga K "_law_modules")))),
  fun K => decide (PySem.W.nsIn K mainGlobals "_law_uses" = some (some (.ref (He.ga K "_law_uses")))),
  fun K => decide (PySem.W.nsIn K mainGlobals "_law_last" = some (some (.ref (He.ga K "_law_last")))),
  fun K => decide (PySem.W.nsIn K mainGlobals "_law_places" = some (some (.ref (He.ga K "_law_places")))),
  fun K => decide (PySem.W.nsIn K mainGlobals "_law_carried" = some (some (.ref (He.ga K "_law_carried")))),
  fun K => decide (PySem.W.nsIn K mainGlobals "_law_parts" = some (some (.ref (He.ga K "_law_parts")))),
  fun K => decide (PySem.W.findIn K (.ref (He.ga K "Program")) "__contains__" = some (some (.ref (He.ma K (He.ga K "Program") "__contains__"))))]
def exs6 : List FrB := [fun K => PySem.W.isFn K (.ref (He.ma K (He.ga K "Program") "__contains__")),
  fun K => decide (PySem.W.nsIn K mainGlobals "_law_has_right" = some (some (.ref (He.ga K "_law_has_right")))),
  fun K => decide (PySem.W.nsIn K mainGlobals "moved" = some (some (.ref (He.ga K "moved")))),
  fun K => decide (PySem.W.findIn K (.ref (He.ga K "Program")) "__eq__" = some (some (.ref (He.ma K (He.ga K "Program") "__eq__")))),
  fun K => PySem.W.isFn K (.ref (He.ma K (He.ga K "Program") "__eq__")),
  fun K => decide (PySem.W.nsIn K mainGlobals "_law_stream" = some (some (.ref (He.ga K "_law_stream")))),
  fun K => decide (PySem.W.nsIn K mainGlobals "law" = some (some (.ref (He.ga K "law")))),
  fun K => decide (PySem.W.nsIn K mainGlobals "len" = some none),
  fun K => decide (PySem.W.nsIn K mainGlobals "int" = some none),
  fun K => decide (PySem.W.nsIn K mainGlobals "range" = some none),
  fun K => decide (PySem.W.nsIn K mainGlobals "all" = some none),
  fun K => decide (PySem.W.nsIn K mainGlobals "str" = some none)]
def exs7 : List FrB := [fun K => decide (PySem.W.nsIn K mainGlobals "isinstance" = some none),
  fun K => decide (PySem.W.nsIn K mainGlobals "enumerate" = some none),
  fun K => decide (PySem.W.nsIn K mainGlobals "tuple" = some none),
  fun K => decide (PySem.W.nsIn K mainGlobals "sorted" = some none),
  fun K => decide (PySem.W.nsIn K mainGlobals "min" = some none),
  fun K => decide (PySem.W.nsIn K mainGlobals "set" = some none),
  fun K => decide (PySem.W.nsIn K mainGlobals "dict" = some none),
  fun K => decide (PySem.W.nsIn K mainGlobals "abs" = some none),
  fun K => decide (PySem.W.nsIn K mainGlobals "list" = some none),
  fun K => decide (PySem.W.nsIn K mainGlobals "LETTERS" = some (some (.str "abcdefghijklmnopqrstuvwxyz" (tkOf K "LETTERS")))),
  fun K => decide (PySem.W.nsIn K mainGlobals "MAX_LETTERS" = some (some (.int 8 (tkOf K "MAX_LETTERS")))),
  fun K => decide (PySem.W.nsIn K mainGlobals "MAX_NAMES" = some (some (.int 6 (tkOf K "MAX_NAMES"))))]
def exs8 : List FrB := [fun K => decide (PySem.W.nsIn K mainGlobals "MAX_MODULES" = some (some (.int 24 (tkOf K "MAX_MODULES")))),
  fun K => decide (PySem.W.nsIn K mainGlobals "MAX_USES" = some (some (.int 200 (tkOf K "MAX_USES")))),
  fun K => oexB K (He.ga K "Clash")]
def exsR : List (List FrB) := [exs0, exs1, exs2, exs3, exs4, exs5, exs6, exs7, exs8]
def exR : List FrB := exsR.map fun l => fun K => l.all fun f => f K
def fnsR : List He5.DefA := [⟨fun K => (He.ga K "_law_draw"), "_law_draw", "_law_draw", defArgs s__law_draw, defBody s__law_draw, defScope s__law_draw, [], []⟩,
  ⟨fun K => (He.ga K "_law_pick"), "_law_pick", "_law_pick", defArgs s__law_pick, defBody s__law_pick, defScope s__law_pick, [], []⟩,
  ⟨fun K => (He.ga K "_law_names"), "_law_names", "_law_names", defArgs s__law_names, defBody s__law_names, defScope s__law_names, [], []⟩,
  ⟨fun K => (He.ga K "_law_areas"), "_law_areas", "_law_areas", defArgs s__law_areas, defBody s__law_areas, defScope s__law_areas, [], []⟩,
  ⟨fun K => (He.ga K "is_name"), "is_name", "is_name", defArgs s_is_name, defBody s_is_name, defScope s_is_name, [], []⟩,
  ⟨fun K => (He.ga K "is_path"), "is_path", "is_path", defArgs s_is_path, defBody s_is_path, defScope s_is_path, [], []⟩,
  ⟨fun K => (He.ga K "covers"), "covers", "covers", defArgs s_covers, defBody s_covers, defScope s_covers, [], []⟩,
  ⟨fun K => (He.ga K "overlap"), "overlap", "overlap", defArgs s_overlap, defBody s_overlap, defScope s_overlap, [], []⟩,
  ⟨fun K => (He.ga K "first_overlap"), "first_overlap", "first_overlap", defArgs s_first_overlap, defBody s_first_overlap, defScope s_first_overlap, [], []⟩,
  ⟨fun K => (He.ga K "modules_error"), "modules_error", "modules_error", defArgs s_modules_error, defBody s_modules_error, defScope s_modules_error, [], []⟩,
  ⟨fun K => (He.ga K "_law_shuffled"), "_law_shuffled", "_law_shuffled", defArgs s__law_shuffled, defBody s__law_shuffled, defScope s__law_shuffled, [], []⟩,
  ⟨fun K => (He.ga K "is_pair"), "is_pair", "is_pair", defArgs s_is_pair, defBody s_is_pair, defScope s_is_pair, [], []⟩,
  ⟨fun K => (He.ga K "uses_error"), "uses_error", "uses_error", defArgs s_uses_error, defBody s_uses_error, defScope s_uses_error, [], []⟩,
  ⟨fun K => (He.ga K "last_name"), "last_name", "last_name", defArgs s_last_name, defBody s_last_name, defScope s_last_name, [], []⟩,
  ⟨fun K => (He.ga K "program_error"), "program_error", "program_error", defArgs s_program_error, defBody s_program_error, defScope s_program_error, [], []⟩,
  ⟨fun K => (He.ga K "parts_of"), "parts_of", "parts_of", defArgs s_parts_of, defBody s_parts_of, defScope s_parts_of, [], []⟩,
  ⟨fun K => (He.ma K (He.ga K "Program") "__init__"), "__init__", "Program.__init__", defArgs s_Program___init__, defBody s_Program___init__, defScope s_Program___init__, [], []⟩,
  ⟨fun K => (rcA K (He.ma K (He.ga K "Program") "modules") "property"), "modules", "Program.modules", defArgs s_Program_modules, defBody s_Program_modules, defScope s_Program_modules, [], []⟩,
  ⟨fun K => (rcA K (He.ma K (He.ga K "Program") "parts") "property"), "parts", "Program.parts", defArgs s_Program_parts, defBody s_Program_parts, defScope s_Program_parts, [], []⟩,
  ⟨fun K => (rcA K (He.ma K (He.ga K "Program") "uses") "property"), "uses", "Program.uses", defArgs s_Program_uses, defBody s_Program_uses, defScope s_Program_uses, [], []⟩,
  ⟨fun K => (He.ga K "_law_shown"), "_law_shown", "_law_shown", defArgs s__law_shown, defBody s__law_shown, defScope s__law_shown, [], []⟩,
  ⟨fun K => (He.ga K "_law_homes"), "_law_homes", "_law_homes", defArgs s__law_homes, defBody s__law_homes, defScope s__law_homes, [], []⟩,
  ⟨fun K => (He.ga K "_law_modules"), "_law_modules", "_law_modules", defArgs s__law_modules, defBody s__law_modules, defScope s__law_modules, [], []⟩,
  ⟨fun K => (He.ga K "_law_uses"), "_law_uses", "_law_uses", defArgs s__law_uses, defBody s__law_uses, defScope s__law_uses, [], []⟩,
  ⟨fun K => (He.ga K "_law_last"), "_law_last", "_law_last", defArgs s__law_last, defBody s__law_last, defScope s__law_last, [], []⟩,
  ⟨fun K => (He.ga K "_law_places"), "_law_places", "_law_places", defArgs s__law_places, defBody s__law_places, defScope s__law_places, [], []⟩,
  ⟨fun K => (He.ga K "_law_carried"), "_law_carried", "_law_carried", defArgs s__law_carried, defBody s__law_carried, defScope s__law_carried, [], []⟩,
  ⟨fun K => (He.ga K "_law_parts"), "_law_parts", "_law_parts", defArgs s__law_parts, defBody s__law_parts, defScope s__law_parts, [], []⟩,
  ⟨fun K => (He.ma K (He.ga K "Program") "__contains__"), "__contains__", "Program.__contains__", defArgs s_Program___contains__, defBody s_Program___contains__, defScope s_Program___contains__, [], []⟩,
  ⟨fun K => (He.ga K "_law_has_right"), "_law_has_right", "_law_has_right", defArgs s__law_has_right, defBody s__law_has_right, defScope s__law_has_right, [], []⟩,
  ⟨fun K => (He.ga K "moved"), "moved", "moved", defArgs s_moved, defBody s_moved, defScope s_moved, [], []⟩,
  ⟨fun K => (He.ma K (He.ga K "Program") "__eq__"), "__eq__", "Program.__eq__", defArgs s_Program___eq__, defBody s_Program___eq__, defScope s_Program___eq__, [], []⟩,
  ⟨fun K => (He.ga K "_law_stream"), "_law_stream", "_law_stream", defArgs s__law_stream, defBody s__law_stream, defScope s__law_stream, [], []⟩,
  ⟨fun K => (He.ga K "law"), "law", "law", defArgs s_law, defBody s_law, defScope s_law, [], []⟩,
  ⟨fun K => (He.ma K (He.ga K "Clash") "__init__"), "__init__", "Clash.__init__", defArgs s_x_Clash, defBody s_x_Clash, defScope s_x_Clash, [], []⟩]
def tabsR : List He.Tab := []
def loose0 : List PySem.Str := ["_wall", "MAX_MODULES", "MAX_NAMES", "MAX_USES", "LETTERS", "MAX_LETTERS", "is_name", "is_path", "covers", "overlap", "last_name", "first_overlap"]
def loose1 : List PySem.Str := ["RestError", "BadProgram", "BadUse", "Clash", "TooMany", "is_pair", "modules_error", "uses_error", "program_error", "parts_of", "Program", "moved"]
def loose2 : List PySem.Str := ["_law_stream", "_law_draw", "_law_pick", "_law_names", "_law_areas", "_law_modules", "_law_uses", "_law_covers", "_law_within", "_law_shuffled", "_law_homes", "_law_last"]
def loose3 : List PySem.Str := ["_law_places", "_law_carried", "_law_possible", "_law_parts", "_law_shown", "_law_has_right"]
def looseR : List PySem.Str := loose0 ++ loose1 ++ loose2 ++ loose3
noncomputable abbrev hkR : PySem.W.Hook := hookY 6 exR fnsR tabsR
noncomputable def obR (s : PySem.W.SharedT) : AlY := obsYG 6 exR fnsR tabsR (HandSHeadRun.getT s)
theorem obR_eq (s : PySem.W.SharedT) : obR s = hkR.obs s.abs := obsYG_eq (HandSHeadRun.getT_eq s)
theorem runR0 (w : World) : HandSHeadRun.RunEq (PySem.W.OpenLaw.row PySem.Challenge.rw_mayrest_k68_modules_moved) (PySem.W.view (PySem.W.OpenLaw.row PySem.Challenge.rw_mayrest_k68_modules_moved).prog [47]) hkR obR 20000 looseR (w.withFollow "special-get-raises" false) := by
  intro os
  kernel_rfl
theorem runR1 (w : World) : HandSHeadRun.RunEq (PySem.W.OpenLaw.row PySem.Challenge.rw_mayrest_k68_modules_moved) (PySem.W.view (PySem.W.OpenLaw.row PySem.Challenge.rw_mayrest_k68_modules_moved).prog [47]) hkR obR 20000 looseR (w.withFollow "special-get-raises" true) := by
  intro os
  kernel_rfl
theorem runR (w : World) : HandSHeadRun.RunEq (PySem.W.OpenLaw.row PySem.Challenge.rw_mayrest_k68_modules_moved) (PySem.W.view (PySem.W.OpenLaw.row PySem.Challenge.rw_mayrest_k68_modules_moved).prog [47]) hkR obR 20000 looseR w := PySem.W.byRow2 "special-get-raises" (P := fun w => HandSHeadRun.RunEq (PySem.W.OpenLaw.row PySem.Challenge.rw_mayrest_k68_modules_moved) (PySem.W.view (PySem.W.OpenLaw.row PySem.Challenge.rw_mayrest_k68_modules_moved).prog [47]) hkR obR 20000 looseR w) runR0 runR1 w
end
set_option maxHeartbeats 200000
section
variable {P : Program} {w : World} {K : PySem.W.Frag} {mg : Str → Option Value} {base : Heap}
theorem sc__law_draw : FnScope ["_law_stream_here", "_law_many", "_law_rest", "_law_turn", "_law_unit", "_law_mixed"] ["_law_stream_here", "_law_many"] (defScope s__law_draw) := ⟨rfl, rfl, rfl, by decide +kernel, rfl, by decide +kernel, by decide +kernel⟩
def Sp__law_draw : DSp := fun g ds f Q => ∃ (k : Dk) (m : Int) (f' : Nat), g = some k ∧ ds = [.any (.ref k.a), .int m] ∧ 0 < m ∧ m < 1000000000 ∧ f = f' + 1 ∧ ∀ r : Int, 0 ≤ r → r < m → Q (.int r) f'
theorem ok__law_draw (d : Df K mg "_law_draw" s__law_draw) (m_len : mg "len" = none) (m_int : mg "int" = none) : Cal P w K mg base 1 "_law_draw" ["_law_stream_here", "_law_many"] Sp__law_draw := by
  obtain ⟨f, fd, F, mm⟩ := d
  refine ⟨f, fd, ?_, F.kp, F.binds fun _ _ _ _ _ _ us hl => match us, hl with | [_, _], _ => rfl, mm⟩
  refine F.ok sc__law_draw (fun vs H Q E h => ?_) (fun cdv A outer s H vs Q E hr h => ?_)
  · obtain ⟨g, Hs, ds, n, Q', h1, h2, h3, ⟨k', m, f', e1, e2, _⟩, h5⟩ := h
    subst e2
    rw [← h3.length]
    rfl
  · obtain ⟨g, Hs, ds, n, Q', h1, h2, h3, ⟨k', m, f', e1, e2, m0, m1, e3, h4⟩, h5⟩ := h
    subst e1 e2 e3
    obtain ⟨v1, v2, rfl, r1, r2⟩ := rpA2 h3
    cases r1
    cases r2
    have dk0 := h2
    obtain ⟨⟨nab, nac, nbc, n, xs, ys, ha, hb, hc, px, py, py0, n0, nf⟩, na, nb, nc, tb⟩ := h2
    refine ⟨_, pss_cons (ps_while PassesOwn.never (pt_cmpR (op_neD hr.units) (pe_ix ix_list (pv 0) pe_int (fun _ _ => rfl)) (pe_lst pa_nil) (nomark _))
        (pss_cons (ps_set (i := 2) sc__law_draw.nd rfl (.inl rfl) (pe_ix ix_list (pe_ix ix_list (pv 0) pe_int (fun _ _ => rfl)) pe_int (fun _ _ => rfl)))
        (pss_cons (ps_if (pt_cmpR op_gt (pv 2) pe_int (nomark _))
          (pss_cons (ps_asg (pe_op op_fdivW (pv 2) (pv 1)) (pg_sub (pe_ix ix_list (pv 0) pe_int (fun _ _ => rfl)) pe_int set_list))
          (pss_one (ps_ret (pe_op op_mod (pe_callTy call_int1 (by rfl) m_int PyProof.Rows.boot_int (pa_cons (pv 2) pa_nil)) (pv 1))))) pss_nil)
        (pss_one (ps_expr (pe_bm PySem.F.plainAttrs_list PySem.F.slot_list_pop PySem.F.type_list_pop mt_popAt (pe_ix ix_list (pv 0) pe_int (fun _ _ => rfl)) (pa_cons pe_int pa_nil)))))))
      (pss_cons (ps_set (i := 3) sc__law_draw.nd rfl (.inl rfl) (pe_op op_add (pe_ix ix_list (pv 0) pe_int (fun _ _ => rfl)) pe_int))
      (pss_cons (ps_asg (pv 3) (pg_sub (pv 0) pe_int set_list))
      (pss_cons (ps_set (i := 4) sc__law_draw.nd rfl (.inl rfl) (pe_op op_mod (pe_callTy call_int1 (by rfl) m_int PyProof.Rows.boot_int (pa_cons (pe_ix ix_list (pe_ix ix_list (pv 0) pe_int (fun _ _ => rfl))
          (pe_op op_mod (pe_callTy call_int1 (by rfl) m_int PyProof.Rows.boot_int (pa_cons (pv 3) pa_nil)) (pe_callB call_len_seq (by rfl) m_len PySem.boot_len (pa_cons (pe_ix ix_list (pv 0) pe_int (fun _ _ => rfl)) pa_nil))) (fun _ _ => rfl)) pa_nil)) pe_int))
      (pss_cons (ps_set (i := 5) sc__law_draw.nd rfl (.inl rfl) (pe_op op_mod (pe_callTy call_int1 (by rfl) m_int PyProof.Rows.boot_int (pa_cons (pe_op op_add (pe_op op_add (pe_op op_mul (pv 4) (pe_op op_add pe_int (pe_op op_mul pe_int (pv 3)))) (pe_op op_mul (pe_op op_mul pe_int (pv 3)) (pv 3))) pe_int) pa_nil)) pe_int))
      (pss_one (ps_ret (pe_op op_mod (pe_op op_fdiv (pe_op op_mod (pe_callTy call_int1 (by rfl) m_int PyProof.Rows.boot_int (pa_cons (pe_op op_mul (pv 5) (pv 5)) pa_nil)) pe_int) pe_int) (pv 1)))))))), ?_⟩
    -- what stays: nothing but the deck's three lists changes
    have fin : ∀ (H3 : Hp) (n3 : Int) (x3 : List Int) (f3 : Nat) (d : D) (v : V), H3 k'.a = some (.lst [.ref k'.b, .ref k'.c, .int n3]) → H3 k'.b = some (.lst (x3.map V.int)) → H3 k'.c = some (.lst (ys.map V.int)) → (∀ x ∈ x3, (0 : Int) ≤ x) → 0 ≤ n3 → n3 + (f3 : Int) ≤ 1000000000000 →
        (∀ b o, b ≠ k'.a → b ≠ k'.b → H b = some o → H3 b = some o) → Rp K Hs d v → Q' d f3 → Q v H3 := by
      intro H3 n3 x3 f3 d v g1 g2 g3 g4 g5 g6 g7 g8 g9
      refine h5 d f3 v H3 Hs ⟨fun b o e => ?_, Same.refl _, fun b o e n => ?_, fun b o e => ?_, fun _ _ _ h => h⟩ ⟨⟨nab, nac, nbc, n3, x3, ys, g1, g2, g3, g4, py, py0, g5, g6⟩, na, nb, nc, tb.to (fun x hx u e1 e2 => ⟨g7 x u (tb.neL hx ha) (tb.neL hx hb) e1, e2⟩) fun _ _ e _ _ => e⟩ g8 g9
      · refine g7 b o (fun z => ?_) (fun z => ?_) (h1 b o e)
        · subst z; rw [na] at e; cases e
        · subst z; rw [nb] at e; cases e
      · exact g7 b o (fun z => n (.inl z)) (fun z => n (.inr (.inl z))) e
      · by_cases z : b = k'.a
        · exact ⟨_, z ▸ g1⟩
        · by_cases z' : b = k'.b
          · exact ⟨_, z' ▸ g2⟩
          · exact ⟨o, g7 b o z z' e⟩
    -- the while
    refine ⟨fun mm st H2 => ∃ y2 zs, mm = zs.length ∧ st = [some (.ref k'.a), some (.int m), y2, none, none, none] ∧ (∀ x ∈ zs, (0 : Int) ≤ x) ∧ H2 k'.a = some (.lst [.ref k'.b, .ref k'.c, .int n]) ∧ H2 k'.b = some (.lst (zs.map V.int)) ∧ H2 k'.c = some (.lst (ys.map V.int)) ∧ ∀ b o, b ≠ k'.a → b ≠ k'.b → H b = some o → H2 b = some o,
      ⟨xs.length, none, xs, rfl, rfl, px, ha, hb, hc, fun _ _ _ _ h => h⟩, ?_⟩
    rintro mm st H2 ⟨y2, zs, rfl, rfl, pz, ea, eb, ec, kp⟩
    refine ⟨.ref k'.a, rfl, k'.a, _, 0, _, rfl, rfl, SqL.of ea, atI0, Nat.zero_le _, fun p hp => ?_⟩
    have epb : k'.b ≠ p := ne_of_none eb hp
    have epa : k'.a ≠ p := ne_of_none ea hp
    have epc : k'.c ≠ p := ne_of_none ec hp
    refine ⟨.list (zs.map PyData.int), .list (([] : List Int).map PyData.int), dp_ints (by rw [upd_ne epb]; exact eb), dp_ints (l := []) upd_same, shaped_ints _, shaped_ints [], ?_⟩
    have ea' : upd H2 p (.lst []) k'.a = some (.lst [.ref k'.b, .ref k'.c, .int n]) := by rw [upd_ne epa]; exact ea
    have eb' : upd H2 p (.lst []) k'.b = some (.lst (zs.map V.int)) := by rw [upd_ne epb]; exact eb
    have ec' : upd H2 p (.lst []) k'.c = some (.lst (ys.map V.int)) := by rw [upd_ne epc]; exact ec
    have kp' : ∀ b o, b ≠ k'.a → b ≠ k'.b → H b = some o → upd H2 p (.lst []) b = some o := fun b o e1 e2 e => by
      have q := kp b o e1 e2 e
      rw [upd_ne (ne_of_none q hp)]
      exact q
    generalize upd H2 p (.lst []) = H3 at ea' eb' ec' kp' ⊢
    cases zs with
    | nil =>
      refine ⟨false, rfl, ?_⟩
      refine iteF ?_
      refine ⟨.ref k'.a, rfl, k'.a, _, 2, _, rfl, rfl, SqL.of ea', rfl, n, 1, rfl, rfl, .int (n + 1), rfl, .ref k'.a, rfl, k'.a, _, 2, 2, rfl, rfl, ea', rfl, ?_⟩
      generalize hH4 : upd H3 k'.a (.lst ([V.ref k'.b, V.ref k'.c, V.int n].set 2 (V.int (n + 1)))) = H4
      have fa : H4 k'.a = some (.lst [.ref k'.b, .ref k'.c, .int (n + 1)]) := by rw [← hH4, upd_same]; rfl
      have fb : H4 k'.b = some (.lst (([] : List Int).map V.int)) := by rw [← hH4, upd_ne (Ne.symm nab)]; exact eb'
      have fc : H4 k'.c = some (.lst (ys.map V.int)) := by rw [← hH4, upd_ne (Ne.symm nac)]; exact ec'
      have keep : ∀ b o, b ≠ k'.a → b ≠ k'.b → H b = some o → H4 b = some o := fun b o e1 e2 e => by
        rw [← hH4, upd_ne e1]
        exact kp' b o e1 e2 e
      have hz : (0 : Int) ≤ (n + 1) % (ys.length : Int) ∧ (n + 1) % (ys.length : Int) < ys.length := ⟨Int.emod_nonneg _ (by omega), Int.emod_lt_of_pos _ (by omega)⟩
      have hj : ((n + 1) % (ys.length : Int)).toNat < ys.length := by omega
      -- number
      refine ⟨.ref k'.a, rfl, k'.a, _, 1, _, rfl, rfl, SqL.of fa, rfl, .int (n + 1), rfl, .inl ⟨n + 1, rfl, ?_⟩⟩
      refine ⟨.ref k'.a, rfl, k'.a, _, 1, _, rfl, rfl, SqL.of fa, rfl, k'.c, ys.map V.int, rfl, .inl (SqL.of fc), n + 1, _, rfl, rfl, ?_, ?_⟩
      · rw [List.length_map]; show (0 : Int) < (ys.length : Int); omega
      refine ⟨k'.c, ys.map V.int, _, .int (ys[((n + 1) % (ys.length : Int)).toNat]'hj), rfl, rfl, SqL.of fc, ?_, .inl ⟨_, rfl, ?_⟩⟩
      · rw [List.length_map]
        have := atI_nat (xs := ys.map V.int) (j := ((n + 1) % (ys.length : Int)).toNat) (v := .int (ys[((n + 1) % (ys.length : Int)).toNat]'hj)) (by rw [List.getElem?_map, List.getElem?_eq_getElem hj]; rfl)
        rw [Int.toNat_of_nonneg hz.1] at this
        exact this
      refine ⟨_, _, rfl, rfl, by show (0 : Int) < 2147483563; decide, ?_⟩
      have num0 := Int.emod_nonneg (ys[((n + 1) % (ys.length : Int)).toNat]'hj) (show (2147483563 : Int) ≠ 0 by decide)
      have num1 := Int.lt_trans (Int.emod_lt_of_pos (ys[((n + 1) % (ys.length : Int)).toNat]'hj) (show (0 : Int) < 2147483563 by decide)) (show (2147483563 : Int) < 2147483647 by decide)
      -- mixed
      refine ⟨_, rfl, .int (n + 1), rfl, 65539, n + 1, rfl, rfl, .inl ⟨by decide, by decide⟩, 52501, _, rfl, rfl, _, _, rfl, rfl, .inl ⟨lo64 num0, hi64 num1⟩, .int (n + 1), rfl, 40503, n + 1, rfl, rfl, .inl ⟨by decide, by decide⟩, .int (n + 1), rfl, _, n + 1, rfl, rfl, .inr ⟨by omega, by omega⟩, _, _, rfl, rfl, _, 97, rfl, rfl, .inl ⟨_, rfl, _, _, rfl, rfl, by show (0 : Int) < 2147483647; decide, ?_⟩⟩
      have mix0 : ∀ x : Int, 0 ≤ x % 2147483647 := fun x => Int.emod_nonneg x (by decide)
      have mix1 : ∀ x : Int, x % 2147483647 < 2147483647 := fun x => Int.emod_lt_of_pos x (by decide)
      refine ⟨_, rfl, _, rfl, _, _, rfl, rfl, .inl ⟨lo64 (mix0 _), hi64 (mix1 _)⟩, .inl ⟨_, rfl, _, _, rfl, rfl, by show (0 : Int) < 2147483629; decide, _, _, rfl, rfl, ⟨by decide, by decide⟩, .int m, rfl, _, m, rfl, rfl, m0, ?_⟩⟩
      exact fin H4 (n + 1) [] f' (.int _) _ fa fb fc (by simp) (by omega) (by omega) keep rfl (h4 _ (Int.emod_nonneg _ (by omega)) (Int.emod_lt_of_pos _ m0))
    | cons z zs =>
      refine ⟨true, rfl, ?_⟩
      refine iteT ?_
      have pz0 : 0 ≤ z := pz z (by simp)
      refine ⟨fun st4 H4 => ∃ y2, st4 = [some (.ref k'.a), some (.int m), y2, none, none, none] ∧ H4 = upd H3 k'.b (.lst (zs.map V.int)), ?_, ?_⟩
      · rintro st4 H4 ⟨y3, rfl, rfl⟩
        refine ⟨zs.length, Nat.lt_succ_self _, y3, zs, rfl, rfl, fun x hx => pz x (by simp [hx]), by rw [upd_ne nab]; exact ea', upd_same, by rw [upd_ne (Ne.symm nbc)]; exact ec', fun b o e1 e2 e => by rw [upd_ne e2]; exact kp' b o e1 e2 e⟩
      refine ⟨.ref k'.a, rfl, k'.a, _, 0, _, rfl, rfl, SqL.of ea', atI0, k'.b, _, 0, _, rfl, rfl, SqL.of eb', atI0, ?_⟩
      refine ⟨.int z, rfl, z, 0, rfl, rfl, _, rfl, ite2 (fun c => ?_) (fun c => ?_)⟩
      · -- a digit of a great cell
        refine ⟨.int z, rfl, .int m, rfl, z, m, rfl, rfl, wide_div (b := 40) m0 (by omega) (by decide) (by decide), ?_⟩
        refine ⟨.ref k'.a, rfl, k'.a, _, 0, _, rfl, rfl, SqL.of ea', atI0, k'.b, _, 0, 0, rfl, rfl, eb', ix0 _, ?_⟩
        refine ⟨.int z, rfl, .inl ⟨z, rfl, .int m, rfl, z, m, rfl, rfl, m0, ?_⟩⟩
        refine fin _ n ((z / m) :: zs) f' (.int _) _ (by rw [upd_ne nab]; exact ea') upd_same (by rw [upd_ne (Ne.symm nbc)]; exact ec') ?_ n0 (by omega) (fun b o e1 e2 e => by rw [upd_ne e2]; exact kp' b o e1 e2 e) rfl (h4 _ (Int.emod_nonneg _ (by omega)) (Int.emod_lt_of_pos _ m0))
        intro x hx
        rcases List.mem_cons.mp hx with e | e
        · rw [e]; exact Int.ediv_nonneg pz0 (by omega)
        · exact pz x (by simp [e])
      · refine ⟨.ref k'.a, rfl, k'.a, _, 0, _, rfl, rfl, SqL.of ea', atI0, .inl ⟨rfl, _, SqL.of eb'⟩, k'.b, _, 0, 0, _, rfl, rfl, eb', by decide, by decide, ?_, rfl, ?_⟩
        · exact (ixN_seq (ix0 _)).1
        · exact ⟨_, rfl, rfl⟩
/-! _law_pick -/
theorem sc__law_pick : FnScope ["_law_stream_here", "_law_items"] ["_law_stream_here", "_law_items"] (defScope s__law_pick) := ⟨rfl, rfl, rfl, by decide +kernel, rfl, by decide +kernel, by decide +kernel⟩
def Sp__law_pick : DSp := fun g ds f Q => (∃ (k : Dk) (xs : List D), g = some k ∧ ds = [.any (.ref k.a), .lst xs] ∧ 0 < xs.length ∧ xs.length ≤ 100000 ∧ 1 ≤ f ∧ ∀ x ∈ xs, ∀ f', f ≤ f' + 1 → Q x f') ∨
  ∃ (k : Dk) (z : Str), g = some k ∧ ds = [.any (.ref k.a), .str z] ∧ 0 < z.length ∧ z.length ≤ 100000 ∧ 1 ≤ f ∧ ∀ c ∈ z.cps.toList, ∀ f', f ≤ f' + 1 → Q (.str ⟨#[c]⟩) f'
set_option maxHeartbeats 2000000 in
theorem ok__law_pick (d : Df K mg "_law_pick" s__law_pick) (m_len : mg "len" = none) (c__law_draw : Cal P w K mg base 1 "_law_draw" ["_law_stream_here", "_law_many"] Sp__law_draw) : Cal P w K mg base 2 "_law_pick" ["_law_stream_here", "_law_items"] Sp__law_pick := by
  obtain ⟨f, fd, F, m⟩ := d
  refine ⟨f, fd, dfn (k := 1) (S := Sp__law_pick) F sc__law_pick ?len (fun cdv A outer s H E hr => (dss_one (ds_ret (de_ix (de_v 1) (de_callC c__law_draw (hr.mono (by decide)) (da_cons (de_v 0) (da_cons (de_len m_len (da_cons (de_v 1) da_nil)) da_nil))))))) ?h, F.kp, F.binds fun _ _ _ _ _ _ us hl => match us, hl with | [_, _], _ => rfl, m⟩
  case len =>
    intro g ds n Q h; rcases h with ⟨_, _, _, rfl, _⟩ | ⟨_, _, _, rfl, _⟩ <;> rfl
  case h =>
    intro g ds n Q h
    rcases h with ⟨k, xs, rfl, rfl, h0, hl, hf, q⟩ | ⟨k, z, rfl, rfl, h0, hl, hf, q⟩
    · obtain ⟨f1, rfl⟩ : ∃ f1, n = f1 + 1 := ⟨n - 1, by omega⟩
      refine ⟨k, (xs.length : Int), f1, rfl, rfl, by omega, by omega, rfl, fun r r0 r1 => ?_⟩
      obtain ⟨d, hd, hm⟩ := atI_mem (xs := xs) r0 r1
      exact ⟨d, hd, q d hm f1 (Nat.le_refl _)⟩
    · obtain ⟨f1, rfl⟩ : ∃ f1, n = f1 + 1 := ⟨n - 1, by omega⟩
      refine ⟨L1 hl, k, (z.length : Int), f1, rfl, rfl, by omega, by omega, rfl, fun r r0 r1 => ?_⟩
      obtain ⟨c, hc, hm⟩ := atI_mem (xs := z.cps.toList) r0 r1
      exact ⟨L1 hl, c, hc, q c hm f1 (Nat.le_refl _)⟩
/-! _law_names -/
theorem sc__law_names : FnScope ["_law_stream_here", "_law_many", "_law_letters", "_law_wide", "_law_place", "_law_shift", "_law_alike", "_law_found", "_law_body", "_law_k", "_law_code", "_law_length", "_law_t"] ["_law_stream_here", "_law_many"] (defScope s__law_names) := ⟨rfl, rfl, rfl, by decide +kernel, rfl, by decide +kernel, by decide +kernel⟩
def chr1 (c : Nat) : Str := ⟨#[c]⟩
theorem letter_eq {r : Int} (h0 : 0 ≤ r) (h1 : r < 26) : atI (Str.ofString "abcdefghijklmnopqrstuvwxyz").cps.toList r = some (97 + r.toNat) := by
  obtain ⟨j, rfl⟩ : ∃ j : Nat, r = j := ⟨r.toNat, by omega⟩
  refine atI_nat ?_
  rw [show (Str.ofString "abcdefghijklmnopqrstuvwxyz").cps.toList = List.range' 97 26 from by decide +kernel]
  rw [List.getElem?_range' (by omega)]
  show some (97 + 1 * j) = some (97 + ((j : Int)).toNat)
  rw [Int.toNat_natCast, Nat.one_mul]
theorem cs_of : ∀ {ys : List D}, (∀ y ∈ ys, ∃ c : Nat, y = .str (chr1 c) ∧ 97 ≤ c ∧ c ≤ 122) → ∃ cs : List Nat, ys = cs.map (fun c => D.str (chr1 c)) ∧ ∀ c ∈ cs, 97 ≤ c ∧ c ≤ 122
  | [], _ => ⟨[], rfl, by simp⟩
  | y :: ys, h => by
    obtain ⟨c, rfl, hc⟩ := h y (by simp)
    obtain ⟨cs, rfl, hcs⟩ := cs_of (ys := ys) fun z hz => h z (by simp [hz])
    exact ⟨c :: cs, rfl, fun d hd => (List.mem_cons.mp hd).elim (fun e => e ▸ hc) (hcs d)⟩
theorem cd_codes (cs : List Nat) : cd (Txt.join "" (cs.map chr1)) = cs := by
  rw [join_nil_cd, List.map_map]
  induction cs with
  | nil => rfl
  | cons c cs ih => rw [List.map_cons, List.flatten_cons, ih]; rfl
theorem cd_len (s : Str) : (cd s).length = s.length := (TL.len_tl s).symm
theorem cd_app (a b : Str) : cd (a ++ b) = cd a ++ cd b := TL.tl_append a b
theorem cd_to {b : Str} {p : Nat} (h : p ≤ b.length) : cd (cutS b none (some (p : Int))) = (cd b).take p := by
  show ((b.cps.toList.drop (HT.sIx b.length 0 none)).take (HT.sIx b.length b.length (some (p : Int)) - HT.sIx b.length 0 none)) = _
  rw [HT.sIx_none, show HT.sIx b.length b.length (some (p : Int)) = min p b.length from HT.sIx_nat b.length b.length p, Nat.min_eq_left h]
  rfl
theorem cd_from {b : Str} {p : Nat} (h : p ≤ b.length) : cd (cutS b (some (p : Int)) none) = (cd b).drop p := by
  show ((b.cps.toList.drop (HT.sIx b.length 0 (some (p : Int)))).take (HT.sIx b.length b.length none - HT.sIx b.length 0 (some (p : Int)))) = _
  rw [HT.sIx_none, show HT.sIx b.length 0 (some (p : Int)) = min p b.length from HT.sIx_nat b.length 0 p, Nat.min_eq_left h]
  refine List.take_of_length_le ?_
  rw [List.length_drop]
  exact Nat.le_of_eq (congrArg (· - p) (cd_len b))
/-- a body of letters -/
def Bd (b : Str) : Prop := ∀ c ∈ cd b, 97 ≤ c ∧ c ≤ 122
def Sp__law_names : DSp := fun g ds f Q => ∃ (k : Dk) (m : Nat), g = some k ∧ ds = [.any (.ref k.a), .int m] ∧ m ≤ 26 ∧ 250 ≤ f ∧
  ∀ (l : List Str) f', l.length = m → (∀ n ∈ l, isName n) → l.Nodup → f ≤ f' + 250 → Q (.lst (l.map D.str)) f'
set_option maxHeartbeats 2000000 in
theorem ok__law_names (d : Df K mg "_law_names" s__law_names) (m_range : mg "range" = none) (m_int : mg "int" = none) (c__law_pick : Cal P w K mg base 2 "_law_pick" ["_law_stream_here", "_law_items"] Sp__law_pick) (c__law_draw : Cal P w K mg base 1 "_law_draw" ["_law_stream_here", "_law_many"] Sp__law_draw) : Cal P w K mg base 3 "_law_names" ["_law_stream_here", "_law_many"] Sp__law_names := by
  obtain ⟨f, fd, F, m⟩ := d
  refine ⟨f, fd, dfn (k := 2) (S := Sp__law_names) F sc__law_names ?len (fun cdv A outer s H E hr => (dss_cons (ds_set false (i := 2) sc__law_names.nd de_str)
      (dss_cons (ds_set false (i := 3) sc__law_names.nd (de_ifExp (dp_gt (de_v 1) de_int) de_int (de_add de_int (de_callC c__law_draw (hr.mono (by decide)) (da_cons (de_v 0) (da_cons de_int da_nil))))))
      (dss_cons (ds_par3 false (i := 4) (j := 5) (l := 6) sc__law_names.nd (de_callC c__law_draw (hr.mono (by decide)) (da_cons (de_v 0) (da_cons (de_sub de_int (de_v 3)) da_nil))) (de_callC c__law_draw (hr.mono (by decide)) (da_cons (de_v 0) (da_cons de_int da_nil))) (de_eq hr.units (de_callC c__law_draw (hr.mono (by decide)) (da_cons (de_v 0) (da_cons de_int da_nil))) de_int))
      (dss_cons (ds_parLS (i := 7) (j := 8) sc__law_names.nd (dl_lst da_nil) (de_str))
      (dss_cons (ds_for [] PassesOwn.never (di_range1 m_range (da_cons (de_v 1) da_nil)) (dg_name (i := 9) sc__law_names.nd) (dss_cons (ds_if (DW.p (dw_or (dp_eq hr.units (de_v 9) de_int) (dw_or1 (dp_not (dp_val (de_v 6)))))) (dss_cons (ds_set false (i := 11) sc__law_names.nd (de_add (de_v 4) (de_callC c__law_draw (hr.mono (by decide)) (da_cons (de_v 0) (da_cons (de_sub (de_sub de_int (de_v 3)) (de_v 4)) da_nil)))))
      (dss_one (ds_set false (i := 8) sc__law_names.nd (de_join de_str (dl_lc (own := [("_law_t", 12)]) rfl sc__law_names.nd (di_range1 m_range (da_cons (de_v 11) da_nil)) (blkOk_by (own := [("_law_t", 12)]) (N := ["_law_stream_here", "_law_many", "_law_letters", "_law_wide", "_law_place", "_law_shift", "_law_alike", "_law_found", "_law_body", "_law_k", "_law_code", "_law_length", "_law_t"]) (sc := defScope s__law_names) (by decide +kernel)) (fun _ _ _ _ _ => dg_name (i := 12) sc__law_names.nd) (fun _ _ _ _ _ => dts_nil) (fun _ _ _ _ _ => (de_callC c__law_pick (hr.mono (by decide)) (da_cons (de_v 0) (da_cons (de_v 2) da_nil))))).e)))) dss_nil)
      (dss_cons (ds_set false (i := 10) sc__law_names.nd (de_ix (de_v 2) (de_mod (de_callTy call_int1 sc_int (by rfl) m_int PyProof.Rows.boot_int (da_cons (de_add (de_v 9) (de_v 5)) da_nil)) de_int)))
      (dss_cons (ds_if (dp_eq hr.units (de_v 3) de_int) (dss_one (ds_set false (i := 10) sc__law_names.nd (de_add (de_ix (de_v 2) (de_mod (de_callTy call_int1 sc_int (by rfl) m_int PyProof.Rows.boot_int (da_cons (de_add (de_fdiv (de_v 9) de_int) (de_v 5)) da_nil)) de_int)) (de_v 10)))) dss_nil)
      (dss_one (ds_app false (i := 7) (de_add (de_add (de_sl (de_v 8) do_none (do_some (de_v 4))) (de_v 10)) (de_sl (de_v 8) (do_some (de_v 4)) do_none))))))))
      (dss_one (ds_ret (de_v 7))))))))) ?h, F.kp, F.binds fun _ _ _ _ _ _ us hl => match us, hl with | [_, _], _ => rfl, m⟩
  case len =>
    intro g ds n Q h; obtain ⟨_, _, _, rfl, _⟩ := h; rfl
  case h =>
    intro g ds n Q h
    obtain ⟨k, m, rfl, rfl, hm, hf, q⟩ := h
    obtain ⟨f1, rfl⟩ : ∃ f1, n = f1 + 250 := ⟨n - 250, by omega⟩
    have lc : ∀ c ∈ (Str.ofString "abcdefghijklmnopqrstuvwxyz").cps.toList, 97 ≤ c ∧ c ≤ 122 := by decide +kernel
    show if decide ((m : Int) > 26) = true then _ else _
    rw [decide_eq_false (by omega)]
    refine iteF ⟨k, 2, f1 + 249, rfl, rfl, by decide, by decide, rfl, fun w0 w1 w2 => ?_⟩
    obtain ⟨wd, hwd⟩ : ∃ z : Nat, 1 + w0 = (z : Int) := ⟨(1 + w0).toNat, by omega⟩
    simp only [oAdd]
    rw [hwd]
    simp only [List.set_cons_succ, List.set_cons_zero, setsR, startR, List.map_cons, List.map_nil, List.cons_append, List.nil_append, List.replicate_succ, List.replicate_zero, List.length_cons, List.length_nil, Nat.reduceAdd, Nat.reduceSub]
    refine ⟨k, 9 - (wd : Int), f1 + 248, rfl, rfl, by omega, by omega, rfl, fun pl p0 p1 => ?_⟩
    obtain ⟨pl, rfl⟩ : ∃ z : Nat, pl = (z : Int) := ⟨pl.toNat, by omega⟩
    refine ⟨k, 26, f1 + 247, rfl, rfl, by decide, by decide, rfl, fun sh s0 s1 => ?_⟩
    refine ⟨k, 2, f1 + 246, rfl, rfl, by decide, by decide, rfl, fun al a0 a1 => ?_⟩
    refine ⟨Nat.zero_le _, ?_⟩
    simp only [List.set_cons_succ, List.set_cons_zero, setsR, startR, List.map_cons, List.map_nil, List.cons_append, List.nil_append, List.replicate_succ, List.replicate_zero, List.length_cons, List.length_nil, Nat.reduceAdd, Nat.reduceSub]
    refine ⟨by omega, by omega, ?_⟩
    have e0 : ((m : Int)).toNat = m := by omega
    rw [e0]
    refine dFor_range (fun i r f => ∃ (x y w v : Sl) (l : List Str) (b : Str), r = [.sh (.any (.ref k.a)), .sh (.int m), .sh (.str (Str.ofString "abcdefghijklmnopqrstuvwxyz")), .sh (.int wd), .sh (.int pl), .sh (.int sh), .sh (.bool (xb false (decide (al = 0)))), .ow (l.map D.str), .sh (.str b), x, y, w, v] ∧ l.length = i ∧ (∀ n ∈ l, isName n) ∧ (∀ j (h : j < l.length), (cd l[j])[pl + wd - 1]? = some (97 + (((j : Int) + sh) % 26).toNat)) ∧ (0 < i → Bd b ∧ pl ≤ b.length ∧ b.length + wd ≤ 8) ∧ f1 + 250 ≤ f + 8 * i + 4) 0 _ _ _ ?_ (fun r f => ?_) ⟨_, _, _, _, [], "", rfl, rfl, by simp, fun j h => by simp at h, by simp, by show f1 + 250 ≤ f1 + 246 + 8 * 0 + 4; omega⟩
    · rintro i r f N hi ⟨x, y, w, v, l, b, rfl, hl2, hn, hc, hb, hf2⟩ hN
      refine ⟨_, rfl, ?_⟩
      refine mid (fun r f => ∃ (y w v : Sl) (b : Str), r = [.sh (.any (.ref k.a)), .sh (.int m), .sh (.str (Str.ofString "abcdefghijklmnopqrstuvwxyz")), .sh (.int wd), .sh (.int pl), .sh (.int sh), .sh (.bool (xb false (decide (al = 0)))), .ow (l.map D.str), .sh (.str b), .sh (.int (0 + (i : Int))), y, w, v] ∧ (Bd b ∧ pl ≤ b.length ∧ b.length + wd ≤ 8) ∧ f1 + 250 ≤ f + 8 * (i + 1) + 4) ?_ (fun hk => ?_)
      · rintro r f ⟨y, w, v, b, rfl, ⟨hb1, hb2, hb3⟩, hf3⟩
        have v0 := Int.emod_nonneg ((0 + (i : Int)) + sh) (show (26 : Int) ≠ 0 by decide)
        have v1 := Int.emod_lt_of_pos ((0 + (i : Int)) + sh) (show (0 : Int) < 26 by decide)
        have hi0 : ((i : Int) + sh) % 26 = ((0 + (i : Int)) + sh) % 26 := by rw [Int.zero_add]
        refine ⟨show (0 : Int) < 26 by decide, by decide +kernel, _, letter_eq v0 v1, ?_⟩
        simp only [List.set_cons_succ, List.set_cons_zero, setsR, startR, List.map_cons, List.map_nil, List.cons_append, List.nil_append, List.replicate_succ, List.replicate_zero, List.length_cons, List.length_nil, Nat.reduceAdd, Nat.reduceSub]
        refine mid (fun r f => ∃ (w v : Sl) (c : Str), r = [.sh (.any (.ref k.a)), .sh (.int m), .sh (.str (Str.ofString "abcdefghijklmnopqrstuvwxyz")), .sh (.int wd), .sh (.int pl), .sh (.int sh), .sh (.bool (xb false (decide (al = 0)))), .ow (l.map D.str), .sh (.str b), .sh (.int (0 + (i : Int))), .sh (.str c), w, v] ∧ Bd c ∧ c.length = wd ∧ (cd c)[wd - 1]? = some (97 + (((i : Int) + sh) % 26).toNat) ∧ f1 + 250 ≤ f + 8 * (i + 1) + 4) ?_ (fun hk2 => ?_)
        · rintro r f ⟨w, v, c, rfl, hc1, hc2, hc3, hf4⟩
          have la : (cutS b none (some (pl : Int))).length = pl := by
            rw [← cd_len, cd_to hb2, List.length_take, cd_len]
            exact Nat.min_eq_left hb2
          have lb : (cutS b (some (pl : Int)) none).length = b.length - pl := by
            rw [← cd_len, cd_from hb2, List.length_drop, cd_len]
          have L : ∀ {n : Nat}, n ≤ 100 → n ≤ lim := fun h => Nat.le_trans h (by decide)
          refine ⟨_, rfl, L (by omega), L (by rw [la]; omega), L (by omega), L (by rw [app_len, la, lb]; omega), L (by rw [List.length_map]; omega), ?_⟩
          refine hN _ _ ⟨_, _, _, _, l ++ [cutS b none (some (pl : Int)) ++ c ++ cutS b (some (pl : Int)) none], b, by rw [List.map_append]; rfl, by rw [List.length_append, hl2]; rfl, fun x hx => ?_, fun j hj' => ?_, fun _ => ⟨hb1, hb2, hb3⟩, by omega⟩
          · rcases List.mem_append.mp hx with h | h
            · exact hn x h
            · rw [List.mem_singleton.mp h]
              refine ⟨?_, ?_, fun d hd => ?_⟩
              · rw [app_len, app_len, la, lb]; omega
              · rw [app_len, app_len, la, lb]; omega
              · have hd : d ∈ cd (cutS b none (some (pl : Int)) ++ c ++ cutS b (some (pl : Int)) none) := hd
                rw [cd_app, cd_app, cd_to hb2, cd_from hb2] at hd
                rcases List.mem_append.mp hd with h | h
                · rcases List.mem_append.mp h with h | h
                  · exact hb1 d (List.mem_of_mem_take h)
                  · exact hc1 d h
                · exact hb1 d (List.mem_of_mem_drop h)
          · rw [List.length_append] at hj'
            have hj' : j < l.length + 1 := hj'
            by_cases hjl : j < l.length
            · rw [List.getElem_append_left hjl]
              exact hc j hjl
            · have : j = l.length := by omega
              subst this
              rw [List.getElem_append_right (Nat.le_refl _)]
              simp only [Nat.sub_self, List.getElem_cons_zero]
              rw [cd_app, cd_app, cd_to hb2, cd_from hb2]
              have lt : ((cd b).take pl).length = pl := by rw [List.length_take, cd_len]; exact Nat.min_eq_left hb2
              rw [List.getElem?_append_left (by rw [List.length_append, lt, cd_len]; omega), List.getElem?_append_right (by rw [lt]; omega), lt, show pl + wd - 1 - pl = wd - 1 by omega, hc3, hl2]
        · show if decide ((wd : Int) = 2) = true then _ else _
          by_cases h2 : (wd : Int) = 2
          · rw [decide_eq_true h2]
            refine iteT ?_
            have u0 := Int.emod_nonneg ((0 + (i : Int)) / 26 + sh) (show (26 : Int) ≠ 0 by decide)
            have u1 := Int.emod_lt_of_pos ((0 + (i : Int)) / 26 + sh) (show (0 : Int) < 26 by decide)
            refine ⟨⟨by decide, by decide⟩, show (0 : Int) < 26 by decide, by decide +kernel, _, letter_eq u0 u1, show 1 + 1 ≤ lim by decide, ?_⟩
            have w2 : wd = 2 := by omega
            refine hk2 _ _ ⟨_, _, _, rfl, fun c hc => ?_, ?_, ?_, by omega⟩
            · have hc : c ∈ [97 + (((0 + (i : Int)) / 26 + sh) % 26).toNat, 97 + ((0 + (i : Int) + sh) % 26).toNat] := hc
              simp only [List.mem_cons, List.not_mem_nil, or_false] at hc
              rcases hc with rfl | rfl <;> omega
            · rw [w2]; rfl
            · rw [w2, hi0]; rfl
          · rw [decide_eq_false h2]
            have w1 : wd = 1 := by omega
            refine iteF (nxt (hk2 _ _ ⟨_, _, _, rfl, fun c hc => ?_, ?_, ?_, by omega⟩))
            · have hc : c ∈ [97 + ((0 + (i : Int) + sh) % 26).toNat] := hc
              rw [List.mem_singleton.mp hc]
              omega
            · rw [w1]; rfl
            · rw [w1, hi0]; rfl
      · have wd1 : 1 ≤ wd := by omega
        show if decide ((0 + (i : Int)) = 0) = true then _ else _
        by_cases hz : (0 + (i : Int)) = 0
        · rw [decide_eq_true hz]
          refine iteT ?_
          obtain ⟨f3, rfl⟩ : ∃ f3, f = f3 + 1 := ⟨f - 1, by omega⟩
          refine ⟨k, 9 - (wd : Int) - (pl : Int), f3, rfl, rfl, by omega, by omega, rfl, fun ln n0 n1 => ?_⟩
          obtain ⟨z, hz2⟩ : ∃ z : Nat, (pl : Int) + ln = (z : Int) := ⟨((pl : Int) + ln).toNat, by omega⟩
          simp only [oAdd]
          rw [hz2]
          simp only [List.set_cons_succ, List.set_cons_zero, setsR, startR, List.map_cons, List.map_nil, List.cons_append, List.nil_append, List.replicate_succ, List.replicate_zero, List.length_cons, List.length_nil, Nat.reduceAdd, Nat.reduceSub]
          refine ⟨trivial, by omega, by omega, by rw [intsD_len]; exact L1 (by omega), ?_⟩
          refine dLcGo_each (P := fun y => ∃ c : Nat, y = .str (chr1 c) ∧ 97 ≤ c ∧ c ≤ 122) 1 _ _ _ (by rw [intsD_len]; omega) (fun d _ => ⟨_, rfl, fun f Q hf hq => .inr ⟨k, _, rfl, rfl, by decide +kernel, by decide +kernel, hf, fun c hc f' hf' => hq _ _ ⟨c, rfl, lc c hc⟩ hf'⟩⟩) (fun ys f' hl hy hf' => ?_)
          rw [intsD_len] at hl hf'
          obtain ⟨cs, rfl, hcs⟩ := cs_of hy
          rw [List.length_map] at hl
          refine ⟨cs.map chr1, by rw [List.map_map]; rfl, join_names _ (fun x hx => ?_) (by rw [List.length_map]; omega) _ (by decide +kernel), ?_⟩
          · obtain ⟨c, _, rfl⟩ := List.mem_map.mp hx
            exact (by decide : 1 ≤ 1000)
          have jl : (Txt.join "" (cs.map chr1)).length = z := by
            rw [← cd_len, cd_codes, hl]
            omega
          exact hk _ _ ⟨_, _, _, Txt.join "" (cs.map chr1), rfl, ⟨fun c hc => by rw [cd_codes] at hc; exact hcs c hc, by omega, by omega⟩, by omega⟩
        · rw [decide_eq_false hz]
          refine iteF ?_
          show if (!(xb false (decide (al = 0)))) = true then _ else _
          by_cases e : al = 0
          · rw [decide_eq_true e] at hk ⊢
            exact iteF (nxt (hk _ _ ⟨_, _, _, b, rfl, hb (by omega), by omega⟩))
          · rw [decide_eq_false e] at hk ⊢
            refine iteT ?_
            obtain ⟨f3, rfl⟩ : ∃ f3, f = f3 + 1 := ⟨f - 1, by omega⟩
            refine ⟨k, 9 - (wd : Int) - (pl : Int), f3, rfl, rfl, by omega, by omega, rfl, fun ln n0 n1 => ?_⟩
            obtain ⟨z, hz2⟩ : ∃ z : Nat, (pl : Int) + ln = (z : Int) := ⟨((pl : Int) + ln).toNat, by omega⟩
            simp only [oAdd]
            rw [hz2]
            simp only [List.set_cons_succ, List.set_cons_zero, setsR, startR, List.map_cons, List.map_nil, List.cons_append, List.nil_append, List.replicate_succ, List.replicate_zero, List.length_cons, List.length_nil, Nat.reduceAdd, Nat.reduceSub]
            refine ⟨trivial, by omega, by omega, by rw [intsD_len]; exact L1 (by omega), ?_⟩
            refine dLcGo_each (P := fun y => ∃ c : Nat, y = .str (chr1 c) ∧ 97 ≤ c ∧ c ≤ 122) 1 _ _ _ (by rw [intsD_len]; omega) (fun d _ => ⟨_, rfl, fun f Q hf hq => .inr ⟨k, _, rfl, rfl, by decide +kernel, by decide +kernel, hf, fun c hc f' hf' => hq _ _ ⟨c, rfl, lc c hc⟩ hf'⟩⟩) (fun ys f' hl hy hf' => ?_)
            rw [intsD_len] at hl hf'
            obtain ⟨cs, rfl, hcs⟩ := cs_of hy
            rw [List.length_map] at hl
            refine ⟨cs.map chr1, by rw [List.map_map]; rfl, join_names _ (fun x hx => ?_) (by rw [List.length_map]; omega) _ (by decide +kernel), ?_⟩
            · obtain ⟨c, _, rfl⟩ := List.mem_map.mp hx
              exact (by decide : 1 ≤ 1000)
            have jl : (Txt.join "" (cs.map chr1)).length = z := by
              rw [← cd_len, cd_codes, hl]
              omega
            exact hk _ _ ⟨_, _, _, Txt.join "" (cs.map chr1), rfl, ⟨fun c hc => by rw [cd_codes] at hc; exact hcs c hc, by omega, by omega⟩, by omega⟩
    · rintro ⟨x, y, w, v, l, b, rfl, hl2, hn, hc, hb, hf2⟩
      refine q l f hl2 hn ?_ (by omega)
      refine List.pairwise_iff_getElem.mpr fun i j hi hj hij e => ?_
      have h1 := hc i hi
      have h2 := hc j hj
      rw [e, h2] at h1
      have h1 := Option.some.inj h1
      omega
/-! _law_areas -/
theorem sc__law_areas : FnScope ["_law_stream_here", "_law_heads", "_law_names_here", "_law_deep", "_law_found", "_law_name", "_law_many"] ["_law_stream_here", "_law_heads", "_law_names_here", "_law_deep"] (defScope s__law_areas) := ⟨rfl, rfl, rfl, by decide +kernel, rfl, by decide +kernel, by decide +kernel⟩
/-- an area: a head some times, and its name -/
def arN (z : Str × Nat × Str) : List Str := List.replicate z.2.1 z.1 ++ [z.2.2]
def arS (z : Str × Nat × Str) : Str := Txt.join "." (arN z)
structure Ars (hs ns : List Str) (d : Nat) (zs : List (Str × Nat × Str)) : Prop where
  n : zs.map (·.2.2) = ns
  h : ∀ z ∈ zs, z.1 ∈ hs ∧ z.2.1 ≤ d
def Sp__law_areas : DSp := fun g ds f Q => ∃ (k : Dk) (hs ns : List Str) (dp : Nat), g = some k ∧ ds = [.any (.ref k.a), .lst (hs.map D.str), .lst (ns.map D.str), .int dp] ∧ 0 < hs.length ∧ hs.length ≤ 100 ∧ (∀ s ∈ hs, isName s) ∧ ns.length ≤ 100 ∧ (∀ s ∈ ns, isName s) ∧ dp ≤ 4 ∧ 3 * ns.length ≤ f ∧
  ∀ zs f', Ars hs ns dp zs → f ≤ f' + 3 * ns.length → Q (.lst ((zs.map arS).map D.str)) f'
set_option maxHeartbeats 2000000 in
theorem ok__law_areas (d : Df K mg "_law_areas" s__law_areas) (c__law_pick : Cal P w K mg base 2 "_law_pick" ["_law_stream_here", "_law_items"] Sp__law_pick) (c__law_draw : Cal P w K mg base 1 "_law_draw" ["_law_stream_here", "_law_many"] Sp__law_draw) : Cal P w K mg base 3 "_law_areas" ["_law_stream_here", "_law_heads", "_law_names_here", "_law_deep"] Sp__law_areas := by
  obtain ⟨f, fd, F, m⟩ := d
  refine ⟨f, fd, dfn (k := 2) (S := Sp__law_areas) F sc__law_areas ?len (fun cdv A outer s H E hr => (dss_cons (ds_setL false (i := 4) sc__law_areas.nd (dl_lst da_nil))
      (dss_cons (ds_for [] PassesOwn.never (di_seq (de_v 2)) (dg_name (i := 5) sc__law_areas.nd) (dss_cons (ds_set false (i := 6) sc__law_areas.nd (de_mul (de_callC c__law_draw (hr.mono (by decide)) (da_cons (de_v 0) (da_cons de_int da_nil))) (de_callC c__law_draw (hr.mono (by decide)) (da_cons (de_v 0) (da_cons (de_add (de_v 3) de_int) da_nil)))))
      (dss_one (ds_app false (i := 4) (de_join de_str (de_add (de_mulL (dl_lst (da_cons (de_callC c__law_pick (hr.mono (by decide)) (da_cons (de_v 0) (da_cons (de_v 1) da_nil))) da_nil)).e (de_v 6)) (dl_lst (da_cons (de_v 5) da_nil)).e))))))
      (dss_one (ds_ret (de_v 4)))))) ?h, F.kp, F.binds fun _ _ _ _ _ _ us hl => match us, hl with | [_, _, _, _], _ => rfl, m⟩
  case len =>
    intro g ds n Q h; obtain ⟨_, _, _, _, _, rfl, _⟩ := h; rfl
  case h =>
    intro g ds n Q h
    obtain ⟨k, hs, ns, dp, rfl, rfl, h0, h1, hhs, hl, hns, hdp, hf, q⟩ := h
    refine ⟨Nat.zero_le _, ?_⟩
    refine dFor_list D.str (fun done rest r f => ∃ (zs : List (Str × Nat × Str)) (a b : Sl), r = [.sh (.any (.ref k.a)), .sh (.lst (hs.map D.str)), .sh (.lst (ns.map D.str)), .sh (.int dp), .ow ((zs.map arS).map D.str), a, b] ∧ Ars hs done dp zs ∧ n ≤ f + 3 * done.length) _ _ _ ?_ ?_ ⟨[], _, _, rfl, ⟨rfl, by simp⟩, by simp⟩
    · rintro done nm rest r f N hx ⟨zs, a, b, rfl, hz, hf2⟩ hN
      have hxl := congrArg List.length hx
      rw [List.length_append, List.length_cons] at hxl
      have hnm : isName nm := hns nm (by rw [hx]; simp)
      obtain ⟨f1, rfl⟩ : ∃ f1, f = f1 + 3 := ⟨f - 3, by omega⟩
      refine ⟨_, rfl, k, 2, f1 + 2, rfl, rfl, by decide, by decide, rfl, fun x x0 x1 => ?_⟩
      refine ⟨k, (dp : Int) + 1, f1 + 1, rfl, rfl, by omega, by omega, rfl, fun y y0 y1 => ?_⟩
      have xy : 0 ≤ x * y ∧ x * y ≤ dp := by
        have : x = 0 ∨ x = 1 := by omega
        rcases this with rfl | rfl
        · rw [Int.zero_mul]; omega
        · rw [Int.one_mul]; omega
      refine ⟨.inl ⟨by omega, by omega⟩, ?_⟩
      have hmd : (x * y).toNat ≤ dp := by omega
      simp only [List.set_cons_succ, List.set_cons_zero, setsR, startR, List.map_cons, List.map_nil, List.cons_append, List.nil_append, List.replicate_succ, List.replicate_zero, List.length_cons, List.length_nil, Nat.reduceAdd, Nat.reduceSub]
      refine ⟨_, rfl, trivial, ?_⟩
      refine .inl ⟨k, _, rfl, rfl, by rw [List.length_map]; exact h0, by rw [List.length_map]; omega, by omega, fun hd hhd f3 hf3 => ?_⟩
      obtain ⟨h, hh, rfl⟩ := List.mem_map.mp hhd
      have rl : (List.replicate (x * y).toNat [D.str h]).flatten = (List.replicate (x * y).toNat h).map D.str := by
        generalize (x * y).toNat = m
        induction m with
        | zero => rfl
        | succ m ih => rw [List.replicate_succ, List.flatten_cons, ih, List.replicate_succ]; rfl
      refine ⟨show 1 ≤ lim by decide, xy.1, by omega, ?_, show 1 ≤ lim by decide, ?_⟩
      · show 1 * (x * y).toNat ≤ lim
        exact L1 (by omega)
      rw [rl]
      refine ⟨?_, arN (h, (x * y).toNat, nm), ?_, ?_, ?_, ?_⟩
      · rw [List.length_map, List.length_replicate]; exact L1 (by show _ + 1 ≤ _; omega)
      · unfold arN
        rw [List.map_append]
        rfl
      · refine join_names _ (fun s hs => ?_) ?_ _ (by decide +kernel)
        · unfold arN at hs
          rcases List.mem_append.mp hs with e | e
          · rw [List.eq_of_mem_replicate e]
            exact Nat.le_trans (hhs h hh).2.1 (by decide)
          · rw [List.mem_singleton.mp e]
            exact Nat.le_trans hnm.2.1 (by decide)
        · unfold arN
          rw [List.length_append, List.length_replicate]
          show (x * y).toNat + 1 ≤ 1000
          omega
      · have zl : zs.length = done.length := by rw [← hz.n, List.length_map]
        rw [List.length_map, List.length_map]
        exact L1 (by omega)
      · refine hN _ _ ⟨zs ++ [(h, (x * y).toNat, nm)], _, _, by rw [List.map_append, List.map_append]; rfl, ⟨by rw [List.map_append, hz.n]; rfl, fun z hz' => ?_⟩, by rw [List.length_append, List.length_singleton]; omega⟩
        rcases List.mem_append.mp hz' with e | e
        · exact hz.h z e
        · rw [List.mem_singleton.mp e]
          exact ⟨hh, hmd⟩
    · rintro r f ⟨zs, a, b, rfl, hz, hf2⟩
      exact q zs f hz hf2
/-! is_name -/
theorem sc_is_name : FnScope ["value", "sign"] ["value"] (defScope s_is_name) := ⟨rfl, rfl, rfl, by decide +kernel, rfl, by decide +kernel, by decide +kernel⟩
def letL : List Nat := (Str.ofString "abcdefghijklmnopqrstuvwxyz").cps.toList
def nmB (s : Str) : Bool := decide (1 ≤ s.length) && decide (s.length ≤ 8) && (cd s).all fun c => decide (c ∈ letL)
def Sp_is_name : DSp := fun _ ds f Q => ∃ s : Str, ds = [.str s] ∧ s.length ≤ 100000 ∧ Q (.bool (nmB s)) f
set_option maxHeartbeats 2000000 in
theorem ok_is_name (d : Df K mg "is_name" s_is_name) (m_all : mg "all" = none) (m_len : mg "len" = none) (m_str : mg "str" = none) (m_isinstance : mg "isinstance" = none) (g_LETTERS : ∃ t, mg "LETTERS" = some (.str "abcdefghijklmnopqrstuvwxyz" t)) (g_MAX_LETTERS : ∃ t, mg "MAX_LETTERS" = some (.int 8 t)) : Cal P w K mg base 1 "is_name" ["value"] Sp_is_name := by
  obtain ⟨f, fd, F, m⟩ := d
  refine ⟨f, fd, dfn (k := 0) (S := Sp_is_name) F sc_is_name ?len (fun cdv A outer s H E hr => (dss_one (ds_ret (de_and (de_isi m_isinstance (da_cons (de_v 0) (da_cons (de_bltn (v := .ty "str") (u := .type "str") (by rfl) m_str (by decide +kernel) rfl) da_nil))) (de_and (de_lele de_int (de_len m_len (da_cons (de_v 0) da_nil)) (de_glob (v := .int 8) (d := .int 8) (by rfl) g_MAX_LETTERS.choose_spec ⟨_, rfl⟩ (fun _ => rfl))) (de_one (de_callB (cr_all rfl) sc_all (by rfl) m_all (by decide +kernel) (da_cons (dl_lc (own := [("sign", 1)]) rfl sc_is_name.nd (di_seq (de_v 0)) (blkOk_by (own := [("sign", 1)]) (N := ["value", "sign"]) (sc := defScope s_is_name) (by decide +kernel)) (fun _ _ _ _ _ => dg_name (i := 1) sc_is_name.nd) (fun _ _ _ _ _ => dts_nil) (fun _ _ _ _ _ => (de_in hr (de_v 1) (de_glob (v := .str "abcdefghijklmnopqrstuvwxyz") (d := .str "abcdefghijklmnopqrstuvwxyz") (by rfl) g_LETTERS.choose_spec ⟨_, rfl⟩ (fun _ => rfl))))).e da_nil)))))))) ?h, F.kp, F.binds fun _ _ _ _ _ _ us hl => match us, hl with | [_], _ => rfl, m⟩
  case len =>
    intro g ds n Q h; obtain ⟨_, rfl, _⟩ := h; rfl
  case h =>
    intro g ds n Q h
    obtain ⟨s, rfl, hl, q⟩ := h
    refine ⟨"str", true, rfl, by decide +kernel, Nat.le_trans hl (by decide), ?_⟩
    unfold nmB at q
    show if decide ((1 : Int) ≤ (s.length : Int)) = true then _ else _
    by_cases h1 : 1 ≤ s.length
    · rw [decide_eq_true (by omega : (1 : Int) ≤ s.length)]
      rw [decide_eq_true h1, Bool.true_and] at q
      show if decide ((s.length : Int) ≤ 8) = true then _ else _
      by_cases h2 : s.length ≤ 8
      · rw [decide_eq_true (by omega : (s.length : Int) ≤ 8)]
        rw [decide_eq_true h2, Bool.true_and] at q
        refine ⟨?_, ?_⟩
        · unfold signs; rw [List.length_map]; rw [TL.len_tl] at h2; exact Nat.le_trans h2 (by decide)
        refine dLcGo_pure (fun _ => true) (fun d => match d with | .str z => .bool ((cd z).all fun c => decide (c ∈ letL)) | _ => .none) _ _ _ (fun d hd => ?_) ?_
        · unfold signs at hd
          obtain ⟨c, hc, rfl⟩ := List.mem_map.mp hd
          refine ⟨_, rfl, fun f Q h => h, fun _ f Q h => ⟨c, rfl, ?_⟩⟩
          have : ((cd (⟨#[c]⟩ : Str)).all fun c => decide (c ∈ letL)) = decide (c ∈ letL) := by show ([c].all fun c => decide (c ∈ letL)) = _; simp
          have h : Q (.bool ((cd (⟨#[c]⟩ : Str)).all fun c => decide (c ∈ letL))) f := h
          rw [this] at h
          exact h
        · refine ⟨(cd s).map fun c => decide (c ∈ letL), ?_, ?_⟩
          · rw [List.filter_eq_self.mpr (fun _ _ => rfl), List.nil_append]
            unfold signs
            rw [List.map_map, List.map_map]
            apply List.map_congr_left
            intro c _
            show D.bool ((cd (⟨#[c]⟩ : Str)).all fun c => decide (c ∈ letL)) = D.bool (decide (c ∈ letL))
            congr 1
            show ([c].all fun c => decide (c ∈ letL)) = _
            simp
          · rw [show (((cd s).map fun c => decide (c ∈ letL)).all id) = (cd s).all fun c => decide (c ∈ letL) from by rw [List.all_map]; rfl]
            exact q
      · rw [decide_eq_false (by omega : ¬ (s.length : Int) ≤ 8)]
        rw [decide_eq_false h2, Bool.false_and] at q
        exact q
    · rw [decide_eq_false (by omega : ¬ (1 : Int) ≤ s.length)]
      rw [decide_eq_false h1, Bool.false_and, Bool.false_and] at q
      exact q
/-! is_path -/
theorem sc_is_path : FnScope ["value", "names", "name"] ["value"] (defScope s_is_path) := ⟨rfl, rfl, rfl, by decide +kernel, rfl, by decide +kernel, by decide +kernel⟩
def pathB (s : Str) : Bool := decide ((Txt.split s ".").length ≤ 6) && (Txt.split s ".").all nmB
def isPathD : D → Bool
  | .str s => pathB s
  | _ => false
def Sp_is_path : DSp := fun _ ds f Q => ∃ x : D, ds = [x] ∧ x.tyd = true ∧ (∀ s, x = .str s → s.length ≤ 100000) ∧ Q (.bool (isPathD x)) f
theorem tyd_isi {x : D} (h : x.tyd = true) : ∃ t, x.tyN = some t ∧ kitB t "str" = some x.isSt := by
  cases x <;> first
    | (cases h; done)
    | (refine ⟨_, rfl, ?_⟩; simp only [D.isSt]; decide +kernel)
theorem split_part_len {s x : Str} (h : x ∈ Txt.split s ".") : x.length ≤ s.length := by
  have hm : cd x ∈ sp (cd s) := by rw [← split_cd]; exact List.mem_map_of_mem h
  have : ∀ (l n : List Nat), n ∈ sp l → n.length ≤ l.length := by
    intro l
    induction l with
    | nil => intro n hn; simp [sp] at hn; simp [hn]
    | cons c r ih =>
      intro n hn
      unfold sp at hn
      split at hn
      · rcases List.mem_cons.mp hn with e | e
        · simp [e]
        · have := ih n e; simp only [List.length_cons]; omega
      · cases e : sp r with
        | nil => exact absurd e (sp_ne r)
        | cons a t =>
          rw [e] at hn ih
          rcases List.mem_cons.mp hn with e' | e'
          · subst e'; have := ih a (by simp); simp only [List.length_cons]; omega
          · have := ih n (by simp [e']); simp only [List.length_cons]; omega
  rw [TL.len_tl, TL.len_tl]
  exact this _ _ hm
set_option maxHeartbeats 2000000 in
theorem ok_is_path (d : Df K mg "is_path" s_is_path) (m_all : mg "all" = none) (m_len : mg "len" = none) (m_str : mg "str" = none) (m_isinstance : mg "isinstance" = none) (g_MAX_NAMES : ∃ t, mg "MAX_NAMES" = some (.int 6 t)) (c_is_name : Cal P w K mg base 1 "is_name" ["value"] Sp_is_name) : Cal P w K mg base 2 "is_path" ["value"] Sp_is_path := by
  obtain ⟨f, fd, F, m⟩ := d
  refine ⟨f, fd, dfn (k := 1) (S := Sp_is_path) F sc_is_path ?len (fun cdv A outer s H E hr => (dss_cons (ds_if (dp_not (dp_val (de_isi m_isinstance (da_cons (de_v 0) (da_cons (de_bltn (v := .ty "str") (u := .type "str") (by rfl) m_str (by decide +kernel) rfl) da_nil))))) (dss_one (ds_ret de_bl)) dss_nil)
      (dss_cons (ds_set false (i := 1) sc_is_path.nd (dl_split (de_v 0) de_str).e)
      (dss_one (ds_ret (de_and (de_le (de_len m_len (da_cons (de_v 1) da_nil)) (de_glob (v := .int 6) (d := .int 6) (by rfl) g_MAX_NAMES.choose_spec ⟨_, rfl⟩ (fun _ => rfl))) (de_one (de_callB (cr_all rfl) sc_all (by rfl) m_all (by decide +kernel) (da_cons (dl_lc (own := [("name", 2)]) rfl sc_is_path.nd (di_seq (de_v 1)) (blkOk_by (own := [("name", 2)]) (N := ["value", "names", "name"]) (sc := defScope s_is_path) (by decide +kernel)) (fun _ _ _ _ _ => dg_name (i := 2) sc_is_path.nd) (fun _ _ _ _ _ => dts_nil) (fun _ _ _ _ _ => (de_callC c_is_name (hr.mono (by decide)) (da_cons (de_v 2) da_nil)))).e da_nil))))))))) ?h, F.kp, F.binds fun _ _ _ _ _ _ us hl => match us, hl with | [_], _ => rfl, m⟩
  case len =>
    intro g ds n Q h; obtain ⟨_, rfl, _⟩ := h; rfl
  case h =>
    intro g ds n Q h
    obtain ⟨x, rfl, hx, hl, q⟩ := h
    obtain ⟨t, ht, hk⟩ := tyd_isi hx
    refine ⟨t, _, ht, hk, ?_⟩
    cases x with
    | str s =>
      have hs := hl s rfl
      refine ⟨by decide +kernel, Nat.le_trans hs (by decide), ?_⟩
      show if decide ((((Txt.split s ".").map D.str).length : Int) ≤ 6) = true then _ else _
      rw [List.length_map]
      have q : Q (.bool (decide ((Txt.split s ".").length ≤ 6) && (Txt.split s ".").all nmB)) n := q
      by_cases h6 : (Txt.split s ".").length ≤ 6
      · rw [decide_eq_true (by omega : ((Txt.split s ".").length : Int) ≤ 6)]
        rw [decide_eq_true h6, Bool.true_and] at q
        refine ⟨by rw [List.length_map]; exact Nat.le_trans h6 (by decide), ?_⟩
        refine dLcGo_pure (fun _ => true) (fun d => match d with | .str z => .bool (nmB z) | _ => .none) _ _ _ (fun d hd => ?_) ?_
        · obtain ⟨z, hz, rfl⟩ := List.mem_map.mp hd
          exact ⟨_, rfl, fun f Q h => h, fun _ f Q h => ⟨z, rfl, Nat.le_trans (split_part_len hz) hs, h⟩⟩
        · refine ⟨(Txt.split s ".").map nmB, ?_, ?_⟩
          · rw [List.filter_eq_self.mpr (fun _ _ => rfl), List.nil_append, List.map_map, List.map_map]; rfl
          · rw [show (((Txt.split s ".").map nmB).all id) = (Txt.split s ".").all nmB from by rw [List.all_map]; rfl]
            exact q
      · rw [decide_eq_false (by omega : ¬ ((Txt.split s ".").length : Int) ≤ 6)]
        rw [decide_eq_false h6, Bool.false_and] at q
        exact q
    | dtt _ _ => cases hx
    | ktup _ => cases hx
    | ftp _ => cases hx
    | obj _ _ _ => cases hx
    | any _ => cases hx
    | _ => exact q
/-! covers -/
theorem sc_covers : FnScope ["path", "other"] ["path", "other"] (defScope s_covers) := ⟨rfl, rfl, rfl, by decide +kernel, rfl, by decide +kernel, by decide +kernel⟩
def Sp_covers : DSp := fun _ ds f Q => ∃ p o : Str, ds = [.str p, .str o] ∧ p.length ≤ 100000 ∧ Q (.bool (cov p o)) f
set_option maxHeartbeats 2000000 in
theorem ok_covers (d : Df K mg "covers" s_covers) : Cal P w K mg base 1 "covers" ["path", "other"] Sp_covers := by
  obtain ⟨f, fd, F, m⟩ := d
  refine ⟨f, fd, dfn (k := 0) (S := Sp_covers) F sc_covers ?len (fun cdv A outer s H E hr => (dss_one (ds_ret (de_or (de_eq hr.units (de_v 1) (de_v 0)) (de_one (de_starts (de_v 1) (de_add (de_v 0) de_str))))))) ?h, F.kp, F.binds fun _ _ _ _ _ _ us hl => match us, hl with | [_, _], _ => rfl, m⟩
  case len =>
    intro g ds n Q h; obtain ⟨_, _, rfl, _⟩ := h; rfl
  case h =>
    intro g ds n Q h
    obtain ⟨p, o, rfl, hl, q⟩ := h
    unfold cov at q
    show if decide (o = p) = true then Q (.bool true) n else _
    cases e : decide (o = p) with
    | true => rw [e] at q; exact q
    | false =>
      rw [e] at q
      refine iteF ⟨trivial, ?_, q⟩
      exact Nat.le_trans (Nat.add_le_add_right hl 1) (by decide)
/-! overlap -/
theorem sc_overlap : FnScope ["path", "other"] ["path", "other"] (defScope s_overlap) := ⟨rfl, rfl, rfl, by decide +kernel, rfl, by decide +kernel, by decide +kernel⟩
def Sp_overlap : DSp := fun _ ds f Q => ∃ p o : Str, ds = [.str p, .str o] ∧ p.length ≤ 100000 ∧ o.length ≤ 100000 ∧ Q (.bool (cov p o || cov o p)) f
set_option maxHeartbeats 2000000 in
theorem ok_overlap (d : Df K mg "overlap" s_overlap) (c_covers : Cal P w K mg base 1 "covers" ["path", "other"] Sp_covers) : Cal P w K mg base 2 "overlap" ["path", "other"] Sp_overlap := by
  obtain ⟨f, fd, F, m⟩ := d
  refine ⟨f, fd, dfn (k := 1) (S := Sp_overlap) F sc_overlap ?len (fun cdv A outer s H E hr => (dss_one (ds_ret (de_or (de_callC c_covers (hr.mono (by decide)) (da_cons (de_v 0) (da_cons (de_v 1) da_nil))) (de_one (de_callC c_covers (hr.mono (by decide)) (da_cons (de_v 1) (da_cons (de_v 0) da_nil)))))))) ?h, F.kp, F.binds fun _ _ _ _ _ _ us hl => match us, hl with | [_, _], _ => rfl, m⟩
  case len =>
    intro g ds n Q h; obtain ⟨_, _, rfl, _⟩ := h; rfl
  case h =>
    intro g ds n Q h
    obtain ⟨p, o, rfl, h1, h2, q⟩ := h
    refine ⟨p, o, rfl, h1, ?_⟩
    cases e : cov p o with
    | true => rw [e] at q; exact q
    | false =>
      rw [e] at q
      exact ⟨o, p, rfl, h2, q⟩
/-! first_overlap -/
theorem sc_first_overlap : FnScope ["paths", "others", "path", "other"] ["paths", "others"] (defScope s_first_overlap) := ⟨rfl, rfl, rfl, by decide +kernel, rfl, by decide +kernel, by decide +kernel⟩
def ovl (p o : Str) : Bool := cov p o || cov o p
def firstOv (ps os : List Str) : D := match ps.find? fun p => os.any (ovl p) with
  | some p => .str p
  | none => .none
def short (l : List Str) : Prop := l.length ≤ 1000 ∧ ∀ s ∈ l, s.length ≤ 10000 ∧ asc s
def Sp_first_overlap : DSp := fun _ ds f Q => ∃ ps os : List Str, (ds = [.tup (ps.map D.str), .tup (os.map D.str)] ∨ ds = [.tup (ps.map D.str), .lst (os.map D.str)]) ∧ short ps ∧ short os ∧ Q (firstOv ps os) f
theorem any_filter (os : List Str) (b : Str → Bool) : decide (os.filter b = []) = !os.any b := by
  induction os with
  | nil => rfl
  | cons x l ih =>
    rw [List.filter_cons, List.any_cons]
    cases b x with
    | true => simp
    | false => simpa using ih
set_option maxHeartbeats 2000000 in
theorem ok_first_overlap (d : Df K mg "first_overlap" s_first_overlap) (c_overlap : Cal P w K mg base 2 "overlap" ["path", "other"] Sp_overlap) : Cal P w K mg base 3 "first_overlap" ["paths", "others"] Sp_first_overlap := by
  obtain ⟨f, fd, F, m⟩ := d
  refine ⟨f, fd, dfn (k := 2) (S := Sp_first_overlap) F sc_first_overlap ?len (fun cdv A outer s H E hr => (dss_cons (ds_for [] PassesOwn.never (di_seq (de_v 0)) (dg_name (i := 2) sc_first_overlap.nd) (dss_one (ds_if (dp_ne hr.units (dl_lc (own := [("other", 3)]) rfl sc_first_overlap.nd (di_seq (de_v 1)) (blkOk_by (own := [("other", 3)]) (N := ["paths", "others", "path", "other"]) (sc := defScope s_first_overlap) (by decide +kernel)) (fun _ _ _ _ _ => dg_name (i := 3) sc_first_overlap.nd) (fun _ _ _ _ _ => dts_one (dp_val (de_callC c_overlap (hr.mono (by decide)) (da_cons (de_v 2) (da_cons (de_v 3) da_nil))))) (fun _ _ _ _ _ => (de_v 3))).e (dl_lst da_nil).e) (dss_one (ds_ret (de_v 2))) dss_nil)))
      (dss_one (ds_ret de_non)))) ?h, F.kp, F.binds fun _ _ _ _ _ _ us hl => match us, hl with | [_, _], _ => rfl, m⟩
  case len =>
    intro g ds n Q h; obtain ⟨_, _, rfl | rfl, _⟩ := h <;> rfl
  case h =>
    intro g ds n Q h
    obtain ⟨ps, os, hds, hp, ho, q⟩ := h
    rcases hds with rfl | rfl
    · refine dFor_inv (fun rest r f => f = n ∧ ∃ (ms : List Str) (a c e : Sl), rest = ms.map D.str ∧ r = [a, .sh (.tup (os.map D.str)), c, e] ∧ (∀ m ∈ ms, m ∈ ps) ∧ firstOv ms os = firstOv ps os) _ _ _ ?_ ?_ ⟨rfl, ps, _, _, _, rfl, rfl, fun _ h => h, rfl⟩
      · rintro d rest r f N ⟨rfl, ms, a, c, e, hms, rfl, hsub, heq⟩ hN
        match ms, hms with
        | m :: ms, hms =>
        obtain ⟨rfl, rfl⟩ := List.cons.inj hms
        refine ⟨_, rfl, ?_⟩
        have hm := hp.2 m (hsub m (by simp))
        refine ⟨by rw [List.length_map]; exact Nat.le_trans ho.1 (by decide), ?_⟩
        refine dLcGo_pure (fun d => match d with | .str z => ovl m z | _ => false) id _ _ _ (fun d hd => ?_) ?_
        · obtain ⟨z, hz, rfl⟩ := List.mem_map.mp hd
          have hz' := ho.2 z hz
          exact ⟨_, rfl, fun f Q h => ⟨m, z, rfl, Nat.le_trans hm.1 (by decide), Nat.le_trans hz'.1 (by decide), h⟩, fun _ f Q h => h⟩
        · rw [List.map_id, List.nil_append, filter_strs _ (ovl m) _ (fun s => rfl)]
          refine ⟨by decide, ?_⟩
          show oEq true (.lst ((os.filter (ovl m)).map D.str)) (.lst (([] : List Str).map D.str)) _
          refine oEq_lst (m := []) (fun s hs => (ho.2 s (List.mem_filter.mp hs).1).2) (by simp) ?_
          show if (!decide (os.filter (ovl m) = [])) = true then _ else _
          rw [any_filter, Bool.not_not]
          unfold firstOv at heq
          rw [List.find?_cons] at heq
          cases hb : os.any (ovl m) with
          | true =>
            rw [hb] at heq
            have : firstOv ps os = .str m := heq.symm
            rw [this] at q
            exact q
          | false =>
            rw [hb] at heq
            exact hN _ _ ⟨rfl, ms, _, _, _, rfl, rfl, fun m' h' => hsub m' (by simp [h']), heq⟩
      · rintro r f ⟨rfl, ms, a, c, e, hms, rfl, hsub, heq⟩
        obtain rfl : ms = [] := by
          match ms, hms with
          | [], _ => rfl
        rw [← heq] at q
        exact q
    · refine dFor_inv (fun rest r f => f = n ∧ ∃ (ms : List Str) (a c e : Sl), rest = ms.map D.str ∧ r = [a, .sh (.lst (os.map D.str)), c, e] ∧ (∀ m ∈ ms, m ∈ ps) ∧ firstOv ms os = firstOv ps os) _ _ _ ?_ ?_ ⟨rfl, ps, _, _, _, rfl, rfl, fun _ h => h, rfl⟩
      · rintro d rest r f N ⟨rfl, ms, a, c, e, hms, rfl, hsub, heq⟩ hN
        match ms, hms with
        | m :: ms, hms =>
        obtain ⟨rfl, rfl⟩ := List.cons.inj hms
        refine ⟨_, rfl, ?_⟩
        have hm := hp.2 m (hsub m (by simp))
        refine ⟨by rw [List.length_map]; exact Nat.le_trans ho.1 (by decide), ?_⟩
        refine dLcGo_pure (fun d => match d with | .str z => ovl m z | _ => false) id _ _ _ (fun d hd => ?_) ?_
        · obtain ⟨z, hz, rfl⟩ := List.mem_map.mp hd
          have hz' := ho.2 z hz
          exact ⟨_, rfl, fun f Q h => ⟨m, z, rfl, Nat.le_trans hm.1 (by decide), Nat.le_trans hz'.1 (by decide), h⟩, fun _ f Q h => h⟩
        · rw [List.map_id, List.nil_append, filter_strs _ (ovl m) _ (fun s => rfl)]
          refine ⟨by decide, ?_⟩
          show oEq true (.lst ((os.filter (ovl m)).map D.str)) (.lst (([] : List Str).map D.str)) _
          refine oEq_lst (m := []) (fun s hs => (ho.2 s (List.mem_filter.mp hs).1).2) (by simp) ?_
          show if (!decide (os.filter (ovl m) = [])) = true then _ else _
          rw [any_filter, Bool.not_not]
          unfold firstOv at heq
          rw [List.find?_cons] at heq
          cases hb : os.any (ovl m) with
          | true =>
            rw [hb] at heq
            have : firstOv ps os = .str m := heq.symm
            rw [this] at q
            exact q
          | false =>
            rw [hb] at heq
            exact hN _ _ ⟨rfl, ms, _, _, _, rfl, rfl, fun m' h' => hsub m' (by simp [h']), heq⟩
      · rintro r f ⟨rfl, ms, a, c, e, hms, rfl, hsub, heq⟩
        obtain rfl : ms = [] := by
          match ms, hms with
          | [], _ => rfl
        rw [← heq] at q
        exact q
/-! modules_error -/
theorem sc_modules_error : FnScope ["modules", "index", "path"] ["modules"] (defScope s_modules_error) := ⟨rfl, rfl, rfl, by decide +kernel, rfl, by decide +kernel, by decide +kernel⟩
structure PVm (ms : List Str) : Prop where
  len : ms.length ≤ 24
  path : ∀ m ∈ ms, PathN 6 m
  apart : ms.Pairwise fun a b => ovl b a = false
def Sp_modules_error : DSp := fun _ ds f Q => ∃ ms : List Str, ds = [.tup (ms.map D.str)] ∧ PVm ms ∧ Q .none f
theorem isName_nmB {s : Str} (h : isName s) : nmB s = true := by
  unfold nmB
  rw [decide_eq_true h.1, decide_eq_true h.2.1]
  show (cd s).all _ = true
  rw [List.all_eq_true]
  intro c hc
  have hb := h.2.2 c hc
  have : ∀ c : Nat, 97 ≤ c → c ≤ 122 → c ∈ letL := by
    intro c h1 h2
    have h3 : c < 123 := by omega
    revert h1 h2
    have : ∀ c < 123, 97 ≤ c → c ≤ 122 → c ∈ letL := by decide +kernel
    exact this c h3
  exact decide_eq_true (this c hb.1 hb.2)
theorem PathN.splits {m : Nat} {x : Str} (h : PathN m x) : 1 ≤ (Txt.split x ".").length ∧ (Txt.split x ".").length ≤ m ∧ (∀ n ∈ Txt.split x ".", isName n) ∧ Txt.join "." (Txt.split x ".") = x := by
  obtain ⟨ns, n1, n2, n3, rfl⟩ := h
  rw [split_join_names (fun z => by rw [z] at n1; simp at n1) n3]
  exact ⟨n1, n2, n3, rfl⟩
theorem PathN.pathB {x : Str} (h : PathN 6 x) : pathB x = true := by
  obtain ⟨h1, h2, h3, h4⟩ := h.splits
  unfold DL.pathB
  rw [decide_eq_true h2, Bool.true_and, List.all_eq_true]
  exact fun n hn => isName_nmB (h3 n hn)
theorem PVm.short {ms : List Str} (h : PVm ms) : short ms := ⟨Nat.le_trans h.len (by decide), fun s hs => ⟨Nat.le_trans (h.path s hs).len (by decide), (h.path s hs).asc⟩⟩
theorem PVm.perm {l m : List Str} (h : PVm m) (p : l.Perm m) : PVm l where
  len := by rw [p.length_eq]; exact h.len
  path := fun s hs => h.path s (p.mem_iff.mp hs)
  apart := h.apart.perm p.symm fun {a b} e => by
    unfold ovl at e ⊢
    rw [Bool.or_comm]
    exact e
theorem PVm.sub {l m : List Str} (h : PVm m) (p : l.Sublist m) : PVm l := ⟨Nat.le_trans p.length_le h.len, fun s hs => h.path s (p.subset hs), h.apart.sublist p⟩
theorem ovl_self (m : Str) : ovl m m = true := by
  unfold ovl cov
  rw [decide_eq_true (rfl : m = m)]
  rfl
theorem PVm.nd {m : List Str} (h : PVm m) : m.Nodup := h.apart.imp fun {a b} e z => by
  rw [z, ovl_self] at e
  cases e
theorem PVm.asc {m : List Str} (h : PVm m) : ∀ s ∈ m, asc s := fun s hs => (h.path s hs).asc
set_option maxHeartbeats 2000000 in
theorem ok_modules_error (d : Df K mg "modules_error" s_modules_error) (m_enumerate : mg "enumerate" = none) (m_len : mg "len" = none) (m_tuple : mg "tuple" = none) (m_isinstance : mg "isinstance" = none) (g_MAX_MODULES : ∃ t, mg "MAX_MODULES" = some (.int 24 t)) (c_first_overlap : Cal P w K mg base 3 "first_overlap" ["paths", "others"] Sp_first_overlap) (c_is_path : Cal P w K mg base 2 "is_path" ["value"] Sp_is_path) : Cal P w K mg base 4 "modules_error" ["modules"] Sp_modules_error := by
  obtain ⟨f, fd, F, m⟩ := d
  refine ⟨f, fd, dfn (k := 3) (S := Sp_modules_error) F sc_modules_error ?len (fun cdv A outer s H E hr => (dss_cons (ds_if (DW.p (dw_or (dp_not (dp_val (de_isi m_isinstance (da_cons (de_v 0) (da_cons (de_bltn (v := .ty "tuple") (u := .type "tuple") (by rfl) m_tuple (by decide +kernel) rfl) da_nil))))) (dw_or1 (dp_gt (de_len m_len (da_cons (de_v 0) da_nil)) (de_glob (v := .int 24) (d := .int 24) (by rfl) g_MAX_MODULES.choose_spec ⟨_, rfl⟩ (fun _ => rfl)))))) (dss_one (ds_ret (de_tup (da_cons de_non (da_cons de_str da_nil))))) dss_nil)
      (dss_cons (ds_for [] PassesOwn.never (di_enum m_enumerate (da_cons (de_v 0) da_nil)) (dg_tup rfl (dgs_cons (dg_name (i := 1) sc_modules_error.nd) (dgs_cons (dg_name (i := 2) sc_modules_error.nd) dgs_nil))) (dss_cons (ds_if (dp_not (dp_val (de_callC c_is_path (hr.mono (by decide)) (da_cons (de_v 2) da_nil)))) (dss_one (ds_ret (de_tup (da_cons (de_v 1) (da_cons de_str da_nil))))) dss_nil)
      (dss_one (ds_if (dp_notN (de_callC c_first_overlap (hr.mono (by decide)) (da_cons (de_tup (da_cons (de_v 2) da_nil)) (da_cons (de_sl (de_v 0) do_none (do_some (de_v 1))) da_nil))) de_non) (dss_one (ds_ret (de_tup (da_cons (de_v 1) (da_cons de_str da_nil))))) dss_nil))))
      (dss_one (ds_ret de_non))))) ?h, F.kp, F.binds fun _ _ _ _ _ _ us hl => match us, hl with | [_], _ => rfl, m⟩
  case len =>
    intro g ds n Q h; obtain ⟨_, rfl, _⟩ := h; rfl
  case h =>
    intro g ds n Q h
    obtain ⟨ms, rfl, hv, q⟩ := h
    refine ⟨"tuple", true, rfl, by decide +kernel, ?_⟩
    show if decide ((((ms.map D.str).length : Int)) > 24) = true then _ else _
    rw [List.length_map, decide_eq_false (by have := hv.len; omega)]
    refine iteF ?_
    refine dFor_inv (fun rest r f => f = n ∧ ∃ (i : Nat) (a c : Sl), rest = (enumD (ms.map D.str)).drop i ∧ r = [.sh (.tup (ms.map D.str)), a, c]) _ _ _ ?_ (fun r f ⟨e, _⟩ => by subst e; exact q) ⟨rfl, 0, _, _, rfl, rfl⟩
    rintro d rest r f N ⟨rfl, i, a, c, hr, rfl⟩ hN
    have hd : (enumD (ms.map D.str))[i]? = some d := by
      have := congrArg List.head? hr
      rw [List.head?_drop] at this
      exact this.symm
    obtain ⟨x, hx, rfl⟩ := enumD_get hd
    rw [List.getElem?_map] at hx
    cases em : ms[i]? with
    | none => rw [em] at hx; cases hx
    | some m =>
      rw [em] at hx
      cases hx
      have hm : m ∈ ms := List.mem_of_getElem? em
      have hp := hv.path m hm
      refine ⟨_, rfl, .str m, rfl, rfl, fun s e => ?_, ?_⟩
      · cases e
        exact Nat.le_trans hp.len (by decide)
      · show if (!pathB m) = true then _ else _
        rw [hp.pathB]
        have hi : i < ms.length := (List.getElem?_eq_some_iff.mp em).1
        have et : cutD (ms.map D.str) none (some (i : Int)) = (ms.take i).map D.str := by rw [cutD_take, List.map_take]
        have hno : firstOv [m] (ms.take i) = .none := by
          unfold firstOv
          rw [List.find?_cons]
          have : (ms.take i).any (ovl m) = false := by
            rw [List.any_eq_false]
            intro z hz
            obtain ⟨j, hj, ez⟩ := List.getElem_of_mem hz
            rw [List.length_take] at hj
            rw [List.getElem_take] at ez
            have := List.pairwise_iff_getElem.mp hv.apart j i (by omega) hi (by omega)
            obtain ⟨_, e2⟩ := List.getElem?_eq_some_iff.mp em
            rw [ez, e2] at this
            rw [this]
            decide
          rw [this]
          rfl
        refine iteF ⟨show 1 ≤ lim by decide, [m], ms.take i, ?_, ⟨show 1 ≤ 1000 by decide, fun s hs => by rw [List.mem_singleton.mp hs]; exact hv.short.2 m hm⟩, ⟨Nat.le_trans (by rw [List.length_take]; exact Nat.min_le_right _ _) hv.short.1, fun s hs => hv.short.2 s (List.mem_of_mem_take hs)⟩, ?_⟩
        · refine .inl ?_
          show [D.tup [D.str m], D.tup (cutD (ms.map D.str) none (some (i : Int)))] = _
          rw [et]
          rfl
        · rw [hno]
          refine hN _ _ ⟨rfl, i + 1, _, _, ?_, rfl⟩
          rw [← List.tail_drop, ← hr]
          rfl
theorem ovl_pre {a b : List Str} (ha : a ≠ []) (hb : b ≠ []) (na : ∀ x ∈ a, isName x) (nb : ∀ x ∈ b, isName x) (h1 : ¬ a <+: b) (h2 : ¬ b <+: a) : ovl (Txt.join "." a) (Txt.join "." b) = false := by
  have key : ∀ {a b : List Str}, a ≠ [] → b ≠ [] → (∀ x ∈ a, isName x) → (∀ x ∈ b, isName x) → ¬ a <+: b → cov (Txt.join "." a) (Txt.join "." b) = false := fun {a b} ha hb na nb h => by
    rw [cov_take, split_join_names ha na, split_join_names hb nb]
    refine decide_eq_false fun e => h ?_
    rw [← e]
    exact List.take_prefix _ _
  unfold ovl
  rw [key ha hb na nb h1, key hb ha nb na h2]
  rfl
structure Nms (hs ns lv : List Str) : Prop where
  nn : ns.Nodup
  ln : lv.Nodup
  hn : ∀ h ∈ hs, h ∉ ns ∧ h ∉ lv
  nl : ∀ n ∈ ns, n ∉ lv
  oh : ∀ x ∈ hs, isName x
  on : ∀ x ∈ ns, isName x
  ol : ∀ x ∈ lv, isName x
theorem arN_mem {z : Str × Nat × Str} {x : Str} (h : x ∈ arN z) : x = z.1 ∨ x = z.2.2 := by
  unfold arN at h
  rcases List.mem_append.mp h with e | e
  · exact .inl (List.eq_of_mem_replicate e)
  · exact .inr (List.mem_singleton.mp e)
theorem arN_last (z : Str × Nat × Str) : z.2.2 ∈ arN z := List.mem_append.mpr (.inr (by simp))
theorem arN_ne (z : Str × Nat × Str) : arN z ≠ [] := by unfold arN; simp
theorem Ars.name {hs ns : List Str} {d : Nat} {zs : List (Str × Nat × Str)} (h : Ars hs ns d zs) {z : Str × Nat × Str} (hz : z ∈ zs) : z.2.2 ∈ ns := by
  rw [← h.n]
  exact List.mem_map.mpr ⟨z, hz, rfl⟩
theorem Ars.same {hs ns : List Str} {d : Nat} {zs : List (Str × Nat × Str)} (h : Ars hs ns d zs) (hn : ns.Nodup) {z z' : Str × Nat × Str} (hz : z ∈ zs) (hz' : z' ∈ zs) (e : z.2.2 = z'.2.2) : z = z' := by
  rw [← h.n] at hn
  obtain ⟨i, hi, rfl⟩ := List.getElem_of_mem hz
  obtain ⟨j, hj, rfl⟩ := List.getElem_of_mem hz'
  have key := List.pairwise_iff_getElem.mp hn
  rcases Nat.lt_trichotomy i j with c | c | c
  · exact absurd (by rw [List.getElem_map, List.getElem_map]; exact e) (key i j (by rw [List.length_map]; exact hi) (by rw [List.length_map]; exact hj) c)
  · subst c
    rfl
  · exact absurd (by rw [List.getElem_map, List.getElem_map]; exact e.symm) (key j i (by rw [List.length_map]; exact hj) (by rw [List.length_map]; exact hi) c)
structure MI (hs ns : List Str) (F : List (Str × Nat × Str)) (done : List Str) (L : List (List Str)) : Prop where
  ne : ∀ a ∈ L, a ≠ []
  le : ∀ a ∈ L, a.length ≤ 6
  ok : ∀ a ∈ L, ∀ x ∈ a, isName x
  tg : ∀ a ∈ L, (∃ z ∈ F, a = arN z) ∨ ∃ o ∈ done, o ∈ a
  nm : ∀ a ∈ L, ∀ x ∈ a, x ∈ hs ∨ x ∈ ns ∨ x ∈ done
  ap : L.Pairwise fun a b => ¬ a <+: b ∧ ¬ b <+: a
theorem MI.start {hs ns lv : List Str} {d : Nat} {zs F : List (Str × Nat × Str)} (hA : Ars hs ns d zs) (hd : d ≤ 5) (hN : Nms hs ns lv) (hF : F.Sublist zs) : MI hs ns F [] (F.map arN) where
  ne := fun a ha => by obtain ⟨z, _, rfl⟩ := List.mem_map.mp ha; exact arN_ne z
  le := fun a ha => by
    obtain ⟨z, hz, rfl⟩ := List.mem_map.mp ha
    have := (hA.h z (hF.subset hz)).2
    unfold arN
    rw [List.length_append, List.length_replicate]
    show z.2.1 + 1 ≤ 6
    omega
  ok := fun a ha x hx => by
    obtain ⟨z, hz, rfl⟩ := List.mem_map.mp ha
    rcases arN_mem hx with rfl | rfl
    · exact hN.oh _ (hA.h z (hF.subset hz)).1
    · exact hN.on _ (hA.name (hF.subset hz))
  tg := fun a ha => by obtain ⟨z, hz, rfl⟩ := List.mem_map.mp ha; exact .inl ⟨z, hz, rfl⟩
  nm := fun a ha x hx => by
    obtain ⟨z, hz, rfl⟩ := List.mem_map.mp ha
    rcases arN_mem hx with rfl | rfl
    · exact .inl (hA.h z (hF.subset hz)).1
    · exact .inr (.inl (hA.name (hF.subset hz)))
  ap := by
    rw [List.pairwise_map]
    have hnd : (F.map (·.2.2)).Nodup := by
      have : (zs.map (·.2.2)).Nodup := by rw [hA.n]; exact hN.nn
      exact this.sublist (hF.map _)
    have hp : F.Pairwise fun z z' => z.2.2 ≠ z'.2.2 := (List.pairwise_map).mp hnd
    have key : ∀ z ∈ F, ∀ z' ∈ F, z.2.2 ≠ z'.2.2 → ¬ arN z <+: arN z' := fun z hz z' hz' h e => by
      rcases arN_mem (e.subset (arN_last z)) with h1 | h1
      · exact (hN.hn _ (hA.h z' (hF.subset hz')).1).1 (h1 ▸ hA.name (hF.subset hz))
      · exact h h1
    refine hp.imp_of_mem fun {z z'} hz hz' h => ⟨key z hz z' hz' h, key z' hz' z hz (Ne.symm h)⟩
theorem MI.add {hs ns lv done : List Str} {d : Nat} {zs F : List (Str × Nat × Str)} {L : List (List Str)} {o : Str} {pre : List Str} (hM : MI hs ns F done L) (hA : Ars hs ns d zs) (hd : d ≤ 4) (hN : Nms hs ns lv) (hF : F.Sublist zs)
    (hdn : ∀ x ∈ done, x ∈ lv) (ho : o ∈ lv) (hod : o ∉ done) (hp : pre = [] ∨ ∃ z ∈ zs, z ∉ F ∧ (pre = arN z ∨ z.2.1 ≤ 3 ∧ pre = arN z ++ [z.2.2])) : MI hs ns F (done ++ [o]) (L ++ [pre ++ [o]]) := by
  have pm : ∀ x ∈ pre, (x ∈ hs ∨ x ∈ ns) := fun x hx => by
    rcases hp with rfl | ⟨z, hz, _, rfl | ⟨z3, rfl⟩⟩
    · simp at hx
    · rcases arN_mem hx with rfl | rfl
      · exact .inl (hA.h z hz).1
      · exact .inr (hA.name hz)
    · rcases List.mem_append.mp hx with h | h
      · rcases arN_mem h with rfl | rfl
        · exact .inl (hA.h z hz).1
        · exact .inr (hA.name hz)
      · rw [List.mem_singleton.mp h]; exact .inr (hA.name hz)
  have pl : pre.length ≤ 5 := by
    rcases hp with rfl | ⟨z, hz, _, rfl | ⟨z3, rfl⟩⟩
    · decide
    · have := (hA.h z hz).2
      unfold arN
      rw [List.length_append, List.length_replicate]
      show z.2.1 + 1 ≤ 5
      omega
    · have := (hA.h z hz).2
      unfold arN
      rw [List.length_append, List.length_append, List.length_replicate]
      show z.2.1 + 1 + 1 ≤ 5
      omega
  have noh : o ∉ hs := fun h => (hN.hn o h).2 ho
  have non : o ∉ ns := fun h => hN.nl o h ho
  refine ⟨fun a ha => ?_, fun a ha => ?_, fun a ha x hx => ?_, fun a ha => ?_, fun a ha x hx => ?_, ?_⟩
  · rcases List.mem_append.mp ha with h | h
    · exact hM.ne a h
    · rw [List.mem_singleton.mp h]; simp
  · rcases List.mem_append.mp ha with h | h
    · exact hM.le a h
    · rw [List.mem_singleton.mp h, List.length_append]
      show pre.length + 1 ≤ 6
      omega
  · rcases List.mem_append.mp ha with h | h
    · exact hM.ok a h x hx
    · rw [List.mem_singleton.mp h] at hx
      rcases List.mem_append.mp hx with h2 | h2
      · exact (pm x h2).elim (hN.oh x) (hN.on x)
      · rw [List.mem_singleton.mp h2]; exact hN.ol o ho
  · rcases List.mem_append.mp ha with h | h
    · rcases hM.tg a h with ⟨z, hz, e⟩ | ⟨p, hp', hpa⟩
      · exact .inl ⟨z, hz, e⟩
      · exact .inr ⟨p, List.mem_append.mpr (.inl hp'), hpa⟩
    · refine .inr ⟨o, by simp, ?_⟩
      rw [List.mem_singleton.mp h]; simp
  · rcases List.mem_append.mp ha with h | h
    · rcases hM.nm a h x hx with e | e | e
      · exact .inl e
      · exact .inr (.inl e)
      · exact .inr (.inr (List.mem_append.mpr (.inl e)))
    · rw [List.mem_singleton.mp h] at hx
      rcases List.mem_append.mp hx with h2 | h2
      · exact (pm x h2).elim .inl fun e => .inr (.inl e)
      · rw [List.mem_singleton.mp h2]; exact .inr (.inr (by simp))
  · rw [List.pairwise_append]
    refine ⟨hM.ap, by simp, fun a ha b hb => ?_⟩
    rw [List.mem_singleton.mp hb]
    have oa : o ∉ a := fun h => by
      rcases hM.nm a ha o h with e | e | e
      · exact noh e
      · exact non e
      · exact hod e
    refine ⟨fun e => ?_, fun e => oa (e.subset (by simp))⟩
    rcases List.prefix_concat_iff.mp e with e | e
    · exact oa (by rw [e]; simp)
    · rcases hM.tg a ha with ⟨z', hz', rfl⟩ | ⟨p, hp', hpa⟩
      · have hm := e.subset (arN_last z')
        have hnz := hA.name (hF.subset hz')
        rcases hp with rfl | ⟨z, hz, hzF, hpe⟩
        · simp at hm
        · have : z'.2.2 = z.1 ∨ z'.2.2 = z.2.2 := by
            rcases hpe with rfl | ⟨_, rfl⟩
            · exact arN_mem hm
            · rcases List.mem_append.mp hm with h | h
              · exact arN_mem h
              · exact .inr (List.mem_singleton.mp h)
          rcases this with h | h
          · exact (hN.hn _ (hA.h z hz).1).1 (h ▸ hnz)
          · exact hzF (hA.same hN.nn (hF.subset hz') hz h ▸ hz')
      · rcases pm p (e.subset hpa) with h | h
        · exact (hN.hn p h).2 (hdn p hp')
        · exact hN.nl p h (hdn p hp')
theorem MI.pvm {hs ns done : List Str} {F : List (Str × Nat × Str)} {L : List (List Str)} (h : MI hs ns F done L) : PVm ((L.map (Txt.join ".")).take 24) where
  len := by rw [List.length_take]; omega
  path := fun m hm => by
    obtain ⟨a, ha, rfl⟩ := List.mem_map.mp (List.mem_of_mem_take hm)
    exact ⟨a, List.length_pos_iff.mpr (h.ne a ha), h.le a ha, h.ok a ha, rfl⟩
  apart := by
    refine List.Pairwise.sublist (List.take_sublist _ _) ?_
    rw [List.pairwise_map]
    exact h.ap.imp_of_mem fun {a b} ha hb e => ovl_pre (h.ne b hb) (h.ne a ha) (h.ok b hb) (h.ok a ha) e.2 e.1
/-! _law_shuffled -/
theorem sc__law_shuffled : FnScope ["_law_stream_here", "_law_items", "_law_found", "_law_item"] ["_law_stream_here", "_law_items"] (defScope s__law_shuffled) := ⟨rfl, rfl, rfl, by decide +kernel, rfl, by decide +kernel, by decide +kernel⟩
def Sp__law_shuffled : DSp := fun g ds f Q => ∃ (k : Dk) (xs : List D), g = some k ∧ ds = [.any (.ref k.a), .lst xs] ∧ xs.length ≤ 1000 ∧ xs.length ≤ f ∧ ∀ ys f', ys.Perm xs → f ≤ f' + xs.length → Q (.lst ys) f'
set_option maxHeartbeats 2000000 in
theorem ok__law_shuffled (d : Df K mg "_law_shuffled" s__law_shuffled) (m_len : mg "len" = none) (c__law_draw : Cal P w K mg base 1 "_law_draw" ["_law_stream_here", "_law_many"] Sp__law_draw) : Cal P w K mg base 2 "_law_shuffled" ["_law_stream_here", "_law_items"] Sp__law_shuffled := by
  obtain ⟨f, fd, F, m⟩ := d
  refine ⟨f, fd, dfn (k := 1) (S := Sp__law_shuffled) F sc__law_shuffled ?len (fun cdv A outer s H E hr => (dss_cons (ds_setL false (i := 2) sc__law_shuffled.nd (dl_lst da_nil))
      (dss_cons (ds_for [] PassesOwn.never (di_seq (de_v 1)) (dg_name (i := 3) sc__law_shuffled.nd) (dss_one (ds_ins (i := 2) (de_callC c__law_draw (hr.mono (by decide)) (da_cons (de_v 0) (da_cons (de_add (de_len m_len (da_cons (de_v 2) da_nil)) de_int) da_nil))) (de_v 3))))
      (dss_one (ds_ret (de_v 2)))))) ?h, F.kp, F.binds fun _ _ _ _ _ _ us hl => match us, hl with | [_, _], _ => rfl, m⟩
  case len =>
    intro g ds n Q h; obtain ⟨_, _, _, rfl, _⟩ := h; rfl
  case h =>
    intro g ds n Q h
    obtain ⟨k, xs, rfl, rfl, hl, hf, q⟩ := h
    refine ⟨Nat.zero_le _, ?_⟩
    refine dFor_inv (fun rest r f => ∃ (done ys : List D) (a : Sl), xs = done ++ rest ∧ r = [.sh (.any (.ref k.a)), .sh (.lst xs), .ow ys, a] ∧ ys.Perm done ∧ n ≤ f + done.length) _ _ _ ?_ ?_ ⟨[], [], _, rfl, rfl, .refl _, by simp⟩
    · rintro d rest r f N ⟨done, ys, a, rfl, rfl, hp, hf2⟩ hN
      have hpl := hp.length_eq
      rw [List.length_append, List.length_cons] at hl hf
      obtain ⟨f1, rfl⟩ : ∃ f1, f = f1 + 1 := ⟨f - 1, by omega⟩
      refine ⟨_, rfl, ys, rfl, ?_⟩
      refine ⟨k, (ys.length : Int) + 1, f1, rfl, rfl, by omega, by omega, rfl, fun i i0 i1 => ?_⟩
      refine ⟨i0, by omega, L1 (by omega), ?_⟩
      refine hN _ _ ⟨done ++ [d], _, _, by simp, rfl, ?_, by rw [List.length_append, List.length_singleton]; omega⟩
      refine List.Perm.trans ?_ (hp.append_right [d])
      have e := List.take_append_drop i.toNat ys
      have p1 : (ys.take i.toNat ++ [d] ++ ys.drop i.toNat).Perm (ys.take i.toNat ++ ys.drop i.toNat ++ [d]) := by
        rw [List.append_assoc, List.append_assoc]
        exact (List.perm_append_comm).append_left _
      rw [e] at p1
      exact p1
    · rintro r f ⟨done, ys, a, e, rfl, hp, hf2⟩
      rw [List.append_nil] at e
      subst e
      exact q ys f hp hf2
theorem cutD_mid (l : List Str) (a b : Nat) (ha : a ≤ l.length) (hb : b ≤ l.length) : cutD (l.map D.str) (some (a : Int)) (some (b : Int)) = ((l.drop a).take (b - a)).map D.str := by
  unfold cutD
  rw [HT.sIx_nat, HT.sIx_nat, List.length_map, Nat.min_eq_left ha, Nat.min_eq_left hb, List.map_take, List.map_drop]
theorem permM {α β : Type} {f : α → β} {ys zs : List β} (h : ys.Perm zs) : ∀ l : List α, zs = l.map f → ∃ l' : List α, l'.Perm l ∧ ys = l'.map f := by
  induction h with
  | nil => exact fun l e => ⟨[], by rw [List.map_eq_nil_iff.mp e.symm], rfl⟩
  | cons x _ ih =>
    intro l e
    cases l with
    | nil => cases e
    | cons a l =>
      obtain ⟨e1, e2⟩ := List.cons.inj e
      obtain ⟨l', h1, h2⟩ := ih l e2
      exact ⟨a :: l', h1.cons a, by rw [List.map_cons, ← e1, h2]⟩
  | swap x y l0 =>
    intro l e
    match l, e with
    | a :: b :: l, e =>
      obtain ⟨e1, e2⟩ := List.cons.inj e
      obtain ⟨e2, e3⟩ := List.cons.inj e2
      exact ⟨b :: a :: l, List.Perm.swap a b l, by rw [List.map_cons, List.map_cons, ← e1, ← e2, ← e3]⟩
  | trans _ _ ih1 ih2 =>
    intro l e
    obtain ⟨l2, h1, h2⟩ := ih2 l e
    obtain ⟨l3, h3, h4⟩ := ih1 l2 h2
    exact ⟨l3, h3.trans h1, h4⟩
theorem ars_pvm {hs ns lv : List Str} {d : Nat} {zs : List (Str × Nat × Str)} (h : Ars hs ns d zs) (hd : d ≤ 5) (hN : Nms hs ns lv) (hl : zs.length ≤ 24) : PVm (zs.map arS) := by
  have := MI.pvm (MI.start h hd hN (List.Sublist.refl zs))
  rw [List.take_of_length_le (by rw [List.length_map, List.length_map]; exact hl), List.map_map] at this
  exact this
/-! is_pair -/
theorem sc_is_pair : FnScope ["value"] ["value"] (defScope s_is_pair) := ⟨rfl, rfl, rfl, by decide +kernel, rfl, by decide +kernel, by decide +kernel⟩
def isPrg : D → Bool
  | .obj c _ _ => decide (c = "Program")
  | _ => false
def okO (x : D) : Prop := x.tyd = true ∨ isPrg x = true
def strNe : D → D → Bool
  | .str a, .str b => decide (a ≠ b)
  | _, _ => false
def pairL : List D → Bool
  | [] => false
  | a :: r => match r with
    | [] => false
    | b :: r2 => match r2 with
      | [] => strNe a b
      | _ :: _ => false
def pairB : D → Bool
  | .tup xs => pairL xs
  | _ => false
def Sp_is_pair : DSp := fun _ ds f Q => ∃ x : D, ds = [x] ∧ okO x ∧ Q (.bool (pairB x)) f
set_option maxHeartbeats 2000000 in
theorem ok_is_pair (d : Df K mg "is_pair" s_is_pair) (m_str : mg "str" = none) (m_isinstance : mg "isinstance" = none) (m_len : mg "len" = none) (m_tuple : mg "tuple" = none) {C_Program : Addr} (o_Program : KO K "Program" C_Program) : Cal P w K mg base 1 "is_pair" ["value"] Sp_is_pair := by
  obtain ⟨f, fd, F, m⟩ := d
  refine ⟨f, fd, dfn (k := 0) (S := Sp_is_pair) F sc_is_pair ?len (fun cdv A outer s H E hr => (dss_cons (ds_if (DW.p (dw_or (dp_not (dp_val (de_isiO o_Program m_isinstance (da_cons (de_v 0) (da_cons (de_bltn (v := .ty "tuple") (u := .type "tuple") (by rfl) m_tuple (by decide +kernel) rfl) da_nil))))) (dw_or1 (dp_ne hr.units (de_len m_len (da_cons (de_v 0) da_nil)) de_int)))) (dss_one (ds_ret de_bl)) dss_nil)
      (dss_one (ds_ret (de_and (de_isiO o_Program m_isinstance (da_cons (de_ix (de_v 0) de_int) (da_cons (de_bltn (v := .ty "str") (u := .type "str") (by rfl) m_str (by decide +kernel) rfl) da_nil))) (de_and (de_isiO o_Program m_isinstance (da_cons (de_ix (de_v 0) de_int) (da_cons (de_bltn (v := .ty "str") (u := .type "str") (by rfl) m_str (by decide +kernel) rfl) da_nil))) (de_one (de_ne hr.units (de_ix (de_v 0) de_int) (de_ix (de_v 0) de_int))))))))) ?h, F.kp, F.binds fun _ _ _ _ _ _ us hl => match us, hl with | [_], _ => rfl, m⟩
  case len =>
    intro g ds n Q h; obtain ⟨_, rfl, _⟩ := h; rfl
  case h =>
    intro g ds n Q h
    obtain ⟨x, rfl, hx, q⟩ := h
    cases x with
    | tup xs =>
      have hxs : tydA xs = true := by
        rcases hx with h | h
        · exact h
        · cases h
      refine ⟨"tuple", true, rfl, by decide +kernel, ?_⟩
      match xs, hxs, q with
      | [], _, q => exact q
      | [_], _, q => exact q
      | [a, b], hxs, q =>
        have h2 : a.tyd = true ∧ b.tyd = true := by
          have := Bool.and_eq_true_iff.mp hxs
          exact ⟨this.1, (Bool.and_eq_true_iff.mp this.2).1⟩
        refine ⟨a, atI0, ?_⟩
        cases a with
        | str sa =>
          refine ⟨"str", true, rfl, by decide +kernel, b, atI_nat (j := 1) rfl, ?_⟩
          cases b with
          | str sb =>
            refine ⟨"str", true, rfl, by decide +kernel, .str sa, atI0, .str sb, atI_nat (j := 1) rfl, ?_⟩
            have q : Q (.bool (decide (sa ≠ sb))) n := q
            have e : decide (sa ≠ sb) = !decide (sa = sb) := by by_cases h : sa = sb <;> simp [h]
            rw [e] at q
            exact q
          | any v => cases h2.2
          | dtt _ _ => cases h2.2
          | ktup _ => cases h2.2
          | ftp _ => cases h2.2
          | obj _ _ _ => cases h2.2
          | exn _ _ _ => cases h2.2
          | _ => exact ⟨_, false, rfl, by decide +kernel, q⟩
        | any v => cases h2.1
        | dtt _ _ => cases h2.1
        | ktup _ => cases h2.1
        | ftp _ => cases h2.1
        | obj _ _ _ => cases h2.1
        | exn _ _ _ => cases h2.1
        | _ => exact ⟨_, false, rfl, by decide +kernel, q⟩
      | a :: b :: c :: l, _, q =>
        have e : (!decide (((a :: b :: c :: l).length : Int) = 2)) = true := by
          rw [decide_eq_false (by simp only [List.length_cons]; omega)]
          rfl
        refine iteF ?_
        exact q
    | any v =>
      rcases hx with h | h
      · cases h
      · cases h
    | dtt _ _ =>
      rcases hx with h | h <;> cases h
    | ktup _ =>
      rcases hx with h | h <;> cases h
    | ftp _ =>
      rcases hx with h | h <;> cases h
    | exn _ _ _ =>
      rcases hx with h | h
      · cases h
      · cases h
    | obj c ns xs =>
      rcases hx with h | h
      · cases h
      · exact ⟨of_decide_eq_true h, .inl rfl, q⟩
    | _ => exact ⟨_, false, rfl, by decide +kernel, q⟩
/-! uses_error -/
theorem sc_uses_error : FnScope ["modules", "uses", "index", "use"] ["modules", "uses"] (defScope s_uses_error) := ⟨rfl, rfl, rfl, by decide +kernel, rfl, by decide +kernel, by decide +kernel⟩
structure PVu (ms : List Str) (us : List Us) : Prop where
  len : us.length ≤ 200
  mem : ∀ u ∈ us, u.1 ∈ ms ∧ u.2 ∈ ms ∧ u.1 ≠ u.2
  nd : us.Nodup
def Sp_uses_error : DSp := fun _ ds f Q => ∃ (ms : List Str) (us : List Us), ds = [.tup (ms.map D.str), .tup (us.map pairD)] ∧ PVm ms ∧ PVu ms us ∧ Q .none f
theorem PVu.asc {ms : List Str} {us : List Us} (hm : PVm ms) (h : PVu ms us) : ∀ u ∈ us, ascU u := fun u hu => ⟨(hm.path _ (h.mem u hu).1).asc, (hm.path _ (h.mem u hu).2.1).asc⟩
theorem PVu.perm {l m : List Str} {us vs : List Us} (h : PVu m us) (p : l.Perm m) (q : vs.Perm us) : PVu l vs where
  len := by rw [q.length_eq]; exact h.len
  mem := fun u hu => by
    obtain ⟨h1, h2, h3⟩ := h.mem u (q.mem_iff.mp hu)
    exact ⟨p.mem_iff.mpr h1, p.mem_iff.mpr h2, h3⟩
  nd := q.nodup_iff.mpr h.nd
theorem PVu.sub {m : List Str} {us vs : List Us} (h : PVu m us) (p : vs.Sublist us) : PVu m vs := ⟨Nat.le_trans p.length_le h.len, fun u hu => h.mem u (p.subset hu), h.nd.sublist p⟩
set_option maxHeartbeats 2000000 in
theorem ok_uses_error (d : Df K mg "uses_error" s_uses_error) (m_enumerate : mg "enumerate" = none) (m_len : mg "len" = none) (m_tuple : mg "tuple" = none) (m_isinstance : mg "isinstance" = none) (g_MAX_USES : ∃ t, mg "MAX_USES" = some (.int 200 t)) (c_is_pair : Cal P w K mg base 1 "is_pair" ["value"] Sp_is_pair) : Cal P w K mg base 2 "uses_error" ["modules", "uses"] Sp_uses_error := by
  obtain ⟨f, fd, F, m⟩ := d
  refine ⟨f, fd, dfn (k := 1) (S := Sp_uses_error) F sc_uses_error ?len (fun cdv A outer s H E hr => (dss_cons (ds_if (DW.p (dw_or (dp_not (dp_val (de_isi m_isinstance (da_cons (de_v 1) (da_cons (de_bltn (v := .ty "tuple") (u := .type "tuple") (by rfl) m_tuple (by decide +kernel) rfl) da_nil))))) (dw_or1 (dp_gt (de_len m_len (da_cons (de_v 1) da_nil)) (de_glob (v := .int 200) (d := .int 200) (by rfl) g_MAX_USES.choose_spec ⟨_, rfl⟩ (fun _ => rfl)))))) (dss_one (ds_ret (de_tup (da_cons de_non (da_cons de_str da_nil))))) dss_nil)
      (dss_cons (ds_for [] PassesOwn.never (di_enum m_enumerate (da_cons (de_v 1) da_nil)) (dg_tup rfl (dgs_cons (dg_name (i := 2) sc_uses_error.nd) (dgs_cons (dg_name (i := 3) sc_uses_error.nd) dgs_nil))) (dss_cons (ds_if (DW.p (dw_or (dp_not (dp_val (de_callC c_is_pair (hr.mono (by decide)) (da_cons (de_v 3) da_nil)))) (dw_or (dp_notIn hr (de_ix (de_v 3) de_int) (de_v 0)) (dw_or1 (dp_notIn hr (de_ix (de_v 3) de_int) (de_v 0)))))) (dss_one (ds_ret (de_tup (da_cons (de_v 2) (da_cons de_str da_nil))))) dss_nil)
      (dss_one (ds_if (dp_in hr (de_v 3) (de_sl (de_v 1) do_none (do_some (de_v 2)))) (dss_one (ds_ret (de_tup (da_cons (de_v 2) (da_cons de_str da_nil))))) dss_nil))))
      (dss_one (ds_ret de_non))))) ?h, F.kp, F.binds fun _ _ _ _ _ _ us hl => match us, hl with | [_, _], _ => rfl, m⟩
  case len =>
    intro g ds n Q h; obtain ⟨_, _, rfl, _⟩ := h; rfl
  case h =>
    intro g ds n Q h
    obtain ⟨ms, us, rfl, hm, hv, q⟩ := h
    refine ⟨"tuple", true, rfl, by decide +kernel, ?_⟩
    show if decide ((((us.map pairD).length : Int)) > 200) = true then _ else _
    rw [List.length_map, decide_eq_false (by have := hv.len; omega)]
    refine iteF ?_
    have hasc := hv.asc hm
    refine dFor_inv (fun rest r f => f = n ∧ ∃ (i : Nat) (a c : Sl), rest = (enumD (us.map pairD)).drop i ∧ r = [.sh (.tup (ms.map D.str)), .sh (.tup (us.map pairD)), a, c]) _ _ _ ?_ (fun r f ⟨e, _⟩ => by subst e; exact q) ⟨rfl, 0, _, _, rfl, rfl⟩
    rintro d rest r f N ⟨rfl, i, a, c, hr, rfl⟩ hN
    have hd : (enumD (us.map pairD))[i]? = some d := by
      have := congrArg List.head? hr
      rw [List.head?_drop] at this
      exact this.symm
    obtain ⟨x, hx, rfl⟩ := enumD_get hd
    rw [List.getElem?_map] at hx
    cases em : us[i]? with
    | none => rw [em] at hx; cases hx
    | some u =>
      rw [em] at hx
      cases hx
      have hu : u ∈ us := List.mem_of_getElem? em
      obtain ⟨h1, h2, h3⟩ := hv.mem u hu
      obtain ⟨a1, a2⟩ := hasc u hu
      have hi : i < us.length := (List.getElem?_eq_some_iff.mp em).1
      have et : cutD (us.map pairD) none (some (i : Int)) = (us.take i).map pairD := by rw [cutD_take, List.map_take]
      refine ⟨_, rfl, pairD u, rfl, .inl rfl, ?_⟩
      show if (!decide (u.1 ≠ u.2)) = true then _ else _
      rw [decide_eq_true h3]
      refine iteF ⟨.str u.1, atI0, ?_⟩
      have hms : ∀ s ∈ ms, asc s := fun s hs => (hm.path s hs).asc
      refine ⟨shaped_str a1, shaped_strsT hms, ?_⟩
      have e1 : ((pyA (ms.map D.str)).any fun z => PyData.eqv z (D.str u.1).py) = true := by rw [pyA_strs]; exact (any_strs ms u.1).trans (decide_eq_true h1)
      have e2 : ((pyA (ms.map D.str)).any fun z => PyData.eqv z (D.str u.2).py) = true := by rw [pyA_strs]; exact (any_strs ms u.2).trans (decide_eq_true h2)
      rw [e1]
      refine iteF ⟨.str u.2, atI_nat (j := 1) rfl, shaped_str a2, shaped_strsT hms, ?_⟩
      rw [e2]
      refine iteF ?_
      have hno : u ∉ us.take i := fun hz => by
        obtain ⟨j, hj, ez⟩ := List.getElem_of_mem hz
        rw [List.length_take] at hj
        rw [List.getElem_take] at ez
        have := List.pairwise_iff_getElem.mp hv.nd j i (by omega) hi (by omega)
        obtain ⟨_, e3⟩ := List.getElem?_eq_some_iff.mp em
        exact this (ez.trans e3.symm)
      have hta : ∀ s ∈ us.take i, ascU s := fun s hs => hasc s (List.mem_of_mem_take hs)
      have e3 : ((pyA (cutD (us.map pairD) none (some (i : Int)))).any fun z => PyData.eqv z (pairD u).py) = false := by rw [et, pyA_pairs]; exact (any_pairs _ u).trans (decide_eq_false hno)
      refine ⟨shaped_pair ⟨a1, a2⟩, by rw [et, pyA_pairs]; exact shaped_pairsT hta, ?_⟩
      rw [e3]
      refine hN _ _ ⟨rfl, i + 1, _, _, ?_, rfl⟩
      rw [← List.tail_drop, ← hr]
      rfl
/-! last_name -/
theorem sc_last_name : FnScope ["path"] ["path"] (defScope s_last_name) := ⟨rfl, rfl, rfl, by decide +kernel, rfl, by decide +kernel, by decide +kernel⟩
def Sp_last_name : DSp := fun _ ds f Q => ∃ x : Str, ds = [.str x] ∧ x.length ≤ 100000 ∧ ∀ ns n, Txt.split x "." = ns ++ [n] → Q (.str n) f
set_option maxHeartbeats 2000000 in
theorem ok_last_name (d : Df K mg "last_name" s_last_name) : Cal P w K mg base 1 "last_name" ["path"] Sp_last_name := by
  obtain ⟨f, fd, F, m⟩ := d
  refine ⟨f, fd, dfn (k := 0) (S := Sp_last_name) F sc_last_name ?len (fun cdv A outer s H E hr => (dss_one (ds_ret (de_ix (de_rpart (de_v 0) de_str) de_int)))) ?h, F.kp, F.binds fun _ _ _ _ _ _ us hl => match us, hl with | [_], _ => rfl, m⟩
  case len =>
    intro g ds n Q h; obtain ⟨_, rfl, _⟩ := h; rfl
  case h =>
    intro g ds n Q h
    obtain ⟨x, rfl, hl, q⟩ := h
    obtain ⟨_, ns, h2⟩ := rpart_names x
    exact ⟨trivial, by decide +kernel, Nat.le_trans hl (by decide), _, atI_nat (j := 2) rfl, q ns _ h2⟩
/-! program_error -/
theorem sc_program_error : FnScope ["modules", "uses", "error"] ["modules", "uses"] (defScope s_program_error) := ⟨rfl, rfl, rfl, by decide +kernel, rfl, by decide +kernel, by decide +kernel⟩
def Sp_program_error : DSp := fun _ ds f Q => ∃ (ms : List Str) (us : List Us), ds = [.tup (ms.map D.str), .tup (us.map pairD)] ∧ PVm ms ∧ PVu ms us ∧ Q .none f
set_option maxHeartbeats 2000000 in
theorem ok_program_error (d : Df K mg "program_error" s_program_error) (c_uses_error : Cal P w K mg base 2 "uses_error" ["modules", "uses"] Sp_uses_error) (c_modules_error : Cal P w K mg base 4 "modules_error" ["modules"] Sp_modules_error) : Cal P w K mg base 5 "program_error" ["modules", "uses"] Sp_program_error := by
  obtain ⟨f, fd, F, m⟩ := d
  refine ⟨f, fd, dfn (k := 4) (S := Sp_program_error) F sc_program_error ?len (fun cdv A outer s H E hr => (dss_cons (ds_set false (i := 2) sc_program_error.nd (de_callC c_modules_error (hr.mono (by decide)) (da_cons (de_v 0) da_nil)))
      (dss_cons (ds_if (dp_isN (de_v 2) de_non) (dss_one (ds_set false (i := 2) sc_program_error.nd (de_callC c_uses_error (hr.mono (by decide)) (da_cons (de_v 0) (da_cons (de_v 1) da_nil))))) dss_nil)
      (dss_one (ds_ret (de_v 2)))))) ?h, F.kp, F.binds fun _ _ _ _ _ _ us hl => match us, hl with | [_, _], _ => rfl, m⟩
  case len =>
    intro g ds n Q h; obtain ⟨_, _, rfl, _⟩ := h; rfl
  case h =>
    intro g ds n Q h
    obtain ⟨ms, us, rfl, hm, hv, q⟩ := h
    exact ⟨ms, rfl, hm, ms, us, rfl, hm, hv, q⟩
/-! parts_of -/
theorem sc_parts_of : FnScope ["modules", "found", "module", "names", "many"] ["modules"] (defScope s_parts_of) := ⟨rfl, rfl, rfl, by decide +kernel, rfl, by decide +kernel, by decide +kernel⟩
def isPart (ms : List Str) (x : Str) : Prop := ∃ m ∈ ms, ∃ k, 1 ≤ k ∧ k ≤ (Txt.split m ".").length ∧ x = Txt.join "." ((Txt.split m ".").take k)
structure Parts (ms ks : List Str) : Prop where
  nd : ks.Nodup
  mem : ∀ x, x ∈ ks ↔ isPart ms x
theorem Parts.perm {l m ks : List Str} (h : Parts l ks) (p : l.Perm m) : Parts m ks :=
  ⟨h.nd, fun x => (h.mem x).trans ⟨fun ⟨a, b, c⟩ => ⟨a, p.mem_iff.mp b, c⟩, fun ⟨a, b, c⟩ => ⟨a, p.mem_iff.mpr b, c⟩⟩⟩
def Sp_parts_of : DSp := fun _ ds f Q => ∃ ms : List Str, ds = [.tup (ms.map D.str)] ∧ PVm ms ∧ ∀ ks, Parts ms ks → Q (.tup ((sortS ks).map D.str)) f
theorem join_take {m : Str} {k : Nat} (h : PathN 6 m) (h1 : 1 ≤ k) : PathN 6 (Txt.join "." ((Txt.split m ".").take k)) := by
  obtain ⟨s1, s2, s3, s4⟩ := h.splits
  refine ⟨_, by rw [List.length_take]; omega, by rw [List.length_take]; omega, fun n hn => s3 n (List.mem_of_mem_take hn), rfl⟩
theorem intsD_cons (lo : Int) (n : Nat) : intsD lo (n + 1) = .int lo :: intsD (lo + 1) n := by
  unfold intsD
  rw [List.range_succ_eq_map, List.map_cons, List.map_map]
  refine congr (congrArg _ (by simp)) ?_
  apply List.map_congr_left
  intro i _
  show D.int _ = D.int _
  congr 1
  show lo + ((i + 1 : Nat) : Int) = lo + 1 + (i : Int)
  omega
theorem putKs_strs (ks : List Str) (x : Str) : putKs (ks.map Sum.inr) (.inr x) = (putS ks x).map Sum.inr := by
  unfold putKs putS
  have e : (Sum.inr x : Key) ∈ ks.map Sum.inr ↔ x ∈ ks := by
    constructor
    · intro h
      obtain ⟨y, hy, e⟩ := List.mem_map.mp h
      cases e
      exact hy
    · exact List.mem_map_of_mem
  by_cases h : x ∈ ks
  · rw [if_pos (e.mpr h), if_pos h]
  · rw [if_neg fun z => h (e.mp z), if_neg h, List.map_append]
    rfl
theorem isPart.pathG {ms : List Str} {x : Str} (hm : ∀ m ∈ ms, PathN 6 m) (h : isPart ms x) : PathN 6 x := by
  obtain ⟨m, hmm, k, h1, h2, rfl⟩ := h
  exact join_take (hm m hmm) h1
theorem isPart.path {ms : List Str} {x : Str} (hm : PVm ms) (h : isPart ms x) : PathN 6 x := h.pathG hm.path
theorem Parts.len {ms ks : List Str} (hm : ∀ m ∈ ms, PathN 6 m) (h : Parts ms ks) : ks.length ≤ 6 * ms.length := by
  have hsub : ∀ x ∈ ks, x ∈ ms.flatMap (fun m => (List.range 6).map fun k => Txt.join "." ((Txt.split m ".").take (k + 1))) := fun x hx => by
    obtain ⟨m, h1, k, h2, h3, h4⟩ := (h.mem x).mp hx
    have := (hm m h1).splits.2.1
    refine List.mem_flatMap.mpr ⟨m, h1, List.mem_map.mpr ⟨k - 1, List.mem_range.mpr (by omega), ?_⟩⟩
    rw [h4, show k - 1 + 1 = k by omega]
  refine Nat.le_trans (nodup_sub_len h.nd hsub) ?_
  rw [List.length_flatMap]
  have : ∀ l : List Str, (l.map fun m => ((List.range 6).map fun k => Txt.join "." ((Txt.split m ".").take (k + 1))).length).sum = 6 * l.length := by
    intro l
    induction l with
    | nil => rfl
    | cons x l ih => rw [List.map_cons, List.sum_cons, ih, List.length_map, List.length_range, List.length_cons]; omega
  rw [this]
  exact Nat.le_refl _
set_option maxHeartbeats 2000000 in
theorem ok_parts_of (d : Df K mg "parts_of" s_parts_of) (m_sorted : mg "sorted" = none) (m_tuple : mg "tuple" = none) (m_range : mg "range" = none) (m_len : mg "len" = none) : Cal P w K mg base 1 "parts_of" ["modules"] Sp_parts_of := by
  obtain ⟨f, fd, F, m⟩ := d
  refine ⟨f, fd, dfn (k := 0) (S := Sp_parts_of) F sc_parts_of ?len (fun cdv A outer s H E hr => (dss_cons (ds_setD0 (i := 1) sc_parts_of.nd)
      (dss_cons (ds_for [] PassesOwn.never (di_seq (de_v 0)) (dg_name (i := 2) sc_parts_of.nd) (dss_cons (ds_set false (i := 3) sc_parts_of.nd (dl_split (de_v 2) de_str).e)
      (dss_one (ds_for [] PassesOwn.never (di_range2 m_range (da_cons de_int (da_cons (de_add (de_len m_len (da_cons (de_v 3) da_nil)) de_int) da_nil))) (dg_name (i := 4) sc_parts_of.nd) (dss_one (ds_setKey false hr (i := 1) (de_join de_str (de_sl (de_v 3) do_none (do_some (de_v 4)))) de_bl))))))
      (dss_one (ds_ret (de_callTy call_tuple_of sc_tuple (by rfl) m_tuple (by decide +kernel) (da_cons (de_sorted hr m_sorted (da_cons (de_v 1) da_nil)) da_nil))))))) ?h, F.kp, F.binds fun _ _ _ _ _ _ us hl => match us, hl with | [_], _ => rfl, m⟩
  case len =>
    intro g ds n Q h; obtain ⟨_, rfl, _⟩ := h; rfl
  case h =>
    intro g ds n Q h
    obtain ⟨ms, rfl, hm, q⟩ := h
    refine dFor_inv (fun rest r f => f = n ∧ ∃ (done rest' : List Str) (ks : List Str) (xs : List D) (a b c : Sl), rest = rest'.map D.str ∧ ms = done ++ rest' ∧ r = [.sh (.tup (ms.map D.str)), .od (ks.map Sum.inr) xs, a, b, c] ∧ Parts done ks ∧ ks.length ≤ 6 * done.length) _ _ _ ?_ ?_ ⟨rfl, [], ms, [], [], _, _, _, rfl, rfl, rfl, ⟨List.nodup_nil, fun x => ⟨fun h => by simp at h, fun ⟨_, h, _⟩ => by simp at h⟩⟩, by simp⟩
    · rintro d rest r n0 N ⟨en0, done, rest', ks, xs, a, b, c, hr, hms, rfl, hp, hl⟩ hN
      match rest', hr with
      | m :: rest', hr =>
      obtain ⟨rfl, rfl⟩ := List.cons.inj hr
      have hmm : m ∈ ms := by rw [hms]; simp
      have hpath := hm.path m hmm
      obtain ⟨s1, s2, s3, s4⟩ := hpath.splits
      refine ⟨_, rfl, by decide +kernel, Nat.le_trans hpath.len (by decide), ?_⟩
      refine ⟨?rng, ?_⟩
      case rng => simp only [List.length_map]; omega
      refine dFor_inv (fun rest2 r f => f = n0 ∧ ∃ (j : Nat) (ks2 : List Str) (xs2 : List D) (c : Sl), rest2 = intsD (1 + (j : Int)) ((Txt.split m ".").length - j) ∧ j ≤ (Txt.split m ".").length ∧ r = [.sh (.tup (ms.map D.str)), .od (ks2.map Sum.inr) xs2, .sh (.str m), .sh (.lst ((Txt.split m ".").map D.str)), c] ∧ ks2.Nodup ∧ (∀ x, x ∈ ks2 ↔ isPart done x ∨ ∃ k, 1 ≤ k ∧ k ≤ j ∧ x = Txt.join "." ((Txt.split m ".").take k)) ∧ ks2.length ≤ 6 * done.length + j) _ _ _ ?_ ?_ ⟨rfl, 0, ks, xs, _, ?_, Nat.zero_le _, rfl, hp.nd, fun x => ?_, by omega⟩
      · rintro d2 rest2 r f N2 ⟨rfl, j, ks2, xs2, c2, hr2, hj, rfl, nd2, mem2, len2⟩ hN2
        obtain ⟨t, ht⟩ : ∃ t, (Txt.split m ".").length - j = t + 1 := by
          cases e : (Txt.split m ".").length - j with
          | zero => rw [e] at hr2; cases hr2
          | succ t => exact ⟨t, rfl⟩
        rw [ht, intsD_cons] at hr2
        obtain ⟨rfl, rfl⟩ := List.cons.inj hr2
        have hdl : done.length ≤ 24 := by have := hm.len; rw [hms, List.length_append] at this; omega
        have ej : (1 + (j : Int)) = ((j + 1 : Nat) : Int) := by omega
        have et : cutD ((Txt.split m ".").map D.str) none (some (1 + (j : Int))) = ((Txt.split m ".").take (j + 1)).map D.str := by rw [ej, cutD_take, List.map_take]
        refine ⟨_, rfl, ks2.map Sum.inr, xs2, rfl, trivial, (Txt.split m ".").take (j + 1), et, join_names _ (fun n hn => Nat.le_trans (s3 n (List.mem_of_mem_take hn)).2.1 (by decide)) (by rw [List.length_take]; omega) _ (by decide +kernel), _, rfl, by rw [List.length_map]; exact Nat.le_trans (by omega : ks2.length ≤ 200) (by decide), ?_⟩
        rw [putKs_strs]
        refine hN2 _ _ ⟨rfl, j + 1, putS ks2 (Txt.join "." ((Txt.split m ".").take (j + 1))), _, _, ?_, by omega, rfl, putS_nodup nd2, fun x => ?_, ?_⟩
        · rw [show (Txt.split m ".").length - (j + 1) = t by omega, show (1 + ((j + 1 : Nat) : Int)) = 1 + (j : Int) + 1 by omega]
        · rw [putS_mem, mem2 x]
          constructor
          · rintro ((h | ⟨k, h1, h2, h3⟩) | h)
            · exact .inl h
            · exact .inr ⟨k, h1, by omega, h3⟩
            · exact .inr ⟨j + 1, by omega, by omega, h⟩
          · rintro (h | ⟨k, h1, h2, h3⟩)
            · exact .inl (.inl h)
            · by_cases hk : k = j + 1
              · subst hk; exact .inr h3
              · exact .inl (.inr ⟨k, h1, by omega, h3⟩)
        · have := putS_len ks2 (Txt.join "." ((Txt.split m ".").take (j + 1)))
          omega
      · rintro r f ⟨rfl, j, ks2, xs2, c2, hr2, hj, rfl, nd2, mem2, len2⟩
        have hjl : j = (Txt.split m ".").length := by
          cases e : (Txt.split m ".").length - j with
          | zero => omega
          | succ t => rw [e, intsD_cons] at hr2; cases hr2
        subst hjl
        refine hN _ _ ⟨en0, done ++ [m], rest', ks2, xs2, _, _, _, rfl, by rw [hms]; simp, rfl, ⟨nd2, fun x => ?_⟩, by rw [List.length_append]; simp; omega⟩
        rw [mem2 x]
        constructor
        · rintro (⟨m', h1, h2⟩ | ⟨k, h1, h2, h3⟩)
          · exact ⟨m', by simp [h1], h2⟩
          · exact ⟨m, by simp, k, h1, h2, h3⟩
        · rintro ⟨m', h1, k, h2, h3, h4⟩
          rcases List.mem_append.mp h1 with h | h
          · exact .inl ⟨m', h, k, h2, h3, h4⟩
          · rw [List.mem_singleton.mp h] at h3 h4
            exact .inr ⟨k, h2, h3, h4⟩
      · show intsD 1 (((((Txt.split m ".").map D.str).length : Int) + 1) - 1).toNat = _
        rw [List.length_map]
        congr 1
        omega
      · rw [hp.mem x]
        constructor
        · exact .inl
        · rintro (h | ⟨k, h1, h2, _⟩)
          · exact h
          · omega
    · rintro r f ⟨rfl, done, rest', ks, xs, a, b, c, hr, hms, rfl, hp, hl⟩
      obtain rfl : rest' = [] := by
        match rest', hr with
        | [], _ => rfl
      rw [List.append_nil] at hms
      subst hms
      have hk : (ks.map Sum.inr).map keyD = ks.map D.str := by rw [List.map_map]; rfl
      refine ⟨?_, ?_⟩
      · rw [hk]
        exact sorts_strs (Nat.le_trans hl (Nat.le_trans (Nat.mul_le_mul_left 6 hm.len) (by decide))) fun s hs => ((hp.mem s).mp hs).path hm |>.asc
      · rw [hk, sortD_strs]
        exact q ks hp
/-! Program.__init__ -/
theorem sc_Program___init__ : FnScope ["self", "modules", "uses", "error"] ["self", "modules", "uses"] (defScope s_Program___init__) := ⟨rfl, rfl, rfl, by decide +kernel, rfl, by decide +kernel, by decide +kernel⟩
def prgD (ms : List Str) (us : List Us) (ks : List Str) : D := .obj "Program" ["places", "links", "heads"] [.tup ((sortS ms).map D.str), .tup ((sortU us).map pairD), .tup ((sortS ks).map D.str)]
def Sp_Program___init__ : DSp := fun _ ds f Q => ∃ (ms : List Str) (us : List Us), ds = [.tup (ms.map D.str), .tup (us.map pairD)] ∧ PVm ms ∧ PVu ms us ∧ ∀ ks, Parts ms ks → Q (prgD ms us ks) f
set_option maxHeartbeats 2000000 in
theorem ok_Program___init__ (m_sorted : mg "sorted" = none) (m_tuple : mg "tuple" = none) {C_Program : Addr} (k_Program : KC K "Program" C_Program) (n_Program_heads : NoAttr K C_Program "heads") (n_Program_links : NoAttr K C_Program "links") (n_Program_places : NoAttr K C_Program "places") (c_parts_of : Cal P w K mg base 1 "parts_of" ["modules"] Sp_parts_of) (c_program_error : Cal P w K mg base 5 "program_error" ["modules", "uses"] Sp_program_error) (mg_Program : mg "Program" = some (.ref C_Program)) (d : ∃ f fd, Fun K "__init__" "Program.__init__" s_Program___init__ f fd ∧ Mk K C_Program f) : Mkr P w K mg base 6 "Program" ["self", "modules", "uses"] Sp_Program___init__ := by
  obtain ⟨f, fd, F, M⟩ := d
  refine ⟨C_Program, f, fd, M, dinit (k := 5) (S := Sp_Program___init__) (c := "Program") F sc_Program___init__ ?len (fun cdv A outer s H E hr => (dss_cons (ds_set false (i := 3) sc_Program___init__.nd (de_callC c_program_error (hr.mono (by decide)) (da_cons (de_v 1) (da_cons (de_v 2) da_nil))))
      (dss_cons (ds_if (dp_notN (de_v 3) de_non) (dss_one ds_never) dss_nil)
      (dss_cons (ds_fldO false (i := 0) k_Program n_Program_places (de_callTy call_tuple_of sc_tuple (by rfl) m_tuple (by decide +kernel) (da_cons (de_sorted hr m_sorted (da_cons (de_v 1) da_nil)) da_nil)))
      (dss_cons (ds_fldO false (i := 0) k_Program n_Program_links (de_callTy call_tuple_of sc_tuple (by rfl) m_tuple (by decide +kernel) (da_cons (de_sorted hr m_sorted (da_cons (de_v 2) da_nil)) da_nil)))
      (dss_one (ds_fldO false (i := 0) k_Program n_Program_heads (de_callC c_parts_of (hr.mono (by decide)) (da_cons (de_v 1) da_nil))))))))) ?h, F.binds fun _ _ _ _ _ _ us hl => match us, hl with | [_, _, _], _ => rfl, k_Program.ns, mg_Program⟩
  case len =>
    intro g ds n Q h; obtain ⟨_, _, rfl, _⟩ := h; rfl
  case h =>
    intro a g ds n Q h
    obtain ⟨ms, us, rfl, hm, hv, q⟩ := h
    refine ⟨ms, us, rfl, hm, hv, ?_⟩
    have hs1 : Sorts (ms.map D.str) := sorts_strs (Nat.le_trans hm.len (by decide)) fun s hs => (hm.path s hs).asc
    have hs2 : Sorts (us.map pairD) := sorts_pairs (Nat.le_trans hv.len (by decide)) (hv.asc hm)
    refine ⟨a, [], [], rfl, by decide, by decide, hs1, ?_⟩
    refine ⟨a, ["places"], _, rfl, by decide, by decide, hs2, ?_⟩
    refine ⟨a, ["places", "links"], _, rfl, by decide, by decide, ms, rfl, hm, fun ks hk => ?_⟩
    refine ⟨["places", "links", "heads"], _, rfl, ?_⟩
    have := q ks hk
    unfold prgD at this
    rw [← sortD_strs ms, ← sortD_pairs us] at this
    exact this
/-! Program.modules -/
theorem sc_Program_modules : FnScope ["self"] ["self"] (defScope s_Program_modules) := ⟨rfl, rfl, rfl, by decide +kernel, rfl, by decide +kernel, by decide +kernel⟩
def Sp_Program_modules : DSp := fun _ ds f Q => ∃ (ms : List Str) (us : List Us) (ks : List Str), ds = [prgD ms us ks] ∧ Q (.tup ((sortS ms).map D.str)) f
set_option maxHeartbeats 2000000 in
theorem ok_Program_modules {C_Program : Addr} (k_Program : KC K "Program" C_Program) (n_Program_places : NoAttr K C_Program "places") (d : ∃ p f fd, Fun K "modules" "Program.modules" s_Program_modules f fd ∧ PropOf K C_Program "modules" p f) : CalP P w K mg base 1 "Program" "modules" ["self"] Sp_Program_modules := by
  obtain ⟨p, f, fd, F, M⟩ := d
  refine ⟨C_Program, p, f, fd, k_Program, M, dfn (k := 0) (S := Sp_Program_modules) F sc_Program_modules ?len (fun cdv A outer s H E hr => (dss_one (ds_ret (de_fld k_Program n_Program_places (de_v 0))))) ?h, F.binds fun _ _ _ _ _ _ us hl => match us, hl with | [_], _ => rfl⟩
  case len =>
    intro g ds n Q h; obtain ⟨_, _, _, rfl, _⟩ := h; rfl
  case h =>
    intro g ds n Q h
    obtain ⟨ms, us, ks, rfl, q⟩ := h
    exact ⟨rfl, _, rfl, q⟩
/-! moves: a module, and the path that becomes its home -/
abbrev Mvs := List (Str × Str)
def mvD (p : Str × Str) : D := .tup [.str p.1, .str p.2]
def mvT (mv : Mvs) : D := .ftp (mv.map mvD)
def lastS (m : Str) : Str := ((Txt.split m ".").getLast?).getD ""
def hmO (mv : Mvs) (m : Str) : Option Str := (mv.find? fun p => decide (p.1 = m)).map (·.2)
def plc (mv : Mvs) (m : Str) : Str := match hmO mv m with
  | some h => (h ++ ".") ++ lastS m
  | none => m
structure MvOk (ms : List Str) (mv : Mvs) : Prop where
  nd : (mv.map (·.1)).Nodup
  mem : ∀ p ∈ mv, p.1 ∈ ms
  hm : ∀ p ∈ mv, PathN 5 p.2
theorem hmO_mem {mv : Mvs} (hn : (mv.map (·.1)).Nodup) {p : Str × Str} (h : p ∈ mv) : hmO mv p.1 = some p.2 := by
  unfold hmO
  obtain ⟨q, hq⟩ := Option.isSome_iff_exists.mp (List.find?_isSome (p := fun q : Str × Str => decide (q.1 = p.1)).mpr ⟨p, h, decide_eq_true rfl⟩)
  rw [hq]
  have h1 := List.mem_of_find?_eq_some hq
  have h2 : q.1 = p.1 := of_decide_eq_true (List.find?_some (p := fun q : Str × Str => decide (q.1 = p.1)) hq)
  have : q = p := by
    obtain ⟨i, hi, rfl⟩ := List.getElem_of_mem h1
    obtain ⟨j, hj, rfl⟩ := List.getElem_of_mem h
    have key := List.pairwise_iff_getElem.mp hn
    rcases Nat.lt_trichotomy i j with c | c | c
    · have := key i j (by rw [List.length_map]; exact hi) (by rw [List.length_map]; exact hj) c
      rw [List.getElem_map, List.getElem_map] at this
      exact absurd h2 this
    · subst c; rfl
    · have := key j i (by rw [List.length_map]; exact hj) (by rw [List.length_map]; exact hi) c
      rw [List.getElem_map, List.getElem_map] at this
      exact absurd h2.symm this
  rw [this]
  rfl
theorem hmO_some {mv : Mvs} {m h : Str} (e : hmO mv m = some h) : (m, h) ∈ mv := by
  unfold hmO at e
  obtain ⟨q, hq, rfl⟩ := Option.map_eq_some_iff.mp e
  have h1 := List.mem_of_find?_eq_some hq
  have h2 : q.1 = m := of_decide_eq_true (List.find?_some (p := fun q : Str × Str => decide (q.1 = m)) hq)
  rw [← h2]
  exact h1
theorem hmO_none {mv : Mvs} {m : Str} : hmO mv m = none ↔ m ∉ mv.map (·.1) := by
  unfold hmO
  rw [Option.map_eq_none_iff, List.find?_eq_none]
  constructor
  · intro h hm
    obtain ⟨p, hp, e⟩ := List.mem_map.mp hm
    exact h p hp (decide_eq_true e)
  · intro h p hp hb
    exact h (List.mem_map.mpr ⟨p, hp, of_decide_eq_true hb⟩)
theorem lastS_eq {m : Str} {ns : List Str} {n : Str} (h : Txt.split m "." = ns ++ [n]) : lastS m = n := by
  unfold lastS
  rw [h, List.getLast?_append]
  rfl
theorem lastS_name {k : Nat} {m : Str} (h : PathN k m) : isName (lastS m) := by
  obtain ⟨h1, _, h3, _⟩ := h.splits
  unfold lastS
  cases e : (Txt.split m ".").getLast? with
  | none =>
    have := List.getLast?_eq_none_iff.mp e
    rw [this] at h1
    cases h1
  | some n => exact h3 n (List.mem_of_getLast? e)
theorem home_path {k : Nat} {h n : Str} (hh : PathN k h) (hn : isName n) : PathN (k + 1) ((h ++ ".") ++ n) := by
  obtain ⟨ns, n1, n2, n3, rfl⟩ := hh
  refine ⟨ns ++ [n], by rw [List.length_append]; omega, by rw [List.length_append, List.length_singleton]; omega, fun x hx => ?_, join_snoc ns n (List.length_pos_iff.mp n1)⟩
  rcases List.mem_append.mp hx with e | e
  · exact n3 x e
  · rw [List.mem_singleton.mp e]; exact hn
theorem plc_path {ms : List Str} {mv : Mvs} (hm : PVm ms) (hv : MvOk ms mv) {m : Str} (h : m ∈ ms) : PathN 6 (plc mv m) := by
  unfold plc
  cases e : hmO mv m with
  | none => exact hm.path m h
  | some x => exact home_path (hv.hm _ (hmO_some e)) (lastS_name (hm.path m h))
/-- a moved module clashes -/
def clsh (ms : List Str) (mv : Mvs) (m : Str) : Bool := ms.any fun o => decide (o ≠ m) && ovl (plc mv m) (plc mv o)
def BadP (ms : List Str) (mv : Mvs) (p : Str) : Prop := ∃ m ∈ mv.map (·.1), clsh ms mv m = true ∧ p = plc mv m
structure Cl (ms : List Str) (mv : Mvs) (p : Str) : Prop where
  is : BadP ms mv p
  le : ∀ q, BadP ms mv q → leS p q = true
theorem Cl.uniq {ms : List Str} {mv : Mvs} {p q : Str} (h : Cl ms mv p) (g : Cl ms mv q) : p = q := leS_antisymm (h.le q g.is) (g.le p h.is)
/-- no clash: the places are apart -/
theorem ovl_cm (a b : Str) : ovl a b = ovl b a := by unfold ovl; rw [Bool.or_comm]
theorem pvm_apart {ms : List Str} (h : PVm ms) {a b : Str} (ha : a ∈ ms) (hb : b ∈ ms) (hn : a ≠ b) : ovl a b = false := by
  obtain ⟨i, hi, rfl⟩ := List.getElem_of_mem ha
  obtain ⟨j, hj, rfl⟩ := List.getElem_of_mem hb
  have key := List.pairwise_iff_getElem.mp h.apart
  rcases Nat.lt_trichotomy i j with c | c | c
  · rw [ovl_cm]; exact key i j hi hj c
  · subst c; exact absurd rfl hn
  · exact key j i hj hi c
theorem plc_apart {ms : List Str} {mv : Mvs} (hm : PVm ms) (h : ∀ p, ¬ BadP ms mv p) {a b : Str} (ha : a ∈ ms) (hb : b ∈ ms) (hn : a ≠ b) : ovl (plc mv a) (plc mv b) = false := by
  cases e : ovl (plc mv a) (plc mv b) with
  | false => rfl
  | true =>
    by_cases h1 : a ∈ mv.map (·.1)
    · exact absurd ⟨a, h1, List.any_eq_true.mpr ⟨b, hb, by rw [decide_eq_true (Ne.symm hn), e]; rfl⟩, rfl⟩ (h _)
    · by_cases h2 : b ∈ mv.map (·.1)
      · exact absurd ⟨b, h2, List.any_eq_true.mpr ⟨a, ha, by rw [decide_eq_true hn, ovl_cm, e]; rfl⟩, rfl⟩ (h _)
      · have ea : plc mv a = a := by unfold plc; rw [hmO_none.mpr h1]
        have eb : plc mv b = b := by unfold plc; rw [hmO_none.mpr h2]
        rw [ea, eb, pvm_apart hm ha hb hn] at e
        cases e
theorem plc_pvm {ms : List Str} {mv : Mvs} (hm : PVm ms) (hv : MvOk ms mv) (h : ∀ p, ¬ BadP ms mv p) : PVm (ms.map (plc mv)) where
  len := by rw [List.length_map]; exact hm.len
  path := fun p hp => by
    obtain ⟨m, h1, rfl⟩ := List.mem_map.mp hp
    exact plc_path hm hv h1
  apart := by
    rw [List.pairwise_map]
    have nd : ms.Pairwise (· ≠ ·) := hm.nd
    exact nd.imp_of_mem fun {a b} ha hb hn => plc_apart hm h hb ha (Ne.symm hn)
def carU (mv : Mvs) (u : Us) : Us := (plc mv u.1, plc mv u.2)
theorem plc_inj {ms : List Str} {mv : Mvs} (hm : PVm ms) (h : ∀ p, ¬ BadP ms mv p) {a b : Str} (ha : a ∈ ms) (hb : b ∈ ms) (e : plc mv a = plc mv b) : a = b := by
  by_cases hn : a = b
  · exact hn
  · have := plc_apart hm h ha hb hn
    rw [e, ovl_self] at this
    cases this
theorem car_pvu {ms : List Str} {us : List Us} {mv : Mvs} (hm : PVm ms) (hu : PVu ms us) (h : ∀ p, ¬ BadP ms mv p) : PVu (ms.map (plc mv)) (us.map (carU mv)) where
  len := by rw [List.length_map]; exact hu.len
  mem := fun u hu' => by
    obtain ⟨v, hv, rfl⟩ := List.mem_map.mp hu'
    obtain ⟨h1, h2, h3⟩ := hu.mem v hv
    exact ⟨List.mem_map_of_mem h1, List.mem_map_of_mem h2, fun e => h3 (plc_inj hm h h1 h2 e)⟩
  nd := by
    show (us.map (carU mv)).Pairwise (· ≠ ·)
    rw [List.pairwise_map]
    refine (show us.Pairwise (· ≠ ·) from hu.nd).imp_of_mem fun {a b} ha hb hn e => hn ?_
    obtain ⟨a1, a2, _⟩ := hu.mem a ha
    obtain ⟨b1, b2, _⟩ := hu.mem b hb
    have e1 : plc mv a.1 = plc mv b.1 := congrArg Prod.fst e
    have e2 : plc mv a.2 = plc mv b.2 := congrArg Prod.snd e
    exact Prod.ext (plc_inj hm h a1 b1 e1) (plc_inj hm h a2 b2 e2)
theorem PVm.sortm {ms : List Str} (h : PVm ms) : PVm (sortS ms) := h.perm (sortS_perm ms)
theorem BadP.perm {ms ns : List Str} {mv : Mvs} (hs : ∀ x, x ∈ ms ↔ x ∈ ns) {p : Str} : BadP ms mv p ↔ BadP ns mv p := by
  have : clsh ms mv = clsh ns mv := by
    funext m
    unfold clsh
    rw [Bool.eq_iff_iff, List.any_eq_true, List.any_eq_true]
    exact ⟨fun ⟨x, h1, h2⟩ => ⟨x, (hs x).mp h1, h2⟩, fun ⟨x, h1, h2⟩ => ⟨x, (hs x).mpr h1, h2⟩⟩
  unfold BadP
  rw [this]
theorem PVu.sortm {ms : List Str} {us : List Us} (h : PVu ms us) : PVu (sortS ms) (sortU us) where
  len := by rw [(sortU_perm us).length_eq]; exact h.len
  mem := fun u hu => by
    obtain ⟨h1, h2, h3⟩ := h.mem u ((sortU_perm us).mem_iff.mp hu)
    exact ⟨(sortS_perm ms).mem_iff.mpr h1, (sortS_perm ms).mem_iff.mpr h2, h3⟩
  nd := (sortU_perm us).nodup_iff.mpr h.nd
/-! Program.parts -/
theorem sc_Program_parts : FnScope ["self"] ["self"] (defScope s_Program_parts) := ⟨rfl, rfl, rfl, by decide +kernel, rfl, by decide +kernel, by decide +kernel⟩
def Sp_Program_parts : DSp := fun _ ds f Q => ∃ (ms : List Str) (us : List Us) (ks : List Str), ds = [prgD ms us ks] ∧ Q (.tup ((sortS ks).map D.str)) f
set_option maxHeartbeats 2000000 in
theorem ok_Program_parts {C_Program : Addr} (k_Program : KC K "Program" C_Program) (n_Program_heads : NoAttr K C_Program "heads") (d : ∃ p f fd, Fun K "parts" "Program.parts" s_Program_parts f fd ∧ PropOf K C_Program "parts" p f) : CalP P w K mg base 1 "Program" "parts" ["self"] Sp_Program_parts := by
  obtain ⟨p, f, fd, F, M⟩ := d
  refine ⟨C_Program, p, f, fd, k_Program, M, dfn (k := 0) (S := Sp_Program_parts) F sc_Program_parts ?len (fun cdv A outer s H E hr => (dss_one (ds_ret (de_fld k_Program n_Program_heads (de_v 0))))) ?h, F.binds fun _ _ _ _ _ _ us hl => match us, hl with | [_], _ => rfl⟩
  case len =>
    intro g ds n Q h; obtain ⟨_, _, _, rfl, _⟩ := h; rfl
  case h =>
    intro g ds n Q h
    obtain ⟨ms, us, ks, rfl, q⟩ := h
    exact ⟨rfl, _, rfl, q⟩
/-! Program.uses -/
theorem sc_Program_uses : FnScope ["self"] ["self"] (defScope s_Program_uses) := ⟨rfl, rfl, rfl, by decide +kernel, rfl, by decide +kernel, by decide +kernel⟩
def Sp_Program_uses : DSp := fun _ ds f Q => ∃ (ms : List Str) (us : List Us) (ks : List Str), ds = [prgD ms us ks] ∧ Q (.tup ((sortU us).map pairD)) f
set_option maxHeartbeats 2000000 in
theorem ok_Program_uses {C_Program : Addr} (k_Program : KC K "Program" C_Program) (n_Program_links : NoAttr K C_Program "links") (d : ∃ p f fd, Fun K "uses" "Program.uses" s_Program_uses f fd ∧ PropOf K C_Program "uses" p f) : CalP P w K mg base 1 "Program" "uses" ["self"] Sp_Program_uses := by
  obtain ⟨p, f, fd, F, M⟩ := d
  refine ⟨C_Program, p, f, fd, k_Program, M, dfn (k := 0) (S := Sp_Program_uses) F sc_Program_uses ?len (fun cdv A outer s H E hr => (dss_one (ds_ret (de_fld k_Program n_Program_links (de_v 0))))) ?h, F.binds fun _ _ _ _ _ _ us hl => match us, hl with | [_], _ => rfl⟩
  case len =>
    intro g ds n Q h; obtain ⟨_, _, _, rfl, _⟩ := h; rfl
  case h =>
    intro g ds n Q h
    obtain ⟨ms, us, ks, rfl, q⟩ := h
    exact ⟨rfl, _, rfl, q⟩
/-! _law_shown -/
theorem sc__law_shown : FnScope ["_law_program"] ["_law_program"] (defScope s__law_shown) := ⟨rfl, rfl, rfl, by decide +kernel, rfl, by decide +kernel, by decide +kernel⟩
def shwD (ms : List Str) (us : List Us) (ks : List Str) : D := .lst [.tup ((sortS ms).map D.str), .tup ((sortU us).map pairD), .tup ((sortS ks).map D.str)]
def Sp__law_shown : DSp := fun _ ds f Q => ∃ (ms : List Str) (us : List Us) (ks : List Str), ds = [prgD ms us ks] ∧ Q (shwD ms us ks) f
set_option maxHeartbeats 2000000 in
theorem ok__law_shown (d : Df K mg "_law_shown" s__law_shown) (c_Program_parts : CalP P w K mg base 1 "Program" "parts" ["self"] Sp_Program_parts) (c_Program_uses : CalP P w K mg base 1 "Program" "uses" ["self"] Sp_Program_uses) (c_Program_modules : CalP P w K mg base 1 "Program" "modules" ["self"] Sp_Program_modules) : Cal P w K mg base 3 "_law_shown" ["_law_program"] Sp__law_shown := by
  obtain ⟨f, fd, F, m⟩ := d
  refine ⟨f, fd, dfn (k := 2) (S := Sp__law_shown) F sc__law_shown ?len (fun cdv A outer s H E hr => (dss_one (ds_ret (dl_lst (da_cons (de_prop c_Program_modules (hr.mono (by decide)) (de_v 0)) (da_cons (de_prop c_Program_uses (hr.mono (by decide)) (de_v 0)) (da_cons (de_prop c_Program_parts (hr.mono (by decide)) (de_v 0)) da_nil)))).e))) ?h, F.kp, F.binds fun _ _ _ _ _ _ us hl => match us, hl with | [_], _ => rfl, m⟩
  case len =>
    intro g ds n Q h; obtain ⟨_, _, _, rfl, _⟩ := h; rfl
  case h =>
    intro g ds n Q h
    obtain ⟨ms, us, ks, rfl, q⟩ := h
    exact ⟨rfl, ms, us, ks, rfl, rfl, ms, us, ks, rfl, rfl, ms, us, ks, rfl, show 3 ≤ lim by decide, q⟩
theorem isC_prg {ms : List Str} {us : List Us} {ks : List Str} : isC "Program" (prgD ms us ks) ≠ none := by
  show (if ("Program" : Str) = "Program" then some true else none) ≠ none
  rw [if_pos rfl]
  simp
theorem nolA_str : ∀ l : List Str, nolA (l.map D.str) = true
  | [] => rfl
  | x :: l => by
    show (true && nolA (l.map D.str)) = true
    rw [nolA_str l]; rfl
theorem nolA_pairs : ∀ l : List Us, nolA (l.map pairD) = true
  | [] => rfl
  | x :: l => by
    show (true && nolA (l.map pairD)) = true
    rw [nolA_pairs l]; rfl
theorem nol_prg (ms : List Str) (us : List Us) (ks : List Str) : (prgD ms us ks).nol = true := by
  show (nolA _ && (nolA _ && (nolA _ && true))) = true
  rw [nolA_str, nolA_pairs, nolA_str]; rfl
theorem shp_shw {ms : List Str} {us : List Us} {ks : List Str} (hm : ∀ m ∈ ms, asc m) (hu : ∀ u ∈ us, ascU u) (hk : ∀ k ∈ ks, asc k) : Shp 3 (shwD ms us ks) := shp_lst fun x hx => by
  simp only [List.mem_cons, List.not_mem_nil, or_false] at hx
  rcases hx with rfl | rfl | rfl
  · exact shp_tup fun y hy => by
      obtain ⟨s, hs, rfl⟩ := List.mem_map.mp hy
      exact shp_str (hm s ((sortS_perm ms).mem_iff.mp hs)) 1
  · exact shp_tup fun y hy => by
      obtain ⟨u, hu', rfl⟩ := List.mem_map.mp hy
      exact shp_pair (hu u ((sortU_perm us).mem_iff.mp hu'))
  · exact shp_tup fun y hy => by
      obtain ⟨s, hs, rfl⟩ := List.mem_map.mp hy
      exact shp_str (hk s ((sortS_perm ks).mem_iff.mp hs)) 1
theorem shw_eq {ns Ms : List Str} {vs Us' : List Us} {k1 k2 : List Str} (h1 : ns.Perm Ms) (h2 : vs.Perm Us') (p1 : Parts ns k1) (p2 : Parts Ms k2) : shwD ns vs k1 = shwD Ms Us' k2 := by
  unfold shwD
  rw [sortS_eq h1, sortU_eq h2, sortS_ext p1.nd p2.nd fun x => ((p1.perm h1).mem x).trans (p2.mem x).symm]
theorem mv_rev {ms : List Str} {mv : Mvs} (h : MvOk ms mv) : MvOk ms mv.reverse where
  nd := by rw [List.map_reverse]; exact (List.reverse_perm _).nodup_iff.mpr h.nd
  mem := fun p hp => h.mem p (List.mem_reverse.mp hp)
  hm := fun p hp => h.hm p (List.mem_reverse.mp hp)
theorem hm_rev {ms : List Str} {mv : Mvs} (h : MvOk ms mv) (m : Str) : hmO mv.reverse m = hmO mv m := by
  cases e : hmO mv m with
  | none =>
    rw [hmO_none] at e ⊢
    rw [List.map_reverse, List.mem_reverse]
    exact e
  | some x => exact hmO_mem (mv_rev h).nd (p := (m, x)) (List.mem_reverse.mpr (hmO_some e))
theorem plc_rev {ms : List Str} {mv : Mvs} (h : MvOk ms mv) : plc mv.reverse = plc mv := by
  funext m
  unfold plc
  rw [hm_rev h]
theorem car_rev {ms : List Str} {mv : Mvs} (h : MvOk ms mv) : carU mv.reverse = carU mv := by
  funext u
  unfold carU
  rw [plc_rev h]
/-! moves that leave each last name alone: no clash -/
theorem split_home {k : Nat} {h n : Str} (hh : PathN k h) (hn : isName n) : Txt.split ((h ++ ".") ++ n) "." = Txt.split h "." ++ [n] := by
  obtain ⟨ns, n1, n2, n3, rfl⟩ := hh
  have hne : ns ≠ [] := List.length_pos_iff.mp n1
  rw [join_snoc ns n hne, split_join_names (by simp) fun x hx => ?_, split_join_names hne n3]
  rcases List.mem_append.mp hx with e | e
  · exact n3 x e
  · rw [List.mem_singleton.mp e]; exact hn
theorem lastS_mem {k : Nat} {m : Str} (h : PathN k m) : lastS m ∈ Txt.split m "." := by
  obtain ⟨ns, n1, n2, n3, rfl⟩ := h
  have hne : ns ≠ [] := List.length_pos_iff.mp n1
  unfold lastS
  rw [split_join_names hne n3, List.getLast?_eq_some_getLast hne]
  exact List.getLast_mem hne
theorem uq_apart {k : Nat} {m o : Str} (hm : PathN k m) (ho : PathN k o) (h1 : lastS m ∉ Txt.split o ".") (h2 : lastS o ∉ Txt.split m ".") : ovl m o = false := by
  have key : ∀ {a b : Str}, PathN k a → lastS a ∉ Txt.split b "." → cov a b = false := fun {a b} ha h => by
    cases e : cov a b with
    | false => rfl
    | true =>
      rw [cov_take] at e
      have e := of_decide_eq_true e
      have := lastS_mem ha
      rw [← e] at this
      exact absurd (List.mem_of_mem_take this) h
  unfold ovl
  rw [key hm h1, key ho h2]
  rfl
def Uq (ms : List Str) : Prop := ∀ m ∈ ms, ∀ o ∈ ms, m ≠ o → lastS m ∉ Txt.split o "."
def MvU (ms : List Str) (mv : Mvs) : Prop := ∀ p ∈ mv, ∀ o ∈ ms, o ≠ p.1 → lastS o ∉ Txt.split p.2 "."
theorem lastS_plc {ms : List Str} {mv : Mvs} (hm : PVm ms) (hv : MvOk ms mv) {m : Str} (h : m ∈ ms) : lastS (plc mv m) = lastS m := by
  unfold plc
  cases e : hmO mv m with
  | none => rfl
  | some z => exact lastS_eq (split_home (hv.hm _ (hmO_some e)) (lastS_name (hm.path m h)))
theorem plc_uq {ms : List Str} {mv : Mvs} (hm : PVm ms) (hv : MvOk ms mv) (hu : Uq ms) (hw : MvU ms mv) {m o : Str} (h1 : m ∈ ms) (h2 : o ∈ ms) (hn : m ≠ o) : lastS m ∉ Txt.split (plc mv o) "." := by
  unfold plc
  cases e : hmO mv o with
  | none => exact hu m h1 o h2 hn
  | some z =>
    have hz := hmO_some e
    show lastS m ∉ Txt.split ((z ++ ".") ++ lastS o) "."
    rw [split_home (hv.hm _ hz) (lastS_name (hm.path o h2))]
    intro hx
    rcases List.mem_append.mp hx with hx | hx
    · exact hw _ hz m h1 hn hx
    · apply hu m h1 o h2 hn
      rw [List.mem_singleton.mp hx]
      exact lastS_mem (hm.path o h2)
theorem no_bad {ms : List Str} {mv : Mvs} (hm : PVm ms) (hv : MvOk ms mv) (hu : Uq ms) (hw : MvU ms mv) : ∀ p, ¬ BadP ms mv p := by
  rintro p ⟨m, h1, h2, _⟩
  obtain ⟨q, hq, rfl⟩ := List.mem_map.mp h1
  have hmm := hv.mem q hq
  unfold clsh at h2
  obtain ⟨o, ho, h3⟩ := List.any_eq_true.mp h2
  rw [Bool.and_eq_true, decide_eq_true_iff] at h3
  have := uq_apart (plc_path hm hv hmm) (plc_path hm hv ho) (by rw [lastS_plc hm hv hmm]; exact plc_uq hm hv hu hw hmm ho fun e => h3.1 e.symm) (by rw [lastS_plc hm hv ho]; exact plc_uq hm hv hu hw ho hmm h3.1)
  rw [this] at h3
  cases h3.2
theorem uq_plc {ms : List Str} {mv : Mvs} (hm : PVm ms) (hv : MvOk ms mv) (hu : Uq ms) (hw : MvU ms mv) : Uq (ms.map (plc mv)) := by
  intro a ha b hb hn
  obtain ⟨m, h1, rfl⟩ := List.mem_map.mp ha
  obtain ⟨o, h2, rfl⟩ := List.mem_map.mp hb
  rw [lastS_plc hm hv h1]
  exact plc_uq hm hv hu hw h1 h2 fun e => hn (by rw [e])
theorem hmO_app {l r : Mvs} (x : Str) : hmO (l ++ r) x = (hmO l x).or (hmO r x) := by
  unfold hmO
  rw [List.find?_append]
  cases l.find? fun p => decide (p.1 = x) <;> rfl
theorem MvOk.pre {ms : List Str} {l r : Mvs} (h : MvOk ms (l ++ r)) : MvOk ms l := ⟨by have := h.nd; rw [List.map_append, List.nodup_append] at this; exact this.1, fun p hp => h.mem p (by simp [hp]), fun p hp => h.hm p (by simp [hp])⟩
/-- one more move -/
theorem plc_step {ms : List Str} {l : Mvs} {m h : Str} (hm : PVm ms) (hv : MvOk ms (l ++ [(m, h)])) (hb : ∀ p, ¬ BadP ms l p) {x : Str} (hx : x ∈ ms) : plc [(m, h)] (plc l x) = plc (l ++ [(m, h)]) x := by
  have hmm : m ∈ ms := hv.mem (m, h) (by simp)
  have hml : m ∉ l.map (·.1) := fun z => by
    have := hv.nd
    rw [List.map_append, List.nodup_append] at this
    exact this.2.2 m z m (by simp) rfl
  have e1 : hmO l m = none := hmO_none.mpr hml
  have pm : plc l m = m := by unfold plc; rw [e1]
  have one : ∀ y, hmO [(m, h)] y = if m = y then some h else none := fun y => by
    unfold hmO
    rw [List.find?_cons]
    by_cases c : m = y
    · rw [if_pos c]; rw [show decide ((m, h).1 = y) = true from decide_eq_true c]; rfl
    · rw [if_neg c]; rw [show decide ((m, h).1 = y) = false from decide_eq_false c]; rfl
  by_cases c : m = x
  · subst c
    rw [pm]
    unfold plc
    rw [hmO_app, e1, one, if_pos rfl]
    rfl
  · have hne : m ≠ plc l x := fun e => c (plc_inj hm hb hmm hx (by rw [pm]; exact e))
    have e2 : plc [(m, h)] (plc l x) = plc l x := by
      show (match hmO [(m, h)] (plc l x) with | some z => (z ++ ".") ++ lastS (plc l x) | none => plc l x) = _
      rw [one, if_neg hne]
    rw [e2]
    unfold plc
    rw [hmO_app, one, if_neg c]
    cases hmO l x <;> rfl
theorem MvU.perm {ms ns : List Str} {mv : Mvs} (h : MvU ms mv) (hs : ∀ x, x ∈ ns ↔ x ∈ ms) : MvU ns mv := fun p hp o ho => h p hp o ((hs o).mp ho)
theorem Uq.perm {ms ns : List Str} (h : Uq ms) (hs : ∀ x, x ∈ ns ↔ x ∈ ms) : Uq ns := fun m hm o ho => h m ((hs m).mp hm) o ((hs o).mp ho)
theorem MvU.pre {ms : List Str} {l r : Mvs} (h : MvU ms (l ++ r)) : MvU ms l := fun p hp => h p (by simp [hp])
structure StepOk (ms : List Str) (l : Mvs) (m h : Str) (ns : List Str) : Prop where
  pv : PVm ns
  ok : MvOk ns [(m, h)]
  uq : Uq ns
  mu : MvU ns [(m, h)]
  nx : ∀ {vs : List Str}, vs.Perm (ns.map (plc [(m, h)])) → vs.Perm (ms.map (plc (l ++ [(m, h)])))
theorem step_ok {ms : List Str} {l : Mvs} {m h : Str} (hm : PVm ms) (hv : MvOk ms (l ++ [(m, h)])) (hu : Uq ms) (hw : MvU ms (l ++ [(m, h)])) {ns : List Str} (hp : ns.Perm (ms.map (plc l))) : StepOk ms l m h ns := by
  have hv1 := hv.pre
  have hw1 := hw.pre
  have hb := no_bad hm hv1 hu hw1
  have hmm : m ∈ ms := hv.mem (m, h) (by simp)
  have hml : m ∉ l.map (·.1) := fun z => by
    have := hv.nd
    rw [List.map_append, List.nodup_append] at this
    exact this.2.2 m z m (by simp) rfl
  have pm : plc l m = m := by unfold plc; rw [hmO_none.mpr hml]
  refine ⟨(plc_pvm hm hv1 hb).perm hp, ⟨by simp, fun p h1 => ?_, fun p h1 => ?_⟩, (uq_plc hm hv1 hu hw1).perm fun x => hp.mem_iff, fun p h1 o ho hn => ?_, fun {vs} hvs => ?_⟩
  · rw [List.mem_singleton.mp h1, hp.mem_iff]
    exact List.mem_map.mpr ⟨m, hmm, pm⟩
  · rw [List.mem_singleton.mp h1]
    exact hv.hm (m, h) (by simp)
  · rw [List.mem_singleton.mp h1] at hn ⊢
    obtain ⟨o', h2, rfl⟩ := List.mem_map.mp (hp.mem_iff.mp ho)
    rw [lastS_plc hm hv1 h2]
    exact hw (m, h) (by simp) o' h2 fun e => hn (by rw [e]; exact pm)
  · have e : (ms.map (plc l)).map (plc [(m, h)]) = ms.map (plc (l ++ [(m, h)])) := by
      rw [List.map_map]
      exact List.map_congr_left fun x hx => plc_step hm hv hb hx
    rw [← e]
    exact hvs.trans (hp.map _)
theorem car_step {ms : List Str} {us : List Us} {l : Mvs} {m h : Str} (hm : PVm ms) (hus : PVu ms us) (hv : MvOk ms (l ++ [(m, h)])) (hu : Uq ms) (hw : MvU ms (l ++ [(m, h)])) {vs : List Us} (hp : vs.Perm (us.map (carU l))) : (vs.map (carU [(m, h)])).Perm (us.map (carU (l ++ [(m, h)]))) := by
  have hb := no_bad hm hv.pre hu hw.pre
  have e : (us.map (carU l)).map (carU [(m, h)]) = us.map (carU (l ++ [(m, h)])) := by
    rw [List.map_map]
    refine List.map_congr_left fun u h1 => ?_
    show (plc [(m, h)] (plc l u.1), plc [(m, h)] (plc l u.2)) = (plc _ u.1, plc _ u.2)
    rw [plc_step hm hv hb (hus.mem u h1).1, plc_step hm hv hb (hus.mem u h1).2.1]
  rw [← e]
  exact hp.map _
/-! the moves back -/
def par (m : Str) : Str := (Txt.rpartition m ".").1
theorem par_path {m : Str} (pm : PathN 6 m) (hne : par m ≠ "") : PathN 5 (par m) ∧ (∀ x ∈ Txt.split (par m) ".", x ∈ Txt.split m ".") ∧ (par m ++ ".") ++ lastS m = m := by
  unfold par at hne ⊢
  obtain ⟨e1, _⟩ := rpart_names m
  obtain ⟨q1, q2, q3, q4⟩ := pm.splits
  rw [e1] at hne ⊢
  by_cases hc : (Txt.split m ".").length ≤ 1
  · rw [if_pos (by omega)] at hne; exact absurd rfl hne
  · rw [if_neg (by omega)]
    have nn : ∀ n ∈ (Txt.split m ".").dropLast, isName n := fun n hn => q3 n (List.dropLast_subset _ hn)
    have ne : (Txt.split m ".").dropLast ≠ [] := fun z => by have := congrArg List.length z; rw [List.length_dropLast] at this; simp at this; omega
    refine ⟨⟨(Txt.split m ".").dropLast, by rw [List.length_dropLast]; omega, by rw [List.length_dropLast]; omega, nn, rfl⟩, fun x hx => ?_, ?_⟩
    · rw [split_join_names ne nn] at hx
      exact List.dropLast_subset _ hx
    · have hsn : Txt.split m "." ≠ [] := List.length_pos_iff.mp q1
      have el : lastS m = (Txt.split m ".").getLast hsn := by unfold lastS; rw [List.getLast?_eq_some_getLast hsn]; rfl
      rw [el, join_snoc _ _ ne, List.dropLast_concat_getLast hsn]
      exact q4
def bkM (mv : Mvs) (ms : List Str) : Mvs := (ms.filter fun m => !decide (plc mv m = m)).map fun m => (plc mv m, par m)
section
variable {ms P : List Str} {mv : Mvs} (hm : PVm ms) (hv : MvOk ms mv) (hno : ∀ p, ¬ BadP ms mv p) (hne : ∀ m ∈ ms, plc mv m ≠ m → par m ≠ "") (hP : ∀ x, x ∈ P ↔ x ∈ ms.map (plc mv))
include hm hno
theorem bk_nd : ((bkM mv ms).map (·.1)).Nodup := by
  unfold bkM
  rw [List.map_map]
  show List.Pairwise (· ≠ ·) _
  rw [List.pairwise_map]
  refine (show List.Pairwise (· ≠ ·) (ms.filter fun m => !decide (plc mv m = m)) from hm.nd.filter _).imp_of_mem fun {a b} ha hb h e => h ?_
  exact plc_inj hm hno ((List.mem_filter.mp ha).1) ((List.mem_filter.mp hb).1) e
include hv hne
theorem bk_plc {m : Str} (h : m ∈ ms) : plc (bkM mv ms) (plc mv m) = m := by
  by_cases c : plc mv m = m
  · have e : hmO (bkM mv ms) (plc mv m) = none := hmO_none.mpr fun z => by
      obtain ⟨q, hq, e⟩ := List.mem_map.mp z
      obtain ⟨a, ha, rfl⟩ := List.mem_map.mp hq
      obtain ⟨h1, h2⟩ := List.mem_filter.mp ha
      have : a = m := plc_inj hm hno h1 h e
      rw [this, decide_eq_true c] at h2
      cases h2
    show (match hmO (bkM mv ms) (plc mv m) with | some h => (h ++ ".") ++ lastS (plc mv m) | none => plc mv m) = m
    rw [e]
    exact c
  · have e : hmO (bkM mv ms) (plc mv m) = some (par m) := hmO_mem (bk_nd hm hno) (p := (plc mv m, par m)) (List.mem_map.mpr ⟨m, List.mem_filter.mpr ⟨h, by rw [decide_eq_false c]; rfl⟩, rfl⟩)
    show (match hmO (bkM mv ms) (plc mv m) with | some h => (h ++ ".") ++ lastS (plc mv m) | none => plc mv m) = m
    rw [e]
    show (par m ++ ".") ++ lastS (plc mv m) = m
    rw [lastS_plc hm hv h]
    exact (par_path (hm.path m h) (hne m h c)).2.2
include hP
theorem bk_ok : MvOk P (bkM mv ms) := ⟨bk_nd hm hno, fun p hp => by
  obtain ⟨a, ha, rfl⟩ := List.mem_map.mp hp
  exact (hP _).mpr (List.mem_map_of_mem ((List.mem_filter.mp ha).1)), fun p hp => by
  obtain ⟨a, ha, rfl⟩ := List.mem_map.mp hp
  obtain ⟨h1, h2⟩ := List.mem_filter.mp ha
  exact (par_path (hm.path a h1) (hne a h1 (by simpa using h2))).1⟩
theorem bk_no : ∀ p, ¬ BadP P (bkM mv ms) p := by
  rintro p ⟨m, h1, h2, _⟩
  obtain ⟨q, hq, rfl⟩ := List.mem_map.mp h1
  obtain ⟨a, ha, e⟩ := List.mem_map.mp ((hP _).mp ((bk_ok hm hv hno hne hP).mem q hq))
  unfold clsh at h2
  obtain ⟨o, ho, h3⟩ := List.any_eq_true.mp h2
  rw [Bool.and_eq_true, decide_eq_true_iff] at h3
  obtain ⟨b, hb, e2⟩ := List.mem_map.mp ((hP _).mp ho)
  rw [← e, ← e2, bk_plc hm hv hno hne ha, bk_plc hm hv hno hne hb] at h3
  have := pvm_apart hm ha hb fun z => h3.1 (by rw [z])
  rw [this] at h3
  cases h3.2
end
/-- [em x for i in range(len(xs)) if p x], the items by their index -/
theorem lcIx {α : Type} (em : α → D) (p : α → Bool) {g : Option Dk} {t : TgF} {c : DTT} {e : DT} {r : Sg} {Q : List D → Nat → Prop} : ∀ (pre xs : List α) (acc : List D) (f : Nat),
    (∀ (i : Nat) (x : α), (pre ++ xs)[i]? = some x → ∃ l, t (.int (i : Int)) = some l ∧ (∀ (f : Nat) (Q : Bool → Nat → Prop), Q (p x) f → c g (setsR r l) f Q) ∧ (p x = true → ∀ (f : Nat) (Q : QD), Q (em x) f → e g (setsR r l) f Q)) →
    Q (acc ++ (xs.filter p).map em) f → dLcGo g t c e r (intsD (pre.length : Int) xs.length) acc f Q
  | pre, [], acc, f, he, hq => by
    rw [List.filter_nil, List.map_nil, List.append_nil] at hq
    exact hq
  | pre, x :: xs, acc, f, he, hq => by
    obtain ⟨l, hl, h1, h2⟩ := he pre.length x (by simp)
    rw [List.length_cons, intsD_cons]
    simp only [dLcGo, hl]
    have nx : ∀ acc f, Q (acc ++ (xs.filter p).map em) f → dLcGo g t c e r (intsD ((pre.length : Int) + 1) xs.length) acc f Q := fun acc f hq => by
      have := lcIx em p (pre ++ [x]) xs acc f (fun i y hy => he i y (by rw [List.append_assoc] at hy; exact hy)) hq
      rw [List.length_append, List.length_singleton] at this
      rw [show ((pre.length : Int) + 1) = ((pre.length + 1 : Nat) : Int) by omega]
      exact this
    refine h1 f _ ?_
    cases hb : p x with
    | true =>
      rw [if_pos rfl]
      refine h2 hb f _ (nx _ _ ?_)
      rw [List.filter_cons, hb, if_pos rfl, List.map_cons] at hq
      rw [List.append_assoc]
      exact hq
    | false =>
      rw [if_neg Bool.false_ne_true]
      refine nx _ _ ?_
      rw [List.filter_cons, hb, if_neg Bool.false_ne_true] at hq
      exact hq
/-! the modules' last names -/
structure MJ (hs ns : List Str) (zs F : List (Str × Nat × Str)) (done : List Str) (L : List (List Str)) : Prop where
  mi : MI hs ns F done L
  la : ∀ a ∈ L, ∀ x, a.getLast? = some x → (∃ z ∈ F, z.2.2 = x) ∨ x ∈ done
  lu : L.Pairwise fun a b => a.getLast? ≠ b.getLast?
  dl : ∀ a ∈ L, ∀ x ∈ a.dropLast, x ∈ hs ∨ ∃ z ∈ zs, z ∉ F ∧ x = z.2.2
  pf : F.map arN <+: L
theorem arN_lst (z : Str × Nat × Str) : (arN z).getLast? = some z.2.2 := by unfold arN; rw [List.getLast?_concat]
theorem arN_drop (z : Str × Nat × Str) : (arN z).dropLast = List.replicate z.2.1 z.1 := by unfold arN; rw [List.dropLast_concat]
theorem ars_inj {hs ns lv : List Str} {d : Nat} {zs : List (Str × Nat × Str)} (hA : Ars hs ns d zs) (hN : Nms hs ns lv) {z y : Str × Nat × Str} (hz : z ∈ zs) (hy : y ∈ zs) (e : z.2.2 = y.2.2) : z = y := by
  have hn : (zs.map (·.2.2)).Nodup := by rw [hA.n]; exact hN.nn
  obtain ⟨i, hi, rfl⟩ := List.getElem_of_mem hz
  obtain ⟨j, hj, rfl⟩ := List.getElem_of_mem hy
  have key := List.pairwise_iff_getElem.mp hn
  rcases Nat.lt_trichotomy i j with c | c | c
  · exact absurd (by rw [List.getElem_map, List.getElem_map]; exact e) (key i j (by rw [List.length_map]; exact hi) (by rw [List.length_map]; exact hj) c)
  · subst c; rfl
  · exact absurd (by rw [List.getElem_map, List.getElem_map]; exact e.symm) (key j i (by rw [List.length_map]; exact hj) (by rw [List.length_map]; exact hi) c)
theorem MJ.start {hs ns lv : List Str} {d : Nat} {zs F : List (Str × Nat × Str)} (hA : Ars hs ns d zs) (hd : d ≤ 5) (hN : Nms hs ns lv) (hF : F.Sublist zs) : MJ hs ns zs F [] (F.map arN) where
  mi := MI.start hA hd hN hF
  la := fun a ha x hx => by
    obtain ⟨z, hz, rfl⟩ := List.mem_map.mp ha
    rw [arN_lst] at hx
    exact .inl ⟨z, hz, Option.some.inj hx⟩
  lu := by
    have hn : (zs.map (·.2.2)).Nodup := by rw [hA.n]; exact hN.nn
    have h1 : (F.map (·.2.2)).Nodup := hn.sublist (hF.map _)
    rw [List.pairwise_map]
    have h2 : F.Pairwise fun a b => a.2.2 ≠ b.2.2 := List.pairwise_map.mp h1
    exact h2.imp fun {a b} h e => h (by rw [arN_lst, arN_lst] at e; exact Option.some.inj e)
  dl := fun a ha x hx => by
    obtain ⟨z, hz, rfl⟩ := List.mem_map.mp ha
    rw [arN_drop] at hx
    rw [List.eq_of_mem_replicate hx]
    exact .inl (hA.h z (hF.subset hz)).1
  pf := List.prefix_refl _
theorem MJ.add {hs ns lv done : List Str} {d : Nat} {zs F : List (Str × Nat × Str)} {L : List (List Str)} {o : Str} {pre : List Str} (hM : MJ hs ns zs F done L) (hA : Ars hs ns d zs) (hd : d ≤ 4) (hN : Nms hs ns lv) (hF : F.Sublist zs)
    (hdn : ∀ x ∈ done, x ∈ lv) (ho : o ∈ lv) (hod : o ∉ done) (hp : pre = [] ∨ ∃ z ∈ zs, z ∉ F ∧ (pre = arN z ∨ z.2.1 ≤ 3 ∧ pre = arN z ++ [z.2.2])) : MJ hs ns zs F (done ++ [o]) (L ++ [pre ++ [o]]) where
  mi := hM.mi.add hA hd hN hF hdn ho hod hp
  la := fun a ha x hx => by
    rcases List.mem_append.mp ha with h | h
    · exact (hM.la a h x hx).imp id fun h => by simp [h]
    · rw [List.mem_singleton.mp h, List.getLast?_concat] at hx
      exact .inr (by simp [← Option.some.inj hx])
  lu := by
    rw [List.pairwise_append]
    refine ⟨hM.lu, by simp, fun a ha b hb e => ?_⟩
    rw [List.mem_singleton.mp hb, List.getLast?_concat] at e
    rcases hM.la a ha o e with ⟨z, hz, h⟩ | h
    · exact hN.nl o (by rw [← h]; exact hA.name (hF.subset hz)) ho
    · exact hod h
  dl := fun a ha x hx => by
    rcases List.mem_append.mp ha with h | h
    · exact hM.dl a h x hx
    · rw [List.mem_singleton.mp h, List.dropLast_concat] at hx
      rcases hp with rfl | ⟨z, hz, hzF, rfl | ⟨_, rfl⟩⟩
      · cases hx
      · rcases arN_mem hx with rfl | rfl
        · exact .inl (hA.h z hz).1
        · exact .inr ⟨z, hz, hzF, rfl⟩
      · rcases List.mem_append.mp hx with h | h
        · rcases arN_mem h with rfl | rfl
          · exact .inl (hA.h z hz).1
          · exact .inr ⟨z, hz, hzF, rfl⟩
        · exact .inr ⟨z, hz, hzF, List.mem_singleton.mp h⟩
  pf := hM.pf.trans (List.prefix_append _ _)
structure MdU (lv : List Str) (zs : List (Str × Nat × Str)) (ms : List Str) : Prop where
  uq : Uq ms
  la : ∀ o ∈ ms, lastS o ∈ lv ∨ ∃ z ∈ zs, arS z ∈ ms ∧ lastS o = z.2.2
theorem MJ.mdu {hs ns lv done : List Str} {d : Nat} {zs F : List (Str × Nat × Str)} {L : List (List Str)} (hM : MJ hs ns zs F done L) (hA : Ars hs ns d zs) (hN : Nms hs ns lv) (hF : F.Sublist zs) (hdn : ∀ x ∈ done, x ∈ lv) (hl : zs.length ≤ 24) : MdU lv zs ((L.map (Txt.join ".")).take 24) := by
  have spl : ∀ m ∈ (L.map (Txt.join ".")).take 24, ∃ a ∈ L, m = Txt.join "." a ∧ Txt.split m "." = a ∧ a.getLast? = some (lastS m) := fun m hm => by
    obtain ⟨a, ha, rfl⟩ := List.mem_map.mp (List.mem_of_mem_take hm)
    have e := split_join_names (hM.mi.ne a ha) (hM.mi.ok a ha)
    refine ⟨a, ha, rfl, e, ?_⟩
    unfold lastS
    rw [e, List.getLast?_eq_some_getLast (hM.mi.ne a ha)]
    rfl
  have inF : ∀ z ∈ F, arS z ∈ (L.map (Txt.join ".")).take 24 := fun z hz => by
    obtain ⟨r, rfl⟩ := hM.pf
    rw [List.map_append, List.map_map]
    have hz' : arS z ∈ F.map (Txt.join "." ∘ arN) := List.mem_map.mpr ⟨z, hz, rfl⟩
    have hFl : (F.map (Txt.join "." ∘ arN)).length ≤ 24 := by rw [List.length_map]; have := hF.length_le; omega
    rw [List.take_append, List.take_of_length_le hFl]
    exact List.mem_append.mpr (.inl hz')
  refine ⟨fun m hm o ho hne hx => ?_, fun o ho => ?_⟩
  · obtain ⟨a, ha, e1, e2, e3⟩ := spl m hm
    obtain ⟨b, hb, g1, g2, g3⟩ := spl o ho
    rw [g2] at hx
    have hab : a ≠ b := fun e => hne (by rw [e1, g1, e])
    have hbn := hM.mi.ne b hb
    have hxx : lastS m ∈ b.dropLast ∨ lastS m = lastS o := by
      rw [← List.dropLast_concat_getLast hbn] at hx
      rcases List.mem_append.mp hx with h | h
      · exact .inl h
      · right
        rw [List.mem_singleton.mp h]
        rw [List.getLast?_eq_some_getLast hbn] at g3
        exact Option.some.inj g3
    rcases hxx with h | h
    · rcases hM.la a ha _ e3 with ⟨z, hz, q⟩ | q
      · rcases hM.dl b hb _ h with k | ⟨y, hy, hyF, k⟩
        · exact (hN.hn _ k).1 (by rw [← q]; exact hA.name (hF.subset hz))
        · have := ars_inj hA hN (hF.subset hz) hy (q.trans k)
          rw [this] at hz
          exact hyF hz
      · have q := hdn _ q
        rcases hM.dl b hb _ h with k | ⟨y, hy, hyF, k⟩
        · exact (hN.hn _ k).2 q
        · exact hN.nl _ (by rw [k]; exact hA.name hy) q
    · have : ∀ {l : List (List Str)}, (l.Pairwise fun a b => a.getLast? ≠ b.getLast?) → a ∈ l → b ∈ l → a.getLast? ≠ b.getLast? := fun {l} hl h1 h2 => by
        obtain ⟨i, hi, rfl⟩ := List.getElem_of_mem h1
        obtain ⟨j, hj, rfl⟩ := List.getElem_of_mem h2
        have key := List.pairwise_iff_getElem.mp hl
        rcases Nat.lt_trichotomy i j with c | c | c
        · exact key i j hi hj c
        · subst c; exact absurd rfl hab
        · exact fun e => key j i hj hi c e.symm
      exact this hM.lu ha hb (by rw [e3, g3, h])
  · obtain ⟨b, hb, g1, g2, g3⟩ := spl o ho
    rcases hM.la b hb _ g3 with ⟨z, hz, q⟩ | q
    · exact .inr ⟨z, hF.subset hz, inF z hz, q.symm⟩
    · exact .inl (hdn _ q)
/-! _law_homes -/
theorem sc__law_homes : FnScope ["_law_stream_here", "_law_areas_here", "_law_modules_here", "_law_names_here", "_law_rooms", "_law_found", "_law_name", "_law_area", "_law_home"] ["_law_stream_here", "_law_areas_here", "_law_modules_here", "_law_names_here"] (defScope s__law_homes) := ⟨rfl, rfl, rfl, by decide +kernel, rfl, by decide +kernel, by decide +kernel⟩
def HmIn (as ms ns : List Str) (h : Str) : Prop := PathN 5 h ∧ ∀ x ∈ Txt.split h ".", (∃ a ∈ as, a ∉ ms ∧ x ∈ Txt.split a ".") ∨ x ∈ ns
theorem split_one {n : Str} (h : isName n) : Txt.split n "." = [n] := by
  have e : Txt.join "." [n] = n := str_ext (by
    show cd (Txt.join "." [n]) = cd n
    rw [cd_join]
    rfl)
  have := split_join_names (ns := [n]) (by simp) (by simpa using h)
  rw [e] at this
  exact this
theorem path_one {n : Str} (h : isName n) : PathN 1 n := ⟨[n], by simp, by simp, by simpa using h, str_ext (by
    show cd n = cd (Txt.join "." [n])
    rw [cd_join]
    rfl)⟩
def Sp__law_homes : DSp := fun g ds f Q => ∃ (k : Dk) (as ms ns : List Str), g = some k ∧ ds = [.any (.ref k.a), .lst (as.map D.str), .lst (ms.map D.str), .lst (ns.map D.str)] ∧ as.length ≤ 24 ∧ (∀ a ∈ as, PathN 4 a) ∧ ms.length ≤ 24 ∧ (∀ m ∈ ms, asc m) ∧ 0 < ns.length ∧ (∀ n ∈ ns, isName n) ∧ 20 ≤ f ∧
  ∀ hs f', hs ≠ [] → hs.length ≤ 4 → (∀ h ∈ hs, HmIn as ms ns h) → f ≤ f' + 20 → Q (.tup (hs.map D.str)) f'
set_option maxHeartbeats 2000000 in
theorem ok__law_homes (d : Df K mg "_law_homes" s__law_homes) (m_tuple : mg "tuple" = none) (c__law_draw : Cal P w K mg base 1 "_law_draw" ["_law_stream_here", "_law_many"] Sp__law_draw) (c__law_pick : Cal P w K mg base 2 "_law_pick" ["_law_stream_here", "_law_items"] Sp__law_pick) : Cal P w K mg base 3 "_law_homes" ["_law_stream_here", "_law_areas_here", "_law_modules_here", "_law_names_here"] Sp__law_homes := by
  obtain ⟨f, fd, F, m⟩ := d
  refine ⟨f, fd, dfn (k := 2) (S := Sp__law_homes) F sc__law_homes ?len (fun cdv A outer s H E hr => (dss_cons (ds_setLc (i := 4) (own := [("_law_area", 7)]) sc__law_homes.nd (di_seq (de_v 1)) (blkOk_by (own := [("_law_area", 7)]) (N := ["_law_stream_here", "_law_areas_here", "_law_modules_here", "_law_names_here", "_law_rooms", "_law_found", "_law_name", "_law_area", "_law_home"]) (sc := defScope s__law_homes) (by decide +kernel)) (fun _ _ _ _ _ => dg_name (i := 7) sc__law_homes.nd) (fun _ _ _ _ _ => dts_one (dp_notIn hr (de_v 7) (de_v 2))) (fun _ _ _ _ _ => (de_v 7)) (fun _ _ _ h => snd_set (m := false) (i := 4) h.e))
      (dss_cons (ds_setL false (i := 5) sc__law_homes.nd (dl_lst da_nil))
      (dss_cons (ds_for [] PassesOwn.never (di_seq (de_sl (de_v 3) do_none (do_some (de_add de_int (de_callC c__law_draw (hr.mono (by decide)) (da_cons (de_v 0) (da_cons de_int da_nil))))))) (dg_name (i := 6) sc__law_homes.nd) (dss_cons (ds_set false (i := 7) sc__law_homes.nd (de_callC c__law_pick (hr.mono (by decide)) (da_cons (de_v 0) (da_cons (de_add (de_v 4) (dl_lst (da_cons (de_v 6) (da_cons (de_v 6) da_nil))).e) da_nil))))
      (dss_cons (ds_set false (i := 8) sc__law_homes.nd (de_ix (dl_lst (da_cons (de_v 7) (da_cons (de_add (de_add (de_v 7) de_str) (de_v 6)) (da_cons (de_v 6) (da_cons (de_add (de_add (de_v 6) de_str) (de_v 6)) da_nil))))).e (de_callC c__law_draw (hr.mono (by decide)) (da_cons (de_v 0) (da_cons de_int da_nil)))))
      (dss_one (ds_if (DW.p (dw_and (dp_notIn hr (de_v 8) (de_v 5)) (dw_and1 (dp_lt (de_count (de_v 8) de_str) de_int)))) (dss_one (ds_app false (i := 5) (de_v 8))) dss_nil)))))
      (dss_one (ds_ret (de_callTy call_tuple_of sc_tuple (by rfl) m_tuple (by decide +kernel) (da_cons (de_v 5) da_nil)))))))) ?h, F.kp, F.binds fun _ _ _ _ _ _ us hl => match us, hl with | [_, _, _, _], _ => rfl, m⟩
  case len =>
    intro g ds n Q h; obtain ⟨_, _, _, _, _, rfl, _⟩ := h; rfl
  case h =>
    intro g ds n Q h
    obtain ⟨k, as, ms, ns, rfl, rfl, hal, ha, hml, hm, hn0, hn, hf, q⟩ := h
    refine ⟨by rw [List.length_map]; exact L1 (by omega), ?_⟩
    refine lcF D.str (fun a => !decide (a ∈ ms)) as _ (fun a h1 => ⟨_, rfl, fun f Q h => ?_, fun _ f Q h => h⟩) ?_
    · refine ⟨shaped_str (ha a h1).asc, shpS hm, ?_⟩
      show Q (!((pyA (ms.map D.str)).any fun z => PyData.eqv z (D.str a).py)) f
      rw [anyS']
      exact h
    generalize hrm : as.filter (fun a => !decide (a ∈ ms)) = rm
    have hrr : ∀ a ∈ rm, a ∈ as ∧ a ∉ ms := fun a h => by
      rw [← hrm] at h
      obtain ⟨h1, h2⟩ := List.mem_filter.mp h
      refine ⟨h1, fun z => ?_⟩
      rw [decide_eq_true z] at h2
      cases h2
    have hrl : rm.length ≤ 24 := by rw [← hrm]; exact Nat.le_trans (List.length_filter_le _ _) hal
    refine ⟨Nat.zero_le _, ?_⟩
    refine ⟨k, 4, n - 1, rfl, rfl, by decide, by decide, by omega, fun d d0 d1 => ?_⟩
    obtain ⟨d, rfl⟩ : ∃ d' : Nat, d = d' := ⟨d.toNat, by omega⟩
    have ec : cutD (ns.map D.str) none (some (1 + (d : Int))) = (ns.take (1 + d)).map D.str := by
      have := cutD_takeS ns (1 + d)
      rw [show (((1 + d : Nat) : Int)) = 1 + (d : Int) by omega] at this
      exact this
    show dForGo _ _ _ _ (cutD (ns.map D.str) none (some (1 + (d : Int)))) _ _
    rw [ec]
    refine dFor_list D.str (fun done rest r f => ∃ (hs : List Str) (a b c : Sl), r = [.sh (.any (.ref k.a)), .sh (.lst (as.map D.str)), .sh (.lst (ms.map D.str)), .sh (.lst (ns.map D.str)), .sh (.lst (rm.map D.str)), .ow (hs.map D.str), a, b, c] ∧ hs.length ≤ done.length ∧ (0 < done.length → hs ≠ []) ∧ (∀ h ∈ hs, HmIn as ms ns h) ∧ n - 1 ≤ f + 2 * done.length) (ns.take (1 + d)) _ _ ?_ ?_ ⟨[], _, _, _, rfl, Nat.le_refl _, fun h => absurd h (Nat.lt_irrefl 0), (fun h hh => nomatch hh), Nat.le_refl _⟩
    · rintro done nm rest r f N hx ⟨hs, a, b, c, rfl, hl1, hl2, hh, hf2⟩ hN
      have hdl : done.length < 4 := by
        have := congrArg List.length hx
        rw [List.length_take, List.length_append, List.length_cons] at this
        omega
      have hnm : nm ∈ ns := List.mem_of_mem_take (show nm ∈ ns.take (1 + d) by rw [hx]; simp)
      have hname := hn nm hnm
      have p1 := path_one hname
      have s1 := split_one hname
      refine ⟨_, rfl, ?_⟩
      simp only [List.set_cons_succ, List.set_cons_zero, setsR, startR, List.map_cons, List.map_nil, List.cons_append, List.nil_append, List.replicate_succ, List.replicate_zero, List.length_cons, List.length_nil, Nat.reduceAdd, Nat.reduceSub]
      refine ⟨show 2 ≤ lim by decide, by rw [List.length_map]; exact L1 (by show rm.length + 2 ≤ _; omega), ?_⟩
      refine .inl ⟨k, _, rfl, rfl, by rw [List.length_append]; show 0 < _ + 2; omega, by rw [List.length_append, List.length_map]; show _ + 2 ≤ _; omega, by omega, fun dd hd f1 hf1 => ?_⟩
      have har : ∃ ar : Str, dd = .str ar ∧ PathN 4 ar ∧ ∀ x ∈ Txt.split ar ".", (∃ a ∈ as, a ∉ ms ∧ x ∈ Txt.split a ".") ∨ x ∈ ns := by
        rcases List.mem_append.mp hd with h | h
        · obtain ⟨ar, h1, rfl⟩ := List.mem_map.mp h
          exact ⟨ar, rfl, ha ar (hrr ar h1).1, fun x hx => .inl ⟨ar, (hrr ar h1).1, (hrr ar h1).2, hx⟩⟩
        · have e : dd = .str nm := by simpa using h
          exact ⟨nm, e, p1.mono (by decide), fun x hx => by rw [s1, List.mem_singleton] at hx; rw [hx]; exact .inr hnm⟩
      obtain ⟨ar, rfl, pa, sa⟩ := har
      have snoc : ∀ {z : Str}, PathN 4 z → (∀ x ∈ Txt.split z ".", (∃ a ∈ as, a ∉ ms ∧ x ∈ Txt.split a ".") ∨ x ∈ ns) → HmIn as ms ns ((z ++ ".") ++ nm) := fun {z} hz hs => ⟨home_path hz hname, fun x hx => by
        rw [split_home hz hname] at hx
        rcases List.mem_append.mp hx with h | h
        · exact hs x h
        · rw [List.mem_singleton.mp h]; exact .inr hnm⟩
      have d1 : (Str.ofString ".").length = 1 := rfl
      have la := pa.len
      have ln := hname.2.1
      have fin : ∀ (h : Str) (E : DEnds), E.nx = N → HmIn as ms ns h →
          sIf (dAnd (dTest (dOp (oIn true) (dVar 8) (dVar 5))) (dTest (dOp (oI0 fun i j => D.bool (decide (i < j))) (dM1 oCount (dVar 8) (dC (D.str (Str.ofString ".")))) (dC (D.int 5))))) (sApp false 5 (dVar 8)) sNext
            (some k) [.sh (.any (.ref k.a)), .sh (.lst (as.map D.str)), .sh (.lst (ms.map D.str)), .sh (.lst (ns.map D.str)), .sh (.lst (rm.map D.str)), .ow (hs.map D.str), .sh (.str nm), .sh (.str ar), .sh (.str h)] (f1 - 1) E := by
        intro h E hE hH
        have hhs : ∀ s ∈ hs, asc s := fun s hs' => (hh s hs').1.asc
        refine ⟨shaped_str hH.1.asc, shpS hhs, ?_⟩
        show if (!((pyA (hs.map D.str)).any fun z => PyData.eqv z (D.str h).py)) = true then _ else _
        rw [anyS']
        by_cases hm' : h ∈ hs
        · rw [decide_eq_true hm']
          refine iteF (nxt (g := some k) ?_)
          rw [hE]
          exact hN _ _ ⟨hs, _, _, _, rfl, by rw [List.length_append]; omega, fun _ => List.ne_nil_of_mem hm', hh, by rw [List.length_append, List.length_singleton]; omega⟩
        · rw [decide_eq_false hm']
          refine iteT ⟨trivial, ?_⟩
          have hc : (Txt.count h "." : Int) < 5 := by
            have e := count_split h
            have := hH.1.splits.2.1
            omega
          show if decide ((Txt.count h "." : Int) < 5) = true then _ else _
          rw [decide_eq_true hc]
          refine iteT ⟨_, rfl, by rw [List.length_map]; exact L1 (by omega), ?_⟩
          show E.nx [.sh (.any (.ref k.a)), .sh (.lst (as.map D.str)), .sh (.lst (ms.map D.str)), .sh (.lst (ns.map D.str)), .sh (.lst (rm.map D.str)), .ow (hs.map D.str ++ [D.str h]), .sh (.str nm), .sh (.str ar), .sh (.str h)] (f1 - 1)
          rw [hE]
          refine hN _ _ ⟨hs ++ [h], _, _, _, by rw [List.map_append]; rfl, by rw [List.length_append, List.length_append, List.length_singleton, List.length_singleton]; omega, fun _ => by simp, fun s hs' => ?_, by rw [List.length_append, List.length_singleton]; omega⟩
          rcases List.mem_append.mp hs' with h1 | h1
          · exact hh s h1
          · rw [List.mem_singleton.mp h1]; exact hH
      refine ⟨L1 (by omega), L1 (by rw [app_len]; omega), L1 (by omega), L1 (by rw [app_len]; omega), show 4 ≤ lim by decide, k, 4, f1 - 1, rfl, rfl, by decide, by decide, by omega, fun i i0 i1 => ?_⟩
      have snm : ∀ x ∈ Txt.split nm ".", (∃ a ∈ as, a ∉ ms ∧ x ∈ Txt.split a ".") ∨ x ∈ ns := fun x hx => by rw [s1, List.mem_singleton] at hx; rw [hx]; exact .inr hnm
      have hi : i = 0 ∨ i = 1 ∨ i = 2 ∨ i = 3 := by omega
      rcases hi with rfl | rfl | rfl | rfl
      · exact ⟨_, rfl, nxt (g := some k) (fin ar _ rfl ⟨pa.mono (by decide), sa⟩)⟩
      · exact ⟨_, rfl, nxt (g := some k) (fin _ _ rfl (snoc pa sa))⟩
      · exact ⟨_, rfl, nxt (g := some k) (fin nm _ rfl ⟨p1.mono (by decide), snm⟩)⟩
      · exact ⟨_, rfl, nxt (g := some k) (fin _ _ rfl (snoc (p1.mono (by decide)) snm))⟩
    · rintro r f ⟨hs, a, b, c, rfl, hl1, hl2, hh, hf2⟩
      have hdl : (ns.take (1 + d)).length ≤ 4 := by rw [List.length_take]; omega
      have hd0 : 0 < (ns.take (1 + d)).length := by rw [List.length_take]; omega
      exact q hs f (hl2 hd0) (by omega) hh (by omega)
theorem nms8 {nl : List Str} (hn : ∀ n ∈ nl, isName n) (hd : nl.Nodup) (c d : Nat) (hc : c ≤ 6) : Nms (nl.take 2) ((nl.drop 2).take c) ((nl.drop 8).take d) := by
  have m1 : ∀ x ∈ nl.take 2, x ∈ nl := fun x h => List.mem_of_mem_take h
  have m2 : ∀ x ∈ (nl.drop 2).take c, x ∈ nl.drop 2 := fun x h => List.mem_of_mem_take h
  have m3 : ∀ x ∈ (nl.drop 8).take d, x ∈ nl.drop 8 := fun x h => List.mem_of_mem_take h
  have m4 : ∀ x ∈ nl.drop 8, x ∈ nl.drop 2 := fun x h => by
    rw [show nl.drop 8 = (nl.drop 2).drop 6 by rw [List.drop_drop]] at h
    exact List.mem_of_mem_drop h
  have k1 : ∀ x ∈ nl.take 2, x ∉ nl.drop 2 := fun x h h2 => by
    have hd' := hd
    rw [← List.take_append_drop 2 nl, List.nodup_append] at hd'
    exact hd'.2.2 x h x h2 rfl
  have k2 : ∀ x ∈ (nl.drop 2).take c, x ∉ nl.drop 8 := fun x h h2 => by
    have hd' := hd.sublist (List.drop_sublist 2 nl)
    rw [← List.take_append_drop 6 (nl.drop 2), List.nodup_append, List.drop_drop] at hd'
    have h3 : x ∈ (nl.drop 2).take 6 := by
      rw [show (nl.drop 2).take c = ((nl.drop 2).take 6).take c by rw [List.take_take, Nat.min_eq_left hc]] at h
      exact List.mem_of_mem_take h
    exact hd'.2.2 x h3 x h2 rfl
  exact {
    nn := (hd.sublist (List.drop_sublist 2 nl)).sublist (List.take_sublist c _)
    ln := (hd.sublist (List.drop_sublist 8 nl)).sublist (List.take_sublist d _)
    hn := fun h hh => ⟨fun z => k1 h hh (m2 h z), fun z => k1 h hh (m4 h (m3 h z))⟩
    nl := fun n h z => k2 n h (m3 n z)
    oh := fun x h => hn x (m1 x h)
    on := fun x h => hn x (List.mem_of_mem_drop (m2 x h))
    ol := fun x h => hn x (List.mem_of_mem_drop (m3 x h)) }
theorem nm20 {nl : List Str} (hd : nl.Nodup) {c d : Nat} (hc : c ≤ 6) (hdd : d ≤ 12) {x : Str} (hx : x ∈ nl.drop 20) : x ∉ nl.take 2 ∧ x ∉ (nl.drop 2).take c ∧ x ∉ (nl.drop 8).take d := by
  have key : ∀ n, n ≤ 20 → ∀ y ∈ nl.take n, y ≠ x := fun n hn y hy e => by
    have hd' := hd
    rw [← List.take_append_drop n nl, List.nodup_append] at hd'
    have h2 : x ∈ nl.drop n := by
      rw [show nl.drop 20 = (nl.drop n).drop (20 - n) by rw [List.drop_drop]; congr 1; omega] at hx
      exact List.mem_of_mem_drop hx
    exact hd'.2.2 y hy x h2 e
  have sub : ∀ a b, a + b ≤ 20 → ∀ y ∈ (nl.drop a).take b, y ∈ nl.take 20 := fun a b hab y hy => by
    have e : (nl.drop a).take b = (nl.take (a + b)).drop a := by rw [List.drop_take]; congr 1; omega
    rw [e] at hy
    have h2 := List.mem_of_mem_drop hy
    have e2 : nl.take (a + b) = (nl.take 20).take (a + b) := by rw [List.take_take]; congr 1; omega
    rw [e2] at h2
    exact List.mem_of_mem_take h2
  exact ⟨fun h => key 2 (by decide) x h rfl, fun h => key 20 (by decide) x (sub 2 c (by omega) x h) rfl, fun h => key 20 (by decide) x (sub 8 d (by omega) x h) rfl⟩
/-- no home holds a module's last name -/
theorem hm_free {hs ns lv n4 : List Str} {dp : Nat} {zs : List (Str × Nat × Str)} {ms : List Str} (hA : Ars hs ns dp zs) (hN : Nms hs ns lv) (hM : MdU lv zs ms) (h4 : ∀ x ∈ n4, x ∉ hs ∧ x ∉ ns ∧ x ∉ lv) {h : Str} (hh : HmIn (zs.map arS) ms n4 h) {o : Str} (ho : o ∈ ms) : lastS o ∉ Txt.split h "." := fun hx => by
  rcases hh.2 _ hx with ⟨a, ha, ham, hxa⟩ | h5
  · obtain ⟨y, hy, rfl⟩ := List.mem_map.mp ha
    have e : Txt.split (arS y) "." = arN y := split_join_names (arN_ne y) fun x hx => by
      rcases arN_mem hx with rfl | rfl
      · exact hN.oh _ (hA.h y hy).1
      · exact hN.on _ (hA.name hy)
    rw [e] at hxa
    rcases hM.la o ho with q | ⟨z, hz, hzm, q⟩
    · rcases arN_mem hxa with k | k
      · exact (hN.hn _ (hA.h y hy).1).2 (by rw [← k]; exact q)
      · exact hN.nl _ (hA.name hy) (by rw [← k]; exact q)
    · rcases arN_mem hxa with k | k
      · exact (hN.hn _ (hA.h y hy).1).1 (by rw [← k, q]; exact hA.name hz)
      · have := ars_inj hA hN hz hy (q.symm.trans k)
        rw [this] at hzm
        exact ham hzm
  · obtain ⟨k1, k2, k3⟩ := h4 _ h5
    rcases hM.la o ho with q | ⟨z, hz, hzm, q⟩
    · exact k3 q
    · exact k2 (by rw [q]; exact hA.name hz)
/-! _law_modules -/
theorem sc__law_modules : FnScope ["_law_stream_here", "_law_areas_here", "_law_names_here", "_law_found", "_law_rooms", "_law_name", "_law_kind", "_law_area"] ["_law_stream_here", "_law_areas_here", "_law_names_here"] (defScope s__law_modules) := ⟨rfl, rfl, rfl, by decide +kernel, rfl, by decide +kernel, by decide +kernel⟩
/-- [x for x in xs if a draw says so] -/
theorem lcSub {α : Type} (em : α → D) (b : Nat) {g : Option Dk} {t : TgF} {c : DTT} {e : DT} {r : Sg} {Q : List D → Nat → Prop} : ∀ (xs : List α) (acc : List D) (f : Nat), xs.length * b ≤ f →
    (∀ x ∈ xs, ∃ l, t (em x) = some l ∧ (∀ (f : Nat) (Q : Bool → Nat → Prop), b ≤ f → (∀ v f', f ≤ f' + b → Q v f') → c g (setsR r l) f Q) ∧ ∀ (f : Nat) (Q : QD), Q (em x) f → e g (setsR r l) f Q) →
    (∀ (ys : List α) (f' : Nat), ys.Sublist xs → f ≤ f' + xs.length * b → Q (acc ++ ys.map em) f') → dLcGo g t c e r (xs.map em) acc f Q
  | [], acc, f, _, _, hq => by
    have := hq [] f (List.Sublist.refl _) (by omega)
    rw [List.map_nil, List.append_nil] at this
    exact this
  | x :: xs, acc, f, hf, he, hq => by
    obtain ⟨l, hl, h1, h2⟩ := he x (by simp)
    have hlen : (x :: xs).length * b = xs.length * b + b := by rw [List.length_cons, Nat.add_mul, Nat.one_mul]
    rw [hlen] at hf
    simp only [List.map_cons, dLcGo, hl]
    refine h1 f _ (by omega) fun v f' hv => ?_
    cases v with
    | true =>
      rw [if_pos rfl]
      refine h2 f' _ (lcSub em b xs (acc ++ [em x]) f' (by omega) (fun x' hx' => he x' (by simp [hx'])) fun ys f2 hy h3 => ?_)
      rw [List.append_assoc]
      exact hq (x :: ys) f2 (List.Sublist.cons_cons x hy) (by omega)
    | false =>
      rw [if_neg Bool.false_ne_true]
      exact lcSub em b xs acc f' (by omega) (fun x' hx' => he x' (by simp [hx'])) fun ys f2 hy h3 => hq ys f2 (List.Sublist.cons x hy) (by omega)
def Sp__law_modules : DSp := fun g ds f Q => ∃ (k : Dk) (hs ns lv : List Str) (dp : Nat) (zs : List (Str × Nat × Str)), g = some k ∧ ds = [.any (.ref k.a), .lst ((zs.map arS).map D.str), .lst (lv.map D.str)] ∧ Ars hs ns dp zs ∧ dp ≤ 4 ∧ Nms hs ns lv ∧ zs.length ≤ 24 ∧ lv.length ≤ 30 ∧ zs.length + 2 * lv.length ≤ f ∧
  ∀ ms f', PVm ms → MdU lv zs ms → f ≤ f' + (zs.length + 2 * lv.length) → Q (.lst (ms.map D.str)) f'
set_option maxHeartbeats 2000000 in
theorem ok__law_modules (d : Df K mg "_law_modules" s__law_modules) (c__law_pick : Cal P w K mg base 2 "_law_pick" ["_law_stream_here", "_law_items"] Sp__law_pick) (c__law_draw : Cal P w K mg base 1 "_law_draw" ["_law_stream_here", "_law_many"] Sp__law_draw) : Cal P w K mg base 3 "_law_modules" ["_law_stream_here", "_law_areas_here", "_law_names_here"] Sp__law_modules := by
  obtain ⟨f, fd, F, m⟩ := d
  refine ⟨f, fd, dfn (k := 2) (S := Sp__law_modules) F sc__law_modules ?len (fun cdv A outer s H E hr => (dss_cons (ds_setL false (i := 3) sc__law_modules.nd (dl_lc (own := [("_law_area", 7)]) rfl sc__law_modules.nd (di_seq (de_v 1)) (blkOk_by (own := [("_law_area", 7)]) (N := ["_law_stream_here", "_law_areas_here", "_law_names_here", "_law_found", "_law_rooms", "_law_name", "_law_kind", "_law_area"]) (sc := defScope s__law_modules) (by decide +kernel)) (fun _ _ _ _ _ => dg_name (i := 7) sc__law_modules.nd) (fun _ _ _ _ _ => dts_one (dp_eq hr.units (de_callC c__law_draw (hr.mono (by decide)) (da_cons (de_v 0) (da_cons de_int da_nil))) de_int)) (fun _ _ _ _ _ => (de_v 7))))
      (dss_cons (ds_setLc (i := 4) (own := [("_law_area", 7)]) sc__law_modules.nd (di_seq (de_v 1)) (blkOk_by (own := [("_law_area", 7)]) (N := ["_law_stream_here", "_law_areas_here", "_law_names_here", "_law_found", "_law_rooms", "_law_name", "_law_kind", "_law_area"]) (sc := defScope s__law_modules) (by decide +kernel)) (fun _ _ _ _ _ => dg_name (i := 7) sc__law_modules.nd) (fun _ _ _ _ _ => dts_one (dp_notIn hr (de_v 7) (de_v 3))) (fun _ _ _ _ _ => (de_v 7)) (fun _ _ _ h => snd_setL (m := true) (i := 4) h))
      (dss_cons (ds_for [] PassesOwn.never (di_seq (de_v 2)) (dg_name (i := 5) sc__law_modules.nd) (dss_cons (ds_set false (i := 6) sc__law_modules.nd (de_callC c__law_draw (hr.mono (by decide)) (da_cons (de_v 0) (da_cons de_int da_nil))))
      (dss_cons (ds_set true (i := 7) sc__law_modules.nd (de_callC c__law_pick (hr.mono (by decide)) (da_cons (de_v 0) (da_cons (de_add (de_v 4) (dl_lst (da_cons de_str da_nil)).e) da_nil))))
      (dss_one (ds_if (DW.p (dw_or (dp_eq hr.units (de_v 7) de_str) (dw_or1 (dp_eq hr.units (de_v 6) de_int)))) (dss_one (ds_app false (i := 3) (de_v 5))) (dss_one (ds_if (DW.p (dw_and (dp_eq hr.units (de_v 6) de_int) (dw_and1 (dp_lt (de_count (de_v 7) de_str) de_int)))) (dss_one (ds_app false (i := 3) (de_add (de_add (de_add (de_add (de_v 7) de_str) (de_ix (dl_split (de_v 7) de_str).e (de_neg de_int))) de_str) (de_v 5)))) (dss_one (ds_app false (i := 3) (de_add (de_add (de_v 7) de_str) (de_v 5)))))))))))
      (dss_one (ds_ret (de_sl (de_v 3) do_none (do_some de_int)))))))) ?h, F.kp, F.binds fun _ _ _ _ _ _ us hl => match us, hl with | [_, _, _], _ => rfl, m⟩
  case len =>
    intro g ds n Q h; obtain ⟨_, _, _, _, _, _, _, rfl, _⟩ := h; rfl
  case h =>
    intro g ds n Q h
    obtain ⟨k, hs, ns, lv, dp, zs, rfl, rfl, hA, hdp, hN, hl1, hl2, hf, q⟩ := h
    have har : ∀ z ∈ zs, asc (arS z) ∧ (arS z).length ≤ 54 := fun z hz => by
      have pp : PathN 6 (arS z) := ⟨arN z, List.length_pos_iff.mpr (arN_ne z), by unfold arN; rw [List.length_append, List.length_replicate]; have := (hA.h z hz).2; show z.2.1 + 1 ≤ 6; omega, fun x hx => by
        rcases arN_mem hx with rfl | rfl
        · exact hN.oh _ (hA.h z hz).1
        · exact hN.on _ (hA.name hz), rfl⟩
      exact ⟨pp.asc, pp.len⟩
    rw [List.map_map]
    refine ⟨by rw [List.length_map]; exact L1 (by omega), ?_⟩
    refine lcSub (D.str ∘ arS) 1 zs [] n (by omega) (fun z hz => ⟨_, rfl, fun f Q hf hq => ?_, fun f Q h => h⟩) (fun F f1 hF hf1 => ?_)
    · obtain ⟨f2, rfl⟩ : ∃ f2, f = f2 + 1 := ⟨f - 1, by omega⟩
      exact ⟨k, 6, f2, rfl, rfl, by decide, by decide, rfl, fun r _ _ => hq _ _ (by omega)⟩
    · rw [List.nil_append]
      refine ⟨by rw [List.length_map]; exact L1 (by omega), ?_⟩
      refine lcF (D.str ∘ arS) (fun z => !decide (arS z ∈ F.map arS)) zs _ (fun z hz => ⟨_, rfl, fun f Q h => ?_, fun _ f Q h => h⟩) ?_
      · show _ ∧ _
        have hF2 : ∀ s ∈ F.map arS, asc s := fun s hs => by
          obtain ⟨z', hz', rfl⟩ := List.mem_map.mp hs
          exact (har z' (hF.subset hz')).1
        rw [← List.map_map]
        refine ⟨shaped_str (har z hz).1, shpST hF2, ?_⟩
        show Q (xb true ((pyA ((F.map arS).map D.str)).any fun y => y.eqv (D.str (arS z)).py)) f
        rw [anyS']
        exact h
      · rw [← List.map_map, ← List.map_map]
        refine ⟨flatA_strs _, ?_⟩
        simp only [List.set_cons_succ, List.set_cons_zero, setsR, startR, List.map_cons, List.map_nil, List.cons_append, List.nil_append, List.replicate_succ, List.replicate_zero, List.length_cons, List.length_nil, Nat.reduceAdd, Nat.reduceSub]
        generalize hR : zs.filter (fun z => !decide (arS z ∈ F.map arS)) = R
        have hRz : ∀ z ∈ R, z ∈ zs ∧ z ∉ F := fun z hz => by
          rw [← hR] at hz
          obtain ⟨h1, h2⟩ := List.mem_filter.mp hz
          refine ⟨h1, fun h => ?_⟩
          rw [decide_eq_true (List.mem_map.mpr ⟨z, h, rfl⟩)] at h2
          cases h2
        have hRl : R.length ≤ 30 := by rw [← hR]; exact Nat.le_trans (List.length_filter_le _ _) (by omega)
        refine dFor_list D.str (fun done rest r f => ∃ (L : List (List Str)) (a b c : Sl), r = [.sh (.any (.ref k.a)), .sh (.lst ((zs.map arS).map D.str)), .sh (.lst (lv.map D.str)), .ow ((L.map (Txt.join ".")).map D.str), .ow ((R.map arS).map D.str), a, b, c] ∧ MJ hs ns zs F done L ∧ L.length ≤ F.length + done.length ∧ f1 ≤ f + 2 * done.length) _ _ _ ?_ ?_ ⟨F.map arN, _, _, _, by rw [List.map_map, List.map_map, List.map_map, List.map_map]; rfl, MJ.start hA (by omega) hN hF, by simp, by simp⟩
        · rintro done o rest r f N hx ⟨L, a, b, c, rfl, hM, hL, hf2⟩ hNn
          have hxl := congrArg List.length hx
          rw [List.length_append, List.length_cons] at hxl
          have hol : o ∈ lv := by rw [hx]; simp
          have hod : o ∉ done := by
            have := hN.ln
            rw [hx, List.nodup_append] at this
            exact fun h => this.2.2 o h o (by simp) rfl
          have hdn : ∀ x ∈ done, x ∈ lv := fun x h => by rw [hx]; exact List.mem_append.mpr (.inl h)
          have hon := hN.ol o hol
          have hFl := hF.length_le
          obtain ⟨f2, rfl⟩ : ∃ f2, f = f2 + 2 := ⟨f - 2, by omega⟩
          refine ⟨_, rfl, k, 9, f2 + 1, rfl, rfl, by decide, by decide, rfl, fun kd k0 k1 => ?_⟩
          have fin : ∀ (pre : List Str) (a' b' c' : Sl) (f' : Nat), f2 ≤ f' → (pre = [] ∨ ∃ z ∈ zs, z ∉ F ∧ (pre = arN z ∨ z.2.1 ≤ 3 ∧ pre = arN z ++ [z.2.2])) → N [.sh (.any (.ref k.a)), .sh (.lst ((zs.map arS).map D.str)), .sh (.lst (lv.map D.str)), .ow ((L.map (Txt.join ".")).map D.str ++ [.str (Txt.join "." (pre ++ [o]))]), .ow ((R.map arS).map D.str), a', b', c'] f' := fun pre a' b' c' f' hf' hp =>
            hNn _ _ ⟨L ++ [pre ++ [o]], _, _, _, by rw [List.map_append, List.map_append]; rfl, hM.add hA hdp hN hF hdn hol hod hp, by rw [List.length_append, List.length_append, List.length_singleton, List.length_singleton]; omega, by rw [List.length_append, List.length_singleton]; omega⟩
          have hLl : ((L.map (Txt.join ".")).map D.str).length ≤ lim := by
            rw [List.length_map, List.length_map]
            exact L1 (by omega)
          have e1 : Txt.join "." ([] ++ [o]) = o := str_ext (by
            show cd (Txt.join "." [o]) = cd o
            rw [cd_join]
            rfl)
          simp only [List.set_cons_succ, List.set_cons_zero, setsR, startR, List.map_cons, List.map_nil, List.cons_append, List.nil_append, List.replicate_succ, List.replicate_zero, List.length_cons, List.length_nil, Nat.reduceAdd, Nat.reduceSub]
          refine ⟨show 1 ≤ lim by decide, ?_, ?_⟩
          · rw [List.length_map, List.length_map]; exact L1 (by show R.length + 1 ≤ 100000; omega)
          refine .inl ⟨k, _, rfl, rfl, ?_, ?_, by omega, fun ad had f3 hf3 => ?_⟩
          · rw [List.length_append]; show 0 < _ + 1; omega
          · rw [List.length_append, List.length_map, List.length_map]; show R.length + 1 ≤ 100000; omega
          rcases List.mem_append.mp had with had | had
          · obtain ⟨s, hs, rfl⟩ := List.mem_map.mp had
            obtain ⟨z, hz, rfl⟩ := List.mem_map.mp hs
            refine ⟨rfl, ?_⟩
            simp only [List.set_cons_succ, List.set_cons_zero, setsR, startR, List.map_cons, List.map_nil, List.cons_append, List.nil_append, List.replicate_succ, List.replicate_zero, List.length_cons, List.length_nil, Nat.reduceAdd, Nat.reduceSub]
            have alone : N [.sh (.any (.ref k.a)), .sh (.lst ((zs.map arS).map D.str)), .sh (.lst (lv.map D.str)), .ow ((L.map (Txt.join ".")).map D.str ++ [.str o]), .ow ((R.map arS).map D.str), .sh (.str o), .sh (.int kd), .sh (.str (arS z))] f3 := by
              have := fin [] (.sh (.str o)) (.sh (.int kd)) (.sh (.str (arS z))) f3 (by omega) (.inl rfl)
              rw [e1] at this
              exact this
            obtain ⟨hz1, hz2⟩ := hRz z hz
            have hzl := (har z hz1).2
            have e2 : arS z ++ "." ++ o = Txt.join "." (arN z ++ [o]) := join_snoc (arN z) o (arN_ne z)
            have hol8 := hon.2.1
            have short : arS z ++ "." ++ o = Txt.join "." (arN z ++ [o]) → N [.sh (.any (.ref k.a)), .sh (.lst ((zs.map arS).map D.str)), .sh (.lst (lv.map D.str)), .ow ((L.map (Txt.join ".")).map D.str ++ [.str (arS z ++ "." ++ o)]), .ow ((R.map arS).map D.str), .sh (.str o), .sh (.int kd), .sh (.str (arS z))] f3 := fun e => by
              rw [e]
              exact fin (arN z) _ _ _ f3 (by omega) (.inr ⟨z, hz1, hz2, .inl rfl⟩)
            have d1 : (Str.ofString ".").length = 1 := by decide +kernel
            have c1 : (arS z).length + (Str.ofString ".").length ≤ lim := L1 (by omega)
            have c2 : (arS z ++ Str.ofString ".").length + o.length ≤ lim := L1 (by rw [app_len]; omega)
            show if decide (arS z = "") = true then _ else _
            by_cases e0 : arS z = ""
            · rw [decide_eq_true e0]
              refine iteT ⟨_, rfl, hLl, ?_⟩
              exact alone
            · rw [decide_eq_false e0]
              refine iteF ?_
              show if decide (kd = 0) = true then _ else _
              by_cases e3 : kd = 0
              · rw [decide_eq_true e3]
                refine iteT ⟨_, rfl, hLl, ?_⟩
                exact alone
              · rw [decide_eq_false e3]
                refine iteF ?_
                show if decide (kd = 1) = true then _ else _
                by_cases e4 : kd = 1
                · rw [decide_eq_true e4]
                  refine iteT ⟨trivial, ?_⟩
                  show if decide ((Txt.count (arS z) ".") < 4) = true then _ else _
                  by_cases e5 : (Txt.count (arS z) ".") < 4
                  · rw [decide_eq_true e5]
                    have hsp : Txt.split (arS z) "." = arN z := split_join_names (arN_ne z) fun x hx => by
                      rcases arN_mem hx with rfl | rfl
                      · exact hN.oh _ (hA.h z hz1).1
                      · exact hN.on _ (hA.name hz1)
                    have hn8 := (hN.on _ (hA.name hz1)).2.1
                    have la : atI ((Txt.split (arS z) ".").map D.str) (-1) = some (.str z.2.2) := by
                      rw [hsp, atI_last]
                      unfold arN
                      rw [List.getLast?_concat]
                      rfl
                    have e7 : arS z ++ "." ++ z.2.2 = Txt.join "." (arN z ++ [z.2.2]) := join_snoc (arN z) z.2.2 (arN_ne z)
                    have e8 : arS z ++ "." ++ z.2.2 ++ "." ++ o = Txt.join "." (arN z ++ [z.2.2] ++ [o]) := by
                      rw [e7]
                      exact join_snoc (arN z ++ [z.2.2]) o (by simp)
                    refine iteT ⟨_, rfl, c1, by decide +kernel, L1 (by omega), .str z.2.2, la, ?_⟩
                    refine ⟨L1 (by rw [app_len]; omega), L1 (by rw [app_len, app_len]; omega), L1 (by rw [app_len, app_len, app_len]; omega), hLl, ?_⟩
                    show N [.sh (.any (.ref k.a)), .sh (.lst ((zs.map arS).map D.str)), .sh (.lst (lv.map D.str)), .ow ((L.map (Txt.join ".")).map D.str ++ [.str (arS z ++ "." ++ z.2.2 ++ "." ++ o)]), .ow ((R.map arS).map D.str), .sh (.str o), .sh (.int kd), .sh (.str (arS z))] f3
                    rw [e8]
                    have hc3 : z.2.1 ≤ 3 := by
                      have h5 := count_split (arS z)
                      rw [hsp] at h5
                      unfold arN at h5
                      rw [List.length_append, List.length_replicate] at h5
                      have : (Txt.count (arS z) ".") + 1 = ((z.2.1 + 1 : Nat) : Int) := h5
                      omega
                    exact fin (arN z ++ [z.2.2]) _ _ _ f3 (by omega) (.inr ⟨z, hz1, hz2, .inr ⟨hc3, rfl⟩⟩)
                  · rw [decide_eq_false e5]
                    refine iteF ⟨_, rfl, c1, c2, hLl, ?_⟩
                    exact short e2
                · rw [decide_eq_false e4]
                  refine iteF ?_
                  refine ⟨_, rfl, c1, c2, hLl, ?_⟩
                  exact short e2
          · rw [List.mem_singleton.mp had]
            refine ⟨rfl, ?_⟩
            refine ⟨_, rfl, hLl, ?_⟩
            have := fin [] (.sh (.str o)) (.sh (.int kd)) (.sh (.str "")) f3 (by omega) (.inl rfl)
            rw [e1] at this
            exact this
        · rintro r f ⟨L, a, b, c, rfl, hM, hL, hf2⟩
          have e6 : cutD ((L.map (Txt.join ".")).map D.str) none (some (24 : Int)) = ((L.map (Txt.join ".")).take 24).map D.str := by
            rw [show (24 : Int) = ((24 : Nat) : Int) from rfl, cutD_take, List.map_take]
          show Q (.lst (cutD ((L.map (Txt.join ".")).map D.str) none (some (24 : Int)))) f
          rw [e6]
          exact q _ f hM.mi.pvm (hM.mdu hA hN hF (fun x h => h) (by omega)) (by omega)
/-! _law_uses -/
theorem sc__law_uses : FnScope ["_law_stream_here", "_law_modules_here", "_law_bound", "_law_found", "_law_sizes", "_law_turn", "_law_use", "_law_k"] ["_law_stream_here", "_law_modules_here", "_law_bound"] (defScope s__law_uses) := ⟨rfl, rfl, rfl, by decide +kernel, rfl, by decide +kernel, by decide +kernel⟩
theorem pvu_nil {ms : List Str} : PVu ms [] := ⟨by decide, by simp, by simp⟩
theorem PVu.snoc {ms : List Str} {us : List Us} {x y : Str} (h : PVu ms us) (hl : us.length < 200) (hx : x ∈ ms) (hy : y ∈ ms) (hxy : x ≠ y) (hn : (x, y) ∉ us) : PVu ms (us ++ [(x, y)]) := by
  refine ⟨by rw [List.length_append]; exact hl, fun u hu' => ?_, ?_⟩
  · rcases List.mem_append.mp hu' with e | e
    · exact h.mem u e
    · rw [List.mem_singleton.mp e]; exact ⟨hx, hy, hxy⟩
  · rw [List.nodup_append]
    refine ⟨h.nd, by simp, fun a ha b hb e => ?_⟩
    rw [List.mem_singleton.mp hb] at e
    exact hn (e ▸ ha)
def rowU (ms : List Str) (i : Nat) : Us := (ms.getD i "", ms.getD (i + 1) "")
theorem rowU_ok {ms : List Str} (hv : PVm ms) {c : Nat} (hc : c + 1 ≤ ms.length) : PVu ms ((List.range c).map (rowU ms)) := by
  have hg : ∀ i (h : i < ms.length), ms.getD i "" = ms[i] := fun i h => by rw [List.getD_eq_getElem?_getD, List.getElem?_eq_getElem h]; rfl
  have inj : ∀ i j (hi : i < ms.length) (hj : j < ms.length), ms[i] = ms[j] → i = j := fun i j hi hj e => by
    have key := List.pairwise_iff_getElem.mp hv.nd
    rcases Nat.lt_trichotomy i j with c | c | c
    · exact absurd e (key i j hi hj c)
    · exact c
    · exact absurd e.symm (key j i hj hi c)
  refine ⟨?_, fun u hu => ?_, ?_⟩
  · rw [List.length_map, List.length_range]; have := hv.len; omega
  · obtain ⟨i, hi, rfl⟩ := List.mem_map.mp hu
    have hi := List.mem_range.mp hi
    unfold rowU
    rw [hg i (by omega), hg (i + 1) (by omega)]
    exact ⟨List.getElem_mem _, List.getElem_mem _, fun e => by have := inj _ _ _ _ e; omega⟩
  · refine List.pairwise_map.mpr ?_
    refine (List.nodup_range (n := c)).imp_of_mem fun {i j} hi hj h e => h ?_
    have hi := List.mem_range.mp hi
    have hj := List.mem_range.mp hj
    have e1 : ms.getD i "" = ms.getD j "" := congrArg Prod.fst e
    rw [hg i (by omega), hg j (by omega)] at e1
    exact inj _ _ _ _ e1
def Sp__law_uses : DSp := fun g ds f Q => ∃ (k : Dk) (ms : List Str) (m : Nat), g = some k ∧ ds = [.any (.ref k.a), .lst (ms.map D.str), .int m] ∧ PVm ms ∧ 1 ≤ m ∧ m ≤ 200 ∧ 410 ≤ f ∧
  ∀ (us : List Us) f', us.length ≤ m → PVu ms us → f ≤ f' + 410 → Q (.lst (us.map pairD)) f'
set_option maxHeartbeats 2000000 in
theorem ok__law_uses (d : Df K mg "_law_uses" s__law_uses) (m_range : mg "range" = none) (m_len : mg "len" = none) (m_min : mg "min" = none) (c__law_draw : Cal P w K mg base 1 "_law_draw" ["_law_stream_here", "_law_many"] Sp__law_draw) (c__law_pick : Cal P w K mg base 2 "_law_pick" ["_law_stream_here", "_law_items"] Sp__law_pick) : Cal P w K mg base 3 "_law_uses" ["_law_stream_here", "_law_modules_here", "_law_bound"] Sp__law_uses := by
  obtain ⟨f, fd, F, m⟩ := d
  refine ⟨f, fd, dfn (k := 2) (S := Sp__law_uses) F sc__law_uses ?len (fun cdv A outer s H E hr => (dss_cons (ds_setL false (i := 3) sc__law_uses.nd (dl_lst da_nil))
      (dss_cons (ds_if (dp_lt (de_len m_len (da_cons (de_v 1) da_nil)) de_int) (dss_one (ds_ret (de_v 3))) dss_nil)
      (dss_cons (ds_if (dp_eq hr.units (de_callC c__law_draw (hr.mono (by decide)) (da_cons (de_v 0) (da_cons de_int da_nil))) de_int) (dss_one (ds_setLc (i := 3) (own := [("_law_k", 7)]) sc__law_uses.nd (di_range1 m_range (da_cons (de_callB (call_min2 rfl) sc_min2 (by rfl) m_min (by decide +kernel) (da_cons (de_v 2) (da_cons (de_sub (de_len m_len (da_cons (de_v 1) da_nil)) de_int) da_nil))) da_nil)) (blkOk_by (own := [("_law_k", 7)]) (N := ["_law_stream_here", "_law_modules_here", "_law_bound", "_law_found", "_law_sizes", "_law_turn", "_law_use", "_law_k"]) (sc := defScope s__law_uses) (by decide +kernel)) (fun _ _ _ _ _ => dg_name (i := 7) sc__law_uses.nd) (fun _ _ _ _ _ => dts_nil) (fun _ _ _ _ _ => (de_tup (da_cons (de_ix (de_v 1) (de_v 7)) (da_cons (de_ix (de_v 1) (de_add (de_v 7) de_int)) da_nil)))) (fun _ _ _ h => snd_setL (m := false) (i := 3) h))) dss_nil)
      (dss_cons (ds_set false (i := 4) sc__law_uses.nd (dl_lst (da_cons de_int (da_cons (de_add (de_len m_len (da_cons (de_v 1) da_nil)) de_int) (da_cons (de_mul de_int (de_len m_len (da_cons (de_v 1) da_nil))) (da_cons (de_add (de_v 2) de_int) da_nil))))).e)
      (dss_cons (ds_for [] PassesOwn.never (di_range1 m_range (da_cons (de_callC c__law_draw (hr.mono (by decide)) (da_cons (de_v 0) (da_cons (de_callC c__law_pick (hr.mono (by decide)) (da_cons (de_v 0) (da_cons (de_v 4) da_nil))) da_nil))) da_nil)) (dg_name (i := 5) sc__law_uses.nd) (dss_cons (ds_set false (i := 6) sc__law_uses.nd (de_tup (da_cons (de_callC c__law_pick (hr.mono (by decide)) (da_cons (de_v 0) (da_cons (de_v 1) da_nil))) (da_cons (de_callC c__law_pick (hr.mono (by decide)) (da_cons (de_v 0) (da_cons (de_v 1) da_nil))) da_nil))))
      (dss_one (ds_if (DW.p (dw_and (dp_ne hr.units (de_ix (de_v 6) de_int) (de_ix (de_v 6) de_int)) (dw_and (dp_notIn hr (de_v 6) (de_v 3)) (dw_and1 (dp_lt (de_len m_len (da_cons (de_v 3) da_nil)) (de_v 2)))))) (dss_one (ds_app false (i := 3) (de_v 6))) dss_nil))))
      (dss_one (ds_ret (de_v 3))))))))) ?h, F.kp, F.binds fun _ _ _ _ _ _ us hl => match us, hl with | [_, _, _], _ => rfl, m⟩
  case len =>
    intro g ds n Q h; obtain ⟨_, _, _, _, rfl, _⟩ := h; rfl
  case h =>
    intro g ds n Q h
    obtain ⟨k, ms, m, rfl, rfl, hv, hm1, hm, hf, q⟩ := h
    obtain ⟨f2, rfl⟩ : ∃ f2, n = f2 + 410 := ⟨n - 410, by omega⟩
    have hml : (ms.map D.str).length = ms.length := List.length_map _
    have hvl := hv.len
    refine ⟨Nat.zero_le _, ?_⟩
    show if decide ((((ms.map D.str).length : Nat) : Int) < 2) = true then _ else _
    rw [hml]
    by_cases h2 : ((ms.length : Nat) : Int) < 2
    · rw [decide_eq_true h2]
      exact iteT (q [] _ (by simp) pvu_nil (by omega))
    rw [decide_eq_false h2]
    refine iteF (nxt ?_)
    simp only [List.set_cons_succ, List.set_cons_zero, setsR, startR, List.map_cons, List.map_nil, List.cons_append, List.nil_append, List.replicate_succ, List.replicate_zero, List.length_cons, List.length_nil, Nat.reduceAdd, Nat.reduceSub]
    refine mid (fun r f => ∃ (us : List Us) (a b c d : Sl), r = [.sh (.any (.ref k.a)), .sh (.lst (ms.map D.str)), .sh (.int m), .ow (us.map pairD), a, b, c, d] ∧ PVu ms us ∧ us.length ≤ m ∧ f2 + 409 ≤ f) ?_ (fun hk => ?_)
    · rintro r f ⟨us, a, b, c, d, rfl, hu, hul, hf3⟩
      have hasc := hu.asc hv
      have L3 : ∀ {n : Nat}, n ≤ 1000 → n ≤ lim := fun h => Nat.le_trans h (by decide)
      refine ⟨.inl ⟨by decide, by decide⟩, show 4 ≤ lim by decide, ?_⟩
      refine .inl ⟨k, _, rfl, rfl, by exact (show 0 < 4 by decide), by exact (show 4 ≤ 100000 by decide), by omega, fun vd hvd f4 hf4 => ?_⟩
      obtain ⟨v, rfl, hv1, hv2⟩ : ∃ v : Int, vd = .int v ∧ 0 < v ∧ v ≤ 201 := by
        simp only [List.mem_cons, List.not_mem_nil, or_false] at hvd
        rcases hvd with rfl | rfl | rfl | rfl
        · exact ⟨_, rfl, by decide, by decide⟩
        · exact ⟨_, rfl, by rw [hml]; omega, by rw [hml]; omega⟩
        · exact ⟨_, rfl, by rw [hml]; omega, by rw [hml]; omega⟩
        · exact ⟨_, rfl, by omega, by omega⟩
      clear hvd
      obtain ⟨f5, rfl⟩ : ∃ f5, f4 = f5 + 1 := ⟨f4 - 1, by omega⟩
      refine ⟨k, v, f5, rfl, rfl, by omega, by omega, rfl, fun w w0 w1 => ?_⟩
      refine ⟨by omega, by omega, ?_⟩
      refine dFor_range (fun i r f => ∃ (us : List Us) (a b c d : Sl), r = [.sh (.any (.ref k.a)), .sh (.lst (ms.map D.str)), .sh (.int m), .ow (us.map pairD), a, b, c, d] ∧ PVu ms us ∧ us.length ≤ m ∧ f5 ≤ f + 2 * i) 0 _ _ _ ?_ ?_ ⟨us, _, _, _, _, rfl, hu, hul, by omega⟩
      · rintro i r f N hi ⟨us, a, b, c, d, rfl, hu, hul, hfi⟩ hN
        have hasc := hu.asc hv
        have hi : i < w.toNat := hi
        refine ⟨_, rfl, .inl ⟨k, _, rfl, rfl, by rw [hml]; omega, by rw [hml]; omega, by omega, fun xd hxd f6 hf6 => ?_⟩⟩
        obtain ⟨x, hx, rfl⟩ := List.mem_map.mp hxd
        refine .inl ⟨k, _, rfl, rfl, by rw [hml]; omega, by rw [hml]; omega, by omega, fun yd hyd f7 hf7 => ?_⟩
        obtain ⟨y, hy, rfl⟩ := List.mem_map.mp hyd
        have ax := (hv.path x hx).asc
        have ay := (hv.path y hy).asc
        refine ⟨show 2 ≤ lim by decide, ?_⟩
        refine ⟨.str x, atI0, .str y, atI_nat (j := 1) rfl, ?_⟩
        show if (!decide (x = y)) = true then _ else _
        by_cases hxy : x = y
        · rw [decide_eq_true hxy]
          exact iteF (nxt (g := some k) (hN _ _ ⟨us, _, _, _, _, rfl, hu, by omega, by omega⟩))
        · rw [decide_eq_false hxy]
          refine iteT ?_
          refine ⟨shaped_pair (u := (x, y)) ⟨ax, ay⟩, shpU hasc, ?_⟩
          rw [anyU']
          show if (!decide ((x, y) ∈ us)) = true then _ else _
          by_cases hin : (x, y) ∈ us
          · rw [decide_eq_true hin]
            exact iteF (nxt (g := some k) (hN _ _ ⟨us, _, _, _, _, rfl, hu, by omega, by omega⟩))
          · rw [decide_eq_false hin]
            refine iteT ?_
            show if decide ((((us.map pairD).length : Nat) : Int) < (m : Int)) = true then _ else _
            rw [List.length_map]
            by_cases hlt : ((us.length : Nat) : Int) < (m : Int)
            · rw [decide_eq_true hlt]
              refine iteT ⟨us.map pairD, rfl, by rw [List.length_map]; exact L3 (by omega), ?_⟩
              exact hN _ _ ⟨us ++ [(x, y)], _, _, _, _, by rw [List.map_append]; rfl, hu.snoc (by omega) hx hy hxy hin, by rw [List.length_append]; show us.length + 1 ≤ m; omega, by omega⟩
            · rw [decide_eq_false hlt]
              exact iteF (nxt (g := some k) (hN _ _ ⟨us, _, _, _, _, rfl, hu, by omega, by omega⟩))
      · rintro r f ⟨us, a, b, c, d, rfl, hu, hul, hfi⟩
        exact q us f hul hu (by omega)
    · refine ⟨k, 3, f2 + 409, rfl, rfl, by decide, by decide, rfl, fun r0 r0a r0b => ?_⟩
      show if decide (r0 = 0) = true then _ else _
      by_cases h0 : r0 = 0
      · rw [decide_eq_true h0]
        refine iteT ?_
        obtain ⟨c, hc, hc1, hc2⟩ : ∃ c : Nat, (if (((ms.map D.str).length : Nat) : Int) - 1 < (m : Int) then (((ms.map D.str).length : Nat) : Int) - 1 else (m : Int)) = (c : Int) ∧ c ≤ m ∧ c + 1 ≤ ms.length := by
          rw [hml]
          split
          · exact ⟨ms.length - 1, by omega, by omega, by omega⟩
          · exact ⟨m, rfl, by omega, by omega⟩
        show (_ ∧ _ ∧ _)
        rw [hc]
        refine ⟨by omega, by omega, by rw [intsD_len]; exact L1 (by omega), ?_⟩
        rw [show ((c : Int)).toNat = c from rfl]
        refine lcM (fun i : Nat => D.int (0 + (i : Int))) pairD (rowU ms) (List.range c) _ (fun i hi => ⟨_, rfl, fun f Q h => ?_⟩) ?_
        · have hi := List.mem_range.mp hi
          have g1 : ∀ j, j < ms.length → atI (ms.map D.str) (j : Int) = some (.str (ms.getD j "")) := fun j hj => by
            refine atI_nat ?_
            rw [List.getElem?_map, List.getElem?_eq_getElem hj, List.getD_eq_getElem?_getD, List.getElem?_eq_getElem hj]
            rfl
          have g2 := g1 i (by omega)
          have g3 := g1 (i + 1) (by omega)
          rw [show (i : Int) = 0 + (i : Int) by omega] at g2
          rw [show ((i + 1 : Nat) : Int) = 0 + (i : Int) + 1 by omega] at g3
          exact ⟨_, g2, _, g3, show 2 ≤ lim by decide, h⟩
        · have hu0 := rowU_ok hv hc2
          exact hk _ _ ⟨(List.range c).map (rowU ms), _, _, _, _, rfl, hu0, by rw [List.length_map, List.length_range]; exact hc1, by omega⟩
      · rw [decide_eq_false h0]
        exact iteF (nxt (hk _ _ ⟨[], _, _, _, _, rfl, pvu_nil, by simp, by omega⟩))
/-! _law_last -/
theorem sc__law_last : FnScope ["_law_path"] ["_law_path"] (defScope s__law_last) := ⟨rfl, rfl, rfl, by decide +kernel, rfl, by decide +kernel, by decide +kernel⟩
def Sp__law_last : DSp := fun _ ds f Q => ∃ x : Str, ds = [.str x] ∧ x.length ≤ 100000 ∧ Q (.str (lastS x)) f
set_option maxHeartbeats 2000000 in
theorem ok__law_last (d : Df K mg "_law_last" s__law_last) : Cal P w K mg base 1 "_law_last" ["_law_path"] Sp__law_last := by
  obtain ⟨f, fd, F, m⟩ := d
  refine ⟨f, fd, dfn (k := 0) (S := Sp__law_last) F sc__law_last ?len (fun cdv A outer s H E hr => (dss_one (ds_ret (de_ix (dl_split (de_v 0) de_str).e (de_neg de_int))))) ?h, F.kp, F.binds fun _ _ _ _ _ _ us hl => match us, hl with | [_], _ => rfl, m⟩
  case len =>
    intro g ds n Q h; obtain ⟨_, rfl, _⟩ := h; rfl
  case h =>
    intro g ds n Q h
    obtain ⟨x, rfl, hl, q⟩ := h
    refine ⟨by decide, Nat.le_trans hl (by decide), .str (lastS x), ?_, q⟩
    show atI ((Txt.split x ".").map D.str) (-1) = some (.str (lastS x))
    rw [atI_last]
    unfold lastS
    cases e : (Txt.split x ".").getLast? with
    | none => exact absurd (List.getLast?_eq_none_iff.mp e) (split_ne x)
    | some z => rfl
/-! _law_places -/
theorem sc__law_places : FnScope ["_law_modules_here", "_law_moves", "_law_found", "_law_module", "_law_homes_here", "_law_move"] ["_law_modules_here", "_law_moves"] (defScope s__law_places) := ⟨rfl, rfl, rfl, by decide +kernel, rfl, by decide +kernel, by decide +kernel⟩
theorem flt_hm {mv : Mvs} (hn : (mv.map (·.1)).Nodup) (m : Str) : (mv.filter fun p => decide (p.1 = m)).map (·.2) = (hmO mv m).toList := by
  induction mv with
  | nil => rfl
  | cons p mv ih =>
    rw [List.map_cons, List.nodup_cons] at hn
    have ih := ih hn.2
    by_cases e : p.1 = m
    · have h0 : mv.filter (fun p => decide (p.1 = m)) = [] := List.filter_eq_nil_iff.mpr fun q hq hb => hn.1 (by rw [e, ← of_decide_eq_true hb]; exact List.mem_map_of_mem hq)
      have e1 : hmO (p :: mv) m = some p.2 := by
        unfold hmO
        rw [List.find?_cons, decide_eq_true e]
        rfl
      rw [e1, List.filter_cons, if_pos (decide_eq_true e), h0]
      rfl
    · have e1 : hmO (p :: mv) m = hmO mv m := by
        unfold hmO
        rw [List.find?_cons, decide_eq_false e]
      rw [e1, List.filter_cons, if_neg (by rw [decide_eq_false e]; decide), ih]
def Sp__law_places : DSp := fun _ ds f Q => ∃ (ms : List Str) (mv : Mvs), ds = [.lst (ms.map D.str), .lst (mv.map mvD)] ∧ PVm ms ∧ MvOk ms mv ∧ Q (.lst ((ms.map (plc mv)).map D.str)) f
set_option maxHeartbeats 2000000 in
theorem ok__law_places (d : Df K mg "_law_places" s__law_places) (c__law_last : Cal P w K mg base 1 "_law_last" ["_law_path"] Sp__law_last) : Cal P w K mg base 2 "_law_places" ["_law_modules_here", "_law_moves"] Sp__law_places := by
  obtain ⟨f, fd, F, m⟩ := d
  refine ⟨f, fd, dfn (k := 1) (S := Sp__law_places) F sc__law_places ?len (fun cdv A outer s H E hr => (dss_cons (ds_setL false (i := 2) sc__law_places.nd (dl_lst da_nil))
      (dss_cons (ds_for [] PassesOwn.never (di_seq (de_v 0)) (dg_name (i := 3) sc__law_places.nd) (dss_cons (ds_setLc (i := 4) (own := [("_law_move", 5)]) sc__law_places.nd (di_seq (de_v 1)) (blkOk_by (own := [("_law_move", 5)]) (N := ["_law_modules_here", "_law_moves", "_law_found", "_law_module", "_law_homes_here", "_law_move"]) (sc := defScope s__law_places) (by decide +kernel)) (fun _ _ _ _ _ => dg_name (i := 5) sc__law_places.nd) (fun _ _ _ _ _ => dts_one (dp_eq hr.units (de_ix (de_v 5) de_int) (de_v 3))) (fun _ _ _ _ _ => (de_ix (de_v 5) de_int)) (fun _ _ _ h => snd_set (m := false) (i := 4) h.e))
      (dss_one (ds_app false (i := 2) (de_ifExp (dp_ne hr.units (de_v 4) (dl_lst da_nil).e) (de_add (de_add (de_ix (de_v 4) de_int) de_str) (de_callC c__law_last (hr.mono (by decide)) (da_cons (de_v 3) da_nil))) (de_v 3))))))
      (dss_one (ds_ret (de_v 2)))))) ?h, F.kp, F.binds fun _ _ _ _ _ _ us hl => match us, hl with | [_, _], _ => rfl, m⟩
  case len =>
    intro g ds n Q h; obtain ⟨_, _, rfl, _⟩ := h; rfl
  case h =>
    intro g ds n Q h
    obtain ⟨ms, mv, rfl, hm, hv, q⟩ := h
    have hml := hm.len
    have hvl : mv.length ≤ 24 := by
      have := nodup_sub_len hv.nd (l := mv.map (·.1)) (m := ms) fun x hx => by obtain ⟨p, hp, rfl⟩ := List.mem_map.mp hx; exact hv.mem p hp
      rw [List.length_map] at this
      omega
    refine ⟨Nat.zero_le _, ?_⟩
    refine dFor_list D.str (fun done rest r f => f = n ∧ ∃ a b c : Sl, r = [.sh (.lst (ms.map D.str)), .sh (.lst (mv.map mvD)), .ow ((done.map (plc mv)).map D.str), a, b, c]) ms _ _ ?_ ?_ ⟨rfl, _, _, _, rfl⟩
    · rintro done m rest r f N hx ⟨rfl, a, b, c, rfl⟩ hN
      have hmm : m ∈ ms := by rw [hx]; simp
      have hdl : done.length ≤ 24 := by have := congrArg List.length hx; rw [List.length_append] at this; omega
      have hmlen := (hm.path m hmm).len
      refine ⟨_, rfl, by rw [List.length_map]; exact L1 (by omega), ?_⟩
      refine lcT mvD D.str (fun p => decide (p.1 = m)) (·.2) mv [] _ (fun p hp => ⟨_, rfl, fun f Q h => ⟨_, atI0, h⟩, fun _ f Q h => ⟨_, atI_nat (j := 1) rfl, h⟩⟩) ?_
      rw [List.nil_append, flt_hm hv.nd]
      simp only [List.set_cons_succ, List.set_cons_zero, setsR, startR, List.map_cons, List.map_nil, List.cons_append, List.nil_append, List.replicate_succ, List.replicate_zero, List.length_cons, List.length_nil, Nat.reduceAdd, Nat.reduceSub]
      have fin : ∀ a b c : Sl, N [.sh (.lst (ms.map D.str)), .sh (.lst (mv.map mvD)), .ow (((done ++ [m]).map (plc mv)).map D.str), a, b, c] f := fun a b c => hN _ _ ⟨rfl, _, _, _, rfl⟩
      have hal : ((done.map (plc mv)).map D.str).length ≤ lim := by rw [List.length_map, List.length_map]; exact L1 (by omega)
      have hr : (((done ++ [m]).map (plc mv)).map D.str) = (done.map (plc mv)).map D.str ++ [.str (plc mv m)] := by rw [List.map_append, List.map_append]; rfl
      cases eh : hmO mv m with
      | none =>
        have ep : plc mv m = m := by unfold plc; rw [eh]
        refine ⟨_, rfl, Nat.zero_le _, ?_⟩
        show oEq true (.lst (([] : List Str).map D.str)) (.lst (([] : List Str).map D.str)) _
        refine oEq_lst (m := []) (by simp) (by simp) ?_
        refine ⟨hal, ?_⟩
        have := fin (.sh (.str m)) (.sh (.lst ([].map D.str))) c
        rw [hr, ep] at this
        exact this
      | some x =>
        have hx5 : PathN 5 x := hv.hm _ (hmO_some eh)
        have hxl := hx5.len
        have hln : (lastS m).length ≤ 8 := by rw [TL.len_tl]; exact (lastS_name (hm.path m hmm)).cdl
        have ep : plc mv m = (x ++ ".") ++ lastS m := by unfold plc; rw [eh]
        refine ⟨_, rfl, Nat.zero_le _, ?_⟩
        show oEq true (.lst ([x].map D.str)) (.lst (([] : List Str).map D.str)) _
        refine oEq_lst (m := []) (fun s h => by rw [List.mem_singleton.mp h]; exact hx5.asc) (by simp) ?_
        refine ⟨_, atI0, ?_, m, rfl, by omega, ?_, hal, ?_⟩
        · show x.length + 1 ≤ lim; exact L1 (by omega)
        · show (x ++ ".").length + (lastS m).length ≤ lim
          rw [app_len]
          exact L1 (by show x.length + 1 + _ ≤ _; omega)
        have := fin (.sh (.str m)) (.sh (.lst ([x].map D.str))) c
        rw [hr, ep] at this
        exact this
    · rintro r f ⟨rfl, a, b, c, rfl⟩
      exact q
/-! _law_carried -/
theorem sc__law_carried : FnScope ["_law_modules_here", "_law_uses_here", "_law_moves", "_law_places_here", "_law_use"] ["_law_modules_here", "_law_uses_here", "_law_moves"] (defScope s__law_carried) := ⟨rfl, rfl, rfl, by decide +kernel, rfl, by decide +kernel, by decide +kernel⟩
theorem atI_fi' {F : Str → D} {ps : List Str} {z : Str} (h : z ∈ ps) : atI (ps.map F) ((ps.findIdx fun a => decide (a = z) : Nat) : Int) = some (F z) := by
  refine atI_nat ?_
  have hl : (ps.findIdx fun a => decide (a = z)) < ps.length := List.findIdx_lt_length_of_exists ⟨z, h, decide_eq_true rfl⟩
  rw [List.getElem?_map, List.getElem?_eq_getElem hl]
  have := List.findIdx_getElem (p := fun a => decide (a = z)) (xs := ps) (w := hl)
  rw [of_decide_eq_true this]
  rfl
def Sp__law_carried : DSp := fun _ ds f Q => ∃ (ms : List Str) (us : List Us) (mv : Mvs), ds = [.lst (ms.map D.str), .lst (us.map pairD), .lst (mv.map mvD)] ∧ PVm ms ∧ PVu ms us ∧ MvOk ms mv ∧ Q (.lst ((us.map (carU mv)).map pairD)) f
set_option maxHeartbeats 2000000 in
theorem ok__law_carried (d : Df K mg "_law_carried" s__law_carried) (c__law_places : Cal P w K mg base 2 "_law_places" ["_law_modules_here", "_law_moves"] Sp__law_places) : Cal P w K mg base 3 "_law_carried" ["_law_modules_here", "_law_uses_here", "_law_moves"] Sp__law_carried := by
  obtain ⟨f, fd, F, m⟩ := d
  refine ⟨f, fd, dfn (k := 2) (S := Sp__law_carried) F sc__law_carried ?len (fun cdv A outer s H E hr => (dss_cons (ds_set false (i := 3) sc__law_carried.nd (de_callC c__law_places (hr.mono (by decide)) (da_cons (de_v 0) (da_cons (de_v 2) da_nil))))
      (dss_one (ds_ret (dl_lc (own := [("_law_use", 4)]) rfl sc__law_carried.nd (di_seq (de_v 1)) (blkOk_by (own := [("_law_use", 4)]) (N := ["_law_modules_here", "_law_uses_here", "_law_moves", "_law_places_here", "_law_use"]) (sc := defScope s__law_carried) (by decide +kernel)) (fun _ _ _ _ _ => dg_name (i := 4) sc__law_carried.nd) (fun _ _ _ _ _ => dts_nil) (fun _ _ _ _ _ => (de_tup (da_cons (de_ix (de_v 3) (de_index (de_v 0) (de_ix (de_v 4) de_int))) (da_cons (de_ix (de_v 3) (de_index (de_v 0) (de_ix (de_v 4) de_int))) da_nil))))).e)))) ?h, F.kp, F.binds fun _ _ _ _ _ _ us hl => match us, hl with | [_, _, _], _ => rfl, m⟩
  case len =>
    intro g ds n Q h; obtain ⟨_, _, _, rfl, _⟩ := h; rfl
  case h =>
    intro g ds n Q h
    obtain ⟨ms, us, mv, rfl, hm, hu, hv, q⟩ := h
    have hul := hu.len
    refine ⟨ms, mv, rfl, hm, hv, ?_⟩
    simp only [List.set_cons_succ, List.set_cons_zero, setsR, startR, List.map_cons, List.map_nil, List.cons_append, List.nil_append, List.replicate_succ, List.replicate_zero, List.length_cons, List.length_nil, Nat.reduceAdd, Nat.reduceSub]
    refine ⟨by rw [List.length_map]; exact L1 (by omega), ?_⟩
    refine lcM pairD pairD (carU mv) us _ (fun u hu' => ⟨_, rfl, fun f Q h => ?_⟩) q
    obtain ⟨h1, h2, _⟩ := hu.mem u hu'
    rw [List.map_map]
    exact ⟨_, atI0, ms, rfl, h1, _, atI_fi' h1, _, atI_nat (j := 1) rfl, ms, rfl, h2, _, atI_fi' h2, show 2 ≤ lim by decide, h⟩
/-! _law_parts -/
theorem sc__law_parts : FnScope ["_law_modules_here", "_law_found", "_law_module", "_law_words", "_law_k"] ["_law_modules_here"] (defScope s__law_parts) := ⟨rfl, rfl, rfl, by decide +kernel, rfl, by decide +kernel, by decide +kernel⟩
def Sp__law_parts : DSp := fun _ ds f Q => ∃ ms : List Str, ds = [.lst (ms.map D.str)] ∧ ms.length ≤ 50 ∧ (∀ m ∈ ms, PathN 6 m) ∧ ∀ ks, Parts ms ks → Q (.tup ((sortS ks).map D.str)) f
set_option maxHeartbeats 2000000 in
theorem ok__law_parts (d : Df K mg "_law_parts" s__law_parts) (m_sorted : mg "sorted" = none) (m_set : mg "set" = none) (m_tuple : mg "tuple" = none) (m_range : mg "range" = none) (m_len : mg "len" = none) : Cal P w K mg base 1 "_law_parts" ["_law_modules_here"] Sp__law_parts := by
  obtain ⟨f, fd, F, m⟩ := d
  refine ⟨f, fd, dfn (k := 0) (S := Sp__law_parts) F sc__law_parts ?len (fun cdv A outer s H E hr => (dss_cons (ds_setL false (i := 1) sc__law_parts.nd (dl_lst da_nil))
      (dss_cons (ds_for [] PassesOwn.never (di_seq (de_v 0)) (dg_name (i := 2) sc__law_parts.nd) (dss_cons (ds_set false (i := 3) sc__law_parts.nd (dl_split (de_v 2) de_str).e)
      (dss_one (ds_ext false (i := 1) (dl_lc (own := [("_law_k", 4)]) rfl sc__law_parts.nd (di_range1 m_range (da_cons (de_len m_len (da_cons (de_v 3) da_nil)) da_nil)) (blkOk_by (own := [("_law_k", 4)]) (N := ["_law_modules_here", "_law_found", "_law_module", "_law_words", "_law_k"]) (sc := defScope s__law_parts) (by decide +kernel)) (fun _ _ _ _ _ => dg_name (i := 4) sc__law_parts.nd) (fun _ _ _ _ _ => dts_nil) (fun _ _ _ _ _ => (de_join de_str (de_sl (de_v 3) do_none (do_some (de_add (de_v 4) de_int)))))).e))))
      (dss_one (ds_ret (de_callTy call_tuple_of sc_tuple (by rfl) m_tuple (by decide +kernel) (da_cons (dl_sortZ hr m_sorted m_set (de_v 1)).e da_nil))))))) ?h, F.kp, F.binds fun _ _ _ _ _ _ us hl => match us, hl with | [_], _ => rfl, m⟩
  case len =>
    intro g ds n Q h; obtain ⟨_, rfl, _⟩ := h; rfl
  case h =>
    intro g ds n Q h
    obtain ⟨ms, rfl, hl50, hm, q⟩ := h
    refine ⟨show 0 ≤ lim by decide, ?_⟩
    refine dFor_list D.str (fun done rest r f => f = n ∧ ∃ (l : List Str) (a b c : Sl), r = [.sh (.lst (ms.map D.str)), .ow (l.map D.str), a, b, c] ∧ (∀ x, x ∈ l ↔ isPart done x) ∧ l.length ≤ 6 * done.length) ms _ _ ?_ ?_ ⟨rfl, [], _, _, _, rfl, fun x => ⟨fun h => by simp at h, fun ⟨_, h, _⟩ => by simp at h⟩, Nat.le_refl _⟩
    · rintro done m rest r f N hms ⟨rfl, l, a, b, c, rfl, hl, hlen⟩ hN
      have hmm : m ∈ ms := by rw [hms]; simp
      have hdl : done.length < 50 := by have := hl50; rw [hms, List.length_append, List.length_cons] at this; omega
      have hpath := hm m hmm
      obtain ⟨s1, s2, s3, s4⟩ := hpath.splits
      refine ⟨_, rfl, by decide +kernel, Nat.le_trans hpath.len (by decide), ?_⟩
      refine ⟨_, rfl, by rw [List.length_map]; omega, by rw [List.length_map]; omega, by rw [intsD_len, List.length_map]; exact L1 (by omega), ?_⟩
      rw [List.length_map, show (((Txt.split m ".").length : Int)).toNat = (Txt.split m ".").length from rfl]
      refine lcR D.str (fun i => Txt.join "." ((Txt.split m ".").take (i + 1))) 0 _ _ (fun i hi => ⟨_, rfl, fun f Q h => ?_⟩) ?_
      · have ej : ((0 : Int) + (i : Int) + 1) = ((i + 1 : Nat) : Int) := by omega
        refine ⟨trivial, (Txt.split m ".").take (i + 1), ?_, join_names _ (fun n hn => Nat.le_trans (s3 n (List.mem_of_mem_take hn)).2.1 (by decide)) (by rw [List.length_take]; omega) _ (by decide +kernel), h⟩
        show cutD ((Txt.split m ".").map D.str) none (some ((0 : Int) + (i : Int) + 1)) = _
        rw [ej, cutD_takeS]
      · generalize hps : (List.range (Txt.split m ".").length).map (fun i => Txt.join "." ((Txt.split m ".").take (i + 1))) = ps
        have hpl : ps.length ≤ 6 := by rw [← hps, List.length_map, List.length_range]; exact s2
        refine ⟨_, rfl, by rw [List.length_map, List.length_map]; exact L1 (by omega), ?_⟩
        refine hN _ _ ⟨rfl, l ++ ps, _, _, _, by rw [List.map_append]; rfl, fun x => ?_, by rw [List.length_append, List.length_append]; simp; omega⟩
        rw [List.mem_append, hl x, ← hps, List.mem_map]
        constructor
        · rintro (⟨m', h1, h2⟩ | ⟨i, hi, rfl⟩)
          · exact ⟨m', by simp [h1], h2⟩
          · exact ⟨m, by simp, i + 1, by omega, by have := List.mem_range.mp hi; omega, rfl⟩
        · rintro ⟨m', h1, k, h2, h3, h4⟩
          rcases List.mem_append.mp h1 with h | h
          · exact .inl ⟨m', h, k, h2, h3, h4⟩
          · rw [List.mem_singleton.mp h] at h3 h4
            exact .inr ⟨k - 1, List.mem_range.mpr (by omega), by rw [h4]; congr 2; omega⟩
    · rintro r f ⟨rfl, l, a, b, c, rfl, hl, hlen⟩
      refine ⟨l, .inl rfl, by omega, fun s hs => (((hl s).mp hs).pathG hm).asc, ?_⟩
      exact q (ded l) ⟨ded_nodup l, fun x => ded_mem.trans (hl x)⟩
/-! Program.__contains__ -/
theorem sc_Program___contains__ : FnScope ["self", "value"] ["self", "value"] (defScope s_Program___contains__) := ⟨rfl, rfl, rfl, by decide +kernel, rfl, by decide +kernel, by decide +kernel⟩
def Sp_Program___contains__ : DSp := fun _ ds f Q => ∃ (ms : List Str) (us : List Us) (ks : List Str) (x : D), ds = [prgD ms us ks, x] ∧ (∀ k ∈ ks, asc k) ∧ (∀ u ∈ us, ascU u) ∧ okO x ∧
  (∀ s, x = .str s → asc s ∧ Q (.bool (decide (s ∈ ks))) f) ∧ (∀ a b, x = .tup [.str a, .str b] → ascU (a, b) ∧ (a = b → (a, b) ∉ us) ∧ Q (.bool (decide ((a, b) ∈ us))) f) ∧ (x.isSt = false → (∀ a b, x ≠ .tup [.str a, .str b]) → Q (.bool false) f)
theorem pairB_inv {x : D} (h : pairB x = true) : ∃ a b, x = .tup [.str a, .str b] ∧ a ≠ b := by
  cases x <;> try (cases h; done)
  next xs =>
  match xs, h with
  | [], h => cases h
  | [_], h => cases h
  | [a, b], h =>
    cases a <;> try (cases h; done)
    cases b <;> try (cases h; done)
    exact ⟨_, _, rfl, of_decide_eq_true h⟩
  | _ :: _ :: _ :: _, h => cases h
set_option maxHeartbeats 2000000 in
theorem ok_Program___contains__ (m_str : mg "str" = none) (m_isinstance : mg "isinstance" = none) {C_Program : Addr} (k_Program : KC K "Program" C_Program) (n_Program_links : NoAttr K C_Program "links") (o_Program : KO K "Program" C_Program) (n_Program_heads : NoAttr K C_Program "heads") (c_is_pair : Cal P w K mg base 1 "is_pair" ["value"] Sp_is_pair) (d : ∃ f fd, Fun K "__contains__" "Program.__contains__" s_Program___contains__ f fd ∧ Meth K C_Program "__contains__" f) : CalM P w K mg base 2 "Program" "__contains__" ["self", "value"] Sp_Program___contains__ := by
  obtain ⟨f, fd, F, M⟩ := d
  refine ⟨C_Program, f, fd, k_Program, M, dfn (k := 1) (S := Sp_Program___contains__) F sc_Program___contains__ ?len (fun cdv A outer s H E hr => (dss_cons (ds_if (dp_val (de_isiO o_Program m_isinstance (da_cons (de_v 1) (da_cons (de_bltn (v := .ty "str") (u := .type "str") (by rfl) m_str (by decide +kernel) rfl) da_nil)))) (dss_one (ds_ret (de_in hr (de_v 1) (de_fld k_Program n_Program_heads (de_v 0))))) dss_nil)
      (dss_one (ds_ret (de_and (de_callC c_is_pair (hr.mono (by decide)) (da_cons (de_v 1) da_nil)) (de_one (de_in hr (de_v 1) (de_fld k_Program n_Program_links (de_v 0))))))))) ?h, F.binds fun _ _ _ _ _ _ us hl => match us, hl with | [_, _], _ => rfl⟩
  case len =>
    intro g ds n Q h; obtain ⟨_, _, _, _, rfl, _⟩ := h; rfl
  case h =>
    intro g ds n Q h
    obtain ⟨ms, us, ks, x, rfl, ak, au, hx, q1, q2, q3⟩ := h
    have tail : x.isSt = false → (if pairB x = true then (∃ y, (["places", "links", "heads"].zip [D.tup ((sortS ms).map D.str), .tup ((sortU us).map pairD), .tup ((sortS ks).map D.str)]).lookup "links" = some y ∧ oIn false x y fun z => Q z n) else Q (.bool false) n) := fun hs => by
      cases hp : pairB x with
      | true =>
        obtain ⟨a, b, rfl, hne⟩ := pairB_inv hp
        obtain ⟨h1, _, h2⟩ := q2 a b rfl
        refine iteT ⟨_, rfl, shaped_pair (u := (a, b)) h1, shpUT (fun u hu => au u (mem_sortU.mp hu)), ?_⟩
        rw [anyU', show decide ((a, b) ∈ sortU us) = decide ((a, b) ∈ us) from by rw [Bool.eq_iff_iff, decide_eq_true_iff, decide_eq_true_iff, mem_sortU]]
        exact h2
      | false =>
        refine iteF ?_
        by_cases hab : ∃ a b, x = .tup [.str a, .str b]
        · obtain ⟨a, b, rfl⟩ := hab
          obtain ⟨h1, h2, h3⟩ := q2 a b rfl
          have e : a = b := Classical.byContradiction fun z => by
            have : pairB (.tup [.str a, .str b]) = true := decide_eq_true z
            rw [this] at hp
            cases hp
          rw [decide_eq_false (h2 e)] at h3
          exact h3
        · exact q3 hs fun a b e => hab ⟨a, b, e⟩
    have tl : x.isSt = false → dAndV (dCall Sp_is_pair (dCons (dVar 1) dNil)) (dOp (oIn false) (dVar 1) (dFld "Program" "links" (dVar 0))) g [.sh (prgD ms us ks), .sh x] n Q := fun hs => by
      refine ⟨x, rfl, hx, ?_⟩
      have t := tail hs
      show if pairB x = true then _ else _
      cases hp : pairB x with
      | true => rw [hp] at t; exact ⟨rfl, t⟩
      | false => rw [hp] at t; exact t
    cases x with
    | str s =>
      obtain ⟨h1, h2⟩ := q1 s rfl
      refine ⟨"str", true, rfl, by decide +kernel, rfl, _, rfl, shaped_str h1, shpST (fun k hk => ak k (mem_sortS.mp hk)), ?_⟩
      rw [anyS', show decide (s ∈ sortS ks) = decide (s ∈ ks) from by rw [Bool.eq_iff_iff, decide_eq_true_iff, decide_eq_true_iff, mem_sortS]]
      exact h2
    | any v =>
      rcases hx with h | h <;> cases h
    | dtt _ _ =>
      rcases hx with h | h <;> cases h
    | ktup _ =>
      rcases hx with h | h <;> cases h
    | ftp _ =>
      rcases hx with h | h <;> cases h
    | exn _ _ _ =>
      rcases hx with h | h <;> cases h
    | obj c ns xs =>
      rcases hx with h | h
      · cases h
      · exact ⟨of_decide_eq_true h, .inr rfl, tl rfl⟩
    | _ => exact ⟨_, false, rfl, by decide +kernel, tl rfl⟩
/-! _law_has_right -/
theorem sc__law_has_right : FnScope ["_law_program", "_law_modules_here", "_law_asked", "_law_parts_here", "_law_path"] ["_law_program", "_law_modules_here", "_law_asked"] (defScope s__law_has_right) := ⟨rfl, rfl, rfl, by decide +kernel, rfl, by decide +kernel, by decide +kernel⟩
def Sp__law_has_right : DSp := fun _ ds f Q => ∃ (ms : List Str) (us : List Us) (ks ps as : List Str), ds = [prgD ms us ks, .lst (ps.map D.str), .lst (as.map D.str)] ∧ PVm ms ∧ PVu ms us ∧ Parts ms ks ∧ (∀ x, x ∈ ps ↔ x ∈ ms) ∧ ps.length ≤ 50 ∧ as.length ≤ 1000 ∧ (∀ a ∈ as, asc a) ∧ Q (.bool true) f
set_option maxHeartbeats 2000000 in
theorem ok__law_has_right (d : Df K mg "_law_has_right" s__law_has_right) (c_Program___contains__ : CalM P w K mg base 2 "Program" "__contains__" ["self", "value"] Sp_Program___contains__) (c__law_parts : Cal P w K mg base 1 "_law_parts" ["_law_modules_here"] Sp__law_parts) : Cal P w K mg base 3 "_law_has_right" ["_law_program", "_law_modules_here", "_law_asked"] Sp__law_has_right := by
  obtain ⟨f, fd, F, m⟩ := d
  refine ⟨f, fd, dfn (k := 2) (S := Sp__law_has_right) F sc__law_has_right ?len (fun cdv A outer s H E hr => (dss_cons (ds_set false (i := 3) sc__law_has_right.nd (de_callC c__law_parts (hr.mono (by decide)) (da_cons (de_v 1) da_nil)))
      (dss_one (ds_ret (de_eq hr.units (dl_lc (own := [("_law_path", 4)]) rfl sc__law_has_right.nd (di_seq (de_v 2)) (blkOk_by (own := [("_law_path", 4)]) (N := ["_law_program", "_law_modules_here", "_law_asked", "_law_parts_here", "_law_path"]) (sc := defScope s__law_has_right) (by decide +kernel)) (fun _ _ _ _ _ => dg_name (i := 4) sc__law_has_right.nd) (fun _ _ _ _ _ => dts_nil) (fun _ _ _ _ _ => (de_inO c_Program___contains__ (hr.mono (by decide)) (de_v 4) (de_v 0)))).e (dl_lc (own := [("_law_path", 4)]) rfl sc__law_has_right.nd (di_seq (de_v 2)) (blkOk_by (own := [("_law_path", 4)]) (N := ["_law_program", "_law_modules_here", "_law_asked", "_law_parts_here", "_law_path"]) (sc := defScope s__law_has_right) (by decide +kernel)) (fun _ _ _ _ _ => dg_name (i := 4) sc__law_has_right.nd) (fun _ _ _ _ _ => dts_nil) (fun _ _ _ _ _ => (de_in hr (de_v 4) (de_v 3)))).e))))) ?h, F.kp, F.binds fun _ _ _ _ _ _ us hl => match us, hl with | [_, _, _], _ => rfl, m⟩
  case len =>
    intro g ds n Q h; obtain ⟨_, _, _, _, _, rfl, _⟩ := h; rfl
  case h =>
    intro g ds n Q h
    obtain ⟨ms, us, ks, ps, as, rfl, hm, hu, hk, hps, hpl, hal, ha, q⟩ := h
    refine ⟨ps, rfl, hpl, fun p h => hm.path p ((hps p).mp h), fun ks' hk' => ?_⟩
    have hkk : ∀ x, x ∈ sortS ks' ↔ x ∈ ks := fun x => by
      rw [(sortS_perm ks').mem_iff, hk'.mem, hk.mem]
      exact ⟨fun ⟨a, b, c⟩ => ⟨a, (hps a).mp b, c⟩, fun ⟨a, b, c⟩ => ⟨a, (hps a).mpr b, c⟩⟩
    have kasc : ∀ k ∈ ks, asc k := fun k h => (((hk.mem k).mp h).path hm).asc
    refine ⟨by rw [List.length_map]; exact L1 (by omega), ?_⟩
    refine lcT D.str D.bool (fun _ => true) (fun a => decide (a ∈ ks)) as [] _ (fun a h1 => ⟨_, rfl, fun f Q h => h, fun _ f Q h => ?_⟩) ?_
    · exact ⟨rfl, ms, us, ks, .str a, rfl, kasc, hu.asc hm, .inl rfl, (fun s e => by cases e; exact ⟨ha a h1, _, rfl, h⟩), (fun a b e => nomatch e), (fun e => nomatch e)⟩
    rw [List.filter_eq_self.mpr (fun _ _ => rfl), List.nil_append]
    refine ⟨by rw [List.length_map]; exact L1 (by omega), ?_⟩
    refine lcT D.str D.bool (fun _ => true) (fun a => decide (a ∈ ks)) as [] _ (fun a h1 => ⟨_, rfl, fun f Q h => h, fun _ f Q h => ?_⟩) ?_
    · refine ⟨shaped_str (ha a h1), shpST (fun k h => kasc k ((hkk k).mp h)), ?_⟩
      show Q (.bool ((pyA ((sortS ks').map D.str)).any fun z => PyData.eqv z (D.str a).py)) f
      rw [anyS', show decide (a ∈ sortS ks') = decide (a ∈ ks) from decide_eq_decide.mpr (hkk a)]
      exact h
    rw [List.filter_eq_self.mpr (fun _ _ => rfl), List.nil_append]
    have hsh : Shp 1 (D.lst ((as.map fun a => decide (a ∈ ks)).map D.bool)) := shp_lst fun x hx => by
      obtain ⟨b, _, rfl⟩ := List.mem_map.mp hx
      exact shp_bool b 0
    show oEq false (D.lst ((as.map fun a => decide (a ∈ ks)).map D.bool)) (D.lst ((as.map fun a => decide (a ∈ ks)).map D.bool)) _
    refine oEq_data (hsh.of (by decide)) (hsh.of (by decide)) ?_
    rw [SeqAt.eqv_refl _ hsh.1]
    exact q
theorem sc_x_Clash : FnScope ["self", "path"] ["self", "path"] (defScope s_x_Clash) := ⟨rfl, rfl, rfl, by decide +kernel, rfl, by decide +kernel, by decide +kernel⟩
theorem ok_x_Clash {C fI : Addr} {fd : FuncData} (T : OexC K C) (hno : PySem.W.findIn K (.ref C) "path" = some none) (F : Fun K "__init__" "Clash.__init__" s_x_Clash fI fd) (i1 : PySem.W.findIn K (.ref C) "__init__" = some (some (.ref fI))) (i2 : PySem.W.typeIn K (.ref fI) = some (.type "function")) (hns : PySem.W.nsIn K mainGlobals "Clash" = some (some (.ref C))) (hm : mg "Clash" = some (.ref C)) : Exn P w K mg base 1 "Clash" "path" :=
  exn_mk T hno F i1 i2 hns hm sc_x_Clash (F.binds fun _ _ _ _ _ _ us hl => match us, hl with | [_, _], _ => rfl) (fun cdv A outer s H E => pss_one (ps_ost (pv 0) (pv 1)))
/-! moved -/
theorem sc_moved : FnScope ["program", "moves", "homes", "places", "module", "path", "uses", "user", "used", "other"] ["program", "moves"] (defScope s_moved) := ⟨rfl, rfl, rfl, by decide +kernel, rfl, by decide +kernel, by decide +kernel⟩
theorem pd_mv (mv : Mvs) : mv.map mvD = (mv.map fun p => (p.1, D.str p.2)).map pD := by
  rw [List.map_map]
  rfl
def hmT (mv : Mvs) : D := .dct ((mv.map (·.1)).map Sum.inr) (mv.map fun p => .str p.2)
theorem hm_eq (mv : Mvs) : D.dct ((mv.map fun p => (p.1, D.str p.2)).map fun p => Sum.inr p.1) ((mv.map fun p => (p.1, D.str p.2)).map (·.2)) = hmT mv := by
  unfold hmT
  rw [List.map_map, List.map_map, List.map_map]
  rfl
theorem look_hm (m : Str) : ∀ mv : Mvs, lookD ((mv.map (·.1)).map Sum.inr) (mv.map fun p => D.str p.2) (.inr m) = (hmO mv m).map D.str
  | [] => rfl
  | p :: mv => by
    have ih := look_hm m mv
    unfold lookD at ih ⊢
    unfold hmO at ih ⊢
    simp only [List.map_cons, List.zip_cons_cons, List.find?_cons]
    by_cases e : p.1 = m
    · rw [decide_eq_true (show (Sum.inr p.1 : Key) = Sum.inr m from congrArg _ e), decide_eq_true e]
      rfl
    · rw [decide_eq_false (show ¬ (Sum.inr p.1 : Key) = Sum.inr m from fun z => e (Sum.inr.inj z)), decide_eq_false e]
      exact ih
theorem noMA_str {α : Type} (F : α → Str) : ∀ l : List α, noMA (l.map fun x => D.str (F x)) = true
  | [] => rfl
  | x :: l => by
    show (true && noMA (l.map fun x => D.str (F x))) = true
    rw [noMA_str F l]; rfl
theorem noMA_pairs : ∀ l : List Us, noMA (l.map pairD) = true
  | [] => rfl
  | x :: l => by
    show (true && noMA (l.map pairD)) = true
    rw [noMA_pairs l]; rfl
theorem lkJ_map {g : Option Dk} {s : Nat} {e : LkIJ → DT} {a : Addr} {ks : List Key} {xs : List D} {r : Sg} {Q : List D → Nat → Prop} (F : Str → D) : ∀ (rest : List Str) (acc : List D) (f : Nat),
    (∀ p ∈ rest, ∀ (f : Nat) (Q : QD), Q (F p) f → e ⟨a, ks, xs, p⟩ g (setsR r [(s, .str p)]) f Q) → noMA (acc ++ rest.map F) = true → Q (acc ++ rest.map F) f → dLkGoJ g s (fun _ => dYes) e a ks xs r rest acc f Q
  | [], acc, f, _, hn, q => by
    rw [List.map_nil, List.append_nil] at hn q
    exact ⟨hn, q⟩
  | p :: rest, acc, f, h, hn, q => by
    refine h p (by simp) f _ ?_
    refine lkJ_map F rest (acc ++ [F p]) f (fun x hx => h x (List.mem_cons_of_mem _ hx)) ?_ ?_
    · rw [List.append_assoc]; exact hn
    · rw [List.append_assoc]; exact q
theorem lk2_map {g : Option Dk} {s j : Nat} {e : LkIJ → DT} {i : Nat} {r : Sg} {vs : List Nat} {ps : List Str} {xs : List D} {ks' : List Key} {xs' : List D} {f : Nat} {Q : List D → Nat → Prop} {A : Prop} (F : Str → D)
    (h : ∀ (a : Addr), ∀ p ∈ ps, ∀ (f : Nat) (Q : QD), Q (F p) f → e ⟨a, ps.map (Sum.inr : Str → Key), xs, p⟩ g (setsR (wipeR ((lkR i a r).set j (.sh (.dct ks' xs'))) vs) [(s, .str p)]) f Q) (hn : noMA (ps.map F) = true) (hdf : ps ≠ [] → DiffS (ps.map Sum.inr) xs ks' xs') (hA : Q [] f → A) (q : Q (ps.map F) f) :
    (ps = [] ∧ A) ∨ (DiffS (ps.map Sum.inr) xs ks' xs' ∧ ∀ a : Addr, dLkGoJ g s (fun _ => dYes) e a (ps.map (Sum.inr : Str → Key)) xs (wipeR ((lkR i a r).set j (.sh (.dct ks' xs'))) vs) ps [] f Q) := by
  by_cases hp : ps = []
  · subst hp
    exact .inl ⟨rfl, hA q⟩
  · exact .inr ⟨hdf hp, fun a => lkJ_map F ps [] f (h a) hn q⟩
theorem flat_us : ∀ l : List Us, flatA (l.map pairD) = true
  | [] => rfl
  | u :: l => by
    show ((pairD u).flat && flatA (l.map pairD)) = true
    rw [flat_us l]
    rfl
def mvS (mv : Mvs) : List Us := sortU ((mv.map (·.1)).map fun m => (plc mv m, m))
theorem mem_mvS {mv : Mvs} {u : Us} : u ∈ mvS mv ↔ u.2 ∈ mv.map (·.1) ∧ u.1 = plc mv u.2 := by
  unfold mvS
  rw [(sortU_perm _).mem_iff, List.mem_map]
  exact ⟨fun ⟨m, h, e⟩ => by cases e; exact ⟨h, rfl⟩, fun ⟨h, e⟩ => ⟨u.2, h, Prod.ext e.symm rfl⟩⟩
def Sp_moved : DSpX := fun _ ds f Q E => ∃ (ms : List Str) (us : List Us) (ks : List Str) (mv : Mvs), ds = [prgD ms us ks, mvT mv] ∧ PVm ms ∧ PVu ms us ∧ MvOk ms mv ∧
  (∀ p, Cl ms mv p → E (.obj "Clash" ["path"] [.str p]) f) ∧ ((∀ p, ¬ BadP ms mv p) → ∀ ks', Parts ((sortS ms).map (plc mv)) ks' → Q (prgD ((sortS ms).map (plc mv)) ((sortU us).map (carU mv)) ks') f)
set_option maxHeartbeats 2000000 in
theorem ok_moved (d : Df K mg "moved" s_moved) (m_tuple : mg "tuple" = none) (m_sorted : mg "sorted" = none) (m_dict : mg "dict" = none) {C_Program : Addr} (k_Program : KC K "Program" C_Program) (x_Clash : Exn P w K mg base 1 "Clash" "path") (c_Program_modules : CalP P w K mg base 1 "Program" "modules" ["self"] Sp_Program_modules) (c_Program___init__ : Mkr P w K mg base 6 "Program" ["self", "modules", "uses"] Sp_Program___init__) (c_Program_uses : CalP P w K mg base 1 "Program" "uses" ["self"] Sp_Program_uses) (c_first_overlap : Cal P w K mg base 3 "first_overlap" ["paths", "others"] Sp_first_overlap) (c_last_name : Cal P w K mg base 1 "last_name" ["path"] Sp_last_name) : CalX P w K mg base 8 "moved" ["program", "moves"] Sp_moved := by
  obtain ⟨f, fd, F, m⟩ := d
  refine ⟨f, fd, dfnX (k := 7) (S := Sp_moved) F sc_moved ?len (fun cdv A outer s H E hr => (dss_cons (ds_set false (i := 2) sc_moved.nd (de_callTy (call_dictF rfl) sc_dictF (by rfl) m_dict (by decide +kernel) (da_cons (de_v 1) da_nil)))
      (dss_cons (ds_setD0 (i := 3) sc_moved.nd)
      (dss_cons (ds_for [] (passes_of rfl) (di_seq (de_prop c_Program_modules (hr.mono (by decide)) (de_v 0))) (dg_name (i := 4) sc_moved.nd) (dss_cons (ds_setKey false hr (i := 3) (de_v 4) (de_v 4))
      (dss_one (ds_if (dp_din hr (de_v 4) (de_v 2)) (dss_one (ds_setKey false hr (i := 3) (de_v 4) (de_add (de_add (de_dget hr (de_v 2) (de_v 4)) de_str) (de_callC c_last_name (hr.mono (by decide)) (da_cons (de_v 4) da_nil))))) dss_nil))))
      (dss_cons (ds_for [3] (passes_of rfl) (di_seq (de_sorted hr m_sorted (da_cons (dl_lcLkJ2 3 (i := 2) (s := 4) (own := [("module", 4)]) rfl sc_moved.nd (blkOk_by (own := [("module", 4)]) (N := ["program", "moves", "homes", "places", "module", "path", "uses", "user", "used", "other"]) (sc := defScope s_moved) (by decide +kernel)) (fun _ _ _ _ _ => dg_name (i := 4) sc_moved.nd) (fun _ _ _ _ _ => dtk_nilJ) (fun _ _ _ _ _ => (dek_ofJ (de_tup (da_cons (de_dget hr (de_v 3) (de_v 4)) (da_cons (de_v 4) da_nil)))))).e da_nil))) (dg_tup rfl (dgs_cons (dg_name (i := 5) sc_moved.nd) (dgs_cons (dg_name (i := 4) sc_moved.nd) dgs_nil))) (dss_one (ds_if (dp_notN (de_callC c_first_overlap (hr.mono (by decide)) (da_cons (de_tup (da_cons (de_v 5) da_nil)) (da_cons (dl_lc (own := [("other", 9)]) rfl sc_moved.nd (di_seq (de_prop c_Program_modules (hr.mono (by decide)) (de_v 0))) (blkOk_by (own := [("other", 9)]) (N := ["program", "moves", "homes", "places", "module", "path", "uses", "user", "used", "other"]) (sc := defScope s_moved) (by decide +kernel)) (fun _ _ _ _ _ => dg_name (i := 9) sc_moved.nd) (fun _ _ _ _ _ => dts_one (dp_ne hr.units (de_v 9) (de_v 4))) (fun _ _ _ _ _ => (de_dget hr (de_v 3) (de_v 9)))).e da_nil))) de_non) (dss_one (ds_raise x_Clash (hr.mono (by decide)) (de_v 5))) dss_nil)))
      (dss_cons (ds_set true (i := 6) sc_moved.nd (de_callTy call_tuple_of sc_tuple (by rfl) m_tuple (by decide +kernel) (da_cons (dl_lc (own := [("user", 7), ("used", 8)]) rfl sc_moved.nd (di_seq (de_prop c_Program_uses (hr.mono (by decide)) (de_v 0))) (blkOk_by (own := [("user", 7), ("used", 8)]) (N := ["program", "moves", "homes", "places", "module", "path", "uses", "user", "used", "other"]) (sc := defScope s_moved) (by decide +kernel)) (fun _ _ _ _ _ => dg_tup rfl (dgs_cons (dg_name (i := 7) sc_moved.nd) (dgs_cons (dg_name (i := 8) sc_moved.nd) dgs_nil))) (fun _ _ _ _ _ => dts_nil) (fun _ _ _ _ _ => (de_tup (da_cons (de_dget hr (de_v 3) (de_v 7)) (da_cons (de_dget hr (de_v 3) (de_v 8)) da_nil))))).e da_nil)))
      (dss_one (ds_ret (de_make c_Program___init__ (hr.mono (by decide)) (da_cons (de_callTy call_tuple_of sc_tuple (by rfl) m_tuple (by decide +kernel) (da_cons (dl_lc (own := [("module", 4)]) rfl sc_moved.nd (di_seq (de_prop c_Program_modules (hr.mono (by decide)) (de_v 0))) (blkOk_by (own := [("module", 4)]) (N := ["program", "moves", "homes", "places", "module", "path", "uses", "user", "used", "other"]) (sc := defScope s_moved) (by decide +kernel)) (fun _ _ _ _ _ => dg_name (i := 4) sc_moved.nd) (fun _ _ _ _ _ => dts_nil) (fun _ _ _ _ _ => (de_dget hr (de_v 3) (de_v 4)))).e da_nil)) (da_cons (de_v 6) da_nil))))))))))) ?h, F.kp, F.binds fun _ _ _ _ _ _ us hl => match us, hl with | [_, _], _ => rfl, m⟩
  case len =>
    intro g ds n Q E h; obtain ⟨_, _, _, _, rfl, _⟩ := h; rfl
  case h =>
    intro g ds n Q E h
    obtain ⟨ms, us, ks, mv, rfl, hm, hu, hv, e, q⟩ := h
    have hms := hm.sortm
    have hus := hu.sortm
    have sm : ∀ x, x ∈ sortS ms ↔ x ∈ ms := fun x => (sortS_perm ms).mem_iff
    have hml : (sortS ms).length ≤ 24 := hms.len
    have hul := hus.len
    have hvl : mv.length ≤ 24 := by
      have := nodup_sub_len hv.nd (l := mv.map (·.1)) (m := ms) fun x hx => by obtain ⟨p, hp, rfl⟩ := List.mem_map.mp hx; exact hv.mem p hp
      rw [List.length_map] at this
      have := hm.len
      omega
    have hpl : ∀ m ∈ ms, PathN 6 (plc mv m) := fun m h => plc_path hm hv h
    refine ⟨mv.map fun p => (p.1, D.str p.2), pd_mv mv, ?_, ?_⟩
    · rw [List.map_map]; exact hv.nd
    rw [hm_eq]
    simp only [List.set_cons_succ, List.set_cons_zero, setsR, startR, List.map_cons, List.map_nil, List.cons_append, List.nil_append, List.replicate_succ, List.replicate_zero, List.length_cons, List.length_nil, Nat.reduceAdd, Nat.reduceSub]
    refine ⟨rfl, ms, us, ks, rfl, ?_⟩
    refine dFor_list D.str (fun done rest r f => f = n ∧ ∃ a b c d h k : Sl, r = [.sh (prgD ms us ks), .sh (mvT mv), .sh (hmT mv), .od (done.map Sum.inr) (done.map fun m => D.str (plc mv m)), a, b, c, d, h, k]) (sortS ms) _ _ ?_ ?_ ⟨rfl, _, _, _, _, _, _, rfl⟩
    · rintro done m rest r f N hx ⟨rfl, a, b, c, d, h, k, rfl⟩ hN
      have hmm : m ∈ ms := (sm m).mp (by rw [hx]; simp)
      have hnd : m ∉ done := fun z => by
        have := hms.nd
        rw [hx] at this
        exact (List.nodup_append.mp this).2.2 _ z _ (by simp) rfl
      have hdl : done.length ≤ 24 := by have := congrArg List.length hx; rw [List.length_append] at this; omega
      refine ⟨_, rfl, _, _, rfl, .inr m, rfl, by rw [List.length_map]; exact L1 (by omega), ?_⟩
      rw [putKs_new hnd, putXs_new hnd]
      simp only [List.set_cons_succ, List.set_cons_zero, setsR, startR, List.map_cons, List.map_nil, List.cons_append, List.nil_append, List.replicate_succ, List.replicate_zero, List.length_cons, List.length_nil, Nat.reduceAdd, Nat.reduceSub]
      have e1 : (done.map fun m => D.str (plc mv m)) ++ [D.str m] = (done ++ [m]).map fun x => if x = m then D.str m else D.str (plc mv x) := by
        rw [List.map_append]
        congr 1
        · refine List.map_congr_left fun x hx' => ?_
          rw [if_neg (fun z : x = m => hnd (by rw [← z]; exact hx'))]
        · show [D.str m] = [if m = m then D.str m else D.str (plc mv m)]
          rw [if_pos rfl]
      have fin : ∀ a b c d h k : Sl, N [.sh (prgD ms us ks), .sh (mvT mv), .sh (hmT mv), .od ((done ++ [m]).map Sum.inr) ((done ++ [m]).map fun m => D.str (plc mv m)), a, b, c, d, h, k] f := fun a b c d h k => hN _ _ ⟨rfl, _, _, _, _, _, _, rfl⟩
      refine ⟨.inr m, rfl, ?_⟩
      show if decide ((Sum.inr m : Key) ∈ (mv.map (·.1)).map (Sum.inr : Str → Key)) = true then _ else _
      by_cases hin : m ∈ mv.map (·.1)
      · rw [decide_eq_true (mem_inr.mpr hin)]
        cases eh : hmO mv m with
        | none => exact absurd hin (hmO_none.mp eh)
        | some x =>
          have hx5 : PathN 5 x := hv.hm _ (hmO_some eh)
          have hxl := hx5.len
          have hln := (lastS_name (hm.path m hmm)).cdl
          have hmlen := (hm.path m hmm).len
          have lk : lookD ((mv.map (·.1)).map Sum.inr) (mv.map fun p => D.str p.2) (.inr m) = some (.str x) := by rw [look_hm, eh]; rfl
          refine iteT ⟨_, _, rfl, .inr m, _, rfl, lk, ?_, m, rfl, by omega, fun ns z hz => ⟨?_, .inr m, rfl, by rw [List.length_map, List.length_append]; exact L1 (by show done.length + 1 ≤ _; omega), ?_⟩⟩
          · show x.length + 1 ≤ lim; exact L1 (by omega)
          · have ez := lastS_eq hz
            rw [ez] at hln
            show (x ++ ".").length + z.length ≤ lim
            rw [app_len]
            have : z.length ≤ 8 := by rw [TL.len_tl]; exact hln
            exact L1 (by show x.length + 1 + z.length ≤ _; omega)
          have ez := lastS_eq hz
          have hmem : m ∈ done ++ [m] := by simp
          have pu := put_upd (l := done ++ [m]) (f := fun x => if x = m then D.str m else D.str (plc mv x)) (m := m) (v := .str ((x ++ ".") ++ z)) hmem
          rw [e1, pu.1, pu.2]
          have e2 : ((done ++ [m]).map fun y => if y = m then D.str ((x ++ ".") ++ z) else (if y = m then D.str m else D.str (plc mv y))) = (done ++ [m]).map fun m => D.str (plc mv m) := List.map_congr_left fun y _ => by
            by_cases ey : y = m
            · rw [if_pos ey, ey]
              unfold plc
              rw [eh, ← ez]
            · rw [if_neg ey, if_neg ey]
          rw [e2]
          exact fin _ _ _ _ _ _
      · rw [decide_eq_false (fun z => hin (mem_inr.mp z))]
        refine iteF (nxt (g := g) ?_)
        have ep : plc mv m = m := by unfold plc; rw [hmO_none.mpr hin]
        have := fin (.sh (.str m)) b c d h k
        rw [List.map_append (f := fun m => D.str (plc mv m))] at this
        rw [show ([m].map fun m => D.str (plc mv m)) = [D.str m] by rw [List.map_singleton, ep]] at this
        exact this
    · rintro r f ⟨rfl, a, b, c, d, h, k, rfl⟩
      have pmem : ∀ p ∈ mv, p.1 ∈ ms := hv.mem
      have S1 : ∀ u ∈ mvS mv, u.2 ∈ ms ∧ u.1 = plc mv u.2 := fun u hu' => by
        obtain ⟨h1, h2⟩ := mem_mvS.mp hu'
        obtain ⟨p, hp, e⟩ := List.mem_map.mp h1
        exact ⟨e ▸ hv.mem p hp, h2⟩
      have Sa : ∀ u ∈ (mv.map (·.1)).map fun m => (plc mv m, m), ascU u := fun u hu' => by
        obtain ⟨h1, h2⟩ := S1 u ((sortU_perm _).mem_iff.mpr hu')
        exact ⟨h2 ▸ (hpl _ h1).asc, (hm.path _ h1).asc⟩
      have lkp : ∀ m ∈ ms, lookD ((sortS ms).map Sum.inr) ((sortS ms).map fun m => D.str (plc mv m)) (.inr m) = some (.str (plc mv m)) := fun m h => look_map ((sm m).mpr h)
      refine ⟨mv.map (·.1), _, _, _, _, rfl, by rw [List.length_map]; exact L1 (by omega), noMA_str (fun p : Str × Str => p.2) mv, rfl, rfl, noMA_str (plc mv) _, ?_⟩
      have e0 : ((mv.map (·.1)).map fun m => pairD (plc mv m, m)) = ((mv.map (·.1)).map fun m => (plc mv m, m)).map pairD := by simp only [List.map_map]; rfl
      refine lk2_map (fun m => pairD (plc mv m, m)) (fun a m hmv f Q q => ?_) (by rw [e0]; exact noMA_pairs _) (fun hne => ?_) (fun z => z) ?_
      · obtain ⟨p, hp, rfl⟩ := List.mem_map.mp hmv
        exact ⟨.inr p.1, _, rfl, lkp _ (hv.mem p hp), show 2 ≤ lim by decide, q⟩
      · cases mv with
        | nil => exact absurd rfl hne
        | cons p mv =>
          have h1 := hmO_mem hv.nd (p := p) (by simp)
          refine ⟨.inr p.1, p.2, plc (p :: mv) p.1, by rw [look_hm, h1]; rfl, lkp _ (hv.mem p (by simp)), fun z => ?_⟩
          have : p.2.length = ((p.2 ++ ".") ++ lastS p.1).length := by
            have e : plc (p :: mv) p.1 = (p.2 ++ ".") ++ lastS p.1 := by unfold plc; rw [h1]
            rw [← e, ← z]
          rw [app_len, app_len] at this
          have e1 : (Str.ofString ".").length = 1 := rfl
          omega
      rw [e0]
      refine ⟨sorts_pairs (by rw [List.length_map, List.length_map]; exact L1 (by omega)) Sa, ?_⟩
      rw [sortD_pairs]
      let plT : D := .dct ((sortS ms).map Sum.inr) ((sortS ms).map fun m => D.str (plc mv m))
      refine dFor_list pairD (fun done rest r f1 => f1 = f ∧ ∃ a b c d h k : Sl, r = [.sh (prgD ms us ks), .sh (mvT mv), .sh (hmT mv), .sh plT, a, b, c, d, h, k] ∧ ∀ u ∈ done, clsh ms mv u.2 = false) (mvS mv) _ _ ?_ ?_ ⟨rfl, a, b, c, d, h, k, rfl, by simp⟩
      · rintro done u rest r f1 N hx ⟨rfl, a, b, c, d, h, k, rfl, hdn⟩ hN
        have hu1 : u ∈ mvS mv := by rw [hx]; simp
        obtain ⟨u2, u3⟩ := S1 u hu1
        obtain ⟨u4, _⟩ := mem_mvS.mp hu1
        have hp6 := hpl _ u2
        refine ⟨_, rfl, show 1 ≤ lim by decide, rfl, ms, us, ks, rfl, by rw [List.length_map]; exact L1 (by omega), ?_⟩
        refine lcT D.str D.str (fun o => decide (o ≠ u.2)) (plc mv) (sortS ms) [] _ (fun o ho => ⟨_, rfl, fun f Q h => ?_, fun _ f Q h => ⟨.inr o, _, rfl, lkp o ((sm o).mp ho), h⟩⟩) ?_
        · show Q (!decide (o = u.2)) f
          rw [← decide_not]
          exact h
        rw [List.nil_append]
        refine ⟨[u.1], ((sortS ms).filter fun o => decide (o ≠ u.2)).map (plc mv), .inr rfl, ⟨show 1 ≤ 1000 by decide, fun s hs => ?_⟩, ⟨?_, fun s hs => ?_⟩, ?_⟩
        · rw [List.mem_singleton.mp hs, u3]
          exact ⟨Nat.le_trans hp6.len (by decide), hp6.asc⟩
        · rw [List.length_map]
          exact Nat.le_trans (List.length_filter_le _ _) (by omega)
        · obtain ⟨o, ho, rfl⟩ := List.mem_map.mp hs
          have := hpl o ((sm o).mp (List.mem_filter.mp ho).1)
          exact ⟨Nat.le_trans this.len (by decide), this.asc⟩
        have ec : (((sortS ms).filter fun o => decide (o ≠ u.2)).map (plc mv)).any (ovl u.1) = clsh ms mv u.2 := by
          unfold clsh
          rw [Bool.eq_iff_iff, List.any_eq_true, List.any_eq_true]
          constructor
          · rintro ⟨p, hp, ho⟩
            obtain ⟨o, h1, rfl⟩ := List.mem_map.mp hp
            obtain ⟨h2, h3⟩ := List.mem_filter.mp h1
            exact ⟨o, (sm o).mp h2, by rw [h3, ← u3, ho]; rfl⟩
          · rintro ⟨o, h1, h2⟩
            obtain ⟨h3, h4⟩ := Bool.and_eq_true_iff.mp h2
            exact ⟨plc mv o, List.mem_map.mpr ⟨o, List.mem_filter.mpr ⟨(sm o).mpr h1, h3⟩, rfl⟩, by rw [u3]; exact h4⟩
        have ef : firstOv [u.1] (((sortS ms).filter fun o => decide (o ≠ u.2)).map (plc mv)) = if clsh ms mv u.2 = true then .str u.1 else .none := by
          unfold firstOv
          rw [List.find?_cons, ec]
          cases clsh ms mv u.2 <;> rfl
        rw [ef]
        cases hc : clsh ms mv u.2 with
        | false =>
          exact hN _ _ ⟨rfl, _, _, _, _, _, _, rfl, fun v hv' => (List.mem_append.mp hv').elim (hdn v) fun e => by rw [List.mem_singleton.mp e]; exact hc⟩
        | true =>
          rw [u3]
          refine e (plc mv u.2) ⟨⟨u.2, u4, hc, rfl⟩, fun q' hq' => ?_⟩
          obtain ⟨m', h1, h2, rfl⟩ := hq'
          have hm' : (plc mv m', m') ∈ mvS mv := mem_mvS.mpr ⟨h1, rfl⟩
          have hso := sortU_sorted ((mv.map (·.1)).map fun m => (plc mv m, m))
          have hso : (mvS mv).Pairwise fun a b => leU a b = true := hso
          rw [hx] at hm' hso
          rcases List.mem_append.mp hm' with z | z
          · have := hdn _ z
            rw [h2] at this
            cases this
          · rcases List.mem_cons.mp z with z | z
            · rw [← u3, ← z]
              exact leS_refl _
            · rw [List.pairwise_append] at hso
              have hl := (List.pairwise_cons.mp hso.2.1).1 _ z
              rcases (leU_iff _ _).mp hl with ⟨e1, _⟩ | ⟨_, e2⟩
              · rw [← u3, e1]; exact leS_refl _
              · rw [← u3]; exact e2
      · rintro r f1 ⟨rfl, a, b, c, d, h, k, rfl, hdn⟩
        have hno : ∀ p, ¬ BadP ms mv p := fun p ⟨m', h1, h2, _⟩ => by
          have := hdn (plc mv m', m') (mem_mvS.mpr ⟨h1, rfl⟩)
          rw [h2] at this
          cases this
        refine ⟨rfl, ms, us, ks, rfl, by rw [List.length_map]; exact L1 (by omega), ?_⟩
        refine lcM pairD (fun u => pairD u) (carU mv) (sortU us) _ (fun u hu' => ⟨_, rfl, fun f Q h => ?_⟩) ?_
        · obtain ⟨h1, h2, _⟩ := hus.mem u hu'
          exact ⟨.inr u.1, _, rfl, lkp _ ((sm _).mp h1), .inr u.2, _, rfl, lkp _ ((sm _).mp h2), show 2 ≤ lim by decide, h⟩
        refine ⟨flat_us _, rfl, ms, us, ks, rfl, by rw [List.length_map]; exact L1 (by omega), ?_⟩
        refine lcM D.str D.str (plc mv) (sortS ms) _ (fun m hm' => ⟨_, rfl, fun f Q h => ⟨.inr m, _, rfl, lkp _ ((sm _).mp hm'), h⟩⟩) ?_
        have hno' : ∀ p, ¬ BadP (sortS ms) mv p := fun p hb => hno p ((BadP.perm sm).mp hb)
        have hv' : MvOk (sortS ms) mv := ⟨hv.nd, fun p hp => (sm _).mpr (hv.mem p hp), hv.hm⟩
        exact ⟨_, _, rfl, plc_pvm hms hv' hno', car_pvu hms hus hno', fun ks' hk => q hno ks' hk⟩
/-! Program.__eq__ -/
theorem sc_Program___eq__ : FnScope ["self", "other"] ["self", "other"] (defScope s_Program___eq__) := ⟨rfl, rfl, rfl, by decide +kernel, rfl, by decide +kernel, by decide +kernel⟩
def Sp_Program___eq__ : DSp := fun _ ds f Q => ∃ (ms : List Str) (us : List Us) (ks : List Str) (y : D), ds = [prgD ms us ks, y] ∧ (∀ s ∈ ms, asc s) ∧ (∀ u ∈ us, ascU u) ∧
  ((isC "Program" y = some false ∧ Q (.bool false) f) ∨ ∃ ms2 us2 ks2, y = prgD ms2 us2 ks2 ∧ (∀ s ∈ ms2, asc s) ∧ (∀ u ∈ us2, ascU u) ∧ Q (.bool (decide (sortS ms = sortS ms2) && decide (sortU us = sortU us2))) f)
set_option maxHeartbeats 2000000 in
theorem ok_Program___eq__ (m_isinstance : mg "isinstance" = none) {C_Program : Addr} (k_Program : KC K "Program" C_Program) (n_Program_links : NoAttr K C_Program "links") (n_Program_places : NoAttr K C_Program "places") (i_Program : KI K "Program" C_Program) (mg_Program : mg "Program" = some (.ref C_Program)) (d : ∃ f fd, Fun K "__eq__" "Program.__eq__" s_Program___eq__ f fd ∧ Meth K C_Program "__eq__" f) : CalM P w K mg base 1 "Program" "__eq__" ["self", "other"] Sp_Program___eq__ := by
  obtain ⟨f, fd, F, M⟩ := d
  refine ⟨C_Program, f, fd, k_Program, M, dfn (k := 0) (S := Sp_Program___eq__) F sc_Program___eq__ ?len (fun cdv A outer s H E hr => (dss_one (ds_ret (de_and (de_isC i_Program mg_Program m_isinstance (de_v 1)) (de_and (de_eq hr.units (de_fld k_Program n_Program_places (de_v 0)) (de_fld k_Program n_Program_places (de_v 1))) (de_one (de_eq hr.units (de_fld k_Program n_Program_links (de_v 0)) (de_fld k_Program n_Program_links (de_v 1))))))))) ?h, F.binds fun _ _ _ _ _ _ us hl => match us, hl with | [_, _], _ => rfl⟩
  case len =>
    intro g ds n Q h; obtain ⟨_, _, _, _, rfl, _⟩ := h; rfl
  case h =>
    intro g ds n Q h
    obtain ⟨ms, us, ks, y, rfl, h1, h2, hq⟩ := h
    rcases hq with ⟨hc, q⟩ | ⟨ms2, us2, ks2, rfl, h3, h4, q⟩
    · exact ⟨false, hc, q⟩
    · refine ⟨true, rfl, rfl, _, rfl, rfl, _, rfl, ?_⟩
      refine oEq_tup (fun s hs => h1 s (mem_sortS.mp hs)) (fun s hs => h3 s (mem_sortS.mp hs)) ?_
      show if decide (sortS ms = sortS ms2) = true then _ else _
      cases e : decide (sortS ms = sortS ms2) with
      | true =>
        rw [e] at q
        refine iteT ⟨rfl, _, rfl, rfl, _, rfl, ?_⟩
        exact oEq_pairsT (fun s hs => h2 s (mem_sortU.mp hs)) (fun s hs => h4 s (mem_sortU.mp hs)) q
      | false => rw [e] at q; exact q
theorem sc__law_stream : FnScope ["_law_script", "_law_units", "_law_unit"] ["_law_script"] (defScope s__law_stream) := ⟨rfl, rfl, rfl, by decide +kernel, rfl, by decide +kernel, by decide +kernel⟩
theorem ok__law_stream (d : Df K mg "_law_stream" s__law_stream) (m_abs : mg "abs" = none) : CalDn "_law_stream" P w K mg base := by
  obtain ⟨f, fd, F, mm⟩ := d
  refine ⟨f, fd, ?_, F.kp, F.binds fun _ _ _ _ _ _ us hl => match us, hl with | [_], _ => rfl, mm⟩
  refine F.ok sc__law_stream (fun vs H Q E h => ?_) (fun cdv A outer s H vs Q E hr h => ?_)
  · obtain ⟨a, ns, rfl, _⟩ := h
    rfl
  · obtain ⟨a, ns, rfl, hS, hlen, q⟩ := h
    refine ⟨_, pss_cons (ps_setLc (i := 1) (own := [("_law_unit", 2)]) (g := gName 2) (tt := tYes) rfl sc__law_stream.nd rfl rfl (sw_true rfl rfl rfl (by decide +kernel)) (pi_list (pv 0)) (blkOk_by (N := ["_law_script", "_law_units", "_law_unit"]) (sc := defScope s__law_stream) (by decide +kernel))
        (fun _ _ _ _ _ => pg_name (i := 2) sc__law_stream.nd rfl (Or.inl rfl)) (fun _ _ _ _ _ => pts_nil) (fun _ _ _ _ _ => pe_callB call_abs (by rfl) m_abs (by decide +kernel) (pa_cons (pv 2) pa_nil)))
      (pss_one (ps_ret (pe_lst (pa_cons (pe_lc (own := [("_law_unit", 2)]) (g := gName 2) rfl sc__law_stream.nd (pi_list (pv 1)) (blkOk_by (N := ["_law_script", "_law_units", "_law_unit"]) (sc := defScope s__law_stream) (by decide +kernel))
          (fun _ _ _ _ _ => pg_name (i := 2) sc__law_stream.nd rfl (Or.inl rfl)) (fun _ _ _ _ _ => pts_one (pt_cmpR op_ge (pv 2) (pe_op op_pow pe_int pe_int) (nomark _))) (fun _ _ _ _ _ => pv 2))
        (pa_cons (pe_ifExp (pt_cmpR (op_neD hr.units) (pv 1) (pe_lst pa_nil) (nomark _)) (pv 1) (pe_lst (pa_cons pe_int pa_nil)))
        (pa_cons pe_int pa_nil)))))), ?_⟩
    -- cells
    refine ⟨.ref a, rfl, a, rfl, ⟨_, hS⟩, fun D hD => ?_⟩
    have ab : ∀ i : Int, (if i < 0 then -i else i) = (i.natAbs : Int) := fun i => by split <;> omega
    refine lc_list (K := K) (a := a) (xs := ns.map V.int) (fun i H2 => Same H H2 ∧ H2 D = some (.lst (((ns.take i).map fun n => (n.natAbs : Int)).map V.int))) ⟨same_upd hD, upd_same⟩ (fun i H2 _ h2 => h2.1.seq hS) (fun i x H2 hx h2 => ?_) (fun H1 h1 => ?_)
    · obtain ⟨s2, e2⟩ := h2
      have hil : i < ns.length := by
        have := (List.getElem?_eq_some_iff.mp hx).1
        simpa using this
      rw [List.getElem?_map, List.getElem?_eq_getElem hil] at hx
      cases hx
      refine ⟨rfl, ?_⟩
      unfold tYes
      refine iteT ?_
      refine ⟨.int ns[i], rfl, ns[i], rfl, _, e2, ?_, ?_, ?_⟩
      · rw [List.length_map, List.length_map, List.length_take]
        exact lim_lt (Nat.le_trans (Nat.min_le_left _ _) (Nat.le_trans (Nat.le_of_lt hil) (Nat.le_trans hlen (by decide))))
      · intro b o e
        rw [upd_ne (ne_of_none e hD)]
        exact s2 b o e
      · rw [upd_same, ab, List.take_add_one, List.getElem?_eq_getElem hil, List.map_append, List.map_append]
        rfl
    obtain ⟨s1, e1⟩ := h1
    rw [List.length_map, List.take_length] at e1
    generalize hcs : (ns.map fun n => (n.natAbs : Int)) = cs at e1
    have hcl : cs.length = ns.length := by rw [← hcs, List.length_map]
    have hcp : ∀ x ∈ cs, 0 ≤ x := fun x hx => by
      rw [← hcs] at hx
      obtain ⟨n, _, rfl⟩ := List.mem_map.mp hx
      exact Int.natCast_nonneg _
    -- the great ones
    refine ⟨.ref D, rfl, D, rfl, ⟨_, SqL.of e1⟩, fun B hB => ?_⟩
    have nDB : D ≠ B := ne_of_none e1 hB
    refine lc_list (K := K) (a := D) (xs := cs.map V.int) (fun i H2 => Same H1 H2 ∧ ∃ zs : List Int, H2 B = some (.lst (zs.map V.int)) ∧ zs.length ≤ i ∧ ∀ z ∈ zs, 0 ≤ z) ⟨same_upd hB, [], upd_same, Nat.le_refl _, by simp⟩ (fun i H2 _ h2 => SqL.of (h2.1 _ _ e1)) (fun i x H2 hx h2 => ?_) (fun H2 h2 => ?_)
    · obtain ⟨s2, zs, e2, l2, p2⟩ := h2
      have hil : i < cs.length := by
        have := (List.getElem?_eq_some_iff.mp hx).1
        simpa using this
      rw [List.getElem?_map, List.getElem?_eq_getElem hil] at hx
      cases hx
      refine ⟨rfl, .int cs[i], rfl, 10, 18, rfl, rfl, ⟨by decide, by decide, by decide⟩, cs[i], _, rfl, rfl, _, rfl, ite2 (fun _ => ?_) (fun _ => ?_)⟩
      · refine ⟨.int cs[i], rfl, zs.map V.int, e2, ?_, fun b o e => ?_, zs ++ [cs[i]], ?_, ?_, ?_⟩
        · rw [List.length_map]
          exact lim_lt (Nat.le_trans l2 (Nat.le_trans (Nat.le_of_lt hil) (by rw [hcl]; exact Nat.le_trans hlen (by decide))))
        · rw [upd_ne (ne_of_none e hB)]
          exact s2 b o e
        · rw [upd_same, List.map_append]; rfl
        · simp; omega
        · intro z hz
          rcases List.mem_append.mp hz with h | h
          · exact p2 z h
          · rw [List.mem_singleton.mp h]; exact hcp _ (List.getElem_mem hil)
      · exact ⟨s2, zs, e2, Nat.le_trans l2 (Nat.le_succ i), p2⟩
    obtain ⟨s2, zs, e2, l2, p2⟩ := h2
    have f1 : H2 D = some (.lst (cs.map V.int)) := s2 _ _ e1
    -- units, or [53]
    have hDn : H D = none := hD
    have s02 : Same H H2 := s1.trans s2
    have hBn : H B = none := s1.free hB
    have tail : ∀ (H5 : Hp) (C : Addr) (ys : List Int) (p : Addr), Same H2 H5 → H C = none → B ≠ C → H5 C = some (.lst (ys.map V.int)) → (∀ y ∈ ys, 0 ≤ y) → 0 < ys.length → H5 p = none → Q (.ref p) (upd H5 p (.lst [V.ref B, V.ref C, V.int 0])) := by
      intro H5 C ys p s5 hC nBC e5 py ly hp
      have gB := s5 _ _ e2
      have nBp : B ≠ p := ne_of_none gB hp
      have nCp : C ≠ p := ne_of_none e5 hp
      have sp := same_upd (o := .lst [V.ref B, V.ref C, V.int 0]) hp
      refine q _ ⟨p, B, C, []⟩ ((s02.trans s5).trans sp) ((s02.trans s5).free hp) hBn hC ⟨fun e => nBp e.symm, fun e => nCp e.symm, nBC, 0, zs, ys, upd_same, ?_, ?_, p2, py, ly, by decide, by decide⟩
      · rw [upd_ne nBp]; exact gB
      · rw [upd_ne nCp]; exact e5
    refine ⟨.ref D, rfl, Nat.zero_le _, fun T hT => ?_⟩
    have nDT : D ≠ T := ne_of_none f1 hT
    have sT : Same H2 (upd H2 T (.lst [])) := same_upd hT
    refine ⟨.list (cs.map PyData.int), .list (([] : List Int).map PyData.int), dp_ints (by rw [upd_ne nDT]; exact f1), dp_ints (l := []) upd_same, shaped_ints _, shaped_ints [], ?_⟩
    have f2 : upd H2 T (.lst []) D = some (.lst (cs.map V.int)) := sT _ _ f1
    generalize upd H2 T (.lst []) = H4 at sT f2 ⊢
    cases cs with
    | nil =>
      refine ⟨false, rfl, ?_⟩
      refine iteF ?_
      refine ⟨by show 1 ≤ sizeLine; decide, fun C hC => ?_⟩
      refine ⟨by show 3 ≤ sizeLine; decide, fun p hp => ?_⟩
      exact tail _ C [53] p (sT.trans (same_upd hC)) ((s02.trans sT).free hC) (ne_of_none (sT _ _ e2) hC) upd_same (by simp) (by simp) hp
    | cons c cs =>
      refine ⟨true, rfl, ?_⟩
      refine iteT ?_
      refine ⟨.ref D, rfl, ?_⟩
      refine ⟨by show 3 ≤ sizeLine; decide, fun p hp => ?_⟩
      exact tail _ D (c :: cs) p sT hDn nDB.symm f2 hcp (by simp) hp
/-! law -/
theorem sc_law : FnScope ["_law_script", "_law_stream_here", "_law_turn", "_law_names_here", "_law_areas_here", "_law_modules_here", "_law_uses_here", "_law_homes_here", "_law_moves", "_law_module", "_law_program", "_law_places_here", "_law_carried_here", "_law_due", "_law_told", "_law_move", "_law_back", "_law_above", "_law_k", "_law_one"] ["_law_script"] (defScope s_law) := ⟨rfl, rfl, rfl, by decide +kernel, rfl, by decide +kernel, by decide +kernel⟩
set_option maxHeartbeats 4000000 in
theorem ok_law {f : Addr} {fd : FuncData} (F : Fun K "law" "law" s_law f fd) (c__law_deck : CalDn "_law_stream" P w K mg base) (m_range : mg "range" = none) (m_sorted : mg "sorted" = none) (m_tuple : mg "tuple" = none) (m_len : mg "len" = none) (m_list : mg "list" = none) {C_Program : Addr} (k_Program : KC K "Program" C_Program) (i_Program : KI K "Program" C_Program) (c__law_shown : Cal P w K mg base 3 "_law_shown" ["_law_program"] Sp__law_shown) (c__law_parts : Cal P w K mg base 1 "_law_parts" ["_law_modules_here"] Sp__law_parts) (c_moved : CalX P w K mg base 8 "moved" ["program", "moves"] Sp_moved) (c_Program___eq__ : CalM P w K mg base 1 "Program" "__eq__" ["self", "other"] Sp_Program___eq__) (c_Program___init__ : Mkr P w K mg base 6 "Program" ["self", "modules", "uses"] Sp_Program___init__) (c__law_has_right : Cal P w K mg base 3 "_law_has_right" ["_law_program", "_law_modules_here", "_law_asked"] Sp__law_has_right) (c__law_carried : Cal P w K mg base 3 "_law_carried" ["_law_modules_here", "_law_uses_here", "_law_moves"] Sp__law_carried) (c__law_places : Cal P w K mg base 2 "_law_places" ["_law_modules_here", "_law_moves"] Sp__law_places) (c__law_shuffled : Cal P w K mg base 2 "_law_shuffled" ["_law_stream_here", "_law_items"] Sp__law_shuffled) (c__law_draw : Cal P w K mg base 1 "_law_draw" ["_law_stream_here", "_law_many"] Sp__law_draw) (c__law_pick : Cal P w K mg base 2 "_law_pick" ["_law_stream_here", "_law_items"] Sp__law_pick) (c__law_homes : Cal P w K mg base 3 "_law_homes" ["_law_stream_here", "_law_areas_here", "_law_modules_here", "_law_names_here"] Sp__law_homes) (c__law_uses : Cal P w K mg base 3 "_law_uses" ["_law_stream_here", "_law_modules_here", "_law_bound"] Sp__law_uses) (c__law_modules : Cal P w K mg base 3 "_law_modules" ["_law_stream_here", "_law_areas_here", "_law_names_here"] Sp__law_modules) (c__law_areas : Cal P w K mg base 3 "_law_areas" ["_law_stream_here", "_law_heads", "_law_names_here", "_law_deep"] Sp__law_areas) (c__law_names : Cal P w K mg base 3 "_law_names" ["_law_stream_here", "_law_many"] Sp__law_names) : FnOk P w K mg base CX0 9 f fd ["_law_script"] (spLaw K) := by
  obtain ⟨fD, fdD, GD, kD, bD, mD⟩ := c__law_deck
  refine dlaw F sc_law (by decide) rfl (fun cdv A outer s H E hr => ⟨ps_set (i := 1) sc_law.nd rfl (.inl rfl) (pe_call GD (hr.mono (by decide)) (by rfl) mD kD bD .nil pass0 (pa_cons (pv 0) pa_nil)), (dss_cons (ds_for [] PassesOwn.never (di_range1 m_range (da_cons de_int da_nil)) (dg_name (i := 2) sc_law.nd) (dss_cons (ds_set false (i := 3) sc_law.nd (de_callC c__law_names (hr.mono (by decide)) (da_cons (de_v 1) (da_cons de_int da_nil))))
      (dss_cons (ds_set false (i := 4) sc_law.nd (de_callC c__law_areas (hr.mono (by decide)) (da_cons (de_v 1) (da_cons (de_sl (de_v 3) do_none (do_some de_int)) (da_cons (de_sl (de_v 3) (do_some de_int) (do_some (de_add de_int (de_callC c__law_draw (hr.mono (by decide)) (da_cons (de_v 1) (da_cons de_int da_nil)))))) (da_cons de_int da_nil))))))
      (dss_cons (ds_set false (i := 5) sc_law.nd (de_callC c__law_modules (hr.mono (by decide)) (da_cons (de_v 1) (da_cons (de_v 4) (da_cons (de_sl (de_v 3) (do_some de_int) (do_some (de_add de_int (de_callC c__law_draw (hr.mono (by decide)) (da_cons (de_v 1) (da_cons de_int da_nil)))))) da_nil)))))
      (dss_cons (ds_par false (i := 6) (j := 7) sc_law.nd (de_callC c__law_uses (hr.mono (by decide)) (da_cons (de_v 1) (da_cons (de_v 5) (da_cons de_int da_nil)))) (de_callC c__law_homes (hr.mono (by decide)) (da_cons (de_v 1) (da_cons (de_v 4) (da_cons (de_v 5) (da_cons (de_sl (de_v 3) (do_some de_int) do_none) da_nil))))))
      (dss_cons (ds_setL false (i := 8) sc_law.nd (dl_lst da_nil))
      (dss_cons (ds_for [] PassesOwn.never (di_seq (de_sl (de_callC c__law_shuffled (hr.mono (by decide)) (da_cons (de_v 1) (da_cons (de_v 5) da_nil))) do_none (do_some (de_callC c__law_draw (hr.mono (by decide)) (da_cons (de_v 1) (da_cons (de_add (de_len m_len (da_cons (de_v 5) da_nil)) de_int) da_nil)))))) (dg_name (i := 9) sc_law.nd) (dss_cons (ds_set false (i := 17) sc_law.nd (de_ix (de_rpart (de_v 9) de_str) de_int))
      (dss_one (ds_app false (i := 8) (de_tup (da_cons (de_v 9) (da_cons (de_callC c__law_pick (hr.mono (by decide)) (da_cons (de_v 1) (da_cons (de_add (de_callTy call_list_of sc_list (by rfl) m_list (by decide +kernel) (da_cons (de_v 7) da_nil)) (dl_lst (da_cons (de_ifExp (dp_ne hr.units (de_v 17) de_str) (de_v 17) (de_ix (de_v 7) de_int)) da_nil)).e) da_nil))) da_nil)))))))
      (dss_cons (ds_set false (i := 10) sc_law.nd (de_make c_Program___init__ (hr.mono (by decide)) (da_cons (de_callTy call_tuple_of sc_tuple (by rfl) m_tuple (by decide +kernel) (da_cons (de_v 5) da_nil)) (da_cons (de_callTy call_tuple_of sc_tuple (by rfl) m_tuple (by decide +kernel) (da_cons (de_v 6) da_nil)) da_nil))))
      (dss_cons (ds_frz [8] (ds_asg false (de_tup (da_cons (de_callC c__law_places (hr.mono (by decide)) (da_cons (de_v 5) (da_cons (de_v 8) da_nil))) (da_cons (de_callC c__law_carried (hr.mono (by decide)) (da_cons (de_v 5) (da_cons (de_v 6) (da_cons (de_v 8) da_nil)))) da_nil))) (dg_tup rfl (dgs_cons (dg_name (i := 11) sc_law.nd) (dgs_cons (dg_name (i := 12) sc_law.nd) dgs_nil)))))
      (dss_cons (ds_set false (i := 13) sc_law.nd (dl_lst (da_cons (de_callTy call_tuple_of sc_tuple (by rfl) m_tuple (by decide +kernel) (da_cons (de_sorted hr m_sorted (da_cons (de_v 11) da_nil)) da_nil)) (da_cons (de_callTy call_tuple_of sc_tuple (by rfl) m_tuple (by decide +kernel) (da_cons (de_sorted hr m_sorted (da_cons (de_v 12) da_nil)) da_nil)) (da_cons (de_callC c__law_parts (hr.mono (by decide)) (da_cons (de_v 11) da_nil)) da_nil)))).e)
      (dss_cons (ds_setL false (i := 14) sc_law.nd (dl_lst (da_cons (de_callC (calX_pure c_moved) (hr.mono (by decide)) (da_cons (de_v 10) (da_cons (de_callTy call_tupleF sc_tupF (by rfl) m_tuple (by decide +kernel) (da_cons (de_v 8) da_nil)) da_nil))) (da_cons (de_callC (calX_pure c_moved) (hr.mono (by decide)) (da_cons (de_v 10) (da_cons (de_callTy call_tupleF sc_tupF (by rfl) m_tuple (by decide +kernel) (da_cons (dl_rev (de_v 8)).e da_nil)) da_nil))) (da_cons (de_v 10) da_nil)))))
      (dss_cons (ds_for [8] PassesOwn.never (di_seq (de_v 8)) (dg_name (i := 15) sc_law.nd) (dss_one (ds_setIxN (i := 14) de_int (de_callC (calX_pure c_moved) (hr.mono (by decide)) (da_cons (de_ix (de_v 14) de_int) (da_cons (de_tupF (da_cons (de_v 15) da_nil)) da_nil))))))
      (dss_cons (ds_if (dp_ne hr.units (dl_lc (own := [("_law_one", 19)]) rfl sc_law.nd (di_seq (de_v 14)) (blkOk_by (own := [("_law_one", 19)]) (N := ["_law_script", "_law_stream_here", "_law_turn", "_law_names_here", "_law_areas_here", "_law_modules_here", "_law_uses_here", "_law_homes_here", "_law_moves", "_law_module", "_law_program", "_law_places_here", "_law_carried_here", "_law_due", "_law_told", "_law_move", "_law_back", "_law_above", "_law_k", "_law_one"]) (sc := defScope s_law) (by decide +kernel)) (fun _ _ _ _ _ => dg_name (i := 19) sc_law.nd) (fun _ _ _ _ _ => dts_nil) (fun _ _ _ _ _ => (de_callC c__law_shown (hr.mono (by decide)) (da_cons (de_v 19) da_nil)))).e (dl_lst (da_cons (de_v 13) (da_cons (de_v 13) (da_cons (de_v 13) da_nil)))).e) (dss_one (ds_ret de_bl)) dss_nil)
      (dss_cons (ds_if (dp_not (dp_val (de_callC c__law_has_right (hr.mono (by decide)) (da_cons (de_ix (de_v 14) de_int) (da_cons (de_v 11) (da_cons (de_add (de_callTy call_list_of sc_list (by rfl) m_list (by decide +kernel) (da_cons (de_callC c__law_parts (hr.mono (by decide)) (da_cons (de_add (de_v 5) (de_callTy call_list_of sc_list (by rfl) m_list (by decide +kernel) (da_cons (de_v 7) da_nil))) da_nil)) da_nil)) (dl_lst (da_cons (de_add (de_ix (de_v 7) de_int) de_str) da_nil)).e) da_nil)))))) (dss_one (ds_ret de_bl)) dss_nil)
      (dss_cons (ds_if (dp_notB (de_eqO i_Program c_Program___eq__ (hr.mono (by decide)) (de_ix (de_v 14) de_int) (de_make c_Program___init__ (hr.mono (by decide)) (da_cons (de_callTy call_tuple_of sc_tuple (by rfl) m_tuple (by decide +kernel) (da_cons (de_v 11) da_nil)) (da_cons (de_callTy call_tuple_of sc_tuple (by rfl) m_tuple (by decide +kernel) (da_cons (de_v 12) da_nil)) da_nil)))) de_bl) (dss_one (ds_ret de_bl)) dss_nil)
      (dss_cons (ds_setLc (i := 16) (own := [("_law_k", 18)]) sc_law.nd (di_range1 m_range (da_cons (de_len m_len (da_cons (de_v 5) da_nil)) da_nil)) (blkOk_by (own := [("_law_k", 18)]) (N := ["_law_script", "_law_stream_here", "_law_turn", "_law_names_here", "_law_areas_here", "_law_modules_here", "_law_uses_here", "_law_homes_here", "_law_moves", "_law_module", "_law_program", "_law_places_here", "_law_carried_here", "_law_due", "_law_told", "_law_move", "_law_back", "_law_above", "_law_k", "_law_one"]) (sc := defScope s_law) (by decide +kernel)) (fun _ _ _ _ _ => dg_name (i := 18) sc_law.nd) (fun _ _ _ _ _ => dts_one (dp_ne hr.units (de_ix (de_v 11) (de_v 18)) (de_ix (de_v 5) (de_v 18)))) (fun _ _ _ _ _ => (de_tup (da_cons (de_ix (de_v 11) (de_v 18)) (da_cons (de_ix (de_rpart (de_ix (de_v 5) (de_v 18)) de_str) de_int) da_nil)))) (fun _ _ _ h => snd_set (m := false) (i := 16) h.e))
      (dss_cons (ds_if (DW.p (dw_and (dp_eqE hr.units (dl_lc (own := [("_law_move", 15)]) rfl sc_law.nd (di_seq (de_v 16)) (blkOk_by (own := [("_law_move", 15)]) (N := ["_law_script", "_law_stream_here", "_law_turn", "_law_names_here", "_law_areas_here", "_law_modules_here", "_law_uses_here", "_law_homes_here", "_law_moves", "_law_module", "_law_program", "_law_places_here", "_law_carried_here", "_law_due", "_law_told", "_law_move", "_law_back", "_law_above", "_law_k", "_law_one"]) (sc := defScope s_law) (by decide +kernel)) (fun _ _ _ _ _ => dg_name (i := 15) sc_law.nd) (fun _ _ _ _ _ => dts_one (dp_eq hr.units (de_ix (de_v 15) de_int) de_str)) (fun _ _ _ _ _ => (de_v 15))).e (dl_lst da_nil).e) (dw_and1 (dp_notB (de_eqO i_Program c_Program___eq__ (hr.mono (by decide)) (de_callC (calX_pure c_moved) (hr.mono (by decide)) (da_cons (de_ix (de_v 14) de_int) (da_cons (de_callTy call_tupleF sc_tupF (by rfl) m_tuple (by decide +kernel) (da_cons (de_v 16) da_nil)) da_nil))) (de_v 10)) de_bl)))) (dss_one (ds_ret de_bl)) dss_nil)
      (dss_one (ds_if (dp_ne hr.units (de_callC c__law_shown (hr.mono (by decide)) (da_cons (de_v 10) da_nil)) (dl_lst (da_cons (de_callTy call_tuple_of sc_tuple (by rfl) m_tuple (by decide +kernel) (da_cons (de_sorted hr m_sorted (da_cons (de_v 5) da_nil)) da_nil)) (da_cons (de_callTy call_tuple_of sc_tuple (by rfl) m_tuple (by decide +kernel) (da_cons (de_sorted hr m_sorted (da_cons (de_v 6) da_nil)) da_nil)) (da_cons (de_callC c__law_parts (hr.mono (by decide)) (da_cons (de_v 5) da_nil)) da_nil)))).e) (dss_one (ds_ret de_bl)) dss_nil)))))))))))))))))))
      (dss_one (ds_ret de_bl)))⟩) ?h
  case h =>
    intro dk
    refine ⟨by decide, by decide, ?_⟩
    refine dFor_range (fun i r f => ∃ a2 a3 a4 a5 a6 a7 a8 a9 a10 a11 a12 a13 a14 a15 a16 a17 a18 a19 : Sl, r = [.no, .sh (.any (.ref dk.a)), a2, a3, a4, a5, a6, a7, a8, a9, a10, a11, a12, a13, a14, a15, a16, a17, a18, a19] ∧ 1000000000000 ≤ f + 10000 * i) 0 _ _ _ ?_ (fun r f _ => rfl) ⟨_, _, _, _, _, _, _, _, _, _, _, _, _, _, _, _, _, _, rfl, by omega⟩
    rintro i r f N hi ⟨a2, a3, a4, a5, a6, a7, a8, a9, a10, a11, a12, a13, a14, a15, a16, a17, a18, a19, rfl, hf⟩ hN
    have hi : i < 3 := hi
    refine ⟨_, rfl, dk, 24, rfl, rfl, by decide, by omega, fun nl f1 nlen hnm hnd hf1 => ?_⟩
    have hnl : nl.length = 24 := nlen
    obtain ⟨f2, rfl⟩ : ∃ f2, f1 = f2 + 1 := ⟨f1 - 1, by omega⟩
    refine ⟨dk, 6, f2, rfl, rfl, by decide, by decide, rfl, fun c hc0 hc1 => ?_⟩
    obtain ⟨c, rfl⟩ : ∃ c' : Nat, c = c' := ⟨c.toNat, by omega⟩
    have e3 : cutD (nl.map D.str) (some 2) (some (3 + (c : Int))) = ((nl.drop 2).take (c + 1)).map D.str := by
      have := cutD_mid nl 2 (3 + c) (by omega) (by omega)
      rw [show 3 + c - 2 = c + 1 by omega] at this
      exact this
    have e4 : cutD (nl.map D.str) none (some 2) = (nl.take 2).map D.str := cutD_takeS nl 2
    refine ⟨dk, nl.take 2, (nl.drop 2).take (c + 1), 3, rfl, ?_, by rw [List.length_take]; omega, by rw [List.length_take]; omega, fun x h => hnm x (List.mem_of_mem_take h), by rw [List.length_take]; omega, fun x h => hnm x (List.mem_of_mem_drop (List.mem_of_mem_take h)), by decide, by rw [List.length_take]; omega, fun zs f3 hzs hf3 => ?_⟩
    · show [D.any (V.ref dk.a), D.lst (cutD (nl.map D.str) none (some 2)), D.lst (cutD (nl.map D.str) (some 2) (some (3 + (c : Int)))), D.int 3] = _
      rw [e3, e4]
      rfl
    have hzl : zs.length = c + 1 := by
      have := congrArg List.length hzs.n
      rw [List.length_map, List.length_take, List.length_drop] at this
      omega
    have hf3 : f2 ≤ f3 + 24 := by rw [List.length_take] at hf3; omega
    simp only [List.set_cons_succ, List.set_cons_zero, setsR, startR, List.map_cons, List.map_nil, List.cons_append, List.nil_append, List.replicate_succ, List.replicate_zero, List.length_cons, List.length_nil, Nat.reduceAdd, Nat.reduceSub]
    obtain ⟨f5, rfl⟩ : ∃ f5, f3 = f5 + 1 := ⟨f3 - 1, by omega⟩
    refine ⟨dk, 13, f5, rfl, rfl, by decide, by decide, rfl, fun d hd0 hd1 => ?_⟩
    obtain ⟨d, rfl⟩ : ∃ d' : Nat, d = d' := ⟨d.toNat, by omega⟩
    have hN2 : Nms (nl.take 2) ((nl.drop 2).take (c + 1)) ((nl.drop 8).take d) := nms8 hnm hnd (c + 1) d (by omega)
    have e5 : cutD (nl.map D.str) (some 8) (some (8 + (d : Int))) = ((nl.drop 8).take d).map D.str := by
      have := cutD_mid nl 8 (8 + d) (by omega) (by omega)
      rw [show 8 + d - 8 = d by omega] at this
      exact this
    have hll : ((nl.drop 8).take d).length ≤ 12 := by rw [List.length_take]; omega
    have hp : PVm (zs.map arS) := ars_pvm hzs (by decide) hN2 (by omega)
    refine ⟨dk, nl.take 2, (nl.drop 2).take (c + 1), (nl.drop 8).take d, 3, zs, rfl, ?_, hzs, by decide, hN2, by omega, by omega, by omega, fun ms f6 hm hmd hf6 => ?_⟩
    · show [D.any (V.ref dk.a), D.lst ((zs.map arS).map D.str), D.lst (cutD (nl.map D.str) (some 8) (some (8 + (d : Int))))] = _
      rw [e5]
    simp only [List.set_cons_succ, List.set_cons_zero, setsR, startR, List.map_cons, List.map_nil, List.cons_append, List.nil_append, List.replicate_succ, List.replicate_zero, List.length_cons, List.length_nil, Nat.reduceAdd, Nat.reduceSub]
    refine ⟨dk, ms, 40, rfl, rfl, hm, by decide, by decide, by omega, fun us f7 _ hu hf7 => ?_⟩
    have e6 : cutD (nl.map D.str) (some 20) none = (nl.drop 20).map D.str := by
      rw [show (20 : Int) = ((20 : Nat) : Int) from rfl, cutD_drop', List.map_drop]
    have ha4 : ∀ a ∈ zs.map arS, PathN 4 a := fun a ha => by
      obtain ⟨z, hz, rfl⟩ := List.mem_map.mp ha
      exact ⟨arN z, List.length_pos_iff.mpr (arN_ne z), by unfold arN; rw [List.length_append, List.length_replicate]; have := (hzs.h z hz).2; show z.2.1 + 1 ≤ 4; omega, fun x hx => by
        rcases arN_mem hx with rfl | rfl
        · exact hN2.oh _ (hzs.h z hz).1
        · exact hN2.on _ (hzs.name hz), rfl⟩
    have hml := hm.len
    refine ⟨dk, zs.map arS, ms, nl.drop 20, rfl, ?_, by rw [List.length_map]; omega, ha4, hml, fun m h => (hm.path m h).asc, by rw [List.length_drop]; omega, fun x h => hnm x (List.mem_of_mem_drop h), by omega, fun hs f8 hs1 hs2 hs3 hf8 => ?_⟩
    · show [D.any (V.ref dk.a), D.lst ((zs.map arS).map D.str), D.lst (ms.map D.str), D.lst (cutD (nl.map D.str) (some 20) none)] = _
      rw [e6]
    refine ⟨Nat.zero_le _, ?_⟩
    refine ⟨dk, ms.map D.str, rfl, rfl, by rw [List.length_map]; omega, by rw [List.length_map]; omega, fun ys f9 hperm hf9 => ?_⟩
    obtain ⟨qs, hqp, rfl⟩ := permM hperm ms rfl
    rw [List.length_map] at hf9
    refine ⟨dk, ((ms.map D.str).length : Int) + 1, f9 - 1, rfl, rfl, by omega, by rw [List.length_map]; omega, by omega, fun w w0 w1 => ?_⟩
    obtain ⟨w, rfl⟩ : ∃ w' : Nat, w = w' := ⟨w.toNat, by omega⟩
    have e7 : cutD (qs.map D.str) none (some (w : Int)) = (qs.take w).map D.str := cutD_takeS qs w
    show dForGo _ _ _ _ (cutD (qs.map D.str) none (some (w : Int))) _ _
    rw [e7]
    have hqm : ∀ x ∈ qs.take w, x ∈ ms := fun x h => hqp.mem_iff.mp (List.mem_of_mem_take h)
    have hqn : (qs.take w).Nodup := (hqp.nodup_iff.mpr (hm.nd)).sublist (List.take_sublist _ _)
    refine dFor_list D.str (fun done rest r f => ∃ (mv : Mvs) (b9 b10 b11 b12 b13 b14 b15 b16 b17 b18 b19 : Sl), r = [.no, .sh (.any (.ref dk.a)), .sh (.int (0 + (i : Int))), .sh (.lst (nl.map D.str)), .sh (.lst ((zs.map arS).map D.str)), .sh (.lst (ms.map D.str)), .sh (.lst (us.map pairD)), .sh (.tup (hs.map D.str)), .ow (mv.map mvD), b9, b10, b11, b12, b13, b14, b15, b16, b17, b18, b19] ∧ mv.map (·.1) = done ∧ (∀ p ∈ mv, PathN 5 p.2 ∧ ∀ o ∈ ms, o ≠ p.1 → lastS o ∉ Txt.split p.2 ".") ∧ f9 ≤ f + 1 + done.length) (qs.take w) _ _ ?_ ?_ ⟨[], _, _, _, _, _, _, _, _, _, _, _, rfl, rfl, (fun p hp => nomatch hp), by simp; omega⟩
    · rintro done m rest r f N1 hx ⟨mv, b9, b10, b11, b12, b13, b14, b15, b16, b17, b18, b19, rfl, hmv, hpr, hfm⟩ hN1
      have hmm : m ∈ ms := hqm m (by rw [hx]; simp)
      have pm := hm.path m hmm
      have pl := pm.len
      refine ⟨_, rfl, trivial, by decide +kernel, L1 (by omega), _, atI0, ?_⟩
      refine ⟨_, rfl, ?_⟩
      have hnl : done.length + 1 ≤ 24 := by
        have := congrArg List.length hx
        rw [List.length_append, List.length_cons, List.length_take, hqp.length_eq] at this
        omega
      have hmvl : mv.length = done.length := by rw [← hmv, List.length_map]
      obtain ⟨h0, ht, rfl⟩ : ∃ h0 ht, hs = h0 :: ht := by
        cases hs with
        | nil => exact absurd rfl hs1
        | cons a l => exact ⟨a, l, rfl⟩
      have hfree : ∀ h ∈ h0 :: ht, PathN 5 h ∧ ∀ o ∈ ms, lastS o ∉ Txt.split h "." := fun h hh => ⟨(hs3 h hh).1, fun o ho => hm_free hzs hN2 hmd (fun x hx => nm20 hnd (by omega) (by omega) hx) (hs3 h hh) ho⟩
      have go : ∀ (y : Str) (f1 : Nat) (sl : Sl), f9 ≤ f1 + 1 + (done.length + 1) → (PathN 5 y ∧ ∀ o ∈ ms, o ≠ m → lastS o ∉ Txt.split y ".") → N1 [.no, .sh (.any (.ref dk.a)), .sh (.int (0 + (i : Int))), .sh (.lst (nl.map D.str)), .sh (.lst ((zs.map arS).map D.str)), .sh (.lst (ms.map D.str)), .sh (.lst (us.map pairD)), .sh (.tup ((h0 :: ht).map D.str)), .ow ((mv ++ [(m, y)]).map mvD), .sh (.str m), b10, b11, b12, b13, b14, b15, b16, sl, b18, b19] f1 := fun y f1 sl hf1 hy => by
        refine hN1 _ _ ⟨mv ++ [(m, y)], _, _, _, _, _, _, _, _, _, _, _, rfl, by rw [List.map_append, hmv]; rfl, fun p hp => ?_, by rw [List.length_append]; exact hf1⟩
        rcases List.mem_append.mp hp with h | h
        · exact hpr p h
        · rw [List.mem_singleton.mp h]; exact hy
      have hab : (Txt.rpartition m ".").1 ≠ "" → PathN 5 (Txt.rpartition m ".").1 ∧ ∀ o ∈ ms, o ≠ m → lastS o ∉ Txt.split (Txt.rpartition m ".").1 "." := fun hne => by
        obtain ⟨e1, _⟩ := rpart_names m
        obtain ⟨q1, q2, q3, q4⟩ := pm.splits
        rw [e1] at hne ⊢
        by_cases hc : (Txt.split m ".").length ≤ 1
        · rw [if_pos (by omega)] at hne; exact absurd rfl hne
        · rw [if_neg (by omega)]
          have nn : ∀ n ∈ (Txt.split m ".").dropLast, isName n := fun n hn => q3 n (List.dropLast_subset _ hn)
          refine ⟨⟨(Txt.split m ".").dropLast, by rw [List.length_dropLast]; omega, by rw [List.length_dropLast]; omega, nn, rfl⟩, fun o ho hom hx => ?_⟩
          rw [split_join_names (fun z => by have := congrArg List.length z; rw [List.length_dropLast] at this; simp at this; omega) nn] at hx
          exact hmd.uq o ho m hmm hom (List.dropLast_subset _ hx)
      show if (!decide ((Txt.rpartition m ".").1 = "")) = true then _ else _
      by_cases hz : (Txt.rpartition m ".").1 = ""
      · rw [decide_eq_true hz]
        refine iteF ⟨_, atI0, ?_⟩
        refine ⟨show 1 ≤ lim by decide, by show ((h0 :: ht).map D.str).length + 1 ≤ _; rw [List.length_map]; exact L1 (by omega), ?_⟩
        refine .inl ⟨dk, _, rfl, rfl, by rw [List.length_append]; show 0 < _ + 1; omega, by rw [List.length_append, List.length_map]; show _ + 1 ≤ _; omega, by omega, fun x hx f1 hf1 => ?_⟩
        obtain ⟨y, rfl, hy⟩ : ∃ y : Str, x = .str y ∧ (PathN 5 y ∧ ∀ o ∈ ms, o ≠ m → lastS o ∉ Txt.split y ".") := by
          rcases List.mem_append.mp hx with h | h
          · obtain ⟨y, h1, rfl⟩ := List.mem_map.mp h
            exact ⟨y, rfl, (hfree y h1).1, fun o ho _ => (hfree y h1).2 o ho⟩
          · rw [List.mem_singleton.mp h]
            exact ⟨_, rfl, (hfree h0 (by simp)).1, fun o ho _ => (hfree h0 (by simp)).2 o ho⟩
        refine ⟨show 2 ≤ lim by decide, by rw [List.length_map]; exact L1 (by omega), ?_⟩
        have gg := go y f1 (.sh (.str (Txt.rpartition m ".").1)) (by omega) hy
        rw [List.map_append] at gg
        exact gg
      · rw [decide_eq_false hz]
        refine iteT ?_
        refine ⟨show 1 ≤ lim by decide, by show ((h0 :: ht).map D.str).length + 1 ≤ _; rw [List.length_map]; exact L1 (by omega), ?_⟩
        refine .inl ⟨dk, _, rfl, rfl, by rw [List.length_append]; show 0 < _ + 1; omega, by rw [List.length_append, List.length_map]; show _ + 1 ≤ _; omega, by omega, fun x hx f1 hf1 => ?_⟩
        obtain ⟨y, rfl, hy⟩ : ∃ y : Str, x = .str y ∧ (PathN 5 y ∧ ∀ o ∈ ms, o ≠ m → lastS o ∉ Txt.split y ".") := by
          rcases List.mem_append.mp hx with h | h
          · obtain ⟨y, h1, rfl⟩ := List.mem_map.mp h
            exact ⟨y, rfl, (hfree y h1).1, fun o ho _ => (hfree y h1).2 o ho⟩
          · rw [List.mem_singleton.mp h]
            exact ⟨_, rfl, hab hz⟩
        refine ⟨show 2 ≤ lim by decide, by rw [List.length_map]; exact L1 (by omega), ?_⟩
        have gg := go y f1 (.sh (.str (Txt.rpartition m ".").1)) (by omega) hy
        rw [List.map_append] at gg
        exact gg
    · rintro r f ⟨mv, b9, b10, b11, b12, b13, b14, b15, b16, b17, b18, b19, rfl, hmv, hpr, hfm⟩
      have hv : MvOk ms mv := ⟨by rw [hmv]; exact hqn, fun p hp => hqm _ (by rw [← hmv]; exact List.mem_map_of_mem hp), fun p hp => (hpr p hp).1⟩
      have hw : MvU ms mv := fun p hp => (hpr p hp).2
      have hno := no_bad hm hv hmd.uq hw
      have hmr := mv_rev hv
      have hwr : MvU ms mv.reverse := fun p hp => (hpr p (List.mem_reverse.mp hp)).2
      have hnor := no_bad hm hmr hmd.uq hwr
      have htl : (qs.take w).length ≤ 24 := by rw [List.length_take, hqp.length_eq]; omega
      have hvl : mv.length ≤ 24 := by
        have := congrArg List.length hmv
        rw [List.length_map, List.length_take, hqp.length_eq] at this
        omega
      refine ⟨ms, us, rfl, hm, hu, fun ks hks => ?_⟩
      simp only [List.set_cons_succ, List.set_cons_zero, setsR, startR, List.map_cons, List.map_nil, List.cons_append, List.nil_append, List.replicate_succ, List.replicate_zero, List.length_cons, List.length_nil, Nat.reduceAdd, Nat.reduceSub]
      refine ⟨ms, mv, rfl, hm, hv, ?_⟩
      refine ⟨ms, us, mv, rfl, hm, hu, hv, ?_⟩
      have pasc : ∀ s ∈ ms.map (plc mv), asc s := fun s hs => by
        obtain ⟨m, h1, rfl⟩ := List.mem_map.mp hs
        exact (plc_path hm hv h1).asc
      have casc : ∀ u ∈ us.map (carU mv), ascU u := fun u hu' => by
        obtain ⟨v, h1, rfl⟩ := List.mem_map.mp hu'
        obtain ⟨h2, h3, _⟩ := hu.mem v h1
        exact ⟨(plc_path hm hv h2).asc, (plc_path hm hv h3).asc⟩
      have ppv : PVm (ms.map (plc mv)) := plc_pvm hm hv hno
      have pcu : PVu (ms.map (plc mv)) (us.map (carU mv)) := car_pvu hm hu hno
      have hul := hu.len
      refine ⟨show 2 ≤ lim by decide, ?_⟩
      simp only [List.set_cons_succ, List.set_cons_zero, setsR, startR, List.map_cons, List.map_nil, List.cons_append, List.nil_append, List.replicate_succ, List.replicate_zero, List.length_cons, List.length_nil, Nat.reduceAdd, Nat.reduceSub]
      refine ⟨sorts_strs (by rw [List.length_map]; exact L1 (by omega)) pasc, ?_⟩
      rw [sortD_strs]
      refine ⟨sorts_pairs (by rw [List.length_map]; exact L1 (by omega)) casc, ?_⟩
      rw [sortD_pairs]
      refine ⟨_, rfl, by rw [List.length_map]; omega, fun m h => ppv.path m h, fun k2 hk2 => ?_⟩
      refine ⟨show 3 ≤ lim by decide, ?_⟩
      simp only [List.set_cons_succ, List.set_cons_zero, setsR, startR, List.map_cons, List.map_nil, List.cons_append, List.nil_append, List.replicate_succ, List.replicate_zero, List.length_cons, List.length_nil, Nat.reduceAdd, Nat.reduceSub]
      refine ⟨ms, us, ks, mv, rfl, hm, hu, hv, fun p hp => absurd hp.is (hno p), fun _ ka hka => ?_⟩
      refine ⟨ms, us, ks, mv.reverse, ?_, hm, hu, hmr, fun p hp => absurd hp.is (hnor p), fun _ kb hkb => ?_⟩
      · show [prgD ms us ks, D.ftp ((mv.map mvD).reverse)] = _
        rw [List.map_reverse.symm]
        rfl
      rw [plc_rev hv] at hkb ⊢
      rw [car_rev hv]
      refine ⟨show 3 ≤ lim by decide, ?_⟩
      simp only [List.set_cons_succ, List.set_cons_zero, setsR, startR, List.map_cons, List.map_nil, List.cons_append, List.nil_append, List.replicate_succ, List.replicate_zero, List.length_cons, List.length_nil, Nat.reduceAdd, Nat.reduceSub]
      have pl0 : ms.map (plc []) = ms := (List.map_congr_left fun x _ => rfl).trans (List.map_id ms)
      have cr0 : us.map (carU []) = us := (List.map_congr_left fun x _ => rfl).trans (List.map_id us)
      refine dFor_list mvD (fun done rest r f1 => ∃ (ns : List Str) (vs : List Us) (kk : List Str) (s15 : Sl), r = [.no, .sh (.any (.ref dk.a)), .sh (.int (0 + (i : Int))), .sh (.lst (nl.map D.str)), .sh (.lst ((zs.map arS).map D.str)), .sh (.lst (ms.map D.str)), .sh (.lst (us.map pairD)), .sh (.tup (hs.map D.str)), .sh (.lst (mv.map mvD)), b9, .sh (prgD ms us ks), .sh (.lst ((ms.map (plc mv)).map D.str)), .sh (.lst ((us.map (carU mv)).map pairD)), .sh (.lst [.tup ((sortS (ms.map (plc mv))).map D.str), .tup ((sortU (us.map (carU mv))).map pairD), .tup ((sortS k2).map D.str)]), .ow [prgD ((sortS ms).map (plc mv)) ((sortU us).map (carU mv)) ka, prgD ((sortS ms).map (plc mv)) ((sortU us).map (carU mv)) kb, prgD ns vs kk], s15, b16, b17, b18, b19] ∧ ns.Perm (ms.map (plc done)) ∧ vs.Perm (us.map (carU done)) ∧ Parts ns kk ∧ f1 = f) mv _ _ ?_ ?_ ⟨ms, us, ks, _, rfl, by rw [pl0], by rw [cr0], hks, rfl⟩
      · rintro done p rest r f1 N2 hx2 ⟨ns, vs, kk, s15, rfl, hp1, hp2, hkk, rfl⟩ hN2
        obtain ⟨pm, ph⟩ := p
        have hx3 : mv = (done ++ [(pm, ph)]) ++ rest := by rw [hx2, List.append_assoc]; rfl
        have hv2 : MvOk ms (done ++ [(pm, ph)]) := (show MvOk ms ((done ++ [(pm, ph)]) ++ rest) by rw [← hx3]; exact hv).pre
        have hw2 : MvU ms (done ++ [(pm, ph)]) := (show MvU ms ((done ++ [(pm, ph)]) ++ rest) by rw [← hx3]; exact hw).pre
        have S := step_ok hm hv2 hmd.uq hw2 hp1
        have hno1 := no_bad S.pv S.ok S.uq S.mu
        have pu1 : PVu ns vs := (car_pvu hm hu (no_bad hm hv2.pre hmd.uq hw2.pre)).perm hp1 hp2
        refine ⟨_, rfl, _, rfl, _, atI_nat (j := 2) rfl, show 1 ≤ lim by decide, ?_⟩
        refine ⟨ns, vs, kk, [(pm, ph)], rfl, S.pv, pu1, S.ok, fun p hp => absurd hp.is (hno1 p), fun _ k3 hk3 => ?_⟩
        refine ⟨nol_prg _ _ _, 2, rfl, ?_⟩
        exact hN2 _ _ ⟨(sortS ns).map (plc [(pm, ph)]), (sortU vs).map (carU [(pm, ph)]), k3, _, rfl, S.nx ((sortS_perm ns).map _), ((sortU_perm vs).map _).trans (car_step hm hu hv2 hmd.uq hw2 hp2), hk3, rfl⟩
      · rintro r f1 ⟨ns, vs, kk, s15, rfl, hp1, hp2, hkk, rfl⟩
        obtain ⟨h0, ht, rfl⟩ : ∃ h0 ht, hs = h0 :: ht := by
          cases hs with
          | nil => exact absurd rfl hs1
          | cons a l => exact ⟨a, l, rfl⟩
        have hh5 : ∀ h ∈ h0 :: ht, PathN 5 h := fun h hh => (hs3 h hh).1
        have pP : ((sortS ms).map (plc mv)).Perm (ms.map (plc mv)) := (sortS_perm ms).map _
        have pU : ((sortU us).map (carU mv)).Perm (us.map (carU mv)) := (sortU_perm us).map _
        have shd : Shp 3 (shwD (ms.map (plc mv)) (us.map (carU mv)) k2) := shp_shw pasc casc fun k hk => (((hk2.mem k).mp hk).path ppv).asc
        refine ⟨show 3 ≤ lim by decide, ?_⟩
        refine ⟨_, _, ka, rfl, ?_⟩
        refine ⟨_, _, kb, rfl, ?_⟩
        refine ⟨_, _, kk, rfl, ?_⟩
        refine ⟨show 3 ≤ lim by decide, ?_⟩
        rw [shw_eq pP pU hka hk2, shw_eq pP pU hkb hk2, shw_eq hp1 hp2 hkk hk2]
        have sh3 : Shp 4 (D.lst [shwD (ms.map (plc mv)) (us.map (carU mv)) k2, shwD (ms.map (plc mv)) (us.map (carU mv)) k2, shwD (ms.map (plc mv)) (us.map (carU mv)) k2]) := shp_lst fun x hx => by
          simp only [List.mem_cons, List.not_mem_nil, or_false, or_self] at hx
          rw [hx]; exact shd
        refine (oEq_data (neg := true) (sh3.of (by decide)) (sh3.of (by decide)) ?_ : oEq true _ _ _)
        rw [SeqAt.eqv_refl _ sh3.1]
        refine iteF (nxt (g := some dk) ?_)
        have hhl : (h0 :: ht).length ≤ 4 := hs2
        have pmh : ∀ m ∈ ms ++ (h0 :: ht), PathN 6 m := fun m h => by
          rcases List.mem_append.mp h with h | h
          · exact hm.path m h
          · exact (hh5 m h).mono (by decide)
        refine ⟨_, atI0, by rw [List.length_map, List.length_map]; exact L1 (by omega), ?_⟩
        refine ⟨ms ++ (h0 :: ht), by rw [List.map_append], by rw [List.length_append]; omega, pmh, fun kx hkx => ?_⟩
        have hkl := hkx.len pmh
        rw [List.length_append] at hkl
        have hl5 := (hh5 h0 (by simp)).len
        refine ⟨_, atI0, by show h0.length + 5 ≤ lim; exact L1 (by omega), show 1 ≤ lim by decide, by show _ + 1 ≤ lim; rw [List.length_map, sortS_len]; exact L1 (by omega), ?_⟩
        refine ⟨(sortS ms).map (plc mv), (sortU us).map (carU mv), ka, ms.map (plc mv), sortS kx ++ [h0 ++ ".none"], by rw [List.map_append]; rfl, ppv.perm pP, pcu.perm pP pU, hka, fun x => pP.mem_iff.symm, by rw [List.length_map]; omega, by rw [List.length_append, sortS_len]; show _ + 1 ≤ _; omega, fun a ha => ?_, ?_⟩
        · rcases List.mem_append.mp ha with h | h
          · exact (((hkx.mem a).mp (mem_sortS.mp h)).pathG pmh).asc
          · rw [List.mem_singleton.mp h]
            exact asc_app (hh5 h0 (by simp)).asc (by decide +kernel)
        refine iteF (nxt (g := some dk) ?_)
        refine ⟨_, atI0, ?_⟩
        refine ⟨ms.map (plc mv), us.map (carU mv), rfl, ppv, pcu, fun kp hkp => ?_⟩
        refine ⟨rfl, isC_prg, (sortS ms).map (plc mv), (sortU us).map (carU mv), ka, _, rfl, fun s h => pasc s (pP.mem_iff.mp h), fun u h => casc u (pU.mem_iff.mp h), .inr ⟨ms.map (plc mv), us.map (carU mv), kp, rfl, pasc, casc, _, rfl, ?_⟩⟩
        rw [sortS_eq pP, sortU_eq pU, decide_eq_true rfl, decide_eq_true rfl]
        refine nxt (g := some dk) ?_
        refine ⟨by rw [List.length_map]; omega, by rw [List.length_map]; omega, by rw [intsD_len, List.length_map]; exact L1 (by omega), ?_⟩
        rw [List.length_map, show ((ms.length : Int)).toNat = ms.length from rfl]
        refine lcIx (fun m => mvD (plc mv m, par m)) (fun m => !decide (plc mv m = m)) [] ms [] _ (fun j m hj => ⟨_, rfl, fun f Q q => ?_, fun _ f Q q => ?_⟩) ?_
        · have hj : ms[j]? = some m := hj
          refine ⟨.str (plc mv m), atI_nat (j := j) (by rw [List.getElem?_map, List.getElem?_map, hj]; rfl), .str m, atI_nat (j := j) (by rw [List.getElem?_map, hj]; rfl), ?_⟩
          exact q
        · have hj : ms[j]? = some m := hj
          have pm := hm.path m (List.mem_of_getElem? hj)
          have pl := pm.len
          refine ⟨.str (plc mv m), atI_nat (j := j) (by rw [List.getElem?_map, List.getElem?_map, hj]; rfl), .str m, atI_nat (j := j) (by rw [List.getElem?_map, hj]; rfl), trivial, by decide +kernel, L1 (by omega), _, atI0, show 2 ≤ lim by decide, ?_⟩
          exact q
        rw [List.nil_append, show (ms.filter fun m => !decide (plc mv m = m)).map (fun m => mvD (plc mv m, par m)) = (bkM mv ms).map mvD by unfold bkM; rw [List.map_map]; rfl]
        simp only [List.set_cons_succ, List.set_cons_zero, setsR, startR, List.map_cons, List.map_nil, List.cons_append, List.nil_append, List.replicate_succ, List.replicate_zero, List.length_cons, List.length_nil, Nat.reduceAdd, Nat.reduceSub]
        have hbl : (bkM mv ms).length ≤ 24 := by unfold bkM; rw [List.length_map]; exact Nat.le_trans (List.length_filter_le _ _) hml
        refine ⟨by rw [List.length_map]; exact L1 (by omega), ?_⟩
        refine lcF mvD (fun q : Str × Str => decide (q.2 = "")) (bkM mv ms) _ (fun q hq => ⟨_, rfl, fun f Q h => ⟨_, atI_nat (j := 1) rfl, h⟩, fun _ f Q h => h⟩) ?_
        refine ⟨show 0 ≤ lim by decide, _, rfl, rfl, ?_⟩
        cases hbe : (bkM mv ms).filter fun q : Str × Str => decide (q.2 = "") with
        | nil =>
          have hne : ∀ m ∈ ms, plc mv m ≠ m → par m ≠ "" := fun m h c e => by
            have : (plc mv m, par m) ∈ (bkM mv ms).filter fun q : Str × Str => decide (q.2 = "") := List.mem_filter.mpr ⟨List.mem_map.mpr ⟨m, List.mem_filter.mpr ⟨h, by rw [decide_eq_false c]; rfl⟩, rfl⟩, decide_eq_true e⟩
            rw [hbe] at this
            cases this
          have hPm : ∀ x, x ∈ (sortS ms).map (plc mv) ↔ x ∈ ms.map (plc mv) := fun x => pP.mem_iff
          refine ⟨_, atI0, (sortS ms).map (plc mv), (sortU us).map (carU mv), ka, bkM mv ms, rfl, ppv.perm pP, pcu.perm pP pU, bk_ok hm hv hno hne hPm, fun p hp => absurd hp.is (bk_no hm hv hno hne hPm p), fun _ kz hkz => ?_⟩
          have q1 : ((sortS ((sortS ms).map (plc mv))).map (plc (bkM mv ms))).Perm ms := by
            have e : (ms.map (plc mv)).map (plc (bkM mv ms)) = ms := by
              rw [List.map_map]
              exact (List.map_congr_left fun m h => bk_plc hm hv hno hne h).trans (List.map_id ms)
            have := (((sortS_perm ((sortS ms).map (plc mv))).trans pP).map (plc (bkM mv ms)))
            rw [e] at this
            exact this
          have q2 : ((sortU ((sortU us).map (carU mv))).map (carU (bkM mv ms))).Perm us := by
            have e : (us.map (carU mv)).map (carU (bkM mv ms)) = us := by
              rw [List.map_map]
              refine (List.map_congr_left fun u h => ?_).trans (List.map_id us)
              obtain ⟨h1, h2, _⟩ := hu.mem u h
              show (plc (bkM mv ms) (plc mv u.1), plc (bkM mv ms) (plc mv u.2)) = u
              rw [bk_plc hm hv hno hne h1, bk_plc hm hv hno hne h2]
            have := (((sortU_perm ((sortU us).map (carU mv))).trans pU).map (carU (bkM mv ms)))
            rw [e] at this
            exact this
          refine ⟨rfl, isC_prg, _, _, kz, _, rfl, fun s h => hm.asc s (q1.mem_iff.mp h), fun u h => hu.asc hm u (q2.mem_iff.mp h), .inr ⟨ms, us, ks, rfl, hm.asc, hu.asc hm, _, rfl, ?_⟩⟩
          rw [sortS_eq q1, sortU_eq q2, decide_eq_true rfl, decide_eq_true rfl]
          refine nxt (g := some dk) ?_
          refine ⟨ms, us, ks, rfl, ?_⟩
          refine ⟨sorts_strs (L1 (by omega)) hm.asc, ?_⟩
          rw [sortD_strs]
          refine ⟨sorts_pairs (L1 (by omega)) (hu.asc hm), ?_⟩
          rw [sortD_pairs]
          refine ⟨ms, rfl, by omega, hm.path, fun k5 hk5 => ?_⟩
          refine ⟨show 3 ≤ lim by decide, ?_⟩
          have e5 : shwD ms us ks = shwD ms us k5 := shw_eq (.refl _) (.refl _) hks hk5
          rw [e5]
          have sh5 : Shp 3 (shwD ms us k5) := shp_shw hm.asc (hu.asc hm) fun k hk => (((hk5.mem k).mp hk).path hm).asc
          refine (oEq_data (neg := true) (sh5.of (by decide)) (sh5.of (by decide)) ?_ : oEq true _ _ _)
          rw [SeqAt.eqv_refl _ sh5.1]
          refine iteF (nxt (g := some dk) ?_)
          exact hN _ _ ⟨_, _, _, _, _, _, _, _, _, _, _, _, _, _, _, _, _, _, rfl, by omega⟩
        | cons q l =>
          refine nxt (g := some dk) ?_
          refine ⟨ms, us, ks, rfl, ?_⟩
          refine ⟨sorts_strs (L1 (by omega)) hm.asc, ?_⟩
          rw [sortD_strs]
          refine ⟨sorts_pairs (L1 (by omega)) (hu.asc hm), ?_⟩
          rw [sortD_pairs]
          refine ⟨ms, rfl, by omega, hm.path, fun k5 hk5 => ?_⟩
          refine ⟨show 3 ≤ lim by decide, ?_⟩
          have e5 : shwD ms us ks = shwD ms us k5 := shw_eq (.refl _) (.refl _) hks hk5
          rw [e5]
          have sh5 : Shp 3 (shwD ms us k5) := shp_shw hm.asc (hu.asc hm) fun k hk => (((hk5.mem k).mp hk).path hm).asc
          refine (oEq_data (neg := true) (sh5.of (by decide)) (sh5.of (by decide)) ?_ : oEq true _ _ _)
          rw [SeqAt.eqv_refl _ sh5.1]
          refine iteF (nxt (g := some dk) ?_)
          exact hN _ _ ⟨_, _, _, _, _, _, _, _, _, _, _, _, _, _, _, _, _, _, rfl, by omega⟩
end
theorem all_mk {l : PySem.W.OpenLaw} {w : World} {K : PySem.W.Frag} {h : Heap} {mg : Str → Option Value} {fa : Addr} (X : K.In h) (G : h.Ns mainGlobals mg) (hfa : mg "law" = some (.ref fa))
    {C_Program : Addr} (kc0_Program : PySem.W.nsIn K mainGlobals "Program" = some (some (.ref C_Program))) (kc1_Program : PySem.W.plainGet K C_Program Str.empty = true) (kc2_Program : PySem.W.hasDictIn K C_Program = true) (kc3_Program : PySem.W.plainOver K C_Program = true) (kc4_Program : PySem.W.findIn K (.ref C_Program) "__setattr__" = some (some (.builtin "object.__setattr__")))
    (ko0_Program : PySem.W.findIn K (.ref C_Program) "__class__" = some (some (.builtin "object.__class__"))) (ko1_Program : PySem.W.specialIn K (.builtin "object.__class__") "__get__" = some (some (.builtin "getset_descriptor.__get__"))) (ko2_Program : PySem.W.takesIn K (.builtin "object.__class__") = some true) (ko3_Program : PySem.W.mroIn K C_Program (.type "object") = some true)
    (ko4_Program : PySem.W.subIn K (.ref C_Program) (.type "tuple") = some false) (ko5_Program : PySem.W.subIn K (.ref C_Program) (.type "str") = some false)
    (ki0_Program : PySem.W.subIn K (.type "NoneType") (.ref C_Program) = some false)
    (ki1_Program : PySem.W.subIn K (.type "bool") (.ref C_Program) = some false)
    (ki2_Program : PySem.W.subIn K (.type "int") (.ref C_Program) = some false)
    (ki3_Program : PySem.W.subIn K (.type "str") (.ref C_Program) = some false)
    (ki4_Program : PySem.W.subIn K (.type "tuple") (.ref C_Program) = some false)
    (ki5_Program : PySem.W.subIn K (.type "list") (.ref C_Program) = some false)
    (ki6_Program : PySem.W.subIn K (.type "dict") (.ref C_Program) = some false)
    (ki7_Program : PySem.W.typeIn K (.ref C_Program) = some (.type "type")) (ki8_Program : PySem.W.selfFirst K C_Program = true)
    {C_Clash : Addr} (xc0_Clash : PySem.W.nsIn K mainGlobals "Clash" = some (some (.ref C_Clash)))
    (kn_n_Program_heads : PySem.W.findIn K (.ref C_Program) "heads" = some none)
    (kn_n_Program_links : PySem.W.findIn K (.ref C_Program) "links" = some none)
    (kn_n_Program_places : PySem.W.findIn K (.ref C_Program) "places" = some none)
    {xq0_Clash xq1_Clash xq2_Clash xq3_Clash xq4_Clash xq5_Clash xq6_Clash xq7_Clash xq8_Clash xq9_Clash xqa_Clash xqb_Clash xqc_Clash xqd_Clash xqe_Clash : _} (xl_Clash : K.lookup C_Clash = some (excClassObj xq0_Clash xq1_Clash C_Clash xq2_Clash xq3_Clash xq4_Clash true xq5_Clash xq6_Clash xq7_Clash xq8_Clash xq9_Clash xqa_Clash xqb_Clash xqc_Clash xqd_Clash xqe_Clash "ValueError.__new__")) (xr_Clash : PySem.HandSPX.refsVE xq4_Clash = true)
    (xs0_Clash : PySem.W.findIn K (.ref C_Clash) "__setattr__" = some (some (.builtin "object.__setattr__"))) (xs1_Clash : PySem.W.subIn K (.ref C_Clash) (.type "BaseException") = some true) (xs2_Clash : PySem.W.typeIn K (.ref C_Clash) = some (.type "type")) (xs3_Clash : PySem.W.keepIn K (.ref C_Clash) = true) (xs4_Clash : PySem.W.findIn K (.ref C_Clash) "path" = some none)
    {fx_Clash : Addr} {odx_Clash anx_Clash : Option Addr} {slx_Clash : Array (Option Value)} {ocx_Clash kVx_Clash dcx_Clash pmx_Clash cdx_Clash ctx_Clash : Value} (xi_Clash : PySem.W.findIn K (.ref C_Clash) "__init__" = some (some (.ref fx_Clash))) (xt_Clash : PySem.W.typeIn K (.ref fx_Clash) = some (.type "function")) (lx_Clash : K.lookup fx_Clash = some ⟨ocx_Clash, odx_Clash, .func (PySem.W.fnOf "__init__" "Clash.__init__" (defArgs s_x_Clash) (defBody s_x_Clash) (defScope s_x_Clash) .none kVx_Clash dcx_Clash pmx_Clash anx_Clash cdx_Clash ctx_Clash), slx_Clash⟩) (cx_Clash : PySem.W.codeIn K cdx_Clash "Clash.__init__" = true) (kx0_Clash : PySem.W.keepIn K (.ref fx_Clash) = true)
    {f0 : Addr} {od0 an0 : Option Addr} {sl0 : Array (Option Value)} {oc0 kV0 dc0 pm0 cd0 ct0 : Value}
    (a0 : PySem.W.nsIn K mainGlobals "_law_draw" = some (some (.ref f0))) (l0 : K.lookup f0 = some ⟨oc0, od0, .func (PySem.W.fnOf "_law_draw" "_law_draw" (defArgs s__law_draw) (defBody s__law_draw) (defScope s__law_draw) .none kV0 dc0 pm0 an0 cd0 ct0), sl0⟩) (c0 : PySem.W.codeIn K cd0 "_law_draw" = true) (k0 : PySem.W.keepIn K (.ref f0) = true)
    {f1 : Addr} {od1 an1 : Option Addr} {sl1 : Array (Option Value)} {oc1 kV1 dc1 pm1 cd1 ct1 : Value}
    (a1 : PySem.W.nsIn K mainGlobals "_law_pick" = some (some (.ref f1))) (l1 : K.lookup f1 = some ⟨oc1, od1, .func (PySem.W.fnOf "_law_pick" "_law_pick" (defArgs s__law_pick) (defBody s__law_pick) (defScope s__law_pick) .none kV1 dc1 pm1 an1 cd1 ct1), sl1⟩) (c1 : PySem.W.codeIn K cd1 "_law_pick" = true) (k1 : PySem.W.keepIn K (.ref f1) = true)
    {f2 : Addr} {od2 an2 : Option Addr} {sl2 : Array (Option Value)} {oc2 kV2 dc2 pm2 cd2 ct2 : Value}
    (a2 : PySem.W.nsIn K mainGlobals "_law_names" = some (some (.ref f2))) (l2 : K.lookup f2 = some ⟨oc2, od2, .func (PySem.W.fnOf "_law_names" "_law_names" (defArgs s__law_names) (defBody s__law_names) (defScope s__law_names) .none kV2 dc2 pm2 an2 cd2 ct2), sl2⟩) (c2 : PySem.W.codeIn K cd2 "_law_names" = true) (k2 : PySem.W.keepIn K (.ref f2) = true)
    {f3 : Addr} {od3 an3 : Option Addr} {sl3 : Array (Option Value)} {oc3 kV3 dc3 pm3 cd3 ct3 : Value}
    (a3 : PySem.W.nsIn K mainGlobals "_law_areas" = some (some (.ref f3))) (l3 : K.lookup f3 = some ⟨oc3, od3, .func (PySem.W.fnOf "_law_areas" "_law_areas" (defArgs s__law_areas) (defBody s__law_areas) (defScope s__law_areas) .none kV3 dc3 pm3 an3 cd3 ct3), sl3⟩) (c3 : PySem.W.codeIn K cd3 "_law_areas" = true) (k3 : PySem.W.keepIn K (.ref f3) = true)
    {f4 : Addr} {od4 an4 : Option Addr} {sl4 : Array (Option Value)} {oc4 kV4 dc4 pm4 cd4 ct4 : Value}
    (a4 : PySem.W.nsIn K mainGlobals "is_name" = some (some (.ref f4))) (l4 : K.lookup f4 = some ⟨oc4, od4, .func (PySem.W.fnOf "is_name" "is_name" (defArgs s_is_name) (defBody s_is_name) (defScope s_is_name) .none kV4 dc4 pm4 an4 cd4 ct4), sl4⟩) (c4 : PySem.W.codeIn K cd4 "is_name" = true) (k4 : PySem.W.keepIn K (.ref f4) = true)
    {f5 : Addr} {od5 an5 : Option Addr} {sl5 : Array (Option Value)} {oc5 kV5 dc5 pm5 cd5 ct5 : Value}
    (a5 : PySem.W.nsIn K mainGlobals "is_path" = some (some (.ref f5))) (l5 : K.lookup f5 = some ⟨oc5, od5, .func (PySem.W.fnOf "is_path" "is_path" (defArgs s_is_path) (defBody s_is_path) (defScope s_is_path) .none kV5 dc5 pm5 an5 cd5 ct5), sl5⟩) (c5 : PySem.W.codeIn K cd5 "is_path" = true) (k5 : PySem.W.keepIn K (.ref f5) = true)
    {f6 : Addr} {od6 an6 : Option Addr} {sl6 : Array (Option Value)} {oc6 kV6 dc6 pm6 cd6 ct6 : Value}
    (a6 : PySem.W.nsIn K mainGlobals "covers" = some (some (.ref f6))) (l6 : K.lookup f6 = some ⟨oc6, od6, .func (PySem.W.fnOf "covers" "covers" (defArgs s_covers) (defBody s_covers) (defScope s_covers) .none kV6 dc6 pm6 an6 cd6 ct6), sl6⟩) (c6 : PySem.W.codeIn K cd6 "covers" = true) (k6 : PySem.W.keepIn K (.ref f6) = true)
    {f7 : Addr} {od7 an7 : Option Addr} {sl7 : Array (Option Value)} {oc7 kV7 dc7 pm7 cd7 ct7 : Value}
    (a7 : PySem.W.nsIn K mainGlobals "overlap" = some (some (.ref f7))) (l7 : K.lookup f7 = some ⟨oc7, od7, .func (PySem.W.fnOf "overlap" "overlap" (defArgs s_overlap) (defBody s_overlap) (defScope s_overlap) .none kV7 dc7 pm7 an7 cd7 ct7), sl7⟩) (c7 : PySem.W.codeIn K cd7 "overlap" = true) (k7 : PySem.W.keepIn K (.ref f7) = true)
    {f8 : Addr} {od8 an8 : Option Addr} {sl8 : Array (Option Value)} {oc8 kV8 dc8 pm8 cd8 ct8 : Value}
    (a8 : PySem.W.nsIn K mainGlobals "first_overlap" = some (some (.ref f8))) (l8 : K.lookup f8 = some ⟨oc8, od8, .func (PySem.W.fnOf "first_overlap" "first_overlap" (defArgs s_first_overlap) (defBody s_first_overlap) (defScope s_first_overlap) .none kV8 dc8 pm8 an8 cd8 ct8), sl8⟩) (c8 : PySem.W.codeIn K cd8 "first_overlap" = true) (k8 : PySem.W.keepIn K (.ref f8) = true)
    {f9 : Addr} {od9 an9 : Option Addr} {sl9 : Array (Option Value)} {oc9 kV9 dc9 pm9 cd9 ct9 : Value}
    (a9 : PySem.W.nsIn K mainGlobals "modules_error" = some (some (.ref f9))) (l9 : K.lookup f9 = some ⟨oc9, od9, .func (PySem.W.fnOf "modules_error" "modules_error" (defArgs s_modules_error) (defBody s_modules_error) (defScope s_modules_error) .none kV9 dc9 pm9 an9 cd9 ct9), sl9⟩) (c9 : PySem.W.codeIn K cd9 "modules_error" = true) (k9 : PySem.W.keepIn K (.ref f9) = true)
    {f10 : Addr} {od10 an10 : Option Addr} {sl10 : Array (Option Value)} {oc10 kV10 dc10 pm10 cd10 ct10 : Value}
    (a10 : PySem.W.nsIn K mainGlobals "_law_shuffled" = some (some (.ref f10))) (l10 : K.lookup f10 = some ⟨oc10, od10, .func (PySem.W.fnOf "_law_shuffled" "_law_shuffled" (defArgs s__law_shuffled) (defBody s__law_shuffled) (defScope s__law_shuffled) .none kV10 dc10 pm10 an10 cd10 ct10), sl10⟩) (c10 : PySem.W.codeIn K cd10 "_law_shuffled" = true) (k10 : PySem.W.keepIn K (.ref f10) = true)
    {f11 : Addr} {od11 an11 : Option Addr} {sl11 : Array (Option Value)} {oc11 kV11 dc11 pm11 cd11 ct11 : Value}
    (a11 : PySem.W.nsIn K mainGlobals "is_pair" = some (some (.ref f11))) (l11 : K.lookup f11 = some ⟨oc11, od11, .func (PySem.W.fnOf "is_pair" "is_pair" (defArgs s_is_pair) (defBody s_is_pair) (defScope s_is_pair) .none kV11 dc11 pm11 an11 cd11 ct11), sl11⟩) (c11 : PySem.W.codeIn K cd11 "is_pair" = true) (k11 : PySem.W.keepIn K (.ref f11) = true)
    {f12 : Addr} {od12 an12 : Option Addr} {sl12 : Array (Option Value)} {oc12 kV12 dc12 pm12 cd12 ct12 : Value}
    (a12 : PySem.W.nsIn K mainGlobals "uses_error" = some (some (.ref f12))) (l12 : K.lookup f12 = some ⟨oc12, od12, .func (PySem.W.fnOf "uses_error" "uses_error" (defArgs s_uses_error) (defBody s_uses_error) (defScope s_uses_error) .none kV12 dc12 pm12 an12 cd12 ct12), sl12⟩) (c12 : PySem.W.codeIn K cd12 "uses_error" = true) (k12 : PySem.W.keepIn K (.ref f12) = true)
    {f13 : Addr} {od13 an13 : Option Addr} {sl13 : Array (Option Value)} {oc13 kV13 dc13 pm13 cd13 ct13 : Value}
    (a13 : PySem.W.nsIn K mainGlobals "last_name" = some (some (.ref f13))) (l13 : K.lookup f13 = some ⟨oc13, od13, .func (PySem.W.fnOf "last_name" "last_name" (defArgs s_last_name) (defBody s_last_name) (defScope s_last_name) .none kV13 dc13 pm13 an13 cd13 ct13), sl13⟩) (c13 : PySem.W.codeIn K cd13 "last_name" = true) (k13 : PySem.W.keepIn K (.ref f13) = true)
    {f14 : Addr} {od14 an14 : Option Addr} {sl14 : Array (Option Value)} {oc14 kV14 dc14 pm14 cd14 ct14 : Value}
    (a14 : PySem.W.nsIn K mainGlobals "program_error" = some (some (.ref f14))) (l14 : K.lookup f14 = some ⟨oc14, od14, .func (PySem.W.fnOf "program_error" "program_error" (defArgs s_program_error) (defBody s_program_error) (defScope s_program_error) .none kV14 dc14 pm14 an14 cd14 ct14), sl14⟩) (c14 : PySem.W.codeIn K cd14 "program_error" = true) (k14 : PySem.W.keepIn K (.ref f14) = true)
    {f15 : Addr} {od15 an15 : Option Addr} {sl15 : Array (Option Value)} {oc15 kV15 dc15 pm15 cd15 ct15 : Value}
    (a15 : PySem.W.nsIn K mainGlobals "parts_of" = some (some (.ref f15))) (l15 : K.lookup f15 = some ⟨oc15, od15, .func (PySem.W.fnOf "parts_of" "parts_of" (defArgs s_parts_of) (defBody s_parts_of) (defScope s_parts_of) .none kV15 dc15 pm15 an15 cd15 ct15), sl15⟩) (c15 : PySem.W.codeIn K cd15 "parts_of" = true) (k15 : PySem.W.keepIn K (.ref f15) = true)
    {f16 : Addr} {od16 an16 : Option Addr} {sl16 : Array (Option Value)} {oc16 kV16 dc16 pm16 cd16 ct16 : Value}
    (a16 : PySem.W.findIn K (.ref C_Program) "__init__" = some (some (.ref f16))) (ma16 : PySem.W.isFn K (.ref f16) = true)
    (mb16 : PySem.W.makesIn K C_Program = true) (mc16 : PySem.W.keepIn K (.ref C_Program) = true)
    (l16 : K.lookup f16 = some ⟨oc16, od16, .func (PySem.W.fnOf "__init__" "Program.__init__" (defArgs s_Program___init__) (defBody s_Program___init__) (defScope s_Program___init__) .none kV16 dc16 pm16 an16 cd16 ct16), sl16⟩) (c16 : PySem.W.codeIn K cd16 "Program.__init__" = true) (k16 : PySem.W.keepIn K (.ref f16) = true)
    {f17 : Addr} {od17 an17 : Option Addr} {sl17 : Array (Option Value)} {oc17 kV17 dc17 pm17 cd17 ct17 : Value}
    {pr17 : Addr} {rs17 : List Value} (a17 : PySem.W.findIn K (.ref C_Program) "modules" = some (some (.ref pr17))) (pa17 : PySem.W.specialIn K (.ref pr17) "__get__" = some (some (.builtin "property.__get__"))) (pb17 : PySem.W.takesIn K (.ref pr17) = some true) (pc17 : PySem.W.recIn K pr17 "property" = some (.ref f17 :: rs17))
    (l17 : K.lookup f17 = some ⟨oc17, od17, .func (PySem.W.fnOf "modules" "Program.modules" (defArgs s_Program_modules) (defBody s_Program_modules) (defScope s_Program_modules) .none kV17 dc17 pm17 an17 cd17 ct17), sl17⟩) (c17 : PySem.W.codeIn K cd17 "Program.modules" = true) (k17 : PySem.W.keepIn K (.ref f17) = true)
    {f18 : Addr} {od18 an18 : Option Addr} {sl18 : Array (Option Value)} {oc18 kV18 dc18 pm18 cd18 ct18 : Value}
    {pr18 : Addr} {rs18 : List Value} (a18 : PySem.W.findIn K (.ref C_Program) "parts" = some (some (.ref pr18))) (pa18 : PySem.W.specialIn K (.ref pr18) "__get__" = some (some (.builtin "property.__get__"))) (pb18 : PySem.W.takesIn K (.ref pr18) = some true) (pc18 : PySem.W.recIn K pr18 "property" = some (.ref f18 :: rs18))
    (l18 : K.lookup f18 = some ⟨oc18, od18, .func (PySem.W.fnOf "parts" "Program.parts" (defArgs s_Program_parts) (defBody s_Program_parts) (defScope s_Program_parts) .none kV18 dc18 pm18 an18 cd18 ct18), sl18⟩) (c18 : PySem.W.codeIn K cd18 "Program.parts" = true) (k18 : PySem.W.keepIn K (.ref f18) = true)
    {f19 : Addr} {od19 an19 : Option Addr} {sl19 : Array (Option Value)} {oc19 kV19 dc19 pm19 cd19 ct19 : Value}
    {pr19 : Addr} {rs19 : List Value} (a19 : PySem.W.findIn K (.ref C_Program) "uses" = some (some (.ref pr19))) (pa19 : PySem.W.specialIn K (.ref pr19) "__get__" = some (some (.builtin "property.__get__"))) (pb19 : PySem.W.takesIn K (.ref pr19) = some true) (pc19 : PySem.W.recIn K pr19 "property" = some (.ref f19 :: rs19))
    (l19 : K.lookup f19 = some ⟨oc19, od19, .func (PySem.W.fnOf "uses" "Program.uses" (defArgs s_Program_uses) (defBody s_Program_uses) (defScope s_Program_uses) .none kV19 dc19 pm19 an19 cd19 ct19), sl19⟩) (c19 : PySem.W.codeIn K cd19 "Program.uses" = true) (k19 : PySem.W.keepIn K (.ref f19) = true)
    {f20 : Addr} {od20 an20 : Option Addr} {sl20 : Array (Option Value)} {oc20 kV20 dc20 pm20 cd20 ct20 : Value}
    (a20 : PySem.W.nsIn K mainGlobals "_law_shown" = some (some (.ref f20))) (l20 : K.lookup f20 = some ⟨oc20, od20, .func (PySem.W.fnOf "_law_shown" "_law_shown" (defArgs s__law_shown) (defBody s__law_shown) (defScope s__law_shown) .none kV20 dc20 pm20 an20 cd20 ct20), sl20⟩) (c20 : PySem.W.codeIn K cd20 "_law_shown" = true) (k20 : PySem.W.keepIn K (.ref f20) = true)
    {f21 : Addr} {od21 an21 : Option Addr} {sl21 : Array (Option Value)} {oc21 kV21 dc21 pm21 cd21 ct21 : Value}
    (a21 : PySem.W.nsIn K mainGlobals "_law_homes" = some (some (.ref f21))) (l21 : K.lookup f21 = some ⟨oc21, od21, .func (PySem.W.fnOf "_law_homes" "_law_homes" (defArgs s__law_homes) (defBody s__law_homes) (defScope s__law_homes) .none kV21 dc21 pm21 an21 cd21 ct21), sl21⟩) (c21 : PySem.W.codeIn K cd21 "_law_homes" = true) (k21 : PySem.W.keepIn K (.ref f21) = true)
    {f22 : Addr} {od22 an22 : Option Addr} {sl22 : Array (Option Value)} {oc22 kV22 dc22 pm22 cd22 ct22 : Value}
    (a22 : PySem.W.nsIn K mainGlobals "_law_modules" = some (some (.ref f22))) (l22 : K.lookup f22 = some ⟨oc22, od22, .func (PySem.W.fnOf "_law_modules" "_law_modules" (defArgs s__law_modules) (defBody s__law_modules) (defScope s__law_modules) .none kV22 dc22 pm22 an22 cd22 ct22), sl22⟩) (c22 : PySem.W.codeIn K cd22 "_law_modules" = true) (k22 : PySem.W.keepIn K (.ref f22) = true)
    {f23 : Addr} {od23 an23 : Option Addr} {sl23 : Array (Option Value)} {oc23 kV23 dc23 pm23 cd23 ct23 : Value}
    (a23 : PySem.W.nsIn K mainGlobals "_law_uses" = some (some (.ref f23))) (l23 : K.lookup f23 = some ⟨oc23, od23, .func (PySem.W.fnOf "_law_uses" "_law_uses" (defArgs s__law_uses) (defBody s__law_uses) (defScope s__law_uses) .none kV23 dc23 pm23 an23 cd23 ct23), sl23⟩) (c23 : PySem.W.codeIn K cd23 "_law_uses" = true) (k23 : PySem.W.keepIn K (.ref f23) = true)
    {f24 : Addr} {od24 an24 : Option Addr} {sl24 : Array (Option Value)} {oc24 kV24 dc24 pm24 cd24 ct24 : Value}
    (a24 : PySem.W.nsIn K mainGlobals "_law_last" = some (some (.ref f24))) (l24 : K.lookup f24 = some ⟨oc24, od24, .func (PySem.W.fnOf "_law_last" "_law_last" (defArgs s__law_last) (defBody s__law_last) (defScope s__law_last) .none kV24 dc24 pm24 an24 cd24 ct24), sl24⟩) (c24 : PySem.W.codeIn K cd24 "_law_last" = true) (k24 : PySem.W.keepIn K (.ref f24) = true)
    {f25 : Addr} {od25 an25 : Option Addr} {sl25 : Array (Option Value)} {oc25 kV25 dc25 pm25 cd25 ct25 : Value}
    (a25 : PySem.W.nsIn K mainGlobals "_law_places" = some (some (.ref f25))) (l25 : K.lookup f25 = some ⟨oc25, od25, .func (PySem.W.fnOf "_law_places" "_law_places" (defArgs s__law_places) (defBody s__law_places) (defScope s__law_places) .none kV25 dc25 pm25 an25 cd25 ct25), sl25⟩) (c25 : PySem.W.codeIn K cd25 "_law_places" = true) (k25 : PySem.W.keepIn K (.ref f25) = true)
    {f26 : Addr} {od26 an26 : Option Addr} {sl26 : Array (Option Value)} {oc26 kV26 dc26 pm26 cd26 ct26 : Value}
    (a26 : PySem.W.nsIn K mainGlobals "_law_carried" = some (some (.ref f26))) (l26 : K.lookup f26 = some ⟨oc26, od26, .func (PySem.W.fnOf "_law_carried" "_law_carried" (defArgs s__law_carried) (defBody s__law_carried) (defScope s__law_carried) .none kV26 dc26 pm26 an26 cd26 ct26), sl26⟩) (c26 : PySem.W.codeIn K cd26 "_law_carried" = true) (k26 : PySem.W.keepIn K (.ref f26) = true)
    {f27 : Addr} {od27 an27 : Option Addr} {sl27 : Array (Option Value)} {oc27 kV27 dc27 pm27 cd27 ct27 : Value}
    (a27 : PySem.W.nsIn K mainGlobals "_law_parts" = some (some (.ref f27))) (l27 : K.lookup f27 = some ⟨oc27, od27, .func (PySem.W.fnOf "_law_parts" "_law_parts" (defArgs s__law_parts) (defBody s__law_parts) (defScope s__law_parts) .none kV27 dc27 pm27 an27 cd27 ct27), sl27⟩) (c27 : PySem.W.codeIn K cd27 "_law_parts" = true) (k27 : PySem.W.keepIn K (.ref f27) = true)
    {f28 : Addr} {od28 an28 : Option Addr} {sl28 : Array (Option Value)} {oc28 kV28 dc28 pm28 cd28 ct28 : Value}
    (a28 : PySem.W.findIn K (.ref C_Program) "__contains__" = some (some (.ref f28))) (ma28 : PySem.W.isFn K (.ref f28) = true)
    (l28 : K.lookup f28 = some ⟨oc28, od28, .func (PySem.W.fnOf "__contains__" "Program.__contains__" (defArgs s_Program___contains__) (defBody s_Program___contains__) (defScope s_Program___contains__) .none kV28 dc28 pm28 an28 cd28 ct28), sl28⟩) (c28 : PySem.W.codeIn K cd28 "Program.__contains__" = true) (k28 : PySem.W.keepIn K (.ref f28) = true)
    {f29 : Addr} {od29 an29 : Option Addr} {sl29 : Array (Option Value)} {oc29 kV29 dc29 pm29 cd29 ct29 : Value}
    (a29 : PySem.W.nsIn K mainGlobals "_law_has_right" = some (some (.ref f29))) (l29 : K.lookup f29 = some ⟨oc29, od29, .func (PySem.W.fnOf "_law_has_right" "_law_has_right" (defArgs s__law_has_right) (defBody s__law_has_right) (defScope s__law_has_right) .none kV29 dc29 pm29 an29 cd29 ct29), sl29⟩) (c29 : PySem.W.codeIn K cd29 "_law_has_right" = true) (k29 : PySem.W.keepIn K (.ref f29) = true)
    {f30 : Addr} {od30 an30 : Option Addr} {sl30 : Array (Option Value)} {oc30 kV30 dc30 pm30 cd30 ct30 : Value}
    (a30 : PySem.W.nsIn K mainGlobals "moved" = some (some (.ref f30))) (l30 : K.lookup f30 = some ⟨oc30, od30, .func (PySem.W.fnOf "moved" "moved" (defArgs s_moved) (defBody s_moved) (defScope s_moved) .none kV30 dc30 pm30 an30 cd30 ct30), sl30⟩) (c30 : PySem.W.codeIn K cd30 "moved" = true) (k30 : PySem.W.keepIn K (.ref f30) = true)
    {f31 : Addr} {od31 an31 : Option Addr} {sl31 : Array (Option Value)} {oc31 kV31 dc31 pm31 cd31 ct31 : Value}
    (a31 : PySem.W.findIn K (.ref C_Program) "__eq__" = some (some (.ref f31))) (ma31 : PySem.W.isFn K (.ref f31) = true)
    (l31 : K.lookup f31 = some ⟨oc31, od31, .func (PySem.W.fnOf "__eq__" "Program.__eq__" (defArgs s_Program___eq__) (defBody s_Program___eq__) (defScope s_Program___eq__) .none kV31 dc31 pm31 an31 cd31 ct31), sl31⟩) (c31 : PySem.W.codeIn K cd31 "Program.__eq__" = true) (k31 : PySem.W.keepIn K (.ref f31) = true)
    {f32 : Addr} {od32 an32 : Option Addr} {sl32 : Array (Option Value)} {oc32 kV32 dc32 pm32 cd32 ct32 : Value}
    (a32 : PySem.W.nsIn K mainGlobals "_law_stream" = some (some (.ref f32))) (l32 : K.lookup f32 = some ⟨oc32, od32, .func (PySem.W.fnOf "_law_stream" "_law_stream" (defArgs s__law_stream) (defBody s__law_stream) (defScope s__law_stream) .none kV32 dc32 pm32 an32 cd32 ct32), sl32⟩) (c32 : PySem.W.codeIn K cd32 "_law_stream" = true) (k32 : PySem.W.keepIn K (.ref f32) = true)
    {f33 : Addr} {od33 an33 : Option Addr} {sl33 : Array (Option Value)} {oc33 kV33 dc33 pm33 cd33 ct33 : Value}
    (a33 : PySem.W.nsIn K mainGlobals "law" = some (some (.ref f33))) (l33 : K.lookup f33 = some ⟨oc33, od33, .func (PySem.W.fnOf "law" "law" (defArgs s_law) (defBody s_law) (defScope s_law) .none kV33 dc33 pm33 an33 cd33 ct33), sl33⟩) (c33 : PySem.W.codeIn K cd33 "law" = true) (k33 : PySem.W.keepIn K (.ref f33) = true)
    (z_len : PySem.W.nsIn K mainGlobals "len" = some none)
    (z_int : PySem.W.nsIn K mainGlobals "int" = some none)
    (z_range : PySem.W.nsIn K mainGlobals "range" = some none)
    (z_all : PySem.W.nsIn K mainGlobals "all" = some none)
    (z_str : PySem.W.nsIn K mainGlobals "str" = some none)
    (z_isinstance : PySem.W.nsIn K mainGlobals "isinstance" = some none)
    (z_enumerate : PySem.W.nsIn K mainGlobals "enumerate" = some none)
    (z_tuple : PySem.W.nsIn K mainGlobals "tuple" = some none)
    (z_sorted : PySem.W.nsIn K mainGlobals "sorted" = some none)
    (z_min : PySem.W.nsIn K mainGlobals "min" = some none)
    (z_set : PySem.W.nsIn K mainGlobals "set" = some none)
    (z_dict : PySem.W.nsIn K mainGlobals "dict" = some none)
    (z_abs : PySem.W.nsIn K mainGlobals "abs" = some none)
    (z_list : PySem.W.nsIn K mainGlobals "list" = some none)
    {tk_LETTERS : Tok} (y_LETTERS : PySem.W.nsIn K mainGlobals "LETTERS" = some (some (.str "abcdefghijklmnopqrstuvwxyz" tk_LETTERS)))
    {tk_MAX_LETTERS : Tok} (y_MAX_LETTERS : PySem.W.nsIn K mainGlobals "MAX_LETTERS" = some (some (.int 8 tk_MAX_LETTERS)))
    {tk_MAX_NAMES : Tok} (y_MAX_NAMES : PySem.W.nsIn K mainGlobals "MAX_NAMES" = some (some (.int 6 tk_MAX_NAMES)))
    {tk_MAX_MODULES : Tok} (y_MAX_MODULES : PySem.W.nsIn K mainGlobals "MAX_MODULES" = some (some (.int 24 tk_MAX_MODULES)))
    {tk_MAX_USES : Tok} (y_MAX_USES : PySem.W.nsIn K mainGlobals "MAX_USES" = some (some (.int 200 tk_MAX_USES))) :
    ∃ fd : FuncData, (∀ (s : Shared) (v : Value), BindsTo s fd ⟨[v], []⟩ [("_law_script", v)]) ∧ ∀ base : Heap, K.In base → base.Ns mainGlobals mg → FnOk l.prog w K mg base CX0 9 fa fd ["_law_script"] (spLaw K) := by
  have e := hfa.symm.trans (PySem.W.mg_of X G a33)
  cases e
  have m_len := PySem.W.mg_none_of X G z_len
  have m_int := PySem.W.mg_none_of X G z_int
  have m_range := PySem.W.mg_none_of X G z_range
  have m_all := PySem.W.mg_none_of X G z_all
  have m_str := PySem.W.mg_none_of X G z_str
  have m_isinstance := PySem.W.mg_none_of X G z_isinstance
  have m_enumerate := PySem.W.mg_none_of X G z_enumerate
  have m_tuple := PySem.W.mg_none_of X G z_tuple
  have m_sorted := PySem.W.mg_none_of X G z_sorted
  have m_min := PySem.W.mg_none_of X G z_min
  have m_set := PySem.W.mg_none_of X G z_set
  have m_dict := PySem.W.mg_none_of X G z_dict
  have m_abs := PySem.W.mg_none_of X G z_abs
  have m_list := PySem.W.mg_none_of X G z_list
  have g_LETTERS : ∃ t, mg "LETTERS" = some (.str "abcdefghijklmnopqrstuvwxyz" t) := ⟨_, PySem.W.mg_of X G y_LETTERS⟩
  have g_MAX_LETTERS : ∃ t, mg "MAX_LETTERS" = some (.int 8 t) := ⟨_, PySem.W.mg_of X G y_MAX_LETTERS⟩
  have g_MAX_NAMES : ∃ t, mg "MAX_NAMES" = some (.int 6 t) := ⟨_, PySem.W.mg_of X G y_MAX_NAMES⟩
  have g_MAX_MODULES : ∃ t, mg "MAX_MODULES" = some (.int 24 t) := ⟨_, PySem.W.mg_of X G y_MAX_MODULES⟩
  have g_MAX_USES : ∃ t, mg "MAX_USES" = some (.int 200 t) := ⟨_, PySem.W.mg_of X G y_MAX_USES⟩
  have k_Program : KC K "Program" C_Program := ⟨kc0_Program, ⟨kc1_Program, kc2_Program, kc3_Program, kc4_Program⟩⟩
  have mg_Program : mg "Program" = some (.ref C_Program) := PySem.W.mg_of X G kc0_Program
  have i_Program : KI K "Program" C_Program := .mk7 k_Program ⟨ko0_Program, ko1_Program, ko2_Program, ko3_Program⟩ ki0_Program ki1_Program ki2_Program ki3_Program ki4_Program ki5_Program ki6_Program ki7_Program ki8_Program
  have o_Program : KO K "Program" C_Program := ⟨k_Program, ⟨ko0_Program, ko1_Program, ko2_Program, ko3_Program⟩, ko4_Program, ko5_Program⟩
  have mg_Clash : mg "Clash" = some (.ref C_Clash) := PySem.W.mg_of X G xc0_Clash
  have n_Program_heads : NoAttr K C_Program "heads" := kn_n_Program_heads
  have n_Program_links : NoAttr K C_Program "links" := kn_n_Program_links
  have n_Program_places : NoAttr K C_Program "places" := kn_n_Program_places
  refine ⟨PySem.W.fnOf "law" "law" (defArgs s_law) (defBody s_law) (defScope s_law) .none kV33 dc33 pm33 an33 cd33 ct33, fun s v => .of_eq rfl, fun base _ _ => ?_⟩
  have x_Clash := ok_x_Clash (P := l.prog) (w := w) (mg := mg) (base := base) ⟨⟨_, _, _, _, _, _, _, _, _, _, _, _, _, _, _, xl_Clash, xr_Clash⟩, xs0_Clash, xs1_Clash, xs2_Clash, xs3_Clash⟩ xs4_Clash (fun_mk lx_Clash cx_Clash kx0_Clash) xi_Clash xt_Clash xc0_Clash mg_Clash
  have d__law_draw : Df K mg "_law_draw" s__law_draw := ⟨_, _, fun_mk l0 c0 k0, PySem.W.mg_of X G a0⟩
  have d__law_pick : Df K mg "_law_pick" s__law_pick := ⟨_, _, fun_mk l1 c1 k1, PySem.W.mg_of X G a1⟩
  have d__law_names : Df K mg "_law_names" s__law_names := ⟨_, _, fun_mk l2 c2 k2, PySem.W.mg_of X G a2⟩
  have d__law_areas : Df K mg "_law_areas" s__law_areas := ⟨_, _, fun_mk l3 c3 k3, PySem.W.mg_of X G a3⟩
  have d_is_name : Df K mg "is_name" s_is_name := ⟨_, _, fun_mk l4 c4 k4, PySem.W.mg_of X G a4⟩
  have d_is_path : Df K mg "is_path" s_is_path := ⟨_, _, fun_mk l5 c5 k5, PySem.W.mg_of X G a5⟩
  have d_covers : Df K mg "covers" s_covers := ⟨_, _, fun_mk l6 c6 k6, PySem.W.mg_of X G a6⟩
  have d_overlap : Df K mg "overlap" s_overlap := ⟨_, _, fun_mk l7 c7 k7, PySem.W.mg_of X G a7⟩
  have d_first_overlap : Df K mg "first_overlap" s_first_overlap := ⟨_, _, fun_mk l8 c8 k8, PySem.W.mg_of X G a8⟩
  have d_modules_error : Df K mg "modules_error" s_modules_error := ⟨_, _, fun_mk l9 c9 k9, PySem.W.mg_of X G a9⟩
  have d__law_shuffled : Df K mg "_law_shuffled" s__law_shuffled := ⟨_, _, fun_mk l10 c10 k10, PySem.W.mg_of X G a10⟩
  have d_is_pair : Df K mg "is_pair" s_is_pair := ⟨_, _, fun_mk l11 c11 k11, PySem.W.mg_of X G a11⟩
  have d_uses_error : Df K mg "uses_error" s_uses_error := ⟨_, _, fun_mk l12 c12 k12, PySem.W.mg_of X G a12⟩
  have d_last_name : Df K mg "last_name" s_last_name := ⟨_, _, fun_mk l13 c13 k13, PySem.W.mg_of X G a13⟩
  have d_program_error : Df K mg "program_error" s_program_error := ⟨_, _, fun_mk l14 c14 k14, PySem.W.mg_of X G a14⟩
  have d_parts_of : Df K mg "parts_of" s_parts_of := ⟨_, _, fun_mk l15 c15 k15, PySem.W.mg_of X G a15⟩
  have d__law_shown : Df K mg "_law_shown" s__law_shown := ⟨_, _, fun_mk l20 c20 k20, PySem.W.mg_of X G a20⟩
  have d__law_homes : Df K mg "_law_homes" s__law_homes := ⟨_, _, fun_mk l21 c21 k21, PySem.W.mg_of X G a21⟩
  have d__law_modules : Df K mg "_law_modules" s__law_modules := ⟨_, _, fun_mk l22 c22 k22, PySem.W.mg_of X G a22⟩
  have d__law_uses : Df K mg "_law_uses" s__law_uses := ⟨_, _, fun_mk l23 c23 k23, PySem.W.mg_of X G a23⟩
  have d__law_last : Df K mg "_law_last" s__law_last := ⟨_, _, fun_mk l24 c24 k24, PySem.W.mg_of X G a24⟩
  have d__law_places : Df K mg "_law_places" s__law_places := ⟨_, _, fun_mk l25 c25 k25, PySem.W.mg_of X G a25⟩
  have d__law_carried : Df K mg "_law_carried" s__law_carried := ⟨_, _, fun_mk l26 c26 k26, PySem.W.mg_of X G a26⟩
  have d__law_parts : Df K mg "_law_parts" s__law_parts := ⟨_, _, fun_mk l27 c27 k27, PySem.W.mg_of X G a27⟩
  have d__law_has_right : Df K mg "_law_has_right" s__law_has_right := ⟨_, _, fun_mk l29 c29 k29, PySem.W.mg_of X G a29⟩
  have d_moved : Df K mg "moved" s_moved := ⟨_, _, fun_mk l30 c30 k30, PySem.W.mg_of X G a30⟩
  have d__law_stream : Df K mg "_law_stream" s__law_stream := ⟨_, _, fun_mk l32 c32 k32, PySem.W.mg_of X G a32⟩
  have c__law_draw := ok__law_draw (P := l.prog) (w := w) (mg := mg) (base := base) d__law_draw m_len m_int
  have c__law_pick := ok__law_pick (P := l.prog) (w := w) (mg := mg) (base := base) d__law_pick m_len c__law_draw
  have c__law_names := ok__law_names (P := l.prog) (w := w) (mg := mg) (base := base) d__law_names m_range m_int c__law_pick c__law_draw
  have c__law_areas := ok__law_areas (P := l.prog) (w := w) (mg := mg) (base := base) d__law_areas c__law_pick c__law_draw
  have c_is_name := ok_is_name (P := l.prog) (w := w) (mg := mg) (base := base) d_is_name m_all m_len m_str m_isinstance g_LETTERS g_MAX_LETTERS
  have c_is_path := ok_is_path (P := l.prog) (w := w) (mg := mg) (base := base) d_is_path m_all m_len m_str m_isinstance g_MAX_NAMES c_is_name
  have c_covers := ok_covers (P := l.prog) (w := w) (mg := mg) (base := base) d_covers 
  have c_overlap := ok_overlap (P := l.prog) (w := w) (mg := mg) (base := base) d_overlap c_covers
  have c_first_overlap := ok_first_overlap (P := l.prog) (w := w) (mg := mg) (base := base) d_first_overlap c_overlap
  have c_modules_error := ok_modules_error (P := l.prog) (w := w) (mg := mg) (base := base) d_modules_error m_enumerate m_len m_tuple m_isinstance g_MAX_MODULES c_first_overlap c_is_path
  have c__law_shuffled := ok__law_shuffled (P := l.prog) (w := w) (mg := mg) (base := base) d__law_shuffled m_len c__law_draw
  have c_is_pair := ok_is_pair (P := l.prog) (w := w) (mg := mg) (base := base) d_is_pair m_str m_isinstance m_len m_tuple o_Program
  have c_uses_error := ok_uses_error (P := l.prog) (w := w) (mg := mg) (base := base) d_uses_error m_enumerate m_len m_tuple m_isinstance g_MAX_USES c_is_pair
  have c_last_name := ok_last_name (P := l.prog) (w := w) (mg := mg) (base := base) d_last_name 
  have c_program_error := ok_program_error (P := l.prog) (w := w) (mg := mg) (base := base) d_program_error c_uses_error c_modules_error
  have c_parts_of := ok_parts_of (P := l.prog) (w := w) (mg := mg) (base := base) d_parts_of m_sorted m_tuple m_range m_len
  have c_Program___init__ := ok_Program___init__ (P := l.prog) (w := w) (mg := mg) (base := base) m_sorted m_tuple k_Program n_Program_heads n_Program_links n_Program_places c_parts_of c_program_error (PySem.W.mg_of X G kc0_Program) ⟨_, _, fun_mk l16 c16 k16, ⟨mb16, a16, ma16, mc16⟩⟩
  have c_Program_modules := ok_Program_modules (P := l.prog) (w := w) (mg := mg) (base := base) k_Program n_Program_places ⟨_, _, _, fun_mk l17 c17 k17, ⟨a17, pa17, pb17, _, pc17⟩⟩
  have c_Program_parts := ok_Program_parts (P := l.prog) (w := w) (mg := mg) (base := base) k_Program n_Program_heads ⟨_, _, _, fun_mk l18 c18 k18, ⟨a18, pa18, pb18, _, pc18⟩⟩
  have c_Program_uses := ok_Program_uses (P := l.prog) (w := w) (mg := mg) (base := base) k_Program n_Program_links ⟨_, _, _, fun_mk l19 c19 k19, ⟨a19, pa19, pb19, _, pc19⟩⟩
  have c__law_shown := ok__law_shown (P := l.prog) (w := w) (mg := mg) (base := base) d__law_shown c_Program_parts c_Program_uses c_Program_modules
  have c__law_homes := ok__law_homes (P := l.prog) (w := w) (mg := mg) (base := base) d__law_homes m_tuple c__law_draw c__law_pick
  have c__law_modules := ok__law_modules (P := l.prog) (w := w) (mg := mg) (base := base) d__law_modules c__law_pick c__law_draw
  have c__law_uses := ok__law_uses (P := l.prog) (w := w) (mg := mg) (base := base) d__law_uses m_range m_len m_min c__law_draw c__law_pick
  have c__law_last := ok__law_last (P := l.prog) (w := w) (mg := mg) (base := base) d__law_last 
  have c__law_places := ok__law_places (P := l.prog) (w := w) (mg := mg) (base := base) d__law_places c__law_last
  have c__law_carried := ok__law_carried (P := l.prog) (w := w) (mg := mg) (base := base) d__law_carried c__law_places
  have c__law_parts := ok__law_parts (P := l.prog) (w := w) (mg := mg) (base := base) d__law_parts m_sorted m_set m_tuple m_range m_len
  have c_Program___contains__ := ok_Program___contains__ (P := l.prog) (w := w) (mg := mg) (base := base) m_str m_isinstance k_Program n_Program_links o_Program n_Program_heads c_is_pair ⟨_, _, fun_mk l28 c28 k28, ⟨a28, ma28, k28⟩⟩
  have c__law_has_right := ok__law_has_right (P := l.prog) (w := w) (mg := mg) (base := base) d__law_has_right c_Program___contains__ c__law_parts
  have c_moved := ok_moved (P := l.prog) (w := w) (mg := mg) (base := base) d_moved m_tuple m_sorted m_dict k_Program x_Clash c_Program_modules c_Program___init__ c_Program_uses c_first_overlap c_last_name
  have c_Program___eq__ := ok_Program___eq__ (P := l.prog) (w := w) (mg := mg) (base := base) m_isinstance k_Program n_Program_links n_Program_places i_Program mg_Program ⟨_, _, fun_mk l31 c31 k31, ⟨a31, ma31, k31⟩⟩
  have c__law_stream := ok__law_stream (P := l.prog) (w := w) (mg := mg) (base := base) d__law_stream m_abs
  exact ok_law (fun_mk l33 c33 k33) c__law_stream m_range m_sorted m_tuple m_len m_list k_Program i_Program c__law_shown c__law_parts c_moved c_Program___eq__ c_Program___init__ c__law_has_right c__law_carried c__law_places c__law_shuffled c__law_draw c__law_pick c__law_homes c__law_uses c__law_modules c__law_areas c__law_names
set_option maxHeartbeats 0
theorem factsR {l : PySem.W.OpenLaw} {w : World} {K : PySem.W.Frag} {h : Heap} {mg : Str → Option Value} {fa : Addr} (X : K.In h) (G : h.Ns mainGlobals mg) (hfa : mg "law" = some (.ref fa)) (c : SaysY exR fnsR tabsR w K) :
    ∃ fd : FuncData, (∀ (s : Shared) (v : Value), BindsTo s fd ⟨[v], []⟩ [("_law_script", v)]) ∧ ∀ base : Heap, K.In base → base.Ns mainGlobals mg → FnOk l.prog w K mg base CX0 9 fa fd ["_law_script"] (spLaw K) := by
  have fact : ∀ (i j : Nat) {l : List FrB} {f : FrB}, exsR[i]? = some l → l[j]? = some f → f K = true := fun i j {l f} h1 h2 => List.all_eq_true.mp (c.fact i (f := fun K => l.all fun f => f K) (by unfold exR; rw [List.getElem?_map, h1]; rfl)) f (List.mem_of_getElem? h2)
  obtain ⟨_, F0⟩ : ∃ fd, FunD K "_law_draw" "_law_draw" (defArgs s__law_draw) (defBody s__law_draw) (defScope s__law_draw) [] [] (He.ga K "_law_draw") fd := c.def_ 0 rfl
  obtain ⟨_, _, _, _, _, _, _, _, _, l0, c0, k0⟩ := raw_fn F0
  obtain ⟨_, F1⟩ : ∃ fd, FunD K "_law_pick" "_law_pick" (defArgs s__law_pick) (defBody s__law_pick) (defScope s__law_pick) [] [] (He.ga K "_law_pick") fd := c.def_ 1 rfl
  obtain ⟨_, _, _, _, _, _, _, _, _, l1, c1, k1⟩ := raw_fn F1
  obtain ⟨_, F2⟩ : ∃ fd, FunD K "_law_names" "_law_names" (defArgs s__law_names) (defBody s__law_names) (defScope s__law_names) [] [] (He.ga K "_law_names") fd := c.def_ 2 rfl
  obtain ⟨_, _, _, _, _, _, _, _, _, l2, c2, k2⟩ := raw_fn F2
  obtain ⟨_, F3⟩ : ∃ fd, FunD K "_law_areas" "_law_areas" (defArgs s__law_areas) (defBody s__law_areas) (defScope s__law_areas) [] [] (He.ga K "_law_areas") fd := c.def_ 3 rfl
  obtain ⟨_, _, _, _, _, _, _, _, _, l3, c3, k3⟩ := raw_fn F3
  obtain ⟨_, F4⟩ : ∃ fd, FunD K "is_name" "is_name" (defArgs s_is_name) (defBody s_is_name) (defScope s_is_name) [] [] (He.ga K "is_name") fd := c.def_ 4 rfl
  obtain ⟨_, _, _, _, _, _, _, _, _, l4, c4, k4⟩ := raw_fn F4
  obtain ⟨_, F5⟩ : ∃ fd, FunD K "is_path" "is_path" (defArgs s_is_path) (defBody s_is_path) (defScope s_is_path) [] [] (He.ga K "is_path") fd := c.def_ 5 rfl
  obtain ⟨_, _, _, _, _, _, _, _, _, l5, c5, k5⟩ := raw_fn F5
  obtain ⟨_, F6⟩ : ∃ fd, FunD K "covers" "covers" (defArgs s_covers) (defBody s_covers) (defScope s_covers) [] [] (He.ga K "covers") fd := c.def_ 6 rfl
  obtain ⟨_, _, _, _, _, _, _, _, _, l6, c6, k6⟩ := raw_fn F6
  obtain ⟨_, F7⟩ : ∃ fd, FunD K "overlap" "overlap" (defArgs s_overlap) (defBody s_overlap) (defScope s_overlap) [] [] (He.ga K "overlap") fd := c.def_ 7 rfl
  obtain ⟨_, _, _, _, _, _, _, _, _, l7, c7, k7⟩ := raw_fn F7
  obtain ⟨_, F8⟩ : ∃ fd, FunD K "first_overlap" "first_overlap" (defArgs s_first_overlap) (defBody s_first_overlap) (defScope s_first_overlap) [] [] (He.ga K "first_overlap") fd := c.def_ 8 rfl
  obtain ⟨_, _, _, _, _, _, _, _, _, l8, c8, k8⟩ := raw_fn F8
  obtain ⟨_, F9⟩ : ∃ fd, FunD K "modules_error" "modules_error" (defArgs s_modules_error) (defBody s_modules_error) (defScope s_modules_error) [] [] (He.ga K "modules_error") fd := c.def_ 9 rfl
  obtain ⟨_, _, _, _, _, _, _, _, _, l9, c9, k9⟩ := raw_fn F9
  obtain ⟨_, F10⟩ : ∃ fd, FunD K "_law_shuffled" "_law_shuffled" (defArgs s__law_shuffled) (defBody s__law_shuffled) (defScope s__law_shuffled) [] [] (He.ga K "_law_shuffled") fd := c.def_ 10 rfl
  obtain ⟨_, _, _, _, _, _, _, _, _, l10, c10, k10⟩ := raw_fn F10
  obtain ⟨_, F11⟩ : ∃ fd, FunD K "is_pair" "is_pair" (defArgs s_is_pair) (defBody s_is_pair) (defScope s_is_pair) [] [] (He.ga K "is_pair") fd := c.def_ 11 rfl
  obtain ⟨_, _, _, _, _, _, _, _, _, l11, c11, k11⟩ := raw_fn F11
  obtain ⟨_, F12⟩ : ∃ fd, FunD K "uses_error" "uses_error" (defArgs s_uses_error) (defBody s_uses_error) (defScope s_uses_error) [] [] (He.ga K "uses_error") fd := c.def_ 12 rfl
  obtain ⟨_, _, _, _, _, _, _, _, _, l12, c12, k12⟩ := raw_fn F12
  obtain ⟨_, F13⟩ : ∃ fd, FunD K "last_name" "last_name" (defArgs s_last_name) (defBody s_last_name) (defScope s_last_name) [] [] (He.ga K "last_name") fd := c.def_ 13 rfl
  obtain ⟨_, _, _, _, _, _, _, _, _, l13, c13, k13⟩ := raw_fn F13
  obtain ⟨_, F14⟩ : ∃ fd, FunD K "program_error" "program_error" (defArgs s_program_error) (defBody s_program_error) (defScope s_program_error) [] [] (He.ga K "program_error") fd := c.def_ 14 rfl
  obtain ⟨_, _, _, _, _, _, _, _, _, l14, c14, k14⟩ := raw_fn F14
  obtain ⟨_, F15⟩ : ∃ fd, FunD K "parts_of" "parts_of" (defArgs s_parts_of) (defBody s_parts_of) (defScope s_parts_of) [] [] (He.ga K "parts_of") fd := c.def_ 15 rfl
  obtain ⟨_, _, _, _, _, _, _, _, _, l15, c15, k15⟩ := raw_fn F15
  obtain ⟨_, F16⟩ : ∃ fd, FunD K "__init__" "Program.__init__" (defArgs s_Program___init__) (defBody s_Program___init__) (defScope s_Program___init__) [] [] (He.ma K (He.ga K "Program") "__init__") fd := c.def_ 16 rfl
  obtain ⟨_, _, _, _, _, _, _, _, _, l16, c16, k16⟩ := raw_fn F16
  obtain ⟨_, F17⟩ : ∃ fd, FunD K "modules" "Program.modules" (defArgs s_Program_modules) (defBody s_Program_modules) (defScope s_Program_modules) [] [] (rcA K (He.ma K (He.ga K "Program") "modules") "property") fd := c.def_ 17 rfl
  obtain ⟨_, _, _, _, _, _, _, _, _, l17, c17, k17⟩ := raw_fn F17
  obtain ⟨_, F18⟩ : ∃ fd, FunD K "parts" "Program.parts" (defArgs s_Program_parts) (defBody s_Program_parts) (defScope s_Program_parts) [] [] (rcA K (He.ma K (He.ga K "Program") "parts") "property") fd := c.def_ 18 rfl
  obtain ⟨_, _, _, _, _, _, _, _, _, l18, c18, k18⟩ := raw_fn F18
  obtain ⟨_, F19⟩ : ∃ fd, FunD K "uses" "Program.uses" (defArgs s_Program_uses) (defBody s_Program_uses) (defScope s_Program_uses) [] [] (rcA K (He.ma K (He.ga K "Program") "uses") "property") fd := c.def_ 19 rfl
  obtain ⟨_, _, _, _, _, _, _, _, _, l19, c19, k19⟩ := raw_fn F19
  obtain ⟨_, F20⟩ : ∃ fd, FunD K "_law_shown" "_law_shown" (defArgs s__law_shown) (defBody s__law_shown) (defScope s__law_shown) [] [] (He.ga K "_law_shown") fd := c.def_ 20 rfl
  obtain ⟨_, _, _, _, _, _, _, _, _, l20, c20, k20⟩ := raw_fn F20
  obtain ⟨_, F21⟩ : ∃ fd, FunD K "_law_homes" "_law_homes" (defArgs s__law_homes) (defBody s__law_homes) (defScope s__law_homes) [] [] (He.ga K "_law_homes") fd := c.def_ 21 rfl
  obtain ⟨_, _, _, _, _, _, _, _, _, l21, c21, k21⟩ := raw_fn F21
  obtain ⟨_, F22⟩ : ∃ fd, FunD K "_law_modules" "_law_modules" (defArgs s__law_modules) (defBody s__law_modules) (defScope s__law_modules) [] [] (He.ga K "_law_modules") fd := c.def_ 22 rfl
  obtain ⟨_, _, _, _, _, _, _, _, _, l22, c22, k22⟩ := raw_fn F22
  obtain ⟨_, F23⟩ : ∃ fd, FunD K "_law_uses" "_law_uses" (defArgs s__law_uses) (defBody s__law_uses) (defScope s__law_uses) [] [] (He.ga K "_law_uses") fd := c.def_ 23 rfl
  obtain ⟨_, _, _, _, _, _, _, _, _, l23, c23, k23⟩ := raw_fn F23
  obtain ⟨_, F24⟩ : ∃ fd, FunD K "_law_last" "_law_last" (defArgs s__law_last) (defBody s__law_last) (defScope s__law_last) [] [] (He.ga K "_law_last") fd := c.def_ 24 rfl
  obtain ⟨_, _, _, _, _, _, _, _, _, l24, c24, k24⟩ := raw_fn F24
  obtain ⟨_, F25⟩ : ∃ fd, FunD K "_law_places" "_law_places" (defArgs s__law_places) (defBody s__law_places) (defScope s__law_places) [] [] (He.ga K "_law_places") fd := c.def_ 25 rfl
  obtain ⟨_, _, _, _, _, _, _, _, _, l25, c25, k25⟩ := raw_fn F25
  obtain ⟨_, F26⟩ : ∃ fd, FunD K "_law_carried" "_law_carried" (defArgs s__law_carried) (defBody s__law_carried) (defScope s__law_carried) [] [] (He.ga K "_law_carried") fd := c.def_ 26 rfl
  obtain ⟨_, _, _, _, _, _, _, _, _, l26, c26, k26⟩ := raw_fn F26
  obtain ⟨_, F27⟩ : ∃ fd, FunD K "_law_parts" "_law_parts" (defArgs s__law_parts) (defBody s__law_parts) (defScope s__law_parts) [] [] (He.ga K "_law_parts") fd := c.def_ 27 rfl
  obtain ⟨_, _, _, _, _, _, _, _, _, l27, c27, k27⟩ := raw_fn F27
  obtain ⟨_, F28⟩ : ∃ fd, FunD K "__contains__" "Program.__contains__" (defArgs s_Program___contains__) (defBody s_Program___contains__) (defScope s_Program___contains__) [] [] (He.ma K (He.ga K "Program") "__contains__") fd := c.def_ 28 rfl
  obtain ⟨_, _, _, _, _, _, _, _, _, l28, c28, k28⟩ := raw_fn F28
  obtain ⟨_, F29⟩ : ∃ fd, FunD K "_law_has_right" "_law_has_right" (defArgs s__law_has_right) (defBody s__law_has_right) (defScope s__law_has_right) [] [] (He.ga K "_law_has_right") fd := c.def_ 29 rfl
  obtain ⟨_, _, _, _, _, _, _, _, _, l29, c29, k29⟩ := raw_fn F29
  obtain ⟨_, F30⟩ : ∃ fd, FunD K "moved" "moved" (defArgs s_moved) (defBody s_moved) (defScope s_moved) [] [] (He.ga K "moved") fd := c.def_ 30 rfl
  obtain ⟨_, _, _, _, _, _, _, _, _, l30, c30, k30⟩ := raw_fn F30
  obtain ⟨_, F31⟩ : ∃ fd, FunD K "__eq__" "Program.__eq__" (defArgs s_Program___eq__) (defBody s_Program___eq__) (defScope s_Program___eq__) [] [] (He.ma K (He.ga K "Program") "__eq__") fd := c.def_ 31 rfl
  obtain ⟨_, _, _, _, _, _, _, _, _, l31, c31, k31⟩ := raw_fn F31
  obtain ⟨_, F32⟩ : ∃ fd, FunD K "_law_stream" "_law_stream" (defArgs s__law_stream) (defBody s__law_stream) (defScope s__law_stream) [] [] (He.ga K "_law_stream") fd := c.def_ 32 rfl
  obtain ⟨_, _, _, _, _, _, _, _, _, l32, c32, k32⟩ := raw_fn F32
  obtain ⟨_, F33⟩ : ∃ fd, FunD K "law" "law" (defArgs s_law) (defBody s_law) (defScope s_law) [] [] (He.ga K "law") fd := c.def_ 33 rfl
  obtain ⟨_, _, _, _, _, _, _, _, _, l33, c33, k33⟩ := raw_fn F33
  obtain ⟨_, Fx_Clash⟩ : ∃ fd, FunD K "__init__" "Clash.__init__" (defArgs s_x_Clash) (defBody s_x_Clash) (defScope s_x_Clash) [] [] (He.ma K (He.ga K "Clash") "__init__") fd := c.def_ 34 rfl
  obtain ⟨_, _, _, _, _, _, _, _, _, lx_Clash, cx_Clash, kx_Clash⟩ := raw_fn Fx_Clash
  obtain ⟨_, _, _, _, _, _, _, _, _, _, _, _, _, _, _, xl_Clash, xr_Clash⟩ := oex_of (fact 8 2 rfl rfl)
  exact all_mk X G hfa (of_decide_eq_true (fact 0 0 rfl rfl))
    (fact 0 1 rfl rfl)
    (fact 0 2 rfl rfl)
    (fact 0 3 rfl rfl)
    (of_decide_eq_true (fact 0 4 rfl rfl))
    (of_decide_eq_true (fact 0 5 rfl rfl))
    (of_decide_eq_true (fact 0 6 rfl rfl))
    (of_decide_eq_true (fact 0 7 rfl rfl))
    (of_decide_eq_true (fact 0 8 rfl rfl))
    (of_decide_eq_true (fact 0 9 rfl rfl))
    (of_decide_eq_true (fact 0 10 rfl rfl))
    (of_decide_eq_true (fact 0 11 rfl rfl))
    (of_decide_eq_true (fact 1 0 rfl rfl))
    (of_decide_eq_true (fact 1 1 rfl rfl))
    (of_decide_eq_true (fact 1 2 rfl rfl))
    (of_decide_eq_true (fact 1 3 rfl rfl))
    (of_decide_eq_true (fact 1 4 rfl rfl))
    (of_decide_eq_true (fact 1 5 rfl rfl))
    (of_decide_eq_true (fact 1 6 rfl rfl))
    (fact 1 7 rfl rfl)
    (of_decide_eq_true (fact 1 8 rfl rfl))
    (of_decide_eq_true (fact 1 9 rfl rfl))
    (of_decide_eq_true (fact 1 10 rfl rfl))
    (of_decide_eq_true (fact 1 11 rfl rfl))
    xl_Clash
    xr_Clash
    (of_decide_eq_true (fact 2 0 rfl rfl))
    (of_decide_eq_true (fact 2 1 rfl rfl))
    (of_decide_eq_true (fact 2 2 rfl rfl))
    (fact 2 3 rfl rfl)
    (of_decide_eq_true (fact 2 4 rfl rfl))
    (of_decide_eq_true (fact 2 5 rfl rfl))
    (of_decide_eq_true (fact 2 6 rfl rfl))
    lx_Clash
    cx_Clash
    kx_Clash
    (of_decide_eq_true (fact 2 7 rfl rfl))
    l0
    c0
    k0
    (of_decide_eq_true (fact 2 8 rfl rfl))
    l1
    c1
    k1
    (of_decide_eq_true (fact 2 9 rfl rfl))
    l2
    c2
    k2
    (of_decide_eq_true (fact 2 10 rfl rfl))
    l3
    c3
    k3
    (of_decide_eq_true (fact 2 11 rfl rfl))
    l4
    c4
    k4
    (of_decide_eq_true (fact 3 0 rfl rfl))
    l5
    c5
    k5
    (of_decide_eq_true (fact 3 1 rfl rfl))
    l6
    c6
    k6
    (of_decide_eq_true (fact 3 2 rfl rfl))
    l7
    c7
    k7
    (of_decide_eq_true (fact 3 3 rfl rfl))
    l8
    c8
    k8
    (of_decide_eq_true (fact 3 4 rfl rfl))
    l9
    c9
    k9
    (of_decide_eq_true (fact 3 5 rfl rfl))
    l10
    c10
    k10
    (of_decide_eq_true (fact 3 6 rfl rfl))
    l11
    c11
    k11
    (of_decide_eq_true (fact 3 7 rfl rfl))
    l12
    c12
    k12
    (of_decide_eq_true (fact 3 8 rfl rfl))
    l13
    c13
    k13
    (of_decide_eq_true (fact 3 9 rfl rfl))
    l14
    c14
    k14
    (of_decide_eq_true (fact 3 10 rfl rfl))
    l15
    c15
    k15
    (of_decide_eq_true (fact 3 11 rfl rfl))
    (fact 4 0 rfl rfl)
    (fact 4 1 rfl rfl)
    (fact 4 2 rfl rfl)
    l16
    c16
    k16
    (of_decide_eq_true (fact 4 3 rfl rfl))
    (of_decide_eq_true (fact 4 4 rfl rfl))
    (of_decide_eq_true (fact 4 5 rfl rfl))
    (of_decide_eq_true (fact 4 6 rfl rfl))
    l17
    c17
    k17
    (of_decide_eq_true (fact 4 7 rfl rfl))
    (of_decide_eq_true (fact 4 8 rfl rfl))
    (of_decide_eq_true (fact 4 9 rfl rfl))
    (of_decide_eq_true (fact 4 10 rfl rfl))
    l18
    c18
    k18
    (of_decide_eq_true (fact 4 11 rfl rfl))
    (of_decide_eq_true (fact 5 0 rfl rfl))
    (of_decide_eq_true (fact 5 1 rfl rfl))
    (of_decide_eq_true (fact 5 2 rfl rfl))
    l19
    c19
    k19
    (of_decide_eq_true (fact 5 3 rfl rfl))
    l20
    c20
    k20
    (of_decide_eq_true (fact 5 4 rfl rfl))
    l21
    c21
    k21
    (of_decide_eq_true (fact 5 5 rfl rfl))
    l22
    c22
    k22
    (of_decide_eq_true (fact 5 6 rfl rfl))
    l23
    c23
    k23
    (of_decide_eq_true (fact 5 7 rfl rfl))
    l24
    c24
    k24
    (of_decide_eq_true (fact 5 8 rfl rfl))
    l25
    c25
    k25
    (of_decide_eq_true (fact 5 9 rfl rfl))
    l26
    c26
    k26
    (of_decide_eq_true (fact 5 10 rfl rfl))
    l27
    c27
    k27
    (of_decide_eq_true (fact 5 11 rfl rfl))
    (fact 6 0 rfl rfl)
    l28
    c28
    k28
    (of_decide_eq_true (fact 6 1 rfl rfl))
    l29
    c29
    k29
    (of_decide_eq_true (fact 6 2 rfl rfl))
    l30
    c30
    k30
    (of_decide_eq_true (fact 6 3 rfl rfl))
    (fact 6 4 rfl rfl)
    l31
    c31
    k31
    (of_decide_eq_true (fact 6 5 rfl rfl))
    l32
    c32
    k32
    (of_decide_eq_true (fact 6 6 rfl rfl))
    l33
    c33
    k33
    (of_decide_eq_true (fact 6 7 rfl rfl))
    (of_decide_eq_true (fact 6 8 rfl rfl))
    (of_decide_eq_true (fact 6 9 rfl rfl))
    (of_decide_eq_true (fact 6 10 rfl rfl))
    (of_decide_eq_true (fact 6 11 rfl rfl))
    (of_decide_eq_true (fact 7 0 rfl rfl))
    (of_decide_eq_true (fact 7 1 rfl rfl))
    (of_decide_eq_true (fact 7 2 rfl rfl))
    (of_decide_eq_true (fact 7 3 rfl rfl))
    (of_decide_eq_true (fact 7 4 rfl rfl))
    (of_decide_eq_true (fact 7 5 rfl rfl))
    (of_decide_eq_true (fact 7 6 rfl rfl))
    (of_decide_eq_true (fact 7 7 rfl rfl))
    (of_decide_eq_true (fact 7 8 rfl rfl))
    (of_decide_eq_true (fact 7 9 rfl rfl))
    (of_decide_eq_true (fact 7 10 rfl rfl))
    (of_decide_eq_true (fact 7 11 rfl rfl))
    (of_decide_eq_true (fact 8 0 rfl rfl))
    (of_decide_eq_true (fact 8 1 rfl rfl))
end DL
open PySem PySem.W PySem.Calls PyProof.Rows
set_option maxHeartbeats 0 in
theorem PySem.Challenge.cw_mayrest_k68_modules_moved_holds : PySem.Challenge.rw_mayrest_k68_modules_moved.Holds := by
  w_on; o_law
  refine HandSHeadRun.head_any (r := OpenLaw.row PySem.Challenge.rw_mayrest_k68_modules_moved) (q := view (OpenLaw.row PySem.Challenge.rw_mayrest_k68_modules_moved).prog [47]) (H := DL.hkR) (ob := DL.obR) (M := 20000) (loose := DL.looseR) (d := HandSHeadRun.topDef (OpenLaw.row PySem.Challenge.rw_mayrest_k68_modules_moved).prog 47) (kwd := []) DL.obR_eq
    (by kernel_rfl) (fun s => by kernel_rfl) DL.runR (by kernel_rfl) (by kernel_rfl) (by kernel_rfl) (by rfl) (by first | assumption | decide +kernel) (by decide +kernel) ⟨rfl, rfl, rfl, rfl, rfl, by decide +kernel⟩ ?hw ?hc
  case hw => w_witness2
  case hc =>
    refine DL.walk_ofY (l := PySem.Challenge.rw_mayrest_k68_modules_moved) (k := 9) (x := "_law_script") rfl (by kernel_rfl) ⟨rfl, by decide, by decide⟩ ?_
    intro w mg fa h K KX c G hmg0
    have hmg : mg ("law" : PySem.Str) = some (.ref fa) := by
      have e : (HandSHeadRun.topDef (OpenLaw.row PySem.Challenge.rw_mayrest_k68_modules_moved).prog 47).name = ("law" : PySem.Str) := by kernel_rfl
      rw [← e]
      exact hmg0
    exact DL.factsR KX G hmg c
