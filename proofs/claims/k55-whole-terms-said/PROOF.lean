import PyProof.Rows.All
import HandS.ForMost
import HandS.ForExc
import HandS.WideBits
import HandS.Wide
import HandS.TupAny
import HandS.Conv
import PyProof.ListStr
import HandS.IsInst
import HandS.Style
import HandS.RevRange
import HandS.Codes
import HandS.Zip
import HandS.ExcValue
import HandS.HotCalls
import HandS.ExcIs
import HandS.ExcInit
import HandS.ExcField
import KE.KExcIs
import PyProof.ReprRoads
import PySem.Challenge.RW_countgen_k55_whole_terms_said
import PyProof.ReprLen
set_option Elab.async false
set_option linter.all false
set_option maxRecDepth 100000
set_option autoImplicit false
/-! G1: data and a store of things that change; what stands for them in a heap; a step; a frame. -/
namespace Gs
open PySem L2

inductive D where
  | non | bl (b : Bool) | int (i : Int) | str (x : Str) | tup (xs : List D) | lst (xs : List D) | dct (ks : List Key) (ds : List D)
  | ob (i : Nat) | fn (s : String) | ev (c : String) (ks : List Str) (ds : List D)
  deriving Inhabited
inductive O where
  | lst (xs : List D) | dK (kvs : List (Key × D)) | dT (kvs : List (List Key × D)) | ins (c : String) (fs : List (Str × D)) | gone
  deriving Inhabited
abbrev Sto := List O
def O.live : O → Bool
  | .gone => false
  | _ => true
/-- an exception's object, of the class cls, with the own dict d -/
def EvO (cls : Value) (d : Option Addr) (a : Addr) : HO := .ext fun h => ∃ (oe : Obj) (vs : Array Value), h.get? a = some oe ∧ Zc cls d oe ∧ oe.data = .fields vs

mutual
inductive Rep (K : PySem.W.Frag) (ct : String → Addr) (G : Hp) (m : Nat → Option Addr) : D → V → Prop
  | non : Rep K ct G m .non .non
  | bl (b : Bool) : Rep K ct G m (.bl b) (.bl b)
  | int (i : Int) : Rep K ct G m (.int i) (.int i)
  | str (x : Str) : Rep K ct G m (.str x) (.str x)
  | fn (s : String) : Rep K ct G m (.fn s) (.ref (ct s))
  | ob {i : Nat} {a : Addr} : m i = some a → Rep K ct G m (.ob i) (.ref a)
  | tup {a : Addr} {vs : List V} {ds : List D} : SqT K G a vs → RepL K ct G m ds vs → Rep K ct G m (.tup ds) (.ref a)
  | lst {a : Addr} {vs : List V} {ds : List D} : SqL K G a vs → RepL K ct G m ds vs → Rep K ct G m (.lst ds) (.ref a)
  | dct {a : Addr} {vs : List V} {ks : List Key} {ds : List D} : G a = some (.dK (ks.zip vs)) → ks.length = ds.length → RepL K ct G m ds vs → Rep K ct G m (.dct ks ds) (.ref a)
  | ev0 {a : Addr} {c : String} : G a = some (EvO (.ref (ct c)) none a) → Rep K ct G m (.ev c [] []) (.ref a)
  | ev {a d : Addr} {vs : List V} {c : String} {ks : List Str} {ds : List D} : ks ≠ [] → G a = some (EvO (.ref (ct c)) (some d) a) → G d = some (.xd (ks.zip vs)) → ks.length = ds.length → RepL K ct G m ds vs → Rep K ct G m (.ev c ks ds) (.ref a)
inductive RepL (K : PySem.W.Frag) (ct : String → Addr) (G : Hp) (m : Nat → Option Addr) : List D → List V → Prop
  | nil : RepL K ct G m [] []
  | cons {d : D} {v : V} {ds : List D} {vs : List V} : Rep K ct G m d v → RepL K ct G m ds vs → RepL K ct G m (d :: ds) (v :: vs)
end

def Grow (m m' : Nat → Option Addr) : Prop := ∀ i a, m i = some a → m' i = some a
theorem Grow.refl {m : Nat → Option Addr} : Grow m m := fun _ _ h => h
theorem Grow.trans {m m1 m2 : Nat → Option Addr} (a : Grow m m1) (b : Grow m1 m2) : Grow m m2 := fun i x h => b i x (a i x h)

theorem rd_mono {G G' : Hp} {a : Addr} {u : HO} (e : Same G G') (h : Rd G a u) : Rd G' a u := by
  rcases h with h | ⟨o, h⟩
  · exact .inl (e _ _ h)
  · exact .inr ⟨o, e _ _ h⟩
theorem sqt_mono {K : PySem.W.Frag} {G G' : Hp} {a : Addr} {xs : List V} (e : Same G G') (h : SqT K G a xs) : SqT K G' a xs := by
  rcases h with h | h
  · exact .inl (rd_mono e h)
  · exact .inr h
section
variable {K : PySem.W.Frag} {ct : String → Addr} {G G' : Hp} {m m' : Nat → Option Addr}
mutual
theorem Rep.mono (e : Same G G') (g : Grow m m') : ∀ {d : D} {v : V}, Rep K ct G m d v → Rep K ct G' m' d v
  | _, _, .non => .non
  | _, _, .bl b => .bl b
  | _, _, .int i => .int i
  | _, _, .str x => .str x
  | _, _, .fn a => .fn a
  | _, _, .ob h => .ob (g _ _ h)
  | _, _, .tup h r => .tup (sqt_mono e h) (RepL.mono e g r)
  | _, _, .lst h r => .lst (e.seq h) (RepL.mono e g r)
  | _, _, .dct h l r => .dct (e _ _ h) l (RepL.mono e g r)
  | _, _, .ev0 h => .ev0 (e _ _ h)
  | _, _, .ev n h h2 l r => .ev n (e _ _ h) (e _ _ h2) l (RepL.mono e g r)
theorem RepL.mono (e : Same G G') (g : Grow m m') : ∀ {ds : List D} {vs : List V}, RepL K ct G m ds vs → RepL K ct G' m' ds vs
  | _, _, .nil => .nil
  | _, _, .cons h r => .cons (Rep.mono e g h) (RepL.mono e g r)
end
theorem RepL.length : ∀ {ds : List D} {vs : List V}, RepL K ct G m ds vs → ds.length = vs.length
  | _, _, .nil => rfl
  | _, _, .cons _ r => by simp [RepL.length r]
theorem RepL.get : ∀ {ds : List D} {vs : List V} {i : Nat} {d : D}, RepL K ct G m ds vs → ds[i]? = some d → ∃ v, vs[i]? = some v ∧ Rep K ct G m d v
  | _, _, 0, _, .cons h _, e => by simp at e; subst e; exact ⟨_, rfl, h⟩
  | _, _, i + 1, d, .cons _ r, e => by
    obtain ⟨v, h1, h2⟩ := RepL.get (i := i) (d := d) r (by simpa using e)
    exact ⟨v, by simpa using h1, h2⟩
theorem RepL.append : ∀ {ds es : List D} {vs us : List V}, RepL K ct G m ds vs → RepL K ct G m es us → RepL K ct G m (ds ++ es) (vs ++ us)
  | _, _, _, _, .nil, s => s
  | _, _, _, _, .cons h r, s => .cons h (RepL.append r s)
theorem RepL.one {d : D} {v : V} (h : Rep K ct G m d v) : RepL K ct G m [d] [v] := .cons h .nil
theorem RepL.set : ∀ {ds : List D} {vs : List V} {d : D} {v : V} (i : Nat), RepL K ct G m ds vs → Rep K ct G m d v → RepL K ct G m (ds.set i d) (vs.set i v)
  | _, _, _, _, _, .nil, _ => .nil
  | _, _, _, _, 0, .cons _ r, h => .cons h r
  | _, _, _, _, i + 1, .cons q r, h => .cons q (RepL.set i r h)
theorem RepL.take : ∀ {ds : List D} {vs : List V} (n : Nat), RepL K ct G m ds vs → RepL K ct G m (ds.take n) (vs.take n)
  | _, _, 0, _ => .nil
  | _, _, _ + 1, .nil => .nil
  | _, _, n + 1, .cons h r => .cons h (RepL.take n r)
theorem RepL.drop : ∀ {ds : List D} {vs : List V} (n : Nat), RepL K ct G m ds vs → RepL K ct G m (ds.drop n) (vs.drop n)
  | _, _, 0, r => r
  | _, _, _ + 1, .nil => .nil
  | _, _, n + 1, .cons _ r => RepL.drop n r
theorem RepL.reverse : ∀ {ds : List D} {vs : List V}, RepL K ct G m ds vs → RepL K ct G m ds.reverse vs.reverse
  | _, _, .nil => .nil
  | _, _, .cons h r => by
    rw [List.reverse_cons, List.reverse_cons]
    exact RepL.append (RepL.reverse r) (RepL.one h)
theorem RepL.erase : ∀ {ds : List D} {vs : List V} (i : Nat), RepL K ct G m ds vs → RepL K ct G m (ds.eraseIdx i) (vs.eraseIdx i)
  | _, _, _, .nil => .nil
  | _, _, 0, .cons _ r => r
  | _, _, i + 1, .cons q r => .cons q (RepL.erase i r)
theorem RepL.insert : ∀ {ds : List D} {vs : List V} {d : D} {v : V} (i : Nat), RepL K ct G m ds vs → Rep K ct G m d v → RepL K ct G m (ds.take i ++ d :: ds.drop i) (vs.take i ++ v :: vs.drop i) := fun i r h =>
  (r.take i).append (.cons h (r.drop i))
theorem RepL.ints : ∀ ns : List Int, RepL K ct G m (ns.map D.int) (ns.map V.int)
  | [] => .nil
  | n :: r => .cons (.int n) (RepL.ints r)
theorem RepL.of_ints : ∀ {ns : List Int} {vs : List V}, RepL K ct G m (ns.map D.int) vs → vs = ns.map V.int
  | [], _, .nil => rfl
  | _ :: _, _, .cons (.int _) r => by rw [RepL.of_ints r]; rfl
theorem RepL.of_bls : ∀ {bs : List Bool} {vs : List V}, RepL K ct G m (bs.map D.bl) vs → vs = bs.map V.bl
  | [], _, .nil => rfl
  | _ :: _, _, .cons (.bl _) r => by rw [RepL.of_bls r]; rfl
theorem RepL.of_strs : ∀ {bs : List Str} {vs : List V}, RepL K ct G m (bs.map D.str) vs → vs = bs.map V.str
  | [], _, .nil => rfl
  | _ :: _, _, .cons (.str _) r => by rw [RepL.of_strs r]; rfl
end
/-- pairs of a key and a thing -/
inductive RepP {κ : Type} (K : PySem.W.Frag) (ct : String → Addr) (G : Hp) (m : Nat → Option Addr) : List (κ × D) → List (κ × V) → Prop
  | nil : RepP K ct G m [] []
  | cons {x : κ} {d : D} {v : V} {ds : List (κ × D)} {vs : List (κ × V)} : Rep K ct G m d v → RepP K ct G m ds vs → RepP K ct G m ((x, d) :: ds) ((x, v) :: vs)
section
variable {κ : Type} {K : PySem.W.Frag} {ct : String → Addr} {G G' : Hp} {m m' : Nat → Option Addr}
theorem RepP.mono (e : Same G G') (g : Grow m m') {ds : List (κ × D)} {vs : List (κ × V)} (r : RepP K ct G m ds vs) : RepP K ct G' m' ds vs := by
  induction r with
  | nil => exact .nil
  | cons h _ ih => exact .cons (h.mono e g) ih
theorem RepP.length {ds : List (κ × D)} {vs : List (κ × V)} (r : RepP K ct G m ds vs) : ds.length = vs.length := by
  induction r with
  | nil => rfl
  | cons h _ ih => simp [ih]
theorem RepP.keys {ds : List (κ × D)} {vs : List (κ × V)} (r : RepP K ct G m ds vs) : ds.map (·.1) = vs.map (·.1) := by
  induction r with
  | nil => rfl
  | cons h _ ih => simp [ih]
theorem RepP.vals {ds : List (κ × D)} {vs : List (κ × V)} (r : RepP K ct G m ds vs) : RepL K ct G m (ds.map (·.2)) (vs.map (·.2)) := by
  induction r with
  | nil => exact .nil
  | cons h _ ih => exact .cons h ih
theorem RepP.zip : ∀ {ks : List κ} {ds : List D} {vs : List V}, RepL K ct G m ds vs → RepP K ct G m (ks.zip ds) (ks.zip vs)
  | [], _, _, _ => .nil
  | _ :: _, _, _, .nil => .nil
  | _ :: _, _, _, .cons h r => .cons h (RepP.zip r)
theorem RepP.append {ds es : List (κ × D)} {vs us : List (κ × V)} (r : RepP K ct G m ds vs) (s : RepP K ct G m es us) : RepP K ct G m (ds ++ es) (vs ++ us) := by
  induction r with
  | nil => exact s
  | cons h _ ih => exact .cons h ih
theorem RepP.lookup [BEq κ] {ds : List (κ × D)} {vs : List (κ × V)} {x : κ} (r : RepP K ct G m ds vs) : (ds.lookup x = none ∧ vs.lookup x = none) ∨ ∃ d v, ds.lookup x = some d ∧ vs.lookup x = some v ∧ Rep K ct G m d v := by
  induction r with
  | nil => exact .inl ⟨rfl, rfl⟩
  | @cons y d v ds vs h _ ih =>
    simp only [List.lookup_cons]
    cases e : x == y with
    | true => exact .inr ⟨d, v, rfl, rfl, h⟩
    | false => exact ih
end

/-- the frozen heap, the whole heap, where the things of the store stand, the store -/
structure Vw where
  G : Hp
  H : Hp
  m : Nat → Option Addr
  st : Sto
/-- b belongs to a thing of the store -/
def Vw.owns (v : Vw) (b : Addr) : Prop := ∃ (i : Nat) (o : O) (a : Addr), v.st[i]? = some o ∧ o.live = true ∧ v.m i = some a ∧ (b = a ∨ ∃ C fs, v.H a = some (.ins C b fs))
def ORep (K : PySem.W.Frag) (ct : String → Addr) (v : Vw) (a : Addr) : O → Prop
  | .lst xs => ∃ vs, v.H a = some (.lst vs) ∧ RepL K ct v.G v.m xs vs
  | .dK kvs => ∃ vs, v.H a = some (.dK vs) ∧ RepP K ct v.G v.m kvs vs
  | .dT kvs => ∃ vs, v.H a = some (.dT vs) ∧ RepP K ct v.G v.m kvs vs
  | .ins c fs => ∃ dx vs, v.H a = some (.ins (ct c) dx vs) ∧ v.H dx = some (.own a) ∧ v.G dx = none ∧ RepP K ct v.G v.m fs vs
  | .gone => True
structure SR (K : PySem.W.Frag) (ct : String → Addr) (v : Vw) : Prop where
  sub : Same v.G v.H
  dom : ∀ i, v.st.length ≤ i → v.m i = none
  obj : ∀ (i : Nat) (o : O), v.st[i]? = some o → o.live = true → ∃ a, v.m i = some a ∧ v.G a = none ∧ ORep K ct v a o
  inj : ∀ (i j : Nat) (o u : O) (a : Addr), v.st[i]? = some o → v.st[j]? = some u → o.live = true → u.live = true → v.m i = some a → v.m j = some a → i = j
/-- a step: what was frozen is so still, what was tracked and is none of the store's stands -/
structure Le (v v' : Vw) : Prop where
  g : Same v.G v'.G
  m : Grow v.m v'.m
  h : ∀ b o, v.H b = some o → ¬ v.owns b → v'.H b = some o
  nw : ∀ b, v'.G b ≠ none → v.G b ≠ none ∨ v.H b = none ∨ v.owns b
  ow : ∀ b, v'.owns b → v.owns b ∨ v.H b = none
  al : ∀ b, v'.H b = none → v.H b = none
theorem same_none {H H' : Hp} (s : Same H H') (b : Addr) (h : H' b = none) : H b = none := s.free h
theorem Le.refl {v : Vw} : Le v v := ⟨Same.refl _, .refl, fun _ _ h _ => h, fun _ h => .inl h, fun _ h => .inl h, fun _ h => h⟩
theorem Le.trans {a b c : Vw} (x : Le a b) (y : Le b c) : Le a c := by
  have key : ∀ p, b.H p = none ∨ b.owns p → a.H p = none ∨ a.owns p := fun p z => by
    cases e : a.H p with
    | none => exact .inl rfl
    | some o =>
      by_cases q : a.owns p
      · exact .inr q
      · have h1 := x.h p o e q
        rcases z with z | z
        · rw [h1] at z; cases z
        · rcases x.ow p z with z | z
          · exact .inr z
          · rw [e] at z; cases z
  refine ⟨x.g.trans y.g, x.m.trans y.m, fun p o h n => ?_, fun p h => ?_, fun p h => ?_, fun p h => x.al p (y.al p h)⟩
  · refine y.h p o (x.h p o h n) fun z => ?_
    rcases x.ow p z with z | z
    · exact n z
    · rw [h] at z; cases z
  · rcases y.nw p h with z | z
    · exact x.nw p z
    · exact .inr (key p z)
  · rcases y.ow p h with z | z
    · exact x.ow p z
    · exact (key p (.inl z)).symm
theorem same_new {H : Hp} {p : Addr} (h : H p = none) (o : HO) : Same H (upd H p o) := fun b u q => by rw [upd_ne (ne_of_none q h)]; exact q
theorem same_upd {G H : Hp} {p : Addr} {o : HO} (s : Same G H) : Same (upd G p o) (upd H p o) := fun b u q => by
  unfold upd at *
  by_cases e : b = p
  · rw [if_pos e] at q ⊢
    exact q
  · rw [if_neg e] at q ⊢
    exact s _ _ q
section
variable {K : PySem.W.Frag} {ct : String → Addr}
theorem Le.rep {v v' : Vw} {d : D} {x : V} (l : Le v v') (r : Rep K ct v.G v.m d x) : Rep K ct v'.G v'.m d x := r.mono l.g l.m
theorem Le.repl {v v' : Vw} {d : List D} {x : List V} (l : Le v v') (r : RepL K ct v.G v.m d x) : RepL K ct v'.G v'.m d x := r.mono l.g l.m
theorem SR.obj_ne {v : Vw} (s : SR K ct v) {i : Nat} {o : O} {a : Addr} (h : v.st[i]? = some o) (l : o.live = true) (e : v.m i = some a) : v.G a = none ∧ ∃ u, v.H a = some u ∧ ∀ x, u ≠ .own x := by
  obtain ⟨a', e', g, r⟩ := s.obj i o h l
  rw [e] at e'
  cases e'
  refine ⟨g, ?_⟩
  cases o with
  | gone => cases l
  | lst xs => obtain ⟨vs, h, _⟩ := r; exact ⟨_, h, fun _ z => nomatch z⟩
  | dK xs => obtain ⟨vs, h, _⟩ := r; exact ⟨_, h, fun _ z => nomatch z⟩
  | dT xs => obtain ⟨vs, h, _⟩ := r; exact ⟨_, h, fun _ z => nomatch z⟩
  | ins c fs => obtain ⟨dx, vs, h, _⟩ := r; exact ⟨_, h, fun _ z => nomatch z⟩
/-- the own dict of an instance of the store -/
theorem SR.dx {v : Vw} (s : SR K ct v) {i : Nat} {o : O} {a C b : Addr} {fs : List (Str × V)} (h : v.st[i]? = some o) (l : o.live = true) (e : v.m i = some a) (hi : v.H a = some (.ins C b fs)) : v.H b = some (.own a) ∧ v.G b = none := by
  obtain ⟨a', e', g, r⟩ := s.obj i o h l
  rw [e] at e'
  cases e'
  cases o with
  | gone => cases l
  | lst xs => obtain ⟨vs, h, _⟩ := r; rw [hi] at h; cases h
  | dK xs => obtain ⟨vs, h, _⟩ := r; rw [hi] at h; cases h
  | dT xs => obtain ⟨vs, h, _⟩ := r; rw [hi] at h; cases h
  | ins c fs =>
    obtain ⟨dx, vs, h, h2, h3, _⟩ := r
    rw [hi] at h
    cases h
    exact ⟨h2, h3⟩
/-- what is the store's is tracked and not frozen -/
theorem SR.owns_tracked {v : Vw} (s : SR K ct v) {b : Addr} (h : v.owns b) : v.G b = none ∧ ∃ u, v.H b = some u := by
  obtain ⟨i, o, a, e, l, em, h⟩ := h
  rcases h with rfl | ⟨C, fs, h⟩
  · obtain ⟨g, u, hu, _⟩ := s.obj_ne e l em
    exact ⟨g, u, hu⟩
  · obtain ⟨h1, h2⟩ := s.dx e l em h
    exact ⟨h2, _, h1⟩
theorem SR.not_owned {v : Vw} (s : SR K ct v) {b : Addr} (h : v.H b = none) : ¬ v.owns b := fun z => by
  obtain ⟨_, u, hu⟩ := s.owns_tracked z
  rw [h] at hu
  cases hu
theorem ORep.mono' {v v' : Vw} {a : Addr} {o : O} (g : Same v.G v'.G) (m : Grow v.m v'.m) (ha : v'.H a = v.H a) (hd : ∀ C dx fs, v.H a = some (.ins C dx fs) → v.H dx = some (.own a) → v.G dx = none → v'.H dx = v.H dx ∧ v'.G dx = none) (r : ORep K ct v a o) : ORep K ct v' a o := by
  cases o with
  | gone => trivial
  | lst xs => obtain ⟨vs, h, r⟩ := r; exact ⟨vs, ha.trans h, r.mono g m⟩
  | dK xs => obtain ⟨vs, h, r⟩ := r; exact ⟨vs, ha.trans h, r.mono g m⟩
  | dT xs => obtain ⟨vs, h, r⟩ := r; exact ⟨vs, ha.trans h, r.mono g m⟩
  | ins c fs =>
    obtain ⟨dx, vs, h, h2, h3, r⟩ := r
    obtain ⟨h4, h5⟩ := hd _ _ _ h h2 h3
    exact ⟨dx, vs, ha.trans h, h4.trans h2, h5, r.mono g m⟩
theorem SR.free {v : Vw} (s : SR K ct v) {p : Addr} (h : v.H p = none) : v.G p = none := s.sub.free h
/-- the heaps go on, the store is as it was -/
theorem grow_ok {v : Vw} {G' H' : Hp} (s : SR K ct v) (hg : Same v.G G') (hh : Same v.H H') (sub : Same G' H') (nw : ∀ b, G' b ≠ none → v.G b ≠ none ∨ v.H b = none) : Le v ⟨G', H', v.m, v.st⟩ ∧ SR K ct ⟨G', H', v.m, v.st⟩ := by
  have keepG : ∀ b u, v.H b = some u → v.G b = none → G' b = none := fun b u h g => by
    cases z : G' b with
    | none => rfl
    | some w =>
      rcases nw b (by rw [z]; exact fun y => nomatch y) with y | y
      · exact absurd g y
      · rw [h] at y; cases y
  refine ⟨⟨hg, .refl, fun b u q _ => hh _ _ q, fun b q => (nw b q).imp id .inl, fun b ⟨i, u, a, e, l, em, q⟩ => ?_, same_none hh⟩, sub, s.dom, fun i u e l => ?_, s.inj⟩
  · rcases q with rfl | ⟨C, fs, q⟩
    · exact .inl ⟨i, u, b, e, l, em, .inl rfl⟩
    · obtain ⟨_, w, hw, _⟩ := s.obj_ne e l em
      have q' : H' a = some (.ins C b fs) := q
      rw [hh _ _ hw] at q'
      cases q'
      exact .inl ⟨i, u, a, e, l, em, .inr ⟨C, fs, hw⟩⟩
  · obtain ⟨a, em, ga, r⟩ := s.obj i u e l
    obtain ⟨_, w, hw, _⟩ := s.obj_ne e l em
    exact ⟨a, em, keepG _ _ hw ga, r.mono' hg .refl ((hh _ _ hw).trans hw.symm) fun C dx fs _ q1 q2 => ⟨(hh _ _ q1).trans q1.symm, keepG _ _ q1 q2⟩⟩
/-- a new object at p, frozen -/
def Vw.new (v : Vw) (p : Addr) (o : HO) : Vw := ⟨upd v.G p o, upd v.H p o, v.m, v.st⟩
theorem new_ok {v : Vw} {p : Addr} {o : HO} (s : SR K ct v) (h : v.H p = none) : Le v (v.new p o) ∧ SR K ct (v.new p o) :=
  grow_ok s (same_new (s.free h) _) (same_new h _) (same_upd s.sub) fun b q => by
    by_cases z : b = p
    · exact .inr (z ▸ h)
    · rw [upd_ne z] at q
      exact .inl q
theorem more_ok {v : Vw} {H' : Hp} (s : SR K ct v) (h : Same v.H H') : Le v ⟨v.G, H', v.m, v.st⟩ ∧ SR K ct ⟨v.G, H', v.m, v.st⟩ :=
  grow_ok s (Same.refl _) h (s.sub.trans h) fun _ q => .inl q

/-! ### things of the store -/
def mset (m : Nat → Option Addr) (i : Nat) (a : Addr) : Nat → Option Addr := fun j => if j = i then some a else m j
theorem mset_same {m : Nat → Option Addr} {i : Nat} {a : Addr} : mset m i a i = some a := if_pos rfl
theorem mset_ne {m : Nat → Option Addr} {i j : Nat} {a : Addr} (h : j ≠ i) : mset m i a j = m j := if_neg h
theorem mset_grow {m : Nat → Option Addr} {i : Nat} {a : Addr} (h : m i = none) : Grow m (mset m i a) := fun j b e => by
  rw [mset_ne]
  · exact e
  · intro z; rw [z, h] at e; cases e
theorem get_snoc {st : Sto} {o u : O} {i : Nat} (e : (st ++ [o])[i]? = some u) : (i < st.length ∧ st[i]? = some u) ∨ (i = st.length ∧ u = o) := by
  by_cases z : i < st.length
  · rw [List.getElem?_append_left z] at e
    exact .inl ⟨z, e⟩
  · rw [List.getElem?_append_right (Nat.not_lt.mp z)] at e
    have h0 : i - st.length = 0 := by
      have := (List.getElem?_eq_some_iff.mp e).1
      simp only [List.length_cons, List.length_nil] at this
      omega
    rw [h0] at e
    simp only [List.getElem?_cons_zero, Option.some.injEq] at e
    exact .inr ⟨by omega, e.symm⟩
/-- a new thing of the store: its address, the heap with it -/
def Vw.alloc (v : Vw) (p : Addr) (H' : Hp) (o : O) : Vw := ⟨v.G, H', mset v.m v.st.length p, v.st ++ [o]⟩
theorem alloc_ok {v : Vw} {p : Addr} {H' : Hp} {o : O} (s : SR K ct v) (hp : v.H p = none) (hs : Same v.H H') (hn : ∀ C b fs, H' p = some (.ins C b fs) → v.H b = none)
    (r : ORep K ct (v.alloc p H' o) p o) : Le v (v.alloc p H' o) ∧ SR K ct (v.alloc p H' o) := by
  have m0 : v.m v.st.length = none := s.dom _ (Nat.le_refl _)
  have gr : Grow v.m (mset v.m v.st.length p) := mset_grow m0
  have np : ∀ {i : Nat} {u : O} {a : Addr}, v.st[i]? = some u → u.live = true → v.m i = some a → a ≠ p := fun e l em => by
    obtain ⟨_, w, hw, _⟩ := s.obj_ne e l em
    exact ne_of_none hw hp
  have get_snoc : ∀ {i : Nat} {u : O}, (v.alloc p H' o).st[i]? = some u → (i < v.st.length ∧ v.st[i]? = some u) ∨ (i = v.st.length ∧ u = o) := fun e => get_snoc e
  refine ⟨⟨Same.refl _, gr, fun b u q _ => hs _ _ q, fun b q => .inl q, fun b ⟨i, u, a, e, l, em, q⟩ => ?_, same_none hs⟩, s.sub.trans hs, fun i hi => ?_, fun i u e l => ?_, fun i j u w a e1 e2 l1 l2 m1 m2 => ?_⟩
  · have em' : mset v.m v.st.length p i = some a := em
    rcases get_snoc e with ⟨z, e⟩ | ⟨rfl, rfl⟩
    · rw [mset_ne (Nat.ne_of_lt z)] at em'
      rcases q with rfl | ⟨C, fs, q⟩
      · exact .inl ⟨i, u, b, e, l, em', .inl rfl⟩
      · obtain ⟨_, w, hw, _⟩ := s.obj_ne e l em'
        have q' : H' a = some (.ins C b fs) := q
        rw [hs _ _ hw] at q'
        cases q'
        exact .inl ⟨i, u, a, e, l, em', .inr ⟨C, fs, hw⟩⟩
    · rw [mset_same] at em'
      cases em'
      rcases q with rfl | ⟨C, fs, q⟩
      · exact .inr hp
      · exact .inr (hn C b fs q)
  · have hl : v.st.length + 1 ≤ i := by simpa [Vw.alloc] using hi
    show mset v.m v.st.length p i = none
    rw [mset_ne (by omega)]
    exact s.dom i (by omega)
  · rcases get_snoc e with ⟨z, e⟩ | ⟨rfl, rfl⟩
    · obtain ⟨a, em, ga, r⟩ := s.obj i u e l
      obtain ⟨_, w, hw, _⟩ := s.obj_ne e l em
      exact ⟨a, (mset_ne (Nat.ne_of_lt z)).trans em, ga, r.mono' (v := v) (v' := v.alloc p H' o) (Same.refl _) gr ((hs _ _ hw).trans hw.symm) fun C dx fs _ q1 q2 => ⟨(hs _ _ q1).trans q1.symm, q2⟩⟩
    · exact ⟨p, mset_same, s.free hp, r⟩
  · have m1' : mset v.m v.st.length p i = some a := m1
    have m2' : mset v.m v.st.length p j = some a := m2
    rcases get_snoc e1 with ⟨z1, f1⟩ | ⟨y1, f1⟩ <;> rcases get_snoc e2 with ⟨z2, f2⟩ | ⟨y2, f2⟩
    · rw [mset_ne (Nat.ne_of_lt z1)] at m1'
      rw [mset_ne (Nat.ne_of_lt z2)] at m2'
      exact s.inj i j u w a f1 f2 l1 l2 m1' m2'
    · rw [mset_ne (Nat.ne_of_lt z1)] at m1'
      rw [y2, mset_same] at m2'
      cases m2'
      exact absurd rfl (np f1 l1 m1')
    · rw [mset_ne (Nat.ne_of_lt z2)] at m2'
      rw [y1, mset_same] at m1'
      cases m1'
      exact absurd rfl (np f2 l2 m2')
    · rw [y1, y2]
/-- a thing of the store is changed, at its own address -/
def Vw.put (v : Vw) (i : Nat) (a : Addr) (u : HO) (o : O) : Vw := ⟨v.G, upd v.H a u, v.m, v.st.set i o⟩
theorem put_ok {v : Vw} {i : Nat} {a : Addr} {u : HO} {o o0 : O} (s : SR K ct v) (e0 : v.st[i]? = some o0) (l0 : o0.live = true) (em : v.m i = some a) (hn : ∀ C b fs, u = .ins C b fs → ∃ fs0, v.H a = some (.ins C b fs0))
    (r : ORep K ct (v.put i a u o) a o) : Le v (v.put i a u o) ∧ SR K ct (v.put i a u o) := by
  obtain ⟨ga, w0, hw0, no0⟩ := s.obj_ne e0 l0 em
  have own : v.owns a := ⟨i, o0, a, e0, l0, em, .inl rfl⟩
  have get : ∀ {j : Nat} {w : O}, (v.st.set i o)[j]? = some w → (j = i ∧ w = o) ∨ (j ≠ i ∧ v.st[j]? = some w) := fun {j w} e => by
    by_cases z : i = j
    · subst z
      rw [List.getElem?_set_self (List.getElem?_eq_some_iff.mp e0).1] at e
      exact .inl ⟨rfl, (Option.some.inj e).symm⟩
    · rw [List.getElem?_set_ne z] at e
      exact .inr ⟨fun q => z q.symm, e⟩
  refine ⟨⟨Same.refl _, .refl, fun b w q n => ?_, fun b q => .inl q, fun b ⟨j, w, a2, e, l, em2, q⟩ => ?_, fun b q => ?_⟩, fun b w q => ?_, fun j hj => s.dom j (by simpa [Vw.put] using hj), fun j w e l => ?_, fun j k w w2 a2 e1 e2 l1 l2 m1 m2 => ?_⟩
  · show upd v.H a u b = some w
    have z : b ≠ a := fun z => n (by rw [z]; exact own)
    rw [upd_ne z]
    exact q
  · rcases get e with ⟨rfl, rfl⟩ | ⟨z, e⟩
    · have em2' : v.m j = some a2 := em2
      rw [em] at em2'
      cases em2'
      rcases q with rfl | ⟨C, fs, q⟩
      · exact .inl own
      · have q' : upd v.H a u a = some (.ins C b fs) := q
        rw [upd_same] at q'
        obtain ⟨fs0, h0⟩ := hn C b fs (Option.some.inj q')
        exact .inl ⟨j, o0, a, e0, l0, em, .inr ⟨C, fs0, h0⟩⟩
    · have em2' : v.m j = some a2 := em2
      rcases q with rfl | ⟨C, fs, q⟩
      · exact .inl ⟨j, w, b, e, l, em2', .inl rfl⟩
      · have na : a2 ≠ a := fun zz => z (s.inj j i w o0 a e e0 l l0 (zz ▸ em2') em)
        have q' : upd v.H a u a2 = some (.ins C b fs) := q
        rw [upd_ne na] at q'
        exact .inl ⟨j, w, a2, e, l, em2', .inr ⟨C, fs, q'⟩⟩
  · have q' : upd v.H a u b = none := q
    by_cases z : b = a
    · rw [z, upd_same] at q'
      cases q'
    · rw [upd_ne z] at q'
      exact q'
  · show upd v.H a u b = some w
    have q' : v.G b = some w := q
    have z : b ≠ a := fun z => by rw [z, ga] at q'; cases q'
    rw [upd_ne z]
    exact s.sub _ _ q'
  · rcases get e with ⟨rfl, rfl⟩ | ⟨z, e⟩
    · exact ⟨a, em, ga, r⟩
    · obtain ⟨a2, em2, ga2, r2⟩ := s.obj j w e l
      have na : a2 ≠ a := fun zz => z (s.inj j i w o0 a e e0 l l0 (zz ▸ em2) em)
      refine ⟨a2, em2, ga2, r2.mono' (v := v) (v' := v.put i a u o) (Same.refl _) .refl (upd_ne na) fun C dx fs _ q1 q2 => ⟨upd_ne fun zz => ?_, q2⟩⟩
      rw [zz, hw0] at q1
      exact no0 _ (Option.some.inj q1)
  · rcases get e1 with ⟨y1, _⟩ | ⟨z1, f1⟩ <;> rcases get e2 with ⟨y2, _⟩ | ⟨z2, f2⟩
    · rw [y1, y2]
    · exact s.inj j k o0 w2 a2 (y1 ▸ e0) f2 l0 l2 m1 m2
    · exact s.inj j k w o0 a2 f1 (y2 ▸ e0) l1 l0 m1 m2
    · exact s.inj j k w w2 a2 f1 f2 l1 l2 m1 m2
/-- a thing of the store is frozen, or forgotten -/
def Vw.frz (v : Vw) (i : Nat) (a : Addr) (u : HO) : Vw := ⟨upd v.G a u, v.H, v.m, v.st.set i .gone⟩
theorem frz_ok {v : Vw} {i : Nat} {a : Addr} {u : HO} {o0 : O} (s : SR K ct v) (e0 : v.st[i]? = some o0) (l0 : o0.live = true) (em : v.m i = some a) (hu : v.H a = some u) : Le v (v.frz i a u) ∧ SR K ct (v.frz i a u) := by
  obtain ⟨ga, w0, hw0, no0⟩ := s.obj_ne e0 l0 em
  have own : v.owns a := ⟨i, o0, a, e0, l0, em, .inl rfl⟩
  have get : ∀ {j : Nat} {w : O}, (v.st.set i .gone)[j]? = some w → w.live = true → j ≠ i ∧ v.st[j]? = some w := fun {j w} e l => by
    by_cases z : i = j
    · subst z
      rw [List.getElem?_set_self (List.getElem?_eq_some_iff.mp e0).1] at e
      cases e
      cases l
    · rw [List.getElem?_set_ne z] at e
      exact ⟨fun q => z q.symm, e⟩
  have sg := same_new ga u
  refine ⟨⟨sg, .refl, fun b w q n => q, fun b q => ?_, fun b ⟨j, w, a2, e, l, em2, q⟩ => ?_, fun b q => q⟩, fun b w q => ?_, fun j hj => s.dom j (by simpa [Vw.frz] using hj), fun j w e l => ?_, fun j k w w2 a2 e1 e2 l1 l2 m1 m2 => ?_⟩
  · by_cases z : b = a
    · exact .inr (.inr (z ▸ own))
    · have q' : upd v.G a u b ≠ none := q
      rw [upd_ne z] at q'
      exact .inl q'
  · obtain ⟨_, e⟩ := get e l
    exact .inl ⟨j, w, a2, e, l, em2, q⟩
  · by_cases z : b = a
    · have q' : upd v.G a u b = some w := q
      rw [z, upd_same] at q'
      cases q'
      show v.H b = some u
      rw [z]
      exact hu
    · have q' : upd v.G a u b = some w := q
      rw [upd_ne z] at q'
      exact s.sub _ _ q'
  · obtain ⟨z, e⟩ := get e l
    obtain ⟨a2, em2, ga2, r2⟩ := s.obj j w e l
    have na : a2 ≠ a := fun zz => z (s.inj j i w o0 a e e0 l l0 (zz ▸ em2) em)
    refine ⟨a2, em2, (upd_ne na).trans ga2, r2.mono' (v := v) (v' := v.frz i a u) sg .refl rfl fun C dx fs _ q1 q2 => ⟨rfl, (upd_ne fun zz => ?_).trans q2⟩⟩
    rw [zz, hw0] at q1
    exact no0 _ (Option.some.inj q1)
  · exact s.inj j k w w2 a2 (get e1 l1).2 (get e2 l2).2 l1 l2 m1 m2
end
end Gs

/-! G2: results, frames, expressions, tests, arguments. -/
namespace Gs
open PySem L2

structure Ex where
  cls : String
  fs : List (Str × D)
inductive R (α : Type) where
  | ok (a : α) (s : Sto) | exc (e : Ex) (s : Sto) | stk
def R.bind {α β : Type} (r : R α) (k : α → Sto → R β) : R β := match r with
  | .ok a s => k a s
  | .exc e s => .exc e s
  | .stk => .stk
def R.ofO {α : Type} (o : Option α) (s : Sto) : R α := match o with
  | some a => .ok a s
  | none => .stk

/-- what is fixed through a body: the view at its entry, the classes' addresses, what is wanted of an exception -/
structure Cc where
  v0 : Vw
  ct : String → Addr
  W : WX
/-- an exception's class and own dict -/
def RepX (K : PySem.W.Frag) (ct : String → Addr) (v : Vw) (e : Ex) (cls : Value) (dd : Option Addr) : Prop :=
  cls = .ref (ct e.cls) ∧ ((e.fs = [] ∧ dd = none) ∨ (e.fs ≠ [] ∧ ∃ d fs, dd = some d ∧ v.G d = some (.xd fs) ∧ RepP K ct v.G v.m e.fs fs))
abbrev Sl := List (Option D)
structure RE (K : PySem.W.Frag) (C : Cc) (σ : L2.St) (δ : Sl) (v : Vw) : Prop where
  le : Le C.v0 v
  sr : SR K C.ct v
  len : σ.length = δ.length
  sl : ∀ (i : Nat) (d : D), δ[i]? = some (some d) → ∃ x, σ[i]? = some (some x) ∧ Rep K C.ct v.G v.m d x
section
variable {K : PySem.W.Frag} {C : Cc} {σ : L2.St} {δ : Sl} {v v' : Vw}
theorem RE.step (r : RE K C σ δ v) (l : Le v v') (s : SR K C.ct v') : RE K C σ δ v' :=
  ⟨r.le.trans l, s, r.len, fun i d h => let ⟨x, e, q⟩ := r.sl i d h; ⟨x, e, l.rep q⟩⟩
theorem RE.setV {d : D} {x : V} (r : RE K C σ δ v) (i : Nat) (h : Rep K C.ct v.G v.m d x) : RE K C (σ.set i (some x)) (δ.set i (some d)) v := by
  refine ⟨r.le, r.sr, by simp [r.len], fun j e hs => ?_⟩
  by_cases z : i = j
  · subst z
    have hi : i < δ.length := by
      have := (List.getElem?_eq_some_iff.mp hs).1
      simpa using this
    rw [List.getElem?_set_self hi] at hs
    cases hs
    rw [List.getElem?_set_self (by rw [r.len]; exact hi)]
    exact ⟨x, rfl, h⟩
  · rw [List.getElem?_set_ne z] at hs
    rw [List.getElem?_set_ne z]
    exact r.sl j e hs
theorem RE.setU (r : RE K C σ δ v) (i : Nat) (x : Option V) : RE K C (σ.set i x) (δ.set i none) v := by
  refine ⟨r.le, r.sr, by simp [r.len], fun j e hs => ?_⟩
  by_cases z : i = j
  · subst z
    have hi : i < δ.length := by
      have := (List.getElem?_eq_some_iff.mp hs).1
      simpa using this
    rw [List.getElem?_set_self hi] at hs
    cases hs
  · rw [List.getElem?_set_ne z] at hs
    rw [List.getElem?_set_ne z]
    exact r.sl j e hs
end

/-! ### what is due of a result -/
def onX (K : PySem.W.Frag) (C : Cc) (σ : L2.St) (v : Vw) (e : Ex) (s : Sto) : Prop := ∀ cls dd v', Le v v' → SR K C.ct v' → v'.st = s → RepX K C.ct v' e cls dd → C.W cls dd σ v'.H
def on {α β : Type} (K : PySem.W.Frag) (C : Cc) (σ : L2.St) (v : Vw) (rel : α → β → Vw → Prop) (r : R α) (P : α → β → Vw → Prop) : Prop := match r with
  | .ok a s => ∀ b v', Le v v' → SR K C.ct v' → v'.st = s → rel a b v' → P a b v'
  | .exc e s => onX K C σ v e s
  | .stk => False
abbrev rE (K : PySem.W.Frag) (ct : String → Addr) : D → V → Vw → Prop := fun d x v => Rep K ct v.G v.m d x
abbrev rA (K : PySem.W.Frag) (ct : String → Addr) : List D → List V → Vw → Prop := fun d x v => RepL K ct v.G v.m d x
abbrev rB {α : Type} : α → α → Vw → Prop := fun a b _ => a = b
section
variable {α β γ ε : Type} {K : PySem.W.Frag} {C : Cc} {σ : L2.St} {v v' : Vw} {rel : α → β → Vw → Prop} {rel2 : γ → ε → Vw → Prop}
theorem on_step {r : R α} {P : α → β → Vw → Prop} (l : Le v v') (h : on K C σ v rel r P) : on K C σ v' rel r P := by
  cases r with
  | ok a s => exact fun b w l2 => h b w (l.trans l2)
  | exc e s => exact fun cls dd w l2 => h cls dd w (l.trans l2)
  | stk => exact h
theorem on_mono {r : R α} {P P' : α → β → Vw → Prop} (h : on K C σ v rel r P) (w : ∀ a b v', Le v v' → SR K C.ct v' → rel a b v' → P a b v' → P' a b v') : on K C σ v rel r P' := by
  cases r with
  | ok a s => exact fun b v' l sr e q => w a b v' l sr q (h b v' l sr e q)
  | exc e s => exact h
  | stk => exact h
/-- one after another -/
theorem on_bind {r : R α} {k : α → Sto → R γ} {P : γ → ε → Vw → Prop} (h : on K C σ v rel2 (r.bind k) P) : on K C σ v rel r fun a _ v1 => on K C σ v1 rel2 (k a v1.st) P := by
  cases r with
  | ok a s =>
    intro b v1 l sr e q
    subst e
    exact on_step l h
  | exc e s => exact h
  | stk => exact h
theorem on_self {a : α} {b : β} {P : α → β → Vw → Prop} (sr : SR K C.ct v) (h : on K C σ v rel (.ok a v.st) P) (r : rel a b v) : P a b v := h b v .refl sr rfl r
theorem on_ofO {o : Option α} {P : α → β → Vw → Prop} (h : on K C σ v rel (R.ofO o v.st) P) : ∃ a, o = some a ∧ ∀ b v', Le v v' → SR K C.ct v' → v'.st = v.st → rel a b v' → P a b v' := by
  cases o with
  | none => exact h.elim
  | some a => exact ⟨a, rfl, h⟩
end

abbrev E := Sl → Sto → R D
abbrev T := Sl → Sto → R Bool
abbrev As := Sl → Sto → R (List D)
def liftE (K : PySem.W.Frag) (C : Cc) (f : E) : TE := fun σ H Q => ∃ δ v, RE K C σ δ v ∧ v.H = H ∧ on K C σ v (rE K C.ct) (f δ v.st) fun _ x v' => Q x v'.H
def liftT (K : PySem.W.Frag) (C : Cc) (f : T) : TT := fun σ H Q => ∃ δ v, RE K C σ δ v ∧ v.H = H ∧ on K C σ v rB (f δ v.st) fun _ b v' => Q b v'.H
def liftA (K : PySem.W.Frag) (C : Cc) (f : As) : TA := fun σ H Q => ∃ δ v, RE K C σ δ v ∧ v.H = H ∧ on K C σ v (rA K C.ct) (f δ v.st) fun _ xs v' => Q xs v'.H
abbrev SE (X : Cx) (C : Cc) (e : Expr) (f : E) : Prop := PE X e (liftE X.K C f)
abbrev ST (X : Cx) (C : Cc) (e : Expr) (f : T) : Prop := PT X e (liftT X.K C f)
abbrev SA (X : Cx) (C : Cc) (es : List Expr) (f : As) : Prop := PA X es (liftA X.K C f)
theorem pe_weak {X : Cx} {e : Expr} {t t' : TE} (h : PE X e t) (w : ∀ σ H Q, t' σ H Q → t σ H Q) : PE X e t' := ⟨fun pins s σ H Q I z => h.run pins s σ H Q I (w σ H Q z)⟩
theorem pt_weak {X : Cx} {e : Expr} {t t' : TT} (h : PT X e t) (w : ∀ σ H Q, t' σ H Q → t σ H Q) : PT X e t' := ⟨fun pins s σ H Q I z => h.run pins s σ H Q I (w σ H Q z)⟩
theorem pw_weak {X : Cx} {e : Expr} {t t' : TT} (h : PW X e t) (w : ∀ σ H Q, t' σ H Q → t σ H Q) : PW X e t' := ⟨fun wh pins s σ H Q I z => h.run wh pins s σ H Q I (w σ H Q z)⟩
theorem pa_weak {X : Cx} {e : List Expr} {t t' : TA} (h : PA X e t) (w : ∀ σ H Q, t' σ H Q → t σ H Q) : PA X e t' := ⟨fun pos pins s σ H Q I z => h.run pos pins s σ H Q I (w σ H Q z)⟩

/-! ### names and constants -/
def eV (i : Nat) : E := fun δ s => match δ[i]? with
  | some (some d) => .ok d s
  | _ => .stk
def eC (d : D) : E := fun _ s => .ok d s
def eStk : E := fun _ _ => .stk
section
variable {X : Cx} {C : Cc} {pos : Pos}
theorem se_var (i : Nat) {x : Str} (hN : X.N[i]? = some x := by rfl) (hv : Vis X.env.scope x := by first | exact Or.inl rfl | exact Or.inr (Or.inl rfl) | exact Or.inr (Or.inr rfl)) (hd : (x == ("__debug__" : Str)) = false := by decide)
    (hcd : (x == ("__classdict__" : Str)) = false := by decide) : SE X C (.Name x pos) (eV i) :=
  pe_weak (pe_var hN hv hd hcd) fun σ H Q ⟨δ, v, re, eH, h⟩ => by
    subst eH
    unfold eV at h
    split at h
    · rename_i d e
      obtain ⟨x, ex, rx⟩ := re.sl i d e
      exact ⟨x, ex, on_self re.sr h rx⟩
    · exact h.elim
theorem se_const {e : Expr} {d : D} {x : V} (h : PE X e (fun _ H Q => Q x H)) (r : ∀ G m, Rep X.K C.ct G m d x) : SE X C e (eC d) :=
  pe_weak h fun σ H Q ⟨δ, v, re, eH, h⟩ => by subst eH; exact on_self re.sr h (r _ _)
theorem se_int {i : Int} {j : Nat} : SE X C (.Constant (.int i) j pos) (eC (.int i)) := se_const pe_int fun _ _ => .int i
theorem se_bl {b : Bool} {j : Nat} : SE X C (.Constant (.bool b) j pos) (eC (.bl b)) := se_const pe_bl fun _ _ => .bl b
theorem se_non {j : Nat} : SE X C (.Constant .none j pos) (eC .non) := se_const pe_non fun _ _ => .non
theorem se_str {x : Str} {j : Nat} : SE X C (.Constant (.str x) j pos) (eC (.str x)) := se_const pe_str fun _ _ => .str x
/-- a constant of the module -/
theorem se_glob {x : Str} {d : D} {v : V} {u : Value} (hg : Gl X x) (hm : X.mg x = some u) (r : RelV v u) (rd : ∀ G m, Rep X.K C.ct G m d v) (hd : (x == ("__debug__" : Str)) = false := by decide) : SE X C (.Name x pos) (eC d) := se_const (pe_glob hg hm r hd) rd
theorem se_never {e : Expr} : SE X C e eStk := ⟨fun pins s σ H Q I ⟨δ, v, re, eH, h⟩ => h.elim⟩
end

/-! ### what stands at the top of a datum, read in the heap as it is -/
inductive RepT (K : PySem.W.Frag) (ct : String → Addr) (v : Vw) : D → V → Prop
  | non : RepT K ct v .non .non
  | bl (b : Bool) : RepT K ct v (.bl b) (.bl b)
  | int (i : Int) : RepT K ct v (.int i) (.int i)
  | str (x : Str) : RepT K ct v (.str x) (.str x)
  | fn (s : String) : RepT K ct v (.fn s) (.ref (ct s))
  | ob {i : Nat} {a : Addr} : v.m i = some a → RepT K ct v (.ob i) (.ref a)
  | tup {a : Addr} {vs : List V} {ds : List D} : SqT K v.G a vs → RepL K ct v.G v.m ds vs → RepT K ct v (.tup ds) (.ref a)
  | lst {a : Addr} {vs : List V} {ds : List D} : SqL K v.H a vs → RepL K ct v.G v.m ds vs → RepT K ct v (.lst ds) (.ref a)
  | dct {a : Addr} {vs : List V} {ks : List Key} {ds : List D} : v.H a = some (.dK (ks.zip vs)) → ks.length = ds.length → RepL K ct v.G v.m ds vs → RepT K ct v (.dct ks ds) (.ref a)
  | ev {a : Addr} {c : String} {ks : List Str} {ds : List D} : Rep K ct v.G v.m (.ev c ks ds) (.ref a) → RepT K ct v (.ev c ks ds) (.ref a)
def rsv (s : Sto) : D → D
  | .ob i => match s[i]? with
    | some (.lst xs) => .lst xs
    | some (.dK kvs) => .dct (kvs.map (·.1)) (kvs.map (·.2))
    | _ => .ob i
  | d => d
theorem zip_unzip {κ β : Type} : ∀ l : List (κ × β), (l.map (·.1)).zip (l.map (·.2)) = l
  | [] => rfl
  | x :: r => by simp [zip_unzip r]
theorem Rep.top {K : PySem.W.Frag} {ct : String → Addr} {v : Vw} {d : D} {x : V} (sr : SR K ct v) (r : Rep K ct v.G v.m d x) : RepT K ct v (rsv v.st d) x := by
  cases r with
  | non => exact .non
  | bl b => exact .bl b
  | int b => exact .int b
  | str b => exact .str b
  | fn s => exact .fn s
  | tup h r => exact .tup h r
  | lst h r => exact .lst (sr.sub.seq h) r
  | dct h l r => exact .dct (sr.sub _ _ h) l r
  | ev0 h => exact .ev (.ev0 h)
  | ev n h h2 l r => exact .ev (.ev n h h2 l r)
  | @ob i a e =>
    unfold rsv
    dsimp only
    split
    · rename_i xs h
      obtain ⟨a', e', _, vs, h2, r⟩ := sr.obj i _ h rfl
      rw [e] at e'
      cases e'
      exact .lst (SqL.of h2) r
    · rename_i kvs h
      obtain ⟨a', e', _, vs, h2, r⟩ := sr.obj i _ h rfl
      rw [e] at e'
      cases e'
      have k := r.keys
      refine .dct (vs := vs.map (·.2)) ?_ (by simp) r.vals
      rw [k, zip_unzip]
      exact h2
    · exact .ob e

/-! ### operators, by values -/
abbrev B2 := D → D → Option D
def rD (K : PySem.W.Frag) (ct : String → Addr) (g : B2) : R2 := fun x y H Q => ∃ v dx dy d, v.H = H ∧ SR K ct v ∧ g dx dy = some d ∧ RepT K ct v dx x ∧ RepT K ct v dy y ∧ ∀ z v', Le v v' → SR K ct v' → v'.st = v.st → Rep K ct v'.G v'.m d z → Q z v'.H
def eBin (g : B2) (a b : E) : E := fun δ s => (a δ s).bind fun x s1 => (b δ s1).bind fun y s2 => R.ofO (g (rsv s2 x) (rsv s2 y)) s2
section
variable {X : Cx} {C : Cc} {pos : Pos} {a b c : Expr} {fa fb fc : E} {g : B2}
theorem lift_bin {K : PySem.W.Frag} {σ : L2.St} {H : Hp} {Q : VK} (h : liftE K C (eBin g fa fb) σ H Q) : tOp (rD K C.ct g) (liftE K C fa) (liftE K C fb) σ H Q := by
  obtain ⟨δ, v, re, rfl, h⟩ := h
  refine ⟨δ, v, re, rfl, on_mono (on_bind h) fun d x v1 l1 s1 r1 h1 => ?_⟩
  refine ⟨δ, v1, re.step l1 s1, rfl, on_mono (on_bind h1) fun d2 x2 v2 l2 s2 r2 h2 => ?_⟩
  obtain ⟨z, e, h2⟩ := on_ofO h2
  exact ⟨v2, _, _, z, rfl, s2, e, (l2.rep r1).top s2, r2.top s2, h2⟩
theorem se_bin {op : Operator} (ho : OpR X (binaryOp op) (rD X.K C.ct g)) (ha : SE X C a fa) (hb : SE X C b fb) : SE X C (.BinOp a op b pos) (eBin g fa fb) :=
  pe_weak (pe_op ho ha hb) fun σ H Q h => lift_bin h
theorem se_cmp {op : CmpOp} (ho : OpR X (compareOp op) (rD X.K C.ct g)) (ha : SE X C a fa) (hb : SE X C b fb) (hm : behindInMarks op b = false := by first | exact nomark _ | rfl) : SE X C (.Compare a [op] [b] pos) (eBin g fa fb) :=
  pe_weak (pe_cmpR ho ha hb hm) fun σ H Q h => lift_bin h
/-- a value as a test: a truth -/
def tV (f : E) : T := fun δ s => (f δ s).bind fun d s1 => match d with
  | .bl b => .ok b s1
  | _ => .stk
theorem lift_test {K : PySem.W.Frag} {f : E} {σ : L2.St} {H : Hp} {Q : Bool → Hp → Prop} (h : liftT K C (tV f) σ H Q) : liftE K C f σ H fun v H' => ∃ k, v = .bl k ∧ Q k H' := by
  obtain ⟨δ, v, re, eH, h⟩ := h
  refine ⟨δ, v, re, eH, on_mono (on_bind h) fun d x v1 l1 s1 r1 h1 => ?_⟩
  cases r1 <;> first
    | exact h1.elim
    | exact ⟨_, rfl, on_self s1 h1 rfl⟩
theorem st_cmp {op : CmpOp} (ho : OpR X (compareOp op) (rD X.K C.ct g)) (ha : SE X C a fa) (hb : SE X C b fb) (hm : behindInMarks op b = false := by first | exact nomark _ | rfl) : ST X C (.Compare a [op] [b] pos) (tV (eBin g fa fb)) := by
  refine ⟨fun pins s σ H Q I h => ?_⟩
  refine (pt_cmpR ho ha hb hm).run pins s σ H Q I ?_
  exact lift_bin (Q := fun v H' => ∃ k, v = .bl k ∧ Q k H') (lift_test h)
theorem st_val {e : Expr} {f : E} (h : SE X C e f) (he : ∀ whole, isTrue e X.env whole = (do let v ← whole; standAt e.pos; holding [v] (truthy v)) := by intro _; rfl) : ST X C e (tV f) :=
  pt_weak (pt_val h he) fun σ H Q z => lift_test z
/-- two comparisons in a chain -/
def eChain (g g' : B2) (a b c : E) : E := fun δ s => (a δ s).bind fun x s1 => (b δ s1).bind fun y s2 => (R.ofO (g (rsv s2 x) (rsv s2 y)) s2).bind fun z s3 => match z with
  | .bl true => (c δ s3).bind fun w s4 => R.ofO (g' (rsv s4 y) (rsv s4 w)) s4
  | .bl false => .ok (.bl false) s3
  | _ => .stk
theorem lift_chain {K : PySem.W.Frag} {g' : B2} {σ : L2.St} {H : Hp} {Q : VK} (h : liftE K C (eChain g g' fa fb fc) σ H Q) : tChain (rD K C.ct g) (rD K C.ct g') (liftE K C fa) (liftE K C fb) (liftE K C fc) σ H Q := by
  obtain ⟨δ, v, re, rfl, h⟩ := h
  refine ⟨δ, v, re, rfl, on_mono (on_bind h) fun d x v1 l1 s1 r1 h1 => ?_⟩
  refine ⟨δ, v1, re.step l1 s1, rfl, on_mono (on_bind h1) fun d2 x2 v2 l2 s2 r2 h2 => ?_⟩
  have h3 := on_bind (rel := rE K C.ct) h2
  obtain ⟨z, e, h3⟩ := on_ofO h3
  refine ⟨v2, _, _, z, rfl, s2, e, (l2.rep r1).top s2, r2.top s2, fun x3 v3 l3 s3 e3 r3 => ?_⟩
  have h4 := h3 x3 v3 l3 s3 e3 r3
  cases r3 <;> first
    | exact h4.elim
    | skip
  rename_i k
  refine ⟨k, rfl, ?_⟩
  cases k with
  | true =>
    rw [if_pos rfl]
    refine ⟨δ, v3, ((re.step l1 s1).step l2 s2).step l3 s3, rfl, on_mono (on_bind h4) fun d4 x4 v4 l4 s4 r4 h5 => ?_⟩
    obtain ⟨z, e, h5⟩ := on_ofO h5
    exact ⟨v4, _, _, z, rfl, s4, e, ((l3.trans l4).rep r2).top s4, r4.top s4, h5⟩
  | false =>
    rw [if_neg Bool.false_ne_true]
    exact on_self s3 h4 (.bl false)
theorem se_chain {op op' : CmpOp} {g' : B2} (ho : OpR X (compareOp op) (rD X.K C.ct g)) (ho' : OpR X (compareOp op') (rD X.K C.ct g')) (ha : SE X C a fa) (hb : SE X C b fb) (hc : SE X C c fc)
    (hm : lastMarks [op, op'] [b, c] = false := by with_unfolding_all rfl) : SE X C (.Compare a [op, op'] [b, c] pos) (eChain g g' fa fb fc) :=
  pe_weak (pe_chain ho ho' ha hb hc hm) fun σ H Q h => lift_chain h
theorem st_chain {op op' : CmpOp} {g' : B2} (ho : OpR X (compareOp op) (rD X.K C.ct g)) (ho' : OpR X (compareOp op') (rD X.K C.ct g')) (ha : SE X C a fa) (hb : SE X C b fb) (hc : SE X C c fc)
    (hm : lastMarks [op, op'] [b, c] = false := by with_unfolding_all rfl) : ST X C (.Compare a [op, op'] [b, c] pos) (tV (eChain g g' fa fb fc)) := by
  refine ⟨fun pins s σ H Q I h => ?_⟩
  refine (pt_chain ho ho' ha hb hc hm).run pins s σ H Q I ?_
  exact lift_chain (Q := fun v H' => ∃ k, v = .bl k ∧ Q k H') (lift_test h)

/-! ### not, and, or -/
def tNt (f : T) : T := fun δ s => (f δ s).bind fun b s1 => .ok (!b) s1
def tAn (f g : T) : T := fun δ s => (f δ s).bind fun b s1 => if b = true then g δ s1 else .ok false s1
def tOrr (f g : T) : T := fun δ s => (f δ s).bind fun b s1 => if b = true then .ok true s1 else g δ s1
theorem st_not {ft : T} (h : ST X C a ft) : ST X C (.UnaryOp .Not a pos) (tNt ft) := pt_weak (pt_not h) fun σ H Q ⟨δ, v, re, eH, h⟩ =>
  ⟨δ, v, re, eH, on_mono (on_bind h) fun b k v1 l1 s1 e h1 => by cases e; exact on_self s1 h1 rfl⟩
theorem lift_and {K : PySem.W.Frag} {ft gt : T} {σ : L2.St} {H : Hp} {Q : Bool → Hp → Prop} (h : liftT K C (tAn ft gt) σ H Q) : tAnd (liftT K C ft) (liftT K C gt) σ H Q := by
  obtain ⟨δ, v, re, eH, h⟩ := h
  refine ⟨δ, v, re, eH, on_mono (on_bind h) fun b k v1 l1 s1 e h1 => ?_⟩
  cases e
  cases b with
  | true => exact ⟨δ, v1, re.step l1 s1, rfl, h1⟩
  | false => exact on_self s1 h1 rfl
theorem lift_or {K : PySem.W.Frag} {ft gt : T} {σ : L2.St} {H : Hp} {Q : Bool → Hp → Prop} (h : liftT K C (tOrr ft gt) σ H Q) : tOr (liftT K C ft) (liftT K C gt) σ H Q := by
  obtain ⟨δ, v, re, eH, h⟩ := h
  refine ⟨δ, v, re, eH, on_mono (on_bind h) fun b k v1 l1 s1 e h1 => ?_⟩
  cases e
  cases b with
  | true => exact on_self s1 h1 rfl
  | false => exact ⟨δ, v1, re.step l1 s1, rfl, h1⟩
end
/-- tests whose whole is theirs (and, or) -/
abbrev SW (X : Cx) (C : Cc) (e : Expr) (f : T) : Prop := PW X e (liftT X.K C f)
section
variable {X : Cx} {C : Cc} {pos : Pos} {a : Expr} {rest : List Expr} {ft gt : T}
theorem sw_and1 (ha : ST X C a ft) : SW X C (.BoolOp .And [a] pos) ft := pw_and1 ha
theorem sw_and {b : Expr} (ha : ST X C a ft) (hr : SW X C (.BoolOp .And (b :: rest) pos) gt) : SW X C (.BoolOp .And (a :: b :: rest) pos) (tAn ft gt) := pw_weak (pw_and ha hr) fun σ H Q h => lift_and h
theorem sw_or1 (ha : ST X C a ft) : SW X C (.BoolOp .Or [a] pos) ft := pw_or1 ha
theorem sw_or {b : Expr} (ha : ST X C a ft) (hr : SW X C (.BoolOp .Or (b :: rest) pos) gt) : SW X C (.BoolOp .Or (a :: b :: rest) pos) (tOrr ft gt) := pw_weak (pw_or ha hr) fun σ H Q h => lift_or h
end
/-! ### and, or, not as values (truths) -/
def eAn (a b : E) : E := fun δ s => (a δ s).bind fun x s1 => match x with
  | .bl true => b δ s1
  | .bl false => .ok (.bl false) s1
  | _ => .stk
def eOr (a b : E) : E := fun δ s => (a δ s).bind fun x s1 => match x with
  | .bl true => .ok (.bl true) s1
  | .bl false => b δ s1
  | _ => .stk
def eNt (a : E) : E := fun δ s => (a δ s).bind fun x s1 => match x with
  | .bl k => .ok (.bl !k) s1
  | _ => .stk
section
variable {X : Cx} {C : Cc} {pos : Pos} {a b c : Expr} {fa fb fc : E} {ft : T} {rest : List Expr}
theorem lift_anV {K : PySem.W.Frag} {σ : L2.St} {H : Hp} {Q : VK} (h : liftE K C (eAn fa fb) σ H Q) : tAndV (liftE K C fa) (liftE K C fb) σ H Q := by
  obtain ⟨δ, v, re, eH, h⟩ := h
  refine ⟨δ, v, re, eH, on_mono (on_bind h) fun d x v1 l1 s1 r1 h1 => ?_⟩
  cases r1 <;> first
    | exact h1.elim
    | skip
  rename_i k
  refine ⟨k, rfl, ?_⟩
  cases k with
  | true => exact ⟨δ, v1, re.step l1 s1, rfl, h1⟩
  | false => exact on_self s1 h1 (.bl false)
theorem lift_orV {K : PySem.W.Frag} {σ : L2.St} {H : Hp} {Q : VK} (h : liftE K C (eOr fa fb) σ H Q) : tOrV (liftE K C fa) (liftE K C fb) σ H Q := by
  obtain ⟨δ, v, re, eH, h⟩ := h
  refine ⟨δ, v, re, eH, on_mono (on_bind h) fun d x v1 l1 s1 r1 h1 => ?_⟩
  cases r1 <;> first
    | exact h1.elim
    | skip
  rename_i k
  refine ⟨k, rfl, ?_⟩
  cases k with
  | true => exact on_self s1 h1 (.bl true)
  | false => exact ⟨δ, v1, re.step l1 s1, rfl, h1⟩
theorem lift_nt {K : PySem.W.Frag} {σ : L2.St} {H : Hp} {Q : VK} (h : liftE K C (eNt fa) σ H Q) : tNotV (liftE K C fa) σ H Q := by
  obtain ⟨δ, v, re, eH, h⟩ := h
  refine ⟨δ, v, re, eH, on_mono (on_bind h) fun d x v1 l1 s1 r1 h1 => ?_⟩
  cases r1 <;> first
    | exact h1.elim
    | exact ⟨_, rfl, on_self s1 h1 (.bl _)⟩
theorem se_nt (ha : SE X C a fa) : SE X C (.UnaryOp .Not a pos) (eNt fa) := pe_weak (pe_not ha) fun σ H Q h => lift_nt h
theorem se_one {op : BoolOp} (ha : SE X C a fa) : SE X C (.BoolOp op [a] pos) fa := pe_one ha
theorem se_and (ha : SE X C a fa) (hb : SE X C (.BoolOp .And (b :: rest) pos) fb) : SE X C (.BoolOp .And (a :: b :: rest) pos) (eAn fa fb) := pe_weak (pe_and ha hb) fun σ H Q h => lift_anV h
theorem se_or (ha : SE X C a fa) (hb : SE X C (.BoolOp .Or (b :: rest) pos) fb) : SE X C (.BoolOp .Or (a :: b :: rest) pos) (eOr fa fb) := pe_weak (pe_or ha hb) fun σ H Q h => lift_orV h
/-- a if t else b -/
def eIf (t : T) (a b : E) : E := fun δ s => (t δ s).bind fun k s1 => if k = true then a δ s1 else b δ s1
theorem se_if (ht : ST X C c ft) (ha : SE X C a fa) (hb : SE X C b fb) : SE X C (.IfExp c a b pos) (eIf ft fa fb) := pe_weak (pe_ifExp ht ha hb) fun σ H Q ⟨δ, v, re, eH, h⟩ => by
  refine ⟨δ, v, re, eH, on_mono (on_bind h) fun b k v1 l1 s1 e h1 => ?_⟩
  cases e
  cases b with
  | true => exact ⟨δ, v1, re.step l1 s1, rfl, h1⟩
  | false => exact ⟨δ, v1, re.step l1 s1, rfl, h1⟩
end

/-! ### arguments, displays -/
def aNil : As := fun _ s => .ok [] s
def aCons (f : E) (r : As) : As := fun δ s => (f δ s).bind fun x s1 => (r δ s1).bind fun xs s2 => .ok (x :: xs) s2
def eTup (r : As) : E := fun δ s => (r δ s).bind fun xs s1 => if xs.length ≤ sizeLine then .ok (.tup xs) s1 else .stk
/-- a written list, frozen at once -/
def eLst (r : As) : E := fun δ s => (r δ s).bind fun xs s1 => if xs.length ≤ sizeLine then .ok (.lst xs) s1 else .stk
/-- a written list, a thing of the store -/
def eNew (r : As) : E := fun δ s => (r δ s).bind fun xs s1 => if xs.length ≤ sizeLine then .ok (.ob s1.length) (s1 ++ [.lst xs]) else .stk
section
variable {X : Cx} {C : Cc} {pos : Pos} {e : Expr} {es : List Expr} {f : E} {r : As}
theorem sa_nil : SA X C [] aNil := pa_weak pa_nil fun σ H Q ⟨δ, v, re, eH, h⟩ => by subst eH; exact on_self (b := []) re.sr h .nil
theorem sa_cons (ha : SE X C e f) (hr : SA X C es r) (hs : starEach (e :: es) X.env = (false, eval e X.env) :: starEach es X.env := by rfl) : SA X C (e :: es) (aCons f r) :=
  pa_weak (pa_cons ha hr hs) fun σ H Q ⟨δ, v, re, eH, h⟩ => ⟨δ, v, re, eH, on_mono (on_bind h) fun d x v1 l1 s1 r1 h1 =>
    ⟨δ, v1, re.step l1 s1, rfl, on_mono (on_bind h1) fun ds xs v2 l2 s2 r2 h2 => on_self (b := x :: xs) s2 h2 (.cons (l2.rep r1) r2)⟩⟩
theorem se_tup {k : Nat} (h : SA X C es r) : SE X C (.Tuple es k pos) (eTup r) := pe_weak (pe_tup h) fun σ H Q ⟨δ, v, re, eH, h⟩ =>
  ⟨δ, v, re, eH, on_mono (on_bind h) fun ds vs v1 l1 s1 r1 h1 => by
    have hl := r1.length
    split at h1
    · rename_i z
      refine ⟨by omega, fun p hp => ?_⟩
      obtain ⟨l2, s2⟩ := new_ok (o := .tup vs) s1 hp
      exact h1 (.ref p) _ l2 s2 rfl (.tup (SqT.of upd_same) (l2.repl r1))
    · exact h1.elim⟩
theorem se_lst (h : SA X C es r) : SE X C (.List es pos) (eLst r) := pe_weak (pe_lst h) fun σ H Q ⟨δ, v, re, eH, h⟩ =>
  ⟨δ, v, re, eH, on_mono (on_bind h) fun ds vs v1 l1 s1 r1 h1 => by
    have hl := r1.length
    split at h1
    · rename_i z
      refine ⟨by omega, fun p hp => ?_⟩
      obtain ⟨l2, s2⟩ := new_ok (o := .lst vs) s1 hp
      exact h1 (.ref p) _ l2 s2 rfl (.lst (SqL.of upd_same) (l2.repl r1))
    · exact h1.elim⟩
/-- a new list of the store at p -/
theorem newL_ok {K : PySem.W.Frag} {ct : String → Addr} {v : Vw} {p : Addr} {ds : List D} {vs : List V} (s : SR K ct v) (hp : v.H p = none) (r : RepL K ct v.G v.m ds vs) :
    Le v (v.alloc p (upd v.H p (.lst vs)) (.lst ds)) ∧ SR K ct (v.alloc p (upd v.H p (.lst vs)) (.lst ds)) :=
  alloc_ok s hp (same_new hp _) (fun C b fs q => by rw [upd_same] at q; cases q) ⟨vs, upd_same, r.mono (Same.refl _) (mset_grow (s.dom _ (Nat.le_refl _)))⟩
theorem se_new (h : SA X C es r) : SE X C (.List es pos) (eNew r) := pe_weak (pe_lst h) fun σ H Q ⟨δ, v, re, eH, h⟩ =>
  ⟨δ, v, re, eH, on_mono (on_bind h) fun ds vs v1 l1 s1 r1 h1 => by
    have hl := r1.length
    split at h1
    · rename_i z
      refine ⟨by omega, fun p hp => ?_⟩
      obtain ⟨l2, s2⟩ := newL_ok s1 hp r1
      exact h1 (.ref p) _ l2 s2 rfl (.ob mset_same)
    · exact h1.elim⟩
end
end Gs

/-! G3: operators, built-in functions, items and slices over data. -/
namespace Gs
open PySem L2

/-! ### data that == takes -/
mutual
def toPy : D → Option PyData
  | .non => some .none
  | .bl b => some (.bool b)
  | .int i => some (.int i)
  | .str x => some (.str x)
  | .fn _ => none
  | .dct _ _ => none
  | .ob _ => none
  | .ev _ _ _ => none
  | .tup xs => (toPyL xs).map .tuple
  | .lst xs => (toPyL xs).map .list
def toPyL : List D → Option (List PyData)
  | [] => some []
  | d :: ds => match toPy d, toPyL ds with
    | some p, some ps => some (p :: ps)
    | _, _ => none
end
mutual
theorem Rep.dp {K : PySem.W.Frag} {ct : String → Addr} {G H : Hp} {m : Nat → Option Addr} (sub : Same G H) : ∀ {d : D} {v : V} {p : PyData}, Rep K ct G m d v → toPy d = some p → Dp K H v p
  | _, _, _, .non, e => by simp only [toPy, Option.some.injEq] at e; subst e; exact .non
  | _, _, _, .bl b, e => by simp only [toPy, Option.some.injEq] at e; subst e; exact .bl b
  | _, _, _, .int i, e => by simp only [toPy, Option.some.injEq] at e; subst e; exact .int i
  | _, _, _, .str x, e => by simp only [toPy, Option.some.injEq] at e; subst e; exact .str x
  | _, _, _, .fn a, e => by simp only [toPy] at e; exact nomatch e
  | _, _, _, .ob _, e => by simp only [toPy] at e; exact nomatch e
  | _, _, _, .ev0 _, e => by simp only [toPy] at e; exact nomatch e
  | _, _, _, .ev _ _ _ _ _, e => by simp only [toPy] at e; exact nomatch e
  | _, _, _, .dct h l r, e => by simp only [toPy] at e; exact nomatch e
  | .tup ds, _, _, .tup h r, e => by
    simp only [toPy] at e
    cases q : toPyL ds with
    | none => rw [q] at e; exact nomatch e
    | some ps =>
      rw [q] at e
      simp only [Option.map_some, Option.some.injEq] at e
      subst e
      exact .tup (sqt_mono sub h) (RepL.dp sub r q)
  | .lst ds, _, _, .lst h r, e => by
    simp only [toPy] at e
    cases q : toPyL ds with
    | none => rw [q] at e; exact nomatch e
    | some ps =>
      rw [q] at e
      simp only [Option.map_some, Option.some.injEq] at e
      subst e
      exact .lst (sub.seq h) (RepL.dp sub r q)
theorem RepL.dp {K : PySem.W.Frag} {ct : String → Addr} {G H : Hp} {m : Nat → Option Addr} (sub : Same G H) : ∀ {ds : List D} {vs : List V} {ps : List PyData}, RepL K ct G m ds vs → toPyL ds = some ps → DpAll K H vs ps
  | _, _, _, .nil, e => by simp only [toPyL, Option.some.injEq] at e; subst e; exact .nil
  | d :: ds, _, _, .cons h r, e => by
    simp only [toPyL] at e
    cases q : toPy d with
    | none => rw [q] at e; simp at e
    | some p =>
      cases q2 : toPyL ds with
      | none => rw [q, q2] at e; simp at e
      | some ps =>
        rw [q, q2] at e
        simp only [Option.some.injEq] at e
        subst e
        exact .cons (Rep.dp sub h q) (RepL.dp sub r q2)
end
theorem RepT.dp {K : PySem.W.Frag} {ct : String → Addr} {v : Vw} (sr : SR K ct v) {d : D} {x : V} {p : PyData} (r : RepT K ct v d x) (e : toPy d = some p) : Dp K v.H x p := by
  cases r with
  | non => exact (Rep.non (K := K) (ct := ct) (m := v.m)).dp sr.sub e
  | bl b => exact (Rep.bl (K := K) (ct := ct) (m := v.m) b).dp sr.sub e
  | int b => exact (Rep.int (K := K) (ct := ct) (m := v.m) b).dp sr.sub e
  | str b => exact (Rep.str (K := K) (ct := ct) (m := v.m) b).dp sr.sub e
  | fn s => simp only [toPy] at e; exact nomatch e
  | ob h => simp only [toPy] at e; exact nomatch e
  | ev h => simp only [toPy] at e; exact nomatch e
  | dct h l r => simp only [toPy] at e; exact nomatch e
  | tup h r => exact (Rep.tup h r).dp sr.sub e
  | @lst a vs ds h r =>
    simp only [toPy] at e
    cases q : toPyL ds with
    | none => rw [q] at e; exact nomatch e
    | some ps =>
      rw [q] at e
      simp only [Option.map_some, Option.some.injEq] at e
      subst e
      exact .lst h (RepL.dp sr.sub r q)

/-! ### operators -/
def gAdd : B2
  | .int i, .int j => some (.int (i + j))
  | .str x, .str y => if x.length + y.length ≤ sizeLine then some (.str (x ++ y)) else none
  | .lst xs, .lst ys => if xs.length + ys.length ≤ sizeLine then some (.lst (xs ++ ys)) else none
  | .tup xs, .tup ys => if xs.length + ys.length ≤ sizeLine then some (.tup (xs ++ ys)) else none
  | _, _ => none
def gSub : B2
  | .int i, .int j => some (.int (i - j))
  | _, _ => none
instance {i j : Int} : Decidable (IntMulOk i j) := by unfold IntMulOk; infer_instance
/-- a text so often -/
def repS (x : Str) (j : Int) : Str := ⟨(List.replicate j.toNat x.cps.toList).flatten.toArray⟩
def gMul : B2
  | .int i, .int j => if IntMulOk i j then some (.int (i * j)) else none
  | .str x, .int j => if 0 ≤ j ∧ j ≤ 100000 ∧ x.length ≤ 1000 ∧ x.length * j.toNat ≤ 100000 then some (.str (repS x j)) else none
  | _, _ => none
def gDiv : B2
  | .int i, .int j => if 0 < j ∧ j.natAbs.log2 < 9000 then some (.int (i / j)) else none
  | _, _ => none
def gMod : B2
  | .int i, .int j => if 0 < j then some (.int (i % j)) else none
  | _, _ => none
def gPow : B2
  | .int i, .int j => if 0 ≤ j ∧ (Builtin.Int.intBits i : Int) * j ≤ 2 ^ 27 then some (.int (i ^ j.toNat)) else none
  | _, _ => none
def gShl : B2
  | .int i, .int j => if 0 ≤ j ∧ (Builtin.Int.intBits i : Int) + j ≤ 2 ^ 27 then some (.int (i * 2 ^ j.toNat)) else none
  | _, _ => none
def gShr : B2
  | .int i, .int j => if 0 ≤ j then some (.int (i / 2 ^ j.toNat)) else none
  | _, _ => none
def gLt : B2
  | .int i, .int j => some (.bl (decide (i < j)))
  | .str x, .str y => some (.bl (decide (x.cps.toList < y.cps.toList)))
  | _, _ => none
def gLe : B2
  | .int i, .int j => some (.bl (decide (i ≤ j)))
  | _, _ => none
def gGt : B2
  | .int i, .int j => some (.bl (decide (j < i)))
  | _, _ => none
def gGe : B2
  | .int i, .int j => some (.bl (decide (j ≤ i)))
  | _, _ => none
def eqPy (x y : D) : Option Bool := match toPy x, toPy y with
  | some p, some q => if SeqAt.shaped p && SeqAt.shaped q then some (PyData.eqv p q) else none
  | _, _ => none
def eqO : D → D → Option Bool
  | .int i, .int j => some (decide (i = j))
  | .str x, .str y => some (decide (x = y))
  | .bl x, .bl y => some (decide (x = y))
  | .non, .non => some true
  | .non, .str _ => some false
  | .str _, .non => some false
  | .int _, .str _ => some false
  | .str _, .int _ => some false
  | .non, .int _ => some false
  | .int _, .non => some false
  | x, y => eqPy x y
def gEq : B2 := fun x y => (eqO x y).map .bl
def gNe : B2 := fun x y => (eqO x y).map fun b => .bl !b
def gIsN : B2
  | x, .non => some (.bl (match x with | .non => true | _ => false))
  | _, _ => none
def gNotN : B2
  | x, .non => some (.bl (match x with | .non => false | _ => true))
  | _, _ => none

section
variable {X : Cx} {ct : String → Addr}
theorem op_none {f : Value → Value → Sem Value} {r : R2} : OpR X f r → OpR X f r := id
theorem o_add : OpR X (binaryOp .Add) (rD X.K ct gAdd) := by
  intro pins s σ H x y v u Q I rx ry h
  obtain ⟨v0, dx, dy, d, rfl, sr, e, r1, r2, h⟩ := h
  cases r1 with
  | int i =>
    cases r2 <;> simp only [gAdd, Option.some.injEq, reduceCtorEq] at e
    subst e
    exact op_add pins s σ _ _ _ v u Q I rx ry ⟨_, _, rfl, rfl, h _ v0 .refl sr rfl (.int _)⟩
  | str z =>
    cases r2 <;> simp only [gAdd, reduceCtorEq] at e
    split at e
    · rename_i hz
      simp only [Option.some.injEq] at e
      subst e
      exact op_add_str pins s σ _ _ _ v u Q I rx ry ⟨_, _, rfl, rfl, hz, h _ v0 .refl sr rfl (.str _)⟩
    · exact nomatch e
  | non => cases r2 <;> simp only [gAdd, reduceCtorEq] at e
  | bl b => cases r2 <;> simp only [gAdd, reduceCtorEq] at e
  | fn a => cases r2 <;> simp only [gAdd, reduceCtorEq] at e
  | ob a => cases r2 <;> simp only [gAdd, reduceCtorEq] at e
  | ev a => cases r2 <;> simp only [gAdd, reduceCtorEq] at e
  | dct p l q => cases r2 <;> simp only [gAdd, reduceCtorEq] at e
  | tup p q =>
    cases r2 <;> simp only [gAdd, reduceCtorEq] at e
    rename_i p2 q2
    split at e
    · rename_i hz
      simp only [Option.some.injEq] at e
      subst e
      have l1 := q.length
      have l2 := q2.length
      refine op_catA pins s σ _ _ _ v u Q I rx ry ⟨_, _, _, _, rfl, rfl, sqt_mono sr.sub p, sqt_mono sr.sub p2, by omega, fun z => ?_, fun z1 z2 => ?_, fun z1 z2 c hc => ?_⟩
      · subst z
        cases q
        exact h _ v0 .refl sr rfl (.tup p2 q2)
      · subst z2
        cases q2
        rw [List.append_nil] at h
        exact h _ v0 .refl sr rfl (.tup p q)
      · obtain ⟨l, s2⟩ := new_ok (o := .tup _) sr hc
        exact h _ _ l s2 rfl (.tup (SqT.of upd_same) (RepL.append (l.repl q) (l.repl q2)))
    · exact nomatch e
  | lst p q =>
    cases r2 <;> simp only [gAdd, reduceCtorEq] at e
    rename_i a1 vs1 ds1 a2 vs2 ds2 p2 q2
    split at e
    · rename_i hz
      simp only [Option.some.injEq] at e
      subst e
      cases rx
      cases ry
      have l1 := q.length
      have l2 := q2.length
      obtain ⟨is1, t1, ⟨⟨c1, d1, b1, s1⟩, n1, ho1, hc1, hd1, hs1⟩, z1⟩ := I.list (p)
      obtain ⟨is2, t2, ⟨⟨c2, d2, b2, s2⟩, n2, ho2, hc2, hd2, hs2⟩, z2⟩ := I.list (p2)
      simp only at hc1 hd1 hs1 hc2 hd2 hs2
      subst hc1 hd1 hs1 hc2 hd2 hs2
      have m1 := t1.length
      have m2 := t2.length
      refine concat_meets ⟨_, ho1, rfl⟩ ⟨_, ho2, rfl⟩ noFill_list_add seq_list_add PySem.F.slot_list_add PySem.F.entry_list_add (PySem.F.args_list_add_2 _ _) (PyProof.Rows.list_addW _ _ is1.toArray is2.toArray n1 n2 _ _ s1 s2 (by simp only [List.size_toArray]; omega)) ⟨ho1, ho2, ?_⟩
      rw [show is1.toArray ++ is2.toArray = (is1 ++ is2).toArray by simp]
      have hf := I.fresh
      obtain ⟨l, s2⟩ := new_ok (o := .lst (vs1 ++ vs2)) sr hf
      exact ⟨.ref _, _, I.lnew (t' := s.toks) (t1.append t2) (by simp only [List.length_append]; omega), rfl, h _ _ l s2 rfl (.lst (SqL.of upd_same) (RepL.append (l.repl q) (l.repl q2)))⟩
    · exact nomatch e
theorem o_sub : OpR X (binaryOp .Sub) (rD X.K ct gSub) := by
  intro pins s σ H x y v u Q I rx ry h
  obtain ⟨v0, dx, dy, d, rfl, sr, e, r1, r2, h⟩ := h
  cases r1 <;> cases r2 <;> simp only [gSub, Option.some.injEq, reduceCtorEq] at e
  subst e
  exact op_sub pins s σ _ _ _ v u Q I rx ry ⟨_, _, rfl, rfl, h _ v0 .refl sr rfl (.int _)⟩
theorem rep_flat (x : Array Nat) : ∀ (n : Nat) (acc : Array Nat), (List.replicate n x).foldl (· ++ ·) acc = (acc.toList ++ (List.replicate n x.toList).flatten).toArray
  | 0, acc => by simp
  | n + 1, acc => by
    rw [List.replicate_succ, List.foldl_cons, rep_flat x n, List.replicate_succ, List.flatten_cons]
    simp
theorem rep_len (x : Str) (j : Int) : (repS x j).length = x.length * j.toNat := by
  unfold repS
  show (List.replicate j.toNat x.cps.toList).flatten.toArray.size = x.cps.size * j.toNat
  rw [List.size_toArray, List.length_flatten, List.map_replicate, Array.length_toList]
  generalize x.cps.size = a
  generalize j.toNat = n
  induction n with
  | zero => simp
  | succ n ih => rw [List.replicate_succ, List.sum_cons, ih, Nat.mul_succ, Nat.add_comm]
theorem rep_one (x : Str) : repS x 1 = x := by
  unfold repS
  simp
theorem rep_zero (x : Str) : repS x 0 = Str.empty := by
  unfold repS
  rfl
theorem rep_nil (x : Str) (j : Int) (h : x.length = 0) : repS x j = x := by
  have e : x.cps.toList = [] := List.length_eq_zero_iff.mp (by simpa [Str.length] using h)
  have e2 : x = ⟨[].toArray⟩ := by rw [← e]
  unfold repS
  rw [e]
  have : (List.replicate j.toNat ([] : List Nat)).flatten = [] := by simp
  rw [this, ← e2]
theorem o_mul : OpR X (binaryOp .Mult) (rD X.K ct gMul) := by
  intro pins s σ H x y v u Q I rx ry h
  obtain ⟨v0, dx, dy, d, rfl, sr, e, r1, r2, h⟩ := h
  cases r1 <;> cases r2 <;> simp only [gMul, reduceCtorEq] at e
  · split at e
    · rename_i hc
      simp only [Option.some.injEq] at e
      subst e
      obtain ⟨t, rfl⟩ := rx
      obtain ⟨t', rfl⟩ := ry
      exact PyProof.Rows.mul_int ⟨.int _, _, I.tok _, ⟨_, rfl⟩, h _ v0 .refl sr rfl (.int _)⟩ hc
    · exact nomatch e
  · rename_i z j
    split at e
    · rename_i hc
      simp only [Option.some.injEq] at e
      subst e
      obtain ⟨t, rfl⟩ := rx
      obtain ⟨t', rfl⟩ := ry
      obtain ⟨h0, h1, h2, h3⟩ := hc
      have hs : (100000 : Nat) ≤ sizeLine := by decide
      have c1 : ∀ t', EP X pins σ Q (Value.str (repS z j) t') { s with toks := s.toks + 1 } := fun t' => ⟨.str _, _, I.tok _, ⟨_, rfl⟩, h _ v0 .refl sr rfl (.str _)⟩
      refine PySem.P.mul_str (by rw [decide_eq_false (by omega), decide_eq_false (by omega)]; rfl) (fun a b => ?_) (fun a b => ?_) ?_
      · have : (1000 : Int) ≤ (2 ^ 63 - 1) / j := Int.le_ediv_of_mul_le (by omega) (by omega)
        omega
      · unfold Builtin.Str.tooLong
        exact decide_eq_false (by omega)
      · by_cases a : j < 1
        · rw [if_pos a]
          have : j = 0 := by omega
          subst this
          have c1 := c1 s.toks
          rw [rep_zero] at c1
          exact ⟨by decide, c1⟩
        · rw [if_neg a]
          by_cases b : (j == 1 || z.length == 0) = true
          · rw [if_pos b]
            have e : repS z j = z := by
              rw [Bool.or_eq_true] at b
              rcases b with b | b
              · have : j = 1 := by simpa using b
                subst this
                exact rep_one z
              · exact rep_nil z j (by simpa using b)
            have g : EP X pins σ Q (Value.str z t) s := ⟨.str z, _, I, ⟨_, rfl⟩, by
              have := h (.str (repS z j)) v0 .refl sr rfl (.str _)
              rwa [e] at this⟩
            exact g
          · rw [if_neg b]
            have e : (⟨(List.replicate j.toNat z.cps).foldl (· ++ ·) #[]⟩ : Str) = repS z j := by
              unfold repS
              rw [rep_flat]
              simp
            rw [e]
            exact ⟨by rw [rep_len]; omega, c1 s.toks⟩
    · exact nomatch e
theorem o_div : OpR X (binaryOp .FloorDiv) (rD X.K ct gDiv) := by
  intro pins s σ H x y v u Q I rx ry h
  obtain ⟨v0, dx, dy, d, rfl, sr, e, r1, r2, h⟩ := h
  cases r1 <;> cases r2 <;> simp only [gDiv, reduceCtorEq] at e
  split at e
  · rename_i hc
    simp only [Option.some.injEq] at e
    subst e
    exact op_fdivW pins s σ _ _ _ v u Q I rx ry ⟨_, _, rfl, rfl, hc, h _ v0 .refl sr rfl (.int _)⟩
  · exact nomatch e
theorem o_mod : OpR X (binaryOp .Mod) (rD X.K ct gMod) := by
  intro pins s σ H x y v u Q I rx ry h
  obtain ⟨v0, dx, dy, d, rfl, sr, e, r1, r2, h⟩ := h
  cases r1 <;> cases r2 <;> simp only [gMod, reduceCtorEq] at e
  split at e
  · rename_i hc
    simp only [Option.some.injEq] at e
    subst e
    exact op_mod pins s σ _ _ _ v u Q I rx ry ⟨_, _, rfl, rfl, hc, h _ v0 .refl sr rfl (.int _)⟩
  · exact nomatch e
theorem op_powW : OpR X (binaryOp .Pow) (rI (fun i j => 0 ≤ j ∧ (Builtin.Int.intBits i : Int) * j ≤ 2 ^ 27) fun i j => .int (i ^ j.toNat)) := opI fun _ _ _ _ _ _ _ hc q => PyProof.Rows.pow_int hc.1 hc.2 q
theorem o_pow : OpR X (binaryOp .Pow) (rD X.K ct gPow) := by
  intro pins s σ H x y v u Q I rx ry h
  obtain ⟨v0, dx, dy, d, rfl, sr, e, r1, r2, h⟩ := h
  cases r1 <;> cases r2 <;> simp only [gPow, reduceCtorEq] at e
  split at e
  · rename_i hc
    simp only [Option.some.injEq] at e
    subst e
    exact op_powW pins s σ _ _ _ v u Q I rx ry ⟨_, _, rfl, rfl, hc, h _ v0 .refl sr rfl (.int _)⟩
  · exact nomatch e
theorem o_shl : OpR X (binaryOp .LShift) (rD X.K ct gShl) := by
  intro pins s σ H x y v u Q I rx ry h
  obtain ⟨v0, dx, dy, d, rfl, sr, e, r1, r2, h⟩ := h
  cases r1 <;> cases r2 <;> simp only [gShl, reduceCtorEq] at e
  split at e
  · rename_i hc
    simp only [Option.some.injEq] at e
    subst e
    exact op_shlW pins s σ _ _ _ v u Q I rx ry ⟨_, _, rfl, rfl, hc, h _ v0 .refl sr rfl (.int _)⟩
  · exact nomatch e
theorem o_shr : OpR X (binaryOp .RShift) (rD X.K ct gShr) := by
  intro pins s σ H x y v u Q I rx ry h
  obtain ⟨v0, dx, dy, d, rfl, sr, e, r1, r2, h⟩ := h
  cases r1 <;> cases r2 <;> simp only [gShr, reduceCtorEq] at e
  split at e
  · rename_i hc
    simp only [Option.some.injEq] at e
    subst e
    exact op_shr pins s σ _ _ _ v u Q I rx ry ⟨_, _, rfl, rfl, hc, h _ v0 .refl sr rfl (.int _)⟩
  · exact nomatch e
theorem o_lt : OpR X (compareOp .Lt) (rD X.K ct gLt) := by
  intro pins s σ H x y v u Q I rx ry h
  obtain ⟨v0, dx, dy, d, rfl, sr, e, r1, r2, h⟩ := h
  cases r1 <;> cases r2 <;> simp only [gLt, Option.some.injEq, reduceCtorEq] at e
  · subst e
    exact op_lt pins s σ _ _ _ v u Q I rx ry ⟨_, _, rfl, rfl, h _ v0 .refl sr rfl (.bl _)⟩
  · subst e
    exact op_lt_str pins s σ _ _ _ v u Q I rx ry ⟨_, _, rfl, rfl, h _ v0 .refl sr rfl (.bl _)⟩
theorem o_le : OpR X (compareOp .LtE) (rD X.K ct gLe) := by
  intro pins s σ H x y v u Q I rx ry h
  obtain ⟨v0, dx, dy, d, rfl, sr, e, r1, r2, h⟩ := h
  cases r1 <;> cases r2 <;> simp only [gLe, Option.some.injEq, reduceCtorEq] at e
  subst e
  exact op_le pins s σ _ _ _ v u Q I rx ry ⟨_, _, rfl, rfl, h _ v0 .refl sr rfl (.bl _)⟩
theorem o_gt : OpR X (compareOp .Gt) (rD X.K ct gGt) := by
  intro pins s σ H x y v u Q I rx ry h
  obtain ⟨v0, dx, dy, d, rfl, sr, e, r1, r2, h⟩ := h
  cases r1 <;> cases r2 <;> simp only [gGt, Option.some.injEq, reduceCtorEq] at e
  subst e
  exact op_gt pins s σ _ _ _ v u Q I rx ry ⟨_, _, rfl, rfl, h _ v0 .refl sr rfl (.bl _)⟩
theorem o_ge : OpR X (compareOp .GtE) (rD X.K ct gGe) := by
  intro pins s σ H x y v u Q I rx ry h
  obtain ⟨v0, dx, dy, d, rfl, sr, e, r1, r2, h⟩ := h
  cases r1 <;> cases r2 <;> simp only [gGe, Option.some.injEq, reduceCtorEq] at e
  subst e
  exact op_ge pins s σ _ _ _ v u Q I rx ry ⟨_, _, rfl, rfl, h _ v0 .refl sr rfl (.bl _)⟩
/-- both sides of == and != -/
theorem eq_core {K : PySem.W.Frag} {ct : String → Addr} {v : Vw} (sr : SR K ct v) {dx dy : D} {x y : V} {b : Bool} (r1 : RepT K ct v dx x) (r2 : RepT K ct v dy y) (e : eqO dx dy = some b) :
    (scal x y = true ∧ decide (x = y) = b) ∨ ∃ p q, Dp K v.H x p ∧ Dp K v.H y q ∧ SeqAt.shaped p = true ∧ SeqAt.shaped q = true ∧ PyData.eqv p q = b := by
  have gen : eqPy dx dy = some b → ∃ p q, Dp K v.H x p ∧ Dp K v.H y q ∧ SeqAt.shaped p = true ∧ SeqAt.shaped q = true ∧ PyData.eqv p q = b := fun e => by
    unfold eqPy at e
    cases q1 : toPy dx with
    | none => rw [q1] at e; exact nomatch e
    | some p =>
      cases q2 : toPy dy with
      | none => rw [q1, q2] at e; exact nomatch e
      | some q =>
        rw [q1, q2] at e
        simp only at e
        split at e
        · rename_i hs
          rw [Bool.and_eq_true] at hs
          exact ⟨p, q, r1.dp sr q1, r2.dp sr q2, hs.1, hs.2, Option.some.inj e⟩
        · exact nomatch e
  cases r1 <;> cases r2 <;> first
    | (simp only [eqO] at e; exact .inr (gen e))
    | (refine .inl ⟨rfl, ?_⟩; simp only [eqO, Option.some.injEq] at e; rw [← e]; simp)
theorem o_eq (hu : X.A.units + 64 < cLine) : OpR X (compareOp .Eq) (rD X.K ct gEq) := by
  intro pins s σ H x y v u Q I rx ry h
  obtain ⟨v0, dx, dy, d, rfl, sr, e, r1, r2, h⟩ := h
  unfold gEq at e
  cases q : eqO dx dy with
  | none => rw [q] at e; exact nomatch e
  | some b =>
    rw [q] at e
    have e' : d = .bl b := (Option.some.inj e).symm
    subst e'
    rcases eq_core sr r1 r2 q with ⟨h1, h2⟩ | ⟨p, q, d1, d2, s1, s2, eb⟩
    · exact op_eq pins s σ _ x y v u Q I rx ry ⟨h1, by rw [h2]; exact h _ v0 .refl sr rfl (.bl b)⟩
    · exact op_eqD hu pins s σ _ x y v u Q I rx ry ⟨p, q, d1, d2, s1, s2, by rw [eb]; exact h _ v0 .refl sr rfl (.bl b)⟩
theorem o_ne (hu : X.A.units + 64 < cLine) : OpR X (compareOp .NotEq) (rD X.K ct gNe) := by
  intro pins s σ H x y v u Q I rx ry h
  obtain ⟨v0, dx, dy, d, rfl, sr, e, r1, r2, h⟩ := h
  unfold gNe at e
  cases q : eqO dx dy with
  | none => rw [q] at e; exact nomatch e
  | some b =>
    rw [q] at e
    have e' : d = .bl !b := (Option.some.inj e).symm
    subst e'
    rcases eq_core sr r1 r2 q with ⟨h1, h2⟩ | ⟨p, q, d1, d2, s1, s2, eb⟩
    · exact op_ne pins s σ _ x y v u Q I rx ry ⟨h1, by rw [h2]; exact h _ v0 .refl sr rfl (.bl _)⟩
    · exact op_neD hu pins s σ _ x y v u Q I rx ry ⟨p, q, d1, d2, s1, s2, by rw [eb]; exact h _ v0 .refl sr rfl (.bl _)⟩
theorem o_isN : OpR X (compareOp .Is) (rD X.K ct gIsN) := by
  intro pins s σ H x y v u Q I rx ry h
  obtain ⟨v0, dx, dy, d, rfl, sr, e, r1, r2, h⟩ := h
  cases r2 <;> simp only [gIsN, Option.some.injEq, reduceCtorEq] at e
  subst e
  cases r1 <;> exact op_isN pins s σ _ _ _ v u Q I rx ry ⟨rfl, h _ v0 .refl sr rfl (.bl _)⟩
theorem o_notN : OpR X (compareOp .IsNot) (rD X.K ct gNotN) := by
  intro pins s σ H x y v u Q I rx ry h
  obtain ⟨v0, dx, dy, d, rfl, sr, e, r1, r2, h⟩ := h
  cases r2 <;> simp only [gNotN, Option.some.injEq, reduceCtorEq] at e
  subst e
  cases r1 <;> exact op_notN pins s σ _ _ _ v u Q I rx ry ⟨rfl, h _ v0 .refl sr rfl (.bl _)⟩
end

/-! ### one operand -/
abbrev B1 := D → Option D
def rD1 (K : PySem.W.Frag) (ct : String → Addr) (g : B1) : V → Hp → VK → Prop := fun x H Q => ∃ v dx d, v.H = H ∧ SR K ct v ∧ g dx = some d ∧ RepT K ct v dx x ∧ ∀ z v', Le v v' → SR K ct v' → v'.st = v.st → Rep K ct v'.G v'.m d z → Q z v'.H
def eUn (g : B1) (a : E) : E := fun δ s => (a δ s).bind fun x s1 => R.ofO (g (rsv s1 x)) s1
def gNeg : B1
  | .int i => some (.int (-i))
  | _ => none
section
variable {X : Cx} {C : Cc} {pos : Pos} {a : Expr} {fa : E} {g : B1}
theorem lift_un {K : PySem.W.Frag} {σ : L2.St} {H : Hp} {Q : VK} (h : liftE K C (eUn g fa) σ H Q) : tUn (rD1 K C.ct g) (liftE K C fa) σ H Q := by
  obtain ⟨δ, v, re, rfl, h⟩ := h
  refine ⟨δ, v, re, rfl, on_mono (on_bind h) fun d x v1 l1 s1 r1 h1 => ?_⟩
  obtain ⟨z, e, h1⟩ := on_ofO h1
  exact ⟨v1, _, z, rfl, s1, e, r1.top s1, h1⟩
theorem se_un {op : UnaryOp} (ho : UnR X (unaryOp op) (rD1 X.K C.ct g)) (ha : SE X C a fa) : SE X C (.UnaryOp op a pos) (eUn g fa) := pe_weak (pe_un ho ha) fun σ H Q h => lift_un h
theorem o_neg {ct : String → Addr} : UnR X (unaryOp .USub) (rD1 X.K ct gNeg) := by
  intro pins s σ H x v Q I rx h
  obtain ⟨v0, dx, d, rfl, sr, e, r1, h⟩ := h
  cases r1 <;> simp only [gNeg, Option.some.injEq, reduceCtorEq] at e
  subst e
  exact un_neg pins s σ _ _ v Q I rx ⟨_, rfl, h _ v0 .refl sr rfl (.int _)⟩
end

/-! ### built-in functions of values -/
abbrev BA := List D → Option D
inductive RepTL (K : PySem.W.Frag) (ct : String → Addr) (v : Vw) : List D → List V → Prop
  | nil : RepTL K ct v [] []
  | cons {d : D} {x : V} {ds : List D} {xs : List V} : RepT K ct v d x → RepTL K ct v ds xs → RepTL K ct v (d :: ds) (x :: xs)
theorem RepL.top {K : PySem.W.Frag} {ct : String → Addr} {v : Vw} (sr : SR K ct v) : ∀ {ds : List D} {xs : List V}, RepL K ct v.G v.m ds xs → RepTL K ct v (ds.map (rsv v.st)) xs
  | _, _, .nil => .nil
  | _, _, .cons h r => .cons (h.top sr) (RepL.top sr r)
def rDA (K : PySem.W.Frag) (ct : String → Addr) (g : BA) : List V → Hp → VK → Prop := fun xs H Q => ∃ v ds d, v.H = H ∧ SR K ct v ∧ g ds = some d ∧ RepTL K ct v ds xs ∧ ∀ z v', Le v v' → SR K ct v' → v'.st = v.st → Rep K ct v'.G v'.m d z → Q z v'.H
def eFn (g : BA) (a : As) : E := fun δ s => (a δ s).bind fun xs s1 => R.ofO (g (xs.map (rsv s1))) s1
section
variable {X : Cx} {C : Cc} {pos p : Pos} {x : Str} {id T : String} {e : Expr} {es : List Expr} {fa : As} {g : BA}
theorem lift_fn {K : PySem.W.Frag} {σ : L2.St} {H : Hp} {Q : VK} (h : liftE K C (eFn g fa) σ H Q) : tCB (rDA K C.ct g) (liftA K C fa) σ H Q := by
  obtain ⟨δ, v, re, rfl, h⟩ := h
  refine ⟨δ, v, re, rfl, on_mono (on_bind h) fun d x v1 l1 s1 r1 h1 => ?_⟩
  obtain ⟨z, e, h1⟩ := on_ofO h1
  exact ⟨v1, _, z, rfl, s1, e, r1.top s1, h1⟩
theorem se_callB (hc : CallR X (.builtin id) (rDA X.K C.ct g)) (hg : Gl X x) (hm : X.mg x = none) (hv : bootBuiltins x = some (.builtin id)) (ha : SA X C (e :: es) fa) (hn : x ≠ "__name__" := by decide) (hdb : (x == ("__debug__" : Str)) = false := by decide)
    (he : starEach (e :: es) X.env = (false, eval e X.env) :: starEach es X.env := by rfl) (hpl : (backTo pos (starEach es X.env)).any (·.1) = false := by rfl) : SE X C (.Call (.Name x p) (e :: es) [] pos) (eFn g fa) :=
  pe_weak (pe_callB hc hg hm hv ha hn hdb he hpl) fun σ H Q h => lift_fn h
theorem se_callT (hc : CallR X (.type T) (rDA X.K C.ct g)) (hg : Gl X x) (hm : X.mg x = none) (hv : bootBuiltins x = some (.type T)) (ha : SA X C (e :: es) fa) (hn : x ≠ "__name__" := by decide) (hdb : (x == ("__debug__" : Str)) = false := by decide)
    (he : starEach (e :: es) X.env = (false, eval e X.env) :: starEach es X.env := by rfl) (hpl : (backTo pos (starEach es X.env)).any (·.1) = false := by rfl) : SE X C (.Call (.Name x p) (e :: es) [] pos) (eFn g fa) :=
  pe_weak (pe_callTy hc hg hm hv ha hn hdb he hpl) fun σ H Q h => lift_fn h

def gLen : BA
  | [.lst xs] => some (.int xs.length)
  | [.tup xs] => some (.int xs.length)
  | [.str x] => if x.length ≤ sizeLine then some (.int x.length) else none
  | _ => none
def gMin2 : BA
  | [.int i, .int j] => some (.int (if j < i then j else i))
  | _ => none
def gMax2 : BA
  | [.int i, .int j] => some (.int (if j > i then j else i))
  | _ => none
def gAbs : BA
  | [.int i] => some (.int (if i < 0 then -i else i))
  | _ => none
def gInt : BA
  | [.int i] => some (.int i)
  | [.bl k] => some (.int (if k then 1 else 0))
  | [.str a] => match PySem.intText? a with
    | some n => if a.length ≤ 640 then some (.int n) else none
    | none => none
  | _ => none
def gStr : BA
  | [.int i] => if i.natAbs.log2 < 1920 then some (.str (toString i)) else none
  | _ => none
/-- a text's signs -/
def signs (x : Str) : List D := x.cps.toList.map fun c => .str ⟨#[c]⟩
def signsV (x : Str) : List V := x.cps.toList.map fun c => .str ⟨#[c]⟩
theorem RepL.signs {K : PySem.W.Frag} {ct : String → Addr} {G : Hp} {m : Nat → Option Addr} (x : Str) : RepL K ct G m (Gs.signs x) (signsV x) := by
  unfold Gs.signs signsV
  generalize x.cps.toList = l
  induction l with
  | nil => exact .nil
  | cons c r ih => exact .cons (.str _) ih
theorem call_list_text (hc : X.calm = true) : CallR X (.type "list") (fun xs H Q => ∃ z : Str, xs = [.str z] ∧ z.length ≤ sizeLine ∧ ∀ l, H l = none → Q (.ref l) (upd H l (.lst (signsV z)))) := by
  intro pins s σ H xs us Q I r h
  obtain ⟨z, e, hz, q⟩ := h
  subst e
  obtain ⟨u, eu, rx⟩ := vals1 r
  subst eu
  obtain ⟨t, rfl⟩ := rx
  refine call_list_str (I.ok.hd hc) z t (hn := hz) fun h' tk acc' c' hkeep hS hacc => ?_
  refine ⟨.ref s.heap.objs.size, upd H s.heap.objs.size (.lst (signsV z)), I.laid hkeep (Nat.le_refl _) (show ObjOk X.prog X.w _ _ _ (.lst (signsV z)) from ⟨?_, acc'.toList, c', ?_, ?_⟩), rfl, q _ (I.hok.fresh (Nat.le_refl _))⟩
  · simpa [signsV, Str.length] using hz
  · refine vals_of_at (by simp [signsV, hacc.1]) fun j x w h1 h2 => ?_
    obtain ⟨c, u, hky, hi⟩ := hacc.2 j w (by rw [← Array.getElem?_toList]; exact h2)
    have e2 : (signsV z)[j]? = some (V.str ⟨#[c]⟩) := by
      unfold signsV
      rw [List.getElem?_map, Array.getElem?_toList, hky]
      rfl
    rw [e2] at h1
    cases h1
    exact ⟨u, hi⟩
  · rw [Array.toArray_toList]; exact hS
def gList : BA
  | [.lst xs] => some (.lst xs)
  | [.tup xs] => some (.lst xs)
  | [.str x] => if x.length ≤ sizeLine then some (.lst (signs x)) else none
  | _ => none
def gTuple : BA
  | [.lst xs] => some (.tup xs)
  | [.tup xs] => some (.tup xs)
  | _ => none
def gDivmod : BA
  | [.int i, .int j] => if 0 < j ∧ Builtin.divisionGoesByPylong i j = false then some (.tup [.int (i / j), .int (i % j)]) else none
  | _ => none
def intsOf : List D → Option (List Int)
  | [] => some []
  | .int i :: r => (intsOf r).map (i :: ·)
  | _ => none
def blsOf : List D → Option (List Bool)
  | [] => some []
  | .bl i :: r => (blsOf r).map (i :: ·)
  | _ => none
def strsOf : List D → Option (List Str)
  | [] => some []
  | .str i :: r => (strsOf r).map (i :: ·)
  | _ => none
theorem intsOf_eq : ∀ {ds : List D} {ns : List Int}, intsOf ds = some ns → ds = ns.map D.int
  | [], _, e => by simp only [intsOf, Option.some.injEq] at e; subst e; rfl
  | .int i :: r, ns, e => by
    simp only [intsOf] at e
    cases q : intsOf r with
    | none => rw [q] at e; exact nomatch e
    | some ms => rw [q] at e; simp only [Option.map_some, Option.some.injEq] at e; subst e; rw [intsOf_eq q]; rfl
  | .non :: _, _, e => nomatch e
  | .bl _ :: _, _, e => nomatch e
  | .str _ :: _, _, e => nomatch e
  | .tup _ :: _, _, e => nomatch e
  | .lst _ :: _, _, e => nomatch e
  | .fn _ :: _, _, e => nomatch e
  | .ob _ :: _, _, e => nomatch e
  | .ev _ _ _ :: _, _, e => nomatch e
  | .dct _ _ :: _, _, e => nomatch e
theorem blsOf_eq : ∀ {ds : List D} {ns : List Bool}, blsOf ds = some ns → ds = ns.map D.bl
  | [], _, e => by simp only [blsOf, Option.some.injEq] at e; subst e; rfl
  | .bl i :: r, ns, e => by
    simp only [blsOf] at e
    cases q : blsOf r with
    | none => rw [q] at e; exact nomatch e
    | some ms => rw [q] at e; simp only [Option.map_some, Option.some.injEq] at e; subst e; rw [blsOf_eq q]; rfl
  | .non :: _, _, e => nomatch e
  | .int _ :: _, _, e => nomatch e
  | .str _ :: _, _, e => nomatch e
  | .tup _ :: _, _, e => nomatch e
  | .lst _ :: _, _, e => nomatch e
  | .fn _ :: _, _, e => nomatch e
  | .ob _ :: _, _, e => nomatch e
  | .ev _ _ _ :: _, _, e => nomatch e
  | .dct _ _ :: _, _, e => nomatch e
theorem strsOf_eq : ∀ {ds : List D} {ns : List Str}, strsOf ds = some ns → ds = ns.map D.str
  | [], _, e => by simp only [strsOf, Option.some.injEq] at e; subst e; rfl
  | .str i :: r, ns, e => by
    simp only [strsOf] at e
    cases q : strsOf r with
    | none => rw [q] at e; exact nomatch e
    | some ms => rw [q] at e; simp only [Option.map_some, Option.some.injEq] at e; subst e; rw [strsOf_eq q]; rfl
  | .non :: _, _, e => nomatch e
  | .int _ :: _, _, e => nomatch e
  | .bl _ :: _, _, e => nomatch e
  | .tup _ :: _, _, e => nomatch e
  | .lst _ :: _, _, e => nomatch e
  | .fn _ :: _, _, e => nomatch e
  | .ob _ :: _, _, e => nomatch e
  | .ev _ _ _ :: _, _, e => nomatch e
  | .dct _ _ :: _, _, e => nomatch e
theorem intsOf_map : ∀ ns : List Int, intsOf (ns.map D.int) = some ns
  | [] => rfl
  | n :: r => by simp only [List.map_cons, intsOf, intsOf_map r, Option.map_some]
theorem blsOf_map : ∀ ns : List Bool, blsOf (ns.map D.bl) = some ns
  | [] => rfl
  | n :: r => by simp only [List.map_cons, blsOf, blsOf_map r, Option.map_some]
theorem strsOf_map : ∀ ns : List Str, strsOf (ns.map D.str) = some ns
  | [] => rfl
  | n :: r => by simp only [List.map_cons, strsOf, strsOf_map r, Option.map_some]
def gSum : BA
  | [.lst xs] => (intsOf xs).map fun ns => .int ns.sum
  | _ => none
def gAll : BA
  | [.lst xs] => (blsOf xs).map fun ns => .bl (ns.all fun b => b)
  | _ => none
def gAny : BA
  | [.lst xs] => (blsOf xs).map fun ns => .bl (ns.any fun b => b)
  | _ => none
def gMin : BA
  | [.lst xs] => (intsOf xs).bind fun ns => ns.min?.map .int
  | _ => none
def gMax : BA
  | [.lst xs] => (intsOf xs).bind fun ns => ns.max?.map .int
  | _ => none
theorem b_len {ct : String → Addr} : CallR X (.builtin "len") (rDA X.K ct gLen) := by
  intro pins s σ H xs us Q I r h
  obtain ⟨v0, ds, d, rfl, sr, e, rl, h⟩ := h
  unfold gLen at e
  split at e
  · cases rl with
    | cons r1 r2 =>
      cases r2
      cases r1 with
      | lst p q =>
        simp only [Option.some.injEq] at e
        subst e
        refine call_len_seq pins s σ _ _ us Q I r ⟨_, _, rfl, .inl (p), ?_⟩
        rw [← q.length]
        exact h _ v0 .refl sr rfl (.int _)
  · cases rl with
    | cons r1 r2 =>
      cases r2
      cases r1 with
      | tup p q =>
        simp only [Option.some.injEq] at e
        subst e
        refine call_len_seq pins s σ _ _ us Q I r ⟨_, _, rfl, .inr (sqt_mono sr.sub p), ?_⟩
        rw [← q.length]
        exact h _ v0 .refl sr rfl (.int _)
  · cases rl with
    | cons r1 r2 =>
      cases r2
      cases r1
      split at e
      · rename_i hz
        simp only [Option.some.injEq] at e
        subst e
        exact call_len_str pins s σ _ _ us Q I r ⟨_, rfl, hz, h _ v0 .refl sr rfl (.int _)⟩
      · exact nomatch e
  · exact nomatch e
theorem b_min2 {ct : String → Addr} (hc : X.calm = true) : CallR X (.builtin "min") (rDA X.K ct gMin2) := by
  intro pins s σ H xs us Q I r h
  obtain ⟨v0, ds, d, rfl, sr, e, rl, h⟩ := h
  unfold gMin2 at e
  split at e
  · cases rl with
    | cons r1 r2 =>
      cases r2 with
      | cons r2 r3 =>
        cases r1; cases r2; cases r3
        simp only [Option.some.injEq] at e
        subst e
        exact call_min2 hc pins s σ _ _ us Q I r ⟨_, _, rfl, h _ v0 .refl sr rfl (.int _)⟩
  · exact nomatch e
theorem b_max2 {ct : String → Addr} (hc : X.calm = true) : CallR X (.builtin "max") (rDA X.K ct gMax2) := by
  intro pins s σ H xs us Q I r h
  obtain ⟨v0, ds, d, rfl, sr, e, rl, h⟩ := h
  unfold gMax2 at e
  split at e
  · cases rl with
    | cons r1 r2 =>
      cases r2 with
      | cons r2 r3 =>
        cases r1; cases r2; cases r3
        simp only [Option.some.injEq] at e
        subst e
        exact call_max2 hc pins s σ _ _ us Q I r ⟨_, _, rfl, h _ v0 .refl sr rfl (.int _)⟩
  · exact nomatch e
theorem b_abs {ct : String → Addr} : CallR X (.builtin "abs") (rDA X.K ct gAbs) := by
  intro pins s σ H xs us Q I r h
  obtain ⟨v0, ds, d, rfl, sr, e, rl, h⟩ := h
  unfold gAbs at e
  split at e
  · cases rl with
    | cons r1 r2 =>
      cases r1; cases r2
      simp only [Option.some.injEq] at e
      subst e
      exact call_abs pins s σ _ _ us Q I r ⟨_, rfl, h _ v0 .refl sr rfl (.int _)⟩
  · exact nomatch e
theorem b_int {ct : String → Addr} : CallR X (.type "int") (rDA X.K ct gInt) := by
  intro pins s σ H xs us Q I r h
  obtain ⟨v0, ds, d, rfl, sr, e, rl, h⟩ := h
  unfold gInt at e
  split at e
  · cases rl with
    | cons r1 r2 =>
      cases r1; cases r2
      simp only [Option.some.injEq] at e
      subst e
      exact call_int1 pins s σ _ _ us Q I r (.inl ⟨_, rfl, h _ v0 .refl sr rfl (.int _)⟩)
  · cases rl with
    | cons r1 r2 =>
      cases r1; cases r2
      simp only [Option.some.injEq] at e
      subst e
      exact call_int1 pins s σ _ _ us Q I r (.inr ⟨_, rfl, h _ v0 .refl sr rfl (.int _)⟩)
  · cases rl with
    | cons r1 r2 =>
      cases r1; cases r2
      split at e
      · rename_i n hn
        split at e
        · rename_i hz
          simp only [Option.some.injEq] at e
          subst e
          exact call_int_str pins s σ _ _ us Q I r ⟨_, n, rfl, hn, hz, h _ v0 .refl sr rfl (.int _)⟩
        · exact nomatch e
      · exact nomatch e
  · exact nomatch e
theorem b_str {ct : String → Addr} : CallR X (.type "str") (rDA X.K ct gStr) := by
  intro pins s σ H xs us Q I r h
  obtain ⟨v0, ds, d, rfl, sr, e, rl, h⟩ := h
  unfold gStr at e
  split at e
  · cases rl with
    | cons r1 r2 =>
      cases r1; cases r2
      split at e
      · rename_i hz
        simp only [Option.some.injEq] at e
        subst e
        exact call_str_int pins s σ _ _ us Q I r ⟨_, rfl, hz, h _ v0 .refl sr rfl (.str _)⟩
      · exact nomatch e
  · exact nomatch e
theorem b_list {ct : String → Addr} (hc : X.calm = true) : CallR X (.type "list") (rDA X.K ct gList) := by
  intro pins s σ H xs us Q I r h
  obtain ⟨v0, ds, d, rfl, sr, e, rl, h⟩ := h
  unfold gList at e
  split at e
  · cases rl with
    | cons r1 r2 =>
      cases r2
      cases r1 with
      | lst p q =>
        simp only [Option.some.injEq] at e
        subst e
        exact call_list_of pins s σ _ _ us Q I r ⟨_, _, rfl, .inl (p), fun c hc => let ⟨l, s2⟩ := new_ok (o := .lst _) sr hc; h _ _ l s2 rfl (.lst (SqL.of upd_same) (l.repl q))⟩
  · cases rl with
    | cons r1 r2 =>
      cases r2
      cases r1 with
      | tup p q =>
        simp only [Option.some.injEq] at e
        subst e
        exact call_list_of pins s σ _ _ us Q I r ⟨_, _, rfl, .inr (sqt_mono sr.sub p), fun c hc => let ⟨l, s2⟩ := new_ok (o := .lst _) sr hc; h _ _ l s2 rfl (.lst (SqL.of upd_same) (l.repl q))⟩
  · rename_i z
    cases rl with
    | cons r1 r2 =>
      cases r2
      cases r1
      split at e
      · rename_i hz
        simp only [Option.some.injEq] at e
        subst e
        exact call_list_text hc pins s σ _ _ us Q I r ⟨z, rfl, hz, fun c hc => let ⟨l, s2⟩ := new_ok (o := .lst (signsV z)) sr hc; h _ _ l s2 rfl (.lst (SqL.of upd_same) (RepL.signs z))⟩
      · exact nomatch e
  · exact nomatch e
theorem b_tuple {ct : String → Addr} : CallR X (.type "tuple") (rDA X.K ct gTuple) := by
  intro pins s σ H xs us Q I r h
  obtain ⟨v0, ds, d, rfl, sr, e, rl, h⟩ := h
  unfold gTuple at e
  split at e
  · cases rl with
    | cons r1 r2 =>
      cases r2
      cases r1 with
      | lst p q =>
        simp only [Option.some.injEq] at e
        subst e
        exact call_tuple_of pins s σ _ _ us Q I r ⟨_, _, rfl, .inl ⟨p, fun c hc => let ⟨l, s2⟩ := new_ok (o := .tup _) sr hc; h _ _ l s2 rfl (.tup (SqT.of upd_same) (l.repl q))⟩⟩
  · cases rl with
    | cons r1 r2 =>
      cases r2
      cases r1 with
      | tup p q =>
        simp only [Option.some.injEq] at e
        subst e
        exact call_tuple_of pins s σ _ _ us Q I r ⟨_, _, rfl, .inr ⟨sqt_mono sr.sub p, h _ v0 .refl sr rfl (.tup p q)⟩⟩
  · exact nomatch e
theorem b_divmod {ct : String → Addr} : CallR X (.builtin "divmod") (rDA X.K ct gDivmod) := by
  intro pins s σ H xs us Q I r h
  obtain ⟨v0, ds, d, rfl, sr, e, rl, h⟩ := h
  unfold gDivmod at e
  split at e
  · cases rl with
    | cons r1 r2 =>
      cases r2 with
      | cons r2 r3 =>
        cases r1; cases r2; cases r3
        split at e
        · rename_i hz
          simp only [Option.some.injEq] at e
          subst e
          exact call_divmodW pins s σ _ _ us Q I r ⟨_, _, rfl, hz, fun c hc => let ⟨l, s2⟩ := new_ok (o := .tup _) sr hc; h _ _ l s2 rfl (.tup (SqT.of upd_same) (.cons (.int _) (.cons (.int _) .nil)))⟩
        · exact nomatch e
  · exact nomatch e
theorem b_sum {ct : String → Addr} (hc : X.calm = true) : CallR X (.builtin "sum") (rDA X.K ct gSum) := by
  intro pins s σ H xs us Q I r h
  obtain ⟨v0, ds, d, rfl, sr, e, rl, h⟩ := h
  unfold gSum at e
  split at e
  · rename_i ys
    cases q1 : intsOf ys with
    | none => rw [q1] at e; exact nomatch e
    | some ns =>
      rw [q1] at e
      simp only [Option.map_some, Option.some.injEq] at e
      subst e
      have e2 := intsOf_eq q1
      subst e2
      cases rl with
      | cons r1 r2 =>
        cases r2
        cases r1 with
        | lst p q =>
          have e3 := RepL.of_ints q
          subst e3
          exact cr_sum hc pins s σ _ _ us Q I r ⟨_, ns, rfl, p, h _ v0 .refl sr rfl (.int _)⟩
  · exact nomatch e
theorem b_all {ct : String → Addr} (hc : X.calm = true) : CallR X (.builtin "all") (rDA X.K ct gAll) := by
  intro pins s σ H xs us Q I r h
  obtain ⟨v0, ds, d, rfl, sr, e, rl, h⟩ := h
  unfold gAll at e
  split at e
  · rename_i ys
    cases q1 : blsOf ys with
    | none => rw [q1] at e; exact nomatch e
    | some ns =>
      rw [q1] at e
      simp only [Option.map_some, Option.some.injEq] at e
      subst e
      have e2 := blsOf_eq q1
      subst e2
      cases rl with
      | cons r1 r2 =>
        cases r2
        cases r1 with
        | lst p q =>
          have e3 := RepL.of_bls q
          subst e3
          exact cr_all hc pins s σ _ _ us Q I r ⟨_, ns, rfl, p, h _ v0 .refl sr rfl (.bl _)⟩
  · exact nomatch e
theorem b_any {ct : String → Addr} (hc : X.calm = true) : CallR X (.builtin "any") (rDA X.K ct gAny) := by
  intro pins s σ H xs us Q I r h
  obtain ⟨v0, ds, d, rfl, sr, e, rl, h⟩ := h
  unfold gAny at e
  split at e
  · rename_i ys
    cases q1 : blsOf ys with
    | none => rw [q1] at e; exact nomatch e
    | some ns =>
      rw [q1] at e
      simp only [Option.map_some, Option.some.injEq] at e
      subst e
      have e2 := blsOf_eq q1
      subst e2
      cases rl with
      | cons r1 r2 =>
        cases r2
        cases r1 with
        | lst p q =>
          have e3 := RepL.of_bls q
          subst e3
          exact cr_any hc pins s σ _ _ us Q I r ⟨_, ns, rfl, p, h _ v0 .refl sr rfl (.bl _)⟩
  · exact nomatch e
end
/-! ### [e, ..] * n -/
def repD (xs : List D) (n : Nat) : List D := (List.replicate n xs).flatten
theorem RepL.rep {K : PySem.W.Frag} {ct : String → Addr} {G : Hp} {m : Nat → Option Addr} {ds : List D} {vs : List V} (r : RepL K ct G m ds vs) : ∀ n : Nat, RepL K ct G m (repD ds n) (List.replicate n vs).flatten
  | 0 => .nil
  | n + 1 => by
    unfold repD
    rw [List.replicate_succ, List.replicate_succ, List.flatten_cons, List.flatten_cons]
    exact r.append (RepL.rep r n)
/-- [e, ..] * n: the list, frozen (b = false) or a thing of the store -/
def eRep (keep : Bool) (r : As) (b : E) : E := fun δ s => (r δ s).bind fun xs s1 => if xs.length ≤ sizeLine then ((b δ s1).bind fun y s2 => match y with
  | .int k => if -(2 ^ 63) ≤ k ∧ k < 2 ^ 63 ∧ xs.length * k.toNat ≤ sizeLine then (if keep = true then .ok (.ob s2.length) (s2 ++ [.lst (repD xs k.toNat)]) else .ok (.lst (repD xs k.toNat)) s2) else .stk
  | _ => .stk) else .stk
theorem se_rep {X : Cx} {C : Cc} {pos p2 : Pos} {es : List Expr} {b : Expr} {r : As} {fb : E} (keep : Bool) (h : SA X C es r) (hb : SE X C b fb) : SE X C (.BinOp (.List es p2) .Mult b pos) (eRep keep r fb) :=
  pe_weak (pe_op op_rep (pe_lst h) hb) fun σ H Q ⟨δ, v, re, eH, h⟩ => ⟨δ, v, re, eH, on_mono (on_bind h) fun ds vs v1 l1 s1 r1 h1 => by
    have hl := r1.length
    split at h1
    · rename_i z
      refine ⟨by omega, fun p hp => ?_⟩
      obtain ⟨l2, s2⟩ := more_ok s1 (same_new hp (.lst vs))
      refine ⟨δ, _, (re.step l1 s1).step l2 s2, rfl, on_mono (on_bind (on_step l2 h1)) fun y x v3 l3 s3 r3 h3 => ?_⟩
      cases r3 <;> first
        | exact h3.elim
        | skip
      rename_i k
      simp only at h3
      split at h3
      · rename_i hz
        have hH : v3.H p = some (.lst vs) := l3.h p _ upd_same fun q => by
          obtain ⟨i, o, a, e, l, em, q⟩ := q
          obtain ⟨_, w, hw, _⟩ := s1.obj_ne e l em
          rcases q with rfl | ⟨C, fs, q⟩
          · rw [hp] at hw
            cases hw
          · have q' : upd v1.H p (.lst vs) a = some (.ins C p fs) := q
            rw [upd_ne (ne_of_none hw hp)] at q'
            obtain ⟨d1, _⟩ := s1.dx e l em q'
            rw [hp] at d1
            cases d1
        refine ⟨p, k, vs, rfl, rfl, hH, hz.1, hz.2.1, by rw [← hl]; exact hz.2.2, fun q hq => ?_⟩
        have r4 := (l2.trans l3).repl r1
        split at h3
        · obtain ⟨l5, s5⟩ := newL_ok (ds := repD ds k.toNat) s3 hq (r4.rep k.toNat)
          exact h3 (.ref q) _ l5 s5 rfl (.ob mset_same)
        · obtain ⟨l5, s5⟩ := new_ok (o := .lst (List.replicate k.toNat vs).flatten) s3 hq
          exact h3 (.ref q) _ l5 s5 rfl (.lst (SqL.of upd_same) (l5.repl (r4.rep k.toNat)))
      · exact h3.elim
    · exact h1.elim⟩
end Gs

/-! G4: items, slices, isinstance, methods of texts. -/
namespace Gs
open PySem L2

/-! ### items -/
theorem RepL.atI {K : PySem.W.Frag} {ct : String → Addr} {G : Hp} {m : Nat → Option Addr} {ds : List D} {vs : List V} {i : Int} {d : D} (r : RepL K ct G m ds vs) (e : L2.atI ds i = some d) : ∃ v, L2.atI vs i = some v ∧ Rep K ct G m d v := by
  unfold L2.atI at e ⊢
  rw [r.length] at e
  cases q : ixN vs.length i with
  | none => rw [q] at e; exact nomatch e
  | some j => rw [q] at e; exact r.get e
def gIx : B2
  | .lst xs, .int i => atI xs i
  | .tup xs, .int i => atI xs i
  | .str z, .int i => if z.length ≤ sizeLine then (atI z.cps.toList i).map fun c => .str ⟨#[c]⟩ else none
  | _, _ => none
section
variable {X : Cx} {C : Cc} {pos p2 : Pos} {a b : Expr} {fa fb : E}
theorem x_ix {ct : String → Addr} : IxR X (rD X.K ct gIx) := by
  intro value slice pins s σ H x y v u Q I rx ry h hs
  obtain ⟨v0, dx, dy, d, rfl, sr, e, r1, r2, h⟩ := h
  cases r1 with
  | lst p q =>
    cases r2 <;> simp only [gIx, reduceCtorEq] at e
    obtain ⟨v', e1, r3⟩ := q.atI e
    exact ix_list value slice pins s σ _ _ _ v u Q I rx ry ⟨_, _, _, _, rfl, rfl, p, e1, h _ v0 .refl sr rfl r3⟩ hs
  | tup p q =>
    cases r2 <;> simp only [gIx, reduceCtorEq] at e
    obtain ⟨v', e1, r3⟩ := q.atI e
    exact ix_tup value slice pins s σ _ _ _ v u Q I rx ry ⟨_, _, _, _, rfl, rfl, sqt_mono sr.sub p, e1, h _ v0 .refl sr rfl r3⟩ hs
  | str z =>
    cases r2 <;> simp only [gIx, reduceCtorEq] at e
    split at e
    · rename_i hz
      cases q : atI z.cps.toList _ with
      | none => rw [q] at e; exact nomatch e
      | some c =>
        rw [q] at e
        simp only [Option.map_some, Option.some.injEq] at e
        subst e
        exact ix_str value slice pins s σ _ _ _ v u Q I rx ry ⟨_, _, c, rfl, rfl, hz, q, h _ v0 .refl sr rfl (.str _)⟩ hs
    · exact nomatch e
  | non => cases r2 <;> simp only [gIx, reduceCtorEq] at e
  | bl b => cases r2 <;> simp only [gIx, reduceCtorEq] at e
  | int b => cases r2 <;> simp only [gIx, reduceCtorEq] at e
  | fn a => cases r2 <;> simp only [gIx, reduceCtorEq] at e
  | ob a => cases r2 <;> simp only [gIx, reduceCtorEq] at e
  | ev a => cases r2 <;> simp only [gIx, reduceCtorEq] at e
  | dct p l q => cases r2 <;> simp only [gIx, reduceCtorEq] at e
theorem se_ix (ha : SE X C a fa) (hb : SE X C b fb) (hs : PlainIx b := by intro _ _; rfl) : SE X C (.Subscript a b pos) (eBin gIx fa fb) := pe_weak (pe_ix x_ix ha hb hs) fun σ H Q h => lift_bin h

/-! ### slices -/
abbrev Os := Sl → Sto → R (Option Int)
def liftO (K : PySem.W.Frag) (C : Cc) (f : Os) : TO := fun σ H Q => ∃ δ v, RE K C σ δ v ∧ v.H = H ∧ on K C σ v rB (f δ v.st) fun _ b v' => Q b v'.H
abbrev SO (X : Cx) (C : Cc) (e : Option Expr) (f : Os) : Prop := PO X e (liftO X.K C f)
theorem po_weak {X : Cx} {e : Option Expr} {t t' : TO} (h : PO X e t) (w : ∀ σ H Q, t' σ H Q → t σ H Q) : PO X e t' := ⟨fun pins s σ H Q I z => h.run pins s σ H Q I (w σ H Q z)⟩
def oNone : Os := fun _ s => .ok none s
def oSome (f : E) : Os := fun δ s => (f δ s).bind fun d s1 => match d with
  | .int i => .ok (some i) s1
  | _ => .stk
theorem so_none : SO X C none oNone := po_weak po_none fun σ H Q ⟨δ, v, re, eH, h⟩ => by subst eH; exact on_self re.sr h rfl
theorem so_some (ha : SE X C a fa) : SO X C (some a) (oSome fa) := po_weak (po_some ha) fun σ H Q ⟨δ, v, re, eH, h⟩ =>
  ⟨δ, v, re, eH, on_mono (on_bind h) fun d x v1 l1 s1 r1 h1 => by
    cases r1 <;> first
      | exact h1.elim
      | exact ⟨_, rfl, on_self s1 h1 rfl⟩⟩
def cutD (xs : List D) (lo hi : Option Int) : List D := (xs.drop (HT.sIx xs.length 0 lo)).take (HT.sIx xs.length xs.length hi - HT.sIx xs.length 0 lo)
theorem RepL.cut {K : PySem.W.Frag} {ct : String → Addr} {G : Hp} {m : Nat → Option Addr} {ds : List D} {vs : List V} (r : RepL K ct G m ds vs) (lo hi : Option Int) : RepL K ct G m (cutD ds lo hi) (cutV vs lo hi) := by
  unfold cutD cutV
  rw [r.length]
  exact (r.drop _).take _
def gSl : D → Option Int → Option Int → Option D
  | .lst xs, lo, hi => some (.lst (cutD xs lo hi))
  | .tup xs, lo, hi => some (.tup (cutD xs lo hi))
  | .str z, lo, hi => if z.length ≤ sizeLine then some (.str (cutS z lo hi)) else none
  | _, _, _ => none
def rDS (K : PySem.W.Frag) (ct : String → Addr) (g : D → Option Int → Option Int → Option D) : V → Option Int → Option Int → Hp → VK → Prop := fun x lo hi H Q => ∃ v dx d, v.H = H ∧ SR K ct v ∧ g dx lo hi = some d ∧ RepT K ct v dx x ∧ ∀ z v', Le v v' → SR K ct v' → v'.st = v.st → Rep K ct v'.G v'.m d z → Q z v'.H
theorem s_sl {ct : String → Addr} : SlR X (rDS X.K ct gSl) := by
  intro pins s σ H x v vl vu lo hi sl Q I rx hs pl pu h
  obtain ⟨v0, dx, d, rfl, sr, e, r1, h⟩ := h
  cases r1 with
  | lst p q =>
    simp only [gSl, Option.some.injEq] at e
    subst e
    exact sl_list pins s σ _ _ v vl vu lo hi sl Q I rx hs pl pu ⟨_, _, rfl, p, fun c hc => let ⟨l, s2⟩ := new_ok (o := .lst _) sr hc; h _ _ l s2 rfl (.lst (SqL.of upd_same) ((q.cut lo hi).mono l.g l.m))⟩
  | @tup c0 vs0 ds0 p q =>
    simp only [gSl, Option.some.injEq] at e
    subst e
    refine sl_tupA pins s σ _ _ v vl vu lo hi sl Q I rx hs pl pu ⟨_, _, rfl, sqt_mono sr.sub p, fun z => ?_, fun _ c hc => let ⟨l, s2⟩ := new_ok (o := .tup _) sr hc; h _ _ l s2 rfl (.tup (SqT.of upd_same) (l.repl (q.cut lo hi)))⟩
    refine h _ v0 .refl sr rfl (.tup p ?_)
    have e2 := q.cut lo hi
    have e3 : cutV vs0 lo hi = vs0 := by
      unfold cutV
      rw [z.1, z.2, Nat.sub_zero, List.drop_zero, List.take_length]
    rw [e3] at e2
    exact e2
  | str z =>
    simp only [gSl] at e
    split at e
    · rename_i hz
      simp only [Option.some.injEq] at e
      subst e
      exact sl_str pins s σ _ _ v vl vu lo hi sl Q I rx hs pl pu ⟨_, rfl, hz, h _ v0 .refl sr rfl (.str _)⟩
    · exact nomatch e
  | non => simp only [gSl, reduceCtorEq] at e
  | bl b => simp only [gSl, reduceCtorEq] at e
  | int b => simp only [gSl, reduceCtorEq] at e
  | fn a => simp only [gSl, reduceCtorEq] at e
  | ob a => simp only [gSl, reduceCtorEq] at e
  | ev a => simp only [gSl, reduceCtorEq] at e
  | dct p l q => simp only [gSl, reduceCtorEq] at e
def eSl (a : E) (lo hi : Os) : E := fun δ s => (a δ s).bind fun x s1 => (lo δ s1).bind fun l s2 => (hi δ s2).bind fun h s3 => R.ofO (gSl (rsv s3 x) l h) s3
theorem se_sl {lo hi : Option Expr} {fl fh : Os} (ha : SE X C a fa) (hl : SO X C lo fl) (hh : SO X C hi fh) : SE X C (.Subscript a (.Slice lo hi none p2) pos) (eSl fa fl fh) :=
  pe_weak (pe_slice s_sl ha hl hh) fun σ H Q ⟨δ, v, re, eH, h⟩ => by
    refine ⟨δ, v, re, eH, on_mono (on_bind h) fun d x v1 l1 s1 r1 h1 => ?_⟩
    refine ⟨δ, v1, re.step l1 s1, rfl, on_mono (on_bind h1) fun l y v2 l2 s2 e2 h2 => ?_⟩
    cases e2
    refine ⟨δ, v2, (re.step l1 s1).step l2 s2, rfl, on_mono (on_bind h2) fun u y v3 l3 s3 e3 h3 => ?_⟩
    cases e3
    obtain ⟨z, e, h3⟩ := on_ofO h3
    exact ⟨v3, _, z, rfl, s3, e, ((l2.trans l3).rep r1).top s3, h3⟩
/-- xs[::-1] -/
def gRev : B1
  | .lst xs => some (.lst xs.reverse)
  | _ => none
theorem se_rev {k : Nat} {p1 p3 p4 : Pos} (ha : SE X C a fa) : SE X C (.Subscript a (.Slice none none (some (.UnaryOp .USub (.Constant (.int 1) k p1) p3)) p4) pos) (eUn gRev fa) :=
  pe_weak (pe_revL ha) fun σ H Q h => by
    obtain ⟨δ, v, re, eH, h1⟩ := lift_un h
    refine ⟨δ, v, re, eH, on_mono h1 fun d x v1 l1 s1 r1 h2 => ?_⟩
    obtain ⟨v2, dx, d2, eH2, sr, e, r2, h2⟩ := h2
    cases r2 <;> simp only [gRev, Option.some.injEq, reduceCtorEq] at e
    rename_i c vs ds p q
    subst e
    rw [← eH2]
    exact ⟨_, _, rfl, p, fun l hl => let ⟨l9, s9⟩ := new_ok (o := .lst _) sr hl; h2 _ _ l9 s9 rfl (.lst (SqL.of upd_same) (l9.repl q.reverse))⟩

/-! ### isinstance -/
def tyN : D → Option String
  | .non => some "NoneType"
  | .bl _ => some "bool"
  | .int _ => some "int"
  | .str _ => some "str"
  | .tup _ => some "tuple"
  | .lst _ => some "list"
  | .fn _ => none
  | .ob _ => none
  | .ev _ _ _ => none
  | .dct _ _ => some "dict"
theorem RepT.tyx {K : PySem.W.Frag} {ct : String → Addr} {w : Vw} (sr : SR K ct w) {d : D} {v : V} {n : String} (r : RepT K ct w d v) (e : tyN d = some n) : TyX K w.H v (.type n) := by
  cases r <;> simp only [tyN, Option.some.injEq, reduceCtorEq] at e <;> subst e
  · exact .base .non
  · exact .base (.bl _)
  · exact .base (.int _)
  · exact .base (.str _)
  · rename_i a vs ds h r
    rcases sqt_mono sr.sub h with (h | ⟨o, h⟩) | ⟨o, its, m, h, c, _⟩
    · exact .base (.tup h)
    · exact .fTuple h
    · exact .kTuple h c
  · rename_i a vs ds h r
    rcases h with (h | ⟨o, h⟩) | ⟨o, its, m, h, c, _⟩
    · exact .base (.lst h)
    · exact .base (.frz h)
    · exact .kList h c
  · rename_i a vs ks ds h l r
    exact .base (.dK h)
theorem RepT.more {K : PySem.W.Frag} {ct : String → Addr} {w w' : Vw} {d : D} {v : V} (l : Le w w') (e : w'.G = w.G) (hh : Same w.H w'.H) (r : RepT K ct w d v) : RepT K ct w' d v := by
  cases r with
  | non => exact .non
  | bl b => exact .bl b
  | int b => exact .int b
  | str b => exact .str b
  | fn s => exact .fn s
  | ob h => exact .ob (l.m _ _ h)
  | tup h r => exact .tup (sqt_mono l.g h) (l.repl r)
  | lst h r => exact .lst (hh.seq h) (l.repl r)
  | dct h k r => exact .dct (hh _ _ h) k (l.repl r)
  | ev h => exact .ev (l.rep h)
/-- the built-in class n of a datum's class -/
def isTy : String → String → Bool
  | "bool", "int" => true
  | a, b => a == b
def gIsi (n : String) : B1 := fun d => (tyN d).map fun t => .bl (isTy t n)
def okTy (n : String) : Bool := ["NoneType", "bool", "int", "str", "tuple", "list", "dict"].all fun t => decide (kitB t n = some (isTy t n))
theorem tyN_mem {d : D} {t : String} (h : tyN d = some t) : t ∈ ["NoneType", "bool", "int", "str", "tuple", "list", "dict"] := by
  cases d <;> simp only [tyN, Option.some.injEq, reduceCtorEq] at h <;> subst h <;> simp
theorem se_isi {pf pn : Pos} {n : String} {nx : Str} (ha : SE X C a fa) (hg : Gl X "isinstance") (hm : X.mg "isinstance" = none) (hgn : Gl X nx) (hmn : X.mg nx = none) (hv : bootBuiltins nx = some (.type n)) (hk : okTy n = true := by decide +kernel)
    (hn : nx ≠ "__name__" := by decide) (hd : (nx == ("__debug__" : Str)) = false := by decide) (hvi : bootBuiltins "isinstance" = some (.builtin "isinstance") := by decide +kernel)
    (hs : starEach [a, .Name nx pn] X.env = (false, eval a X.env) :: starEach [.Name nx pn] X.env := by rfl) (hpl : (backTo pos (starEach [.Name nx pn] X.env)).any (·.1) = false := by rfl)
    (hs2 : starEach [.Name nx pn] X.env = (false, eval (.Name nx pn) X.env) :: starEach [] X.env := by rfl) :
    SE X C (.Call (.Name "isinstance" pf) [a, .Name nx pn] [] pos) (eUn (gIsi n) fa) :=
  pe_weak (pe_callB call_isi hg hm hvi (pa_cons ha (pa_cons (pe_bltn (v := .ty n) hgn hmn hv rfl hn hd) pa_nil hs2) hs) (by decide) (by decide) hs hpl) fun σ H Q h => by
    obtain ⟨δ, v8, re, eH, h1⟩ := lift_un h
    refine ⟨δ, v8, re, eH, on_mono h1 fun d v v1 l1 s1 r1 h2 => ?_⟩
    obtain ⟨v2, dx, d2, eH2, sr, e, r2, h2⟩ := h2
    rw [← eH2]
    unfold gIsi at e
    cases q : tyN dx with
    | none => rw [q] at e; exact nomatch e
    | some t =>
      rw [q] at e
      simp only [Option.map_some, Option.some.injEq] at e
      subst e
      have z : kitB t n = some (isTy t n) := of_decide_eq_true (List.all_eq_true.mp hk t (tyN_mem q))
      exact ⟨v, .ty n, .type t, .type n, isTy t n, rfl, .ty n, r2.tyx sr q, kit_ty z, h2 _ v2 .refl sr rfl (.bl _)⟩
/-- isinstance(x, (T, U)) -/
def gIsi2 (n m : String) : B1 := fun d => (tyN d).map fun t => .bl (isTy t n || isTy t m)
theorem se_isi2 {pf pn pm pt : Pos} {kt : Nat} {n m : String} {nx mx : Str} (ha : SE X C a fa) (hg : Gl X "isinstance") (hm : X.mg "isinstance" = none) (hgn : Gl X nx) (hmn : X.mg nx = none) (hv : bootBuiltins nx = some (.type n)) (hgm : Gl X mx) (hmm : X.mg mx = none) (hvm : bootBuiltins mx = some (.type m)) (hk : okTy n = true := by decide +kernel) (hk2 : okTy m = true := by decide +kernel)
    (hn : nx ≠ "__name__" := by decide) (hd : (nx == ("__debug__" : Str)) = false := by decide) (hn2 : mx ≠ "__name__" := by decide) (hd2 : (mx == ("__debug__" : Str)) = false := by decide) (hvi : bootBuiltins "isinstance" = some (.builtin "isinstance") := by decide +kernel)
    (hs : starEach [a, .Tuple [.Name nx pn, .Name mx pm] kt pt] X.env = (false, eval a X.env) :: starEach [.Tuple [.Name nx pn, .Name mx pm] kt pt] X.env := by rfl) (hpl : (backTo pos (starEach [.Tuple [.Name nx pn, .Name mx pm] kt pt] X.env)).any (·.1) = false := by rfl)
    (hs2 : starEach [.Tuple [.Name nx pn, .Name mx pm] kt pt] X.env = (false, eval (.Tuple [.Name nx pn, .Name mx pm] kt pt) X.env) :: starEach [] X.env := by rfl)
    (hs3 : starEach [.Name nx pn, .Name mx pm] X.env = (false, eval (.Name nx pn) X.env) :: starEach [.Name mx pm] X.env := by rfl) (hs4 : starEach [.Name mx pm] X.env = (false, eval (.Name mx pm) X.env) :: starEach [] X.env := by rfl) :
    SE X C (.Call (.Name "isinstance" pf) [a, .Tuple [.Name nx pn, .Name mx pm] kt pt] [] pos) (eUn (gIsi2 n m) fa) :=
  pe_weak (pe_callB call_isiT hg hm hvi (pa_cons ha (pa_cons (pe_tup (pa_cons (pe_bltn (v := .ty n) hgn hmn hv rfl hn hd) (pa_cons (pe_bltn (v := .ty m) hgm hmm hvm rfl hn2 hd2) pa_nil hs4) hs3)) pa_nil hs2) hs) (by decide) (by decide) hs hpl) fun σ H Q h => by
    obtain ⟨δ, v8, re, eH, h1⟩ := lift_un h
    refine ⟨δ, v8, re, eH, on_mono h1 fun d v v1 l1 s1 r1 h2 => ?_⟩
    obtain ⟨v2, dx, d2, eH2, sr, e, r2, h2⟩ := h2
    rw [← eH2]
    unfold gIsi2 at e
    cases q : tyN dx with
    | none => rw [q] at e; exact nomatch e
    | some t =>
      rw [q] at e
      simp only [Option.map_some, Option.some.injEq] at e
      subst e
      have z : kitB t n = some (isTy t n) := of_decide_eq_true (List.all_eq_true.mp hk t (tyN_mem q))
      have z2 : kitB t m = some (isTy t m) := of_decide_eq_true (List.all_eq_true.mp hk2 t (tyN_mem q))
      refine ⟨by show 2 ≤ sizeLine; decide, fun c hc => ?_⟩
      obtain ⟨l9, s9⟩ := more_ok sr (same_new hc (.tup [V.ty n, V.ty m]))
      have ty : TyX X.K (upd v2.H c (.tup [V.ty n, V.ty m])) v (.type t) := (r2.more l9 rfl (same_new hc _)).tyx s9 q
      refine ⟨v, c, [.ty n, .ty m], .type t, [.type n, .type m], isTy t n || isTy t m, rfl, upd_same, .cons (.ty n) (.cons (.ty m) .nil), ty, ?_, h2 _ _ l9 s9 rfl (.bl _)⟩
      refine kitAny_cons (kit_ty z) (fun b1 => ?_) (fun b1 => ?_)
      · rw [b1, Bool.false_or]
        exact kitAny_cons (kit_ty z2) (fun b2 => by rw [b2]; exact kitAny_nil) (fun b2 => b2)
      · rw [b1, Bool.true_or]

/-! ### methods of texts -/
def rDM (K : PySem.W.Frag) (ct : String → Addr) (g : D → List D → Option D) : V → List V → Hp → VK → Prop := fun x xs H Q => ∃ v dx ds d, v.H = H ∧ SR K ct v ∧ g dx ds = some d ∧ RepT K ct v dx x ∧ RepTL K ct v ds xs ∧ ∀ z v', Le v v' → SR K ct v' → v'.st = v.st → Rep K ct v'.G v'.m d z → Q z v'.H
def isStr : D → Bool
  | .str _ => true
  | _ => false
def eM1 (g : D → List D → Option D) (o a : E) : E := fun δ s => (o δ s).bind fun x s1 => if isStr x then (a δ s1).bind fun y s2 => R.ofO (g x [rsv s2 y]) s2 else .stk
theorem se_m1 {o : Expr} {fo : E} {g : D → List D → Option D} {id : String} {name : Str} {apos : Pos} (slot : PySem.Slot "str" name id) (ty : typeOf (.builtin id) = pure (.type "method_descriptor")) (rule : MtR X id (rDM X.K C.ct g)) (ho : SE X C o fo) (ha : SE X C a fa)
    (hs : starEach [a] X.env = [(false, eval a X.env)] := by rfl) (hbase : attributeBase o name X.env (eval o X.env) = eval o X.env := by rfl) (hline : (apos.endLine == pos.line) = true := by rfl) : SE X C (.Call (.Attribute o name apos) [a] [] pos) (eM1 g fo fa) :=
  pe_weak (pe_m1 slot ty rule ho ha hs hbase hline) fun σ H Q ⟨δ, v, re, eH, h⟩ => by
    refine ⟨δ, v, re, eH, on_mono (on_bind h) fun d x v1 l1 s1 r1 h1 => ?_⟩
    cases r1 <;> first
      | exact h1.elim
      | skip
    rename_i z
    refine ⟨⟨z, rfl⟩, δ, v1, re.step l1 s1, rfl, on_mono (on_bind (show on X.K C σ v1 (rE X.K C.ct) ((fa δ v1.st).bind fun y s2 => R.ofO (g (.str z) [rsv s2 y]) s2) _ from h1)) fun d2 x2 v2 l2 s2 r2 h2 => ?_⟩
    obtain ⟨w, e, h2⟩ := on_ofO h2
    exact ⟨v2, _, _, w, rfl, s2, e, .str z, .cons (r2.top s2) .nil, h2⟩
def gFind : D → List D → Option D
  | .str a, [.str b] => some (.int (Txt.find a b))
  | _, _ => none
def gStarts : D → List D → Option D
  | .str a, [.str b] => some (.bl (Txt.startswith a b))
  | _, _ => none
def gPart : D → List D → Option D
  | .str a, [.str b] => if (b.length == 0) = false ∧ a.length ≤ sizeLine then some (.tup [.str (Txt.partition a b).1, .str (Txt.partition a b).2.1, .str (Txt.partition a b).2.2]) else none
  | _, _ => none
def gSplit : D → List D → Option D
  | .str a, [.str b] => if (b.length == 0) = false ∧ a.length + 2 ≤ sizeLine then some (.lst ((Txt.split a b).map .str)) else none
  | _, _ => none
def gJoin : D → List D → Option D
  | .str a, [.lst xs] => (strsOf xs).bind fun ys => if (ys.map (·.length)).sum + ys.length * a.length ≤ 16777216 then some (.str (Txt.join a ys)) else none
  | _, _ => none
theorem m_find {ct : String → Addr} : MtR X "str.find" (rDM X.K ct gFind) := by
  intro pins s σ H x xs v us Q I rx ru h
  obtain ⟨v0, dx, ds, d, rfl, sr, e, r1, r2, h⟩ := h
  unfold gFind at e
  split at e
  · cases r1
    cases r2 with
    | cons r2 r3 =>
      cases r2; cases r3
      simp only [Option.some.injEq] at e
      subst e
      exact mt_find pins s σ _ _ _ v us Q I rx ru ⟨_, _, rfl, rfl, h _ v0 .refl sr rfl (.int _)⟩
  · exact nomatch e
theorem m_starts {ct : String → Addr} : MtR X "str.startswith" (rDM X.K ct gStarts) := by
  intro pins s σ H x xs v us Q I rx ru h
  obtain ⟨v0, dx, ds, d, rfl, sr, e, r1, r2, h⟩ := h
  unfold gStarts at e
  split at e
  · cases r1
    cases r2 with
    | cons r2 r3 =>
      cases r2; cases r3
      simp only [Option.some.injEq] at e
      subst e
      exact mt_startswith pins s σ _ _ _ v us Q I rx ru ⟨_, _, rfl, rfl, h _ v0 .refl sr rfl (.bl _)⟩
  · exact nomatch e
theorem m_part {ct : String → Addr} : MtR X "str.partition" (rDM X.K ct gPart) := by
  intro pins s σ H x xs v us Q I rx ru h
  obtain ⟨v0, dx, ds, d, rfl, sr, e, r1, r2, h⟩ := h
  unfold gPart at e
  split at e
  · cases r1
    cases r2 with
    | cons r2 r3 =>
      cases r2; cases r3
      split at e
      · rename_i hz
        simp only [Option.some.injEq] at e
        subst e
        exact mt_partition pins s σ _ _ _ v us Q I rx ru ⟨_, _, rfl, rfl, hz.1, hz.2, fun c hc => let ⟨l, s2⟩ := new_ok (o := .tup _) sr hc; h _ _ l s2 rfl (.tup (SqT.of upd_same) (.cons (.str _) (.cons (.str _) (.cons (.str _) .nil))))⟩
      · exact nomatch e
  · exact nomatch e
theorem RepL.strs {K : PySem.W.Frag} {ct : String → Addr} {G : Hp} {m : Nat → Option Addr} : ∀ ns : List Str, RepL K ct G m (ns.map D.str) (ns.map V.str)
  | [] => .nil
  | n :: r => .cons (.str n) (RepL.strs r)
theorem m_split {ct : String → Addr} : MtR X "str.split" (rDM X.K ct gSplit) := by
  intro pins s σ H x xs v us Q I rx ru h
  obtain ⟨v0, dx, ds, d, rfl, sr, e, r1, r2, h⟩ := h
  unfold gSplit at e
  split at e
  · cases r1
    cases r2 with
    | cons r2 r3 =>
      cases r2; cases r3
      split at e
      · rename_i hz
        simp only [Option.some.injEq] at e
        subst e
        exact mt_split pins s σ _ _ _ v us Q I rx ru ⟨_, _, rfl, rfl, hz.1, hz.2, fun c hc => let ⟨l, s2⟩ := new_ok (o := .lst _) sr hc; h _ _ l s2 rfl (.lst (SqL.of upd_same) (RepL.strs _))⟩
      · exact nomatch e
  · exact nomatch e
theorem m_join {ct : String → Addr} : MtR X "str.join" (rDM X.K ct gJoin) := by
  intro pins s σ H x xs v us Q I rx ru h
  obtain ⟨v0, dx, ds, d, rfl, sr, e, r1, r2, h⟩ := h
  unfold gJoin at e
  split at e
  · rename_i a ys
    cases q1 : strsOf ys with
    | none => rw [q1] at e; exact nomatch e
    | some ns =>
      rw [q1] at e
      simp only [Option.bind_some] at e
      have e2 := strsOf_eq q1
      subst e2
      split at e
      · rename_i hz
        simp only [Option.some.injEq] at e
        subst e
        cases r1
        cases r2 with
        | cons r2 r3 =>
          cases r3
          cases r2 with
          | lst p q =>
            have e3 := RepL.of_strs q
            subst e3
            exact mt_join pins s σ _ _ _ v us Q I rx ru ⟨_, _, ns, rfl, rfl, .inl (p), hz, h _ v0 .refl sr rfl (.str _)⟩
      · exact nomatch e
  · exact nomatch e
end
end Gs

/-! G5: statements, targets, loops. -/
namespace Gs
open PySem L2

inductive RS where
  | nx (δ : Sl) (s : Sto) | rt (d : D) (s : Sto) | bk (δ : Sl) (s : Sto) | ct (δ : Sl) (s : Sto) | exc (e : Ex) (δ : Sl) (s : Sto) | stk
abbrev S := Sl → Sto → RS
def onS (K : PySem.W.Frag) (C : Cc) (v : Vw) (r : RS) (Dn : Ends) : Prop := match r with
  | .nx δ s => ∀ σ' v', RE K C σ' δ v' → Le v v' → v'.st = s → Dn.nx σ' v'.H
  | .bk δ s => ∀ σ' v', RE K C σ' δ v' → Le v v' → v'.st = s → Dn.bk σ' v'.H
  | .ct δ s => ∀ σ' v', RE K C σ' δ v' → Le v v' → v'.st = s → Dn.ct σ' v'.H
  | .rt d s => ∀ x v', Le C.v0 v' → SR K C.ct v' → v'.st = s → Rep K C.ct v'.G v'.m d x → Dn.rt x v'.H
  | .exc e δ s => ∀ cls dd σ' v', RE K C σ' δ v' → Le v v' → v'.st = s → RepX K C.ct v' e cls dd → C.W cls dd σ' v'.H
  | .stk => False
def liftS (K : PySem.W.Frag) (C : Cc) (f : S) : TS := fun Dn σ H => ∃ δ v, RE K C σ δ v ∧ v.H = H ∧ onS K C v (f δ v.st) Dn
abbrev SS (X : Cx) (C : Cc) (st : Stmt) (f : S) : Prop := PS X st (liftS X.K C f)
abbrev SSs (X : Cx) (C : Cc) (st : List Stmt) (f : S) : Prop := PSs X st (liftS X.K C f)
theorem ps_weak {X : Cx} {e : Stmt} {t t' : TS} (h : PS X e t) (w : ∀ Dn σ H, t' Dn σ H → t Dn σ H) : PS X e t' := ⟨fun pins s σ H Dn I z => h.run pins s σ H Dn I (w Dn σ H z)⟩
theorem pss_weak {X : Cx} {e : List Stmt} {t t' : TS} (h : PSs X e t) (w : ∀ Dn σ H, t' Dn σ H → t Dn σ H) : PSs X e t' := ⟨fun pins s σ H Dn I z => h.run pins s σ H Dn I (w Dn σ H z)⟩
section
variable {α β : Type} {K : PySem.W.Frag} {C : Cc} {σ : L2.St} {v v' : Vw} {Dn : Ends} {rel : α → β → Vw → Prop}
theorem onS_same {r : RS} (l : Le v v') (h : onS K C v r Dn) : onS K C v' r Dn := by
  cases r with
  | nx δ s => exact fun σ' w re z => h σ' w re (l.trans z)
  | bk δ s => exact fun σ' w re z => h σ' w re (l.trans z)
  | ct δ s => exact fun σ' w re z => h σ' w re (l.trans z)
  | rt d s => exact h
  | exc e δ s => exact fun cls dd σ' w re z => h cls dd σ' w re (l.trans z)
  | stk => exact h
/-- an expression ahead of a statement's rest -/
def sBind {α : Type} (r : R α) (δ : Sl) (k : α → Sto → RS) : RS := match r with
  | .ok a s => k a s
  | .exc e s => .exc e δ s
  | .stk => .stk
theorem onX_of {δ : Sl} {e : Ex} {s : Sto} (re : RE K C σ δ v) (h : onS K C v (.exc e δ s) Dn) : onX K C σ v e s := fun cls dd v' l sr es r => h cls dd σ v' (re.step l sr) l es r
theorem onS_R {δ : Sl} {r : R α} {k : α → Sto → RS} (re : RE K C σ δ v) (h : onS K C v (sBind r δ k) Dn) : on K C σ v rel r fun a _ v1 => onS K C v1 (k a v1.st) Dn := by
  cases r with
  | ok a s =>
    intro b v1 l sr e _
    subst e
    exact onS_same l h
  | exc e s => exact onX_of re h
  | stk => exact h
end

/-! ### blocks -/
def sNx : S := fun δ s => .nx δ s
def sSeq (f g : S) : S := fun δ s => match f δ s with
  | .nx δ' s' => g δ' s'
  | r => r
section
variable {X : Cx} {C : Cc} {pos : Pos} {st : Stmt} {rest : List Stmt} {f g : S}
theorem ss_nil : SSs X C [] sNx := pss_weak pss_nil fun Dn σ H ⟨δ, v, re, eH, h⟩ => by subst eH; exact h σ v re .refl rfl
theorem ss_one (h1 : SS X C st f) : SSs X C [st] f := pss_one h1
theorem ss_cons (h1 : SS X C st f) (h2 : SSs X C rest g) : SSs X C (st :: rest) (sSeq f g) := pss_weak (pss_cons h1 h2) fun Dn σ H ⟨δ, v, re, eH, h⟩ => by
  refine ⟨δ, v, re, eH, ?_⟩
  unfold sSeq at h
  cases e : f δ v.st with
  | nx δ' s' => rw [e] at h; exact fun σ' v' re' l es => ⟨δ', v', re', rfl, by subst es; exact onS_same l h⟩
  | rt d s' => rw [e] at h; exact h
  | bk δ' s' => rw [e] at h; exact h
  | ct δ' s' => rw [e] at h; exact h
  | exc e2 δ' s' => rw [e] at h; exact h
  | stk => rw [e] at h; exact h
theorem ss_pass : SS X C (.Pass pos) sNx := ps_weak ps_pass fun Dn σ H ⟨δ, v, re, eH, h⟩ => by subst eH; exact h σ v re .refl rfl
def sBk : S := fun δ s => .bk δ s
def sCt : S := fun δ s => .ct δ s
theorem ss_break : SS X C (.Break pos) sBk := ps_weak ps_break fun Dn σ H ⟨δ, v, re, eH, h⟩ => by subst eH; exact h σ v re .refl rfl
theorem ss_cont : SS X C (.Continue pos) sCt := ps_weak ps_continue fun Dn σ H ⟨δ, v, re, eH, h⟩ => by subst eH; exact h σ v re .refl rfl
def sRet (f : E) : S := fun δ s => sBind (f δ s) δ fun d s1 => .rt d s1
theorem ss_ret {e : Expr} {f : E} (he : SE X C e f) : SS X C (.Return (some e) pos) (sRet f) := ps_weak (ps_ret he) fun Dn σ H ⟨δ, v, re, eH, h⟩ =>
  ⟨δ, v, re, eH, on_mono (onS_R re h) fun d x v1 l1 s1 r1 h1 => h1 x v1 (re.le.trans l1) s1 rfl r1⟩
def sRetN : S := fun _ s => .rt .non s
theorem ss_retN : SS X C (.Return none pos) sRetN := ps_weak ps_retN fun Dn σ H ⟨δ, v, re, eH, h⟩ => by subst eH; exact h .non v re.le re.sr rfl .non
def sIf (t : T) (a b : S) : S := fun δ s => sBind (t δ s) δ fun k s1 => if k = true then a δ s1 else b δ s1
theorem ss_if {c : Expr} {a b : List Stmt} {t : T} {fa fb : S} (hc : ST X C c t) (ha : SSs X C a fa) (hb : SSs X C b fb) : SS X C (.If c a b pos) (sIf t fa fb) := ps_weak (ps_if hc ha hb) fun Dn σ H ⟨δ, v, re, eH, h⟩ => by
  refine ⟨δ, v, re, eH, on_mono (onS_R re h) fun k k2 v1 l1 s1 e h1 => ?_⟩
  cases e
  cases k with
  | true => exact ⟨δ, v1, re.step l1 s1, rfl, h1⟩
  | false => exact ⟨δ, v1, re.step l1 s1, rfl, h1⟩
def sDrop (f : E) : S := fun δ s => sBind (f δ s) δ fun _ s1 => .nx δ s1
theorem ss_expr {e : Expr} {f : E} (he : SE X C e f) (hs : swapsWith e none pos.line X.env = pure false := by rfl) : SS X C (.Expr e pos) (sDrop f) := ps_weak (ps_expr he hs) fun Dn σ H ⟨δ, v, re, eH, h⟩ =>
  ⟨δ, v, re, eH, on_mono (onS_R re h) fun d x v1 l1 s1 r1 h1 => h1 σ v1 (re.step l1 s1) .refl rfl⟩
def sStk : S := fun _ _ => .stk
theorem ss_never : SS X C st sStk := ps_weak ps_never fun Dn σ H ⟨δ, v, re, eH, h⟩ => h
def sSet (i : Nat) (f : E) : S := fun δ s => sBind (f δ s) δ fun d s1 => .nx (δ.set i (some d)) s1
theorem ss_set (i : Nat) {x : Str} {e : Expr} {f : E} {pos' : Pos} (he : SE X C e f) (hN : X.N.Nodup) (hi : X.N[i]? = some x := by rfl) (hx : Loc X.env.scope x := by first | exact Or.inl rfl | exact Or.inr rfl) (hs : swapsWith e (some (.Name x pos')) pos.line X.env = pure false := by rfl)
    (hf : X.fn x = true ∨ X.env.scope.names.lookup x = some .local := by first | exact Or.inr rfl | exact Or.inl rfl) : SS X C (.Assign [.Name x pos'] e pos) (sSet i f) := ps_weak (ps_set hN hi hx he hs hf) fun Dn σ H ⟨δ, v, re, eH, h⟩ =>
  ⟨δ, v, re, eH, on_mono (onS_R re h) fun d x v1 l1 s1 r1 h1 => h1 (σ.set i (some x)) v1 ((re.step l1 s1).setV i r1) .refl rfl⟩
end

/-! ### targets -/
inductive Pt where
  | nm (i : Nat) | tp (ps : List Pt)
mutual
def bindP : Pt → D → Sl → Option Sl
  | .nm i, d, δ => some (δ.set i (some d))
  | .tp ps, .tup ds, δ => bindPs ps ds δ
  | .tp ps, .lst ds, δ => bindPs ps ds δ
  | _, _, _ => none
def bindPs : List Pt → List D → Sl → Option Sl
  | [], [], δ => some δ
  | p :: ps, d :: ds, δ => match bindP p d δ with
    | some δ' => bindPs ps ds δ'
    | none => none
  | _, _, _ => none
end
mutual
def idxP : Pt → List Nat
  | .nm i => [i]
  | .tp ps => idxPs ps
def idxPs : List Pt → List Nat
  | [] => []
  | p :: ps => idxP p ++ idxPs ps
end
/-- σ' differs from σ at these places alone -/
def Off (is : List Nat) (σ σ' : L2.St) : Prop := σ'.length = σ.length ∧ ∀ j, j ∉ is → σ'[j]? = σ[j]?
theorem Off.refl {is : List Nat} {σ : L2.St} : Off is σ σ := ⟨rfl, fun _ _ => rfl⟩
theorem Off.trans {is js : List Nat} {σ σ1 σ2 : L2.St} (a : Off is σ σ1) (b : Off js σ1 σ2) : Off (is ++ js) σ σ2 :=
  ⟨b.1.trans a.1, fun j hj => (b.2 j fun z => hj (List.mem_append_right _ z)).trans (a.2 j fun z => hj (List.mem_append_left _ z))⟩
def liftG (K : PySem.W.Frag) (C : Cc) (p : Pt) : TG := fun x σ H Q => ∃ d δ v δ', RE K C σ δ v ∧ v.H = H ∧ Rep K C.ct v.G v.m d x ∧ bindP p d δ = some δ' ∧ ∀ σ', RE K C σ' δ' v → Off (idxP p) σ σ' → Q σ' H
def liftGs (K : PySem.W.Frag) (C : Cc) (ps : List Pt) : TGs := fun vs σ H Q => ∃ ds δ v δ', RE K C σ δ v ∧ v.H = H ∧ RepL K C.ct v.G v.m ds vs ∧ bindPs ps ds δ = some δ' ∧ ∀ σ', RE K C σ' δ' v → Off (idxPs ps) σ σ' → Q σ' H
abbrev SG (X : Cx) (C : Cc) (e : Expr) (p : Pt) : Prop := PG X e (liftG X.K C p)
abbrev SGs (X : Cx) (C : Cc) (es : List Expr) (ps : List Pt) : Prop := PGs X es (liftGs X.K C ps)
theorem pg_weak {X : Cx} {e : Expr} {t t' : TG} (h : PG X e t) (w : ∀ v σ H Q, t' v σ H Q → t v σ H Q) : PG X e t' := ⟨fun pins s σ H v u Q I r z => h.run pins s σ H v u Q I r (w v σ H Q z)⟩
theorem pgs_weak {X : Cx} {e : List Expr} {t t' : TGs} (h : PGs X e t) (w : ∀ v σ H Q, t' v σ H Q → t v σ H Q) : PGs X e t' := ⟨fun pins s σ H v u Q I r z => h.run pins s σ H v u Q I r (w v σ H Q z)⟩
theorem bindPs_len : ∀ {ps : List Pt} {ds : List D} {δ δ' : Sl}, bindPs ps ds δ = some δ' → ds.length = ps.length := by
  intro ps
  induction ps with
  | nil => intro ds δ δ' e; cases ds with
    | nil => rfl
    | cons a b => simp [bindPs] at e
  | cons p ps ih => intro ds δ δ' e; cases ds with
    | nil => simp [bindPs] at e
    | cons a b =>
      simp only [bindPs] at e
      cases q : bindP p a δ with
      | none => rw [q] at e; exact nomatch e
      | some δ1 => rw [q] at e; simp [ih e]
section
variable {X : Cx} {C : Cc} {pos : Pos}
theorem sg_name (i : Nat) {x : Str} (hN : X.N.Nodup) (hi : X.N[i]? = some x := by rfl) (hx : Loc X.env.scope x := by first | exact Or.inl rfl | exact Or.inr rfl) (hf : X.fn x = true ∨ X.env.scope.names.lookup x = some .local := by first | exact Or.inr rfl | exact Or.inl rfl) : SG X C (.Name x pos) (.nm i) :=
  pg_weak (pg_name hN hi hx hf) fun v σ H Q ⟨d, δ, w, δ', re, eH, r, e, h⟩ => by
    simp only [bindP, Option.some.injEq] at e
    subst e
    refine h _ (re.setV i r) ⟨by simp, fun j hj => ?_⟩
    rw [List.getElem?_set_ne]
    intro z
    exact hj (by simp [idxP, z])
theorem sgs_nil : SGs X C [] [] := pgs_weak pgs_nil fun v σ H Q ⟨ds, δ, w, δ', re, eH, r, e, h⟩ => by
  cases r with
  | nil =>
    simp only [bindPs, Option.some.injEq] at e
    subst e
    exact ⟨rfl, h σ re Off.refl⟩
  | cons a b => simp [bindPs] at e
theorem sgs_cons {e : Expr} {es : List Expr} {p : Pt} {ps : List Pt} (h1 : SG X C e p) (h2 : SGs X C es ps) (hs : (assignEach (e :: es) X.env).map (·.2) = assign e X.env :: (assignEach es X.env).map (·.2) := by rfl) : SGs X C (e :: es) (p :: ps) :=
  pgs_weak (pgs_cons h1 h2 hs) fun v σ H Q ⟨ds, δ, w, δ', re, eH, r, e, h⟩ => by
    cases r with
    | nil => simp [bindPs] at e
    | @cons d9 v0 ds0 vs0 a b =>
      simp only [bindPs] at e
      cases q : bindP p d9 δ with
      | none => rw [q] at e; exact nomatch e
      | some δ1 =>
        rw [q] at e
        exact ⟨v0, vs0, rfl, d9, δ, w, δ1, re, eH, a, q, fun σ1 re1 o1 => ⟨ds0, δ1, w, δ', re1, eH, b, e, fun σ2 re2 o2 => h σ2 re2 (o1.trans o2)⟩⟩
theorem sg_tup {es : List Expr} {k : Nat} {ps : List Pt} (hc : X.calm = true) (h : SGs X C es ps) (hl : es.length = ps.length := by rfl) (hn : (assignEach es X.env).length = es.length := by rfl) (hst : (assignEach es X.env).findIdx? (·.1) = none := by rfl) :
    SG X C (.Tuple es k pos) (.tp ps) := by
  refine ⟨fun pins s σ H v u Q I rv ⟨d, δ, w, δ', re, eH, r, e, z⟩ => ?_⟩
  subst eH
  cases r with
  | @tup a vs ds p q =>
    simp only [bindP] at e
    have l1 := bindPs_len e
    have l2 := q.length
    exact (pg_tup hc h hn hst).run pins s σ _ _ u Q I rv ⟨a, vs, rfl, sqt_mono re.sr.sub p, by omega, ds, δ, w, δ', re, rfl, q, e, fun σ' re' o => z σ' re' o⟩
  | @lst a vs ds p q =>
    simp only [bindP] at e
    have l1 := bindPs_len e
    have l2 := q.length
    exact (pg_lst hc h hn hst).run pins s σ _ _ u Q I rv ⟨a, vs, rfl, re.sr.sub.seq p, by omega, ds, δ, w, δ', re, rfl, q, e, fun σ' re' o => z σ' re' o⟩
  | non => simp [bindP] at e
  | bl b => simp [bindP] at e
  | int b => simp [bindP] at e
  | str b => simp [bindP] at e
  | fn b => simp [bindP] at e
  | ob b => simp [bindP] at e
  | ev0 b => simp [bindP] at e
  | ev n a b c d => simp [bindP] at e
  | dct p l q => simp [bindP] at e
def sBindP (p : Pt) (d : D) (δ : Sl) (s : Sto) : RS := match bindP p d δ with
  | some δ' => .nx δ' s
  | none => .stk
def sAsg (p : Pt) (f : E) : S := fun δ s => sBind (f δ s) δ fun d s1 => sBindP p d δ s1
theorem ss_asg {tg e : Expr} {p : Pt} {f : E} (he : SE X C e f) (hg : SG X C tg p) (hs : swapsWithSole [tg] e pos.line X.env = pure false := by rfl) (hw : swappedStores [tg] e X.env = pure none := by rfl)
    (h1 : (assignEach [tg] X.env).map (·.2) = [assign tg X.env] := by rfl) : SS X C (.Assign [tg] e pos) (sAsg p f) := ps_weak (ps_asg he hg hs hw h1) fun Dn σ H ⟨δ, v, re, eH, h⟩ =>
  ⟨δ, v, re, eH, on_mono (onS_R re h) fun d0 x v1 l1 s1 r1 h1 => by
    unfold sBindP at h1
    cases q : bindP p d0 δ with
    | none => rw [q] at h1; exact h1.elim
    | some δ' => rw [q] at h1; exact ⟨d0, δ, v1, δ', re.step l1 s1, rfl, r1, q, fun σ' re' _ => h1 σ' v1 re' .refl rfl⟩⟩
/-- x op= e -/
def sAug (i : Nat) (g : B2) (f : E) : S := fun δ s => match δ[i]? with
  | some (some x) => sBind (f δ s) δ fun y s1 => match g (rsv s1 x) (rsv s1 y) with
    | some z => .nx (δ.set i (some z)) s1
    | none => .stk
  | _ => .stk
theorem ss_aug (i : Nat) {x : Str} {e : Expr} {f : E} {op : Operator} {g : B2} {pos' : Pos} (ho : OpR X (inplaceOp op) (rD X.K C.ct g)) (he : SE X C e f) (hN : X.N.Nodup) (hi : X.N[i]? = some x := by rfl) (hx : Loc X.env.scope x := by first | exact Or.inl rfl | exact Or.inr rfl)
    (hf : X.fn x = true ∨ X.env.scope.names.lookup x = some .local := by first | exact Or.inr rfl | exact Or.inl rfl) : SS X C (.AugAssign (.Name x pos') op e pos) (sAug i g f) :=
  ps_weak (ps_aug hN hi hx he ho hf) fun Dn σ H ⟨δ, v, re, eH, h⟩ => by
    unfold sAug at h
    split at h
    · rename_i d0 q
      obtain ⟨v0, e0, r0⟩ := re.sl i d0 q
      refine ⟨v0, e0, δ, v, re, eH, on_mono (onS_R re h) fun d x v1 l1 s1 r1 h1 => ?_⟩
      split at h1
      · rename_i w z
        exact ⟨v1, _, _, w, rfl, s1, z, (l1.rep r0).top s1, r1.top s1, fun x2 v2 l2 s2 e2 r2 => h1 _ v2 (((re.step l1 s1).step l2 s2).setV i r2) l2 e2⟩
      · exact h1.elim
    · exact h.elim
def gAddI : B2
  | .int i, .int j => some (.int (i + j))
  | .str x, .str y => if x.length + y.length ≤ sizeLine then some (.str (x ++ y)) else none
  | _, _ => none
theorem io_addI {ct : String → Addr} : OpR X (inplaceOp .Add) (rD X.K ct gAddI) := by
  intro pins s σ H x y v u Q I rx ry h
  obtain ⟨v0, dx, dy, d, rfl, sr, e, r1, r2, h⟩ := h
  cases r1 <;> cases r2 <;> simp only [gAddI, Option.some.injEq, reduceCtorEq] at e
  · subst e
    exact iop_add pins s σ _ _ _ v u Q I rx ry ⟨_, _, rfl, rfl, h _ v0 .refl sr rfl (.int _)⟩
  · split at e
    · rename_i hz
      simp only [Option.some.injEq] at e
      subst e
      exact iop_add_str pins s σ _ _ _ v u Q I rx ry ⟨_, _, rfl, rfl, hz, h _ v0 .refl sr rfl (.str _)⟩
    · exact nomatch e
theorem io_sub {ct : String → Addr} : OpR X (inplaceOp .Sub) (rD X.K ct gSub) := by
  intro pins s σ H x y v u Q I rx ry h
  obtain ⟨v0, dx, dy, d, rfl, sr, e, r1, r2, h⟩ := h
  cases r1 <;> cases r2 <;> simp only [gSub, Option.some.injEq, reduceCtorEq] at e
  subst e
  exact iop_sub pins s σ _ _ _ v u Q I rx ry ⟨_, _, rfl, rfl, h _ v0 .refl sr rfl (.int _)⟩
end

/-! ### for -/
structure ItOk (K : PySem.W.Frag) (ct : String → Addr) (J : It) (v : Vw) (items : List D) : Prop where
  go : ∀ i w, Le v w → SR K ct w → i < items.length → J.go i w.H
  stop : ∀ i w, Le v w → SR K ct w → items.length ≤ i → J.stop i w.H
  yld : ∀ i w x H', Le v w → SR K ct w → i < items.length → J.yld i w.H x H' → ∃ d w2, items[i]? = some d ∧ w2.H = H' ∧ Le w w2 ∧ SR K ct w2 ∧ w2.st = w.st ∧ Rep K ct w2.G w2.m d x
abbrev rI (K : PySem.W.Frag) (ct : String → Addr) : List D → It → Vw → Prop := fun items J v => ItOk K ct J v items
def liftI (K : PySem.W.Frag) (C : Cc) (f : As) : TI := fun σ H P => ∃ δ v, RE K C σ δ v ∧ v.H = H ∧ on K C σ v (rI K C.ct) (f δ v.st) fun _ J v' => P J v'.H
abbrev SI (X : Cx) (C : Cc) (tg e : Expr) (f : As) : Prop := PI X tg e (liftI X.K C f)
theorem pi_weak {X : Cx} {tg e : Expr} {t t' : TI} (h : PI X tg e t) (w : ∀ σ H Q, t' σ H Q → t σ H Q) : PI X tg e t' := ⟨fun pins s σ H Q I z => h.run pins s σ H Q I (w σ H Q z)⟩
def forD (p : Pt) (body : S) : List D → Sl → Sto → RS
  | [], δ, s => .nx δ s
  | d :: ds, δ, s => match bindP p d δ with
    | none => .stk
    | some δ1 => match body δ1 s with
      | .nx δ2 s2 => forD p body ds δ2 s2
      | .ct δ2 s2 => forD p body ds δ2 s2
      | .bk δ2 s2 => .nx δ2 s2
      | r => r
def sFor (it : As) (p : Pt) (body : S) : S := fun δ s => sBind (it δ s) δ fun items s1 => forD p body items δ s1
section
variable {X : Cx} {C : Cc} {pos : Pos} {tg iter : Expr}
theorem ss_for {body : List Stmt} {f : As} {p : Pt} {fb : S} (hp : PassesOwn (model X.prog X.w) X.A X.env X.xe) (hc : X.calm = true) (hi : SI X C tg iter f) (hg : SG X C tg p) (hb : SSs X C body fb)
    (hs : ∀ x, foldedSetIterable iter X.env x = pure x := by intro _; rfl) : SS X C (.For tg iter body [] pos) (sFor f p fb) := ps_weak (ps_for hp hc hi hg hb hs) fun Dn σ H ⟨δ, v, re, eH, h⟩ => by
  refine ⟨δ, v, re, eH, on_mono (onS_R re h) fun items J v1 l1 s1 ok h0 => ?_⟩
  refine ⟨fun i m σ H => m = items.length - i ∧ i ≤ items.length ∧ ∃ δ w, RE X.K C σ δ w ∧ w.H = H ∧ Le v1 w ∧ onS X.K C w (forD p fb (items.drop i) δ w.st) Dn, ⟨items.length, by simp, Nat.zero_le _, δ, v1, re.step l1 s1, rfl, .refl, h0⟩, ?_⟩
  rintro i m σ2 H2 ⟨rfl, hi, δ2, w, re2, rfl, lw, q⟩
  by_cases hlt : i < items.length
  · refine .inr ⟨ok.go i w lw re2.sr hlt, fun σ H => ∃ δ w, RE X.K C σ δ w ∧ w.H = H ∧ Le v1 w ∧ onS X.K C w (forD p fb (items.drop (i + 1)) δ w.st) Dn, fun σ' H' n => ⟨items.length - (i + 1), by omega, rfl, hlt, n⟩, fun x H' y => ?_⟩
    obtain ⟨d, w3, ed, rfl, l3, s3, e3, r3⟩ := ok.yld i w x H' lw re2.sr hlt y
    have ed2 : items.drop i = d :: items.drop (i + 1) := by
      rw [List.drop_eq_getElem_cons hlt]
      rw [List.getElem?_eq_getElem hlt] at ed
      rw [Option.some.inj ed]
    rw [ed2] at q
    simp only [forD] at q
    cases eb : bindP p d δ2 with
    | none => rw [eb] at q; exact q.elim
    | some δ3 =>
      rw [eb] at q
      refine ⟨d, δ2, w3, δ3, re2.step l3 s3, rfl, r3, eb, fun σ4 re4 _ => ⟨δ3, w3, re4, rfl, ?_⟩⟩
      simp only at q
      rw [e3]
      cases ef : fb δ3 w.st with
      | nx δ4 s4 => rw [ef] at q; exact fun σ' w' re' l' es => ⟨δ4, w', re', rfl, (lw.trans l3).trans l', by subst es; exact onS_same (l3.trans l') q⟩
      | ct δ4 s4 => rw [ef] at q; exact fun σ' w' re' l' es => ⟨δ4, w', re', rfl, (lw.trans l3).trans l', by subst es; exact onS_same (l3.trans l') q⟩
      | bk δ4 s4 => rw [ef] at q; exact fun σ' w' re' l' es => q σ' w' re' (l3.trans l') es
      | rt d s4 => rw [ef] at q; exact q
      | exc e4 δ4 s4 => rw [ef] at q; exact fun cls dd σ' w' re' l' es rx => q cls dd σ' w' re' (l3.trans l') es rx
      | stk => rw [ef] at q; exact q
  · have ei : i = items.length := by omega
    subst ei
    rw [List.drop_length] at q
    exact .inl ⟨ok.stop _ w lw re2.sr (Nat.le_refl _), q σ2 w re2 .refl rfl⟩

/-! ### what is walked -/
theorem itOk_list {K : PySem.W.Frag} {ct : String → Addr} {v : Vw} {a : Addr} {vs : List V} {ds : List D} (h : SqL K v.G a vs) (r : RepL K ct v.G v.m ds vs) : ItOk K ct (Itl K a) v ds where
  go := fun i w l s hi => by
    obtain ⟨x, e, _⟩ := r.get (List.getElem?_eq_getElem hi)
    exact ⟨vs, x, s.sub.seq (l.g.seq h), e⟩
  stop := fun i w l s hi => ⟨vs, s.sub.seq (l.g.seq h), by rw [← r.length]; exact hi⟩
  yld := fun i w x H' l s hi y => by
    obtain ⟨x', e, rv⟩ := r.get (List.getElem?_eq_getElem hi)
    obtain ⟨rfl, y2⟩ := y
    have z := y2 vs (s.sub.seq (l.g.seq h))
    rw [e] at z
    cases z
    exact ⟨_, w, List.getElem?_eq_getElem hi, rfl, .refl, s, rfl, l.rep rv⟩
theorem itOk_tup {K : PySem.W.Frag} {ct : String → Addr} {v : Vw} {a : Addr} {vs : List V} {ds : List D} (h : SqT K v.G a vs) (r : RepL K ct v.G v.m ds vs) : ItOk K ct (Itt K a) v ds where
  go := fun i w l s hi => by
    obtain ⟨x, e, _⟩ := r.get (List.getElem?_eq_getElem hi)
    exact ⟨vs, x, sqt_mono s.sub (sqt_mono l.g h), e⟩
  stop := fun i w l s hi => ⟨vs, sqt_mono s.sub (sqt_mono l.g h), by rw [← r.length]; exact hi⟩
  yld := fun i w x H' l s hi y => by
    obtain ⟨x', e, rv⟩ := r.get (List.getElem?_eq_getElem hi)
    obtain ⟨rfl, y2⟩ := y
    have z := y2 vs (sqt_mono s.sub (sqt_mono l.g h))
    rw [e] at z
    cases z
    exact ⟨_, w, List.getElem?_eq_getElem hi, rfl, .refl, s, rfl, l.rep rv⟩
theorem itOk_str {K : PySem.W.Frag} {ct : String → Addr} {v : Vw} {x : Str} : ItOk K ct (Its x) v (signs x) where
  go := fun i w l s hi => by show i < x.cps.size; simpa [signs] using hi
  stop := fun i w l s hi => by show x.cps.size ≤ i; simpa [signs] using hi
  yld := fun i w z H' l s hi y => by
    obtain ⟨rfl, c, e, rfl⟩ := y
    refine ⟨.str ⟨#[c]⟩, w, ?_, rfl, .refl, s, rfl, .str _⟩
    simp [signs, e]
/-- the things of a list (frozen), a tuple, a text -/
def seqOf : D → Option (List D)
  | .lst xs => some xs
  | .tup xs => some xs
  | .str x => some (signs x)
  | _ => none
def iSeq (f : E) : As := fun δ s => (f δ s).bind fun d s1 => R.ofO (seqOf d) s1
theorem si_seq {e : Expr} {f : E} (he : SE X C e f) : SI X C tg e (iSeq f) := by
  refine ⟨fun pins s σ H Rr I ⟨δ, v, re, eH, h⟩ => ?_⟩
  unfold iSeq at h
  have hz := on_bind (rel := rE X.K C.ct) h
  cases q : f δ v.st with
  | stk => rw [q] at hz; exact hz.elim
  | exc e s1 => exact (pi_list he).run pins s σ H Rr I ⟨δ, v, re, eH, by rw [q] at hz ⊢; exact hz⟩
  | ok d s1 =>
    rw [q] at hz
    have go : ∀ (P : V → Vw → Prop), (∀ x v1, Le v v1 → SR X.K C.ct v1 → v1.st = s1 → Rep X.K C.ct v1.G v1.m d x → P x v1) → on X.K C σ v (rE X.K C.ct) (f δ v.st) fun _ x v' => P x v' := fun P w => by rw [q]; exact w
    cases d with
    | lst xs =>
      refine (pi_list he).run pins s σ H Rr I ⟨δ, v, re, eH, go _ fun x v1 l1 sr1 es r1 => ?_⟩
      have h9 := hz x v1 l1 sr1 es r1
      cases r1 with
      | @lst a vs _ p rl => exact ⟨a, rfl, ⟨vs, sr1.sub.seq p⟩, on_self sr1 h9 (itOk_list p rl)⟩
    | tup xs =>
      refine (pi_tup he).run pins s σ H Rr I ⟨δ, v, re, eH, go _ fun x v1 l1 sr1 es r1 => ?_⟩
      have h9 := hz x v1 l1 sr1 es r1
      cases r1 with
      | @tup a vs _ p rl => exact ⟨a, rfl, ⟨vs, sqt_mono sr1.sub p⟩, on_self sr1 h9 (itOk_tup p rl)⟩
    | str z =>
      refine (pi_str he).run pins s σ H Rr I ⟨δ, v, re, eH, go _ fun x v1 l1 sr1 es r1 => ?_⟩
      have h9 := hz x v1 l1 sr1 es r1
      cases r1
      exact ⟨z, rfl, on_self sr1 h9 itOk_str⟩
    | _ => exact (pi_list he).run pins s σ H Rr I ⟨δ, v, re, eH, go _ fun x v1 l1 sr1 es r1 => (hz x v1 l1 sr1 es r1).elim⟩
/-- the whole numbers lo, lo + 1, .. -/
def rngD (lo : Int) (n : Nat) : List D := (List.range n).map fun (i : Nat) => .int (lo + (i : Int))
theorem ints_get {lo : Int} {n i : Nat} (h : i < n) : (rngD lo n)[i]? = some (.int (lo + (i : Int))) := by simp [rngD, h]
theorem itOk_rng {K : PySem.W.Frag} {ct : String → Addr} {v : Vw} {lo : Int} {n : Nat} : ItOk K ct (Itr lo n) v (rngD lo n) where
  go := fun i w l s hi => by show i < n; simpa [rngD] using hi
  stop := fun i w l s hi => by show n ≤ i; simpa [rngD] using hi
  yld := fun i w z H' l s hi y => by
    obtain ⟨rfl, rfl⟩ := y
    exact ⟨_, w, ints_get (by simpa [rngD] using hi), rfl, .refl, s, rfl, .int _⟩
def iRange1 (a : As) : As := fun δ s => (a δ s).bind fun ds s1 => match ds with
  | [.int j] => if -(2 ^ 62) ≤ j ∧ j < 2 ^ 62 then .ok (rngD 0 j.toNat) s1 else .stk
  | _ => .stk
def iRange2 (a : As) : As := fun δ s => (a δ s).bind fun ds s1 => match ds with
  | [.int i, .int j] => if -(2 ^ 62) ≤ i ∧ i < 2 ^ 62 ∧ -(2 ^ 62) ≤ j ∧ j < 2 ^ 62 then .ok (rngD i (j - i).toNat) s1 else .stk
  | _ => .stk
theorem si_range1 {a : Expr} {f : As} {p pos : Pos} (hg : Gl X "range") (hm : X.mg "range" = none) (ha : SA X C [a] f) (hs : starEach [a] X.env = [(false, eval a X.env)] := by rfl) : SI X C tg (.Call (.Name "range" p) [a] [] pos) (iRange1 f) :=
  pi_weak (pi_range1 hg hm ha hs) fun σ H P ⟨δ, v, re, eH, h⟩ => ⟨δ, v, re, eH, on_mono (on_bind h) fun ds vs v1 l1 s1 r1 h1 => by
    split at h1
    · rename_i j
      cases r1 with
      | cons r2 r3 =>
        cases r2; cases r3
        split at h1
        · rename_i hz
          exact ⟨j, rfl, hz.1, hz.2, on_self s1 h1 itOk_rng⟩
        · exact h1.elim
    · exact h1.elim⟩
theorem si_range2 {a b : Expr} {f : As} {p pos : Pos} (hg : Gl X "range") (hm : X.mg "range" = none) (ha : SA X C [a, b] f) (hs : starEach [a, b] X.env = [(false, eval a X.env), (false, eval b X.env)] := by rfl) (hs2 : starEach [b] X.env = [(false, eval b X.env)] := by rfl) :
    SI X C tg (.Call (.Name "range" p) [a, b] [] pos) (iRange2 f) :=
  pi_weak (pi_range2 hg hm ha hs hs2) fun σ H P ⟨δ, v, re, eH, h⟩ => ⟨δ, v, re, eH, on_mono (on_bind h) fun ds vs v1 l1 s1 r1 h1 => by
    split at h1
    · rename_i i j
      cases r1 with
      | cons r2 r3 =>
        cases r3 with
        | cons r3 r4 =>
          cases r2; cases r3; cases r4
          split at h1
          · rename_i hz
            exact ⟨i, j, rfl, hz, on_self s1 h1 itOk_rng⟩
          · exact h1.elim
    · exact h1.elim⟩
end

/-! ### while -/
def whileD (c : T) (body : S) : Nat → Sl → Sto → RS
  | 0, _, _ => .stk
  | n + 1, δ, s => match c δ s with
    | .ok true s1 => match body δ s1 with
      | .nx δ2 s2 => whileD c body n δ2 s2
      | .ct δ2 s2 => whileD c body n δ2 s2
      | .bk δ2 s2 => .nx δ2 s2
      | r => r
    | .ok false s1 => .nx δ s1
    | .exc e s1 => .exc e δ s1
    | .stk => .stk
section
variable {X : Cx} {C : Cc} {pos : Pos}
theorem ss_while (n : Nat) {c : Expr} {body : List Stmt} {t : T} {fb : S} (hp : PassesOwn (model X.prog X.w) X.A X.env X.xe) (hc : ST X C c t) (hb : SSs X C body fb) : SS X C (.While c body [] pos) (whileD t fb n) :=
  ps_weak (ps_while hp hc hb) fun Dn σ H ⟨δ, v, re, eH, h⟩ => by
    refine ⟨fun m σ H => ∃ δ v, RE X.K C σ δ v ∧ v.H = H ∧ onS X.K C v (whileD t fb m δ v.st) Dn, ⟨n, δ, v, re, eH, h⟩, ?_⟩
    rintro m σ2 H2 ⟨δ2, w, re2, rfl, q⟩
    cases m with
    | zero => exact q.elim
    | succ m =>
      simp only [whileD] at q
      refine ⟨δ2, w, re2, rfl, ?_⟩
      cases e : t δ2 w.st with
      | stk => rw [e] at q; exact q.elim
      | exc ex s1 => rw [e] at q; exact onX_of re2 q
      | ok b s1 =>
        rw [e] at q
        intro b2 w3 l3 s3 es eb
        cases eb
        cases b with
        | false =>
          rw [if_neg Bool.false_ne_true]
          exact q σ2 w3 (re2.step l3 s3) l3 es
        | true =>
          rw [if_pos rfl]
          refine ⟨fun σ H => ∃ δ v, RE X.K C σ δ v ∧ v.H = H ∧ onS X.K C v (whileD t fb m δ v.st) Dn, fun σ' H' z => ⟨m, Nat.lt_succ_self _, z⟩, δ2, w3, re2.step l3 s3, rfl, ?_⟩
          simp only at q
          subst es
          cases ef : fb δ2 w3.st with
          | nx δ4 s4 => rw [ef] at q; exact fun σ' w' re' l' es => ⟨δ4, w', re', rfl, by subst es; exact onS_same (l3.trans l') q⟩
          | ct δ4 s4 => rw [ef] at q; exact fun σ' w' re' l' es => ⟨δ4, w', re', rfl, by subst es; exact onS_same (l3.trans l') q⟩
          | bk δ4 s4 => rw [ef] at q; exact fun σ' w' re' l' es => q σ' w' re' (l3.trans l') es
          | rt d s4 => rw [ef] at q; exact q
          | exc e4 δ4 s4 => rw [ef] at q; exact fun cls dd σ' w' re' l' es rx => q cls dd σ' w' re' (l3.trans l') es rx
          | stk => rw [ef] at q; exact q
end
end Gs

/-! G6: defs by their function over data and store, calls, new lists, comprehensions, methods of lists. -/
namespace Gs
open PySem L2

/-- a def's promise: what its function says of the arguments' data and the store -/
def spG (K : PySem.W.Frag) (ct : String → Addr) (n : Nat) (F : List D → Sto → R D) : Sp := fun vs H Q E => ∃ v ds, v.H = H ∧ SR K ct v ∧ ds.length = n ∧ RepL K ct v.G v.m ds vs ∧ match F ds v.st with
  | .ok d s => ∀ x v', Le v v' → SR K ct v' → v'.st = s → Rep K ct v'.G v'.m d x → Q x v'.H
  | .exc e s => ∀ cls dd v', Le v v' → SR K ct v' → v'.st = s → RepX K ct v' e cls dd → E cls dd v'.H
  | .stk => False
/-- a body as a function of the arguments: N names -/
def runG (N : Nat) (body : S) (ds : List D) (s : Sto) : R D := match body (ds.map some ++ List.replicate (N - ds.length) none) s with
  | .nx _ s' => .ok .non s'
  | .rt d s' => .ok d s'
  | .exc e _ s' => .exc e s'
  | _ => .stk
theorem re_start {K : PySem.W.Frag} {C : Cc} {v : Vw} {ds : List D} {vs : List V} {N : List Str} (l : Le C.v0 v) (sr : SR K C.ct v) (r : RepL K C.ct v.G v.m ds vs) (hn : ds.length ≤ N.length) : RE K C (L2.start N vs) (ds.map some ++ List.replicate (N.length - ds.length) none) v := by
  have hl := r.length
  refine ⟨l, sr, by simp [L2.start]; omega, fun i d hs => ?_⟩
  unfold L2.start
  by_cases h : i < ds.length
  · rw [List.getElem?_append_left (by simpa using h)] at hs
    rw [List.getElem?_append_left (by simp; omega)]
    obtain ⟨x, e1, r1⟩ := r.get (List.getElem?_eq_getElem h)
    rw [List.getElem?_map, List.getElem?_eq_getElem h] at hs
    rw [List.getElem?_map, e1]
    cases hs
    exact ⟨x, rfl, r1⟩
  · rw [List.getElem?_append_right (by simpa using h)] at hs
    rw [List.getElem?_replicate] at hs
    split at hs
    · cases hs
    · exact nomatch hs
section
variable {P : Program} {w : World} {K : PySem.W.Frag} {mg : Str → Option Value} {base : Heap} {ct : String → Addr}
/-- a def of the text keeps the promise of its body's function -/
theorem fn_ok {x qual : Str} {st : Stmt} {f : Addr} {fd : FuncData} {N ps : List Str} {k : Nat} {body : S} (F : L2.Fun K x qual st f fd) (sc : FnScope N ps (defScope st)) (hn : ps.length ≤ N.length)
    (hb : ∀ (cdv : Value) (A : Around) (outer : List Env) (s : Shared) (H : Hp) (v : Vw) (E : XK), Room k (A.deeper (PyProof.Rows.envOfC qual (defScope st) s.heap.objs.size f cdv)) →
      SSs (cxOf (L2.CX P w) P w K mg base N qual (defScope st) f cdv A outer s H E) ⟨v, ct, fun cls d _ H => E cls d H⟩ (defBody st) body) :
    FnOk P w K mg base (L2.CX P w) (k + 1) f fd ps (spG K ct ps.length (runG N.length body)) := by
  refine F.okX sc (fun vs H Q E ⟨v, ds, e, sr, l, r, _⟩ => by rw [← l, r.length]) (fun cdv A outer s H vs Q E hr ⟨v, ds, e, sr, l, r, h⟩ => ⟨_, hb cdv A outer s H v E hr, ?_⟩)
  subst e
  have rs : RE K ⟨v, ct, fun cls d _ H => E cls d H⟩ (L2.start N vs) (ds.map some ++ List.replicate (N.length - ds.length) none) v := re_start .refl sr r (by omega)
  refine ⟨_, v, rs, rfl, ?_⟩
  unfold runG at h
  cases e : body (ds.map some ++ List.replicate (N.length - ds.length) none) v.st with
  | nx δ s => rw [e] at h; exact fun σ' v' re l es => h .non v' l re.sr es .non
  | rt d s => rw [e] at h; exact fun x v' l sr' es r => h x v' l sr' es r
  | exc e2 δ s => rw [e] at h; exact fun cls dd σ' v' re l es rx => h cls dd v' l re.sr es rx
  | bk δ s => rw [e] at h; exact h.elim
  | ct δ s => rw [e] at h; exact h.elim
  | stk => rw [e] at h; exact h.elim
theorem fn_zero {f : Addr} {fd : FuncData} {ps : List Str} : FnOk P w K mg base (L2.CX P w) 0 f fd ps (spG K ct ps.length fun _ _ => .stk) :=
  ⟨fun vs H Q E ⟨v, ds, e, sr, l, r, h⟩ => h.elim, fun A outer s H args us vs Q E _ _ _ _ ⟨v, ds, e, sr, l, r, h⟩ => h.elim⟩
end

/-! ### calls -/
def eCall (F : List D → Sto → R D) (a : As) : E := fun δ s => (a δ s).bind F
/-- an argument list gives as many as it has -/
def LenA (fa : As) (n : Nat) : Prop := ∀ δ s ds s', fa δ s = .ok ds s' → ds.length = n
theorem lenA_nil : LenA aNil 0 := fun δ s ds s' h => by cases h; rfl
theorem lenA_cons {f : E} {r : As} {n : Nat} (h : LenA r n) : LenA (aCons f r) (n + 1) := fun δ s ds s' e => by
  unfold aCons at e
  cases q : f δ s with
  | stk => rw [q] at e; exact nomatch e
  | exc e2 s2 => rw [q] at e; exact nomatch e
  | ok d s2 =>
    rw [q] at e
    cases q2 : r δ s2 with
    | stk => simp only [R.bind, q2] at e; exact nomatch e
    | exc e2 s3 => simp only [R.bind, q2] at e; exact nomatch e
    | ok xs s3 =>
      simp only [R.bind, q2, R.ok.injEq] at e
      rw [← e.1]
      simp [h δ s2 xs s3 q2]
theorem on_eq {α β : Type} {K : PySem.W.Frag} {C : Cc} {σ : L2.St} {v : Vw} {rel : α → β → Vw → Prop} {r : R α} {P : α → β → Vw → Prop} (h : on K C σ v rel r P) : on K C σ v rel r fun a b v' => P a b v' ∧ ∃ s, r = .ok a s := by
  cases r with
  | ok a s => exact fun b v' l sr e q => ⟨h b v' l sr e q, s, rfl⟩
  | exc e s => exact h
  | stk => exact h
section
variable {X : Cx} {C : Cc} {pos p : Pos} {x : Str} {e : Expr} {es : List Expr} {fa : As} {k n : Nat} {f : Addr} {fd : FuncData} {ps : List Str} {F : List D → Sto → R D}
theorem on_sp {K : PySem.W.Frag} {σ : L2.St} {v : Vw} {ds : List D} {vs : List V} {Q : VK} (sr : SR K C.ct v) (hl : ds.length = n) (r : RepL K C.ct v.G v.m ds vs) (h : on K C σ v (rE K C.ct) (F ds v.st) fun _ x v' => Q x v'.H) : spG K C.ct n F vs v.H Q (WE C.W σ) := by
  refine ⟨v, ds, rfl, sr, hl, r, ?_⟩
  cases q : F ds v.st with
  | ok d s => rw [q] at h; exact h
  | exc e s => rw [q] at h; exact h
  | stk => rw [q] at h; exact h
theorem se_call (hF : FnOk X.prog X.w X.K X.mg X.base (L2.CX X.prog X.w) k f fd ps (spG X.K C.ct n F)) (hr : Room k X.A) (tk : Takes X C.W) (hg : Gl X x) (hm : X.mg x = some (.ref f)) (hk : PySem.W.keepIn X.K (.ref f) = true) (hb : Binds X.K fd ps [])
    (ha : SA X C (e :: es) fa) (hl : LenA fa n) (hdb : (x == ("__debug__" : Str)) = false := by decide) (he : starEach (e :: es) X.env = (false, eval e X.env) :: starEach es X.env := by rfl) (hpl : (backTo pos (starEach es X.env)).any (·.1) = false := by rfl) :
    SE X C (.Call (.Name x p) (e :: es) [] pos) (eCall F fa) :=
  pe_weak (pe_callS hF hr hg hm hk hb (fun σ => passAt tk σ) ha hdb he hpl) fun σ H Q ⟨δ, v, re, eH, h⟩ => ⟨δ, v, re, eH, on_mono (on_eq (on_bind h)) fun ds vs v1 l1 s1 r1 h1 => by
    obtain ⟨h1, s, q⟩ := h1
    exact on_sp s1 (hl _ _ _ _ q) r1 h1⟩
end

/-! ### new lists -/
def onF (K : PySem.W.Frag) (C : Cc) (σ : L2.St) (v : Vw) (r : R (List D)) (P : List D → Addr → Vw → Prop) : Prop := match r with
  | .ok xs s => ∀ p vs v', Le v v' → SR K C.ct v' → v'.st = s → v.H p = none → v'.G p = none → v'.H p = some (.lst vs) → ¬ v'.owns p → RepL K C.ct v'.G v'.m xs vs → P xs p v'
  | .exc e s => onX K C σ v e s
  | .stk => False
abbrev Fr := Sl → Sto → R (List D)
def liftF (K : PySem.W.Frag) (C : Cc) (f : Fr) : TE := fun σ H Q => ∃ δ v, RE K C σ δ v ∧ v.H = H ∧ onF K C σ v (f δ v.st) fun _ p v' => Q (.ref p) v'.H
abbrev SF (X : Cx) (C : Cc) (e : Expr) (f : Fr) : Prop := PE X e (liftF X.K C f)
/-- a new list, frozen; a thing of the store -/
def eFz (f : Fr) : E := fun δ s => (f δ s).bind fun xs s1 => .ok (.lst xs) s1
def eNw (f : Fr) : E := fun δ s => (f δ s).bind fun xs s1 => .ok (.ob s1.length) (s1 ++ [.lst xs])
section
variable {K : PySem.W.Frag} {ct : String → Addr}
theorem owns_same {G G' H H' : Hp} {m : Nat → Option Addr} {st : Sto} {b : Addr} (hh : ∀ (i : Nat) (o : O) (a : Addr), st[i]? = some o → o.live = true → m i = some a → ∀ C fs dx, H' a = some (.ins C dx fs) → H a = some (.ins C dx fs)) (h : (Vw.mk G' H' m st).owns b) : (Vw.mk G H m st).owns b := by
  obtain ⟨i, o, a, e, l, em, z⟩ := h
  refine ⟨i, o, a, e, l, em, z.imp id fun ⟨C, fs, q⟩ => ⟨C, fs, hh i o a e l em C fs b q⟩⟩
/-- a new object that is none of the store's, frozen -/
theorem frz_new {v v' : Vw} {p : Addr} {u : HO} (l : Le v v') (s : SR K ct v') (hp : v.H p = none) (gp : v'.G p = none) (hu : v'.H p = some u) (no : ¬ v'.owns p) : Le v ⟨upd v'.G p u, v'.H, v'.m, v'.st⟩ ∧ SR K ct ⟨upd v'.G p u, v'.H, v'.m, v'.st⟩ := by
  have sg := same_new gp u
  refine ⟨⟨l.g.trans sg, l.m, l.h, fun b q => ?_, fun b q => l.ow b (owns_same (fun _ _ _ _ _ _ _ _ _ z => z) q), l.al⟩, fun b w q => ?_, s.dom, fun i o e lv => ?_, s.inj⟩
  · by_cases z : b = p
    · exact .inr (.inl (z ▸ hp))
    · have q' : upd v'.G p u b ≠ none := q
      rw [upd_ne z] at q'
      exact l.nw b q'
  · have q' : upd v'.G p u b = some w := q
    by_cases z : b = p
    · rw [z, upd_same] at q'
      cases q'
      show v'.H b = some u
      rw [z]
      exact hu
    · rw [upd_ne z] at q'
      exact s.sub _ _ q'
  · obtain ⟨a, em, ga, r⟩ := s.obj i o e lv
    have na : a ≠ p := fun z => no ⟨i, o, a, e, lv, em, .inl z.symm⟩
    exact ⟨a, em, (upd_ne na).trans ga, r.mono' (v := v') sg .refl rfl fun C dx fs q0 q1 q2 => ⟨rfl, (upd_ne fun z => no ⟨i, o, a, e, lv, em, .inr ⟨C, fs, by rw [← z]; exact q0⟩⟩).trans q2⟩⟩
/-- a new list, from here on the store's -/
theorem adopt {v v' : Vw} {p : Addr} {xs : List D} {vs : List V} (l : Le v v') (s : SR K ct v') (hp : v.H p = none) (gp : v'.G p = none) (hu : v'.H p = some (.lst vs)) (no : ¬ v'.owns p) (r : RepL K ct v'.G v'.m xs vs) :
    Le v (v'.alloc p v'.H (.lst xs)) ∧ SR K ct (v'.alloc p v'.H (.lst xs)) := by
  have m0 : v'.m v'.st.length = none := s.dom _ (Nat.le_refl _)
  have gr : Grow v'.m (mset v'.m v'.st.length p) := mset_grow m0
  have get : ∀ {i : Nat} {u : O}, (v'.alloc p v'.H (.lst xs)).st[i]? = some u → (i < v'.st.length ∧ v'.st[i]? = some u) ∨ (i = v'.st.length ∧ u = .lst xs) := fun e => get_snoc e
  have np : ∀ {i : Nat} {u : O} {a : Addr}, v'.st[i]? = some u → u.live = true → v'.m i = some a → a ≠ p := fun {i u a} e lv em z => no ⟨i, u, a, e, lv, em, .inl z.symm⟩
  refine ⟨⟨l.g, l.m.trans gr, l.h, l.nw, fun b ⟨i, u, a, e, lv, em, q⟩ => ?_, l.al⟩, s.sub, fun i hi => ?_, fun i u e lv => ?_, fun i j u w a e1 e2 l1 l2 m1 m2 => ?_⟩
  · have em' : mset v'.m v'.st.length p i = some a := em
    rcases get e with ⟨z, e⟩ | ⟨rfl, rfl⟩
    · rw [mset_ne (Nat.ne_of_lt z)] at em'
      exact l.ow b ⟨i, u, a, e, lv, em', q⟩
    · rw [mset_same] at em'
      cases em'
      rcases q with rfl | ⟨C, fs, q⟩
      · exact .inr hp
      · have q' : v'.H p = some (.ins C b fs) := q
        rw [hu] at q'
        cases q'
  · have hl : v'.st.length + 1 ≤ i := by simpa [Vw.alloc] using hi
    show mset v'.m v'.st.length p i = none
    rw [mset_ne (by omega)]
    exact s.dom i (by omega)
  · rcases get e with ⟨z, e⟩ | ⟨rfl, rfl⟩
    · obtain ⟨a, em, ga, r⟩ := s.obj i u e lv
      exact ⟨a, (mset_ne (Nat.ne_of_lt z)).trans em, ga, r.mono' (v := v') (v' := v'.alloc p v'.H (.lst xs)) (Same.refl _) gr rfl fun C dx fs _ q1 q2 => ⟨rfl, q2⟩⟩
    · exact ⟨p, mset_same, gp, vs, hu, r.mono (Same.refl _) gr⟩
  · have m1' : mset v'.m v'.st.length p i = some a := m1
    have m2' : mset v'.m v'.st.length p j = some a := m2
    rcases get e1 with ⟨z1, f1⟩ | ⟨y1, f1⟩ <;> rcases get e2 with ⟨z2, f2⟩ | ⟨y2, f2⟩
    · rw [mset_ne (Nat.ne_of_lt z1)] at m1'
      rw [mset_ne (Nat.ne_of_lt z2)] at m2'
      exact s.inj i j u w a f1 f2 l1 l2 m1' m2'
    · rw [mset_ne (Nat.ne_of_lt z1)] at m1'
      rw [y2, mset_same] at m2'
      cases m2'
      exact absurd rfl (np f1 l1 m1')
    · rw [mset_ne (Nat.ne_of_lt z2)] at m2'
      rw [y1, mset_same] at m1'
      cases m1'
      exact absurd rfl (np f2 l2 m2')
    · rw [y1, y2]
/-- what is none of the store's, and not frozen, may be changed aside -/
theorem side_ok {v : Vw} {p : Addr} {u : HO} (s : SR K ct v) (gp : v.G p = none) (no : ¬ v.owns p) : SR K ct ⟨v.G, upd v.H p u, v.m, v.st⟩ ∧ ∀ b, (Vw.mk v.G (upd v.H p u) v.m v.st).owns b → v.owns b := by
  have np : ∀ {i : Nat} {o : O} {a : Addr}, v.st[i]? = some o → o.live = true → v.m i = some a → a ≠ p := fun {i o a} e lv em z => no ⟨i, o, a, e, lv, em, .inl z.symm⟩
  refine ⟨⟨fun b w q => ?_, s.dom, fun i o e lv => ?_, s.inj⟩, fun b q => owns_same (fun i o a e lv em C fs dx z => by rwa [upd_ne (np e lv em)] at z) q⟩
  · have q' : v.G b = some w := q
    have z : b ≠ p := fun z => by rw [z, gp] at q'; cases q'
    show upd v.H p u b = some w
    rw [upd_ne z]
    exact s.sub _ _ q'
  · obtain ⟨a, em, ga, r⟩ := s.obj i o e lv
    exact ⟨a, em, ga, r.mono' (v := v) (Same.refl _) .refl (upd_ne (np e lv em)) fun C dx fs q0 q1 q2 => ⟨upd_ne fun z => no ⟨i, o, a, e, lv, em, .inr ⟨C, fs, by rw [← z]; exact q0⟩⟩, q2⟩⟩
end
section
variable {X : Cx} {C : Cc} {pos : Pos} {e : Expr} {es : List Expr} {f : Fr} {r : As}
theorem lift_fz {K : PySem.W.Frag} {σ : L2.St} {H : Hp} {Q : VK} (h : liftE K C (eFz f) σ H Q) : liftF K C f σ H Q := by
  obtain ⟨δ, v, re, eH, h⟩ := h
  refine ⟨δ, v, re, eH, ?_⟩
  unfold eFz at h
  cases q : f δ v.st with
  | stk => rw [q] at h; exact h
  | exc e s => rw [q] at h; exact h
  | ok xs s =>
    rw [q] at h
    intro p vs v' l sr es hp gp hh no r
    obtain ⟨l2, s2⟩ := frz_new l sr hp gp hh no
    exact h (.ref p) ⟨upd v'.G p (.lst vs), v'.H, v'.m, v'.st⟩ l2 s2 es (.lst (SqL.of upd_same) (r.mono (same_new gp _) .refl))
theorem lift_nw {K : PySem.W.Frag} {σ : L2.St} {H : Hp} {Q : VK} (h : liftE K C (eNw f) σ H Q) : liftF K C f σ H Q := by
  obtain ⟨δ, v, re, eH, h⟩ := h
  refine ⟨δ, v, re, eH, ?_⟩
  unfold eNw at h
  cases q : f δ v.st with
  | stk => rw [q] at h; exact h
  | exc e s => rw [q] at h; exact h
  | ok xs s =>
    rw [q] at h
    intro p vs v' l sr es hp gp hh no r
    obtain ⟨l2, s2⟩ := adopt l sr hp gp hh no r
    subst es
    exact h (.ref p) (v'.alloc p v'.H (.lst xs)) l2 s2 rfl (.ob mset_same)
theorem SF.fz (h : SF X C e f) : SE X C e (eFz f) := pe_weak h fun σ H Q z => lift_fz z
theorem SF.nw (h : SF X C e f) : SE X C e (eNw f) := pe_weak h fun σ H Q z => lift_nw z
theorem onF_bind {α β : Type} {K : PySem.W.Frag} {σ : L2.St} {v : Vw} {rel : α → β → Vw → Prop} {r : R α} {k : α → Sto → R (List D)} {P : List D → Addr → Vw → Prop} (h : onF K C σ v (r.bind k) P) : on K C σ v rel r fun a _ v1 => onF K C σ v1 (k a v1.st) P := by
  cases r with
  | ok a s =>
    intro b v1 l sr e q
    subst e
    have h' : onF K C σ v (k a v1.st) P := h
    show onF K C σ v1 (k a v1.st) P
    cases e : k a v1.st with
    | ok xs s2 =>
      rw [e] at h'
      intro p vs v2 l2 sr2 es hp gp hh no rr
      exact h' p vs v2 (l.trans l2) sr2 es (l.al p hp) gp hh no rr
    | exc e2 s2 => rw [e] at h'; exact fun cls dd w l2 => h' cls dd w (l.trans l2)
    | stk => rw [e] at h'; exact h'
  | exc e s => exact h
  | stk => exact h
end
end Gs

/-! G7: new lists: displays, list(..), comprehensions. -/
namespace Gs
open PySem L2
section
variable {X : Cx} {C : Cc} {pos : Pos} {e : Expr} {es : List Expr} {f : Fr} {r : As}
theorem newH {K : PySem.W.Frag} {ct : String → Addr} {v : Vw} {p : Addr} {u : HO} (sr : SR K ct v) (hp : v.H p = none) : Le v ⟨v.G, upd v.H p u, v.m, v.st⟩ ∧ SR K ct ⟨v.G, upd v.H p u, v.m, v.st⟩ ∧ ¬ (Vw.mk v.G (upd v.H p u) v.m v.st).owns p := by
  obtain ⟨l, s⟩ := more_ok sr (same_new hp u)
  refine ⟨l, s, fun q => ?_⟩
  obtain ⟨i, o, a, e, lv, em, z⟩ := q
  obtain ⟨_, w, hw, _⟩ := sr.obj_ne e lv em
  have na : a ≠ p := ne_of_none hw hp
  rcases z with z | ⟨C, fs, z⟩
  · exact na z.symm
  · have z' : upd v.H p u a = some (.ins C p fs) := z
    rw [upd_ne na] at z'
    obtain ⟨h1, _⟩ := sr.dx e lv em z'
    rw [hp] at h1
    cases h1
def fLst (r : As) : Fr := fun δ s => (r δ s).bind fun xs s1 => if xs.length ≤ sizeLine then .ok xs s1 else .stk
theorem sf_lst (h : SA X C es r) : SF X C (.List es pos) (fLst r) := pe_weak (pe_lst h) fun σ H Q ⟨δ, v, re, eH, h⟩ =>
  ⟨δ, v, re, eH, on_mono (onF_bind h) fun ds vs v1 l1 s1 r1 h1 => by
    have hl := r1.length
    by_cases z : ds.length ≤ sizeLine
    · rw [if_pos z] at h1
      refine ⟨by omega, fun p hp => ?_⟩
      obtain ⟨l2, s2, no⟩ := newH (u := .lst vs) s1 hp
      exact h1 p vs ⟨v1.G, upd v1.H p (.lst vs), v1.m, v1.st⟩ l2 s2 rfl hp (s1.free hp) upd_same no r1
    · rw [if_neg z] at h1
      exact h1.elim⟩
/-- list(x) -/
def fList (f : E) : Fr := fun δ s => (f δ s).bind fun d s1 => match rsv s1 d with
  | .lst xs => .ok xs s1
  | .tup xs => .ok xs s1
  | .str x => if x.length ≤ sizeLine then .ok (signs x) s1 else .stk
  | _ => .stk
theorem sf_list (hc : X.calm = true) {x : Str} {p : Pos} {a : Expr} {fa : E} (hx : x = "list") (hg : Gl X x) (hm : X.mg x = none) (ha : SE X C a fa) (hv : bootBuiltins x = some (.type "list")) (hn : x ≠ "__name__" := by decide) (hdb : (x == ("__debug__" : Str)) = false := by decide)
    (he : starEach [a] X.env = (false, eval a X.env) :: starEach [] X.env := by rfl) (hpl : (backTo pos (starEach [] X.env)).any (·.1) = false := by rfl) : SF X C (.Call (.Name x p) [a] [] pos) (fList fa) :=
  ⟨fun pins s σ H Q I ⟨δ, v, re, eH, h⟩ => by
    have go : ∀ (v1 : Vw) (vs : List V) (ds : List D) (c : Addr), Le v v1 → SR X.K C.ct v1 → v1.H c = none → RepL X.K C.ct v1.G v1.m ds vs → onF X.K C σ v1 (.ok ds v1.st) (fun _ p v' => Q (.ref p) v'.H) → Q (.ref c) (upd v1.H c (.lst vs)) := fun v1 vs ds c _ s1 hc rr hh => by
      obtain ⟨l2, s2, no⟩ := newH (u := .lst vs) s1 hc
      exact hh c vs ⟨v1.G, upd v1.H c (.lst vs), v1.m, v1.st⟩ l2 s2 rfl hc (s1.free hc) upd_same no rr
    have hz := onF_bind (rel := rE X.K C.ct) h
    have P1 : PE X (.Call (.Name x p) [a] [] pos) _ := pe_callTy call_list_of hg hm hv (pa_cons ha pa_nil he) hn hdb he hpl
    have seqs : (on X.K C σ v (rE X.K C.ct) (fa δ v.st) fun _ x v' => ∃ p ys, x = .ref p ∧ (SqL X.K v'.H p ys ∨ SqT X.K v'.H p ys) ∧ ∀ l, v'.H l = none → Q (.ref l) (upd v'.H l (.lst ys))) → _ := fun z => P1.run pins s σ H Q I ⟨δ, v, re, eH, on_mono z fun _ x v' _ _ _ ⟨p, ys, e, w⟩ => ⟨p, ys, by rw [e], w⟩⟩
    cases q : fa δ v.st with
    | stk => rw [q] at hz; exact hz.elim
    | exc e s1 => exact seqs (by rw [q] at hz ⊢; exact hz)
    | ok d s1 =>
      rw [q] at hz
      cases z : rsv s1 d with
      | lst xs =>
        refine seqs ?_
        rw [q]
        intro x v1 l1 sr1 es r1
        have h1 := hz x v1 l1 sr1 es r1
        have t := r1.top sr1
        subst es
        simp only [z] at h1
        rw [z] at t
        cases t with
        | @lst a vs _ p q => exact ⟨a, vs, rfl, .inl p, fun c hc => go v1 _ _ c l1 sr1 hc q h1⟩
      | tup xs =>
        refine seqs ?_
        rw [q]
        intro x v1 l1 sr1 es r1
        have h1 := hz x v1 l1 sr1 es r1
        have t := r1.top sr1
        subst es
        simp only [z] at h1
        rw [z] at t
        cases t with
        | @tup a vs _ p q => exact ⟨a, vs, rfl, .inr (sqt_mono sr1.sub p), fun c hc => go v1 _ _ c l1 sr1 hc q h1⟩
      | str y =>
        refine (pe_callTy (call_list_text hc) hg hm hv (pa_cons ha pa_nil he) hn hdb he hpl).run pins s σ H Q I ⟨δ, v, re, eH, ?_⟩
        rw [q]
        intro x v1 l1 sr1 es r1
        have h1 := hz x v1 l1 sr1 es r1
        have t := r1.top sr1
        subst es
        simp only [z] at h1
        rw [z] at t
        cases t
        split at h1
        · rename_i hy
          exact ⟨y, rfl, hy, fun c hc => go v1 _ _ c l1 sr1 hc (RepL.signs y) h1⟩
        · exact h1.elim
      | _ =>
        refine seqs ?_
        rw [q]
        intro x v1 l1 sr1 es r1
        have h1 := hz x v1 l1 sr1 es r1
        subst es
        simp only [z] at h1
        exact h1.elim⟩
end
/-! ### comprehensions -/
def wipeD (δ : Sl) : List Nat → Sl
  | [] => δ
  | v :: vs => (wipeD δ vs).set v none
theorem RE.wipe {K : PySem.W.Frag} {C : Cc} {σ : L2.St} {δ : Sl} {v : Vw} (r : RE K C σ δ v) : ∀ vs : List Nat, RE K C (L2.wipe σ vs) (wipeD δ vs) v
  | [] => r
  | i :: vs => (RE.wipe r vs).setU i none
theorem RE.wish {K : PySem.W.Frag} {C : Cc} {σ : L2.St} {δ : Sl} {v : Vw} (r : RE K C σ δ v) (W : WX) : RE K { C with W := W } σ δ v := ⟨r.le, r.sr, r.len, r.sl⟩
theorem wipe_get (σ : L2.St) : ∀ (vs : List Nat) (j : Nat), (L2.wipe σ vs)[j]? = if j ∈ vs ∧ j < σ.length then some none else σ[j]?
  | [], j => by simp [L2.wipe]
  | v :: vs, j => by
    unfold L2.wipe
    by_cases e : v = j
    · subst e
      by_cases h : v < σ.length
      · rw [List.getElem?_set_self (by rw [wipe_length]; exact h), if_pos ⟨List.mem_cons_self .., h⟩]
      · rw [if_neg fun z => h z.2, List.getElem?_eq_none (by rw [List.length_set, wipe_length]; omega), List.getElem?_eq_none (by omega)]
    · rw [List.getElem?_set_ne e, wipe_get σ vs j]
      have : (j ∈ v :: vs) ↔ j ∈ vs := by simp [Ne.symm e]
      simp only [this]
theorem wipe_off {is vs : List Nat} {σ σ' : L2.St} (o : Off is (L2.wipe σ vs) σ') (h : ∀ i ∈ is, i ∈ vs) : L2.wipe σ' vs = L2.wipe σ vs := by
  have hl : σ'.length = σ.length := by rw [o.1, wipe_length]
  apply List.ext_getElem?
  intro j
  rw [wipe_get, wipe_get, hl]
  by_cases hj : j ∈ vs ∧ j < σ.length
  · rw [if_pos hj, if_pos hj]
  · rw [if_neg hj, if_neg hj]
    by_cases hj2 : j ∈ vs
    · have : ¬ j < σ.length := fun z => hj ⟨hj2, z⟩
      rw [List.getElem?_eq_none (by omega), List.getElem?_eq_none (by omega)]
    · rw [o.2 j fun z => hj2 (h j z), wipe_get, if_neg hj]
abbrev Cc.nox (C : Cc) : Cc := { C with W := fun _ _ _ _ => False }
/-- what the turns give -/
def lcD (p : Pt) (c : T) (e : E) (δ : Sl) : List D → Sto → R (List D)
  | [], s => .ok [] s
  | d :: ds, s => match bindP p d δ with
    | none => .stk
    | some δ1 => match c δ1 s with
      | .ok true s1 => (match e δ1 s1 with
        | .ok y s2 => (match lcD p c e δ ds s2 with
          | .ok r s3 => .ok (y :: r) s3
          | _ => .stk)
        | _ => .stk)
      | .ok false s1 => lcD p c e δ ds s1
      | _ => .stk
theorem lcD_exc {p : Pt} {c : T} {e : E} {δ : Sl} : ∀ (ds : List D) (s : Sto) (ex : Ex) (s' : Sto), lcD p c e δ ds s ≠ .exc ex s'
  | [], s, ex, s', z => nomatch z
  | d :: ds, s, ex, s', z => by
    simp only [lcD] at z
    split at z
    · exact nomatch z
    · split at z
      · split at z
        · split at z <;> exact nomatch z
        · exact nomatch z
      · exact lcD_exc ds _ _ _ z
      · exact nomatch z
def fLc (it : As) (vs : List Nat) (p : Pt) (c : T) (e : E) : Fr := fun δ s => (it δ s).bind fun items s1 => (lcD p c e (wipeD δ vs) items s1).bind fun xs s2 => if xs.length ≤ sizeLine then .ok xs s2 else .stk
def tTrue : T := fun _ s => .ok true s
section
variable {X : Cx} {C : Cc} {pos : Pos}
/-- a list that is being made at L stays aside -/
structure Aside (v : Vw) (L : Addr) (va : List V) : Prop where
  h : v.H L = some (.lst va)
  g : v.G L = none
  no : ¬ v.owns L
theorem Aside.step {v v' : Vw} {L : Addr} {va : List V} (a : Aside v L va) (l : Le v v') : Aside v' L va := by
  refine ⟨l.h _ _ a.h a.no, ?_, fun q => ?_⟩
  · cases z : v'.G L with
    | none => rfl
    | some o =>
      rcases l.nw L (by rw [z]; exact fun y => nomatch y) with y | y | y
      · exact absurd a.g y
      · rw [a.h] at y; cases y
      · exact absurd y a.no
  · rcases l.ow L q with y | y
    · exact a.no y
    · rw [a.h] at y; cases y
theorem lift_lc {K : PySem.W.Frag} {it : As} {vs : List Nat} {p : Pt} {c : T} {e : E} (hp : ∀ i ∈ idxP p, i ∈ vs) {σ : L2.St} {H : Hp} {Q : VK} (h : liftF K C (fLc it vs p c e) σ H Q) :
    tLc (liftI K C it) (liftG K C.nox p) (liftT K C.nox c) (liftE K C.nox e) vs σ H Q := by
  obtain ⟨δ, v, re, eH, h⟩ := h
  refine ⟨δ, v, re, eH, on_mono (onF_bind h) fun items J v1 l1 sr1 ok h1 => ?_⟩
  intro L hD
  have h2 : onF K C σ v1 ((lcD p c e (wipeD δ vs) items v1.st).bind fun xs s2 => if xs.length ≤ sizeLine then .ok xs s2 else .stk) fun _ p v' => Q (.ref p) v'.H := h1
  clear h1
  cases q1 : lcD p c e (wipeD δ vs) items v1.st with
  | stk => rw [q1] at h2; exact h2.elim
  | exc ex s' => exact absurd q1 (lcD_exc _ _ _ _)
  | ok xs s9 =>
    rw [q1] at h2
    have h3 : xs.length ≤ sizeLine ∧ ∀ (va : List V) (v2 : Vw), Le v1 v2 → SR K C.ct v2 → v2.st = s9 → Aside v2 L va → RepL K C.ct v2.G v2.m xs va → Q (.ref L) v2.H := by
      have h4 : onF K C σ v1 (if xs.length ≤ sizeLine then .ok xs s9 else .stk) fun _ p v' => Q (.ref p) v'.H := h2
      by_cases z : xs.length ≤ sizeLine
      · rw [if_pos z] at h4
        exact ⟨z, fun va v2 l2 s2 es a2 ra => h4 L va v2 l2 s2 es hD a2.g a2.h a2.no ra⟩
      · rw [if_neg z] at h4
        exact h4.elim
    obtain ⟨hz, fin⟩ := h3
    clear h2
    have start : ∃ v2, v2.H = upd v1.H L (.lst []) ∧ Le v1 v2 ∧ SR K C.ct v2 ∧ Aside v2 L [] ∧ v2.st = v1.st := by
      obtain ⟨l2, s2, no⟩ := newH (u := .lst []) sr1 hD
      exact ⟨⟨v1.G, upd v1.H L (.lst []), v1.m, v1.st⟩, rfl, l2, s2, ⟨upd_same, sr1.free hD, no⟩, rfl⟩
    refine ⟨fun i m H2 => m = items.length - i ∧ i ≤ items.length ∧ ∃ (v2 : Vw) (acc rest : List D) (va : List V), v2.H = H2 ∧ Le v1 v2 ∧ SR K C.ct v2 ∧ Aside v2 L va ∧ RepL K C.ct v2.G v2.m acc va ∧
      lcD p c e (wipeD δ vs) (items.drop i) v2.st = .ok rest s9 ∧ acc ++ rest = xs, ?_, ?_⟩
    · obtain ⟨v2, e2, l2, s2, a2, es⟩ := start
      exact ⟨items.length, by simp, Nat.zero_le _, v2, [], xs, [], e2, l2, s2, a2, .nil, by rw [es]; exact q1, rfl⟩
    rintro i m H2 ⟨rfl, hi, v2, acc, rest, va, rfl, l2, s2, a2, ra, el, ex⟩
    by_cases hlt : i < items.length
    · refine .inr ⟨ok.go i v2 l2 s2 hlt, fun H3 => ∃ (v2 : Vw) (acc rest : List D) (va : List V), v2.H = H3 ∧ Le v1 v2 ∧ SR K C.ct v2 ∧ Aside v2 L va ∧ RepL K C.ct v2.G v2.m acc va ∧
        lcD p c e (wipeD δ vs) (items.drop (i + 1)) v2.st = .ok rest s9 ∧ acc ++ rest = xs, fun H' n => ⟨items.length - (i + 1), by omega, rfl, hlt, n⟩, fun x H' y => ?_⟩
      obtain ⟨d, v3, ed, rfl, l3, s3, e3, r3⟩ := ok.yld i v2 x H' l2 s2 hlt y
      have ed2 : items.drop i = d :: items.drop (i + 1) := by
        rw [List.drop_eq_getElem_cons hlt]
        rw [List.getElem?_eq_getElem hlt] at ed
        rw [Option.some.inj ed]
      rw [ed2] at el
      simp only [lcD] at el
      cases eb : bindP p d (wipeD δ vs) with
      | none => rw [eb] at el; exact nomatch el
      | some δ1 =>
        rw [eb] at el
        simp only at el
        have re3 := (((re.step l1 sr1).step l2 s2).step l3 s3)
        refine ⟨d, wipeD δ vs, v3, δ1, (re3.wipe vs).wish _, rfl, r3, eb, fun σ4 re4 o4 => ⟨wipe_off o4 hp, δ1, v3, re4, rfl, ?_⟩⟩
        rw [e3]
        cases ec : c δ1 v2.st with
        | stk => rw [ec] at el; exact nomatch el
        | exc _ _ => rw [ec] at el; exact nomatch el
        | ok b s4 =>
          rw [ec] at el
          intro b2 v4 l4 s4' es4 eb2
          cases eb2
          cases b with
          | true =>
            rw [if_pos rfl]
            simp only at el
            refine ⟨δ1, v4, re4.step l4 s4', rfl, ?_⟩
            rw [es4]
            cases ee : e δ1 s4 with
            | stk => rw [ee] at el; exact nomatch el
            | exc _ _ => rw [ee] at el; exact nomatch el
            | ok y0 s5 =>
              rw [ee] at el
              intro y5 v5 l5 s5' es5 r5
              simp only at el
              cases er : lcD p c e (wipeD δ vs) (items.drop (i + 1)) s5 with
              | stk => rw [er] at el; exact nomatch el
              | exc _ _ => rw [er] at el; exact nomatch el
              | ok rest2 s6 =>
                rw [er] at el
                simp only [R.ok.injEq] at el
                obtain ⟨el, es6⟩ := el
                subst el
                subst es6
                have l25 := (l3.trans l4).trans l5
                have a5 := a2.step l25
                have hl := ra.length
                have hl2 : acc.length + (rest2.length + 1) = xs.length := by rw [← ex]; simp
                obtain ⟨s7, ow7⟩ := side_ok (u := .lst (va ++ [y5])) s5' a5.g a5.no
                refine ⟨va, a5.h, by omega, ⟨v5.G, upd v5.H L (.lst (va ++ [y5])), v5.m, v5.st⟩, acc ++ [y0], rest2, va ++ [y5], rfl, ?_, s7, ⟨upd_same, a5.g, fun q => a5.no (ow7 _ q)⟩, (l25.repl ra).append (RepL.one r5), ?_, by rw [List.append_assoc]; exact ex⟩
                · have l15 := l2.trans l25
                  exact ⟨l15.g, l15.m, fun b o hb nb => by
                    show upd v5.H L _ b = some o
                    rw [upd_ne (ne_of_none hb hD)]
                    exact l15.h b o hb nb, l15.nw, fun b q => l15.ow b (ow7 b q), fun b q => by
                    have q' : upd v5.H L (.lst (va ++ [y5])) b = none := q
                    by_cases z : b = L
                    · rw [z, upd_same] at q'; cases q'
                    · rw [upd_ne z] at q'
                      exact l15.al b q'⟩
                · show lcD p c e (wipeD δ vs) (items.drop (i + 1)) v5.st = .ok rest2 s6
                  rw [es5]
                  exact er
          | false =>
            rw [if_neg Bool.false_ne_true]
            simp only at el
            have l24 := l3.trans l4
            exact ⟨v4, acc, rest, va, rfl, l2.trans l24, s4', a2.step l24, l24.repl ra, by rw [es4]; exact el, ex⟩
    · have ei : i = items.length := by omega
      subst ei
      rw [List.drop_length] at el
      simp only [lcD, R.ok.injEq] at el
      obtain ⟨el, es⟩ := el
      subst el
      rw [List.append_nil] at ex
      subst ex
      exact .inl ⟨ok.stop _ v2 l2 s2 (Nat.le_refl _), fin va v2 l2 s2 es a2 ra⟩
abbrev STs (X : Cx) (C : Cc) (ifs : List Expr) (t : T) : Prop := PTs X ifs (liftT X.K C t)
theorem sts_nil : STs X C [] tTrue := ⟨fun pins s σ H Q I ⟨δ, v, re, eH, h⟩ => by
  subst eH
  exact pts_nil.run pins s σ _ Q I (h true v .refl re.sr rfl rfl)⟩
theorem sts_one {c : Expr} {t : T} (h : ST X C c t) : STs X C [c] t := pts_one h
variable {elt tg iter : Expr} {ifs : List Expr} {scope : Scope} {it : As} {p : Pt} {c : T} {e : E}
theorem sf_lc (own : List (Str × Nat)) (hc : X.calm = true) (hN : X.N.Nodup) (hi : SI X C tg iter it) (ok : BlkOk X.N X.env.scope scope own) (hp : ∀ i ∈ idxP p, i ∈ own.map (·.2))
    (hg : ∀ (s : Shared) (H : Hp) (c0 : Addr) (cl : List (Str × Addr)) (fp : List Addr), SG (X.blk s H scope (compEnvC scope cl c0 X.env) fp) C.nox tg p)
    (ht : ∀ (s : Shared) (H : Hp) (c0 : Addr) (cl : List (Str × Addr)) (fp : List Addr), STs (X.blk s H scope (compEnvC scope cl c0 X.env) fp) C.nox ifs c)
    (he : ∀ (s : Shared) (H : Hp) (c0 : Addr) (cl : List (Str × Addr)) (fp : List Addr), SE (X.blk s H scope (compEnvC scope cl c0 X.env) fp) C.nox elt e) (hs : ∀ x, foldedSetIterable iter X.env x = pure x := by intro _; rfl) :
    SF X C (.ListComp elt [⟨tg, iter, ifs, 0⟩] scope pos) (fLc it (own.map (·.2)) p c e) :=
  pe_weak (pe_lc hc hN hi ok hg ht he hs) fun σ H Q h => lift_lc hp h
/-- y = [..] -/
theorem lift_setLc {K : PySem.W.Frag} {f : Fr} {g : Fr → E} {i : Nat} {Dn : Ends} {σ : L2.St} {H : Hp} {tlc : TE} (w : ∀ σ H Q, liftE K C (g f) σ H Q → tlc σ H Q) (h : liftS K C (sSet i (g f)) Dn σ H) : tAsg tlc (gName i) Dn σ H := by
  refine w _ _ _ ?_
  obtain ⟨δ, v, re, eH, h⟩ := h
  exact ⟨δ, v, re, eH, on_mono (onS_R re h) fun d x v1 l1 s1 r1 h1 => h1 (σ.set i (some x)) v1 ((re.step l1 s1).setV i r1) .refl rfl⟩
theorem ss_setLc (i : Nat) {g : Fr → E} {y : Str} {py spos : Pos} (own : List (Str × Nat)) (hgz : ∀ σ H Q, liftE X.K C (g (fLc it (own.map (·.2)) p c e)) σ H Q → liftF X.K C (fLc it (own.map (·.2)) p c e) σ H Q) (hc : X.calm = true) (hN : X.N.Nodup) (hy : X.N[i]? = some y) (hyl : X.env.scope.names.lookup y = some .local)
    (hsw : swapsWith (.ListComp elt [⟨tg, iter, ifs, 0⟩] scope pos) (some (.Name y py)) spos.line X.env = pure true) (hi : SI X C tg iter it) (ok : BlkOk X.N X.env.scope scope own) (hp : ∀ i ∈ idxP p, i ∈ own.map (·.2))
    (hg : ∀ (s : Shared) (H : Hp) (c0 : Addr) (cl : List (Str × Addr)) (fp : List Addr), SG (X.blk s H scope (compEnvC scope cl c0 X.env) fp) C.nox tg p)
    (ht : ∀ (s : Shared) (H : Hp) (c0 : Addr) (cl : List (Str × Addr)) (fp : List Addr), STs (X.blk s H scope (compEnvC scope cl c0 X.env) fp) C.nox ifs c)
    (he : ∀ (s : Shared) (H : Hp) (c0 : Addr) (cl : List (Str × Addr)) (fp : List Addr), SE (X.blk s H scope (compEnvC scope cl c0 X.env) fp) C.nox elt e) (hs : ∀ x, foldedSetIterable iter X.env x = pure x := by intro _; rfl) :
    SS X C (.Assign [.Name y py] (.ListComp elt [⟨tg, iter, ifs, 0⟩] scope pos) spos) (sSet i (g (fLc it (own.map (·.2)) p c e))) :=
  ps_weak (ps_setLc hc hN hy hyl hsw hi ok hg ht he hs) fun Dn σ H h => lift_setLc (g := g) (fun _ _ _ z => lift_lc hp (hgz _ _ _ z)) h
end
end Gs

/-! G8: in, is of truths; lists of the store; walks. -/
namespace Gs
open PySem L2
def gIn : B2
  | .str x, .str z => match x.cps.toList with
    | [c] => some (.bl (decide (c ∈ z.cps.toList)))
    | _ => none
  | .str x, .tup ds => (strsOf ds).map fun zs => .bl (decide (x ∈ zs))
  | .str x, .lst ds => (strsOf ds).map fun zs => .bl (decide (x ∈ zs))
  | .int x, .tup ds => (intsOf ds).map fun zs => .bl (decide (x ∈ zs))
  | .int x, .lst ds => (intsOf ds).map fun zs => .bl (decide (x ∈ zs))
  | _, _ => none
def gNin : B2 := fun x y => match gIn x y with
  | some (.bl b) => some (.bl !b)
  | _ => none
theorem inV_strs (x : Str) : ∀ zs : List Str, inV (.str x) (zs.map V.str) = decide (x ∈ zs)
  | [] => by simp [inV]
  | z :: zs => by
    have ih := inV_strs x zs
    unfold inV at ih ⊢
    rw [List.map_cons, List.any_cons, ih]
    have e : eqV (.str z) (.str x) = (z == x) := rfl
    rw [e]
    by_cases h : z = x
    · simp [h]
    · have h' : ¬ x = z := fun q => h q.symm
      simp [h, h']
theorem flat_strs : ∀ zs : List Str, (zs.map V.str).all flatV = true
  | [] => rfl
  | z :: zs => by
    rw [List.map_cons, List.all_cons, flat_strs zs]
    rfl
theorem inV_ints (x : Int) : ∀ zs : List Int, inV (.int x) (zs.map V.int) = decide (x ∈ zs)
  | [] => by simp [inV]
  | z :: zs => by
    have ih := inV_ints x zs
    unfold inV at ih ⊢
    rw [List.map_cons, List.any_cons, ih]
    have e : eqV (.int z) (.int x) = (z == x) := rfl
    rw [e]
    by_cases h : z = x
    · simp [h]
    · have h' : ¬ x = z := fun q => h q.symm
      simp [h, h']
theorem flat_ints : ∀ zs : List Int, (zs.map V.int).all flatV = true
  | [] => rfl
  | z :: zs => by
    rw [List.map_cons, List.all_cons, flat_ints zs]
    rfl
theorem one_sign {x : Str} {c : Nat} (h : x.cps.toList = [c]) : x = ⟨#[c]⟩ := by
  cases x with
  | mk a =>
    congr 1
    exact Array.toList_inj.mp h
section
variable {X : Cx}
theorem o_in {ct : String → Addr} : OpR X (compareOp .In) (rD X.K ct gIn) := by
  intro pins s σ H x y v u Q I rx ry h
  obtain ⟨v0, dx, dy, d, rfl, sr, e, r1, r2, h⟩ := h
  cases r1 <;> cases r2 <;> simp only [gIn, reduceCtorEq] at e
  · rename_i x a vs ds p q
    cases hz : intsOf ds with
    | none => rw [hz] at e; exact nomatch e
    | some zs =>
      rw [hz] at e
      simp only [Option.map_some, Option.some.injEq] at e
      subst e
      have hd := intsOf_eq hz
      subst hd
      have hv := RepL.of_ints q
      subst hv
      refine op_in_seq pins s σ _ _ _ v u Q I rx ry ⟨a, _, rfl, .inr (sqt_mono sr.sub p), rfl, flat_ints zs, ?_⟩
      rw [inV_ints]
      exact h _ v0 .refl sr rfl (.bl _)
  · rename_i x a vs ds p q
    cases hz : intsOf ds with
    | none => rw [hz] at e; exact nomatch e
    | some zs =>
      rw [hz] at e
      simp only [Option.map_some, Option.some.injEq] at e
      subst e
      have hd := intsOf_eq hz
      subst hd
      have hv := RepL.of_ints q
      subst hv
      refine op_in_seq pins s σ _ _ _ v u Q I rx ry ⟨a, _, rfl, .inl p, rfl, flat_ints zs, ?_⟩
      rw [inV_ints]
      exact h _ v0 .refl sr rfl (.bl _)
  · rename_i x z
    split at e
    · rename_i c hc
      simp only [Option.some.injEq] at e
      subst e
      exact op_in_sign pins s σ _ _ _ v u Q I rx ry ⟨c, z, by rw [one_sign hc], rfl, h _ v0 .refl sr rfl (.bl _)⟩
    · exact nomatch e
  · rename_i x a vs ds p q
    cases hz : strsOf ds with
    | none => rw [hz] at e; exact nomatch e
    | some zs =>
      rw [hz] at e
      simp only [Option.map_some, Option.some.injEq] at e
      subst e
      have hd := strsOf_eq hz
      subst hd
      have hv := RepL.of_strs q
      subst hv
      refine op_in_seq pins s σ _ _ _ v u Q I rx ry ⟨a, _, rfl, .inr (sqt_mono sr.sub p), rfl, flat_strs zs, ?_⟩
      rw [inV_strs]
      exact h _ v0 .refl sr rfl (.bl _)
  · rename_i x a vs ds p q
    cases hz : strsOf ds with
    | none => rw [hz] at e; exact nomatch e
    | some zs =>
      rw [hz] at e
      simp only [Option.map_some, Option.some.injEq] at e
      subst e
      have hd := strsOf_eq hz
      subst hd
      have hv := RepL.of_strs q
      subst hv
      refine op_in_seq pins s σ _ _ _ v u Q I rx ry ⟨a, _, rfl, .inl p, rfl, flat_strs zs, ?_⟩
      rw [inV_strs]
      exact h _ v0 .refl sr rfl (.bl _)
theorem o_nin {ct : String → Addr} : OpR X (compareOp .NotIn) (rD X.K ct gNin) := by
  intro pins s σ H x y v u Q I rx ry h
  obtain ⟨v0, dx, dy, d, rfl, sr, e, r1, r2, h⟩ := h
  unfold gNin at e
  cases r1 <;> cases r2 <;> simp only [gIn, reduceCtorEq] at e
  · rename_i x a vs ds p q
    cases hz : intsOf ds with
    | none => rw [hz] at e; exact nomatch e
    | some zs =>
      rw [hz] at e
      simp only [Option.map_some, Option.some.injEq] at e
      subst e
      have hd := intsOf_eq hz
      subst hd
      have hv := RepL.of_ints q
      subst hv
      refine op_notIn_seq pins s σ _ _ _ v u Q I rx ry ⟨a, _, rfl, .inr (sqt_mono sr.sub p), rfl, flat_ints zs, ?_⟩
      rw [inV_ints]
      exact h _ v0 .refl sr rfl (.bl _)
  · rename_i x a vs ds p q
    cases hz : intsOf ds with
    | none => rw [hz] at e; exact nomatch e
    | some zs =>
      rw [hz] at e
      simp only [Option.map_some, Option.some.injEq] at e
      subst e
      have hd := intsOf_eq hz
      subst hd
      have hv := RepL.of_ints q
      subst hv
      refine op_notIn_seq pins s σ _ _ _ v u Q I rx ry ⟨a, _, rfl, .inl p, rfl, flat_ints zs, ?_⟩
      rw [inV_ints]
      exact h _ v0 .refl sr rfl (.bl _)
  · rename_i x z
    split at e
    · rename_i b hb
      simp only [Option.some.injEq] at e
      subst e
      split at hb
      · rename_i c hc
        simp only [Option.some.injEq, D.bl.injEq] at hb
        subst hb
        exact op_notIn_sign pins s σ _ _ _ v u Q I rx ry ⟨c, z, by rw [one_sign hc], rfl, h _ v0 .refl sr rfl (.bl _)⟩
      · exact nomatch hb
    · exact nomatch e
  · rename_i x a vs ds p q
    cases hz : strsOf ds with
    | none => rw [hz] at e; exact nomatch e
    | some zs =>
      rw [hz] at e
      simp only [Option.map_some, Option.some.injEq] at e
      subst e
      have hd := strsOf_eq hz
      subst hd
      have hv := RepL.of_strs q
      subst hv
      refine op_notIn_seq pins s σ _ _ _ v u Q I rx ry ⟨a, _, rfl, .inr (sqt_mono sr.sub p), rfl, flat_strs zs, ?_⟩
      rw [inV_strs]
      exact h _ v0 .refl sr rfl (.bl _)
  · rename_i x a vs ds p q
    cases hz : strsOf ds with
    | none => rw [hz] at e; exact nomatch e
    | some zs =>
      rw [hz] at e
      simp only [Option.map_some, Option.some.injEq] at e
      subst e
      have hd := strsOf_eq hz
      subst hd
      have hv := RepL.of_strs q
      subst hv
      refine op_notIn_seq pins s σ _ _ _ v u Q I rx ry ⟨a, _, rfl, .inl p, rfl, flat_strs zs, ?_⟩
      rw [inV_strs]
      exact h _ v0 .refl sr rfl (.bl _)
def gIsB : B2
  | .bl a, .bl b => some (.bl (decide (a = b)))
  | _, _ => none
def gNotB : B2
  | .bl a, .bl b => some (.bl (!decide (a = b)))
  | _, _ => none
theorem o_isB {ct : String → Addr} : OpR X (compareOp .Is) (rD X.K ct gIsB) := by
  intro pins s σ H x y v u Q I rx ry h
  obtain ⟨v0, dx, dy, d, rfl, sr, e, r1, r2, h⟩ := h
  cases r1 <;> cases r2 <;> simp only [gIsB, Option.some.injEq, reduceCtorEq] at e
  subst e
  exact op_isBl pins s σ _ _ _ v u Q I rx ry ⟨_, _, rfl, rfl, h _ v0 .refl sr rfl (.bl _)⟩
theorem o_notB {ct : String → Addr} : OpR X (compareOp .IsNot) (rD X.K ct gNotB) := by
  intro pins s σ H x y v u Q I rx ry h
  obtain ⟨v0, dx, dy, d, rfl, sr, e, r1, r2, h⟩ := h
  cases r1 <;> cases r2 <;> simp only [gNotB, Option.some.injEq, reduceCtorEq] at e
  subst e
  exact op_notBl pins s σ _ _ _ v u Q I rx ry ⟨_, _, rfl, rfl, h _ v0 .refl sr rfl (.bl _)⟩
end
/-! ### lists of the store -/
/-- the things of a list of the store -/
def lsO (s : Sto) : D → Option (List D)
  | .ob i => match s[i]? with
    | some (.lst xs) => some xs
    | _ => none
  | _ => none
def stO (s : Sto) (d : D) (xs : List D) : Sto := match d with
  | .ob i => s.set i (.lst xs)
  | _ => s
theorem lsO_at {K : PySem.W.Frag} {ct : String → Addr} {v : Vw} {d : D} {x : V} {xs : List D} (sr : SR K ct v) (r : Rep K ct v.G v.m d x) (e : lsO v.st d = some xs) :
    ∃ i a vs, d = .ob i ∧ x = .ref a ∧ v.m i = some a ∧ v.st[i]? = some (.lst xs) ∧ v.H a = some (.lst vs) ∧ RepL K ct v.G v.m xs vs := by
  unfold lsO at e
  split at e
  · rename_i i
    split at e
    · rename_i ys q
      simp only [Option.some.injEq] at e
      subst e
      cases r with
      | ob em =>
        obtain ⟨a', em', _, vs, h, r2⟩ := sr.obj i _ q rfl
        rw [em] at em'
        cases em'
        exact ⟨i, _, vs, rfl, rfl, em, q, h, r2⟩
    · exact nomatch e
  · exact nomatch e
theorem stO_ok {K : PySem.W.Frag} {ct : String → Addr} {v : Vw} {i : Nat} {a : Addr} {xs ys : List D} {us : List V} (sr : SR K ct v) (em : v.m i = some a) (q : v.st[i]? = some (.lst xs)) (r : RepL K ct v.G v.m ys us) :
    Le v (v.put i a (.lst us) (.lst ys)) ∧ SR K ct (v.put i a (.lst us) (.lst ys)) :=
  put_ok sr q rfl em (fun C b fs z => nomatch z) ⟨us, upd_same, r⟩
section
variable {X : Cx} {C : Cc} {pos : Pos} {o a b e : Expr} {fo fa fb fe : E}
/-- o.append(a) -/
def eApp (o a : E) : E := fun δ s => (o δ s).bind fun x s1 => if (lsO s1 x).isSome = true then ((a δ s1).bind fun y s2 => match lsO s2 x with
  | some xs => if xs.length < sizeLine then .ok .non (stO s2 x (xs ++ [y])) else .stk
  | none => .stk) else .stk
theorem isSome_of {α : Type} {o : Option α} (h : o.isSome = true) : ∃ a, o = some a := Option.isSome_iff_exists.mp h
theorem se_app {p2 p3 : Pos} (ho : SE X C o fo) (ha : SE X C a fa) (hbase : attributeBase o "append" X.env (eval o X.env) = eval o X.env := by rfl)
    (hfew : ((backTo p3 (starEach [a] X.env)).all (fun x => !x.1) && (backToKw p3 (keywordEach [] X.env)).all (fun x => x.1.isSome)
      && decide ([a].length + ([] : List Keyword).length + (if ([] : List Keyword).isEmpty then 0 else 1) < 30)) = true := by rfl)
    (hline : (p2.endLine == p3.line) = true := by rfl) (hst : starEach [a] X.env = (false, eval a X.env) :: starEach [] X.env := by rfl) (hpl : (backTo p3 (starEach [] X.env)).any (·.1) = false := by rfl) :
    SE X C (.Call (.Attribute o "append" p2) [a] [] p3) (eApp fo fa) :=
  pe_weak (pe_bm PySem.F.plainAttrs_list PySem.F.slot_list_append PySem.F.type_list_append mt_append ho (pa_cons ha pa_nil hst) hbase hfew hline hst hpl) fun σ H Q ⟨δ, v, re, eH, h⟩ => by
    refine ⟨δ, v, re, eH, on_mono (on_bind h) fun d x v1 l1 s1 r1 h1 => ?_⟩
    split at h1
    · rename_i hs
      obtain ⟨xs0, e0⟩ := isSome_of hs
      obtain ⟨i, p, vs0, rfl, rfl, em, q0, hh0, _⟩ := lsO_at s1 r1 e0
      refine ⟨.inl ⟨rfl, vs0, SqL.of hh0⟩, δ, v1, re.step l1 s1, rfl, on_mono (on_bind h1) fun y u v2 l2 s2 r2 h2 => ?_⟩
      cases e1 : lsO v2.st (.ob i) with
      | none => rw [e1] at h2; exact h2.elim
      | some xs =>
        rw [e1] at h2
        obtain ⟨i', p', vs, ei, ep, em', q1, hh, r0⟩ := lsO_at s2 (l2.rep r1) e1
        cases ei
        cases ep
        simp only at h2
        split at h2
        · rename_i hz
          have hl := r0.length
          obtain ⟨l3, s3⟩ := stO_ok s2 em' q1 (r0.append (RepL.one r2))
          exact ⟨p, vs, u, rfl, rfl, hh, by omega, h2 .non (v2.put i p (.lst (vs ++ [u])) (.lst (xs ++ [y]))) l3 s3 rfl .non⟩
        · exact h2.elim
    · exact h1.elim
/-- o.pop(a) -/
def ePopAt (o a : E) : E := fun δ s => (o δ s).bind fun x s1 => if (lsO s1 x).isSome = true then ((a δ s1).bind fun y s2 => match lsO s2 x, y with
  | some xs, .int k => if -(2 ^ 63) ≤ k ∧ k < 2 ^ 63 then (match seqIndex? k xs.length with
    | some j => (match xs[j]? with
      | some d => .ok d (stO s2 x (xs.eraseIdx j))
      | none => .stk)
    | none => .stk) else .stk
  | _, _ => .stk) else .stk
theorem se_popAt {p2 p3 : Pos} (ho : SE X C o fo) (ha : SE X C a fa) (hbase : attributeBase o "pop" X.env (eval o X.env) = eval o X.env := by rfl)
    (hfew : ((backTo p3 (starEach [a] X.env)).all (fun x => !x.1) && (backToKw p3 (keywordEach [] X.env)).all (fun x => x.1.isSome)
      && decide ([a].length + ([] : List Keyword).length + (if ([] : List Keyword).isEmpty then 0 else 1) < 30)) = true := by rfl)
    (hline : (p2.endLine == p3.line) = true := by rfl) (hst : starEach [a] X.env = (false, eval a X.env) :: starEach [] X.env := by rfl) (hpl : (backTo p3 (starEach [] X.env)).any (·.1) = false := by rfl) :
    SE X C (.Call (.Attribute o "pop" p2) [a] [] p3) (ePopAt fo fa) :=
  pe_weak (pe_bm PySem.F.plainAttrs_list PySem.F.slot_list_pop PySem.F.type_list_pop mt_popAt ho (pa_cons ha pa_nil hst) hbase hfew hline hst hpl) fun σ H Q ⟨δ, v, re, eH, h⟩ => by
    refine ⟨δ, v, re, eH, on_mono (on_bind h) fun d x v1 l1 s1 r1 h1 => ?_⟩
    split at h1
    · rename_i hs
      obtain ⟨xs0, e0⟩ := isSome_of hs
      obtain ⟨i, p, vs0, rfl, rfl, em, q0, hh0, _⟩ := lsO_at s1 r1 e0
      refine ⟨.inl ⟨rfl, vs0, SqL.of hh0⟩, δ, v1, re.step l1 s1, rfl, on_mono (on_bind h1) fun y u v2 l2 s2 r2 h2 => ?_⟩
      cases e1 : lsO v2.st (.ob i) with
      | none => rw [e1] at h2; exact h2.elim
      | some xs =>
        rw [e1] at h2
        obtain ⟨i', p', vs, ei, ep, em', q1, hh, r0⟩ := lsO_at s2 (l2.rep r1) e1
        cases ei
        cases ep
        have hl := r0.length
        cases r2 with
        | int k =>
          simp only at h2
          split at h2
          · rename_i hk
            cases ej : seqIndex? k xs.length with
            | none => rw [ej] at h2; exact h2.elim
            | some j =>
              rw [ej] at h2
              simp only at h2
              cases ed : xs[j]? with
              | none => rw [ed] at h2; exact h2.elim
              | some d =>
                rw [ed] at h2
                obtain ⟨w, ew, rw2⟩ := r0.get ed
                obtain ⟨l3, s3⟩ := stO_ok s2 em' q1 (r0.erase j)
                exact ⟨p, vs, k, j, w, rfl, rfl, hh, hk.1, hk.2, by rw [← hl]; exact ej, ew, h2 w (v2.put i p (.lst (vs.eraseIdx j)) (.lst (xs.eraseIdx j))) l3 s3 rfl rw2⟩
          · exact h2.elim
        | _ => exact h2.elim
    · exact h1.elim
/-- o.extend(a), a another list -/
def eExt (o a : E) : E := fun δ s => (o δ s).bind fun x s1 => if (lsO s1 x).isSome = true then ((a δ s1).bind fun y s2 => match lsO s2 x, rsv s2 y with
  | some xs, .lst ys => (match y with
    | .ob _ => if xs.length + ys.length ≤ sizeLine then .ok .non (stO s2 x (xs ++ ys)) else .stk
    | _ => .stk)
  | _, _ => .stk) else .stk
theorem se_ext {p2 p3 : Pos} (ho : SE X C o fo) (ha : SE X C a fa) (hbase : attributeBase o "extend" X.env (eval o X.env) = eval o X.env := by rfl)
    (hfew : ((backTo p3 (starEach [a] X.env)).all (fun x => !x.1) && (backToKw p3 (keywordEach [] X.env)).all (fun x => x.1.isSome)
      && decide ([a].length + ([] : List Keyword).length + (if ([] : List Keyword).isEmpty then 0 else 1) < 30)) = true := by rfl)
    (hline : (p2.endLine == p3.line) = true := by rfl) (hst : starEach [a] X.env = (false, eval a X.env) :: starEach [] X.env := by rfl) (hpl : (backTo p3 (starEach [] X.env)).any (·.1) = false := by rfl) :
    SE X C (.Call (.Attribute o "extend" p2) [a] [] p3) (eExt fo fa) :=
  pe_weak (pe_bm PySem.F.plainAttrs_list PySem.F.slot_list_extend PySem.F.type_list_extend mt_extend ho (pa_cons ha pa_nil hst) hbase hfew hline hst hpl) fun σ H Q ⟨δ, v, re, eH, h⟩ => by
    refine ⟨δ, v, re, eH, on_mono (on_bind h) fun d x v1 l1 s1 r1 h1 => ?_⟩
    split at h1
    · rename_i hs
      obtain ⟨xs0, e0⟩ := isSome_of hs
      obtain ⟨i, p, vs0, rfl, rfl, em, q0, hh0, _⟩ := lsO_at s1 r1 e0
      refine ⟨.inl ⟨rfl, vs0, SqL.of hh0⟩, δ, v1, re.step l1 s1, rfl, on_mono (on_bind h1) fun y u v2 l2 s2 r2 h2 => ?_⟩
      cases e1 : lsO v2.st (.ob i) with
      | none => rw [e1] at h2; exact h2.elim
      | some xs =>
        rw [e1] at h2
        obtain ⟨i', p', vs, ei, ep, em', q1, hh, r0⟩ := lsO_at s2 (l2.rep r1) e1
        cases ei
        cases ep
        have hl := r0.length
        split at h2
        · rename_i zs ys ez ey
          cases ez
          split at h2
          · rename_i j
            split at h2
            · rename_i hz
              have eL : lsO v2.st (.ob j) = some ys := by
                unfold rsv at ey
                unfold lsO
                dsimp only at ey ⊢
                split at ey
                · rename_i q5; cases ey; rw [q5]
                · cases ey
                · cases ey
              obtain ⟨j', b, us, ej, eu, emj, qj, hb, rb⟩ := lsO_at s2 r2 eL
              cases ej
              cases eu
              have hl2 := rb.length
              obtain ⟨l3, s3⟩ := stO_ok s2 em' q1 (r0.append rb)
              exact ⟨p, b, vs, us, rfl, rfl, hh, hb, by omega, h2 .non (v2.put i p (.lst (vs ++ us)) (.lst (xs ++ ys))) l3 s3 rfl .non⟩
            · exact h2.elim
          · exact h2.elim
        · exact h2.elim
    · exact h1.elim
/-- a list of the store from here on frozen -/
def frzD (s : Sto) (d : D) : D × Sto := match d with
  | .ob i => (match s[i]? with
    | some (.lst xs) => (.lst xs, s.set i .gone)
    | _ => (d, s))
  | _ => (d, s)
theorem frzD_ok {K : PySem.W.Frag} {ct : String → Addr} {v : Vw} {d : D} {x : V} (sr : SR K ct v) (r : Rep K ct v.G v.m d x) : ∃ v', Le v v' ∧ SR K ct v' ∧ v'.H = v.H ∧ v'.st = (frzD v.st d).2 ∧ Rep K ct v'.G v'.m (frzD v.st d).1 x := by
  unfold frzD
  split
  · rename_i i
    split
    · rename_i xs q
      cases r with
      | @ob _ a em =>
        obtain ⟨a', em', _, vs, h, r2⟩ := sr.obj i _ q rfl
        rw [em] at em'
        cases em'
        obtain ⟨l, s⟩ := frz_ok sr q rfl em h
        exact ⟨v.frz i a (.lst vs), l, s, rfl, rfl, .lst (SqL.of upd_same) (l.repl r2)⟩
    · exact ⟨v, .refl, sr, rfl, rfl, r⟩
  · exact ⟨v, .refl, sr, rfl, rfl, r⟩
def eFrz (f : E) : E := fun δ s => (f δ s).bind fun d s1 => .ok (frzD s1 d).1 (frzD s1 d).2
theorem se_frz (h : SE X C e fe) : SE X C e (eFrz fe) := pe_weak h fun σ H Q ⟨δ, v, re, eH, h⟩ =>
  ⟨δ, v, re, eH, on_mono (on_bind h) fun d x v1 l1 s1 r1 h1 => by
    obtain ⟨v2, l2, s2, eH2, es2, r2⟩ := frzD_ok s1 r1
    have h2 : Q x v2.H := h1 x v2 l2 s2 es2 r2
    rw [eH2] at h2
    exact h2⟩
/-- the list at x is frozen from here on -/
def sFrz (i : Nat) (f : S) : S := fun δ s => match δ[i]? with
  | some (some d) => f (δ.set i (some (frzD s d).1)) (frzD s d).2
  | _ => f δ s
theorem ss_frz (i : Nat) {st : Stmt} {g : S} (h : SS X C st g) : SS X C st (sFrz i g) := ps_weak h fun Dn σ H ⟨δ, v, re, eH, h⟩ => by
  unfold sFrz at h
  split at h
  · rename_i d q
    obtain ⟨x, e0, r0⟩ := re.sl i d q
    obtain ⟨v2, l2, s2, eH2, es2, r2⟩ := frzD_ok re.sr r0
    have re2 := (re.step l2 s2).setV i r2
    have eσ : σ.set i (some x) = σ := by
      apply List.ext_getElem?
      intro j
      by_cases z : i = j
      · subst z
        rw [List.getElem?_set_self (List.getElem?_eq_some_iff.mp e0).1, e0]
      · rw [List.getElem?_set_ne z]
    rw [eσ] at re2
    rw [← es2] at h
    exact ⟨_, v2, re2, eH2.trans eH, onS_same l2 h⟩
  · exact ⟨δ, v, re, eH, h⟩
/-- o[b] = e of a list of the store -/
def sSetIx (o b e : E) : S := fun δ s => sBind (e δ s) δ fun d s1 => sBind (o δ s1) δ fun x s2 => sBind (b δ s2) δ fun z s3 => match lsO s3 x, z with
  | some xs, .int k => (match ixN xs.length k with
    | some j => .nx δ (stO s3 x (xs.set j d))
    | none => .stk)
  | _, _ => .stk
theorem ss_setIx {p2 : Pos} (ho : SE X C o fo) (hi : SE X C b fb) (he : SE X C e fe)
    (ha : ∀ v, assign (.Subscript o b p2) X.env v = (do
      let ov ← holding [v] (eval o X.env)
      let iv ← holding [v, ov] (eval b X.env)
      standAt p2
      holding [v, ov, iv] (setItem ov iv v)
      release [v, ov, iv] []) := by intro _; rfl)
    (hs : swapsWithSole [.Subscript o b p2] e pos.line X.env = pure false := by rfl) (hw : swappedStores [.Subscript o b p2] e X.env = pure none := by rfl)
    (h1 : (assignEach [.Subscript o b p2] X.env).map (·.2) = [assign (.Subscript o b p2) X.env] := by rfl) :
    SS X C (.Assign [.Subscript o b p2] e pos) (sSetIx fo fb fe) :=
  ps_weak (ps_asg he (pg_sub ho hi set_list ha) hs hw h1) fun Dn σ H ⟨δ, v, re, eH, h⟩ => by
    refine ⟨δ, v, re, eH, on_mono (onS_R re h) fun d x v1 l1 s1 r1 h1 => ?_⟩
    have re1 := re.step l1 s1
    refine ⟨δ, v1, re1, rfl, on_mono (onS_R re1 h1) fun d2 x2 v2 l2 s2 r2 h2 => ?_⟩
    have re2 := re1.step l2 s2
    refine ⟨δ, v2, re2, rfl, on_mono (onS_R re2 h2) fun z u v3 l3 s3 r3 h3 => ?_⟩
    have re3 := re2.step l3 s3
    split at h3
    · rename_i xs k e0
      split at h3
      · rename_i j ej
        obtain ⟨i, p, vs, rfl, rfl, em, q0, hh, r0⟩ := lsO_at s3 (l3.rep r2) e0
        cases r3
        have hl := r0.length
        obtain ⟨l4, s4⟩ := stO_ok s3 em q0 (r0.set j ((l2.trans l3).rep r1))
        exact ⟨p, vs, k, j, rfl, rfl, hh, by rw [← hl]; exact ej, h3 σ (v3.put i p (.lst (vs.set j x)) (.lst (xs.set j d))) (re3.step l4 s4) l4 rfl⟩
      · exact h3.elim
    · exact h3.elim
end
end Gs

/-! G9: walks, constants, ends; reckoning with the functions over data and store. -/
namespace Gs
open PySem L2
theorem hu_big {A : Around} {k : Nat} (hr : Room k A) : A.units + 64 < cLine := hr.units
/-- turns that a while may take -/
def fuel : Nat := 100000
/-- what is asked of the law: a script's numbers, True -/
def spL (K : PySem.W.Frag) (F : List D → Sto → R D) : Sp := fun vs H Q E => ∃ (a : Addr) (ns : List Int) (s' : Sto), vs = [.ref a] ∧ SqL K H a (ns.map V.int) ∧ F [.lst (ns.map D.int)] [] = .ok (.bl true) s' ∧ ∀ H', Q (.bl true) H'
theorem fn_law {P : Program} {w : World} {K : PySem.W.Frag} {mg : Str → Option Value} {base : Heap} {CX : CXT} {k : Nat} {f : Addr} {fd : FuncData} {ps : List Str} {ct : String → Addr} {F : List D → Sto → R D} (h : FnOk P w K mg base CX k f fd ps (spG K ct 1 F)) :
    FnOk P w K mg base CX k f fd ps (spL K F) := by
  have cv : ∀ (vs : List V) (H : Hp) (Q : VK) (E : XK), spL K F vs H Q E → spG K ct 1 F vs H Q E := by
    rintro vs H Q E ⟨a, ns, s', rfl, hS, hF, q⟩
    refine ⟨⟨H, H, fun _ => none, []⟩, [.lst (ns.map D.int)], rfl, ⟨Same.refl _, fun _ _ => rfl, fun i o e => ?_, fun i j o u a e => ?_⟩, rfl, .cons (.lst hS (RepL.ints ns)) .nil, ?_⟩
    · simp at e
    · simp at e
    · show match F [.lst (ns.map D.int)] [] with
        | .ok d s => _
        | .exc e s => _
        | .stk => _
      rw [hF]
      intro x v' l sr es r
      cases r
      exact q v'.H
  exact ⟨fun vs H Q E z => h.len vs H Q E (cv vs H Q E z), fun A outer s H args us vs Q E a b c d z => h.run A outer s H args us vs Q E a b c d (cv vs H Q E z)⟩
theorem law_sp {K : PySem.W.Frag} {H : Hp} {a : Addr} {ns : List Int} {F : List D → Sto → R D} (hS : SqL K H a (ns.map V.int)) (h : ∃ s', F [.lst (ns.map D.int)] [] = .ok (.bl true) s') : spL K F [.ref a] H (fun v _ => v = .bl true) fun _ _ _ => False :=
  let ⟨s', e⟩ := h
  ⟨a, ns, s', rfl, hS, e, fun _ => rfl⟩
theorem law_cx {P : Program} {w : World} {H : Hp} {s : Shared} {e : Value} {s' : Shared} (h : L2.CX P w [] H s (fun _ _ _ => False) e s') : False := by
  obtain ⟨_, _, _, _, _, _, _, _, _, _, _, _, z⟩ := h
  exact z
/-! ### constants of the module -/
def KC (K : PySem.W.Frag) (mg : Str → Option Value) (x : Str) (d : D) : Prop := ∀ ct : String → Addr, ∃ v u, mg x = some u ∧ RelV v u ∧ ∀ G m, Rep K ct G m d v
theorem se_con {X : Cx} {C : Cc} {x : Str} {d : D} {pos : Pos} (h : KC X.K X.mg x d) (hg : Gl X x := by rfl) (hd : (x == ("__debug__" : Str)) = false := by decide) : SE X C (.Name x pos) (eC d) := by
  obtain ⟨v, u, hm, r, q⟩ := h C.ct
  exact se_const (pe_glob hg hm r hd) q
theorem kc_tup {K : PySem.W.Frag} {mg : Str → Option Value} {x : Str} {ss : List Str} {a : Addr} {o : Obj} {its : Array Value} {n : Nat} (hm : mg x = some (.ref a)) (hl : K.lookup a = some o) (hc : o.cls = .type "tuple") (hd : o.data = .seq its n) (hs : its.size ≤ sizeLine) (hv : Vals (ss.map V.str) its.toList) : KC K mg x (.tup (ss.map .str)) :=
  fun ct => ⟨.ref a, .ref a, hm, rfl, fun G m => .tup (.inr ⟨o, its, n, hl, hc, hd, hs, hv⟩) (RepL.strs ss)⟩
/-- what is known of an own class of the program, over ValueError, without own __init__ -/
structure XC (K : PySem.W.Frag) (mg : Str → Option Value) (ct : String → Addr) (cn : String) : Prop where
  g : mg (Str.ofString cn) = some (.ref (ct cn))
  k : PySem.W.keepIn K (.ref (ct cn)) = true
  q : PySem.W.excIn K (ct cn) [.type "ValueError", .type "Exception", .type "BaseException", .type "object"] "ValueError.__new__" = true
  b : PySem.W.subIn K (.ref (ct cn)) (.type "BaseException") = some true
  t : PySem.W.typeIn K (.ref (ct cn)) = some (.type "type")
  d : PySem.W.hasDictIn K (ct cn) = true

section
variable {X : Cx} {C : Cc} {pos : Pos}
def sRaise (cn : String) : S := fun δ s => .exc ⟨cn, []⟩ δ s
theorem ss_raise {cn : String} {m : Str} {j : Nat} {p p2 p3 : Pos} (hc : X.calm = true) (tk : Takes X C.W) (c : XC X.K X.mg C.ct cn) (hg : Gl X (Str.ofString cn)) (hdb : ((Str.ofString cn) == ("__debug__" : Str)) = false := by decide) :
    SS X C (.Raise (some (.Call (.Name (Str.ofString cn) p) [.Constant (.str m) j p2] [] p3)) none pos) (sRaise cn) :=
  ps_weak (ps_raise hc tk (pmk_own PySem.F.excBase_ValueError c.q c.g c.k (raises_own c.b c.t) hg hdb)) fun Dn σ H ⟨δ, v, re, eH, h⟩ => by
    subst eH
    exact h _ none σ v re .refl rfl ⟨rfl, .inl ⟨rfl, rfl⟩⟩
end
/-! ### walks -/
/-! max, min of a list of numbers -/
def maxI : List Int → Option Int
  | [] => none
  | x :: xs => match maxI xs with
    | none => some x
    | some m => some (if x ≤ m then m else x)
def minI : List Int → Option Int
  | [] => none
  | x :: xs => match minI xs with
    | none => some x
    | some m => some (if m ≤ x then m else x)
theorem maxI_none : ∀ {xs : List Int}, maxI xs = none → xs = []
  | [], _ => rfl
  | x :: xs, h => by
    simp only [maxI] at h
    split at h <;> exact nomatch h
theorem minI_none : ∀ {xs : List Int}, minI xs = none → xs = []
  | [], _ => rfl
  | x :: xs, h => by
    simp only [minI] at h
    split at h <;> exact nomatch h
theorem maxI_spec : ∀ {xs : List Int} {m : Int}, maxI xs = some m → m ∈ xs ∧ ∀ y ∈ xs, y ≤ m
  | [], m, h => nomatch h
  | x :: xs, m, h => by
    simp only [maxI] at h
    split at h
    · rename_i e
      have := maxI_none e
      subst this
      cases h
      exact ⟨by simp, fun y hy => by simp at hy; omega⟩
    · rename_i m' e
      obtain ⟨h1, h2⟩ := maxI_spec e
      simp only [Option.some.injEq] at h
      subst h
      refine ⟨?_, fun y hy => ?_⟩
      · split
        · exact List.mem_cons_of_mem _ h1
        · exact List.mem_cons_self
      · rcases List.mem_cons.mp hy with rfl | hy
        · split <;> omega
        · have := h2 y hy
          split <;> omega
theorem minI_spec : ∀ {xs : List Int} {m : Int}, minI xs = some m → m ∈ xs ∧ ∀ y ∈ xs, m ≤ y
  | [], m, h => nomatch h
  | x :: xs, m, h => by
    simp only [minI] at h
    split at h
    · rename_i e
      have := minI_none e
      subst this
      cases h
      exact ⟨by simp, fun y hy => by simp at hy; omega⟩
    · rename_i m' e
      obtain ⟨h1, h2⟩ := minI_spec e
      simp only [Option.some.injEq] at h
      subst h
      refine ⟨?_, fun y hy => ?_⟩
      · split
        · exact List.mem_cons_of_mem _ h1
        · exact List.mem_cons_self
      · rcases List.mem_cons.mp hy with rfl | hy
        · split <;> omega
        · have := h2 y hy
          split <;> omega

section
variable {K : PySem.W.Frag} {ct : String → Addr} {v : Vw}
theorem RE.frz {C : Cc} {σ : L2.St} {δ : Sl} {v : Vw} (r : RE K C σ δ v) : Le C.v0 v := r.le
def enumD (xs : List D) : List D := xs.zipIdx.map fun p => .tup [.int (p.2 : Nat), p.1]
theorem itOk_enum {a : Addr} {vs : List V} {ds : List D} (h : SqL K v.G a vs) (r : RepL K ct v.G v.m ds vs) : ItOk K ct (Ite K a) v (enumD ds) where
  go := fun i w l s hi => by
    have hi' : i < ds.length := by simpa [enumD] using hi
    obtain ⟨x, e, _⟩ := r.get (List.getElem?_eq_getElem hi')
    exact ⟨vs, x, s.sub.seq (l.g.seq h), e⟩
  stop := fun i w l s hi => by
    have : ds.length ≤ i := by simpa [enumD] using hi
    exact ⟨vs, s.sub.seq (l.g.seq h), by rw [← r.length]; exact this⟩
  yld := fun i w z H' l s hi y => by
    have hi' : i < ds.length := by simpa [enumD] using hi
    obtain ⟨x, e, rv⟩ := r.get (List.getElem?_eq_getElem hi')
    obtain ⟨T, x', rfl, hT, rfl, y2⟩ := y
    have z2 := y2 vs (s.sub.seq (l.g.seq h))
    rw [e] at z2
    cases z2
    obtain ⟨l2, s2⟩ := new_ok (o := .tup [.int (i : Nat), x]) s hT
    exact ⟨.tup [.int (i : Nat), ds[i]], w.new T (.tup [.int (i : Nat), x]), by simp [enumD, hi'], rfl, l2, s2, rfl, .tup (SqT.of upd_same) (.cons (.int _) (.cons (l2.rep (l.rep rv)) .nil))⟩
theorem itOk_rev {a : Addr} {vs : List V} {ds : List D} (h : SqL K v.G a vs) (r : RepL K ct v.G v.m ds vs) : ItOk K ct (Itv K a vs.length) v ds.reverse where
  go := fun i w l s hi => by
    have hi' : i < ds.length := by simpa using hi
    have hl := r.length
    obtain ⟨x, e, _⟩ := r.get (List.getElem?_eq_getElem (show vs.length - 1 - i < ds.length by omega))
    exact ⟨by omega, vs, x, s.sub.seq (l.g.seq h), e⟩
  stop := fun i w l s hi => by
    have hl := r.length
    have : ds.length ≤ i := by simpa using hi
    show vs.length ≤ i
    omega
  yld := fun i w x H' l s hi y => by
    have hi' : i < ds.length := by simpa using hi
    have hl := r.length
    have hi2 : vs.length - 1 - i < ds.length := by omega
    obtain ⟨x0, e, rv⟩ := r.get (List.getElem?_eq_getElem hi2)
    obtain ⟨rfl, y2⟩ := y
    have z := y2 vs (s.sub.seq (l.g.seq h))
    rw [e] at z
    cases z
    refine ⟨_, w, ?_, rfl, .refl, s, rfl, l.rep rv⟩
    rw [List.getElem?_reverse hi', List.getElem?_eq_getElem (by omega)]
    congr 1
    exact getElem_congr rfl (by omega) _
def zipD (xs ys : List D) : List D := List.zipWith (fun x y => .tup [x, y]) xs ys
theorem zipD_get {xs ys : List D} {i : Nat} (hi : i < (zipD xs ys).length) : ∃ x y, xs[i]? = some x ∧ ys[i]? = some y ∧ (zipD xs ys)[i]? = some (.tup [x, y]) := by
  have h1 : i < xs.length ∧ i < ys.length := by
    simp only [zipD, List.length_zipWith] at hi
    omega
  exact ⟨xs[i], ys[i], List.getElem?_eq_getElem h1.1, List.getElem?_eq_getElem h1.2, by simp [zipD, List.getElem?_zipWith, h1.1, h1.2]⟩
theorem itOk_zip {a b : Addr} {vs us : List V} {ds es : List D} (h : SqL K v.G a vs) (h2 : SqL K v.G b us) (r : RepL K ct v.G v.m ds vs) (r2 : RepL K ct v.G v.m es us) : ItOk K ct (Itz K a b) v (zipD ds es) where
  go := fun i w l s hi => by
    obtain ⟨x, y, e1, e2, _⟩ := zipD_get hi
    obtain ⟨x1, e3, _⟩ := r.get e1
    obtain ⟨y1, e4, _⟩ := r2.get e2
    exact ⟨vs, us, x1, y1, s.sub.seq (l.g.seq h), s.sub.seq (l.g.seq h2), e3, e4⟩
  stop := fun i w l s hi => by
    have := hi
    simp only [zipD, List.length_zipWith] at this
    have hl := r.length
    have hl2 := r2.length
    exact ⟨vs, us, s.sub.seq (l.g.seq h), s.sub.seq (l.g.seq h2), by omega⟩
  yld := fun i w z H' l s hi y => by
    obtain ⟨dx, dy, e1, e2, e5⟩ := zipD_get hi
    obtain ⟨x1, e3, rv⟩ := r.get e1
    obtain ⟨y1', e4, ru⟩ := r2.get e2
    obtain ⟨T, x0, y0, rfl, hT, rfl, y1, y2⟩ := y
    have z := y1 vs (s.sub.seq (l.g.seq h))
    rw [e3] at z
    cases z
    have z2 := y2 us (s.sub.seq (l.g.seq h2))
    rw [e4] at z2
    cases z2
    obtain ⟨l2, s2⟩ := new_ok (o := .tup [x1, y1']) s hT
    exact ⟨.tup [dx, dy], w.new T (.tup [x1, y1']), e5, rfl, l2, s2, rfl, .tup (SqT.of upd_same) (.cons (l2.rep (l.rep rv)) (.cons (l2.rep (l.rep ru)) .nil))⟩
theorem itOk_zipT {a b : Addr} {vs us : List V} {ds es : List D} (h : SqT K v.G a vs) (h2 : SqT K v.G b us) (r : RepL K ct v.G v.m ds vs) (r2 : RepL K ct v.G v.m es us) : ItOk K ct (RZ.ItzT K a b) v (zipD ds es) where
  go := fun i w l s hi => by
    obtain ⟨x, y, e1, e2, _⟩ := zipD_get hi
    obtain ⟨x1, e3, _⟩ := r.get e1
    obtain ⟨y1, e4, _⟩ := r2.get e2
    exact ⟨vs, us, x1, y1, sqt_mono s.sub (sqt_mono l.g h), sqt_mono s.sub (sqt_mono l.g h2), e3, e4⟩
  stop := fun i w l s hi => by
    have := hi
    simp only [zipD, List.length_zipWith] at this
    have hl := r.length
    have hl2 := r2.length
    exact ⟨vs, us, sqt_mono s.sub (sqt_mono l.g h), sqt_mono s.sub (sqt_mono l.g h2), by omega⟩
  yld := fun i w z H' l s hi y => by
    obtain ⟨dx, dy, e1, e2, e5⟩ := zipD_get hi
    obtain ⟨x1, e3, rv⟩ := r.get e1
    obtain ⟨y1', e4, ru⟩ := r2.get e2
    obtain ⟨T, x0, y0, rfl, hT, rfl, y1, y2⟩ := y
    have z := y1 vs (sqt_mono s.sub (sqt_mono l.g h))
    rw [e3] at z
    cases z
    have z2 := y2 us (sqt_mono s.sub (sqt_mono l.g h2))
    rw [e4] at z2
    cases z2
    obtain ⟨l2, s2⟩ := new_ok (o := .tup [x1, y1']) s hT
    exact ⟨.tup [dx, dy], w.new T (.tup [x1, y1']), e5, rfl, l2, s2, rfl, .tup (SqT.of upd_same) (.cons (l2.rep (l.rep rv)) (.cons (l2.rep (l.rep ru)) .nil))⟩
theorem itOk_rngC {lo : Int} {n : Nat} : ItOk K ct (Itc (lo + (n : Int) - 1) (-1) n) v (rngD lo n).reverse where
  go := fun i w l s hi => by show i < n; simpa [rngD] using hi
  stop := fun i w l s hi => by show n ≤ i; simpa [rngD] using hi
  yld := fun i w z H' l s hi y => by
    obtain ⟨rfl, rfl⟩ := y
    have hi' : i < n := by simpa [rngD] using hi
    refine ⟨_, w, ?_, rfl, .refl, s, rfl, .int _⟩
    rw [List.getElem?_reverse (by simpa [rngD] using hi'), ints_get (by simp only [rngD, List.length_map, List.length_range]; omega)]
    congr 2
    simp only [rngD, List.length_map, List.length_range]
    omega
def rngS (lo c : Int) (n : Nat) : List D := (List.range n).map fun (i : Nat) => .int (lo + (i : Int) * c)
theorem rngS_get {lo c : Int} {n i : Nat} (h : i < n) : (rngS lo c n)[i]? = some (.int (lo + (i : Int) * c)) := by simp [rngS, h]
theorem itOk_rngS {lo c : Int} {n : Nat} : ItOk K ct (Itc lo c n) v (rngS lo c n) where
  go := fun i w l s hi => by show i < n; simpa [rngS] using hi
  stop := fun i w l s hi => by show n ≤ i; simpa [rngS] using hi
  yld := fun i w z H' l s hi y => by
    obtain ⟨rfl, rfl⟩ := y
    exact ⟨_, w, rngS_get (by simpa [rngS] using hi), rfl, .refl, s, rfl, .int _⟩
end
def iEnumD (a : As) : As := fun δ s => (a δ s).bind fun ds s1 => match ds with
  | [.lst xs] => .ok (enumD xs) s1
  | _ => .stk
def iRevD (a : As) : As := fun δ s => (a δ s).bind fun ds s1 => match ds with
  | [.lst xs] => .ok xs.reverse s1
  | _ => .stk
def iZipD (a : As) : As := fun δ s => (a δ s).bind fun ds s1 => match ds with
  | [.lst xs, .lst ys] => .ok (zipD xs ys) s1
  | [.tup xs, .tup ys] => .ok (zipD xs ys) s1
  | _ => .stk
def iRevR2 (a b : E) : As := fun δ s => (a δ s).bind fun x s1 => (b δ s1).bind fun y s2 => match x, y with
  | .int i, .int j => if -(2 ^ 62) ≤ i ∧ i < 2 ^ 62 ∧ -(2 ^ 62) ≤ j ∧ j < 2 ^ 62 then .ok (rngD i (j - i).toNat).reverse s2 else .stk
  | _, _ => .stk
def rng3Ok (i j c : Int) : Prop := c ≠ 0 ∧ c.natAbs < 1073741824 ∧ Builtin.Range.small i j c = true ∧ 0 ≤ Builtin.Range.rangeSize i j c
instance (i j c : Int) : Decidable (rng3Ok i j c) := inferInstanceAs (Decidable (c ≠ 0 ∧ c.natAbs < 1073741824 ∧ Builtin.Range.small i j c = true ∧ 0 ≤ Builtin.Range.rangeSize i j c))
def iRange3 (a : As) : As := fun δ s => (a δ s).bind fun ds s1 => match ds with
  | [.int i, .int j, .int c] => if rng3Ok i j c then .ok (rngS i c (Builtin.Range.rangeSize i j c).toNat) s1 else .stk
  | _ => .stk
section
variable {X : Cx} {C : Cc} {tg : Expr}
theorem si_enum {e : Expr} {f : As} {p pos tpos : Pos} {elts : List Expr} {kk : Nat} (hg : Gl X "enumerate") (hm : X.mg "enumerate" = none) (ha : SA X C [e] f) (hs : starEach [e] X.env = [(false, eval e X.env)] := by rfl) :
    SI X C (.Tuple elts kk tpos) (.Call (.Name "enumerate" p) [e] [] pos) (iEnumD f) :=
  pi_weak (pi_enum hg hm ha hs) fun σ H R ⟨δ, v, re, eH, h⟩ => ⟨δ, v, re, eH, on_mono (on_bind h) fun ds vs v1 l1 s1 r1 h1 => by
    split at h1
    · cases r1 with
      | cons r2 r3 =>
        cases r3
        cases r2 with
        | @lst a us _ pp q => exact ⟨a, us, rfl, s1.sub.seq pp, on_self s1 h1 (itOk_enum pp q)⟩
    · exact h1.elim⟩
theorem si_rev {e : Expr} {f : As} {p pos : Pos} (hg : Gl X "reversed") (hm : X.mg "reversed" = none) (ha : SA X C [e] f) (hs : starEach [e] X.env = [(false, eval e X.env)] := by rfl) : SI X C tg (.Call (.Name "reversed" p) [e] [] pos) (iRevD f) :=
  pi_weak (pi_reversed hg hm ha hs) fun σ H R ⟨δ, v, re, eH, h⟩ => ⟨δ, v, re, eH, on_mono (on_bind h) fun ds vs v1 l1 s1 r1 h1 => by
    split at h1
    · cases r1 with
      | cons r2 r3 =>
        cases r3
        cases r2 with
        | @lst a us _ pp q => exact ⟨a, us, rfl, s1.sub.seq pp, on_self s1 h1 (itOk_rev pp q)⟩
    · exact h1.elim⟩
theorem si_zip {e e2 : Expr} {f : As} {p pos tpos : Pos} {elts : List Expr} {kk : Nat} (hg : Gl X "zip") (hm : X.mg "zip" = none) (ha : SA X C [e, e2] f)
    (hs : starEach [e, e2] X.env = (false, eval e X.env) :: starEach [e2] X.env := by rfl) (hpl : (backTo pos (starEach [e2] X.env)).any (·.1) = false := by rfl) :
    SI X C (.Tuple elts kk tpos) (.Call (.Name "zip" p) [e, e2] [] pos) (iZipD f) :=
  pi_weak (RZ.pi_zipA hg hm ha hs hpl) fun σ H R ⟨δ, v, re, eH, h⟩ => ⟨δ, v, re, eH, on_mono (on_bind h) fun ds vs v1 l1 s1 r1 h1 => by
    split at h1
    · cases r1 with
      | cons r2 r3 =>
        cases r3 with
        | cons r3 r4 =>
          cases r4
          cases r2 with
          | @lst a us _ pp q =>
            cases r3 with
            | @lst b ws _ pp2 q2 => exact ⟨a, b, us, ws, rfl, .inl ⟨s1.sub.seq pp, s1.sub.seq pp2, on_self s1 h1 (itOk_zip pp pp2 q q2)⟩⟩
    · cases r1 with
      | cons r2 r3 =>
        cases r3 with
        | cons r3 r4 =>
          cases r4
          cases r2 with
          | @tup a us _ pp q =>
            cases r3 with
            | @tup b ws _ pp2 q2 => exact ⟨a, b, us, ws, rfl, .inr ⟨sqt_mono s1.sub pp, sqt_mono s1.sub pp2, on_self s1 h1 (itOk_zipT pp pp2 q q2)⟩⟩
    · exact h1.elim⟩
theorem si_revR2 {a b : Expr} {fa fb : E} {p p2 pos pos2 : Pos} (hg : Gl X "reversed") (hm : X.mg "reversed" = none) (hgr : Gl X "range") (hmr : X.mg "range" = none) (ha : SE X C a fa) (hb : SE X C b fb)
    (hs : starEach [.Call (.Name "range" p2) [a, b] [] pos2] X.env = (false, eval (.Call (.Name "range" p2) [a, b] [] pos2) X.env) :: starEach [] X.env := by rfl)
    (hs1 : starEach [a, b] X.env = (false, eval a X.env) :: starEach [b] X.env := by rfl) (hs2 : starEach [b] X.env = (false, eval b X.env) :: starEach [] X.env := by rfl) (hp : (backTo pos2 (starEach [b] X.env)).any (·.1) = false := by rfl) :
    SI X C tg (.Call (.Name "reversed" p) [.Call (.Name "range" p2) [a, b] [] pos2] [] pos) (iRevR2 fa fb) :=
  pi_weak (pi_revR hg hm (prg_2 hgr hmr ha hb hs1 hs2 hp) hs) fun σ H R ⟨δ, v, re, eH, h⟩ => ⟨δ, v, re, eH, on_mono (on_bind h) fun d x v1 l1 s1 r1 h1 => ⟨δ, v1, re.step l1 s1, rfl, on_mono (on_bind h1) fun d2 x2 v2 l2 s2 r2 h2 => by
    cases r1 <;> cases r2 <;> first
      | exact h2.elim
      | (simp only at h2
         split at h2
         · rename_i hz
           exact ⟨_, _, rfl, rfl, hz.1, hz.2.1, hz.2.2.1, hz.2.2.2, on_self s2 h2 itOk_rngC⟩
         · exact h2.elim)⟩⟩
theorem si_range3 {a b c : Expr} {f : As} {p pos : Pos} (hg : Gl X "range") (hm : X.mg "range" = none) (ha : SA X C [a, b, c] f)
    (hs : starEach [a, b, c] X.env = (false, eval a X.env) :: starEach [b, c] X.env := by rfl) (hpl : (backTo pos (starEach [b, c] X.env)).any (·.1) = false := by rfl) :
    SI X C tg (.Call (.Name "range" p) [a, b, c] [] pos) (iRange3 f) :=
  pi_weak (pi_range3 hg hm ha hs hpl) fun σ H R ⟨δ, v, re, eH, h⟩ => ⟨δ, v, re, eH, on_mono (on_bind h) fun ds vs v1 l1 s1 r1 h1 => by
    split at h1
    · rename_i i j c
      cases r1 with
      | cons r2 r3 =>
        cases r2
        cases r3 with
        | cons r4 r5 =>
          cases r4
          cases r5 with
          | cons r6 r7 =>
            cases r6
            cases r7
            split at h1
            · rename_i hz
              obtain ⟨z1, z2, z3, z4⟩ := hz
              exact ⟨_, _, _, _, rfl, ⟨z1, z2, z3, (Int.toNat_of_nonneg z4).symm⟩, on_self s1 h1 itOk_rngS⟩
            · exact h1.elim
    · exact h1.elim⟩
def eBits (f : E) : E := fun δ s => (f δ s).bind fun d s1 => match d with
  | .int i => .ok (.int (Builtin.Int.intBits i : Nat)) s1
  | _ => .stk
theorem se_bits {o : Expr} {f : E} {apos pos : Pos} (ho : SE X C o f) (hbase : attributeBase o "bit_length" X.env (eval o X.env) = eval o X.env := by rfl) (hline : (apos.endLine == pos.line) = true := by rfl) : SE X C (.Call (.Attribute o "bit_length" apos) [] [] pos) (eBits f) :=
  pe_weak (pe_bits ho hbase hline) fun σ H Q ⟨δ, v, re, eH, h⟩ => ⟨δ, v, re, eH, on_mono (on_bind h) fun d x v1 l1 s1 r1 h1 => by
    cases r1 with
    | int i => exact ⟨i, rfl, on_self s1 h1 (.int _)⟩
    | _ => exact h1.elim⟩
end
/-! ### reckoning -/
theorem runG_rt {N : Nat} {body : S} {ds : List D} {s s' : Sto} {d : D} (h : body (ds.map some ++ List.replicate (N - ds.length) none) s = .rt d s') : runG N body ds s = .ok d s' := by unfold runG; rw [h]
theorem runG_nx {N : Nat} {body : S} {ds : List D} {s s' : Sto} {δ : Sl} (h : body (ds.map some ++ List.replicate (N - ds.length) none) s = .nx δ s') : runG N body ds s = .ok .non s' := by unfold runG; rw [h]
theorem runG_exc {N : Nat} {body : S} {ds : List D} {s s' : Sto} {e : Ex} {δ : Sl} (h : body (ds.map some ++ List.replicate (N - ds.length) none) s = .exc e δ s') : runG N body ds s = .exc e s' := by unfold runG; rw [h]
/-- a loop whose turns go on -/
theorem forD_inv {p : Pt} {body : S} (Inv : Nat → Sl → Sto → Prop) : ∀ (items : List D) (k : Nat) (δ : Sl) (s : Sto), Inv k δ s →
    (∀ i d δ s, items[i]? = some d → Inv (k + i) δ s → ∃ δ1, bindP p d δ = some δ1 ∧ ∃ δ2 s2, body δ1 s = .nx δ2 s2 ∧ Inv (k + i + 1) δ2 s2) → ∃ δ' s', forD p body items δ s = .nx δ' s' ∧ Inv (k + items.length) δ' s'
  | [], k, δ, s, h0, _ => ⟨δ, s, rfl, h0⟩
  | d :: ds, k, δ, s, h0, hs => by
    obtain ⟨δ1, e1, δ2, s2, e2, h2⟩ := hs 0 d δ s rfl h0
    obtain ⟨δ', s', e3, h3⟩ := forD_inv Inv ds (k + 1) δ2 s2 h2 fun i d δ s hd hi => by
      have z := hs (i + 1) d δ s (by simpa using hd) (by rw [show k + (i + 1) = k + 1 + i by omega]; exact hi)
      rw [show k + (i + 1) + 1 = k + 1 + i + 1 by omega] at z
      exact z
    refine ⟨δ', s', ?_, by rw [List.length_cons, show k + (ds.length + 1) = k + 1 + ds.length by omega]; exact h3⟩
    simp only [forD, e1, e2, e3]
theorem rngD_length (lo : Int) (n : Nat) : (rngD lo n).length = n := by simp [rngD]
theorem rngD_some {lo : Int} {n i : Nat} {d : D} (h : (rngD lo n)[i]? = some d) : i < n ∧ d = .int (lo + (i : Int)) := by
  have hi : i < n := by
    have := (List.getElem?_eq_some_iff.mp h).1
    simpa [rngD] using this
  rw [ints_get hi] at h
  exact ⟨hi, (Option.some.inj h).symm⟩
theorem forR {p : Pt} {body : S} {lo : Int} {n : Nat} {δ : Sl} {s : Sto} (Inv : Nat → Sl → Sto → Prop) (h0 : Inv 0 δ s)
    (hs : ∀ i δ s, i < n → Inv i δ s → ∃ δ1, bindP p (.int (lo + (i : Int))) δ = some δ1 ∧ ∃ δ2 s2, body δ1 s = .nx δ2 s2 ∧ Inv (i + 1) δ2 s2) : ∃ δ' s', forD p body (rngD lo n) δ s = .nx δ' s' ∧ Inv n δ' s' := by
  have z := forD_inv (p := p) (body := body) Inv (rngD lo n) 0 δ s h0 fun i d δ s hd hi => by
    obtain ⟨h1, h2⟩ := rngD_some hd
    subst h2
    rw [Nat.zero_add] at hi ⊢
    exact hs i δ s h1 hi
  rw [Nat.zero_add, rngD_length] at z
  exact z
theorem whileK {c : T} {body : S} (Inv : Nat → Sl → Sto → Prop)
    (hs : ∀ k δ s, Inv k δ s → c δ s = .ok false s ∨ (c δ s = .ok true s ∧ ∃ δ2 s2, body δ s = .nx δ2 s2 ∧ ∃ k', k' < k ∧ Inv k' δ2 s2)) : ∀ (n k : Nat) (δ : Sl) (s : Sto), Inv k δ s → k < n → ∃ δ' s' k', whileD c body n δ s = .nx δ' s' ∧ Inv k' δ' s' ∧ c δ' s' = .ok false s'
  | 0, k, δ, s, _, h => by omega
  | n + 1, k, δ, s, hi, h => by
    rcases hs k δ s hi with hc | ⟨hc, δ2, s2, hb, k2, hk, hi2⟩
    · exact ⟨δ, s, k, by simp only [whileD, hc], hi, hc⟩
    · obtain ⟨δ', s', k', e, h2⟩ := whileK Inv hs n k2 δ2 s2 hi2 (by omega)
      exact ⟨δ', s', k', by simp only [whileD, hc, hb, e], h2⟩
/-- turns of a comprehension that leave the store -/
theorem lcD_mapL {α : Type} {p : Pt} {c : T} {e : E} {δ : Sl} {s : Sto} (g f : α → D) : ∀ l : List α, (∀ a ∈ l, ∃ δ1, bindP p (g a) δ = some δ1 ∧ c δ1 s = .ok true s ∧ e δ1 s = .ok (f a) s) → lcD p c e δ (l.map g) s = .ok (l.map f) s
  | [], _ => rfl
  | x :: l, h => by
    obtain ⟨δ1, e1, e2, e3⟩ := h x (by simp)
    have ih := lcD_mapL (p := p) (c := c) (e := e) (δ := δ) (s := s) g f l fun k hk => h k (by simp [hk])
    simp only [List.map_cons, lcD, e1, e2, e3, ih]
theorem ixN_ofNat {n j : Nat} (h : j < n) : ixN n (j : Int) = some j := by
  unfold ixN
  rw [if_pos (by omega), if_pos (by omega)]
  simp
theorem atI_ofNat {α : Type} (xs : List α) {j : Nat} (h : j < xs.length) : atI xs (j : Int) = some xs[j] := by
  unfold atI
  rw [ixN_ofNat h]
  exact List.getElem?_eq_getElem h

/-! ### sizes of products -/
theorem bits_le {i : Int} {a : Nat} (h : i.natAbs < 2 ^ a) : Builtin.Int.intBits i ≤ a := by
  unfold Builtin.Int.intBits
  split
  · exact Nat.zero_le _
  · rename_i hz
    have hz' : i.natAbs ≠ 0 := by
      simp only [beq_iff_eq] at hz
      omega
    exact Nat.succ_le_of_lt ((Nat.log2_lt hz').mpr h)
theorem mul_fits {i j : Int} {a b : Nat} (ha : i.natAbs < 2 ^ a) (hb : j.natAbs < 2 ^ b) (h : a + b ≤ 134217728) : IntMulOk i j := mulx_ok ha hb h |>.ok
theorem mul_fitsL {i j : Int} (ha : i.natAbs < 2 ^ 64) : IntMulOk i j := .of_left (bits_le ha)
theorem mul_fitsR {i j : Int} (ha : j.natAbs < 2 ^ 64) : IntMulOk i j := .of_right (bits_le ha)
theorem log_lt {n a : Nat} (h : n < 2 ^ a) (h0 : 0 < a) : n.log2 < a := by
  by_cases hz : n = 0
  · subst hz
    simpa using h0
  · exact (Nat.log2_lt hz).mpr h

@[simp] theorem mulOk_m1 (j : Int) : IntMulOk (-1) j := mul_fitsL (by decide)
@[simp] theorem mulOk_1 (j : Int) : IntMulOk 1 j := mul_fitsL (by decide)
@[simp] theorem mulOk_2 (j : Int) : IntMulOk 2 j := mul_fitsL (by decide)
@[simp] theorem mulOk_3 (j : Int) : IntMulOk 3 j := mul_fitsL (by decide)
@[simp] theorem mulOk_r2 (j : Int) : IntMulOk j 2 := mul_fitsR (by decide)
@[simp] theorem mulOk_r1000 (j : Int) : IntMulOk j 1000 := mul_fitsR (by decide)
@[simp] theorem mulOk_r1000003 (j : Int) : IntMulOk j 1000003 := mul_fitsR (by decide)
theorem log_small {n : Nat} (h : n < 2 ^ 64) : n.log2 < 9000 := Nat.lt_of_lt_of_le (log_lt h (by decide)) (by decide)
/-! ### unfolding -/
def rngOk (j : Int) : Prop := -(2 ^ 62) ≤ j ∧ j < 2 ^ 62
instance (j : Int) : Decidable (rngOk j) := inferInstanceAs (Decidable (-(2 ^ 62) ≤ j ∧ j < 2 ^ 62))
theorem rngOk_of {j : Int} (h1 : -1000000000 ≤ j) (h2 : j ≤ 1000000000) : rngOk j := by
  unfold rngOk
  omega
theorem rngOk_nat {j : Nat} (h : j ≤ 1000000000) : rngOk (j : Int) := rngOk_of (by omega) (by omega)
@[simp] theorem rngOk_0 : rngOk 0 := rngOk_of (by omega) (by omega)
@[simp] theorem rngOk_1 : rngOk 1 := rngOk_of (by omega) (by omega)
def divOk (j : Int) : Prop := 0 < j ∧ j.natAbs.log2 < 9000
instance (j : Int) : Decidable (divOk j) := inferInstanceAs (Decidable (0 < j ∧ j.natAbs.log2 < 9000))
theorem divOk_of {j : Int} {a : Nat} (h : 0 < j) (h2 : j.natAbs < 2 ^ a) (h3 : a ≤ 8999) : divOk j := ⟨h, by
  by_cases h0 : 0 < a
  · exact Nat.lt_of_lt_of_le (log_lt h2 h0) (by omega)
  · have e : a = 0 := by omega
    subst e
    have : (2 : Nat) ^ 0 = 1 := rfl
    omega⟩
theorem divOk_small {j : Int} (h : 0 < j) (h2 : j < 10 ^ 18) : divOk j := divOk_of (a := 64) h (by
  have : (10 : Int) ^ 18 < ((2 ^ 64 : Nat) : Int) := by decide
  omega) (by decide)
@[simp] theorem divOk_1 : divOk 1 := divOk_small (by decide) (by decide)
@[simp] theorem divOk_2 : divOk 2 := divOk_small (by decide) (by decide)
@[simp] theorem divOk_3 : divOk 3 := divOk_small (by decide) (by decide)
@[simp] theorem divOk_4 : divOk 4 := divOk_small (by decide) (by decide)
@[simp] theorem divOk_5 : divOk 5 := divOk_small (by decide) (by decide)
@[simp] theorem divOk_6 : divOk 6 := divOk_small (by decide) (by decide)
@[simp] theorem divOk_7 : divOk 7 := divOk_small (by decide) (by decide)
@[simp] theorem divOk_8 : divOk 8 := divOk_small (by decide) (by decide)
@[simp] theorem divOk_9 : divOk 9 := divOk_small (by decide) (by decide)
@[simp] theorem divOk_10 : divOk 10 := divOk_small (by decide) (by decide)
@[simp] theorem divOk_11 : divOk 11 := divOk_small (by decide) (by decide)
@[simp] theorem divOk_12 : divOk 12 := divOk_small (by decide) (by decide)
@[simp] theorem divOk_24 : divOk 24 := divOk_small (by decide) (by decide)
@[simp] theorem divOk_41 : divOk 41 := divOk_small (by decide) (by decide)
@[simp] theorem divOk_48 : divOk 48 := divOk_small (by decide) (by decide)
@[simp] theorem divOk_60 : divOk 60 := divOk_small (by decide) (by decide)
@[simp] theorem divOk_64 : divOk 64 := divOk_small (by decide) (by decide)
@[simp] theorem divOk_100 : divOk 100 := divOk_small (by decide) (by decide)
@[simp] theorem divOk_1000 : divOk 1000 := divOk_small (by decide) (by decide)
def powOk (i j : Int) : Prop := 0 ≤ j ∧ (Builtin.Int.intBits i : Int) * j ≤ 2 ^ 27
instance (i j : Int) : Decidable (powOk i j) := inferInstanceAs (Decidable (0 ≤ j ∧ (Builtin.Int.intBits i : Int) * j ≤ 2 ^ 27))
theorem powOk_of {i j : Int} {a : Nat} (hi : i.natAbs < 2 ^ a) (h0 : 0 ≤ j) (h : (a : Int) * j ≤ 134217728) : powOk i j := ⟨h0, by
  have h1 := bits_le hi
  have h2 : (Builtin.Int.intBits i : Int) * j ≤ (a : Int) * j := Int.mul_le_mul_of_nonneg_right (by omega) h0
  omega⟩
@[simp] theorem powOk_10 {j : Int} (h0 : 0 ≤ j) (h : j ≤ 1000) : powOk 10 j := powOk_of (a := 4) (by decide) h0 (by omega)
@[simp] theorem powOk_2 {j : Int} (h0 : 0 ≤ j) (h : j ≤ 1000000) : powOk 2 j := powOk_of (a := 2) (by decide) h0 (by omega)
@[simp] theorem powOk_1e60 {j : Int} (h0 : 0 ≤ j) (h : j ≤ 1000) : powOk 1000000000000000000000000000000000000000000000000000000000000 j := powOk_of (a := 200) (by decide) h0 (by omega)

@[simp] theorem v_bind_ok {α β : Type} (a : α) (s : Sto) (k : α → Sto → R β) : (R.ok a s).bind k = k a s := id rfl
@[simp] theorem v_bind_exc {α β : Type} (e : Ex) (s : Sto) (k : α → Sto → R β) : (R.exc e s).bind k = .exc e s := id rfl
@[simp] theorem v_bind_stk {α β : Type} (k : α → Sto → R β) : (R.stk : R α).bind k = .stk := id rfl
@[simp] theorem v_ofO_some {α : Type} (a : α) (s : Sto) : R.ofO (some a) s = .ok a s := id rfl
@[simp] theorem v_ofO_none {α : Type} (s : Sto) : R.ofO (none : Option α) s = .stk := id rfl
@[simp] theorem v_sBind_ok {α : Type} (a : α) (s : Sto) (δ : Sl) (k : α → Sto → RS) : sBind (.ok a s) δ k = k a s := id rfl
@[simp] theorem v_sBind_exc {α : Type} (e : Ex) (s : Sto) (δ : Sl) (k : α → Sto → RS) : sBind (.exc e s : R α) δ k = .exc e δ s := id rfl
@[simp] theorem v_sBind_stk {α : Type} (δ : Sl) (k : α → Sto → RS) : sBind (.stk : R α) δ k = .stk := id rfl
@[simp] theorem v_eV (i : Nat) (δ : Sl) (s : Sto) : eV i δ s = (match δ[i]? with | some (some d) => .ok d s | _ => .stk) := id rfl
@[simp] theorem v_eC (d : D) (δ : Sl) (s : Sto) : eC d δ s = .ok d s := id rfl
@[simp] theorem v_eBin (g : B2) (a b : E) (δ : Sl) (s : Sto) : eBin g a b δ s = (a δ s).bind fun x s1 => (b δ s1).bind fun y s2 => R.ofO (g (rsv s2 x) (rsv s2 y)) s2 := id rfl
@[simp] theorem v_eUn (g : B1) (a : E) (δ : Sl) (s : Sto) : eUn g a δ s = (a δ s).bind fun x s1 => R.ofO (g (rsv s1 x)) s1 := id rfl
@[simp] theorem v_eFn (g : BA) (a : As) (δ : Sl) (s : Sto) : eFn g a δ s = (a δ s).bind fun x s1 => R.ofO (g (x.map (rsv s1))) s1 := id rfl
@[simp] theorem v_eCall (F : List D → Sto → R D) (a : As) (δ : Sl) (s : Sto) : eCall F a δ s = (a δ s).bind F := id rfl
@[simp] theorem v_tV (f : E) (δ : Sl) (s : Sto) : tV f δ s = (f δ s).bind fun d s1 => match d with | .bl b => .ok b s1 | _ => .stk := id rfl
@[simp] theorem v_tNt (f : T) (δ : Sl) (s : Sto) : tNt f δ s = (f δ s).bind fun b s1 => .ok (!b) s1 := id rfl
@[simp] theorem v_tAn (f g : T) (δ : Sl) (s : Sto) : tAn f g δ s = (f δ s).bind fun b s1 => if b = true then g δ s1 else .ok false s1 := id rfl
@[simp] theorem v_tOrr (f g : T) (δ : Sl) (s : Sto) : tOrr f g δ s = (f δ s).bind fun b s1 => if b = true then .ok true s1 else g δ s1 := id rfl
@[simp] theorem v_tTrue (δ : Sl) (s : Sto) : tTrue δ s = .ok true s := id rfl
@[simp] theorem v_eAn (a b : E) (δ : Sl) (s : Sto) : eAn a b δ s = (a δ s).bind fun x s1 => match x with | .bl true => b δ s1 | .bl false => .ok (.bl false) s1 | _ => .stk := id rfl
@[simp] theorem v_eOr (a b : E) (δ : Sl) (s : Sto) : eOr a b δ s = (a δ s).bind fun x s1 => match x with | .bl true => .ok (.bl true) s1 | .bl false => b δ s1 | _ => .stk := id rfl
@[simp] theorem v_eNt (a : E) (δ : Sl) (s : Sto) : eNt a δ s = (a δ s).bind fun x s1 => match x with | .bl k => .ok (.bl !k) s1 | _ => .stk := id rfl
@[simp] theorem v_eIf (t : T) (a b : E) (δ : Sl) (s : Sto) : eIf t a b δ s = (t δ s).bind fun k s1 => if k = true then a δ s1 else b δ s1 := id rfl
@[simp] theorem v_aNil (δ : Sl) (s : Sto) : aNil δ s = .ok [] s := id rfl
@[simp] theorem v_aCons (f : E) (r : As) (δ : Sl) (s : Sto) : aCons f r δ s = (f δ s).bind fun x s1 => (r δ s1).bind fun xs s2 => .ok (x :: xs) s2 := id rfl
@[simp] theorem v_eTup (r : As) (δ : Sl) (s : Sto) : eTup r δ s = (r δ s).bind fun xs s1 => if xs.length ≤ sizeLine then .ok (.tup xs) s1 else .stk := id rfl
@[simp] theorem v_eFz (f : Fr) (δ : Sl) (s : Sto) : eFz f δ s = (f δ s).bind fun xs s1 => .ok (.lst xs) s1 := id rfl
@[simp] theorem v_eNw (f : Fr) (δ : Sl) (s : Sto) : eNw f δ s = (f δ s).bind fun xs s1 => .ok (.ob s1.length) (s1 ++ [.lst xs]) := id rfl
@[simp] theorem v_fLst (r : As) (δ : Sl) (s : Sto) : fLst r δ s = (r δ s).bind fun xs s1 => if xs.length ≤ sizeLine then .ok xs s1 else .stk := id rfl
@[simp] theorem v_fList (f : E) (δ : Sl) (s : Sto) : fList f δ s = (f δ s).bind fun d s1 => match rsv s1 d with | .lst xs => .ok xs s1 | .tup xs => .ok xs s1 | .str x => if x.length ≤ sizeLine then .ok (signs x) s1 else .stk | _ => .stk := id rfl
@[simp] theorem v_sNx (δ : Sl) (s : Sto) : sNx δ s = .nx δ s := id rfl
@[simp] theorem v_sBk (δ : Sl) (s : Sto) : sBk δ s = .bk δ s := id rfl
@[simp] theorem v_sCt (δ : Sl) (s : Sto) : sCt δ s = .ct δ s := id rfl
@[simp] theorem v_sSeq (f g : S) (δ : Sl) (s : Sto) : sSeq f g δ s = (match f δ s with | .nx δ' s' => g δ' s' | r => r) := id rfl
@[simp] theorem v_sRet (f : E) (δ : Sl) (s : Sto) : sRet f δ s = sBind (f δ s) δ fun d s1 => .rt d s1 := id rfl
@[simp] theorem v_sRetN (δ : Sl) (s : Sto) : sRetN δ s = .rt .non s := id rfl
@[simp] theorem v_sIf (t : T) (a b : S) (δ : Sl) (s : Sto) : sIf t a b δ s = sBind (t δ s) δ fun k s1 => if k = true then a δ s1 else b δ s1 := id rfl
@[simp] theorem v_sSet (i : Nat) (f : E) (δ : Sl) (s : Sto) : sSet i f δ s = sBind (f δ s) δ fun d s1 => .nx (δ.set i (some d)) s1 := id rfl
@[simp] theorem v_sAsg (p : Pt) (f : E) (δ : Sl) (s : Sto) : sAsg p f δ s = sBind (f δ s) δ fun d s1 => sBindP p d δ s1 := id rfl
@[simp] theorem v_sFor (it : As) (p : Pt) (b : S) (δ : Sl) (s : Sto) : sFor it p b δ s = sBind (it δ s) δ fun items s1 => forD p b items δ s1 := id rfl
@[simp] theorem v_sAug (i : Nat) (g : B2) (f : E) (δ : Sl) (s : Sto) : sAug i g f δ s = (match δ[i]? with | some (some x) => sBind (f δ s) δ fun y s1 => (match g (rsv s1 x) (rsv s1 y) with | some z => .nx (δ.set i (some z)) s1 | none => .stk) | _ => .stk) := id rfl
@[simp] theorem v_sDrop (f : E) (δ : Sl) (s : Sto) : sDrop f δ s = sBind (f δ s) δ fun _ s1 => .nx δ s1 := id rfl
@[simp] theorem v_sRaise (cn : String) (δ : Sl) (s : Sto) : sRaise cn δ s = .exc ⟨cn, []⟩ δ s := id rfl
@[simp] theorem v_sFrz (i : Nat) (f : S) (δ : Sl) (s : Sto) : sFrz i f δ s = (match δ[i]? with | some (some d) => f (δ.set i (some (frzD s d).1)) (frzD s d).2 | _ => f δ s) := id rfl
@[simp] theorem v_eFrz (f : E) (δ : Sl) (s : Sto) : eFrz f δ s = (f δ s).bind fun d s1 => .ok (frzD s1 d).1 (frzD s1 d).2 := id rfl
@[simp] theorem v_sSetIx (o b e : E) (δ : Sl) (s : Sto) : sSetIx o b e δ s = sBind (e δ s) δ fun d s1 => sBind (o δ s1) δ fun x s2 => sBind (b δ s2) δ fun z s3 => match lsO s3 x, z with
  | some xs, .int k => (match ixN xs.length k with
    | some j => .nx δ (stO s3 x (xs.set j d))
    | none => .stk)
  | _, _ => .stk := id rfl
@[simp] theorem v_eApp (o a : E) (δ : Sl) (s : Sto) : eApp o a δ s = (o δ s).bind fun x s1 => if (lsO s1 x).isSome = true then ((a δ s1).bind fun y s2 => match lsO s2 x with
  | some xs => if xs.length < sizeLine then .ok .non (stO s2 x (xs ++ [y])) else .stk
  | none => .stk) else .stk := id rfl
@[simp] theorem v_ePopAt (o a : E) (δ : Sl) (s : Sto) : ePopAt o a δ s = (o δ s).bind fun x s1 => if (lsO s1 x).isSome = true then ((a δ s1).bind fun y s2 => match lsO s2 x, y with
  | some xs, .int k => if -(2 ^ 63) ≤ k ∧ k < 2 ^ 63 then (match seqIndex? k xs.length with
    | some j => (match xs[j]? with
      | some d => .ok d (stO s2 x (xs.eraseIdx j))
      | none => .stk)
    | none => .stk) else .stk
  | _, _ => .stk) else .stk := id rfl
@[simp] theorem v_nm (i : Nat) (d : D) (δ : Sl) : bindP (.nm i) d δ = some (δ.set i (some d)) := by simp [bindP]
@[simp] theorem v_tp (ps : List Pt) (ds : List D) (δ : Sl) : bindP (.tp ps) (.tup ds) δ = bindPs ps ds δ := by simp [bindP]
@[simp] theorem v_tpl (ps : List Pt) (ds : List D) (δ : Sl) : bindP (.tp ps) (.lst ds) δ = bindPs ps ds δ := by simp [bindP]
@[simp] theorem v_ps0 (δ : Sl) : bindPs [] [] δ = some δ := by simp [bindPs]
@[simp] theorem v_ps1 (p : Pt) (ps : List Pt) (d : D) (ds : List D) (δ : Sl) : bindPs (p :: ps) (d :: ds) δ = (match bindP p d δ with | some δ' => bindPs ps ds δ' | none => none) := by first | (simp only [bindPs]; done) | (simp only [bindPs] <;> rfl)
@[simp] theorem v_sBindP (p : Pt) (d : D) (δ : Sl) (s : Sto) : sBindP p d δ s = (match bindP p d δ with | some δ' => .nx δ' s | none => .stk) := id rfl
@[simp] theorem v_iRange1 (a : As) (δ : Sl) (s : Sto) : iRange1 a δ s = (a δ s).bind fun ds s1 => match ds with | [.int j] => if rngOk j then .ok (rngD 0 j.toNat) s1 else .stk | _ => .stk := id rfl
@[simp] theorem v_iRange2 (a : As) (δ : Sl) (s : Sto) : iRange2 a δ s = (a δ s).bind fun ds s1 => match ds with | [.int i, .int j] => if rngOk i ∧ rngOk j then .ok (rngD i (j - i).toNat) s1 else .stk | _ => .stk := by
  unfold iRange2 rngOk
  congr 1
  funext ds s1
  split <;> simp only [and_assoc]
@[simp] theorem v_iRevR2 (a b : E) (δ : Sl) (s : Sto) : iRevR2 a b δ s = (a δ s).bind fun x s1 => (b δ s1).bind fun y s2 => match x, y with | .int i, .int j => if rngOk i ∧ rngOk j then .ok (rngD i (j - i).toNat).reverse s2 else .stk | _, _ => .stk := by
  unfold iRevR2 rngOk
  congr 1
  funext x s1
  congr 1
  funext y s2
  split <;> simp only [and_assoc]
@[simp] theorem v_iSeq (f : E) (δ : Sl) (s : Sto) : iSeq f δ s = (f δ s).bind fun d s1 => R.ofO (seqOf d) s1 := id rfl
@[simp] theorem v_seqL (xs : List D) : seqOf (.lst xs) = some xs := id rfl
@[simp] theorem v_seqT (xs : List D) : seqOf (.tup xs) = some xs := id rfl
@[simp] theorem v_seqS (x : Str) : seqOf (.str x) = some (signs x) := id rfl
@[simp] theorem v_iEnumD (a : As) (δ : Sl) (s : Sto) : iEnumD a δ s = (a δ s).bind fun ds s1 => match ds with | [.lst xs] => .ok (enumD xs) s1 | _ => .stk := id rfl
@[simp] theorem v_iRevD (a : As) (δ : Sl) (s : Sto) : iRevD a δ s = (a δ s).bind fun ds s1 => match ds with | [.lst xs] => .ok xs.reverse s1 | _ => .stk := id rfl
@[simp] theorem v_iZipD (a : As) (δ : Sl) (s : Sto) : iZipD a δ s = (a δ s).bind fun ds s1 => match ds with | [.lst xs, .lst ys] => .ok (zipD xs ys) s1 | [.tup xs, .tup ys] => .ok (zipD xs ys) s1 | _ => .stk := id rfl
@[simp] theorem v_eSl (a : E) (lo hi : Os) (δ : Sl) (s : Sto) : eSl a lo hi δ s = (a δ s).bind fun x s1 => (lo δ s1).bind fun l s2 => (hi δ s2).bind fun h s3 => R.ofO (gSl (rsv s3 x) l h) s3 := id rfl
@[simp] theorem v_oNone (δ : Sl) (s : Sto) : oNone δ s = .ok none s := id rfl
@[simp] theorem v_oSome (f : E) (δ : Sl) (s : Sto) : oSome f δ s = (f δ s).bind fun d s1 => match d with | .int i => .ok (some i) s1 | _ => .stk := id rfl
@[simp] theorem v_fLc (it : As) (vs : List Nat) (p : Pt) (c : T) (e : E) (δ : Sl) (s : Sto) : fLc it vs p c e δ s = (it δ s).bind fun items s1 => (lcD p c e (wipeD δ vs) items s1).bind fun xs s2 => if xs.length ≤ sizeLine then .ok xs s2 else .stk := id rfl
@[simp] theorem v_eChain (g g' : B2) (a b c : E) (δ : Sl) (s : Sto) : eChain g g' a b c δ s = (a δ s).bind fun x s1 => (b δ s1).bind fun y s2 => (R.ofO (g (rsv s2 x) (rsv s2 y)) s2).bind fun z s3 => match z with | .bl true => (c δ s3).bind fun w s4 => R.ofO (g' (rsv s4 y) (rsv s4 w)) s4 | .bl false => .ok (.bl false) s3 | _ => .stk := id rfl
@[simp] theorem v_eM1 (g : D → List D → Option D) (o a : E) (δ : Sl) (s : Sto) : eM1 g o a δ s = (o δ s).bind fun x s1 => if isStr x then (a δ s1).bind fun y s2 => R.ofO (g x [rsv s2 y]) s2 else .stk := id rfl
@[simp] theorem v_isStr (x : Str) : isStr (.str x) = true := id rfl
@[simp] theorem v_eBits (f : E) (δ : Sl) (s : Sto) : eBits f δ s = (f δ s).bind fun d s1 => match d with
  | .int i => .ok (.int (Builtin.Int.intBits i : Nat)) s1
  | _ => .stk := id rfl
@[simp] theorem r_non (s : Sto) : rsv s .non = .non := id rfl
@[simp] theorem r_bl (s : Sto) (b : Bool) : rsv s (.bl b) = .bl b := id rfl
@[simp] theorem r_int (s : Sto) (b : Int) : rsv s (.int b) = .int b := id rfl
@[simp] theorem r_str (s : Sto) (b : Str) : rsv s (.str b) = .str b := id rfl
@[simp] theorem r_tup (s : Sto) (b : List D) : rsv s (.tup b) = .tup b := id rfl
@[simp] theorem r_lst (s : Sto) (b : List D) : rsv s (.lst b) = .lst b := id rfl
theorem r_ob {s : Sto} {i : Nat} {xs : List D} (h : s[i]? = some (.lst xs)) : rsv s (.ob i) = .lst xs := by unfold rsv; simp only [h]
theorem lsO_ob {s : Sto} {i : Nat} {xs : List D} (h : s[i]? = some (.lst xs)) : lsO s (.ob i) = some xs := by unfold lsO; simp only [h]
theorem frz_ob {s : Sto} {i : Nat} {xs : List D} (h : s[i]? = some (.lst xs)) : frzD s (.ob i) = (.lst xs, s.set i .gone) := by unfold frzD; simp only [h]
@[simp] theorem stO_ob (s : Sto) (i : Nat) (xs : List D) : stO s (.ob i) xs = s.set i (.lst xs) := id rfl
@[simp] theorem frz_lst (s : Sto) (xs : List D) : frzD s (.lst xs) = (.lst xs, s) := id rfl
@[simp] theorem frz_tup (s : Sto) (xs : List D) : frzD s (.tup xs) = (.tup xs, s) := id rfl
@[simp] theorem frz_int (s : Sto) (x : Int) : frzD s (.int x) = (.int x, s) := id rfl
@[simp] theorem frz_str (s : Sto) (x : Str) : frzD s (.str x) = (.str x, s) := id rfl
@[simp] theorem frz_bl (s : Sto) (x : Bool) : frzD s (.bl x) = (.bl x, s) := id rfl
@[simp] theorem frz_non (s : Sto) : frzD s .non = (.non, s) := id rfl
theorem get_set {s : Sto} {i : Nat} {o u : O} (h : s[i]? = some o) : (s.set i u)[i]? = some u := List.getElem?_set_self (List.getElem?_eq_some_iff.mp h).1
theorem set_same {s : Sto} {i : Nat} {o : O} (h : s[i]? = some o) : s.set i o = s := by
  apply List.ext_getElem?
  intro j
  by_cases z : i = j
  · subst z; rw [get_set h, h]
  · rw [List.getElem?_set_ne z]
@[simp] theorem get_last (s : Sto) (o : O) : (s ++ [o])[s.length]? = some o := by simp
@[simp] theorem v_add (i j : Int) : gAdd (.int i) (.int j) = some (.int (i + j)) := id rfl
@[simp] theorem v_addI (i j : Int) : gAddI (.int i) (.int j) = some (.int (i + j)) := id rfl
@[simp] theorem v_sub (i j : Int) : gSub (.int i) (.int j) = some (.int (i - j)) := id rfl
@[simp] theorem v_mul (i j : Int) : gMul (.int i) (.int j) = if IntMulOk i j then some (.int (i * j)) else none := id rfl
@[simp] theorem v_div (i j : Int) : gDiv (.int i) (.int j) = if divOk j then some (.int (i / j)) else none := id rfl
@[simp] theorem v_mod (i j : Int) : gMod (.int i) (.int j) = if 0 < j then some (.int (i % j)) else none := id rfl
@[simp] theorem v_pow (i j : Int) : gPow (.int i) (.int j) = if powOk i j then some (.int (i ^ j.toNat)) else none := id rfl
@[simp] theorem v_addL (xs ys : List D) : gAdd (.lst xs) (.lst ys) = if xs.length + ys.length ≤ sizeLine then some (.lst (xs ++ ys)) else none := id rfl
@[simp] theorem v_eqB (a b : Bool) : gEq (.bl a) (.bl b) = some (.bl (decide (a = b))) := id rfl
@[simp] theorem v_neB (a b : Bool) : gNe (.bl a) (.bl b) = some (.bl (!decide (a = b))) := id rfl
@[simp] theorem v_gListL (xs : List D) : gList [.lst xs] = some (.lst xs) := id rfl
@[simp] theorem v_gListT (xs : List D) : gList [.tup xs] = some (.lst xs) := id rfl
@[simp] theorem v_gListS (x : Str) : gList [.str x] = if x.length ≤ sizeLine then some (.lst (signs x)) else none := id rfl
@[simp] theorem v_gTupleL (xs : List D) : gTuple [.lst xs] = some (.tup xs) := id rfl
@[simp] theorem v_gTupleT (xs : List D) : gTuple [.tup xs] = some (.tup xs) := id rfl
@[simp] theorem v_gIntI (i : Int) : gInt [.int i] = some (.int i) := id rfl
@[simp] theorem v_gIntB (b : Bool) : gInt [.bl b] = some (.int (if b then 1 else 0)) := id rfl
@[simp] theorem v_gslL (xs : List D) (lo hi : Option Int) : gSl (.lst xs) lo hi = some (.lst (cutD xs lo hi)) := id rfl
@[simp] theorem isN_non : gIsN .non .non = some (.bl true) := id rfl
@[simp] theorem isN_str (x : Str) : gIsN (.str x) .non = some (.bl false) := id rfl
@[simp] theorem isN_tup (x : List D) : gIsN (.tup x) .non = some (.bl false) := id rfl
@[simp] theorem isN_lst (x : List D) : gIsN (.lst x) .non = some (.bl false) := id rfl
@[simp] theorem isN_int (x : Int) : gIsN (.int x) .non = some (.bl false) := id rfl
@[simp] theorem notN_non : gNotN .non .non = some (.bl false) := id rfl
@[simp] theorem notN_str (x : Str) : gNotN (.str x) .non = some (.bl true) := id rfl
@[simp] theorem notN_tup (x : List D) : gNotN (.tup x) .non = some (.bl true) := id rfl
/-- a part of any list -/
def cutL {α : Type} (xs : List α) (lo hi : Option Int) : List α := (xs.drop (HT.sIx xs.length 0 lo)).take (HT.sIx xs.length xs.length hi - HT.sIx xs.length 0 lo)
theorem cutD_map {α : Type} (f : α → D) (xs : List α) (lo hi : Option Int) : cutD (xs.map f) lo hi = (cutL xs lo hi).map f := by
  simp [cutD, cutL, List.map_take, List.map_drop]
@[simp] theorem cutD_ints (xs : List Int) (lo hi : Option Int) : cutD (xs.map D.int) lo hi = (cutL xs lo hi).map D.int := cutD_map _ _ _ _
theorem cutL_sub {α : Type} {xs : List α} {lo hi : Option Int} {x : α} (h : x ∈ cutL xs lo hi) : x ∈ xs := List.mem_of_mem_drop (List.mem_of_mem_take h)
theorem cutL_len {α : Type} (xs : List α) (lo hi : Option Int) : (cutL xs lo hi).length ≤ xs.length := by
  simp only [cutL, List.length_take, List.length_drop]
  omega
theorem cutL_nn {α : Type} (xs : List α) (a b : Nat) : cutL xs (some (a : Int)) (some (b : Int)) = (xs.drop a).take (b - a) := by
  simp only [cutL, HT.sIx_nat]
  by_cases h : a ≤ xs.length
  · rw [Nat.min_eq_left h]
    by_cases h2 : b ≤ xs.length
    · rw [Nat.min_eq_left h2]
    · rw [Nat.min_eq_right (by omega), List.take_of_length_le (by simp), List.take_of_length_le (by simp; omega)]
  · have e : min a xs.length = xs.length := by omega
    rw [e, List.drop_of_length_le (Nat.le_refl _), List.drop_of_length_le (by omega)]
    simp
@[simp] theorem v_lt (i j : Int) : gLt (.int i) (.int j) = some (.bl (decide (i < j))) := id rfl
@[simp] theorem v_le (i j : Int) : gLe (.int i) (.int j) = some (.bl (decide (i ≤ j))) := id rfl
@[simp] theorem v_gt (i j : Int) : gGt (.int i) (.int j) = some (.bl (decide (j < i))) := id rfl
@[simp] theorem v_ge (i j : Int) : gGe (.int i) (.int j) = some (.bl (decide (j ≤ i))) := id rfl
@[simp] theorem v_eqI (i j : Int) : gEq (.int i) (.int j) = some (.bl (decide (i = j))) := id rfl
@[simp] theorem v_neI (i j : Int) : gNe (.int i) (.int j) = some (.bl (!decide (i = j))) := id rfl
@[simp] theorem v_neg (i : Int) : gNeg (.int i) = some (.int (-i)) := id rfl
@[simp] theorem v_lenL (xs : List D) : gLen [.lst xs] = some (.int xs.length) := id rfl
@[simp] theorem v_lenT (xs : List D) : gLen [.tup xs] = some (.int xs.length) := id rfl
@[simp] theorem v_lenS (x : Str) : gLen [.str x] = if x.length ≤ sizeLine then some (.int x.length) else none := id rfl
@[simp] theorem v_min2 (i j : Int) : gMin2 [.int i, .int j] = some (.int (if j < i then j else i)) := id rfl
@[simp] theorem v_max2 (i j : Int) : gMax2 [.int i, .int j] = some (.int (if j > i then j else i)) := id rfl
@[simp] theorem v_ixL (xs : List D) (i : Int) : gIx (.lst xs) (.int i) = atI xs i := id rfl
@[simp] theorem v_ixT (xs : List D) (i : Int) : gIx (.tup xs) (.int i) = atI xs i := id rfl
@[simp] theorem v_revL (xs : List D) : gRev (.lst xs) = some (.lst xs.reverse) := id rfl
@[simp] theorem v_isi (n : String) (d : D) : gIsi n d = (tyN d).map fun t => .bl (isTy t n) := id rfl
@[simp] theorem v_isi2 (n m : String) (d : D) : gIsi2 n m d = (tyN d).map fun t => .bl (isTy t n || isTy t m) := id rfl
@[simp] theorem v_tyI (i : Int) : tyN (.int i) = some "int" := id rfl
@[simp] theorem v_tyB (i : Bool) : tyN (.bl i) = some "bool" := id rfl
@[simp] theorem v_tyS (i : Str) : tyN (.str i) = some "str" := id rfl
@[simp] theorem v_tyT (i : List D) : tyN (.tup i) = some "tuple" := id rfl
@[simp] theorem v_tyL (i : List D) : tyN (.lst i) = some "list" := id rfl
@[simp] theorem v_tyN : tyN .non = some "NoneType" := id rfl
@[simp] theorem v_isTy_NoneTypeNoneType : isTy "NoneType" "NoneType" = true := by decide
@[simp] theorem v_isTy_NoneTypebool : isTy "NoneType" "bool" = false := by decide
@[simp] theorem v_isTy_NoneTypeint : isTy "NoneType" "int" = false := by decide
@[simp] theorem v_isTy_NoneTypestr : isTy "NoneType" "str" = false := by decide
@[simp] theorem v_isTy_NoneTypetuple : isTy "NoneType" "tuple" = false := by decide
@[simp] theorem v_isTy_NoneTypelist : isTy "NoneType" "list" = false := by decide
@[simp] theorem v_isTy_boolNoneType : isTy "bool" "NoneType" = false := by decide
@[simp] theorem v_isTy_boolbool : isTy "bool" "bool" = true := by decide
@[simp] theorem v_isTy_boolint : isTy "bool" "int" = true := by decide
@[simp] theorem v_isTy_boolstr : isTy "bool" "str" = false := by decide
@[simp] theorem v_isTy_booltuple : isTy "bool" "tuple" = false := by decide
@[simp] theorem v_isTy_boollist : isTy "bool" "list" = false := by decide
@[simp] theorem v_isTy_intNoneType : isTy "int" "NoneType" = false := by decide
@[simp] theorem v_isTy_intbool : isTy "int" "bool" = false := by decide
@[simp] theorem v_isTy_intint : isTy "int" "int" = true := by decide
@[simp] theorem v_isTy_intstr : isTy "int" "str" = false := by decide
@[simp] theorem v_isTy_inttuple : isTy "int" "tuple" = false := by decide
@[simp] theorem v_isTy_intlist : isTy "int" "list" = false := by decide
@[simp] theorem v_isTy_strNoneType : isTy "str" "NoneType" = false := by decide
@[simp] theorem v_isTy_strbool : isTy "str" "bool" = false := by decide
@[simp] theorem v_isTy_strint : isTy "str" "int" = false := by decide
@[simp] theorem v_isTy_strstr : isTy "str" "str" = true := by decide
@[simp] theorem v_isTy_strtuple : isTy "str" "tuple" = false := by decide
@[simp] theorem v_isTy_strlist : isTy "str" "list" = false := by decide
@[simp] theorem v_isTy_tupleNoneType : isTy "tuple" "NoneType" = false := by decide
@[simp] theorem v_isTy_tuplebool : isTy "tuple" "bool" = false := by decide
@[simp] theorem v_isTy_tupleint : isTy "tuple" "int" = false := by decide
@[simp] theorem v_isTy_tuplestr : isTy "tuple" "str" = false := by decide
@[simp] theorem v_isTy_tupletuple : isTy "tuple" "tuple" = true := by decide
@[simp] theorem v_isTy_tuplelist : isTy "tuple" "list" = false := by decide
@[simp] theorem v_isTy_listNoneType : isTy "list" "NoneType" = false := by decide
@[simp] theorem v_isTy_listbool : isTy "list" "bool" = false := by decide
@[simp] theorem v_isTy_listint : isTy "list" "int" = false := by decide
@[simp] theorem v_isTy_liststr : isTy "list" "str" = false := by decide
@[simp] theorem v_isTy_listtuple : isTy "list" "tuple" = false := by decide
@[simp] theorem v_isTy_listlist : isTy "list" "list" = true := by decide
theorem small_line {n : Nat} (h : n ≤ 100000) : n ≤ sizeLine := Nat.le_trans h (by decide)
@[simp] theorem v_line0 : (0 : Nat) ≤ sizeLine := Nat.zero_le _
@[simp] theorem v_line1 : (1 : Nat) ≤ sizeLine := by decide
@[simp] theorem v_line2 : (2 : Nat) ≤ sizeLine := by decide
@[simp] theorem v_line3 : (3 : Nat) ≤ sizeLine := by decide
@[simp] theorem v_line4 : (4 : Nat) ≤ sizeLine := by decide
@[simp] theorem v_line5 : (5 : Nat) ≤ sizeLine := by decide
@[simp] theorem v_line6 : (6 : Nat) ≤ sizeLine := by decide
@[simp] theorem v_line7 : (7 : Nat) ≤ sizeLine := by decide
@[simp] theorem v_line8 : (8 : Nat) ≤ sizeLine := by decide
@[simp] theorem v_isB (a b : Bool) : gIsB (.bl a) (.bl b) = some (.bl (decide (a = b))) := id rfl
@[simp] theorem v_notB (a b : Bool) : gNotB (.bl a) (.bl b) = some (.bl (!decide (a = b))) := id rfl
@[simp] theorem v_eqS (a b : Str) : gEq (.str a) (.str b) = some (.bl (decide (a = b))) := id rfl
@[simp] theorem v_neS (a b : Str) : gNe (.str a) (.str b) = some (.bl (!decide (a = b))) := id rfl
@[simp] theorem v_addS (x y : Str) : gAdd (.str x) (.str y) = if x.length + y.length ≤ sizeLine then some (.str (x ++ y)) else none := id rfl
@[simp] theorem v_addT (xs ys : List D) : gAdd (.tup xs) (.tup ys) = if xs.length + ys.length ≤ sizeLine then some (.tup (xs ++ ys)) else none := id rfl
@[simp] theorem v_ixS (z : Str) (i : Int) : gIx (.str z) (.int i) = if z.length ≤ sizeLine then (atI z.cps.toList i).map fun c => .str ⟨#[c]⟩ else none := id rfl

end Gs

/-! G10: equality, items, lists of numbers. -/
namespace Gs
open PySem L2
abbrev iL (xs : List Int) : D := .lst (xs.map D.int)
theorem toPyL_ints : ∀ xs : List Int, toPyL (xs.map D.int) = some (xs.map PyData.int)
  | [] => by simp [toPyL]
  | x :: xs => by simp [toPyL, toPy, toPyL_ints xs]
theorem eqvAll_ints : ∀ xs ys : List Int, PyData.eqvAll (xs.map PyData.int) (ys.map PyData.int) = decide (xs = ys)
  | [], [] => by simp [PyData.eqvAll]
  | [], y :: ys => by simp [PyData.eqvAll]
  | x :: xs, [] => by simp [PyData.eqvAll]
  | x :: xs, y :: ys => by
    rw [List.map_cons, List.map_cons, PyData.eqvAll, eqvAll_ints xs ys, PyData.eqv]
    by_cases h : x = y <;> by_cases h2 : xs = ys <;> simp [h, h2]
theorem canLay_ints : ∀ xs : List Int, PyData.canLayAll0 (xs.map PyData.int) = true
  | [] => by simp [PyData.canLayAll0]
  | x :: xs => by simp [PyData.canLayAll0, PyData.canLay0, canLay_ints xs]
theorem depth_ints : ∀ xs : List Int, PyData.depthAll (xs.map PyData.int) = 0
  | [] => by simp [PyData.depthAll]
  | x :: xs => by simp [PyData.depthAll, PyData.depth, depth_ints xs]
theorem shaped_ints (xs : List Int) : SeqAt.shaped (.list (xs.map PyData.int)) = true := by
  simp [SeqAt.shaped, PyData.canLay0, PyData.depth, canLay_ints, depth_ints]
theorem eqO_L (xs ys : List Int) : eqO (.lst (xs.map D.int)) (.lst (ys.map D.int)) = some (decide (xs = ys)) := by
  have h : eqO (.lst (xs.map D.int)) (.lst (ys.map D.int)) = eqPy (.lst (xs.map D.int)) (.lst (ys.map D.int)) := by simp [eqO]
  rw [h]
  simp [eqPy, toPy, toPyL_ints, shaped_ints, PyData.eqv, eqvAll_ints]
@[simp] theorem v_eqL (xs ys : List Int) : gEq (.lst (xs.map D.int)) (.lst (ys.map D.int)) = some (.bl (decide (xs = ys))) := by simp [gEq, eqO_L]
@[simp] theorem v_neL (xs ys : List Int) : gNe (.lst (xs.map D.int)) (.lst (ys.map D.int)) = some (.bl (!decide (xs = ys))) := by simp [gNe, eqO_L]
@[simp] theorem v_eqL0 (xs : List Int) : gEq (.lst (xs.map D.int)) (.lst []) = some (.bl (decide (xs = []))) := v_eqL xs []
@[simp] theorem v_neL0 (xs : List Int) : gNe (.lst (xs.map D.int)) (.lst []) = some (.bl (!decide (xs = []))) := v_neL xs []
@[simp] theorem v_at0 (a : D) (l : List D) : atI (a :: l) 0 = some a := atI_ofNat (a :: l) (j := 0) (by simp)
@[simp] theorem v_at1 (a b : D) (l : List D) : atI (a :: b :: l) 1 = some b := atI_ofNat (a :: b :: l) (j := 1) (by simp)
@[simp] theorem v_at2 (a b c : D) (l : List D) : atI (a :: b :: c :: l) 2 = some c := atI_ofNat (a :: b :: c :: l) (j := 2) (by simp)
@[simp] theorem v_at3 (a b c d : D) (l : List D) : atI (a :: b :: c :: d :: l) 3 = some d := atI_ofNat (a :: b :: c :: d :: l) (j := 3) (by simp)
theorem eqO_T2 (a b c d : Int) : eqO (.tup [.int a, .int b]) (.tup [.int c, .int d]) = some (decide (a = c ∧ b = d)) := by
  have h : eqO (.tup [.int a, .int b]) (.tup [.int c, .int d]) = eqPy (.tup [.int a, .int b]) (.tup [.int c, .int d]) := by simp [eqO]
  rw [h]
  by_cases h1 : a = c <;> by_cases h2 : b = d <;> simp [eqPy, toPy, toPyL, SeqAt.shaped, PyData.canLay0, PyData.canLayAll0, PyData.depth, PyData.depthAll, PyData.eqv, PyData.eqvAll, h1, h2]
@[simp] theorem v_eqT2 (a b c d : Int) : gEq (.tup [.int a, .int b]) (.tup [.int c, .int d]) = some (.bl (decide (a = c ∧ b = d))) := by simp [gEq, eqO_T2]
@[simp] theorem v_neT2 (a b c d : Int) : gNe (.tup [.int a, .int b]) (.tup [.int c, .int d]) = some (.bl (!decide (a = c ∧ b = d))) := by simp [gNe, eqO_T2]
theorem cutL_lo {α : Type} (xs : List α) (a : Nat) : cutL xs (some (a : Int)) none = xs.drop a := by
  simp only [cutL, HT.sIx_nat, HT.sIx_none]
  by_cases h : a ≤ xs.length
  · rw [Nat.min_eq_left h, List.take_of_length_le (by simp)]
  · have e : min a xs.length = xs.length := by omega
    rw [e, List.drop_of_length_le (Nat.le_refl _), List.drop_of_length_le (by omega)]
    simp
theorem cutL_hi {α : Type} (xs : List α) (b : Nat) : cutL xs none (some (b : Int)) = xs.take b := by
  simp only [cutL, HT.sIx_nat, HT.sIx_none, List.drop_zero, Nat.sub_zero]
  by_cases h : b ≤ xs.length
  · rw [Nat.min_eq_left h]
  · rw [Nat.min_eq_right (by omega), List.take_of_length_le (by simp), List.take_of_length_le (by omega)]
/-! == of data -/
def eqk (k : Nat) (d : D) : Prop := ∃ p, toPy d = some p ∧ p.canLay0 = true ∧ p.depth ≤ k
theorem eqk_int (k : Nat) (i : Int) : eqk k (.int i) := ⟨.int i, by simp [toPy], by simp [PyData.canLay0], by simp [PyData.depth]⟩
theorem eqk_str (k : Nat) {z : Str} (h : PyData.canLay0 (.str z) = true) : eqk k (.str z) := ⟨.str z, by simp [toPy], h, by simp [PyData.depth]⟩
theorem eqk_up {k l : Nat} {d : D} (h : eqk k d) (hl : k ≤ l) : eqk l d := by
  obtain ⟨p, h1, h2, h3⟩ := h
  exact ⟨p, h1, h2, Nat.le_trans h3 hl⟩
theorem eqk_tup {k : Nat} {v u : D} (h : eqk k v) (h2 : eqk k u) : eqk (k + 1) (.tup [v, u]) := by
  obtain ⟨p, a1, a2, a3⟩ := h
  obtain ⟨q, b1, b2, b3⟩ := h2
  exact ⟨.tuple [p, q], by simp [toPy, toPyL, a1, b1], by simp [PyData.canLay0, PyData.canLayAll0, a2, b2], by simp [PyData.depth, PyData.depthAll]; omega⟩
theorem eqk_all {k : Nat} : ∀ {xs : List D}, (∀ x ∈ xs, eqk k x) → ∃ ps, toPyL xs = some ps ∧ PyData.canLayAll0 ps = true ∧ PyData.depthAll ps ≤ k
  | [], _ => ⟨[], by simp [toPyL], by simp [PyData.canLayAll0], by simp [PyData.depthAll]⟩
  | x :: xs, h => by
    obtain ⟨p, a1, a2, a3⟩ := h x (by simp)
    obtain ⟨ps, b1, b2, b3⟩ := eqk_all (xs := xs) fun y hy => h y (by simp [hy])
    exact ⟨p :: ps, by simp [toPyL, a1, b1], by simp [PyData.canLayAll0, a2, b2], by simp [PyData.depthAll]; omega⟩
theorem eqk_lst {k : Nat} {xs : List D} (h : ∀ x ∈ xs, eqk k x) : eqk (k + 1) (.lst xs) := by
  obtain ⟨ps, b1, b2, b3⟩ := eqk_all h
  exact ⟨.list ps, by simp [toPy, b1], by simpa [PyData.canLay0] using b2, by simp [PyData.depth]; omega⟩
theorem eqO_self {xs : List D} {k : Nat} (h : eqk k (.lst xs)) (hk : k ≤ 60) : eqO (.lst xs) (.lst xs) = some true := by
  obtain ⟨p, h1, h2, h3⟩ := h
  have e : eqO (.lst xs) (.lst xs) = eqPy (.lst xs) (.lst xs) := by simp [eqO]
  rw [e]
  unfold eqPy
  rw [h1]
  have hs : SeqAt.shaped p = true := by
    simp [SeqAt.shaped, h2]
    omega
  simp [hs, SeqAt.eqv_refl p h2]
theorem eqk_bl (k : Nat) (b : Bool) : eqk k (.bl b) := ⟨.bool b, by simp [toPy], rfl, by simp [PyData.depth]⟩
theorem eqk_tupL {k : Nat} {xs : List D} (h : ∀ x ∈ xs, eqk k x) : eqk (k + 1) (.tup xs) := by
  obtain ⟨ps, b1, b2, b3⟩ := eqk_all h
  exact ⟨.tuple ps, by simp [toPy, b1], by simpa [PyData.canLay0] using b2, by simp [PyData.depth]; omega⟩
theorem eqO_nil {k : Nat} {xs : List D} (h : eqk k (.lst xs)) (hk : k ≤ 60) : eqO (.lst xs) (.lst []) = some (decide (xs = [])) := by
  obtain ⟨p, h1, h2, h3⟩ := h
  have e : eqO (.lst xs) (.lst []) = eqPy (.lst xs) (.lst []) := by simp [eqO]
  rw [e]
  unfold eqPy
  rw [h1]
  have hs : SeqAt.shaped p = true := by
    simp [SeqAt.shaped, h2]
    omega
  have hn : toPy (.lst []) = some (.list []) := by simp [toPy, toPyL]
  have hs2 : SeqAt.shaped (.list []) = true := by simp [SeqAt.shaped, PyData.canLay0, PyData.canLayAll0, PyData.depth, PyData.depthAll]
  rw [hn]
  simp only [hs, hs2, Bool.and_self, if_true]
  simp only [toPy] at h1
  cases xs with
  | nil =>
    simp [toPyL] at h1
    subst h1
    simp [PyData.eqv, PyData.eqvAll]
  | cons x xs =>
    simp only [toPyL] at h1
    cases hx : toPy x with
    | none => rw [hx] at h1; simp at h1
    | some q =>
      cases hy : toPyL xs with
      | none => rw [hx, hy] at h1; simp at h1
      | some qs =>
        rw [hx, hy] at h1
        simp at h1
        subst h1
        simp [PyData.eqv, PyData.eqvAll]
theorem eq_nil {k : Nat} {xs : List D} (h : eqk k (.lst xs)) (hk : k ≤ 60) : gEq (.lst xs) (.lst []) = some (.bl (decide (xs = []))) := by simp [gEq, eqO_nil h hk]

@[simp] theorem eq_non_str (x : Str) : gEq .non (.str x) = some (.bl false) := by simp [gEq, eqO]
@[simp] theorem eq_str_non (x : Str) : gEq (.str x) .non = some (.bl false) := by simp [gEq, eqO]
@[simp] theorem eq_non_non : gEq .non .non = some (.bl true) := by simp [gEq, eqO]
@[simp] theorem v_eq00 : gEq (.lst []) (.lst []) = some (.bl true) := (v_eqL [] []).trans (by simp)
@[simp] theorem v_ne00 : gNe (.lst []) (.lst []) = some (.bl false) := (v_neL [] []).trans (by simp)
/-! what stands in the midst of a store -/
@[simp] theorem get_mid (s0 g : Sto) (o : O) : (s0 ++ o :: g)[s0.length]? = some o := by simp
@[simp] theorem set_mid (s0 g : Sto) (o u : O) : (s0 ++ o :: g).set s0.length u = s0 ++ u :: g := by simp
@[simp] theorem lsO_mid (s0 g : Sto) (xs : List D) : lsO (s0 ++ .lst xs :: g) (.ob s0.length) = some xs := lsO_ob (get_mid _ _ _)
@[simp] theorem rsv_mid (s0 g : Sto) (xs : List D) : rsv (s0 ++ .lst xs :: g) (.ob s0.length) = .lst xs := r_ob (get_mid _ _ _)
@[simp] theorem frz_mid (s0 g : Sto) (xs : List D) : frzD (s0 ++ .lst xs :: g) (.ob s0.length) = (.lst xs, s0 ++ .gone :: g) := by rw [frz_ob (get_mid _ _ _), set_mid]
theorem forL {p : Pt} {body : S} {xs : List Int} {δ : Sl} {s : Sto} (Inv : Nat → Sl → Sto → Prop) (h0 : Inv 0 δ s)
    (hs : ∀ i (h : i < xs.length) δ s, Inv i δ s → ∃ δ1, bindP p (.int xs[i]) δ = some δ1 ∧ ∃ δ2 s2, body δ1 s = .nx δ2 s2 ∧ Inv (i + 1) δ2 s2) : ∃ δ' s', forD p body (xs.map D.int) δ s = .nx δ' s' ∧ Inv xs.length δ' s' := by
  have z := forD_inv (p := p) (body := body) Inv (xs.map D.int) 0 δ s h0 fun i d δ s hd hi => by
    obtain ⟨h1, h2⟩ := List.getElem?_eq_some_iff.mp hd
    rw [List.length_map] at h1
    rw [List.getElem_map] at h2
    subst h2
    rw [Nat.zero_add] at hi ⊢
    exact hs i h1 δ s hi
  rw [Nat.zero_add, List.length_map] at z
  exact z
end Gs

/-! GX: an exception that was caught is kept, as data. -/
namespace L2
open PySem PySem.Spec PyProof.Rows
/-- a thing that stands in the heap, laid within this frame, is tracked from here on -/
theorem Inv.track {X : Cx} {pins : List (Addr × Obj)} {σ : St} {H : Hp} {s : Shared} {a : Addr} {oe : Obj} {vs : Array Value} {o : HO} (J : Inv X pins σ H s) (hg : s.heap.get? a = some oe) (hd : oe.data = .fields vs) (na : H a = none) (n0 : X.s_0.heap.get? a = none) (nL : a ≠ X.env.locals)
    (np : ∀ p ∈ X.pn ++ pins, p.1 ≠ a) (nw : ObjOk X.prog X.w (upd H a o) s.heap a o) : Inv X pins σ (upd H a o) s where
  ok := J.ok
  os := J.os
  bare := J.bare
  base := by
    have ne : ∀ {b : Addr} {u : Obj}, X.s_0.heap.get? b = some u → b ≠ a := fun q z => by rw [z, n0] at q; cases q
    exact ⟨J.base.keep, J.base.slot, fun b u q m x => by rw [upd_ne (ne q)]; exact J.base.free b u q m x, J.base.there,
      fun b xs q => by
        have z := J.base.tups b xs q
        rw [upd_ne (ne_of_none z na)]
        exact z,
      fun b u w q => by
        have z := J.base.frzs b u w q
        rw [upd_ne (ne_of_none z na)]
        exact z,
      fun b ps q => by
        obtain ⟨more, z⟩ := J.base.tbls b ps q
        exact ⟨more, by rw [upd_ne (ne_of_none z na)]; exact z⟩⟩
  loc := J.loc
  cell := J.cell
  free := by rw [upd_ne nL.symm]; exact J.free
  freeC := fun x c e => by
    have ne : c ≠ a := fun z => by
      obtain ⟨v, oc, hoc, hdc⟩ := J.cell x c e
      rw [z, hg] at hoc
      cases hoc
      rw [hd] at hdc
      cases hdc
    rw [upd_ne ne]
    exact J.freeC x c e
  pin := fun p hp => by
    obtain ⟨e1, e2, e3, e4, e5⟩ := J.pin p hp
    exact ⟨e1, by rw [upd_ne (np p hp)]; exact e2, e3, e4, e5⟩
  hok := HOk.laidN J.hok (fun _ _ q => q) na nw
  len := J.len
/-- an exception object of the class cls with the own dict d at a -/
def EvK (cls : Value) (d : Option Addr) (a : Addr) : HO := .ext fun h => ∃ (oe : Obj) (vs : Array Value), h.get? a = some oe ∧ Zc cls d oe ∧ oe.data = .fields vs
theorem evK_ok {P : Program} {w : World} {H : Hp} {h : Heap} {a : Addr} {cls : Value} {d : Option Addr} {oe : Obj} {vs : Array Value} (e : h.get? a = some oe) (z : Zc cls d oe) (q : oe.data = .fields vs) : ObjOk P w H h a (EvK cls d a) :=
  ⟨⟨oe, vs, e, z, q⟩, ⟨oe, e⟩, fun _ _ ⟨o, v, q1, r⟩ k => ⟨o, v, k o q1, r⟩⟩
/-- the ends of a suite, the exception at a tracked behind it -/
def kEnds (i : Nat) (D : Ends) (T : Hp → Hp) : Ends :=
  { nx := fun σ H => D.nx (σ.set i none) (T H), rt := fun v H => D.rt v (T H), bk := fun σ H => D.bk (σ.set i none) (T H), ct := fun σ H => D.ct (σ.set i none) (T H) }
def wKp (K : PySem.W.Frag) (c : Value) (i : Nat) (ts : Addr → Value → Option Addr → TS) (Wo : WX) (D : Ends) : WX := fun cls d σ H => ∃ b, PySem.W.exmOne K cls c = some b ∧
  (b = true → ∀ a, H a = none → ts a cls d (kEnds i D fun H' => upd H' a (EvK cls d a)) (σ.set i (some (.ref a))) H) ∧ (b = false → Wo cls d σ H)
section
variable {X : Cx} {x n : Str} {c : Value} {i : Nat} {body suite : List Stmt} {st₀ : Stmt} {np pos pos' : Pos} {tb : WX → TS} {ts : Addr → Value → Option Addr → TS} {Wo : WX}
theorem ps_try_keep (hs : X.stack = X.env :: X.outer) (hf : X.env.frame = some X.env.locals) (hN : X.N.Nodup) (hi : X.N[i]? = some n) (hln : X.env.kindOf n = some .local) (hx0 : X.ex = []) (hc : Names X x c) (tk : Takes X Wo)
    (hb : ∀ (W : WX) (pn : List (Addr × Obj)) (xe : Value → Shared → Prop), Takes (X.tr pn xe) W → PassesOwn (model X.prog X.w) X.A X.env xe → PSs (X.tr pn xe) body (tb W))
    (hsu : ∀ (a : Addr) (oe : Obj) (cls : Value) (d : Option Addr) (pn : List (Addr × Obj)), Zc cls d oe → (∃ vs, oe.data = .fields vs) → PSs (X.suite a ((a, oe) :: pn)) (st₀ :: suite) (ts a cls d)) :
    PS X (.Try body [.ExceptHandler (some (.Name x np)) (some n) (st₀ :: suite) pos'] [] [] pos) (fun D σ H => tb (wKp X.K c i ts Wo D) D σ H) := by
  refine ⟨fun pins s σ H D I0 hpre => ?_⟩
  have okX := I0.ok
  have frames : X.A.frames = some (X.env :: X.outer) := by rw [okX.frames, hs]
  refine wpAny_Try_except ?_
  have bodyRun := (hb (wKp X.K c i ts Wo D) (X.pn ++ pins) (fun e z1 => wpAny (model X.prog X.w) X.A (noteFrame e X.env) (fun _ z2 => wpAny (model X.prog X.w) X.A (setFlight e none)
      (fun _ z3 => wpAny (model X.prog X.w) X.A (handleBy e X.env [.ExceptHandler (some (.Name x np)) (some n) (st₀ :: suite) pos']) (SP X pins D) X.xe z3) X.xe z2) X.xe z1) (fun u z xx => ?_) PassesOwn.looking).run [] s σ H D (I0.toTry _) hpre
  · refine wpAny_mono bodyRun (fun fl z1 hsp => ?_) (fun _ _ he => he)
    cases fl with
    | next =>
      obtain ⟨σ1, H1, J1, q1⟩ := hsp
      exact wpAny_execs_nil ⟨σ1, H1, J1.ofTry okX, q1⟩
    | brk =>
      obtain ⟨σ1, H1, J1, q1⟩ := hsp
      exact ⟨σ1, H1, J1.ofTry okX, q1⟩
    | cont =>
      obtain ⟨σ1, H1, J1, q1⟩ := hsp
      exact ⟨σ1, H1, J1.ofTry okX, q1⟩
    | ret u =>
      obtain ⟨v1, σ1, H1, J1, r1, q1⟩ := hsp
      exact ⟨v1, σ1, H1, J1.ofTry okX, r1, q1⟩
  · -- what is caught
    obtain ⟨a, B, sI, pins', σc, Hc, cls, d, rfl, Jt, nb, up, sky, na, osE, ag, b, hb1, hyes, hno⟩ := xx
    have J : Inv X pins σc Hc sI := Jt.ofTry okX
    have skyE : Sky B (X.env :: X.outer) a (Zc cls d) X.env.locals z.heap := by rw [← hs]; exact sky
    have nB : B.get? a = none := by rcases skyE with q | q | q <;> exact q.2.1
    show wpAny (model X.prog X.w) X.A (noteFrame (.ref a) X.env) _ _ _
    refine Sky.land Zc.steady frames hf skyE fun hp3 fly3 up3 => ?_
    have K3 : Inv X pins σc Hc { z with heap := hp3 } := J.landed nb fly3.1 (up.trans up3) osE ag
    obtain ⟨oe3, vs3, g3, zc3, d3⟩ := fly3.there
    have notFrame : a ∉ frs (X.env :: X.outer) := fun hm => by
      obtain ⟨_, o', e', hnf⟩ := fly3.2.2.1.mem hm
      rw [g3] at e'
      cases e'
      exact hnf _ d3
    have nL : a ≠ X.env.locals := fun w => notFrame (List.mem_filterMap.mpr ⟨X.env, List.mem_cons_self, by rw [hf, w]⟩)
    have nF : a ∉ X.fs := fun hm => by
      obtain ⟨e, he, q⟩ := List.mem_filterMap.mp hm
      exact notFrame (List.mem_filterMap.mpr ⟨e, List.mem_cons_of_mem _ he, q⟩)
    -- the exception is new
    have nI : sI.heap.get? a = none := by
      cases w : sI.heap.get? a with
      | none => rfl
      | some ob =>
        have w2 := nb a ob w (by rw [hs]; exact notFrame)
        rw [nB] at w2
        cases w2
    have n0 : X.s_0.heap.get? a = none := by
      cases w : X.s_0.heap.get? a with
      | none => rfl
      | some ob =>
        obtain ⟨o', w2⟩ := J.base.there a ob w (by rw [hx0]; simp)
        rw [nI] at w2
        cases w2
    have npin : ∀ p ∈ X.pn ++ pins, p.1 ≠ a := fun p hp w => by
      have w2 := (J.pin p hp).1
      rw [w, nI] at w2
      cases w2
    refine wpAny_handleBy_cons (codeAny_handlers_test ?_) (by intro q; cases q)
    have LT : PySem.W.Looks (model X.prog X.w) hp3 (typeOf (.ref a)) cls := fun A Q E s k q => wpAny_typeOf_ref (k _ _ g3) (by rw [zc3.1]; exact q)
    have LM := PySem.W.exm_one (M := model X.prog X.w) (K3.kIn) LT hb1
    have S3 := K3.suite g3 d3 na nL nF
    have clsNamed : ∀ {Q : Value → Shared → Prop} {E : Value → Shared → Prop}, Q c { z with heap := hp3 } → wpAny (model X.prog X.w) (X.A.mark (some (.ref a))) (eval (.Name x np) X.env) Q E { z with heap := hp3 } := fun {Q E} q => by
      obtain ⟨hgl, hdbg, hm | ⟨hm, hv, hnn⟩⟩ := hc
      · exact ld_glob (X := X.suite a ((a, oe3) :: (X.pn ++ pins))) S3 hgl hm q hdbg
      · exact ld_blt (X := X.suite a ((a, oe3) :: (X.pn ++ pins))) S3 hgl hm hv q hnn hdbg
    refine clsNamed (LM.here ?_)
    cases b with
    | false =>
      show wpAny _ X.A (handleBy (.ref a) X.env []) _ _ _
      refine wpAny_handleBy_nil ?_
      obtain ⟨k1, k2, k3, oe, vs, T, oT, tsl, he, hz, hd, h1, hr⟩ := id fly3
      unfold PySem.passOn
      refine wpAny_bind (wpAny_field he hd h1 ?_)
      rw [if_neg (show ¬ ((Value.ref T == Value.none) = true) from by simp)]
      have fin : wpAny (model X.prog X.w) X.A (setFlight (.ref a) X.env.frame) (fun _ z4 => wpAny (model X.prog X.w) X.A (throw (.ref a) : Sem Flow) (SP X pins D) X.xe z4) X.xe { z with heap := hp3 } := by
        rw [hf]
        refine HandSPX.setFlight_upZ fly3 fun h4 hh4 up4 => wpAny_throw (tk _ _ ?_)
        exact ⟨a, B, sI, pins, σc, Hc, cls, d, rfl, J, nb, (up.trans up3).trans up4, .inr (.inr (by rw [hs]; exact hh4)), na, osE, ag, hno rfl⟩
      first
        | exact wpAny_bind (wpAny_pure (wpAny_bind fin))
        | exact wpAny_bind fin
    | true =>
      refine codeAny_handlers_suite_as ?_
      refine HandSPX.lands_againZ fly3 fun hp4 fly4 up4 => ?_
      have K4 : Inv X pins σc Hc { z with heap := hp4 } := J.landed nb fly4.1 ((up.trans up3).trans up4) osE ag
      obtain ⟨oe4, vs4, g4, zc4, d4⟩ := fly4.there
      have S4 := K4.suite g4 d4 na nL nF
      refine store_ok (X := X.suite a ((a, oe4) :: (X.pn ++ pins))) (v := .ref a) S4 hN hi (.inl hln) rfl (fun z5 S5 => ?_) (.inr hln)
      have run := (hsu a oe4 cls d (X.pn ++ pins) zc4 ⟨_, d4⟩).run [] z5 _ Hc _ S5 (hyes rfl a na)
      refine wpAny_mono run (fun fl z6 hsp => ?_) (fun _ _ w => False.elim w)
      have leave : ∀ {σ6 : St} {H6 : Hp} {Q : Shared → Prop}, Inv (X.suite a ((a, oe4) :: (X.pn ++ pins))) [] σ6 H6 z6 → (∀ z7, Inv X pins (σ6.set i none) (upd H6 a (EvK cls d a)) z7 → Q z7) →
          wpAny (model X.prog X.w) X.A (do bindName X.env n .none; unbindBehindTheSuite X.env n pos') (fun _ z7 => Q z7) X.xe z6 := fun {σ6 H6 Q} S6 hq => by
        obtain ⟨p1, p2, p3, p4, p5⟩ := S6.pin (a, oe4) (by simp)
        have J6 : Inv X pins σ6 H6 z6 := S6.unsuite okX
        have T6 := J6.track p1 d4 p2 n0 nL npin (evK_ok p1 zc4 d4)
        exact gone_ok T6 hN hi hln hq
      cases fl with
      | next =>
        obtain ⟨σ6, H6, S6, q6⟩ := hsp
        exact leave S6 fun z7 J7 => ⟨_, _, J7, q6⟩
      | brk =>
        obtain ⟨σ6, H6, S6, q6⟩ := hsp
        exact leave S6 fun z7 J7 => ⟨_, _, J7, q6⟩
      | cont =>
        obtain ⟨σ6, H6, S6, q6⟩ := hsp
        exact leave S6 fun z7 J7 => ⟨_, _, J7, q6⟩
      | ret u =>
        obtain ⟨v6, σ6, H6, S6, r6, q6⟩ := hsp
        exact leave S6 fun z7 J7 => ⟨_, _, _, J7, r6, q6⟩
end
end L2

/-! GY: try .. except C as e: x = e; isinstance of what may be an exception. -/
namespace Gs
open PySem L2
theorem RE.wish2 {K : PySem.W.Frag} {v0 : Vw} {ct : String → Addr} {W W' : WX} {σ : L2.St} {δ : Sl} {v : Vw} (r : RE K ⟨v0, ct, W⟩ σ δ v) : RE K ⟨v0, ct, W'⟩ σ δ v := ⟨r.le, r.sr, r.len, r.sl⟩
/-- which classes the clause takes: by pairs -/
def XT (K : PySem.W.Frag) (ct : String → Addr) (c : Addr) (t : String → Option Bool) : Prop := ∀ s b, t s = some b → PySem.W.exmOne K (.ref (ct s)) (.ref c) = some b
theorem xt_sub {K : PySem.W.Frag} {ct : String → Addr} {c : Addr} (hb : PySem.W.subIn K (.ref c) (.type "BaseException") = some true) (hd : PySem.W.hasDictIn K c = true) (ht : PySem.W.typeIn K (.ref c) = some (.type "type")) {s : String} {b : Bool} (h : PySem.W.subIn K (.ref (ct s)) (.ref c) = some b) :
    PySem.W.exmOne K (.ref (ct s)) (.ref c) = some b := PySem.W.exm_ref hb hd ht h
def sTryK (t : String → Option Bool) (i j : Nat) (fb : S) : S := fun δ s => match fb δ s with
  | .exc e δ' s' => if e.fs.isEmpty = true then (match t e.cls with
    | some true => .nx (((δ'.set i none).set j (some (.ev e.cls [] []))).set i none) s'
    | some false => .exc e δ' s'
    | none => .stk) else .stk
  | r => r
section
variable {X : Cx} {C : Cc}
theorem ss_try_keep {x n : Str} {c : Addr} {t : String → Option Bool} {i j : Nat} {body suite : List Stmt} {b₀ : Stmt} {np pos' pos : Pos} {fb : S} (hs : X.stack = X.env :: X.outer) (hf : X.env.frame = some X.env.locals) (hN : X.N.Nodup) (hi : X.N[i]? = some n) (hln : X.env.kindOf n = some .local) (hx0 : X.ex = [])
    (hc : Names X x (.ref c)) (tk : Takes X C.W) (ht : XT X.K C.ct c t)
    (hb : ∀ (W : WX) (pn : List (Addr × Obj)) (xe : Value → Shared → Prop), Takes (X.tr pn xe) W → PassesOwn (model X.prog X.w) X.A X.env xe → SSs (X.tr pn xe) { C with W := W } body fb)
    (hsu : ∀ (a : Addr) (oe : Obj) (pn : List (Addr × Obj)), PSs (X.suite a ((a, oe) :: pn)) (b₀ :: suite) (fun Dn σ H => ∃ v, σ[i]? = some (some v) ∧ Dn.nx (σ.set j (some v)) H)) :
    SS X C (.Try body [.ExceptHandler (some (.Name x np)) (some n) (b₀ :: suite) pos'] [] [] pos) (sTryK t i j fb) := by
  refine ⟨fun pins s σ H Dn I h => ?_⟩
  have hiN : i < X.N.length := (List.getElem?_eq_some_iff.mp hi).1
  refine (ps_try_keep (tb := fun W => liftS X.K { C with W := W } fb) (ts := fun a cls d => fun Dn σ H => (∃ σ0 : L2.St, σ = List.set σ0 i (some (.ref a))) ∧ Dn.nx (σ.set j (some (.ref a))) H)
    hs hf hN hi hln hx0 hc tk hb fun a oe cls d pn hz hfl => ⟨fun pins s σ H Dn I hh => by
      obtain ⟨⟨σ0, rfl⟩, h2⟩ := hh
      have hl : (List.set σ0 i (some (V.ref a))).length = X.N.length := I.len
      rw [List.length_set] at hl
      exact (hsu a oe pn).run pins s _ H Dn I ⟨.ref a, List.getElem?_set_self (by omega), h2⟩⟩).run pins s σ H Dn I ?_
  have hσ : σ.length = X.N.length := I.len
  obtain ⟨δ, v, re, eH, h⟩ := h
  refine ⟨δ, v, re.wish2, eH, ?_⟩
  unfold sTryK at h
  cases e : fb δ v.st with
  | nx δ' s' => rw [e] at h; exact fun σ' v' re l es => h σ' v' re.wish2 l es
  | bk δ' s' => rw [e] at h; exact fun σ' v' re l es => h σ' v' re.wish2 l es
  | ct δ' s' => rw [e] at h; exact fun σ' v' re l es => h σ' v' re.wish2 l es
  | rt d s' => rw [e] at h; exact h
  | stk => rw [e] at h; exact h.elim
  | exc ex δ' s' =>
    rw [e] at h
    simp only at h
    intro cls dd σ' v' re' l' es rx
    split at h
    · rename_i hfs
      have hfs' : ex.fs = [] := List.isEmpty_iff.mp hfs
      have hdd : dd = none := rx.2.elim (fun z => z.2) fun z => absurd hfs' z.1
      cases q : t ex.cls with
      | none => rw [q] at h; exact h.elim
      | some bb =>
        rw [q] at h
        refine ⟨bb, by rw [rx.1]; exact ht _ _ q, fun hb => ?_, fun hb => ?_⟩
        · subst hb
          intro a ha
          simp only at h
          subst hdd
          refine ⟨⟨σ', rfl⟩, ?_⟩
          obtain ⟨l2, s2⟩ := new_ok (o := EvO cls none a) re'.sr ha
          have rep : Rep X.K C.ct (v'.new a (EvO cls none a)).G v'.m (.ev ex.cls [] []) (.ref a) := .ev0 (by rw [← rx.1]; exact upd_same)
          exact h _ (v'.new a (EvO cls none a)) (((((re'.setU i (some (.ref a))).step l2 s2).setV j rep).setU i none)).wish2 (l'.trans l2) es
        · subst hb
          exact h cls dd σ' v' re'.wish2 l' es rx
    · exact h.elim
end
/-! isinstance -/
/-- what is known of a class that is asked for: of None, of the classes that are raised -/
structure EI (K : PySem.W.Frag) (ct : String → Addr) (tb : String → Option Bool) (cv : Value) : Prop where
  non : PySem.W.kitOne K (.type "NoneType") cv = some false
  ev : ∀ c b, tb c = some b → ExcC K (ct c) ∧ PySem.W.kitOne K (.ref (ct c)) cv = some b
def rIsEv (K : PySem.W.Frag) : List V → Hp → VK → Prop := fun xs H Q => ∃ (a D : Addr) (c : V) (cv : Value) (b : Bool), xs = [.ref a, c] ∧ ClsV c cv ∧ H a = some (EvO (.ref D) none a) ∧ ExcC K D ∧ PySem.W.kitOne K (.ref D) cv = some b ∧ Q (.bl b) H
section
variable {X : Cx} {C : Cc}
theorem call_isEv : CallR X (.builtin "isinstance") (rIsEv X.K) := by
  intro pins s σ H xs us Q I r h
  obtain ⟨a, D, c, cv, b, rfl, hcv, hH, EC, e, q⟩ := h
  cases r with
  | cons rx rr =>
    cases rr with
    | cons rt rr =>
      cases rr
      cases rx
      have ec := hcv.eq rt
      subst ec
      obtain ⟨⟨oe, vs, hget, hz, hv⟩, _⟩ := (show ObjOk X.prog X.w H s.heap a (EvO (.ref D) none a) from I.hok a _ hH)
      have J : PySem.W.InstAt s.heap a oe D none := by
        obtain ⟨oc, od, oda, osl⟩ := oe
        obtain ⟨z1, z2⟩ := hz
        dsimp only at z1 z2 hv
        subst z1 z2 hv
        exact ⟨hget, rfl, rfl, trivial⟩
      exact PySem.W.kia_one (PySem.W.handS_kitx_exc EC.hg EC.hk EC.hs EC.hd EC.ha EC.hn EC.ht EC.hm) I.kIn J e (fun z => nomatch z) fun tk => ⟨.bl b, H, I.kept (t' := tk) fun _ _ z => z, rfl, q⟩
theorem call_isU : CallR X (.builtin "isinstance") (fun xs H Q => rIsi X.K xs H Q ∨ rIsEv X.K xs H Q) := fun pins s σ H xs us Q I r h =>
  h.elim (call_isi pins s σ H xs us Q I r) (call_isEv pins s σ H xs us Q I r)
def gIsC (tb : String → Option Bool) : B1
  | .non => some (.bl false)
  | .ev c [] [] => (tb c).map .bl
  | _ => none
theorem se_isC {a : Expr} {fa : E} {pf pn pos : Pos} {nx : Str} {cV : V} {cv : Value} {tb : String → Option Bool} (ha : SE X C a fa) (hg : Gl X "isinstance") (hm : X.mg "isinstance" = none) (hc : PE X (.Name nx pn) (tC cV)) (hk : ClsV cV cv) (hE : EI X.K C.ct tb cv)
    (hvi : bootBuiltins "isinstance" = some (.builtin "isinstance") := by decide +kernel)
    (hs : starEach [a, .Name nx pn] X.env = (false, eval a X.env) :: starEach [.Name nx pn] X.env := by rfl) (hpl : (backTo pos (starEach [.Name nx pn] X.env)).any (·.1) = false := by rfl)
    (hs2 : starEach [.Name nx pn] X.env = (false, eval (.Name nx pn) X.env) :: starEach [] X.env := by rfl) :
    SE X C (.Call (.Name "isinstance" pf) [a, .Name nx pn] [] pos) (eUn (gIsC tb) fa) :=
  pe_weak (pe_callB call_isU hg hm hvi (pa_cons ha (pa_cons hc pa_nil hs2) hs) (by decide) (by decide) hs hpl) fun σ H Q h => by
    obtain ⟨δ, v8, re, eH, h1⟩ := lift_un h
    refine ⟨δ, v8, re, eH, on_mono h1 fun d x v1 l1 s1 r1 h2 => ?_⟩
    obtain ⟨v2, dx, d2, eH2, sr, e, r2, h2⟩ := h2
    rw [← eH2]
    cases r2 with
    | non =>
      simp only [gIsC, Option.some.injEq] at e
      subst e
      exact .inl ⟨.non, cV, .type "NoneType", cv, false, rfl, hk, .base .non, hE.non, h2 _ v2 .refl sr rfl (.bl _)⟩
    | @ev a0 c ks0 ds0 r3 =>
      cases r3 with
      | ev0 hG =>
        simp only [gIsC] at e
        cases q : tb c with
        | none => rw [q] at e; exact nomatch e
        | some b =>
          rw [q] at e
          simp only [Option.map_some, Option.some.injEq] at e
          subst e
          obtain ⟨h3, h4⟩ := hE.ev c b q
          exact .inr ⟨a0, C.ct c, cV, cv, b, rfl, hk, sr.sub _ _ hG, h3, h4, h2 _ v2 .refl sr rfl (.bl _)⟩
      | ev n hG hG2 hl hr =>
        cases ks0 with
        | nil => exact absurd rfl n
        | cons k ks => simp only [gIsC, reduceCtorEq] at e
    | _ => simp only [gIsC, reduceCtorEq] at e
end
@[simp] theorem v_sTryK (t : String → Option Bool) (i j : Nat) (fb : S) (δ : Sl) (s : Sto) : sTryK t i j fb δ s = (match fb δ s with
  | .exc e δ' s' => if e.fs.isEmpty = true then (match t e.cls with
    | some true => .nx (((δ'.set i none).set j (some (.ev e.cls [] []))).set i none) s'
    | some false => .exc e δ' s'
    | none => .stk) else .stk
  | r => r) := id rfl
@[simp] theorem v_isC_non (tb : String → Option Bool) : gIsC tb .non = some (.bl false) := id rfl
@[simp] theorem v_isC_ev (tb : String → Option Bool) (c : String) : gIsC tb (.ev c [] []) = (tb c).map .bl := id rfl
@[simp] theorem isN_ev (c : String) (ks : List Str) (ds : List D) : gIsN (.ev c ks ds) .non = some (.bl false) := id rfl
@[simp] theorem notN_ev (c : String) (ks : List Str) (ds : List D) : gNotN (.ev c ks ds) .non = some (.bl true) := id rfl
@[simp] theorem r_ev (s : Sto) (c : String) (ks : List Str) (ds : List D) : rsv s (.ev c ks ds) = .ev c ks ds := id rfl
end Gs

/-! GZ: a call that only looks at the lists of the store; clear; xs[::-1] as a new list. -/
namespace Gs
open PySem L2
def gones (n : Nat) : Sto := List.replicate n .gone
/-- the frozen look of a datum's top -/
def lokD (s : Sto) : D → D
  | .ob i => match s[i]? with
    | some (.lst xs) => .lst xs
    | _ => .ob i
  | d => d
def scal : D → Bool
  | .non => true
  | .bl _ => true
  | .int _ => true
  | .str _ => true
  | _ => false
/-- b is a list of the store's -/
def Vw.isL (v : Vw) (b : Addr) : Prop := ∃ (i : Nat) (xs : List D), v.st[i]? = some (.lst xs) ∧ v.m i = some b
open Classical in
noncomputable def Vw.lookG (v : Vw) : Hp := fun b => if v.isL b then v.H b else v.G b
open Classical in
noncomputable def lessG (v : Vw) (G : Hp) : Hp := fun b => if v.isL b then none else G b
section
variable {K : PySem.W.Frag} {ct : String → Addr} {v : Vw}
theorem SR.isL_at (s : SR K ct v) {b : Addr} (h : v.isL b) : v.G b = none ∧ ∃ vs, v.H b = some (.lst vs) := by
  obtain ⟨i, xs, e, em⟩ := h
  obtain ⟨a, em', g, vs, hh, _⟩ := s.obj i _ e rfl
  rw [em] at em'
  cases em'
  exact ⟨g, vs, hh⟩
theorem lookG_same (s : SR K ct v) : Same v.G v.lookG := fun b u q => by
  unfold Vw.lookG
  rw [if_neg fun z => by rw [(s.isL_at z).1] at q; cases q]
  exact q
theorem gones_get {n i : Nat} {o : O} (h : (gones n)[i]? = some o) : o = .gone := by
  unfold gones at h
  rw [List.getElem?_replicate] at h
  split at h
  · exact (Option.some.inj h).symm
  · cases h
theorem look_ok (s : SR K ct v) : SR K ct ⟨v.lookG, v.H, v.m, gones v.st.length⟩ where
  sub := fun b u q => by
    have q' : v.lookG b = some u := q
    unfold Vw.lookG at q'
    split at q'
    · exact q'
    · exact s.sub b u q'
  dom := fun i hi => s.dom i (by simpa [gones] using hi)
  obj := fun i o e l => by rw [gones_get e] at l; cases l
  inj := fun i j o u a e _ l _ _ _ => by rw [gones_get e] at l; cases l
theorem look_rep (s : SR K ct v) {d : D} {x : V} (r : Rep K ct v.G v.m d x) : Rep K ct v.lookG v.m (lokD v.st d) x := by
  unfold lokD
  split
  · rename_i i
    split
    · rename_i xs e
      cases r with
      | @ob _ a em =>
        obtain ⟨a', em', g, vs, hh, rr⟩ := s.obj i _ e rfl
        rw [em] at em'
        cases em'
        have : v.lookG a = some (.lst vs) := by
          unfold Vw.lookG
          rw [if_pos ⟨i, xs, e, em⟩]
          exact hh
        exact .lst (SqL.of this) (rr.mono (lookG_same s) .refl)
    · exact r.mono (lookG_same s) .refl
  · exact r.mono (lookG_same s) .refl
theorem look_repL (s : SR K ct v) : ∀ {ds : List D} {xs : List V}, RepL K ct v.G v.m ds xs → RepL K ct v.lookG v.m (ds.map (lokD v.st)) xs
  | _, _, .nil => .nil
  | _, _, .cons h r => .cons (look_rep s h) (look_repL s r)
/-- behind the look the lists are the store's again -/
theorem thaw_ok (s : SR K ct v) {v' : Vw} (l : Le ⟨v.lookG, v.H, v.m, gones v.st.length⟩ v') (s' : SR K ct v') {k : Nat} (e : v'.st = gones k) (hk : v.st.length ≤ k) :
    Le v ⟨lessG v v'.G, v'.H, v'.m, v.st ++ gones (k - v.st.length)⟩ ∧ SR K ct ⟨lessG v v'.G, v'.H, v'.m, v.st ++ gones (k - v.st.length)⟩ := by
  have none' : ∀ b, ¬ (Vw.mk v.lookG v.H v.m (gones v.st.length)).owns b := fun b ⟨i, o, a, eo, lv, _⟩ => by rw [gones_get eo] at lv; cases lv
  have hH : Same v.H v'.H := fun b u q => l.h b u q (none' b)
  have hG : Same v.G (lessG v v'.G) := fun b u q => by
    unfold lessG
    rw [if_neg fun z => by rw [(s.isL_at z).1] at q; cases q]
    exact l.g b u (lookG_same s b u q)
  have gN : ∀ {b : Addr} {u : HO}, v.G b = none → v.H b = some u → lessG v v'.G b = none := fun {b u} g h => by
    unfold lessG
    split
    · rfl
    · rename_i nl
      cases z : v'.G b with
      | none => rfl
      | some w =>
        rcases l.nw b (by rw [z]; exact fun y => nomatch y) with y | y | y
        · exfalso
          have y' : v.lookG b ≠ none := y
          unfold Vw.lookG at y'
          rw [if_neg nl] at y'
          exact y' g
        · have y' : v.H b = none := y
          rw [h] at y'
          cases y'
        · exact absurd y (none' b)
  have get : ∀ {i : Nat} {o : O}, (v.st ++ gones (k - v.st.length))[i]? = some o → o.live = true → v.st[i]? = some o := fun {i o} eo lv => by
    by_cases z : i < v.st.length
    · rwa [List.getElem?_append_left z] at eo
    · rw [List.getElem?_append_right (Nat.not_lt.mp z)] at eo
      rw [gones_get eo] at lv
      cases lv
  refine ⟨⟨hG, l.m, fun b u q _ => hH b u q, fun b q => ?_, fun b ⟨i, o, a, eo, lv, em, q⟩ => ?_, l.al⟩, fun b u q => ?_, fun i hi => ?_, fun i o eo lv => ?_, fun i j o u a e1 e2 l1 l2 m1 m2 => ?_⟩
  · have q' : lessG v v'.G b ≠ none := q
    unfold lessG at q'
    split at q'
    · exact absurd rfl q'
    · rename_i nl
      rcases l.nw b q' with y | y | y
      · have y' : v.lookG b ≠ none := y
        unfold Vw.lookG at y'
        rw [if_neg nl] at y'
        exact .inl y'
      · exact .inr (.inl y)
      · exact absurd y (none' b)
  · have eo' := get eo lv
    obtain ⟨a0, em0, g0, r0⟩ := s.obj i o eo' lv
    obtain ⟨_, w, hw, _⟩ := s.obj_ne eo' lv em0
    have em' : v'.m i = some a := em
    rw [l.m i a0 em0] at em'
    cases em'
    refine .inl ⟨i, o, a, eo', lv, em0, q.imp id fun ⟨C, fs, z⟩ => ⟨C, fs, ?_⟩⟩
    have z' : v'.H a = some (.ins C b fs) := z
    rw [hH _ _ hw] at z'
    rw [hw]
    exact z'
  · have q' : lessG v v'.G b = some u := q
    unfold lessG at q'
    split at q'
    · cases q'
    · exact s'.sub b u q'
  · have hi' : v.st.length + (k - v.st.length) ≤ i := by simpa [gones] using hi
    exact s'.dom i (by rw [e]; simp [gones]; omega)
  · have eo' := get eo lv
    obtain ⟨a0, em0, g0, r0⟩ := s.obj i o eo' lv
    obtain ⟨_, w, hw, _⟩ := s.obj_ne eo' lv em0
    exact ⟨a0, l.m i a0 em0, gN g0 hw, r0.mono' (v := v) hG l.m ((hH _ _ hw).trans hw.symm) fun C dx fs _ q1 q2 => ⟨(hH _ _ q1).trans q1.symm, gN q2 q1⟩⟩
  · have e1' := get e1 l1
    have e2' := get e2 l2
    obtain ⟨a1, em1, _⟩ := s.obj i o e1' l1
    obtain ⟨a2, em2, _⟩ := s.obj j u e2' l2
    have m1' : v'.m i = some a := m1
    have m2' : v'.m j = some a := m2
    rw [l.m i a1 em1] at m1'
    rw [l.m j a2 em2] at m2'
    cases m1'
    cases m2'
    exact s.inj i j o u a e1' e2' l1 l2 em1 em2
end
open Classical in
noncomputable def thawR (s : Sto) : R D → R D
  | .ok d s2 => if scal d = true ∧ s.length ≤ s2.length ∧ s2 = gones s2.length then .ok d (s ++ gones (s2.length - s.length)) else .stk
  | _ => .stk
/-- a call that looks at the lists of the store, and tells a number, a truth, a text or None -/
noncomputable def eCallB (F : List D → Sto → R D) (a : As) : E := fun δ s => (a δ s).bind fun ds s1 => thawR s1 (F (ds.map (lokD s1)) (gones s1.length))
section
variable {X : Cx} {C : Cc} {pos p : Pos} {x : Str} {e : Expr} {es : List Expr} {fa : As} {k n : Nat} {f : Addr} {fd : FuncData} {ps : List Str} {F : List D → Sto → R D}
theorem se_callBr (hF : FnOk X.prog X.w X.K X.mg X.base (L2.CX X.prog X.w) k f fd ps (spG X.K C.ct n F)) (hr : Room k X.A) (tk : Takes X C.W) (hg : Gl X x) (hm : X.mg x = some (.ref f)) (hk : PySem.W.keepIn X.K (.ref f) = true) (hb : Binds X.K fd ps [])
    (ha : SA X C (e :: es) fa) (hl : LenA fa n) (hdb : (x == ("__debug__" : Str)) = false := by decide) (he : starEach (e :: es) X.env = (false, eval e X.env) :: starEach es X.env := by rfl) (hpl : (backTo pos (starEach es X.env)).any (·.1) = false := by rfl) :
    SE X C (.Call (.Name x p) (e :: es) [] pos) (eCallB F fa) :=
  pe_weak (pe_callS hF hr hg hm hk hb (fun σ => passAt tk σ) ha hdb he hpl) fun σ H Q ⟨δ, v, re, eH, h⟩ => ⟨δ, v, re, eH, on_mono (on_eq (on_bind h)) fun ds vs v1 l1 s1 r1 h1 => by
    obtain ⟨h1, s, q⟩ := h1
    refine ⟨⟨v1.lookG, v1.H, v1.m, gones v1.st.length⟩, ds.map (lokD v1.st), rfl, look_ok s1, by rw [List.length_map]; exact hl _ _ _ _ q, look_repL s1 r1, ?_⟩
    show match F (ds.map (lokD v1.st)) (gones v1.st.length) with
      | .ok d s => _
      | .exc e s => _
      | .stk => _
    unfold thawR at h1
    cases z : F (ds.map (lokD v1.st)) (gones v1.st.length) with
    | stk => rw [z] at h1; exact h1.elim
    | exc e2 s2 => rw [z] at h1; exact h1.elim
    | ok d s2 =>
      rw [z] at h1
      simp only at h1
      split at h1
      · rename_i hz
        obtain ⟨h3, h4, h5⟩ := hz
        intro x2 v' l' s' es r'
        obtain ⟨l2, s3⟩ := thaw_ok (k := s2.length) s1 l' s' (by rw [es]; exact h5) h4
        have rep : ∀ G m, Rep X.K C.ct G m d x2 := by
          cases r' <;> first
            | exact fun G m => .non
            | exact fun G m => .bl _
            | exact fun G m => .int _
            | exact fun G m => .str _
            | (simp only [scal, Bool.false_eq_true] at h3)
        exact h1 x2 ⟨lessG v1 v'.G, v'.H, v'.m, v1.st ++ gones (s2.length - v1.st.length)⟩ l2 s3 rfl (rep _ _)
      · exact h1.elim⟩
/-- o.clear() -/
def eClr (o : E) : E := fun δ s => (o δ s).bind fun x s1 => if (lsO s1 x).isSome = true then .ok .non (stO s1 x []) else .stk
theorem se_clr {o : Expr} {fo : E} {p2 p3 : Pos} (ho : SE X C o fo) (hbase : attributeBase o "clear" X.env (eval o X.env) = eval o X.env := by rfl) (hline : (p2.endLine == p3.line) = true := by rfl) :
    SE X C (.Call (.Attribute o "clear" p2) [] [] p3) (eClr fo) :=
  pe_weak (pe_bm0 PySem.F.plainAttrs_list PySem.F.slot_list_clear PySem.F.type_list_clear mt_clear ho hbase hline) fun σ H Q ⟨δ, v, re, eH, h⟩ => by
    refine ⟨δ, v, re, eH, on_mono (on_bind h) fun d x v1 l1 s1 r1 h1 => ?_⟩
    split at h1
    · rename_i hs
      obtain ⟨xs0, e0⟩ := isSome_of hs
      obtain ⟨i, p, vs0, rfl, rfl, em, q0, hh0, _⟩ := lsO_at s1 r1 e0
      obtain ⟨l3, s3⟩ := stO_ok s1 em q0 (ys := []) (us := []) .nil
      exact ⟨.inl ⟨rfl, vs0, SqL.of hh0⟩, p, vs0, rfl, rfl, hh0, h1 .non (v1.put i p (.lst []) (.lst [])) l3 s3 rfl .non⟩
    · exact h1.elim
/-- xs[::-1], a new list -/
def fRev (f : E) : Fr := fun δ s => (f δ s).bind fun d s1 => match rsv s1 d with
  | .lst xs => .ok xs.reverse s1
  | _ => .stk
theorem sf_rev {a : Expr} {fa : E} {k : Nat} {p1 p3 p4 : Pos} (ha : SE X C a fa) : SF X C (.Subscript a (.Slice none none (some (.UnaryOp .USub (.Constant (.int 1) k p1) p3)) p4) pos) (fRev fa) :=
  pe_weak (pe_revL ha) fun σ H Q ⟨δ, v, re, eH, h⟩ =>
  ⟨δ, v, re, eH, on_mono (onF_bind h) fun d x v1 l1 s1 r1 h1 => by
    have t := r1.top s1
    cases z : rsv v1.st d with
    | lst xs =>
      rw [z] at h1 t
      cases t with
      | @lst a vs _ p q =>
        refine ⟨a, vs, rfl, p, fun c hc => ?_⟩
        obtain ⟨l2, s2, no⟩ := newH (u := .lst vs.reverse) s1 hc
        exact h1 c vs.reverse ⟨v1.G, upd v1.H c (.lst vs.reverse), v1.m, v1.st⟩ l2 s2 rfl hc (s1.free hc) upd_same no q.reverse
    | _ => rw [z] at h1; exact h1.elim⟩
end
@[simp] theorem v_eCallB (F : List D → Sto → R D) (a : As) (δ : Sl) (s : Sto) : eCallB F a δ s = (a δ s).bind fun ds s1 => thawR s1 (F (ds.map (lokD s1)) (gones s1.length)) := id rfl
@[simp] theorem v_eClr (o : E) (δ : Sl) (s : Sto) : eClr o δ s = (o δ s).bind fun x s1 => if (lsO s1 x).isSome = true then .ok .non (stO s1 x []) else .stk := id rfl
@[simp] theorem v_fRev (f : E) (δ : Sl) (s : Sto) : fRev f δ s = (f δ s).bind fun d s1 => match rsv s1 d with
  | .lst xs => .ok xs.reverse s1
  | _ => .stk := id rfl
theorem thaw_val {s : Sto} {d : D} (h : scal d = true) : thawR s (.ok d (gones s.length)) = .ok d s := by
  unfold thawR
  have e : (gones s.length).length = s.length := by simp [gones]
  simp only [e, h, Nat.le_refl, and_self, if_true, Nat.sub_self]
  simp [gones]
theorem lok_ob {s : Sto} {i : Nat} {xs : List D} (h : s[i]? = some (.lst xs)) : lokD s (.ob i) = .lst xs := by unfold lokD; simp only [h]
@[simp] theorem lok_int (s : Sto) (i : Int) : lokD s (.int i) = .int i := id rfl
@[simp] theorem lok_str (s : Sto) (i : Str) : lokD s (.str i) = .str i := id rfl
@[simp] theorem lok_lst (s : Sto) (i : List D) : lokD s (.lst i) = .lst i := id rfl
@[simp] theorem lok_tup (s : Sto) (i : List D) : lokD s (.tup i) = .tup i := id rfl
end Gs

/-! GXf: exceptions with fields: made, caught, read. -/
namespace L2
open PySem PySem.Spec PyProof.Rows
section
variable {X : Cx} {e : Expr} {es : List Expr} {ta : TA} {p1 p2 pos : Pos}
/-- B.__init__(self, ..), B an own class without an __init__ of its own -/
theorem pe_ceinit {x : Str} {B : Addr} {pl : Sem Bool} (hg : Gl X x) (hm : X.mg x = some (.ref B)) (ga : PySem.W.specialIn X.K (.ref B) "__getattribute__" = some (some (.builtin "type.__getattribute__"))) (hT : PySem.W.typeIn X.K (.ref B) = some (.type "type"))
    (rd : PySem.W.readsIn X.K B (.type "type") = true) (vV : PySem.W.findCls X.K (.ref B) (.type "type") "__init__" = some (.val (.builtin "ValueError.__init__"))) (ha : PA X (e :: es) ta)
    (hc : eval (.Call (.Attribute (.Name x p1) "__init__" p2) (e :: es) [] pos) X.env = (do
      let ov ← eval (.Name x p1) X.env
      standAt p2.atName
      let (f, first) ← holding [ov] (getMethod ov "__init__" pl)
      callWith pos f first (backTo pos (starEach (e :: es) X.env)) (backToKw pos (keywordEach [] X.env))) := by rfl) (hdb : (x == ("__debug__" : Str)) = false := by decide)
    (he : starEach (e :: es) X.env = (false, eval e X.env) :: starEach es X.env := by rfl) (hpl : (backTo pos (starEach es X.env)).any (·.1) = false := by rfl) :
    PE X (.Call (.Attribute (.Name x p1) "__init__" p2) (e :: es) [] pos) (tVeI X.K ta) := by
  refine ⟨fun pins s σ H Q I h => ?_⟩
  refine PySem.W.methodCall_KW (ld_glob I hg hm ?_ hdb) hc
  obtain ⟨m, fr⟩ := I.fr
  refine PySem.W.method_of_cls fr I.ok.mod.kin ga (PySem.W.cls_val fr I.ok.mod.kin hT rd vV (by decide +kernel) ?_)
  show wpAny _ _ (callWith pos (Value.builtin "ValueError.__init__") [] (backTo pos (starEach (e :: es) X.env)) []) _ _ _
  refine PyProof.Rows.callWith_method1 (thn (ha.run pos pins _ σ H _ (I.tok _) h) fun us s1 ⟨vs, H1, I1, r1, a, C, ws, ev, hl, T, ea, q⟩ => ?_) he hpl
  subst ev
  cases r1 with
  | @cons _ u0 _ ur ra rw' =>
    obtain rfl : u0 = Value.ref a := ra
    have hlen : ur.length ≤ sizeLine := by
      rw [← Paired.length rw', sizeLine_eq]
      omega
    exact oinit_ok T I1 ea hlen fun s' J => ⟨.non, H1, J, rfl, q⟩
end
end L2
namespace Gs
open PySem L2
/-- an __init__ that keeps its fields ns (the last one stored first in the list) -/
def spXI (K : PySem.W.Frag) (C : Addr) (ns : List Str) : Sp := fun vs H Q E => ∃ (a : Addr) (w : V) (ys : List V), vs = .ref a :: w :: ys ∧ ys.length = ns.length ∧ OexC K C ∧ H a = some (exo a C none) ∧
  ∀ (H' : Hp) (dx : Addr), H dx = none → dx ≠ a → H' a = some (exo a C (some dx)) → H' dx = some (exd dx (ns.zip ys).reverse) → (∀ b, b ≠ a → b ≠ dx → H' b = H b) → Q .non H'
/-- an own exception class with fields -/
structure XF (K : PySem.W.Frag) (mg : Str → Option Value) (ct : String → Addr) (c : String) : Prop where
  g : mg (Str.ofString c) = some (.ref (ct c))
  ox : OexC K (ct c)
  fi : ∃ fI, PySem.W.findIn K (.ref (ct c)) "__init__" = some (some (.ref fI)) ∧ PySem.W.typeIn K (.ref fI) = some (.type "function")
def sRaiseF (c : String) (ns : List Str) (a : As) : S := fun δ s => sBind (a δ s) δ fun ds s1 => match ds with
  | _ :: ys => if ys.length = ns.length ∧ ns.length ≤ 10 ∧ ns ≠ [] then .exc ⟨c, (ns.zip ys).reverse⟩ δ s1 else .stk
  | [] => .stk
theorem repP_rev {κ : Type} {K : PySem.W.Frag} {ct : String → Addr} {G : Hp} {m : Nat → Option Addr} {ds : List (κ × D)} {vs : List (κ × V)} (r : RepP K ct G m ds vs) : RepP K ct G m ds.reverse vs.reverse := by
  induction r with
  | nil => exact .nil
  | cons h _ ih =>
    rw [List.reverse_cons, List.reverse_cons]
    exact ih.append (.cons h .nil)
section
variable {X : Cx} {C : Cc}
theorem ss_raiseF {c : String} {cx : Str} {fI : Addr} {fd : FuncData} {ps ns : List Str} {k : Nat} {e : Expr} {es : List Expr} {fa : As} {p pos1 pos : Pos} (hcx : Str.ofString c = cx) (hc : X.calm = true) (tk : Takes X C.W) (T : OexC X.K (C.ct c)) (iC : PySem.W.findIn X.K (.ref (C.ct c)) "__init__" = some (some (.ref fI)))
    (tI : PySem.W.typeIn X.K (.ref fI) = some (.type "function")) (F1 : FnOk X.prog X.w X.K X.mg X.base (L2.CX X.prog X.w) k fI fd ps (spXI X.K (C.ct c) ns)) (hr : Room (k + 1) X.A) (hb : Binds X.K fd ps []) (hg : Gl X cx) (hm : X.mg cx = some (.ref (C.ct c)))
    (ha : SA X C (e :: es) fa) (hdb : (cx == ("__debug__" : Str)) = false := by decide) (he : starEach (e :: es) X.env = (false, eval e X.env) :: starEach es X.env := by rfl) (hpl : (backTo pos1 (starEach es X.env)).any (·.1) = false := by rfl) :
    SS X C (.Raise (some (.Call (.Name cx p) (e :: es) [] pos1)) none pos) (sRaiseF c ns fa) := by
  refine ps_weak (ps_raise hc tk (pmk_oex (CX := L2.CX X.prog X.w) T iC tI F1 hr hb .nil (passes_call (E := fun _ _ _ => False) tk (fun _ _ _ _ z => z.elim)) hg hm ha hdb he hpl)) fun Dn σ H ⟨δ, v, re, eH, h⟩ => ?_
  refine ⟨δ, v, re, eH, ?_⟩
  refine on_mono (onS_R re h) fun ds vs v1 l1 s1 r1 h1 => ?_
  cases r1 with
  | nil => exact h1.elim
  | @cons d0 w ys us rw ry =>
    simp only at h1
    split at h1
    · rename_i hz
      obtain ⟨hz1, hz2, hz3⟩ := hz
      have hl := ry.length
      refine ⟨by simp only [List.length_cons]; omega, fun a na => ⟨a, w, us, by simp, by omega, T, upd_same, fun H' dx hd hda h2 h3 h4 => ⟨rfl, dx, _, h2, h3, ?_, ?_⟩⟩⟩
      · rwa [upd_ne hda] at hd
      · have hd1 : v1.H dx = none := by rwa [upd_ne hda] at hd
        have eH : upd (del H' a) dx (.xd (ns.zip us).reverse) = (v1.new dx (.xd (ns.zip us).reverse)).H := by
          funext b
          show upd (del H' a) dx _ b = upd v1.H dx _ b
          by_cases b1 : b = dx
          · rw [b1, upd_same, upd_same]
          · rw [upd_ne b1, upd_ne b1]
            by_cases b2 : b = a
            · rw [b2, del_same, na]
            · rw [del_ne b2, h4 b b2 b1, upd_ne b2]
        obtain ⟨l2, s2⟩ := new_ok (o := .xd (ns.zip us).reverse) s1 hd1
        rw [eH]
        refine h1 (.ref (C.ct c)) (some dx) σ (v1.new dx (.xd (ns.zip us).reverse)) ((re.step l1 s1).step l2 s2) l2 rfl ⟨rfl, .inr ⟨?_, dx, _, rfl, upd_same, ?_⟩⟩
        · intro z
          have z2 := congrArg List.length z
          simp only [List.length_reverse, List.length_zip, List.length_nil] at z2
          have : 0 < ns.length := List.length_pos_iff.mpr hz3
          omega
        · exact repP_rev (RepP.zip (l2.repl ry))
    · exact h1.elim
end
end Gs

/-! GXs: except suites in which the exception is a thing as others; its fields; isinstance. -/
namespace L2
open PySem PySem.Spec PyProof.Rows
/-- what the clause wishes: its suite runs with the exception told at a -/
def wSu (K : PySem.W.Frag) (c : Value) (i : Nat) (ts : Addr → Value → Option Addr → TS) (Wo : WX) (D : Ends) : WX := fun cls d σ H => ∃ b, PySem.W.exmOne K cls c = some b ∧
  (b = true → ∀ a, H a = none → ts a cls d { nx := fun σ H => D.nx (σ.set i none) H, rt := D.rt, bk := fun σ H => D.bk (σ.set i none) H, ct := fun σ H => D.ct (σ.set i none) H } (σ.set i (some (.ref a))) (upd H a (EvK cls d a))) ∧ (b = false → Wo cls d σ H)
section
variable {X : Cx} {pins : List (Addr × Obj)} {σ : St} {H : Hp} {s : Shared}
theorem Inv.suite0 (I : Inv X pins σ H s) (a : Addr) : Inv (X.suite a (X.pn ++ pins)) [] σ H s :=
  ⟨I.ok.suite _ _, I.os, I.bare, I.base, I.loc, I.cell, I.free, I.freeC, fun p hp => I.pin p (by rw [List.append_nil] at hp; exact hp), I.hok, I.len⟩
theorem Inv.unsuite0 {a : Addr} {pn' : List (Addr × Obj)} (I : Inv (X.suite a (X.pn ++ pins)) pn' σ H s) (ok : X.Ok) : Inv X pins σ H s :=
  ⟨ok, I.os, I.bare, I.base, I.loc, I.cell, I.free, I.freeC, fun p hp => I.pin p (List.mem_append_left _ hp), I.hok, I.len⟩
end
section
variable {X : Cx} {x n : Str} {c : Value} {i : Nat} {body suite : List Stmt} {st₀ : Stmt} {np pos pos' : Pos} {tb : WX → TS} {ts : Addr → Value → Option Addr → TS} {Wo : WX}
theorem ps_try_suite (hs : X.stack = X.env :: X.outer) (hf : X.env.frame = some X.env.locals) (hN : X.N.Nodup) (hi : X.N[i]? = some n) (hln : X.env.kindOf n = some .local) (hx0 : X.ex = []) (hc : Names X x c) (tk : Takes X Wo)
    (hb : ∀ (W : WX) (pn : List (Addr × Obj)) (xe : Value → Shared → Prop), Takes (X.tr pn xe) W → PassesOwn (model X.prog X.w) X.A X.env xe → PSs (X.tr pn xe) body (tb W))
    (hsu : ∀ (a : Addr) (cls : Value) (d : Option Addr) (pn : List (Addr × Obj)), PSs (X.suite a pn) (st₀ :: suite) (ts a cls d)) :
    PS X (.Try body [.ExceptHandler (some (.Name x np)) (some n) (st₀ :: suite) pos'] [] [] pos) (fun D σ H => tb (wSu X.K c i ts Wo D) D σ H) := by
  refine ⟨fun pins s σ H D I0 hpre => ?_⟩
  have okX := I0.ok
  have frames : X.A.frames = some (X.env :: X.outer) := by rw [okX.frames, hs]
  refine wpAny_Try_except ?_
  have bodyRun := (hb (wSu X.K c i ts Wo D) (X.pn ++ pins) (fun e z1 => wpAny (model X.prog X.w) X.A (noteFrame e X.env) (fun _ z2 => wpAny (model X.prog X.w) X.A (setFlight e none)
      (fun _ z3 => wpAny (model X.prog X.w) X.A (handleBy e X.env [.ExceptHandler (some (.Name x np)) (some n) (st₀ :: suite) pos']) (SP X pins D) X.xe z3) X.xe z2) X.xe z1) (fun u z xx => ?_) PassesOwn.looking).run [] s σ H D (I0.toTry _) hpre
  · refine wpAny_mono bodyRun (fun fl z1 hsp => ?_) (fun _ _ he => he)
    cases fl with
    | next =>
      obtain ⟨σ1, H1, J1, q1⟩ := hsp
      exact wpAny_execs_nil ⟨σ1, H1, J1.ofTry okX, q1⟩
    | brk =>
      obtain ⟨σ1, H1, J1, q1⟩ := hsp
      exact ⟨σ1, H1, J1.ofTry okX, q1⟩
    | cont =>
      obtain ⟨σ1, H1, J1, q1⟩ := hsp
      exact ⟨σ1, H1, J1.ofTry okX, q1⟩
    | ret u =>
      obtain ⟨v1, σ1, H1, J1, r1, q1⟩ := hsp
      exact ⟨v1, σ1, H1, J1.ofTry okX, r1, q1⟩
  · obtain ⟨a, B, sI, pins', σc, Hc, cls, d, rfl, Jt, nb, up, sky, na, osE, ag, b, hb1, hyes, hno⟩ := xx
    have J : Inv X pins σc Hc sI := Jt.ofTry okX
    have skyE : Sky B (X.env :: X.outer) a (Zc cls d) X.env.locals z.heap := by rw [← hs]; exact sky
    have nB : B.get? a = none := by rcases skyE with q | q | q <;> exact q.2.1
    show wpAny (model X.prog X.w) X.A (noteFrame (.ref a) X.env) _ _ _
    refine Sky.land Zc.steady frames hf skyE fun hp3 fly3 up3 => ?_
    have K3 : Inv X pins σc Hc { z with heap := hp3 } := J.landed nb fly3.1 (up.trans up3) osE ag
    obtain ⟨oe3, vs3, g3, zc3, d3⟩ := fly3.there
    have notFrame : a ∉ frs (X.env :: X.outer) := fun hm => by
      obtain ⟨_, o', e', hnf⟩ := fly3.2.2.1.mem hm
      rw [g3] at e'
      cases e'
      exact hnf _ d3
    have nL : a ≠ X.env.locals := fun w => notFrame (List.mem_filterMap.mpr ⟨X.env, List.mem_cons_self, by rw [hf, w]⟩)
    have nF : a ∉ X.fs := fun hm => by
      obtain ⟨e, he, q⟩ := List.mem_filterMap.mp hm
      exact notFrame (List.mem_filterMap.mpr ⟨e, List.mem_cons_of_mem _ he, q⟩)
    have nI : sI.heap.get? a = none := by
      cases w : sI.heap.get? a with
      | none => rfl
      | some ob =>
        have w2 := nb a ob w (by rw [hs]; exact notFrame)
        rw [nB] at w2
        cases w2
    have n0 : X.s_0.heap.get? a = none := by
      cases w : X.s_0.heap.get? a with
      | none => rfl
      | some ob =>
        obtain ⟨o', w2⟩ := J.base.there a ob w (by rw [hx0]; simp)
        rw [nI] at w2
        cases w2
    have npin : ∀ p ∈ X.pn ++ pins, p.1 ≠ a := fun p hp w => by
      have w2 := (J.pin p hp).1
      rw [w, nI] at w2
      cases w2
    refine wpAny_handleBy_cons (codeAny_handlers_test ?_) (by intro q; cases q)
    have LT : PySem.W.Looks (model X.prog X.w) hp3 (typeOf (.ref a)) cls := fun A Q E s k q => wpAny_typeOf_ref (k _ _ g3) (by rw [zc3.1]; exact q)
    have LM := PySem.W.exm_one (M := model X.prog X.w) (K3.kIn) LT hb1
    have S3 := K3.suite g3 d3 na nL nF
    have clsNamed : ∀ {Q : Value → Shared → Prop} {E : Value → Shared → Prop}, Q c { z with heap := hp3 } → wpAny (model X.prog X.w) (X.A.mark (some (.ref a))) (eval (.Name x np) X.env) Q E { z with heap := hp3 } := fun {Q E} q => by
      obtain ⟨hgl, hdbg, hm | ⟨hm, hv, hnn⟩⟩ := hc
      · exact ld_glob (X := X.suite a ((a, oe3) :: (X.pn ++ pins))) S3 hgl hm q hdbg
      · exact ld_blt (X := X.suite a ((a, oe3) :: (X.pn ++ pins))) S3 hgl hm hv q hnn hdbg
    refine clsNamed (LM.here ?_)
    cases b with
    | false =>
      show wpAny _ X.A (handleBy (.ref a) X.env []) _ _ _
      refine wpAny_handleBy_nil ?_
      obtain ⟨k1, k2, k3, oe, vs, T, oT, tsl, he, hz, hd, h1, hr⟩ := id fly3
      unfold PySem.passOn
      refine wpAny_bind (wpAny_field he hd h1 ?_)
      rw [if_neg (show ¬ ((Value.ref T == Value.none) = true) from by simp)]
      have fin : wpAny (model X.prog X.w) X.A (setFlight (.ref a) X.env.frame) (fun _ z4 => wpAny (model X.prog X.w) X.A (throw (.ref a) : Sem Flow) (SP X pins D) X.xe z4) X.xe { z with heap := hp3 } := by
        rw [hf]
        refine HandSPX.setFlight_upZ fly3 fun h4 hh4 up4 => wpAny_throw (tk _ _ ?_)
        exact ⟨a, B, sI, pins, σc, Hc, cls, d, rfl, J, nb, (up.trans up3).trans up4, .inr (.inr (by rw [hs]; exact hh4)), na, osE, ag, hno rfl⟩
      first
        | exact wpAny_bind (wpAny_pure (wpAny_bind fin))
        | exact wpAny_bind fin
    | true =>
      refine codeAny_handlers_suite_as ?_
      refine HandSPX.lands_againZ fly3 fun hp4 fly4 up4 => ?_
      have K4 : Inv X pins σc Hc { z with heap := hp4 } := J.landed nb fly4.1 ((up.trans up3).trans up4) osE ag
      obtain ⟨oe4, vs4, g4, zc4, d4⟩ := fly4.there
      have T4 := K4.track g4 d4 na n0 nL npin (evK_ok g4 zc4 d4)
      have S4 := T4.suite0 a
      refine store_ok (X := X.suite a (X.pn ++ pins)) (v := .ref a) S4 hN hi (.inl hln) rfl (fun z5 S5 => ?_) (.inr hln)
      have run := (hsu a cls d (X.pn ++ pins)).run [] z5 _ (upd Hc a (EvK cls d a)) _ S5 (hyes rfl a na)
      refine wpAny_mono run (fun fl z6 hsp => ?_) (fun _ _ w => False.elim w)
      have leave : ∀ {σ6 : St} {H6 : Hp} {Q : Shared → Prop}, Inv (X.suite a (X.pn ++ pins)) [] σ6 H6 z6 → (∀ z7, Inv X pins (σ6.set i none) H6 z7 → Q z7) →
          wpAny (model X.prog X.w) X.A (do bindName X.env n .none; unbindBehindTheSuite X.env n pos') (fun _ z7 => Q z7) X.xe z6 := fun {σ6 H6 Q} S6 hq => gone_ok (S6.unsuite0 okX) hN hi hln hq
      cases fl with
      | next =>
        obtain ⟨σ6, H6, S6, q6⟩ := hsp
        exact leave S6 fun z7 J7 => ⟨_, _, J7, q6⟩
      | brk =>
        obtain ⟨σ6, H6, S6, q6⟩ := hsp
        exact leave S6 fun z7 J7 => ⟨_, _, J7, q6⟩
      | cont =>
        obtain ⟨σ6, H6, S6, q6⟩ := hsp
        exact leave S6 fun z7 J7 => ⟨_, _, J7, q6⟩
      | ret u =>
        obtain ⟨v6, σ6, H6, S6, r6, q6⟩ := hsp
        exact leave S6 fun z7 J7 => ⟨_, _, _, J7, r6, q6⟩
end
end L2
namespace Gs
open PySem L2
def evD (e : Ex) : D := .ev e.cls (e.fs.map (·.1)) (e.fs.map (·.2))
theorem repx_ev {K : PySem.W.Frag} {ct : String → Addr} {v : Vw} {e : Ex} {cls : Value} {dd : Option Addr} {a : Addr} (sr : SR K ct v) (rx : RepX K ct v e cls dd) (na : v.H a = none) : Rep K ct (v.new a (EvO cls dd a)).G v.m (evD e) (.ref a) := by
  obtain ⟨hc, hf⟩ := rx
  have ga : v.G a = none := sr.free na
  rcases hf with ⟨h1, h2⟩ | ⟨h1, d, fs, h2, h3, h4⟩
  · subst h2
    have : evD e = .ev e.cls [] [] := by unfold evD; rw [h1]; rfl
    rw [this]
    exact .ev0 (by rw [← hc]; exact upd_same)
  · subst h2
    have hd : d ≠ a := fun z => by rw [z, ga] at h3; cases h3
    have k := h4.keys
    refine .ev (d := d) (vs := fs.map (·.2)) (fun z => h1 (List.map_eq_nil_iff.mp z)) (by rw [← hc]; exact upd_same) ?_ (by simp) ?_
    · show upd v.G a _ d = _
      rw [upd_ne hd, h3, k, zip_unzip]
    · exact (h4.vals).mono (same_new ga _) .refl
/-- try: body except C as e: suite -/
def sTryS (t : String → Option Bool) (i : Nat) (fb fs : S) : S := fun δ s => match fb δ s with
  | .exc e δ' s' => (match t e.cls with
    | some true => (match fs (δ'.set i (some (evD e))) s' with
      | .nx δ2 s2 => .nx (δ2.set i none) s2
      | .bk δ2 s2 => .bk (δ2.set i none) s2
      | .ct δ2 s2 => .ct (δ2.set i none) s2
      | .rt d s2 => .rt d s2
      | _ => .stk)
    | some false => .exc e δ' s'
    | none => .stk)
  | r => r
section
variable {X : Cx} {C : Cc}
theorem ss_try_suite {x n : Str} {c : Value} {t : String → Option Bool} {i : Nat} {body suite : List Stmt} {b₀ : Stmt} {np pos' pos : Pos} {fb fs : S} (hs : X.stack = X.env :: X.outer) (hf : X.env.frame = some X.env.locals) (hN : X.N.Nodup) (hi : X.N[i]? = some n) (hln : X.env.kindOf n = some .local) (hx0 : X.ex = [])
    (hc : Names X x c) (tk : Takes X C.W) (ht : ∀ s b, t s = some b → PySem.W.exmOne X.K (.ref (C.ct s)) c = some b)
    (hb : ∀ (W : WX) (pn : List (Addr × Obj)) (xe : Value → Shared → Prop), Takes (X.tr pn xe) W → PassesOwn (model X.prog X.w) X.A X.env xe → SSs (X.tr pn xe) { C with W := W } body fb)
    (hsu : ∀ (a : Addr) (pn : List (Addr × Obj)), SSs (X.suite a pn) C.nox (b₀ :: suite) fs) :
    SS X C (.Try body [.ExceptHandler (some (.Name x np)) (some n) (b₀ :: suite) pos'] [] [] pos) (sTryS t i fb fs) := by
  refine ⟨fun pins s σ H Dn I h => ?_⟩
  refine (ps_try_suite (tb := fun W => liftS X.K { C with W := W } fb) (ts := fun a cls d => liftS X.K C.nox fs) hs hf hN hi hln hx0 hc tk hb fun a cls d pn => hsu a pn).run pins s σ H Dn I ?_
  obtain ⟨δ, v, re, eH, h⟩ := h
  refine ⟨δ, v, re.wish2, eH, ?_⟩
  unfold sTryS at h
  cases e : fb δ v.st with
  | nx δ' s' => rw [e] at h; exact fun σ' v' re l es => h σ' v' re.wish2 l es
  | bk δ' s' => rw [e] at h; exact fun σ' v' re l es => h σ' v' re.wish2 l es
  | ct δ' s' => rw [e] at h; exact fun σ' v' re l es => h σ' v' re.wish2 l es
  | rt d s' => rw [e] at h; exact h
  | stk => rw [e] at h; exact h.elim
  | exc ex δ' s' =>
    rw [e] at h
    simp only at h
    intro cls dd σ' v' re' l' es rx
    cases q : t ex.cls with
    | none => rw [q] at h; exact h.elim
    | some bb =>
      rw [q] at h
      refine ⟨bb, by rw [rx.1]; exact ht _ _ q, fun hb => ?_, fun hb => ?_⟩
      · subst hb
        intro a ha
        simp only at h
        obtain ⟨l2, s2⟩ := new_ok (o := EvO cls dd a) re'.sr ha
        have rep := repx_ev re'.sr rx ha
        have l3 := l'.trans l2
        refine ⟨δ'.set i (some (evD ex)), v'.new a (EvO cls dd a), ((re'.step l2 s2).setV i rep).wish2, rfl, ?_⟩
        have es2 : (v'.new a (EvO cls dd a)).st = s' := es
        rw [es2]
        cases ef : fs (δ'.set i (some (evD ex))) s' with
        | nx δ2 s2 => rw [ef] at h; exact fun σ2 w re2 l4 e4 => h _ w ((re2.setU i none).wish2) (l3.trans l4) e4
        | bk δ2 s2 => rw [ef] at h; exact fun σ2 w re2 l4 e4 => h _ w ((re2.setU i none).wish2) (l3.trans l4) e4
        | ct δ2 s2 => rw [ef] at h; exact fun σ2 w re2 l4 e4 => h _ w ((re2.setU i none).wish2) (l3.trans l4) e4
        | rt d s2 => rw [ef] at h; exact fun x w l4 s4 e4 r4 => h x w l4 s4 e4 r4
        | exc _ _ _ => rw [ef] at h; exact h.elim
        | stk => rw [ef] at h; exact h.elim
      · subst hb
        exact h cls dd σ' v' re'.wish2 l' es rx
end
@[simp] theorem v_sTryS (t : String → Option Bool) (i : Nat) (fb fs : S) (δ : Sl) (s : Sto) : sTryS t i fb fs δ s = (match fb δ s with
  | .exc e δ' s' => (match t e.cls with
    | some true => (match fs (δ'.set i (some (evD e))) s' with
      | .nx δ2 s2 => .nx (δ2.set i none) s2
      | .bk δ2 s2 => .bk (δ2.set i none) s2
      | .ct δ2 s2 => .ct (δ2.set i none) s2
      | .rt d s2 => .rt d s2
      | _ => .stk)
    | some false => .exc e δ' s'
    | none => .stk)
  | r => r) := id rfl
end Gs
/-! ### fields of a kept exception; isinstance -/
namespace L2
open PySem PySem.Spec PyProof.Rows
theorem pe_evf {X : Cx} {e : Expr} {te : TE} {pos : Pos} {n : Str} (he : PE X e te) (hb : attributeBase e n X.env (eval e X.env) = eval e X.env := by rfl) :
    PE X (.Attribute e n pos) (fun σ H Q => te σ H fun x H1 => ∃ (a C dd : Addr) (fs : List (Str × V)) (v : V), x = .ref a ∧ XfC X.K C ∧ PySem.W.findIn X.K (.ref C) n = some none ∧ H1 a = some (EvK (.ref C) (some dd) a) ∧ H1 dd = some (.xd fs) ∧ fs.lookup n = some v ∧ Q v H1) := by
  refine ⟨fun pins s σ H Q I h => ?_⟩
  refine attr_of hb (thn (he.run pins s σ H _ I h) fun u s1 hh => ?_)
  obtain ⟨x, H1, I1, rx, a, C, dd, fs, v, ex, T, hno, eh, ea, l, q⟩ := hh
  subst ex
  obtain rfl : u = Value.ref a := rx
  obtain ⟨⟨oe, vs, ha, hz, hd⟩, _⟩ := (show ObjOk X.prog X.w H1 s1.heap a (EvK (.ref C) (some dd) a) from I1.hok a _ eh)
  have hx : ObjOk X.prog X.w H1 s1.heap dd (.xd fs) := I1.hok dd _ ea
  obtain ⟨mA, hns, hr⟩ := hx
  obtain ⟨od, ho, hl⟩ := lookIn_ns hns
  obtain ⟨u, hu, ru⟩ := RelO.some_of (v := v) (o := mA n) (by rw [← l]; exact hr n)
  have J : PySem.W.InstAt s1.heap a oe C (some od) := ⟨ha, hz.1, by unfold PySem.W.notCls; rw [hd] <;> rfl, by rw [hz.2]; exact ho⟩
  exact HandSPX.exc_get I1.kIn J T.ga T.gg T.exC (PySem.W.findObj_own T.hdC hno rfl (by rw [hl, hu])) (handed_of ru) ⟨v, H1, I1.tok _, ru, q⟩
end L2
namespace Gs
open PySem L2
/-- what is known of the classes whose field n is read -/
def XFd (K : PySem.W.Frag) (ct : String → Addr) (n : Str) (t : String → Bool) : Prop := ∀ c, t c = true → XfC K (ct c) ∧ PySem.W.findIn K (.ref (ct c)) n = some none
def gFdE (n : Str) (t : String → Bool) : D → Option D
  | .ev c ks ds => if t c = true then (ks.zip ds).lookup n else none
  | _ => none
def eFdE (n : Str) (t : String → Bool) (f : E) : E := fun δ s => (f δ s).bind fun d s1 => R.ofO (gFdE n t d) s1
section
variable {X : Cx} {C : Cc}
theorem se_evf {e : Expr} {f : E} {n : Str} {pos : Pos} {t : String → Bool} (ht : XFd X.K C.ct n t) (he : SE X C e f) (hb : attributeBase e n X.env (eval e X.env) = eval e X.env := by rfl) : SE X C (.Attribute e n pos) (eFdE n t f) :=
  pe_weak (pe_evf he hb) fun σ H Q ⟨δ, v, re, eH, h⟩ => ⟨δ, v, re, eH, on_mono (on_bind h) fun d x v1 l1 s1 r1 h1 => by
    obtain ⟨z, ez, h9⟩ := on_ofO h1
    cases r1 with
    | ev0 hG =>
      simp only [gFdE] at ez
      split at ez <;> simp at ez
    | @ev a dd vs c ks ds hn hG hG2 hl hr =>
      simp only [gFdE] at ez
      split at ez
      · rename_i tc
        obtain ⟨T, hno⟩ := ht c tc
        have rp : RepP X.K C.ct v1.G v1.m (ks.zip ds) (ks.zip vs) := RepP.zip hr
        rcases rp.lookup (x := n) with ⟨q1, _⟩ | ⟨d1, y1, q1, q2, q3⟩
        · rw [q1] at ez; cases ez
        · rw [q1] at ez
          cases ez
          exact ⟨a, C.ct c, dd, _, y1, rfl, T, hno, s1.sub _ _ hG, s1.sub _ _ hG2, q2, h9 _ v1 .refl s1 rfl q3⟩
      · cases ez
    | _ => cases ez⟩
/-! isinstance of an exception, with fields or without -/
def rIsEw (K : PySem.W.Frag) : List V → Hp → VK → Prop := fun xs H Q => ∃ (a D : Addr) (dd : Addr) (fs : List (Str × V)) (c : V) (cv : Value) (b : Bool), xs = [.ref a, c] ∧ ClsV c cv ∧ H a = some (EvO (.ref D) (some dd) a) ∧ H dd = some (.xd fs) ∧ ExcC K D ∧ PySem.W.kitOne K (.ref D) cv = some b ∧ Q (.bl b) H
theorem call_isEw : CallR X (.builtin "isinstance") (rIsEw X.K) := by
  intro pins s σ H xs us Q I r h
  obtain ⟨a, D, dd, fs, c, cv, b, rfl, hcv, hH, hdd, EC, e, q⟩ := h
  cases r with
  | cons rx rr =>
    cases rr with
    | cons rt rr =>
      cases rr
      cases rx
      have ec := hcv.eq rt
      subst ec
      obtain ⟨⟨oe, vs, hget, hz, hv⟩, _⟩ := (show ObjOk X.prog X.w H s.heap a (EvO (.ref D) (some dd) a) from I.hok a _ hH)
      have hx : ObjOk X.prog X.w H s.heap dd (.xd fs) := I.hok dd _ hdd
      obtain ⟨mA, hns, hr⟩ := hx
      obtain ⟨od, ho, hl⟩ := lookIn_ns hns
      have J : PySem.W.InstAt s.heap a oe D (some od) := ⟨hget, hz.1, by unfold PySem.W.notCls; rw [hv] <;> rfl, by rw [hz.2]; exact ho⟩
      have hcl : (PySem.W.clsIn X.K D).isSome = true := by
        have hd := EC.hd
        unfold PySem.W.hasDictIn at hd
        cases q : PySem.W.clsIn X.K D with
        | some c => rfl
        | none => rw [q] at hd; simp at hd
      exact PySem.W.kia_one (PySem.W.kitx_exc hcl EC.hg EC.hk EC.hs EC.ha EC.hn EC.ht EC.hm) I.kIn J e (fun z => nomatch z) fun tk => ⟨.bl b, H, I.kept (t' := tk) fun _ _ z => z, rfl, q⟩
theorem call_isV : CallR X (.builtin "isinstance") (fun xs H Q => rIsi X.K xs H Q ∨ rIsEv X.K xs H Q ∨ rIsEw X.K xs H Q) := fun pins s σ H xs us Q I r h =>
  h.elim (call_isi pins s σ H xs us Q I r) fun h => h.elim (call_isEv pins s σ H xs us Q I r) (call_isEw pins s σ H xs us Q I r)
/-- as gIsC, of exceptions with fields, too -/
def gIsD (tb : String → Option Bool) : B1
  | .non => some (.bl false)
  | .ev c _ _ => (tb c).map .bl
  | _ => none
theorem se_isD {C : Cc} {a : Expr} {fa : E} {pf pn pos : Pos} {nx : Str} {cV : V} {cv : Value} {tb : String → Option Bool} (ha : SE X C a fa) (hg : Gl X "isinstance") (hm : X.mg "isinstance" = none) (hc : PE X (.Name nx pn) (tC cV)) (hk : ClsV cV cv) (hE : EI X.K C.ct tb cv)
    (hvi : bootBuiltins "isinstance" = some (.builtin "isinstance") := by decide +kernel)
    (hs : starEach [a, .Name nx pn] X.env = (false, eval a X.env) :: starEach [.Name nx pn] X.env := by rfl) (hpl : (backTo pos (starEach [.Name nx pn] X.env)).any (·.1) = false := by rfl)
    (hs2 : starEach [.Name nx pn] X.env = (false, eval (.Name nx pn) X.env) :: starEach [] X.env := by rfl) :
    SE X C (.Call (.Name "isinstance" pf) [a, .Name nx pn] [] pos) (eUn (gIsD tb) fa) :=
  pe_weak (pe_callB call_isV hg hm hvi (pa_cons ha (pa_cons hc pa_nil hs2) hs) (by decide) (by decide) hs hpl) fun σ H Q h => by
    obtain ⟨δ, v8, re, eH, h1⟩ := lift_un h
    refine ⟨δ, v8, re, eH, on_mono h1 fun d x v1 l1 s1 r1 h2 => ?_⟩
    obtain ⟨v2, dx, d2, eH2, sr, e, r2, h2⟩ := h2
    rw [← eH2]
    cases r2 with
    | non =>
      simp only [gIsD, Option.some.injEq] at e
      subst e
      exact .inl ⟨.non, cV, .type "NoneType", cv, false, rfl, hk, .base .non, hE.non, h2 _ v2 .refl sr rfl (.bl _)⟩
    | @ev a0 c ks0 ds0 r3 =>
      simp only [gIsD] at e
      cases q : tb c with
      | none => rw [q] at e; exact nomatch e
      | some b =>
        rw [q] at e
        simp only [Option.map_some, Option.some.injEq] at e
        subst e
        obtain ⟨h3, h4⟩ := hE.ev c b q
        cases r3 with
        | ev0 hG => exact .inr (.inl ⟨a0, C.ct c, cV, cv, b, rfl, hk, sr.sub _ _ hG, h3, h4, h2 _ v2 .refl sr rfl (.bl _)⟩)
        | ev n hG hG2 hl hr => exact .inr (.inr ⟨a0, C.ct c, _, _, cV, cv, b, rfl, hk, sr.sub _ _ hG, sr.sub _ _ hG2, h3, h4, h2 _ v2 .refl sr rfl (.bl _)⟩)
    | _ => simp only [gIsD, reduceCtorEq] at e
end
@[simp] theorem v_isD_non (tb : String → Option Bool) : gIsD tb .non = some (.bl false) := id rfl
@[simp] theorem v_isD_ev (tb : String → Option Bool) (c : String) (ks : List Str) (ds : List D) : gIsD tb (.ev c ks ds) = (tb c).map .bl := id rfl
@[simp] theorem v_eFdE (n : Str) (t : String → Bool) (f : E) (δ : Sl) (s : Sto) : eFdE n t f δ s = (f δ s).bind fun d s1 => R.ofO (gFdE n t d) s1 := id rfl
@[simp] theorem v_sRaiseF (c : String) (ns : List Str) (a : As) (δ : Sl) (s : Sto) : sRaiseF c ns a δ s = sBind (a δ s) δ fun ds s1 => match ds with
  | _ :: ys => if ys.length = ns.length ∧ ns.length ≤ 10 ∧ ns ≠ [] then .exc ⟨c, (ns.zip ys).reverse⟩ δ s1 else .stk
  | [] => .stk := id rfl
end Gs

/-! GSl: [::-1] of a list, a tuple, a text; slices of lists with a step. -/
namespace HT
open PySem PySem.Spec PyProof.Rows L2
section
variable {prog : Program} {w : World} {A : Around} {E : Value → Shared → Prop} {s : Shared}
theorem sliceApplied_rev {sl : Addr} {vs : Value} {n : Nat} {Q : Int × Int × Nat → Shared → Prop} (hs : s.heap.IsSliceOf sl .none .none vs) (ps : IsPart vs (some (-1)))
    (h : Q ((n : Int) - 1, -1, n) s) : wpAny (model prog w) A (Builtin.Slice.sliceApplied (.ref sl) (pure (n : Int))) Q E s := by
  obtain ⟨os, hos, hcs, hds⟩ := id hs
  unfold Builtin.Slice.sliceApplied Builtin.Slice.sliceFields
  refine wpAny_bind (wpAny_bind (wpAny_field hos hds (x := .none) rfl (wpAny_bind (wpAny_field hos hds (x := .none) rfl (wpAny_bind (wpAny_field hos hds (x := vs) rfl (wpAny_pure ?_)))))))
  refine wpAny_bind (slicePart_ ps ?_)
  show wpAny _ _ (if ((-1 : Int) == 0) = true then _ else _) _ _ s
  rw [if_neg (by decide)]
  refine wpAny_bind (slicePart_none (wpAny_bind (slicePart_none (wpAny_bind (wpAny_pure ?_)))))
  have e1 : Builtin.Slice.sliceAdjust none none (-1) (n : Int) = ((n : Int) - 1, -1) := by
    unfold Builtin.Slice.sliceAdjust
    simp
  have e2 : Builtin.Slice.slicePlaces ((n : Int) - 1) (-1) (-1) = n := by
    unfold Builtin.Slice.slicePlaces
    simp only [show ¬ ((-1 : Int) > 0) by decide, if_false, Int.neg_neg, Int.ediv_one]
    split <;> omega
  show wpAny _ _ (match Builtin.Slice.sliceAdjust none none (-1) (n : Int) with | (lo, hi) => pure (lo, (-1 : Int), Builtin.Slice.slicePlaces lo hi (-1))) _ _ s
  rw [e1]
  show wpAny _ _ (pure ((n : Int) - 1, (-1 : Int), Builtin.Slice.slicePlaces ((n : Int) - 1) (-1) (-1))) _ _ s
  rw [e2]
  exact wpAny_pure h
theorem fm_congr {α β : Type} {f g : α → Option β} : ∀ {l : List α}, (∀ x ∈ l, f x = g x) → l.filterMap f = l.filterMap g
  | [], _ => rfl
  | x :: l, h => by
    rw [List.filterMap_cons, List.filterMap_cons, h x (by simp), fm_congr fun y hy => h y (by simp [hy])]
theorem pick_rev (xs : Array Value) : ((List.range xs.size).filterMap fun (m : Nat) => xs[((xs.size : Int) - 1 + (m : Int) * -1).toNat]?).toArray = xs.toList.reverse.toArray := by
  congr 1
  apply List.ext_getElem?
  intro i
  have e : (List.range xs.size).filterMap (fun (m : Nat) => xs[((xs.size : Int) - 1 + (m : Int) * -1).toNat]?) = (List.range xs.size).map (fun m => xs.toList.reverse[m]!) := by
    rw [← List.filterMap_eq_map]
    apply fm_congr
    intro m hm
    have hm := List.mem_range.mp hm
    have e2 : ((xs.size : Int) - 1 + (m : Int) * -1).toNat = xs.size - 1 - m := by omega
    rw [e2]
    have h1 : xs.size - 1 - m < xs.size := by omega
    have h2 : m < xs.toList.reverse.length := by simpa using hm
    simp [h1, List.getElem!_eq_getElem?_getD, List.getElem?_reverse, hm]
  rw [e]
  by_cases h : i < xs.size
  · have h2 : i < xs.toList.reverse.length := by simpa using h
    rw [List.getElem?_map, List.getElem?_range h]
    simp only [Option.map_some]
    rw [List.getElem?_eq_getElem h2, List.getElem!_eq_getElem?_getD, List.getElem?_eq_getElem h2]
    rfl
  · rw [List.getElem?_eq_none (by simpa using h), List.getElem?_eq_none (by simpa using h)]
theorem getItem_tuple_rev {t sl : Addr} {items : Array Value} {vs : Value} {Q : Value → Shared → Prop} (ht : IsTup s.heap t items) (hs : s.heap.IsSliceOf sl .none .none vs) (ps : IsPart vs (some (-1)))
    (h : Q (.ref s.heap.objs.size) { s with heap := s.heap.push { cls := .type "tuple", data := .seq items.toList.reverse.toArray } })
    (hsz : items.size ≤ sizeLine) : wpAny (model prog w) A (getItem (.ref t) (.ref sl)) Q E s := by
  have htake : sizeOk (.seq items.toList.reverse.toArray) := by
    show items.toList.reverse.toArray.size ≤ sizeLine
    simpa using hsz
  obtain ⟨os, hos, hcs, hds⟩ := id hs
  have hTs : s.TypeIs (.ref sl) "slice" := ⟨os, hos, hcs⟩
  unfold getItem
  try with_reducible refine wpAny_holding ?_
  first | refine wpAny_bind (wpAny_pure ?_) | skip
  refine wpAny_bind (wpAny_sequenceKey ht.typeIs (by decide) ?_)
  refine wpAny_bind (wpAny_callSpecial?_slot (name := Str.ofString "__getitem__") ht.typeIs PyProof.Rows.slot_tuple_getitem
    (wpAny_call_entry PyProof.Rows.slot_tuple_getitem ht.typeIs entry_tuple_getitem ?_ (args_tuple_getitem _ _)))
  show wpAny _ _ (Builtin.Tuple.tupleItemsOf (.ref t) >>= _) _ _ s
  refine wpAny_bind (tupleItemsOf_ ht ?_)
  refine wpAny_bind (wpAny_typeOf hTs ?_)
  rw [if_pos (by decide)]
  refine wpAny_bind (sliceApplied_rev (n := items.size) hs ps ?_)
  have hno : ¬ (((items.size : Int) - 1 == 0 && (-1 : Int) == 1 && items.size == items.size) = true) := by
    intro q
    rw [Bool.and_eq_true, Bool.and_eq_true] at q
    exact absurd q.1.2 (by decide)
  show wpAny _ _ (if ((items.size : Int) - 1 == 0 && (-1 : Int) == 1 && items.size == items.size) = true then _ else _) _ _ s
  rw [if_neg hno, pick_rev]
  first
    | exact wpAny_bind (m := Builtin.Tuple.tupleExact _) (wpAny_newObj_type (wpAny_pure ⟨_, rfl, wpAny_pure h⟩) htake)
    | exact wpAny_bind (m := Builtin.Tuple.tupleExact _) (wpAny_newObj_type (wpAny_bind (wpAny_pure (wpAny_pure ⟨_, rfl, wpAny_pure h⟩))) htake)
    | exact wpAny_bind (wpAny_bind (m := Builtin.Tuple.tupleExact _) (wpAny_newObj_type (wpAny_pure (wpAny_pure ⟨_, rfl, wpAny_pure h⟩)) htake))
    | exact wpAny_bind (wpAny_bind (m := Builtin.Tuple.tupleExact _) (wpAny_newObj_type (wpAny_pure ⟨_, rfl, wpAny_pure h⟩) htake))
end
end HT
namespace L2
open PySem PySem.Spec PyProof.Rows
def revS (z : Str) : Str := ⟨z.cps.toList.reverse.toArray⟩
theorem str_pick_rev (x : Str) : (⟨((Builtin.Str.strSliceIndices none none (-1) x.length).filterMap (x.cps[·]?)).toArray⟩ : Str) = revS x := by
  unfold revS
  congr 2
  have e : Builtin.Str.strSliceIndices none none (-1) x.length = (List.range x.cps.size).map fun k => x.cps.size - 1 - k := PySem.W.krv_sliceRange x.cps.size
  rw [e, PySem.W.krv_range, List.filterMap_reverse, PySem.W.krv_all]
def tRevT (K : PySem.W.Frag) (te : TE) : TE := fun σ H Q => te σ H fun x H1 => (∃ a xs, x = .ref a ∧ SqL K H1 a xs ∧ ∀ p, H1 p = none → Q (.ref p) (upd H1 p (.lst xs.reverse))) ∨
  (∃ a xs, x = .ref a ∧ SqT K H1 a xs ∧ ∀ p, H1 p = none → Q (.ref p) (upd H1 p (.tup xs.reverse))) ∨ ∃ z, x = .str z ∧ z.length ≤ sizeLine ∧ Q (.str (revS z)) H1
section
variable {X : Cx}
theorem pe_revA {e : Expr} {te : TE} {k : Nat} {p1 p2 p3 pos : Pos} (he : PE X e te) : PE X (.Subscript e (.Slice none none (some (.UnaryOp .USub (.Constant (.int 1) k p1) p2)) p3) pos) (tRevT X.K te) := by
  refine ⟨fun pins s σ H Q I h => ?_⟩
  refine Subscript_ (thn (he.run pins s σ H _ I h) fun v s1 ⟨x, H1, I1, r1, q1⟩ => ?_)
  have hst : PO X (some (.UnaryOp .USub (.Constant (.int 1) k p1) p2)) (tPart (tUn (rU fun i => .int (-i)) (tC (.int 1)))) := po_some (pe_un un_neg pe_int)
  refine wpAny_Slice (thn (po_none.run pins s1 σ H1 (fun o H2 => o = none ∧ H2 = H1) I1 ⟨rfl, rfl⟩) fun vl s2 ⟨l, H2, I2, pl, el, e2⟩ => ?_)
  subst el e2
  refine thn (po_none.run pins s2 σ H2 (fun o H3 => o = none ∧ H3 = H2) I2 ⟨rfl, rfl⟩) fun vu s3 ⟨u, H3, I3, pu, eu, e3⟩ => ?_
  subst eu e3
  refine thn (hst.run pins s3 σ H3 (fun o H4 => o = some (-1) ∧ H4 = H3) I3 ⟨1, rfl, -1, rfl, rfl, rfl⟩) fun vs s4 ⟨o, H4, I4, ps, eo, e4⟩ => ?_
  subst eo e4
  have I5 : Inv X pins σ H4 { s4 with heap := s4.heap.push { cls := .type "slice", data := .fields #[vl, vu, vs] } } := I4.kept (t' := s4.toks) fun b ob q => Heap.get?_push_of_some _ q
  have el : vl = .none := by cases pl; rfl
  have eu : vu = .none := by cases pu; rfl
  rcases q1 with ⟨a, xs, ex, hx, q⟩ | ⟨a, xs, ex, hx, q⟩ | ⟨z, ex, hz, q⟩
  · subst ex
    cases r1
    obtain ⟨its, r, ht, hz⟩ := I5.list hx
    have hlen := r.length
    refine tail_any (ops := [.ref a, .ref s4.heap.objs.size]) ht.isList.typeIs (PySem.slot_list_getitem.lookup) ?_ (by with_unfolding_all rfl)
    refine wpAny_getItem_list_slice ht.isList (Heap.IsSliceOf.new _ vl vu vs) pl pu ps (by decide) ?_ (by rw [List.size_toArray]; omega)
    rw [PySem.W.krv_pick]
    refine ⟨.ref _, _, I5.laid (t' := s4.toks) (o := .lst xs.reverse) (fun b ob q => Heap.get?_push_of_some _ q) (Nat.le_refl _) ?_, rfl, q _ (I5.hok.fresh (Nat.le_refl _))⟩
    exact ⟨by rw [List.length_reverse]; exact hz, _, 0, r.reverse, Heap.get?_push_size _ rfl⟩
  · subst ex el eu
    cases r1
    obtain ⟨its, r, ht, hz⟩ := I5.tuple hx
    have hlen := r.length
    refine tail_any (ops := [.ref a, .ref s4.heap.objs.size]) ht.typeIs PyProof.Rows.slot_tuple_getitem.lookup ?_ (by with_unfolding_all rfl)
    refine HT.getItem_tuple_rev ht (Heap.IsSliceOf.new _ .none .none vs) ps ?_ (by rw [List.size_toArray]; omega)
    refine ⟨.ref _, _, I5.laid (t' := s4.toks) (o := .tup xs.reverse) (fun b ob q => Heap.get?_push_of_some _ q) (Nat.le_refl _) ?_, rfl, q _ (I5.hok.fresh (Nat.le_refl _))⟩
    exact ⟨by rw [List.length_reverse]; exact hz, _, r.reverse, IsTup.new _ _⟩
  · subst ex
    obtain ⟨t, rfl⟩ := r1
    obtain ⟨l', e1, e2⟩ := IsPart.raw pl
    obtain ⟨u', e3, e4⟩ := IsPart.raw pu
    obtain ⟨s', e5, e6⟩ := IsPart.raw ps
    obtain ⟨os, hos, hcs, hds⟩ := Heap.IsSliceOf.new s4.heap vl vu vs
    subst e1 e3 e5
    refine tail_any (ops := [.str z t, .ref s4.heap.objs.size]) (typeIs_str _ _ _) F.slot_str_getitem.lookup ?_ (by with_unfolding_all rfl)
    have hs1 : (s'.map (·.1)) = some (-1) := e6
    have hl0 : (l'.map (·.1)) = none := e2
    have hu0 : (u'.map (·.1)) = none := e4
    refine wpAny_getItem_str_slice (l := l') (u := u') (st := s') ⟨os, hos, hcs, hds⟩ (by rw [hs1]; rfl) ?_
    have em : sliceMade z t l' u' s' = Made.str (revS z) := by
      unfold sliceMade slicePicked
      rw [hs1, hl0, hu0]
      rw [if_neg (by simp)]
      congr 1
      exact str_pick_rev z
    rw [em]
    refine ⟨?_, .str _, H4, I5.tok _, ⟨_, rfl⟩, q⟩
    show (revS z).cps.size ≤ sizeLine
    simpa [revS, Str.length] using hz
end
end L2
namespace Gs
open PySem L2
def gRevA : B1
  | .lst xs => some (.lst xs.reverse)
  | .tup xs => some (.tup xs.reverse)
  | .str z => if z.length ≤ sizeLine then some (.str (L2.revS z)) else none
  | _ => none
section
variable {X : Cx} {C : Cc} {a : Expr} {fa : E} {pos : Pos}
theorem se_revA {k : Nat} {p1 p3 p4 : Pos} (ha : SE X C a fa) : SE X C (.Subscript a (.Slice none none (some (.UnaryOp .USub (.Constant (.int 1) k p1) p3)) p4) pos) (eUn gRevA fa) :=
  pe_weak (pe_revA ha) fun σ H Q h => by
    obtain ⟨δ, v, re, eH, h1⟩ := lift_un h
    refine ⟨δ, v, re, eH, on_mono h1 fun d x v1 l1 s1 r1 h2 => ?_⟩
    obtain ⟨v2, dx, d2, eH2, sr, e, r2, h2⟩ := h2
    rw [← eH2]
    cases r2 <;> simp only [gRevA, Option.some.injEq, reduceCtorEq] at e
    · rename_i z
      split at e
      · rename_i hz
        cases e
        exact .inr (.inr ⟨z, rfl, hz, h2 _ v2 .refl sr rfl (.str _)⟩)
      · cases e
    · rename_i c vs ds p q
      subst e
      exact .inr (.inl ⟨_, _, rfl, sqt_mono sr.sub p, fun l hl => let ⟨l9, s9⟩ := new_ok (o := .tup _) sr hl; h2 _ _ l9 s9 rfl (.tup (SqT.of upd_same) (l9.repl q.reverse))⟩)
    · rename_i c vs ds p q
      subst e
      exact .inl ⟨_, _, rfl, p, fun l hl => let ⟨l9, s9⟩ := new_ok (o := .lst _) sr hl; h2 _ _ l9 s9 rfl (.lst (SqL.of upd_same) (l9.repl q.reverse))⟩
end
@[simp] theorem v_revA_lst (xs : List D) : gRevA (.lst xs) = some (.lst xs.reverse) := id rfl
@[simp] theorem v_revA_tup (xs : List D) : gRevA (.tup xs) = some (.tup xs.reverse) := id rfl
@[simp] theorem v_revA_str (z : Str) : gRevA (.str z) = if z.length ≤ sizeLine then some (.str (L2.revS z)) else none := id rfl
end Gs

/-! GSm: sum of a list or a tuple. -/
namespace Gs
open PySem PySem.Spec PyProof.Rows L2
section
variable {prog : Program} {w : World} {A : Around} {E : Value → Shared → Prop} {s : Shared} {l : Addr} {its : List Value} {ns : List Int} {Q : Value → Shared → Prop}
theorem pre_sum (ns : List Int) : ∀ j, preSum (fun i => ns.getD i 0) j = (ns.take j).sum
  | 0 => rfl
  | j + 1 => by
    show preSum _ j + ns.getD j 0 = _
    rw [pre_sum ns j, List.take_add_one]
    cases h : ns[j]? with
    | none => simp [List.getD, h]
    | some x => simp [List.getD, h, List.sum_append]
theorem ints_at {its : List Value} {ns : List Int} (r : IntsAre its ns) : its.length = ns.length ∧ ∀ (i : Nat) (v : Value), its[i]? = some v → ∃ t, v = Value.int (ns.getD i 0) t := by
  induction r with
  | nil => exact ⟨rfl, fun i v h => nomatch h⟩
  | cons n t _ ih =>
    obtain ⟨h1, h2⟩ := ih
    refine ⟨by simp [h1], fun i v hi => ?_⟩
    cases i with
    | zero => simp at hi; exact ⟨_, hi.symm⟩
    | succ i =>
      obtain ⟨t, e⟩ := h2 i v (by simpa using hi)
      exact ⟨t, by simpa [List.getD] using e⟩
theorem sum_tup (hh : A.handled = none) (hl : IsTup s.heap l its.toArray) (hi : IntsAre its ns)
    (h : ∀ h' tk t', (∀ b o, s.heap.get? b = some o → h'.get? b = some o) → Q (.int ns.sum t') { s with heap := h', toks := tk }) : wpAny (model prog w) A (call (.builtin "sum") [.ref l]) Q E s := by
  obtain ⟨hlen, hat⟩ := ints_at hi
  have hlt : l < s.heap.objs.size := by obtain ⟨o, e, _⟩ := hl; exact Heap.lt_size e
  have ht : s.heap.IsTuple l its.toArray := hl
  refine call_sum_walkG (wpAny_pyIter_tuple ht ?_)
  refine ⟨_, _, _, _, _, _, fun i => ns.getD i 0, rfl, Walks.tuple (A := A.in1) hh _ l (Nat.ne_of_lt hlt) its.toArray, ⟨⟨_, Heap.get?_push_size _ rfl, rfl, rfl⟩, ?_⟩, fun b hb => ?_, fun i v hv => hat i v (by simpa using hv), fun h' tk t' hk => ?_⟩
  · obtain ⟨o, ho, r⟩ := ht
    exact ⟨o, Heap.get?_push_of_some _ ho, r⟩
  · show b < (s.heap.push _).objs.size
    rw [Heap.size_push]
    simp only [List.mem_cons, List.not_mem_nil, or_false] at hb
    rcases hb with rfl | rfl
    · exact Nat.lt_succ_self _
    · exact Nat.lt_succ_of_lt hlt
  · have e := pre_sum ns its.toArray.size
    rw [List.size_toArray, hlen, List.take_length] at e
    rw [List.size_toArray, hlen, e]
    refine h h' tk t' fun b o hb => hk b o ?_ (Heap.get?_push_of_some _ hb)
    simp only [List.mem_cons, List.not_mem_nil, or_false]
    exact Nat.ne_of_lt (Heap.lt_size hb)
end
section
variable {X : Cx}
theorem cr_sumT (hc : X.calm = true) : CallR X (.builtin "sum") (fun vs H Q => ∃ (a : Addr) (ns : List Int), vs = [V.ref a] ∧ SqT X.K H a (ns.map V.int) ∧ Q (.int ns.sum) H) := by
  intro pins s σ H vs us Q I r h
  obtain ⟨a, ns, rfl, hs, q⟩ := h
  obtain ⟨its, rv, hl, _⟩ := I.tuple hs
  rw [Vals.ref1 r]
  exact sum_tup (I.ok.hd hc) hl rv.ints fun h' tk t' hk => ⟨.int _, H, I.kept hk, ⟨_, rfl⟩, q⟩
def gSumA : BA
  | [.lst xs] => (intsOf xs).map fun ns => .int ns.sum
  | [.tup xs] => (intsOf xs).map fun ns => .int ns.sum
  | _ => none
theorem b_sumA {ct : String → Addr} (hc : X.calm = true) : CallR X (.builtin "sum") (rDA X.K ct gSumA) := by
  intro pins s σ H xs us Q I r h
  obtain ⟨v0, ds, d, rfl, sr, e, rl, h⟩ := h
  unfold gSumA at e
  split at e
  · rename_i ys
    cases q1 : intsOf ys with
    | none => rw [q1] at e; exact nomatch e
    | some ns =>
      rw [q1] at e
      simp only [Option.map_some, Option.some.injEq] at e
      subst e
      have e2 := intsOf_eq q1
      subst e2
      cases rl with
      | cons r1 r2 =>
        cases r2
        cases r1 with
        | lst p q =>
          have e3 := RepL.of_ints q
          subst e3
          exact cr_sum hc pins s σ _ _ us Q I r ⟨_, ns, rfl, p, h _ v0 .refl sr rfl (.int _)⟩
  · rename_i ys
    cases q1 : intsOf ys with
    | none => rw [q1] at e; exact nomatch e
    | some ns =>
      rw [q1] at e
      simp only [Option.map_some, Option.some.injEq] at e
      subst e
      have e2 := intsOf_eq q1
      subst e2
      cases rl with
      | cons r1 r2 =>
        cases r2
        cases r1 with
        | tup p q =>
          have e3 := RepL.of_ints q
          subst e3
          exact cr_sumT hc pins s σ _ _ us Q I r ⟨_, ns, rfl, sqt_mono sr.sub p, h _ v0 .refl sr rfl (.int _)⟩
  · exact nomatch e
end
@[simp] theorem v_sumA_lst (xs : List D) : gSumA [.lst xs] = (intsOf xs).map fun ns => .int ns.sum := id rfl
@[simp] theorem v_sumA_tup (xs : List D) : gSumA [.tup xs] = (intsOf xs).map fun ns => .int ns.sum := id rfl
end Gs

/-! GRp: repr of nested lists and tuples, in the law's own def: there no other repr is under way. -/
namespace Gs
open PySem PySem.Spec PyProof.Rows L2

mutual
theorem toPy_noDict : ∀ {d : D} {p : PyData}, toPy d = some p → p.hasDict = false
  | .non, _, e => by simp only [toPy, Option.some.injEq] at e; subst e; rfl
  | .bl _, _, e => by simp only [toPy, Option.some.injEq] at e; subst e; rfl
  | .int _, _, e => by simp only [toPy, Option.some.injEq] at e; subst e; rfl
  | .str _, _, e => by simp only [toPy, Option.some.injEq] at e; subst e; rfl
  | .fn _, _, e => by simp only [toPy] at e; exact nomatch e
  | .dct _ _, _, e => by simp only [toPy] at e; exact nomatch e
  | .ob _, _, e => by simp only [toPy] at e; exact nomatch e
  | .ev _ _ _, _, e => by simp only [toPy] at e; exact nomatch e
  | .tup xs, _, e => by
    simp only [toPy] at e
    cases q : toPyL xs with
    | none => rw [q] at e; exact nomatch e
    | some ps =>
      rw [q] at e
      simp only [Option.map_some, Option.some.injEq] at e
      subst e
      exact toPyL_noDict q
  | .lst xs, _, e => by
    simp only [toPy] at e
    cases q : toPyL xs with
    | none => rw [q] at e; exact nomatch e
    | some ps =>
      rw [q] at e
      simp only [Option.map_some, Option.some.injEq] at e
      subst e
      exact toPyL_noDict q
theorem toPyL_noDict : ∀ {ds : List D} {ps : List PyData}, toPyL ds = some ps → PyData.hasDictAll ps = false
  | [], _, e => by simp only [toPyL, Option.some.injEq] at e; subst e; rfl
  | d :: ds, _, e => by
    simp only [toPyL] at e
    cases q : toPy d with
    | none => rw [q] at e; simp at e
    | some p =>
      cases q2 : toPyL ds with
      | none => rw [q, q2] at e; simp at e
      | some ps =>
        rw [q, q2] at e
        simp only [Option.some.injEq] at e
        subst e
        simp only [PyData.hasDictAll, toPy_noDict q, toPyL_noDict q2, Bool.or_self]
end

/-- what repr tells of a list or a tuple -/
def reprD (d : D) : Option Str :=
  match toPy d with
  | some p => if p.showable = true ∧ p.shown.length ≤ sizeLine ∧ p.depth ≤ 60 then some p.shown else none
  | none => none
def gRepr : BA
  | [.lst xs] => (reprD (.lst xs)).map .str
  | [.tup xs] => (reprD (.tup xs)).map .str
  | [.int i] => if i.natAbs.log2 < 1920 then some (.str (Str.ofString (toString i))) else none
  | [.str x] => if (reprText x).length ≤ sizeLine then some (.str (reprText x)) else none
  | [.bl b] => some (.str (if b then "True" else "False"))
  | [.non] => some (.str "None")
  | _ => none
section
variable {X : Cx}
theorem b_repr {ct : String → Addr} (hg : X.A.guards = some []) (hu : X.A.units + 64 < cLine) : CallR X (.builtin "repr") (rDA X.K ct gRepr) := by
  intro pins s σ H xs us Q I r h
  obtain ⟨v0, ds, d, rfl, sr, e, rl, h⟩ := h
  have core : ∀ {d0 : D} {x : V} {u : Value} {a : Addr}, RepT X.K ct v0 d0 x → RelV x u → x = .ref a → (reprD d0).map .str = some d → wpAny (model X.prog X.w) X.A (PySem.call (.builtin "repr") [u]) (EP X pins σ Q) X.xe s := by
    intro d0 x u a r1 r2 ex e0
    subst ex
    unfold reprD at e0
    cases q : toPy d0 with
    | none => rw [q] at e0; exact nomatch e0
    | some p =>
      rw [q] at e0
      simp only at e0
      split at e0
      · rename_i c
        simp only [Option.map_some, Option.some.injEq] at e0
        subst e0
        obtain ⟨as, rr⟩ := Dp.reads I p _ u (r1.dp sr q) r2
        cases r2
        exact repr_of_reads' rr c.1 (PyData.noDict_hsm (toPy_noDict q)) hg (by have := c.2.2; omega) (fun _ _ e => e)
          (fun h' t tk hk => ⟨.str p.shown, _, I.kept hk, ⟨_, rfl⟩, h _ v0 .refl sr rfl (.str _)⟩) c.2.1
      · exact nomatch e0
  unfold gRepr at e
  split at e
  · cases rl with
    | cons r1 r2 =>
      cases r2
      obtain ⟨u, rfl, ru⟩ := vals1 r
      cases r1 with
      | lst p q => exact core (.lst p q) ru rfl e
  · cases rl with
    | cons r1 r2 =>
      cases r2
      obtain ⟨u, rfl, ru⟩ := vals1 r
      cases r1 with
      | tup p q => exact core (.tup p q) ru rfl e
  · cases rl with
    | cons r1 r2 =>
      cases r2
      cases r1
      obtain ⟨u, rfl, ru⟩ := vals1 r
      obtain ⟨t, rfl⟩ := ru
      split at e
      · rename_i c
        simp only [Option.some.injEq] at e
        subst e
        exact PySem.P.repr_of_int c ⟨.str _, _, I.tok _, ⟨_, rfl⟩, h _ v0 .refl sr rfl (.str _)⟩
      · exact nomatch e
  · cases rl with
    | cons r1 r2 =>
      cases r2
      cases r1
      obtain ⟨u, rfl, ru⟩ := vals1 r
      obtain ⟨t, rfl⟩ := ru
      split at e
      · rename_i c
        simp only [Option.some.injEq] at e
        subst e
        exact PySem.P.repr_of_str ⟨.str _, _, I.tok _, ⟨_, rfl⟩, h _ v0 .refl sr rfl (.str _)⟩ c
      · exact nomatch e
  · cases rl with
    | cons r1 r2 =>
      cases r2
      cases r1
      obtain ⟨u, rfl, ru⟩ := vals1 r
      cases ru
      simp only [Option.some.injEq] at e
      subst e
      exact PySem.P.repr_of_bool ⟨.str _, _, I.tok _, ⟨_, rfl⟩, h _ v0 .refl sr rfl (.str _)⟩
  · cases rl with
    | cons r1 r2 =>
      cases r2
      cases r1
      obtain ⟨u, rfl, ru⟩ := vals1 r
      cases ru
      simp only [Option.some.injEq] at e
      subst e
      exact PySem.P.repr_of_none ⟨.str _, _, I.tok _, ⟨_, rfl⟩, h _ v0 .refl sr rfl (.str _)⟩
  · exact nomatch e
end

/-! ### a def that only the top calls -/
/-- FnOk where no frame lies below -/
structure FnTop (P : Program) (w : World) (K : PySem.W.Frag) (mg : Str → Option Value) (base : Heap) (CX : CXT) (k : Nat) (f : Addr) (fd : FuncData) (ps : List Str) (sp : Sp) : Prop where
  run : ∀ (outer : List Env) (s : Shared) (H : Hp) (args : Args) (us : List Value) (vs : List V) (Q : VK) (E : XK), Room k callerA → Env0 P w K mg base callerA outer s H → BindsTo s fd args (ps.zip us) → Vals vs us → sp vs H Q E →
    codeAny (model P w) callerA (.call (.ref f) args) (CR CX outer P w H s Q E) s
section
variable {P : Program} {w : World} {K : PySem.W.Frag} {mg : Str → Option Value} {base : Heap} {ct : String → Addr}
theorem fn_top {x qual : Str} {st : Stmt} {f : Addr} {fd : FuncData} {N ps : List Str} {k : Nat} {body : S} (F : L2.Fun K x qual st f fd) (sc : FnScope N ps (defScope st)) (hn : ps.length ≤ N.length)
    (hb : ∀ (cdv : Value) (A : Around) (outer : List Env) (s : Shared) (H : Hp) (v : Vw) (E : XK), Room k (A.deeper (PyProof.Rows.envOfC qual (defScope st) s.heap.objs.size f cdv)) → A.guards = some [] →
      SSs (cxOf (L2.CX P w) P w K mg base N qual (defScope st) f cdv A outer s H E) ⟨v, ct, fun cls d _ H => E cls d H⟩ (defBody st) body) :
    FnTop P w K mg base (L2.CX P w) (k + 1) f fd ps (spG K ct ps.length (runG N.length body)) := by
  obtain ⟨oc, od, kV, doc, pm, an, cdv, cty, osl, rfl, lk, hcd⟩ := F.ex
  refine ⟨fun outer s H args us vs Q E hr e0 bd r ⟨v, ds, e, sr, l, rp, h⟩ => ?_⟩
  have hl : vs.length = ps.length := by rw [← l, rp.length]
  have KX : K.In s.heap := e0.mod.kin.keeps fun b o e => (e0.bs b o e).1
  have hkind : ∀ y ∈ ps.zip us, (defScope st).names.lookup y.1 = some .local ∨ ((defScope st).names.lookup y.1 = some .cell ∧ ((cellsFrom (s.heap.objs.size + 1) (defScope st).names []).lookup y.1).isSome = true) := by
    intro y hy
    rcases sc.par y.1 (List.of_mem_zip (a := y.1) (b := y.2) hy).1 with q | q
    · exact .inl q
    · exact .inr ⟨q, PySem.W.cellsFrom_some _ _ _ (.inl q)⟩
  refine codeAny_call_function hr.depth (KX _ _ lk) rfl sc.co sc.gen rfl (PySem.W.codeRec_of KX hcd) (bd _ _ _ _ ?_)
  refine wpAny_newFunctionEnv_cells sc.kind hkind fun env he s1 ic => ?_
  subst he
  refine ⟨(e0.mod.nolimit.keeps fun b o e => (e0.bs b o e).1).keeps ic.toInCall.keep, codeAny_func ?_⟩
  have I := inv_start (CX := L2.CX P w) (E := E) (qual := qual) (f := f) (cd := cdv) sc hr.hd e0 hl r ic
  subst e
  have rs : RE K ⟨v, ct, fun cls d _ H => E cls d H⟩ (L2.start N vs) (ds.map some ++ List.replicate (N.length - ds.length) none) v := re_start .refl sr rp (by omega)
  refine wpAny_mono ((hb cdv callerA outer s v.H v E (hr.deeper _) rfl).run [] s1 (L2.start N vs) v.H { nx := fun _ H' => Q .non H', rt := Q } I ⟨_, v, rs, rfl, ?_⟩) (fun fl s' hs => ?_) fun e s' hs => hs
  · unfold runG at h
    cases e : body (ds.map some ++ List.replicate (N.length - ds.length) none) v.st with
    | nx δ s => rw [e] at h; exact fun σ' v' re l es => h .non v' l re.sr es .non
    | rt d s => rw [e] at h; exact fun x v' l sr' es r => h x v' l sr' es r
    | exc e2 δ s => rw [e] at h; exact fun cls dd σ' v' re l es rx => h cls dd v' l re.sr es rx
    | bk δ s => rw [e] at h; exact h.elim
    | ct δ s => rw [e] at h; exact h.elim
    | stk => rw [e] at h; exact h.elim
  · cases fl with
    | ret u =>
      obtain ⟨x, σ', H', J, rv, q⟩ := hs
      exact ⟨x, H', J.os, J.bare, J.base, J.hok, rv, q⟩
    | next =>
      obtain ⟨σ', H', J, q⟩ := hs
      exact ⟨.non, H', J.os, J.bare, J.base, J.hok, rfl, q⟩
    | brk =>
      obtain ⟨_, _, _, q⟩ := hs
      exact q.elim
    | cont =>
      obtain ⟨_, _, _, q⟩ := hs
      exact q.elim
end
/-- the law's answer, where the law's own def is run by the top alone -/
theorem law_top {mb mg : Str → Option Value} {P : Program} {w : World} {K : PySem.W.Frag} {CX : CXT} {k : Nat} {fa a : Addr} {fd : FuncData} {x : Str} {sp : Sp} {s₁ : Shared} {vs : List Value} {ns : List Int}
    (KX : K.In s₁.heap) (hns : s₁.heap.Ns mainGlobals mg) (hb : s₁.heap.Ns builtinsNs mb) (hbb : ∀ x : Str, x ≠ "__name__" → mb x = bootBuiltins x) (hlim : s₁.heap.NoLimit) (hg : s₁.gens = #[])
    (ha : s₁.heap.get? a = some { cls := .type "list", data := .seq vs.toArray }) (hi : IntsAre vs ns) (hl : ns.length ≤ sizeLine) (hr : Room k callerA)
    (F : ∀ base : Heap, K.In base → base.Ns mainGlobals mg → FnTop P w K mg base CX k fa fd [x] sp) (hbind : ∀ (s : Shared) (u : Value), BindsTo s fd ⟨[u], []⟩ [(x, u)])
    (hsp : ∀ H : Hp, Only H → SqL K H a (ns.map V.int) → sp [.ref a] H (fun v _ => v = .bl true) fun _ _ _ => False)
    (hCX : ∀ H e s', CX [] H s₁ (fun _ _ _ => False) e s' → False) :
    codeAny (model P w) callerA (.call (.ref fa) ⟨[.ref a], []⟩) (fun r s' => r = .ok (.ret (.bool true)) ∧ OldK s₁.heap s'.heap ∧ s'.os = s₁.os ∧ AllBare s'.gens) s₁ := by
  have rv := vals_ints hi
  -- what is told apart: the script, where it is none of the module's own
  obtain ⟨H, hO, hS, hok, hA, hK⟩ : ∃ H : Hp, Only H ∧ SqL K H a (ns.map V.int) ∧ HOk P w H s₁.heap ∧ (∀ b, H b ≠ none → b = a) ∧ (H a ≠ none → K.lookup a = none) := by
    cases hk : K.lookup a with
    | some o =>
      have e := KX a o hk
      rw [ha] at e
      cases e
      exact ⟨fun _ => none, fun _ => .inl rfl, .inr ⟨_, vs.toArray, _, hk, rfl, rfl, rfl, by rw [List.size_toArray, hi.length]; exact hl, by simpa using rv⟩, fun b u z => (nomatch z), fun b z => (z rfl).elim, fun z => (z rfl).elim⟩
    | none =>
      refine ⟨fun b => if b = a then some (.frz { cls := .type "list", data := .seq vs.toArray } (.lst (ns.map V.int))) else none, fun b => ?_, .inl (.inr ⟨{ cls := .type "list", data := .seq vs.toArray }, if_pos rfl⟩), fun b u z => ?_, fun b z => ?_, fun _ => rfl⟩
      · rcases Decidable.em (b = a) with e | e
        · exact .inr ⟨_, _, if_pos e⟩
        · exact .inl (if_neg e)
      · rcases Decidable.em (b = a) with e | e
        · subst e
          have z' := (if_pos rfl).symm.trans z
          cases z'
          exact ⟨ha, by rw [List.length_map]; exact hl, vs, _, rv, ha⟩
        · exact nomatch ((if_neg e).symm.trans z)
      · rcases Decidable.em (b = a) with e | e
        · exact e
        · exact (z (if_neg e)).elim
  have un : ∀ {b : Addr} {o : Obj}, s₁.heap.get? b = some o → ¬ (b = a ∧ H a ≠ none) → (hidT s₁.heap H).get? b = some o := fun {b o} e n => hidT_get e (by
    cases q : H b with
    | none => rfl
    | some u =>
      have e' := hA b (by rw [q]; simp)
      subst e'
      exact (n ⟨rfl, by rw [q]; simp⟩).elim)
  have ns' : ∀ {b : Addr} {m : Str → Option Value}, s₁.heap.Ns b m → (hidT s₁.heap H).Ns b m := fun {b m} ⟨o, es, ep, e, d, r⟩ => ⟨o, es, ep, un e (fun z => by
    have e2 := z.1
    subst e2
    rw [ha] at e
    cases e
    exact nomatch d), d, r⟩
  have hKb : K.In (hidT s₁.heap H) := fun b o e => un (KX b o e) fun z => by
    have e2 := z.1
    subst e2
    rw [hK z.2] at e
    cases e
  have hM : Mod K mg (hidT s₁.heap H) := ⟨hKb, ns' hns, ⟨mb, ns' hb, hbb⟩, let ⟨mc, h1, h2⟩ := hlim; ⟨mc, ns' h1, h2⟩⟩
  have none0 : ∀ {b : Addr}, b ∉ ([] : List Addr) := by intro b z; cases z
  have e0 : Env0 P w K mg (hidT s₁.heap H) callerA [] s₁ H := ⟨rfl, hM, fun b o e => of_hidT e, Nat.le_of_eq (hidT_size _ _), trivial, fun b hb => (none0 hb).elim, hok, .of_eq hg⟩
  refine codeAny_mono ((F _ hKb (ns' hns)).run [] s₁ H ⟨[.ref a], []⟩ [.ref a] [.ref a] _ _ hr e0 (hbind s₁ (.ref a)) (.cons rfl .nil) (hsp H hO hS)) fun r s' h => ?_
  cases r with
  | error e => exact (hCX H e s' h).elim
  | ok fl =>
    cases fl with
    | next => exact False.elim h
    | brk => exact False.elim h
    | cont => exact False.elim h
    | ret u =>
      obtain ⟨v, H', os, bare, un', hok', r', q⟩ := h
      have q' : v = .bl true := q
      subst q'
      obtain rfl : u = Value.bool true := r'
      refine ⟨rfl, OldK.of_keep fun b o e => ?_, os, bare⟩
      cases q : H b with
      | none => exact un'.keep b o e q none0 none0
      | some u =>
        rcases hO b with z | ⟨ob, xs, z⟩
        · rw [q] at z; cases z
        · obtain ⟨e1, _⟩ := hok b _ z
          obtain ⟨e2, _⟩ := hok' b _ (un'.frzs b ob _ z)
          rw [e] at e1
          cases e1
          exact e2
theorem walk_top {l : PySem.W.OpenLaw} {n k : Nat} {q : Program} {loose : List Str} {XP : (Str → Option Value) → Heap → Prop} {YP : World → Heap → Prop} {d : DefRec} {K : Params → PySem.W.Frag} {CX : World → CXT} {sp : World → Sp} {x : Str}
    (hn : l.most = some n) (hn2 : n ≤ sizeLine) (hdf : d.params.defaults = []) (hr : Room k callerA)
    (hY : ∀ (w : World) (h : Heap), YP w h → (K w.params).In h)
    (F : ∀ (w : World) (mg : Str → Option Value) (fa : Addr) (h : Heap), (K w.params).In h → h.Ns mainGlobals mg → mg d.name = some (.ref fa) →
      ∃ fd : FuncData, (∀ (s : Shared) (u : Value), BindsTo s fd ⟨[u], []⟩ [(x, u)]) ∧
        ∀ base : Heap, (K w.params).In base → base.Ns mainGlobals mg → FnTop l.prog w (K w.params) mg base (CX w) k fa fd [x] (sp w))
    (hsp : ∀ (w : World) (H : Hp) (a : Addr) (ns : List Int), ns.length ≤ n → Only H → SqL (K w.params) H a (ns.map V.int) → sp w [.ref a] H (fun v _ => v = .bl true) fun _ _ _ => False)
    (hCX : ∀ (w : World) (H : Hp) (s : Shared) (e : Value) (s' : Shared), CX w [] H s (fun _ _ _ => False) e s' → False) :
    PySem.W.WalkO q loose XP YP l.row.toRowW d [] (fun f vs => PySem.call f vs) := by
  refine Att.attach_call hn hdf fun w s₀ s₁ mg mb fa o pm cd doc a vs ns G Y ho hd hcd hmg hobj hints hlen hg => ?_
  obtain ⟨fd, hb, hF⟩ := F w mg fa _ (hY w _ Y) G.T.g hmg
  exact law_top (hY w _ Y) G.T.g G.T.b G.T.builtins G.T.nolimit hg hobj hints (Nat.le_trans hlen hn2) hr hF hb (fun H hO hS => hsp w H a ns hlen hO hS) fun H e s' => hCX w H s₁ e s'
theorem fn_lawT {P : Program} {w : World} {K : PySem.W.Frag} {mg : Str → Option Value} {base : Heap} {CX : CXT} {k : Nat} {f : Addr} {fd : FuncData} {ps : List Str} {ct : String → Addr} {F : List D → Sto → R D} (h : FnTop P w K mg base CX k f fd ps (spG K ct 1 F)) :
    FnTop P w K mg base CX k f fd ps (spL K F) := by
  refine ⟨fun outer s H args us vs Q E a b c d ⟨a0, ns, s', e0, hS, hF, q⟩ => h.run outer s H args us vs Q E a b c d ?_⟩
  subst e0
  refine ⟨⟨H, H, fun _ => none, []⟩, [.lst (ns.map D.int)], rfl, ⟨Same.refl _, fun _ _ => rfl, fun i o e => ?_, fun i j o u a e => ?_⟩, rfl, .cons (.lst hS (RepL.ints ns)) .nil, ?_⟩
  · simp at e
  · simp at e
  · show match F [.lst (ns.map D.int)] [] with
      | .ok d s => _
      | .exc e s => _
      | .stk => _
    rw [hF]
    intro x v' l sr es r
    cases r
    exact q v'.H
end Gs

/-! GIs3: isinstance(x, (T, U, V)). -/
namespace Gs
open PySem PySem.Spec PyProof.Rows L2
def gIsi3 (n m l : String) : B1 := fun d => (tyN d).map fun t => .bl (isTy t n || isTy t m || isTy t l)
section
variable {X : Cx} {C : Cc} {pos : Pos} {a : Expr} {fa : E}
theorem se_isi3 {pf pn pm pl pt : Pos} {kt : Nat} {n m l : String} {nx mx lx : Str} (ha : SE X C a fa) (hg : Gl X "isinstance") (hm : X.mg "isinstance" = none) (hgn : Gl X nx) (hmn : X.mg nx = none) (hv : bootBuiltins nx = some (.type n)) (hgm : Gl X mx) (hmm : X.mg mx = none) (hvm : bootBuiltins mx = some (.type m)) (hgl : Gl X lx) (hml : X.mg lx = none) (hvl : bootBuiltins lx = some (.type l)) (hk : okTy n = true := by decide +kernel) (hk2 : okTy m = true := by decide +kernel) (hk3 : okTy l = true := by decide +kernel)
    (hn : nx ≠ "__name__" := by decide) (hd : (nx == ("__debug__" : Str)) = false := by decide) (hn2 : mx ≠ "__name__" := by decide) (hd2 : (mx == ("__debug__" : Str)) = false := by decide) (hn3 : lx ≠ "__name__" := by decide) (hd3 : (lx == ("__debug__" : Str)) = false := by decide) (hvi : bootBuiltins "isinstance" = some (.builtin "isinstance") := by decide +kernel)
    (hs : starEach [a, .Tuple [.Name nx pn, .Name mx pm, .Name lx pl] kt pt] X.env = (false, eval a X.env) :: starEach [.Tuple [.Name nx pn, .Name mx pm, .Name lx pl] kt pt] X.env := by rfl) (hpl : (backTo pos (starEach [.Tuple [.Name nx pn, .Name mx pm, .Name lx pl] kt pt] X.env)).any (·.1) = false := by rfl)
    (hs2 : starEach [.Tuple [.Name nx pn, .Name mx pm, .Name lx pl] kt pt] X.env = (false, eval (.Tuple [.Name nx pn, .Name mx pm, .Name lx pl] kt pt) X.env) :: starEach [] X.env := by rfl)
    (hs3 : starEach [.Name nx pn, .Name mx pm, .Name lx pl] X.env = (false, eval (.Name nx pn) X.env) :: starEach [.Name mx pm, .Name lx pl] X.env := by rfl) (hs4 : starEach [.Name mx pm, .Name lx pl] X.env = (false, eval (.Name mx pm) X.env) :: starEach [.Name lx pl] X.env := by rfl) (hs5 : starEach [.Name lx pl] X.env = (false, eval (.Name lx pl) X.env) :: starEach [] X.env := by rfl) :
    SE X C (.Call (.Name "isinstance" pf) [a, .Tuple [.Name nx pn, .Name mx pm, .Name lx pl] kt pt] [] pos) (eUn (gIsi3 n m l) fa) :=
  pe_weak (pe_callB call_isiT hg hm hvi (pa_cons ha (pa_cons (pe_tup (pa_cons (pe_bltn (v := .ty n) hgn hmn hv rfl hn hd) (pa_cons (pe_bltn (v := .ty m) hgm hmm hvm rfl hn2 hd2) (pa_cons (pe_bltn (v := .ty l) hgl hml hvl rfl hn3 hd3) pa_nil hs5) hs4) hs3)) pa_nil hs2) hs) (by decide) (by decide) hs hpl) fun σ H Q h => by
    obtain ⟨δ, v8, re, eH, h1⟩ := lift_un h
    refine ⟨δ, v8, re, eH, on_mono h1 fun d v v1 l1 s1 r1 h2 => ?_⟩
    obtain ⟨v2, dx, d2, eH2, sr, e, r2, h2⟩ := h2
    rw [← eH2]
    unfold gIsi3 at e
    cases q : tyN dx with
    | none => rw [q] at e; exact nomatch e
    | some t =>
      rw [q] at e
      simp only [Option.map_some, Option.some.injEq] at e
      subst e
      have z : kitB t n = some (isTy t n) := of_decide_eq_true (List.all_eq_true.mp hk t (tyN_mem q))
      have z2 : kitB t m = some (isTy t m) := of_decide_eq_true (List.all_eq_true.mp hk2 t (tyN_mem q))
      have z3 : kitB t l = some (isTy t l) := of_decide_eq_true (List.all_eq_true.mp hk3 t (tyN_mem q))
      refine ⟨by show 3 ≤ sizeLine; decide, fun c hc => ?_⟩
      obtain ⟨l9, s9⟩ := more_ok sr (same_new hc (.tup [V.ty n, V.ty m, V.ty l]))
      have ty : TyX X.K (upd v2.H c (.tup [V.ty n, V.ty m, V.ty l])) v (.type t) := (r2.more l9 rfl (same_new hc _)).tyx s9 q
      refine ⟨v, c, [.ty n, .ty m, .ty l], .type t, [.type n, .type m, .type l], isTy t n || isTy t m || isTy t l, rfl, upd_same, .cons (.ty n) (.cons (.ty m) (.cons (.ty l) .nil)), ty, ?_, h2 _ _ l9 s9 rfl (.bl _)⟩
      rw [Bool.or_assoc]
      refine kitAny_cons (kit_ty z) (fun b1 => ?_) (fun b1 => ?_)
      · rw [b1, Bool.false_or]
        refine kitAny_cons (kit_ty z2) (fun b2 => ?_) (fun b2 => ?_)
        · rw [b2, Bool.false_or]
          exact kitAny_cons (kit_ty z3) (fun b3 => by rw [b3]; exact kitAny_nil) (fun b3 => b3)
        · rw [b2, Bool.true_or]
      · rw [b1, Bool.true_or]
end
@[simp] theorem v_isi3 (n m l : String) (d : D) : gIsi3 n m l d = (tyN d).map fun t => .bl (isTy t n || isTy t m || isTy t l) := id rfl
end Gs

/-! GFo: walks over lists of the store (each turn asks that the list is still as it was), in for and in list comprehensions. -/
namespace Gs
open PySem PySem.Spec PyProof.Rows L2
/-- the things that are walked, and the place in the store, where they stand in a list of it -/
abbrev Wk := List D × Option Nat
def Stl (q : Wk) (s : Sto) : Prop := ∀ k, q.2 = some k → s[k]? = some (.lst q.1)
abbrev AsO := Sl → Sto → R Wk
structure ItO (K : PySem.W.Frag) (ct : String → Addr) (J : It) (v : Vw) (q : Wk) : Prop where
  go : ∀ i w, Le v w → SR K ct w → Stl q w.st → i < q.1.length → J.go i w.H
  stop : ∀ i w, Le v w → SR K ct w → Stl q w.st → q.1.length ≤ i → J.stop i w.H
  yld : ∀ i w x H', Le v w → SR K ct w → Stl q w.st → i < q.1.length → J.yld i w.H x H' → ∃ d w2, q.1[i]? = some d ∧ w2.H = H' ∧ Le w w2 ∧ SR K ct w2 ∧ w2.st = w.st ∧ Rep K ct w2.G w2.m d x
abbrev rIO (K : PySem.W.Frag) (ct : String → Addr) : Wk → It → Vw → Prop := fun q J v => ItO K ct J v q
def liftIO (K : PySem.W.Frag) (C : Cc) (f : AsO) : TI := fun σ H P => ∃ δ v, RE K C σ δ v ∧ v.H = H ∧ on K C σ v (rIO K C.ct) (f δ v.st) fun _ J v' => P J v'.H
abbrev SIO (X : Cx) (C : Cc) (tg e : Expr) (f : AsO) : Prop := PI X tg e (liftIO X.K C f)
open Classical in
noncomputable def forO (q : Wk) (p : Pt) (body : S) : List D → Sl → Sto → RS
  | [], δ, s => if Stl q s then .nx δ s else .stk
  | d :: ds, δ, s => if Stl q s then (match bindP p d δ with
    | none => .stk
    | some δ1 => match body δ1 s with
      | .nx δ2 s2 => forO q p body ds δ2 s2
      | .ct δ2 s2 => forO q p body ds δ2 s2
      | .bk δ2 s2 => .nx δ2 s2
      | r => r) else .stk
noncomputable def sForO (it : AsO) (p : Pt) (body : S) : S := fun δ s => sBind (it δ s) δ fun q s1 => forO q p body q.1 δ s1
open Classical in
noncomputable def lcO (q : Wk) (p : Pt) (c : T) (e : E) (δ : Sl) : List D → Sto → R (List D)
  | [], s => if Stl q s then .ok [] s else .stk
  | d :: ds, s => if Stl q s then (match bindP p d δ with
    | none => .stk
    | some δ1 => match c δ1 s with
      | .ok true s1 => (match e δ1 s1 with
        | .ok y s2 => (match lcO q p c e δ ds s2 with
          | .ok r s3 => .ok (y :: r) s3
          | _ => .stk)
        | _ => .stk)
      | .ok false s1 => lcO q p c e δ ds s1
      | _ => .stk) else .stk
theorem lcO_exc {q : Wk} {p : Pt} {c : T} {e : E} {δ : Sl} : ∀ (ds : List D) (s : Sto) (ex : Ex) (s' : Sto), lcO q p c e δ ds s ≠ .exc ex s'
  | [], s, ex, s', z => by
    simp only [lcO] at z
    split at z <;> exact nomatch z
  | d :: ds, s, ex, s', z => by
    simp only [lcO] at z
    split at z
    · split at z
      · exact nomatch z
      · split at z
        · split at z
          · split at z <;> exact nomatch z
          · exact nomatch z
        · exact lcO_exc ds _ _ _ z
        · exact nomatch z
    · exact nomatch z
noncomputable def fLcO (it : AsO) (vs : List Nat) (p : Pt) (c : T) (e : E) : Fr := fun δ s => (it δ s).bind fun q s1 => (lcO q p c e (wipeD δ vs) q.1 s1).bind fun xs s2 => if xs.length ≤ sizeLine then .ok xs s2 else .stk
section
variable {X : Cx} {C : Cc} {pos : Pos} {tg iter : Expr}
theorem ss_forO {body : List Stmt} {f : AsO} {p : Pt} {fb : S} (hp : PassesOwn (model X.prog X.w) X.A X.env X.xe) (hc : X.calm = true) (hi : SIO X C tg iter f) (hg : SG X C tg p) (hb : SSs X C body fb)
    (hs : ∀ x, foldedSetIterable iter X.env x = pure x := by intro _; rfl) : SS X C (.For tg iter body [] pos) (sForO f p fb) := ps_weak (ps_for hp hc hi hg hb hs) fun Dn σ H ⟨δ, v, re, eH, h⟩ => by
  refine ⟨δ, v, re, eH, on_mono (onS_R re h) fun wk J v1 l1 s1 ok h0 => ?_⟩
  obtain ⟨items, hit⟩ : ∃ items, wk.1 = items := ⟨_, rfl⟩
  refine ⟨fun i m σ H => m = items.length - i ∧ i ≤ items.length ∧ ∃ δ w, RE X.K C σ δ w ∧ w.H = H ∧ Le v1 w ∧ onS X.K C w (forO wk p fb (items.drop i) δ w.st) Dn, ⟨items.length, by simp, Nat.zero_le _, δ, v1, re.step l1 s1, rfl, .refl, by have h0 : onS X.K C v1 (forO wk p fb wk.1 δ v1.st) Dn := h0; rw [hit] at h0; exact h0⟩, ?_⟩
  rintro i m σ2 H2 ⟨rfl, hi, δ2, w, re2, rfl, lw, q⟩
  have hst : Stl wk w.st := by
    cases e9 : items.drop i with
    | nil =>
      rw [e9] at q
      simp only [forO] at q
      by_cases z : Stl wk w.st
      · exact z
      · rw [if_neg z] at q; exact q.elim
    | cons d ds =>
      rw [e9] at q
      simp only [forO] at q
      by_cases z : Stl wk w.st
      · exact z
      · rw [if_neg z] at q; exact q.elim
  by_cases hlt : i < items.length
  · refine .inr ⟨ok.go i w lw re2.sr hst (by rw [hit]; exact hlt), fun σ H => ∃ δ w, RE X.K C σ δ w ∧ w.H = H ∧ Le v1 w ∧ onS X.K C w (forO wk p fb (items.drop (i + 1)) δ w.st) Dn, fun σ' H' n => ⟨items.length - (i + 1), by omega, rfl, hlt, n⟩, fun x H' y => ?_⟩
    obtain ⟨d, w3, ed, rfl, l3, s3, e3, r3⟩ := ok.yld i w x H' lw re2.sr hst (by rw [hit]; exact hlt) y
    rw [hit] at ed
    have ed2 : items.drop i = d :: items.drop (i + 1) := by
      rw [List.drop_eq_getElem_cons hlt]
      rw [List.getElem?_eq_getElem hlt] at ed
      rw [Option.some.inj ed]
    rw [ed2] at q
    simp only [forO] at q
    rw [if_pos hst] at q
    cases eb : bindP p d δ2 with
    | none => rw [eb] at q; exact q.elim
    | some δ3 =>
      rw [eb] at q
      refine ⟨d, δ2, w3, δ3, re2.step l3 s3, rfl, r3, eb, fun σ4 re4 _ => ⟨δ3, w3, re4, rfl, ?_⟩⟩
      simp only at q
      rw [e3]
      cases ef : fb δ3 w.st with
      | nx δ4 s4 => rw [ef] at q; exact fun σ' w' re' l' es => ⟨δ4, w', re', rfl, (lw.trans l3).trans l', by subst es; exact onS_same (l3.trans l') q⟩
      | ct δ4 s4 => rw [ef] at q; exact fun σ' w' re' l' es => ⟨δ4, w', re', rfl, (lw.trans l3).trans l', by subst es; exact onS_same (l3.trans l') q⟩
      | bk δ4 s4 => rw [ef] at q; exact fun σ' w' re' l' es => q σ' w' re' (l3.trans l') es
      | rt d s4 => rw [ef] at q; exact q
      | exc e4 δ4 s4 => rw [ef] at q; exact fun cls dd σ' w' re' l' es rx => q cls dd σ' w' re' (l3.trans l') es rx
      | stk => rw [ef] at q; exact q
  · have ei : i = items.length := by omega
    subst ei
    rw [List.drop_length] at q
    simp only [forO] at q
    rw [if_pos hst] at q
    exact .inl ⟨ok.stop _ w lw re2.sr hst (by rw [hit]; exact Nat.le_refl _), q σ2 w re2 .refl rfl⟩


/-! ### what is walked -/
theorem itO_of {K : PySem.W.Frag} {ct : String → Addr} {J : It} {v : Vw} {items : List D} (h : ItOk K ct J v items) : ItO K ct J v (items, none) where
  go := fun i w l s _ hi => h.go i w l s hi
  stop := fun i w l s _ hi => h.stop i w l s hi
  yld := fun i w x H' l s _ hi y => h.yld i w x H' l s hi y
theorem itO_own {K : PySem.W.Frag} {ct : String → Addr} {v : Vw} {a : Addr} {k : Nat} {items : List D} (h : v.m k = some a) : ItO K ct (Itl K a) v (items, some k) where
  go := fun i w l s st hi => by
    obtain ⟨a', em, _, vs, hh, r⟩ := s.obj k _ (st k rfl) rfl
    rw [l.m k a h] at em
    cases em
    obtain ⟨x, e, _⟩ := r.get (List.getElem?_eq_getElem hi)
    exact ⟨vs, x, SqL.of hh, e⟩
  stop := fun i w l s st hi => by
    obtain ⟨a', em, _, vs, hh, r⟩ := s.obj k _ (st k rfl) rfl
    rw [l.m k a h] at em
    cases em
    exact ⟨vs, SqL.of hh, by rw [← r.length]; exact hi⟩
  yld := fun i w x H' l s st hi y => by
    obtain ⟨a', em, _, vs, hh, r⟩ := s.obj k _ (st k rfl) rfl
    rw [l.m k a h] at em
    cases em
    obtain ⟨x', e, rv⟩ := r.get (List.getElem?_eq_getElem hi)
    obtain ⟨rfl, y2⟩ := y
    have z := y2 vs (SqL.of hh)
    rw [e] at z
    cases z
    exact ⟨_, w, List.getElem?_eq_getElem hi, rfl, .refl, s, rfl, rv⟩
def wkOf (s : Sto) (d : D) : Option Wk := match d with
  | .ob k => (match s[k]? with
    | some (.lst xs) => some (xs, some k)
    | _ => none)
  | d => (seqOf d).map fun xs => (xs, none)
def iSeqO (f : E) : AsO := fun δ s => (f δ s).bind fun d s1 => R.ofO (wkOf s1 d) s1
theorem si_seqO {e : Expr} {f : E} (he : SE X C e f) : SIO X C tg e (iSeqO f) := by
  refine ⟨fun pins s σ H Rr I ⟨δ, v, re, eH, h⟩ => ?_⟩
  unfold iSeqO at h
  have hz := on_bind (rel := rE X.K C.ct) h
  cases q : f δ v.st with
  | stk => rw [q] at hz; exact hz.elim
  | exc e s1 => exact (pi_list he).run pins s σ H Rr I ⟨δ, v, re, eH, by rw [q] at hz ⊢; exact hz⟩
  | ok d s1 =>
    rw [q] at hz
    have go : ∀ (P : V → Vw → Prop), (∀ x v1, Le v v1 → SR X.K C.ct v1 → v1.st = s1 → Rep X.K C.ct v1.G v1.m d x → P x v1) → on X.K C σ v (rE X.K C.ct) (f δ v.st) fun _ x v' => P x v' := fun P w => by rw [q]; exact w
    cases d with
    | lst xs =>
      refine (pi_list he).run pins s σ H Rr I ⟨δ, v, re, eH, go _ fun x v1 l1 sr1 es r1 => ?_⟩
      have h9 := hz x v1 l1 sr1 es r1
      cases r1 with
      | @lst a vs _ p rl => exact ⟨a, rfl, ⟨vs, sr1.sub.seq p⟩, on_self sr1 h9 (itO_of (itOk_list p rl))⟩
    | tup xs =>
      refine (pi_tup he).run pins s σ H Rr I ⟨δ, v, re, eH, go _ fun x v1 l1 sr1 es r1 => ?_⟩
      have h9 := hz x v1 l1 sr1 es r1
      cases r1 with
      | @tup a vs _ p rl => exact ⟨a, rfl, ⟨vs, sqt_mono sr1.sub p⟩, on_self sr1 h9 (itO_of (itOk_tup p rl))⟩
    | str z =>
      refine (pi_str he).run pins s σ H Rr I ⟨δ, v, re, eH, go _ fun x v1 l1 sr1 es r1 => ?_⟩
      have h9 := hz x v1 l1 sr1 es r1
      cases r1
      exact ⟨z, rfl, on_self sr1 h9 (itO_of itOk_str)⟩
    | ob k =>
      refine (pi_list he).run pins s σ H Rr I ⟨δ, v, re, eH, go _ fun x v1 l1 sr1 es r1 => ?_⟩
      have h9 := hz x v1 l1 sr1 es r1
      subst es
      simp only [wkOf] at h9
      split at h9
      · rename_i xs ek
        cases r1 with
        | @ob _ a em =>
          obtain ⟨a', em', _, vs, hh, _⟩ := sr1.obj k _ ek rfl
          exact ⟨a, rfl, ⟨vs, SqL.of (by rw [em] at em'; cases em'; exact hh)⟩, on_self sr1 h9 (itO_own em)⟩
      · exact h9.elim
    | _ => exact (pi_list he).run pins s σ H Rr I ⟨δ, v, re, eH, go _ fun x v1 l1 sr1 es r1 => (hz x v1 l1 sr1 es r1).elim⟩
end
section
variable {X : Cx} {C : Cc} {pos : Pos}
theorem lift_lcO {K : PySem.W.Frag} {it : AsO} {vs : List Nat} {p : Pt} {c : T} {e : E} (hp : ∀ i ∈ idxP p, i ∈ vs) {σ : L2.St} {H : Hp} {Q : VK} (h : liftF K C (fLcO it vs p c e) σ H Q) :
    tLc (liftIO K C it) (liftG K C.nox p) (liftT K C.nox c) (liftE K C.nox e) vs σ H Q := by
  obtain ⟨δ, v, re, eH, h⟩ := h
  refine ⟨δ, v, re, eH, on_mono (onF_bind h) fun wk J v1 l1 sr1 ok h1 => ?_⟩
  obtain ⟨items, hit⟩ : ∃ items, wk.1 = items := ⟨_, rfl⟩
  intro L hD
  have h2 : onF K C σ v1 ((lcO wk p c e (wipeD δ vs) items v1.st).bind fun xs s2 => if xs.length ≤ sizeLine then .ok xs s2 else .stk) fun _ p v' => Q (.ref p) v'.H := by
    have h1 : onF K C σ v1 ((lcO wk p c e (wipeD δ vs) wk.1 v1.st).bind fun xs s2 => if xs.length ≤ sizeLine then .ok xs s2 else .stk) fun _ p v' => Q (.ref p) v'.H := h1
    rw [hit] at h1
    exact h1
  clear h1
  cases q1 : lcO wk p c e (wipeD δ vs) items v1.st with
  | stk => rw [q1] at h2; exact h2.elim
  | exc ex s' => exact absurd q1 (lcO_exc _ _ _ _)
  | ok xs s9 =>
    rw [q1] at h2
    have h3 : xs.length ≤ sizeLine ∧ ∀ (va : List V) (v2 : Vw), Le v1 v2 → SR K C.ct v2 → v2.st = s9 → Aside v2 L va → RepL K C.ct v2.G v2.m xs va → Q (.ref L) v2.H := by
      have h4 : onF K C σ v1 (if xs.length ≤ sizeLine then .ok xs s9 else .stk) fun _ p v' => Q (.ref p) v'.H := h2
      by_cases z : xs.length ≤ sizeLine
      · rw [if_pos z] at h4
        exact ⟨z, fun va v2 l2 s2 es a2 ra => h4 L va v2 l2 s2 es hD a2.g a2.h a2.no ra⟩
      · rw [if_neg z] at h4
        exact h4.elim
    obtain ⟨hz, fin⟩ := h3
    clear h2
    have start : ∃ v2, v2.H = upd v1.H L (.lst []) ∧ Le v1 v2 ∧ SR K C.ct v2 ∧ Aside v2 L [] ∧ v2.st = v1.st := by
      obtain ⟨l2, s2, no⟩ := newH (u := .lst []) sr1 hD
      exact ⟨⟨v1.G, upd v1.H L (.lst []), v1.m, v1.st⟩, rfl, l2, s2, ⟨upd_same, sr1.free hD, no⟩, rfl⟩
    refine ⟨fun i m H2 => m = items.length - i ∧ i ≤ items.length ∧ ∃ (v2 : Vw) (acc rest : List D) (va : List V), v2.H = H2 ∧ Le v1 v2 ∧ SR K C.ct v2 ∧ Aside v2 L va ∧ RepL K C.ct v2.G v2.m acc va ∧
      lcO wk p c e (wipeD δ vs) (items.drop i) v2.st = .ok rest s9 ∧ acc ++ rest = xs, ?_, ?_⟩
    · obtain ⟨v2, e2, l2, s2, a2, es⟩ := start
      exact ⟨items.length, by simp, Nat.zero_le _, v2, [], xs, [], e2, l2, s2, a2, .nil, by rw [es]; exact q1, rfl⟩
    rintro i m H2 ⟨rfl, hi, v2, acc, rest, va, rfl, l2, s2, a2, ra, el, ex⟩
    have hst : Stl wk v2.st := by
      cases e9 : items.drop i with
      | nil =>
        rw [e9] at el
        simp only [lcO] at el
        by_cases z : Stl wk v2.st
        · exact z
        · rw [if_neg z] at el; exact nomatch el
      | cons d ds =>
        rw [e9] at el
        simp only [lcO] at el
        by_cases z : Stl wk v2.st
        · exact z
        · rw [if_neg z] at el; exact nomatch el
    by_cases hlt : i < items.length
    · refine .inr ⟨ok.go i v2 l2 s2 hst (by rw [hit]; exact hlt), fun H3 => ∃ (v2 : Vw) (acc rest : List D) (va : List V), v2.H = H3 ∧ Le v1 v2 ∧ SR K C.ct v2 ∧ Aside v2 L va ∧ RepL K C.ct v2.G v2.m acc va ∧
        lcO wk p c e (wipeD δ vs) (items.drop (i + 1)) v2.st = .ok rest s9 ∧ acc ++ rest = xs, fun H' n => ⟨items.length - (i + 1), by omega, rfl, hlt, n⟩, fun x H' y => ?_⟩
      obtain ⟨d, v3, ed, rfl, l3, s3, e3, r3⟩ := ok.yld i v2 x H' l2 s2 hst (by rw [hit]; exact hlt) y
      rw [hit] at ed
      have ed2 : items.drop i = d :: items.drop (i + 1) := by
        rw [List.drop_eq_getElem_cons hlt]
        rw [List.getElem?_eq_getElem hlt] at ed
        rw [Option.some.inj ed]
      rw [ed2] at el
      simp only [lcO] at el
      rw [if_pos hst] at el
      cases eb : bindP p d (wipeD δ vs) with
      | none => rw [eb] at el; exact nomatch el
      | some δ1 =>
        rw [eb] at el
        simp only at el
        have re3 := (((re.step l1 sr1).step l2 s2).step l3 s3)
        refine ⟨d, wipeD δ vs, v3, δ1, (re3.wipe vs).wish _, rfl, r3, eb, fun σ4 re4 o4 => ⟨wipe_off o4 hp, δ1, v3, re4, rfl, ?_⟩⟩
        rw [e3]
        cases ec : c δ1 v2.st with
        | stk => rw [ec] at el; exact nomatch el
        | exc _ _ => rw [ec] at el; exact nomatch el
        | ok b s4 =>
          rw [ec] at el
          intro b2 v4 l4 s4' es4 eb2
          cases eb2
          cases b with
          | true =>
            rw [if_pos rfl]
            simp only at el
            refine ⟨δ1, v4, re4.step l4 s4', rfl, ?_⟩
            rw [es4]
            cases ee : e δ1 s4 with
            | stk => rw [ee] at el; exact nomatch el
            | exc _ _ => rw [ee] at el; exact nomatch el
            | ok y0 s5 =>
              rw [ee] at el
              intro y5 v5 l5 s5' es5 r5
              simp only at el
              cases er : lcO wk p c e (wipeD δ vs) (items.drop (i + 1)) s5 with
              | stk => rw [er] at el; exact nomatch el
              | exc _ _ => rw [er] at el; exact nomatch el
              | ok rest2 s6 =>
                rw [er] at el
                simp only [R.ok.injEq] at el
                obtain ⟨el, es6⟩ := el
                subst el
                subst es6
                have l25 := (l3.trans l4).trans l5
                have a5 := a2.step l25
                have hl := ra.length
                have hl2 : acc.length + (rest2.length + 1) = xs.length := by rw [← ex]; simp
                obtain ⟨s7, ow7⟩ := side_ok (u := .lst (va ++ [y5])) s5' a5.g a5.no
                refine ⟨va, a5.h, by omega, ⟨v5.G, upd v5.H L (.lst (va ++ [y5])), v5.m, v5.st⟩, acc ++ [y0], rest2, va ++ [y5], rfl, ?_, s7, ⟨upd_same, a5.g, fun q => a5.no (ow7 _ q)⟩, (l25.repl ra).append (RepL.one r5), ?_, by rw [List.append_assoc]; exact ex⟩
                · have l15 := l2.trans l25
                  exact ⟨l15.g, l15.m, fun b o hb nb => by
                    show upd v5.H L _ b = some o
                    rw [upd_ne (ne_of_none hb hD)]
                    exact l15.h b o hb nb, l15.nw, fun b q => l15.ow b (ow7 b q), fun b q => by
                    have q' : upd v5.H L (.lst (va ++ [y5])) b = none := q
                    by_cases z : b = L
                    · rw [z, upd_same] at q'; cases q'
                    · rw [upd_ne z] at q'
                      exact l15.al b q'⟩
                · show lcO wk p c e (wipeD δ vs) (items.drop (i + 1)) v5.st = .ok rest2 s6
                  rw [es5]
                  exact er
          | false =>
            rw [if_neg Bool.false_ne_true]
            simp only at el
            have l24 := l3.trans l4
            exact ⟨v4, acc, rest, va, rfl, l2.trans l24, s4', a2.step l24, l24.repl ra, by rw [es4]; exact el, ex⟩
    · have ei : i = items.length := by omega
      subst ei
      rw [List.drop_length] at el
      simp only [lcO] at el
      rw [if_pos hst] at el
      simp only [R.ok.injEq] at el
      obtain ⟨el, es⟩ := el
      subst el
      rw [List.append_nil] at ex
      subst ex
      exact .inl ⟨ok.stop _ v2 l2 s2 hst (by rw [hit]; exact Nat.le_refl _), fin va v2 l2 s2 es a2 ra⟩
variable {elt tg iter : Expr} {ifs : List Expr} {scope : Scope} {it : AsO} {p : Pt} {c : T} {e : E}
theorem sf_lcO (own : List (Str × Nat)) (hc : X.calm = true) (hN : X.N.Nodup) (hi : SIO X C tg iter it) (ok : BlkOk X.N X.env.scope scope own) (hp : ∀ i ∈ idxP p, i ∈ own.map (·.2))
    (hg : ∀ (s : Shared) (H : Hp) (c0 : Addr) (cl : List (Str × Addr)) (fp : List Addr), SG (X.blk s H scope (compEnvC scope cl c0 X.env) fp) C.nox tg p)
    (ht : ∀ (s : Shared) (H : Hp) (c0 : Addr) (cl : List (Str × Addr)) (fp : List Addr), STs (X.blk s H scope (compEnvC scope cl c0 X.env) fp) C.nox ifs c)
    (he : ∀ (s : Shared) (H : Hp) (c0 : Addr) (cl : List (Str × Addr)) (fp : List Addr), SE (X.blk s H scope (compEnvC scope cl c0 X.env) fp) C.nox elt e) (hs : ∀ x, foldedSetIterable iter X.env x = pure x := by intro _; rfl) :
    SF X C (.ListComp elt [⟨tg, iter, ifs, 0⟩] scope pos) (fLcO it (own.map (·.2)) p c e) :=
  pe_weak (pe_lc hc hN hi ok hg ht he hs) fun σ H Q h => lift_lcO hp h
theorem ss_setLcO (i : Nat) {g : Fr → E} {y : Str} {py spos : Pos} (own : List (Str × Nat)) (hgz : ∀ σ H Q, liftE X.K C (g (fLcO it (own.map (·.2)) p c e)) σ H Q → liftF X.K C (fLcO it (own.map (·.2)) p c e) σ H Q) (hc : X.calm = true) (hN : X.N.Nodup) (hy : X.N[i]? = some y) (hyl : X.env.scope.names.lookup y = some .local)
    (hsw : swapsWith (.ListComp elt [⟨tg, iter, ifs, 0⟩] scope pos) (some (.Name y py)) spos.line X.env = pure true) (hi : SIO X C tg iter it) (ok : BlkOk X.N X.env.scope scope own) (hp : ∀ i ∈ idxP p, i ∈ own.map (·.2))
    (hg : ∀ (s : Shared) (H : Hp) (c0 : Addr) (cl : List (Str × Addr)) (fp : List Addr), SG (X.blk s H scope (compEnvC scope cl c0 X.env) fp) C.nox tg p)
    (ht : ∀ (s : Shared) (H : Hp) (c0 : Addr) (cl : List (Str × Addr)) (fp : List Addr), STs (X.blk s H scope (compEnvC scope cl c0 X.env) fp) C.nox ifs c)
    (he : ∀ (s : Shared) (H : Hp) (c0 : Addr) (cl : List (Str × Addr)) (fp : List Addr), SE (X.blk s H scope (compEnvC scope cl c0 X.env) fp) C.nox elt e) (hs : ∀ x, foldedSetIterable iter X.env x = pure x := by intro _; rfl) :
    SS X C (.Assign [.Name y py] (.ListComp elt [⟨tg, iter, ifs, 0⟩] scope pos) spos) (sSet i (g (fLcO it (own.map (·.2)) p c e))) :=
  ps_weak (ps_setLc hc hN hy hyl hsw hi ok hg ht he hs) fun Dn σ H h => lift_setLc (g := g) (fun _ _ _ z => lift_lcO hp (hgz _ _ _ z)) h
end
@[simp] theorem v_sForO (it : AsO) (p : Pt) (b : S) (δ : Sl) (s : Sto) : sForO it p b δ s = sBind (it δ s) δ fun q s1 => forO q p b q.1 δ s1 := id rfl
@[simp] theorem v_iSeqO (f : E) (δ : Sl) (s : Sto) : iSeqO f δ s = (f δ s).bind fun d s1 => R.ofO (wkOf s1 d) s1 := id rfl
@[simp] theorem v_fLcO (it : AsO) (vs : List Nat) (p : Pt) (c : T) (e : E) (δ : Sl) (s : Sto) : fLcO it vs p c e δ s = (it δ s).bind fun q s1 => (lcO q p c e (wipeD δ vs) q.1 s1).bind fun xs s2 => if xs.length ≤ sizeLine then .ok xs s2 else .stk := id rfl
@[simp] theorem wk_lst (s : Sto) (xs : List D) : wkOf s (.lst xs) = some (xs, none) := id rfl
@[simp] theorem wk_tup (s : Sto) (xs : List D) : wkOf s (.tup xs) = some (xs, none) := id rfl
@[simp] theorem wk_str (s : Sto) (x : Str) : wkOf s (.str x) = some (signs x, none) := id rfl
theorem wk_ob {s : Sto} {k : Nat} {xs : List D} (h : s[k]? = some (.lst xs)) : wkOf s (.ob k) = some (xs, some k) := by simp only [wkOf, h]
@[simp] theorem wk_mid (s0 g : Sto) (xs : List D) : wkOf (s0 ++ .lst xs :: g) (.ob s0.length) = some (xs, some s0.length) := wk_ob (get_mid _ _ _)
theorem stl_none (xs : List D) (s : Sto) : Stl (xs, none) s := fun k h => nomatch h
theorem stl_some {xs : List D} {k : Nat} {s : Sto} (h : s[k]? = some (.lst xs)) : Stl (xs, some k) s := fun j e => by cases e; exact h
@[simp] theorem forO_none (xs : List D) (p : Pt) (b : S) : ∀ (ds : List D) (δ : Sl) (s : Sto), forO (xs, none) p b ds δ s = forD p b ds δ s
  | [], δ, s => by simp only [forO, forD, if_pos (stl_none xs s)]
  | d :: ds, δ, s => by
    simp only [forO, forD, if_pos (stl_none xs s)]
    cases bindP p d δ with
    | none => rfl
    | some δ1 =>
      simp only
      cases b δ1 s <;> first | rfl | exact forO_none xs p b ds _ _
@[simp] theorem lcO_none (xs : List D) (p : Pt) (c : T) (e : E) (δ : Sl) : ∀ (ds : List D) (s : Sto), lcO (xs, none) p c e δ ds s = lcD p c e δ ds s
  | [], s => by simp only [lcO, lcD, if_pos (stl_none xs s)]
  | d :: ds, s => by
    simp only [lcO, lcD, if_pos (stl_none xs s)]
    cases bindP p d δ with
    | none => rfl
    | some δ1 =>
      simp only
      cases hc : c δ1 s with
      | ok b s1 =>
        cases b with
        | true =>
          simp only
          cases he : e δ1 s1 with
          | ok y s2 =>
            simp only
            rw [lcO_none xs p c e δ ds s2]
            try (cases lcD p c e δ ds s2 <;> rfl)
          | _ => rfl
        | false => exact lcO_none xs p c e δ ds s1
      | _ => rfl
/-- where the walk leaves the store -/
theorem lcO_keep {q : Wk} {p : Pt} {c : T} {e : E} {δ : Sl} {s : Sto} (h : Stl q s) {α : Type} (g f : α → D) : ∀ l : List α, (∀ a ∈ l, ∃ δ1, bindP p (g a) δ = some δ1 ∧ c δ1 s = .ok true s ∧ e δ1 s = .ok (f a) s) → lcO q p c e δ (l.map g) s = .ok (l.map f) s
  | [], _ => by simp only [List.map_nil, lcO, if_pos h]
  | x :: l, hl => by
    obtain ⟨δ1, e1, e2, e3⟩ := hl x (by simp)
    have ih := lcO_keep h g f l fun a ha => hl a (by simp [ha])
    simp only [List.map_cons, lcO, if_pos h, e1, e2, e3, ih]
end Gs

/-! GDp: a call that only looks at the lists of the store, at any depth. -/
namespace Gs
open PySem L2
/-- the frozen look of a datum, all through -/
def deepD (s : Sto) : Nat → D → D
  | 0, d => d
  | n + 1, .ob i => match s[i]? with
    | some (.lst xs) => .lst (xs.map (deepD s n))
    | _ => .ob i
  | n + 1, .lst xs => .lst (xs.map (deepD s n))
  | n + 1, .tup xs => .tup (xs.map (deepD s n))
  | _ + 1, d => d
section
variable {K : PySem.W.Frag} {ct : String → Addr} {v : Vw}
theorem RepL.mapp {K : PySem.W.Frag} {ct : String → Addr} {G G' : Hp} {m : Nat → Option Addr} {f : D → D} (h : ∀ d x, Rep K ct G m d x → Rep K ct G' m (f d) x) : ∀ {ds : List D} {xs : List V}, RepL K ct G m ds xs → RepL K ct G' m (ds.map f) xs
  | _, _, .nil => .nil
  | _, _, .cons r rs => .cons (h _ _ r) (RepL.mapp h rs)
theorem deep_rep (s : SR K ct v) : ∀ (n : Nat) {d : D} {x : V}, Rep K ct v.G v.m d x → Rep K ct v.lookG v.m (deepD v.st n d) x
  | 0, d, x, r => r.mono (lookG_same s) .refl
  | n + 1, d, x, r => by
    have ih : ∀ d x, Rep K ct v.G v.m d x → Rep K ct v.lookG v.m (deepD v.st n d) x := fun d x r => deep_rep s n r
    cases d with
    | ob i =>
      cases e : v.st[i]? with
      | none =>
        have : deepD v.st (n + 1) (.ob i) = .ob i := by simp only [deepD, e]
        rw [this]
        exact r.mono (lookG_same s) .refl
      | some o =>
        cases o with
        | lst xs =>
          have : deepD v.st (n + 1) (.ob i) = .lst (xs.map (deepD v.st n)) := by simp only [deepD, e]
          rw [this]
          cases r with
          | @ob _ a em =>
            obtain ⟨a', em', g, vs, hh, rr⟩ := s.obj i _ e rfl
            rw [em] at em'
            cases em'
            have : v.lookG a = some (.lst vs) := by
              unfold Vw.lookG
              rw [if_pos ⟨i, xs, e, em⟩]
              exact hh
            exact .lst (SqL.of this) (RepL.mapp ih rr)
        | _ =>
          have : deepD v.st (n + 1) (.ob i) = .ob i := by simp only [deepD, e]
          rw [this]
          exact r.mono (lookG_same s) .refl
    | lst xs =>
      cases r with
      | lst h rr => exact .lst ((lookG_same s).seq h) (RepL.mapp ih rr)
    | tup xs =>
      cases r with
      | tup h rr => exact .tup (sqt_mono (lookG_same s) h) (RepL.mapp ih rr)
    | _ => exact r.mono (lookG_same s) .refl
theorem deep_repL (s : SR K ct v) (n : Nat) {ds : List D} {xs : List V} (r : RepL K ct v.G v.m ds xs) : RepL K ct v.lookG v.m (ds.map (deepD v.st n)) xs := RepL.mapp (fun _ _ r => deep_rep s n r) r
end
noncomputable def eCallZ (F : List D → Sto → R D) (a : As) : E := fun δ s => (a δ s).bind fun ds s1 => thawR s1 (F (ds.map (deepD s1 12)) (gones s1.length))
section
variable {X : Cx} {C : Cc} {pos p : Pos} {x : Str} {e : Expr} {es : List Expr} {fa : As} {k n : Nat} {f : Addr} {fd : FuncData} {ps : List Str} {F : List D → Sto → R D}
theorem se_callZ (hF : FnOk X.prog X.w X.K X.mg X.base (L2.CX X.prog X.w) k f fd ps (spG X.K C.ct n F)) (hr : Room k X.A) (tk : Takes X C.W) (hg : Gl X x) (hm : X.mg x = some (.ref f)) (hk : PySem.W.keepIn X.K (.ref f) = true) (hb : Binds X.K fd ps [])
    (ha : SA X C (e :: es) fa) (hl : LenA fa n) (hdb : (x == ("__debug__" : Str)) = false := by decide) (he : starEach (e :: es) X.env = (false, eval e X.env) :: starEach es X.env := by rfl) (hpl : (backTo pos (starEach es X.env)).any (·.1) = false := by rfl) :
    SE X C (.Call (.Name x p) (e :: es) [] pos) (eCallZ F fa) :=
  pe_weak (pe_callS hF hr hg hm hk hb (fun σ => passAt tk σ) ha hdb he hpl) fun σ H Q ⟨δ, v, re, eH, h⟩ => ⟨δ, v, re, eH, on_mono (on_eq (on_bind h)) fun ds vs v1 l1 s1 r1 h1 => by
    obtain ⟨h1, s, q⟩ := h1
    refine ⟨⟨v1.lookG, v1.H, v1.m, gones v1.st.length⟩, ds.map (deepD v1.st 12), rfl, look_ok s1, by rw [List.length_map]; exact hl _ _ _ _ q, deep_repL s1 12 r1, ?_⟩
    show match F (ds.map (deepD v1.st 12)) (gones v1.st.length) with
      | .ok d s => _
      | .exc e s => _
      | .stk => _
    unfold thawR at h1
    cases z : F (ds.map (deepD v1.st 12)) (gones v1.st.length) with
    | stk => rw [z] at h1; exact h1.elim
    | exc e2 s2 => rw [z] at h1; exact h1.elim
    | ok d s2 =>
      rw [z] at h1
      simp only at h1
      split at h1
      · rename_i hz
        obtain ⟨h3, h4, h5⟩ := hz
        intro x2 v' l' s' es r'
        obtain ⟨l2, s3⟩ := thaw_ok (k := s2.length) s1 l' s' (by rw [es]; exact h5) h4
        have rep : ∀ G m, Rep X.K C.ct G m d x2 := by
          cases r' <;> first
            | exact fun G m => .non
            | exact fun G m => .bl _
            | exact fun G m => .int _
            | exact fun G m => .str _
            | (simp only [scal, Bool.false_eq_true] at h3)
        exact h1 x2 ⟨lessG v1 v'.G, v'.H, v'.m, v1.st ++ gones (s2.length - v1.st.length)⟩ l2 s3 rfl (rep _ _)
      · exact h1.elim⟩
end
@[simp] theorem v_eCallZ (F : List D → Sto → R D) (a : As) (δ : Sl) (s : Sto) : eCallZ F a δ s = (a δ s).bind fun ds s1 => thawR s1 (F (ds.map (deepD s1 12)) (gones s1.length)) := id rfl
end Gs

namespace Law
open PySem L2 Gs
/-! the text by places -/
def topS (i : Nat) : Stmt := PySem.Challenge.pw_countgen_k55_whole_terms_said.main.body.getD i (.Pass ⟨0, 0, 0, 0⟩)
abbrev s_l_alike : Stmt := topS 31
abbrev N_l_alike : List Str := ["_law_one", "_law_other", "_law_here", "_law_there"]
abbrev P_l_alike : List Str := ["_law_one", "_law_other"]
theorem sc_l_alike : FnScope N_l_alike P_l_alike (defScope s_l_alike) := ⟨rfl, rfl, rfl, by decide +kernel, rfl, by decide +kernel, by decide +kernel⟩
abbrev s_l_whole : Stmt := topS 30
abbrev N_l_whole : List Str := ["_law_thing_here"]
abbrev P_l_whole : List Str := ["_law_thing_here"]
theorem sc_l_whole : FnScope N_l_whole P_l_whole (defScope s_l_whole) := ⟨rfl, rfl, rfl, by decide +kernel, rfl, by decide +kernel, by decide +kernel⟩
abbrev s_l_can : Stmt := topS 32
abbrev N_l_can : List Str := ["_law_mark", "_law_place", "_law_one", "_law_other", "_law_each"]
abbrev P_l_can : List Str := ["_law_mark", "_law_place", "_law_one", "_law_other"]
theorem sc_l_can : FnScope N_l_can P_l_can (defScope s_l_can) := ⟨rfl, rfl, rfl, by decide +kernel, rfl, by decide +kernel, by decide +kernel⟩
abbrev s_l_due_of_one : Stmt := topS 34
abbrev N_l_due_of_one : List Str := ["_law_mark", "_law_body", "_law_found"]
abbrev P_l_due_of_one : List Str := ["_law_mark", "_law_body", "_law_found"]
theorem sc_l_due_of_one : FnScope N_l_due_of_one P_l_due_of_one (defScope s_l_due_of_one) := ⟨rfl, rfl, rfl, by decide +kernel, rfl, by decide +kernel, by decide +kernel⟩
abbrev s_l_due_of_two : Stmt := topS 35
abbrev N_l_due_of_two : List Str := ["_law_mark", "_law_one", "_law_other"]
abbrev P_l_due_of_two : List Str := ["_law_mark", "_law_one", "_law_other"]
theorem sc_l_due_of_two : FnScope N_l_due_of_two P_l_due_of_two (defScope s_l_due_of_two) := ⟨rfl, rfl, rfl, by decide +kernel, rfl, by decide +kernel, by decide +kernel⟩
abbrev s_l_due_each : Stmt := topS 36
abbrev N_l_due_each : List Str := ["_law_body", "_law_rows", "_law_row", "_law_found"]
abbrev P_l_due_each : List Str := ["_law_body", "_law_rows"]
theorem sc_l_due_each : FnScope N_l_due_each P_l_due_each (defScope s_l_due_each) := ⟨rfl, rfl, rfl, by decide +kernel, rfl, by decide +kernel, by decide +kernel⟩
abbrev s_l_asked : Stmt := topS 33
abbrev N_l_asked : List Str := ["_law_mark", "_law_place", "_law_term_here", "_law_thing_here", "_law_one", "_law_found"]
abbrev P_l_asked : List Str := ["_law_mark", "_law_place", "_law_term_here", "_law_thing_here", "_law_one"]
theorem sc_l_asked : FnScope N_l_asked P_l_asked (defScope s_l_asked) := ⟨rfl, rfl, rfl, by decide +kernel, rfl, by decide +kernel, by decide +kernel⟩
abbrev s_l_due : Stmt := topS 37
abbrev N_l_due : List Str := ["_law_term_here", "_law_thing_here", "_law_mark", "_law_body", "_law_inner", "_law_first", "_law_other"]
abbrev P_l_due : List Str := ["_law_term_here", "_law_thing_here"]
theorem sc_l_due : FnScope N_l_due P_l_due (defScope s_l_due) := ⟨rfl, rfl, rfl, by decide +kernel, rfl, by decide +kernel, by decide +kernel⟩
abbrev s_l_lists : Stmt := topS 38
abbrev N_l_lists : List Str := ["_law_value", "_law_found", "_law_inner"]
abbrev P_l_lists : List Str := ["_law_value"]
theorem sc_l_lists : FnScope N_l_lists P_l_lists (defScope s_l_lists) := ⟨rfl, rfl, rfl, by decide +kernel, rfl, by decide +kernel, by decide +kernel⟩
abbrev s_l_own : Stmt := topS 39
abbrev N_l_own : List Str := ["_law_value", "_law_some", "_law_sizes", "_law_one", "_law_size"]
abbrev P_l_own : List Str := ["_law_value"]
theorem sc_l_own : FnScope N_l_own P_l_own (defScope s_l_own) := ⟨rfl, rfl, rfl, by decide +kernel, rfl, by decide +kernel, by decide +kernel⟩
abbrev s_l_take : Stmt := topS 24
abbrev N_l_take : List Str := ["_law_cells", "_law_many"]
abbrev P_l_take : List Str := ["_law_cells", "_law_many"]
theorem sc_l_take : FnScope N_l_take P_l_take (defScope s_l_take) := ⟨rfl, rfl, rfl, by decide +kernel, rfl, by decide +kernel, by decide +kernel⟩
abbrev s_l_truth_term : Stmt := topS 28
abbrev N_l_truth_term : List Str := ["_law_cells", "_law_first", "_law_left", "_law_kind"]
abbrev P_l_truth_term : List Str := ["_law_cells", "_law_first", "_law_left"]
theorem sc_l_truth_term : FnScope N_l_truth_term P_l_truth_term (defScope s_l_truth_term) := ⟨rfl, rfl, rfl, by decide +kernel, rfl, by decide +kernel, by decide +kernel⟩
abbrev s_l_row_term : Stmt := topS 26
abbrev N_l_row_term : List Str := ["_law_cells", "_law_first", "_law_left", "_law_kind"]
abbrev P_l_row_term : List Str := ["_law_cells", "_law_first", "_law_left"]
theorem sc_l_row_term : FnScope N_l_row_term P_l_row_term (defScope s_l_row_term) := ⟨rfl, rfl, rfl, by decide +kernel, rfl, by decide +kernel, by decide +kernel⟩
abbrev s_l_number_term : Stmt := topS 27
abbrev N_l_number_term : List Str := ["_law_cells", "_law_first", "_law_left", "_law_kind"]
abbrev P_l_number_term : List Str := ["_law_cells", "_law_first", "_law_left"]
theorem sc_l_number_term : FnScope N_l_number_term P_l_number_term (defScope s_l_number_term) := ⟨rfl, rfl, rfl, by decide +kernel, rfl, by decide +kernel, by decide +kernel⟩
abbrev s_l_term : Stmt := topS 29
abbrev N_l_term : List Str := ["_law_cells", "_law_wish", "_law_left", "_law_first", "_law_inner", "_law_k"]
abbrev P_l_term : List Str := ["_law_cells", "_law_wish", "_law_left"]
theorem sc_l_term : FnScope N_l_term P_l_term (defScope s_l_term) := ⟨rfl, rfl, rfl, by decide +kernel, rfl, by decide +kernel, by decide +kernel⟩
abbrev s_l_thing : Stmt := topS 25
abbrev N_l_thing : List Str := ["_law_cells", "_law_left", "_law_first", "_law_more", "_law_kind", "_law_some", "_law_k"]
abbrev P_l_thing : List Str := ["_law_cells", "_law_left"]
theorem sc_l_thing : FnScope N_l_thing P_l_thing (defScope s_l_thing) := ⟨rfl, rfl, rfl, by decide +kernel, rfl, by decide +kernel, by decide +kernel⟩
abbrev s_own_copy : Stmt := topS 1
abbrev N_own_copy : List Str := ["value", "thing"]
abbrev P_own_copy : List Str := ["value"]
theorem sc_own_copy : FnScope N_own_copy P_own_copy (defScope s_own_copy) := ⟨rfl, rfl, rfl, by decide +kernel, rfl, by decide +kernel, by decide +kernel⟩
abbrev s_fit_for : Stmt := topS 13
abbrev N_fit_for : List Str := ["good", "mark", "thing"]
abbrev P_fit_for : List Str := ["good", "mark", "thing"]
theorem sc_fit_for : FnScope N_fit_for P_fit_for (defScope s_fit_for) := ⟨rfl, rfl, rfl, by decide +kernel, rfl, by decide +kernel, by decide +kernel⟩
abbrev s_is_row : Stmt := topS 10
abbrev N_is_row : List Str := ["thing"]
abbrev P_is_row : List Str := ["thing"]
theorem sc_is_row : FnScope N_is_row P_is_row (defScope s_is_row) := ⟨rfl, rfl, rfl, by decide +kernel, rfl, by decide +kernel, by decide +kernel⟩
abbrev s_one_kind : Stmt := topS 11
abbrev N_one_kind : List Str := ["one", "other"]
abbrev P_one_kind : List Str := ["one", "other"]
theorem sc_one_kind : FnScope N_one_kind P_one_kind (defScope s_one_kind) := ⟨rfl, rfl, rfl, by decide +kernel, rfl, by decide +kernel, by decide +kernel⟩
abbrev s_inner_terms : Stmt := topS 7
abbrev N_inner_terms : List Str := ["term"]
abbrev P_inner_terms : List Str := ["term"]
theorem sc_inner_terms : FnScope N_inner_terms P_inner_terms (defScope s_inner_terms) := ⟨rfl, rfl, rfl, by decide +kernel, rfl, by decide +kernel, by decide +kernel⟩
abbrev s_is_number : Stmt := topS 9
abbrev N_is_number : List Str := ["thing"]
abbrev P_is_number : List Str := ["thing"]
theorem sc_is_number : FnScope N_is_number P_is_number (defScope s_is_number) := ⟨rfl, rfl, rfl, by decide +kernel, rfl, by decide +kernel, by decide +kernel⟩
abbrev s_same : Stmt := topS 12
abbrev N_same : List Str := ["one", "other", "here", "there"]
abbrev P_same : List Str := ["one", "other"]
theorem sc_same : FnScope N_same P_same (defScope s_same) := ⟨rfl, rfl, rfl, by decide +kernel, rfl, by decide +kernel, by decide +kernel⟩
abbrev s_number_said : Stmt := topS 14
abbrev N_number_said : List Str := ["term", "thing", "mark", "found"]
abbrev P_number_said : List Str := ["term", "thing", "mark"]
theorem sc_number_said : FnScope N_number_said P_number_said (defScope s_number_said) := ⟨rfl, rfl, rfl, by decide +kernel, rfl, by decide +kernel, by decide +kernel⟩
abbrev s_of_numbers : Stmt := topS 18
abbrev N_of_numbers : List Str := ["term", "thing", "mark", "one", "other"]
abbrev P_of_numbers : List Str := ["term", "thing"]
theorem sc_of_numbers : FnScope N_of_numbers P_of_numbers (defScope s_of_numbers) := ⟨rfl, rfl, rfl, by decide +kernel, rfl, by decide +kernel, by decide +kernel⟩
abbrev s_of_a_row : Stmt := topS 17
abbrev N_of_a_row : List Str := ["term", "thing", "mark", "found", "each"]
abbrev P_of_a_row : List Str := ["term", "thing"]
theorem sc_of_a_row : FnScope N_of_a_row P_of_a_row (defScope s_of_a_row) := ⟨rfl, rfl, rfl, by decide +kernel, rfl, by decide +kernel, by decide +kernel⟩
abbrev s_joined_said : Stmt := topS 19
abbrev N_joined_said : List Str := ["term", "thing", "one", "other"]
abbrev P_joined_said : List Str := ["term", "thing"]
theorem sc_joined_said : FnScope N_joined_said P_joined_said (defScope s_joined_said) := ⟨rfl, rfl, rfl, by decide +kernel, rfl, by decide +kernel, by decide +kernel⟩
abbrev s_truth_said : Stmt := topS 15
abbrev N_truth_said : List Str := ["term", "thing", "mark", "found"]
abbrev P_truth_said : List Str := ["term", "thing", "mark"]
theorem sc_truth_said : FnScope N_truth_said P_truth_said (defScope s_truth_said) := ⟨rfl, rfl, rfl, by decide +kernel, rfl, by decide +kernel, by decide +kernel⟩
abbrev s_row_said : Stmt := topS 16
abbrev N_row_said : List Str := ["term", "thing", "mark", "found"]
abbrev P_row_said : List Str := ["term", "thing", "mark"]
theorem sc_row_said : FnScope N_row_said P_row_said (defScope s_row_said) := ⟨rfl, rfl, rfl, by decide +kernel, rfl, by decide +kernel, by decide +kernel⟩
abbrev s_each_said : Stmt := topS 20
abbrev N_each_said : List Str := ["term", "thing", "inner"]
abbrev P_each_said : List Str := ["term", "thing"]
theorem sc_each_said : FnScope N_each_said P_each_said (defScope s_each_said) := ⟨rfl, rfl, rfl, by decide +kernel, rfl, by decide +kernel, by decide +kernel⟩
abbrev s_spoken : Stmt := topS 21
abbrev N_spoken : List Str := ["term", "thing", "mark", "body", "one"]
abbrev P_spoken : List Str := ["term", "thing"]
theorem sc_spoken : FnScope N_spoken P_spoken (defScope s_spoken) := ⟨rfl, rfl, rfl, by decide +kernel, rfl, by decide +kernel, by decide +kernel⟩
abbrev s_said : Stmt := topS 22
abbrev N_said : List Str := ["term", "thing"]
abbrev P_said : List Str := ["term", "thing"]
theorem sc_said : FnScope N_said P_said (defScope s_said) := ⟨rfl, rfl, rfl, by decide +kernel, rfl, by decide +kernel, by decide +kernel⟩
abbrev s_l_told : Stmt := topS 40
abbrev N_l_told : List Str := ["_law_term_here", "_law_thing_here", "_law_error", "_law_found", "e"]
abbrev P_l_told : List Str := ["_law_term_here", "_law_thing_here"]
theorem sc_l_told : FnScope N_l_told P_l_told (defScope s_l_told) := ⟨rfl, rfl, rfl, by decide +kernel, rfl, by decide +kernel, by decide +kernel⟩
abbrev s_law : Stmt := topS 41
abbrev N_law : List Str := ["_law_script", "_law_cells", "_law_thing_here", "_law_kept", "_law_term_here", "_law_due_here", "_law_turn", "_law_found", "_law_k"]
abbrev P_law : List Str := ["_law_script"]
theorem sc_law : FnScope N_law P_law (defScope s_law) := ⟨rfl, rfl, rfl, by decide +kernel, rfl, by decide +kernel, by decide +kernel⟩
def clsS (i j : Nat) : Stmt := match topS i with
  | .ClassDef _ _ _ body _ _ _ _ _ _ _ => body.getD j (.Pass ⟨0, 0, 0, 0⟩)
  | s => s
abbrev s_Astray___init__ : Stmt := clsS 4 0
abbrev PI_Astray : List Str := ["self", "words", "mark"]
theorem sc_Astray___init__ : FnScope PI_Astray PI_Astray (defScope s_Astray___init__) := ⟨rfl, rfl, rfl, by decide +kernel, rfl, by decide +kernel, by decide +kernel⟩
def xf_mark (s : String) : Bool := s == "Astray"
/-! what they say of data -/
def xt_Astray (s : String) : Option Bool := if s = "Astray" then some true else none
def tb_CountError (s : String) : Option Bool := if s = "Astray" then some true else none
def tb_ValueError (s : String) : Option Bool := if s = "Astray" then some true else none
noncomputable def U_l_alike (c_l_alike : List D → Sto → R D) : List D → Sto → R D := runG 4 (
    sSeq (sIf (tAn (tV (eUn (gIsi2 "list" "tuple") (eV 0))) (tV (eUn (gIsi2 "list" "tuple") (eV 1)))) (sSeq (sIf (tOrr (tV (eBin gNe (eUn (gIsi "list") (eV 0)) (eUn (gIsi "list") (eV 1)))) (tV (eBin gNe (eFn gLen (aCons (eV 0) (aNil))) (eFn gLen (aCons (eV 1) (aNil)))))) (sRet (eC (.bl false))) (sNx))
    (sRet (eFn gAll (aCons (eFz (fLc (iZipD (aCons (eV 0) (aCons (eV 1) (aNil)))) [2, 3] (.tp [.nm 2, .nm 3]) (tTrue) (eCallZ c_l_alike (aCons (eV 2) (aCons (eV 3) (aNil)))))) (aNil))))) (sNx))
    (sSeq (sIf (tV (eBin gNe (eUn (gIsi "bool") (eV 0)) (eUn (gIsi "bool") (eV 1)))) (sRet (eC (.bl false))) (sNx))
    (sRet (eBin gEq (eV 0) (eV 1)))))
noncomputable def S_l_alike : Nat → List D → Sto → R D
  | 0 => fun _ _ => .stk
  | n + 1 => U_l_alike (S_l_alike n)
noncomputable def S_l_whole : List D → Sto → R D := runG 1 (
    sRet (eAn (eUn (gIsi "int") (eV 0)) (eNt (eUn (gIsi "bool") (eV 0)))))
noncomputable def S_l_can : List D → Sto → R D := runG 5 (
    sSeq (sIf (tV (eBin gEq (eV 0) (eC (.str (Str.ofString "sum"))))) (sRet (eAn (eUn (gIsi2 "list" "tuple") (eV 3)) (eFn gAll (aCons (eFz (fLc (iSeq (eV 3)) [4] (.nm 4) (tTrue) (eCall S_l_whole (aCons (eV 4) (aNil))))) (aNil))))) (sNx))
    (sSeq (sIf (tOrr (tV (eBin gEq (eV 0) (eC (.str (Str.ofString "part"))))) (tAn (tV (eBin gEq (eV 0) (eC (.str (Str.ofString "each"))))) (tV (eBin gEq (eV 1) (eC (.int 0)))))) (sRet (eUn (gIsi2 "list" "tuple") (eV 3))) (sNx))
    (sSeq (sIf (tV (eBin gIn (eV 0) (eTup (aCons (eC (.str (Str.ofString "count"))) (aCons (eC (.str (Str.ofString "turned"))) (aNil)))))) (sRet (eUn (gIsi3 "list" "tuple" "str") (eV 3))) (sNx))
    (sSeq (sIf (tV (eBin gIn (eV 0) (eTup (aCons (eC (.str (Str.ofString "plus"))) (aCons (eC (.str (Str.ofString "times"))) (aCons (eC (.str (Str.ofString "less"))) (aNil))))))) (sRet (eCall S_l_whole (aCons (eV 3) (aNil)))) (sNx))
    (sSeq (sIf (tOrr (tV (eBin gIn (eV 0) (eTup (aCons (eC (.str (Str.ofString "not"))) (aCons (eC (.str (Str.ofString "both"))) (aCons (eC (.str (Str.ofString "each"))) (aNil))))))) (tAn (tV (eBin gEq (eV 0) (eC (.str (Str.ofString "when"))))) (tV (eBin gEq (eV 1) (eC (.int 0)))))) (sRet (eUn (gIsi "bool") (eV 3))) (sNx))
    (sSeq (sIf (tAn (tV (eBin gEq (eV 0) (eC (.str (Str.ofString "joined"))))) (tV (eBin gEq (eV 1) (eC (.int 0))))) (sRet (eUn (gIsi2 "list" "str") (eV 3))) (sNx))
    (sSeq (sIf (tV (eBin gEq (eV 0) (eC (.str (Str.ofString "joined"))))) (sRet (eAn (eBin gEq (eUn (gIsi "list") (eV 3)) (eUn (gIsi "list") (eV 2))) (eBin gEq (eUn (gIsi "str") (eV 3)) (eUn (gIsi "str") (eV 2))))) (sNx))
    (sRet (eC (.bl true))))))))))
noncomputable def S_l_due_of_one : List D → Sto → R D := runG 3 (
    sSeq (sIf (tV (eBin gEq (eV 0) (eC (.str (Str.ofString "not"))))) (sRet (eTup (aCons (eC (.str (Str.ofString "said"))) (aCons (eNt (eV 2)) (aNil))))) (sNx))
    (sSeq (sIf (tV (eBin gEq (eV 0) (eC (.str (Str.ofString "count"))))) (sRet (eTup (aCons (eC (.str (Str.ofString "said"))) (aCons (eFn gLen (aCons (eV 2) (aNil))) (aNil))))) (sNx))
    (sSeq (sIf (tV (eBin gEq (eV 0) (eC (.str (Str.ofString "turned"))))) (sRet (eTup (aCons (eC (.str (Str.ofString "said"))) (aCons (eUn gRevA (eV 2)) (aNil))))) (sNx))
    (sSeq (sIf (tV (eBin gEq (eV 0) (eC (.str (Str.ofString "sum"))))) (sRet (eTup (aCons (eC (.str (Str.ofString "said"))) (aCons (eFn gSumA (aCons (eV 2) (aNil))) (aNil))))) (sNx))
    (sSeq (sIf (tV (eBin gGe (eBin gIx (eV 1) (eC (.int 1))) (eFn gLen (aCons (eV 2) (aNil))))) (sRet (eTup (aCons (eC (.str (Str.ofString "astray"))) (aCons (eV 0) (aNil))))) (sNx))
    (sRet (eTup (aCons (eC (.str (Str.ofString "said"))) (aCons (eBin gIx (eV 2) (eBin gIx (eV 1) (eC (.int 1)))) (aNil))))))))))
noncomputable def S_l_due_of_two : List D → Sto → R D := runG 3 (
    sSeq (sIf (tV (eBin gEq (eV 0) (eC (.str (Str.ofString "times"))))) (sRet (eTup (aCons (eC (.str (Str.ofString "said"))) (aCons (eBin gMul (eV 1) (eV 2)) (aNil))))) (sNx))
    (sSeq (sIf (tV (eBin gEq (eV 0) (eC (.str (Str.ofString "less"))))) (sRet (eTup (aCons (eC (.str (Str.ofString "said"))) (aCons (eBin gLt (eV 1) (eV 2)) (aNil))))) (sNx))
    (sSeq (sIf (tV (eBin gEq (eV 0) (eC (.str (Str.ofString "same"))))) (sRet (eTup (aCons (eC (.str (Str.ofString "said"))) (aCons (eCallZ (S_l_alike 30) (aCons (eV 1) (aCons (eV 2) (aNil)))) (aNil))))) (sNx))
    (sRet (eTup (aCons (eC (.str (Str.ofString "said"))) (aCons (eBin gAdd (eV 1) (eV 2)) (aNil))))))))
noncomputable def U_l_asked (c_l_asked : List D → Sto → R D) (c_l_due : List D → Sto → R D) (c_l_due_each : List D → Sto → R D) : List D → Sto → R D := runG 6 (
    sSeq (sSet 5 (eCall c_l_due (aCons (eV 2) (aCons (eV 3) (aNil)))))
    (sSeq (sIf (tAn (tV (eBin gEq (eBin gIx (eV 5) (eC (.int 0))) (eC (.str (Str.ofString "said"))))) (tNt (tV (eCall S_l_can (aCons (eV 0) (aCons (eV 1) (aCons (eV 4) (aCons (eBin gIx (eV 5) (eC (.int 1))) (aNil))))))))) (sRet (eTup (aCons (eC (.str (Str.ofString "astray"))) (aCons (eV 0) (aNil))))) (sNx))
    (sRet (eV 5))))
noncomputable def U_l_due (c_l_asked : List D → Sto → R D) (c_l_due : List D → Sto → R D) (c_l_due_each : List D → Sto → R D) : List D → Sto → R D := runG 7 (
    sSeq (sSet 2 (eBin gIx (eV 0) (eC (.int 0))))
    (sSeq (sSet 3 (eBin gIx (eV 0) (eC (.int 1))))
    (sSeq (sIf (tV (eBin gEq (eV 2) (eC (.str (Str.ofString "num"))))) (sRet (eTup (aCons (eC (.str (Str.ofString "said"))) (aCons (eV 3) (aNil))))) (sNx))
    (sSeq (sIf (tV (eBin gEq (eV 2) (eC (.str (Str.ofString "here"))))) (sRet (eTup (aCons (eC (.str (Str.ofString "said"))) (aCons (eV 1) (aNil))))) (sNx))
    (sSeq (sSet 4 (eV 3))
    (sSeq (sIf (tV (eBin gNin (eV 2) (eTup (aCons (eC (.str (Str.ofString "not"))) (aCons (eC (.str (Str.ofString "count"))) (aCons (eC (.str (Str.ofString "turned"))) (aCons (eC (.str (Str.ofString "sum"))) (aNil)))))))) (sSet 4 (eBin gIx (eV 3) (eC (.int 0)))) (sNx))
    (sSeq (sSet 5 (eCall c_l_asked (aCons (eV 2) (aCons (eC (.int 0)) (aCons (eV 4) (aCons (eV 1) (aCons (eC .non) (aNil))))))))
    (sSeq (sIf (tV (eBin gEq (eBin gIx (eV 5) (eC (.int 0))) (eC (.str (Str.ofString "astray"))))) (sRet (eV 5)) (sNx))
    (sSeq (sIf (tV (eBin gIn (eV 2) (eTup (aCons (eC (.str (Str.ofString "not"))) (aCons (eC (.str (Str.ofString "count"))) (aCons (eC (.str (Str.ofString "turned"))) (aCons (eC (.str (Str.ofString "sum"))) (aCons (eC (.str (Str.ofString "part"))) (aNil))))))))) (sRet (eCall S_l_due_of_one (aCons (eV 2) (aCons (eV 3) (aCons (eBin gIx (eV 5) (eC (.int 1))) (aNil)))))) (sNx))
    (sSeq (sIf (tV (eBin gEq (eV 2) (eC (.str (Str.ofString "each"))))) (sRet (eCall c_l_due_each (aCons (eBin gIx (eV 3) (eC (.int 1))) (aCons (eBin gIx (eV 5) (eC (.int 1))) (aNil))))) (sNx))
    (sSeq (sIf (tV (eBin gEq (eV 2) (eC (.str (Str.ofString "when"))))) (sRet (eCall c_l_asked (aCons (eV 2) (aCons (eC (.int 1)) (aCons (eBin gIx (eV 3) (eBin gSub (eC (.int 2)) (eFn gInt (aCons (eBin gIx (eV 5) (eC (.int 1))) (aNil))))) (aCons (eV 1) (aCons (eC .non) (aNil)))))))) (sNx))
    (sSeq (sIf (tAn (tV (eBin gEq (eV 2) (eC (.str (Str.ofString "both"))))) (tNt (tV (eBin gIx (eV 5) (eC (.int 1)))))) (sRet (eV 5)) (sNx))
    (sSeq (sSet 6 (eCall c_l_asked (aCons (eV 2) (aCons (eC (.int 1)) (aCons (eBin gIx (eV 3) (eC (.int 1))) (aCons (eV 1) (aCons (eBin gIx (eV 5) (eC (.int 1))) (aNil))))))))
    (sSeq (sIf (tOrr (tV (eBin gEq (eBin gIx (eV 6) (eC (.int 0))) (eC (.str (Str.ofString "astray"))))) (tV (eBin gEq (eV 2) (eC (.str (Str.ofString "both")))))) (sRet (eV 6)) (sNx))
    (sRet (eCall S_l_due_of_two (aCons (eV 2) (aCons (eBin gIx (eV 5) (eC (.int 1))) (aCons (eBin gIx (eV 6) (eC (.int 1))) (aNil))))))))))))))))))))
noncomputable def L_l_due_each_0 (c_l_asked : List D → Sto → R D) (c_l_due : List D → Sto → R D) (c_l_due_each : List D → Sto → R D) : S := sSeq (sSet 3 (eCall c_l_asked (aCons (eC (.str (Str.ofString "each"))) (aCons (eC (.int 1)) (aCons (eV 0) (aCons (eV 2) (aCons (eC .non) (aNil))))))))
    (sIf (tOrr (tV (eBin gEq (eBin gIx (eV 3) (eC (.int 0))) (eC (.str (Str.ofString "astray"))))) (tNt (tV (eBin gIx (eV 3) (eC (.int 1)))))) (sRet (eV 3)) (sNx))
noncomputable def U_l_due_each (c_l_asked : List D → Sto → R D) (c_l_due : List D → Sto → R D) (c_l_due_each : List D → Sto → R D) : List D → Sto → R D := runG 4 (
    sSeq (sFor (iSeq (eV 1)) (.nm 2) (L_l_due_each_0 c_l_asked c_l_due c_l_due_each))
    (sRet (eTup (aCons (eC (.str (Str.ofString "said"))) (aCons (eC (.bl true)) (aNil))))))
mutual
noncomputable def S_l_asked : Nat → List D → Sto → R D
  | 0 => fun _ _ => .stk
  | n + 1 => U_l_asked (S_l_asked n) (S_l_due n) (S_l_due_each n)
noncomputable def S_l_due : Nat → List D → Sto → R D
  | 0 => fun _ _ => .stk
  | n + 1 => U_l_due (S_l_asked n) (S_l_due n) (S_l_due_each n)
noncomputable def S_l_due_each : Nat → List D → Sto → R D
  | 0 => fun _ _ => .stk
  | n + 1 => U_l_due_each (S_l_asked n) (S_l_due n) (S_l_due_each n)
end
noncomputable def L_l_lists_0 (c_l_lists : List D → Sto → R D) : S := sDrop (eExt (eV 1) (eCall c_l_lists (aCons (eV 2) (aNil))))
noncomputable def U_l_lists (c_l_lists : List D → Sto → R D) : List D → Sto → R D := runG 3 (
    sSeq (sSet 1 (eNw (fLst (aNil))))
    (sSeq (sIf (tV (eUn (gIsi "list") (eV 0))) (sDrop (eApp (eV 1) (eV 0))) (sNx))
    (sSeq (sIf (tV (eUn (gIsi2 "list" "tuple") (eV 0))) (sForO (iSeqO (eV 0)) (.nm 2) (L_l_lists_0 c_l_lists)) (sNx))
    (sRet (eV 1)))))
noncomputable def S_l_lists : Nat → List D → Sto → R D
  | 0 => fun _ _ => .stk
  | n + 1 => U_l_lists (S_l_lists n)
noncomputable def L_l_own_0 : S := sDrop (eApp (eV 3) (eC .non))
noncomputable def S_l_own : List D → Sto → R D := runG 5 (
    sSeq (sSet 1 (eCall (S_l_lists 30) (aCons (eV 0) (aNil))))
    (sSeq (sFrz 3 (sSet 2 (eFz (fLcO (iSeqO (eV 1)) [3] (.nm 3) (tTrue) (eFn gLen (aCons (eV 3) (aNil)))))))
    (sSeq (sForO (iSeqO (eV 1)) (.nm 3) (L_l_own_0))
    (sRet (eBin gEq (eFz (fLcO (iSeqO (eV 1)) [3] (.nm 3) (tTrue) (eFn gLen (aCons (eV 3) (aNil))))) (eFz (fLc (iSeq (eV 2)) [4] (.nm 4) (tTrue) (eBin gAdd (eV 4) (eC (.int 1))))))))))
noncomputable def S_l_take : List D → Sto → R D := runG 2 (
    sSeq (sIf (tV (eBin gEq (eV 0) (eFz (fLst (aNil))))) (sRet (eC (.int 0))) (sNx))
    (sRet (eBin gMod (ePopAt (eV 0) (eC (.int 0))) (eV 1))))
noncomputable def U_l_number_term (c_l_number_term : List D → Sto → R D) (c_l_row_term : List D → Sto → R D) (c_l_term : List D → Sto → R D) (c_l_truth_term : List D → Sto → R D) : List D → Sto → R D := runG 4 (
    sSeq (sSet 3 (eBin gMod (eV 1) (eC (.int 7))))
    (sSeq (sIf (tOrr (tV (eBin gEq (eV 2) (eC (.int 0)))) (tV (eBin gEq (eV 3) (eC (.int 0))))) (sRet (eTup (aCons (eC (.str (Str.ofString "num"))) (aCons (eBin gSub (eBin gMod (eBin gDiv (eV 1) (eC (.int 7))) (eBin gPow (eC (.int 10)) (eC (.int 12)))) (eC (.int 3))) (aNil))))) (sNx))
    (sSeq (sIf (tV (eBin gEq (eV 3) (eC (.int 1)))) (sRet (eTup (aCons (eC (.str (Str.ofString "here"))) (aCons (eTup (aNil)) (aNil))))) (sNx))
    (sSeq (sIf (tV (eBin gEq (eV 3) (eC (.int 2)))) (sRet (eTup (aCons (eC (.str (Str.ofString "count"))) (aCons (eCall c_l_term (aCons (eV 0) (aCons (eC (.int 2)) (aCons (eBin gSub (eV 2) (eC (.int 1))) (aNil))))) (aNil))))) (sNx))
    (sSeq (sIf (tV (eBin gEq (eV 3) (eC (.int 3)))) (sRet (eTup (aCons (eC (.str (Str.ofString "sum"))) (aCons (eCall c_l_term (aCons (eV 0) (aCons (eC (.int 2)) (aCons (eBin gSub (eV 2) (eC (.int 1))) (aNil))))) (aNil))))) (sNx))
    (sSeq (sIf (tV (eBin gEq (eV 3) (eC (.int 4)))) (sRet (eTup (aCons (eC (.str (Str.ofString "part"))) (aCons (eTup (aCons (eCall c_l_term (aCons (eV 0) (aCons (eC (.int 2)) (aCons (eBin gSub (eV 2) (eC (.int 1))) (aNil))))) (aCons (eBin gMod (eBin gDiv (eV 1) (eC (.int 7))) (eC (.int 4))) (aNil)))) (aNil))))) (sNx))
    (sRet (eTup (aCons (eBin gIx (eFz (fLst (aCons (eC (.str (Str.ofString "plus"))) (aCons (eC (.str (Str.ofString "times"))) (aNil))))) (eBin gSub (eV 3) (eC (.int 5)))) (aCons (eTup (aCons (eCall c_l_term (aCons (eV 0) (aCons (eC (.int 0)) (aCons (eBin gSub (eV 2) (eC (.int 1))) (aNil))))) (aCons (eCall c_l_term (aCons (eV 0) (aCons (eC (.int 0)) (aCons (eBin gSub (eV 2) (eC (.int 1))) (aNil))))) (aNil)))) (aNil)))))))))))
noncomputable def U_l_row_term (c_l_number_term : List D → Sto → R D) (c_l_row_term : List D → Sto → R D) (c_l_term : List D → Sto → R D) (c_l_truth_term : List D → Sto → R D) : List D → Sto → R D := runG 4 (
    sSeq (sSet 3 (eBin gMod (eV 1) (eC (.int 5))))
    (sSeq (sIf (tOrr (tV (eBin gEq (eV 2) (eC (.int 0)))) (tV (eBin gLt (eV 3) (eC (.int 2))))) (sRet (eTup (aCons (eC (.str (Str.ofString "here"))) (aCons (eTup (aNil)) (aNil))))) (sNx))
    (sSeq (sIf (tV (eBin gEq (eV 3) (eC (.int 2)))) (sRet (eTup (aCons (eC (.str (Str.ofString "turned"))) (aCons (eCall c_l_term (aCons (eV 0) (aCons (eC (.int 2)) (aCons (eBin gSub (eV 2) (eC (.int 1))) (aNil))))) (aNil))))) (sNx))
    (sSeq (sIf (tV (eBin gEq (eV 3) (eC (.int 3)))) (sRet (eTup (aCons (eC (.str (Str.ofString "part"))) (aCons (eTup (aCons (eCall c_l_term (aCons (eV 0) (aCons (eC (.int 2)) (aCons (eBin gSub (eV 2) (eC (.int 1))) (aNil))))) (aCons (eBin gMod (eBin gDiv (eV 1) (eC (.int 5))) (eC (.int 4))) (aNil)))) (aNil))))) (sNx))
    (sRet (eTup (aCons (eC (.str (Str.ofString "joined"))) (aCons (eTup (aCons (eCall c_l_term (aCons (eV 0) (aCons (eC (.int 2)) (aCons (eBin gSub (eV 2) (eC (.int 1))) (aNil))))) (aCons (eCall c_l_term (aCons (eV 0) (aCons (eC (.int 2)) (aCons (eBin gSub (eV 2) (eC (.int 1))) (aNil))))) (aNil)))) (aNil)))))))))
noncomputable def U_l_term (c_l_number_term : List D → Sto → R D) (c_l_row_term : List D → Sto → R D) (c_l_term : List D → Sto → R D) (c_l_truth_term : List D → Sto → R D) : List D → Sto → R D := runG 6 (
    sSeq (sSet 3 (eCall S_l_take (aCons (eV 0) (aCons (eBin gPow (eC (.int 10)) (eC (.int 18))) (aNil)))))
    (sSeq (sIf (tOrr (tV (eBin gEq (eV 1) (eC (.int 3)))) (tV (eBin gEq (eBin gMod (eV 3) (eC (.int 9))) (eC (.int 8))))) (sSet 1 (eBin gMod (eBin gDiv (eV 3) (eC (.int 9))) (eC (.int 3)))) (sNx))
    (sSeq (sSet 3 (eBin gDiv (eV 3) (eC (.int 27))))
    (sSeq (sIf (tAn (tV (eBin gGt (eV 2) (eC (.int 0)))) (tV (eBin gEq (eBin gMod (eV 3) (eC (.int 8))) (eC (.int 7))))) (sSeq (sSet 4 (eFz (fLc (iRange1 (aCons (eC (.int 3)) (aNil))) [5] (.nm 5) (tTrue) (eCall c_l_term (aCons (eV 0) (aCons (eBin gIx (eFz (fLst (aCons (eC (.int 1)) (aCons (eV 1) (aCons (eV 1) (aNil)))))) (eV 5)) (aCons (eBin gSub (eV 2) (eC (.int 1))) (aNil))))))))
    (sRet (eTup (aCons (eC (.str (Str.ofString "when"))) (aCons (eFn gTuple (aCons (eV 4) (aNil))) (aNil)))))) (sNx))
    (sSeq (sSet 3 (eBin gDiv (eV 3) (eC (.int 8))))
    (sSeq (sIf (tV (eBin gEq (eV 1) (eC (.int 0)))) (sRet (eCall c_l_number_term (aCons (eV 0) (aCons (eV 3) (aCons (eV 2) (aNil)))))) (sNx))
    (sSeq (sIf (tV (eBin gEq (eV 1) (eC (.int 1)))) (sRet (eCall c_l_truth_term (aCons (eV 0) (aCons (eV 3) (aCons (eV 2) (aNil)))))) (sNx))
    (sRet (eCall c_l_row_term (aCons (eV 0) (aCons (eV 3) (aCons (eV 2) (aNil)))))))))))))
noncomputable def U_l_truth_term (c_l_number_term : List D → Sto → R D) (c_l_row_term : List D → Sto → R D) (c_l_term : List D → Sto → R D) (c_l_truth_term : List D → Sto → R D) : List D → Sto → R D := runG 4 (
    sSeq (sSet 3 (eBin gMod (eV 1) (eC (.int 6))))
    (sSeq (sIf (tOrr (tV (eBin gEq (eV 2) (eC (.int 0)))) (tV (eBin gEq (eV 3) (eC (.int 0))))) (sRet (eTup (aCons (eC (.str (Str.ofString "less"))) (aCons (eTup (aCons (eTup (aCons (eC (.str (Str.ofString "num"))) (aCons (eBin gMod (eBin gDiv (eV 1) (eC (.int 6))) (eC (.int 9))) (aNil)))) (aCons (eTup (aCons (eC (.str (Str.ofString "num"))) (aCons (eBin gMod (eBin gDiv (eV 1) (eC (.int 54))) (eC (.int 9))) (aNil)))) (aNil)))) (aNil))))) (sNx))
    (sSeq (sIf (tV (eBin gEq (eV 3) (eC (.int 1)))) (sRet (eTup (aCons (eC (.str (Str.ofString "same"))) (aCons (eTup (aCons (eCall c_l_term (aCons (eV 0) (aCons (eC (.int 3)) (aCons (eBin gSub (eV 2) (eC (.int 1))) (aNil))))) (aCons (eCall c_l_term (aCons (eV 0) (aCons (eC (.int 3)) (aCons (eBin gSub (eV 2) (eC (.int 1))) (aNil))))) (aNil)))) (aNil))))) (sNx))
    (sSeq (sIf (tV (eBin gEq (eV 3) (eC (.int 2)))) (sRet (eTup (aCons (eC (.str (Str.ofString "not"))) (aCons (eCall c_l_term (aCons (eV 0) (aCons (eC (.int 1)) (aCons (eBin gSub (eV 2) (eC (.int 1))) (aNil))))) (aNil))))) (sNx))
    (sSeq (sIf (tV (eBin gEq (eV 3) (eC (.int 3)))) (sRet (eTup (aCons (eC (.str (Str.ofString "both"))) (aCons (eTup (aCons (eCall c_l_term (aCons (eV 0) (aCons (eC (.int 1)) (aCons (eBin gSub (eV 2) (eC (.int 1))) (aNil))))) (aCons (eCall c_l_term (aCons (eV 0) (aCons (eC (.int 1)) (aCons (eBin gSub (eV 2) (eC (.int 1))) (aNil))))) (aNil)))) (aNil))))) (sNx))
    (sSeq (sIf (tV (eBin gEq (eV 3) (eC (.int 4)))) (sRet (eTup (aCons (eC (.str (Str.ofString "each"))) (aCons (eTup (aCons (eCall c_l_term (aCons (eV 0) (aCons (eC (.int 2)) (aCons (eBin gSub (eV 2) (eC (.int 1))) (aNil))))) (aCons (eCall c_l_term (aCons (eV 0) (aCons (eC (.int 1)) (aCons (eBin gSub (eV 2) (eC (.int 1))) (aNil))))) (aNil)))) (aNil))))) (sNx))
    (sRet (eTup (aCons (eC (.str (Str.ofString "less"))) (aCons (eTup (aCons (eCall c_l_term (aCons (eV 0) (aCons (eC (.int 0)) (aCons (eBin gSub (eV 2) (eC (.int 1))) (aNil))))) (aCons (eCall c_l_term (aCons (eV 0) (aCons (eC (.int 0)) (aCons (eBin gSub (eV 2) (eC (.int 1))) (aNil))))) (aNil)))) (aNil)))))))))))
mutual
noncomputable def S_l_number_term : Nat → List D → Sto → R D
  | 0 => fun _ _ => .stk
  | n + 1 => U_l_number_term (S_l_number_term n) (S_l_row_term n) (S_l_term n) (S_l_truth_term n)
noncomputable def S_l_row_term : Nat → List D → Sto → R D
  | 0 => fun _ _ => .stk
  | n + 1 => U_l_row_term (S_l_number_term n) (S_l_row_term n) (S_l_term n) (S_l_truth_term n)
noncomputable def S_l_term : Nat → List D → Sto → R D
  | 0 => fun _ _ => .stk
  | n + 1 => U_l_term (S_l_number_term n) (S_l_row_term n) (S_l_term n) (S_l_truth_term n)
noncomputable def S_l_truth_term : Nat → List D → Sto → R D
  | 0 => fun _ _ => .stk
  | n + 1 => U_l_truth_term (S_l_number_term n) (S_l_row_term n) (S_l_term n) (S_l_truth_term n)
end
noncomputable def U_l_thing (c_l_thing : List D → Sto → R D) : List D → Sto → R D := runG 7 (
    sSeq (sSet 2 (eCall S_l_take (aCons (eV 0) (aCons (eBin gPow (eC (.int 10)) (eC (.int 18))) (aNil)))))
    (sSeq (sSet 3 (eBin gDiv (eV 2) (eC (.int 7))))
    (sSeq (sSet 4 (eBin gMod (eV 2) (eC (.int 7))))
    (sSeq (sIf (tOrr (tV (eBin gEq (eV 4) (eC (.int 0)))) (tV (eBin gEq (eV 1) (eC (.int 0))))) (sRet (eBin gSub (eBin gMod (eV 3) (eC (.int 9))) (eC (.int 4)))) (sNx))
    (sSeq (sIf (tV (eBin gEq (eV 4) (eC (.int 1)))) (sRet (eBin gAdd (eBin gSub (eCall S_l_take (aCons (eV 0) (aCons (eBin gSub (eBin gMul (eC (.int 2)) (eBin gPow (eC (.int 10)) (eC (.int 40)))) (eC (.int 1))) (aNil)))) (eBin gPow (eC (.int 10)) (eC (.int 40)))) (eC (.int 1)))) (sNx))
    (sSeq (sIf (tV (eBin gEq (eV 4) (eC (.int 2)))) (sRet (eBin gEq (eBin gMod (eV 3) (eC (.int 2))) (eC (.int 1)))) (sNx))
    (sSeq (sIf (tV (eBin gEq (eV 4) (eC (.int 3)))) (sRet (eM1 gJoin (eC (.str (Str.ofString ""))) (eFz (fLc (iRange1 (aCons (eBin gMod (eV 3) (eC (.int 6))) (aNil))) [6] (.nm 6) (tTrue) (eBin gIx (eC (.str (Str.ofString "abA9 "))) (eBin gMod (eBin gDiv (eV 3) (eBin gAdd (eV 6) (eC (.int 1)))) (eC (.int 5)))))))) (sNx))
    (sSeq (sIf (tAn (tV (eBin gEq (eV 4) (eC (.int 4)))) (tV (eBin gEq (eBin gMod (eV 3) (eC (.int 4))) (eC (.int 0))))) (sRet (eC .non)) (sNx))
    (sSeq (sSet 5 (eFz (fLc (iRange1 (aCons (eBin gMod (eV 3) (eC (.int 5))) (aNil))) [6] (.nm 6) (tTrue) (eCall c_l_thing (aCons (eV 0) (aCons (eBin gSub (eV 1) (eC (.int 1))) (aNil)))))))
    (sSeq (sIf (tV (eBin gEq (eV 4) (eC (.int 6)))) (sRet (eFn gTuple (aCons (eV 5) (aNil)))) (sNx))
    (sRet (eV 5))))))))))))
noncomputable def S_l_thing : Nat → List D → Sto → R D
  | 0 => fun _ _ => .stk
  | n + 1 => U_l_thing (S_l_thing n)
noncomputable def U_own_copy (c_own_copy : List D → Sto → R D) : List D → Sto → R D := runG 2 (
    sSeq (sIf (tV (eUn (gIsi "list") (eV 0))) (sRet (eNw (fLc (iSeq (eV 0)) [1] (.nm 1) (tTrue) (eCall c_own_copy (aCons (eV 1) (aNil)))))) (sNx))
    (sSeq (sIf (tV (eUn (gIsi "tuple") (eV 0))) (sRet (eFn gTuple (aCons (eFz (fLc (iSeq (eV 0)) [1] (.nm 1) (tTrue) (eCall c_own_copy (aCons (eV 1) (aNil))))) (aNil)))) (sNx))
    (sRet (eV 0))))
noncomputable def S_own_copy : Nat → List D → Sto → R D
  | 0 => fun _ _ => .stk
  | n + 1 => U_own_copy (S_own_copy n)
noncomputable def S_fit_for : List D → Sto → R D := runG 3 (
    sSeq (sIf (tNt (tV (eV 0))) (sRaiseF "Astray" ["mark"] (aCons (eC (.str (Str.ofString "what an inner term says can't be taken"))) (aCons (eV 1) (aNil)))) (sNx))
    (sRet (eV 2)))
noncomputable def S_is_row : List D → Sto → R D := runG 1 (
    sRet (eUn (gIsi2 "list" "tuple") (eV 0)))
noncomputable def S_one_kind : List D → Sto → R D := runG 2 (
    sSeq (sIf (tOrr (tV (eBin gIsN (eV 0) (eC .non))) (tV (eBin gIsN (eV 1) (eC .non)))) (sRet (eAn (eBin gIsN (eV 0) (eC .non)) (eBin gIsN (eV 1) (eC .non)))) (sNx))
    (sSeq (sIf (tOrr (tV (eUn (gIsi "bool") (eV 0))) (tV (eUn (gIsi "bool") (eV 1)))) (sRet (eAn (eUn (gIsi "bool") (eV 0)) (eUn (gIsi "bool") (eV 1)))) (sNx))
    (sSeq (sIf (tV (eUn (gIsi "int") (eV 0))) (sRet (eUn (gIsi "int") (eV 1))) (sNx))
    (sSeq (sIf (tV (eUn (gIsi "str") (eV 0))) (sRet (eUn (gIsi "str") (eV 1))) (sNx))
    (sSeq (sIf (tV (eUn (gIsi "list") (eV 0))) (sRet (eUn (gIsi "list") (eV 1))) (sNx))
    (sRet (eAn (eUn (gIsi "tuple") (eV 0)) (eUn (gIsi "tuple") (eV 1)))))))))
noncomputable def S_inner_terms : List D → Sto → R D := runG 1 (
    sSeq (sIf (tV (eBin gIn (eBin gIx (eV 0) (eC (.int 0))) (eTup (aCons (eC (.str (Str.ofString "num"))) (aCons (eC (.str (Str.ofString "here"))) (aNil)))))) (sRet (eFz (fLst (aNil)))) (sNx))
    (sSeq (sIf (tV (eBin gEq (eBin gIx (eV 0) (eC (.int 0))) (eC (.str (Str.ofString "part"))))) (sRet (eFz (fLst (aCons (eBin gIx (eBin gIx (eV 0) (eC (.int 1))) (eC (.int 0))) (aNil))))) (sNx))
    (sSeq (sIf (tV (eBin gIn (eBin gIx (eV 0) (eC (.int 0))) (eC (.tup (List.map D.str [(Str.ofString "count"), (Str.ofString "sum"), (Str.ofString "not"), (Str.ofString "turned")]))))) (sRet (eFz (fLst (aCons (eBin gIx (eV 0) (eC (.int 1))) (aNil))))) (sNx))
    (sRet (eFn gList (aCons (eBin gIx (eV 0) (eC (.int 1))) (aNil)))))))
noncomputable def S_is_number : List D → Sto → R D := runG 1 (
    sRet (eAn (eUn (gIsi "int") (eV 0)) (eNt (eUn (gIsi "bool") (eV 0)))))
noncomputable def U_same (c_same : List D → Sto → R D) : List D → Sto → R D := runG 4 (
    sSeq (sIf (tNt (tV (eCall S_one_kind (aCons (eV 0) (aCons (eV 1) (aNil)))))) (sRet (eC (.bl false))) (sNx))
    (sSeq (sIf (tNt (tV (eCall S_is_row (aCons (eV 0) (aNil))))) (sRet (eBin gEq (eV 0) (eV 1))) (sNx))
    (sSeq (sIf (tV (eBin gNe (eFn gLen (aCons (eV 0) (aNil))) (eFn gLen (aCons (eV 1) (aNil))))) (sRet (eC (.bl false))) (sNx))
    (sRet (eFn gAll (aCons (eFz (fLc (iZipD (aCons (eV 0) (aCons (eV 1) (aNil)))) [2, 3] (.tp [.nm 2, .nm 3]) (tTrue) (eCall c_same (aCons (eV 2) (aCons (eV 3) (aNil)))))) (aNil)))))))
noncomputable def S_same : Nat → List D → Sto → R D
  | 0 => fun _ _ => .stk
  | n + 1 => U_same (S_same n)
noncomputable def L_each_said_0 (c_each_said : List D → Sto → R D) (c_joined_said : List D → Sto → R D) (c_number_said : List D → Sto → R D) (c_of_a_row : List D → Sto → R D) (c_of_numbers : List D → Sto → R D) (c_row_said : List D → Sto → R D) (c_spoken : List D → Sto → R D) (c_truth_said : List D → Sto → R D) : S := sIf (tNt (tV (eCall c_truth_said (aCons (eBin gIx (eBin gIx (eV 0) (eC (.int 1))) (eC (.int 1))) (aCons (eV 2) (aCons (eC (.str (Str.ofString "each"))) (aNil))))))) (sRet (eC (.bl false))) (sNx)
noncomputable def U_each_said (c_each_said : List D → Sto → R D) (c_joined_said : List D → Sto → R D) (c_number_said : List D → Sto → R D) (c_of_a_row : List D → Sto → R D) (c_of_numbers : List D → Sto → R D) (c_row_said : List D → Sto → R D) (c_spoken : List D → Sto → R D) (c_truth_said : List D → Sto → R D) : List D → Sto → R D := runG 3 (
    sSeq (sFor (iSeq (eCall c_row_said (aCons (eBin gIx (eBin gIx (eV 0) (eC (.int 1))) (eC (.int 0))) (aCons (eV 1) (aCons (eC (.str (Str.ofString "each"))) (aNil)))))) (.nm 2) (L_each_said_0 c_each_said c_joined_said c_number_said c_of_a_row c_of_numbers c_row_said c_spoken c_truth_said))
    (sRet (eC (.bl true))))
noncomputable def U_joined_said (c_each_said : List D → Sto → R D) (c_joined_said : List D → Sto → R D) (c_number_said : List D → Sto → R D) (c_of_a_row : List D → Sto → R D) (c_of_numbers : List D → Sto → R D) (c_row_said : List D → Sto → R D) (c_spoken : List D → Sto → R D) (c_truth_said : List D → Sto → R D) : List D → Sto → R D := runG 4 (
    sSeq (sSet 2 (eCall c_spoken (aCons (eBin gIx (eBin gIx (eV 0) (eC (.int 1))) (eC (.int 0))) (aCons (eV 1) (aNil)))))
    (sSeq (sDrop (eCall S_fit_for (aCons (eUn (gIsi2 "str" "list") (eV 2)) (aCons (eC (.str (Str.ofString "joined"))) (aCons (eV 2) (aNil))))))
    (sSeq (sSet 3 (eCall c_spoken (aCons (eBin gIx (eBin gIx (eV 0) (eC (.int 1))) (eC (.int 1))) (aCons (eV 1) (aNil)))))
    (sSeq (sDrop (eCall S_fit_for (aCons (eCall S_one_kind (aCons (eV 2) (aCons (eV 3) (aNil)))) (aCons (eC (.str (Str.ofString "joined"))) (aCons (eV 3) (aNil))))))
    (sRet (eBin gAdd (eV 2) (eV 3)))))))
noncomputable def U_number_said (c_each_said : List D → Sto → R D) (c_joined_said : List D → Sto → R D) (c_number_said : List D → Sto → R D) (c_of_a_row : List D → Sto → R D) (c_of_numbers : List D → Sto → R D) (c_row_said : List D → Sto → R D) (c_spoken : List D → Sto → R D) (c_truth_said : List D → Sto → R D) : List D → Sto → R D := runG 4 (
    sSeq (sSet 3 (eCall c_spoken (aCons (eV 0) (aCons (eV 1) (aNil)))))
    (sRet (eCall S_fit_for (aCons (eCall S_is_number (aCons (eV 3) (aNil))) (aCons (eV 2) (aCons (eV 3) (aNil)))))))
noncomputable def U_of_a_row (c_each_said : List D → Sto → R D) (c_joined_said : List D → Sto → R D) (c_number_said : List D → Sto → R D) (c_of_a_row : List D → Sto → R D) (c_of_numbers : List D → Sto → R D) (c_row_said : List D → Sto → R D) (c_spoken : List D → Sto → R D) (c_truth_said : List D → Sto → R D) : List D → Sto → R D := runG 5 (
    sSeq (sSet 2 (eBin gIx (eV 0) (eC (.int 0))))
    (sSeq (sSet 3 (eCall c_spoken (aCons (eBin gIx (eCall S_inner_terms (aCons (eV 0) (aNil))) (eC (.int 0))) (aCons (eV 1) (aNil)))))
    (sSeq (sIf (tAn (tV (eUn (gIsi "str") (eV 3))) (tV (eBin gIn (eV 2) (eTup (aCons (eC (.str (Str.ofString "count"))) (aCons (eC (.str (Str.ofString "turned"))) (aNil))))))) (sSeq (sIf (tV (eBin gEq (eV 2) (eC (.str (Str.ofString "count"))))) (sRet (eFn gLen (aCons (eV 3) (aNil)))) (sNx))
    (sRet (eUn gRevA (eV 3)))) (sNx))
    (sSeq (sDrop (eCall S_fit_for (aCons (eCall S_is_row (aCons (eV 3) (aNil))) (aCons (eV 2) (aCons (eV 3) (aNil))))))
    (sSeq (sIf (tV (eBin gEq (eV 2) (eC (.str (Str.ofString "count"))))) (sRet (eFn gLen (aCons (eV 3) (aNil)))) (sNx))
    (sSeq (sIf (tV (eBin gEq (eV 2) (eC (.str (Str.ofString "turned"))))) (sRet (eUn gRevA (eV 3))) (sNx))
    (sSeq (sIf (tV (eBin gEq (eV 2) (eC (.str (Str.ofString "part"))))) (sSeq (sDrop (eCall S_fit_for (aCons (eBin gLt (eBin gIx (eBin gIx (eV 0) (eC (.int 1))) (eC (.int 1))) (eFn gLen (aCons (eV 3) (aNil)))) (aCons (eV 2) (aCons (eV 3) (aNil))))))
    (sRet (eBin gIx (eV 3) (eBin gIx (eBin gIx (eV 0) (eC (.int 1))) (eC (.int 1)))))) (sNx))
    (sSeq (sDrop (eCall S_fit_for (aCons (eFn gAll (aCons (eFz (fLc (iSeq (eV 3)) [4] (.nm 4) (tTrue) (eCall S_is_number (aCons (eV 4) (aNil))))) (aNil))) (aCons (eV 2) (aCons (eV 3) (aNil))))))
    (sRet (eFn gSumA (aCons (eV 3) (aNil))))))))))))
noncomputable def U_of_numbers (c_each_said : List D → Sto → R D) (c_joined_said : List D → Sto → R D) (c_number_said : List D → Sto → R D) (c_of_a_row : List D → Sto → R D) (c_of_numbers : List D → Sto → R D) (c_row_said : List D → Sto → R D) (c_spoken : List D → Sto → R D) (c_truth_said : List D → Sto → R D) : List D → Sto → R D := runG 5 (
    sSeq (sSet 2 (eBin gIx (eV 0) (eC (.int 0))))
    (sSeq (sSet 3 (eCall c_number_said (aCons (eBin gIx (eBin gIx (eV 0) (eC (.int 1))) (eC (.int 0))) (aCons (eV 1) (aCons (eV 2) (aNil))))))
    (sSeq (sSet 4 (eCall c_number_said (aCons (eBin gIx (eBin gIx (eV 0) (eC (.int 1))) (eC (.int 1))) (aCons (eV 1) (aCons (eV 2) (aNil))))))
    (sSeq (sIf (tV (eBin gEq (eV 2) (eC (.str (Str.ofString "plus"))))) (sRet (eBin gAdd (eV 3) (eV 4))) (sNx))
    (sSeq (sIf (tV (eBin gEq (eV 2) (eC (.str (Str.ofString "times"))))) (sRet (eBin gMul (eV 3) (eV 4))) (sNx))
    (sRet (eBin gLt (eV 3) (eV 4))))))))
noncomputable def U_row_said (c_each_said : List D → Sto → R D) (c_joined_said : List D → Sto → R D) (c_number_said : List D → Sto → R D) (c_of_a_row : List D → Sto → R D) (c_of_numbers : List D → Sto → R D) (c_row_said : List D → Sto → R D) (c_spoken : List D → Sto → R D) (c_truth_said : List D → Sto → R D) : List D → Sto → R D := runG 4 (
    sSeq (sSet 3 (eCall c_spoken (aCons (eV 0) (aCons (eV 1) (aNil)))))
    (sRet (eCall S_fit_for (aCons (eCall S_is_row (aCons (eV 3) (aNil))) (aCons (eV 2) (aCons (eV 3) (aNil)))))))
noncomputable def U_spoken (c_each_said : List D → Sto → R D) (c_joined_said : List D → Sto → R D) (c_number_said : List D → Sto → R D) (c_of_a_row : List D → Sto → R D) (c_of_numbers : List D → Sto → R D) (c_row_said : List D → Sto → R D) (c_spoken : List D → Sto → R D) (c_truth_said : List D → Sto → R D) : List D → Sto → R D := runG 5 (
    sSeq (sSet 2 (eBin gIx (eV 0) (eC (.int 0))))
    (sSeq (sSet 3 (eBin gIx (eV 0) (eC (.int 1))))
    (sSeq (sIf (tV (eBin gEq (eV 2) (eC (.str (Str.ofString "num"))))) (sRet (eV 3)) (sNx))
    (sSeq (sIf (tV (eBin gEq (eV 2) (eC (.str (Str.ofString "here"))))) (sRet (eV 1)) (sNx))
    (sSeq (sIf (tV (eBin gIn (eV 2) (eTup (aCons (eC (.str (Str.ofString "part"))) (aCons (eC (.str (Str.ofString "count"))) (aCons (eC (.str (Str.ofString "sum"))) (aCons (eC (.str (Str.ofString "turned"))) (aNil)))))))) (sRet (eCall c_of_a_row (aCons (eV 0) (aCons (eV 1) (aNil))))) (sNx))
    (sSeq (sIf (tV (eBin gIn (eV 2) (eTup (aCons (eC (.str (Str.ofString "plus"))) (aCons (eC (.str (Str.ofString "times"))) (aCons (eC (.str (Str.ofString "less"))) (aNil))))))) (sRet (eCall c_of_numbers (aCons (eV 0) (aCons (eV 1) (aNil))))) (sNx))
    (sSeq (sIf (tV (eBin gEq (eV 2) (eC (.str (Str.ofString "same"))))) (sSeq (sSet 4 (eCall c_spoken (aCons (eBin gIx (eV 3) (eC (.int 0))) (aCons (eV 1) (aNil)))))
    (sRet (eCall (S_same 30) (aCons (eV 4) (aCons (eCall c_spoken (aCons (eBin gIx (eV 3) (eC (.int 1))) (aCons (eV 1) (aNil)))) (aNil)))))) (sNx))
    (sSeq (sIf (tV (eBin gEq (eV 2) (eC (.str (Str.ofString "not"))))) (sRet (eNt (eCall c_truth_said (aCons (eV 3) (aCons (eV 1) (aCons (eV 2) (aNil))))))) (sNx))
    (sSeq (sIf (tV (eBin gEq (eV 2) (eC (.str (Str.ofString "both"))))) (sRet (eAn (eCall c_truth_said (aCons (eBin gIx (eV 3) (eC (.int 0))) (aCons (eV 1) (aCons (eV 2) (aNil))))) (eCall c_truth_said (aCons (eBin gIx (eV 3) (eC (.int 1))) (aCons (eV 1) (aCons (eV 2) (aNil))))))) (sNx))
    (sSeq (sIf (tV (eBin gEq (eV 2) (eC (.str (Str.ofString "when"))))) (sSeq (sIf (tV (eCall c_truth_said (aCons (eBin gIx (eV 3) (eC (.int 0))) (aCons (eV 1) (aCons (eV 2) (aNil)))))) (sRet (eCall c_spoken (aCons (eBin gIx (eV 3) (eC (.int 1))) (aCons (eV 1) (aNil))))) (sNx))
    (sRet (eCall c_spoken (aCons (eBin gIx (eV 3) (eC (.int 2))) (aCons (eV 1) (aNil)))))) (sNx))
    (sSeq (sIf (tV (eBin gEq (eV 2) (eC (.str (Str.ofString "each"))))) (sRet (eCall c_each_said (aCons (eV 0) (aCons (eV 1) (aNil))))) (sNx))
    (sRet (eCall c_joined_said (aCons (eV 0) (aCons (eV 1) (aNil))))))))))))))))
noncomputable def U_truth_said (c_each_said : List D → Sto → R D) (c_joined_said : List D → Sto → R D) (c_number_said : List D → Sto → R D) (c_of_a_row : List D → Sto → R D) (c_of_numbers : List D → Sto → R D) (c_row_said : List D → Sto → R D) (c_spoken : List D → Sto → R D) (c_truth_said : List D → Sto → R D) : List D → Sto → R D := runG 4 (
    sSeq (sSet 3 (eCall c_spoken (aCons (eV 0) (aCons (eV 1) (aNil)))))
    (sRet (eCall S_fit_for (aCons (eUn (gIsi "bool") (eV 3)) (aCons (eV 2) (aCons (eV 3) (aNil)))))))
mutual
noncomputable def S_each_said : Nat → List D → Sto → R D
  | 0 => fun _ _ => .stk
  | n + 1 => U_each_said (S_each_said n) (S_joined_said n) (S_number_said n) (S_of_a_row n) (S_of_numbers n) (S_row_said n) (S_spoken n) (S_truth_said n)
noncomputable def S_joined_said : Nat → List D → Sto → R D
  | 0 => fun _ _ => .stk
  | n + 1 => U_joined_said (S_each_said n) (S_joined_said n) (S_number_said n) (S_of_a_row n) (S_of_numbers n) (S_row_said n) (S_spoken n) (S_truth_said n)
noncomputable def S_number_said : Nat → List D → Sto → R D
  | 0 => fun _ _ => .stk
  | n + 1 => U_number_said (S_each_said n) (S_joined_said n) (S_number_said n) (S_of_a_row n) (S_of_numbers n) (S_row_said n) (S_spoken n) (S_truth_said n)
noncomputable def S_of_a_row : Nat → List D → Sto → R D
  | 0 => fun _ _ => .stk
  | n + 1 => U_of_a_row (S_each_said n) (S_joined_said n) (S_number_said n) (S_of_a_row n) (S_of_numbers n) (S_row_said n) (S_spoken n) (S_truth_said n)
noncomputable def S_of_numbers : Nat → List D → Sto → R D
  | 0 => fun _ _ => .stk
  | n + 1 => U_of_numbers (S_each_said n) (S_joined_said n) (S_number_said n) (S_of_a_row n) (S_of_numbers n) (S_row_said n) (S_spoken n) (S_truth_said n)
noncomputable def S_row_said : Nat → List D → Sto → R D
  | 0 => fun _ _ => .stk
  | n + 1 => U_row_said (S_each_said n) (S_joined_said n) (S_number_said n) (S_of_a_row n) (S_of_numbers n) (S_row_said n) (S_spoken n) (S_truth_said n)
noncomputable def S_spoken : Nat → List D → Sto → R D
  | 0 => fun _ _ => .stk
  | n + 1 => U_spoken (S_each_said n) (S_joined_said n) (S_number_said n) (S_of_a_row n) (S_of_numbers n) (S_row_said n) (S_spoken n) (S_truth_said n)
noncomputable def S_truth_said : Nat → List D → Sto → R D
  | 0 => fun _ _ => .stk
  | n + 1 => U_truth_said (S_each_said n) (S_joined_said n) (S_number_said n) (S_of_a_row n) (S_of_numbers n) (S_row_said n) (S_spoken n) (S_truth_said n)
end
noncomputable def S_said : List D → Sto → R D := runG 2 (
    sRet (eCall (S_own_copy 30) (aCons (eCall (S_spoken 30) (aCons (eV 0) (aCons (eV 1) (aNil)))) (aNil))))
noncomputable def S_l_told : List D → Sto → R D := runG 5 (
    sSeq (sSet 2 (eC .non))
    (sSeq (sSet 3 (eC .non))
    (sSeq (sTryS xt_Astray 4 (sSet 3 (eCall S_said (aCons (eV 0) (aCons (eV 1) (aNil))))) (sSet 2 (eV 4)))
    (sSeq (sIf (tV (eBin gIsN (eV 2) (eC .non))) (sRet (eTup (aCons (eC (.str (Str.ofString "said"))) (aCons (eV 3) (aNil))))) (sNx))
    (sSeq (sIf (tOrr (tNt (tV (eUn (gIsD tb_CountError) (eV 2)))) (tNt (tV (eUn (gIsD tb_ValueError) (eV 2))))) (sRet (eTup (aCons (eC (.str (Str.ofString "said"))) (aCons (eV 2) (aNil))))) (sNx))
    (sRet (eTup (aCons (eC (.str (Str.ofString "astray"))) (aCons (eFdE "mark" xf_mark (eV 2)) (aNil))))))))))
noncomputable def L_law_0 : S := sSeq (sSet 7 (eCall S_l_told (aCons (eV 4) (aCons (eV 2) (aNil)))))
    (sSeq (sIf (tOrr (tV (eBin gNe (eBin gIx (eV 7) (eC (.int 0))) (eBin gIx (eV 5) (eC (.int 0))))) (tOrr (tNt (tV (eCallZ (S_l_alike 30) (aCons (eBin gIx (eV 7) (eC (.int 1))) (aCons (eBin gIx (eV 5) (eC (.int 1))) (aNil)))))) (tV (eBin gNe (eFn gRepr (aCons (eV 2) (aNil))) (eV 3))))) (sRet (eC (.bl false))) (sNx))
    (sIf (tAn (tV (eBin gEq (eBin gIx (eV 7) (eC (.int 0))) (eC (.str (Str.ofString "said"))))) (tNt (tV (eCall S_l_own (aCons (eBin gIx (eV 7) (eC (.int 1))) (aNil)))))) (sRet (eC (.bl false))) (sNx)))
noncomputable def S_law : List D → Sto → R D := runG 9 (
    sSeq (sSet 1 (eNw (fList (eSl (eV 0) (oNone) (oSome (eC (.int 63)))))))
    (sSeq (sSet 2 (eFz (fLc (iRange1 (aCons (eCall S_l_take (aCons (eV 1) (aCons (eC (.int 5)) (aNil)))) (aNil))) [8] (.nm 8) (tTrue) (eCall (S_l_thing 30) (aCons (eV 1) (aCons (eC (.int 2)) (aNil)))))))
    (sSeq (sIf (tV (eBin gEq (eCall S_l_take (aCons (eV 1) (aCons (eC (.int 3)) (aNil)))) (eC (.int 1)))) (sSet 2 (eCall (S_l_thing 30) (aCons (eV 1) (aCons (eC (.int 3)) (aNil))))) (sNx))
    (sSeq (sSet 3 (eFn gRepr (aCons (eV 2) (aNil))))
    (sSeq (sSet 4 (eCall (S_l_term 30) (aCons (eV 1) (aCons (eC (.int 3)) (aCons (eC (.int 6)) (aNil))))))
    (sSeq (sSet 5 (eCall (S_l_due 30) (aCons (eV 4) (aCons (eV 2) (aNil)))))
    (sSeq (sFor (iRange1 (aCons (eC (.int 2)) (aNil))) (.nm 6) (L_law_0))
    (sRet (eBin gEq (eFn gRepr (aCons (eV 2) (aNil))) (eV 3))))))))))
/-! they keep it -/
section
variable {P : Program} {w : World} {K : PySem.W.Frag} {mg : Str → Option Value} {base : Heap} {ct : String → Addr}
set_option maxHeartbeats 4000000 in
theorem ok_Astray___init__ {a : Addr} {fd : FuncData} (F : L2.Fun K "__init__" "Astray.__init__" s_Astray___init__ a fd) {B C : Addr} (gB : mg "CountError" = some (.ref B)) (ga : PySem.W.specialIn K (.ref B) "__getattribute__" = some (some (.builtin "type.__getattribute__"))) (hT : PySem.W.typeIn K (.ref B) = some (.type "type")) (rd : PySem.W.readsIn K B (.type "type") = true) (vV : PySem.W.findCls K (.ref B) (.type "type") "__init__" = some (.val (.builtin "ValueError.__init__"))) (nf0 : PySem.W.findIn K (.ref C) "mark" = some none) :
    FnOk P w K mg base (L2.CX P w) 1 a fd PI_Astray (spXI K C ["mark"]) := by
  refine F.okX (N := PI_Astray) sc_Astray___init__ (fun vs H Q E ⟨a, w, ys, e, hl, _⟩ => by subst e; simpa using hl) (fun cdv A outer s H vs Q E hr ⟨a, w, ys, e, hl, T, ha, q⟩ => ⟨_, pss_cons (ps_expr (pe_ceinit rfl gB ga hT rd vV (pa_cons (pv 0) (pa_cons (pv 1) pa_nil)))) (pss_one (ps_ost (pv 0) (pv 2))), ?_⟩)
  subst e
  match ys, hl with
  | [y0], _ =>
    refine ⟨_, rfl, _, rfl, a, C, _, rfl, by simp, T, ha, _, rfl, _, rfl, a, C, rfl, T, nf0, .inl ⟨ha, fun dx nd ne => ?_⟩⟩
    exact q _ dx nd ne upd_same (by rw [upd_ne ne]; exact upd_same) fun b b1 b2 => by rw [upd_ne b1, upd_ne b2]
set_option maxHeartbeats 4000000 in
theorem ok_l_alike {a : Addr} {fd : FuncData} (F : L2.Fun K "_law_alike" "_law_alike" s_l_alike a fd) {k : Nat} (hk : 0 ≤ k) {c_l_alike : List D → Sto → R D} {a_l_alike : Addr} {f_l_alike : FuncData} (G_l_alike : FnOk P w K mg base (L2.CX P w) k a_l_alike f_l_alike P_l_alike (spG K ct 2 c_l_alike)) (M_l_alike : mg "_law_alike" = some (.ref a_l_alike)) (K_l_alike : PySem.W.keepIn K (.ref a_l_alike) = true) (B_l_alike : Binds K f_l_alike P_l_alike []) (Z_all : mg "all" = none) (Z_bool : mg "bool" = none) (Z_isinstance : mg "isinstance" = none) (Z_len : mg "len" = none) (Z_list : mg "list" = none) (Z_tuple : mg "tuple" = none) (Z_zip : mg "zip" = none) :
    FnOk P w K mg base (L2.CX P w) (k + 1) a fd P_l_alike (spG K ct 2 (U_l_alike c_l_alike)) := by
  refine fn_ok (N := N_l_alike) (ct := ct) F sc_l_alike (by decide) (fun cdv A outer s H v E hr => ?_)
  have nd := sc_l_alike.nd
  exact ss_cons (ss_if (PW.pt (sw_and (st_val (se_isi2 (n := "list") (m := "tuple") (se_var 0) rfl Z_isinstance rfl Z_list (by decide +kernel) rfl Z_tuple (by decide +kernel))) (sw_and1 (st_val (se_isi2 (n := "list") (m := "tuple") (se_var 1) rfl Z_isinstance rfl Z_list (by decide +kernel) rfl Z_tuple (by decide +kernel)))))) (ss_cons (ss_if (PW.pt (sw_or (st_cmp (o_ne (hu_big hr)) (se_isi (n := "list") (se_var 0) rfl Z_isinstance rfl Z_list (by decide +kernel)) (se_isi (n := "list") (se_var 1) rfl Z_isinstance rfl Z_list (by decide +kernel))) (sw_or1 (st_cmp (o_ne (hu_big hr)) (se_callB (b_len) rfl Z_len (by decide +kernel) (sa_cons (se_var 0) (sa_nil))) (se_callB (b_len) rfl Z_len (by decide +kernel) (sa_cons (se_var 1) (sa_nil))))))) (ss_one (ss_ret (se_bl))) (ss_nil))
    (ss_one (ss_ret (se_callB (b_all rfl) rfl Z_all (by decide +kernel) (sa_cons (SF.fz (sf_lc [("_law_here", 2), ("_law_there", 3)] rfl nd (si_zip rfl Z_zip (sa_cons (se_var 0) (sa_cons (se_var 1) (sa_nil)))) (blkOk_by (by change blkC N_l_alike (defScope s_l_alike) _ _ = true; decide +kernel)) (by decide) (fun _ _ _ _ _ => sg_tup rfl (sgs_cons (sg_name 2 nd) (sgs_cons (sg_name 3 nd) (sgs_nil)))) (fun _ _ _ _ _ => sts_nil) (fun _ _ _ _ _ => se_callZ G_l_alike (hr) takes0 rfl M_l_alike K_l_alike B_l_alike (sa_cons (se_var 2) (sa_cons (se_var 3) (sa_nil))) (lenA_cons (lenA_cons (lenA_nil)))))) (sa_nil)))))) (ss_nil))
    (ss_cons (ss_if (st_cmp (o_ne (hu_big hr)) (se_isi (n := "bool") (se_var 0) rfl Z_isinstance rfl Z_bool (by decide +kernel)) (se_isi (n := "bool") (se_var 1) rfl Z_isinstance rfl Z_bool (by decide +kernel))) (ss_one (ss_ret (se_bl))) (ss_nil))
    (ss_one (ss_ret (se_cmp (o_eq (hu_big hr)) (se_var 0) (se_var 1)))))
set_option maxHeartbeats 4000000 in
theorem ok_l_whole {a : Addr} {fd : FuncData} (F : L2.Fun K "_law_whole" "_law_whole" s_l_whole a fd) (Z_bool : mg "bool" = none) (Z_int : mg "int" = none) (Z_isinstance : mg "isinstance" = none) :
    FnOk P w K mg base (L2.CX P w) 1 a fd P_l_whole (spG K ct 1 S_l_whole) := by
  refine fn_ok (N := N_l_whole) (ct := ct) F sc_l_whole (by decide) (fun cdv A outer s H v E hr => ?_)
  have nd := sc_l_whole.nd
  exact ss_one (ss_ret (se_and (se_isi (n := "int") (se_var 0) rfl Z_isinstance rfl Z_int (by decide +kernel)) (se_one (se_nt (se_isi (n := "bool") (se_var 0) rfl Z_isinstance rfl Z_bool (by decide +kernel))))))
set_option maxHeartbeats 4000000 in
theorem ok_l_can {a : Addr} {fd : FuncData} (F : L2.Fun K "_law_can" "_law_can" s_l_can a fd) {a_l_whole : Addr} {f_l_whole : FuncData} (G_l_whole : FnOk P w K mg base (L2.CX P w) 1 a_l_whole f_l_whole P_l_whole (spG K ct 1 S_l_whole)) (M_l_whole : mg "_law_whole" = some (.ref a_l_whole)) (K_l_whole : PySem.W.keepIn K (.ref a_l_whole) = true) (B_l_whole : Binds K f_l_whole P_l_whole []) (Z_all : mg "all" = none) (Z_bool : mg "bool" = none) (Z_isinstance : mg "isinstance" = none) (Z_list : mg "list" = none) (Z_str : mg "str" = none) (Z_tuple : mg "tuple" = none) :
    FnOk P w K mg base (L2.CX P w) 2 a fd P_l_can (spG K ct 4 S_l_can) := by
  refine fn_ok (N := N_l_can) (ct := ct) F sc_l_can (by decide) (fun cdv A outer s H v E hr => ?_)
  have nd := sc_l_can.nd
  exact ss_cons (ss_if (st_cmp (o_eq (hu_big hr)) (se_var 0) (se_str)) (ss_one (ss_ret (se_and (se_isi2 (n := "list") (m := "tuple") (se_var 3) rfl Z_isinstance rfl Z_list (by decide +kernel) rfl Z_tuple (by decide +kernel)) (se_one (se_callB (b_all rfl) rfl Z_all (by decide +kernel) (sa_cons (SF.fz (sf_lc [("_law_each", 4)] rfl nd (si_seq (se_var 3)) (blkOk_by (by change blkC N_l_can (defScope s_l_can) _ _ = true; decide +kernel)) (by decide) (fun _ _ _ _ _ => sg_name 4 nd) (fun _ _ _ _ _ => sts_nil) (fun _ _ _ _ _ => se_call G_l_whole (hr.mono (by decide)) takes0 rfl M_l_whole K_l_whole B_l_whole (sa_cons (se_var 4) (sa_nil)) (lenA_cons (lenA_nil))))) (sa_nil))))))) (ss_nil))
    (ss_cons (ss_if (PW.pt (sw_or (st_cmp (o_eq (hu_big hr)) (se_var 0) (se_str)) (sw_or1 (PW.pt (sw_and (st_cmp (o_eq (hu_big hr)) (se_var 0) (se_str)) (sw_and1 (st_cmp (o_eq (hu_big hr)) (se_var 1) (se_int)))))))) (ss_one (ss_ret (se_isi2 (n := "list") (m := "tuple") (se_var 3) rfl Z_isinstance rfl Z_list (by decide +kernel) rfl Z_tuple (by decide +kernel)))) (ss_nil))
    (ss_cons (ss_if (st_cmp o_in (se_var 0) (se_tup (sa_cons (se_str) (sa_cons (se_str) (sa_nil))))) (ss_one (ss_ret (se_isi3 (n := "list") (m := "tuple") (l := "str") (se_var 3) rfl Z_isinstance rfl Z_list (by decide +kernel) rfl Z_tuple (by decide +kernel) rfl Z_str (by decide +kernel)))) (ss_nil))
    (ss_cons (ss_if (st_cmp o_in (se_var 0) (se_tup (sa_cons (se_str) (sa_cons (se_str) (sa_cons (se_str) (sa_nil)))))) (ss_one (ss_ret (se_call G_l_whole (hr.mono (by decide)) (takes_of rfl rfl rfl rfl) rfl M_l_whole K_l_whole B_l_whole (sa_cons (se_var 3) (sa_nil)) (lenA_cons (lenA_nil))))) (ss_nil))
    (ss_cons (ss_if (PW.pt (sw_or (st_cmp o_in (se_var 0) (se_tup (sa_cons (se_str) (sa_cons (se_str) (sa_cons (se_str) (sa_nil)))))) (sw_or1 (PW.pt (sw_and (st_cmp (o_eq (hu_big hr)) (se_var 0) (se_str)) (sw_and1 (st_cmp (o_eq (hu_big hr)) (se_var 1) (se_int)))))))) (ss_one (ss_ret (se_isi (n := "bool") (se_var 3) rfl Z_isinstance rfl Z_bool (by decide +kernel)))) (ss_nil))
    (ss_cons (ss_if (PW.pt (sw_and (st_cmp (o_eq (hu_big hr)) (se_var 0) (se_str)) (sw_and1 (st_cmp (o_eq (hu_big hr)) (se_var 1) (se_int))))) (ss_one (ss_ret (se_isi2 (n := "list") (m := "str") (se_var 3) rfl Z_isinstance rfl Z_list (by decide +kernel) rfl Z_str (by decide +kernel)))) (ss_nil))
    (ss_cons (ss_if (st_cmp (o_eq (hu_big hr)) (se_var 0) (se_str)) (ss_one (ss_ret (se_and (se_cmp (o_eq (hu_big hr)) (se_isi (n := "list") (se_var 3) rfl Z_isinstance rfl Z_list (by decide +kernel)) (se_isi (n := "list") (se_var 2) rfl Z_isinstance rfl Z_list (by decide +kernel))) (se_one (se_cmp (o_eq (hu_big hr)) (se_isi (n := "str") (se_var 3) rfl Z_isinstance rfl Z_str (by decide +kernel)) (se_isi (n := "str") (se_var 2) rfl Z_isinstance rfl Z_str (by decide +kernel))))))) (ss_nil))
    (ss_one (ss_ret (se_bl)))))))))
set_option maxHeartbeats 4000000 in
theorem ok_l_due_of_one {a : Addr} {fd : FuncData} (F : L2.Fun K "_law_due_of_one" "_law_due_of_one" s_l_due_of_one a fd) (Z_len : mg "len" = none) (Z_sum : mg "sum" = none) :
    FnOk P w K mg base (L2.CX P w) 1 a fd P_l_due_of_one (spG K ct 3 S_l_due_of_one) := by
  refine fn_ok (N := N_l_due_of_one) (ct := ct) F sc_l_due_of_one (by decide) (fun cdv A outer s H v E hr => ?_)
  have nd := sc_l_due_of_one.nd
  exact ss_cons (ss_if (st_cmp (o_eq (hu_big hr)) (se_var 0) (se_str)) (ss_one (ss_ret (se_tup (sa_cons (se_str) (sa_cons (se_nt (se_var 2)) (sa_nil)))))) (ss_nil))
    (ss_cons (ss_if (st_cmp (o_eq (hu_big hr)) (se_var 0) (se_str)) (ss_one (ss_ret (se_tup (sa_cons (se_str) (sa_cons (se_callB (b_len) rfl Z_len (by decide +kernel) (sa_cons (se_var 2) (sa_nil))) (sa_nil)))))) (ss_nil))
    (ss_cons (ss_if (st_cmp (o_eq (hu_big hr)) (se_var 0) (se_str)) (ss_one (ss_ret (se_tup (sa_cons (se_str) (sa_cons (se_revA (se_var 2)) (sa_nil)))))) (ss_nil))
    (ss_cons (ss_if (st_cmp (o_eq (hu_big hr)) (se_var 0) (se_str)) (ss_one (ss_ret (se_tup (sa_cons (se_str) (sa_cons (se_callB (b_sumA rfl) rfl Z_sum (by decide +kernel) (sa_cons (se_var 2) (sa_nil))) (sa_nil)))))) (ss_nil))
    (ss_cons (ss_if (st_cmp o_ge (se_ix (se_var 1) (se_int)) (se_callB (b_len) rfl Z_len (by decide +kernel) (sa_cons (se_var 2) (sa_nil)))) (ss_one (ss_ret (se_tup (sa_cons (se_str) (sa_cons (se_var 0) (sa_nil)))))) (ss_nil))
    (ss_one (ss_ret (se_tup (sa_cons (se_str) (sa_cons (se_ix (se_var 2) (se_ix (se_var 1) (se_int))) (sa_nil))))))))))
set_option maxHeartbeats 4000000 in
theorem ok_l_due_of_two {a : Addr} {fd : FuncData} (F : L2.Fun K "_law_due_of_two" "_law_due_of_two" s_l_due_of_two a fd) {a_l_alike : Addr} {f_l_alike : FuncData} (G_l_alike : FnOk P w K mg base (L2.CX P w) 30 a_l_alike f_l_alike P_l_alike (spG K ct 2 (S_l_alike 30))) (M_l_alike : mg "_law_alike" = some (.ref a_l_alike)) (K_l_alike : PySem.W.keepIn K (.ref a_l_alike) = true) (B_l_alike : Binds K f_l_alike P_l_alike []) :
    FnOk P w K mg base (L2.CX P w) 31 a fd P_l_due_of_two (spG K ct 3 S_l_due_of_two) := by
  refine fn_ok (N := N_l_due_of_two) (ct := ct) F sc_l_due_of_two (by decide) (fun cdv A outer s H v E hr => ?_)
  have nd := sc_l_due_of_two.nd
  exact ss_cons (ss_if (st_cmp (o_eq (hu_big hr)) (se_var 0) (se_str)) (ss_one (ss_ret (se_tup (sa_cons (se_str) (sa_cons (se_bin o_mul (se_var 1) (se_var 2)) (sa_nil)))))) (ss_nil))
    (ss_cons (ss_if (st_cmp (o_eq (hu_big hr)) (se_var 0) (se_str)) (ss_one (ss_ret (se_tup (sa_cons (se_str) (sa_cons (se_cmp o_lt (se_var 1) (se_var 2)) (sa_nil)))))) (ss_nil))
    (ss_cons (ss_if (st_cmp (o_eq (hu_big hr)) (se_var 0) (se_str)) (ss_one (ss_ret (se_tup (sa_cons (se_str) (sa_cons (se_callZ G_l_alike (hr.mono (by decide)) (takes_of rfl rfl rfl rfl) rfl M_l_alike K_l_alike B_l_alike (sa_cons (se_var 1) (sa_cons (se_var 2) (sa_nil))) (lenA_cons (lenA_cons (lenA_nil)))) (sa_nil)))))) (ss_nil))
    (ss_one (ss_ret (se_tup (sa_cons (se_str) (sa_cons (se_bin o_add (se_var 1) (se_var 2)) (sa_nil))))))))
set_option maxHeartbeats 4000000 in
theorem ok_l_asked {a : Addr} {fd : FuncData} (F : L2.Fun K "_law_asked" "_law_asked" s_l_asked a fd) {k : Nat} (hk : 31 ≤ k) {c_l_asked : List D → Sto → R D} {c_l_due : List D → Sto → R D} {c_l_due_each : List D → Sto → R D} {a_l_can : Addr} {f_l_can : FuncData} (G_l_can : FnOk P w K mg base (L2.CX P w) 2 a_l_can f_l_can P_l_can (spG K ct 4 S_l_can)) (M_l_can : mg "_law_can" = some (.ref a_l_can)) (K_l_can : PySem.W.keepIn K (.ref a_l_can) = true) (B_l_can : Binds K f_l_can P_l_can []) {a_l_due : Addr} {f_l_due : FuncData} (G_l_due : FnOk P w K mg base (L2.CX P w) k a_l_due f_l_due P_l_due (spG K ct 2 c_l_due)) (M_l_due : mg "_law_due" = some (.ref a_l_due)) (K_l_due : PySem.W.keepIn K (.ref a_l_due) = true) (B_l_due : Binds K f_l_due P_l_due []) :
    FnOk P w K mg base (L2.CX P w) (k + 1) a fd P_l_asked (spG K ct 5 (U_l_asked c_l_asked c_l_due c_l_due_each)) := by
  refine fn_ok (N := N_l_asked) (ct := ct) F sc_l_asked (by decide) (fun cdv A outer s H v E hr => ?_)
  have nd := sc_l_asked.nd
  exact ss_cons (ss_set 5 (se_call G_l_due (hr) (takes_of rfl rfl rfl rfl) rfl M_l_due K_l_due B_l_due (sa_cons (se_var 2) (sa_cons (se_var 3) (sa_nil))) (lenA_cons (lenA_cons (lenA_nil)))) nd)
    (ss_cons (ss_if (PW.pt (sw_and (st_cmp (o_eq (hu_big hr)) (se_ix (se_var 5) (se_int)) (se_str)) (sw_and1 (st_not (st_val (se_call G_l_can (hr.mono (Nat.le_trans (by decide) hk)) (takes_of rfl rfl rfl rfl) rfl M_l_can K_l_can B_l_can (sa_cons (se_var 0) (sa_cons (se_var 1) (sa_cons (se_var 4) (sa_cons (se_ix (se_var 5) (se_int)) (sa_nil))))) (lenA_cons (lenA_cons (lenA_cons (lenA_cons (lenA_nil))))))))))) (ss_one (ss_ret (se_tup (sa_cons (se_str) (sa_cons (se_var 0) (sa_nil)))))) (ss_nil))
    (ss_one (ss_ret (se_var 5))))
set_option maxHeartbeats 4000000 in
theorem ok_l_due {a : Addr} {fd : FuncData} (F : L2.Fun K "_law_due" "_law_due" s_l_due a fd) {k : Nat} (hk : 31 ≤ k) {c_l_asked : List D → Sto → R D} {c_l_due : List D → Sto → R D} {c_l_due_each : List D → Sto → R D} {a_l_asked : Addr} {f_l_asked : FuncData} (G_l_asked : FnOk P w K mg base (L2.CX P w) k a_l_asked f_l_asked P_l_asked (spG K ct 5 c_l_asked)) (M_l_asked : mg "_law_asked" = some (.ref a_l_asked)) (K_l_asked : PySem.W.keepIn K (.ref a_l_asked) = true) (B_l_asked : Binds K f_l_asked P_l_asked []) {a_l_due_each : Addr} {f_l_due_each : FuncData} (G_l_due_each : FnOk P w K mg base (L2.CX P w) k a_l_due_each f_l_due_each P_l_due_each (spG K ct 2 c_l_due_each)) (M_l_due_each : mg "_law_due_each" = some (.ref a_l_due_each)) (K_l_due_each : PySem.W.keepIn K (.ref a_l_due_each) = true) (B_l_due_each : Binds K f_l_due_each P_l_due_each []) {a_l_due_of_one : Addr} {f_l_due_of_one : FuncData} (G_l_due_of_one : FnOk P w K mg base (L2.CX P w) 1 a_l_due_of_one f_l_due_of_one P_l_due_of_one (spG K ct 3 S_l_due_of_one)) (M_l_due_of_one : mg "_law_due_of_one" = some (.ref a_l_due_of_one)) (K_l_due_of_one : PySem.W.keepIn K (.ref a_l_due_of_one) = true) (B_l_due_of_one : Binds K f_l_due_of_one P_l_due_of_one []) {a_l_due_of_two : Addr} {f_l_due_of_two : FuncData} (G_l_due_of_two : FnOk P w K mg base (L2.CX P w) 31 a_l_due_of_two f_l_due_of_two P_l_due_of_two (spG K ct 3 S_l_due_of_two)) (M_l_due_of_two : mg "_law_due_of_two" = some (.ref a_l_due_of_two)) (K_l_due_of_two : PySem.W.keepIn K (.ref a_l_due_of_two) = true) (B_l_due_of_two : Binds K f_l_due_of_two P_l_due_of_two []) (Z_int : mg "int" = none) :
    FnOk P w K mg base (L2.CX P w) (k + 1) a fd P_l_due (spG K ct 2 (U_l_due c_l_asked c_l_due c_l_due_each)) := by
  refine fn_ok (N := N_l_due) (ct := ct) F sc_l_due (by decide) (fun cdv A outer s H v E hr => ?_)
  have nd := sc_l_due.nd
  exact ss_cons (ss_set 2 (se_ix (se_var 0) (se_int)) nd)
    (ss_cons (ss_set 3 (se_ix (se_var 0) (se_int)) nd)
    (ss_cons (ss_if (st_cmp (o_eq (hu_big hr)) (se_var 2) (se_str)) (ss_one (ss_ret (se_tup (sa_cons (se_str) (sa_cons (se_var 3) (sa_nil)))))) (ss_nil))
    (ss_cons (ss_if (st_cmp (o_eq (hu_big hr)) (se_var 2) (se_str)) (ss_one (ss_ret (se_tup (sa_cons (se_str) (sa_cons (se_var 1) (sa_nil)))))) (ss_nil))
    (ss_cons (ss_set 4 (se_var 3) nd)
    (ss_cons (ss_if (st_cmp o_nin (se_var 2) (se_tup (sa_cons (se_str) (sa_cons (se_str) (sa_cons (se_str) (sa_cons (se_str) (sa_nil))))))) (ss_one (ss_set 4 (se_ix (se_var 3) (se_int)) nd)) (ss_nil))
    (ss_cons (ss_set 5 (se_call G_l_asked (hr) (takes_of rfl rfl rfl rfl) rfl M_l_asked K_l_asked B_l_asked (sa_cons (se_var 2) (sa_cons (se_int) (sa_cons (se_var 4) (sa_cons (se_var 1) (sa_cons (se_non) (sa_nil)))))) (lenA_cons (lenA_cons (lenA_cons (lenA_cons (lenA_cons (lenA_nil))))))) nd)
    (ss_cons (ss_if (st_cmp (o_eq (hu_big hr)) (se_ix (se_var 5) (se_int)) (se_str)) (ss_one (ss_ret (se_var 5))) (ss_nil))
    (ss_cons (ss_if (st_cmp o_in (se_var 2) (se_tup (sa_cons (se_str) (sa_cons (se_str) (sa_cons (se_str) (sa_cons (se_str) (sa_cons (se_str) (sa_nil)))))))) (ss_one (ss_ret (se_call G_l_due_of_one (hr.mono (Nat.le_trans (by decide) hk)) (takes_of rfl rfl rfl rfl) rfl M_l_due_of_one K_l_due_of_one B_l_due_of_one (sa_cons (se_var 2) (sa_cons (se_var 3) (sa_cons (se_ix (se_var 5) (se_int)) (sa_nil)))) (lenA_cons (lenA_cons (lenA_cons (lenA_nil))))))) (ss_nil))
    (ss_cons (ss_if (st_cmp (o_eq (hu_big hr)) (se_var 2) (se_str)) (ss_one (ss_ret (se_call G_l_due_each (hr) (takes_of rfl rfl rfl rfl) rfl M_l_due_each K_l_due_each B_l_due_each (sa_cons (se_ix (se_var 3) (se_int)) (sa_cons (se_ix (se_var 5) (se_int)) (sa_nil))) (lenA_cons (lenA_cons (lenA_nil)))))) (ss_nil))
    (ss_cons (ss_if (st_cmp (o_eq (hu_big hr)) (se_var 2) (se_str)) (ss_one (ss_ret (se_call G_l_asked (hr) (takes_of rfl rfl rfl rfl) rfl M_l_asked K_l_asked B_l_asked (sa_cons (se_var 2) (sa_cons (se_int) (sa_cons (se_ix (se_var 3) (se_bin o_sub (se_int) (se_callT (b_int) rfl Z_int (by decide +kernel) (sa_cons (se_ix (se_var 5) (se_int)) (sa_nil))))) (sa_cons (se_var 1) (sa_cons (se_non) (sa_nil)))))) (lenA_cons (lenA_cons (lenA_cons (lenA_cons (lenA_cons (lenA_nil))))))))) (ss_nil))
    (ss_cons (ss_if (PW.pt (sw_and (st_cmp (o_eq (hu_big hr)) (se_var 2) (se_str)) (sw_and1 (st_not (st_val (se_ix (se_var 5) (se_int))))))) (ss_one (ss_ret (se_var 5))) (ss_nil))
    (ss_cons (ss_set 6 (se_call G_l_asked (hr) (takes_of rfl rfl rfl rfl) rfl M_l_asked K_l_asked B_l_asked (sa_cons (se_var 2) (sa_cons (se_int) (sa_cons (se_ix (se_var 3) (se_int)) (sa_cons (se_var 1) (sa_cons (se_ix (se_var 5) (se_int)) (sa_nil)))))) (lenA_cons (lenA_cons (lenA_cons (lenA_cons (lenA_cons (lenA_nil))))))) nd)
    (ss_cons (ss_if (PW.pt (sw_or (st_cmp (o_eq (hu_big hr)) (se_ix (se_var 6) (se_int)) (se_str)) (sw_or1 (st_cmp (o_eq (hu_big hr)) (se_var 2) (se_str))))) (ss_one (ss_ret (se_var 6))) (ss_nil))
    (ss_one (ss_ret (se_call G_l_due_of_two (hr.mono (Nat.le_trans (by decide) hk)) (takes_of rfl rfl rfl rfl) rfl M_l_due_of_two K_l_due_of_two B_l_due_of_two (sa_cons (se_var 2) (sa_cons (se_ix (se_var 5) (se_int)) (sa_cons (se_ix (se_var 6) (se_int)) (sa_nil)))) (lenA_cons (lenA_cons (lenA_cons (lenA_nil))))))))))))))))))))
set_option maxHeartbeats 4000000 in
theorem ok_l_due_each {a : Addr} {fd : FuncData} (F : L2.Fun K "_law_due_each" "_law_due_each" s_l_due_each a fd) {k : Nat} (hk : 31 ≤ k) {c_l_asked : List D → Sto → R D} {c_l_due : List D → Sto → R D} {c_l_due_each : List D → Sto → R D} {a_l_asked : Addr} {f_l_asked : FuncData} (G_l_asked : FnOk P w K mg base (L2.CX P w) k a_l_asked f_l_asked P_l_asked (spG K ct 5 c_l_asked)) (M_l_asked : mg "_law_asked" = some (.ref a_l_asked)) (K_l_asked : PySem.W.keepIn K (.ref a_l_asked) = true) (B_l_asked : Binds K f_l_asked P_l_asked []) :
    FnOk P w K mg base (L2.CX P w) (k + 1) a fd P_l_due_each (spG K ct 2 (U_l_due_each c_l_asked c_l_due c_l_due_each)) := by
  refine fn_ok (N := N_l_due_each) (ct := ct) F sc_l_due_each (by decide) (fun cdv A outer s H v E hr => ?_)
  have nd := sc_l_due_each.nd
  exact ss_cons (ss_for (passes_of rfl) rfl (si_seq (se_var 1)) (sg_name 2 nd) (ss_cons (ss_set 3 (se_call G_l_asked (hr) (takes_of rfl rfl rfl rfl) rfl M_l_asked K_l_asked B_l_asked (sa_cons (se_str) (sa_cons (se_int) (sa_cons (se_var 0) (sa_cons (se_var 2) (sa_cons (se_non) (sa_nil)))))) (lenA_cons (lenA_cons (lenA_cons (lenA_cons (lenA_cons (lenA_nil))))))) nd)
    (ss_one (ss_if (PW.pt (sw_or (st_cmp (o_eq (hu_big hr)) (se_ix (se_var 3) (se_int)) (se_str)) (sw_or1 (st_not (st_val (se_ix (se_var 3) (se_int))))))) (ss_one (ss_ret (se_var 3))) (ss_nil)))))
    (ss_one (ss_ret (se_tup (sa_cons (se_str) (sa_cons (se_bl) (sa_nil))))))
set_option maxHeartbeats 4000000 in
theorem ok_l_lists {a : Addr} {fd : FuncData} (F : L2.Fun K "_law_lists" "_law_lists" s_l_lists a fd) {k : Nat} (hk : 0 ≤ k) {c_l_lists : List D → Sto → R D} {a_l_lists : Addr} {f_l_lists : FuncData} (G_l_lists : FnOk P w K mg base (L2.CX P w) k a_l_lists f_l_lists P_l_lists (spG K ct 1 c_l_lists)) (M_l_lists : mg "_law_lists" = some (.ref a_l_lists)) (K_l_lists : PySem.W.keepIn K (.ref a_l_lists) = true) (B_l_lists : Binds K f_l_lists P_l_lists []) (Z_isinstance : mg "isinstance" = none) (Z_list : mg "list" = none) (Z_tuple : mg "tuple" = none) :
    FnOk P w K mg base (L2.CX P w) (k + 1) a fd P_l_lists (spG K ct 1 (U_l_lists c_l_lists)) := by
  refine fn_ok (N := N_l_lists) (ct := ct) F sc_l_lists (by decide) (fun cdv A outer s H v E hr => ?_)
  have nd := sc_l_lists.nd
  exact ss_cons (ss_set 1 (SF.nw (sf_lst (sa_nil))) nd)
    (ss_cons (ss_if (st_val (se_isi (n := "list") (se_var 0) rfl Z_isinstance rfl Z_list (by decide +kernel))) (ss_one (ss_expr (se_app (se_var 1) (se_var 0)))) (ss_nil))
    (ss_cons (ss_if (st_val (se_isi2 (n := "list") (m := "tuple") (se_var 0) rfl Z_isinstance rfl Z_list (by decide +kernel) rfl Z_tuple (by decide +kernel))) (ss_one (ss_forO (passes_of rfl) rfl (si_seqO (se_var 0)) (sg_name 2 nd) (ss_one (ss_expr (se_ext (se_var 1) (se_call G_l_lists (hr) (takes_of rfl rfl rfl rfl) rfl M_l_lists K_l_lists B_l_lists (sa_cons (se_var 2) (sa_nil)) (lenA_cons (lenA_nil)))))))) (ss_nil))
    (ss_one (ss_ret (se_var 1)))))
set_option maxHeartbeats 4000000 in
theorem ok_l_own {a : Addr} {fd : FuncData} (F : L2.Fun K "_law_own" "_law_own" s_l_own a fd) {a_l_lists : Addr} {f_l_lists : FuncData} (G_l_lists : FnOk P w K mg base (L2.CX P w) 30 a_l_lists f_l_lists P_l_lists (spG K ct 1 (S_l_lists 30))) (M_l_lists : mg "_law_lists" = some (.ref a_l_lists)) (K_l_lists : PySem.W.keepIn K (.ref a_l_lists) = true) (B_l_lists : Binds K f_l_lists P_l_lists []) (Z_len : mg "len" = none) :
    FnOk P w K mg base (L2.CX P w) 31 a fd P_l_own (spG K ct 1 S_l_own) := by
  refine fn_ok (N := N_l_own) (ct := ct) F sc_l_own (by decide) (fun cdv A outer s H v E hr => ?_)
  have nd := sc_l_own.nd
  exact ss_cons (ss_set 1 (se_call G_l_lists (hr.mono (by decide)) (takes_of rfl rfl rfl rfl) rfl M_l_lists K_l_lists B_l_lists (sa_cons (se_var 0) (sa_nil)) (lenA_cons (lenA_nil))) nd)
    (ss_cons (ss_frz 3 (ss_setLcO 2 (g := eFz) [("_law_one", 3)] (fun _ _ _ z => lift_fz z) rfl nd rfl rfl (sw_true rfl rfl rfl (by decide +kernel)) (si_seqO (se_var 1)) (blkOk_by (by change blkC N_l_own (defScope s_l_own) _ _ = true; decide +kernel)) (by decide) (fun _ _ _ _ _ => sg_name 3 nd) (fun _ _ _ _ _ => sts_nil) (fun _ _ _ _ _ => se_callB (b_len) rfl Z_len (by decide +kernel) (sa_cons (se_var 3) (sa_nil)))))
    (ss_cons (ss_forO (passes_of rfl) rfl (si_seqO (se_var 1)) (sg_name 3 nd) (ss_one (ss_expr (se_app (se_var 3) (se_non)))))
    (ss_one (ss_ret (se_cmp (o_eq (hu_big hr)) (SF.fz (sf_lcO [("_law_one", 3)] rfl nd (si_seqO (se_var 1)) (blkOk_by (by change blkC N_l_own (defScope s_l_own) _ _ = true; decide +kernel)) (by decide) (fun _ _ _ _ _ => sg_name 3 nd) (fun _ _ _ _ _ => sts_nil) (fun _ _ _ _ _ => se_callB (b_len) rfl Z_len (by decide +kernel) (sa_cons (se_var 3) (sa_nil))))) (SF.fz (sf_lc [("_law_size", 4)] rfl nd (si_seq (se_var 2)) (blkOk_by (by change blkC N_l_own (defScope s_l_own) _ _ = true; decide +kernel)) (by decide) (fun _ _ _ _ _ => sg_name 4 nd) (fun _ _ _ _ _ => sts_nil) (fun _ _ _ _ _ => se_bin o_add (se_var 4) (se_int)))))))))
set_option maxHeartbeats 4000000 in
theorem ok_l_take {a : Addr} {fd : FuncData} (F : L2.Fun K "_law_take" "_law_take" s_l_take a fd) :
    FnOk P w K mg base (L2.CX P w) 1 a fd P_l_take (spG K ct 2 S_l_take) := by
  refine fn_ok (N := N_l_take) (ct := ct) F sc_l_take (by decide) (fun cdv A outer s H v E hr => ?_)
  have nd := sc_l_take.nd
  exact ss_cons (ss_if (st_cmp (o_eq (hu_big hr)) (se_var 0) (SF.fz (sf_lst (sa_nil)))) (ss_one (ss_ret (se_int))) (ss_nil))
    (ss_one (ss_ret (se_bin o_mod (se_popAt (se_var 0) (se_int)) (se_var 1))))
set_option maxHeartbeats 4000000 in
theorem ok_l_number_term {a : Addr} {fd : FuncData} (F : L2.Fun K "_law_number_term" "_law_number_term" s_l_number_term a fd) {k : Nat} (hk : 1 ≤ k) {c_l_number_term : List D → Sto → R D} {c_l_row_term : List D → Sto → R D} {c_l_term : List D → Sto → R D} {c_l_truth_term : List D → Sto → R D} {a_l_term : Addr} {f_l_term : FuncData} (G_l_term : FnOk P w K mg base (L2.CX P w) k a_l_term f_l_term P_l_term (spG K ct 3 c_l_term)) (M_l_term : mg "_law_term" = some (.ref a_l_term)) (K_l_term : PySem.W.keepIn K (.ref a_l_term) = true) (B_l_term : Binds K f_l_term P_l_term []) :
    FnOk P w K mg base (L2.CX P w) (k + 1) a fd P_l_number_term (spG K ct 3 (U_l_number_term c_l_number_term c_l_row_term c_l_term c_l_truth_term)) := by
  refine fn_ok (N := N_l_number_term) (ct := ct) F sc_l_number_term (by decide) (fun cdv A outer s H v E hr => ?_)
  have nd := sc_l_number_term.nd
  exact ss_cons (ss_set 3 (se_bin o_mod (se_var 1) (se_int)) nd)
    (ss_cons (ss_if (PW.pt (sw_or (st_cmp (o_eq (hu_big hr)) (se_var 2) (se_int)) (sw_or1 (st_cmp (o_eq (hu_big hr)) (se_var 3) (se_int))))) (ss_one (ss_ret (se_tup (sa_cons (se_str) (sa_cons (se_bin o_sub (se_bin o_mod (se_bin o_div (se_var 1) (se_int)) (se_bin o_pow (se_int) (se_int))) (se_int)) (sa_nil)))))) (ss_nil))
    (ss_cons (ss_if (st_cmp (o_eq (hu_big hr)) (se_var 3) (se_int)) (ss_one (ss_ret (se_tup (sa_cons (se_str) (sa_cons (se_tup (sa_nil)) (sa_nil)))))) (ss_nil))
    (ss_cons (ss_if (st_cmp (o_eq (hu_big hr)) (se_var 3) (se_int)) (ss_one (ss_ret (se_tup (sa_cons (se_str) (sa_cons (se_call G_l_term (hr) (takes_of rfl rfl rfl rfl) rfl M_l_term K_l_term B_l_term (sa_cons (se_var 0) (sa_cons (se_int) (sa_cons (se_bin o_sub (se_var 2) (se_int)) (sa_nil)))) (lenA_cons (lenA_cons (lenA_cons (lenA_nil))))) (sa_nil)))))) (ss_nil))
    (ss_cons (ss_if (st_cmp (o_eq (hu_big hr)) (se_var 3) (se_int)) (ss_one (ss_ret (se_tup (sa_cons (se_str) (sa_cons (se_call G_l_term (hr) (takes_of rfl rfl rfl rfl) rfl M_l_term K_l_term B_l_term (sa_cons (se_var 0) (sa_cons (se_int) (sa_cons (se_bin o_sub (se_var 2) (se_int)) (sa_nil)))) (lenA_cons (lenA_cons (lenA_cons (lenA_nil))))) (sa_nil)))))) (ss_nil))
    (ss_cons (ss_if (st_cmp (o_eq (hu_big hr)) (se_var 3) (se_int)) (ss_one (ss_ret (se_tup (sa_cons (se_str) (sa_cons (se_tup (sa_cons (se_call G_l_term (hr) (takes_of rfl rfl rfl rfl) rfl M_l_term K_l_term B_l_term (sa_cons (se_var 0) (sa_cons (se_int) (sa_cons (se_bin o_sub (se_var 2) (se_int)) (sa_nil)))) (lenA_cons (lenA_cons (lenA_cons (lenA_nil))))) (sa_cons (se_bin o_mod (se_bin o_div (se_var 1) (se_int)) (se_int)) (sa_nil)))) (sa_nil)))))) (ss_nil))
    (ss_one (ss_ret (se_tup (sa_cons (se_ix (SF.fz (sf_lst (sa_cons (se_str) (sa_cons (se_str) (sa_nil))))) (se_bin o_sub (se_var 3) (se_int))) (sa_cons (se_tup (sa_cons (se_call G_l_term (hr) (takes_of rfl rfl rfl rfl) rfl M_l_term K_l_term B_l_term (sa_cons (se_var 0) (sa_cons (se_int) (sa_cons (se_bin o_sub (se_var 2) (se_int)) (sa_nil)))) (lenA_cons (lenA_cons (lenA_cons (lenA_nil))))) (sa_cons (se_call G_l_term (hr) (takes_of rfl rfl rfl rfl) rfl M_l_term K_l_term B_l_term (sa_cons (se_var 0) (sa_cons (se_int) (sa_cons (se_bin o_sub (se_var 2) (se_int)) (sa_nil)))) (lenA_cons (lenA_cons (lenA_cons (lenA_nil))))) (sa_nil)))) (sa_nil)))))))))))
set_option maxHeartbeats 4000000 in
theorem ok_l_row_term {a : Addr} {fd : FuncData} (F : L2.Fun K "_law_row_term" "_law_row_term" s_l_row_term a fd) {k : Nat} (hk : 1 ≤ k) {c_l_number_term : List D → Sto → R D} {c_l_row_term : List D → Sto → R D} {c_l_term : List D → Sto → R D} {c_l_truth_term : List D → Sto → R D} {a_l_term : Addr} {f_l_term : FuncData} (G_l_term : FnOk P w K mg base (L2.CX P w) k a_l_term f_l_term P_l_term (spG K ct 3 c_l_term)) (M_l_term : mg "_law_term" = some (.ref a_l_term)) (K_l_term : PySem.W.keepIn K (.ref a_l_term) = true) (B_l_term : Binds K f_l_term P_l_term []) :
    FnOk P w K mg base (L2.CX P w) (k + 1) a fd P_l_row_term (spG K ct 3 (U_l_row_term c_l_number_term c_l_row_term c_l_term c_l_truth_term)) := by
  refine fn_ok (N := N_l_row_term) (ct := ct) F sc_l_row_term (by decide) (fun cdv A outer s H v E hr => ?_)
  have nd := sc_l_row_term.nd
  exact ss_cons (ss_set 3 (se_bin o_mod (se_var 1) (se_int)) nd)
    (ss_cons (ss_if (PW.pt (sw_or (st_cmp (o_eq (hu_big hr)) (se_var 2) (se_int)) (sw_or1 (st_cmp o_lt (se_var 3) (se_int))))) (ss_one (ss_ret (se_tup (sa_cons (se_str) (sa_cons (se_tup (sa_nil)) (sa_nil)))))) (ss_nil))
    (ss_cons (ss_if (st_cmp (o_eq (hu_big hr)) (se_var 3) (se_int)) (ss_one (ss_ret (se_tup (sa_cons (se_str) (sa_cons (se_call G_l_term (hr) (takes_of rfl rfl rfl rfl) rfl M_l_term K_l_term B_l_term (sa_cons (se_var 0) (sa_cons (se_int) (sa_cons (se_bin o_sub (se_var 2) (se_int)) (sa_nil)))) (lenA_cons (lenA_cons (lenA_cons (lenA_nil))))) (sa_nil)))))) (ss_nil))
    (ss_cons (ss_if (st_cmp (o_eq (hu_big hr)) (se_var 3) (se_int)) (ss_one (ss_ret (se_tup (sa_cons (se_str) (sa_cons (se_tup (sa_cons (se_call G_l_term (hr) (takes_of rfl rfl rfl rfl) rfl M_l_term K_l_term B_l_term (sa_cons (se_var 0) (sa_cons (se_int) (sa_cons (se_bin o_sub (se_var 2) (se_int)) (sa_nil)))) (lenA_cons (lenA_cons (lenA_cons (lenA_nil))))) (sa_cons (se_bin o_mod (se_bin o_div (se_var 1) (se_int)) (se_int)) (sa_nil)))) (sa_nil)))))) (ss_nil))
    (ss_one (ss_ret (se_tup (sa_cons (se_str) (sa_cons (se_tup (sa_cons (se_call G_l_term (hr) (takes_of rfl rfl rfl rfl) rfl M_l_term K_l_term B_l_term (sa_cons (se_var 0) (sa_cons (se_int) (sa_cons (se_bin o_sub (se_var 2) (se_int)) (sa_nil)))) (lenA_cons (lenA_cons (lenA_cons (lenA_nil))))) (sa_cons (se_call G_l_term (hr) (takes_of rfl rfl rfl rfl) rfl M_l_term K_l_term B_l_term (sa_cons (se_var 0) (sa_cons (se_int) (sa_cons (se_bin o_sub (se_var 2) (se_int)) (sa_nil)))) (lenA_cons (lenA_cons (lenA_cons (lenA_nil))))) (sa_nil)))) (sa_nil)))))))))
set_option maxHeartbeats 4000000 in
theorem ok_l_term {a : Addr} {fd : FuncData} (F : L2.Fun K "_law_term" "_law_term" s_l_term a fd) {k : Nat} (hk : 1 ≤ k) {c_l_number_term : List D → Sto → R D} {c_l_row_term : List D → Sto → R D} {c_l_term : List D → Sto → R D} {c_l_truth_term : List D → Sto → R D} {a_l_number_term : Addr} {f_l_number_term : FuncData} (G_l_number_term : FnOk P w K mg base (L2.CX P w) k a_l_number_term f_l_number_term P_l_number_term (spG K ct 3 c_l_number_term)) (M_l_number_term : mg "_law_number_term" = some (.ref a_l_number_term)) (K_l_number_term : PySem.W.keepIn K (.ref a_l_number_term) = true) (B_l_number_term : Binds K f_l_number_term P_l_number_term []) {a_l_row_term : Addr} {f_l_row_term : FuncData} (G_l_row_term : FnOk P w K mg base (L2.CX P w) k a_l_row_term f_l_row_term P_l_row_term (spG K ct 3 c_l_row_term)) (M_l_row_term : mg "_law_row_term" = some (.ref a_l_row_term)) (K_l_row_term : PySem.W.keepIn K (.ref a_l_row_term) = true) (B_l_row_term : Binds K f_l_row_term P_l_row_term []) {a_l_take : Addr} {f_l_take : FuncData} (G_l_take : FnOk P w K mg base (L2.CX P w) 1 a_l_take f_l_take P_l_take (spG K ct 2 S_l_take)) (M_l_take : mg "_law_take" = some (.ref a_l_take)) (K_l_take : PySem.W.keepIn K (.ref a_l_take) = true) (B_l_take : Binds K f_l_take P_l_take []) {a_l_term : Addr} {f_l_term : FuncData} (G_l_term : FnOk P w K mg base (L2.CX P w) k a_l_term f_l_term P_l_term (spG K ct 3 c_l_term)) (M_l_term : mg "_law_term" = some (.ref a_l_term)) (K_l_term : PySem.W.keepIn K (.ref a_l_term) = true) (B_l_term : Binds K f_l_term P_l_term []) {a_l_truth_term : Addr} {f_l_truth_term : FuncData} (G_l_truth_term : FnOk P w K mg base (L2.CX P w) k a_l_truth_term f_l_truth_term P_l_truth_term (spG K ct 3 c_l_truth_term)) (M_l_truth_term : mg "_law_truth_term" = some (.ref a_l_truth_term)) (K_l_truth_term : PySem.W.keepIn K (.ref a_l_truth_term) = true) (B_l_truth_term : Binds K f_l_truth_term P_l_truth_term []) (Z_range : mg "range" = none) (Z_tuple : mg "tuple" = none) :
    FnOk P w K mg base (L2.CX P w) (k + 1) a fd P_l_term (spG K ct 3 (U_l_term c_l_number_term c_l_row_term c_l_term c_l_truth_term)) := by
  refine fn_ok (N := N_l_term) (ct := ct) F sc_l_term (by decide) (fun cdv A outer s H v E hr => ?_)
  have nd := sc_l_term.nd
  exact ss_cons (ss_set 3 (se_call G_l_take (hr.mono (Nat.le_trans (by decide) hk)) (takes_of rfl rfl rfl rfl) rfl M_l_take K_l_take B_l_take (sa_cons (se_var 0) (sa_cons (se_bin o_pow (se_int) (se_int)) (sa_nil))) (lenA_cons (lenA_cons (lenA_nil)))) nd)
    (ss_cons (ss_if (PW.pt (sw_or (st_cmp (o_eq (hu_big hr)) (se_var 1) (se_int)) (sw_or1 (st_cmp (o_eq (hu_big hr)) (se_bin o_mod (se_var 3) (se_int)) (se_int))))) (ss_one (ss_set 1 (se_bin o_mod (se_bin o_div (se_var 3) (se_int)) (se_int)) nd)) (ss_nil))
    (ss_cons (ss_set 3 (se_bin o_div (se_var 3) (se_int)) nd)
    (ss_cons (ss_if (PW.pt (sw_and (st_cmp o_gt (se_var 2) (se_int)) (sw_and1 (st_cmp (o_eq (hu_big hr)) (se_bin o_mod (se_var 3) (se_int)) (se_int))))) (ss_cons (ss_setLc 4 (g := eFz) [("_law_k", 5)] (fun _ _ _ z => lift_fz z) rfl nd rfl rfl (sw_true rfl rfl rfl (by decide +kernel)) (si_range1 rfl Z_range (sa_cons (se_int) (sa_nil))) (blkOk_by (by change blkC N_l_term (defScope s_l_term) _ _ = true; decide +kernel)) (by decide) (fun _ _ _ _ _ => sg_name 5 nd) (fun _ _ _ _ _ => sts_nil) (fun _ _ _ _ _ => se_call G_l_term (hr) takes0 rfl M_l_term K_l_term B_l_term (sa_cons (se_var 0) (sa_cons (se_ix (SF.fz (sf_lst (sa_cons (se_int) (sa_cons (se_var 1) (sa_cons (se_var 1) (sa_nil)))))) (se_var 5)) (sa_cons (se_bin o_sub (se_var 2) (se_int)) (sa_nil)))) (lenA_cons (lenA_cons (lenA_cons (lenA_nil))))))
    (ss_one (ss_ret (se_tup (sa_cons (se_str) (sa_cons (se_callT (b_tuple) rfl Z_tuple (by decide +kernel) (sa_cons (se_var 4) (sa_nil))) (sa_nil))))))) (ss_nil))
    (ss_cons (ss_set 3 (se_bin o_div (se_var 3) (se_int)) nd)
    (ss_cons (ss_if (st_cmp (o_eq (hu_big hr)) (se_var 1) (se_int)) (ss_one (ss_ret (se_call G_l_number_term (hr) (takes_of rfl rfl rfl rfl) rfl M_l_number_term K_l_number_term B_l_number_term (sa_cons (se_var 0) (sa_cons (se_var 3) (sa_cons (se_var 2) (sa_nil)))) (lenA_cons (lenA_cons (lenA_cons (lenA_nil))))))) (ss_nil))
    (ss_cons (ss_if (st_cmp (o_eq (hu_big hr)) (se_var 1) (se_int)) (ss_one (ss_ret (se_call G_l_truth_term (hr) (takes_of rfl rfl rfl rfl) rfl M_l_truth_term K_l_truth_term B_l_truth_term (sa_cons (se_var 0) (sa_cons (se_var 3) (sa_cons (se_var 2) (sa_nil)))) (lenA_cons (lenA_cons (lenA_cons (lenA_nil))))))) (ss_nil))
    (ss_one (ss_ret (se_call G_l_row_term (hr) (takes_of rfl rfl rfl rfl) rfl M_l_row_term K_l_row_term B_l_row_term (sa_cons (se_var 0) (sa_cons (se_var 3) (sa_cons (se_var 2) (sa_nil)))) (lenA_cons (lenA_cons (lenA_cons (lenA_nil)))))))))))))
set_option maxHeartbeats 4000000 in
theorem ok_l_truth_term {a : Addr} {fd : FuncData} (F : L2.Fun K "_law_truth_term" "_law_truth_term" s_l_truth_term a fd) {k : Nat} (hk : 1 ≤ k) {c_l_number_term : List D → Sto → R D} {c_l_row_term : List D → Sto → R D} {c_l_term : List D → Sto → R D} {c_l_truth_term : List D → Sto → R D} {a_l_term : Addr} {f_l_term : FuncData} (G_l_term : FnOk P w K mg base (L2.CX P w) k a_l_term f_l_term P_l_term (spG K ct 3 c_l_term)) (M_l_term : mg "_law_term" = some (.ref a_l_term)) (K_l_term : PySem.W.keepIn K (.ref a_l_term) = true) (B_l_term : Binds K f_l_term P_l_term []) :
    FnOk P w K mg base (L2.CX P w) (k + 1) a fd P_l_truth_term (spG K ct 3 (U_l_truth_term c_l_number_term c_l_row_term c_l_term c_l_truth_term)) := by
  refine fn_ok (N := N_l_truth_term) (ct := ct) F sc_l_truth_term (by decide) (fun cdv A outer s H v E hr => ?_)
  have nd := sc_l_truth_term.nd
  exact ss_cons (ss_set 3 (se_bin o_mod (se_var 1) (se_int)) nd)
    (ss_cons (ss_if (PW.pt (sw_or (st_cmp (o_eq (hu_big hr)) (se_var 2) (se_int)) (sw_or1 (st_cmp (o_eq (hu_big hr)) (se_var 3) (se_int))))) (ss_one (ss_ret (se_tup (sa_cons (se_str) (sa_cons (se_tup (sa_cons (se_tup (sa_cons (se_str) (sa_cons (se_bin o_mod (se_bin o_div (se_var 1) (se_int)) (se_int)) (sa_nil)))) (sa_cons (se_tup (sa_cons (se_str) (sa_cons (se_bin o_mod (se_bin o_div (se_var 1) (se_int)) (se_int)) (sa_nil)))) (sa_nil)))) (sa_nil)))))) (ss_nil))
    (ss_cons (ss_if (st_cmp (o_eq (hu_big hr)) (se_var 3) (se_int)) (ss_one (ss_ret (se_tup (sa_cons (se_str) (sa_cons (se_tup (sa_cons (se_call G_l_term (hr) (takes_of rfl rfl rfl rfl) rfl M_l_term K_l_term B_l_term (sa_cons (se_var 0) (sa_cons (se_int) (sa_cons (se_bin o_sub (se_var 2) (se_int)) (sa_nil)))) (lenA_cons (lenA_cons (lenA_cons (lenA_nil))))) (sa_cons (se_call G_l_term (hr) (takes_of rfl rfl rfl rfl) rfl M_l_term K_l_term B_l_term (sa_cons (se_var 0) (sa_cons (se_int) (sa_cons (se_bin o_sub (se_var 2) (se_int)) (sa_nil)))) (lenA_cons (lenA_cons (lenA_cons (lenA_nil))))) (sa_nil)))) (sa_nil)))))) (ss_nil))
    (ss_cons (ss_if (st_cmp (o_eq (hu_big hr)) (se_var 3) (se_int)) (ss_one (ss_ret (se_tup (sa_cons (se_str) (sa_cons (se_call G_l_term (hr) (takes_of rfl rfl rfl rfl) rfl M_l_term K_l_term B_l_term (sa_cons (se_var 0) (sa_cons (se_int) (sa_cons (se_bin o_sub (se_var 2) (se_int)) (sa_nil)))) (lenA_cons (lenA_cons (lenA_cons (lenA_nil))))) (sa_nil)))))) (ss_nil))
    (ss_cons (ss_if (st_cmp (o_eq (hu_big hr)) (se_var 3) (se_int)) (ss_one (ss_ret (se_tup (sa_cons (se_str) (sa_cons (se_tup (sa_cons (se_call G_l_term (hr) (takes_of rfl rfl rfl rfl) rfl M_l_term K_l_term B_l_term (sa_cons (se_var 0) (sa_cons (se_int) (sa_cons (se_bin o_sub (se_var 2) (se_int)) (sa_nil)))) (lenA_cons (lenA_cons (lenA_cons (lenA_nil))))) (sa_cons (se_call G_l_term (hr) (takes_of rfl rfl rfl rfl) rfl M_l_term K_l_term B_l_term (sa_cons (se_var 0) (sa_cons (se_int) (sa_cons (se_bin o_sub (se_var 2) (se_int)) (sa_nil)))) (lenA_cons (lenA_cons (lenA_cons (lenA_nil))))) (sa_nil)))) (sa_nil)))))) (ss_nil))
    (ss_cons (ss_if (st_cmp (o_eq (hu_big hr)) (se_var 3) (se_int)) (ss_one (ss_ret (se_tup (sa_cons (se_str) (sa_cons (se_tup (sa_cons (se_call G_l_term (hr) (takes_of rfl rfl rfl rfl) rfl M_l_term K_l_term B_l_term (sa_cons (se_var 0) (sa_cons (se_int) (sa_cons (se_bin o_sub (se_var 2) (se_int)) (sa_nil)))) (lenA_cons (lenA_cons (lenA_cons (lenA_nil))))) (sa_cons (se_call G_l_term (hr) (takes_of rfl rfl rfl rfl) rfl M_l_term K_l_term B_l_term (sa_cons (se_var 0) (sa_cons (se_int) (sa_cons (se_bin o_sub (se_var 2) (se_int)) (sa_nil)))) (lenA_cons (lenA_cons (lenA_cons (lenA_nil))))) (sa_nil)))) (sa_nil)))))) (ss_nil))
    (ss_one (ss_ret (se_tup (sa_cons (se_str) (sa_cons (se_tup (sa_cons (se_call G_l_term (hr) (takes_of rfl rfl rfl rfl) rfl M_l_term K_l_term B_l_term (sa_cons (se_var 0) (sa_cons (se_int) (sa_cons (se_bin o_sub (se_var 2) (se_int)) (sa_nil)))) (lenA_cons (lenA_cons (lenA_cons (lenA_nil))))) (sa_cons (se_call G_l_term (hr) (takes_of rfl rfl rfl rfl) rfl M_l_term K_l_term B_l_term (sa_cons (se_var 0) (sa_cons (se_int) (sa_cons (se_bin o_sub (se_var 2) (se_int)) (sa_nil)))) (lenA_cons (lenA_cons (lenA_cons (lenA_nil))))) (sa_nil)))) (sa_nil)))))))))))
set_option maxHeartbeats 4000000 in
theorem ok_l_thing {a : Addr} {fd : FuncData} (F : L2.Fun K "_law_thing" "_law_thing" s_l_thing a fd) {k : Nat} (hk : 1 ≤ k) {c_l_thing : List D → Sto → R D} {a_l_take : Addr} {f_l_take : FuncData} (G_l_take : FnOk P w K mg base (L2.CX P w) 1 a_l_take f_l_take P_l_take (spG K ct 2 S_l_take)) (M_l_take : mg "_law_take" = some (.ref a_l_take)) (K_l_take : PySem.W.keepIn K (.ref a_l_take) = true) (B_l_take : Binds K f_l_take P_l_take []) {a_l_thing : Addr} {f_l_thing : FuncData} (G_l_thing : FnOk P w K mg base (L2.CX P w) k a_l_thing f_l_thing P_l_thing (spG K ct 2 c_l_thing)) (M_l_thing : mg "_law_thing" = some (.ref a_l_thing)) (K_l_thing : PySem.W.keepIn K (.ref a_l_thing) = true) (B_l_thing : Binds K f_l_thing P_l_thing []) (Z_range : mg "range" = none) (Z_tuple : mg "tuple" = none) :
    FnOk P w K mg base (L2.CX P w) (k + 1) a fd P_l_thing (spG K ct 2 (U_l_thing c_l_thing)) := by
  refine fn_ok (N := N_l_thing) (ct := ct) F sc_l_thing (by decide) (fun cdv A outer s H v E hr => ?_)
  have nd := sc_l_thing.nd
  exact ss_cons (ss_set 2 (se_call G_l_take (hr.mono (Nat.le_trans (by decide) hk)) (takes_of rfl rfl rfl rfl) rfl M_l_take K_l_take B_l_take (sa_cons (se_var 0) (sa_cons (se_bin o_pow (se_int) (se_int)) (sa_nil))) (lenA_cons (lenA_cons (lenA_nil)))) nd)
    (ss_cons (ss_set 3 (se_bin o_div (se_var 2) (se_int)) nd)
    (ss_cons (ss_set 4 (se_bin o_mod (se_var 2) (se_int)) nd)
    (ss_cons (ss_if (PW.pt (sw_or (st_cmp (o_eq (hu_big hr)) (se_var 4) (se_int)) (sw_or1 (st_cmp (o_eq (hu_big hr)) (se_var 1) (se_int))))) (ss_one (ss_ret (se_bin o_sub (se_bin o_mod (se_var 3) (se_int)) (se_int)))) (ss_nil))
    (ss_cons (ss_if (st_cmp (o_eq (hu_big hr)) (se_var 4) (se_int)) (ss_one (ss_ret (se_bin o_add (se_bin o_sub (se_call G_l_take (hr.mono (Nat.le_trans (by decide) hk)) (takes_of rfl rfl rfl rfl) rfl M_l_take K_l_take B_l_take (sa_cons (se_var 0) (sa_cons (se_bin o_sub (se_bin o_mul (se_int) (se_bin o_pow (se_int) (se_int))) (se_int)) (sa_nil))) (lenA_cons (lenA_cons (lenA_nil)))) (se_bin o_pow (se_int) (se_int))) (se_int)))) (ss_nil))
    (ss_cons (ss_if (st_cmp (o_eq (hu_big hr)) (se_var 4) (se_int)) (ss_one (ss_ret (se_cmp (o_eq (hu_big hr)) (se_bin o_mod (se_var 3) (se_int)) (se_int)))) (ss_nil))
    (ss_cons (ss_if (st_cmp (o_eq (hu_big hr)) (se_var 4) (se_int)) (ss_one (ss_ret (se_m1 PySem.F.slot_str_join PySem.F.type_str_join m_join (se_str) (SF.fz (sf_lc [("_law_k", 6)] rfl nd (si_range1 rfl Z_range (sa_cons (se_bin o_mod (se_var 3) (se_int)) (sa_nil))) (blkOk_by (by change blkC N_l_thing (defScope s_l_thing) _ _ = true; decide +kernel)) (by decide) (fun _ _ _ _ _ => sg_name 6 nd) (fun _ _ _ _ _ => sts_nil) (fun _ _ _ _ _ => se_ix (se_str) (se_bin o_mod (se_bin o_div (se_var 3) (se_bin o_add (se_var 6) (se_int))) (se_int)))))))) (ss_nil))
    (ss_cons (ss_if (PW.pt (sw_and (st_cmp (o_eq (hu_big hr)) (se_var 4) (se_int)) (sw_and1 (st_cmp (o_eq (hu_big hr)) (se_bin o_mod (se_var 3) (se_int)) (se_int))))) (ss_one (ss_ret (se_non))) (ss_nil))
    (ss_cons (ss_setLc 5 (g := eFz) [("_law_k", 6)] (fun _ _ _ z => lift_fz z) rfl nd rfl rfl (sw_true rfl rfl rfl (by decide +kernel)) (si_range1 rfl Z_range (sa_cons (se_bin o_mod (se_var 3) (se_int)) (sa_nil))) (blkOk_by (by change blkC N_l_thing (defScope s_l_thing) _ _ = true; decide +kernel)) (by decide) (fun _ _ _ _ _ => sg_name 6 nd) (fun _ _ _ _ _ => sts_nil) (fun _ _ _ _ _ => se_call G_l_thing (hr) takes0 rfl M_l_thing K_l_thing B_l_thing (sa_cons (se_var 0) (sa_cons (se_bin o_sub (se_var 1) (se_int)) (sa_nil))) (lenA_cons (lenA_cons (lenA_nil)))))
    (ss_cons (ss_if (st_cmp (o_eq (hu_big hr)) (se_var 4) (se_int)) (ss_one (ss_ret (se_callT (b_tuple) rfl Z_tuple (by decide +kernel) (sa_cons (se_var 5) (sa_nil))))) (ss_nil))
    (ss_one (ss_ret (se_var 5))))))))))))
set_option maxHeartbeats 4000000 in
theorem ok_own_copy {a : Addr} {fd : FuncData} (F : L2.Fun K "own_copy" "own_copy" s_own_copy a fd) {k : Nat} (hk : 0 ≤ k) {c_own_copy : List D → Sto → R D} {a_own_copy : Addr} {f_own_copy : FuncData} (G_own_copy : FnOk P w K mg base (L2.CX P w) k a_own_copy f_own_copy P_own_copy (spG K ct 1 c_own_copy)) (M_own_copy : mg "own_copy" = some (.ref a_own_copy)) (K_own_copy : PySem.W.keepIn K (.ref a_own_copy) = true) (B_own_copy : Binds K f_own_copy P_own_copy []) (Z_isinstance : mg "isinstance" = none) (Z_list : mg "list" = none) (Z_tuple : mg "tuple" = none) :
    FnOk P w K mg base (L2.CX P w) (k + 1) a fd P_own_copy (spG K ct 1 (U_own_copy c_own_copy)) := by
  refine fn_ok (N := N_own_copy) (ct := ct) F sc_own_copy (by decide) (fun cdv A outer s H v E hr => ?_)
  have nd := sc_own_copy.nd
  exact ss_cons (ss_if (st_val (se_isi (n := "list") (se_var 0) rfl Z_isinstance rfl Z_list (by decide +kernel))) (ss_one (ss_ret (SF.nw (sf_lc [("thing", 1)] rfl nd (si_seq (se_var 0)) (blkOk_by (by change blkC N_own_copy (defScope s_own_copy) _ _ = true; decide +kernel)) (by decide) (fun _ _ _ _ _ => sg_name 1 nd) (fun _ _ _ _ _ => sts_nil) (fun _ _ _ _ _ => se_call G_own_copy (hr) takes0 rfl M_own_copy K_own_copy B_own_copy (sa_cons (se_var 1) (sa_nil)) (lenA_cons (lenA_nil))))))) (ss_nil))
    (ss_cons (ss_if (st_val (se_isi (n := "tuple") (se_var 0) rfl Z_isinstance rfl Z_tuple (by decide +kernel))) (ss_one (ss_ret (se_callT (b_tuple) rfl Z_tuple (by decide +kernel) (sa_cons (SF.fz (sf_lc [("thing", 1)] rfl nd (si_seq (se_var 0)) (blkOk_by (by change blkC N_own_copy (defScope s_own_copy) _ _ = true; decide +kernel)) (by decide) (fun _ _ _ _ _ => sg_name 1 nd) (fun _ _ _ _ _ => sts_nil) (fun _ _ _ _ _ => se_call G_own_copy (hr) takes0 rfl M_own_copy K_own_copy B_own_copy (sa_cons (se_var 1) (sa_nil)) (lenA_cons (lenA_nil))))) (sa_nil))))) (ss_nil))
    (ss_one (ss_ret (se_var 0))))
set_option maxHeartbeats 4000000 in
theorem ok_fit_for {a : Addr} {fd : FuncData} (F : L2.Fun K "fit_for" "fit_for" s_fit_for a fd) {fi_Astray : Addr} {fd_Astray : FuncData} (OX_Astray : OexC K (ct "Astray")) (iC_Astray : PySem.W.findIn K (.ref (ct "Astray")) "__init__" = some (some (.ref fi_Astray))) (tI_Astray : PySem.W.typeIn K (.ref fi_Astray) = some (.type "function")) (GI_Astray : FnOk P w K mg base (L2.CX P w) 1 fi_Astray fd_Astray PI_Astray (spXI K (ct "Astray") ["mark"])) (BI_Astray : Binds K fd_Astray PI_Astray []) (MC_Astray : mg "Astray" = some (.ref (ct "Astray"))) :
    FnOk P w K mg base (L2.CX P w) 3 a fd P_fit_for (spG K ct 3 S_fit_for) := by
  refine fn_ok (N := N_fit_for) (ct := ct) F sc_fit_for (by decide) (fun cdv A outer s H v E hr => ?_)
  have nd := sc_fit_for.nd
  exact ss_cons (ss_if (st_not (st_val (se_var 0))) (ss_one (ss_raiseF (c := "Astray") (ns := ["mark"]) rfl rfl (takes_of rfl rfl rfl rfl) OX_Astray iC_Astray tI_Astray GI_Astray (hr.mono (by decide)) BI_Astray rfl MC_Astray (sa_cons (se_str) (sa_cons (se_var 1) (sa_nil))))) (ss_nil))
    (ss_one (ss_ret (se_var 2)))
set_option maxHeartbeats 4000000 in
theorem ok_is_row {a : Addr} {fd : FuncData} (F : L2.Fun K "is_row" "is_row" s_is_row a fd) (Z_isinstance : mg "isinstance" = none) (Z_list : mg "list" = none) (Z_tuple : mg "tuple" = none) :
    FnOk P w K mg base (L2.CX P w) 1 a fd P_is_row (spG K ct 1 S_is_row) := by
  refine fn_ok (N := N_is_row) (ct := ct) F sc_is_row (by decide) (fun cdv A outer s H v E hr => ?_)
  have nd := sc_is_row.nd
  exact ss_one (ss_ret (se_isi2 (n := "list") (m := "tuple") (se_var 0) rfl Z_isinstance rfl Z_list (by decide +kernel) rfl Z_tuple (by decide +kernel)))
set_option maxHeartbeats 4000000 in
theorem ok_one_kind {a : Addr} {fd : FuncData} (F : L2.Fun K "one_kind" "one_kind" s_one_kind a fd) (Z_bool : mg "bool" = none) (Z_int : mg "int" = none) (Z_isinstance : mg "isinstance" = none) (Z_list : mg "list" = none) (Z_str : mg "str" = none) (Z_tuple : mg "tuple" = none) :
    FnOk P w K mg base (L2.CX P w) 1 a fd P_one_kind (spG K ct 2 S_one_kind) := by
  refine fn_ok (N := N_one_kind) (ct := ct) F sc_one_kind (by decide) (fun cdv A outer s H v E hr => ?_)
  have nd := sc_one_kind.nd
  exact ss_cons (ss_if (PW.pt (sw_or (st_cmp o_isN (se_var 0) (se_non)) (sw_or1 (st_cmp o_isN (se_var 1) (se_non))))) (ss_one (ss_ret (se_and (se_cmp o_isN (se_var 0) (se_non)) (se_one (se_cmp o_isN (se_var 1) (se_non)))))) (ss_nil))
    (ss_cons (ss_if (PW.pt (sw_or (st_val (se_isi (n := "bool") (se_var 0) rfl Z_isinstance rfl Z_bool (by decide +kernel))) (sw_or1 (st_val (se_isi (n := "bool") (se_var 1) rfl Z_isinstance rfl Z_bool (by decide +kernel)))))) (ss_one (ss_ret (se_and (se_isi (n := "bool") (se_var 0) rfl Z_isinstance rfl Z_bool (by decide +kernel)) (se_one (se_isi (n := "bool") (se_var 1) rfl Z_isinstance rfl Z_bool (by decide +kernel)))))) (ss_nil))
    (ss_cons (ss_if (st_val (se_isi (n := "int") (se_var 0) rfl Z_isinstance rfl Z_int (by decide +kernel))) (ss_one (ss_ret (se_isi (n := "int") (se_var 1) rfl Z_isinstance rfl Z_int (by decide +kernel)))) (ss_nil))
    (ss_cons (ss_if (st_val (se_isi (n := "str") (se_var 0) rfl Z_isinstance rfl Z_str (by decide +kernel))) (ss_one (ss_ret (se_isi (n := "str") (se_var 1) rfl Z_isinstance rfl Z_str (by decide +kernel)))) (ss_nil))
    (ss_cons (ss_if (st_val (se_isi (n := "list") (se_var 0) rfl Z_isinstance rfl Z_list (by decide +kernel))) (ss_one (ss_ret (se_isi (n := "list") (se_var 1) rfl Z_isinstance rfl Z_list (by decide +kernel)))) (ss_nil))
    (ss_one (ss_ret (se_and (se_isi (n := "tuple") (se_var 0) rfl Z_isinstance rfl Z_tuple (by decide +kernel)) (se_one (se_isi (n := "tuple") (se_var 1) rfl Z_isinstance rfl Z_tuple (by decide +kernel))))))))))
set_option maxHeartbeats 4000000 in
theorem ok_inner_terms {a : Addr} {fd : FuncData} (F : L2.Fun K "inner_terms" "inner_terms" s_inner_terms a fd) (Z_list : mg "list" = none) (CN_ONES : KC K mg "ONES" (.tup (List.map D.str [(Str.ofString "count"), (Str.ofString "sum"), (Str.ofString "not"), (Str.ofString "turned")]))) :
    FnOk P w K mg base (L2.CX P w) 1 a fd P_inner_terms (spG K ct 1 S_inner_terms) := by
  refine fn_ok (N := N_inner_terms) (ct := ct) F sc_inner_terms (by decide) (fun cdv A outer s H v E hr => ?_)
  have nd := sc_inner_terms.nd
  exact ss_cons (ss_if (st_cmp o_in (se_ix (se_var 0) (se_int)) (se_tup (sa_cons (se_str) (sa_cons (se_str) (sa_nil))))) (ss_one (ss_ret (SF.fz (sf_lst (sa_nil))))) (ss_nil))
    (ss_cons (ss_if (st_cmp (o_eq (hu_big hr)) (se_ix (se_var 0) (se_int)) (se_str)) (ss_one (ss_ret (SF.fz (sf_lst (sa_cons (se_ix (se_ix (se_var 0) (se_int)) (se_int)) (sa_nil)))))) (ss_nil))
    (ss_cons (ss_if (st_cmp o_in (se_ix (se_var 0) (se_int)) (se_con CN_ONES)) (ss_one (ss_ret (SF.fz (sf_lst (sa_cons (se_ix (se_var 0) (se_int)) (sa_nil)))))) (ss_nil))
    (ss_one (ss_ret (se_callT (b_list rfl) rfl Z_list (by decide +kernel) (sa_cons (se_ix (se_var 0) (se_int)) (sa_nil)))))))
set_option maxHeartbeats 4000000 in
theorem ok_is_number {a : Addr} {fd : FuncData} (F : L2.Fun K "is_number" "is_number" s_is_number a fd) (Z_bool : mg "bool" = none) (Z_int : mg "int" = none) (Z_isinstance : mg "isinstance" = none) :
    FnOk P w K mg base (L2.CX P w) 1 a fd P_is_number (spG K ct 1 S_is_number) := by
  refine fn_ok (N := N_is_number) (ct := ct) F sc_is_number (by decide) (fun cdv A outer s H v E hr => ?_)
  have nd := sc_is_number.nd
  exact ss_one (ss_ret (se_and (se_isi (n := "int") (se_var 0) rfl Z_isinstance rfl Z_int (by decide +kernel)) (se_one (se_nt (se_isi (n := "bool") (se_var 0) rfl Z_isinstance rfl Z_bool (by decide +kernel))))))
set_option maxHeartbeats 4000000 in
theorem ok_same {a : Addr} {fd : FuncData} (F : L2.Fun K "same" "same" s_same a fd) {k : Nat} (hk : 1 ≤ k) {c_same : List D → Sto → R D} {a_is_row : Addr} {f_is_row : FuncData} (G_is_row : FnOk P w K mg base (L2.CX P w) 1 a_is_row f_is_row P_is_row (spG K ct 1 S_is_row)) (M_is_row : mg "is_row" = some (.ref a_is_row)) (K_is_row : PySem.W.keepIn K (.ref a_is_row) = true) (B_is_row : Binds K f_is_row P_is_row []) {a_one_kind : Addr} {f_one_kind : FuncData} (G_one_kind : FnOk P w K mg base (L2.CX P w) 1 a_one_kind f_one_kind P_one_kind (spG K ct 2 S_one_kind)) (M_one_kind : mg "one_kind" = some (.ref a_one_kind)) (K_one_kind : PySem.W.keepIn K (.ref a_one_kind) = true) (B_one_kind : Binds K f_one_kind P_one_kind []) {a_same : Addr} {f_same : FuncData} (G_same : FnOk P w K mg base (L2.CX P w) k a_same f_same P_same (spG K ct 2 c_same)) (M_same : mg "same" = some (.ref a_same)) (K_same : PySem.W.keepIn K (.ref a_same) = true) (B_same : Binds K f_same P_same []) (Z_all : mg "all" = none) (Z_len : mg "len" = none) (Z_zip : mg "zip" = none) :
    FnOk P w K mg base (L2.CX P w) (k + 1) a fd P_same (spG K ct 2 (U_same c_same)) := by
  refine fn_ok (N := N_same) (ct := ct) F sc_same (by decide) (fun cdv A outer s H v E hr => ?_)
  have nd := sc_same.nd
  exact ss_cons (ss_if (st_not (st_val (se_call G_one_kind (hr.mono (Nat.le_trans (by decide) hk)) (takes_of rfl rfl rfl rfl) rfl M_one_kind K_one_kind B_one_kind (sa_cons (se_var 0) (sa_cons (se_var 1) (sa_nil))) (lenA_cons (lenA_cons (lenA_nil)))))) (ss_one (ss_ret (se_bl))) (ss_nil))
    (ss_cons (ss_if (st_not (st_val (se_call G_is_row (hr.mono (Nat.le_trans (by decide) hk)) (takes_of rfl rfl rfl rfl) rfl M_is_row K_is_row B_is_row (sa_cons (se_var 0) (sa_nil)) (lenA_cons (lenA_nil))))) (ss_one (ss_ret (se_cmp (o_eq (hu_big hr)) (se_var 0) (se_var 1)))) (ss_nil))
    (ss_cons (ss_if (st_cmp (o_ne (hu_big hr)) (se_callB (b_len) rfl Z_len (by decide +kernel) (sa_cons (se_var 0) (sa_nil))) (se_callB (b_len) rfl Z_len (by decide +kernel) (sa_cons (se_var 1) (sa_nil)))) (ss_one (ss_ret (se_bl))) (ss_nil))
    (ss_one (ss_ret (se_callB (b_all rfl) rfl Z_all (by decide +kernel) (sa_cons (SF.fz (sf_lc [("here", 2), ("there", 3)] rfl nd (si_zip rfl Z_zip (sa_cons (se_var 0) (sa_cons (se_var 1) (sa_nil)))) (blkOk_by (by change blkC N_same (defScope s_same) _ _ = true; decide +kernel)) (by decide) (fun _ _ _ _ _ => sg_tup rfl (sgs_cons (sg_name 2 nd) (sgs_cons (sg_name 3 nd) (sgs_nil)))) (fun _ _ _ _ _ => sts_nil) (fun _ _ _ _ _ => se_call G_same (hr) takes0 rfl M_same K_same B_same (sa_cons (se_var 2) (sa_cons (se_var 3) (sa_nil))) (lenA_cons (lenA_cons (lenA_nil)))))) (sa_nil)))))))
set_option maxHeartbeats 4000000 in
theorem ok_each_said {a : Addr} {fd : FuncData} (F : L2.Fun K "each_said" "each_said" s_each_said a fd) {k : Nat} (hk : 31 ≤ k) {c_each_said : List D → Sto → R D} {c_joined_said : List D → Sto → R D} {c_number_said : List D → Sto → R D} {c_of_a_row : List D → Sto → R D} {c_of_numbers : List D → Sto → R D} {c_row_said : List D → Sto → R D} {c_spoken : List D → Sto → R D} {c_truth_said : List D → Sto → R D} {a_row_said : Addr} {f_row_said : FuncData} (G_row_said : FnOk P w K mg base (L2.CX P w) k a_row_said f_row_said P_row_said (spG K ct 3 c_row_said)) (M_row_said : mg "row_said" = some (.ref a_row_said)) (K_row_said : PySem.W.keepIn K (.ref a_row_said) = true) (B_row_said : Binds K f_row_said P_row_said []) {a_truth_said : Addr} {f_truth_said : FuncData} (G_truth_said : FnOk P w K mg base (L2.CX P w) k a_truth_said f_truth_said P_truth_said (spG K ct 3 c_truth_said)) (M_truth_said : mg "truth_said" = some (.ref a_truth_said)) (K_truth_said : PySem.W.keepIn K (.ref a_truth_said) = true) (B_truth_said : Binds K f_truth_said P_truth_said []) :
    FnOk P w K mg base (L2.CX P w) (k + 1) a fd P_each_said (spG K ct 2 (U_each_said c_each_said c_joined_said c_number_said c_of_a_row c_of_numbers c_row_said c_spoken c_truth_said)) := by
  refine fn_ok (N := N_each_said) (ct := ct) F sc_each_said (by decide) (fun cdv A outer s H v E hr => ?_)
  have nd := sc_each_said.nd
  exact ss_cons (ss_for (passes_of rfl) rfl (si_seq (se_call G_row_said (hr) (takes_of rfl rfl rfl rfl) rfl M_row_said K_row_said B_row_said (sa_cons (se_ix (se_ix (se_var 0) (se_int)) (se_int)) (sa_cons (se_var 1) (sa_cons (se_str) (sa_nil)))) (lenA_cons (lenA_cons (lenA_cons (lenA_nil)))))) (sg_name 2 nd) (ss_one (ss_if (st_not (st_val (se_call G_truth_said (hr) (takes_of rfl rfl rfl rfl) rfl M_truth_said K_truth_said B_truth_said (sa_cons (se_ix (se_ix (se_var 0) (se_int)) (se_int)) (sa_cons (se_var 2) (sa_cons (se_str) (sa_nil)))) (lenA_cons (lenA_cons (lenA_cons (lenA_nil))))))) (ss_one (ss_ret (se_bl))) (ss_nil))))
    (ss_one (ss_ret (se_bl)))
set_option maxHeartbeats 4000000 in
theorem ok_joined_said {a : Addr} {fd : FuncData} (F : L2.Fun K "joined_said" "joined_said" s_joined_said a fd) {k : Nat} (hk : 31 ≤ k) {c_each_said : List D → Sto → R D} {c_joined_said : List D → Sto → R D} {c_number_said : List D → Sto → R D} {c_of_a_row : List D → Sto → R D} {c_of_numbers : List D → Sto → R D} {c_row_said : List D → Sto → R D} {c_spoken : List D → Sto → R D} {c_truth_said : List D → Sto → R D} {a_fit_for : Addr} {f_fit_for : FuncData} (G_fit_for : FnOk P w K mg base (L2.CX P w) 3 a_fit_for f_fit_for P_fit_for (spG K ct 3 S_fit_for)) (M_fit_for : mg "fit_for" = some (.ref a_fit_for)) (K_fit_for : PySem.W.keepIn K (.ref a_fit_for) = true) (B_fit_for : Binds K f_fit_for P_fit_for []) {a_one_kind : Addr} {f_one_kind : FuncData} (G_one_kind : FnOk P w K mg base (L2.CX P w) 1 a_one_kind f_one_kind P_one_kind (spG K ct 2 S_one_kind)) (M_one_kind : mg "one_kind" = some (.ref a_one_kind)) (K_one_kind : PySem.W.keepIn K (.ref a_one_kind) = true) (B_one_kind : Binds K f_one_kind P_one_kind []) {a_spoken : Addr} {f_spoken : FuncData} (G_spoken : FnOk P w K mg base (L2.CX P w) k a_spoken f_spoken P_spoken (spG K ct 2 c_spoken)) (M_spoken : mg "spoken" = some (.ref a_spoken)) (K_spoken : PySem.W.keepIn K (.ref a_spoken) = true) (B_spoken : Binds K f_spoken P_spoken []) (Z_isinstance : mg "isinstance" = none) (Z_list : mg "list" = none) (Z_str : mg "str" = none) :
    FnOk P w K mg base (L2.CX P w) (k + 1) a fd P_joined_said (spG K ct 2 (U_joined_said c_each_said c_joined_said c_number_said c_of_a_row c_of_numbers c_row_said c_spoken c_truth_said)) := by
  refine fn_ok (N := N_joined_said) (ct := ct) F sc_joined_said (by decide) (fun cdv A outer s H v E hr => ?_)
  have nd := sc_joined_said.nd
  exact ss_cons (ss_set 2 (se_call G_spoken (hr) (takes_of rfl rfl rfl rfl) rfl M_spoken K_spoken B_spoken (sa_cons (se_ix (se_ix (se_var 0) (se_int)) (se_int)) (sa_cons (se_var 1) (sa_nil))) (lenA_cons (lenA_cons (lenA_nil)))) nd)
    (ss_cons (ss_expr (se_call G_fit_for (hr.mono (Nat.le_trans (by decide) hk)) (takes_of rfl rfl rfl rfl) rfl M_fit_for K_fit_for B_fit_for (sa_cons (se_isi2 (n := "str") (m := "list") (se_var 2) rfl Z_isinstance rfl Z_str (by decide +kernel) rfl Z_list (by decide +kernel)) (sa_cons (se_str) (sa_cons (se_var 2) (sa_nil)))) (lenA_cons (lenA_cons (lenA_cons (lenA_nil))))))
    (ss_cons (ss_set 3 (se_call G_spoken (hr) (takes_of rfl rfl rfl rfl) rfl M_spoken K_spoken B_spoken (sa_cons (se_ix (se_ix (se_var 0) (se_int)) (se_int)) (sa_cons (se_var 1) (sa_nil))) (lenA_cons (lenA_cons (lenA_nil)))) nd)
    (ss_cons (ss_expr (se_call G_fit_for (hr.mono (Nat.le_trans (by decide) hk)) (takes_of rfl rfl rfl rfl) rfl M_fit_for K_fit_for B_fit_for (sa_cons (se_call G_one_kind (hr.mono (Nat.le_trans (by decide) hk)) (takes_of rfl rfl rfl rfl) rfl M_one_kind K_one_kind B_one_kind (sa_cons (se_var 2) (sa_cons (se_var 3) (sa_nil))) (lenA_cons (lenA_cons (lenA_nil)))) (sa_cons (se_str) (sa_cons (se_var 3) (sa_nil)))) (lenA_cons (lenA_cons (lenA_cons (lenA_nil))))))
    (ss_one (ss_ret (se_bin o_add (se_var 2) (se_var 3)))))))
set_option maxHeartbeats 4000000 in
theorem ok_number_said {a : Addr} {fd : FuncData} (F : L2.Fun K "number_said" "number_said" s_number_said a fd) {k : Nat} (hk : 31 ≤ k) {c_each_said : List D → Sto → R D} {c_joined_said : List D → Sto → R D} {c_number_said : List D → Sto → R D} {c_of_a_row : List D → Sto → R D} {c_of_numbers : List D → Sto → R D} {c_row_said : List D → Sto → R D} {c_spoken : List D → Sto → R D} {c_truth_said : List D → Sto → R D} {a_fit_for : Addr} {f_fit_for : FuncData} (G_fit_for : FnOk P w K mg base (L2.CX P w) 3 a_fit_for f_fit_for P_fit_for (spG K ct 3 S_fit_for)) (M_fit_for : mg "fit_for" = some (.ref a_fit_for)) (K_fit_for : PySem.W.keepIn K (.ref a_fit_for) = true) (B_fit_for : Binds K f_fit_for P_fit_for []) {a_is_number : Addr} {f_is_number : FuncData} (G_is_number : FnOk P w K mg base (L2.CX P w) 1 a_is_number f_is_number P_is_number (spG K ct 1 S_is_number)) (M_is_number : mg "is_number" = some (.ref a_is_number)) (K_is_number : PySem.W.keepIn K (.ref a_is_number) = true) (B_is_number : Binds K f_is_number P_is_number []) {a_spoken : Addr} {f_spoken : FuncData} (G_spoken : FnOk P w K mg base (L2.CX P w) k a_spoken f_spoken P_spoken (spG K ct 2 c_spoken)) (M_spoken : mg "spoken" = some (.ref a_spoken)) (K_spoken : PySem.W.keepIn K (.ref a_spoken) = true) (B_spoken : Binds K f_spoken P_spoken []) :
    FnOk P w K mg base (L2.CX P w) (k + 1) a fd P_number_said (spG K ct 3 (U_number_said c_each_said c_joined_said c_number_said c_of_a_row c_of_numbers c_row_said c_spoken c_truth_said)) := by
  refine fn_ok (N := N_number_said) (ct := ct) F sc_number_said (by decide) (fun cdv A outer s H v E hr => ?_)
  have nd := sc_number_said.nd
  exact ss_cons (ss_set 3 (se_call G_spoken (hr) (takes_of rfl rfl rfl rfl) rfl M_spoken K_spoken B_spoken (sa_cons (se_var 0) (sa_cons (se_var 1) (sa_nil))) (lenA_cons (lenA_cons (lenA_nil)))) nd)
    (ss_one (ss_ret (se_call G_fit_for (hr.mono (Nat.le_trans (by decide) hk)) (takes_of rfl rfl rfl rfl) rfl M_fit_for K_fit_for B_fit_for (sa_cons (se_call G_is_number (hr.mono (Nat.le_trans (by decide) hk)) (takes_of rfl rfl rfl rfl) rfl M_is_number K_is_number B_is_number (sa_cons (se_var 3) (sa_nil)) (lenA_cons (lenA_nil))) (sa_cons (se_var 2) (sa_cons (se_var 3) (sa_nil)))) (lenA_cons (lenA_cons (lenA_cons (lenA_nil)))))))
set_option maxHeartbeats 4000000 in
theorem ok_of_a_row {a : Addr} {fd : FuncData} (F : L2.Fun K "of_a_row" "of_a_row" s_of_a_row a fd) {k : Nat} (hk : 31 ≤ k) {c_each_said : List D → Sto → R D} {c_joined_said : List D → Sto → R D} {c_number_said : List D → Sto → R D} {c_of_a_row : List D → Sto → R D} {c_of_numbers : List D → Sto → R D} {c_row_said : List D → Sto → R D} {c_spoken : List D → Sto → R D} {c_truth_said : List D → Sto → R D} {a_fit_for : Addr} {f_fit_for : FuncData} (G_fit_for : FnOk P w K mg base (L2.CX P w) 3 a_fit_for f_fit_for P_fit_for (spG K ct 3 S_fit_for)) (M_fit_for : mg "fit_for" = some (.ref a_fit_for)) (K_fit_for : PySem.W.keepIn K (.ref a_fit_for) = true) (B_fit_for : Binds K f_fit_for P_fit_for []) {a_inner_terms : Addr} {f_inner_terms : FuncData} (G_inner_terms : FnOk P w K mg base (L2.CX P w) 1 a_inner_terms f_inner_terms P_inner_terms (spG K ct 1 S_inner_terms)) (M_inner_terms : mg "inner_terms" = some (.ref a_inner_terms)) (K_inner_terms : PySem.W.keepIn K (.ref a_inner_terms) = true) (B_inner_terms : Binds K f_inner_terms P_inner_terms []) {a_is_number : Addr} {f_is_number : FuncData} (G_is_number : FnOk P w K mg base (L2.CX P w) 1 a_is_number f_is_number P_is_number (spG K ct 1 S_is_number)) (M_is_number : mg "is_number" = some (.ref a_is_number)) (K_is_number : PySem.W.keepIn K (.ref a_is_number) = true) (B_is_number : Binds K f_is_number P_is_number []) {a_is_row : Addr} {f_is_row : FuncData} (G_is_row : FnOk P w K mg base (L2.CX P w) 1 a_is_row f_is_row P_is_row (spG K ct 1 S_is_row)) (M_is_row : mg "is_row" = some (.ref a_is_row)) (K_is_row : PySem.W.keepIn K (.ref a_is_row) = true) (B_is_row : Binds K f_is_row P_is_row []) {a_spoken : Addr} {f_spoken : FuncData} (G_spoken : FnOk P w K mg base (L2.CX P w) k a_spoken f_spoken P_spoken (spG K ct 2 c_spoken)) (M_spoken : mg "spoken" = some (.ref a_spoken)) (K_spoken : PySem.W.keepIn K (.ref a_spoken) = true) (B_spoken : Binds K f_spoken P_spoken []) (Z_all : mg "all" = none) (Z_isinstance : mg "isinstance" = none) (Z_len : mg "len" = none) (Z_str : mg "str" = none) (Z_sum : mg "sum" = none) :
    FnOk P w K mg base (L2.CX P w) (k + 1) a fd P_of_a_row (spG K ct 2 (U_of_a_row c_each_said c_joined_said c_number_said c_of_a_row c_of_numbers c_row_said c_spoken c_truth_said)) := by
  refine fn_ok (N := N_of_a_row) (ct := ct) F sc_of_a_row (by decide) (fun cdv A outer s H v E hr => ?_)
  have nd := sc_of_a_row.nd
  exact ss_cons (ss_set 2 (se_ix (se_var 0) (se_int)) nd)
    (ss_cons (ss_set 3 (se_call G_spoken (hr) (takes_of rfl rfl rfl rfl) rfl M_spoken K_spoken B_spoken (sa_cons (se_ix (se_call G_inner_terms (hr.mono (Nat.le_trans (by decide) hk)) (takes_of rfl rfl rfl rfl) rfl M_inner_terms K_inner_terms B_inner_terms (sa_cons (se_var 0) (sa_nil)) (lenA_cons (lenA_nil))) (se_int)) (sa_cons (se_var 1) (sa_nil))) (lenA_cons (lenA_cons (lenA_nil)))) nd)
    (ss_cons (ss_if (PW.pt (sw_and (st_val (se_isi (n := "str") (se_var 3) rfl Z_isinstance rfl Z_str (by decide +kernel))) (sw_and1 (st_cmp o_in (se_var 2) (se_tup (sa_cons (se_str) (sa_cons (se_str) (sa_nil)))))))) (ss_cons (ss_if (st_cmp (o_eq (hu_big hr)) (se_var 2) (se_str)) (ss_one (ss_ret (se_callB (b_len) rfl Z_len (by decide +kernel) (sa_cons (se_var 3) (sa_nil))))) (ss_nil))
    (ss_one (ss_ret (se_revA (se_var 3))))) (ss_nil))
    (ss_cons (ss_expr (se_call G_fit_for (hr.mono (Nat.le_trans (by decide) hk)) (takes_of rfl rfl rfl rfl) rfl M_fit_for K_fit_for B_fit_for (sa_cons (se_call G_is_row (hr.mono (Nat.le_trans (by decide) hk)) (takes_of rfl rfl rfl rfl) rfl M_is_row K_is_row B_is_row (sa_cons (se_var 3) (sa_nil)) (lenA_cons (lenA_nil))) (sa_cons (se_var 2) (sa_cons (se_var 3) (sa_nil)))) (lenA_cons (lenA_cons (lenA_cons (lenA_nil))))))
    (ss_cons (ss_if (st_cmp (o_eq (hu_big hr)) (se_var 2) (se_str)) (ss_one (ss_ret (se_callB (b_len) rfl Z_len (by decide +kernel) (sa_cons (se_var 3) (sa_nil))))) (ss_nil))
    (ss_cons (ss_if (st_cmp (o_eq (hu_big hr)) (se_var 2) (se_str)) (ss_one (ss_ret (se_revA (se_var 3)))) (ss_nil))
    (ss_cons (ss_if (st_cmp (o_eq (hu_big hr)) (se_var 2) (se_str)) (ss_cons (ss_expr (se_call G_fit_for (hr.mono (Nat.le_trans (by decide) hk)) (takes_of rfl rfl rfl rfl) rfl M_fit_for K_fit_for B_fit_for (sa_cons (se_cmp o_lt (se_ix (se_ix (se_var 0) (se_int)) (se_int)) (se_callB (b_len) rfl Z_len (by decide +kernel) (sa_cons (se_var 3) (sa_nil)))) (sa_cons (se_var 2) (sa_cons (se_var 3) (sa_nil)))) (lenA_cons (lenA_cons (lenA_cons (lenA_nil))))))
    (ss_one (ss_ret (se_ix (se_var 3) (se_ix (se_ix (se_var 0) (se_int)) (se_int)))))) (ss_nil))
    (ss_cons (ss_expr (se_call G_fit_for (hr.mono (Nat.le_trans (by decide) hk)) (takes_of rfl rfl rfl rfl) rfl M_fit_for K_fit_for B_fit_for (sa_cons (se_callB (b_all rfl) rfl Z_all (by decide +kernel) (sa_cons (SF.fz (sf_lc [("each", 4)] rfl nd (si_seq (se_var 3)) (blkOk_by (by change blkC N_of_a_row (defScope s_of_a_row) _ _ = true; decide +kernel)) (by decide) (fun _ _ _ _ _ => sg_name 4 nd) (fun _ _ _ _ _ => sts_nil) (fun _ _ _ _ _ => se_call G_is_number (hr.mono (Nat.le_trans (by decide) hk)) takes0 rfl M_is_number K_is_number B_is_number (sa_cons (se_var 4) (sa_nil)) (lenA_cons (lenA_nil))))) (sa_nil))) (sa_cons (se_var 2) (sa_cons (se_var 3) (sa_nil)))) (lenA_cons (lenA_cons (lenA_cons (lenA_nil))))))
    (ss_one (ss_ret (se_callB (b_sumA rfl) rfl Z_sum (by decide +kernel) (sa_cons (se_var 3) (sa_nil))))))))))))
set_option maxHeartbeats 4000000 in
theorem ok_of_numbers {a : Addr} {fd : FuncData} (F : L2.Fun K "of_numbers" "of_numbers" s_of_numbers a fd) {k : Nat} (hk : 31 ≤ k) {c_each_said : List D → Sto → R D} {c_joined_said : List D → Sto → R D} {c_number_said : List D → Sto → R D} {c_of_a_row : List D → Sto → R D} {c_of_numbers : List D → Sto → R D} {c_row_said : List D → Sto → R D} {c_spoken : List D → Sto → R D} {c_truth_said : List D → Sto → R D} {a_number_said : Addr} {f_number_said : FuncData} (G_number_said : FnOk P w K mg base (L2.CX P w) k a_number_said f_number_said P_number_said (spG K ct 3 c_number_said)) (M_number_said : mg "number_said" = some (.ref a_number_said)) (K_number_said : PySem.W.keepIn K (.ref a_number_said) = true) (B_number_said : Binds K f_number_said P_number_said []) :
    FnOk P w K mg base (L2.CX P w) (k + 1) a fd P_of_numbers (spG K ct 2 (U_of_numbers c_each_said c_joined_said c_number_said c_of_a_row c_of_numbers c_row_said c_spoken c_truth_said)) := by
  refine fn_ok (N := N_of_numbers) (ct := ct) F sc_of_numbers (by decide) (fun cdv A outer s H v E hr => ?_)
  have nd := sc_of_numbers.nd
  exact ss_cons (ss_set 2 (se_ix (se_var 0) (se_int)) nd)
    (ss_cons (ss_set 3 (se_call G_number_said (hr) (takes_of rfl rfl rfl rfl) rfl M_number_said K_number_said B_number_said (sa_cons (se_ix (se_ix (se_var 0) (se_int)) (se_int)) (sa_cons (se_var 1) (sa_cons (se_var 2) (sa_nil)))) (lenA_cons (lenA_cons (lenA_cons (lenA_nil))))) nd)
    (ss_cons (ss_set 4 (se_call G_number_said (hr) (takes_of rfl rfl rfl rfl) rfl M_number_said K_number_said B_number_said (sa_cons (se_ix (se_ix (se_var 0) (se_int)) (se_int)) (sa_cons (se_var 1) (sa_cons (se_var 2) (sa_nil)))) (lenA_cons (lenA_cons (lenA_cons (lenA_nil))))) nd)
    (ss_cons (ss_if (st_cmp (o_eq (hu_big hr)) (se_var 2) (se_str)) (ss_one (ss_ret (se_bin o_add (se_var 3) (se_var 4)))) (ss_nil))
    (ss_cons (ss_if (st_cmp (o_eq (hu_big hr)) (se_var 2) (se_str)) (ss_one (ss_ret (se_bin o_mul (se_var 3) (se_var 4)))) (ss_nil))
    (ss_one (ss_ret (se_cmp o_lt (se_var 3) (se_var 4))))))))
set_option maxHeartbeats 4000000 in
theorem ok_row_said {a : Addr} {fd : FuncData} (F : L2.Fun K "row_said" "row_said" s_row_said a fd) {k : Nat} (hk : 31 ≤ k) {c_each_said : List D → Sto → R D} {c_joined_said : List D → Sto → R D} {c_number_said : List D → Sto → R D} {c_of_a_row : List D → Sto → R D} {c_of_numbers : List D → Sto → R D} {c_row_said : List D → Sto → R D} {c_spoken : List D → Sto → R D} {c_truth_said : List D → Sto → R D} {a_fit_for : Addr} {f_fit_for : FuncData} (G_fit_for : FnOk P w K mg base (L2.CX P w) 3 a_fit_for f_fit_for P_fit_for (spG K ct 3 S_fit_for)) (M_fit_for : mg "fit_for" = some (.ref a_fit_for)) (K_fit_for : PySem.W.keepIn K (.ref a_fit_for) = true) (B_fit_for : Binds K f_fit_for P_fit_for []) {a_is_row : Addr} {f_is_row : FuncData} (G_is_row : FnOk P w K mg base (L2.CX P w) 1 a_is_row f_is_row P_is_row (spG K ct 1 S_is_row)) (M_is_row : mg "is_row" = some (.ref a_is_row)) (K_is_row : PySem.W.keepIn K (.ref a_is_row) = true) (B_is_row : Binds K f_is_row P_is_row []) {a_spoken : Addr} {f_spoken : FuncData} (G_spoken : FnOk P w K mg base (L2.CX P w) k a_spoken f_spoken P_spoken (spG K ct 2 c_spoken)) (M_spoken : mg "spoken" = some (.ref a_spoken)) (K_spoken : PySem.W.keepIn K (.ref a_spoken) = true) (B_spoken : Binds K f_spoken P_spoken []) :
    FnOk P w K mg base (L2.CX P w) (k + 1) a fd P_row_said (spG K ct 3 (U_row_said c_each_said c_joined_said c_number_said c_of_a_row c_of_numbers c_row_said c_spoken c_truth_said)) := by
  refine fn_ok (N := N_row_said) (ct := ct) F sc_row_said (by decide) (fun cdv A outer s H v E hr => ?_)
  have nd := sc_row_said.nd
  exact ss_cons (ss_set 3 (se_call G_spoken (hr) (takes_of rfl rfl rfl rfl) rfl M_spoken K_spoken B_spoken (sa_cons (se_var 0) (sa_cons (se_var 1) (sa_nil))) (lenA_cons (lenA_cons (lenA_nil)))) nd)
    (ss_one (ss_ret (se_call G_fit_for (hr.mono (Nat.le_trans (by decide) hk)) (takes_of rfl rfl rfl rfl) rfl M_fit_for K_fit_for B_fit_for (sa_cons (se_call G_is_row (hr.mono (Nat.le_trans (by decide) hk)) (takes_of rfl rfl rfl rfl) rfl M_is_row K_is_row B_is_row (sa_cons (se_var 3) (sa_nil)) (lenA_cons (lenA_nil))) (sa_cons (se_var 2) (sa_cons (se_var 3) (sa_nil)))) (lenA_cons (lenA_cons (lenA_cons (lenA_nil)))))))
set_option maxHeartbeats 4000000 in
theorem ok_spoken {a : Addr} {fd : FuncData} (F : L2.Fun K "spoken" "spoken" s_spoken a fd) {k : Nat} (hk : 31 ≤ k) {c_each_said : List D → Sto → R D} {c_joined_said : List D → Sto → R D} {c_number_said : List D → Sto → R D} {c_of_a_row : List D → Sto → R D} {c_of_numbers : List D → Sto → R D} {c_row_said : List D → Sto → R D} {c_spoken : List D → Sto → R D} {c_truth_said : List D → Sto → R D} {a_each_said : Addr} {f_each_said : FuncData} (G_each_said : FnOk P w K mg base (L2.CX P w) k a_each_said f_each_said P_each_said (spG K ct 2 c_each_said)) (M_each_said : mg "each_said" = some (.ref a_each_said)) (K_each_said : PySem.W.keepIn K (.ref a_each_said) = true) (B_each_said : Binds K f_each_said P_each_said []) {a_joined_said : Addr} {f_joined_said : FuncData} (G_joined_said : FnOk P w K mg base (L2.CX P w) k a_joined_said f_joined_said P_joined_said (spG K ct 2 c_joined_said)) (M_joined_said : mg "joined_said" = some (.ref a_joined_said)) (K_joined_said : PySem.W.keepIn K (.ref a_joined_said) = true) (B_joined_said : Binds K f_joined_said P_joined_said []) {a_of_a_row : Addr} {f_of_a_row : FuncData} (G_of_a_row : FnOk P w K mg base (L2.CX P w) k a_of_a_row f_of_a_row P_of_a_row (spG K ct 2 c_of_a_row)) (M_of_a_row : mg "of_a_row" = some (.ref a_of_a_row)) (K_of_a_row : PySem.W.keepIn K (.ref a_of_a_row) = true) (B_of_a_row : Binds K f_of_a_row P_of_a_row []) {a_of_numbers : Addr} {f_of_numbers : FuncData} (G_of_numbers : FnOk P w K mg base (L2.CX P w) k a_of_numbers f_of_numbers P_of_numbers (spG K ct 2 c_of_numbers)) (M_of_numbers : mg "of_numbers" = some (.ref a_of_numbers)) (K_of_numbers : PySem.W.keepIn K (.ref a_of_numbers) = true) (B_of_numbers : Binds K f_of_numbers P_of_numbers []) {a_same : Addr} {f_same : FuncData} (G_same : FnOk P w K mg base (L2.CX P w) 31 a_same f_same P_same (spG K ct 2 (S_same 30))) (M_same : mg "same" = some (.ref a_same)) (K_same : PySem.W.keepIn K (.ref a_same) = true) (B_same : Binds K f_same P_same []) {a_spoken : Addr} {f_spoken : FuncData} (G_spoken : FnOk P w K mg base (L2.CX P w) k a_spoken f_spoken P_spoken (spG K ct 2 c_spoken)) (M_spoken : mg "spoken" = some (.ref a_spoken)) (K_spoken : PySem.W.keepIn K (.ref a_spoken) = true) (B_spoken : Binds K f_spoken P_spoken []) {a_truth_said : Addr} {f_truth_said : FuncData} (G_truth_said : FnOk P w K mg base (L2.CX P w) k a_truth_said f_truth_said P_truth_said (spG K ct 3 c_truth_said)) (M_truth_said : mg "truth_said" = some (.ref a_truth_said)) (K_truth_said : PySem.W.keepIn K (.ref a_truth_said) = true) (B_truth_said : Binds K f_truth_said P_truth_said []) :
    FnOk P w K mg base (L2.CX P w) (k + 1) a fd P_spoken (spG K ct 2 (U_spoken c_each_said c_joined_said c_number_said c_of_a_row c_of_numbers c_row_said c_spoken c_truth_said)) := by
  refine fn_ok (N := N_spoken) (ct := ct) F sc_spoken (by decide) (fun cdv A outer s H v E hr => ?_)
  have nd := sc_spoken.nd
  exact ss_cons (ss_set 2 (se_ix (se_var 0) (se_int)) nd)
    (ss_cons (ss_set 3 (se_ix (se_var 0) (se_int)) nd)
    (ss_cons (ss_if (st_cmp (o_eq (hu_big hr)) (se_var 2) (se_str)) (ss_one (ss_ret (se_var 3))) (ss_nil))
    (ss_cons (ss_if (st_cmp (o_eq (hu_big hr)) (se_var 2) (se_str)) (ss_one (ss_ret (se_var 1))) (ss_nil))
    (ss_cons (ss_if (st_cmp o_in (se_var 2) (se_tup (sa_cons (se_str) (sa_cons (se_str) (sa_cons (se_str) (sa_cons (se_str) (sa_nil))))))) (ss_one (ss_ret (se_call G_of_a_row (hr) (takes_of rfl rfl rfl rfl) rfl M_of_a_row K_of_a_row B_of_a_row (sa_cons (se_var 0) (sa_cons (se_var 1) (sa_nil))) (lenA_cons (lenA_cons (lenA_nil)))))) (ss_nil))
    (ss_cons (ss_if (st_cmp o_in (se_var 2) (se_tup (sa_cons (se_str) (sa_cons (se_str) (sa_cons (se_str) (sa_nil)))))) (ss_one (ss_ret (se_call G_of_numbers (hr) (takes_of rfl rfl rfl rfl) rfl M_of_numbers K_of_numbers B_of_numbers (sa_cons (se_var 0) (sa_cons (se_var 1) (sa_nil))) (lenA_cons (lenA_cons (lenA_nil)))))) (ss_nil))
    (ss_cons (ss_if (st_cmp (o_eq (hu_big hr)) (se_var 2) (se_str)) (ss_cons (ss_set 4 (se_call G_spoken (hr) (takes_of rfl rfl rfl rfl) rfl M_spoken K_spoken B_spoken (sa_cons (se_ix (se_var 3) (se_int)) (sa_cons (se_var 1) (sa_nil))) (lenA_cons (lenA_cons (lenA_nil)))) nd)
    (ss_one (ss_ret (se_call G_same (hr.mono (Nat.le_trans (by decide) hk)) (takes_of rfl rfl rfl rfl) rfl M_same K_same B_same (sa_cons (se_var 4) (sa_cons (se_call G_spoken (hr) (takes_of rfl rfl rfl rfl) rfl M_spoken K_spoken B_spoken (sa_cons (se_ix (se_var 3) (se_int)) (sa_cons (se_var 1) (sa_nil))) (lenA_cons (lenA_cons (lenA_nil)))) (sa_nil))) (lenA_cons (lenA_cons (lenA_nil))))))) (ss_nil))
    (ss_cons (ss_if (st_cmp (o_eq (hu_big hr)) (se_var 2) (se_str)) (ss_one (ss_ret (se_nt (se_call G_truth_said (hr) (takes_of rfl rfl rfl rfl) rfl M_truth_said K_truth_said B_truth_said (sa_cons (se_var 3) (sa_cons (se_var 1) (sa_cons (se_var 2) (sa_nil)))) (lenA_cons (lenA_cons (lenA_cons (lenA_nil)))))))) (ss_nil))
    (ss_cons (ss_if (st_cmp (o_eq (hu_big hr)) (se_var 2) (se_str)) (ss_one (ss_ret (se_and (se_call G_truth_said (hr) (takes_of rfl rfl rfl rfl) rfl M_truth_said K_truth_said B_truth_said (sa_cons (se_ix (se_var 3) (se_int)) (sa_cons (se_var 1) (sa_cons (se_var 2) (sa_nil)))) (lenA_cons (lenA_cons (lenA_cons (lenA_nil))))) (se_one (se_call G_truth_said (hr) (takes_of rfl rfl rfl rfl) rfl M_truth_said K_truth_said B_truth_said (sa_cons (se_ix (se_var 3) (se_int)) (sa_cons (se_var 1) (sa_cons (se_var 2) (sa_nil)))) (lenA_cons (lenA_cons (lenA_cons (lenA_nil))))))))) (ss_nil))
    (ss_cons (ss_if (st_cmp (o_eq (hu_big hr)) (se_var 2) (se_str)) (ss_cons (ss_if (st_val (se_call G_truth_said (hr) (takes_of rfl rfl rfl rfl) rfl M_truth_said K_truth_said B_truth_said (sa_cons (se_ix (se_var 3) (se_int)) (sa_cons (se_var 1) (sa_cons (se_var 2) (sa_nil)))) (lenA_cons (lenA_cons (lenA_cons (lenA_nil)))))) (ss_one (ss_ret (se_call G_spoken (hr) (takes_of rfl rfl rfl rfl) rfl M_spoken K_spoken B_spoken (sa_cons (se_ix (se_var 3) (se_int)) (sa_cons (se_var 1) (sa_nil))) (lenA_cons (lenA_cons (lenA_nil)))))) (ss_nil))
    (ss_one (ss_ret (se_call G_spoken (hr) (takes_of rfl rfl rfl rfl) rfl M_spoken K_spoken B_spoken (sa_cons (se_ix (se_var 3) (se_int)) (sa_cons (se_var 1) (sa_nil))) (lenA_cons (lenA_cons (lenA_nil))))))) (ss_nil))
    (ss_cons (ss_if (st_cmp (o_eq (hu_big hr)) (se_var 2) (se_str)) (ss_one (ss_ret (se_call G_each_said (hr) (takes_of rfl rfl rfl rfl) rfl M_each_said K_each_said B_each_said (sa_cons (se_var 0) (sa_cons (se_var 1) (sa_nil))) (lenA_cons (lenA_cons (lenA_nil)))))) (ss_nil))
    (ss_one (ss_ret (se_call G_joined_said (hr) (takes_of rfl rfl rfl rfl) rfl M_joined_said K_joined_said B_joined_said (sa_cons (se_var 0) (sa_cons (se_var 1) (sa_nil))) (lenA_cons (lenA_cons (lenA_nil))))))))))))))))
set_option maxHeartbeats 4000000 in
theorem ok_truth_said {a : Addr} {fd : FuncData} (F : L2.Fun K "truth_said" "truth_said" s_truth_said a fd) {k : Nat} (hk : 31 ≤ k) {c_each_said : List D → Sto → R D} {c_joined_said : List D → Sto → R D} {c_number_said : List D → Sto → R D} {c_of_a_row : List D → Sto → R D} {c_of_numbers : List D → Sto → R D} {c_row_said : List D → Sto → R D} {c_spoken : List D → Sto → R D} {c_truth_said : List D → Sto → R D} {a_fit_for : Addr} {f_fit_for : FuncData} (G_fit_for : FnOk P w K mg base (L2.CX P w) 3 a_fit_for f_fit_for P_fit_for (spG K ct 3 S_fit_for)) (M_fit_for : mg "fit_for" = some (.ref a_fit_for)) (K_fit_for : PySem.W.keepIn K (.ref a_fit_for) = true) (B_fit_for : Binds K f_fit_for P_fit_for []) {a_spoken : Addr} {f_spoken : FuncData} (G_spoken : FnOk P w K mg base (L2.CX P w) k a_spoken f_spoken P_spoken (spG K ct 2 c_spoken)) (M_spoken : mg "spoken" = some (.ref a_spoken)) (K_spoken : PySem.W.keepIn K (.ref a_spoken) = true) (B_spoken : Binds K f_spoken P_spoken []) (Z_bool : mg "bool" = none) (Z_isinstance : mg "isinstance" = none) :
    FnOk P w K mg base (L2.CX P w) (k + 1) a fd P_truth_said (spG K ct 3 (U_truth_said c_each_said c_joined_said c_number_said c_of_a_row c_of_numbers c_row_said c_spoken c_truth_said)) := by
  refine fn_ok (N := N_truth_said) (ct := ct) F sc_truth_said (by decide) (fun cdv A outer s H v E hr => ?_)
  have nd := sc_truth_said.nd
  exact ss_cons (ss_set 3 (se_call G_spoken (hr) (takes_of rfl rfl rfl rfl) rfl M_spoken K_spoken B_spoken (sa_cons (se_var 0) (sa_cons (se_var 1) (sa_nil))) (lenA_cons (lenA_cons (lenA_nil)))) nd)
    (ss_one (ss_ret (se_call G_fit_for (hr.mono (Nat.le_trans (by decide) hk)) (takes_of rfl rfl rfl rfl) rfl M_fit_for K_fit_for B_fit_for (sa_cons (se_isi (n := "bool") (se_var 3) rfl Z_isinstance rfl Z_bool (by decide +kernel)) (sa_cons (se_var 2) (sa_cons (se_var 3) (sa_nil)))) (lenA_cons (lenA_cons (lenA_cons (lenA_nil)))))))
set_option maxHeartbeats 4000000 in
theorem ok_said {a : Addr} {fd : FuncData} (F : L2.Fun K "said" "said" s_said a fd) {a_own_copy : Addr} {f_own_copy : FuncData} (G_own_copy : FnOk P w K mg base (L2.CX P w) 30 a_own_copy f_own_copy P_own_copy (spG K ct 1 (S_own_copy 30))) (M_own_copy : mg "own_copy" = some (.ref a_own_copy)) (K_own_copy : PySem.W.keepIn K (.ref a_own_copy) = true) (B_own_copy : Binds K f_own_copy P_own_copy []) {a_spoken : Addr} {f_spoken : FuncData} (G_spoken : FnOk P w K mg base (L2.CX P w) 61 a_spoken f_spoken P_spoken (spG K ct 2 (S_spoken 30))) (M_spoken : mg "spoken" = some (.ref a_spoken)) (K_spoken : PySem.W.keepIn K (.ref a_spoken) = true) (B_spoken : Binds K f_spoken P_spoken []) :
    FnOk P w K mg base (L2.CX P w) 62 a fd P_said (spG K ct 2 S_said) := by
  refine fn_ok (N := N_said) (ct := ct) F sc_said (by decide) (fun cdv A outer s H v E hr => ?_)
  have nd := sc_said.nd
  exact ss_one (ss_ret (se_call G_own_copy (hr.mono (by decide)) (takes_of rfl rfl rfl rfl) rfl M_own_copy K_own_copy B_own_copy (sa_cons (se_call G_spoken (hr.mono (by decide)) (takes_of rfl rfl rfl rfl) rfl M_spoken K_spoken B_spoken (sa_cons (se_var 0) (sa_cons (se_var 1) (sa_nil))) (lenA_cons (lenA_cons (lenA_nil)))) (sa_nil)) (lenA_cons (lenA_nil))))
set_option maxHeartbeats 4000000 in
theorem ok_l_told {a : Addr} {fd : FuncData} (F : L2.Fun K "_law_told" "_law_told" s_l_told a fd) {a_said : Addr} {f_said : FuncData} (G_said : FnOk P w K mg base (L2.CX P w) 62 a_said f_said P_said (spG K ct 2 S_said)) (M_said : mg "said" = some (.ref a_said)) (K_said : PySem.W.keepIn K (.ref a_said) = true) (B_said : Binds K f_said P_said []) (Z_ValueError : mg "ValueError" = none) (Z_isinstance : mg "isinstance" = none) (GC_Astray : mg "Astray" = some (.ref (ct "Astray"))) (GC_CountError : mg "CountError" = some (.ref (ct "CountError"))) (XD_mark : XFd K ct "mark" xf_mark) (EI_CountError : EI K ct tb_CountError (.ref (ct "CountError"))) (EI_ValueError : EI K ct tb_ValueError (.type "ValueError")) (XT_Astray : XT K ct (ct "Astray") xt_Astray) :
    FnOk P w K mg base (L2.CX P w) 63 a fd P_l_told (spG K ct 2 S_l_told) := by
  refine fn_ok (N := N_l_told) (ct := ct) F sc_l_told (by decide) (fun cdv A outer s H v E hr => ?_)
  have nd := sc_l_told.nd
  exact ss_cons (ss_set 2 (se_non) nd)
    (ss_cons (ss_set 3 (se_non) nd)
    (ss_cons (ss_try_suite (i := 4) rfl rfl nd rfl rfl rfl ⟨rfl, by decide, .inl GC_Astray⟩ (takes_of rfl rfl rfl rfl) XT_Astray (fun W pn xe tk hp => ss_one (ss_set 3 (se_call G_said (hr.mono (by decide)) tk rfl M_said K_said B_said (sa_cons (se_var 0) (sa_cons (se_var 1) (sa_nil))) (lenA_cons (lenA_cons (lenA_nil)))) nd)) (fun a pn => ss_one (ss_set 2 (se_var 4) nd)))
    (ss_cons (ss_if (st_cmp o_isN (se_var 2) (se_non)) (ss_one (ss_ret (se_tup (sa_cons (se_str) (sa_cons (se_var 3) (sa_nil)))))) (ss_nil))
    (ss_cons (ss_if (PW.pt (sw_or (st_not (st_val (se_isD (se_var 2) rfl Z_isinstance (pe_glob (v := .ref (ct "CountError")) rfl GC_CountError rfl) (.own _) EI_CountError))) (sw_or1 (st_not (st_val (se_isD (se_var 2) rfl Z_isinstance (pe_bltn (v := .ty "ValueError") rfl Z_ValueError (u := .type "ValueError") (by decide +kernel) rfl) (.ty _) EI_ValueError)))))) (ss_one (ss_ret (se_tup (sa_cons (se_str) (sa_cons (se_var 2) (sa_nil)))))) (ss_nil))
    (ss_one (ss_ret (se_tup (sa_cons (se_str) (sa_cons (se_evf XD_mark (se_var 2)) (sa_nil))))))))))
set_option maxHeartbeats 4000000 in
theorem ok_law {a : Addr} {fd : FuncData} (F : L2.Fun K "law" "law" s_law a fd) {a_l_alike : Addr} {f_l_alike : FuncData} (G_l_alike : FnOk P w K mg base (L2.CX P w) 30 a_l_alike f_l_alike P_l_alike (spG K ct 2 (S_l_alike 30))) (M_l_alike : mg "_law_alike" = some (.ref a_l_alike)) (K_l_alike : PySem.W.keepIn K (.ref a_l_alike) = true) (B_l_alike : Binds K f_l_alike P_l_alike []) {a_l_due : Addr} {f_l_due : FuncData} (G_l_due : FnOk P w K mg base (L2.CX P w) 61 a_l_due f_l_due P_l_due (spG K ct 2 (S_l_due 30))) (M_l_due : mg "_law_due" = some (.ref a_l_due)) (K_l_due : PySem.W.keepIn K (.ref a_l_due) = true) (B_l_due : Binds K f_l_due P_l_due []) {a_l_own : Addr} {f_l_own : FuncData} (G_l_own : FnOk P w K mg base (L2.CX P w) 31 a_l_own f_l_own P_l_own (spG K ct 1 S_l_own)) (M_l_own : mg "_law_own" = some (.ref a_l_own)) (K_l_own : PySem.W.keepIn K (.ref a_l_own) = true) (B_l_own : Binds K f_l_own P_l_own []) {a_l_take : Addr} {f_l_take : FuncData} (G_l_take : FnOk P w K mg base (L2.CX P w) 1 a_l_take f_l_take P_l_take (spG K ct 2 S_l_take)) (M_l_take : mg "_law_take" = some (.ref a_l_take)) (K_l_take : PySem.W.keepIn K (.ref a_l_take) = true) (B_l_take : Binds K f_l_take P_l_take []) {a_l_term : Addr} {f_l_term : FuncData} (G_l_term : FnOk P w K mg base (L2.CX P w) 31 a_l_term f_l_term P_l_term (spG K ct 3 (S_l_term 30))) (M_l_term : mg "_law_term" = some (.ref a_l_term)) (K_l_term : PySem.W.keepIn K (.ref a_l_term) = true) (B_l_term : Binds K f_l_term P_l_term []) {a_l_thing : Addr} {f_l_thing : FuncData} (G_l_thing : FnOk P w K mg base (L2.CX P w) 31 a_l_thing f_l_thing P_l_thing (spG K ct 2 (S_l_thing 30))) (M_l_thing : mg "_law_thing" = some (.ref a_l_thing)) (K_l_thing : PySem.W.keepIn K (.ref a_l_thing) = true) (B_l_thing : Binds K f_l_thing P_l_thing []) {a_l_told : Addr} {f_l_told : FuncData} (G_l_told : FnOk P w K mg base (L2.CX P w) 63 a_l_told f_l_told P_l_told (spG K ct 2 S_l_told)) (M_l_told : mg "_law_told" = some (.ref a_l_told)) (K_l_told : PySem.W.keepIn K (.ref a_l_told) = true) (B_l_told : Binds K f_l_told P_l_told []) (Z_list : mg "list" = none) (Z_range : mg "range" = none) (Z_repr : mg "repr" = none) :
    FnTop P w K mg base (L2.CX P w) 64 a fd P_law (spG K ct 1 S_law) := by
  refine fn_top (N := N_law) (ct := ct) F sc_law (by decide) (fun cdv A outer s H v E hr hgd => ?_)
  have nd := sc_law.nd
  exact ss_cons (ss_set 1 (SF.nw (sf_list rfl rfl rfl Z_list (se_sl (se_var 0) (so_none) (so_some (se_int))) (by decide +kernel))) nd)
    (ss_cons (ss_setLc 2 (g := eFz) [("_law_k", 8)] (fun _ _ _ z => lift_fz z) rfl nd rfl rfl (sw_true rfl rfl rfl (by decide +kernel)) (si_range1 rfl Z_range (sa_cons (se_call G_l_take (hr.mono (by decide)) (takes_of rfl rfl rfl rfl) rfl M_l_take K_l_take B_l_take (sa_cons (se_var 1) (sa_cons (se_int) (sa_nil))) (lenA_cons (lenA_cons (lenA_nil)))) (sa_nil))) (blkOk_by (by change blkC N_law (defScope s_law) _ _ = true; decide +kernel)) (by decide) (fun _ _ _ _ _ => sg_name 8 nd) (fun _ _ _ _ _ => sts_nil) (fun _ _ _ _ _ => se_call G_l_thing (hr.mono (by decide)) takes0 rfl M_l_thing K_l_thing B_l_thing (sa_cons (se_var 1) (sa_cons (se_int) (sa_nil))) (lenA_cons (lenA_cons (lenA_nil)))))
    (ss_cons (ss_if (st_cmp (o_eq (hu_big hr)) (se_call G_l_take (hr.mono (by decide)) (takes_of rfl rfl rfl rfl) rfl M_l_take K_l_take B_l_take (sa_cons (se_var 1) (sa_cons (se_int) (sa_nil))) (lenA_cons (lenA_cons (lenA_nil)))) (se_int)) (ss_one (ss_set 2 (se_call G_l_thing (hr.mono (by decide)) (takes_of rfl rfl rfl rfl) rfl M_l_thing K_l_thing B_l_thing (sa_cons (se_var 1) (sa_cons (se_int) (sa_nil))) (lenA_cons (lenA_cons (lenA_nil)))) nd)) (ss_nil))
    (ss_cons (ss_set 3 (se_callB (b_repr hgd (hu_big hr)) rfl Z_repr (by decide +kernel) (sa_cons (se_var 2) (sa_nil))) nd)
    (ss_cons (ss_set 4 (se_call G_l_term (hr.mono (by decide)) (takes_of rfl rfl rfl rfl) rfl M_l_term K_l_term B_l_term (sa_cons (se_var 1) (sa_cons (se_int) (sa_cons (se_int) (sa_nil)))) (lenA_cons (lenA_cons (lenA_cons (lenA_nil))))) nd)
    (ss_cons (ss_set 5 (se_call G_l_due (hr.mono (by decide)) (takes_of rfl rfl rfl rfl) rfl M_l_due K_l_due B_l_due (sa_cons (se_var 4) (sa_cons (se_var 2) (sa_nil))) (lenA_cons (lenA_cons (lenA_nil)))) nd)
    (ss_cons (ss_for (passes_of rfl) rfl (si_range1 rfl Z_range (sa_cons (se_int) (sa_nil))) (sg_name 6 nd) (ss_cons (ss_set 7 (se_call G_l_told (hr.mono (by decide)) (takes_of rfl rfl rfl rfl) rfl M_l_told K_l_told B_l_told (sa_cons (se_var 4) (sa_cons (se_var 2) (sa_nil))) (lenA_cons (lenA_cons (lenA_nil)))) nd)
    (ss_cons (ss_if (PW.pt (sw_or (st_cmp (o_ne (hu_big hr)) (se_ix (se_var 7) (se_int)) (se_ix (se_var 5) (se_int))) (sw_or (st_not (st_val (se_callZ G_l_alike (hr.mono (by decide)) (takes_of rfl rfl rfl rfl) rfl M_l_alike K_l_alike B_l_alike (sa_cons (se_ix (se_var 7) (se_int)) (sa_cons (se_ix (se_var 5) (se_int)) (sa_nil))) (lenA_cons (lenA_cons (lenA_nil)))))) (sw_or1 (st_cmp (o_ne (hu_big hr)) (se_callB (b_repr hgd (hu_big hr)) rfl Z_repr (by decide +kernel) (sa_cons (se_var 2) (sa_nil))) (se_var 3)))))) (ss_one (ss_ret (se_bl))) (ss_nil))
    (ss_one (ss_if (PW.pt (sw_and (st_cmp (o_eq (hu_big hr)) (se_ix (se_var 7) (se_int)) (se_str)) (sw_and1 (st_not (st_val (se_call G_l_own (hr.mono (by decide)) (takes_of rfl rfl rfl rfl) rfl M_l_own K_l_own B_l_own (sa_cons (se_ix (se_var 7) (se_int)) (sa_nil)) (lenA_cons (lenA_nil)))))))) (ss_one (ss_ret (se_bl))) (ss_nil))))))
    (ss_one (ss_ret (se_cmp (o_eq (hu_big hr)) (se_callB (b_repr hgd (hu_big hr)) rfl Z_repr (by decide +kernel) (sa_cons (se_var 2) (sa_nil))) (se_var 3))))))))))
end
def ctOf (c_CountError c_Astray : Addr) : String → Addr := fun s => if s = "CountError" then c_CountError else if s = "Astray" then c_Astray else 0
set_option maxHeartbeats 4000000 in
theorem all_mk {l : PySem.W.OpenLaw} {w : World} {K : PySem.W.Frag} {h : Heap} {mg : Str → Option Value} {fa : Addr} (X : K.In h) (G : h.Ns mainGlobals mg) (hfa : mg "law" = some (.ref fa))
    {q0_a : Addr} {q0_od : Option Addr} {q0_n : Nat} {q0_sl : Array (Option Value)} {q0_0 q0_1 q0_2 q0_3 : Tok}
    {c_CountError c_Astray : Addr}
    {a_Astray___init__ : Addr} {od_Astray an_Astray : Option Addr} {sl_Astray : Array (Option Value)} {oc_Astray kV_Astray dc_Astray pm_Astray cd_Astray ct_Astray : Value} {nm_Astray q_Astray : Str} {N_Astray : Addr} {bs_Astray bm_Astray sub_Astray : List Value} {sn_Astray : List Str} {ab_Astray : Bool} {col_Astray : Option Bool} {dd_Astray : Option Addr} {k0_Astray k1_Astray k2_Astray k3_Astray k5_Astray : Option Value}
    {a_l_alike : Addr} {od0 an0 : Option Addr} {sl0 : Array (Option Value)} {oc0 kV0 dc0 pm0 cd0 ct0 : Value}
    {a_l_whole : Addr} {od1 an1 : Option Addr} {sl1 : Array (Option Value)} {oc1 kV1 dc1 pm1 cd1 ct1 : Value}
    {a_l_can : Addr} {od2 an2 : Option Addr} {sl2 : Array (Option Value)} {oc2 kV2 dc2 pm2 cd2 ct2 : Value}
    {a_l_due_of_one : Addr} {od3 an3 : Option Addr} {sl3 : Array (Option Value)} {oc3 kV3 dc3 pm3 cd3 ct3 : Value}
    {a_l_due_of_two : Addr} {od4 an4 : Option Addr} {sl4 : Array (Option Value)} {oc4 kV4 dc4 pm4 cd4 ct4 : Value}
    {a_l_due_each : Addr} {od5 an5 : Option Addr} {sl5 : Array (Option Value)} {oc5 kV5 dc5 pm5 cd5 ct5 : Value}
    {a_l_asked : Addr} {od6 an6 : Option Addr} {sl6 : Array (Option Value)} {oc6 kV6 dc6 pm6 cd6 ct6 : Value}
    {a_l_due : Addr} {od7 an7 : Option Addr} {sl7 : Array (Option Value)} {oc7 kV7 dc7 pm7 cd7 ct7 : Value}
    {a_l_lists : Addr} {od8 an8 : Option Addr} {sl8 : Array (Option Value)} {oc8 kV8 dc8 pm8 cd8 ct8 : Value}
    {a_l_own : Addr} {od9 an9 : Option Addr} {sl9 : Array (Option Value)} {oc9 kV9 dc9 pm9 cd9 ct9 : Value}
    {a_l_take : Addr} {od10 an10 : Option Addr} {sl10 : Array (Option Value)} {oc10 kV10 dc10 pm10 cd10 ct10 : Value}
    {a_l_truth_term : Addr} {od11 an11 : Option Addr} {sl11 : Array (Option Value)} {oc11 kV11 dc11 pm11 cd11 ct11 : Value}
    {a_l_row_term : Addr} {od12 an12 : Option Addr} {sl12 : Array (Option Value)} {oc12 kV12 dc12 pm12 cd12 ct12 : Value}
    {a_l_number_term : Addr} {od13 an13 : Option Addr} {sl13 : Array (Option Value)} {oc13 kV13 dc13 pm13 cd13 ct13 : Value}
    {a_l_term : Addr} {od14 an14 : Option Addr} {sl14 : Array (Option Value)} {oc14 kV14 dc14 pm14 cd14 ct14 : Value}
    {a_l_thing : Addr} {od15 an15 : Option Addr} {sl15 : Array (Option Value)} {oc15 kV15 dc15 pm15 cd15 ct15 : Value}
    {a_own_copy : Addr} {od16 an16 : Option Addr} {sl16 : Array (Option Value)} {oc16 kV16 dc16 pm16 cd16 ct16 : Value}
    {a_fit_for : Addr} {od17 an17 : Option Addr} {sl17 : Array (Option Value)} {oc17 kV17 dc17 pm17 cd17 ct17 : Value}
    {a_is_row : Addr} {od18 an18 : Option Addr} {sl18 : Array (Option Value)} {oc18 kV18 dc18 pm18 cd18 ct18 : Value}
    {a_one_kind : Addr} {od19 an19 : Option Addr} {sl19 : Array (Option Value)} {oc19 kV19 dc19 pm19 cd19 ct19 : Value}
    {a_inner_terms : Addr} {od20 an20 : Option Addr} {sl20 : Array (Option Value)} {oc20 kV20 dc20 pm20 cd20 ct20 : Value}
    {a_is_number : Addr} {od21 an21 : Option Addr} {sl21 : Array (Option Value)} {oc21 kV21 dc21 pm21 cd21 ct21 : Value}
    {a_same : Addr} {od22 an22 : Option Addr} {sl22 : Array (Option Value)} {oc22 kV22 dc22 pm22 cd22 ct22 : Value}
    {a_number_said : Addr} {od23 an23 : Option Addr} {sl23 : Array (Option Value)} {oc23 kV23 dc23 pm23 cd23 ct23 : Value}
    {a_of_numbers : Addr} {od24 an24 : Option Addr} {sl24 : Array (Option Value)} {oc24 kV24 dc24 pm24 cd24 ct24 : Value}
    {a_of_a_row : Addr} {od25 an25 : Option Addr} {sl25 : Array (Option Value)} {oc25 kV25 dc25 pm25 cd25 ct25 : Value}
    {a_joined_said : Addr} {od26 an26 : Option Addr} {sl26 : Array (Option Value)} {oc26 kV26 dc26 pm26 cd26 ct26 : Value}
    {a_truth_said : Addr} {od27 an27 : Option Addr} {sl27 : Array (Option Value)} {oc27 kV27 dc27 pm27 cd27 ct27 : Value}
    {a_row_said : Addr} {od28 an28 : Option Addr} {sl28 : Array (Option Value)} {oc28 kV28 dc28 pm28 cd28 ct28 : Value}
    {a_each_said : Addr} {od29 an29 : Option Addr} {sl29 : Array (Option Value)} {oc29 kV29 dc29 pm29 cd29 ct29 : Value}
    {a_spoken : Addr} {od30 an30 : Option Addr} {sl30 : Array (Option Value)} {oc30 kV30 dc30 pm30 cd30 ct30 : Value}
    {a_said : Addr} {od31 an31 : Option Addr} {sl31 : Array (Option Value)} {oc31 kV31 dc31 pm31 cd31 ct31 : Value}
    {a_l_told : Addr} {od32 an32 : Option Addr} {sl32 : Array (Option Value)} {oc32 kV32 dc32 pm32 cd32 ct32 : Value}
    {a_law : Addr} {od33 an33 : Option Addr} {sl33 : Array (Option Value)} {oc33 kV33 dc33 pm33 cd33 ct33 : Value}
    (N_0 : PySem.W.nsIn K mainGlobals "_law_alike" = some (some (.ref a_l_alike)))
    (L_0 : K.lookup a_l_alike = some ⟨oc0, od0, .func (PySem.W.fnOf "_law_alike" "_law_alike" (defArgs s_l_alike) (defBody s_l_alike) (defScope s_l_alike) .none kV0 dc0 pm0 an0 cd0 ct0), sl0⟩)
    (C_0 : PySem.W.codeIn K cd0 "_law_alike" = true)
    (K_l_alike : PySem.W.keepIn K (.ref a_l_alike) = true)
    (N_1 : PySem.W.nsIn K mainGlobals "_law_whole" = some (some (.ref a_l_whole)))
    (L_1 : K.lookup a_l_whole = some ⟨oc1, od1, .func (PySem.W.fnOf "_law_whole" "_law_whole" (defArgs s_l_whole) (defBody s_l_whole) (defScope s_l_whole) .none kV1 dc1 pm1 an1 cd1 ct1), sl1⟩)
    (C_1 : PySem.W.codeIn K cd1 "_law_whole" = true)
    (K_l_whole : PySem.W.keepIn K (.ref a_l_whole) = true)
    (N_2 : PySem.W.nsIn K mainGlobals "_law_can" = some (some (.ref a_l_can)))
    (L_2 : K.lookup a_l_can = some ⟨oc2, od2, .func (PySem.W.fnOf "_law_can" "_law_can" (defArgs s_l_can) (defBody s_l_can) (defScope s_l_can) .none kV2 dc2 pm2 an2 cd2 ct2), sl2⟩)
    (C_2 : PySem.W.codeIn K cd2 "_law_can" = true)
    (K_l_can : PySem.W.keepIn K (.ref a_l_can) = true)
    (N_3 : PySem.W.nsIn K mainGlobals "_law_due_of_one" = some (some (.ref a_l_due_of_one)))
    (L_3 : K.lookup a_l_due_of_one = some ⟨oc3, od3, .func (PySem.W.fnOf "_law_due_of_one" "_law_due_of_one" (defArgs s_l_due_of_one) (defBody s_l_due_of_one) (defScope s_l_due_of_one) .none kV3 dc3 pm3 an3 cd3 ct3), sl3⟩)
    (C_3 : PySem.W.codeIn K cd3 "_law_due_of_one" = true)
    (K_l_due_of_one : PySem.W.keepIn K (.ref a_l_due_of_one) = true)
    (N_4 : PySem.W.nsIn K mainGlobals "_law_due_of_two" = some (some (.ref a_l_due_of_two)))
    (L_4 : K.lookup a_l_due_of_two = some ⟨oc4, od4, .func (PySem.W.fnOf "_law_due_of_two" "_law_due_of_two" (defArgs s_l_due_of_two) (defBody s_l_due_of_two) (defScope s_l_due_of_two) .none kV4 dc4 pm4 an4 cd4 ct4), sl4⟩)
    (C_4 : PySem.W.codeIn K cd4 "_law_due_of_two" = true)
    (K_l_due_of_two : PySem.W.keepIn K (.ref a_l_due_of_two) = true)
    (N_5 : PySem.W.nsIn K mainGlobals "_law_due_each" = some (some (.ref a_l_due_each)))
    (L_5 : K.lookup a_l_due_each = some ⟨oc5, od5, .func (PySem.W.fnOf "_law_due_each" "_law_due_each" (defArgs s_l_due_each) (defBody s_l_due_each) (defScope s_l_due_each) .none kV5 dc5 pm5 an5 cd5 ct5), sl5⟩)
    (C_5 : PySem.W.codeIn K cd5 "_law_due_each" = true)
    (K_l_due_each : PySem.W.keepIn K (.ref a_l_due_each) = true)
    (N_6 : PySem.W.nsIn K mainGlobals "_law_asked" = some (some (.ref a_l_asked)))
    (L_6 : K.lookup a_l_asked = some ⟨oc6, od6, .func (PySem.W.fnOf "_law_asked" "_law_asked" (defArgs s_l_asked) (defBody s_l_asked) (defScope s_l_asked) .none kV6 dc6 pm6 an6 cd6 ct6), sl6⟩)
    (C_6 : PySem.W.codeIn K cd6 "_law_asked" = true)
    (K_l_asked : PySem.W.keepIn K (.ref a_l_asked) = true)
    (N_7 : PySem.W.nsIn K mainGlobals "_law_due" = some (some (.ref a_l_due)))
    (L_7 : K.lookup a_l_due = some ⟨oc7, od7, .func (PySem.W.fnOf "_law_due" "_law_due" (defArgs s_l_due) (defBody s_l_due) (defScope s_l_due) .none kV7 dc7 pm7 an7 cd7 ct7), sl7⟩)
    (C_7 : PySem.W.codeIn K cd7 "_law_due" = true)
    (K_l_due : PySem.W.keepIn K (.ref a_l_due) = true)
    (N_8 : PySem.W.nsIn K mainGlobals "_law_lists" = some (some (.ref a_l_lists)))
    (L_8 : K.lookup a_l_lists = some ⟨oc8, od8, .func (PySem.W.fnOf "_law_lists" "_law_lists" (defArgs s_l_lists) (defBody s_l_lists) (defScope s_l_lists) .none kV8 dc8 pm8 an8 cd8 ct8), sl8⟩)
    (C_8 : PySem.W.codeIn K cd8 "_law_lists" = true)
    (K_l_lists : PySem.W.keepIn K (.ref a_l_lists) = true)
    (N_9 : PySem.W.nsIn K mainGlobals "_law_own" = some (some (.ref a_l_own)))
    (L_9 : K.lookup a_l_own = some ⟨oc9, od9, .func (PySem.W.fnOf "_law_own" "_law_own" (defArgs s_l_own) (defBody s_l_own) (defScope s_l_own) .none kV9 dc9 pm9 an9 cd9 ct9), sl9⟩)
    (C_9 : PySem.W.codeIn K cd9 "_law_own" = true)
    (K_l_own : PySem.W.keepIn K (.ref a_l_own) = true)
    (N_10 : PySem.W.nsIn K mainGlobals "_law_take" = some (some (.ref a_l_take)))
    (L_10 : K.lookup a_l_take = some ⟨oc10, od10, .func (PySem.W.fnOf "_law_take" "_law_take" (defArgs s_l_take) (defBody s_l_take) (defScope s_l_take) .none kV10 dc10 pm10 an10 cd10 ct10), sl10⟩)
    (C_10 : PySem.W.codeIn K cd10 "_law_take" = true)
    (K_l_take : PySem.W.keepIn K (.ref a_l_take) = true)
    (N_11 : PySem.W.nsIn K mainGlobals "_law_truth_term" = some (some (.ref a_l_truth_term)))
    (L_11 : K.lookup a_l_truth_term = some ⟨oc11, od11, .func (PySem.W.fnOf "_law_truth_term" "_law_truth_term" (defArgs s_l_truth_term) (defBody s_l_truth_term) (defScope s_l_truth_term) .none kV11 dc11 pm11 an11 cd11 ct11), sl11⟩)
    (C_11 : PySem.W.codeIn K cd11 "_law_truth_term" = true)
    (K_l_truth_term : PySem.W.keepIn K (.ref a_l_truth_term) = true)
    (N_12 : PySem.W.nsIn K mainGlobals "_law_row_term" = some (some (.ref a_l_row_term)))
    (L_12 : K.lookup a_l_row_term = some ⟨oc12, od12, .func (PySem.W.fnOf "_law_row_term" "_law_row_term" (defArgs s_l_row_term) (defBody s_l_row_term) (defScope s_l_row_term) .none kV12 dc12 pm12 an12 cd12 ct12), sl12⟩)
    (C_12 : PySem.W.codeIn K cd12 "_law_row_term" = true)
    (K_l_row_term : PySem.W.keepIn K (.ref a_l_row_term) = true)
    (N_13 : PySem.W.nsIn K mainGlobals "_law_number_term" = some (some (.ref a_l_number_term)))
    (L_13 : K.lookup a_l_number_term = some ⟨oc13, od13, .func (PySem.W.fnOf "_law_number_term" "_law_number_term" (defArgs s_l_number_term) (defBody s_l_number_term) (defScope s_l_number_term) .none kV13 dc13 pm13 an13 cd13 ct13), sl13⟩)
    (C_13 : PySem.W.codeIn K cd13 "_law_number_term" = true)
    (K_l_number_term : PySem.W.keepIn K (.ref a_l_number_term) = true)
    (N_14 : PySem.W.nsIn K mainGlobals "_law_term" = some (some (.ref a_l_term)))
    (L_14 : K.lookup a_l_term = some ⟨oc14, od14, .func (PySem.W.fnOf "_law_term" "_law_term" (defArgs s_l_term) (defBody s_l_term) (defScope s_l_term) .none kV14 dc14 pm14 an14 cd14 ct14), sl14⟩)
    (C_14 : PySem.W.codeIn K cd14 "_law_term" = true)
    (K_l_term : PySem.W.keepIn K (.ref a_l_term) = true)
    (N_15 : PySem.W.nsIn K mainGlobals "_law_thing" = some (some (.ref a_l_thing)))
    (L_15 : K.lookup a_l_thing = some ⟨oc15, od15, .func (PySem.W.fnOf "_law_thing" "_law_thing" (defArgs s_l_thing) (defBody s_l_thing) (defScope s_l_thing) .none kV15 dc15 pm15 an15 cd15 ct15), sl15⟩)
    (C_15 : PySem.W.codeIn K cd15 "_law_thing" = true)
    (K_l_thing : PySem.W.keepIn K (.ref a_l_thing) = true)
    (N_16 : PySem.W.nsIn K mainGlobals "own_copy" = some (some (.ref a_own_copy)))
    (L_16 : K.lookup a_own_copy = some ⟨oc16, od16, .func (PySem.W.fnOf "own_copy" "own_copy" (defArgs s_own_copy) (defBody s_own_copy) (defScope s_own_copy) .none kV16 dc16 pm16 an16 cd16 ct16), sl16⟩)
    (C_16 : PySem.W.codeIn K cd16 "own_copy" = true)
    (K_own_copy : PySem.W.keepIn K (.ref a_own_copy) = true)
    (N_17 : PySem.W.nsIn K mainGlobals "fit_for" = some (some (.ref a_fit_for)))
    (L_17 : K.lookup a_fit_for = some ⟨oc17, od17, .func (PySem.W.fnOf "fit_for" "fit_for" (defArgs s_fit_for) (defBody s_fit_for) (defScope s_fit_for) .none kV17 dc17 pm17 an17 cd17 ct17), sl17⟩)
    (C_17 : PySem.W.codeIn K cd17 "fit_for" = true)
    (K_fit_for : PySem.W.keepIn K (.ref a_fit_for) = true)
    (N_18 : PySem.W.nsIn K mainGlobals "is_row" = some (some (.ref a_is_row)))
    (L_18 : K.lookup a_is_row = some ⟨oc18, od18, .func (PySem.W.fnOf "is_row" "is_row" (defArgs s_is_row) (defBody s_is_row) (defScope s_is_row) .none kV18 dc18 pm18 an18 cd18 ct18), sl18⟩)
    (C_18 : PySem.W.codeIn K cd18 "is_row" = true)
    (K_is_row : PySem.W.keepIn K (.ref a_is_row) = true)
    (N_19 : PySem.W.nsIn K mainGlobals "one_kind" = some (some (.ref a_one_kind)))
    (L_19 : K.lookup a_one_kind = some ⟨oc19, od19, .func (PySem.W.fnOf "one_kind" "one_kind" (defArgs s_one_kind) (defBody s_one_kind) (defScope s_one_kind) .none kV19 dc19 pm19 an19 cd19 ct19), sl19⟩)
    (C_19 : PySem.W.codeIn K cd19 "one_kind" = true)
    (K_one_kind : PySem.W.keepIn K (.ref a_one_kind) = true)
    (N_20 : PySem.W.nsIn K mainGlobals "inner_terms" = some (some (.ref a_inner_terms)))
    (L_20 : K.lookup a_inner_terms = some ⟨oc20, od20, .func (PySem.W.fnOf "inner_terms" "inner_terms" (defArgs s_inner_terms) (defBody s_inner_terms) (defScope s_inner_terms) .none kV20 dc20 pm20 an20 cd20 ct20), sl20⟩)
    (C_20 : PySem.W.codeIn K cd20 "inner_terms" = true)
    (K_inner_terms : PySem.W.keepIn K (.ref a_inner_terms) = true)
    (N_21 : PySem.W.nsIn K mainGlobals "is_number" = some (some (.ref a_is_number)))
    (L_21 : K.lookup a_is_number = some ⟨oc21, od21, .func (PySem.W.fnOf "is_number" "is_number" (defArgs s_is_number) (defBody s_is_number) (defScope s_is_number) .none kV21 dc21 pm21 an21 cd21 ct21), sl21⟩)
    (C_21 : PySem.W.codeIn K cd21 "is_number" = true)
    (K_is_number : PySem.W.keepIn K (.ref a_is_number) = true)
    (N_22 : PySem.W.nsIn K mainGlobals "same" = some (some (.ref a_same)))
    (L_22 : K.lookup a_same = some ⟨oc22, od22, .func (PySem.W.fnOf "same" "same" (defArgs s_same) (defBody s_same) (defScope s_same) .none kV22 dc22 pm22 an22 cd22 ct22), sl22⟩)
    (C_22 : PySem.W.codeIn K cd22 "same" = true)
    (K_same : PySem.W.keepIn K (.ref a_same) = true)
    (N_23 : PySem.W.nsIn K mainGlobals "number_said" = some (some (.ref a_number_said)))
    (L_23 : K.lookup a_number_said = some ⟨oc23, od23, .func (PySem.W.fnOf "number_said" "number_said" (defArgs s_number_said) (defBody s_number_said) (defScope s_number_said) .none kV23 dc23 pm23 an23 cd23 ct23), sl23⟩)
    (C_23 : PySem.W.codeIn K cd23 "number_said" = true)
    (K_number_said : PySem.W.keepIn K (.ref a_number_said) = true)
    (N_24 : PySem.W.nsIn K mainGlobals "of_numbers" = some (some (.ref a_of_numbers)))
    (L_24 : K.lookup a_of_numbers = some ⟨oc24, od24, .func (PySem.W.fnOf "of_numbers" "of_numbers" (defArgs s_of_numbers) (defBody s_of_numbers) (defScope s_of_numbers) .none kV24 dc24 pm24 an24 cd24 ct24), sl24⟩)
    (C_24 : PySem.W.codeIn K cd24 "of_numbers" = true)
    (K_of_numbers : PySem.W.keepIn K (.ref a_of_numbers) = true)
    (N_25 : PySem.W.nsIn K mainGlobals "of_a_row" = some (some (.ref a_of_a_row)))
    (L_25 : K.lookup a_of_a_row = some ⟨oc25, od25, .func (PySem.W.fnOf "of_a_row" "of_a_row" (defArgs s_of_a_row) (defBody s_of_a_row) (defScope s_of_a_row) .none kV25 dc25 pm25 an25 cd25 ct25), sl25⟩)
    (C_25 : PySem.W.codeIn K cd25 "of_a_row" = true)
    (K_of_a_row : PySem.W.keepIn K (.ref a_of_a_row) = true)
    (N_26 : PySem.W.nsIn K mainGlobals "joined_said" = some (some (.ref a_joined_said)))
    (L_26 : K.lookup a_joined_said = some ⟨oc26, od26, .func (PySem.W.fnOf "joined_said" "joined_said" (defArgs s_joined_said) (defBody s_joined_said) (defScope s_joined_said) .none kV26 dc26 pm26 an26 cd26 ct26), sl26⟩)
    (C_26 : PySem.W.codeIn K cd26 "joined_said" = true)
    (K_joined_said : PySem.W.keepIn K (.ref a_joined_said) = true)
    (N_27 : PySem.W.nsIn K mainGlobals "truth_said" = some (some (.ref a_truth_said)))
    (L_27 : K.lookup a_truth_said = some ⟨oc27, od27, .func (PySem.W.fnOf "truth_said" "truth_said" (defArgs s_truth_said) (defBody s_truth_said) (defScope s_truth_said) .none kV27 dc27 pm27 an27 cd27 ct27), sl27⟩)
    (C_27 : PySem.W.codeIn K cd27 "truth_said" = true)
    (K_truth_said : PySem.W.keepIn K (.ref a_truth_said) = true)
    (N_28 : PySem.W.nsIn K mainGlobals "row_said" = some (some (.ref a_row_said)))
    (L_28 : K.lookup a_row_said = some ⟨oc28, od28, .func (PySem.W.fnOf "row_said" "row_said" (defArgs s_row_said) (defBody s_row_said) (defScope s_row_said) .none kV28 dc28 pm28 an28 cd28 ct28), sl28⟩)
    (C_28 : PySem.W.codeIn K cd28 "row_said" = true)
    (K_row_said : PySem.W.keepIn K (.ref a_row_said) = true)
    (N_29 : PySem.W.nsIn K mainGlobals "each_said" = some (some (.ref a_each_said)))
    (L_29 : K.lookup a_each_said = some ⟨oc29, od29, .func (PySem.W.fnOf "each_said" "each_said" (defArgs s_each_said) (defBody s_each_said) (defScope s_each_said) .none kV29 dc29 pm29 an29 cd29 ct29), sl29⟩)
    (C_29 : PySem.W.codeIn K cd29 "each_said" = true)
    (K_each_said : PySem.W.keepIn K (.ref a_each_said) = true)
    (N_30 : PySem.W.nsIn K mainGlobals "spoken" = some (some (.ref a_spoken)))
    (L_30 : K.lookup a_spoken = some ⟨oc30, od30, .func (PySem.W.fnOf "spoken" "spoken" (defArgs s_spoken) (defBody s_spoken) (defScope s_spoken) .none kV30 dc30 pm30 an30 cd30 ct30), sl30⟩)
    (C_30 : PySem.W.codeIn K cd30 "spoken" = true)
    (K_spoken : PySem.W.keepIn K (.ref a_spoken) = true)
    (N_31 : PySem.W.nsIn K mainGlobals "said" = some (some (.ref a_said)))
    (L_31 : K.lookup a_said = some ⟨oc31, od31, .func (PySem.W.fnOf "said" "said" (defArgs s_said) (defBody s_said) (defScope s_said) .none kV31 dc31 pm31 an31 cd31 ct31), sl31⟩)
    (C_31 : PySem.W.codeIn K cd31 "said" = true)
    (K_said : PySem.W.keepIn K (.ref a_said) = true)
    (N_32 : PySem.W.nsIn K mainGlobals "_law_told" = some (some (.ref a_l_told)))
    (L_32 : K.lookup a_l_told = some ⟨oc32, od32, .func (PySem.W.fnOf "_law_told" "_law_told" (defArgs s_l_told) (defBody s_l_told) (defScope s_l_told) .none kV32 dc32 pm32 an32 cd32 ct32), sl32⟩)
    (C_32 : PySem.W.codeIn K cd32 "_law_told" = true)
    (K_l_told : PySem.W.keepIn K (.ref a_l_told) = true)
    (N_33 : PySem.W.nsIn K mainGlobals "law" = some (some (.ref a_law)))
    (L_33 : K.lookup a_law = some ⟨oc33, od33, .func (PySem.W.fnOf "law" "law" (defArgs s_law) (defBody s_law) (defScope s_law) .none kV33 dc33 pm33 an33 cd33 ct33), sl33⟩)
    (C_33 : PySem.W.codeIn K cd33 "law" = true)
    (K_law : PySem.W.keepIn K (.ref a_law) = true)
    (Y_ValueError : PySem.W.nsIn K mainGlobals "ValueError" = some none)
    (Y_all : PySem.W.nsIn K mainGlobals "all" = some none)
    (Y_bool : PySem.W.nsIn K mainGlobals "bool" = some none)
    (Y_int : PySem.W.nsIn K mainGlobals "int" = some none)
    (Y_isinstance : PySem.W.nsIn K mainGlobals "isinstance" = some none)
    (Y_len : PySem.W.nsIn K mainGlobals "len" = some none)
    (Y_list : PySem.W.nsIn K mainGlobals "list" = some none)
    (Y_range : PySem.W.nsIn K mainGlobals "range" = some none)
    (Y_repr : PySem.W.nsIn K mainGlobals "repr" = some none)
    (Y_str : PySem.W.nsIn K mainGlobals "str" = some none)
    (Y_sum : PySem.W.nsIn K mainGlobals "sum" = some none)
    (Y_tuple : PySem.W.nsIn K mainGlobals "tuple" = some none)
    (Y_zip : PySem.W.nsIn K mainGlobals "zip" = some none)
    (Cn_ONES : PySem.W.nsIn K mainGlobals "ONES" = some (some (.ref q0_a)))
    (Cl_ONES : K.lookup q0_a = some ⟨.type "tuple", q0_od, .seq #[.str (Str.ofString "count") q0_0, .str (Str.ofString "sum") q0_1, .str (Str.ofString "not") q0_2, .str (Str.ofString "turned") q0_3] q0_n, q0_sl⟩)
    (Cg_CountError : PySem.W.nsIn K mainGlobals "CountError" = some (some (.ref c_CountError)))
    (Ct_CountError : PySem.W.typeIn K (.ref c_CountError) = some (.type "type"))
    (Fga_CountError : PySem.W.specialIn K (.ref c_CountError) "__getattribute__" = some (some (.builtin "type.__getattribute__")))
    (Frd_CountError : PySem.W.readsIn K c_CountError (.type "type") = true)
    (Fvv_CountError : PySem.W.findCls K (.ref c_CountError) (.type "type") "__init__" = some (.val (.builtin "ValueError.__init__")))
    (Cg_Astray : PySem.W.nsIn K mainGlobals "Astray" = some (some (.ref c_Astray)))
    (Ck_Astray : PySem.W.keepIn K (.ref c_Astray) = true)
    (Cb_Astray : PySem.W.subIn K (.ref c_Astray) (.type "BaseException") = some true)
    (Ct_Astray : PySem.W.typeIn K (.ref c_Astray) = some (.type "type"))
    (Cd_Astray : PySem.W.hasDictIn K c_Astray = true)
    (Fl_Astray : K.lookup c_Astray = some (excClassObj nm_Astray q_Astray c_Astray N_Astray bs_Astray bm_Astray true sn_Astray sub_Astray ab_Astray col_Astray dd_Astray k0_Astray k1_Astray k2_Astray k3_Astray k5_Astray "ValueError.__new__"))
    (Fr_Astray : PySem.HandSPX.refsVE bm_Astray = true)
    (Fs_Astray : PySem.W.findIn K (.ref c_Astray) "__setattr__" = some (some (.builtin "object.__setattr__")))
    (Fi_Astray : PySem.W.findIn K (.ref c_Astray) "__init__" = some (some (.ref a_Astray___init__)))
    (Ft_Astray : PySem.W.typeIn K (.ref a_Astray___init__) = some (.type "function"))
    (FL_Astray : K.lookup a_Astray___init__ = some ⟨oc_Astray, od_Astray, .func (PySem.W.fnOf "__init__" "Astray.__init__" (defArgs s_Astray___init__) (defBody s_Astray___init__) (defScope s_Astray___init__) .none kV_Astray dc_Astray pm_Astray an_Astray cd_Astray ct_Astray), sl_Astray⟩)
    (FC_Astray : PySem.W.codeIn K cd_Astray "Astray.__init__" = true)
    (FK_Astray : PySem.W.keepIn K (.ref a_Astray___init__) = true)
    (Fn_Astray_mark : PySem.W.findIn K (.ref c_Astray) "mark" = some none)
    (Ehg_Astray : PySem.W.findIn K (.ref c_Astray) "__getattribute__" = some (some (.builtin "BaseException.__getattribute__")))
    (Ehk_Astray : PySem.W.findIn K (.ref c_Astray) "__getattr__" = some none)
    (Eha_Astray : PySem.W.findIn K (.ref c_Astray) "__class__" = some (some (.builtin "object.__class__")))
    (Ehm_Astray : PySem.W.mroIn K c_Astray (.type "object") = some true)
    (Kt_Astray_CountError : PySem.W.kitOne K (.ref c_Astray) (.ref c_CountError) = some true)
    (Kt_Astray_ValueError : PySem.W.kitOne K (.ref c_Astray) (.type "ValueError") = some true)
    (Kn_CountError : PySem.W.kitOne K (.type "NoneType") (.ref c_CountError) = some false)
    (Kn_ValueError : PySem.W.kitOne K (.type "NoneType") (.type "ValueError") = some false)
    (Ehn : PySem.W.specialIn K (.builtin "object.__class__") "__get__" = some (some (.builtin "getset_descriptor.__get__")))
    (Eht : PySem.W.takesIn K (.builtin "object.__class__") = some true)
    (Cs_Astray_Astray : PySem.W.subIn K (.ref c_Astray) (.ref c_Astray) = some true) :
    ∃ fd : FuncData, (∀ (s : Shared) (v : Value), BindsTo s fd ⟨[v], []⟩ [("_law_script", v)]) ∧ ∀ base : Heap, K.In base → base.Ns mainGlobals mg → FnTop l.prog w K mg base (L2.CX l.prog w) 64 fa fd ["_law_script"] (spL K S_law) := by
  have e := hfa.symm.trans (PySem.W.mg_of X G N_33)
  cases e
  have F_l_alike := fun_mk (st := s_l_alike) L_0 C_0 K_l_alike
  have B_l_alike := F_l_alike.binds (ps := P_l_alike) fun _ _ _ _ _ _ us hl => match us, hl with | [_, _], _ => rfl
  have M_l_alike := PySem.W.mg_of X G N_0
  have F_l_whole := fun_mk (st := s_l_whole) L_1 C_1 K_l_whole
  have B_l_whole := F_l_whole.binds (ps := P_l_whole) fun _ _ _ _ _ _ us hl => match us, hl with | [_], _ => rfl
  have M_l_whole := PySem.W.mg_of X G N_1
  have F_l_can := fun_mk (st := s_l_can) L_2 C_2 K_l_can
  have B_l_can := F_l_can.binds (ps := P_l_can) fun _ _ _ _ _ _ us hl => match us, hl with | [_, _, _, _], _ => rfl
  have M_l_can := PySem.W.mg_of X G N_2
  have F_l_due_of_one := fun_mk (st := s_l_due_of_one) L_3 C_3 K_l_due_of_one
  have B_l_due_of_one := F_l_due_of_one.binds (ps := P_l_due_of_one) fun _ _ _ _ _ _ us hl => match us, hl with | [_, _, _], _ => rfl
  have M_l_due_of_one := PySem.W.mg_of X G N_3
  have F_l_due_of_two := fun_mk (st := s_l_due_of_two) L_4 C_4 K_l_due_of_two
  have B_l_due_of_two := F_l_due_of_two.binds (ps := P_l_due_of_two) fun _ _ _ _ _ _ us hl => match us, hl with | [_, _, _], _ => rfl
  have M_l_due_of_two := PySem.W.mg_of X G N_4
  have F_l_due_each := fun_mk (st := s_l_due_each) L_5 C_5 K_l_due_each
  have B_l_due_each := F_l_due_each.binds (ps := P_l_due_each) fun _ _ _ _ _ _ us hl => match us, hl with | [_, _], _ => rfl
  have M_l_due_each := PySem.W.mg_of X G N_5
  have F_l_asked := fun_mk (st := s_l_asked) L_6 C_6 K_l_asked
  have B_l_asked := F_l_asked.binds (ps := P_l_asked) fun _ _ _ _ _ _ us hl => match us, hl with | [_, _, _, _, _], _ => rfl
  have M_l_asked := PySem.W.mg_of X G N_6
  have F_l_due := fun_mk (st := s_l_due) L_7 C_7 K_l_due
  have B_l_due := F_l_due.binds (ps := P_l_due) fun _ _ _ _ _ _ us hl => match us, hl with | [_, _], _ => rfl
  have M_l_due := PySem.W.mg_of X G N_7
  have F_l_lists := fun_mk (st := s_l_lists) L_8 C_8 K_l_lists
  have B_l_lists := F_l_lists.binds (ps := P_l_lists) fun _ _ _ _ _ _ us hl => match us, hl with | [_], _ => rfl
  have M_l_lists := PySem.W.mg_of X G N_8
  have F_l_own := fun_mk (st := s_l_own) L_9 C_9 K_l_own
  have B_l_own := F_l_own.binds (ps := P_l_own) fun _ _ _ _ _ _ us hl => match us, hl with | [_], _ => rfl
  have M_l_own := PySem.W.mg_of X G N_9
  have F_l_take := fun_mk (st := s_l_take) L_10 C_10 K_l_take
  have B_l_take := F_l_take.binds (ps := P_l_take) fun _ _ _ _ _ _ us hl => match us, hl with | [_, _], _ => rfl
  have M_l_take := PySem.W.mg_of X G N_10
  have F_l_truth_term := fun_mk (st := s_l_truth_term) L_11 C_11 K_l_truth_term
  have B_l_truth_term := F_l_truth_term.binds (ps := P_l_truth_term) fun _ _ _ _ _ _ us hl => match us, hl with | [_, _, _], _ => rfl
  have M_l_truth_term := PySem.W.mg_of X G N_11
  have F_l_row_term := fun_mk (st := s_l_row_term) L_12 C_12 K_l_row_term
  have B_l_row_term := F_l_row_term.binds (ps := P_l_row_term) fun _ _ _ _ _ _ us hl => match us, hl with | [_, _, _], _ => rfl
  have M_l_row_term := PySem.W.mg_of X G N_12
  have F_l_number_term := fun_mk (st := s_l_number_term) L_13 C_13 K_l_number_term
  have B_l_number_term := F_l_number_term.binds (ps := P_l_number_term) fun _ _ _ _ _ _ us hl => match us, hl with | [_, _, _], _ => rfl
  have M_l_number_term := PySem.W.mg_of X G N_13
  have F_l_term := fun_mk (st := s_l_term) L_14 C_14 K_l_term
  have B_l_term := F_l_term.binds (ps := P_l_term) fun _ _ _ _ _ _ us hl => match us, hl with | [_, _, _], _ => rfl
  have M_l_term := PySem.W.mg_of X G N_14
  have F_l_thing := fun_mk (st := s_l_thing) L_15 C_15 K_l_thing
  have B_l_thing := F_l_thing.binds (ps := P_l_thing) fun _ _ _ _ _ _ us hl => match us, hl with | [_, _], _ => rfl
  have M_l_thing := PySem.W.mg_of X G N_15
  have F_own_copy := fun_mk (st := s_own_copy) L_16 C_16 K_own_copy
  have B_own_copy := F_own_copy.binds (ps := P_own_copy) fun _ _ _ _ _ _ us hl => match us, hl with | [_], _ => rfl
  have M_own_copy := PySem.W.mg_of X G N_16
  have F_fit_for := fun_mk (st := s_fit_for) L_17 C_17 K_fit_for
  have B_fit_for := F_fit_for.binds (ps := P_fit_for) fun _ _ _ _ _ _ us hl => match us, hl with | [_, _, _], _ => rfl
  have M_fit_for := PySem.W.mg_of X G N_17
  have F_is_row := fun_mk (st := s_is_row) L_18 C_18 K_is_row
  have B_is_row := F_is_row.binds (ps := P_is_row) fun _ _ _ _ _ _ us hl => match us, hl with | [_], _ => rfl
  have M_is_row := PySem.W.mg_of X G N_18
  have F_one_kind := fun_mk (st := s_one_kind) L_19 C_19 K_one_kind
  have B_one_kind := F_one_kind.binds (ps := P_one_kind) fun _ _ _ _ _ _ us hl => match us, hl with | [_, _], _ => rfl
  have M_one_kind := PySem.W.mg_of X G N_19
  have F_inner_terms := fun_mk (st := s_inner_terms) L_20 C_20 K_inner_terms
  have B_inner_terms := F_inner_terms.binds (ps := P_inner_terms) fun _ _ _ _ _ _ us hl => match us, hl with | [_], _ => rfl
  have M_inner_terms := PySem.W.mg_of X G N_20
  have F_is_number := fun_mk (st := s_is_number) L_21 C_21 K_is_number
  have B_is_number := F_is_number.binds (ps := P_is_number) fun _ _ _ _ _ _ us hl => match us, hl with | [_], _ => rfl
  have M_is_number := PySem.W.mg_of X G N_21
  have F_same := fun_mk (st := s_same) L_22 C_22 K_same
  have B_same := F_same.binds (ps := P_same) fun _ _ _ _ _ _ us hl => match us, hl with | [_, _], _ => rfl
  have M_same := PySem.W.mg_of X G N_22
  have F_number_said := fun_mk (st := s_number_said) L_23 C_23 K_number_said
  have B_number_said := F_number_said.binds (ps := P_number_said) fun _ _ _ _ _ _ us hl => match us, hl with | [_, _, _], _ => rfl
  have M_number_said := PySem.W.mg_of X G N_23
  have F_of_numbers := fun_mk (st := s_of_numbers) L_24 C_24 K_of_numbers
  have B_of_numbers := F_of_numbers.binds (ps := P_of_numbers) fun _ _ _ _ _ _ us hl => match us, hl with | [_, _], _ => rfl
  have M_of_numbers := PySem.W.mg_of X G N_24
  have F_of_a_row := fun_mk (st := s_of_a_row) L_25 C_25 K_of_a_row
  have B_of_a_row := F_of_a_row.binds (ps := P_of_a_row) fun _ _ _ _ _ _ us hl => match us, hl with | [_, _], _ => rfl
  have M_of_a_row := PySem.W.mg_of X G N_25
  have F_joined_said := fun_mk (st := s_joined_said) L_26 C_26 K_joined_said
  have B_joined_said := F_joined_said.binds (ps := P_joined_said) fun _ _ _ _ _ _ us hl => match us, hl with | [_, _], _ => rfl
  have M_joined_said := PySem.W.mg_of X G N_26
  have F_truth_said := fun_mk (st := s_truth_said) L_27 C_27 K_truth_said
  have B_truth_said := F_truth_said.binds (ps := P_truth_said) fun _ _ _ _ _ _ us hl => match us, hl with | [_, _, _], _ => rfl
  have M_truth_said := PySem.W.mg_of X G N_27
  have F_row_said := fun_mk (st := s_row_said) L_28 C_28 K_row_said
  have B_row_said := F_row_said.binds (ps := P_row_said) fun _ _ _ _ _ _ us hl => match us, hl with | [_, _, _], _ => rfl
  have M_row_said := PySem.W.mg_of X G N_28
  have F_each_said := fun_mk (st := s_each_said) L_29 C_29 K_each_said
  have B_each_said := F_each_said.binds (ps := P_each_said) fun _ _ _ _ _ _ us hl => match us, hl with | [_, _], _ => rfl
  have M_each_said := PySem.W.mg_of X G N_29
  have F_spoken := fun_mk (st := s_spoken) L_30 C_30 K_spoken
  have B_spoken := F_spoken.binds (ps := P_spoken) fun _ _ _ _ _ _ us hl => match us, hl with | [_, _], _ => rfl
  have M_spoken := PySem.W.mg_of X G N_30
  have F_said := fun_mk (st := s_said) L_31 C_31 K_said
  have B_said := F_said.binds (ps := P_said) fun _ _ _ _ _ _ us hl => match us, hl with | [_, _], _ => rfl
  have M_said := PySem.W.mg_of X G N_31
  have F_l_told := fun_mk (st := s_l_told) L_32 C_32 K_l_told
  have B_l_told := F_l_told.binds (ps := P_l_told) fun _ _ _ _ _ _ us hl => match us, hl with | [_, _], _ => rfl
  have M_l_told := PySem.W.mg_of X G N_32
  have F_law := fun_mk (st := s_law) L_33 C_33 K_law
  have B_law := F_law.binds (ps := P_law) fun _ _ _ _ _ _ us hl => match us, hl with | [_], _ => rfl
  have M_law := PySem.W.mg_of X G N_33
  have Z_ValueError := PySem.W.mg_none_of X G Y_ValueError
  have Z_all := PySem.W.mg_none_of X G Y_all
  have Z_bool := PySem.W.mg_none_of X G Y_bool
  have Z_int := PySem.W.mg_none_of X G Y_int
  have Z_isinstance := PySem.W.mg_none_of X G Y_isinstance
  have Z_len := PySem.W.mg_none_of X G Y_len
  have Z_list := PySem.W.mg_none_of X G Y_list
  have Z_range := PySem.W.mg_none_of X G Y_range
  have Z_repr := PySem.W.mg_none_of X G Y_repr
  have Z_str := PySem.W.mg_none_of X G Y_str
  have Z_sum := PySem.W.mg_none_of X G Y_sum
  have Z_tuple := PySem.W.mg_none_of X G Y_tuple
  have Z_zip := PySem.W.mg_none_of X G Y_zip
  have CN_ONES : KC K mg "ONES" (.tup (List.map D.str [(Str.ofString "count"), (Str.ofString "sum"), (Str.ofString "not"), (Str.ofString "turned")])) := kc_tup (PySem.W.mg_of X G Cn_ONES) Cl_ONES rfl rfl (by change 4 ≤ sizeLine; decide) (.cons ⟨_, rfl⟩ (.cons ⟨_, rfl⟩ (.cons ⟨_, rfl⟩ (.cons ⟨_, rfl⟩ (.nil)))))
  have OX_Astray : OexC K ((ctOf c_CountError c_Astray) "Astray") := ⟨⟨_, _, _, _, _, _, _, _, _, _, _, _, _, _, _, Fl_Astray, Fr_Astray⟩, Fs_Astray, Cb_Astray, Ct_Astray, Ck_Astray⟩
  have FF_Astray := fun_mk (st := s_Astray___init__) FL_Astray FC_Astray FK_Astray
  have BI_Astray := FF_Astray.binds (ps := PI_Astray) fun _ _ _ _ _ _ us hl => match us, hl with | [_, _, _], _ => rfl
  have XD_mark : XFd K (ctOf c_CountError c_Astray) "mark" xf_mark := by
    intro s hs
    simp only [xf_mark, Bool.or_eq_true, beq_iff_eq] at hs
    subst hs; exact ⟨⟨Ehg_Astray, Ehk_Astray, Cb_Astray, Cd_Astray⟩, Fn_Astray_mark⟩
  have XT_Astray : XT K (ctOf c_CountError c_Astray) ((ctOf c_CountError c_Astray) "Astray") xt_Astray := by
    intro s b hs
    unfold xt_Astray at hs
    split at hs
    · rename_i e; subst e; cases hs; exact xt_sub Cb_Astray Cd_Astray Ct_Astray Cs_Astray_Astray
    exact nomatch hs
  have EI_CountError : EI K (ctOf c_CountError c_Astray) tb_CountError (.ref ((ctOf c_CountError c_Astray) "CountError")) := by
    refine ⟨Kn_CountError, fun s b hs => ?_⟩
    unfold tb_CountError at hs
    split at hs
    · rename_i e; subst e; cases hs; exact ⟨⟨Ehg_Astray, Ehk_Astray, Cb_Astray, Cd_Astray, Eha_Astray, Ehn, Eht, Ehm_Astray⟩, Kt_Astray_CountError⟩
    exact nomatch hs
  have EI_ValueError : EI K (ctOf c_CountError c_Astray) tb_ValueError (.type "ValueError") := by
    refine ⟨Kn_ValueError, fun s b hs => ?_⟩
    unfold tb_ValueError at hs
    split at hs
    · rename_i e; subst e; cases hs; exact ⟨⟨Ehg_Astray, Ehk_Astray, Cb_Astray, Cd_Astray, Eha_Astray, Ehn, Eht, Ehm_Astray⟩, Kt_Astray_ValueError⟩
    exact nomatch hs
  refine ⟨PySem.W.fnOf "law" "law" (defArgs s_law) (defBody s_law) (defScope s_law) .none kV33 dc33 pm33 an33 cd33 ct33, fun s v => .of_eq rfl, fun base _ _ => ?_⟩
  have Q_l_alike : ∀ n : Nat, FnOk l.prog w K mg base (L2.CX l.prog w) (0 + n) a_l_alike (PySem.W.fnOf "_law_alike" "_law_alike" (defArgs s_l_alike) (defBody s_l_alike) (defScope s_l_alike) .none kV0 dc0 pm0 an0 cd0 ct0) P_l_alike (spG K (ctOf c_CountError c_Astray) 2 (S_l_alike n)) := by
    intro n
    induction n with
    | zero => exact (fn_zero (ps := P_l_alike)).mono (Nat.zero_le _)
    | succ n ih =>
      have G_l_alike := ih
      exact ok_l_alike (P := l.prog) (w := w) (mg := mg) (base := base) (ct := (ctOf c_CountError c_Astray)) F_l_alike (Nat.le_add_right _ _) G_l_alike M_l_alike K_l_alike B_l_alike Z_all Z_bool Z_isinstance Z_len Z_list Z_tuple Z_zip
  have G_l_alike := Q_l_alike 30
  have G_l_whole := ok_l_whole (P := l.prog) (w := w) (mg := mg) (base := base) (ct := (ctOf c_CountError c_Astray)) F_l_whole Z_bool Z_int Z_isinstance
  have G_l_can := ok_l_can (P := l.prog) (w := w) (mg := mg) (base := base) (ct := (ctOf c_CountError c_Astray)) F_l_can G_l_whole M_l_whole K_l_whole B_l_whole Z_all Z_bool Z_isinstance Z_list Z_str Z_tuple
  have G_l_due_of_one := ok_l_due_of_one (P := l.prog) (w := w) (mg := mg) (base := base) (ct := (ctOf c_CountError c_Astray)) F_l_due_of_one Z_len Z_sum
  have G_l_due_of_two := ok_l_due_of_two (P := l.prog) (w := w) (mg := mg) (base := base) (ct := (ctOf c_CountError c_Astray)) F_l_due_of_two G_l_alike M_l_alike K_l_alike B_l_alike
  have Q_l_asked : ∀ n : Nat, FnOk l.prog w K mg base (L2.CX l.prog w) (31 + n) a_l_asked (PySem.W.fnOf "_law_asked" "_law_asked" (defArgs s_l_asked) (defBody s_l_asked) (defScope s_l_asked) .none kV6 dc6 pm6 an6 cd6 ct6) P_l_asked (spG K (ctOf c_CountError c_Astray) 5 (S_l_asked n)) ∧ FnOk l.prog w K mg base (L2.CX l.prog w) (31 + n) a_l_due (PySem.W.fnOf "_law_due" "_law_due" (defArgs s_l_due) (defBody s_l_due) (defScope s_l_due) .none kV7 dc7 pm7 an7 cd7 ct7) P_l_due (spG K (ctOf c_CountError c_Astray) 2 (S_l_due n)) ∧ FnOk l.prog w K mg base (L2.CX l.prog w) (31 + n) a_l_due_each (PySem.W.fnOf "_law_due_each" "_law_due_each" (defArgs s_l_due_each) (defBody s_l_due_each) (defScope s_l_due_each) .none kV5 dc5 pm5 an5 cd5 ct5) P_l_due_each (spG K (ctOf c_CountError c_Astray) 2 (S_l_due_each n)) := by
    intro n
    induction n with
    | zero => exact ⟨(fn_zero (ps := P_l_asked)).mono (Nat.zero_le _), (fn_zero (ps := P_l_due)).mono (Nat.zero_le _), (fn_zero (ps := P_l_due_each)).mono (Nat.zero_le _)⟩
    | succ n ih =>
      obtain ⟨G_l_asked, G_l_due, G_l_due_each⟩ := ih
      exact ⟨ok_l_asked (P := l.prog) (w := w) (mg := mg) (base := base) (ct := (ctOf c_CountError c_Astray)) F_l_asked (Nat.le_add_right _ _) G_l_can M_l_can K_l_can B_l_can G_l_due M_l_due K_l_due B_l_due, ok_l_due (P := l.prog) (w := w) (mg := mg) (base := base) (ct := (ctOf c_CountError c_Astray)) F_l_due (Nat.le_add_right _ _) G_l_asked M_l_asked K_l_asked B_l_asked G_l_due_each M_l_due_each K_l_due_each B_l_due_each G_l_due_of_one M_l_due_of_one K_l_due_of_one B_l_due_of_one G_l_due_of_two M_l_due_of_two K_l_due_of_two B_l_due_of_two Z_int, ok_l_due_each (P := l.prog) (w := w) (mg := mg) (base := base) (ct := (ctOf c_CountError c_Astray)) F_l_due_each (Nat.le_add_right _ _) G_l_asked M_l_asked K_l_asked B_l_asked⟩
  obtain ⟨G_l_asked, G_l_due, G_l_due_each⟩ := Q_l_asked 30
  have Q_l_lists : ∀ n : Nat, FnOk l.prog w K mg base (L2.CX l.prog w) (0 + n) a_l_lists (PySem.W.fnOf "_law_lists" "_law_lists" (defArgs s_l_lists) (defBody s_l_lists) (defScope s_l_lists) .none kV8 dc8 pm8 an8 cd8 ct8) P_l_lists (spG K (ctOf c_CountError c_Astray) 1 (S_l_lists n)) := by
    intro n
    induction n with
    | zero => exact (fn_zero (ps := P_l_lists)).mono (Nat.zero_le _)
    | succ n ih =>
      have G_l_lists := ih
      exact ok_l_lists (P := l.prog) (w := w) (mg := mg) (base := base) (ct := (ctOf c_CountError c_Astray)) F_l_lists (Nat.le_add_right _ _) G_l_lists M_l_lists K_l_lists B_l_lists Z_isinstance Z_list Z_tuple
  have G_l_lists := Q_l_lists 30
  have G_l_own := ok_l_own (P := l.prog) (w := w) (mg := mg) (base := base) (ct := (ctOf c_CountError c_Astray)) F_l_own G_l_lists M_l_lists K_l_lists B_l_lists Z_len
  have G_l_take := ok_l_take (P := l.prog) (w := w) (mg := mg) (base := base) (ct := (ctOf c_CountError c_Astray)) F_l_take
  have Q_l_number_term : ∀ n : Nat, FnOk l.prog w K mg base (L2.CX l.prog w) (1 + n) a_l_number_term (PySem.W.fnOf "_law_number_term" "_law_number_term" (defArgs s_l_number_term) (defBody s_l_number_term) (defScope s_l_number_term) .none kV13 dc13 pm13 an13 cd13 ct13) P_l_number_term (spG K (ctOf c_CountError c_Astray) 3 (S_l_number_term n)) ∧ FnOk l.prog w K mg base (L2.CX l.prog w) (1 + n) a_l_row_term (PySem.W.fnOf "_law_row_term" "_law_row_term" (defArgs s_l_row_term) (defBody s_l_row_term) (defScope s_l_row_term) .none kV12 dc12 pm12 an12 cd12 ct12) P_l_row_term (spG K (ctOf c_CountError c_Astray) 3 (S_l_row_term n)) ∧ FnOk l.prog w K mg base (L2.CX l.prog w) (1 + n) a_l_term (PySem.W.fnOf "_law_term" "_law_term" (defArgs s_l_term) (defBody s_l_term) (defScope s_l_term) .none kV14 dc14 pm14 an14 cd14 ct14) P_l_term (spG K (ctOf c_CountError c_Astray) 3 (S_l_term n)) ∧ FnOk l.prog w K mg base (L2.CX l.prog w) (1 + n) a_l_truth_term (PySem.W.fnOf "_law_truth_term" "_law_truth_term" (defArgs s_l_truth_term) (defBody s_l_truth_term) (defScope s_l_truth_term) .none kV11 dc11 pm11 an11 cd11 ct11) P_l_truth_term (spG K (ctOf c_CountError c_Astray) 3 (S_l_truth_term n)) := by
    intro n
    induction n with
    | zero => exact ⟨(fn_zero (ps := P_l_number_term)).mono (Nat.zero_le _), (fn_zero (ps := P_l_row_term)).mono (Nat.zero_le _), (fn_zero (ps := P_l_term)).mono (Nat.zero_le _), (fn_zero (ps := P_l_truth_term)).mono (Nat.zero_le _)⟩
    | succ n ih =>
      obtain ⟨G_l_number_term, G_l_row_term, G_l_term, G_l_truth_term⟩ := ih
      exact ⟨ok_l_number_term (P := l.prog) (w := w) (mg := mg) (base := base) (ct := (ctOf c_CountError c_Astray)) F_l_number_term (Nat.le_add_right _ _) G_l_term M_l_term K_l_term B_l_term, ok_l_row_term (P := l.prog) (w := w) (mg := mg) (base := base) (ct := (ctOf c_CountError c_Astray)) F_l_row_term (Nat.le_add_right _ _) G_l_term M_l_term K_l_term B_l_term, ok_l_term (P := l.prog) (w := w) (mg := mg) (base := base) (ct := (ctOf c_CountError c_Astray)) F_l_term (Nat.le_add_right _ _) G_l_number_term M_l_number_term K_l_number_term B_l_number_term G_l_row_term M_l_row_term K_l_row_term B_l_row_term G_l_take M_l_take K_l_take B_l_take G_l_term M_l_term K_l_term B_l_term G_l_truth_term M_l_truth_term K_l_truth_term B_l_truth_term Z_range Z_tuple, ok_l_truth_term (P := l.prog) (w := w) (mg := mg) (base := base) (ct := (ctOf c_CountError c_Astray)) F_l_truth_term (Nat.le_add_right _ _) G_l_term M_l_term K_l_term B_l_term⟩
  obtain ⟨G_l_number_term, G_l_row_term, G_l_term, G_l_truth_term⟩ := Q_l_number_term 30
  have Q_l_thing : ∀ n : Nat, FnOk l.prog w K mg base (L2.CX l.prog w) (1 + n) a_l_thing (PySem.W.fnOf "_law_thing" "_law_thing" (defArgs s_l_thing) (defBody s_l_thing) (defScope s_l_thing) .none kV15 dc15 pm15 an15 cd15 ct15) P_l_thing (spG K (ctOf c_CountError c_Astray) 2 (S_l_thing n)) := by
    intro n
    induction n with
    | zero => exact (fn_zero (ps := P_l_thing)).mono (Nat.zero_le _)
    | succ n ih =>
      have G_l_thing := ih
      exact ok_l_thing (P := l.prog) (w := w) (mg := mg) (base := base) (ct := (ctOf c_CountError c_Astray)) F_l_thing (Nat.le_add_right _ _) G_l_take M_l_take K_l_take B_l_take G_l_thing M_l_thing K_l_thing B_l_thing Z_range Z_tuple
  have G_l_thing := Q_l_thing 30
  have Q_own_copy : ∀ n : Nat, FnOk l.prog w K mg base (L2.CX l.prog w) (0 + n) a_own_copy (PySem.W.fnOf "own_copy" "own_copy" (defArgs s_own_copy) (defBody s_own_copy) (defScope s_own_copy) .none kV16 dc16 pm16 an16 cd16 ct16) P_own_copy (spG K (ctOf c_CountError c_Astray) 1 (S_own_copy n)) := by
    intro n
    induction n with
    | zero => exact (fn_zero (ps := P_own_copy)).mono (Nat.zero_le _)
    | succ n ih =>
      have G_own_copy := ih
      exact ok_own_copy (P := l.prog) (w := w) (mg := mg) (base := base) (ct := (ctOf c_CountError c_Astray)) F_own_copy (Nat.le_add_right _ _) G_own_copy M_own_copy K_own_copy B_own_copy Z_isinstance Z_list Z_tuple
  have G_own_copy := Q_own_copy 30
  have G_fit_for := ok_fit_for (P := l.prog) (w := w) (mg := mg) (base := base) (ct := (ctOf c_CountError c_Astray)) F_fit_for OX_Astray Fi_Astray Ft_Astray (ok_Astray___init__ (P := l.prog) (w := w) (mg := mg) (base := base) (C := (ctOf c_CountError c_Astray) "Astray") FF_Astray (PySem.W.mg_of X G Cg_CountError) Fga_CountError Ct_CountError Frd_CountError Fvv_CountError Fn_Astray_mark) BI_Astray (PySem.W.mg_of X G Cg_Astray)
  have G_is_row := ok_is_row (P := l.prog) (w := w) (mg := mg) (base := base) (ct := (ctOf c_CountError c_Astray)) F_is_row Z_isinstance Z_list Z_tuple
  have G_one_kind := ok_one_kind (P := l.prog) (w := w) (mg := mg) (base := base) (ct := (ctOf c_CountError c_Astray)) F_one_kind Z_bool Z_int Z_isinstance Z_list Z_str Z_tuple
  have G_inner_terms := ok_inner_terms (P := l.prog) (w := w) (mg := mg) (base := base) (ct := (ctOf c_CountError c_Astray)) F_inner_terms Z_list CN_ONES
  have G_is_number := ok_is_number (P := l.prog) (w := w) (mg := mg) (base := base) (ct := (ctOf c_CountError c_Astray)) F_is_number Z_bool Z_int Z_isinstance
  have Q_same : ∀ n : Nat, FnOk l.prog w K mg base (L2.CX l.prog w) (1 + n) a_same (PySem.W.fnOf "same" "same" (defArgs s_same) (defBody s_same) (defScope s_same) .none kV22 dc22 pm22 an22 cd22 ct22) P_same (spG K (ctOf c_CountError c_Astray) 2 (S_same n)) := by
    intro n
    induction n with
    | zero => exact (fn_zero (ps := P_same)).mono (Nat.zero_le _)
    | succ n ih =>
      have G_same := ih
      exact ok_same (P := l.prog) (w := w) (mg := mg) (base := base) (ct := (ctOf c_CountError c_Astray)) F_same (Nat.le_add_right _ _) G_is_row M_is_row K_is_row B_is_row G_one_kind M_one_kind K_one_kind B_one_kind G_same M_same K_same B_same Z_all Z_len Z_zip
  have G_same := Q_same 30
  have Q_each_said : ∀ n : Nat, FnOk l.prog w K mg base (L2.CX l.prog w) (31 + n) a_each_said (PySem.W.fnOf "each_said" "each_said" (defArgs s_each_said) (defBody s_each_said) (defScope s_each_said) .none kV29 dc29 pm29 an29 cd29 ct29) P_each_said (spG K (ctOf c_CountError c_Astray) 2 (S_each_said n)) ∧ FnOk l.prog w K mg base (L2.CX l.prog w) (31 + n) a_joined_said (PySem.W.fnOf "joined_said" "joined_said" (defArgs s_joined_said) (defBody s_joined_said) (defScope s_joined_said) .none kV26 dc26 pm26 an26 cd26 ct26) P_joined_said (spG K (ctOf c_CountError c_Astray) 2 (S_joined_said n)) ∧ FnOk l.prog w K mg base (L2.CX l.prog w) (31 + n) a_number_said (PySem.W.fnOf "number_said" "number_said" (defArgs s_number_said) (defBody s_number_said) (defScope s_number_said) .none kV23 dc23 pm23 an23 cd23 ct23) P_number_said (spG K (ctOf c_CountError c_Astray) 3 (S_number_said n)) ∧ FnOk l.prog w K mg base (L2.CX l.prog w) (31 + n) a_of_a_row (PySem.W.fnOf "of_a_row" "of_a_row" (defArgs s_of_a_row) (defBody s_of_a_row) (defScope s_of_a_row) .none kV25 dc25 pm25 an25 cd25 ct25) P_of_a_row (spG K (ctOf c_CountError c_Astray) 2 (S_of_a_row n)) ∧ FnOk l.prog w K mg base (L2.CX l.prog w) (31 + n) a_of_numbers (PySem.W.fnOf "of_numbers" "of_numbers" (defArgs s_of_numbers) (defBody s_of_numbers) (defScope s_of_numbers) .none kV24 dc24 pm24 an24 cd24 ct24) P_of_numbers (spG K (ctOf c_CountError c_Astray) 2 (S_of_numbers n)) ∧ FnOk l.prog w K mg base (L2.CX l.prog w) (31 + n) a_row_said (PySem.W.fnOf "row_said" "row_said" (defArgs s_row_said) (defBody s_row_said) (defScope s_row_said) .none kV28 dc28 pm28 an28 cd28 ct28) P_row_said (spG K (ctOf c_CountError c_Astray) 3 (S_row_said n)) ∧ FnOk l.prog w K mg base (L2.CX l.prog w) (31 + n) a_spoken (PySem.W.fnOf "spoken" "spoken" (defArgs s_spoken) (defBody s_spoken) (defScope s_spoken) .none kV30 dc30 pm30 an30 cd30 ct30) P_spoken (spG K (ctOf c_CountError c_Astray) 2 (S_spoken n)) ∧ FnOk l.prog w K mg base (L2.CX l.prog w) (31 + n) a_truth_said (PySem.W.fnOf "truth_said" "truth_said" (defArgs s_truth_said) (defBody s_truth_said) (defScope s_truth_said) .none kV27 dc27 pm27 an27 cd27 ct27) P_truth_said (spG K (ctOf c_CountError c_Astray) 3 (S_truth_said n)) := by
    intro n
    induction n with
    | zero => exact ⟨(fn_zero (ps := P_each_said)).mono (Nat.zero_le _), (fn_zero (ps := P_joined_said)).mono (Nat.zero_le _), (fn_zero (ps := P_number_said)).mono (Nat.zero_le _), (fn_zero (ps := P_of_a_row)).mono (Nat.zero_le _), (fn_zero (ps := P_of_numbers)).mono (Nat.zero_le _), (fn_zero (ps := P_row_said)).mono (Nat.zero_le _), (fn_zero (ps := P_spoken)).mono (Nat.zero_le _), (fn_zero (ps := P_truth_said)).mono (Nat.zero_le _)⟩
    | succ n ih =>
      obtain ⟨G_each_said, G_joined_said, G_number_said, G_of_a_row, G_of_numbers, G_row_said, G_spoken, G_truth_said⟩ := ih
      exact ⟨ok_each_said (P := l.prog) (w := w) (mg := mg) (base := base) (ct := (ctOf c_CountError c_Astray)) F_each_said (Nat.le_add_right _ _) G_row_said M_row_said K_row_said B_row_said G_truth_said M_truth_said K_truth_said B_truth_said, ok_joined_said (P := l.prog) (w := w) (mg := mg) (base := base) (ct := (ctOf c_CountError c_Astray)) F_joined_said (Nat.le_add_right _ _) G_fit_for M_fit_for K_fit_for B_fit_for G_one_kind M_one_kind K_one_kind B_one_kind G_spoken M_spoken K_spoken B_spoken Z_isinstance Z_list Z_str, ok_number_said (P := l.prog) (w := w) (mg := mg) (base := base) (ct := (ctOf c_CountError c_Astray)) F_number_said (Nat.le_add_right _ _) G_fit_for M_fit_for K_fit_for B_fit_for G_is_number M_is_number K_is_number B_is_number G_spoken M_spoken K_spoken B_spoken, ok_of_a_row (P := l.prog) (w := w) (mg := mg) (base := base) (ct := (ctOf c_CountError c_Astray)) F_of_a_row (Nat.le_add_right _ _) G_fit_for M_fit_for K_fit_for B_fit_for G_inner_terms M_inner_terms K_inner_terms B_inner_terms G_is_number M_is_number K_is_number B_is_number G_is_row M_is_row K_is_row B_is_row G_spoken M_spoken K_spoken B_spoken Z_all Z_isinstance Z_len Z_str Z_sum, ok_of_numbers (P := l.prog) (w := w) (mg := mg) (base := base) (ct := (ctOf c_CountError c_Astray)) F_of_numbers (Nat.le_add_right _ _) G_number_said M_number_said K_number_said B_number_said, ok_row_said (P := l.prog) (w := w) (mg := mg) (base := base) (ct := (ctOf c_CountError c_Astray)) F_row_said (Nat.le_add_right _ _) G_fit_for M_fit_for K_fit_for B_fit_for G_is_row M_is_row K_is_row B_is_row G_spoken M_spoken K_spoken B_spoken, ok_spoken (P := l.prog) (w := w) (mg := mg) (base := base) (ct := (ctOf c_CountError c_Astray)) F_spoken (Nat.le_add_right _ _) G_each_said M_each_said K_each_said B_each_said G_joined_said M_joined_said K_joined_said B_joined_said G_of_a_row M_of_a_row K_of_a_row B_of_a_row G_of_numbers M_of_numbers K_of_numbers B_of_numbers G_same M_same K_same B_same G_spoken M_spoken K_spoken B_spoken G_truth_said M_truth_said K_truth_said B_truth_said, ok_truth_said (P := l.prog) (w := w) (mg := mg) (base := base) (ct := (ctOf c_CountError c_Astray)) F_truth_said (Nat.le_add_right _ _) G_fit_for M_fit_for K_fit_for B_fit_for G_spoken M_spoken K_spoken B_spoken Z_bool Z_isinstance⟩
  obtain ⟨G_each_said, G_joined_said, G_number_said, G_of_a_row, G_of_numbers, G_row_said, G_spoken, G_truth_said⟩ := Q_each_said 30
  have G_said := ok_said (P := l.prog) (w := w) (mg := mg) (base := base) (ct := (ctOf c_CountError c_Astray)) F_said G_own_copy M_own_copy K_own_copy B_own_copy G_spoken M_spoken K_spoken B_spoken
  have G_l_told := ok_l_told (P := l.prog) (w := w) (mg := mg) (base := base) (ct := (ctOf c_CountError c_Astray)) F_l_told G_said M_said K_said B_said Z_ValueError Z_isinstance (PySem.W.mg_of X G Cg_Astray) (PySem.W.mg_of X G Cg_CountError) XD_mark EI_CountError EI_ValueError XT_Astray
  have G_law := ok_law (P := l.prog) (w := w) (mg := mg) (base := base) (ct := (ctOf c_CountError c_Astray)) F_law G_l_alike M_l_alike K_l_alike B_l_alike G_l_due M_l_due K_l_due B_l_due G_l_own M_l_own K_l_own B_l_own G_l_take M_l_take K_l_take B_l_take G_l_term M_l_term K_l_term B_l_term G_l_thing M_l_thing K_l_thing B_l_thing G_l_told M_l_told K_l_told B_l_told Z_list Z_range Z_repr
  exact fn_lawT G_law
end Law

/-! GTx: texts as lists of signs. -/
namespace Law
open PySem L2 Gs
/-- the text of these signs -/
def St (l : List Nat) : Str := ⟨l.toArray⟩
@[simp] theorem St_tl (l : List Nat) : (St l).cps.toList = l := id rfl
theorem tl_St (x : Str) : St x.cps.toList = x := TL.mk_tl x
theorem St_eq {a b : List Nat} : (St a = St b) = (a = b) := by
  refine propext ⟨fun h => ?_, fun h => by rw [h]⟩
  have := congrArg (fun x : Str => x.cps.toList) h
  simpa using this
@[simp] theorem St_len (l : List Nat) : (St l).length = l.length := by simp [St, Str.length]
@[simp] theorem St_cat (a b : List Nat) : St a ++ St b = St (a ++ b) := TL.ext_tl (TL.tl_append (St a) (St b))
theorem of_St {x : Str} {l : List Nat} (h : x.cps.toList = l) : x = St l := by rw [← h, tl_St]
@[simp] theorem c_nil : Str.ofString "" = St [] := of_St (by decide +kernel)
@[simp] theorem c_opn : Str.ofString "(" = St [40] := of_St (by decide +kernel)
@[simp] theorem c_cls : Str.ofString ")" = St [41] := of_St (by decide +kernel)
@[simp] theorem c_com : Str.ofString "," = St [44] := of_St (by decide +kernel)
@[simp] theorem c_col : Str.ofString ":" = St [58] := of_St (by decide +kernel)
@[simp] theorem c_stop : Str.ofString "()," = St [40, 41, 44] := of_St (by decide +kernel)
def lets : List Nat := (List.range 26).map (97 + ·)
def grts : List Nat := (List.range 26).map (65 + ·)
def figs : List Nat := (List.range 10).map (48 + ·)
@[simp] theorem c_lets : Str.ofString "abcdefghijklmnopqrstuvwxyz" = St lets := of_St (by decide +kernel)
@[simp] theorem c_grts : Str.ofString "ABCDEFGHIJKLMNOPQRSTUVWXYZ" = St grts := of_St (by decide +kernel)
@[simp] theorem c_figs : Str.ofString "0123456789" = St figs := of_St (by decide +kernel)
@[simp] theorem c_dash : Str.ofString "-" = St [45] := of_St (by decide +kernel)
def wsig : List Nat := lets ++ grts ++ figs ++ [45]
@[simp] theorem sg_St (l : List Nat) : signs (St l) = l.map fun c => .str (St [c]) := id rfl
@[simp] theorem v_inS (c : Nat) (l : List Nat) : gIn (.str (St [c])) (.str (St l)) = some (.bl (decide (c ∈ l))) := id rfl
@[simp] theorem v_ninS (c : Nat) (l : List Nat) : gNin (.str (St [c])) (.str (St l)) = some (.bl (!decide (c ∈ l))) := id rfl
@[simp] theorem v_addS (a b : List Nat) : gAdd (.str (St a)) (.str (St b)) = if a.length + b.length ≤ sizeLine then some (.str (St (a ++ b))) else none := by
  simp only [gAdd, St_len, St_cat]
@[simp] theorem v_lenSt (a : List Nat) : gLen [.str (St a)] = if a.length ≤ sizeLine then some (.int a.length) else none := by simp
@[simp] theorem v_slS (a : List Nat) (lo hi : Option Int) : gSl (.str (St a)) lo hi = if a.length ≤ sizeLine then some (.str (St (cutL a lo hi))) else none := by
  have e : cutS (St a) lo hi = St (cutL a lo hi) := of_St (by simp [cutS, cutL])
  simp only [gSl, St_len, e]
theorem v_ixS (a : List Nat) (i : Int) : gIx (.str (St a)) (.int i) = if a.length ≤ sizeLine then (atI a i).map fun c => .str (St [c]) else none := by
  simp only [gIx, St_len, St_tl]
  rfl
theorem lc_signs (l : List Nat) (k : Nat) (e : E) (δ : Sl) (s : Sto) (f : Nat → Bool) (he : ∀ c, e (δ.set k (some (.str (St [c])))) s = .ok (.bl (f c)) s) : lcD (.nm k) tTrue e δ (l.map fun c => .str (St [c])) s = .ok (l.map fun c => D.bl (f c)) s := by
  induction l with
  | nil => rfl
  | cons c l ih => simp [lcD, he, ih]
theorem gAll_map {α : Type} (l : List α) (f : α → Bool) : gAll [.lst (l.map fun c => D.bl (f c))] = some (.bl (l.all f)) := by
  have e : l.map (fun c => D.bl (f c)) = (l.map f).map D.bl := by simp
  have e2 : ∀ l : List α, (l.map f).all (fun b => b) = l.all f := fun l => by
    induction l with
    | nil => rfl
    | cons c l ih => simp [ih]
  rw [e]
  simp only [gAll, blsOf_map, Option.map_some, e2]
theorem at_St {T : List Nat} {j c : Nat} (hl : T.length ≤ sizeLine) (h : T[j]? = some c) : gIx (.str (St T)) (.int (j : Int)) = some (.str (St [c])) := by
  obtain ⟨h1, h2⟩ := List.getElem?_eq_some_iff.mp h
  rw [v_ixS, if_pos hl, atI_ofNat T h1, h2]
  rfl
/-! with the length shown small; simp (disch := (simp only [List.length_append, List.length_cons, List.length_nil, St_len]; omega)) -/
theorem d_addS (a b : List Nat) (h : a.length + b.length ≤ 100000) : gAdd (.str (St a)) (.str (St b)) = some (.str (St (a ++ b))) := by
  rw [v_addS, if_pos (small_line (by omega))]
theorem d_lenS (a : List Nat) (h : a.length ≤ 100000) : gLen [.str (St a)] = some (.int a.length) := by
  rw [v_lenSt, if_pos (small_line (by omega))]
theorem d_slS (a : List Nat) (lo hi : Option Int) (h : a.length ≤ 100000) : gSl (.str (St a)) lo hi = some (.str (St (cutL a lo hi))) := by
  rw [v_slS, if_pos (small_line (by omega))]
end Law

/-! GTg: things of any kind; whether two are the same. -/
namespace Law
open PySem L2 Gs
/-- a thing, at most n deep -/
inductive Tg : Nat → D → Prop
  | int (n : Nat) (i : Int) : Tg n (.int i)
  | bl (n : Nat) (b : Bool) : Tg n (.bl b)
  | str (n : Nat) (l : List Nat) : l.length ≤ 50000 → (∀ c ∈ l, c < 128) → Tg n (.str (St l))
  | non (n : Nat) : Tg n .non
  | lst (n : Nat) (xs : List D) : xs.length ≤ 10000 → (∀ x ∈ xs, Tg n x) → Tg (n + 1) (.lst xs)
  | tup (n : Nat) (xs : List D) : xs.length ≤ 10000 → (∀ x ∈ xs, Tg n x) → Tg (n + 1) (.tup xs)
theorem Tg.up {n : Nat} {d : D} (h : Tg n d) : ∀ m : Nat, n ≤ m → Tg m d := by
  induction h with
  | int n i => exact fun m _ => .int m i
  | bl n b => exact fun m _ => .bl m b
  | str n l h1 h2 => exact fun m _ => .str m l h1 h2
  | non n => exact fun m _ => .non m
  | lst n xs h1 _ ih =>
    intro m hm
    obtain ⟨k, rfl⟩ : ∃ k, m = k + 1 := ⟨m - 1, by omega⟩
    exact .lst k xs h1 fun x hx => ih x hx k (by omega)
  | tup n xs h1 _ ih =>
    intro m hm
    obtain ⟨k, rfl⟩ : ∃ k, m = k + 1 := ⟨m - 1, by omega⟩
    exact .tup k xs h1 fun x hx => ih x hx k (by omega)
theorem tg_sig (k : Nat) {l : List Nat} (h : ∀ c ∈ l, c < 128) : eqk k (.str (St l)) := eqk_str k (by
  show (St l).cps.all (· < 0x110000) = true
  rw [Array.all_eq_true']
  intro c hc
  have : c ∈ l := by simpa [St] using hc
  have := h c this
  simp
  omega)
theorem tg_eqk {n : Nat} {d : D} (h : Tg n d) : eqk n d := by
  induction h with
  | int n i => exact eqk_int n i
  | bl n b => exact eqk_bl n b
  | str n l h1 h2 => exact tg_sig n h2
  | non n => exact ⟨.none, by simp [toPy], rfl, by simp [PyData.depth]⟩
  | lst n xs _ _ ih => exact eqk_lst ih
  | tup n xs _ _ ih => exact eqk_tupL ih
theorem tg_deep {n : Nat} {d : D} (h : Tg n d) (s : Sto) : ∀ k : Nat, deepD s k d = d := by
  induction h with
  | int n i => intro k; cases k <;> simp [deepD]
  | bl n b => intro k; cases k <;> simp [deepD]
  | str n l h1 h2 => intro k; cases k <;> simp [deepD]
  | non n => intro k; cases k <;> simp [deepD]
  | lst n xs _ _ ih =>
    intro k
    cases k with
    | zero => simp [deepD]
    | succ k =>
      simp only [deepD]
      congr 1
      exact (List.map_congr_left (g := id) fun x hx => ih x hx k).trans (List.map_id _)
  | tup n xs _ _ ih =>
    intro k
    cases k with
    | zero => simp [deepD]
    | succ k =>
      simp only [deepD]
      congr 1
      exact (List.map_congr_left (g := id) fun x hx => ih x hx k).trans (List.map_id _)
theorem tg_rsv {n : Nat} {d : D} (h : Tg n d) (s : Sto) : rsv s d = d := by cases h <;> rfl
/-- the same -/
def alk : Nat → D → D → Bool
  | _, .int i, .int j => decide (i = j)
  | _, .bl a, .bl b => decide (a = b)
  | _, .str a, .str b => decide (a = b)
  | _, .non, .non => true
  | n + 1, .lst xs, .lst ys => decide (xs.length = ys.length) && (xs.zip ys).all fun p => alk n p.1 p.2
  | n + 1, .tup xs, .tup ys => decide (xs.length = ys.length) && (xs.zip ys).all fun p => alk n p.1 p.2
  | _, _, _ => false
theorem zip_sel {a b : D} : ∀ {xs : List D}, (a, b) ∈ xs.zip xs → a = b ∧ a ∈ xs
  | [], h => nomatch h
  | x :: xs, h => by
    rw [List.zip_cons_cons] at h
    rcases List.mem_cons.mp h with e | h
    · cases e; exact ⟨rfl, by simp⟩
    · obtain ⟨e, m⟩ := zip_sel h
      exact ⟨e, by simp [m]⟩
theorem alk_refl {n : Nat} {d : D} (h : Tg n d) : alk n d d = true := by
  induction h with
  | int n i => cases n <;> simp [alk]
  | bl n b => cases n <;> simp [alk]
  | str n l h1 h2 => cases n <;> simp [alk]
  | non n => cases n <;> simp [alk]
  | lst n xs _ _ ih =>
    simp only [alk, decide_true, Bool.true_and, List.all_eq_true]
    intro p hp
    obtain ⟨a, b⟩ := p
    have := zip_sel hp
    obtain ⟨rfl, m⟩ := this
    exact ih a m
  | tup n xs _ _ ih =>
    simp only [alk, decide_true, Bool.true_and, List.all_eq_true]
    intro p hp
    obtain ⟨a, b⟩ := p
    have := zip_sel hp
    obtain ⟨rfl, m⟩ := this
    exact ih a m
theorem zip_pair (xs ys : List D) : zipD xs ys = (xs.zip ys).map fun p => .tup [p.1, p.2] := by
  unfold zipD
  rw [List.zip, List.map_zipWith]
theorem all_map {α : Type} (l : List α) (f : α → Bool) : gAll [.lst (l.map fun c => D.bl (f c))] = some (.bl (l.all f)) := by
  have e : l.map (fun c => D.bl (f c)) = (l.map f).map D.bl := by simp
  have e2 : ∀ l : List α, (l.map f).all (fun b => b) = l.all f := fun l => by
    induction l with
    | nil => rfl
    | cons c l ih => simp [ih]
  rw [e]
  simp only [gAll, blsOf_map, Option.map_some, e2]
theorem zip_in {xs ys : List D} {p : D × D} (h : p ∈ xs.zip ys) : p.1 ∈ xs ∧ p.2 ∈ ys := by
  obtain ⟨a, b⟩ := p
  exact ⟨(List.of_mem_zip h).1, (List.of_mem_zip h).2⟩
end Law

/-! GTh: whether two things are the same, by the program. -/
namespace Law
open PySem L2 Gs
/-- the kind of a thing -/
def kd : D → Nat
  | .int _ => 0
  | .bl _ => 1
  | .str _ => 2
  | .non => 3
  | .lst _ => 4
  | .tup _ => 5
  | _ => 6
theorem okind_val {m n : Nat} {x y : D} (hx : Tg n x) (hy : Tg m y) (s : Sto) : S_one_kind [x, y] s = .ok (.bl (decide (kd x = kd y))) s := by
  have n0 : gIsN .non .non = some (.bl true) := rfl
  apply runG_rt
  cases hx <;> cases hy <;> simp [kd, tyN, isTy, gIsN]
theorem isrow_val {n : Nat} {x : D} (hx : Tg n x) (s : Sto) : S_is_row [x] s = .ok (.bl (decide (4 ≤ kd x))) s := by
  apply runG_rt
  cases hx <;> simp [kd, gIsi2, tyN, isTy]
theorem isnum_val {n : Nat} {x : D} (hx : Tg n x) (s : Sto) : S_is_number [x] s = .ok (.bl (decide (kd x = 0))) s := by
  apply runG_rt
  cases hx <;> simp [kd, tyN, isTy]
theorem leaf_eq {m n : Nat} {x y : D} (hx : Tg n x) (hy : Tg m y) (hk : kd x = kd y) (h4 : kd x < 4) : gEq x y = some (.bl (alk n x y)) := by
  cases hx <;> cases hy <;> simp [kd] at hk h4 <;> cases n <;> simp [gEq, eqO, alk]
theorem same_val : ∀ (n : Nat) (x y : D) (s : Sto), Tg n x → Tg n y → ∀ k : Nat, S_same (k + n + 1) [x, y] s = .ok (.bl (alk n x y)) s := by
  intro n
  induction n with
  | zero =>
    intro x y s hx hy k
    have r1 := tg_rsv hx s
    have r2 := tg_rsv hy s
    have e1 := okind_val hx hy s
    have e2 := isrow_val hx s
    show U_same _ _ _ = _
    apply runG_rt
    by_cases hk : kd x = kd y
    · have h4 : kd x < 4 := by cases hx <;> simp [kd]
      have e3 := leaf_eq hx hy hk h4
      rw [decide_eq_true hk] at e1
      rw [decide_eq_false (by omega)] at e2
      simp [e1, e2, e3, r1, r2]
    · have ea : alk 0 x y = false := by cases hx <;> cases hy <;> simp [kd] at hk <;> simp [alk]
      rw [decide_eq_false hk] at e1
      simp [e1, ea]
  | succ n ih =>
    intro x y s hx hy k
    have r1 := tg_rsv hx s
    have r2 := tg_rsv hy s
    have e1 := okind_val hx hy s
    have e2 := isrow_val hx s
    show U_same _ _ _ = _
    by_cases hk : kd x = kd y
    · rw [decide_eq_true hk] at e1
      by_cases h4 : kd x < 4
      · have e3 := leaf_eq hx hy hk h4
        rw [decide_eq_false (by omega)] at e2
        apply runG_rt
        simp [e1, e2, e3, r1, r2]
      · rw [decide_eq_true (by omega)] at e2
        obtain ⟨xs, ys, hxl, hyl, hxs, hys, hc⟩ : ∃ xs ys : List D, xs.length ≤ 10000 ∧ ys.length ≤ 10000 ∧ (∀ x ∈ xs, Tg n x) ∧ (∀ y ∈ ys, Tg n y) ∧ ((x = .lst xs ∧ y = .lst ys) ∨ (x = .tup xs ∧ y = .tup ys)) := by
          cases hx <;> cases hy <;> simp [kd] at hk h4
          · rename_i xs a b ys c d; exact ⟨xs, ys, a, c, b, d, .inl ⟨rfl, rfl⟩⟩
          · rename_i xs a b ys c d; exact ⟨xs, ys, a, c, b, d, .inr ⟨rfl, rfl⟩⟩
        have lx : xs.length ≤ sizeLine := small_line (by omega)
        have ly : ys.length ≤ sizeLine := small_line (by omega)
        have e4 := fun (a b : Option D) => lcD_mapL (p := .tp [.nm 2, .nm 3]) (c := tTrue) (e := eCall (S_same (k + (n + 1))) (aCons (eV 2) (aCons (eV 3) aNil))) (δ := [a, b, none, none]) (s := s) (fun p : D × D => .tup [p.1, p.2]) (fun p => .bl (alk n p.1 p.2)) (xs.zip ys) fun p hp => ⟨_, by simp; rfl, by simp, by
          have : S_same (k + (n + 1)) [p.1, p.2] s = _ := ih p.1 p.2 s (hxs _ (zip_in hp).1) (hys _ (zip_in hp).2) k
          simp [this]⟩
        have e5 := all_map (xs.zip ys) fun p => alk n p.1 p.2
        have l3 : (xs.zip ys).length ≤ sizeLine := by rw [List.length_zip]; omega
        have l3' : min xs.length ys.length ≤ sizeLine := by omega
        apply runG_rt
        rcases hc with ⟨rfl, rfl⟩ | ⟨rfl, rfl⟩
        · by_cases hl : xs.length = ys.length
          · simp [e1, e2, lx, ly, hl, alk, zip_pair, wipeD, e4, l3', e5]
          · have hl2 : ¬ (xs.length : Int) = (ys.length : Int) := by omega
            simp [e1, e2, lx, ly, hl, hl2, alk]
        · by_cases hl : xs.length = ys.length
          · simp [e1, e2, lx, ly, hl, alk, zip_pair, wipeD, e4, l3', e5]
          · have hl2 : ¬ (xs.length : Int) = (ys.length : Int) := by omega
            simp [e1, e2, lx, ly, hl, hl2, alk]
    · have ea : alk (n + 1) x y = false := by cases hx <;> cases hy <;> simp [kd] at hk <;> simp [alk]
      rw [decide_eq_false hk] at e1
      apply runG_rt
      simp [e1, ea]
end Law

/-! GSd: what small terms say. -/
namespace Law
open PySem L2 Gs
theorem c_here : Str.ofString "here" = St [104, 101, 114, 101] := of_St (by decide +kernel)
theorem c_num : Str.ofString "num" = St [110, 117, 109] := of_St (by decide +kernel)
theorem c_part : Str.ofString "part" = St [112, 97, 114, 116] := of_St (by decide +kernel)
theorem c_count : Str.ofString "count" = St [99, 111, 117, 110, 116] := of_St (by decide +kernel)
theorem c_sum : Str.ofString "sum" = St [115, 117, 109] := of_St (by decide +kernel)
theorem c_not : Str.ofString "not" = St [110, 111, 116] := of_St (by decide +kernel)
theorem c_turned : Str.ofString "turned" = St [116, 117, 114, 110, 101, 100] := of_St (by decide +kernel)
theorem c_plus : Str.ofString "plus" = St [112, 108, 117, 115] := of_St (by decide +kernel)
theorem c_times : Str.ofString "times" = St [116, 105, 109, 101, 115] := of_St (by decide +kernel)
theorem c_less : Str.ofString "less" = St [108, 101, 115, 115] := of_St (by decide +kernel)
theorem c_same : Str.ofString "same" = St [115, 97, 109, 101] := of_St (by decide +kernel)
theorem c_both : Str.ofString "both" = St [98, 111, 116, 104] := of_St (by decide +kernel)
theorem c_when : Str.ofString "when" = St [119, 104, 101, 110] := of_St (by decide +kernel)
theorem c_each : Str.ofString "each" = St [101, 97, 99, 104] := of_St (by decide +kernel)
theorem c_joined : Str.ofString "joined" = St [106, 111, 105, 110, 101, 100] := of_St (by decide +kernel)
def wHere : List Nat := [104, 101, 114, 101]
def wNum : List Nat := [110, 117, 109]
def wPart : List Nat := [112, 97, 114, 116]
def wCount : List Nat := [99, 111, 117, 110, 116]
def wSum : List Nat := [115, 117, 109]
def wNot : List Nat := [110, 111, 116]
def wTurned : List Nat := [116, 117, 114, 110, 101, 100]
def wPlus : List Nat := [112, 108, 117, 115]
def wTimes : List Nat := [116, 105, 109, 101, 115]
def wLess : List Nat := [108, 101, 115, 115]
def wSame : List Nat := [115, 97, 109, 101]
def wBoth : List Nat := [98, 111, 116, 104]
def wWhen : List Nat := [119, 104, 101, 110]
def wEach : List Nat := [101, 97, 99, 104]
def wJoined : List Nat := [106, 111, 105, 110, 101, 100]
/-- a term -/
def tm (w : List Nat) (x : D) : D := .tup [.str (St w), x]
def ast (w : List Nat) : Ex := ⟨"Astray", [(Str.ofString "mark", .str (St w))]⟩
theorem spo_here (n : Nat) (b x : D) (s : Sto) : S_spoken (n + 1) [tm wHere b, x] s = .ok x s := by
  show U_spoken _ _ _ _ _ _ _ _ _ _ = _
  apply runG_rt
  simp [tm, wHere, c_num, c_here, St_eq]
theorem spo_num (n : Nat) (i x : D) (s : Sto) : S_spoken (n + 1) [tm wNum i, x] s = .ok i s := by
  show U_spoken _ _ _ _ _ _ _ _ _ _ = _
  apply runG_rt
  simp [tm, wNum, c_num, St_eq]
/-! the four that take a row -/
theorem spo_row {w : List Nat} (hw : w = wPart ∨ w = wCount ∨ w = wSum ∨ w = wTurned) (n : Nat) (b x : D) (s : Sto) (r : R D) (hr : r ≠ .stk) (h : S_of_a_row n [tm w b, x] s = r) : S_spoken (n + 1) [tm w b, x] s = r := by
  show U_spoken _ _ _ _ _ _ _ _ _ _ = _
  cases r with
  | stk => exact absurd rfl hr
  | ok d s' =>
    apply runG_rt
    rcases hw with rfl | rfl | rfl | rfl <;> simp [tm, wPart, wCount, wSum, wTurned] at h <;> simp [tm, wPart, wCount, wSum, wTurned, c_num, c_here, c_part, c_count, c_sum, c_turned, St_eq, gIn, strsOf, h]
  | exc e s' =>
    rcases hw with rfl | rfl | rfl | rfl <;> (simp [tm, wPart, wCount, wSum, wTurned] at h; apply runG_exc; simp [tm, wPart, wCount, wSum, wTurned, c_num, c_here, c_part, c_count, c_sum, c_turned, St_eq, gIn, strsOf, h]; first | rfl | exact ⟨rfl, rfl⟩)
theorem inn_one {w : List Nat} (hw : w = wCount ∨ w = wSum ∨ w = wTurned) (t : D) (s : Sto) : S_inner_terms [tm w t] s = .ok (.lst [t]) s := by
  apply runG_rt
  rcases hw with rfl | rfl | rfl <;> simp [tm, wCount, wSum, wTurned, c_num, c_here, c_part, c_count, c_sum, c_turned, c_not, St_eq, gIn, strsOf]
theorem inn_part (t p : D) (s : Sto) : S_inner_terms [tm wPart (.tup [t, p])] s = .ok (.lst [t]) s := by
  apply runG_rt
  simp [tm, wPart, c_num, c_here, c_part, St_eq, gIn, strsOf]
theorem fit_yes (m x : D) (s : Sto) : S_fit_for [.bl true, m, x] s = .ok x s := by
  apply runG_rt
  simp
theorem fit_no (w : List Nat) (x : D) (s : Sto) : S_fit_for [.bl false, .str (St w), x] s = .exc (ast w) s := by
  apply runG_exc
  simp
  first | rfl | exact ⟨rfl, rfl⟩
/-- a thing that stands by itself -/
inductive Rw : D → Prop
  | lst (xs : List D) : Rw (.lst xs)
  | tup (xs : List D) : Rw (.tup xs)
theorem isrow_yes {x : D} (h : Rw x) (s : Sto) : S_is_row [x] s = .ok (.bl true) s := by
  apply runG_rt
  cases h <;> simp [gIsi2, tyN, isTy]
theorem isrow_str (z : Str) (s : Sto) : S_is_row [.str z] s = .ok (.bl false) s := by
  apply runG_rt
  simp [gIsi2, tyN, isTy]
def itm : D → List D
  | .lst xs => xs
  | .tup xs => xs
  | _ => []
section
variable {n : Nat} {t x y : D} {s : Sto}
theorem row_count (hy : Rw y) (h : S_spoken n [t, x] s = .ok y s) : S_of_a_row (n + 1) [tm wCount t, x] s = .ok (.int (itm y).length) s := by
  have e1 := inn_one (w := wCount) (.inl rfl) t s
  have e2 := isrow_yes hy s
  simp only [tm, wCount] at e1
  show U_of_a_row _ _ _ _ _ _ _ _ _ _ = _
  apply runG_rt
  have e3 := fit_yes (.str (St wCount)) y s
  simp only [wCount] at e3
  cases hy <;> simp [tm, wCount, e1, h, e2, e3, c_count, St_eq, itm, tyN, isTy]
theorem row_turned (hy : Rw y) (h : S_spoken n [t, x] s = .ok y s) (z : D) (hz : gRevA y = some z) : S_of_a_row (n + 1) [tm wTurned t, x] s = .ok z s := by
  have e1 := inn_one (w := wTurned) (.inr (.inr rfl)) t s
  have e2 := isrow_yes hy s
  simp only [tm, wTurned] at e1
  show U_of_a_row _ _ _ _ _ _ _ _ _ _ = _
  apply runG_rt
  have e3 := fit_yes (.str (St wTurned)) y s
  simp only [wTurned] at e3
  cases hy <;> simp at hz <;> simp [tm, wTurned, e1, h, e2, e3, c_count, c_turned, St_eq, tyN, isTy, hz]
theorem str_count {z : Str} (hl : z.length ≤ sizeLine) (h : S_spoken n [t, x] s = .ok (.str z) s) : S_of_a_row (n + 1) [tm wCount t, x] s = .ok (.int z.length) s := by
  have e1 := inn_one (w := wCount) (.inl rfl) t s
  simp only [tm, wCount] at e1
  show U_of_a_row _ _ _ _ _ _ _ _ _ _ = _
  apply runG_rt
  simp [tm, wCount, e1, h, c_count, c_turned, St_eq, tyN, isTy, gIn, strsOf, hl]
theorem str_turned {z : Str} (hl : z.length ≤ sizeLine) (h : S_spoken n [t, x] s = .ok (.str z) s) : S_of_a_row (n + 1) [tm wTurned t, x] s = .ok (.str (L2.revS z)) s := by
  have e1 := inn_one (w := wTurned) (.inr (.inr rfl)) t s
  simp only [tm, wTurned] at e1
  show U_of_a_row _ _ _ _ _ _ _ _ _ _ = _
  apply runG_rt
  simp [tm, wTurned, e1, h, c_count, c_turned, St_eq, tyN, isTy, gIn, strsOf, hl]
theorem str_sum {z : Str} (h : S_spoken n [t, x] s = .ok (.str z) s) : S_of_a_row (n + 1) [tm wSum t, x] s = .exc (ast wSum) s := by
  have e1 := inn_one (w := wSum) (.inr (.inl rfl)) t s
  have e2 := isrow_str z s
  have e3 := fit_no wSum (.str z) s
  simp only [tm, wSum] at e1 e3
  show U_of_a_row _ _ _ _ _ _ _ _ _ _ = _
  apply runG_exc
  simp [tm, wSum, e1, h, c_count, c_turned, St_eq, tyN, isTy, gIn, strsOf, e2, e3]
  first | rfl | exact ⟨rfl, rfl⟩
theorem str_part {z : Str} {p : D} (h : S_spoken n [t, x] s = .ok (.str z) s) : S_of_a_row (n + 1) [tm wPart (.tup [t, p]), x] s = .exc (ast wPart) s := by
  have e1 := inn_part t p s
  have e2 := isrow_str z s
  have e3 := fit_no wPart (.str z) s
  simp only [tm, wPart] at e1 e3
  show U_of_a_row _ _ _ _ _ _ _ _ _ _ = _
  apply runG_exc
  simp [tm, wPart, e1, h, c_count, c_turned, St_eq, tyN, isTy, gIn, strsOf, e2, e3]
  first | rfl | exact ⟨rfl, rfl⟩
theorem isnum_int (i : Int) (s : Sto) : S_is_number [.int i] s = .ok (.bl true) s := by
  apply runG_rt
  simp [tyN, isTy]
theorem isnum_str (z : Str) (s : Sto) : S_is_number [.str z] s = .ok (.bl false) s := by
  apply runG_rt
  simp [tyN, isTy]
theorem lc_nums (ns : List Int) (k : Nat) (δ : Sl) (hk : k < δ.length) (s : Sto) : lcD (.nm k) tTrue (eCall S_is_number (aCons (eV k) aNil)) δ (ns.map D.int) s = .ok (ns.map fun _ => D.bl true) s :=
  lcD_mapL _ _ _ fun i _ => ⟨_, by simp; rfl, by simp, by
    have e := isnum_int i s
    simp [hk, e]⟩
theorem row_sum {ns : List Int} (hl : ns.length ≤ 100000) (hy : y = .lst (ns.map D.int) ∨ y = .tup (ns.map D.int)) (h : S_spoken n [t, x] s = .ok y s) : S_of_a_row (n + 1) [tm wSum t, x] s = .ok (.int ns.sum) s := by
  have hrw : Rw y := by rcases hy with q | q <;> rw [q] <;> constructor
  have e1 := inn_one (w := wSum) (.inr (.inl rfl)) t s
  have e2 := isrow_yes hrw s
  have e3 := fit_yes (.str (St wSum)) y s
  have l1 : ns.length ≤ sizeLine := small_line (by omega)
  have e4 := fun δ hk => lc_nums ns 4 δ hk s
  have e5 := gAll_map ns (fun _ => true)
  have e6 : ns.all (fun _ => true) = true := by simp
  rw [e6] at e5
  simp only [tm, wSum] at e1 e3
  show U_of_a_row _ _ _ _ _ _ _ _ _ _ = _
  apply runG_rt
  rcases hy with rfl | rfl <;> simp [tm, wSum, e1, h, c_count, c_turned, c_part, St_eq, tyN, isTy, gIn, strsOf, e2, e3, e4, e5, wipeD, l1, intsOf_map]
theorem row_part {p : Nat} {z : D} (hy : Rw y) (h : S_spoken n [t, x] s = .ok y s) (hz : (itm y)[p]? = some z) : S_of_a_row (n + 1) [tm wPart (.tup [t, .int (p : Int)]), x] s = .ok z s := by
  have e1 := inn_part t (.int (p : Int)) s
  have e2 := isrow_yes hy s
  have e3 := fit_yes (.str (St wPart)) y s
  obtain ⟨h1, h2⟩ := List.getElem?_eq_some_iff.mp hz
  have h3 : (p : Int) < ((itm y).length : Int) := by omega
  have e4 : atI (itm y) (p : Int) = some z := by rw [atI_ofNat _ h1, h2]
  simp only [tm, wPart] at e1 e3
  show U_of_a_row _ _ _ _ _ _ _ _ _ _ = _
  apply runG_rt
  cases hy <;> simp only [itm] at h1 h3 e4 <;> simp [tm, wPart, e1, h, c_count, c_turned, c_part, St_eq, tyN, isTy, e2, e3, h1, e4]
theorem row_past {p : Nat} (hy : Rw y) (h : S_spoken n [t, x] s = .ok y s) (hz : (itm y).length ≤ p) : S_of_a_row (n + 1) [tm wPart (.tup [t, .int (p : Int)]), x] s = .exc (ast wPart) s := by
  have e1 := inn_part t (.int (p : Int)) s
  have e2 := isrow_yes hy s
  have e3 := fit_yes (.str (St wPart)) y s
  have e4 := fit_no wPart y s
  have h3 : ¬ p < (itm y).length := by omega
  simp only [tm, wPart] at e1 e3 e4
  show U_of_a_row _ _ _ _ _ _ _ _ _ _ = _
  cases hy <;> (simp only [itm] at h3; apply runG_exc; simp [tm, wPart, e1, h, c_count, c_turned, c_part, St_eq, tyN, isTy, e2, e3, h3, e4]; first | rfl | exact ⟨rfl, rfl⟩)
end
/-! numbers -/
theorem num_said {n : Nat} {t x : D} {i : Int} {s : Sto} (h : S_spoken n [t, x] s = .ok (.int i) s) (m : D) : S_number_said (n + 1) [t, x, m] s = .ok (.int i) s := by
  have e1 := isnum_int i s
  have e2 := fit_yes m (.int i) s
  show U_number_said _ _ _ _ _ _ _ _ _ _ = _
  apply runG_rt
  simp [h, e1, e2]
theorem num_not {n : Nat} {t x : D} {z : Str} {s : Sto} (h : S_spoken n [t, x] s = .ok (.str z) s) (w : List Nat) : S_number_said (n + 1) [t, x, .str (St w)] s = .exc (ast w) s := by
  have e1 := isnum_str z s
  have e2 := fit_no w (.str z) s
  show U_number_said _ _ _ _ _ _ _ _ _ _ = _
  apply runG_exc
  simp [h, e1, e2]
  first | rfl | exact ⟨rfl, rfl⟩
theorem spo_num2 {w : List Nat} (hw : w = wPlus ∨ w = wTimes ∨ w = wLess) (n : Nat) (b x : D) (s : Sto) (r : R D) (hr : r ≠ .stk) (h : S_of_numbers n [tm w b, x] s = r) : S_spoken (n + 1) [tm w b, x] s = r := by
  show U_spoken _ _ _ _ _ _ _ _ _ _ = _
  cases r with
  | stk => exact absurd rfl hr
  | ok d s' =>
    apply runG_rt
    rcases hw with rfl | rfl | rfl <;> simp [tm, wPlus, wTimes, wLess] at h <;> simp [tm, wPlus, wTimes, wLess, c_num, c_here, c_part, c_count, c_sum, c_turned, c_plus, c_times, c_less, St_eq, gIn, strsOf, h]
  | exc e s' =>
    rcases hw with rfl | rfl | rfl <;> (simp [tm, wPlus, wTimes, wLess] at h; apply runG_exc; simp [tm, wPlus, wTimes, wLess, c_num, c_here, c_part, c_count, c_sum, c_turned, c_plus, c_times, c_less, St_eq, gIn, strsOf, h]; first | rfl | exact ⟨rfl, rfl⟩)
def op2 (w : List Nat) (i j : Int) : D := if w = wPlus then .int (i + j) else if w = wTimes then .int (i * j) else .bl (decide (i < j))
theorem of_nums {w : List Nat} (hw : w = wPlus ∨ w = wTimes ∨ w = wLess) {n : Nat} {t u x : D} {i j : Int} {s : Sto} (h1 : S_spoken n [t, x] s = .ok (.int i) s) (h2 : S_spoken n [u, x] s = .ok (.int j) s) (hm : w = wTimes → IntMulOk i j) : S_of_numbers (n + 2) [tm w (.tup [t, u]), x] s = .ok (op2 w i j) s := by
  have e1 := num_said h1 (.str (St w))
  have e2 := num_said h2 (.str (St w))
  show U_of_numbers _ _ _ _ _ _ _ _ _ _ = _
  apply runG_rt
  rcases hw with rfl | rfl | rfl
  · simp only [wPlus] at e1 e2
    simp [tm, wPlus, wTimes, wLess, c_plus, c_times, St_eq, e1, e2, op2]
  · have hm := hm rfl
    simp only [wTimes] at e1 e2
    simp [tm, wPlus, wTimes, wLess, c_plus, c_times, St_eq, e1, e2, op2, hm]
  · simp only [wLess] at e1 e2
    simp [tm, wPlus, wTimes, wLess, c_plus, c_times, St_eq, e1, e2, op2]
theorem of_nums_no {w : List Nat} (hw : w = wPlus ∨ w = wTimes ∨ w = wLess) {n : Nat} {t u x : D} {i : Int} {z : Str} {s : Sto} (h1 : S_spoken n [t, x] s = .ok (.int i) s) (h2 : S_spoken n [u, x] s = .ok (.str z) s) : S_of_numbers (n + 2) [tm w (.tup [t, u]), x] s = .exc (ast w) s := by
  have e1 := num_said h1 (.str (St w))
  have e2 := num_not h2 w
  show U_of_numbers _ _ _ _ _ _ _ _ _ _ = _
  rcases hw with rfl | rfl | rfl <;> (simp only [wPlus, wTimes, wLess] at e1 e2; apply runG_exc; simp [tm, wPlus, wTimes, wLess, c_plus, c_times, St_eq, e1, e2]; first | rfl | exact ⟨rfl, rfl⟩)
/-! not of what goes astray -/
theorem spo_not_x {n : Nat} {t x : D} {e : Ex} {s : Sto} (h : S_spoken n [t, x] s = .exc e s) : S_spoken (n + 2) [tm wNot t, x] s = .exc e s := by
  have e1 : S_truth_said (n + 1) [t, x, .str (St wNot)] s = .exc e s := by
    show U_truth_said _ _ _ _ _ _ _ _ _ _ = _
    apply runG_exc
    simp [h]
    first | rfl | exact ⟨rfl, rfl⟩
  simp only [wNot] at e1
  show U_spoken _ _ _ _ _ _ _ _ _ _ = _
  apply runG_exc
  simp [tm, wNot, c_num, c_here, c_part, c_count, c_sum, c_turned, c_plus, c_times, c_less, c_same, c_not, St_eq, gIn, strsOf, e1]
  first | rfl | exact ⟨rfl, rfl⟩
/-! joined -/
theorem spo_joined {n : Nat} {b x : D} {s : Sto} (r : R D) (hr : r ≠ .stk) (h : S_joined_said n [tm wJoined b, x] s = r) : S_spoken (n + 1) [tm wJoined b, x] s = r := by
  show U_spoken _ _ _ _ _ _ _ _ _ _ = _
  cases r with
  | stk => exact absurd rfl hr
  | ok d s' =>
    apply runG_rt
    simp [tm, wJoined] at h
    simp [tm, wJoined, c_num, c_here, c_part, c_count, c_sum, c_turned, c_plus, c_times, c_less, c_same, c_not, c_both, c_when, c_each, St_eq, gIn, strsOf, h]
  | exc e s' =>
    apply runG_exc
    simp [tm, wJoined] at h
    simp [tm, wJoined, c_num, c_here, c_part, c_count, c_sum, c_turned, c_plus, c_times, c_less, c_same, c_not, c_both, c_when, c_each, St_eq, gIn, strsOf, h]
    first | rfl | exact ⟨rfl, rfl⟩
theorem jn_lst {n : Nat} {t u x : D} {xs ys : List D} {s : Sto} (h1 : S_spoken n [t, x] s = .ok (.lst xs) s) (h2 : S_spoken n [u, x] s = .ok (.lst ys) s) (hl : xs.length + ys.length ≤ sizeLine) : S_joined_said (n + 1) [tm wJoined (.tup [t, u]), x] s = .ok (.lst (xs ++ ys)) s := by
  have e1 := fit_yes (.str (St wJoined)) (.lst xs) s
  have e2 := fit_yes (.str (St wJoined)) (.lst ys) s
  have e3 : S_one_kind [.lst xs, .lst ys] s = .ok (.bl true) s := by
    apply runG_rt
    simp [tyN, isTy]
  simp only [wJoined] at e1 e2
  show U_joined_said _ _ _ _ _ _ _ _ _ _ = _
  apply runG_rt
  simp [tm, wJoined, h1, h2, c_joined, gIsi2, tyN, isTy, e1, e2, e3, hl]
theorem jn_str {n : Nat} {t u x : D} {xs ys : Str} {s : Sto} (h1 : S_spoken n [t, x] s = .ok (.str xs) s) (h2 : S_spoken n [u, x] s = .ok (.str ys) s) (hl : xs.length + ys.length ≤ sizeLine) : S_joined_said (n + 1) [tm wJoined (.tup [t, u]), x] s = .ok (.str (xs ++ ys)) s := by
  have e1 := fit_yes (.str (St wJoined)) (.str xs) s
  have e2 := fit_yes (.str (St wJoined)) (.str ys) s
  have e3 : S_one_kind [.str xs, .str ys] s = .ok (.bl true) s := by
    apply runG_rt
    simp [tyN, isTy]
  simp only [wJoined] at e1 e2
  show U_joined_said _ _ _ _ _ _ _ _ _ _ = _
  apply runG_rt
  simp [tm, wJoined, h1, h2, c_joined, gIsi2, tyN, isTy, e1, e2, e3, hl]
theorem jn_tup {n : Nat} {t u x : D} {xs : List D} {s : Sto} (h1 : S_spoken n [t, x] s = .ok (.tup xs) s) : S_joined_said (n + 1) [tm wJoined (.tup [t, u]), x] s = .exc (ast wJoined) s := by
  have e1 := fit_no wJoined (.tup xs) s
  simp only [wJoined] at e1
  show U_joined_said _ _ _ _ _ _ _ _ _ _ = _
  apply runG_exc
  simp [tm, wJoined, h1, c_joined, gIsi2, tyN, isTy, e1]
  first | rfl | exact ⟨rfl, rfl⟩
end Law

/-! GTt: terms of any marks; what they say. -/
namespace Law
open PySem L2 Gs
inductive Op
  | plus
  | times
  | less
def Op.w : Op → List Nat
  | .plus => wPlus
  | .times => wTimes
  | .less => wLess
inductive Tm
  | num (i : Int)
  | here
  | part (t : Tm) (p : Nat)
  | count (t : Tm)
  | sum (t : Tm)
  | turned (t : Tm)
  | op (o : Op) (t u : Tm)
  | same (t u : Tm)
  | nt (t : Tm)
  | both (t u : Tm)
  | each (t u : Tm)
  | joined (t u : Tm)
  | whn (c t u : Tm)
def tmD : Tm → D
  | .num i => tm wNum (.int i)
  | .here => tm wHere (.tup [])
  | .part t p => tm wPart (.tup [tmD t, .int (p : Int)])
  | .count t => tm wCount (tmD t)
  | .sum t => tm wSum (tmD t)
  | .turned t => tm wTurned (tmD t)
  | .op o t u => tm o.w (.tup [tmD t, tmD u])
  | .same t u => tm wSame (.tup [tmD t, tmD u])
  | .nt t => tm wNot (tmD t)
  | .both t u => tm wBoth (.tup [tmD t, tmD u])
  | .each t u => tm wEach (.tup [tmD t, tmD u])
  | .joined t u => tm wJoined (.tup [tmD t, tmD u])
  | .whn c t u => tm wWhen (.tup [tmD c, tmD t, tmD u])
/-- said, or astray -/
inductive Oc
  | sd (d : D)
  | as (w : List Nat)
def Oc.bnd : Oc → (D → Oc) → Oc
  | .sd d, f => f d
  | .as w, _ => .as w
def numE (w : List Nat) : D → Oc
  | .int i => .sd (.int i)
  | _ => .as w
def truE (w : List Nat) : D → Oc
  | .bl b => .sd (.bl b)
  | _ => .as w
def rowE (w : List Nat) : D → Oc
  | .lst xs => .sd (.lst xs)
  | .tup xs => .sd (.tup xs)
  | _ => .as w
def partL (p : Nat) (xs : List D) : Oc := match xs[p]? with
  | some z => .sd z
  | none => .as wPart
def partE (p : Nat) : D → Oc
  | .lst xs => partL p xs
  | .tup xs => partL p xs
  | _ => .as wPart
def countE : D → Oc
  | .lst xs => .sd (.int xs.length)
  | .tup xs => .sd (.int xs.length)
  | .str z => .sd (.int z.length)
  | _ => .as wCount
def turnE : D → Oc
  | .lst xs => .sd (.lst xs.reverse)
  | .tup xs => .sd (.tup xs.reverse)
  | .str z => .sd (.str (L2.revS z))
  | _ => .as wTurned
def sumL (xs : List D) : Oc := match intsOf xs with
  | some ns => .sd (.int ns.sum)
  | none => .as wSum
def sumE : D → Oc
  | .lst xs => sumL xs
  | .tup xs => sumL xs
  | _ => .as wSum
def opE (o : Op) : D → D → Oc
  | .int i, .int j => .sd (op2 o.w i j)
  | _, _ => .as o.w
def ntE : D → Oc
  | .bl b => .sd (.bl !b)
  | _ => .as wNot
def allE (f : D → Oc) : List D → Oc
  | [] => .sd (.bl true)
  | x :: r => match f x with
    | .as w => .as w
    | .sd (.bl true) => allE f r
    | .sd _ => .sd (.bl false)
def jn0 : D → Oc
  | .lst xs => .sd (.lst xs)
  | .str z => .sd (.str z)
  | _ => .as wJoined
def jnE : D → D → Oc
  | .lst xs, .lst ys => .sd (.lst (xs ++ ys))
  | .str x, .str y => .sd (.str (x ++ y))
  | _, _ => .as wJoined
def bothE (o : Oc) : D → Oc
  | .bl false => .sd (.bl false)
  | _ => o
def whnE (o p : Oc) : D → Oc
  | .bl true => o
  | _ => p
def ev : Tm → D → Oc
  | .num i, _ => .sd (.int i)
  | .here, x => .sd x
  | .part t p, x => (ev t x).bnd (partE p)
  | .count t, x => (ev t x).bnd countE
  | .sum t, x => (ev t x).bnd sumE
  | .turned t, x => (ev t x).bnd turnE
  | .op o t u, x => ((ev t x).bnd (numE o.w)).bnd fun a => ((ev u x).bnd (numE o.w)).bnd fun b => opE o a b
  | .same t u, x => (ev t x).bnd fun a => (ev u x).bnd fun b => .sd (.bl (alk 4 a b))
  | .nt t, x => ((ev t x).bnd (truE wNot)).bnd ntE
  | .both t u, x => ((ev t x).bnd (truE wBoth)).bnd (bothE ((ev u x).bnd (truE wBoth)))
  | .each t u, x => ((ev t x).bnd (rowE wEach)).bnd fun a => allE (fun z => (ev u z).bnd (truE wEach)) (itm a)
  | .joined t u, x => ((ev t x).bnd jn0).bnd fun a => (ev u x).bnd (jnE a)
  | .whn c t u, x => ((ev c x).bnd (truE wWhen)).bnd (whnE (ev t x) (ev u x))
/-- how things within what is handed in are -/
inductive Ti : Nat → D → Prop
  | int (n : Nat) (i : Int) : i.natAbs < 2 ^ 140 → Ti n (.int i)
  | bl (n : Nat) (b : Bool) : Ti n (.bl b)
  | str (n : Nat) (l : List Nat) : l.length ≤ 140 → (∀ c ∈ l, c < 128) → Ti n (.str (St l))
  | non (n : Nat) : Ti n .non
  | lst (n : Nat) (xs : List D) : xs.length ≤ 5 → (∀ x ∈ xs, Ti n x) → Ti (n + 1) (.lst xs)
  | tup (n : Nat) (xs : List D) : xs.length ≤ 5 → (∀ x ∈ xs, Ti n x) → Ti (n + 1) (.tup xs)
theorem Ti.up {n : Nat} {d : D} (h : Ti n d) : ∀ m : Nat, n ≤ m → Ti m d := by
  induction h with
  | int n i h => exact fun m _ => .int m i h
  | bl n b => exact fun m _ => .bl m b
  | str n l h1 h2 => exact fun m _ => .str m l h1 h2
  | non n => exact fun m _ => .non m
  | lst n xs h1 _ ih =>
    intro m hm
    obtain ⟨k, rfl⟩ : ∃ k, m = k + 1 := ⟨m - 1, by omega⟩
    exact .lst k xs h1 fun x hx => ih x hx k (by omega)
  | tup n xs h1 _ ih =>
    intro m hm
    obtain ⟨k, rfl⟩ : ∃ k, m = k + 1 := ⟨m - 1, by omega⟩
    exact .tup k xs h1 fun x hx => ih x hx k (by omega)
theorem Ti.tg {n : Nat} {d : D} (h : Ti n d) : Tg n d := by
  induction h with
  | int n i h => exact .int n i
  | bl n b => exact .bl n b
  | str n l h1 h2 => exact .str n l (by omega) h2
  | non n => exact .non n
  | lst n xs h1 _ ih => exact .lst n xs (by omega) ih
  | tup n xs h1 _ ih => exact .tup n xs (by omega) ih
/-- how what is said is -/
inductive Rs (M L : Nat) : D → Prop
  | int (i : Int) : i.natAbs < 2 ^ M → Rs M L (.int i)
  | bl (b : Bool) : Rs M L (.bl b)
  | str (l : List Nat) : l.length ≤ M → (∀ c ∈ l, c < 128) → Rs M L (.str (St l))
  | non : Rs M L .non
  | lst (xs : List D) : xs.length ≤ L → (∀ x ∈ xs, Ti 3 x) → Rs M L (.lst xs)
  | tup (xs : List D) : xs.length ≤ L → (∀ x ∈ xs, Ti 3 x) → Rs M L (.tup xs)
theorem Rs.up {M L M' L' : Nat} {d : D} (h : Rs M L d) (hM : M ≤ M') (hL : L ≤ L') : Rs M' L' d := by
  cases h with
  | int i h => exact .int i (Nat.lt_of_lt_of_le h (Nat.pow_le_pow_right (by omega) hM))
  | bl b => exact .bl b
  | str l h1 h2 => exact .str l (by omega) h2
  | non => exact .non
  | lst xs h1 h2 => exact .lst xs (by omega) h2
  | tup xs h1 h2 => exact .tup xs (by omega) h2
theorem Rs.tg {M L : Nat} {d : D} (h : Rs M L d) (hM : M ≤ 50000) (hL : L ≤ 10000) : Tg 4 d := by
  cases h with
  | int i h => exact .int 4 i
  | bl b => exact .bl 4 b
  | str l h1 h2 => exact .str 4 l (by omega) h2
  | non => exact .non 4
  | lst xs h1 h2 => exact .lst 3 xs (by omega) fun x hx => (h2 x hx).tg
  | tup xs h1 h2 => exact .tup 3 xs (by omega) fun x hx => (h2 x hx).tg
theorem Ti.rs {x : D} (h : Ti 4 x) : Rs 140 5 x := by
  cases h with
  | int n i h => exact .int i h
  | bl n b => exact .bl b
  | str n l h1 h2 => exact .str l h1 h2
  | non n => exact .non
  | lst n xs h1 h2 => exact .lst xs h1 h2
  | tup n xs h1 h2 => exact .tup xs h1 h2
/-- terms, at most h high -/
inductive Tk : Nat → Tm → Prop
  | num (h : Nat) (i : Int) : i.natAbs < 2 ^ 140 → Tk h (.num i)
  | here (h : Nat) : Tk h .here
  | part {h : Nat} {t : Tm} (p : Nat) : Tk h t → Tk (h + 1) (.part t p)
  | count {h : Nat} {t : Tm} : Tk h t → Tk (h + 1) (.count t)
  | sum {h : Nat} {t : Tm} : Tk h t → Tk (h + 1) (.sum t)
  | turned {h : Nat} {t : Tm} : Tk h t → Tk (h + 1) (.turned t)
  | op {h : Nat} (o : Op) {t u : Tm} : Tk h t → Tk h u → Tk (h + 1) (.op o t u)
  | same {h : Nat} {t u : Tm} : Tk h t → Tk h u → Tk (h + 1) (.same t u)
  | nt {h : Nat} {t : Tm} : Tk h t → Tk (h + 1) (.nt t)
  | both {h : Nat} {t u : Tm} : Tk h t → Tk h u → Tk (h + 1) (.both t u)
  | each {h : Nat} {t u : Tm} : Tk h t → Tk h u → Tk (h + 1) (.each t u)
  | joined {h : Nat} {t u : Tm} : Tk h t → Tk h u → Tk (h + 1) (.joined t u)
  | whn {h : Nat} {c t u : Tm} : Tk h c → Tk h t → Tk h u → Tk (h + 1) (.whn c t u)
theorem bnd_sd {o : Oc} {f : D → Oc} {y : D} (h : o.bnd f = .sd y) : ∃ a, o = .sd a ∧ f a = .sd y := by
  cases o with
  | sd a => exact ⟨a, rfl, h⟩
  | as w => exact nomatch h
theorem num_sd {w : List Nat} {a y : D} (h : numE w a = .sd y) : ∃ i, a = .int i ∧ y = .int i := by
  unfold numE at h
  split at h
  · rename_i i; cases h; exact ⟨i, rfl, rfl⟩
  · exact nomatch h
theorem tru_sd {w : List Nat} {a y : D} (h : truE w a = .sd y) : ∃ b, a = .bl b ∧ y = .bl b := by
  unfold truE at h
  split at h
  · rename_i i; cases h; exact ⟨i, rfl, rfl⟩
  · exact nomatch h
theorem allE_sd {f : D → Oc} : ∀ {xs : List D} {y : D}, allE f xs = .sd y → ∃ b, y = .bl b
  | [], y, h => by cases h; exact ⟨_, rfl⟩
  | x :: r, y, h => by
    simp only [allE] at h
    split at h
    · exact nomatch h
    · exact allE_sd h
    · cases h; exact ⟨_, rfl⟩
theorem sum_ti {n M : Nat} : ∀ {xs : List D} {ns : List Int}, intsOf xs = some ns → (∀ x ∈ xs, Ti 3 x) → ns.sum.natAbs ≤ xs.length * 2 ^ 140
  | [], ns, h, _ => by simp [intsOf] at h; subst h; simp
  | x :: xs, ns, h, hx => by
    cases hx x (by simp) with
    | int _ i hi =>
      simp only [intsOf] at h
      obtain ⟨ms, h1, h2⟩ : ∃ ms, intsOf xs = some ms ∧ ns = i :: ms := by
        cases e : intsOf xs with
        | none => rw [e] at h; exact nomatch h
        | some ms => rw [e] at h; exact ⟨ms, rfl, by simpa using h.symm⟩
      subst h2
      have ih := sum_ti (n := n) (M := M) h1 fun y hy => hx y (by simp [hy])
      rw [List.sum_cons, List.length_cons, Nat.add_mul, Nat.one_mul]
      have := Int.natAbs_add_le i ms.sum
      omega
    | _ => simp [intsOf] at h
theorem two_le (h : Nat) : 1 ≤ 2 ^ h := Nat.one_le_two_pow
theorem ev_rs {h : Nat} {t : Tm} (k : Tk h t) : ∀ x y, Ti 4 x → ev t x = .sd y → Rs (140 * 2 ^ h) (5 * 2 ^ h) y := by
  induction k with
  | num h i hi =>
    intro x y hx e
    have := two_le h
    cases e
    exact (Rs.int (M := 140) (L := 0) i hi).up (by omega) (by omega)
  | here h =>
    intro x y hx e
    have := two_le h
    cases e
    exact hx.rs.up (by omega) (by omega)
  | @part h t p k ih =>
    intro x y hx e
    have h1 := two_le h
    have hp : 2 ^ (h + 1) = 2 ^ h + 2 ^ h := by rw [Nat.pow_succ]; omega
    obtain ⟨a, ea, e⟩ := bnd_sd e
    have sub : ∀ xs : List D, (∀ x ∈ xs, Ti 3 x) → partL p xs = .sd y → Rs (140 * 2 ^ (h + 1)) (5 * 2 ^ (h + 1)) y := fun xs hs e => by
      unfold partL at e
      split at e
      · rename_i z hz
        cases e
        exact ((hs _ (List.mem_of_getElem? hz)).up 4 (by omega)).rs.up (by omega) (by omega)
      · exact nomatch e
    cases ih x a hx ea with
    | lst xs h1 h2 => exact sub xs h2 e
    | tup xs h1 h2 => exact sub xs h2 e
    | _ => exact nomatch e
  | @count h t k ih =>
    intro x y hx e
    have hp : 2 ^ (h + 1) = 2 ^ h + 2 ^ h := by rw [Nat.pow_succ]; omega
    obtain ⟨a, ea, e⟩ := bnd_sd e
    have big : ∀ n : Nat, n ≤ 140 * 2 ^ h → Rs (140 * 2 ^ (h + 1)) (5 * 2 ^ (h + 1)) (.int n) := fun n hn => .int _ (by
      have : n < 2 ^ n := Nat.lt_two_pow_self
      have h2 := Nat.pow_le_pow_right (n := 2) (by omega) (show n ≤ 140 * 2 ^ (h + 1) by omega)
      simp only [Int.natAbs_natCast]
      omega)
    cases ih x a hx ea with
    | lst xs h1 h2 => cases e; exact big _ (by omega)
    | tup xs h1 h2 => cases e; exact big _ (by omega)
    | str l h1 h2 => cases e; rw [St_len]; exact big _ h1
    | _ => exact nomatch e
  | @sum h t k ih =>
    intro x y hx e
    have h0 := two_le h
    have hp : 2 ^ (h + 1) = 2 ^ h + 2 ^ h := by rw [Nat.pow_succ]; omega
    obtain ⟨a, ea, e⟩ := bnd_sd e
    have sub : ∀ xs : List D, xs.length ≤ 5 * 2 ^ h → (∀ x ∈ xs, Ti 3 x) → sumL xs = .sd y → Rs (140 * 2 ^ (h + 1)) (5 * 2 ^ (h + 1)) y := fun xs hl hs e => by
      unfold sumL at e
      split at e
      · rename_i ns hn
        cases e
        have s1 := sum_ti (n := 0) (M := 0) hn hs
        refine .int _ (Nat.lt_of_le_of_lt s1 ?_)
        have a1 : xs.length < 2 ^ (5 * 2 ^ h) := Nat.lt_of_le_of_lt hl Nat.lt_two_pow_self
        have a2 : xs.length * 2 ^ 140 < 2 ^ (5 * 2 ^ h) * 2 ^ 140 := Nat.mul_lt_mul_of_pos_right a1 (Nat.two_pow_pos _)
        rw [← Nat.pow_add] at a2
        exact Nat.lt_of_lt_of_le a2 (Nat.pow_le_pow_right (by omega) (by omega))
      · exact nomatch e
    cases ih x a hx ea with
    | lst xs h1 h2 => exact sub xs h1 h2 e
    | tup xs h1 h2 => exact sub xs h1 h2 e
    | _ => exact nomatch e
  | @turned h t k ih =>
    intro x y hx e
    have hp : 2 ^ (h + 1) = 2 ^ h + 2 ^ h := by rw [Nat.pow_succ]; omega
    obtain ⟨a, ea, e⟩ := bnd_sd e
    cases ih x a hx ea with
    | lst xs h1 h2 => cases e; exact .lst _ (by rw [List.length_reverse]; omega) fun x hx => h2 x (by simpa using hx)
    | tup xs h1 h2 => cases e; exact .tup _ (by rw [List.length_reverse]; omega) fun x hx => h2 x (by simpa using hx)
    | str l h1 h2 =>
      cases e
      have : L2.revS (St l) = St l.reverse := by simp [L2.revS, St]
      rw [this]
      exact .str _ (by rw [List.length_reverse]; omega) fun x hx => h2 x (by simpa using hx)
    | _ => exact nomatch e
  | @op h o t u k1 k2 ih1 ih2 =>
    intro x y hx e
    have h0 := two_le h
    have hp : 2 ^ (h + 1) = 2 ^ h + 2 ^ h := by rw [Nat.pow_succ]; omega
    obtain ⟨a, ea0, e⟩ := bnd_sd e
    obtain ⟨a', ea, e2⟩ := bnd_sd ea0
    obtain ⟨i, rfl, rfl⟩ := num_sd e2
    obtain ⟨b, eb0, e⟩ := bnd_sd e
    obtain ⟨b', eb, e3⟩ := bnd_sd eb0
    obtain ⟨j, rfl, rfl⟩ := num_sd e3
    cases ih1 x _ hx ea with | int _ h1 =>
    cases ih2 x _ hx eb with | int _ h2 =>
    have hpp : 2 ^ (140 * 2 ^ (h + 1)) = 2 ^ (140 * 2 ^ h) * 2 ^ (140 * 2 ^ h) := by rw [← Nat.pow_add]; congr 1; omega
    obtain ⟨P, hP⟩ : ∃ P, 2 ^ (140 * 2 ^ h) = P := ⟨_, rfl⟩
    rw [hP] at h1 h2 hpp
    have hP2 : 2 ≤ P := by
      rw [← hP]
      exact Nat.le_trans (by decide : 2 ≤ 2 ^ 1) (Nat.pow_le_pow_right (by omega) (by omega))
    have hPP : P * 2 ≤ P * P := Nat.mul_le_mul_left P hP2
    cases o with
    | plus =>
      cases e
      refine .int _ ?_
      rw [hpp]
      have := Int.natAbs_add_le i j
      omega
    | times =>
      cases e
      refine .int _ ?_
      rw [hpp, Int.natAbs_mul]
      exact Nat.mul_lt_mul_of_lt_of_le h1 (Nat.le_of_lt h2) (by omega)
    | less => cases e; exact .bl _
  | @same h t u k1 k2 ih1 ih2 =>
    intro x y hx e
    obtain ⟨a, ea, e⟩ := bnd_sd e
    obtain ⟨b, eb, e⟩ := bnd_sd e
    cases e
    exact .bl _
  | @nt h t k ih =>
    intro x y hx e
    obtain ⟨a, ea, e⟩ := bnd_sd e
    obtain ⟨a', ea, e2⟩ := bnd_sd ea
    obtain ⟨b, rfl, rfl⟩ := tru_sd e2
    cases e
    exact .bl _
  | @both h t u k1 k2 ih1 ih2 =>
    intro x y hx e
    obtain ⟨a, ea, e⟩ := bnd_sd e
    obtain ⟨a', ea, e2⟩ := bnd_sd ea
    obtain ⟨b, rfl, rfl⟩ := tru_sd e2
    cases b with
    | false => cases e; exact .bl _
    | true =>
      obtain ⟨c, ec, e⟩ := bnd_sd e
      obtain ⟨b, rfl, rfl⟩ := tru_sd e
      exact .bl _
  | @each h t u k1 k2 ih1 ih2 =>
    intro x y hx e
    obtain ⟨a, ea, e⟩ := bnd_sd e
    obtain ⟨b, rfl⟩ := allE_sd e
    exact .bl _
  | @joined h t u k1 k2 ih1 ih2 =>
    intro x y hx e
    have hp : 2 ^ (h + 1) = 2 ^ h + 2 ^ h := by rw [Nat.pow_succ]; omega
    obtain ⟨a, ea, e⟩ := bnd_sd e
    obtain ⟨a', ea, e2⟩ := bnd_sd ea
    obtain ⟨b, eb, e⟩ := bnd_sd e
    have ra := ih1 x a' hx ea
    have rb := ih2 x b hx eb
    cases ra with
    | lst xs h1 h2 =>
      cases e2
      cases rb with
      | lst ys h3 h4 =>
        cases e
        refine .lst _ (by rw [List.length_append]; omega) fun x hx => ?_
        rcases List.mem_append.mp hx with hx | hx
        · exact h2 x hx
        · exact h4 x hx
      | _ => exact nomatch e
    | str l h1 h2 =>
      cases e2
      cases rb with
      | str m h3 h4 =>
        cases e
        rw [show St l ++ St m = St (l ++ m) from St_cat l m]
        refine .str _ (by rw [List.length_append]; omega) fun x hx => ?_
        rcases List.mem_append.mp hx with hx | hx
        · exact h2 x hx
        · exact h4 x hx
      | _ => exact nomatch e
    | _ => exact nomatch e2
  | @whn h c t u k1 k2 k3 ih1 ih2 ih3 =>
    intro x y hx e
    have hp : 2 ^ (h + 1) = 2 ^ h + 2 ^ h := by rw [Nat.pow_succ]; omega
    obtain ⟨a, ea, e⟩ := bnd_sd e
    obtain ⟨a', ea, e2⟩ := bnd_sd ea
    obtain ⟨b, rfl, rfl⟩ := tru_sd e2
    cases b with
    | true => exact (ih2 x y hx e).up (by omega) (by omega)
    | false => exact (ih3 x y hx e).up (by omega) (by omega)
end Law

/-! GTs: the program says of a thing what the term says: the parts. -/
namespace Law
open PySem L2 Gs
def ocR : Oc → Sto → R D
  | .sd y, s => .ok y s
  | .as w, s => .exc (ast w) s
theorem ocR_ne {o : Oc} {s : Sto} : ocR o s ≠ .stk := by cases o <;> simp [ocR]
section
variable {n : Nat} {t u x : D} {s : Sto} {w : List Nat} {o p : Oc}
theorem num_gen (h : S_spoken n [t, x] s = ocR o s) (hg : ∀ y, o = .sd y → Tg 4 y) : S_number_said (n + 1) [t, x, .str (St w)] s = ocR (o.bnd (numE w)) s := by
  show U_number_said _ _ _ _ _ _ _ _ _ _ = _
  cases o with
  | as v =>
    simp only [ocR, Oc.bnd] at h ⊢
    apply runG_exc
    simp [h]
    first | rfl | exact ⟨rfl, rfl⟩
  | sd y =>
    have ht := hg y rfl
    have e1 := isnum_val ht s
    have e2 := fit_yes (.str (St w)) y s
    have e3 := fit_no w y s
    simp only [ocR, Oc.bnd] at h ⊢
    cases ht with
    | int _ i =>
      simp only [kd] at e1
      simp only [numE, ocR]
      apply runG_rt
      simp [h, e1, e2]
    | _ =>
      simp only [kd] at e1
      simp only [numE, ocR]
      apply runG_exc
      simp [h, e1, e3]
      first | rfl | exact ⟨rfl, rfl⟩
theorem tru_gen (h : S_spoken n [t, x] s = ocR o s) (hg : ∀ y, o = .sd y → Tg 4 y) : S_truth_said (n + 1) [t, x, .str (St w)] s = ocR (o.bnd (truE w)) s := by
  show U_truth_said _ _ _ _ _ _ _ _ _ _ = _
  cases o with
  | as v =>
    simp only [ocR, Oc.bnd] at h ⊢
    apply runG_exc
    simp [h]
    first | rfl | exact ⟨rfl, rfl⟩
  | sd y =>
    have ht := hg y rfl
    have e2 := fit_yes (.str (St w)) y s
    have e3 := fit_no w y s
    simp only [ocR, Oc.bnd] at h ⊢
    cases ht with
    | bl _ i =>
      simp only [truE, ocR]
      apply runG_rt
      simp [h, tyN, isTy, e2]
    | _ =>
      simp only [truE, ocR]
      apply runG_exc
      simp [h, tyN, isTy, e3]
      first | rfl | exact ⟨rfl, rfl⟩
theorem row_gen (h : S_spoken n [t, x] s = ocR o s) (hg : ∀ y, o = .sd y → Tg 4 y) : S_row_said (n + 1) [t, x, .str (St w)] s = ocR (o.bnd (rowE w)) s := by
  show U_row_said _ _ _ _ _ _ _ _ _ _ = _
  cases o with
  | as v =>
    simp only [ocR, Oc.bnd] at h ⊢
    apply runG_exc
    simp [h]
    first | rfl | exact ⟨rfl, rfl⟩
  | sd y =>
    have ht := hg y rfl
    have e1 := isrow_val ht s
    have e2 := fit_yes (.str (St w)) y s
    have e3 := fit_no w y s
    simp only [ocR, Oc.bnd] at h ⊢
    cases ht with
    | lst _ xs h1 h2 =>
      simp only [kd] at e1
      simp only [rowE, ocR]
      apply runG_rt
      simp [h, e1, e2]
    | tup _ xs h1 h2 =>
      simp only [kd] at e1
      simp only [rowE, ocR]
      apply runG_rt
      simp [h, e1, e2]
    | _ =>
      simp only [kd] at e1
      simp only [rowE, ocR]
      apply runG_exc
      simp [h, e1, e3]
      first | rfl | exact ⟨rfl, rfl⟩
theorem isrow_sc {y : D} (ht : Tg 4 y) (h : kd y < 4) (s : Sto) : S_is_row [y] s = .ok (.bl false) s := by
  rw [isrow_val ht s, decide_eq_false (by omega)]
theorem inn_w (hw : w = wCount ∨ w = wSum ∨ w = wTurned) (n : Nat) {y : D} (h : S_spoken n [t, x] s = .ok y s) : (S_inner_terms [tm w t] s).bind (fun z s1 => (R.ofO (gIx (rsv s1 z) (.int 0)) s1).bind fun z s2 => S_spoken n [z, x] s2) = .ok y s := by
  rw [inn_one hw t s]
  simpa using h
theorem count_gen (h : S_spoken n [t, x] s = ocR o s) (hg : ∀ y, o = .sd y → Tg 4 y) : S_of_a_row (n + 1) [tm wCount t, x] s = ocR (o.bnd countE) s := by
  have e1 := inn_one (w := wCount) (.inl rfl) t s
  simp only [tm, wCount] at e1
  cases o with
  | as v =>
    simp only [ocR, Oc.bnd] at h ⊢
    show U_of_a_row _ _ _ _ _ _ _ _ _ _ = _
    apply runG_exc
    simp [tm, wCount, e1, h]
    first | rfl | exact ⟨rfl, rfl⟩
  | sd y =>
    have ht := hg y rfl
    have e2 := isrow_val ht s
    have e3 := fit_yes (.str (St wCount)) y s
    have e4 := fit_no wCount y s
    simp only [ocR, Oc.bnd] at h ⊢
    simp only [wCount] at e3 e4
    show U_of_a_row _ _ _ _ _ _ _ _ _ _ = _
    cases ht with
    | lst _ xs h1 h2 =>
      have l1 : xs.length ≤ sizeLine := small_line (by omega)
      simp only [kd] at e2
      simp only [countE, ocR]
      apply runG_rt
      simp [tm, wCount, e1, h, e2, e3, c_count, St_eq, tyN, isTy, l1]
    | tup _ xs h1 h2 =>
      have l1 : xs.length ≤ sizeLine := small_line (by omega)
      simp only [kd] at e2
      simp only [countE, ocR]
      apply runG_rt
      simp [tm, wCount, e1, h, e2, e3, c_count, St_eq, tyN, isTy, l1]
    | str _ l h1 h2 =>
      have l1 : l.length ≤ sizeLine := small_line (by omega)
      simp only [countE, ocR]
      apply runG_rt
      simp [tm, wCount, e1, h, c_count, c_turned, St_eq, tyN, isTy, gIn, strsOf, l1]
    | _ =>
      simp only [kd] at e2
      simp only [countE, ocR]
      apply runG_exc
      simp [tm, wCount, e1, h, e2, e4, c_count, St_eq, tyN, isTy]
      first | rfl | exact ⟨rfl, rfl⟩
theorem turned_gen (h : S_spoken n [t, x] s = ocR o s) (hg : ∀ y, o = .sd y → Tg 4 y) : S_of_a_row (n + 1) [tm wTurned t, x] s = ocR (o.bnd turnE) s := by
  have e1 := inn_one (w := wTurned) (.inr (.inr rfl)) t s
  simp only [tm, wTurned] at e1
  cases o with
  | as v =>
    simp only [ocR, Oc.bnd] at h ⊢
    show U_of_a_row _ _ _ _ _ _ _ _ _ _ = _
    apply runG_exc
    simp [tm, wTurned, e1, h]
    first | rfl | exact ⟨rfl, rfl⟩
  | sd y =>
    have ht := hg y rfl
    have e2 := isrow_val ht s
    have e3 := fit_yes (.str (St wTurned)) y s
    have e4 := fit_no wTurned y s
    simp only [ocR, Oc.bnd] at h ⊢
    simp only [wTurned] at e3 e4
    show U_of_a_row _ _ _ _ _ _ _ _ _ _ = _
    cases ht with
    | lst _ xs h1 h2 =>
      simp only [kd] at e2
      simp only [turnE, ocR]
      apply runG_rt
      simp [tm, wTurned, e1, h, e2, e3, c_count, c_turned, St_eq, tyN, isTy]
    | tup _ xs h1 h2 =>
      simp only [kd] at e2
      simp only [turnE, ocR]
      apply runG_rt
      simp [tm, wTurned, e1, h, e2, e3, c_count, c_turned, St_eq, tyN, isTy]
    | str _ l h1 h2 =>
      have l1 : l.length ≤ sizeLine := small_line (by omega)
      simp only [turnE, ocR]
      apply runG_rt
      simp [tm, wTurned, e1, h, c_count, c_turned, St_eq, tyN, isTy, gIn, strsOf, l1]
    | _ =>
      simp only [kd] at e2
      simp only [turnE, ocR]
      apply runG_exc
      simp [tm, wTurned, e1, h, e2, e4, c_count, c_turned, St_eq, tyN, isTy]
      first | rfl | exact ⟨rfl, rfl⟩
theorem nums_some : ∀ {xs : List D}, (∀ x ∈ xs, Tg 3 x) → (intsOf xs).isSome = xs.all fun x => decide (kd x = 0)
  | [], _ => rfl
  | x :: xs, h => by
    have ih := nums_some fun y hy => h y (List.mem_cons_of_mem _ hy)
    rw [List.all_cons, ← ih]
    cases h x (by simp) with
    | int _ i =>
      have k0 : kd (.int i) = 0 := rfl
      rw [k0]
      simp only [intsOf, decide_true, Bool.true_and]
      cases intsOf xs <;> rfl
    | _ => simp [intsOf, kd]
theorem sum_gen (h : S_spoken n [t, x] s = ocR o s) (hg : ∀ y, o = .sd y → Tg 4 y) : S_of_a_row (n + 1) [tm wSum t, x] s = ocR (o.bnd sumE) s := by
  have e1 := inn_one (w := wSum) (.inr (.inl rfl)) t s
  simp only [tm, wSum] at e1
  cases o with
  | as v =>
    simp only [ocR, Oc.bnd] at h ⊢
    show U_of_a_row _ _ _ _ _ _ _ _ _ _ = _
    apply runG_exc
    simp [tm, wSum, e1, h]
    first | rfl | exact ⟨rfl, rfl⟩
  | sd y =>
    have ht := hg y rfl
    have e2 := isrow_val ht s
    have e3 := fit_yes (.str (St wSum)) y s
    have e4 := fit_no wSum y s
    simp only [ocR, Oc.bnd] at h ⊢
    simp only [wSum] at e3 e4
    show U_of_a_row _ _ _ _ _ _ _ _ _ _ = _
    have lc : ∀ (xs : List D) (δ : Sl), (∀ x ∈ xs, Tg 3 x) → 4 < δ.length → lcD (.nm 4) tTrue (eCall S_is_number (aCons (eV 4) aNil)) δ xs s = .ok (xs.map fun x => D.bl (decide (kd x = 0))) s := fun xs δ hx hl => by
      have := lcD_mapL (p := .nm 4) (c := tTrue) (e := eCall S_is_number (aCons (eV 4) aNil)) (δ := δ) (s := s) (fun x : D => x) (fun x => D.bl (decide (kd x = 0))) xs fun x hm => ⟨_, by simp; rfl, by simp, by
        have e := isnum_val (hx x hm) s
        simp [hl, e]⟩
      simpa using this
    cases ht with
    | lst _ xs h1 h2 =>
      have l1 : xs.length ≤ sizeLine := small_line (by omega)
      have e5 := fun δ hl => lc xs δ h2 hl
      have e6 := all_map xs fun x => decide (kd x = 0)
      have e7 := nums_some h2
      simp only [kd] at e2
      simp only [sumE, sumL]
      cases ei : intsOf xs with
      | none =>
        rw [ei] at e7
        rw [← e7] at e6
        simp only [ocR]
        apply runG_exc
        simp [tm, wSum, e1, h, e2, e3, c_count, c_turned, c_part, St_eq, tyN, isTy, e5, e6, wipeD, l1, e4]
        first | rfl | exact ⟨rfl, rfl⟩
      | some ns =>
        rw [ei] at e7
        rw [← e7] at e6
        simp only [ocR]
        apply runG_rt
        simp [tm, wSum, e1, h, e2, e3, c_count, c_turned, c_part, St_eq, tyN, isTy, e5, e6, wipeD, l1, ei]
    | tup _ xs h1 h2 =>
      have l1 : xs.length ≤ sizeLine := small_line (by omega)
      have e5 := fun δ hl => lc xs δ h2 hl
      have e6 := all_map xs fun x => decide (kd x = 0)
      have e7 := nums_some h2
      simp only [kd] at e2
      simp only [sumE, sumL]
      cases ei : intsOf xs with
      | none =>
        rw [ei] at e7
        rw [← e7] at e6
        simp only [ocR]
        apply runG_exc
        simp [tm, wSum, e1, h, e2, e3, c_count, c_turned, c_part, St_eq, tyN, isTy, e5, e6, wipeD, l1, e4]
        first | rfl | exact ⟨rfl, rfl⟩
      | some ns =>
        rw [ei] at e7
        rw [← e7] at e6
        simp only [ocR]
        apply runG_rt
        simp [tm, wSum, e1, h, e2, e3, c_count, c_turned, c_part, St_eq, tyN, isTy, e5, e6, wipeD, l1, ei]
    | str _ l h1 h2 =>
      simp only [kd] at e2
      simp only [sumE, ocR]
      apply runG_exc
      simp [tm, wSum, e1, h, e2, e4, c_count, c_turned, St_eq, tyN, isTy, gIn, strsOf]
      first | rfl | exact ⟨rfl, rfl⟩
    | _ =>
      simp only [kd] at e2
      simp only [sumE, ocR]
      apply runG_exc
      simp [tm, wSum, e1, h, e2, e4, c_count, c_turned, St_eq, tyN, isTy]
      first | rfl | exact ⟨rfl, rfl⟩
theorem part_gen (q : Nat) (h : S_spoken n [t, x] s = ocR o s) (hg : ∀ y, o = .sd y → Tg 4 y) : S_of_a_row (n + 1) [tm wPart (.tup [t, .int (q : Int)]), x] s = ocR (o.bnd (partE q)) s := by
  have e1 := inn_part t (.int (q : Int)) s
  cases o with
  | as v =>
    simp only [ocR, Oc.bnd] at h ⊢
    simp only [tm, wPart] at e1
    show U_of_a_row _ _ _ _ _ _ _ _ _ _ = _
    apply runG_exc
    simp [tm, wPart, e1, h]
    first | rfl | exact ⟨rfl, rfl⟩
  | sd y =>
    have ht := hg y rfl
    have e2 := isrow_val ht s
    have e4 := fit_no wPart y s
    simp only [ocR, Oc.bnd] at h ⊢
    cases ht with
    | lst _ xs h1 h2 =>
      simp only [partE, partL]
      cases ez : xs[q]? with
      | some z => exact row_part (.lst xs) h ez
      | none => exact row_past (.lst xs) h (List.getElem?_eq_none_iff.mp ez)
    | tup _ xs h1 h2 =>
      simp only [partE, partL]
      cases ez : xs[q]? with
      | some z => exact row_part (.tup xs) h ez
      | none => exact row_past (.tup xs) h (List.getElem?_eq_none_iff.mp ez)
    | str _ l h1 h2 => exact str_part h
    | _ =>
      simp only [tm, wPart] at e1
      simp only [wPart] at e4
      simp only [kd] at e2
      simp only [partE, ocR]
      show U_of_a_row _ _ _ _ _ _ _ _ _ _ = _
      apply runG_exc
      simp [tm, wPart, e1, h, e2, e4, c_count, c_turned, St_eq, tyN, isTy]
      first | rfl | exact ⟨rfl, rfl⟩
end
end Law

/-! GTu: the program says of a thing what the term says. -/
namespace Law
open PySem L2 Gs
section
variable {n : Nat} {t u x : D} {s : Sto} {o p q : Oc}
theorem op_w (o : Op) : o.w = wPlus ∨ o.w = wTimes ∨ o.w = wLess := by cases o <;> simp [Op.w]
theorem op_gen (k : Op) (hp : ∀ y, p = .sd y → ∃ i, y = .int i) (hq : ∀ y, q = .sd y → ∃ i, y = .int i) (h1 : S_number_said n [t, x, .str (St k.w)] s = ocR p s) (h2 : S_number_said n [u, x, .str (St k.w)] s = ocR q s) (hm : ∀ i j, p = .sd (.int i) → q = .sd (.int j) → IntMulOk i j) : S_of_numbers (n + 1) [tm k.w (.tup [t, u]), x] s = ocR (p.bnd fun a => q.bnd fun b => opE k a b) s := by
  show U_of_numbers _ _ _ _ _ _ _ _ _ _ = _
  cases p with
  | as v =>
    simp only [ocR, Oc.bnd] at h1 ⊢
    apply runG_exc
    simp [tm, h1]
    first | rfl | exact ⟨rfl, rfl⟩
  | sd a =>
    obtain ⟨i, rfl⟩ := hp a rfl
    cases q with
    | as v =>
      simp only [ocR, Oc.bnd] at h1 h2 ⊢
      apply runG_exc
      simp [tm, h1, h2]
      first | rfl | exact ⟨rfl, rfl⟩
    | sd b =>
      obtain ⟨j, rfl⟩ := hq b rfl
      have hm := hm i j rfl rfl
      simp only [ocR, Oc.bnd, opE] at h1 h2 ⊢
      apply runG_rt
      cases k
      · simp only [Op.w, wPlus] at h1 h2
        simp [tm, Op.w, wPlus, wTimes, wLess, c_plus, c_times, St_eq, h1, h2, op2]
      · simp only [Op.w, wTimes] at h1 h2
        simp [tm, Op.w, wPlus, wTimes, wLess, c_plus, c_times, St_eq, h1, h2, op2, hm]
      · simp only [Op.w, wLess] at h1 h2
        simp [tm, Op.w, wPlus, wTimes, wLess, c_plus, c_times, St_eq, h1, h2, op2]
theorem jn_gen (hp : ∀ y, p = .sd y → Rs 20000 5000 y) (hq : ∀ y, q = .sd y → Rs 20000 5000 y) (h1 : S_spoken n [t, x] s = ocR p s) (h2 : S_spoken n [u, x] s = ocR q s) : S_joined_said (n + 1) [tm wJoined (.tup [t, u]), x] s = ocR ((p.bnd jn0).bnd fun a => q.bnd (jnE a)) s := by
  show U_joined_said _ _ _ _ _ _ _ _ _ _ = _
  cases p with
  | as v =>
    simp only [ocR, Oc.bnd] at h1 ⊢
    apply runG_exc
    simp [tm, h1]
    first | rfl | exact ⟨rfl, rfl⟩
  | sd a =>
    have ra := hp a rfl
    have f1 := fit_yes (.str (St wJoined)) a s
    have f2 := fit_no wJoined a s
    simp only [wJoined] at f1 f2
    have two : ∀ (P : jn0 a = .sd a) (hi : ∀ (δ : Sl), gIsi2 "str" "list" a = some (.bl true)), S_joined_said (n + 1) [tm wJoined (.tup [t, u]), x] s = ocR (q.bnd (jnE a)) s := fun P hi => by
      have hi := hi []
      show U_joined_said _ _ _ _ _ _ _ _ _ _ = _
      have ra1 := tg_rsv (ra.tg (by omega) (by omega)) s
      cases q with
      | as v =>
        simp only [ocR, Oc.bnd] at h1 h2 ⊢
        apply runG_exc
        simp only [v_isi2] at hi
        simp [tm, h1, h2, c_joined, f1, hi, ra1]
        first | rfl | exact ⟨rfl, rfl⟩
      | sd b =>
        have rb := hq b rfl
        have rb1 := tg_rsv (rb.tg (by omega) (by omega)) s
        have f3 := fit_yes (.str (St wJoined)) b s
        have f4 := fit_no wJoined b s
        have ek := okind_val (ra.tg (by omega) (by omega)) (rb.tg (by omega) (by omega)) s
        simp only [wJoined] at f3 f4
        simp only [ocR, Oc.bnd] at h1 h2 ⊢
        simp only [v_isi2] at hi
        by_cases hk : kd a = kd b
        · rw [decide_eq_true hk] at ek
          have ho : ∃ d, gAdd a b = some d ∧ jnE a b = .sd d := by
            cases ra with
            | lst xs a1 a2 =>
              cases rb with
              | lst ys b1 b2 => exact ⟨.lst (xs ++ ys), by simp [gAdd, small_line (n := xs.length + ys.length) (by omega)], rfl⟩
              | _ => simp [kd] at hk
            | str l a1 a2 =>
              cases rb with
              | str m b1 b2 => exact ⟨.str (St (l ++ m)), by simp [small_line (n := l.length + m.length) (by omega)], by simp [jnE]⟩
              | _ => simp [kd] at hk
            | _ => simp [jn0] at P
          obtain ⟨d, hd, hj⟩ := ho
          rw [hj]
          simp only [ocR]
          apply runG_rt
          simp [tm, h1, h2, c_joined, f1, f3, hi, ra1, rb1, ek, hd]
        · rw [decide_eq_false hk] at ek
          have ho : jnE a b = .as wJoined := by
            cases ra with
            | lst xs a1 a2 =>
              cases rb with
              | lst ys b1 b2 => simp [kd] at hk
              | _ => rfl
            | str l a1 a2 =>
              cases rb with
              | str m b1 b2 => simp [kd] at hk
              | _ => rfl
            | _ => simp [jn0] at P
          rw [ho]
          simp only [ocR]
          apply runG_exc
          simp [tm, h1, h2, c_joined, f1, f4, hi, ra1, rb1, ek]
          first | rfl | exact ⟨rfl, rfl⟩
    have one : ∀ (P : jn0 a = .as wJoined) (hi : gIsi2 "str" "list" a = some (.bl false)), S_joined_said (n + 1) [tm wJoined (.tup [t, u]), x] s = .exc (ast wJoined) s := fun P hi => by
      have ra1 := tg_rsv (ra.tg (by omega) (by omega)) s
      show U_joined_said _ _ _ _ _ _ _ _ _ _ = _
      simp only [ocR] at h1
      simp only [v_isi2] at hi
      apply runG_exc
      simp [tm, h1, c_joined, f2, hi, ra1]
      first | rfl | exact ⟨rfl, rfl⟩
    show S_joined_said (n + 1) [tm wJoined (.tup [t, u]), x] s = _
    simp only [Oc.bnd]
    cases ra with
    | lst xs a1 a2 => exact two rfl fun _ => by simp [tyN, isTy]
    | str l a1 a2 => exact two rfl fun _ => by simp [tyN, isTy]
    | _ => exact one rfl (by simp [tyN, isTy])
theorem each_lp {y : D} (f : D → Oc) : ∀ (xs : List D) (z : Option D), (∀ x ∈ xs, S_truth_said n [u, x, .str (St wEach)] s = ocR ((f x).bnd (truE wEach)) s) →
    ∃ δ', forD (.nm 2) (L_each_said_0 (S_each_said n) (S_joined_said n) (S_number_said n) (S_of_a_row n) (S_of_numbers n) (S_row_said n) (S_spoken n) (S_truth_said n)) xs [some (tm wEach (.tup [t, u])), some y, z] s =
      match allE (fun z => (f z).bnd (truE wEach)) xs with
      | .as w => .exc (ast w) δ' s
      | .sd (.bl true) => .nx δ' s
      | .sd _ => .rt (.bl false) s
  | [], z, _ => ⟨[some (tm wEach (.tup [t, u])), some y, z], by simp only [forD, allE]⟩
  | x :: r, z, h => by
    have h1 := h x List.mem_cons_self
    obtain ⟨δ', h2⟩ := each_lp f r (some x) fun x hx => h x (List.mem_cons_of_mem _ hx)
    simp only [wEach] at h1
    have hc : (∃ w, (f x).bnd (truE wEach) = .as w) ∨ ∃ b, (f x).bnd (truE wEach) = .sd (.bl b) := by
      cases e : (f x).bnd (truE wEach) with
      | as w => exact .inl ⟨w, rfl⟩
      | sd d =>
        obtain ⟨a, _, e2⟩ := bnd_sd e
        obtain ⟨b, _, rfl⟩ := tru_sd e2
        exact .inr ⟨b, rfl⟩
    rcases hc with ⟨w, e⟩ | ⟨b, e⟩
    · simp only [wEach] at e
      rw [e] at h1
      simp only [ocR] at h1
      refine ⟨[some (tm wEach (.tup [t, u])), some y, some x], ?_⟩
      simp [forD, allE, e, L_each_said_0, tm, c_each, h1, wEach]
    · have e' := e
      simp only [wEach] at e'
      rw [e'] at h1
      simp only [ocR] at h1
      cases b with
      | true =>
        refine ⟨δ', ?_⟩
        have hb : L_each_said_0 (S_each_said n) (S_joined_said n) (S_number_said n) (S_of_a_row n) (S_of_numbers n) (S_row_said n) (S_spoken n) (S_truth_said n) [some (tm wEach (.tup [t, u])), some y, some x] s = .nx [some (tm wEach (.tup [t, u])), some y, some x] s := by
          simp [L_each_said_0, tm, c_each, h1]
        simp only [forD, v_nm, List.set_cons_succ, List.set_cons_zero, hb, allE, e]
        exact h2
      | false =>
        refine ⟨[], ?_⟩
        have hb : L_each_said_0 (S_each_said n) (S_joined_said n) (S_number_said n) (S_of_a_row n) (S_of_numbers n) (S_row_said n) (S_spoken n) (S_truth_said n) [some (tm wEach (.tup [t, u])), some y, some x] s = .rt (.bl false) s := by
          simp [L_each_said_0, tm, c_each, h1]
        simp only [forD, v_nm, List.set_cons_succ, List.set_cons_zero, hb, allE, e]
theorem row_sd {w : List Nat} {a y : D} (h : rowE w a = .sd y) : y = a ∧ ((∃ xs, a = .lst xs) ∨ ∃ xs, a = .tup xs) := by
  unfold rowE at h
  split at h
  · cases h; exact ⟨rfl, .inl ⟨_, rfl⟩⟩
  · cases h; exact ⟨rfl, .inr ⟨_, rfl⟩⟩
  · exact nomatch h
theorem each_gen {f : D → Oc} (hp : ∀ y, p = .sd y → Rw y ∧ (itm y).length ≤ 100000) (h1 : S_row_said n [t, x, .str (St wEach)] s = ocR p s) (h2 : ∀ y, p = .sd y → ∀ z ∈ itm y, S_truth_said n [u, z, .str (St wEach)] s = ocR ((f z).bnd (truE wEach)) s) : S_each_said (n + 1) [tm wEach (.tup [t, u]), x] s = ocR (p.bnd fun a => allE (fun z => (f z).bnd (truE wEach)) (itm a)) s := by
  show U_each_said _ _ _ _ _ _ _ _ _ _ = _
  cases p with
  | as v =>
    simp only [ocR, Oc.bnd, wEach] at h1 ⊢
    apply runG_exc
    simp [tm, wEach, c_each, h1]
    first | rfl | exact ⟨rfl, rfl⟩
  | sd a =>
    obtain ⟨hr, hl⟩ := hp a rfl
    obtain ⟨δ', e2⟩ := each_lp (t := t) (y := x) f (itm a) none (h2 a rfl)
    have l1 : (itm a).length ≤ sizeLine := small_line (by omega)
    simp only [ocR] at h1
    show _ = ocR (allE (fun z => (f z).bnd (truE wEach)) (itm a)) s
    cases e : allE (fun z => (f z).bnd (truE wEach)) (itm a) with
    | as w =>
      rw [e] at e2
      simp only [wEach, tm] at e2 h1
      try simp only [ocR]
      apply runG_exc
      cases hr <;> simp only [itm] at e2 <;> simp [tm, wEach, c_each, h1, e2] <;> first | rfl | exact ⟨rfl, rfl⟩
    | sd d =>
      obtain ⟨b, rfl⟩ := allE_sd e
      rw [e] at e2
      simp only [wEach, tm] at e2 h1
      try simp only [ocR]
      apply runG_rt
      cases b <;> cases hr <;> simp only [itm] at e2 <;> simp [tm, wEach, c_each, h1, e2]
end
end Law

/-! GTv: the program says of a thing what the term says. -/
namespace Law
open PySem L2 Gs
section
variable {n : Nat} {t u x b : D} {s : Sto} {o p q : Oc}
theorem sp_row {w : List Nat} (hw : w = wPart ∨ w = wCount ∨ w = wSum ∨ w = wTurned) (h : S_of_a_row n [tm w b, x] s = ocR o s) : S_spoken (n + 1) [tm w b, x] s = ocR o s := spo_row hw n b x s _ ocR_ne h
theorem sp_op (k : Op) (h : S_of_numbers n [tm k.w b, x] s = ocR o s) : S_spoken (n + 1) [tm k.w b, x] s = ocR o s := spo_num2 (op_w k) n b x s _ ocR_ne h
theorem sp_jn (h : S_joined_said n [tm wJoined b, x] s = ocR o s) : S_spoken (n + 1) [tm wJoined b, x] s = ocR o s := spo_joined _ ocR_ne h
theorem sp_each (h : S_each_said n [tm wEach b, x] s = ocR o s) : S_spoken (n + 1) [tm wEach b, x] s = ocR o s := by
  show U_spoken _ _ _ _ _ _ _ _ _ _ = _
  cases o with
  | as v =>
    simp only [ocR, tm, wEach] at h ⊢
    apply runG_exc
    simp [c_num, c_here, c_part, c_count, c_sum, c_turned, c_plus, c_times, c_less, c_same, c_not, c_both, c_when, c_each, St_eq, gIn, strsOf, h]
    first | rfl | exact ⟨rfl, rfl⟩
  | sd d =>
    simp only [ocR, tm, wEach] at h ⊢
    apply runG_rt
    simp [c_num, c_here, c_part, c_count, c_sum, c_turned, c_plus, c_times, c_less, c_same, c_not, c_both, c_when, c_each, St_eq, gIn, strsOf, h]
theorem sp_not (hp : ∀ y, p = .sd y → ∃ b, y = .bl b) (h : S_truth_said n [b, x, .str (St wNot)] s = ocR p s) : S_spoken (n + 1) [tm wNot b, x] s = ocR (p.bnd ntE) s := by
  show U_spoken _ _ _ _ _ _ _ _ _ _ = _
  cases p with
  | as v =>
    simp only [ocR, Oc.bnd, tm, wNot] at h ⊢
    apply runG_exc
    simp [c_num, c_here, c_part, c_count, c_sum, c_turned, c_plus, c_times, c_less, c_same, c_not, St_eq, gIn, strsOf, h]
    first | rfl | exact ⟨rfl, rfl⟩
  | sd d =>
    obtain ⟨c, rfl⟩ := hp d rfl
    simp only [ocR, Oc.bnd, ntE, tm, wNot] at h ⊢
    apply runG_rt
    simp [c_num, c_here, c_part, c_count, c_sum, c_turned, c_plus, c_times, c_less, c_same, c_not, St_eq, gIn, strsOf, h]
theorem sp_same {m : Nat} (hp : ∀ y, p = .sd y → Tg 4 y) (hq : ∀ y, q = .sd y → Tg 4 y) (h1 : S_spoken n [t, x] s = ocR p s) (h2 : S_spoken n [u, x] s = ocR q s) : S_spoken (n + 1) [tm wSame (.tup [t, u]), x] s = ocR (p.bnd fun a => q.bnd fun b => .sd (.bl (alk 4 a b))) s := by
  show U_spoken _ _ _ _ _ _ _ _ _ _ = _
  cases p with
  | as v =>
    simp only [ocR, Oc.bnd, tm, wSame] at h1 ⊢
    apply runG_exc
    simp [c_num, c_here, c_part, c_count, c_sum, c_turned, c_plus, c_times, c_less, c_same, c_not, St_eq, gIn, strsOf, h1]
    first | rfl | exact ⟨rfl, rfl⟩
  | sd a =>
    cases q with
    | as v =>
      simp only [ocR, Oc.bnd, tm, wSame] at h1 h2 ⊢
      apply runG_exc
      simp [c_num, c_here, c_part, c_count, c_sum, c_turned, c_plus, c_times, c_less, c_same, c_not, St_eq, gIn, strsOf, h1, h2]
      first | rfl | exact ⟨rfl, rfl⟩
    | sd c =>
      have e : S_same 30 [a, c] s = _ := same_val 4 a c s (hp a rfl) (hq c rfl) 25
      simp only [ocR, Oc.bnd, tm, wSame] at h1 h2 ⊢
      apply runG_rt
      simp [c_num, c_here, c_part, c_count, c_sum, c_turned, c_plus, c_times, c_less, c_same, c_not, St_eq, gIn, strsOf, h1, h2, e]
theorem sp_both (hp : ∀ y, p = .sd y → ∃ b, y = .bl b) (hq : ∀ y, q = .sd y → ∃ b, y = .bl b) (h1 : S_truth_said n [t, x, .str (St wBoth)] s = ocR p s) (h2 : S_truth_said n [u, x, .str (St wBoth)] s = ocR q s) : S_spoken (n + 1) [tm wBoth (.tup [t, u]), x] s = ocR (p.bnd (bothE q)) s := by
  show U_spoken _ _ _ _ _ _ _ _ _ _ = _
  cases p with
  | as v =>
    simp only [ocR, Oc.bnd, tm, wBoth] at h1 ⊢
    apply runG_exc
    simp [c_num, c_here, c_part, c_count, c_sum, c_turned, c_plus, c_times, c_less, c_same, c_not, c_both, St_eq, gIn, strsOf, h1]
    first | rfl | exact ⟨rfl, rfl⟩
  | sd a =>
    obtain ⟨c, rfl⟩ := hp a rfl
    cases c with
    | false =>
      simp only [ocR, Oc.bnd, bothE, tm, wBoth] at h1 ⊢
      apply runG_rt
      simp [c_num, c_here, c_part, c_count, c_sum, c_turned, c_plus, c_times, c_less, c_same, c_not, c_both, St_eq, gIn, strsOf, h1]
    | true =>
      cases q with
      | as v =>
        simp only [ocR, Oc.bnd, bothE, tm, wBoth] at h1 h2 ⊢
        apply runG_exc
        simp [c_num, c_here, c_part, c_count, c_sum, c_turned, c_plus, c_times, c_less, c_same, c_not, c_both, St_eq, gIn, strsOf, h1, h2]
        first | rfl | exact ⟨rfl, rfl⟩
      | sd d =>
        obtain ⟨c, rfl⟩ := hq d rfl
        simp only [ocR, Oc.bnd, bothE, tm, wBoth] at h1 h2 ⊢
        apply runG_rt
        simp [c_num, c_here, c_part, c_count, c_sum, c_turned, c_plus, c_times, c_less, c_same, c_not, c_both, St_eq, gIn, strsOf, h1, h2]
theorem sp_when {c : D} (hp : ∀ y, p = .sd y → ∃ b, y = .bl b) (h1 : S_truth_said n [c, x, .str (St wWhen)] s = ocR p s) (h2 : S_spoken n [t, x] s = ocR o s) (h3 : S_spoken n [u, x] s = ocR q s) : S_spoken (n + 1) [tm wWhen (.tup [c, t, u]), x] s = ocR (p.bnd (whnE o q)) s := by
  show U_spoken _ _ _ _ _ _ _ _ _ _ = _
  cases p with
  | as v =>
    simp only [ocR, Oc.bnd, tm, wWhen] at h1 ⊢
    apply runG_exc
    simp [c_num, c_here, c_part, c_count, c_sum, c_turned, c_plus, c_times, c_less, c_same, c_not, c_both, c_when, St_eq, gIn, strsOf, h1]
    first | rfl | exact ⟨rfl, rfl⟩
  | sd a =>
    obtain ⟨c, rfl⟩ := hp a rfl
    cases c with
    | false =>
      cases q with
      | as v =>
        simp only [ocR, Oc.bnd, whnE, tm, wWhen] at h1 h3 ⊢
        apply runG_exc
        simp [c_num, c_here, c_part, c_count, c_sum, c_turned, c_plus, c_times, c_less, c_same, c_not, c_both, c_when, St_eq, gIn, strsOf, h1, h3]
        first | rfl | exact ⟨rfl, rfl⟩
      | sd d =>
        simp only [ocR, Oc.bnd, whnE, tm, wWhen] at h1 h3 ⊢
        apply runG_rt
        simp [c_num, c_here, c_part, c_count, c_sum, c_turned, c_plus, c_times, c_less, c_same, c_not, c_both, c_when, St_eq, gIn, strsOf, h1, h3]
    | true =>
      cases o with
      | as v =>
        simp only [ocR, Oc.bnd, whnE, tm, wWhen] at h1 h2 ⊢
        apply runG_exc
        simp [c_num, c_here, c_part, c_count, c_sum, c_turned, c_plus, c_times, c_less, c_same, c_not, c_both, c_when, St_eq, gIn, strsOf, h1, h2]
        first | rfl | exact ⟨rfl, rfl⟩
      | sd d =>
        simp only [ocR, Oc.bnd, whnE, tm, wWhen] at h1 h2 ⊢
        apply runG_rt
        simp [c_num, c_here, c_part, c_count, c_sum, c_turned, c_plus, c_times, c_less, c_same, c_not, c_both, c_when, St_eq, gIn, strsOf, h1, h2]
end
theorem pow_6 {h : Nat} (hh : h ≤ 7) : 2 ^ h ≤ 128 := Nat.le_trans (Nat.pow_le_pow_right (by omega) hh) (by decide)
theorem ev_tg {h : Nat} {t : Tm} (k : Tk h t) (hh : h ≤ 7) {x y : D} (hx : Ti 4 x) (e : ev t x = .sd y) : Tg 4 y := by
  have := pow_6 hh
  exact (ev_rs k x y hx e).tg (by omega) (by omega)
theorem ev_rs6 {h : Nat} {t : Tm} (k : Tk h t) (hh : h ≤ 7) {x y : D} (hx : Ti 4 x) (e : ev t x = .sd y) : Rs 20000 5000 y := by
  have := pow_6 hh
  exact (ev_rs k x y hx e).up (by omega) (by omega)
theorem bnd_num {o : Oc} {w : List Nat} : ∀ y, o.bnd (numE w) = .sd y → ∃ i, y = .int i := fun y e => by
  obtain ⟨a, _, e⟩ := bnd_sd e
  obtain ⟨i, _, rfl⟩ := num_sd e
  exact ⟨i, rfl⟩
theorem bnd_tru {o : Oc} {w : List Nat} : ∀ y, o.bnd (truE w) = .sd y → ∃ i, y = .bl i := fun y e => by
  obtain ⟨a, _, e⟩ := bnd_sd e
  obtain ⟨i, _, rfl⟩ := tru_sd e
  exact ⟨i, rfl⟩
theorem spoken_val {h : Nat} {t : Tm} (k : Tk h t) : h ≤ 7 → ∀ (x : D) (s : Sto) (m : Nat), Ti 4 x → S_spoken (m + 3 * h + 1) [tmD t, x] s = ocR (ev t x) s := by
  induction k with
  | num h i hi => exact fun _ x s m _ => spo_num _ _ x s
  | here h => exact fun _ x s m _ => spo_here _ _ x s
  | @part h t p k ih =>
    intro hh x s m hx
    have e : S_spoken (m + 1 + 3 * h + 1) [tmD t, x] s = ocR (ev t x) s := ih (by omega) x s (m + 1) hx
    have := sp_row (w := wPart) (.inl rfl) (part_gen p e fun y => ev_tg k (by omega) hx)
    rw [show m + 3 * (h + 1) + 1 = m + 1 + 3 * h + 1 + 1 + 1 by omega]
    exact this
  | @count h t k ih =>
    intro hh x s m hx
    have e : S_spoken (m + 1 + 3 * h + 1) [tmD t, x] s = ocR (ev t x) s := ih (by omega) x s (m + 1) hx
    have := sp_row (w := wCount) (.inr (.inl rfl)) (count_gen e fun y => ev_tg k (by omega) hx)
    rw [show m + 3 * (h + 1) + 1 = m + 1 + 3 * h + 1 + 1 + 1 by omega]
    exact this
  | @sum h t k ih =>
    intro hh x s m hx
    have e : S_spoken (m + 1 + 3 * h + 1) [tmD t, x] s = ocR (ev t x) s := ih (by omega) x s (m + 1) hx
    have := sp_row (w := wSum) (.inr (.inr (.inl rfl))) (sum_gen e fun y => ev_tg k (by omega) hx)
    rw [show m + 3 * (h + 1) + 1 = m + 1 + 3 * h + 1 + 1 + 1 by omega]
    exact this
  | @turned h t k ih =>
    intro hh x s m hx
    have e : S_spoken (m + 1 + 3 * h + 1) [tmD t, x] s = ocR (ev t x) s := ih (by omega) x s (m + 1) hx
    have := sp_row (w := wTurned) (.inr (.inr (.inr rfl))) (turned_gen e fun y => ev_tg k (by omega) hx)
    rw [show m + 3 * (h + 1) + 1 = m + 1 + 3 * h + 1 + 1 + 1 by omega]
    exact this
  | @op h o t u k1 k2 ih1 ih2 =>
    intro hh x s m hx
    have e1 : S_spoken (m + 3 * h + 1) [tmD t, x] s = ocR (ev t x) s := ih1 (by omega) x s m hx
    have e2 : S_spoken (m + 3 * h + 1) [tmD u, x] s = ocR (ev u x) s := ih2 (by omega) x s m hx
    have n1 := num_gen (w := o.w) e1 fun y => ev_tg k1 (by omega) hx
    have n2 := num_gen (w := o.w) e2 fun y => ev_tg k2 (by omega) hx
    have := sp_op o (op_gen o bnd_num bnd_num n1 n2 fun i j a b => by
      obtain ⟨a', ea, e3⟩ := bnd_sd a
      obtain ⟨i', rfl, e4⟩ := num_sd e3
      cases e4
      obtain ⟨b', eb, e5⟩ := bnd_sd b
      obtain ⟨j', rfl, e6⟩ := num_sd e5
      cases e6
      cases ev_rs6 k1 (by omega) hx ea with | int _ h1 =>
      cases ev_rs6 k2 (by omega) hx eb with | int _ h2 =>
      exact mul_fits h1 h2 (by omega))
    rw [show m + 3 * (h + 1) + 1 = m + 3 * h + 1 + 1 + 1 + 1 by omega]
    exact this
  | @same h t u k1 k2 ih1 ih2 =>
    intro hh x s m hx
    have e1 : S_spoken (m + 2 + 3 * h + 1) [tmD t, x] s = ocR (ev t x) s := ih1 (by omega) x s (m + 2) hx
    have e2 : S_spoken (m + 2 + 3 * h + 1) [tmD u, x] s = ocR (ev u x) s := ih2 (by omega) x s (m + 2) hx
    have := sp_same (m := 0) (fun y => ev_tg k1 (by omega) hx) (fun y => ev_tg k2 (by omega) hx) e1 e2
    rw [show m + 3 * (h + 1) + 1 = m + 2 + 3 * h + 1 + 1 by omega]
    exact this
  | @nt h t k ih =>
    intro hh x s m hx
    have e : S_spoken (m + 1 + 3 * h + 1) [tmD t, x] s = ocR (ev t x) s := ih (by omega) x s (m + 1) hx
    have := sp_not bnd_tru (tru_gen (w := wNot) e fun y => ev_tg k (by omega) hx)
    rw [show m + 3 * (h + 1) + 1 = m + 1 + 3 * h + 1 + 1 + 1 by omega]
    exact this
  | @both h t u k1 k2 ih1 ih2 =>
    intro hh x s m hx
    have e1 : S_spoken (m + 1 + 3 * h + 1) [tmD t, x] s = ocR (ev t x) s := ih1 (by omega) x s (m + 1) hx
    have e2 : S_spoken (m + 1 + 3 * h + 1) [tmD u, x] s = ocR (ev u x) s := ih2 (by omega) x s (m + 1) hx
    have := sp_both bnd_tru bnd_tru (tru_gen (w := wBoth) e1 fun y => ev_tg k1 (by omega) hx) (tru_gen (w := wBoth) e2 fun y => ev_tg k2 (by omega) hx)
    rw [show m + 3 * (h + 1) + 1 = m + 1 + 3 * h + 1 + 1 + 1 by omega]
    exact this
  | @each h t u k1 k2 ih1 ih2 =>
    intro hh x s m hx
    have e1 : S_spoken (m + 3 * h + 1) [tmD t, x] s = ocR (ev t x) s := ih1 (by omega) x s m hx
    have := sp_each (each_gen (f := fun z => ev (u) z) (t := tmD t) (u := tmD u) (fun y e => by
      obtain ⟨a, ea, e⟩ := bnd_sd e
      obtain ⟨rfl, hr⟩ := row_sd e
      have r := ev_rs6 k1 (by omega) hx ea
      cases r with
      | lst xs h1 _ => exact ⟨.lst xs, by show xs.length ≤ _; omega⟩
      | tup xs h1 _ => exact ⟨.tup xs, by show xs.length ≤ _; omega⟩
      | _ => rcases hr with ⟨xs, q⟩ | ⟨xs, q⟩ <;> exact nomatch q) (row_gen (w := wEach) e1 fun y => ev_tg k1 (by omega) hx) fun y e z hz => by
      obtain ⟨a, ea, e⟩ := bnd_sd e
      obtain ⟨rfl, hr⟩ := row_sd e
      have r := ev_rs6 k1 (by omega) hx ea
      have hz4 : Ti 4 z := by
        cases r with
        | lst xs h1 h2 => exact (h2 z hz).up 4 (by omega)
        | tup xs h1 h2 => exact (h2 z hz).up 4 (by omega)
        | _ => rcases hr with ⟨xs, q⟩ | ⟨xs, q⟩ <;> exact nomatch q
      exact tru_gen (w := wEach) (ih2 (by omega) z s m hz4) fun y => ev_tg k2 (by omega) hz4)
    rw [show m + 3 * (h + 1) + 1 = m + 3 * h + 1 + 1 + 1 + 1 by omega]
    exact this
  | @joined h t u k1 k2 ih1 ih2 =>
    intro hh x s m hx
    have e1 : S_spoken (m + 1 + 3 * h + 1) [tmD t, x] s = ocR (ev t x) s := ih1 (by omega) x s (m + 1) hx
    have e2 : S_spoken (m + 1 + 3 * h + 1) [tmD u, x] s = ocR (ev u x) s := ih2 (by omega) x s (m + 1) hx
    have := sp_jn (jn_gen (fun y => ev_rs6 k1 (by omega) hx) (fun y => ev_rs6 k2 (by omega) hx) e1 e2)
    rw [show m + 3 * (h + 1) + 1 = m + 1 + 3 * h + 1 + 1 + 1 by omega]
    exact this
  | @whn h c t u k1 k2 k3 ih1 ih2 ih3 =>
    intro hh x s m hx
    have e1 : S_spoken (m + 1 + 3 * h + 1) [tmD c, x] s = ocR (ev c x) s := ih1 (by omega) x s (m + 1) hx
    have e2 : S_spoken (m + 2 + 3 * h + 1) [tmD t, x] s = ocR (ev t x) s := ih2 (by omega) x s (m + 2) hx
    have e3 : S_spoken (m + 2 + 3 * h + 1) [tmD u, x] s = ocR (ev u x) s := ih3 (by omega) x s (m + 2) hx
    have t1 := tru_gen (w := wWhen) e1 fun y => ev_tg k1 (by omega) hx
    rw [show m + 1 + 3 * h + 1 + 1 = m + 2 + 3 * h + 1 by omega] at t1
    have := sp_when bnd_tru t1 e2 e3
    rw [show m + 3 * (h + 1) + 1 = m + 2 + 3 * h + 1 + 1 by omega]
    exact this
end Law

/-! GDu: k55: whether two things are alike, by the law; what its marks can take. -/
namespace Law
open PySem L2 Gs
theorem leaf_ne {m n : Nat} {x y : D} (hx : Tg n x) (hy : Tg m y) (hk : kd x ≠ kd y) (hb : ¬ (kd x = 1 ∧ kd y ≠ 1)) (hb2 : ¬ (kd x ≠ 1 ∧ kd y = 1)) (hn : n ≤ 6) (hm : m ≤ 6) (h45 : kd x < 4 ∨ kd y < 4) : gEq x y = some (.bl false) := by
  obtain ⟨p, p1, p2, p3⟩ := tg_eqk hx
  obtain ⟨q, q1, q2, q3⟩ := tg_eqk hy
  have hs : SeqAt.shaped p = true := by
    simp [SeqAt.shaped, p2]
    omega
  have hs2 : SeqAt.shaped q = true := by
    simp [SeqAt.shaped, q2]
    omega
  have e : eqO x y = some false := by
    cases hx <;> cases hy <;> simp [kd] at hk hb hb2 h45 <;> simp only [eqO] <;> first
      | rfl
      | (unfold eqPy; rw [p1, q1]; simp only [hs, hs2, Bool.and_self, if_true]
         simp only [toPy, Option.some.injEq, Option.map_eq_some_iff] at p1 q1
         first
           | (subst p1; obtain ⟨b, _, rfl⟩ := q1; simp [PyData.eqv])
           | (subst q1; obtain ⟨b, _, rfl⟩ := p1; simp [PyData.eqv])
           | (subst p1; subst q1; simp [PyData.eqv]))
  simp [gEq, e]
theorem alike_val : ∀ (n : Nat) (x y : D), n ≤ 6 → Tg n x → Tg n y → ∀ (k : Nat) (s : Sto), S_l_alike (k + n + 1) [x, y] s = .ok (.bl (alk n x y)) s := by
  intro n
  induction n with
  | zero =>
    intro x y _ hx hy k s
    have hk4 : ∀ {z : D}, Tg 0 z → kd z < 4 := fun h => by cases h <;> simp [kd]
    have r1 := tg_rsv hx s
    have r2 := tg_rsv hy s
    show U_l_alike _ _ _ = _
    apply runG_rt
    by_cases hk : kd x = kd y
    · have e := leaf_eq hx hy hk (hk4 hx)
      cases hx <;> cases hy <;> simp [kd] at hk <;> simp [gIsi2, tyN, isTy] at e ⊢ <;> simp [e]
    · by_cases hb : kd x = 1 ∧ kd y ≠ 1 ∨ kd x ≠ 1 ∧ kd y = 1
      · cases hx <;> cases hy <;> simp [kd] at hk hb <;> simp [gIsi2, tyN, isTy, gNe, eqO, alk]
      · have e := leaf_ne hx hy hk (fun h => hb (.inl h)) (fun h => hb (.inr h)) (by omega) (by omega) (.inl (hk4 hx))
        cases hx <;> cases hy <;> simp [kd] at hk hb <;> simp [gIsi2, tyN, isTy, gNe, eqO, alk] at e ⊢ <;> simp [e]
  | succ n ih =>
    intro x y hn hx hy k s
    have r1 := tg_rsv hx s
    have r2 := tg_rsv hy s
    by_cases h4 : 4 ≤ kd x ∧ 4 ≤ kd y
    · have hc : ∃ xs ys : List D, xs.length ≤ 10000 ∧ ys.length ≤ 10000 ∧ (∀ x ∈ xs, Tg n x) ∧ (∀ y ∈ ys, Tg n y) ∧ (((x = .lst xs ∧ y = .lst ys) ∨ (x = .tup xs ∧ y = .tup ys)) ∨ (x = .lst xs ∧ y = .tup ys) ∨ (x = .tup xs ∧ y = .lst ys)) := by
        cases hx <;> cases hy <;> simp [kd] at h4
        · rename_i xs a b ys c d; exact ⟨xs, ys, a, c, b, d, .inl (.inl ⟨rfl, rfl⟩)⟩
        · rename_i xs a b ys c d; exact ⟨xs, ys, a, c, b, d, .inr (.inl ⟨rfl, rfl⟩)⟩
        · rename_i xs a b ys c d; exact ⟨xs, ys, a, c, b, d, .inr (.inr ⟨rfl, rfl⟩)⟩
        · rename_i xs a b ys c d; exact ⟨xs, ys, a, c, b, d, .inl (.inr ⟨rfl, rfl⟩)⟩
      obtain ⟨xs, ys, hxl, hyl, hxs, hys, hc⟩ := hc
      have lx : xs.length ≤ sizeLine := small_line (by omega)
      have ly : ys.length ≤ sizeLine := small_line (by omega)
      have e4 := fun (a b : Option D) => lcD_mapL (p := .tp [.nm 2, .nm 3]) (c := tTrue) (e := eCallZ (S_l_alike (k + (n + 1))) (aCons (eV 2) (aCons (eV 3) aNil))) (δ := [a, b, none, none]) (s := s) (fun p : D × D => .tup [p.1, p.2]) (fun p => .bl (alk n p.1 p.2)) (xs.zip ys) fun p hp => ⟨_, by simp; rfl, by simp, by
        have h1 := hxs _ (zip_in hp).1
        have h2 := hys _ (zip_in hp).2
        have t : S_l_alike (k + (n + 1)) [p.1, p.2] (gones s.length) = _ := ih p.1 p.2 (by omega) h1 h2 k (gones s.length)
        simp only [v_eCallZ, v_aCons, v_eV, v_aNil, v_bind_ok, List.getElem?_set, List.map_cons, List.map_nil]
        simp [tg_deep h1, tg_deep h2, t, thaw_val (s := s) (d := .bl (alk n p.1 p.2)) rfl]⟩
      have e5 := all_map (xs.zip ys) fun p => alk n p.1 p.2
      have l3' : min xs.length ys.length ≤ sizeLine := by omega
      show U_l_alike _ _ _ = _
      apply runG_rt
      rcases hc with (⟨rfl, rfl⟩ | ⟨rfl, rfl⟩) | ⟨rfl, rfl⟩ | ⟨rfl, rfl⟩
      · by_cases hl : xs.length = ys.length
        · simp [gIsi2, tyN, isTy, gNe, eqO, lx, ly, hl, alk, zip_pair, wipeD, e4, l3', e5]
        · have hl2 : ¬ (xs.length : Int) = (ys.length : Int) := by omega
          simp [gIsi2, tyN, isTy, gNe, eqO, lx, ly, hl, hl2, alk]
      · by_cases hl : xs.length = ys.length
        · simp [gIsi2, tyN, isTy, gNe, eqO, lx, ly, hl, alk, zip_pair, wipeD, e4, l3', e5]
        · have hl2 : ¬ (xs.length : Int) = (ys.length : Int) := by omega
          simp [gIsi2, tyN, isTy, gNe, eqO, lx, ly, hl, hl2, alk]
      · simp [gIsi2, tyN, isTy, gNe, eqO, alk]
      · simp [gIsi2, tyN, isTy, gNe, eqO, alk]
    · show U_l_alike _ _ _ = _
      apply runG_rt
      by_cases hk : kd x = kd y
      · have e := leaf_eq hx hy hk (by omega)
        cases hx <;> cases hy <;> simp [kd] at hk h4 <;> simp [gIsi2, tyN, isTy] at e ⊢ <;> simp [e]
      · by_cases hb : kd x = 1 ∧ kd y ≠ 1 ∨ kd x ≠ 1 ∧ kd y = 1
        · cases hx <;> cases hy <;> simp [kd] at hk hb <;> simp [gIsi2, tyN, isTy, gNe, eqO, alk]
        · have e := leaf_ne hx hy hk (fun h => hb (.inl h)) (fun h => hb (.inr h)) (by omega) (by omega) (by omega)
          cases hx <;> cases hy <;> simp [kd] at hk hb h4 <;> simp [gIsi2, tyN, isTy, gNe, eqO, alk] at e ⊢ <;> simp [e]
end Law

/-! GDv: k55: what is due of each mark. -/
namespace Law
open PySem L2 Gs
theorem c_said : Str.ofString "said" = St [115, 97, 105, 100] := of_St (by decide +kernel)
theorem c_astray : Str.ofString "astray" = St [97, 115, 116, 114, 97, 121] := of_St (by decide +kernel)
def wSaid : List Nat := [115, 97, 105, 100]
def wAstr : List Nat := [97, 115, 116, 114, 97, 121]
def dueO : Oc → D
  | .sd y => .tup [.str (St wSaid), y]
  | .as w => .tup [.str (St wAstr), .str (St w)]
def isSd : Oc → Bool
  | .sd _ => true
  | .as _ => false
theorem whole_val {n : Nat} {x : D} (hx : Tg n x) (s : Sto) : S_l_whole [x] s = .ok (.bl (decide (kd x = 0))) s := by
  apply runG_rt
  cases hx <;> simp [kd, tyN, isTy]
section
variable {s : Sto} {y one pl : D}
theorem can_num (o : Op) (pl : D) (h : Tg 4 y) : S_l_can [.str (St o.w), pl, one, y] s = .ok (.bl (decide (kd y = 0))) s := by
  have e := whole_val h s
  apply runG_rt
  cases o <;> simp [Op.w, wPlus, wTimes, wLess, c_num, c_here, c_part, c_count, c_sum, c_turned, c_plus, c_times, c_less, c_same, c_not, c_both, c_when, c_each, c_joined, St_eq, gIn, strsOf, e]
theorem can_not (h : Tg 4 y) : S_l_can [.str (St wNot), .int 0, one, y] s = .ok (.bl (decide (kd y = 1))) s := by
  apply runG_rt
  cases h <;> simp [wNot, c_num, c_here, c_part, c_count, c_sum, c_turned, c_plus, c_times, c_less, c_same, c_not, c_both, c_when, c_each, c_joined, St_eq, gIn, strsOf, kd, gIsi2, gIsi3, tyN, isTy]
theorem can_both0 (h : Tg 4 y) : S_l_can [.str (St wBoth), .int 0, one, y] s = .ok (.bl (decide (kd y = 1))) s := by
  apply runG_rt
  cases h <;> simp [wBoth, c_num, c_here, c_part, c_count, c_sum, c_turned, c_plus, c_times, c_less, c_same, c_not, c_both, c_when, c_each, c_joined, St_eq, gIn, strsOf, kd, gIsi2, gIsi3, tyN, isTy]
theorem can_both1 (h : Tg 4 y) : S_l_can [.str (St wBoth), .int 1, one, y] s = .ok (.bl (decide (kd y = 1))) s := by
  apply runG_rt
  cases h <;> simp [wBoth, c_num, c_here, c_part, c_count, c_sum, c_turned, c_plus, c_times, c_less, c_same, c_not, c_both, c_when, c_each, c_joined, St_eq, gIn, strsOf, kd, gIsi2, gIsi3, tyN, isTy]
theorem can_each0 (h : Tg 4 y) : S_l_can [.str (St wEach), .int 0, one, y] s = .ok (.bl (decide (4 ≤ kd y))) s := by
  apply runG_rt
  cases h <;> simp [wEach, c_num, c_here, c_part, c_count, c_sum, c_turned, c_plus, c_times, c_less, c_same, c_not, c_both, c_when, c_each, c_joined, St_eq, gIn, strsOf, kd, gIsi2, gIsi3, tyN, isTy]
theorem can_each1 (h : Tg 4 y) : S_l_can [.str (St wEach), .int 1, one, y] s = .ok (.bl (decide (kd y = 1))) s := by
  apply runG_rt
  cases h <;> simp [wEach, c_num, c_here, c_part, c_count, c_sum, c_turned, c_plus, c_times, c_less, c_same, c_not, c_both, c_when, c_each, c_joined, St_eq, gIn, strsOf, kd, gIsi2, gIsi3, tyN, isTy]
theorem can_when0 (h : Tg 4 y) : S_l_can [.str (St wWhen), .int 0, one, y] s = .ok (.bl (decide (kd y = 1))) s := by
  apply runG_rt
  cases h <;> simp [wWhen, c_num, c_here, c_part, c_count, c_sum, c_turned, c_plus, c_times, c_less, c_same, c_not, c_both, c_when, c_each, c_joined, St_eq, gIn, strsOf, kd, gIsi2, gIsi3, tyN, isTy]
theorem can_part (h : Tg 4 y) : S_l_can [.str (St wPart), .int 0, one, y] s = .ok (.bl (decide (4 ≤ kd y))) s := by
  apply runG_rt
  cases h <;> simp [wPart, c_num, c_here, c_part, c_count, c_sum, c_turned, c_plus, c_times, c_less, c_same, c_not, c_both, c_when, c_each, c_joined, St_eq, gIn, strsOf, kd, gIsi2, gIsi3, tyN, isTy]
theorem can_count (h : Tg 4 y) : S_l_can [.str (St wCount), .int 0, one, y] s = .ok (.bl (decide (kd y = 2 ∨ 4 ≤ kd y))) s := by
  apply runG_rt
  cases h <;> simp [wCount, c_num, c_here, c_part, c_count, c_sum, c_turned, c_plus, c_times, c_less, c_same, c_not, c_both, c_when, c_each, c_joined, St_eq, gIn, strsOf, kd, gIsi2, gIsi3, tyN, isTy]
theorem can_turned (h : Tg 4 y) : S_l_can [.str (St wTurned), .int 0, one, y] s = .ok (.bl (decide (kd y = 2 ∨ 4 ≤ kd y))) s := by
  apply runG_rt
  cases h <;> simp [wTurned, c_num, c_here, c_part, c_count, c_sum, c_turned, c_plus, c_times, c_less, c_same, c_not, c_both, c_when, c_each, c_joined, St_eq, gIn, strsOf, kd, gIsi2, gIsi3, tyN, isTy]
theorem can_jn0 (h : Tg 4 y) : S_l_can [.str (St wJoined), .int 0, one, y] s = .ok (.bl (decide (kd y = 2 ∨ kd y = 4))) s := by
  apply runG_rt
  cases h <;> simp [wJoined, c_num, c_here, c_part, c_count, c_sum, c_turned, c_plus, c_times, c_less, c_same, c_not, c_both, c_when, c_each, c_joined, St_eq, gIn, strsOf, kd, gIsi2, gIsi3, tyN, isTy]
theorem can_jn1 (h1 : Tg 4 one) (hk : kd one = 2 ∨ kd one = 4) (h : Tg 4 y) : S_l_can [.str (St wJoined), .int 1, one, y] s = .ok (.bl (decide (kd one = kd y))) s := by
  apply runG_rt
  cases h1 <;> simp [kd] at hk <;> cases h <;> simp [wJoined, c_num, c_here, c_part, c_count, c_sum, c_turned, c_plus, c_times, c_less, c_same, c_not, c_both, c_when, c_each, c_joined, St_eq, gIn, strsOf, kd, gIsi2, gIsi3, tyN, isTy, gEq, eqO]
theorem can_same (k : Int) : S_l_can [.str (St wSame), .int k, one, y] s = .ok (.bl true) s := by
  apply runG_rt
  simp [wSame, c_num, c_here, c_part, c_count, c_sum, c_turned, c_plus, c_times, c_less, c_same, c_not, c_both, c_when, c_each, c_joined, St_eq, gIn, strsOf]
theorem can_when1 : S_l_can [.str (St wWhen), .int 1, one, y] s = .ok (.bl true) s := by
  apply runG_rt
  simp [wWhen, c_num, c_here, c_part, c_count, c_sum, c_turned, c_plus, c_times, c_less, c_same, c_not, c_both, c_when, c_each, c_joined, St_eq, gIn, strsOf]
theorem can_sum (h : Tg 4 y) : S_l_can [.str (St wSum), .int 0, one, y] s = .ok (.bl (isSd (sumE y))) s := by
  have lc : ∀ (xs : List D) (δ : Sl), (∀ x ∈ xs, Tg 3 x) → 4 < δ.length → lcD (.nm 4) tTrue (eCall S_l_whole (aCons (eV 4) aNil)) δ xs s = .ok (xs.map fun x => D.bl (decide (kd x = 0))) s := fun xs δ hx hl => by
    have := lcD_mapL (p := .nm 4) (c := tTrue) (e := eCall S_l_whole (aCons (eV 4) aNil)) (δ := δ) (s := s) (fun x : D => x) (fun x => D.bl (decide (kd x = 0))) xs fun x hm => ⟨_, by simp; rfl, by simp, by
      have e := whole_val (hx x hm) s
      simp [hl, e]⟩
    simpa using this
  apply runG_rt
  cases h with
  | lst _ xs h1 h2 =>
    have l1 : xs.length ≤ sizeLine := small_line (by omega)
    have e5 := fun δ hl => lc xs δ h2 hl
    have e6 := all_map xs fun x => decide (kd x = 0)
    have e7 := nums_some h2
    rw [← e7] at e6
    simp only [sumE, sumL]
    cases ei : intsOf xs with
    | none =>
      rw [ei] at e6
      simp [wSum, c_num, c_here, c_part, c_count, c_sum, c_turned, c_plus, c_times, c_less, c_same, c_not, c_both, c_when, c_each, c_joined, St_eq, gIn, strsOf, gIsi2, tyN, isTy, wipeD, e5, l1, e6, isSd]
    | some ns =>
      rw [ei] at e6
      simp [wSum, c_num, c_here, c_part, c_count, c_sum, c_turned, c_plus, c_times, c_less, c_same, c_not, c_both, c_when, c_each, c_joined, St_eq, gIn, strsOf, gIsi2, tyN, isTy, wipeD, e5, l1, e6, isSd]
  | tup _ xs h1 h2 =>
    have l1 : xs.length ≤ sizeLine := small_line (by omega)
    have e5 := fun δ hl => lc xs δ h2 hl
    have e6 := all_map xs fun x => decide (kd x = 0)
    have e7 := nums_some h2
    rw [← e7] at e6
    simp only [sumE, sumL]
    cases ei : intsOf xs with
    | none =>
      rw [ei] at e6
      simp [wSum, c_num, c_here, c_part, c_count, c_sum, c_turned, c_plus, c_times, c_less, c_same, c_not, c_both, c_when, c_each, c_joined, St_eq, gIn, strsOf, gIsi2, tyN, isTy, wipeD, e5, l1, e6, isSd]
    | some ns =>
      rw [ei] at e6
      simp [wSum, c_num, c_here, c_part, c_count, c_sum, c_turned, c_plus, c_times, c_less, c_same, c_not, c_both, c_when, c_each, c_joined, St_eq, gIn, strsOf, gIsi2, tyN, isTy, wipeD, e5, l1, e6, isSd]
  | _ => simp [wSum, c_num, c_here, c_part, c_count, c_sum, c_turned, c_plus, c_times, c_less, c_same, c_not, c_both, c_when, c_each, c_joined, St_eq, gIn, strsOf, gIsi2, tyN, isTy, sumE, isSd]
variable {n : Nat} {t u x b : D} {o p q : Oc} {w : List Nat}
/-- what is asked of an inner term -/
theorem asked_gen {chk : D → Oc} (h : S_l_due n [t, x] s = .ok (dueO o) s) (hc : ∀ y, o = .sd y → (S_l_can [.str (St w), pl, one, y] s = .ok (.bl true) s ∧ chk y = .sd y) ∨ (S_l_can [.str (St w), pl, one, y] s = .ok (.bl false) s ∧ chk y = .as w)) : S_l_asked (n + 1) [.str (St w), pl, t, x, one] s = .ok (dueO (o.bnd chk)) s := by
  show U_l_asked _ _ _ _ _ = _
  apply runG_rt
  cases o with
  | as v =>
    simp only [dueO, wAstr] at h
    simp [h, c_said, c_astray, St_eq, dueO, wAstr, Oc.bnd]
  | sd y =>
    simp only [dueO, wSaid] at h
    rcases hc y rfl with ⟨e1, e2⟩ | ⟨e1, e2⟩
    · simp [h, c_said, c_astray, St_eq, dueO, wSaid, Oc.bnd, e1, e2]
    · simp [h, c_said, c_astray, St_eq, dueO, wAstr, Oc.bnd, e1, e2]
theorem du_num (n : Nat) (i x : D) (s : Sto) : S_l_due (n + 1) [tm wNum i, x] s = .ok (dueO (.sd i)) s := by
  show U_l_due _ _ _ _ _ = _
  apply runG_rt
  simp [tm, wNum, c_num, c_here, c_part, c_count, c_sum, c_turned, c_plus, c_times, c_less, c_same, c_not, c_both, c_when, c_each, c_joined, St_eq, gIn, strsOf, c_said, dueO, wSaid]
theorem du_here (n : Nat) (b x : D) (s : Sto) : S_l_due (n + 1) [tm wHere b, x] s = .ok (dueO (.sd x)) s := by
  show U_l_due _ _ _ _ _ = _
  apply runG_rt
  simp [tm, wHere, c_num, c_here, c_part, c_count, c_sum, c_turned, c_plus, c_times, c_less, c_same, c_not, c_both, c_when, c_each, c_joined, St_eq, gIn, strsOf, c_said, dueO, wSaid]
theorem du_one {f : D → Oc} (hw : w = wNot ∨ w = wCount ∨ w = wTurned ∨ w = wSum) (h1 : S_l_asked n [.str (St w), .int 0, t, x, .non] s = .ok (dueO p) s) (h2 : ∀ a, p = .sd a → S_l_due_of_one [.str (St w), t, a] s = .ok (dueO (f a)) s) : S_l_due (n + 1) [tm w t, x] s = .ok (dueO (p.bnd f)) s := by
  show U_l_due _ _ _ _ _ = _
  cases p with
  | as v =>
    simp only [dueO, wAstr, Oc.bnd] at h1 ⊢
    apply runG_rt
    rcases hw with rfl | rfl | rfl | rfl <;> simp only [wNot, wCount, wTurned, wSum] at h1 <;> simp [tm, wNot, wCount, wTurned, wSum, c_num, c_here, c_part, c_count, c_sum, c_turned, c_plus, c_times, c_less, c_same, c_not, c_both, c_when, c_each, c_joined, St_eq, gIn, strsOf, gNin, c_said, c_astray, h1]
  | sd a =>
    have h2 := h2 a rfl
    simp only [dueO, wSaid, Oc.bnd] at h1 ⊢
    apply runG_rt
    rcases hw with rfl | rfl | rfl | rfl <;> simp only [wNot, wCount, wTurned, wSum] at h1 h2 <;> simp [tm, wNot, wCount, wTurned, wSum, c_num, c_here, c_part, c_count, c_sum, c_turned, c_plus, c_times, c_less, c_same, c_not, c_both, c_when, c_each, c_joined, St_eq, gIn, strsOf, gNin, c_said, c_astray, h1, h2] <;> rfl
theorem du_part {f : D → Oc} (h1 : S_l_asked n [.str (St wPart), .int 0, t, x, .non] s = .ok (dueO p) s) (h2 : ∀ a, p = .sd a → S_l_due_of_one [.str (St wPart), .tup [t, u], a] s = .ok (dueO (f a)) s) : S_l_due (n + 1) [tm wPart (.tup [t, u]), x] s = .ok (dueO (p.bnd f)) s := by
  show U_l_due _ _ _ _ _ = _
  cases p with
  | as v =>
    simp only [dueO, wAstr, Oc.bnd, wPart] at h1 ⊢
    apply runG_rt
    simp [tm, wPart, c_num, c_here, c_part, c_count, c_sum, c_turned, c_plus, c_times, c_less, c_same, c_not, c_both, c_when, c_each, c_joined, St_eq, gIn, strsOf, gNin, c_said, c_astray, h1]
  | sd a =>
    have h2 := h2 a rfl
    simp only [dueO, wSaid, Oc.bnd, wPart] at h1 h2 ⊢
    apply runG_rt
    simp [tm, wPart, c_num, c_here, c_part, c_count, c_sum, c_turned, c_plus, c_times, c_less, c_same, c_not, c_both, c_when, c_each, c_joined, St_eq, gIn, strsOf, gNin, c_said, c_astray, h1, h2] <;> rfl
theorem du_each {f : D → Oc} (h1 : S_l_asked n [.str (St wEach), .int 0, t, x, .non] s = .ok (dueO p) s) (h2 : ∀ a, p = .sd a → S_l_due_each n [u, a] s = .ok (dueO (f a)) s) : S_l_due (n + 1) [tm wEach (.tup [t, u]), x] s = .ok (dueO (p.bnd f)) s := by
  show U_l_due _ _ _ _ _ = _
  cases p with
  | as v =>
    simp only [dueO, wAstr, Oc.bnd, wEach] at h1 ⊢
    apply runG_rt
    simp [tm, wEach, c_num, c_here, c_part, c_count, c_sum, c_turned, c_plus, c_times, c_less, c_same, c_not, c_both, c_when, c_each, c_joined, St_eq, gIn, strsOf, gNin, c_said, c_astray, h1]
  | sd a =>
    have h2 := h2 a rfl
    simp only [dueO, wSaid, Oc.bnd, wEach] at h1 h2 ⊢
    apply runG_rt
    simp [tm, wEach, c_num, c_here, c_part, c_count, c_sum, c_turned, c_plus, c_times, c_less, c_same, c_not, c_both, c_when, c_each, c_joined, St_eq, gIn, strsOf, gNin, c_said, c_astray, h1, h2] <;> rfl
theorem du_when {c : D} (hp : ∀ y, p = .sd y → ∃ b, y = .bl b) (h1 : S_l_asked n [.str (St wWhen), .int 0, c, x, .non] s = .ok (dueO p) s) (h2 : S_l_asked n [.str (St wWhen), .int 1, t, x, .non] s = .ok (dueO o) s) (h3 : S_l_asked n [.str (St wWhen), .int 1, u, x, .non] s = .ok (dueO q) s) : S_l_due (n + 1) [tm wWhen (.tup [c, t, u]), x] s = .ok (dueO (p.bnd (whnE o q))) s := by
  show U_l_due _ _ _ _ _ = _
  cases p with
  | as v =>
    simp only [dueO, wAstr, Oc.bnd, wWhen] at h1 ⊢
    apply runG_rt
    simp [tm, wWhen, c_num, c_here, c_part, c_count, c_sum, c_turned, c_plus, c_times, c_less, c_same, c_not, c_both, c_when, c_each, c_joined, St_eq, gIn, strsOf, gNin, c_said, c_astray, h1]
  | sd a =>
    obtain ⟨c, rfl⟩ := hp a rfl
    simp only [wWhen] at h1 h2 h3
    simp only [dueO, wSaid] at h1
    have g1 : gInt [.bl true] = some (.int 1) := by simp [gInt]
    have g0 : gInt [.bl false] = some (.int 0) := by simp [gInt]
    apply runG_rt
    cases c
    · simp [tm, wWhen, c_num, c_here, c_part, c_count, c_sum, c_turned, c_plus, c_times, c_less, c_same, c_not, c_both, c_when, c_each, c_joined, St_eq, gIn, strsOf, gNin, c_said, c_astray, h1, h3, g0, Oc.bnd, whnE]
    · simp [tm, wWhen, c_num, c_here, c_part, c_count, c_sum, c_turned, c_plus, c_times, c_less, c_same, c_not, c_both, c_when, c_each, c_joined, St_eq, gIn, strsOf, gNin, c_said, c_astray, h1, h2, g1, Oc.bnd, whnE]
theorem du_both (hp : ∀ y, p = .sd y → ∃ b, y = .bl b) (h1 : S_l_asked n [.str (St wBoth), .int 0, t, x, .non] s = .ok (dueO p) s) (h2 : ∀ a, p = .sd a → S_l_asked n [.str (St wBoth), .int 1, u, x, a] s = .ok (dueO q) s) : S_l_due (n + 1) [tm wBoth (.tup [t, u]), x] s = .ok (dueO (p.bnd (bothE q))) s := by
  show U_l_due _ _ _ _ _ = _
  cases p with
  | as v =>
    simp only [dueO, wAstr, Oc.bnd, wBoth] at h1 ⊢
    apply runG_rt
    simp [tm, wBoth, c_num, c_here, c_part, c_count, c_sum, c_turned, c_plus, c_times, c_less, c_same, c_not, c_both, c_when, c_each, c_joined, St_eq, gIn, strsOf, gNin, c_said, c_astray, h1]
  | sd a =>
    have h2 := h2 a rfl
    obtain ⟨c, rfl⟩ := hp a rfl
    simp only [wBoth] at h1 h2
    simp only [dueO, wSaid] at h1
    apply runG_rt
    cases c
    · simp [tm, wBoth, c_num, c_here, c_part, c_count, c_sum, c_turned, c_plus, c_times, c_less, c_same, c_not, c_both, c_when, c_each, c_joined, St_eq, gIn, strsOf, gNin, c_said, c_astray, h1, Oc.bnd, bothE, dueO, wSaid]
    · cases q with
      | as v =>
        simp only [dueO, wAstr] at h2
        simp [tm, wBoth, c_num, c_here, c_part, c_count, c_sum, c_turned, c_plus, c_times, c_less, c_same, c_not, c_both, c_when, c_each, c_joined, St_eq, gIn, strsOf, gNin, c_said, c_astray, h1, h2, Oc.bnd, bothE, dueO, wAstr]
      | sd d =>
        simp only [dueO, wSaid] at h2
        simp [tm, wBoth, c_num, c_here, c_part, c_count, c_sum, c_turned, c_plus, c_times, c_less, c_same, c_not, c_both, c_when, c_each, c_joined, St_eq, gIn, strsOf, gNin, c_said, c_astray, h1, h2, Oc.bnd, bothE, dueO, wSaid]
theorem du_two {f : D → Oc} {g : D → D → Oc} (hw : w = wPlus ∨ w = wTimes ∨ w = wLess ∨ w = wSame ∨ w = wJoined) (h1 : S_l_asked n [.str (St w), .int 0, t, x, .non] s = .ok (dueO p) s) (h2 : ∀ a, p = .sd a → S_l_asked n [.str (St w), .int 1, u, x, a] s = .ok (dueO (f a)) s) (h3 : ∀ a b, p = .sd a → f a = .sd b → S_l_due_of_two [.str (St w), a, b] s = .ok (dueO (g a b)) s) : S_l_due (n + 1) [tm w (.tup [t, u]), x] s = .ok (dueO (p.bnd fun a => (f a).bnd (g a))) s := by
  show U_l_due _ _ _ _ _ = _
  cases p with
  | as v =>
    simp only [dueO, wAstr, Oc.bnd] at h1 ⊢
    apply runG_rt
    rcases hw with rfl | rfl | rfl | rfl | rfl <;> simp only [wPlus, wTimes, wLess, wSame, wJoined] at h1 <;> simp [tm, wPlus, wTimes, wLess, wSame, wJoined, c_num, c_here, c_part, c_count, c_sum, c_turned, c_plus, c_times, c_less, c_same, c_not, c_both, c_when, c_each, c_joined, St_eq, gIn, strsOf, gNin, c_said, c_astray, h1]
  | sd a =>
    have h2 := h2 a rfl
    have h3 := fun b => h3 a b rfl
    show _ = R.ok (dueO ((f a).bnd (g a))) s
    cases ef : f a with
    | as v =>
      rw [ef] at h2
      simp only [dueO, wSaid, wAstr, Oc.bnd] at h1 h2 ⊢
      apply runG_rt
      rcases hw with rfl | rfl | rfl | rfl | rfl <;> simp only [wPlus, wTimes, wLess, wSame, wJoined] at h1 h2 <;> simp [tm, wPlus, wTimes, wLess, wSame, wJoined, c_num, c_here, c_part, c_count, c_sum, c_turned, c_plus, c_times, c_less, c_same, c_not, c_both, c_when, c_each, c_joined, St_eq, gIn, strsOf, gNin, c_said, c_astray, h1, h2]
    | sd b =>
      rw [ef] at h2
      have h3 := h3 b ef
      show _ = R.ok (dueO (g a b)) s
      simp only [dueO, wSaid] at h1 h2
      apply runG_rt
      rcases hw with rfl | rfl | rfl | rfl | rfl <;> simp only [wPlus, wTimes, wLess, wSame, wJoined] at h1 h2 h3 <;> simp [tm, wPlus, wTimes, wLess, wSame, wJoined, c_num, c_here, c_part, c_count, c_sum, c_turned, c_plus, c_times, c_less, c_same, c_not, c_both, c_when, c_each, c_joined, St_eq, gIn, strsOf, gNin, c_said, c_astray, h1, h2, h3]
end
end Law

/-! GDw: k55: the law says of a thing what the term says. -/
namespace Law
open PySem L2 Gs
def chkO (f : D → Oc) (y : D) : Oc := match f y with
  | .sd _ => .sd y
  | .as w => .as w
theorem bnd_chk {f : D → Oc} {o : Oc} : (o.bnd (chkO f)).bnd f = o.bnd f := by
  cases o with
  | as w => rfl
  | sd y =>
    show (chkO f y).bnd f = f y
    unfold chkO
    cases e : f y with
    | sd z => exact e
    | as w => rfl
theorem chk_sd {f : D → Oc} {o : Oc} {a : D} (h : o.bnd (chkO f) = .sd a) : o = .sd a ∧ ∃ z, f a = .sd z := by
  obtain ⟨b, e1, e2⟩ := bnd_sd h
  unfold chkO at e2
  split at e2
  · rename_i z hz
    cases e2
    exact ⟨e1, z, hz⟩
  · exact nomatch e2
theorem as_of {f : D → Oc} {w : List Nat} (hf : ∀ y v, f y = .as v → v = w) {y : D} {b : Bool} (h : (∃ z, f y = .sd z) ↔ b = true) : (b = true ∧ chkO f y = .sd y) ∨ (b = false ∧ chkO f y = .as w) := by
  unfold chkO
  cases e : f y with
  | sd z =>
    have : b = true := h.mp ⟨z, e⟩
    exact .inl ⟨this, rfl⟩
  | as v =>
    rw [hf y v e]
    cases b with
    | false => exact .inr ⟨rfl, rfl⟩
    | true =>
      obtain ⟨z, hz⟩ := h.mpr rfl
      rw [e] at hz
      exact nomatch hz
theorem count_as (y : D) (v : List Nat) (h : countE y = .as v) : v = wCount := by
  unfold countE at h
  split at h <;> cases h <;> rfl
theorem turn_as (y : D) (v : List Nat) (h : turnE y = .as v) : v = wTurned := by
  unfold turnE at h
  split at h <;> cases h <;> rfl
theorem sum_as (y : D) (v : List Nat) (h : sumE y = .as v) : v = wSum := by
  unfold sumE sumL at h
  split at h
  · split at h <;> cases h <;> rfl
  · split at h <;> cases h <;> rfl
  · cases h <;> rfl
section
variable {s : Sto} {n : Nat} {t u x y one pl b : D} {o p q : Oc} {w : List Nat}
theorem ask_count (h : S_l_due n [t, x] s = .ok (dueO o) s) (hg : ∀ y, o = .sd y → Tg 4 y) : S_l_asked (n + 1) [.str (St wCount), .int 0, t, x, one] s = .ok (dueO (o.bnd (chkO countE))) s :=
  asked_gen h fun y hy => by
    have e := can_count (s := s) (one := one) (hg y hy)
    have k := as_of (y := y) (b := decide (kd y = 2 ∨ 4 ≤ kd y)) count_as (by cases hg y hy <;> simp [countE, kd])
    rcases k with ⟨k1, k2⟩ | ⟨k1, k2⟩
    · rw [k1] at e; exact .inl ⟨e, k2⟩
    · rw [k1] at e; exact .inr ⟨e, k2⟩
theorem ask_turned (h : S_l_due n [t, x] s = .ok (dueO o) s) (hg : ∀ y, o = .sd y → Tg 4 y) : S_l_asked (n + 1) [.str (St wTurned), .int 0, t, x, one] s = .ok (dueO (o.bnd (chkO turnE))) s :=
  asked_gen h fun y hy => by
    have e := can_turned (s := s) (one := one) (hg y hy)
    have k := as_of (y := y) (b := decide (kd y = 2 ∨ 4 ≤ kd y)) turn_as (by cases hg y hy <;> simp [turnE, kd])
    rcases k with ⟨k1, k2⟩ | ⟨k1, k2⟩
    · rw [k1] at e; exact .inl ⟨e, k2⟩
    · rw [k1] at e; exact .inr ⟨e, k2⟩
theorem ask_sum (h : S_l_due n [t, x] s = .ok (dueO o) s) (hg : ∀ y, o = .sd y → Tg 4 y) : S_l_asked (n + 1) [.str (St wSum), .int 0, t, x, one] s = .ok (dueO (o.bnd (chkO sumE))) s :=
  asked_gen h fun y hy => by
    have e := can_sum (s := s) (one := one) (hg y hy)
    have k := as_of (y := y) (b := isSd (sumE y)) sum_as (by cases sumE y <;> simp [isSd])
    rcases k with ⟨k1, k2⟩ | ⟨k1, k2⟩
    · rw [k1] at e; exact .inl ⟨e, k2⟩
    · rw [k1] at e; exact .inr ⟨e, k2⟩
theorem ask_row (pw : (w = wPart ∨ w = wEach)) (h : S_l_due n [t, x] s = .ok (dueO o) s) (hg : ∀ y, o = .sd y → Tg 4 y) : S_l_asked (n + 1) [.str (St w), .int 0, t, x, one] s = .ok (dueO (o.bnd (rowE w))) s :=
  asked_gen h fun y hy => by
    have e : S_l_can [.str (St w), .int 0, one, y] s = .ok (.bl (decide (4 ≤ kd y))) s := by
      rcases pw with rfl | rfl
      · exact can_part (hg y hy)
      · exact can_each0 (hg y hy)
    cases hg y hy <;> simp [kd] at e <;> simp [e, rowE]
theorem ask_tru (pw : (w = wNot ∧ pl = .int 0) ∨ (w = wBoth ∧ pl = .int 0) ∨ (w = wBoth ∧ pl = .int 1) ∨ (w = wEach ∧ pl = .int 1) ∨ (w = wWhen ∧ pl = .int 0)) (h : S_l_due n [t, x] s = .ok (dueO o) s) (hg : ∀ y, o = .sd y → Tg 4 y) : S_l_asked (n + 1) [.str (St w), pl, t, x, one] s = .ok (dueO (o.bnd (truE w))) s :=
  asked_gen h fun y hy => by
    have e : S_l_can [.str (St w), pl, one, y] s = .ok (.bl (decide (kd y = 1))) s := by
      rcases pw with ⟨rfl, rfl⟩ | ⟨rfl, rfl⟩ | ⟨rfl, rfl⟩ | ⟨rfl, rfl⟩ | ⟨rfl, rfl⟩
      · exact can_not (hg y hy)
      · exact can_both0 (hg y hy)
      · exact can_both1 (hg y hy)
      · exact can_each1 (hg y hy)
      · exact can_when0 (hg y hy)
    cases hg y hy <;> simp [kd] at e <;> simp [e, truE]
theorem ask_num (k : Op) (h : S_l_due n [t, x] s = .ok (dueO o) s) (hg : ∀ y, o = .sd y → Tg 4 y) : S_l_asked (n + 1) [.str (St k.w), pl, t, x, one] s = .ok (dueO (o.bnd (numE k.w))) s :=
  asked_gen h fun y hy => by
    have e := can_num (s := s) (one := one) k pl (hg y hy)
    cases hg y hy <;> simp [kd] at e <;> simp [e, numE]
theorem ask_any (pw : (w = wSame ∧ (pl = .int 0 ∨ pl = .int 1)) ∨ (w = wWhen ∧ pl = .int 1)) (h : S_l_due n [t, x] s = .ok (dueO o) s) : S_l_asked (n + 1) [.str (St w), pl, t, x, one] s = .ok (dueO o) s := by
  have := asked_gen (chk := .sd) (pl := pl) (one := one) (w := w) h fun y hy => .inl ⟨by
    rcases pw with ⟨rfl, rfl | rfl⟩ | ⟨rfl, rfl⟩
    · exact can_same 0
    · exact can_same 1
    · exact can_when1, rfl⟩
  have e : o.bnd .sd = o := by cases o <;> rfl
  rw [e] at this
  exact this
theorem ask_jn0 (h : S_l_due n [t, x] s = .ok (dueO o) s) (hg : ∀ y, o = .sd y → Tg 4 y) : S_l_asked (n + 1) [.str (St wJoined), .int 0, t, x, one] s = .ok (dueO (o.bnd jn0)) s :=
  asked_gen h fun y hy => by
    have e := can_jn0 (s := s) (one := one) (hg y hy)
    cases hg y hy <;> simp [kd] at e <;> simp [e, jn0]
theorem ask_jn1 {a : D} (ha : Tg 4 a) (hk : kd a = 2 ∨ kd a = 4) (h : S_l_due n [t, x] s = .ok (dueO o) s) (hg : ∀ y, o = .sd y → Tg 4 y) : S_l_asked (n + 1) [.str (St wJoined), .int 1, t, x, a] s = .ok (dueO (o.bnd (chkO (jnE a)))) s :=
  asked_gen h fun y hy => by
    have e := can_jn1 (s := s) ha hk (hg y hy)
    cases ha <;> simp [kd] at hk <;> cases hg y hy <;> simp [kd] at e <;> simp [e, chkO, jnE]
/-! what is due of what is said -/
theorem one_not (c : Bool) (m : D) : S_l_due_of_one [.str (St wNot), m, .bl c] s = .ok (dueO (ntE (.bl c))) s := by
  apply runG_rt
  simp [wNot, c_not, c_said, dueO, wSaid, ntE]
theorem one_count {m a z : D} (ha : Tg 4 a) (hz : countE a = .sd z) : S_l_due_of_one [.str (St wCount), m, a] s = .ok (dueO (countE a)) s := by
  apply runG_rt
  cases ha with
  | lst _ xs h1 h2 => simp [wCount, c_not, c_count, c_said, dueO, wSaid, countE, St_eq, small_line (n := xs.length) (by omega)]
  | tup _ xs h1 h2 => simp [wCount, c_not, c_count, c_said, dueO, wSaid, countE, St_eq, small_line (n := xs.length) (by omega)]
  | str _ l h1 h2 => simp [wCount, c_not, c_count, c_said, dueO, wSaid, countE, St_eq, small_line (n := l.length) (by omega)]
  | _ => exact nomatch hz
theorem one_turned {m a z : D} (ha : Tg 4 a) (hz : turnE a = .sd z) : S_l_due_of_one [.str (St wTurned), m, a] s = .ok (dueO (turnE a)) s := by
  apply runG_rt
  cases ha with
  | lst _ xs h1 h2 => simp [wTurned, c_not, c_count, c_turned, c_said, dueO, wSaid, turnE, St_eq]
  | tup _ xs h1 h2 => simp [wTurned, c_not, c_count, c_turned, c_said, dueO, wSaid, turnE, St_eq]
  | str _ l h1 h2 => simp [wTurned, c_not, c_count, c_turned, c_said, dueO, wSaid, turnE, St_eq, small_line (n := l.length) (by omega)]
  | _ => exact nomatch hz
theorem one_sum {m a z : D} (ha : Tg 4 a) (hz : sumE a = .sd z) : S_l_due_of_one [.str (St wSum), m, a] s = .ok (dueO (sumE a)) s := by
  apply runG_rt
  cases ha with
  | lst _ xs h1 h2 =>
    simp only [sumE, sumL] at hz ⊢
    cases ei : intsOf xs with
    | none => rw [ei] at hz; exact nomatch hz
    | some ns => simp [wSum, c_not, c_count, c_turned, c_sum, c_said, dueO, wSaid, St_eq, ei]
  | tup _ xs h1 h2 =>
    simp only [sumE, sumL] at hz ⊢
    cases ei : intsOf xs with
    | none => rw [ei] at hz; exact nomatch hz
    | some ns => simp [wSum, c_not, c_count, c_turned, c_sum, c_said, dueO, wSaid, St_eq, ei]
  | _ => exact nomatch hz
theorem one_part {m : D} {xs : List D} (q : Nat) {a : D} (ha : a = .lst xs ∨ a = .tup xs) (hl : xs.length ≤ 10000) : S_l_due_of_one [.str (St wPart), .tup [m, .int (q : Int)], a] s = .ok (dueO (partE q a)) s := by
  have l1 : xs.length ≤ sizeLine := small_line (by omega)
  apply runG_rt
  by_cases hq : q < xs.length
  · have e1 : ¬ xs.length ≤ q := by omega
    have e2 : atI xs (q : Int) = some xs[q] := atI_ofNat xs hq
    have e3 : xs[q]? = some xs[q] := List.getElem?_eq_getElem hq
    rcases ha with rfl | rfl <;> simp [wPart, c_not, c_count, c_turned, c_sum, c_said, c_astray, dueO, wSaid, partE, partL, St_eq, l1, e1, e2, e3]
  · have e1 : xs.length ≤ q := by omega
    have e3 : xs[q]? = none := List.getElem?_eq_none_iff.mpr e1
    rcases ha with rfl | rfl <;> simp [wPart, c_not, c_count, c_turned, c_sum, c_said, c_astray, dueO, wAstr, partE, partL, St_eq, l1, e1, e3]
theorem two_op (k : Op) (i j : Int) (hm : IntMulOk i j) : S_l_due_of_two [.str (St k.w), .int i, .int j] s = .ok (dueO (opE k (.int i) (.int j))) s := by
  apply runG_rt
  cases k
  · simp [Op.w, wPlus, wTimes, wLess, c_times, c_less, c_same, c_said, dueO, wSaid, opE, op2, St_eq]
  · simp [Op.w, wPlus, wTimes, wLess, c_times, c_less, c_same, c_said, dueO, wSaid, opE, op2, St_eq, hm]
  · simp [Op.w, wPlus, wTimes, wLess, c_times, c_less, c_same, c_said, dueO, wSaid, opE, op2, St_eq]
theorem two_same {a c : D} (ha : Tg 4 a) (hc : Tg 4 c) : S_l_due_of_two [.str (St wSame), a, c] s = .ok (dueO (.sd (.bl (alk 4 a c)))) s := by
  have e : S_l_alike 30 [a, c] (gones s.length) = _ := alike_val 4 a c (by omega) ha hc 25 _
  have t := thaw_val (s := s) (d := .bl (alk 4 a c)) rfl
  apply runG_rt
  simp [wSame, c_times, c_less, c_same, c_said, dueO, wSaid, St_eq, tg_deep ha, tg_deep hc, e, t]
theorem two_jn {a c z : D} (ha : Rs 20000 5000 a) (hc : Rs 20000 5000 c) (hz : jnE a c = .sd z) : S_l_due_of_two [.str (St wJoined), a, c] s = .ok (dueO (jnE a c)) s := by
  apply runG_rt
  cases ha with
  | lst xs h1 h2 =>
    cases hc with
    | lst ys h3 h4 => simp [wJoined, c_times, c_less, c_same, c_said, dueO, wSaid, St_eq, jnE, small_line (n := xs.length + ys.length) (by omega)]
    | _ => exact nomatch hz
  | str l h1 h2 =>
    cases hc with
    | str m h3 h4 => simp [wJoined, c_times, c_less, c_same, c_said, dueO, wSaid, St_eq, jnE, small_line (n := l.length + m.length) (by omega)]
    | _ => exact nomatch hz
  | _ => exact nomatch hz
theorem du_each_lp {y : D} (f : D → Oc) : ∀ (xs : List D) (z v : Option D), (∀ x ∈ xs, S_l_asked n [.str (St wEach), .int 1, u, x, .non] s = .ok (dueO ((f x).bnd (truE wEach))) s) →
    ∃ δ', forD (.nm 2) (L_l_due_each_0 (S_l_asked n) (S_l_due n) (S_l_due_each n)) xs [some u, some y, z, v] s =
      match allE (fun z => (f z).bnd (truE wEach)) xs with
      | .sd (.bl true) => .nx δ' s
      | o => .rt (dueO o) s
  | [], z, v, _ => ⟨[some u, some y, z, v], by simp only [forD, allE]⟩
  | x :: r, z, v, h => by
    have h1 := h x List.mem_cons_self
    have hc : (∃ w, (f x).bnd (truE wEach) = .as w) ∨ ∃ b, (f x).bnd (truE wEach) = .sd (.bl b) := by
      cases e : (f x).bnd (truE wEach) with
      | as w => exact .inl ⟨w, rfl⟩
      | sd d =>
        obtain ⟨a, _, e2⟩ := bnd_sd e
        obtain ⟨b, _, rfl⟩ := tru_sd e2
        exact .inr ⟨b, rfl⟩
    simp only [wEach] at h1
    rcases hc with ⟨w, e⟩ | ⟨c, e⟩
    · have e' := e
      simp only [wEach] at e'
      rw [e'] at h1
      simp only [dueO, wAstr] at h1
      refine ⟨[], ?_⟩
      have hb : L_l_due_each_0 (S_l_asked n) (S_l_due n) (S_l_due_each n) [some u, some y, some x, v] s = .rt (dueO (.as w)) s := by
        simp [L_l_due_each_0, c_each, c_astray, h1, dueO, wAstr]
      simp only [forD, v_nm, List.set_cons_succ, List.set_cons_zero, hb, allE, e]
    · have e' := e
      simp only [wEach] at e'
      rw [e'] at h1
      cases c with
      | true =>
        obtain ⟨δ', h2⟩ := du_each_lp (y := y) f r (some x) (some (dueO (.sd (.bl true)))) fun x hx => h x (List.mem_cons_of_mem _ hx)
        refine ⟨δ', ?_⟩
        have hb : L_l_due_each_0 (S_l_asked n) (S_l_due n) (S_l_due_each n) [some u, some y, some x, v] s = .nx [some u, some y, some x, some (dueO (.sd (.bl true)))] s := by
          simp only [dueO, wSaid] at h1 ⊢
          simp [L_l_due_each_0, c_each, c_astray, St_eq, h1]
        simp only [forD, v_nm, List.set_cons_succ, List.set_cons_zero, hb, allE, e]
        exact h2
      | false =>
        refine ⟨[], ?_⟩
        have hb : L_l_due_each_0 (S_l_asked n) (S_l_due n) (S_l_due_each n) [some u, some y, some x, v] s = .rt (dueO (.sd (.bl false))) s := by
          simp only [dueO, wSaid] at h1 ⊢
          simp [L_l_due_each_0, c_each, c_astray, St_eq, h1]
        simp only [forD, v_nm, List.set_cons_succ, List.set_cons_zero, hb, allE, e]
theorem du_each_val {f : D → Oc} {a : D} (hr : Rw a) (h : ∀ x ∈ itm a, S_l_asked n [.str (St wEach), .int 1, u, x, .non] s = .ok (dueO ((f x).bnd (truE wEach))) s) : S_l_due_each (n + 1) [u, a] s = .ok (dueO (allE (fun z => (f z).bnd (truE wEach)) (itm a))) s := by
  obtain ⟨δ', e⟩ := du_each_lp (y := a) f (itm a) none none h
  show U_l_due_each _ _ _ _ _ = _
  apply runG_rt
  cases q : allE (fun z => (f z).bnd (truE wEach)) (itm a) with
  | as w =>
    rw [q] at e
    cases hr <;> simp only [itm] at e <;> simp [seqOf, e]
  | sd d =>
    obtain ⟨c, rfl⟩ := allE_sd q
    rw [q] at e
    cases c <;> cases hr <;> simp only [itm] at e <;> simp [seqOf, e, c_said, dueO, wSaid]
end
theorem due_val {h : Nat} {t : Tm} (k : Tk h t) : h ≤ 7 → ∀ (x : D) (s : Sto) (m : Nat), Ti 4 x → S_l_due (m + 3 * h + 1) [tmD t, x] s = .ok (dueO (ev t x)) s := by
  induction k with
  | num h i hi => exact fun _ x s m _ => du_num _ _ x s
  | here h => exact fun _ x s m _ => du_here _ _ x s
  | @part h t p k ih =>
    intro hh x s m hx
    have e : S_l_due (m + 1 + 3 * h + 1) [tmD t, x] s = .ok (dueO (ev t x)) s := ih (by omega) x s (m + 1) hx
    have := du_part (u := .int (p : Int)) (f := partE p) (ask_row (w := wPart) (.inl rfl) e fun y => ev_tg k (by omega) hx) fun a ha => by
      obtain ⟨b, eb, e2⟩ := bnd_sd ha
      obtain ⟨rfl, hr⟩ := row_sd e2
      have r := ev_rs6 k (by omega) hx eb
      rcases hr with ⟨xs, rfl⟩ | ⟨xs, rfl⟩
      · cases r with | lst _ h1 _ => exact one_part p (.inl rfl) (by omega)
      · cases r with | tup _ h1 _ => exact one_part p (.inr rfl) (by omega)
    rw [show m + 3 * (h + 1) + 1 = m + 1 + 3 * h + 1 + 1 + 1 by omega]
    have eq : ((ev t x).bnd (rowE wPart)).bnd (partE p) = ev (.part t p) x := by
      show _ = (ev t x).bnd (partE p)
      cases ev t x with
      | as w => rfl
      | sd y => cases y <;> rfl
    rw [eq] at this
    exact this
  | @count h t k ih =>
    intro hh x s m hx
    have e : S_l_due (m + 1 + 3 * h + 1) [tmD t, x] s = .ok (dueO (ev t x)) s := ih (by omega) x s (m + 1) hx
    have := du_one (w := wCount) (f := countE) (.inr (.inl rfl)) (ask_count e fun y => ev_tg k (by omega) hx) fun a ha => by
      obtain ⟨e1, z, hz⟩ := chk_sd ha
      exact one_count (ev_tg k (by omega) hx e1) hz
    rw [show m + 3 * (h + 1) + 1 = m + 1 + 3 * h + 1 + 1 + 1 by omega]
    rw [bnd_chk] at this
    exact this
  | @sum h t k ih =>
    intro hh x s m hx
    have e : S_l_due (m + 1 + 3 * h + 1) [tmD t, x] s = .ok (dueO (ev t x)) s := ih (by omega) x s (m + 1) hx
    have := du_one (w := wSum) (f := sumE) (.inr (.inr (.inr rfl))) (ask_sum e fun y => ev_tg k (by omega) hx) fun a ha => by
      obtain ⟨e1, z, hz⟩ := chk_sd ha
      exact one_sum (ev_tg k (by omega) hx e1) hz
    rw [show m + 3 * (h + 1) + 1 = m + 1 + 3 * h + 1 + 1 + 1 by omega]
    rw [bnd_chk] at this
    exact this
  | @turned h t k ih =>
    intro hh x s m hx
    have e : S_l_due (m + 1 + 3 * h + 1) [tmD t, x] s = .ok (dueO (ev t x)) s := ih (by omega) x s (m + 1) hx
    have := du_one (w := wTurned) (f := turnE) (.inr (.inr (.inl rfl))) (ask_turned e fun y => ev_tg k (by omega) hx) fun a ha => by
      obtain ⟨e1, z, hz⟩ := chk_sd ha
      exact one_turned (ev_tg k (by omega) hx e1) hz
    rw [show m + 3 * (h + 1) + 1 = m + 1 + 3 * h + 1 + 1 + 1 by omega]
    rw [bnd_chk] at this
    exact this
  | @op h o t u k1 k2 ih1 ih2 =>
    intro hh x s m hx
    have e1 : S_l_due (m + 1 + 3 * h + 1) [tmD t, x] s = .ok (dueO (ev t x)) s := ih1 (by omega) x s (m + 1) hx
    have e2 : S_l_due (m + 1 + 3 * h + 1) [tmD u, x] s = .ok (dueO (ev u x)) s := ih2 (by omega) x s (m + 1) hx
    have hw : o.w = wPlus ∨ o.w = wTimes ∨ o.w = wLess ∨ o.w = wSame ∨ o.w = wJoined := by cases o <;> simp [Op.w]
    have := du_two (w := o.w) (f := fun _ => (ev u x).bnd (numE o.w)) (g := opE o) hw (ask_num o e1 fun y => ev_tg k1 (by omega) hx) (fun a _ => ask_num o e2 fun y => ev_tg k2 (by omega) hx) fun a b ha hb => by
      obtain ⟨a', ea, e3⟩ := bnd_sd ha
      obtain ⟨i, rfl, rfl⟩ := num_sd e3
      obtain ⟨b', eb, e5⟩ := bnd_sd hb
      obtain ⟨j, rfl, rfl⟩ := num_sd e5
      cases ev_rs6 k1 (by omega) hx ea with | int _ h1 =>
      cases ev_rs6 k2 (by omega) hx eb with | int _ h2 =>
      exact two_op o i j (mul_fits h1 h2 (by omega))
    rw [show m + 3 * (h + 1) + 1 = m + 1 + 3 * h + 1 + 1 + 1 by omega]
    exact this
  | @same h t u k1 k2 ih1 ih2 =>
    intro hh x s m hx
    have e1 : S_l_due (m + 1 + 3 * h + 1) [tmD t, x] s = .ok (dueO (ev t x)) s := ih1 (by omega) x s (m + 1) hx
    have e2 : S_l_due (m + 1 + 3 * h + 1) [tmD u, x] s = .ok (dueO (ev u x)) s := ih2 (by omega) x s (m + 1) hx
    have := du_two (w := wSame) (f := fun _ => ev u x) (g := fun a b => .sd (.bl (alk 4 a b))) (.inr (.inr (.inr (.inl rfl)))) (ask_any (.inl ⟨rfl, .inl rfl⟩) e1) (fun a _ => ask_any (.inl ⟨rfl, .inr rfl⟩) e2) fun a b ha hb => two_same (ev_tg k1 (by omega) hx ha) (ev_tg k2 (by omega) hx hb)
    rw [show m + 3 * (h + 1) + 1 = m + 1 + 3 * h + 1 + 1 + 1 by omega]
    exact this
  | @nt h t k ih =>
    intro hh x s m hx
    have e : S_l_due (m + 1 + 3 * h + 1) [tmD t, x] s = .ok (dueO (ev t x)) s := ih (by omega) x s (m + 1) hx
    have := du_one (w := wNot) (f := ntE) (.inl rfl) (ask_tru (w := wNot) (.inl ⟨rfl, rfl⟩) e fun y => ev_tg k (by omega) hx) fun a ha => by
      obtain ⟨c, rfl⟩ := bnd_tru _ ha
      exact one_not c _
    rw [show m + 3 * (h + 1) + 1 = m + 1 + 3 * h + 1 + 1 + 1 by omega]
    exact this
  | @both h t u k1 k2 ih1 ih2 =>
    intro hh x s m hx
    have e1 : S_l_due (m + 1 + 3 * h + 1) [tmD t, x] s = .ok (dueO (ev t x)) s := ih1 (by omega) x s (m + 1) hx
    have e2 : S_l_due (m + 1 + 3 * h + 1) [tmD u, x] s = .ok (dueO (ev u x)) s := ih2 (by omega) x s (m + 1) hx
    have := du_both bnd_tru (ask_tru (w := wBoth) (.inr (.inl ⟨rfl, rfl⟩)) e1 fun y => ev_tg k1 (by omega) hx) fun a _ => ask_tru (w := wBoth) (.inr (.inr (.inl ⟨rfl, rfl⟩))) e2 fun y => ev_tg k2 (by omega) hx
    rw [show m + 3 * (h + 1) + 1 = m + 1 + 3 * h + 1 + 1 + 1 by omega]
    exact this
  | @each h t u k1 k2 ih1 ih2 =>
    intro hh x s m hx
    have e1 : S_l_due (m + 1 + 3 * h + 1) [tmD t, x] s = .ok (dueO (ev t x)) s := ih1 (by omega) x s (m + 1) hx
    have := du_each (u := tmD u) (f := fun a => allE (fun z => (ev u z).bnd (truE wEach)) (itm a)) (ask_row (w := wEach) (.inr rfl) e1 fun y => ev_tg k1 (by omega) hx) fun a ha => by
      obtain ⟨b, eb, e2⟩ := bnd_sd ha
      obtain ⟨rfl, hr⟩ := row_sd e2
      have r := ev_rs6 k1 (by omega) hx eb
      have hz4 : ∀ z ∈ itm a, Ti 4 z := fun z hz => by
        rcases hr with ⟨xs, rfl⟩ | ⟨xs, rfl⟩
        · cases r with | lst _ h1 h2 => exact (h2 z hz).up 4 (by omega)
        · cases r with | tup _ h1 h2 => exact (h2 z hz).up 4 (by omega)
      have hw : Rw a := by rcases hr with ⟨xs, rfl⟩ | ⟨xs, rfl⟩ <;> constructor
      refine du_each_val (f := fun z => ev u z) hw fun z hz => ?_
      have q := ask_tru (pl := .int 1) (one := .non) (w := wEach) (.inr (.inr (.inr (.inl ⟨rfl, rfl⟩)))) (ih2 (by omega) z s m (hz4 z hz)) fun y => ev_tg k2 (by omega) (hz4 z hz)
      rw [show m + 3 * h + 1 + 1 = m + 1 + 3 * h + 1 by omega] at q
      exact q
    rw [show m + 3 * (h + 1) + 1 = m + 1 + 3 * h + 1 + 1 + 1 by omega]
    exact this
  | @joined h t u k1 k2 ih1 ih2 =>
    intro hh x s m hx
    have e1 : S_l_due (m + 1 + 3 * h + 1) [tmD t, x] s = .ok (dueO (ev t x)) s := ih1 (by omega) x s (m + 1) hx
    have e2 : S_l_due (m + 1 + 3 * h + 1) [tmD u, x] s = .ok (dueO (ev u x)) s := ih2 (by omega) x s (m + 1) hx
    have jk : ∀ a, (ev t x).bnd jn0 = .sd a → ev t x = .sd a ∧ (kd a = 2 ∨ kd a = 4) := fun a ha => by
      obtain ⟨b, eb, e3⟩ := bnd_sd ha
      unfold jn0 at e3
      split at e3
      · cases e3; exact ⟨eb, .inr rfl⟩
      · cases e3; exact ⟨eb, .inl rfl⟩
      · exact nomatch e3
    have := du_two (w := wJoined) (f := fun a => (ev u x).bnd (chkO (jnE a))) (g := jnE) (.inr (.inr (.inr (.inr rfl)))) (ask_jn0 e1 fun y => ev_tg k1 (by omega) hx) (fun a ha => ask_jn1 (ev_tg k1 (by omega) hx (jk a ha).1) (jk a ha).2 e2 fun y => ev_tg k2 (by omega) hx) fun a b ha hb => by
      obtain ⟨e3, z, hz⟩ := chk_sd hb
      exact two_jn (ev_rs6 k1 (by omega) hx (jk a ha).1) (ev_rs6 k2 (by omega) hx e3) hz
    rw [show m + 3 * (h + 1) + 1 = m + 1 + 3 * h + 1 + 1 + 1 by omega]
    have eq : (((ev t x).bnd jn0).bnd fun a => ((ev u x).bnd (chkO (jnE a))).bnd (jnE a)) = ev (.joined t u) x := by
      simp only [bnd_chk]
      rfl
    rw [eq] at this
    exact this
  | @whn h c t u k1 k2 k3 ih1 ih2 ih3 =>
    intro hh x s m hx
    have e1 : S_l_due (m + 1 + 3 * h + 1) [tmD c, x] s = .ok (dueO (ev c x)) s := ih1 (by omega) x s (m + 1) hx
    have e2 : S_l_due (m + 1 + 3 * h + 1) [tmD t, x] s = .ok (dueO (ev t x)) s := ih2 (by omega) x s (m + 1) hx
    have e3 : S_l_due (m + 1 + 3 * h + 1) [tmD u, x] s = .ok (dueO (ev u x)) s := ih3 (by omega) x s (m + 1) hx
    have := du_when bnd_tru (ask_tru (w := wWhen) (.inr (.inr (.inr (.inr ⟨rfl, rfl⟩)))) e1 fun y => ev_tg k1 (by omega) hx) (ask_any (.inr ⟨rfl, rfl⟩) e2) (ask_any (.inr ⟨rfl, rfl⟩) e3)
    rw [show m + 3 * (h + 1) + 1 = m + 1 + 3 * h + 1 + 1 + 1 by omega]
    exact this
end Law

/-! GOc: things copied, with lists of their own; the lists that stand within. -/
namespace Law
open PySem L2 Gs
/-- no number, no text, ..: no list -/
def Sc (y : D) : Prop := (∃ i, y = .int i) ∨ (∃ l, y = .str l) ∨ (∃ b, y = .bl b) ∨ y = .non
/-- the lists of the store that stand in a datum, as they are met -/
def Tl (s : Sto) : Nat → D → List Nat → Prop
  | 0, y, ix => Sc y ∧ ix = []
  | n + 1, y, ix => (Sc y ∧ ix = []) ∨ ∃ ps : List (D × List Nat), ps.length ≤ 1000 ∧ (∀ p ∈ ps, Tl s n p.1 p.2) ∧ ((y = .tup (ps.map (·.1)) ∧ ix = (ps.map (·.2)).flatten) ∨ ∃ k, y = .ob k ∧ s[k]? = some (.lst (ps.map (·.1))) ∧ ix = k :: (ps.map (·.2)).flatten)
theorem tl_mono {s : Sto} (g : Sto) : ∀ (n : Nat) (y : D) (ix : List Nat), Tl s n y ix → Tl (s ++ g) n y ix
  | 0, y, ix, h => h
  | n + 1, y, ix, h => by
    rcases h with h | ⟨ps, h1, h2, h3⟩
    · exact .inl h
    · refine .inr ⟨ps, h1, fun p hp => tl_mono g n p.1 p.2 (h2 p hp), ?_⟩
      rcases h3 with h3 | ⟨k, e1, e2, e3⟩
      · exact .inl h3
      · exact .inr ⟨k, e1, by rw [List.getElem?_append_left (List.getElem?_eq_some_iff.mp e2).1]; exact e2, e3⟩
theorem tl_sc {s : Sto} {y : D} (h : Sc y) : ∀ n : Nat, Tl s n y []
  | 0 => ⟨h, rfl⟩
  | n + 1 => .inl ⟨h, rfl⟩
/-- the copy of x, made by k: with lists of its own, at most C of them -/
def Ocp (k n C : Nat) (x : D) : Prop := ∀ s : Sto, ∃ (y : D) (g : Sto) (ix : List Nat), S_own_copy k [x] s = .ok y (s ++ g) ∧ Tl (s ++ g) n y ix ∧ (∀ (g' : Sto) (m : Nat), n ≤ m → deepD (s ++ g ++ g') m y = x) ∧ ix.Nodup ∧ (∀ i ∈ ix, s.length ≤ i ∧ i < s.length + g.length) ∧ ix.length ≤ C
theorem ocp_sc {x : D} (h : Sc x) (k n : Nat) : Ocp (k + 1) n 0 x := fun s => ⟨x, [], [], by
    rw [List.append_nil]
    show U_own_copy _ _ _ = _
    apply runG_rt
    rcases h with ⟨i, rfl⟩ | ⟨i, rfl⟩ | ⟨i, rfl⟩ | rfl <;> simp [tyN, isTy], tl_sc h n, (fun g' m _ => by
    rcases h with ⟨i, rfl⟩ | ⟨i, rfl⟩ | ⟨i, rfl⟩ | rfl <;> cases m <;> simp [deepD]), .nil, (fun i hi => nomatch hi), by simp⟩
theorem ocp_lc {k n C : Nat} (x0 : Option D) : ∀ (xs : List D), (∀ x ∈ xs, Ocp k n C x) → ∀ s : Sto, ∃ (ps : List (D × List Nat)) (g : Sto), lcD (.nm 1) tTrue (eCall (S_own_copy k) (aCons (eV 1) aNil)) [x0, none] xs s = .ok (ps.map (·.1)) (s ++ g) ∧ ps.length = xs.length ∧ (∀ p ∈ ps, Tl (s ++ g) n p.1 p.2) ∧ (∀ (g' : Sto) (m : Nat), n ≤ m → (ps.map (·.1)).map (deepD (s ++ g ++ g') m) = xs) ∧ ((ps.map (·.2)).flatten).Nodup ∧ (∀ i ∈ (ps.map (·.2)).flatten, s.length ≤ i ∧ i < s.length + g.length) ∧ ((ps.map (·.2)).flatten).length ≤ C * xs.length
  | [], _, s => ⟨[], [], by simp [lcD], rfl, (fun p hp => nomatch hp), (fun _ _ _ => rfl), .nil, (fun i hi => nomatch hi), by simp⟩
  | x :: xs, h, s => by
    obtain ⟨y, g, ix, e1, t1, d1, n1, r1, c1⟩ := h x (by simp) s
    obtain ⟨ps, g2, e2, l2, t2, d2, n2, r2, c2⟩ := ocp_lc x0 xs (fun y hy => h y (by simp [hy])) (s ++ g)
    refine ⟨(y, ix) :: ps, g ++ g2, ?_, by simp [l2], ?_, ?_, ?_, ?_, ?_⟩
    · have e3 : eCall (S_own_copy k) (aCons (eV 1) aNil) [x0, some x] s = .ok y (s ++ g) := by simp [e1]
      simp only [lcD, v_nm, List.set_cons_succ, List.set_cons_zero, tTrue]
      rw [e3]
      simp only []
      rw [e2]
      simp
    · intro p hp
      rw [← List.append_assoc]
      rcases List.mem_cons.mp hp with rfl | hp
      · exact tl_mono g2 n _ _ t1
      · exact t2 p hp
    · intro g' m hm
      have a := d1 (g2 ++ g') m hm
      have b := d2 g' m hm
      have e : s ++ (g ++ g2) ++ g' = s ++ g ++ (g2 ++ g') := by simp
      have e2 : s ++ g ++ g2 ++ g' = s ++ g ++ (g2 ++ g') := by simp
      rw [e, List.map_cons, List.map_cons]
      rw [e2] at b
      rw [a, b]
    · rw [List.map_cons, List.flatten_cons, List.nodup_append]
      refine ⟨n1, n2, fun a ha b hb e => ?_⟩
      subst e
      have h1 := r1 a ha
      have h2 := r2 a hb
      rw [List.length_append] at h2
      omega
    · intro i hi
      rw [List.map_cons, List.flatten_cons] at hi
      rw [List.length_append]
      rcases List.mem_append.mp hi with hi | hi
      · have := r1 i hi; omega
      · have := r2 i hi
        rw [List.length_append] at this
        omega
    · rw [List.map_cons, List.flatten_cons, List.length_append, List.length_cons, Nat.mul_add]
      simp only [Nat.mul_one]
      omega
theorem ocp_lst {k n C : Nat} {xs : List D} (h : ∀ x ∈ xs, Ocp k n C x) (hl : xs.length ≤ 1000) : Ocp (k + 1) (n + 1) (1 + C * xs.length) (.lst xs) := fun s => by
  obtain ⟨ps, g, e, l, t, d, nd, r, c⟩ := ocp_lc (some (.lst xs)) xs h s
  have ll : ps.length ≤ sizeLine := small_line (by omega)
  refine ⟨.ob (s ++ g).length, g ++ [.lst (ps.map (·.1))], (s ++ g).length :: (ps.map (·.2)).flatten, ?_, ?_, ?_, ?_, ?_, ?_⟩
  · show U_own_copy _ _ _ = _
    apply runG_rt
    simp [seqOf, wipeD, e, ll]
  · refine .inr ⟨ps, by omega, fun p hp => ?_, .inr ⟨_, rfl, ?_, rfl⟩⟩
    · rw [← List.append_assoc]
      exact tl_mono _ n _ _ (t p hp)
    · rw [← List.append_assoc, List.getElem?_append_right (Nat.le_refl _)]
      simp
  · intro g' m hm
    obtain ⟨m, rfl⟩ : ∃ j, m = j + 1 := ⟨m - 1, by omega⟩
    have e1 : (s ++ (g ++ [O.lst (ps.map (·.1))]) ++ g')[(s ++ g).length]? = some (.lst (ps.map (·.1))) := by
      have : s ++ (g ++ [O.lst (ps.map (·.1))]) ++ g' = (s ++ g) ++ (O.lst (ps.map (·.1)) :: g') := by simp
      rw [this, List.getElem?_append_right (Nat.le_refl _)]
      simp
    have d1 := d ([O.lst (ps.map (·.1))] ++ g') m (by omega)
    have e2 : s ++ g ++ ([O.lst (ps.map (·.1))] ++ g') = s ++ (g ++ [O.lst (ps.map (·.1))]) ++ g' := by simp
    rw [e2] at d1
    simp only [deepD, e1]
    rw [d1]
  · refine List.nodup_cons.mpr ⟨fun hi => ?_, nd⟩
    have := r _ hi
    rw [List.length_append] at this
    omega
  · intro i hi
    rw [List.length_append]
    rcases List.mem_cons.mp hi with rfl | hi
    · rw [List.length_append, List.length_singleton]; omega
    · have := r i hi
      simp only [List.length_singleton]
      omega
  · rw [List.length_cons]
    omega
theorem ocp_tup {k n C : Nat} {xs : List D} (h : ∀ x ∈ xs, Ocp k n C x) (hl : xs.length ≤ 1000) : Ocp (k + 1) (n + 1) (C * xs.length) (.tup xs) := fun s => by
  obtain ⟨ps, g, e, l, t, d, nd, r, c⟩ := ocp_lc (some (.tup xs)) xs h s
  have ll : ps.length ≤ sizeLine := small_line (by omega)
  refine ⟨.tup (ps.map (·.1)), g, (ps.map (·.2)).flatten, ?_, ?_, ?_, nd, r, c⟩
  · show U_own_copy _ _ _ = _
    apply runG_rt
    simp [seqOf, wipeD, e, ll, tyN, isTy]
  · exact .inr ⟨ps, by omega, t, .inl ⟨rfl, rfl⟩⟩
  · intro g' m hm
    obtain ⟨m, rfl⟩ : ∃ j, m = j + 1 := ⟨m - 1, by omega⟩
    have d1 := d g' m (by omega)
    simp only [deepD]
    rw [d1]
theorem Ocp.up {k n C C' : Nat} {x : D} (h : Ocp k n C x) (hC : C ≤ C') : Ocp k n C' x := fun s => by
  obtain ⟨y, g, ix, e1, t1, d1, n1, r1, c1⟩ := h s
  exact ⟨y, g, ix, e1, t1, d1, n1, r1, by omega⟩
/-- so many lists at most -/
def lsN : Nat → Nat
  | 0 => 0
  | n + 1 => 1 + lsN n * 5
theorem lsN_up (n : Nat) : lsN n ≤ lsN (n + 1) := by
  show lsN n ≤ 1 + lsN n * 5
  omega
theorem ti_ocp {n : Nat} {x : D} (h : Ti n x) : ∀ k : Nat, Ocp (k + n + 1) n (lsN n) x := by
  induction h with
  | int n i h => exact fun k => (ocp_sc (.inl ⟨i, rfl⟩) _ n).up (by omega)
  | bl n b => exact fun k => (ocp_sc (.inr (.inr (.inl ⟨b, rfl⟩))) _ n).up (by omega)
  | str n l h1 h2 => exact fun k => (ocp_sc (.inr (.inl ⟨_, rfl⟩)) _ n).up (by omega)
  | non n => exact fun k => (ocp_sc (.inr (.inr (.inr rfl))) _ n).up (by omega)
  | lst n xs h1 _ ih =>
    intro k
    have := Nat.mul_le_mul_left (lsN n) h1
    exact (ocp_lst (fun x hx => ih x hx k) (by omega)).up (by show _ ≤ 1 + lsN n * 5; omega)
  | tup n xs h1 _ ih =>
    intro k
    have := Nat.mul_le_mul_left (lsN n) h1
    exact (ocp_tup (fun x hx => ih x hx k) (by omega)).up (by show _ ≤ 1 + lsN n * 5; omega)
theorem rs_ocp {M L : Nat} {x : D} (h : Rs M L x) (hL : L ≤ 640) (k : Nat) : Ocp (k + 5) 4 20000 x := by
  cases h with
  | int i h => exact (ocp_sc (.inl ⟨i, rfl⟩) _ 4).up (by omega)
  | bl b => exact (ocp_sc (.inr (.inr (.inl ⟨b, rfl⟩))) _ 4).up (by omega)
  | str l h1 h2 => exact (ocp_sc (.inr (.inl ⟨_, rfl⟩)) _ 4).up (by omega)
  | non => exact (ocp_sc (.inr (.inr (.inr rfl))) _ 4).up (by omega)
  | lst xs h1 h2 =>
    have e : lsN 3 = 31 := rfl
    have := Nat.mul_le_mul_left 31 (show xs.length ≤ 640 by omega)
    exact (ocp_lst (fun x hx => ti_ocp (h2 x hx) k) (by omega)).up (by rw [e]; omega)
  | tup xs h1 h2 =>
    have e : lsN 3 = 31 := rfl
    have := Nat.mul_le_mul_left 31 (show xs.length ≤ 640 by omega)
    exact (ocp_tup (fun x hx => ti_ocp (h2 x hx) k) (by omega)).up (by rw [e]; omega)
end Law

/-! GOl: the lists that stand within; something put to each. -/
namespace Law
open PySem L2 Gs
theorem seq3 {A R : S} {δ : Sl} {s : Sto} {r : RS} (δ' : Sl) (s' : Sto) (h : A δ s = .nx δ' s') (h2 : R δ' s' = r) : sSeq A R δ s = r := by
  rw [v_sSeq, h]
  exact h2
theorem l1s : 1 ≤ sizeLine := small_line (by omega)
theorem li_scal {y : D} (h : Sc y) (k : Nat) (s : Sto) : S_l_lists (k + 1) [y] s = .ok (.ob s.length) (s ++ [.lst []]) := by
  show U_l_lists _ _ _ = _
  apply runG_rt
  rcases h with ⟨i, rfl⟩ | ⟨l, rfl⟩ | ⟨b, rfl⟩ | rfl <;> simp [gIsi2, tyN, isTy]
theorem li_loop {k n : Nat} {x0 : Option D} (s0 : Sto) {q : Wk} (hq : ∀ s g, s = s0 ++ g → Stl q s) : ∀ (ps : List (D × List Nat)) (acc : List Nat) (y : Option D) (g : Sto), (∀ p ∈ ps, ∀ s, ∃ g, S_l_lists k [p.1] (s0 ++ s) = .ok (.ob (s0 ++ s).length) (s0 ++ s ++ .lst (p.2.map .ob) :: g)) → acc.length + ((ps.map (·.2)).flatten).length ≤ 20000 →
    ∃ y' g', forO q (.nm 2) (L_l_lists_0 (S_l_lists k)) (ps.map (·.1)) [x0, some (.ob s0.length), y] (s0 ++ .lst (acc.map .ob) :: g) = .nx [x0, some (.ob s0.length), y'] (s0 ++ .lst ((acc ++ (ps.map (·.2)).flatten).map .ob) :: g')
  | [], acc, y, g, _, _ => ⟨y, g, by
    simp only [List.map_nil, forO, if_pos (hq _ _ rfl)]
    simp⟩
  | p :: ps, acc, y, g, h, hl => by
    obtain ⟨g1, e1⟩ := h p (by simp) (.lst (acc.map .ob) :: g)
    simp only [List.map_cons, List.flatten_cons, List.length_append] at hl
    obtain ⟨y', g', ih⟩ := li_loop (k := k) (n := n) (x0 := x0) s0 hq ps (acc ++ p.2) (some p.1) (g ++ .lst (p.2.map .ob) :: g1) (fun r hr => h r (by simp [hr])) (by rw [List.length_append]; omega)
    refine ⟨y', g', ?_⟩
    have a1 : s0 ++ O.lst (acc.map .ob) :: g ++ O.lst (p.2.map .ob) :: g1 = s0 ++ O.lst (acc.map .ob) :: (g ++ .lst (p.2.map .ob) :: g1) := by simp
    have r1 := rsv_mid (s0 ++ O.lst (acc.map .ob) :: g) g1 (p.2.map .ob)
    rw [a1] at e1 r1
    have l1 : acc.length + p.2.length ≤ sizeLine := small_line (by omega)
    have eb : L_l_lists_0 (S_l_lists k) [x0, some (.ob s0.length), some p.1] (s0 ++ .lst (acc.map .ob) :: g) = .nx [x0, some (.ob s0.length), some p.1] (s0 ++ .lst ((acc ++ p.2).map .ob) :: (g ++ .lst (p.2.map .ob) :: g1)) := by
      obtain ⟨K, hK⟩ : ∃ K, (s0 ++ O.lst (acc.map .ob) :: g).length = K := ⟨_, rfl⟩
      rw [hK] at e1 r1
      simp [L_l_lists_0, eExt, e1, r1, l1]
    simp only [List.map_cons, forO, if_pos (hq _ _ rfl), v_nm, List.set_cons_succ, List.set_cons_zero]
    rw [eb]
    simp only []
    rw [ih]
    simp
theorem li_val : ∀ (n : Nat) (y : D) (ix : List Nat) (s : Sto), Tl s n y ix → ix.length ≤ 20000 → ∀ (m : Nat), ∃ g, S_l_lists (m + n + 1) [y] s = .ok (.ob s.length) (s ++ .lst (ix.map .ob) :: g)
  | 0, y, ix, s, h, _, m => by
    obtain ⟨h1, rfl⟩ := h
    exact ⟨[], li_scal h1 m s⟩
  | n + 1, y, ix, s, h, hl, m => by
    rcases h with ⟨h1, rfl⟩ | ⟨ps, h1, h2, h3⟩
    · exact ⟨[], li_scal h1 _ s⟩
    have hp : ∀ p ∈ ps, p.2.length ≤ ((ps.map (·.2)).flatten).length := by
      intro p hp
      rw [List.length_flatten]
      have : ∀ (l : List (D × List Nat)), p ∈ l → p.2.length ≤ ((l.map (·.2)).map List.length).sum := by
        intro l
        induction l with
        | nil => intro h; exact nomatch h
        | cons a l ih =>
          intro h
          simp only [List.map_cons, List.sum_cons]
          rcases List.mem_cons.mp h with rfl | h
          · omega
          · have := ih h; omega
      exact this ps hp
    have sub : ∀ p ∈ ps, ((ps.map (·.2)).flatten).length ≤ 20000 → ∀ g, ∃ g', S_l_lists (m + (n + 1)) [p.1] (s ++ g) = .ok (.ob (s ++ g).length) (s ++ g ++ .lst (p.2.map .ob) :: g') := fun p hpp hl2 g => li_val n p.1 p.2 (s ++ g) (tl_mono g n _ _ (h2 p hpp)) (Nat.le_trans (hp p hpp) hl2) m
    have l1 : 1 ≤ sizeLine := l1s
    have z1 : 0 < sizeLine := by omega
    rcases h3 with ⟨rfl, rfl⟩ | ⟨k, rfl, hk, rfl⟩
    · obtain ⟨y', g', e⟩ := li_loop (k := m + (n + 1)) (n := n) (x0 := some (.tup (ps.map (·.1)))) s (q := (ps.map (·.1), none)) (fun s g _ => stl_none _ _) ps [] none [] (fun p hpp g => sub p hpp hl g) (by rw [List.length_nil]; omega)
      refine ⟨g', ?_⟩
      show U_l_lists _ _ _ = _
      apply runG_rt
      simp at e
      simp [e]
    · have hkl : k < s.length := (List.getElem?_eq_some_iff.mp hk).1
      have hkg : ∀ g : Sto, (s ++ g)[k]? = some (.lst (ps.map (·.1))) := fun g => by rw [List.getElem?_append_left hkl]; exact hk
      simp only [List.length_cons] at hl
      obtain ⟨y', g', e⟩ := li_loop (k := m + (n + 1)) (n := n) (x0 := some (.ob k)) s (q := (ps.map (·.1), some k)) (fun s' g hs => by rw [hs]; exact stl_some (hkg g)) ps [k] none [] (fun p hpp g => sub p hpp (by omega) g) (by rw [List.length_singleton]; omega)
      refine ⟨g', ?_⟩
      have r1 : ∀ g, rsv (s ++ g) (.ob k) = .lst (ps.map (·.1)) := fun g => r_ob (hkg g)
      have w1 : ∀ g, wkOf (s ++ g) (.ob k) = some (ps.map (·.1), some k) := fun g => wk_ob (hkg g)
      show U_l_lists _ _ _ = _
      apply runG_rt
      simp at e
      simp [r1, w1, z1, e]
theorem put_loop {x0 x2 x4 : Option D} {q : Wk} {K : Nat} (hq : ∀ s : Sto, s[K]? = some (.lst q.1) → Stl q s) (f : Nat → Nat) : ∀ (rest : List Nat) (s : Sto) (y : Option D), s[K]? = some (.lst q.1) → K ∉ rest → rest.Nodup → (∀ i ∈ rest, f i ≤ 5000 ∧ ∃ xs, s[i]? = some (.lst xs) ∧ xs.length = f i) →
    ∃ y' s', forO q (.nm 3) L_l_own_0 (rest.map D.ob) [x0, some (.ob K), x2, y, x4] s = .nx [x0, some (.ob K), x2, y', x4] s' ∧ s'[K]? = some (.lst q.1) ∧ (∀ i ∈ rest, ∃ xs, s'[i]? = some (.lst xs) ∧ xs.length = f i + 1) ∧ ∀ i, i ∉ rest → s'[i]? = s[i]?
  | [], s, y, hK, _, _, _ => ⟨y, s, by simp only [List.map_nil, forO, if_pos (hq s hK)], hK, (fun i hi => nomatch hi), fun i _ => rfl⟩
  | i :: rest, s, y, hK, hKn, hnd, hl => by
    obtain ⟨h1, h2⟩ := List.nodup_cons.mp hnd
    obtain ⟨hf, xs, hx, hxl⟩ := hl i (by simp)
    have hi : i < s.length := (List.getElem?_eq_some_iff.mp hx).1
    have hKi : K ≠ i := fun e => hKn (by simp [e])
    obtain ⟨s1, hs1⟩ : ∃ s1, s.set i (.lst (xs ++ [.non])) = s1 := ⟨_, rfl⟩
    have g1 : ∀ j, j ≠ i → s1[j]? = s[j]? := fun j hj => by rw [← hs1, List.getElem?_set_ne (Ne.symm hj)]
    have g2 : s1[i]? = some (.lst (xs ++ [.non])) := by rw [← hs1, List.getElem?_set_self hi]
    obtain ⟨y', s', e, k1, k2, k3⟩ := put_loop (x0 := x0) (x2 := x2) (x4 := x4) hq f rest s1 (some (.ob i)) (by rw [g1 K hKi]; exact hK) (fun h => hKn (by simp [h])) h2 (fun j hj => by
      have hji : j ≠ i := fun e => h1 (e ▸ hj)
      obtain ⟨a, b, c, d⟩ := hl j (by simp [hj])
      exact ⟨a, b, by rw [g1 j hji]; exact c, d⟩)
    refine ⟨y', s', ?_, k1, fun j hj => ?_, fun j hj => ?_⟩
    · have ls : lsO s (.ob i) = some xs := lsO_ob hx
      have lx : xs.length < sizeLine := small_line (n := xs.length + 1) (by omega)
      have eb : L_l_own_0 [x0, some (.ob K), x2, some (.ob i), x4] s = .nx [x0, some (.ob K), x2, some (.ob i), x4] s1 := by
        have st : stO s (.ob i) (xs ++ [.non]) = s1 := by rw [← hs1]; rfl
        simp only [L_l_own_0, v_sDrop, v_eApp]
        simp [ls, lx, hs1]
      simp only [List.map_cons, forO, if_pos (hq s hK), v_nm, List.set_cons_succ, List.set_cons_zero]
      rw [eb]
      exact e
    · rcases List.mem_cons.mp hj with rfl | hj
      · rw [k3 j h1, g2]
        exact ⟨_, rfl, by simp [hxl]⟩
      · exact k2 j hj
    · have hji : j ≠ i := fun e => hj (by simp [e])
      rw [k3 j (fun h => hj (by simp [h])), g1 j hji]
theorem ints_same (l : List Int) : gEq (.lst (l.map .int)) (.lst (l.map .int)) = some (.bl true) := by
  obtain ⟨p, h1, h2, h3⟩ := eqk_lst (k := 0) (xs := l.map D.int) fun x hx => by
    obtain ⟨i, _, rfl⟩ := List.mem_map.mp hx
    exact eqk_int 0 i
  have e : eqO (.lst (l.map .int)) (.lst (l.map .int)) = eqPy (.lst (l.map .int)) (.lst (l.map .int)) := by simp [eqO]
  have hs : SeqAt.shaped p = true := by
    simp [SeqAt.shaped, h2]
    omega
  unfold gEq
  rw [e]
  unfold eqPy
  rw [h1]
  simp [hs, SeqAt.eqv_refl p h2]
theorem own_val {n : Nat} (hn : n ≤ 19) {y : D} {ix : List Nat} {s : Sto} (h : Tl s n y ix) (hl : ix.length ≤ 20000) (hnd : ix.Nodup) (f : Nat → Nat) (hf : ∀ i ∈ ix, f i ≤ 5000 ∧ ∃ xs, s[i]? = some (.lst xs) ∧ xs.length = f i) : ∃ s', S_l_own [y] s = .ok (.bl true) s' := by
  obtain ⟨g, e1⟩ := li_val n y ix s h (by omega) (29 - n)
  rw [show 29 - n + n + 1 = 30 by omega] at e1
  obtain ⟨S, hS⟩ : ∃ S, s ++ O.lst (ix.map D.ob) :: g = S := ⟨_, rfl⟩
  have hK : S[s.length]? = some (.lst (ix.map D.ob)) := by rw [← hS]; exact get_mid _ _ _
  have hlt : ∀ i ∈ ix, i < s.length := fun i hi => by
    obtain ⟨_, xs, hx, _⟩ := hf i hi
    exact (List.getElem?_eq_some_iff.mp hx).1
  have hSi : ∀ i ∈ ix, f i ≤ 5000 ∧ ∃ xs, S[i]? = some (.lst xs) ∧ xs.length = f i := fun i hi => by
    obtain ⟨a, xs, hx, hxl⟩ := hf i hi
    exact ⟨a, xs, by rw [← hS, List.getElem?_append_left (hlt i hi)]; exact hx, hxl⟩
  rw [hS] at e1
  have hq : ∀ s' : Sto, s'[s.length]? = some (.lst (ix.map D.ob)) → Stl (ix.map D.ob, some s.length) s' := fun s' h => stl_some h
  obtain ⟨y', S', e2, k1, k2, _⟩ := put_loop (x0 := some y) (x2 := some (.lst ((ix.map fun i => (f i : Int)).map .int))) (x4 := none) (q := (ix.map D.ob, some s.length)) (K := s.length) hq f ix S none hK (fun h => by have := hlt _ h; omega) hnd hSi
  have lix : ix.length ≤ sizeLine := small_line (by omega)
  have lens : ∀ (T : Sto) (a b : Nat → Nat) (c d e : Option D), T[s.length]? = some (.lst (ix.map D.ob)) → (∀ i ∈ ix, b i ≤ 6000 ∧ ∃ xs, T[i]? = some (.lst xs) ∧ xs.length = b i) → lcO (ix.map D.ob, some s.length) (.nm 3) tTrue (eFn gLen (aCons (eV 3) (aNil))) [some y, some (.ob s.length), c, d, e] (ix.map D.ob) T = .ok ((ix.map fun i => (b i : Int)).map .int) T := fun T a b c d e hT hb => by
    rw [List.map_map]
    refine lcO_keep (hq T hT) D.ob _ ix fun i hi => ⟨_, by simp; rfl, by simp, ?_⟩
    obtain ⟨h6, xs, hx, hxl⟩ := hb i hi
    have r : rsv T (.ob i) = .lst xs := r_ob hx
    have lx : xs.length ≤ sizeLine := small_line (by omega)
    simp [r, lx, hxl]
  have w1 : wkOf S (.ob s.length) = some (ix.map D.ob, some s.length) := wk_ob hK
  have w2 : wkOf S' (.ob s.length) = some (ix.map D.ob, some s.length) := wk_ob k1
  have l1 := lens S f f none none none hK (fun i hi => by obtain ⟨a, b⟩ := hSi i hi; exact ⟨by omega, b⟩)
  have l2 := lens S' f (fun i => f i + 1) (some (.lst ((ix.map fun i => (f i : Int)).map .int))) none none k1 (fun i hi => by obtain ⟨a, _⟩ := hSi i hi; exact ⟨by omega, k2 i hi⟩)
  have l3 := lcD_mapL (p := .nm 4) (c := tTrue) (e := eBin gAdd (eV 4) (eC (.int 1))) (δ := [some y, some (.ob s.length), some (.lst ((ix.map fun i => (f i : Int)).map .int)), y', none]) (s := S') (fun i : Nat => .int (f i : Int)) (fun i => .int ((f i + 1 : Nat) : Int)) ix fun i hi => ⟨_, by simp; rfl, by simp, by simp⟩
  have es := ints_same (ix.map fun i => ((f i + 1 : Nat) : Int))
  obtain ⟨A, hA⟩ : ∃ A, (ix.map fun i => (f i : Int)).map D.int = A := ⟨_, rfl⟩
  obtain ⟨B, hB⟩ : ∃ B, (ix.map fun i => ((f i + 1 : Nat) : Int)).map D.int = B := ⟨_, rfl⟩
  have hA2 : ix.map (fun i => D.int (f i : Int)) = A := by rw [← hA, List.map_map]; rfl
  have hB2 : ix.map (fun i => D.int ((f i + 1 : Nat) : Int)) = B := by rw [← hB, List.map_map]; rfl
  rw [hA] at l1 e2 l3 l2
  rw [hB] at l2 es
  rw [hA2, hB2] at l3
  have lA : A.length = ix.length := by rw [← hA]; simp
  have lB : B.length = ix.length := by rw [← hB]; simp
  refine ⟨S', ?_⟩
  apply runG_rt
  refine seq3 [some y, some (.ob s.length), none, none, none] S (by simp [e1]) ?_
  refine seq3 [some y, some (.ob s.length), some (.lst A), none, none] S (by simp [w1, wipeD, l1, lA, lix]) ?_
  refine seq3 [some y, some (.ob s.length), some (.lst A), y', none] S' (by simp [w1, e2]) ?_
  simp [w2, wipeD, l2, lB, lix, seqOf, l3, es]
end Law

/-! GTk: a number taken from the cells. -/
namespace Law
open PySem L2 Gs
def tk (cs : List Int) (m : Int) : Int := match cs with
  | [] => 0
  | x :: _ => x % m
theorem idx0 (n : Nat) : seqIndex? 0 (n + 1) = some 0 := by simp [seqIndex?]
theorem tk_val (s0 g : Sto) (cs : List Int) (m : Int) (hm : 0 < m) : S_l_take [.ob s0.length, .int m] (s0 ++ .lst (cs.map .int) :: g) = .ok (.int (tk cs m)) (s0 ++ .lst (cs.tail.map .int) :: g) := by
  have e := v_eqL0 cs
  cases cs with
  | nil =>
    apply runG_rt
    simp [tk]
  | cons x xs =>
    simp only [List.map_cons] at e
    rw [decide_eq_false (by simp)] at e
    have e2 := idx0 xs.length
    apply runG_rt
    simp [hm, e, tk, e2]
theorem tk_rng (cs : List Int) (m : Int) (hm : 0 < m) : 0 ≤ tk cs m ∧ tk cs m < m := by
  cases cs with
  | nil => exact ⟨Int.le_refl _, hm⟩
  | cons x xs => exact ⟨Int.emod_nonneg _ (by omega), Int.emod_lt_of_pos _ hm⟩
theorem atI_some (xs : List D) (j : Nat) (x : D) (h : xs[j]? = some x) : atI xs (j : Int) = some x := by
  obtain ⟨h1, h2⟩ := List.getElem?_eq_some_iff.mp h
  rw [atI_ofNat xs h1, h2]
end Law

/-! GKt: k55: the terms that are made. -/
namespace Law
open PySem L2 Gs
section
variable {K n l : Nat} {st : List Int → Sto}
def Sub (n l K : Nat) (st : List Int → Sto) : Prop := ∀ (w : Int) (cs : List Int), ∃ (t : Tm) (cs' : List Int), S_l_term n [.ob K, .int w, .int (l : Int)] (st cs) = .ok (tmD t) (st cs') ∧ Tk (l + 1) t
theorem small140 {i : Int} (h : i.natAbs < 2 ^ 64) : i.natAbs < 2 ^ 140 := Nat.lt_of_lt_of_le h (by decide)
theorem num_0 (f : Int) (cs : List Int) (n : Nat) : ∃ (t : Tm) (cs' : List Int), S_l_number_term (n + 1) [.ob K, .int f, .int 0] (st cs) = .ok (tmD t) (st cs') ∧ Tk 1 t := by
  have d7 : divOk 7 := divOk_small (by decide) (by decide)
  refine ⟨.num (f / 7 % 1000000000000 - 3), cs, ?_, .num _ _ (small140 (by omega))⟩
  show U_l_number_term _ _ _ _ _ _ = _
  apply runG_rt
  simp [d7, c_num, tmD, tm, wNum]
theorem num_1 (sub : Sub n l K st) (f : Int) (cs : List Int) : ∃ (t : Tm) (cs' : List Int), S_l_number_term (n + 1) [.ob K, .int f, .int ((l : Int) + 1)] (st cs) = .ok (tmD t) (st cs') ∧ Tk (l + 2) t := by
  have d7 : divOk 7 := divOk_small (by decide) (by decide)
  have h0 : ¬ ((l : Int) + 1 = 0) := by omega
  have l2 : 2 ≤ sizeLine := small_line (by omega)
  have hc : f % 7 = 0 ∨ f % 7 = 1 ∨ f % 7 = 2 ∨ f % 7 = 3 ∨ f % 7 = 4 ∨ f % 7 = 5 ∨ f % 7 = 6 := by omega
  show ∃ (t : Tm) (cs' : List Int), U_l_number_term _ _ _ _ _ _ = _ ∧ _
  rcases hc with h | h | h | h | h | h | h
  · refine ⟨.num (f / 7 % 1000000000000 - 3), cs, ?_, .num _ _ (small140 (by omega))⟩
    apply runG_rt
    simp [d7, c_num, tmD, tm, wNum, h, h0]
  · refine ⟨.here, cs, ?_, .here _⟩
    apply runG_rt
    simp [d7, c_here, tmD, tm, wHere, h, h0]
  · obtain ⟨t, cs1, e, k⟩ := sub 2 cs
    refine ⟨.count t, cs1, ?_, .count k⟩
    apply runG_rt
    simp [d7, c_count, tmD, tm, wCount, h, h0, e]
  · obtain ⟨t, cs1, e, k⟩ := sub 2 cs
    refine ⟨.sum t, cs1, ?_, .sum k⟩
    apply runG_rt
    simp [d7, c_sum, tmD, tm, wSum, h, h0, e]
  · obtain ⟨t, cs1, e, k⟩ := sub 2 cs
    obtain ⟨p, hp⟩ : ∃ p : Nat, f / 7 % 4 = (p : Int) := ⟨(f / 7 % 4).toNat, by omega⟩
    refine ⟨.part t p, cs1, ?_, .part p k⟩
    apply runG_rt
    simp [d7, c_part, tmD, tm, wPart, h, h0, e, hp]
  · obtain ⟨t, cs1, e, k⟩ := sub 0 cs
    obtain ⟨u, cs2, e2, k2⟩ := sub 0 cs1
    have a0 : atI [D.str (St wPlus), D.str (St wTimes)] 0 = some (.str (St wPlus)) := rfl
    refine ⟨.op .plus t u, cs2, ?_, .op _ k k2⟩
    simp only [wPlus, wTimes] at a0
    apply runG_rt
    simp [d7, c_plus, c_times, tmD, tm, Op.w, wPlus, h, h0, e, e2, a0, l2]
  · obtain ⟨t, cs1, e, k⟩ := sub 0 cs
    obtain ⟨u, cs2, e2, k2⟩ := sub 0 cs1
    have a0 : atI [D.str (St wPlus), D.str (St wTimes)] 1 = some (.str (St wTimes)) := rfl
    refine ⟨.op .times t u, cs2, ?_, .op _ k k2⟩
    simp only [wPlus, wTimes] at a0
    apply runG_rt
    simp [d7, c_plus, c_times, tmD, tm, Op.w, wTimes, h, h0, e, e2, a0, l2]
theorem row_0 (f : Int) (cs : List Int) (n : Nat) : ∃ (t : Tm) (cs' : List Int), S_l_row_term (n + 1) [.ob K, .int f, .int 0] (st cs) = .ok (tmD t) (st cs') ∧ Tk 1 t := by
  have d7 : divOk 5 := divOk_small (by decide) (by decide)
  refine ⟨.here, cs, ?_, .here _⟩
  show U_l_row_term _ _ _ _ _ _ = _
  apply runG_rt
  simp [d7, c_here, tmD, tm, wHere]
theorem row_1 (sub : Sub n l K st) (f : Int) (cs : List Int) : ∃ (t : Tm) (cs' : List Int), S_l_row_term (n + 1) [.ob K, .int f, .int ((l : Int) + 1)] (st cs) = .ok (tmD t) (st cs') ∧ Tk (l + 2) t := by
  have d7 : divOk 5 := divOk_small (by decide) (by decide)
  have h0 : ¬ ((l : Int) + 1 = 0) := by omega
  have hc : f % 5 = 0 ∨ f % 5 = 1 ∨ f % 5 = 2 ∨ f % 5 = 3 ∨ f % 5 = 4 := by omega
  show ∃ (t : Tm) (cs' : List Int), U_l_row_term _ _ _ _ _ _ = _ ∧ _
  rcases hc with h | h | h | h | h
  · refine ⟨.here, cs, ?_, .here _⟩
    apply runG_rt
    simp [d7, c_here, tmD, tm, wHere, h, h0]
  · refine ⟨.here, cs, ?_, .here _⟩
    apply runG_rt
    simp [d7, c_here, tmD, tm, wHere, h, h0]
  · obtain ⟨t, cs1, e, k⟩ := sub 2 cs
    refine ⟨.turned t, cs1, ?_, .turned k⟩
    apply runG_rt
    simp [d7, c_turned, tmD, tm, wTurned, h, h0, e]
  · obtain ⟨t, cs1, e, k⟩ := sub 2 cs
    obtain ⟨p, hp⟩ : ∃ p : Nat, f / 5 % 4 = (p : Int) := ⟨(f / 5 % 4).toNat, by omega⟩
    refine ⟨.part t p, cs1, ?_, .part p k⟩
    apply runG_rt
    simp [d7, c_part, tmD, tm, wPart, h, h0, e, hp]
  · obtain ⟨t, cs1, e, k⟩ := sub 2 cs
    obtain ⟨u, cs2, e2, k2⟩ := sub 2 cs1
    refine ⟨.joined t u, cs2, ?_, .joined k k2⟩
    apply runG_rt
    simp [d7, c_joined, tmD, tm, wJoined, h, h0, e, e2]
theorem tru_0 (f : Int) (cs : List Int) (n : Nat) : ∃ (t : Tm) (cs' : List Int), S_l_truth_term (n + 1) [.ob K, .int f, .int 0] (st cs) = .ok (tmD t) (st cs') ∧ Tk 1 t := by
  have d6 : divOk 6 := divOk_small (by decide) (by decide)
  have d54 : divOk 54 := divOk_small (by decide) (by decide)
  refine ⟨.op .less (.num (f / 6 % 9)) (.num (f / 54 % 9)), cs, ?_, .op _ (.num _ _ (small140 (by omega))) (.num _ _ (small140 (by omega)))⟩
  show U_l_truth_term _ _ _ _ _ _ = _
  apply runG_rt
  simp [d6, d54, c_num, c_less, tmD, tm, Op.w, wLess, wNum]
theorem tru_1 (sub : Sub n l K st) (f : Int) (cs : List Int) : ∃ (t : Tm) (cs' : List Int), S_l_truth_term (n + 1) [.ob K, .int f, .int ((l : Int) + 1)] (st cs) = .ok (tmD t) (st cs') ∧ Tk (l + 2) t := by
  have d6 : divOk 6 := divOk_small (by decide) (by decide)
  have d54 : divOk 54 := divOk_small (by decide) (by decide)
  have h0 : ¬ ((l : Int) + 1 = 0) := by omega
  have hc : f % 6 = 0 ∨ f % 6 = 1 ∨ f % 6 = 2 ∨ f % 6 = 3 ∨ f % 6 = 4 ∨ f % 6 = 5 := by omega
  show ∃ (t : Tm) (cs' : List Int), U_l_truth_term _ _ _ _ _ _ = _ ∧ _
  rcases hc with h | h | h | h | h | h
  · refine ⟨.op .less (.num (f / 6 % 9)) (.num (f / 54 % 9)), cs, ?_, .op _ (.num _ _ (small140 (by omega))) (.num _ _ (small140 (by omega)))⟩
    apply runG_rt
    simp [d6, d54, c_num, c_less, tmD, tm, Op.w, wLess, wNum, h, h0]
  · obtain ⟨t, cs1, e, k⟩ := sub 3 cs
    obtain ⟨u, cs2, e2, k2⟩ := sub 3 cs1
    refine ⟨.same t u, cs2, ?_, .same k k2⟩
    apply runG_rt
    simp [d6, d54, c_same, tmD, tm, wSame, h, h0, e, e2]
  · obtain ⟨t, cs1, e, k⟩ := sub 1 cs
    refine ⟨.nt t, cs1, ?_, .nt k⟩
    apply runG_rt
    simp [d6, d54, c_not, tmD, tm, wNot, h, h0, e]
  · obtain ⟨t, cs1, e, k⟩ := sub 1 cs
    obtain ⟨u, cs2, e2, k2⟩ := sub 1 cs1
    refine ⟨.both t u, cs2, ?_, .both k k2⟩
    apply runG_rt
    simp [d6, d54, c_both, tmD, tm, wBoth, h, h0, e, e2]
  · obtain ⟨t, cs1, e, k⟩ := sub 2 cs
    obtain ⟨u, cs2, e2, k2⟩ := sub 1 cs1
    refine ⟨.each t u, cs2, ?_, .each k k2⟩
    apply runG_rt
    simp [d6, d54, c_each, tmD, tm, wEach, h, h0, e, e2]
  · obtain ⟨t, cs1, e, k⟩ := sub 0 cs
    obtain ⟨u, cs2, e2, k2⟩ := sub 0 cs1
    refine ⟨.op .less t u, cs2, ?_, .op _ k k2⟩
    apply runG_rt
    simp [d6, d54, c_less, tmD, tm, Op.w, wLess, h, h0, e, e2]
theorem term_step {left : Int} {H : Nat} (htk : ∀ (m : Int) (cs : List Int), 0 < m → S_l_take [.ob K, .int m] (st cs) = .ok (.int (tk cs m)) (st cs.tail))
    (hn : ∀ (f : Int) (cs : List Int), ∃ (t : Tm) (cs' : List Int), S_l_number_term n [.ob K, .int f, .int left] (st cs) = .ok (tmD t) (st cs') ∧ Tk H t)
    (hr : ∀ (f : Int) (cs : List Int), ∃ (t : Tm) (cs' : List Int), S_l_row_term n [.ob K, .int f, .int left] (st cs) = .ok (tmD t) (st cs') ∧ Tk H t)
    (ht : ∀ (f : Int) (cs : List Int), ∃ (t : Tm) (cs' : List Int), S_l_truth_term n [.ob K, .int f, .int left] (st cs) = .ok (tmD t) (st cs') ∧ Tk H t)
    (hw : 0 < left → ∀ (w : Int) (cs : List Int), ∃ (c t u : Tm) (cs1 cs2 cs3 : List Int), S_l_term n [.ob K, .int 1, .int (left - 1)] (st cs) = .ok (tmD c) (st cs1) ∧ S_l_term n [.ob K, .int w, .int (left - 1)] (st cs1) = .ok (tmD t) (st cs2) ∧ S_l_term n [.ob K, .int w, .int (left - 1)] (st cs2) = .ok (tmD u) (st cs3) ∧ Tk H (.whn c t u))
    (w : Int) (cs : List Int) : ∃ (t : Tm) (cs' : List Int), S_l_term (n + 1) [.ob K, .int w, .int left] (st cs) = .ok (tmD t) (st cs') ∧ Tk H t := by
  have d27 : divOk 27 := divOk_small (by decide) (by decide)
  have d9 : divOk 9 := divOk_small (by decide) (by decide)
  have d8 : divOk 8 := divOk_small (by decide) (by decide)
  have e0 := htk 1000000000000000000 cs (by omega)
  obtain ⟨f, hf⟩ : ∃ f, tk cs 1000000000000000000 = f := ⟨_, rfl⟩
  rw [hf] at e0
  obtain ⟨w', hw'⟩ : ∃ w', (if w = 3 ∨ f % 9 = 8 then f / 9 % 3 else w) = w' := ⟨_, rfl⟩
  have step : ∀ (R : S) (r : RS), R [some (.ob K), some (.int w'), some (.int left), some (.int f), none, none] (st cs.tail) = r → (sSeq (sIf (tOrr (tV (eBin gEq (eV 1) (eC (.int 3)))) (tV (eBin gEq (eBin gMod (eV 3) (eC (.int 9))) (eC (.int 8))))) (sSet 1 (eBin gMod (eBin gDiv (eV 3) (eC (.int 9))) (eC (.int 3)))) (sNx)) R) [some (.ob K), some (.int w), some (.int left), some (.int f), none, none] (st cs.tail) = r := fun R r h => by
    rw [← hw'] at h
    by_cases c : w = 3 ∨ f % 9 = 8
    · rw [if_pos c] at h
      by_cases c1 : w = 3
      · simp [d9, c1, h]
      · have c2 : f % 9 = 8 := by omega
        simp [d9, c1, c2, h]
    · rw [if_neg c] at h
      have c1 : ¬ w = 3 := fun q => c (.inl q)
      have c2 : ¬ f % 9 = 8 := fun q => c (.inr q)
      simp [d9, c1, c2, h]
  obtain ⟨f2, hf2⟩ : ∃ f2, f / 27 = f2 := ⟨_, rfl⟩
  have l3 : 3 ≤ sizeLine := small_line (by omega)
  have a0 : atI [D.int 1, D.int w', D.int w'] 0 = some (.int 1) := rfl
  have a1 : atI [D.int 1, D.int w', D.int w'] 1 = some (.int w') := rfl
  have a2 : atI [D.int 1, D.int w', D.int w'] 2 = some (.int w') := rfl
  have rng : rngD 0 3 = [.int 0, .int 1, .int 2] := by simp [rngD, List.range_succ]
  have ro : rngOk 3 := rngOk_nat (j := 3) (by omega)
  show ∃ (t : Tm) (cs' : List Int), U_l_term _ _ _ _ _ _ = _ ∧ _
  by_cases c : 0 < left ∧ f2 % 8 = 7
  · obtain ⟨cc, t, u, cs1, cs2, cs3, e1, e2, e3, k⟩ := hw c.1 w' cs.tail
    refine ⟨.whn cc t u, cs3, ?_, k⟩
    apply runG_rt
    refine seq3 [some (.ob K), some (.int w), some (.int left), some (.int f), none, none] (st cs.tail) (by simp [e0]) ?_
    refine step _ _ ?_
    refine seq3 [some (.ob K), some (.int w'), some (.int left), some (.int f2), none, none] (st cs.tail) (by simp [d27, hf2]) ?_
    simp [d8, c.1, c.2, ro, rng, lcD, a0, a1, a2, e1, e2, e3, wipeD, l3, tTrue, c_when, tmD, tm, wWhen]
  · have skip : ∀ (A B : S) (r : RS), B [some (.ob K), some (.int w'), some (.int left), some (.int f2), none, none] (st cs.tail) = r → (sSeq (sIf (tAn (tV (eBin gGt (eV 2) (eC (.int 0)))) (tV (eBin gEq (eBin gMod (eV 3) (eC (.int 8))) (eC (.int 7))))) A sNx) B) [some (.ob K), some (.int w'), some (.int left), some (.int f2), none, none] (st cs.tail) = r := fun A B r h => by
      by_cases c1 : 0 < left
      · have c2 : ¬ f2 % 8 = 7 := fun q => c ⟨c1, q⟩
        simp [d8, c1, c2, h]
      · simp [d8, c1, h]
    obtain ⟨t0, cs0, n1, n2⟩ := hn (f2 / 8) cs.tail
    obtain ⟨t1, cs1, t3, t4⟩ := ht (f2 / 8) cs.tail
    obtain ⟨t2, cs2, r1, r2⟩ := hr (f2 / 8) cs.tail
    have go : ∀ (r : Gs.R D), (∀ (A : S), True) → ((w' = 0 → r = .ok (tmD t0) (st cs0)) ∧ (w' ≠ 0 → w' = 1 → r = .ok (tmD t1) (st cs1)) ∧ (w' ≠ 0 → w' ≠ 1 → r = .ok (tmD t2) (st cs2))) → ∃ (t : Tm) (cs' : List Int), r = .ok (tmD t) (st cs') ∧ Tk H t := fun r _ h => by
      by_cases c1 : w' = 0
      · exact ⟨t0, cs0, h.1 c1, n2⟩
      · by_cases c2 : w' = 1
        · exact ⟨t1, cs1, h.2.1 c1 c2, t4⟩
        · exact ⟨t2, cs2, h.2.2 c1 c2, r2⟩
    refine go _ (fun _ => trivial) ⟨fun c1 => ?_, fun c1 c2 => ?_, fun c1 c2 => ?_⟩
    · apply runG_rt
      refine seq3 [some (.ob K), some (.int w), some (.int left), some (.int f), none, none] (st cs.tail) (by simp [e0]) ?_
      refine step _ _ ?_
      refine seq3 [some (.ob K), some (.int w'), some (.int left), some (.int f2), none, none] (st cs.tail) (by simp [d27, hf2]) ?_
      refine skip _ _ _ ?_
      simp [d8, c1, n1]
    · apply runG_rt
      refine seq3 [some (.ob K), some (.int w), some (.int left), some (.int f), none, none] (st cs.tail) (by simp [e0]) ?_
      refine step _ _ ?_
      refine seq3 [some (.ob K), some (.int w'), some (.int left), some (.int f2), none, none] (st cs.tail) (by simp [d27, hf2]) ?_
      refine skip _ _ _ ?_
      simp [d8, c2, t3]
    · apply runG_rt
      refine seq3 [some (.ob K), some (.int w), some (.int left), some (.int f), none, none] (st cs.tail) (by simp [e0]) ?_
      refine step _ _ ?_
      refine seq3 [some (.ob K), some (.int w'), some (.int left), some (.int f2), none, none] (st cs.tail) (by simp [d27, hf2]) ?_
      refine skip _ _ _ ?_
      simp [d8, c1, c2, r1]
theorem term_val (htk : ∀ (m : Int) (cs : List Int), 0 < m → S_l_take [.ob K, .int m] (st cs) = .ok (.int (tk cs m)) (st cs.tail)) : ∀ (l m : Nat), Sub (m + 2 * l + 2) l K st
  | 0, m => fun w cs => term_step (n := m + 1) (left := ((0 : Nat) : Int)) htk (fun f cs => num_0 f cs m) (fun f cs => row_0 f cs m) (fun f cs => tru_0 f cs m) (fun h => absurd h (by simp)) w cs
  | l + 1, m => fun w cs => by
    have sub : Sub (m + 2 * l + 2) l K st := term_val htk l m
    have sub2 : Sub (m + 2 * l + 2 + 1) l K st := by
      have := term_val htk l (m + 1)
      rw [show m + 1 + 2 * l + 2 = m + 2 * l + 2 + 1 by omega] at this
      exact this
    rw [show m + 2 * (l + 1) + 2 = m + 2 * l + 2 + 1 + 1 by omega]
    have cl : ((l + 1 : Nat) : Int) = (l : Int) + 1 := by omega
    rw [cl]
    exact term_step (n := m + 2 * l + 2 + 1) (left := (l : Int) + 1) (H := l + 2) htk (fun f cs => num_1 sub f cs) (fun f cs => row_1 sub f cs) (fun f cs => tru_1 sub f cs) (fun _ w cs => by
      obtain ⟨c, cs1, e1, k1⟩ := sub2 1 cs
      obtain ⟨t, cs2, e2, k2⟩ := sub2 w cs1
      obtain ⟨u, cs3, e3, k3⟩ := sub2 w cs2
      rw [show (l : Int) + 1 - 1 = (l : Int) by omega]
      exact ⟨c, t, u, cs1, cs2, cs3, e1, e2, e3, .whn k1 k2 k3⟩) w cs
end
end Law

/-! GKh: k55: the things that are made; what repr tells of them. -/
namespace Law
open PySem L2 Gs
structure Smw (d : D) (p : PyData) (W D' : Nat) : Prop where
  py : toPy d = some p
  sh : p.showable = true
  lv : p.leavesShort 160 = true
  wt : p.weight ≤ W
  dp : p.depth ≤ D'
theorem smw_int {i : Int} (h : i.natAbs < 2 ^ 140) : Smw (.int i) (.int i) 141 0 := by
  have hl : i.natAbs.log2 < 141 := by
    by_cases e : i.natAbs = 0
    · rw [e]; decide
    · exact (Nat.log2_lt e).mpr (by omega)
  refine ⟨by simp only [toPy], ?_, ?_, ?_, by simp only [PyData.depth]; omega⟩
  · simp only [PyData.showable, decide_eq_true_eq]; omega
  · have e := PySem.int_text_length_le (a := i) (k := 141) (by decide) hl
    simp only [PyData.leavesShort]
    refine decide_eq_true ?_
    show (Str.ofString (toString i)).length ≤ 160
    rw [PySem.ofString_length]
    omega
  · simp only [PyData.weight]
    split <;> omega
theorem smw_all {Wt Dp : Nat} {xs : List D} (h : ∀ x ∈ xs, ∃ p, Smw x p Wt Dp) : ∃ ps, toPyL xs = some ps ∧ PyData.showableAll ps = true ∧ PyData.leavesShortAll 160 ps = true ∧ PyData.weightAll ps ≤ (Wt + 1) * xs.length ∧ PyData.depthAll ps ≤ Dp := by
  induction xs with
  | nil => exact ⟨[], by simp only [toPyL], rfl, rfl, by simp only [PyData.weightAll]; omega, by simp only [PyData.depthAll]; omega⟩
  | cons x r ih =>
    obtain ⟨p, hp⟩ := h x List.mem_cons_self
    obtain ⟨ps, h1, h2, h3, h4, h5⟩ := ih fun x hx => h x (List.mem_cons_of_mem _ hx)
    refine ⟨p :: ps, by simp only [toPyL, hp.py, h1], by simp only [PyData.showableAll, hp.sh, h2, Bool.and_self], by simp only [PyData.leavesShortAll, hp.lv, h3, Bool.and_self], ?_, ?_⟩
    · have e := hp.wt
      simp only [PyData.weightAll, List.length_cons, Nat.mul_add]
      omega
    · have e := hp.dp
      simp only [PyData.depthAll]
      omega
theorem smw_lst {Wt Dp N : Nat} {xs : List D} (h : ∀ x ∈ xs, ∃ p, Smw x p Wt Dp) (hl : xs.length ≤ N) : ∃ p, Smw (.lst xs) p ((Wt + 1) * N) (Dp + 1) := by
  obtain ⟨ps, h1, h2, h3, h4, h5⟩ := smw_all h
  have e := Nat.mul_le_mul_left (Wt + 1) hl
  exact ⟨.list ps, by simp only [toPy, h1, Option.map_some], by simpa only [PyData.showable] using h2, by simpa only [PyData.leavesShort] using h3, by simp only [PyData.weight]; omega, by simp only [PyData.depth]; omega⟩
theorem smw_tup {Wt Dp N : Nat} {xs : List D} (h : ∀ x ∈ xs, ∃ p, Smw x p Wt Dp) (hl : xs.length ≤ N) : ∃ p, Smw (.tup xs) p ((Wt + 1) * N) (Dp + 1) := by
  obtain ⟨ps, h1, h2, h3, h4, h5⟩ := smw_all h
  have e := Nat.mul_le_mul_left (Wt + 1) hl
  exact ⟨.tuple ps, by simp only [toPy, h1, Option.map_some], by simpa only [PyData.showable] using h2, by simpa only [PyData.leavesShort] using h3, by simp only [PyData.weight]; omega, by simp only [PyData.depth]; omega⟩
theorem Smw.up {d : D} {p : PyData} {W D' W2 D2 : Nat} (h : Smw d p W D') (hw : W ≤ W2) (hd : D' ≤ D2) : Smw d p W2 D2 := ⟨h.py, h.sh, h.lv, by have := h.wt; omega, by have := h.dp; omega⟩
theorem smw_repr {d : D} {p : PyData} {Wt Dp : Nat} (h : Smw d p Wt Dp) (hw : Wt ≤ 50000) (hd : Dp ≤ 60) : reprD d = some p.shown := by
  have e := PyData.shown_le 160 (by decide) p h.lv
  have e2 := h.wt
  have e3 := h.dp
  have e4 : p.shown.length ≤ sizeLine := by rw [sizeLine_eq]; omega
  unfold reprD
  rw [h.py]
  simp only
  rw [if_pos ⟨h.sh, e4, by omega⟩]
def wtN : Nat → Nat
  | 0 => 141
  | n + 1 => (wtN n + 1) * 5
theorem wtN_ge : ∀ n, 141 ≤ wtN n
  | 0 => Nat.le_refl _
  | n + 1 => by
    have := wtN_ge n
    show 141 ≤ (wtN n + 1) * 5
    omega
theorem smw_ti {n : Nat} {x : D} (h : Ti n x) : ∃ p, Smw x p (wtN n) n := by
  induction h with
  | int n i h =>
    have := wtN_ge n
    exact ⟨_, (smw_int h).up (by omega) (by omega)⟩
  | bl n b => exact ⟨.bool b, by simp only [toPy], by simp [PyData.showable], by simp [PyData.leavesShort], by simp [PyData.weight], by simp [PyData.depth]⟩
  | str n l h1 h2 =>
    have := wtN_ge n
    refine ⟨.str (St l), by simp only [toPy], by simp [PyData.showable], ?_, ?_, by simp [PyData.depth]⟩
    · simp only [PyData.leavesShort, List.all_eq_true, decide_eq_true_eq]
      intro c hc
      have hc' : c ∈ l := by simpa using hc
      have := h2 c hc'
      exact Nat.lt_of_lt_of_le this (by decide)
    · simp only [PyData.weight]
      have : (St l).cps.size = l.length := by simp [St]
      omega
  | non n => exact ⟨.none, by simp only [toPy], by simp [PyData.showable], by simp [PyData.leavesShort], by simp [PyData.weight], by simp [PyData.depth]⟩
  | lst n xs h1 _ ih => exact smw_lst (N := 5) ih h1
  | tup n xs h1 _ ih => exact smw_tup (N := 5) ih h1
theorem repr_ti {x : D} (h : Ti 3 x) : ∃ r, gRepr [x] = some (.str r) := by
  obtain ⟨p, hp⟩ := smw_ti h
  have e := smw_repr hp (by decide) (by decide)
  cases h with
  | int n i h =>
    have hl : i.natAbs.log2 < 1920 := by
      by_cases e : i.natAbs = 0
      · rw [e]; decide
      · exact Nat.lt_of_lt_of_le ((Nat.log2_lt e).mpr h) (by omega)
    exact ⟨Str.ofString (toString i), by simp only [gRepr, if_pos hl]⟩
  | bl n b => exact ⟨_, rfl⟩
  | str n l h1 h2 =>
    have hl : (reprText (St l)).length ≤ sizeLine := by
      have h3 := hp.py
      simp only [toPy, Option.some.injEq] at h3
      subst h3
      have e1 := PyData.shown_le 160 (by decide) (.str (St l)) hp.lv
      have e2 := hp.wt
      have e3 := hp.dp
      have e4 : (PyData.shown (.str (St l))).length ≤ sizeLine := by
        rw [sizeLine_eq]
        have : wtN 3 = 17780 := rfl
        omega
      simpa only [PyData.shown] using e4
    exact ⟨reprText (St l), by simp only [gRepr, if_pos hl]⟩
  | non n => exact ⟨_, rfl⟩
  | lst n xs h1 h2 => exact ⟨p.shown, by simp only [gRepr, e, Option.map_some]⟩
  | tup n xs h1 h2 => exact ⟨p.shown, by simp only [gRepr, e, Option.map_some]⟩
/-! the things -/
theorem joinL_one : ∀ l : List Nat, TL.joinL [] (l.map fun c => [c]) = l
  | [] => rfl
  | [c] => rfl
  | c :: d :: l => by
    have ih := joinL_one (d :: l)
    show [c] ++ ([] ++ TL.joinL [] ((d :: l).map fun c => [c])) = _
    rw [ih]
    rfl
theorem join0 {l : List Nat} (h : l.length ≤ 1000) : gJoin (.str (St [])) [.lst (l.map fun c => .str (St [c]))] = some (.str (St l)) := by
  have e : l.map (fun c => D.str (St [c])) = (l.map fun c => St [c]).map D.str := by simp
  have hsum : ∀ l : List Nat, (((l.map fun c => St [c]).map (·.length)).sum) = l.length := fun l => by
    induction l with
    | nil => rfl
    | cons c l ih => simp at ih; simp [ih]; omega
  have h4 : ((l.map fun c => St [c]).map (·.length)).sum + (l.map fun c => St [c]).length * (St []).length ≤ 16777216 := by
    rw [hsum]
    simp
    omega
  have ej : Txt.join (St []) (l.map fun c => St [c]) = St l := by
    rw [TL.join_eq]
    refine TL.ext_tl ?_
    rw [TL.tl_join]
    have e2 : (l.map fun c => St [c]).map TL.tl = l.map fun c => [c] := by rw [List.map_map]; rfl
    rw [e2]
    exact joinL_one l
  rw [e]
  simp only [gJoin, strsOf_map, Option.bind_some]
  rw [if_pos h4, ej]
theorem c_aba : Str.ofString "abA9 " = St [97, 98, 65, 57, 32] := of_St (by decide +kernel)
def abaN (i : Int) : Nat := [97, 98, 65, 57, 32].getD (i % 5).toNat 0
theorem aba_at (i : Int) : gIx (.str (St [97, 98, 65, 57, 32])) (.int (i % 5)) = some (.str (St [abaN i])) ∧ abaN i < 128 := by
  have h : i % 5 = 0 ∨ i % 5 = 1 ∨ i % 5 = 2 ∨ i % 5 = 3 ∨ i % 5 = 4 := by omega
  have hl : ([97, 98, 65, 57, 32] : List Nat).length ≤ sizeLine := small_line (by decide)
  have a : ∀ (j c : Nat), ([97, 98, 65, 57, 32] : List Nat)[j]? = some c → gIx (.str (St [97, 98, 65, 57, 32])) (.int (j : Int)) = some (.str (St [c])) := fun j c h => at_St hl h
  rcases h with h | h | h | h | h <;> unfold abaN <;> rw [h]
  · exact ⟨a 0 97 rfl, by decide⟩
  · exact ⟨a 1 98 rfl, by decide⟩
  · exact ⟨a 2 65 rfl, by decide⟩
  · exact ⟨a 3 57 rfl, by decide⟩
  · exact ⟨a 4 32 rfl, by decide⟩
section
variable {K n : Nat} {st : List Int → Sto}
def SubT (n l K : Nat) (st : List Int → Sto) : Prop := ∀ (cs : List Int), ∃ (d : D) (cs' : List Int), S_l_thing n [.ob K, .int (l : Int)] (st cs) = .ok d (st cs') ∧ Ti l d
theorem things_lc {l : Nat} {e : E} {δ : Sl} {k : Nat} (h : ∀ (it : D) (cs : List Int), ∃ (d : D) (cs' : List Int), e (δ.set k (some it)) (st cs) = .ok d (st cs') ∧ Ti l d) : ∀ (its : List D) (cs : List Int), ∃ (ds : List D) (cs' : List Int), lcD (.nm k) tTrue e δ its (st cs) = .ok ds (st cs') ∧ ds.length = its.length ∧ ∀ d ∈ ds, Ti l d
  | [], cs => ⟨[], cs, rfl, rfl, fun d hd => nomatch hd⟩
  | it :: its, cs => by
    obtain ⟨d, cs1, e1, k1⟩ := h it cs
    obtain ⟨ds, cs2, e2, l2, k2⟩ := things_lc h its cs1
    refine ⟨d :: ds, cs2, ?_, by simp [l2], fun x hx => ?_⟩
    · simp only [lcD, v_nm, tTrue]
      rw [e1]
      simp only []
      rw [e2]
    · rcases List.mem_cons.mp hx with rfl | hx
      · exact k1
      · exact k2 x hx
theorem p40 : (2 : Int) * 10000000000000000000000000000000000000000 - 1 = 19999999999999999999999999999999999999999 := by omega
theorem thing_step {left : Int} {l : Nat} (htk : ∀ (m : Int) (cs : List Int), 0 < m → S_l_take [.ob K, .int m] (st cs) = .ok (.int (tk cs m)) (st cs.tail))
    (hsub : left ≠ 0 → ∃ j, l = j + 1 ∧ ∀ (cs : List Int), ∃ (d : D) (cs' : List Int), S_l_thing n [.ob K, .int (left - 1)] (st cs) = .ok d (st cs') ∧ Ti j d)
    (cs : List Int) : ∃ (d : D) (cs' : List Int), S_l_thing (n + 1) [.ob K, .int left] (st cs) = .ok d (st cs') ∧ Ti l d := by
  have d7 : divOk 7 := divOk_small (by decide) (by decide)
  have d9 : divOk 9 := divOk_small (by decide) (by decide)
  have d4 : divOk 4 := divOk_small (by decide) (by decide)
  have d5 : divOk 5 := divOk_small (by decide) (by decide)
  have d6 : divOk 6 := divOk_small (by decide) (by decide)
  have e0 := htk 1000000000000000000 cs (by omega)
  obtain ⟨r1, r2⟩ := tk_rng cs 1000000000000000000 (by omega)
  obtain ⟨f, hf⟩ : ∃ f, tk cs 1000000000000000000 = f := ⟨_, rfl⟩
  rw [hf] at e0 r1 r2
  obtain ⟨g, hg⟩ : ∃ g, f / 7 = g := ⟨_, rfl⟩
  have g0 : 0 ≤ g := by omega
  show ∃ (d : D) (cs' : List Int), U_l_thing _ _ _ = _ ∧ _
  have pre : ∀ (R : S) (r : RS), R [some (.ob K), some (.int left), some (.int f), some (.int g), some (.int (f % 7)), none, none] (st cs.tail) = r → (sSeq (sSet 2 (eCall S_l_take (aCons (eV 0) (aCons (eBin gPow (eC (.int 10)) (eC (.int 18))) (aNil))))) (sSeq (sSet 3 (eBin gDiv (eV 2) (eC (.int 7)))) (sSeq (sSet 4 (eBin gMod (eV 2) (eC (.int 7)))) R))) [some (.ob K), some (.int left), none, none, none, none, none] (st cs) = r := fun R r h => by
    refine seq3 [some (.ob K), some (.int left), some (.int f), none, none, none, none] (st cs.tail) (by simp [e0]) ?_
    refine seq3 [some (.ob K), some (.int left), some (.int f), some (.int g), none, none, none] (st cs.tail) (by simp [d7, hg]) ?_
    refine seq3 [some (.ob K), some (.int left), some (.int f), some (.int g), some (.int (f % 7)), none, none] (st cs.tail) (by simp [d7]) ?_
    exact h
  by_cases c0 : f % 7 = 0 ∨ left = 0
  · refine ⟨.int (g % 9 - 4), cs.tail, ?_, .int _ _ (small140 (by omega))⟩
    apply runG_rt
    refine pre _ _ ?_
    by_cases c1 : f % 7 = 0
    · simp [c1, d9]
    · have c2 : left = 0 := by omega
      simp [c1, c2, d9]
  have k0 : ¬ f % 7 = 0 := fun q => c0 (.inl q)
  have kl : ¬ left = 0 := fun q => c0 (.inr q)
  obtain ⟨j, rfl, sub⟩ := hsub kl
  by_cases c1 : f % 7 = 1
  · have e1 := htk 19999999999999999999999999999999999999999 cs.tail (by omega)
    obtain ⟨q1, q2⟩ := tk_rng cs.tail 19999999999999999999999999999999999999999 (by omega)
    obtain ⟨y, hy⟩ : ∃ y, tk cs.tail 19999999999999999999999999999999999999999 = y := ⟨_, rfl⟩
    rw [hy] at e1 q1 q2
    refine ⟨.int (y - 10000000000000000000000000000000000000000 + 1), cs.tail.tail, ?_, .int _ _ ?_⟩
    · apply runG_rt
      refine pre _ _ ?_
      have m2 : ∀ j, IntMulOk 2 j := fun j => mul_fitsL (by decide)
      simp [c1, kl, m2, e1]
    · have : (y - 10000000000000000000000000000000000000000 + 1).natAbs ≤ 10000000000000000000000000000000000000000 := by omega
      exact Nat.lt_of_le_of_lt this (by decide)
  by_cases c2 : f % 7 = 2
  · refine ⟨.bl (decide (g % 2 = 1)), cs.tail, ?_, .bl _ _⟩
    apply runG_rt
    refine pre _ _ ?_
    simp [c2, kl]
  by_cases c3 : f % 7 = 3
  · obtain ⟨N, hN⟩ : ∃ N : Nat, g % 6 = (N : Int) := ⟨(g % 6).toNat, by omega⟩
    have hN6 : N ≤ 5 := by omega
    have ll : N ≤ sizeLine := small_line (by omega)
    have ro : rngOk (N : Int) := rngOk_nat (j := N) (by omega)
    have el := lcD_mapL (p := .nm 6) (c := tTrue) (e := eBin gIx (eC (.str (Str.ofString "abA9 "))) (eBin gMod (eBin gDiv (eV 3) (eBin gAdd (eV 6) (eC (.int 1)))) (eC (.int 5)))) (δ := [some (.ob K), some (.int left), some (.int f), some (.int g), some (.int 3), none, none]) (s := st cs.tail) (fun i : Nat => .int (i : Int)) (fun i => .str (St [abaN (g / ((i : Int) + 1))])) (List.range N) fun i hi => ⟨_, by simp; rfl, by simp, by
        have a := (aba_at (g / ((i : Int) + 1))).1
        have dk : divOk ((i : Int) + 1) := by
          have : i < N := by simpa using hi
          exact divOk_small (by omega) (by omega)
        have nz : ¬ ((i : Int) + 1 = 0) := by omega
        simp [c_aba, d5, dk, nz, a]⟩
    have er : (List.range N).map (fun i : Nat => D.int (i : Int)) = rngD 0 N := by simp [rngD]
    rw [er] at el
    have em : (List.range N).map (fun i : Nat => D.str (St [abaN (g / ((i : Int) + 1))])) = ((List.range N).map fun i : Nat => abaN (g / ((i : Int) + 1))).map fun c => .str (St [c]) := by rw [List.map_map]; rfl
    rw [em] at el
    have ej := join0 (l := (List.range N).map fun i : Nat => abaN (g / ((i : Int) + 1))) (by simp; omega)
    refine ⟨.str (St ((List.range N).map fun i : Nat => abaN (g / ((i : Int) + 1)))), cs.tail, ?_, .str _ _ (by simp; omega) fun c hc => ?_⟩
    · apply runG_rt
      refine pre _ _ ?_
      obtain ⟨A, hA⟩ : ∃ A, ((List.range N).map fun i : Nat => abaN (g / ((i : Int) + 1))).map (fun c => D.str (St [c])) = A := ⟨_, rfl⟩
      obtain ⟨B, hB⟩ : ∃ B, ((List.range N).map fun i : Nat => abaN (g / ((i : Int) + 1))) = B := ⟨_, rfl⟩
      have lA : A.length = N := by rw [← hA]; simp
      rw [hA] at el ej
      rw [hB] at ej
      rw [hB]
      simp [c3, kl, d6, hN, ro, wipeD, el, lA, ll, ej]
    · obtain ⟨i, _, rfl⟩ := List.mem_map.mp hc
      exact (aba_at _).2
  by_cases c4 : f % 7 = 4 ∧ g % 4 = 0
  · refine ⟨.non, cs.tail, ?_, .non _⟩
    apply runG_rt
    refine pre _ _ ?_
    simp [c4.1, c4.2, kl, d4]
  obtain ⟨N, hN⟩ : ∃ N : Nat, g % 5 = (N : Int) := ⟨(g % 5).toNat, by omega⟩
  have ll : N ≤ sizeLine := small_line (by omega)
  have ro : rngOk (N : Int) := rngOk_nat (j := N) (by omega)
  obtain ⟨ds, cs2, e2, l2, k2⟩ := things_lc (st := st) (l := j) (k := 6) (e := eCall (S_l_thing n) (aCons (eV 0) (aCons (eBin gSub (eV 1) (eC (.int 1))) (aNil)))) (δ := [some (.ob K), some (.int left), some (.int f), some (.int g), some (.int (f % 7)), none, none]) (fun it cs => by
    obtain ⟨d, cs1, e1, k1⟩ := sub cs
    exact ⟨d, cs1, by simp [e1], k1⟩) (rngD 0 N) cs.tail
  have lN : ds.length = N := by rw [l2]; simp [rngD]
  have lds : ds.length ≤ sizeLine := by omega
  have mid : ∀ (R : S) (r : RS), R [some (.ob K), some (.int left), some (.int f), some (.int g), some (.int (f % 7)), some (.lst ds), none] (st cs2) = r → (sSeq (sIf (tAn (tV (eBin gEq (eV 4) (eC (.int 4)))) (tV (eBin gEq (eBin gMod (eV 3) (eC (.int 4))) (eC (.int 0))))) (sRet (eC .non)) (sNx)) (sSeq (sSet 5 (eFz (fLc (iRange1 (aCons (eBin gMod (eV 3) (eC (.int 5))) (aNil))) [6] (.nm 6) (tTrue) (eCall (S_l_thing n) (aCons (eV 0) (aCons (eBin gSub (eV 1) (eC (.int 1))) (aNil))))))) R)) [some (.ob K), some (.int left), some (.int f), some (.int g), some (.int (f % 7)), none, none] (st cs.tail) = r := fun R r h => by
    refine seq3 [some (.ob K), some (.int left), some (.int f), some (.int g), some (.int (f % 7)), none, none] (st cs.tail) ?_ ?_
    · by_cases q : f % 7 = 4
      · have q2 : ¬ g % 4 = 0 := fun z => c4 ⟨q, z⟩
        simp [q, q2, d4]
      · simp [q]
    refine seq3 [some (.ob K), some (.int left), some (.int f), some (.int g), some (.int (f % 7)), some (.lst ds), none] (st cs2) ?_ h
    simp [d5, hN, ro, wipeD, e2, lds]
  by_cases c6 : f % 7 = 6
  · refine ⟨.tup ds, cs2, ?_, .tup _ _ (by omega) k2⟩
    apply runG_rt
    refine pre _ _ ?_
    refine seq3 [some (.ob K), some (.int left), some (.int f), some (.int g), some (.int (f % 7)), none, none] (st cs.tail) (by simp [c6, kl]) ?_
    refine seq3 [some (.ob K), some (.int left), some (.int f), some (.int g), some (.int (f % 7)), none, none] (st cs.tail) (by simp [c6]) ?_
    refine seq3 [some (.ob K), some (.int left), some (.int f), some (.int g), some (.int (f % 7)), none, none] (st cs.tail) (by simp [c6]) ?_
    refine seq3 [some (.ob K), some (.int left), some (.int f), some (.int g), some (.int (f % 7)), none, none] (st cs.tail) (by simp [c6]) ?_
    refine mid _ _ ?_
    simp [c6, lds]
  · refine ⟨.lst ds, cs2, ?_, .lst _ _ (by omega) k2⟩
    apply runG_rt
    refine pre _ _ ?_
    refine seq3 [some (.ob K), some (.int left), some (.int f), some (.int g), some (.int (f % 7)), none, none] (st cs.tail) (by simp [k0, kl]) ?_
    refine seq3 [some (.ob K), some (.int left), some (.int f), some (.int g), some (.int (f % 7)), none, none] (st cs.tail) (by simp [c1]) ?_
    refine seq3 [some (.ob K), some (.int left), some (.int f), some (.int g), some (.int (f % 7)), none, none] (st cs.tail) (by simp [c2]) ?_
    refine seq3 [some (.ob K), some (.int left), some (.int f), some (.int g), some (.int (f % 7)), none, none] (st cs.tail) (by simp [c3]) ?_
    refine mid _ _ ?_
    simp [c6]
theorem thing_val (htk : ∀ (m : Int) (cs : List Int), 0 < m → S_l_take [.ob K, .int m] (st cs) = .ok (.int (tk cs m)) (st cs.tail)) : ∀ (l m : Nat), SubT (m + l + 1) l K st
  | 0, m => fun cs => thing_step (n := m) (left := ((0 : Nat) : Int)) htk (fun h => absurd rfl h) cs
  | l + 1, m => fun cs => by
    have sub : SubT (m + l + 1) l K st := thing_val htk l m
    exact thing_step (n := m + l + 1) (left := ((l + 1 : Nat) : Int)) htk (fun _ => ⟨l, rfl, fun cs => by
      rw [show ((l + 1 : Nat) : Int) - 1 = (l : Int) by omega]
      exact sub cs⟩) cs
end
end Law

/-! GK55: the law. -/
namespace Law
open PySem L2 Gs
theorem tm_deep {h : Nat} {t : Tm} (k : Tk h t) : True := trivial
/-- what the law is told -/
theorem told_val {h : Nat} {t : Tm} (k : Tk h t) (hh : h ≤ 7) {x : D} (hx : Ti 4 x) (s : Sto) : ∃ (y : D) (g : Sto) , S_l_told [tmD t, x] s = .ok y (s ++ g) ∧ ((∃ w, ev t x = .as w ∧ y = dueO (.as w)) ∨ ∃ z z' ix, ev t x = .sd z ∧ y = dueO (.sd z') ∧ Tl (s ++ g) 4 z' ix ∧ (∀ (g' : Sto) (m : Nat), 4 ≤ m → deepD (s ++ g ++ g') m z' = z) ∧ ix.Nodup ∧ ix.length ≤ 20000) := by
  have e0 := spoken_val k hh x s (29 - 3 * h) hx
  rw [show 29 - 3 * h + 3 * h + 1 = 30 by omega] at e0
  have n0 : gIsN .non .non = some (.bl true) := rfl
  have n1 : ∀ b c d, gIsN (.ev b c d) .non = some (.bl false) := fun _ _ _ => rfl
  cases e : ev t x with
  | as w =>
    rw [e] at e0
    simp only [ocR] at e0
    have es : S_said [tmD t, x] s = .exc (ast w) s := by
      apply runG_exc
      simp [e0]
      first | rfl | exact ⟨rfl, rfl⟩
    refine ⟨dueO (.as w), [], ?_, .inl ⟨w, rfl, rfl⟩⟩
    rw [List.append_nil]
    apply runG_rt
    simp [es, ast, evD, gFdE, xt_Astray, n1, tb_CountError, tb_ValueError, xf_mark, c_astray, dueO, wAstr]
  | sd z =>
    rw [e] at e0
    simp only [ocR] at e0
    have rs := ev_rs k x z hx e
    have p6 := pow_6 hh
    obtain ⟨z', g, ix, o1, o2, o3, o4, o5, o6⟩ := rs_ocp rs (by omega) 25 s
    have es : S_said [tmD t, x] s = .ok z' (s ++ g) := by
      apply runG_rt
      simp [e0, o1]
    refine ⟨dueO (.sd z'), g, ?_, .inr ⟨z, z', ix, rfl, rfl, o2, o3, o4, o6⟩⟩
    apply runG_rt
    simp [es, n0, c_said, dueO, wSaid]
theorem tl_live : ∀ (n : Nat) (s : Sto) (y : D) (ix : List Nat), Tl s n y ix → ∀ i ∈ ix, ∃ xs, s[i]? = some (.lst xs) ∧ xs.length ≤ 1000
  | 0, s, y, ix, h, i, hi => by rw [h.2] at hi; exact nomatch hi
  | n + 1, s, y, ix, h, i, hi => by
    rcases h with h | ⟨ps, h1, h2, h3⟩
    · rw [h.2] at hi; exact nomatch hi
    · have sub : i ∈ (ps.map (·.2)).flatten → ∃ xs, s[i]? = some (.lst xs) ∧ xs.length ≤ 1000 := fun hi => by
        obtain ⟨l, hl, hil⟩ := List.mem_flatten.mp hi
        obtain ⟨p, hp, rfl⟩ := List.mem_map.mp hl
        exact tl_live n s p.1 p.2 (h2 p hp) i hil
      rcases h3 with ⟨_, e⟩ | ⟨k, _, e2, e⟩
      · rw [e] at hi; exact sub hi
      · rw [e] at hi
        rcases List.mem_cons.mp hi with rfl | hi
        · exact ⟨_, e2, by rw [List.length_map]; exact h1⟩
        · exact sub hi
theorem own_tl {s : Sto} {y : D} {ix : List Nat} (h : Tl s 4 y ix) (hn : ix.Nodup) (hl : ix.length ≤ 20000) : ∃ s', S_l_own [y] s = .ok (.bl true) s' := by
  refine own_val (n := 4) (by omega) h hl hn (fun i => match s[i]? with | some (.lst xs) => xs.length | _ => 0) fun i hi => ?_
  obtain ⟨xs, h1, h2⟩ := tl_live 4 s y ix h i hi
  simp only [h1]
  exact ⟨by omega, xs, rfl, rfl⟩
theorem law_turn {h : Nat} {t : Tm} (k : Tk h t) (hh : h ≤ 7) {x : D} (hx : Ti 3 x) {r : Str} (hr : gRepr [x] = some (.str r)) (s : Sto) (v0 v1 v7 v8 : Option D) (j : D) : ∃ (v7' : Option D) (s' : Sto), L_law_0 [v0, v1, some x, some (.str r), some (tmD t), some (dueO (ev t x)), some j, v7, v8] s = .nx [v0, v1, some x, some (.str r), some (tmD t), some (dueO (ev t x)), some j, v7', v8] s' := by
  obtain ⟨y, g, e1, e2⟩ := told_val k hh (hx.up 4 (by omega)) s
  have rx := fun s => tg_rsv hx.tg s
  rcases e2 with ⟨w, ew, rfl⟩ | ⟨z, z', ix, ez, rfl, tl, dp, nd, il⟩
  · rw [ew]
    have ea : ∀ s : Sto, S_l_alike 30 [.str (St w), .str (St w)] s = .ok (.bl true) s := fun s => by
      show U_l_alike _ _ _ = _
      apply runG_rt
      simp [gIsi2, tyN, isTy, gNe, eqO]
    obtain ⟨S, hS⟩ : ∃ S, s ++ g = S := ⟨_, rfl⟩
    rw [hS] at e1
    have tv := thaw_val (s := S) (d := .bl true) rfl
    refine ⟨some (dueO (.as w)), S, ?_⟩
    simp only [dueO, wAstr] at e1 ⊢
    simp [L_law_0, e1, deepD, ea, tv, rx, hr, c_said, St_eq]
  · rw [ez]
    have tz := ev_tg k hh (hx.up 4 (by omega)) ez
    have ea : ∀ s : Sto, S_l_alike 30 [z, z] s = .ok (.bl true) s := fun s => by
      have := alike_val 4 z z (by omega) tz tz 25 s
      rw [alk_refl tz] at this
      exact this
    have d1 : deepD (s ++ g) 12 z' = z := by
      have := dp [] 12 (by omega)
      rw [List.append_nil] at this
      exact this
    have d2 : deepD (s ++ g) 12 z = z := tg_deep tz _ 12
    obtain ⟨s', eo⟩ := own_tl tl nd il
    obtain ⟨S, hS⟩ : ∃ S, s ++ g = S := ⟨_, rfl⟩
    rw [hS] at e1 d1 d2 eo
    have tv := thaw_val (s := S) (d := .bl true) rfl
    refine ⟨some (dueO (.sd z')), s', ?_⟩
    simp only [dueO, wSaid] at e1 ⊢
    simp [L_law_0, e1, d1, d2, ea, tv, rx, hr, c_said, St_eq, eo]
theorem law_true (ns : List Int) (hn : ns.length ≤ 63) : ∃ s', S_law [.lst (ns.map D.int)] [] = .ok (.bl true) s' := by
  have ecut := cutL_hi ns 63
  obtain ⟨cs, hcs⟩ : ∃ cs, ns.take 63 = cs := ⟨_, rfl⟩
  rw [hcs] at ecut
  have hcl : cs.length ≤ 63 := by rw [← hcs, List.length_take]; omega
  obtain ⟨st, hst⟩ : ∃ st : List Int → Sto, (fun cs => [O.lst (cs.map D.int)]) = st := ⟨_, rfl⟩
  have htk : ∀ (m : Int) (cs : List Int), 0 < m → S_l_take [.ob 0, .int m] (st cs) = .ok (.int (tk cs m)) (st cs.tail) := fun m cs hm => by
    rw [← hst]
    exact tk_val [] [] cs m hm
  have e5 := htk 5 cs (by omega)
  obtain ⟨q1, q2⟩ := tk_rng cs 5 (by omega)
  obtain ⟨N, hN⟩ : ∃ N : Nat, tk cs 5 = (N : Int) := ⟨(tk cs 5).toNat, by omega⟩
  rw [hN] at e5
  have hN5 : N ≤ 4 := by omega
  have ro : rngOk (N : Int) := rngOk_nat (j := N) (by omega)
  have l0 : ns.length ≤ sizeLine := small_line (by omega)
  have lc : cs.length ≤ sizeLine := small_line (by omega)
  have sub2 : SubT 30 2 0 st := thing_val htk 2 27
  have sub3 : SubT 30 3 0 st := thing_val htk 3 26
  obtain ⟨ds, cs2, e6, l6, k6⟩ := things_lc (st := st) (l := 2) (k := 8) (e := eCall (S_l_thing 30) (aCons (eV 1) (aCons (eC (.int 2)) (aNil)))) (δ := [some (.lst (ns.map .int)), some (.ob 0), none, none, none, none, none, none, none]) (fun it cs => by
    obtain ⟨d, cs1, e1, k1⟩ := sub2 cs
    exact ⟨d, cs1, by simpa using e1, k1⟩) (rngD 0 N) cs.tail
  have lN : ds.length = N := by rw [l6]; simp [rngD]
  have lds : ds.length ≤ sizeLine := small_line (by omega)
  have e7 := htk 3 cs2 (by omega)
  obtain ⟨x, cs3, hx, e8⟩ : ∃ (x : D) (cs3 : List Int), Ti 3 x ∧ (sIf (tV (eBin gEq (eCall S_l_take (aCons (eV 1) (aCons (eC (.int 3)) (aNil)))) (eC (.int 1)))) (sSet 2 (eCall (S_l_thing 30) (aCons (eV 1) (aCons (eC (.int 3)) (aNil))))) (sNx)) [some (.lst (ns.map .int)), some (.ob 0), some (.lst ds), none, none, none, none, none, none] (st cs2) = .nx [some (.lst (ns.map .int)), some (.ob 0), some x, none, none, none, none, none, none] (st cs3) := by
    by_cases q : tk cs2 3 = 1
    · obtain ⟨d, cs3, e1, k1⟩ := sub3 cs2.tail
      rw [q] at e7
      have e1 : S_l_thing 30 [.ob 0, .int 3] (st cs2.tail) = .ok d (st cs3) := by simpa using e1
      exact ⟨d, cs3, k1, by simp [e7, e1]⟩
    · exact ⟨.lst ds, cs2.tail, .lst 2 ds (by omega) k6, by simp [e7, q]⟩
  obtain ⟨r, hr⟩ := repr_ti hx
  have rx := fun s => tg_rsv hx.tg s
  have subt : Sub 30 6 0 st := term_val htk 6 16
  obtain ⟨t, cs4, e9, kt⟩ := subt 3 cs3
  have e9 : S_l_term 30 [.ob 0, .int 3, .int 6] (st cs3) = .ok (tmD t) (st cs4) := by simpa using e9
  have ed : S_l_due 30 [tmD t, x] (st cs4) = .ok (dueO (ev t x)) (st cs4) := due_val kt (by omega) x (st cs4) 8 (hx.up 4 (by omega))
  obtain ⟨v7, s1, t1⟩ := law_turn kt (by omega) hx hr (st cs4) (some (.lst (ns.map .int))) (some (.ob 0)) none none (.int 0)
  obtain ⟨v7', s2, t2⟩ := law_turn kt (by omega) hx hr s1 (some (.lst (ns.map .int))) (some (.ob 0)) v7 none (.int 1)
  have rng : rngD 0 2 = [.int 0, .int 1] := by simp [rngD, List.range_succ]
  have r2 : rngOk 2 := rngOk_nat (j := 2) (by omega)
  suffices main : ∃ s', (runG 9 _ [.lst (ns.map D.int)] [] : Gs.R D) = .ok (.bl true) s' from main
  refine ⟨s2, runG_rt ?_⟩
  refine seq3 [some (.lst (ns.map .int)), some (.ob 0), none, none, none, none, none, none, none] (st cs) ?_ ?_
  · have e63 : cutD (ns.map D.int) none (some 63) = cs.map D.int := by
      rw [cutD_ints]
      exact congrArg (List.map D.int) ecut
    rw [← hst]
    simp [l0, lc, e63]
  refine seq3 [some (.lst (ns.map .int)), some (.ob 0), some (.lst ds), none, none, none, none, none, none] (st cs2) ?_ ?_
  · simp [e5, ro, wipeD, e6, lds]
  refine seq3 _ _ e8 ?_
  refine seq3 [some (.lst (ns.map .int)), some (.ob 0), some x, some (.str r), none, none, none, none, none] (st cs3) (by simp [rx, hr]) ?_
  refine seq3 [some (.lst (ns.map .int)), some (.ob 0), some x, some (.str r), some (tmD t), none, none, none, none] (st cs4) (by simp [e9]) ?_
  refine seq3 [some (.lst (ns.map .int)), some (.ob 0), some x, some (.str r), some (tmD t), some (dueO (ev t x)), none, none, none] (st cs4) (by simp [ed]) ?_
  refine seq3 [some (.lst (ns.map .int)), some (.ob 0), some x, some (.str r), some (tmD t), some (dueO (ev t x)), some (.int 1), v7', none] s2 ?_ ?_
  · simp [r2, rng, forD, t1, t2]
  · simp [rx, hr]
end Law

open PySem PySem.W
set_option maxRecDepth 100000 in
set_option maxHeartbeats 0 in
theorem PySem.Challenge.cw_countgen_k55_whole_terms_said_holds : PySem.Challenge.rw_countgen_k55_whole_terms_said.Holds := by
  w_on; o_law; k_head; (case hw => w_witness2)
  k_fill
  refine Gs.walk_top (l := PySem.Challenge.rw_countgen_k55_whole_terms_said) (n := 63) (k := 64) (x := "_law_script") (CX := fun w => L2.CX (PySem.W.OpenLaw.prog PySem.Challenge.rw_countgen_k55_whole_terms_said) w) (sp := fun w => Gs.spL _ Law.S_law) rfl (by decide) rfl ⟨rfl, by decide, by decide⟩ (fun w h Y => PySem.W.kIn_of Y) ?F
    (fun w H a ns hl _ hS => Gs.law_sp hS (Law.law_true ns hl)) (fun _ _ _ _ _ h => Gs.law_cx h)
  case F =>
    intro w mg fa h KX G hmg
    refine' Law.all_mk KX G hmg ?c0 ?c1 ?c2 ?c3 ?c4 ?c5 ?c6 ?c7 ?c8 ?c9 ?c10 ?c11 ?c12 ?c13 ?c14 ?c15 ?c16 ?c17 ?c18 ?c19 ?c20 ?c21 ?c22 ?c23 ?c24 ?c25 ?c26 ?c27 ?c28 ?c29 ?c30 ?c31 ?c32 ?c33 ?c34 ?c35 ?c36 ?c37 ?c38 ?c39 ?c40 ?c41 ?c42 ?c43 ?c44 ?c45 ?c46 ?c47 ?c48 ?c49 ?c50 ?c51 ?c52 ?c53 ?c54 ?c55 ?c56 ?c57 ?c58 ?c59 ?c60 ?c61 ?c62 ?c63 ?c64 ?c65 ?c66 ?c67 ?c68 ?c69 ?c70 ?c71 ?c72 ?c73 ?c74 ?c75 ?c76 ?c77 ?c78 ?c79 ?c80 ?c81 ?c82 ?c83 ?c84 ?c85 ?c86 ?c87 ?c88 ?c89 ?c90 ?c91 ?c92 ?c93 ?c94 ?c95 ?c96 ?c97 ?c98 ?c99 ?c100 ?c101 ?c102 ?c103 ?c104 ?c105 ?c106 ?c107 ?c108 ?c109 ?c110 ?c111 ?c112 ?c113 ?c114 ?c115 ?c116 ?c117 ?c118 ?c119 ?c120 ?c121 ?c122 ?c123 ?c124 ?c125 ?c126 ?c127 ?c128 ?c129 ?c130 ?c131 ?c132 ?c133 ?c134 ?c135 ?c136 ?c137 ?c138 ?c139 ?c140 ?c141 ?c142 ?c143 ?c144 ?c145 ?c146 ?c147 ?c148 ?c149 ?c150 ?c151 ?c152 ?c153 ?c154 ?c155 ?c156 ?c157 ?c158 ?c159 ?c160 ?c161 ?c162 ?c163 ?c164 ?c165 ?c166 ?c167 ?c168 ?c169 ?c170 ?c171 ?c172 ?c173 ?c174 ?c175 ?c176 ?c177 ?c178 ?c179 ?c180
    (case c0 => k_is); (case c1 => k_is); (case c2 => k_is); (case c3 => k_is); (case c4 => k_is); (case c5 => k_is); (case c6 => k_is); (case c7 => k_is); (case c8 => k_is); (case c9 => k_is); (case c10 => k_is); (case c11 => k_is); (case c12 => k_is); (case c13 => k_is); (case c14 => k_is); (case c15 => k_is); (case c16 => k_is); (case c17 => k_is); (case c18 => k_is); (case c19 => k_is); (case c20 => k_is); (case c21 => k_is); (case c22 => k_is); (case c23 => k_is); (case c24 => k_is); (case c25 => k_is); (case c26 => k_is); (case c27 => k_is); (case c28 => k_is); (case c29 => k_is); (case c30 => k_is); (case c31 => k_is); (case c32 => k_is); (case c33 => k_is); (case c34 => k_is); (case c35 => k_is); (case c36 => k_is); (case c37 => k_is); (case c38 => k_is); (case c39 => k_is); (case c40 => k_is); (case c41 => k_is); (case c42 => k_is); (case c43 => k_is); (case c44 => k_is); (case c45 => k_is); (case c46 => k_is); (case c47 => k_is); (case c48 => k_is); (case c49 => k_is); (case c50 => k_is); (case c51 => k_is); (case c52 => k_is); (case c53 => k_is); (case c54 => k_is); (case c55 => k_is); (case c56 => k_is); (case c57 => k_is); (case c58 => k_is); (case c59 => k_is); (case c60 => k_is); (case c61 => k_is); (case c62 => k_is); (case c63 => k_is); (case c64 => k_is); (case c65 => k_is); (case c66 => k_is); (case c67 => k_is); (case c68 => k_is); (case c69 => k_is); (case c70 => k_is); (case c71 => k_is); (case c72 => k_is); (case c73 => k_is); (case c74 => k_is); (case c75 => k_is); (case c76 => k_is); (case c77 => k_is); (case c78 => k_is); (case c79 => k_is); (case c80 => k_is); (case c81 => k_is); (case c82 => k_is); (case c83 => k_is); (case c84 => k_is); (case c85 => k_is); (case c86 => k_is); (case c87 => k_is); (case c88 => k_is); (case c89 => k_is); (case c90 => k_is); (case c91 => k_is); (case c92 => k_is); (case c93 => k_is); (case c94 => k_is); (case c95 => k_is); (case c96 => k_is); (case c97 => k_is); (case c98 => k_is); (case c99 => k_is); (case c100 => k_is); (case c101 => k_is); (case c102 => k_is); (case c103 => k_is); (case c104 => k_is); (case c105 => k_is); (case c106 => k_is); (case c107 => k_is); (case c108 => k_is); (case c109 => k_is); (case c110 => k_is); (case c111 => k_is); (case c112 => k_is); (case c113 => k_is); (case c114 => k_is); (case c115 => k_is); (case c116 => k_is); (case c117 => k_is); (case c118 => k_is); (case c119 => k_is); (case c120 => k_is); (case c121 => k_is); (case c122 => k_is); (case c123 => k_is); (case c124 => k_is); (case c125 => k_is); (case c126 => k_is); (case c127 => k_is); (case c128 => k_is); (case c129 => k_is); (case c130 => k_is); (case c131 => k_is); (case c132 => k_is); (case c133 => k_is); (case c134 => k_is); (case c135 => k_is); (case c136 => k_is); (case c137 => k_is); (case c138 => k_is); (case c139 => k_is); (case c140 => k_is); (case c141 => k_is); (case c142 => k_is); (case c143 => k_is); (case c144 => k_is); (case c145 => k_is); (case c146 => k_is); (case c147 => k_is); (case c148 => k_is); (case c149 => k_is); (case c150 => k_is); (case c151 => k_is); (case c152 => k_is); (case c153 => k_is); (case c154 => k_is); (case c155 => k_is); (case c156 => k_is); (case c157 => k_is); (case c158 => k_is); (case c159 => k_is); (case c160 => k_is); (case c161 => k_is); (case c162 => first | rfl | decide +kernel); (case c163 => k_is); (case c164 => k_is); (case c165 => k_is); (case c166 => k_is); (case c167 => k_is); (case c168 => k_is); (case c169 => k_is); (case c170 => k_is); (case c171 => k_is); (case c172 => k_is); (case c173 => k_is); (case c174 => first | rfl | k_is); (case c175 => first | rfl | k_is); (case c176 => first | rfl | k_is); (case c177 => first | rfl | k_is); (case c178 => k_is); (case c179 => k_is); (case c180 => first | rfl | k_is)
