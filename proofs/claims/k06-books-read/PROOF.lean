import PyProof.Rows.All
import HandS.ForMost
import HandS.ForExc
import HandS.WideBits
import HandS.Wide
import HandS.TupAny
import HandS.Conv
import PyProof.ListStr
import HandS.IsInst
import HandS.Style
import HandS.RevRange
import HandS.Codes
import HandS.Zip
import HandS.ExcValue
import HandS.HotCalls
import HandS.ExcIs
import KE.GoesComp
import KE.GoesRaise
import HandS.Strs
import HandS.Defaults
import HandS.CallSlots
import HandS.ExcInit
import HandS.ExcField
import KE.KExcIs
import HandS.StrMore
import PySem.Challenge.RW_countgen_k06_books_read
import KE.IntTextLaws
set_option Elab.async false
set_option linter.all false
set_option maxRecDepth 100000
set_option autoImplicit false
/-! G1: data and a store of things that change; what stands for them in a heap; a step; a frame. -/
namespace Gs
open PySem L2

inductive D where
  | non | bl (b : Bool) | int (i : Int) | str (x : Str) | tup (xs : List D) | lst (xs : List D) | dct (ks : List Key) (ds : List D)
  | ob (i : Nat) | fn (s : String) | ev (c : String) (ks : List Str) (ds : List D)
  deriving Inhabited
inductive O where
  | lst (xs : List D) | dK (kvs : List (Key × D)) | dT (kvs : List (List Key × D)) | ins (c : String) (fs : List (Str × D)) | gone
  deriving Inhabited
abbrev Sto := List O
def O.live : O → Bool
  | .gone => false
  | _ => true
/-- an exception's object, of the class cls, with the own dict d -/
def EvO (cls : Value) (d : Option Addr) (a : Addr) : HO := .ext fun h => ∃ (oe : Obj) (vs : Array Value), h.get? a = some oe ∧ Zc cls d oe ∧ oe.data = .fields vs

mutual
inductive Rep (K : PySem.W.Frag) (ct : String → Addr) (G : Hp) (m : Nat → Option Addr) : D → V → Prop
  | non : Rep K ct G m .non .non
  | bl (b : Bool) : Rep K ct G m (.bl b) (.bl b)
  | int (i : Int) : Rep K ct G m (.int i) (.int i)
  | str (x : Str) : Rep K ct G m (.str x) (.str x)
  | fn (s : String) : Rep K ct G m (.fn s) (.ref (ct s))
  | ob {i : Nat} {a : Addr} : m i = some a → Rep K ct G m (.ob i) (.ref a)
  | tup {a : Addr} {vs : List V} {ds : List D} : SqT K G a vs → RepL K ct G m ds vs → Rep K ct G m (.tup ds) (.ref a)
  | lst {a : Addr} {vs : List V} {ds : List D} : SqL K G a vs → RepL K ct G m ds vs → Rep K ct G m (.lst ds) (.ref a)
  | dct {a : Addr} {vs : List V} {ks : List Key} {ds : List D} : G a = some (.dK (ks.zip vs)) → ks.length = ds.length → RepL K ct G m ds vs → Rep K ct G m (.dct ks ds) (.ref a)
  | ev0 {a : Addr} {c : String} : G a = some (EvO (.ref (ct c)) none a) → Rep K ct G m (.ev c [] []) (.ref a)
  | ev {a d : Addr} {vs : List V} {c : String} {ks : List Str} {ds : List D} : ks ≠ [] → G a = some (EvO (.ref (ct c)) (some d) a) → G d = some (.xd (ks.zip vs)) → ks.length = ds.length → RepL K ct G m ds vs → Rep K ct G m (.ev c ks ds) (.ref a)
inductive RepL (K : PySem.W.Frag) (ct : String → Addr) (G : Hp) (m : Nat → Option Addr) : List D → List V → Prop
  | nil : RepL K ct G m [] []
  | cons {d : D} {v : V} {ds : List D} {vs : List V} : Rep K ct G m d v → RepL K ct G m ds vs → RepL K ct G m (d :: ds) (v :: vs)
end

def Grow (m m' : Nat → Option Addr) : Prop := ∀ i a, m i = some a → m' i = some a
theorem Grow.refl {m : Nat → Option Addr} : Grow m m := fun _ _ h => h
theorem Grow.trans {m m1 m2 : Nat → Option Addr} (a : Grow m m1) (b : Grow m1 m2) : Grow m m2 := fun i x h => b i x (a i x h)

theorem rd_mono {G G' : Hp} {a : Addr} {u : HO} (e : Same G G') (h : Rd G a u) : Rd G' a u := by
  rcases h with h | ⟨o, h⟩
  · exact .inl (e _ _ h)
  · exact .inr ⟨o, e _ _ h⟩
theorem sqt_mono {K : PySem.W.Frag} {G G' : Hp} {a : Addr} {xs : List V} (e : Same G G') (h : SqT K G a xs) : SqT K G' a xs := by
  rcases h with h | h
  · exact .inl (rd_mono e h)
  · exact .inr h
section
variable {K : PySem.W.Frag} {ct : String → Addr} {G G' : Hp} {m m' : Nat → Option Addr}
mutual
theorem Rep.mono (e : Same G G') (g : Grow m m') : ∀ {d : D} {v : V}, Rep K ct G m d v → Rep K ct G' m' d v
  | _, _, .non => .non
  | _, _, .bl b => .bl b
  | _, _, .int i => .int i
  | _, _, .str x => .str x
  | _, _, .fn a => .fn a
  | _, _, .ob h => .ob (g _ _ h)
  | _, _, .tup h r => .tup (sqt_mono e h) (RepL.mono e g r)
  | _, _, .lst h r => .lst (e.seq h) (RepL.mono e g r)
  | _, _, .dct h l r => .dct (e _ _ h) l (RepL.mono e g r)
  | _, _, .ev0 h => .ev0 (e _ _ h)
  | _, _, .ev n h h2 l r => .ev n (e _ _ h) (e _ _ h2) l (RepL.mono e g r)
theorem RepL.mono (e : Same G G') (g : Grow m m') : ∀ {ds : List D} {vs : List V}, RepL K ct G m ds vs → RepL K ct G' m' ds vs
  | _, _, .nil => .nil
  | _, _, .cons h r => .cons (Rep.mono e g h) (RepL.mono e g r)
end
theorem RepL.length : ∀ {ds : List D} {vs : List V}, RepL K ct G m ds vs → ds.length = vs.length
  | _, _, .nil => rfl
  | _, _, .cons _ r => by simp [RepL.length r]
theorem RepL.get : ∀ {ds : List D} {vs : List V} {i : Nat} {d : D}, RepL K ct G m ds vs → ds[i]? = some d → ∃ v, vs[i]? = some v ∧ Rep K ct G m d v
  | _, _, 0, _, .cons h _, e => by simp at e; subst e; exact ⟨_, rfl, h⟩
  | _, _, i + 1, d, .cons _ r, e => by
    obtain ⟨v, h1, h2⟩ := RepL.get (i := i) (d := d) r (by simpa using e)
    exact ⟨v, by simpa using h1, h2⟩
theorem RepL.append : ∀ {ds es : List D} {vs us : List V}, RepL K ct G m ds vs → RepL K ct G m es us → RepL K ct G m (ds ++ es) (vs ++ us)
  | _, _, _, _, .nil, s => s
  | _, _, _, _, .cons h r, s => .cons h (RepL.append r s)
theorem RepL.one {d : D} {v : V} (h : Rep K ct G m d v) : RepL K ct G m [d] [v] := .cons h .nil
theorem RepL.set : ∀ {ds : List D} {vs : List V} {d : D} {v : V} (i : Nat), RepL K ct G m ds vs → Rep K ct G m d v → RepL K ct G m (ds.set i d) (vs.set i v)
  | _, _, _, _, _, .nil, _ => .nil
  | _, _, _, _, 0, .cons _ r, h => .cons h r
  | _, _, _, _, i + 1, .cons q r, h => .cons q (RepL.set i r h)
theorem RepL.take : ∀ {ds : List D} {vs : List V} (n : Nat), RepL K ct G m ds vs → RepL K ct G m (ds.take n) (vs.take n)
  | _, _, 0, _ => .nil
  | _, _, _ + 1, .nil => .nil
  | _, _, n + 1, .cons h r => .cons h (RepL.take n r)
theorem RepL.drop : ∀ {ds : List D} {vs : List V} (n : Nat), RepL K ct G m ds vs → RepL K ct G m (ds.drop n) (vs.drop n)
  | _, _, 0, r => r
  | _, _, _ + 1, .nil => .nil
  | _, _, n + 1, .cons _ r => RepL.drop n r
theorem RepL.reverse : ∀ {ds : List D} {vs : List V}, RepL K ct G m ds vs → RepL K ct G m ds.reverse vs.reverse
  | _, _, .nil => .nil
  | _, _, .cons h r => by
    rw [List.reverse_cons, List.reverse_cons]
    exact RepL.append (RepL.reverse r) (RepL.one h)
theorem RepL.erase : ∀ {ds : List D} {vs : List V} (i : Nat), RepL K ct G m ds vs → RepL K ct G m (ds.eraseIdx i) (vs.eraseIdx i)
  | _, _, _, .nil => .nil
  | _, _, 0, .cons _ r => r
  | _, _, i + 1, .cons q r => .cons q (RepL.erase i r)
theorem RepL.insert : ∀ {ds : List D} {vs : List V} {d : D} {v : V} (i : Nat), RepL K ct G m ds vs → Rep K ct G m d v → RepL K ct G m (ds.take i ++ d :: ds.drop i) (vs.take i ++ v :: vs.drop i) := fun i r h =>
  (r.take i).append (.cons h (r.drop i))
theorem RepL.ints : ∀ ns : List Int, RepL K ct G m (ns.map D.int) (ns.map V.int)
  | [] => .nil
  | n :: r => .cons (.int n) (RepL.ints r)
theorem RepL.of_ints : ∀ {ns : List Int} {vs : List V}, RepL K ct G m (ns.map D.int) vs → vs = ns.map V.int
  | [], _, .nil => rfl
  | _ :: _, _, .cons (.int _) r => by rw [RepL.of_ints r]; rfl
theorem RepL.of_bls : ∀ {bs : List Bool} {vs : List V}, RepL K ct G m (bs.map D.bl) vs → vs = bs.map V.bl
  | [], _, .nil => rfl
  | _ :: _, _, .cons (.bl _) r => by rw [RepL.of_bls r]; rfl
theorem RepL.of_strs : ∀ {bs : List Str} {vs : List V}, RepL K ct G m (bs.map D.str) vs → vs = bs.map V.str
  | [], _, .nil => rfl
  | _ :: _, _, .cons (.str _) r => by rw [RepL.of_strs r]; rfl
end
/-- pairs of a key and a thing -/
inductive RepP {κ : Type} (K : PySem.W.Frag) (ct : String → Addr) (G : Hp) (m : Nat → Option Addr) : List (κ × D) → List (κ × V) → Prop
  | nil : RepP K ct G m [] []
  | cons {x : κ} {d : D} {v : V} {ds : List (κ × D)} {vs : List (κ × V)} : Rep K ct G m d v → RepP K ct G m ds vs → RepP K ct G m ((x, d) :: ds) ((x, v) :: vs)
section
variable {κ : Type} {K : PySem.W.Frag} {ct : String → Addr} {G G' : Hp} {m m' : Nat → Option Addr}
theorem RepP.mono (e : Same G G') (g : Grow m m') {ds : List (κ × D)} {vs : List (κ × V)} (r : RepP K ct G m ds vs) : RepP K ct G' m' ds vs := by
  induction r with
  | nil => exact .nil
  | cons h _ ih => exact .cons (h.mono e g) ih
theorem RepP.length {ds : List (κ × D)} {vs : List (κ × V)} (r : RepP K ct G m ds vs) : ds.length = vs.length := by
  induction r with
  | nil => rfl
  | cons h _ ih => simp [ih]
theorem RepP.keys {ds : List (κ × D)} {vs : List (κ × V)} (r : RepP K ct G m ds vs) : ds.map (·.1) = vs.map (·.1) := by
  induction r with
  | nil => rfl
  | cons h _ ih => simp [ih]
theorem RepP.vals {ds : List (κ × D)} {vs : List (κ × V)} (r : RepP K ct G m ds vs) : RepL K ct G m (ds.map (·.2)) (vs.map (·.2)) := by
  induction r with
  | nil => exact .nil
  | cons h _ ih => exact .cons h ih
theorem RepP.zip : ∀ {ks : List κ} {ds : List D} {vs : List V}, RepL K ct G m ds vs → RepP K ct G m (ks.zip ds) (ks.zip vs)
  | [], _, _, _ => .nil
  | _ :: _, _, _, .nil => .nil
  | _ :: _, _, _, .cons h r => .cons h (RepP.zip r)
theorem RepP.append {ds es : List (κ × D)} {vs us : List (κ × V)} (r : RepP K ct G m ds vs) (s : RepP K ct G m es us) : RepP K ct G m (ds ++ es) (vs ++ us) := by
  induction r with
  | nil => exact s
  | cons h _ ih => exact .cons h ih
theorem RepP.lookup [BEq κ] {ds : List (κ × D)} {vs : List (κ × V)} {x : κ} (r : RepP K ct G m ds vs) : (ds.lookup x = none ∧ vs.lookup x = none) ∨ ∃ d v, ds.lookup x = some d ∧ vs.lookup x = some v ∧ Rep K ct G m d v := by
  induction r with
  | nil => exact .inl ⟨rfl, rfl⟩
  | @cons y d v ds vs h _ ih =>
    simp only [List.lookup_cons]
    cases e : x == y with
    | true => exact .inr ⟨d, v, rfl, rfl, h⟩
    | false => exact ih
end

/-- the frozen heap, the whole heap, where the things of the store stand, the store -/
structure Vw where
  G : Hp
  H : Hp
  m : Nat → Option Addr
  st : Sto
/-- b belongs to a thing of the store -/
def Vw.owns (v : Vw) (b : Addr) : Prop := ∃ (i : Nat) (o : O) (a : Addr), v.st[i]? = some o ∧ o.live = true ∧ v.m i = some a ∧ (b = a ∨ ∃ C fs, v.H a = some (.ins C b fs))
def ORep (K : PySem.W.Frag) (ct : String → Addr) (v : Vw) (a : Addr) : O → Prop
  | .lst xs => ∃ vs, v.H a = some (.lst vs) ∧ RepL K ct v.G v.m xs vs
  | .dK kvs => ∃ vs, v.H a = some (.dK vs) ∧ RepP K ct v.G v.m kvs vs
  | .dT kvs => ∃ vs, v.H a = some (.dT vs) ∧ RepP K ct v.G v.m kvs vs
  | .ins c fs => ∃ dx vs, v.H a = some (.ins (ct c) dx vs) ∧ v.H dx = some (.own a) ∧ v.G dx = none ∧ RepP K ct v.G v.m fs vs
  | .gone => True
structure SR (K : PySem.W.Frag) (ct : String → Addr) (v : Vw) : Prop where
  sub : Same v.G v.H
  dom : ∀ i, v.st.length ≤ i → v.m i = none
  obj : ∀ (i : Nat) (o : O), v.st[i]? = some o → o.live = true → ∃ a, v.m i = some a ∧ v.G a = none ∧ ORep K ct v a o
  inj : ∀ (i j : Nat) (o u : O) (a : Addr), v.st[i]? = some o → v.st[j]? = some u → o.live = true → u.live = true → v.m i = some a → v.m j = some a → i = j
/-- a step: what was frozen is so still, what was tracked and is none of the store's stands -/
structure Le (v v' : Vw) : Prop where
  g : Same v.G v'.G
  m : Grow v.m v'.m
  h : ∀ b o, v.H b = some o → ¬ v.owns b → v'.H b = some o
  nw : ∀ b, v'.G b ≠ none → v.G b ≠ none ∨ v.H b = none ∨ v.owns b
  ow : ∀ b, v'.owns b → v.owns b ∨ v.H b = none
  al : ∀ b, v'.H b = none → v.H b = none
theorem same_none {H H' : Hp} (s : Same H H') (b : Addr) (h : H' b = none) : H b = none := s.free h
theorem Le.refl {v : Vw} : Le v v := ⟨Same.refl _, .refl, fun _ _ h _ => h, fun _ h => .inl h, fun _ h => .inl h, fun _ h => h⟩
theorem Le.trans {a b c : Vw} (x : Le a b) (y : Le b c) : Le a c := by
  have key : ∀ p, b.H p = none ∨ b.owns p → a.H p = none ∨ a.owns p := fun p z => by
    cases e : a.H p with
    | none => exact .inl rfl
    | some o =>
      by_cases q : a.owns p
      · exact .inr q
      · have h1 := x.h p o e q
        rcases z with z | z
        · rw [h1] at z; cases z
        · rcases x.ow p z with z | z
          · exact .inr z
          · rw [e] at z; cases z
  refine ⟨x.g.trans y.g, x.m.trans y.m, fun p o h n => ?_, fun p h => ?_, fun p h => ?_, fun p h => x.al p (y.al p h)⟩
  · refine y.h p o (x.h p o h n) fun z => ?_
    rcases x.ow p z with z | z
    · exact n z
    · rw [h] at z; cases z
  · rcases y.nw p h with z | z
    · exact x.nw p z
    · exact .inr (key p z)
  · rcases y.ow p h with z | z
    · exact x.ow p z
    · exact (key p (.inl z)).symm
theorem same_new {H : Hp} {p : Addr} (h : H p = none) (o : HO) : Same H (upd H p o) := fun b u q => by rw [upd_ne (ne_of_none q h)]; exact q
theorem same_upd {G H : Hp} {p : Addr} {o : HO} (s : Same G H) : Same (upd G p o) (upd H p o) := fun b u q => by
  unfold upd at *
  by_cases e : b = p
  · rw [if_pos e] at q ⊢
    exact q
  · rw [if_neg e] at q ⊢
    exact s _ _ q
section
variable {K : PySem.W.Frag} {ct : String → Addr}
theorem Le.rep {v v' : Vw} {d : D} {x : V} (l : Le v v') (r : Rep K ct v.G v.m d x) : Rep K ct v'.G v'.m d x := r.mono l.g l.m
theorem Le.repl {v v' : Vw} {d : List D} {x : List V} (l : Le v v') (r : RepL K ct v.G v.m d x) : RepL K ct v'.G v'.m d x := r.mono l.g l.m
theorem SR.obj_ne {v : Vw} (s : SR K ct v) {i : Nat} {o : O} {a : Addr} (h : v.st[i]? = some o) (l : o.live = true) (e : v.m i = some a) : v.G a = none ∧ ∃ u, v.H a = some u ∧ ∀ x, u ≠ .own x := by
  obtain ⟨a', e', g, r⟩ := s.obj i o h l
  rw [e] at e'
  cases e'
  refine ⟨g, ?_⟩
  cases o with
  | gone => cases l
  | lst xs => obtain ⟨vs, h, _⟩ := r; exact ⟨_, h, fun _ z => nomatch z⟩
  | dK xs => obtain ⟨vs, h, _⟩ := r; exact ⟨_, h, fun _ z => nomatch z⟩
  | dT xs => obtain ⟨vs, h, _⟩ := r; exact ⟨_, h, fun _ z => nomatch z⟩
  | ins c fs => obtain ⟨dx, vs, h, _⟩ := r; exact ⟨_, h, fun _ z => nomatch z⟩
/-- the own dict of an instance of the store -/
theorem SR.dx {v : Vw} (s : SR K ct v) {i : Nat} {o : O} {a C b : Addr} {fs : List (Str × V)} (h : v.st[i]? = some o) (l : o.live = true) (e : v.m i = some a) (hi : v.H a = some (.ins C b fs)) : v.H b = some (.own a) ∧ v.G b = none := by
  obtain ⟨a', e', g, r⟩ := s.obj i o h l
  rw [e] at e'
  cases e'
  cases o with
  | gone => cases l
  | lst xs => obtain ⟨vs, h, _⟩ := r; rw [hi] at h; cases h
  | dK xs => obtain ⟨vs, h, _⟩ := r; rw [hi] at h; cases h
  | dT xs => obtain ⟨vs, h, _⟩ := r; rw [hi] at h; cases h
  | ins c fs =>
    obtain ⟨dx, vs, h, h2, h3, _⟩ := r
    rw [hi] at h
    cases h
    exact ⟨h2, h3⟩
/-- what is the store's is tracked and not frozen -/
theorem SR.owns_tracked {v : Vw} (s : SR K ct v) {b : Addr} (h : v.owns b) : v.G b = none ∧ ∃ u, v.H b = some u := by
  obtain ⟨i, o, a, e, l, em, h⟩ := h
  rcases h with rfl | ⟨C, fs, h⟩
  · obtain ⟨g, u, hu, _⟩ := s.obj_ne e l em
    exact ⟨g, u, hu⟩
  · obtain ⟨h1, h2⟩ := s.dx e l em h
    exact ⟨h2, _, h1⟩
theorem SR.not_owned {v : Vw} (s : SR K ct v) {b : Addr} (h : v.H b = none) : ¬ v.owns b := fun z => by
  obtain ⟨_, u, hu⟩ := s.owns_tracked z
  rw [h] at hu
  cases hu
theorem ORep.mono' {v v' : Vw} {a : Addr} {o : O} (g : Same v.G v'.G) (m : Grow v.m v'.m) (ha : v'.H a = v.H a) (hd : ∀ C dx fs, v.H a = some (.ins C dx fs) → v.H dx = some (.own a) → v.G dx = none → v'.H dx = v.H dx ∧ v'.G dx = none) (r : ORep K ct v a o) : ORep K ct v' a o := by
  cases o with
  | gone => trivial
  | lst xs => obtain ⟨vs, h, r⟩ := r; exact ⟨vs, ha.trans h, r.mono g m⟩
  | dK xs => obtain ⟨vs, h, r⟩ := r; exact ⟨vs, ha.trans h, r.mono g m⟩
  | dT xs => obtain ⟨vs, h, r⟩ := r; exact ⟨vs, ha.trans h, r.mono g m⟩
  | ins c fs =>
    obtain ⟨dx, vs, h, h2, h3, r⟩ := r
    obtain ⟨h4, h5⟩ := hd _ _ _ h h2 h3
    exact ⟨dx, vs, ha.trans h, h4.trans h2, h5, r.mono g m⟩
theorem SR.free {v : Vw} (s : SR K ct v) {p : Addr} (h : v.H p = none) : v.G p = none := s.sub.free h
/-- the heaps go on, the store is as it was -/
theorem grow_ok {v : Vw} {G' H' : Hp} (s : SR K ct v) (hg : Same v.G G') (hh : Same v.H H') (sub : Same G' H') (nw : ∀ b, G' b ≠ none → v.G b ≠ none ∨ v.H b = none) : Le v ⟨G', H', v.m, v.st⟩ ∧ SR K ct ⟨G', H', v.m, v.st⟩ := by
  have keepG : ∀ b u, v.H b = some u → v.G b = none → G' b = none := fun b u h g => by
    cases z : G' b with
    | none => rfl
    | some w =>
      rcases nw b (by rw [z]; exact fun y => nomatch y) with y | y
      · exact absurd g y
      · rw [h] at y; cases y
  refine ⟨⟨hg, .refl, fun b u q _ => hh _ _ q, fun b q => (nw b q).imp id .inl, fun b ⟨i, u, a, e, l, em, q⟩ => ?_, same_none hh⟩, sub, s.dom, fun i u e l => ?_, s.inj⟩
  · rcases q with rfl | ⟨C, fs, q⟩
    · exact .inl ⟨i, u, b, e, l, em, .inl rfl⟩
    · obtain ⟨_, w, hw, _⟩ := s.obj_ne e l em
      have q' : H' a = some (.ins C b fs) := q
      rw [hh _ _ hw] at q'
      cases q'
      exact .inl ⟨i, u, a, e, l, em, .inr ⟨C, fs, hw⟩⟩
  · obtain ⟨a, em, ga, r⟩ := s.obj i u e l
    obtain ⟨_, w, hw, _⟩ := s.obj_ne e l em
    exact ⟨a, em, keepG _ _ hw ga, r.mono' hg .refl ((hh _ _ hw).trans hw.symm) fun C dx fs _ q1 q2 => ⟨(hh _ _ q1).trans q1.symm, keepG _ _ q1 q2⟩⟩
/-- a new object at p, frozen -/
def Vw.new (v : Vw) (p : Addr) (o : HO) : Vw := ⟨upd v.G p o, upd v.H p o, v.m, v.st⟩
theorem new_ok {v : Vw} {p : Addr} {o : HO} (s : SR K ct v) (h : v.H p = none) : Le v (v.new p o) ∧ SR K ct (v.new p o) :=
  grow_ok s (same_new (s.free h) _) (same_new h _) (same_upd s.sub) fun b q => by
    by_cases z : b = p
    · exact .inr (z ▸ h)
    · rw [upd_ne z] at q
      exact .inl q
theorem more_ok {v : Vw} {H' : Hp} (s : SR K ct v) (h : Same v.H H') : Le v ⟨v.G, H', v.m, v.st⟩ ∧ SR K ct ⟨v.G, H', v.m, v.st⟩ :=
  grow_ok s (Same.refl _) h (s.sub.trans h) fun _ q => .inl q

/-! ### things of the store -/
def mset (m : Nat → Option Addr) (i : Nat) (a : Addr) : Nat → Option Addr := fun j => if j = i then some a else m j
theorem mset_same {m : Nat → Option Addr} {i : Nat} {a : Addr} : mset m i a i = some a := if_pos rfl
theorem mset_ne {m : Nat → Option Addr} {i j : Nat} {a : Addr} (h : j ≠ i) : mset m i a j = m j := if_neg h
theorem mset_grow {m : Nat → Option Addr} {i : Nat} {a : Addr} (h : m i = none) : Grow m (mset m i a) := fun j b e => by
  rw [mset_ne]
  · exact e
  · intro z; rw [z, h] at e; cases e
theorem get_snoc {st : Sto} {o u : O} {i : Nat} (e : (st ++ [o])[i]? = some u) : (i < st.length ∧ st[i]? = some u) ∨ (i = st.length ∧ u = o) := by
  by_cases z : i < st.length
  · rw [List.getElem?_append_left z] at e
    exact .inl ⟨z, e⟩
  · rw [List.getElem?_append_right (Nat.not_lt.mp z)] at e
    have h0 : i - st.length = 0 := by
      have := (List.getElem?_eq_some_iff.mp e).1
      simp only [List.length_cons, List.length_nil] at this
      omega
    rw [h0] at e
    simp only [List.getElem?_cons_zero, Option.some.injEq] at e
    exact .inr ⟨by omega, e.symm⟩
/-- a new thing of the store: its address, the heap with it -/
def Vw.alloc (v : Vw) (p : Addr) (H' : Hp) (o : O) : Vw := ⟨v.G, H', mset v.m v.st.length p, v.st ++ [o]⟩
theorem alloc_ok {v : Vw} {p : Addr} {H' : Hp} {o : O} (s : SR K ct v) (hp : v.H p = none) (hs : Same v.H H') (hn : ∀ C b fs, H' p = some (.ins C b fs) → v.H b = none)
    (r : ORep K ct (v.alloc p H' o) p o) : Le v (v.alloc p H' o) ∧ SR K ct (v.alloc p H' o) := by
  have m0 : v.m v.st.length = none := s.dom _ (Nat.le_refl _)
  have gr : Grow v.m (mset v.m v.st.length p) := mset_grow m0
  have np : ∀ {i : Nat} {u : O} {a : Addr}, v.st[i]? = some u → u.live = true → v.m i = some a → a ≠ p := fun e l em => by
    obtain ⟨_, w, hw, _⟩ := s.obj_ne e l em
    exact ne_of_none hw hp
  have get_snoc : ∀ {i : Nat} {u : O}, (v.alloc p H' o).st[i]? = some u → (i < v.st.length ∧ v.st[i]? = some u) ∨ (i = v.st.length ∧ u = o) := fun e => get_snoc e
  refine ⟨⟨Same.refl _, gr, fun b u q _ => hs _ _ q, fun b q => .inl q, fun b ⟨i, u, a, e, l, em, q⟩ => ?_, same_none hs⟩, s.sub.trans hs, fun i hi => ?_, fun i u e l => ?_, fun i j u w a e1 e2 l1 l2 m1 m2 => ?_⟩
  · have em' : mset v.m v.st.length p i = some a := em
    rcases get_snoc e with ⟨z, e⟩ | ⟨rfl, rfl⟩
    · rw [mset_ne (Nat.ne_of_lt z)] at em'
      rcases q with rfl | ⟨C, fs, q⟩
      · exact .inl ⟨i, u, b, e, l, em', .inl rfl⟩
      · obtain ⟨_, w, hw, _⟩ := s.obj_ne e l em'
        have q' : H' a = some (.ins C b fs) := q
        rw [hs _ _ hw] at q'
        cases q'
        exact .inl ⟨i, u, a, e, l, em', .inr ⟨C, fs, hw⟩⟩
    · rw [mset_same] at em'
      cases em'
      rcases q with rfl | ⟨C, fs, q⟩
      · exact .inr hp
      · exact .inr (hn C b fs q)
  · have hl : v.st.length + 1 ≤ i := by simpa [Vw.alloc] using hi
    show mset v.m v.st.length p i = none
    rw [mset_ne (by omega)]
    exact s.dom i (by omega)
  · rcases get_snoc e with ⟨z, e⟩ | ⟨rfl, rfl⟩
    · obtain ⟨a, em, ga, r⟩ := s.obj i u e l
      obtain ⟨_, w, hw, _⟩ := s.obj_ne e l em
      exact ⟨a, (mset_ne (Nat.ne_of_lt z)).trans em, ga, r.mono' (v := v) (v' := v.alloc p H' o) (Same.refl _) gr ((hs _ _ hw).trans hw.symm) fun C dx fs _ q1 q2 => ⟨(hs _ _ q1).trans q1.symm, q2⟩⟩
    · exact ⟨p, mset_same, s.free hp, r⟩
  · have m1' : mset v.m v.st.length p i = some a := m1
    have m2' : mset v.m v.st.length p j = some a := m2
    rcases get_snoc e1 with ⟨z1, f1⟩ | ⟨y1, f1⟩ <;> rcases get_snoc e2 with ⟨z2, f2⟩ | ⟨y2, f2⟩
    · rw [mset_ne (Nat.ne_of_lt z1)] at m1'
      rw [mset_ne (Nat.ne_of_lt z2)] at m2'
      exact s.inj i j u w a f1 f2 l1 l2 m1' m2'
    · rw [mset_ne (Nat.ne_of_lt z1)] at m1'
      rw [y2, mset_same] at m2'
      cases m2'
      exact absurd rfl (np f1 l1 m1')
    · rw [mset_ne (Nat.ne_of_lt z2)] at m2'
      rw [y1, mset_same] at m1'
      cases m1'
      exact absurd rfl (np f2 l2 m2')
    · rw [y1, y2]
/-- a thing of the store is changed, at its own address -/
def Vw.put (v : Vw) (i : Nat) (a : Addr) (u : HO) (o : O) : Vw := ⟨v.G, upd v.H a u, v.m, v.st.set i o⟩
theorem put_ok {v : Vw} {i : Nat} {a : Addr} {u : HO} {o o0 : O} (s : SR K ct v) (e0 : v.st[i]? = some o0) (l0 : o0.live = true) (em : v.m i = some a) (hn : ∀ C b fs, u = .ins C b fs → ∃ fs0, v.H a = some (.ins C b fs0))
    (r : ORep K ct (v.put i a u o) a o) : Le v (v.put i a u o) ∧ SR K ct (v.put i a u o) := by
  obtain ⟨ga, w0, hw0, no0⟩ := s.obj_ne e0 l0 em
  have own : v.owns a := ⟨i, o0, a, e0, l0, em, .inl rfl⟩
  have get : ∀ {j : Nat} {w : O}, (v.st.set i o)[j]? = some w → (j = i ∧ w = o) ∨ (j ≠ i ∧ v.st[j]? = some w) := fun {j w} e => by
    by_cases z : i = j
    · subst z
      rw [List.getElem?_set_self (List.getElem?_eq_some_iff.mp e0).1] at e
      exact .inl ⟨rfl, (Option.some.inj e).symm⟩
    · rw [List.getElem?_set_ne z] at e
      exact .inr ⟨fun q => z q.symm, e⟩
  refine ⟨⟨Same.refl _, .refl, fun b w q n => ?_, fun b q => .inl q, fun b ⟨j, w, a2, e, l, em2, q⟩ => ?_, fun b q => ?_⟩, fun b w q => ?_, fun j hj => s.dom j (by simpa [Vw.put] using hj), fun j w e l => ?_, fun j k w w2 a2 e1 e2 l1 l2 m1 m2 => ?_⟩
  · show upd v.H a u b = some w
    have z : b ≠ a := fun z => n (by rw [z]; exact own)
    rw [upd_ne z]
    exact q
  · rcases get e with ⟨rfl, rfl⟩ | ⟨z, e⟩
    · have em2' : v.m j = some a2 := em2
      rw [em] at em2'
      cases em2'
      rcases q with rfl | ⟨C, fs, q⟩
      · exact .inl own
      · have q' : upd v.H a u a = some (.ins C b fs) := q
        rw [upd_same] at q'
        obtain ⟨fs0, h0⟩ := hn C b fs (Option.some.inj q')
        exact .inl ⟨j, o0, a, e0, l0, em, .inr ⟨C, fs0, h0⟩⟩
    · have em2' : v.m j = some a2 := em2
      rcases q with rfl | ⟨C, fs, q⟩
      · exact .inl ⟨j, w, b, e, l, em2', .inl rfl⟩
      · have na : a2 ≠ a := fun zz => z (s.inj j i w o0 a e e0 l l0 (zz ▸ em2') em)
        have q' : upd v.H a u a2 = some (.ins C b fs) := q
        rw [upd_ne na] at q'
        exact .inl ⟨j, w, a2, e, l, em2', .inr ⟨C, fs, q'⟩⟩
  · have q' : upd v.H a u b = none := q
    by_cases z : b = a
    · rw [z, upd_same] at q'
      cases q'
    · rw [upd_ne z] at q'
      exact q'
  · show upd v.H a u b = some w
    have q' : v.G b = some w := q
    have z : b ≠ a := fun z => by rw [z, ga] at q'; cases q'
    rw [upd_ne z]
    exact s.sub _ _ q'
  · rcases get e with ⟨rfl, rfl⟩ | ⟨z, e⟩
    · exact ⟨a, em, ga, r⟩
    · obtain ⟨a2, em2, ga2, r2⟩ := s.obj j w e l
      have na : a2 ≠ a := fun zz => z (s.inj j i w o0 a e e0 l l0 (zz ▸ em2) em)
      refine ⟨a2, em2, ga2, r2.mono' (v := v) (v' := v.put i a u o) (Same.refl _) .refl (upd_ne na) fun C dx fs _ q1 q2 => ⟨upd_ne fun zz => ?_, q2⟩⟩
      rw [zz, hw0] at q1
      exact no0 _ (Option.some.inj q1)
  · rcases get e1 with ⟨y1, _⟩ | ⟨z1, f1⟩ <;> rcases get e2 with ⟨y2, _⟩ | ⟨z2, f2⟩
    · rw [y1, y2]
    · exact s.inj j k o0 w2 a2 (y1 ▸ e0) f2 l0 l2 m1 m2
    · exact s.inj j k w o0 a2 f1 (y2 ▸ e0) l1 l0 m1 m2
    · exact s.inj j k w w2 a2 f1 f2 l1 l2 m1 m2
/-- a thing of the store is frozen, or forgotten -/
def Vw.frz (v : Vw) (i : Nat) (a : Addr) (u : HO) : Vw := ⟨upd v.G a u, v.H, v.m, v.st.set i .gone⟩
theorem frz_ok {v : Vw} {i : Nat} {a : Addr} {u : HO} {o0 : O} (s : SR K ct v) (e0 : v.st[i]? = some o0) (l0 : o0.live = true) (em : v.m i = some a) (hu : v.H a = some u) : Le v (v.frz i a u) ∧ SR K ct (v.frz i a u) := by
  obtain ⟨ga, w0, hw0, no0⟩ := s.obj_ne e0 l0 em
  have own : v.owns a := ⟨i, o0, a, e0, l0, em, .inl rfl⟩
  have get : ∀ {j : Nat} {w : O}, (v.st.set i .gone)[j]? = some w → w.live = true → j ≠ i ∧ v.st[j]? = some w := fun {j w} e l => by
    by_cases z : i = j
    · subst z
      rw [List.getElem?_set_self (List.getElem?_eq_some_iff.mp e0).1] at e
      cases e
      cases l
    · rw [List.getElem?_set_ne z] at e
      exact ⟨fun q => z q.symm, e⟩
  have sg := same_new ga u
  refine ⟨⟨sg, .refl, fun b w q n => q, fun b q => ?_, fun b ⟨j, w, a2, e, l, em2, q⟩ => ?_, fun b q => q⟩, fun b w q => ?_, fun j hj => s.dom j (by simpa [Vw.frz] using hj), fun j w e l => ?_, fun j k w w2 a2 e1 e2 l1 l2 m1 m2 => ?_⟩
  · by_cases z : b = a
    · exact .inr (.inr (z ▸ own))
    · have q' : upd v.G a u b ≠ none := q
      rw [upd_ne z] at q'
      exact .inl q'
  · obtain ⟨_, e⟩ := get e l
    exact .inl ⟨j, w, a2, e, l, em2, q⟩
  · by_cases z : b = a
    · have q' : upd v.G a u b = some w := q
      rw [z, upd_same] at q'
      cases q'
      show v.H b = some u
      rw [z]
      exact hu
    · have q' : upd v.G a u b = some w := q
      rw [upd_ne z] at q'
      exact s.sub _ _ q'
  · obtain ⟨z, e⟩ := get e l
    obtain ⟨a2, em2, ga2, r2⟩ := s.obj j w e l
    have na : a2 ≠ a := fun zz => z (s.inj j i w o0 a e e0 l l0 (zz ▸ em2) em)
    refine ⟨a2, em2, (upd_ne na).trans ga2, r2.mono' (v := v) (v' := v.frz i a u) sg .refl rfl fun C dx fs _ q1 q2 => ⟨rfl, (upd_ne fun zz => ?_).trans q2⟩⟩
    rw [zz, hw0] at q1
    exact no0 _ (Option.some.inj q1)
  · exact s.inj j k w w2 a2 (get e1 l1).2 (get e2 l2).2 l1 l2 m1 m2
end
end Gs

/-! G2: results, frames, expressions, tests, arguments. -/
namespace Gs
open PySem L2

structure Ex where
  cls : String
  fs : List (Str × D)
inductive R (α : Type) where
  | ok (a : α) (s : Sto) | exc (e : Ex) (s : Sto) | stk
def R.bind {α β : Type} (r : R α) (k : α → Sto → R β) : R β := match r with
  | .ok a s => k a s
  | .exc e s => .exc e s
  | .stk => .stk
def R.ofO {α : Type} (o : Option α) (s : Sto) : R α := match o with
  | some a => .ok a s
  | none => .stk

/-- what is fixed through a body: the view at its entry, the classes' addresses, what is wanted of an exception -/
structure Cc where
  v0 : Vw
  ct : String → Addr
  W : WX
/-- an exception's class and own dict -/
def RepX (K : PySem.W.Frag) (ct : String → Addr) (v : Vw) (e : Ex) (cls : Value) (dd : Option Addr) : Prop :=
  cls = .ref (ct e.cls) ∧ ((e.fs = [] ∧ dd = none) ∨ (e.fs ≠ [] ∧ ∃ d fs, dd = some d ∧ v.G d = some (.xd fs) ∧ RepP K ct v.G v.m e.fs fs))
abbrev Sl := List (Option D)
structure RE (K : PySem.W.Frag) (C : Cc) (σ : L2.St) (δ : Sl) (v : Vw) : Prop where
  le : Le C.v0 v
  sr : SR K C.ct v
  len : σ.length = δ.length
  sl : ∀ (i : Nat) (d : D), δ[i]? = some (some d) → ∃ x, σ[i]? = some (some x) ∧ Rep K C.ct v.G v.m d x
section
variable {K : PySem.W.Frag} {C : Cc} {σ : L2.St} {δ : Sl} {v v' : Vw}
theorem RE.step (r : RE K C σ δ v) (l : Le v v') (s : SR K C.ct v') : RE K C σ δ v' :=
  ⟨r.le.trans l, s, r.len, fun i d h => let ⟨x, e, q⟩ := r.sl i d h; ⟨x, e, l.rep q⟩⟩
theorem RE.setV {d : D} {x : V} (r : RE K C σ δ v) (i : Nat) (h : Rep K C.ct v.G v.m d x) : RE K C (σ.set i (some x)) (δ.set i (some d)) v := by
  refine ⟨r.le, r.sr, by simp [r.len], fun j e hs => ?_⟩
  by_cases z : i = j
  · subst z
    have hi : i < δ.length := by
      have := (List.getElem?_eq_some_iff.mp hs).1
      simpa using this
    rw [List.getElem?_set_self hi] at hs
    cases hs
    rw [List.getElem?_set_self (by rw [r.len]; exact hi)]
    exact ⟨x, rfl, h⟩
  · rw [List.getElem?_set_ne z] at hs
    rw [List.getElem?_set_ne z]
    exact r.sl j e hs
theorem RE.setU (r : RE K C σ δ v) (i : Nat) (x : Option V) : RE K C (σ.set i x) (δ.set i none) v := by
  refine ⟨r.le, r.sr, by simp [r.len], fun j e hs => ?_⟩
  by_cases z : i = j
  · subst z
    have hi : i < δ.length := by
      have := (List.getElem?_eq_some_iff.mp hs).1
      simpa using this
    rw [List.getElem?_set_self hi] at hs
    cases hs
  · rw [List.getElem?_set_ne z] at hs
    rw [List.getElem?_set_ne z]
    exact r.sl j e hs
end

/-! ### what is due of a result -/
def onX (K : PySem.W.Frag) (C : Cc) (σ : L2.St) (v : Vw) (e : Ex) (s : Sto) : Prop := ∀ cls dd v', Le v v' → SR K C.ct v' → v'.st = s → RepX K C.ct v' e cls dd → C.W cls dd σ v'.H
def on {α β : Type} (K : PySem.W.Frag) (C : Cc) (σ : L2.St) (v : Vw) (rel : α → β → Vw → Prop) (r : R α) (P : α → β → Vw → Prop) : Prop := match r with
  | .ok a s => ∀ b v', Le v v' → SR K C.ct v' → v'.st = s → rel a b v' → P a b v'
  | .exc e s => onX K C σ v e s
  | .stk => False
abbrev rE (K : PySem.W.Frag) (ct : String → Addr) : D → V → Vw → Prop := fun d x v => Rep K ct v.G v.m d x
abbrev rA (K : PySem.W.Frag) (ct : String → Addr) : List D → List V → Vw → Prop := fun d x v => RepL K ct v.G v.m d x
abbrev rB {α : Type} : α → α → Vw → Prop := fun a b _ => a = b
section
variable {α β γ ε : Type} {K : PySem.W.Frag} {C : Cc} {σ : L2.St} {v v' : Vw} {rel : α → β → Vw → Prop} {rel2 : γ → ε → Vw → Prop}
theorem on_step {r : R α} {P : α → β → Vw → Prop} (l : Le v v') (h : on K C σ v rel r P) : on K C σ v' rel r P := by
  cases r with
  | ok a s => exact fun b w l2 => h b w (l.trans l2)
  | exc e s => exact fun cls dd w l2 => h cls dd w (l.trans l2)
  | stk => exact h
theorem on_mono {r : R α} {P P' : α → β → Vw → Prop} (h : on K C σ v rel r P) (w : ∀ a b v', Le v v' → SR K C.ct v' → rel a b v' → P a b v' → P' a b v') : on K C σ v rel r P' := by
  cases r with
  | ok a s => exact fun b v' l sr e q => w a b v' l sr q (h b v' l sr e q)
  | exc e s => exact h
  | stk => exact h
/-- one after another -/
theorem on_bind {r : R α} {k : α → Sto → R γ} {P : γ → ε → Vw → Prop} (h : on K C σ v rel2 (r.bind k) P) : on K C σ v rel r fun a _ v1 => on K C σ v1 rel2 (k a v1.st) P := by
  cases r with
  | ok a s =>
    intro b v1 l sr e q
    subst e
    exact on_step l h
  | exc e s => exact h
  | stk => exact h
theorem on_self {a : α} {b : β} {P : α → β → Vw → Prop} (sr : SR K C.ct v) (h : on K C σ v rel (.ok a v.st) P) (r : rel a b v) : P a b v := h b v .refl sr rfl r
theorem on_ofO {o : Option α} {P : α → β → Vw → Prop} (h : on K C σ v rel (R.ofO o v.st) P) : ∃ a, o = some a ∧ ∀ b v', Le v v' → SR K C.ct v' → v'.st = v.st → rel a b v' → P a b v' := by
  cases o with
  | none => exact h.elim
  | some a => exact ⟨a, rfl, h⟩
end

abbrev E := Sl → Sto → R D
abbrev T := Sl → Sto → R Bool
abbrev As := Sl → Sto → R (List D)
def liftE (K : PySem.W.Frag) (C : Cc) (f : E) : TE := fun σ H Q => ∃ δ v, RE K C σ δ v ∧ v.H = H ∧ on K C σ v (rE K C.ct) (f δ v.st) fun _ x v' => Q x v'.H
def liftT (K : PySem.W.Frag) (C : Cc) (f : T) : TT := fun σ H Q => ∃ δ v, RE K C σ δ v ∧ v.H = H ∧ on K C σ v rB (f δ v.st) fun _ b v' => Q b v'.H
def liftA (K : PySem.W.Frag) (C : Cc) (f : As) : TA := fun σ H Q => ∃ δ v, RE K C σ δ v ∧ v.H = H ∧ on K C σ v (rA K C.ct) (f δ v.st) fun _ xs v' => Q xs v'.H
abbrev SE (X : Cx) (C : Cc) (e : Expr) (f : E) : Prop := PE X e (liftE X.K C f)
abbrev ST (X : Cx) (C : Cc) (e : Expr) (f : T) : Prop := PT X e (liftT X.K C f)
abbrev SA (X : Cx) (C : Cc) (es : List Expr) (f : As) : Prop := PA X es (liftA X.K C f)
theorem pe_weak {X : Cx} {e : Expr} {t t' : TE} (h : PE X e t) (w : ∀ σ H Q, t' σ H Q → t σ H Q) : PE X e t' := ⟨fun pins s σ H Q I z => h.run pins s σ H Q I (w σ H Q z)⟩
theorem pt_weak {X : Cx} {e : Expr} {t t' : TT} (h : PT X e t) (w : ∀ σ H Q, t' σ H Q → t σ H Q) : PT X e t' := ⟨fun pins s σ H Q I z => h.run pins s σ H Q I (w σ H Q z)⟩
theorem pw_weak {X : Cx} {e : Expr} {t t' : TT} (h : PW X e t) (w : ∀ σ H Q, t' σ H Q → t σ H Q) : PW X e t' := ⟨fun wh pins s σ H Q I z => h.run wh pins s σ H Q I (w σ H Q z)⟩
theorem pa_weak {X : Cx} {e : List Expr} {t t' : TA} (h : PA X e t) (w : ∀ σ H Q, t' σ H Q → t σ H Q) : PA X e t' := ⟨fun pos pins s σ H Q I z => h.run pos pins s σ H Q I (w σ H Q z)⟩

/-! ### names and constants -/
def eV (i : Nat) : E := fun δ s => match δ[i]? with
  | some (some d) => .ok d s
  | _ => .stk
def eC (d : D) : E := fun _ s => .ok d s
def eStk : E := fun _ _ => .stk
section
variable {X : Cx} {C : Cc} {pos : Pos}
theorem se_var (i : Nat) {x : Str} (hN : X.N[i]? = some x := by rfl) (hv : Vis X.env.scope x := by first | exact Or.inl rfl | exact Or.inr (Or.inl rfl) | exact Or.inr (Or.inr rfl)) (hd : (x == ("__debug__" : Str)) = false := by decide)
    (hcd : (x == ("__classdict__" : Str)) = false := by decide) : SE X C (.Name x pos) (eV i) :=
  pe_weak (pe_var hN hv hd hcd) fun σ H Q ⟨δ, v, re, eH, h⟩ => by
    subst eH
    unfold eV at h
    split at h
    · rename_i d e
      obtain ⟨x, ex, rx⟩ := re.sl i d e
      exact ⟨x, ex, on_self re.sr h rx⟩
    · exact h.elim
theorem se_const {e : Expr} {d : D} {x : V} (h : PE X e (fun _ H Q => Q x H)) (r : ∀ G m, Rep X.K C.ct G m d x) : SE X C e (eC d) :=
  pe_weak h fun σ H Q ⟨δ, v, re, eH, h⟩ => by subst eH; exact on_self re.sr h (r _ _)
theorem se_int {i : Int} {j : Nat} : SE X C (.Constant (.int i) j pos) (eC (.int i)) := se_const pe_int fun _ _ => .int i
theorem se_bl {b : Bool} {j : Nat} : SE X C (.Constant (.bool b) j pos) (eC (.bl b)) := se_const pe_bl fun _ _ => .bl b
theorem se_non {j : Nat} : SE X C (.Constant .none j pos) (eC .non) := se_const pe_non fun _ _ => .non
theorem se_str {x : Str} {j : Nat} : SE X C (.Constant (.str x) j pos) (eC (.str x)) := se_const pe_str fun _ _ => .str x
/-- a constant of the module -/
theorem se_glob {x : Str} {d : D} {v : V} {u : Value} (hg : Gl X x) (hm : X.mg x = some u) (r : RelV v u) (rd : ∀ G m, Rep X.K C.ct G m d v) (hd : (x == ("__debug__" : Str)) = false := by decide) : SE X C (.Name x pos) (eC d) := se_const (pe_glob hg hm r hd) rd
theorem se_never {e : Expr} : SE X C e eStk := ⟨fun pins s σ H Q I ⟨δ, v, re, eH, h⟩ => h.elim⟩
end

/-! ### what stands at the top of a datum, read in the heap as it is -/
inductive RepT (K : PySem.W.Frag) (ct : String → Addr) (v : Vw) : D → V → Prop
  | non : RepT K ct v .non .non
  | bl (b : Bool) : RepT K ct v (.bl b) (.bl b)
  | int (i : Int) : RepT K ct v (.int i) (.int i)
  | str (x : Str) : RepT K ct v (.str x) (.str x)
  | fn (s : String) : RepT K ct v (.fn s) (.ref (ct s))
  | ob {i : Nat} {a : Addr} : v.m i = some a → RepT K ct v (.ob i) (.ref a)
  | tup {a : Addr} {vs : List V} {ds : List D} : SqT K v.G a vs → RepL K ct v.G v.m ds vs → RepT K ct v (.tup ds) (.ref a)
  | lst {a : Addr} {vs : List V} {ds : List D} : SqL K v.H a vs → RepL K ct v.G v.m ds vs → RepT K ct v (.lst ds) (.ref a)
  | dct {a : Addr} {vs : List V} {ks : List Key} {ds : List D} : v.H a = some (.dK (ks.zip vs)) → ks.length = ds.length → RepL K ct v.G v.m ds vs → RepT K ct v (.dct ks ds) (.ref a)
  | ev {a : Addr} {c : String} {ks : List Str} {ds : List D} : Rep K ct v.G v.m (.ev c ks ds) (.ref a) → RepT K ct v (.ev c ks ds) (.ref a)
def rsv (s : Sto) : D → D
  | .ob i => match s[i]? with
    | some (.lst xs) => .lst xs
    | some (.dK kvs) => .dct (kvs.map (·.1)) (kvs.map (·.2))
    | _ => .ob i
  | d => d
theorem zip_unzip {κ β : Type} : ∀ l : List (κ × β), (l.map (·.1)).zip (l.map (·.2)) = l
  | [] => rfl
  | x :: r => by simp [zip_unzip r]
theorem Rep.top {K : PySem.W.Frag} {ct : String → Addr} {v : Vw} {d : D} {x : V} (sr : SR K ct v) (r : Rep K ct v.G v.m d x) : RepT K ct v (rsv v.st d) x := by
  cases r with
  | non => exact .non
  | bl b => exact .bl b
  | int b => exact .int b
  | str b => exact .str b
  | fn s => exact .fn s
  | tup h r => exact .tup h r
  | lst h r => exact .lst (sr.sub.seq h) r
  | dct h l r => exact .dct (sr.sub _ _ h) l r
  | ev0 h => exact .ev (.ev0 h)
  | ev n h h2 l r => exact .ev (.ev n h h2 l r)
  | @ob i a e =>
    unfold rsv
    dsimp only
    split
    · rename_i xs h
      obtain ⟨a', e', _, vs, h2, r⟩ := sr.obj i _ h rfl
      rw [e] at e'
      cases e'
      exact .lst (SqL.of h2) r
    · rename_i kvs h
      obtain ⟨a', e', _, vs, h2, r⟩ := sr.obj i _ h rfl
      rw [e] at e'
      cases e'
      have k := r.keys
      refine .dct (vs := vs.map (·.2)) ?_ (by simp) r.vals
      rw [k, zip_unzip]
      exact h2
    · exact .ob e

/-! ### operators, by values -/
abbrev B2 := D → D → Option D
def rD (K : PySem.W.Frag) (ct : String → Addr) (g : B2) : R2 := fun x y H Q => ∃ v dx dy d, v.H = H ∧ SR K ct v ∧ g dx dy = some d ∧ RepT K ct v dx x ∧ RepT K ct v dy y ∧ ∀ z v', Le v v' → SR K ct v' → v'.st = v.st → Rep K ct v'.G v'.m d z → Q z v'.H
def eBin (g : B2) (a b : E) : E := fun δ s => (a δ s).bind fun x s1 => (b δ s1).bind fun y s2 => R.ofO (g (rsv s2 x) (rsv s2 y)) s2
section
variable {X : Cx} {C : Cc} {pos : Pos} {a b c : Expr} {fa fb fc : E} {g : B2}
theorem lift_bin {K : PySem.W.Frag} {σ : L2.St} {H : Hp} {Q : VK} (h : liftE K C (eBin g fa fb) σ H Q) : tOp (rD K C.ct g) (liftE K C fa) (liftE K C fb) σ H Q := by
  obtain ⟨δ, v, re, rfl, h⟩ := h
  refine ⟨δ, v, re, rfl, on_mono (on_bind h) fun d x v1 l1 s1 r1 h1 => ?_⟩
  refine ⟨δ, v1, re.step l1 s1, rfl, on_mono (on_bind h1) fun d2 x2 v2 l2 s2 r2 h2 => ?_⟩
  obtain ⟨z, e, h2⟩ := on_ofO h2
  exact ⟨v2, _, _, z, rfl, s2, e, (l2.rep r1).top s2, r2.top s2, h2⟩
theorem se_bin {op : Operator} (ho : OpR X (binaryOp op) (rD X.K C.ct g)) (ha : SE X C a fa) (hb : SE X C b fb) : SE X C (.BinOp a op b pos) (eBin g fa fb) :=
  pe_weak (pe_op ho ha hb) fun σ H Q h => lift_bin h
theorem se_cmp {op : CmpOp} (ho : OpR X (compareOp op) (rD X.K C.ct g)) (ha : SE X C a fa) (hb : SE X C b fb) (hm : behindInMarks op b = false := by first | exact nomark _ | rfl) : SE X C (.Compare a [op] [b] pos) (eBin g fa fb) :=
  pe_weak (pe_cmpR ho ha hb hm) fun σ H Q h => lift_bin h
/-- a value as a test: a truth -/
def tV (f : E) : T := fun δ s => (f δ s).bind fun d s1 => match d with
  | .bl b => .ok b s1
  | _ => .stk
theorem lift_test {K : PySem.W.Frag} {f : E} {σ : L2.St} {H : Hp} {Q : Bool → Hp → Prop} (h : liftT K C (tV f) σ H Q) : liftE K C f σ H fun v H' => ∃ k, v = .bl k ∧ Q k H' := by
  obtain ⟨δ, v, re, eH, h⟩ := h
  refine ⟨δ, v, re, eH, on_mono (on_bind h) fun d x v1 l1 s1 r1 h1 => ?_⟩
  cases r1 <;> first
    | exact h1.elim
    | exact ⟨_, rfl, on_self s1 h1 rfl⟩
theorem st_cmp {op : CmpOp} (ho : OpR X (compareOp op) (rD X.K C.ct g)) (ha : SE X C a fa) (hb : SE X C b fb) (hm : behindInMarks op b = false := by first | exact nomark _ | rfl) : ST X C (.Compare a [op] [b] pos) (tV (eBin g fa fb)) := by
  refine ⟨fun pins s σ H Q I h => ?_⟩
  refine (pt_cmpR ho ha hb hm).run pins s σ H Q I ?_
  exact lift_bin (Q := fun v H' => ∃ k, v = .bl k ∧ Q k H') (lift_test h)
theorem st_val {e : Expr} {f : E} (h : SE X C e f) (he : ∀ whole, isTrue e X.env whole = (do let v ← whole; standAt e.pos; holding [v] (truthy v)) := by intro _; rfl) : ST X C e (tV f) :=
  pt_weak (pt_val h he) fun σ H Q z => lift_test z
/-- two comparisons in a chain -/
def eChain (g g' : B2) (a b c : E) : E := fun δ s => (a δ s).bind fun x s1 => (b δ s1).bind fun y s2 => (R.ofO (g (rsv s2 x) (rsv s2 y)) s2).bind fun z s3 => match z with
  | .bl true => (c δ s3).bind fun w s4 => R.ofO (g' (rsv s4 y) (rsv s4 w)) s4
  | .bl false => .ok (.bl false) s3
  | _ => .stk
theorem lift_chain {K : PySem.W.Frag} {g' : B2} {σ : L2.St} {H : Hp} {Q : VK} (h : liftE K C (eChain g g' fa fb fc) σ H Q) : tChain (rD K C.ct g) (rD K C.ct g') (liftE K C fa) (liftE K C fb) (liftE K C fc) σ H Q := by
  obtain ⟨δ, v, re, rfl, h⟩ := h
  refine ⟨δ, v, re, rfl, on_mono (on_bind h) fun d x v1 l1 s1 r1 h1 => ?_⟩
  refine ⟨δ, v1, re.step l1 s1, rfl, on_mono (on_bind h1) fun d2 x2 v2 l2 s2 r2 h2 => ?_⟩
  have h3 := on_bind (rel := rE K C.ct) h2
  obtain ⟨z, e, h3⟩ := on_ofO h3
  refine ⟨v2, _, _, z, rfl, s2, e, (l2.rep r1).top s2, r2.top s2, fun x3 v3 l3 s3 e3 r3 => ?_⟩
  have h4 := h3 x3 v3 l3 s3 e3 r3
  cases r3 <;> first
    | exact h4.elim
    | skip
  rename_i k
  refine ⟨k, rfl, ?_⟩
  cases k with
  | true =>
    rw [if_pos rfl]
    refine ⟨δ, v3, ((re.step l1 s1).step l2 s2).step l3 s3, rfl, on_mono (on_bind h4) fun d4 x4 v4 l4 s4 r4 h5 => ?_⟩
    obtain ⟨z, e, h5⟩ := on_ofO h5
    exact ⟨v4, _, _, z, rfl, s4, e, ((l3.trans l4).rep r2).top s4, r4.top s4, h5⟩
  | false =>
    rw [if_neg Bool.false_ne_true]
    exact on_self s3 h4 (.bl false)
theorem se_chain {op op' : CmpOp} {g' : B2} (ho : OpR X (compareOp op) (rD X.K C.ct g)) (ho' : OpR X (compareOp op') (rD X.K C.ct g')) (ha : SE X C a fa) (hb : SE X C b fb) (hc : SE X C c fc)
    (hm : lastMarks [op, op'] [b, c] = false := by with_unfolding_all rfl) : SE X C (.Compare a [op, op'] [b, c] pos) (eChain g g' fa fb fc) :=
  pe_weak (pe_chain ho ho' ha hb hc hm) fun σ H Q h => lift_chain h
theorem st_chain {op op' : CmpOp} {g' : B2} (ho : OpR X (compareOp op) (rD X.K C.ct g)) (ho' : OpR X (compareOp op') (rD X.K C.ct g')) (ha : SE X C a fa) (hb : SE X C b fb) (hc : SE X C c fc)
    (hm : lastMarks [op, op'] [b, c] = false := by with_unfolding_all rfl) : ST X C (.Compare a [op, op'] [b, c] pos) (tV (eChain g g' fa fb fc)) := by
  refine ⟨fun pins s σ H Q I h => ?_⟩
  refine (pt_chain ho ho' ha hb hc hm).run pins s σ H Q I ?_
  exact lift_chain (Q := fun v H' => ∃ k, v = .bl k ∧ Q k H') (lift_test h)

/-! ### not, and, or -/
def tNt (f : T) : T := fun δ s => (f δ s).bind fun b s1 => .ok (!b) s1
def tAn (f g : T) : T := fun δ s => (f δ s).bind fun b s1 => if b = true then g δ s1 else .ok false s1
def tOrr (f g : T) : T := fun δ s => (f δ s).bind fun b s1 => if b = true then .ok true s1 else g δ s1
theorem st_not {ft : T} (h : ST X C a ft) : ST X C (.UnaryOp .Not a pos) (tNt ft) := pt_weak (pt_not h) fun σ H Q ⟨δ, v, re, eH, h⟩ =>
  ⟨δ, v, re, eH, on_mono (on_bind h) fun b k v1 l1 s1 e h1 => by cases e; exact on_self s1 h1 rfl⟩
theorem lift_and {K : PySem.W.Frag} {ft gt : T} {σ : L2.St} {H : Hp} {Q : Bool → Hp → Prop} (h : liftT K C (tAn ft gt) σ H Q) : tAnd (liftT K C ft) (liftT K C gt) σ H Q := by
  obtain ⟨δ, v, re, eH, h⟩ := h
  refine ⟨δ, v, re, eH, on_mono (on_bind h) fun b k v1 l1 s1 e h1 => ?_⟩
  cases e
  cases b with
  | true => exact ⟨δ, v1, re.step l1 s1, rfl, h1⟩
  | false => exact on_self s1 h1 rfl
theorem lift_or {K : PySem.W.Frag} {ft gt : T} {σ : L2.St} {H : Hp} {Q : Bool → Hp → Prop} (h : liftT K C (tOrr ft gt) σ H Q) : tOr (liftT K C ft) (liftT K C gt) σ H Q := by
  obtain ⟨δ, v, re, eH, h⟩ := h
  refine ⟨δ, v, re, eH, on_mono (on_bind h) fun b k v1 l1 s1 e h1 => ?_⟩
  cases e
  cases b with
  | true => exact on_self s1 h1 rfl
  | false => exact ⟨δ, v1, re.step l1 s1, rfl, h1⟩
end
/-- tests whose whole is theirs (and, or) -/
abbrev SW (X : Cx) (C : Cc) (e : Expr) (f : T) : Prop := PW X e (liftT X.K C f)
section
variable {X : Cx} {C : Cc} {pos : Pos} {a : Expr} {rest : List Expr} {ft gt : T}
theorem sw_and1 (ha : ST X C a ft) : SW X C (.BoolOp .And [a] pos) ft := pw_and1 ha
theorem sw_and {b : Expr} (ha : ST X C a ft) (hr : SW X C (.BoolOp .And (b :: rest) pos) gt) : SW X C (.BoolOp .And (a :: b :: rest) pos) (tAn ft gt) := pw_weak (pw_and ha hr) fun σ H Q h => lift_and h
theorem sw_or1 (ha : ST X C a ft) : SW X C (.BoolOp .Or [a] pos) ft := pw_or1 ha
theorem sw_or {b : Expr} (ha : ST X C a ft) (hr : SW X C (.BoolOp .Or (b :: rest) pos) gt) : SW X C (.BoolOp .Or (a :: b :: rest) pos) (tOrr ft gt) := pw_weak (pw_or ha hr) fun σ H Q h => lift_or h
end
/-! ### and, or, not as values (truths) -/
def eAn (a b : E) : E := fun δ s => (a δ s).bind fun x s1 => match x with
  | .bl true => b δ s1
  | .bl false => .ok (.bl false) s1
  | _ => .stk
def eOr (a b : E) : E := fun δ s => (a δ s).bind fun x s1 => match x with
  | .bl true => .ok (.bl true) s1
  | .bl false => b δ s1
  | _ => .stk
def eNt (a : E) : E := fun δ s => (a δ s).bind fun x s1 => match x with
  | .bl k => .ok (.bl !k) s1
  | _ => .stk
section
variable {X : Cx} {C : Cc} {pos : Pos} {a b c : Expr} {fa fb fc : E} {ft : T} {rest : List Expr}
theorem lift_anV {K : PySem.W.Frag} {σ : L2.St} {H : Hp} {Q : VK} (h : liftE K C (eAn fa fb) σ H Q) : tAndV (liftE K C fa) (liftE K C fb) σ H Q := by
  obtain ⟨δ, v, re, eH, h⟩ := h
  refine ⟨δ, v, re, eH, on_mono (on_bind h) fun d x v1 l1 s1 r1 h1 => ?_⟩
  cases r1 <;> first
    | exact h1.elim
    | skip
  rename_i k
  refine ⟨k, rfl, ?_⟩
  cases k with
  | true => exact ⟨δ, v1, re.step l1 s1, rfl, h1⟩
  | false => exact on_self s1 h1 (.bl false)
theorem lift_orV {K : PySem.W.Frag} {σ : L2.St} {H : Hp} {Q : VK} (h : liftE K C (eOr fa fb) σ H Q) : tOrV (liftE K C fa) (liftE K C fb) σ H Q := by
  obtain ⟨δ, v, re, eH, h⟩ := h
  refine ⟨δ, v, re, eH, on_mono (on_bind h) fun d x v1 l1 s1 r1 h1 => ?_⟩
  cases r1 <;> first
    | exact h1.elim
    | skip
  rename_i k
  refine ⟨k, rfl, ?_⟩
  cases k with
  | true => exact on_self s1 h1 (.bl true)
  | false => exact ⟨δ, v1, re.step l1 s1, rfl, h1⟩
theorem lift_nt {K : PySem.W.Frag} {σ : L2.St} {H : Hp} {Q : VK} (h : liftE K C (eNt fa) σ H Q) : tNotV (liftE K C fa) σ H Q := by
  obtain ⟨δ, v, re, eH, h⟩ := h
  refine ⟨δ, v, re, eH, on_mono (on_bind h) fun d x v1 l1 s1 r1 h1 => ?_⟩
  cases r1 <;> first
    | exact h1.elim
    | exact ⟨_, rfl, on_self s1 h1 (.bl _)⟩
theorem se_nt (ha : SE X C a fa) : SE X C (.UnaryOp .Not a pos) (eNt fa) := pe_weak (pe_not ha) fun σ H Q h => lift_nt h
theorem se_one {op : BoolOp} (ha : SE X C a fa) : SE X C (.BoolOp op [a] pos) fa := pe_one ha
theorem se_and (ha : SE X C a fa) (hb : SE X C (.BoolOp .And (b :: rest) pos) fb) : SE X C (.BoolOp .And (a :: b :: rest) pos) (eAn fa fb) := pe_weak (pe_and ha hb) fun σ H Q h => lift_anV h
theorem se_or (ha : SE X C a fa) (hb : SE X C (.BoolOp .Or (b :: rest) pos) fb) : SE X C (.BoolOp .Or (a :: b :: rest) pos) (eOr fa fb) := pe_weak (pe_or ha hb) fun σ H Q h => lift_orV h
/-- a if t else b -/
def eIf (t : T) (a b : E) : E := fun δ s => (t δ s).bind fun k s1 => if k = true then a δ s1 else b δ s1
theorem se_if (ht : ST X C c ft) (ha : SE X C a fa) (hb : SE X C b fb) : SE X C (.IfExp c a b pos) (eIf ft fa fb) := pe_weak (pe_ifExp ht ha hb) fun σ H Q ⟨δ, v, re, eH, h⟩ => by
  refine ⟨δ, v, re, eH, on_mono (on_bind h) fun b k v1 l1 s1 e h1 => ?_⟩
  cases e
  cases b with
  | true => exact ⟨δ, v1, re.step l1 s1, rfl, h1⟩
  | false => exact ⟨δ, v1, re.step l1 s1, rfl, h1⟩
end

/-! ### arguments, displays -/
def aNil : As := fun _ s => .ok [] s
def aCons (f : E) (r : As) : As := fun δ s => (f δ s).bind fun x s1 => (r δ s1).bind fun xs s2 => .ok (x :: xs) s2
def eTup (r : As) : E := fun δ s => (r δ s).bind fun xs s1 => if xs.length ≤ sizeLine then .ok (.tup xs) s1 else .stk
/-- a written list, frozen at once -/
def eLst (r : As) : E := fun δ s => (r δ s).bind fun xs s1 => if xs.length ≤ sizeLine then .ok (.lst xs) s1 else .stk
/-- a written list, a thing of the store -/
def eNew (r : As) : E := fun δ s => (r δ s).bind fun xs s1 => if xs.length ≤ sizeLine then .ok (.ob s1.length) (s1 ++ [.lst xs]) else .stk
section
variable {X : Cx} {C : Cc} {pos : Pos} {e : Expr} {es : List Expr} {f : E} {r : As}
theorem sa_nil : SA X C [] aNil := pa_weak pa_nil fun σ H Q ⟨δ, v, re, eH, h⟩ => by subst eH; exact on_self (b := []) re.sr h .nil
theorem sa_cons (ha : SE X C e f) (hr : SA X C es r) (hs : starEach (e :: es) X.env = (false, eval e X.env) :: starEach es X.env := by rfl) : SA X C (e :: es) (aCons f r) :=
  pa_weak (pa_cons ha hr hs) fun σ H Q ⟨δ, v, re, eH, h⟩ => ⟨δ, v, re, eH, on_mono (on_bind h) fun d x v1 l1 s1 r1 h1 =>
    ⟨δ, v1, re.step l1 s1, rfl, on_mono (on_bind h1) fun ds xs v2 l2 s2 r2 h2 => on_self (b := x :: xs) s2 h2 (.cons (l2.rep r1) r2)⟩⟩
theorem se_tup {k : Nat} (h : SA X C es r) : SE X C (.Tuple es k pos) (eTup r) := pe_weak (pe_tup h) fun σ H Q ⟨δ, v, re, eH, h⟩ =>
  ⟨δ, v, re, eH, on_mono (on_bind h) fun ds vs v1 l1 s1 r1 h1 => by
    have hl := r1.length
    split at h1
    · rename_i z
      refine ⟨by omega, fun p hp => ?_⟩
      obtain ⟨l2, s2⟩ := new_ok (o := .tup vs) s1 hp
      exact h1 (.ref p) _ l2 s2 rfl (.tup (SqT.of upd_same) (l2.repl r1))
    · exact h1.elim⟩
theorem se_lst (h : SA X C es r) : SE X C (.List es pos) (eLst r) := pe_weak (pe_lst h) fun σ H Q ⟨δ, v, re, eH, h⟩ =>
  ⟨δ, v, re, eH, on_mono (on_bind h) fun ds vs v1 l1 s1 r1 h1 => by
    have hl := r1.length
    split at h1
    · rename_i z
      refine ⟨by omega, fun p hp => ?_⟩
      obtain ⟨l2, s2⟩ := new_ok (o := .lst vs) s1 hp
      exact h1 (.ref p) _ l2 s2 rfl (.lst (SqL.of upd_same) (l2.repl r1))
    · exact h1.elim⟩
/-- a new list of the store at p -/
theorem newL_ok {K : PySem.W.Frag} {ct : String → Addr} {v : Vw} {p : Addr} {ds : List D} {vs : List V} (s : SR K ct v) (hp : v.H p = none) (r : RepL K ct v.G v.m ds vs) :
    Le v (v.alloc p (upd v.H p (.lst vs)) (.lst ds)) ∧ SR K ct (v.alloc p (upd v.H p (.lst vs)) (.lst ds)) :=
  alloc_ok s hp (same_new hp _) (fun C b fs q => by rw [upd_same] at q; cases q) ⟨vs, upd_same, r.mono (Same.refl _) (mset_grow (s.dom _ (Nat.le_refl _)))⟩
theorem se_new (h : SA X C es r) : SE X C (.List es pos) (eNew r) := pe_weak (pe_lst h) fun σ H Q ⟨δ, v, re, eH, h⟩ =>
  ⟨δ, v, re, eH, on_mono (on_bind h) fun ds vs v1 l1 s1 r1 h1 => by
    have hl := r1.length
    split at h1
    · rename_i z
      refine ⟨by omega, fun p hp => ?_⟩
      obtain ⟨l2, s2⟩ := newL_ok s1 hp r1
      exact h1 (.ref p) _ l2 s2 rfl (.ob mset_same)
    · exact h1.elim⟩
end
end Gs

/-! G3: operators, built-in functions, items and slices over data. -/
namespace Gs
open PySem L2

/-! ### data that == takes -/
mutual
def toPy : D → Option PyData
  | .non => some .none
  | .bl b => some (.bool b)
  | .int i => some (.int i)
  | .str x => some (.str x)
  | .fn _ => none
  | .dct _ _ => none
  | .ob _ => none
  | .ev _ _ _ => none
  | .tup xs => (toPyL xs).map .tuple
  | .lst xs => (toPyL xs).map .list
def toPyL : List D → Option (List PyData)
  | [] => some []
  | d :: ds => match toPy d, toPyL ds with
    | some p, some ps => some (p :: ps)
    | _, _ => none
end
mutual
theorem Rep.dp {K : PySem.W.Frag} {ct : String → Addr} {G H : Hp} {m : Nat → Option Addr} (sub : Same G H) : ∀ {d : D} {v : V} {p : PyData}, Rep K ct G m d v → toPy d = some p → Dp K H v p
  | _, _, _, .non, e => by simp only [toPy, Option.some.injEq] at e; subst e; exact .non
  | _, _, _, .bl b, e => by simp only [toPy, Option.some.injEq] at e; subst e; exact .bl b
  | _, _, _, .int i, e => by simp only [toPy, Option.some.injEq] at e; subst e; exact .int i
  | _, _, _, .str x, e => by simp only [toPy, Option.some.injEq] at e; subst e; exact .str x
  | _, _, _, .fn a, e => by simp only [toPy] at e; exact nomatch e
  | _, _, _, .ob _, e => by simp only [toPy] at e; exact nomatch e
  | _, _, _, .ev0 _, e => by simp only [toPy] at e; exact nomatch e
  | _, _, _, .ev _ _ _ _ _, e => by simp only [toPy] at e; exact nomatch e
  | _, _, _, .dct h l r, e => by simp only [toPy] at e; exact nomatch e
  | .tup ds, _, _, .tup h r, e => by
    simp only [toPy] at e
    cases q : toPyL ds with
    | none => rw [q] at e; exact nomatch e
    | some ps =>
      rw [q] at e
      simp only [Option.map_some, Option.some.injEq] at e
      subst e
      exact .tup (sqt_mono sub h) (RepL.dp sub r q)
  | .lst ds, _, _, .lst h r, e => by
    simp only [toPy] at e
    cases q : toPyL ds with
    | none => rw [q] at e; exact nomatch e
    | some ps =>
      rw [q] at e
      simp only [Option.map_some, Option.some.injEq] at e
      subst e
      exact .lst (sub.seq h) (RepL.dp sub r q)
theorem RepL.dp {K : PySem.W.Frag} {ct : String → Addr} {G H : Hp} {m : Nat → Option Addr} (sub : Same G H) : ∀ {ds : List D} {vs : List V} {ps : List PyData}, RepL K ct G m ds vs → toPyL ds = some ps → DpAll K H vs ps
  | _, _, _, .nil, e => by simp only [toPyL, Option.some.injEq] at e; subst e; exact .nil
  | d :: ds, _, _, .cons h r, e => by
    simp only [toPyL] at e
    cases q : toPy d with
    | none => rw [q] at e; simp at e
    | some p =>
      cases q2 : toPyL ds with
      | none => rw [q, q2] at e; simp at e
      | some ps =>
        rw [q, q2] at e
        simp only [Option.some.injEq] at e
        subst e
        exact .cons (Rep.dp sub h q) (RepL.dp sub r q2)
end
theorem RepT.dp {K : PySem.W.Frag} {ct : String → Addr} {v : Vw} (sr : SR K ct v) {d : D} {x : V} {p : PyData} (r : RepT K ct v d x) (e : toPy d = some p) : Dp K v.H x p := by
  cases r with
  | non => exact (Rep.non (K := K) (ct := ct) (m := v.m)).dp sr.sub e
  | bl b => exact (Rep.bl (K := K) (ct := ct) (m := v.m) b).dp sr.sub e
  | int b => exact (Rep.int (K := K) (ct := ct) (m := v.m) b).dp sr.sub e
  | str b => exact (Rep.str (K := K) (ct := ct) (m := v.m) b).dp sr.sub e
  | fn s => simp only [toPy] at e; exact nomatch e
  | ob h => simp only [toPy] at e; exact nomatch e
  | ev h => simp only [toPy] at e; exact nomatch e
  | dct h l r => simp only [toPy] at e; exact nomatch e
  | tup h r => exact (Rep.tup h r).dp sr.sub e
  | @lst a vs ds h r =>
    simp only [toPy] at e
    cases q : toPyL ds with
    | none => rw [q] at e; exact nomatch e
    | some ps =>
      rw [q] at e
      simp only [Option.map_some, Option.some.injEq] at e
      subst e
      exact .lst h (RepL.dp sr.sub r q)

/-! ### operators -/
def gAdd : B2
  | .int i, .int j => some (.int (i + j))
  | .str x, .str y => if x.length + y.length ≤ sizeLine then some (.str (x ++ y)) else none
  | .lst xs, .lst ys => if xs.length + ys.length ≤ sizeLine then some (.lst (xs ++ ys)) else none
  | .tup xs, .tup ys => if xs.length + ys.length ≤ sizeLine then some (.tup (xs ++ ys)) else none
  | _, _ => none
def gSub : B2
  | .int i, .int j => some (.int (i - j))
  | _, _ => none
instance {i j : Int} : Decidable (IntMulOk i j) := by unfold IntMulOk; infer_instance
/-- a text so often -/
def repS (x : Str) (j : Int) : Str := ⟨(List.replicate j.toNat x.cps.toList).flatten.toArray⟩
def gMul : B2
  | .int i, .int j => if IntMulOk i j then some (.int (i * j)) else none
  | .str x, .int j => if 0 ≤ j ∧ j ≤ 100000 ∧ x.length ≤ 1000 ∧ x.length * j.toNat ≤ 100000 then some (.str (repS x j)) else none
  | _, _ => none
def gDiv : B2
  | .int i, .int j => if 0 < j ∧ j.natAbs.log2 < 9000 then some (.int (i / j)) else none
  | _, _ => none
def gMod : B2
  | .int i, .int j => if 0 < j then some (.int (i % j)) else none
  | _, _ => none
def gPow : B2
  | .int i, .int j => if 0 ≤ j ∧ (Builtin.Int.intBits i : Int) * j ≤ 2 ^ 27 then some (.int (i ^ j.toNat)) else none
  | _, _ => none
def gShl : B2
  | .int i, .int j => if 0 ≤ j ∧ (Builtin.Int.intBits i : Int) + j ≤ 2 ^ 27 then some (.int (i * 2 ^ j.toNat)) else none
  | _, _ => none
def gShr : B2
  | .int i, .int j => if 0 ≤ j then some (.int (i / 2 ^ j.toNat)) else none
  | _, _ => none
def gLt : B2
  | .int i, .int j => some (.bl (decide (i < j)))
  | .str x, .str y => some (.bl (decide (x.cps.toList < y.cps.toList)))
  | _, _ => none
def gLe : B2
  | .int i, .int j => some (.bl (decide (i ≤ j)))
  | _, _ => none
def gGt : B2
  | .int i, .int j => some (.bl (decide (j < i)))
  | _, _ => none
def gGe : B2
  | .int i, .int j => some (.bl (decide (j ≤ i)))
  | _, _ => none
def eqPy (x y : D) : Option Bool := match toPy x, toPy y with
  | some p, some q => if SeqAt.shaped p && SeqAt.shaped q then some (PyData.eqv p q) else none
  | _, _ => none
def eqO : D → D → Option Bool
  | .int i, .int j => some (decide (i = j))
  | .str x, .str y => some (decide (x = y))
  | .bl x, .bl y => some (decide (x = y))
  | .non, .non => some true
  | .non, .str _ => some false
  | .str _, .non => some false
  | .int _, .str _ => some false
  | .str _, .int _ => some false
  | .non, .int _ => some false
  | .int _, .non => some false
  | x, y => eqPy x y
def gEq : B2 := fun x y => (eqO x y).map .bl
def gNe : B2 := fun x y => (eqO x y).map fun b => .bl !b
def gIsN : B2
  | x, .non => some (.bl (match x with | .non => true | _ => false))
  | _, _ => none
def gNotN : B2
  | x, .non => some (.bl (match x with | .non => false | _ => true))
  | _, _ => none

section
variable {X : Cx} {ct : String → Addr}
theorem op_none {f : Value → Value → Sem Value} {r : R2} : OpR X f r → OpR X f r := id
theorem o_add : OpR X (binaryOp .Add) (rD X.K ct gAdd) := by
  intro pins s σ H x y v u Q I rx ry h
  obtain ⟨v0, dx, dy, d, rfl, sr, e, r1, r2, h⟩ := h
  cases r1 with
  | int i =>
    cases r2 <;> simp only [gAdd, Option.some.injEq, reduceCtorEq] at e
    subst e
    exact op_add pins s σ _ _ _ v u Q I rx ry ⟨_, _, rfl, rfl, h _ v0 .refl sr rfl (.int _)⟩
  | str z =>
    cases r2 <;> simp only [gAdd, reduceCtorEq] at e
    split at e
    · rename_i hz
      simp only [Option.some.injEq] at e
      subst e
      exact op_add_str pins s σ _ _ _ v u Q I rx ry ⟨_, _, rfl, rfl, hz, h _ v0 .refl sr rfl (.str _)⟩
    · exact nomatch e
  | non => cases r2 <;> simp only [gAdd, reduceCtorEq] at e
  | bl b => cases r2 <;> simp only [gAdd, reduceCtorEq] at e
  | fn a => cases r2 <;> simp only [gAdd, reduceCtorEq] at e
  | ob a => cases r2 <;> simp only [gAdd, reduceCtorEq] at e
  | ev a => cases r2 <;> simp only [gAdd, reduceCtorEq] at e
  | dct p l q => cases r2 <;> simp only [gAdd, reduceCtorEq] at e
  | tup p q =>
    cases r2 <;> simp only [gAdd, reduceCtorEq] at e
    rename_i p2 q2
    split at e
    · rename_i hz
      simp only [Option.some.injEq] at e
      subst e
      have l1 := q.length
      have l2 := q2.length
      refine op_catA pins s σ _ _ _ v u Q I rx ry ⟨_, _, _, _, rfl, rfl, sqt_mono sr.sub p, sqt_mono sr.sub p2, by omega, fun z => ?_, fun z1 z2 => ?_, fun z1 z2 c hc => ?_⟩
      · subst z
        cases q
        exact h _ v0 .refl sr rfl (.tup p2 q2)
      · subst z2
        cases q2
        rw [List.append_nil] at h
        exact h _ v0 .refl sr rfl (.tup p q)
      · obtain ⟨l, s2⟩ := new_ok (o := .tup _) sr hc
        exact h _ _ l s2 rfl (.tup (SqT.of upd_same) (RepL.append (l.repl q) (l.repl q2)))
    · exact nomatch e
  | lst p q =>
    cases r2 <;> simp only [gAdd, reduceCtorEq] at e
    rename_i a1 vs1 ds1 a2 vs2 ds2 p2 q2
    split at e
    · rename_i hz
      simp only [Option.some.injEq] at e
      subst e
      cases rx
      cases ry
      have l1 := q.length
      have l2 := q2.length
      obtain ⟨is1, t1, ⟨⟨c1, d1, b1, s1⟩, n1, ho1, hc1, hd1, hs1⟩, z1⟩ := I.list (p)
      obtain ⟨is2, t2, ⟨⟨c2, d2, b2, s2⟩, n2, ho2, hc2, hd2, hs2⟩, z2⟩ := I.list (p2)
      simp only at hc1 hd1 hs1 hc2 hd2 hs2
      subst hc1 hd1 hs1 hc2 hd2 hs2
      have m1 := t1.length
      have m2 := t2.length
      refine concat_meets ⟨_, ho1, rfl⟩ ⟨_, ho2, rfl⟩ noFill_list_add seq_list_add PySem.F.slot_list_add PySem.F.entry_list_add (PySem.F.args_list_add_2 _ _) (PyProof.Rows.list_addW _ _ is1.toArray is2.toArray n1 n2 _ _ s1 s2 (by simp only [List.size_toArray]; omega)) ⟨ho1, ho2, ?_⟩
      rw [show is1.toArray ++ is2.toArray = (is1 ++ is2).toArray by simp]
      have hf := I.fresh
      obtain ⟨l, s2⟩ := new_ok (o := .lst (vs1 ++ vs2)) sr hf
      exact ⟨.ref _, _, I.lnew (t' := s.toks) (t1.append t2) (by simp only [List.length_append]; omega), rfl, h _ _ l s2 rfl (.lst (SqL.of upd_same) (RepL.append (l.repl q) (l.repl q2)))⟩
    · exact nomatch e
theorem o_sub : OpR X (binaryOp .Sub) (rD X.K ct gSub) := by
  intro pins s σ H x y v u Q I rx ry h
  obtain ⟨v0, dx, dy, d, rfl, sr, e, r1, r2, h⟩ := h
  cases r1 <;> cases r2 <;> simp only [gSub, Option.some.injEq, reduceCtorEq] at e
  subst e
  exact op_sub pins s σ _ _ _ v u Q I rx ry ⟨_, _, rfl, rfl, h _ v0 .refl sr rfl (.int _)⟩
theorem rep_flat (x : Array Nat) : ∀ (n : Nat) (acc : Array Nat), (List.replicate n x).foldl (· ++ ·) acc = (acc.toList ++ (List.replicate n x.toList).flatten).toArray
  | 0, acc => by simp
  | n + 1, acc => by
    rw [List.replicate_succ, List.foldl_cons, rep_flat x n, List.replicate_succ, List.flatten_cons]
    simp
theorem rep_len (x : Str) (j : Int) : (repS x j).length = x.length * j.toNat := by
  unfold repS
  show (List.replicate j.toNat x.cps.toList).flatten.toArray.size = x.cps.size * j.toNat
  rw [List.size_toArray, List.length_flatten, List.map_replicate, Array.length_toList]
  generalize x.cps.size = a
  generalize j.toNat = n
  induction n with
  | zero => simp
  | succ n ih => rw [List.replicate_succ, List.sum_cons, ih, Nat.mul_succ, Nat.add_comm]
theorem rep_one (x : Str) : repS x 1 = x := by
  unfold repS
  simp
theorem rep_zero (x : Str) : repS x 0 = Str.empty := by
  unfold repS
  rfl
theorem rep_nil (x : Str) (j : Int) (h : x.length = 0) : repS x j = x := by
  have e : x.cps.toList = [] := List.length_eq_zero_iff.mp (by simpa [Str.length] using h)
  have e2 : x = ⟨[].toArray⟩ := by rw [← e]
  unfold repS
  rw [e]
  have : (List.replicate j.toNat ([] : List Nat)).flatten = [] := by simp
  rw [this, ← e2]
theorem o_mul : OpR X (binaryOp .Mult) (rD X.K ct gMul) := by
  intro pins s σ H x y v u Q I rx ry h
  obtain ⟨v0, dx, dy, d, rfl, sr, e, r1, r2, h⟩ := h
  cases r1 <;> cases r2 <;> simp only [gMul, reduceCtorEq] at e
  · split at e
    · rename_i hc
      simp only [Option.some.injEq] at e
      subst e
      obtain ⟨t, rfl⟩ := rx
      obtain ⟨t', rfl⟩ := ry
      exact PyProof.Rows.mul_int ⟨.int _, _, I.tok _, ⟨_, rfl⟩, h _ v0 .refl sr rfl (.int _)⟩ hc
    · exact nomatch e
  · rename_i z j
    split at e
    · rename_i hc
      simp only [Option.some.injEq] at e
      subst e
      obtain ⟨t, rfl⟩ := rx
      obtain ⟨t', rfl⟩ := ry
      obtain ⟨h0, h1, h2, h3⟩ := hc
      have hs : (100000 : Nat) ≤ sizeLine := by decide
      have c1 : ∀ t', EP X pins σ Q (Value.str (repS z j) t') { s with toks := s.toks + 1 } := fun t' => ⟨.str _, _, I.tok _, ⟨_, rfl⟩, h _ v0 .refl sr rfl (.str _)⟩
      refine PySem.P.mul_str (by rw [decide_eq_false (by omega), decide_eq_false (by omega)]; rfl) (fun a b => ?_) (fun a b => ?_) ?_
      · have : (1000 : Int) ≤ (2 ^ 63 - 1) / j := Int.le_ediv_of_mul_le (by omega) (by omega)
        omega
      · unfold Builtin.Str.tooLong
        exact decide_eq_false (by omega)
      · by_cases a : j < 1
        · rw [if_pos a]
          have : j = 0 := by omega
          subst this
          have c1 := c1 s.toks
          rw [rep_zero] at c1
          exact ⟨by decide, c1⟩
        · rw [if_neg a]
          by_cases b : (j == 1 || z.length == 0) = true
          · rw [if_pos b]
            have e : repS z j = z := by
              rw [Bool.or_eq_true] at b
              rcases b with b | b
              · have : j = 1 := by simpa using b
                subst this
                exact rep_one z
              · exact rep_nil z j (by simpa using b)
            have g : EP X pins σ Q (Value.str z t) s := ⟨.str z, _, I, ⟨_, rfl⟩, by
              have := h (.str (repS z j)) v0 .refl sr rfl (.str _)
              rwa [e] at this⟩
            exact g
          · rw [if_neg b]
            have e : (⟨(List.replicate j.toNat z.cps).foldl (· ++ ·) #[]⟩ : Str) = repS z j := by
              unfold repS
              rw [rep_flat]
              simp
            rw [e]
            exact ⟨by rw [rep_len]; omega, c1 s.toks⟩
    · exact nomatch e
theorem o_div : OpR X (binaryOp .FloorDiv) (rD X.K ct gDiv) := by
  intro pins s σ H x y v u Q I rx ry h
  obtain ⟨v0, dx, dy, d, rfl, sr, e, r1, r2, h⟩ := h
  cases r1 <;> cases r2 <;> simp only [gDiv, reduceCtorEq] at e
  split at e
  · rename_i hc
    simp only [Option.some.injEq] at e
    subst e
    exact op_fdivW pins s σ _ _ _ v u Q I rx ry ⟨_, _, rfl, rfl, hc, h _ v0 .refl sr rfl (.int _)⟩
  · exact nomatch e
theorem o_mod : OpR X (binaryOp .Mod) (rD X.K ct gMod) := by
  intro pins s σ H x y v u Q I rx ry h
  obtain ⟨v0, dx, dy, d, rfl, sr, e, r1, r2, h⟩ := h
  cases r1 <;> cases r2 <;> simp only [gMod, reduceCtorEq] at e
  split at e
  · rename_i hc
    simp only [Option.some.injEq] at e
    subst e
    exact op_mod pins s σ _ _ _ v u Q I rx ry ⟨_, _, rfl, rfl, hc, h _ v0 .refl sr rfl (.int _)⟩
  · exact nomatch e
theorem op_powW : OpR X (binaryOp .Pow) (rI (fun i j => 0 ≤ j ∧ (Builtin.Int.intBits i : Int) * j ≤ 2 ^ 27) fun i j => .int (i ^ j.toNat)) := opI fun _ _ _ _ _ _ _ hc q => PyProof.Rows.pow_int hc.1 hc.2 q
theorem o_pow : OpR X (binaryOp .Pow) (rD X.K ct gPow) := by
  intro pins s σ H x y v u Q I rx ry h
  obtain ⟨v0, dx, dy, d, rfl, sr, e, r1, r2, h⟩ := h
  cases r1 <;> cases r2 <;> simp only [gPow, reduceCtorEq] at e
  split at e
  · rename_i hc
    simp only [Option.some.injEq] at e
    subst e
    exact op_powW pins s σ _ _ _ v u Q I rx ry ⟨_, _, rfl, rfl, hc, h _ v0 .refl sr rfl (.int _)⟩
  · exact nomatch e
theorem o_shl : OpR X (binaryOp .LShift) (rD X.K ct gShl) := by
  intro pins s σ H x y v u Q I rx ry h
  obtain ⟨v0, dx, dy, d, rfl, sr, e, r1, r2, h⟩ := h
  cases r1 <;> cases r2 <;> simp only [gShl, reduceCtorEq] at e
  split at e
  · rename_i hc
    simp only [Option.some.injEq] at e
    subst e
    exact op_shlW pins s σ _ _ _ v u Q I rx ry ⟨_, _, rfl, rfl, hc, h _ v0 .refl sr rfl (.int _)⟩
  · exact nomatch e
theorem o_shr : OpR X (binaryOp .RShift) (rD X.K ct gShr) := by
  intro pins s σ H x y v u Q I rx ry h
  obtain ⟨v0, dx, dy, d, rfl, sr, e, r1, r2, h⟩ := h
  cases r1 <;> cases r2 <;> simp only [gShr, reduceCtorEq] at e
  split at e
  · rename_i hc
    simp only [Option.some.injEq] at e
    subst e
    exact op_shr pins s σ _ _ _ v u Q I rx ry ⟨_, _, rfl, rfl, hc, h _ v0 .refl sr rfl (.int _)⟩
  · exact nomatch e
theorem o_lt : OpR X (compareOp .Lt) (rD X.K ct gLt) := by
  intro pins s σ H x y v u Q I rx ry h
  obtain ⟨v0, dx, dy, d, rfl, sr, e, r1, r2, h⟩ := h
  cases r1 <;> cases r2 <;> simp only [gLt, Option.some.injEq, reduceCtorEq] at e
  · subst e
    exact op_lt pins s σ _ _ _ v u Q I rx ry ⟨_, _, rfl, rfl, h _ v0 .refl sr rfl (.bl _)⟩
  · subst e
    exact op_lt_str pins s σ _ _ _ v u Q I rx ry ⟨_, _, rfl, rfl, h _ v0 .refl sr rfl (.bl _)⟩
theorem o_le : OpR X (compareOp .LtE) (rD X.K ct gLe) := by
  intro pins s σ H x y v u Q I rx ry h
  obtain ⟨v0, dx, dy, d, rfl, sr, e, r1, r2, h⟩ := h
  cases r1 <;> cases r2 <;> simp only [gLe, Option.some.injEq, reduceCtorEq] at e
  subst e
  exact op_le pins s σ _ _ _ v u Q I rx ry ⟨_, _, rfl, rfl, h _ v0 .refl sr rfl (.bl _)⟩
theorem o_gt : OpR X (compareOp .Gt) (rD X.K ct gGt) := by
  intro pins s σ H x y v u Q I rx ry h
  obtain ⟨v0, dx, dy, d, rfl, sr, e, r1, r2, h⟩ := h
  cases r1 <;> cases r2 <;> simp only [gGt, Option.some.injEq, reduceCtorEq] at e
  subst e
  exact op_gt pins s σ _ _ _ v u Q I rx ry ⟨_, _, rfl, rfl, h _ v0 .refl sr rfl (.bl _)⟩
theorem o_ge : OpR X (compareOp .GtE) (rD X.K ct gGe) := by
  intro pins s σ H x y v u Q I rx ry h
  obtain ⟨v0, dx, dy, d, rfl, sr, e, r1, r2, h⟩ := h
  cases r1 <;> cases r2 <;> simp only [gGe, Option.some.injEq, reduceCtorEq] at e
  subst e
  exact op_ge pins s σ _ _ _ v u Q I rx ry ⟨_, _, rfl, rfl, h _ v0 .refl sr rfl (.bl _)⟩
/-- both sides of == and != -/
theorem eq_core {K : PySem.W.Frag} {ct : String → Addr} {v : Vw} (sr : SR K ct v) {dx dy : D} {x y : V} {b : Bool} (r1 : RepT K ct v dx x) (r2 : RepT K ct v dy y) (e : eqO dx dy = some b) :
    (scal x y = true ∧ decide (x = y) = b) ∨ ∃ p q, Dp K v.H x p ∧ Dp K v.H y q ∧ SeqAt.shaped p = true ∧ SeqAt.shaped q = true ∧ PyData.eqv p q = b := by
  have gen : eqPy dx dy = some b → ∃ p q, Dp K v.H x p ∧ Dp K v.H y q ∧ SeqAt.shaped p = true ∧ SeqAt.shaped q = true ∧ PyData.eqv p q = b := fun e => by
    unfold eqPy at e
    cases q1 : toPy dx with
    | none => rw [q1] at e; exact nomatch e
    | some p =>
      cases q2 : toPy dy with
      | none => rw [q1, q2] at e; exact nomatch e
      | some q =>
        rw [q1, q2] at e
        simp only at e
        split at e
        · rename_i hs
          rw [Bool.and_eq_true] at hs
          exact ⟨p, q, r1.dp sr q1, r2.dp sr q2, hs.1, hs.2, Option.some.inj e⟩
        · exact nomatch e
  cases r1 <;> cases r2 <;> first
    | (simp only [eqO] at e; exact .inr (gen e))
    | (refine .inl ⟨rfl, ?_⟩; simp only [eqO, Option.some.injEq] at e; rw [← e]; simp)
theorem o_eq (hu : X.A.units + 64 < cLine) : OpR X (compareOp .Eq) (rD X.K ct gEq) := by
  intro pins s σ H x y v u Q I rx ry h
  obtain ⟨v0, dx, dy, d, rfl, sr, e, r1, r2, h⟩ := h
  unfold gEq at e
  cases q : eqO dx dy with
  | none => rw [q] at e; exact nomatch e
  | some b =>
    rw [q] at e
    have e' : d = .bl b := (Option.some.inj e).symm
    subst e'
    rcases eq_core sr r1 r2 q with ⟨h1, h2⟩ | ⟨p, q, d1, d2, s1, s2, eb⟩
    · exact op_eq pins s σ _ x y v u Q I rx ry ⟨h1, by rw [h2]; exact h _ v0 .refl sr rfl (.bl b)⟩
    · exact op_eqD hu pins s σ _ x y v u Q I rx ry ⟨p, q, d1, d2, s1, s2, by rw [eb]; exact h _ v0 .refl sr rfl (.bl b)⟩
theorem o_ne (hu : X.A.units + 64 < cLine) : OpR X (compareOp .NotEq) (rD X.K ct gNe) := by
  intro pins s σ H x y v u Q I rx ry h
  obtain ⟨v0, dx, dy, d, rfl, sr, e, r1, r2, h⟩ := h
  unfold gNe at e
  cases q : eqO dx dy with
  | none => rw [q] at e; exact nomatch e
  | some b =>
    rw [q] at e
    have e' : d = .bl !b := (Option.some.inj e).symm
    subst e'
    rcases eq_core sr r1 r2 q with ⟨h1, h2⟩ | ⟨p, q, d1, d2, s1, s2, eb⟩
    · exact op_ne pins s σ _ x y v u Q I rx ry ⟨h1, by rw [h2]; exact h _ v0 .refl sr rfl (.bl _)⟩
    · exact op_neD hu pins s σ _ x y v u Q I rx ry ⟨p, q, d1, d2, s1, s2, by rw [eb]; exact h _ v0 .refl sr rfl (.bl _)⟩
theorem o_isN : OpR X (compareOp .Is) (rD X.K ct gIsN) := by
  intro pins s σ H x y v u Q I rx ry h
  obtain ⟨v0, dx, dy, d, rfl, sr, e, r1, r2, h⟩ := h
  cases r2 <;> simp only [gIsN, Option.some.injEq, reduceCtorEq] at e
  subst e
  cases r1 <;> exact op_isN pins s σ _ _ _ v u Q I rx ry ⟨rfl, h _ v0 .refl sr rfl (.bl _)⟩
theorem o_notN : OpR X (compareOp .IsNot) (rD X.K ct gNotN) := by
  intro pins s σ H x y v u Q I rx ry h
  obtain ⟨v0, dx, dy, d, rfl, sr, e, r1, r2, h⟩ := h
  cases r2 <;> simp only [gNotN, Option.some.injEq, reduceCtorEq] at e
  subst e
  cases r1 <;> exact op_notN pins s σ _ _ _ v u Q I rx ry ⟨rfl, h _ v0 .refl sr rfl (.bl _)⟩
end

/-! ### one operand -/
abbrev B1 := D → Option D
def rD1 (K : PySem.W.Frag) (ct : String → Addr) (g : B1) : V → Hp → VK → Prop := fun x H Q => ∃ v dx d, v.H = H ∧ SR K ct v ∧ g dx = some d ∧ RepT K ct v dx x ∧ ∀ z v', Le v v' → SR K ct v' → v'.st = v.st → Rep K ct v'.G v'.m d z → Q z v'.H
def eUn (g : B1) (a : E) : E := fun δ s => (a δ s).bind fun x s1 => R.ofO (g (rsv s1 x)) s1
def gNeg : B1
  | .int i => some (.int (-i))
  | _ => none
section
variable {X : Cx} {C : Cc} {pos : Pos} {a : Expr} {fa : E} {g : B1}
theorem lift_un {K : PySem.W.Frag} {σ : L2.St} {H : Hp} {Q : VK} (h : liftE K C (eUn g fa) σ H Q) : tUn (rD1 K C.ct g) (liftE K C fa) σ H Q := by
  obtain ⟨δ, v, re, rfl, h⟩ := h
  refine ⟨δ, v, re, rfl, on_mono (on_bind h) fun d x v1 l1 s1 r1 h1 => ?_⟩
  obtain ⟨z, e, h1⟩ := on_ofO h1
  exact ⟨v1, _, z, rfl, s1, e, r1.top s1, h1⟩
theorem se_un {op : UnaryOp} (ho : UnR X (unaryOp op) (rD1 X.K C.ct g)) (ha : SE X C a fa) : SE X C (.UnaryOp op a pos) (eUn g fa) := pe_weak (pe_un ho ha) fun σ H Q h => lift_un h
theorem o_neg {ct : String → Addr} : UnR X (unaryOp .USub) (rD1 X.K ct gNeg) := by
  intro pins s σ H x v Q I rx h
  obtain ⟨v0, dx, d, rfl, sr, e, r1, h⟩ := h
  cases r1 <;> simp only [gNeg, Option.some.injEq, reduceCtorEq] at e
  subst e
  exact un_neg pins s σ _ _ v Q I rx ⟨_, rfl, h _ v0 .refl sr rfl (.int _)⟩
end

/-! ### built-in functions of values -/
abbrev BA := List D → Option D
inductive RepTL (K : PySem.W.Frag) (ct : String → Addr) (v : Vw) : List D → List V → Prop
  | nil : RepTL K ct v [] []
  | cons {d : D} {x : V} {ds : List D} {xs : List V} : RepT K ct v d x → RepTL K ct v ds xs → RepTL K ct v (d :: ds) (x :: xs)
theorem RepL.top {K : PySem.W.Frag} {ct : String → Addr} {v : Vw} (sr : SR K ct v) : ∀ {ds : List D} {xs : List V}, RepL K ct v.G v.m ds xs → RepTL K ct v (ds.map (rsv v.st)) xs
  | _, _, .nil => .nil
  | _, _, .cons h r => .cons (h.top sr) (RepL.top sr r)
def rDA (K : PySem.W.Frag) (ct : String → Addr) (g : BA) : List V → Hp → VK → Prop := fun xs H Q => ∃ v ds d, v.H = H ∧ SR K ct v ∧ g ds = some d ∧ RepTL K ct v ds xs ∧ ∀ z v', Le v v' → SR K ct v' → v'.st = v.st → Rep K ct v'.G v'.m d z → Q z v'.H
def eFn (g : BA) (a : As) : E := fun δ s => (a δ s).bind fun xs s1 => R.ofO (g (xs.map (rsv s1))) s1
section
variable {X : Cx} {C : Cc} {pos p : Pos} {x : Str} {id T : String} {e : Expr} {es : List Expr} {fa : As} {g : BA}
theorem lift_fn {K : PySem.W.Frag} {σ : L2.St} {H : Hp} {Q : VK} (h : liftE K C (eFn g fa) σ H Q) : tCB (rDA K C.ct g) (liftA K C fa) σ H Q := by
  obtain ⟨δ, v, re, rfl, h⟩ := h
  refine ⟨δ, v, re, rfl, on_mono (on_bind h) fun d x v1 l1 s1 r1 h1 => ?_⟩
  obtain ⟨z, e, h1⟩ := on_ofO h1
  exact ⟨v1, _, z, rfl, s1, e, r1.top s1, h1⟩
theorem se_callB (hc : CallR X (.builtin id) (rDA X.K C.ct g)) (hg : Gl X x) (hm : X.mg x = none) (hv : bootBuiltins x = some (.builtin id)) (ha : SA X C (e :: es) fa) (hn : x ≠ "__name__" := by decide) (hdb : (x == ("__debug__" : Str)) = false := by decide)
    (he : starEach (e :: es) X.env = (false, eval e X.env) :: starEach es X.env := by rfl) (hpl : (backTo pos (starEach es X.env)).any (·.1) = false := by rfl) : SE X C (.Call (.Name x p) (e :: es) [] pos) (eFn g fa) :=
  pe_weak (pe_callB hc hg hm hv ha hn hdb he hpl) fun σ H Q h => lift_fn h
theorem se_callT (hc : CallR X (.type T) (rDA X.K C.ct g)) (hg : Gl X x) (hm : X.mg x = none) (hv : bootBuiltins x = some (.type T)) (ha : SA X C (e :: es) fa) (hn : x ≠ "__name__" := by decide) (hdb : (x == ("__debug__" : Str)) = false := by decide)
    (he : starEach (e :: es) X.env = (false, eval e X.env) :: starEach es X.env := by rfl) (hpl : (backTo pos (starEach es X.env)).any (·.1) = false := by rfl) : SE X C (.Call (.Name x p) (e :: es) [] pos) (eFn g fa) :=
  pe_weak (pe_callTy hc hg hm hv ha hn hdb he hpl) fun σ H Q h => lift_fn h

def gLen : BA
  | [.lst xs] => some (.int xs.length)
  | [.tup xs] => some (.int xs.length)
  | [.str x] => if x.length ≤ sizeLine then some (.int x.length) else none
  | _ => none
def gMin2 : BA
  | [.int i, .int j] => some (.int (if j < i then j else i))
  | _ => none
def gMax2 : BA
  | [.int i, .int j] => some (.int (if j > i then j else i))
  | _ => none
def gAbs : BA
  | [.int i] => some (.int (if i < 0 then -i else i))
  | _ => none
def gInt : BA
  | [.int i] => some (.int i)
  | [.bl k] => some (.int (if k then 1 else 0))
  | [.str a] => match PySem.intText? a with
    | some n => if a.length ≤ 640 then some (.int n) else none
    | none => none
  | _ => none
def gStr : BA
  | [.int i] => if i.natAbs.log2 < 1920 then some (.str (toString i)) else none
  | _ => none
/-- a text's signs -/
def signs (x : Str) : List D := x.cps.toList.map fun c => .str ⟨#[c]⟩
def signsV (x : Str) : List V := x.cps.toList.map fun c => .str ⟨#[c]⟩
theorem RepL.signs {K : PySem.W.Frag} {ct : String → Addr} {G : Hp} {m : Nat → Option Addr} (x : Str) : RepL K ct G m (Gs.signs x) (signsV x) := by
  unfold Gs.signs signsV
  generalize x.cps.toList = l
  induction l with
  | nil => exact .nil
  | cons c r ih => exact .cons (.str _) ih
theorem call_list_text (hc : X.calm = true) : CallR X (.type "list") (fun xs H Q => ∃ z : Str, xs = [.str z] ∧ z.length ≤ sizeLine ∧ ∀ l, H l = none → Q (.ref l) (upd H l (.lst (signsV z)))) := by
  intro pins s σ H xs us Q I r h
  obtain ⟨z, e, hz, q⟩ := h
  subst e
  obtain ⟨u, eu, rx⟩ := vals1 r
  subst eu
  obtain ⟨t, rfl⟩ := rx
  refine call_list_str (I.ok.hd hc) z t (hn := hz) fun h' tk acc' c' hkeep hS hacc => ?_
  refine ⟨.ref s.heap.objs.size, upd H s.heap.objs.size (.lst (signsV z)), I.laid hkeep (Nat.le_refl _) (show ObjOk X.prog X.w _ _ _ (.lst (signsV z)) from ⟨?_, acc'.toList, c', ?_, ?_⟩), rfl, q _ (I.hok.fresh (Nat.le_refl _))⟩
  · simpa [signsV, Str.length] using hz
  · refine vals_of_at (by simp [signsV, hacc.1]) fun j x w h1 h2 => ?_
    obtain ⟨c, u, hky, hi⟩ := hacc.2 j w (by rw [← Array.getElem?_toList]; exact h2)
    have e2 : (signsV z)[j]? = some (V.str ⟨#[c]⟩) := by
      unfold signsV
      rw [List.getElem?_map, Array.getElem?_toList, hky]
      rfl
    rw [e2] at h1
    cases h1
    exact ⟨u, hi⟩
  · rw [Array.toArray_toList]; exact hS
def gList : BA
  | [.lst xs] => some (.lst xs)
  | [.tup xs] => some (.lst xs)
  | [.str x] => if x.length ≤ sizeLine then some (.lst (signs x)) else none
  | _ => none
def gTuple : BA
  | [.lst xs] => some (.tup xs)
  | [.tup xs] => some (.tup xs)
  | _ => none
def gDivmod : BA
  | [.int i, .int j] => if 0 < j ∧ Builtin.divisionGoesByPylong i j = false then some (.tup [.int (i / j), .int (i % j)]) else none
  | _ => none
def intsOf : List D → Option (List Int)
  | [] => some []
  | .int i :: r => (intsOf r).map (i :: ·)
  | _ => none
def blsOf : List D → Option (List Bool)
  | [] => some []
  | .bl i :: r => (blsOf r).map (i :: ·)
  | _ => none
def strsOf : List D → Option (List Str)
  | [] => some []
  | .str i :: r => (strsOf r).map (i :: ·)
  | _ => none
theorem intsOf_eq : ∀ {ds : List D} {ns : List Int}, intsOf ds = some ns → ds = ns.map D.int
  | [], _, e => by simp only [intsOf, Option.some.injEq] at e; subst e; rfl
  | .int i :: r, ns, e => by
    simp only [intsOf] at e
    cases q : intsOf r with
    | none => rw [q] at e; exact nomatch e
    | some ms => rw [q] at e; simp only [Option.map_some, Option.some.injEq] at e; subst e; rw [intsOf_eq q]; rfl
  | .non :: _, _, e => nomatch e
  | .bl _ :: _, _, e => nomatch e
  | .str _ :: _, _, e => nomatch e
  | .tup _ :: _, _, e => nomatch e
  | .lst _ :: _, _, e => nomatch e
  | .fn _ :: _, _, e => nomatch e
  | .ob _ :: _, _, e => nomatch e
  | .ev _ _ _ :: _, _, e => nomatch e
  | .dct _ _ :: _, _, e => nomatch e
theorem blsOf_eq : ∀ {ds : List D} {ns : List Bool}, blsOf ds = some ns → ds = ns.map D.bl
  | [], _, e => by simp only [blsOf, Option.some.injEq] at e; subst e; rfl
  | .bl i :: r, ns, e => by
    simp only [blsOf] at e
    cases q : blsOf r with
    | none => rw [q] at e; exact nomatch e
    | some ms => rw [q] at e; simp only [Option.map_some, Option.some.injEq] at e; subst e; rw [blsOf_eq q]; rfl
  | .non :: _, _, e => nomatch e
  | .int _ :: _, _, e => nomatch e
  | .str _ :: _, _, e => nomatch e
  | .tup _ :: _, _, e => nomatch e
  | .lst _ :: _, _, e => nomatch e
  | .fn _ :: _, _, e => nomatch e
  | .ob _ :: _, _, e => nomatch e
  | .ev _ _ _ :: _, _, e => nomatch e
  | .dct _ _ :: _, _, e => nomatch e
theorem strsOf_eq : ∀ {ds : List D} {ns : List Str}, strsOf ds = some ns → ds = ns.map D.str
  | [], _, e => by simp only [strsOf, Option.some.injEq] at e; subst e; rfl
  | .str i :: r, ns, e => by
    simp only [strsOf] at e
    cases q : strsOf r with
    | none => rw [q] at e; exact nomatch e
    | some ms => rw [q] at e; simp only [Option.map_some, Option.some.injEq] at e; subst e; rw [strsOf_eq q]; rfl
  | .non :: _, _, e => nomatch e
  | .int _ :: _, _, e => nomatch e
  | .bl _ :: _, _, e => nomatch e
  | .tup _ :: _, _, e => nomatch e
  | .lst _ :: _, _, e => nomatch e
  | .fn _ :: _, _, e => nomatch e
  | .ob _ :: _, _, e => nomatch e
  | .ev _ _ _ :: _, _, e => nomatch e
  | .dct _ _ :: _, _, e => nomatch e
theorem intsOf_map : ∀ ns : List Int, intsOf (ns.map D.int) = some ns
  | [] => rfl
  | n :: r => by simp only [List.map_cons, intsOf, intsOf_map r, Option.map_some]
theorem blsOf_map : ∀ ns : List Bool, blsOf (ns.map D.bl) = some ns
  | [] => rfl
  | n :: r => by simp only [List.map_cons, blsOf, blsOf_map r, Option.map_some]
theorem strsOf_map : ∀ ns : List Str, strsOf (ns.map D.str) = some ns
  | [] => rfl
  | n :: r => by simp only [List.map_cons, strsOf, strsOf_map r, Option.map_some]
def gSum : BA
  | [.lst xs] => (intsOf xs).map fun ns => .int ns.sum
  | _ => none
def gAll : BA
  | [.lst xs] => (blsOf xs).map fun ns => .bl (ns.all fun b => b)
  | _ => none
def gAny : BA
  | [.lst xs] => (blsOf xs).map fun ns => .bl (ns.any fun b => b)
  | _ => none
def gMin : BA
  | [.lst xs] => (intsOf xs).bind fun ns => ns.min?.map .int
  | _ => none
def gMax : BA
  | [.lst xs] => (intsOf xs).bind fun ns => ns.max?.map .int
  | _ => none
theorem b_len {ct : String → Addr} : CallR X (.builtin "len") (rDA X.K ct gLen) := by
  intro pins s σ H xs us Q I r h
  obtain ⟨v0, ds, d, rfl, sr, e, rl, h⟩ := h
  unfold gLen at e
  split at e
  · cases rl with
    | cons r1 r2 =>
      cases r2
      cases r1 with
      | lst p q =>
        simp only [Option.some.injEq] at e
        subst e
        refine call_len_seq pins s σ _ _ us Q I r ⟨_, _, rfl, .inl (p), ?_⟩
        rw [← q.length]
        exact h _ v0 .refl sr rfl (.int _)
  · cases rl with
    | cons r1 r2 =>
      cases r2
      cases r1 with
      | tup p q =>
        simp only [Option.some.injEq] at e
        subst e
        refine call_len_seq pins s σ _ _ us Q I r ⟨_, _, rfl, .inr (sqt_mono sr.sub p), ?_⟩
        rw [← q.length]
        exact h _ v0 .refl sr rfl (.int _)
  · cases rl with
    | cons r1 r2 =>
      cases r2
      cases r1
      split at e
      · rename_i hz
        simp only [Option.some.injEq] at e
        subst e
        exact call_len_str pins s σ _ _ us Q I r ⟨_, rfl, hz, h _ v0 .refl sr rfl (.int _)⟩
      · exact nomatch e
  · exact nomatch e
theorem b_min2 {ct : String → Addr} (hc : X.calm = true) : CallR X (.builtin "min") (rDA X.K ct gMin2) := by
  intro pins s σ H xs us Q I r h
  obtain ⟨v0, ds, d, rfl, sr, e, rl, h⟩ := h
  unfold gMin2 at e
  split at e
  · cases rl with
    | cons r1 r2 =>
      cases r2 with
      | cons r2 r3 =>
        cases r1; cases r2; cases r3
        simp only [Option.some.injEq] at e
        subst e
        exact call_min2 hc pins s σ _ _ us Q I r ⟨_, _, rfl, h _ v0 .refl sr rfl (.int _)⟩
  · exact nomatch e
theorem b_max2 {ct : String → Addr} (hc : X.calm = true) : CallR X (.builtin "max") (rDA X.K ct gMax2) := by
  intro pins s σ H xs us Q I r h
  obtain ⟨v0, ds, d, rfl, sr, e, rl, h⟩ := h
  unfold gMax2 at e
  split at e
  · cases rl with
    | cons r1 r2 =>
      cases r2 with
      | cons r2 r3 =>
        cases r1; cases r2; cases r3
        simp only [Option.some.injEq] at e
        subst e
        exact call_max2 hc pins s σ _ _ us Q I r ⟨_, _, rfl, h _ v0 .refl sr rfl (.int _)⟩
  · exact nomatch e
theorem b_abs {ct : String → Addr} : CallR X (.builtin "abs") (rDA X.K ct gAbs) := by
  intro pins s σ H xs us Q I r h
  obtain ⟨v0, ds, d, rfl, sr, e, rl, h⟩ := h
  unfold gAbs at e
  split at e
  · cases rl with
    | cons r1 r2 =>
      cases r1; cases r2
      simp only [Option.some.injEq] at e
      subst e
      exact call_abs pins s σ _ _ us Q I r ⟨_, rfl, h _ v0 .refl sr rfl (.int _)⟩
  · exact nomatch e
theorem b_int {ct : String → Addr} : CallR X (.type "int") (rDA X.K ct gInt) := by
  intro pins s σ H xs us Q I r h
  obtain ⟨v0, ds, d, rfl, sr, e, rl, h⟩ := h
  unfold gInt at e
  split at e
  · cases rl with
    | cons r1 r2 =>
      cases r1; cases r2
      simp only [Option.some.injEq] at e
      subst e
      exact call_int1 pins s σ _ _ us Q I r (.inl ⟨_, rfl, h _ v0 .refl sr rfl (.int _)⟩)
  · cases rl with
    | cons r1 r2 =>
      cases r1; cases r2
      simp only [Option.some.injEq] at e
      subst e
      exact call_int1 pins s σ _ _ us Q I r (.inr ⟨_, rfl, h _ v0 .refl sr rfl (.int _)⟩)
  · cases rl with
    | cons r1 r2 =>
      cases r1; cases r2
      split at e
      · rename_i n hn
        split at e
        · rename_i hz
          simp only [Option.some.injEq] at e
          subst e
          exact call_int_str pins s σ _ _ us Q I r ⟨_, n, rfl, hn, hz, h _ v0 .refl sr rfl (.int _)⟩
        · exact nomatch e
      · exact nomatch e
  · exact nomatch e
theorem b_str {ct : String → Addr} : CallR X (.type "str") (rDA X.K ct gStr) := by
  intro pins s σ H xs us Q I r h
  obtain ⟨v0, ds, d, rfl, sr, e, rl, h⟩ := h
  unfold gStr at e
  split at e
  · cases rl with
    | cons r1 r2 =>
      cases r1; cases r2
      split at e
      · rename_i hz
        simp only [Option.some.injEq] at e
        subst e
        exact call_str_int pins s σ _ _ us Q I r ⟨_, rfl, hz, h _ v0 .refl sr rfl (.str _)⟩
      · exact nomatch e
  · exact nomatch e
theorem b_list {ct : String → Addr} (hc : X.calm = true) : CallR X (.type "list") (rDA X.K ct gList) := by
  intro pins s σ H xs us Q I r h
  obtain ⟨v0, ds, d, rfl, sr, e, rl, h⟩ := h
  unfold gList at e
  split at e
  · cases rl with
    | cons r1 r2 =>
      cases r2
      cases r1 with
      | lst p q =>
        simp only [Option.some.injEq] at e
        subst e
        exact call_list_of pins s σ _ _ us Q I r ⟨_, _, rfl, .inl (p), fun c hc => let ⟨l, s2⟩ := new_ok (o := .lst _) sr hc; h _ _ l s2 rfl (.lst (SqL.of upd_same) (l.repl q))⟩
  · cases rl with
    | cons r1 r2 =>
      cases r2
      cases r1 with
      | tup p q =>
        simp only [Option.some.injEq] at e
        subst e
        exact call_list_of pins s σ _ _ us Q I r ⟨_, _, rfl, .inr (sqt_mono sr.sub p), fun c hc => let ⟨l, s2⟩ := new_ok (o := .lst _) sr hc; h _ _ l s2 rfl (.lst (SqL.of upd_same) (l.repl q))⟩
  · rename_i z
    cases rl with
    | cons r1 r2 =>
      cases r2
      cases r1
      split at e
      · rename_i hz
        simp only [Option.some.injEq] at e
        subst e
        exact call_list_text hc pins s σ _ _ us Q I r ⟨z, rfl, hz, fun c hc => let ⟨l, s2⟩ := new_ok (o := .lst (signsV z)) sr hc; h _ _ l s2 rfl (.lst (SqL.of upd_same) (RepL.signs z))⟩
      · exact nomatch e
  · exact nomatch e
theorem b_tuple {ct : String → Addr} : CallR X (.type "tuple") (rDA X.K ct gTuple) := by
  intro pins s σ H xs us Q I r h
  obtain ⟨v0, ds, d, rfl, sr, e, rl, h⟩ := h
  unfold gTuple at e
  split at e
  · cases rl with
    | cons r1 r2 =>
      cases r2
      cases r1 with
      | lst p q =>
        simp only [Option.some.injEq] at e
        subst e
        exact call_tuple_of pins s σ _ _ us Q I r ⟨_, _, rfl, .inl ⟨p, fun c hc => let ⟨l, s2⟩ := new_ok (o := .tup _) sr hc; h _ _ l s2 rfl (.tup (SqT.of upd_same) (l.repl q))⟩⟩
  · cases rl with
    | cons r1 r2 =>
      cases r2
      cases r1 with
      | tup p q =>
        simp only [Option.some.injEq] at e
        subst e
        exact call_tuple_of pins s σ _ _ us Q I r ⟨_, _, rfl, .inr ⟨sqt_mono sr.sub p, h _ v0 .refl sr rfl (.tup p q)⟩⟩
  · exact nomatch e
theorem b_divmod {ct : String → Addr} : CallR X (.builtin "divmod") (rDA X.K ct gDivmod) := by
  intro pins s σ H xs us Q I r h
  obtain ⟨v0, ds, d, rfl, sr, e, rl, h⟩ := h
  unfold gDivmod at e
  split at e
  · cases rl with
    | cons r1 r2 =>
      cases r2 with
      | cons r2 r3 =>
        cases r1; cases r2; cases r3
        split at e
        · rename_i hz
          simp only [Option.some.injEq] at e
          subst e
          exact call_divmodW pins s σ _ _ us Q I r ⟨_, _, rfl, hz, fun c hc => let ⟨l, s2⟩ := new_ok (o := .tup _) sr hc; h _ _ l s2 rfl (.tup (SqT.of upd_same) (.cons (.int _) (.cons (.int _) .nil)))⟩
        · exact nomatch e
  · exact nomatch e
theorem b_sum {ct : String → Addr} (hc : X.calm = true) : CallR X (.builtin "sum") (rDA X.K ct gSum) := by
  intro pins s σ H xs us Q I r h
  obtain ⟨v0, ds, d, rfl, sr, e, rl, h⟩ := h
  unfold gSum at e
  split at e
  · rename_i ys
    cases q1 : intsOf ys with
    | none => rw [q1] at e; exact nomatch e
    | some ns =>
      rw [q1] at e
      simp only [Option.map_some, Option.some.injEq] at e
      subst e
      have e2 := intsOf_eq q1
      subst e2
      cases rl with
      | cons r1 r2 =>
        cases r2
        cases r1 with
        | lst p q =>
          have e3 := RepL.of_ints q
          subst e3
          exact cr_sum hc pins s σ _ _ us Q I r ⟨_, ns, rfl, p, h _ v0 .refl sr rfl (.int _)⟩
  · exact nomatch e
theorem b_all {ct : String → Addr} (hc : X.calm = true) : CallR X (.builtin "all") (rDA X.K ct gAll) := by
  intro pins s σ H xs us Q I r h
  obtain ⟨v0, ds, d, rfl, sr, e, rl, h⟩ := h
  unfold gAll at e
  split at e
  · rename_i ys
    cases q1 : blsOf ys with
    | none => rw [q1] at e; exact nomatch e
    | some ns =>
      rw [q1] at e
      simp only [Option.map_some, Option.some.injEq] at e
      subst e
      have e2 := blsOf_eq q1
      subst e2
      cases rl with
      | cons r1 r2 =>
        cases r2
        cases r1 with
        | lst p q =>
          have e3 := RepL.of_bls q
          subst e3
          exact cr_all hc pins s σ _ _ us Q I r ⟨_, ns, rfl, p, h _ v0 .refl sr rfl (.bl _)⟩
  · exact nomatch e
theorem b_any {ct : String → Addr} (hc : X.calm = true) : CallR X (.builtin "any") (rDA X.K ct gAny) := by
  intro pins s σ H xs us Q I r h
  obtain ⟨v0, ds, d, rfl, sr, e, rl, h⟩ := h
  unfold gAny at e
  split at e
  · rename_i ys
    cases q1 : blsOf ys with
    | none => rw [q1] at e; exact nomatch e
    | some ns =>
      rw [q1] at e
      simp only [Option.map_some, Option.some.injEq] at e
      subst e
      have e2 := blsOf_eq q1
      subst e2
      cases rl with
      | cons r1 r2 =>
        cases r2
        cases r1 with
        | lst p q =>
          have e3 := RepL.of_bls q
          subst e3
          exact cr_any hc pins s σ _ _ us Q I r ⟨_, ns, rfl, p, h _ v0 .refl sr rfl (.bl _)⟩
  · exact nomatch e
end
/-! ### [e, ..] * n -/
def repD (xs : List D) (n : Nat) : List D := (List.replicate n xs).flatten
theorem RepL.rep {K : PySem.W.Frag} {ct : String → Addr} {G : Hp} {m : Nat → Option Addr} {ds : List D} {vs : List V} (r : RepL K ct G m ds vs) : ∀ n : Nat, RepL K ct G m (repD ds n) (List.replicate n vs).flatten
  | 0 => .nil
  | n + 1 => by
    unfold repD
    rw [List.replicate_succ, List.replicate_succ, List.flatten_cons, List.flatten_cons]
    exact r.append (RepL.rep r n)
/-- [e, ..] * n: the list, frozen (b = false) or a thing of the store -/
def eRep (keep : Bool) (r : As) (b : E) : E := fun δ s => (r δ s).bind fun xs s1 => if xs.length ≤ sizeLine then ((b δ s1).bind fun y s2 => match y with
  | .int k => if -(2 ^ 63) ≤ k ∧ k < 2 ^ 63 ∧ xs.length * k.toNat ≤ sizeLine then (if keep = true then .ok (.ob s2.length) (s2 ++ [.lst (repD xs k.toNat)]) else .ok (.lst (repD xs k.toNat)) s2) else .stk
  | _ => .stk) else .stk
theorem se_rep {X : Cx} {C : Cc} {pos p2 : Pos} {es : List Expr} {b : Expr} {r : As} {fb : E} (keep : Bool) (h : SA X C es r) (hb : SE X C b fb) : SE X C (.BinOp (.List es p2) .Mult b pos) (eRep keep r fb) :=
  pe_weak (pe_op op_rep (pe_lst h) hb) fun σ H Q ⟨δ, v, re, eH, h⟩ => ⟨δ, v, re, eH, on_mono (on_bind h) fun ds vs v1 l1 s1 r1 h1 => by
    have hl := r1.length
    split at h1
    · rename_i z
      refine ⟨by omega, fun p hp => ?_⟩
      obtain ⟨l2, s2⟩ := more_ok s1 (same_new hp (.lst vs))
      refine ⟨δ, _, (re.step l1 s1).step l2 s2, rfl, on_mono (on_bind (on_step l2 h1)) fun y x v3 l3 s3 r3 h3 => ?_⟩
      cases r3 <;> first
        | exact h3.elim
        | skip
      rename_i k
      simp only at h3
      split at h3
      · rename_i hz
        have hH : v3.H p = some (.lst vs) := l3.h p _ upd_same fun q => by
          obtain ⟨i, o, a, e, l, em, q⟩ := q
          obtain ⟨_, w, hw, _⟩ := s1.obj_ne e l em
          rcases q with rfl | ⟨C, fs, q⟩
          · rw [hp] at hw
            cases hw
          · have q' : upd v1.H p (.lst vs) a = some (.ins C p fs) := q
            rw [upd_ne (ne_of_none hw hp)] at q'
            obtain ⟨d1, _⟩ := s1.dx e l em q'
            rw [hp] at d1
            cases d1
        refine ⟨p, k, vs, rfl, rfl, hH, hz.1, hz.2.1, by rw [← hl]; exact hz.2.2, fun q hq => ?_⟩
        have r4 := (l2.trans l3).repl r1
        split at h3
        · obtain ⟨l5, s5⟩ := newL_ok (ds := repD ds k.toNat) s3 hq (r4.rep k.toNat)
          exact h3 (.ref q) _ l5 s5 rfl (.ob mset_same)
        · obtain ⟨l5, s5⟩ := new_ok (o := .lst (List.replicate k.toNat vs).flatten) s3 hq
          exact h3 (.ref q) _ l5 s5 rfl (.lst (SqL.of upd_same) (l5.repl (r4.rep k.toNat)))
      · exact h3.elim
    · exact h1.elim⟩
end Gs

/-! G4: items, slices, isinstance, methods of texts. -/
namespace Gs
open PySem L2

/-! ### items -/
theorem RepL.atI {K : PySem.W.Frag} {ct : String → Addr} {G : Hp} {m : Nat → Option Addr} {ds : List D} {vs : List V} {i : Int} {d : D} (r : RepL K ct G m ds vs) (e : L2.atI ds i = some d) : ∃ v, L2.atI vs i = some v ∧ Rep K ct G m d v := by
  unfold L2.atI at e ⊢
  rw [r.length] at e
  cases q : ixN vs.length i with
  | none => rw [q] at e; exact nomatch e
  | some j => rw [q] at e; exact r.get e
def gIx : B2
  | .lst xs, .int i => atI xs i
  | .tup xs, .int i => atI xs i
  | .str z, .int i => if z.length ≤ sizeLine then (atI z.cps.toList i).map fun c => .str ⟨#[c]⟩ else none
  | _, _ => none
section
variable {X : Cx} {C : Cc} {pos p2 : Pos} {a b : Expr} {fa fb : E}
theorem x_ix {ct : String → Addr} : IxR X (rD X.K ct gIx) := by
  intro value slice pins s σ H x y v u Q I rx ry h hs
  obtain ⟨v0, dx, dy, d, rfl, sr, e, r1, r2, h⟩ := h
  cases r1 with
  | lst p q =>
    cases r2 <;> simp only [gIx, reduceCtorEq] at e
    obtain ⟨v', e1, r3⟩ := q.atI e
    exact ix_list value slice pins s σ _ _ _ v u Q I rx ry ⟨_, _, _, _, rfl, rfl, p, e1, h _ v0 .refl sr rfl r3⟩ hs
  | tup p q =>
    cases r2 <;> simp only [gIx, reduceCtorEq] at e
    obtain ⟨v', e1, r3⟩ := q.atI e
    exact ix_tup value slice pins s σ _ _ _ v u Q I rx ry ⟨_, _, _, _, rfl, rfl, sqt_mono sr.sub p, e1, h _ v0 .refl sr rfl r3⟩ hs
  | str z =>
    cases r2 <;> simp only [gIx, reduceCtorEq] at e
    split at e
    · rename_i hz
      cases q : atI z.cps.toList _ with
      | none => rw [q] at e; exact nomatch e
      | some c =>
        rw [q] at e
        simp only [Option.map_some, Option.some.injEq] at e
        subst e
        exact ix_str value slice pins s σ _ _ _ v u Q I rx ry ⟨_, _, c, rfl, rfl, hz, q, h _ v0 .refl sr rfl (.str _)⟩ hs
    · exact nomatch e
  | non => cases r2 <;> simp only [gIx, reduceCtorEq] at e
  | bl b => cases r2 <;> simp only [gIx, reduceCtorEq] at e
  | int b => cases r2 <;> simp only [gIx, reduceCtorEq] at e
  | fn a => cases r2 <;> simp only [gIx, reduceCtorEq] at e
  | ob a => cases r2 <;> simp only [gIx, reduceCtorEq] at e
  | ev a => cases r2 <;> simp only [gIx, reduceCtorEq] at e
  | dct p l q => cases r2 <;> simp only [gIx, reduceCtorEq] at e
theorem se_ix (ha : SE X C a fa) (hb : SE X C b fb) (hs : PlainIx b := by intro _ _; rfl) : SE X C (.Subscript a b pos) (eBin gIx fa fb) := pe_weak (pe_ix x_ix ha hb hs) fun σ H Q h => lift_bin h

/-! ### slices -/
abbrev Os := Sl → Sto → R (Option Int)
def liftO (K : PySem.W.Frag) (C : Cc) (f : Os) : TO := fun σ H Q => ∃ δ v, RE K C σ δ v ∧ v.H = H ∧ on K C σ v rB (f δ v.st) fun _ b v' => Q b v'.H
abbrev SO (X : Cx) (C : Cc) (e : Option Expr) (f : Os) : Prop := PO X e (liftO X.K C f)
theorem po_weak {X : Cx} {e : Option Expr} {t t' : TO} (h : PO X e t) (w : ∀ σ H Q, t' σ H Q → t σ H Q) : PO X e t' := ⟨fun pins s σ H Q I z => h.run pins s σ H Q I (w σ H Q z)⟩
def oNone : Os := fun _ s => .ok none s
def oSome (f : E) : Os := fun δ s => (f δ s).bind fun d s1 => match d with
  | .int i => .ok (some i) s1
  | _ => .stk
theorem so_none : SO X C none oNone := po_weak po_none fun σ H Q ⟨δ, v, re, eH, h⟩ => by subst eH; exact on_self re.sr h rfl
theorem so_some (ha : SE X C a fa) : SO X C (some a) (oSome fa) := po_weak (po_some ha) fun σ H Q ⟨δ, v, re, eH, h⟩ =>
  ⟨δ, v, re, eH, on_mono (on_bind h) fun d x v1 l1 s1 r1 h1 => by
    cases r1 <;> first
      | exact h1.elim
      | exact ⟨_, rfl, on_self s1 h1 rfl⟩⟩
def cutD (xs : List D) (lo hi : Option Int) : List D := (xs.drop (HT.sIx xs.length 0 lo)).take (HT.sIx xs.length xs.length hi - HT.sIx xs.length 0 lo)
theorem RepL.cut {K : PySem.W.Frag} {ct : String → Addr} {G : Hp} {m : Nat → Option Addr} {ds : List D} {vs : List V} (r : RepL K ct G m ds vs) (lo hi : Option Int) : RepL K ct G m (cutD ds lo hi) (cutV vs lo hi) := by
  unfold cutD cutV
  rw [r.length]
  exact (r.drop _).take _
def gSl : D → Option Int → Option Int → Option D
  | .lst xs, lo, hi => some (.lst (cutD xs lo hi))
  | .tup xs, lo, hi => some (.tup (cutD xs lo hi))
  | .str z, lo, hi => if z.length ≤ sizeLine then some (.str (cutS z lo hi)) else none
  | _, _, _ => none
def rDS (K : PySem.W.Frag) (ct : String → Addr) (g : D → Option Int → Option Int → Option D) : V → Option Int → Option Int → Hp → VK → Prop := fun x lo hi H Q => ∃ v dx d, v.H = H ∧ SR K ct v ∧ g dx lo hi = some d ∧ RepT K ct v dx x ∧ ∀ z v', Le v v' → SR K ct v' → v'.st = v.st → Rep K ct v'.G v'.m d z → Q z v'.H
theorem s_sl {ct : String → Addr} : SlR X (rDS X.K ct gSl) := by
  intro pins s σ H x v vl vu lo hi sl Q I rx hs pl pu h
  obtain ⟨v0, dx, d, rfl, sr, e, r1, h⟩ := h
  cases r1 with
  | lst p q =>
    simp only [gSl, Option.some.injEq] at e
    subst e
    exact sl_list pins s σ _ _ v vl vu lo hi sl Q I rx hs pl pu ⟨_, _, rfl, p, fun c hc => let ⟨l, s2⟩ := new_ok (o := .lst _) sr hc; h _ _ l s2 rfl (.lst (SqL.of upd_same) ((q.cut lo hi).mono l.g l.m))⟩
  | @tup c0 vs0 ds0 p q =>
    simp only [gSl, Option.some.injEq] at e
    subst e
    refine sl_tupA pins s σ _ _ v vl vu lo hi sl Q I rx hs pl pu ⟨_, _, rfl, sqt_mono sr.sub p, fun z => ?_, fun _ c hc => let ⟨l, s2⟩ := new_ok (o := .tup _) sr hc; h _ _ l s2 rfl (.tup (SqT.of upd_same) (l.repl (q.cut lo hi)))⟩
    refine h _ v0 .refl sr rfl (.tup p ?_)
    have e2 := q.cut lo hi
    have e3 : cutV vs0 lo hi = vs0 := by
      unfold cutV
      rw [z.1, z.2, Nat.sub_zero, List.drop_zero, List.take_length]
    rw [e3] at e2
    exact e2
  | str z =>
    simp only [gSl] at e
    split at e
    · rename_i hz
      simp only [Option.some.injEq] at e
      subst e
      exact sl_str pins s σ _ _ v vl vu lo hi sl Q I rx hs pl pu ⟨_, rfl, hz, h _ v0 .refl sr rfl (.str _)⟩
    · exact nomatch e
  | non => simp only [gSl, reduceCtorEq] at e
  | bl b => simp only [gSl, reduceCtorEq] at e
  | int b => simp only [gSl, reduceCtorEq] at e
  | fn a => simp only [gSl, reduceCtorEq] at e
  | ob a => simp only [gSl, reduceCtorEq] at e
  | ev a => simp only [gSl, reduceCtorEq] at e
  | dct p l q => simp only [gSl, reduceCtorEq] at e
def eSl (a : E) (lo hi : Os) : E := fun δ s => (a δ s).bind fun x s1 => (lo δ s1).bind fun l s2 => (hi δ s2).bind fun h s3 => R.ofO (gSl (rsv s3 x) l h) s3
theorem se_sl {lo hi : Option Expr} {fl fh : Os} (ha : SE X C a fa) (hl : SO X C lo fl) (hh : SO X C hi fh) : SE X C (.Subscript a (.Slice lo hi none p2) pos) (eSl fa fl fh) :=
  pe_weak (pe_slice s_sl ha hl hh) fun σ H Q ⟨δ, v, re, eH, h⟩ => by
    refine ⟨δ, v, re, eH, on_mono (on_bind h) fun d x v1 l1 s1 r1 h1 => ?_⟩
    refine ⟨δ, v1, re.step l1 s1, rfl, on_mono (on_bind h1) fun l y v2 l2 s2 e2 h2 => ?_⟩
    cases e2
    refine ⟨δ, v2, (re.step l1 s1).step l2 s2, rfl, on_mono (on_bind h2) fun u y v3 l3 s3 e3 h3 => ?_⟩
    cases e3
    obtain ⟨z, e, h3⟩ := on_ofO h3
    exact ⟨v3, _, z, rfl, s3, e, ((l2.trans l3).rep r1).top s3, h3⟩
/-- xs[::-1] -/
def gRev : B1
  | .lst xs => some (.lst xs.reverse)
  | _ => none
theorem se_rev {k : Nat} {p1 p3 p4 : Pos} (ha : SE X C a fa) : SE X C (.Subscript a (.Slice none none (some (.UnaryOp .USub (.Constant (.int 1) k p1) p3)) p4) pos) (eUn gRev fa) :=
  pe_weak (pe_revL ha) fun σ H Q h => by
    obtain ⟨δ, v, re, eH, h1⟩ := lift_un h
    refine ⟨δ, v, re, eH, on_mono h1 fun d x v1 l1 s1 r1 h2 => ?_⟩
    obtain ⟨v2, dx, d2, eH2, sr, e, r2, h2⟩ := h2
    cases r2 <;> simp only [gRev, Option.some.injEq, reduceCtorEq] at e
    rename_i c vs ds p q
    subst e
    rw [← eH2]
    exact ⟨_, _, rfl, p, fun l hl => let ⟨l9, s9⟩ := new_ok (o := .lst _) sr hl; h2 _ _ l9 s9 rfl (.lst (SqL.of upd_same) (l9.repl q.reverse))⟩

/-! ### isinstance -/
def tyN : D → Option String
  | .non => some "NoneType"
  | .bl _ => some "bool"
  | .int _ => some "int"
  | .str _ => some "str"
  | .tup _ => some "tuple"
  | .lst _ => some "list"
  | .fn _ => none
  | .ob _ => none
  | .ev _ _ _ => none
  | .dct _ _ => some "dict"
theorem RepT.tyx {K : PySem.W.Frag} {ct : String → Addr} {w : Vw} (sr : SR K ct w) {d : D} {v : V} {n : String} (r : RepT K ct w d v) (e : tyN d = some n) : TyX K w.H v (.type n) := by
  cases r <;> simp only [tyN, Option.some.injEq, reduceCtorEq] at e <;> subst e
  · exact .base .non
  · exact .base (.bl _)
  · exact .base (.int _)
  · exact .base (.str _)
  · rename_i a vs ds h r
    rcases sqt_mono sr.sub h with (h | ⟨o, h⟩) | ⟨o, its, m, h, c, _⟩
    · exact .base (.tup h)
    · exact .fTuple h
    · exact .kTuple h c
  · rename_i a vs ds h r
    rcases h with (h | ⟨o, h⟩) | ⟨o, its, m, h, c, _⟩
    · exact .base (.lst h)
    · exact .base (.frz h)
    · exact .kList h c
  · rename_i a vs ks ds h l r
    exact .base (.dK h)
theorem RepT.more {K : PySem.W.Frag} {ct : String → Addr} {w w' : Vw} {d : D} {v : V} (l : Le w w') (e : w'.G = w.G) (hh : Same w.H w'.H) (r : RepT K ct w d v) : RepT K ct w' d v := by
  cases r with
  | non => exact .non
  | bl b => exact .bl b
  | int b => exact .int b
  | str b => exact .str b
  | fn s => exact .fn s
  | ob h => exact .ob (l.m _ _ h)
  | tup h r => exact .tup (sqt_mono l.g h) (l.repl r)
  | lst h r => exact .lst (hh.seq h) (l.repl r)
  | dct h k r => exact .dct (hh _ _ h) k (l.repl r)
  | ev h => exact .ev (l.rep h)
/-- the built-in class n of a datum's class -/
def isTy : String → String → Bool
  | "bool", "int" => true
  | a, b => a == b
def gIsi (n : String) : B1 := fun d => (tyN d).map fun t => .bl (isTy t n)
def okTy (n : String) : Bool := ["NoneType", "bool", "int", "str", "tuple", "list", "dict"].all fun t => decide (kitB t n = some (isTy t n))
theorem tyN_mem {d : D} {t : String} (h : tyN d = some t) : t ∈ ["NoneType", "bool", "int", "str", "tuple", "list", "dict"] := by
  cases d <;> simp only [tyN, Option.some.injEq, reduceCtorEq] at h <;> subst h <;> simp
theorem se_isi {pf pn : Pos} {n : String} {nx : Str} (ha : SE X C a fa) (hg : Gl X "isinstance") (hm : X.mg "isinstance" = none) (hgn : Gl X nx) (hmn : X.mg nx = none) (hv : bootBuiltins nx = some (.type n)) (hk : okTy n = true := by decide +kernel)
    (hn : nx ≠ "__name__" := by decide) (hd : (nx == ("__debug__" : Str)) = false := by decide) (hvi : bootBuiltins "isinstance" = some (.builtin "isinstance") := by decide +kernel)
    (hs : starEach [a, .Name nx pn] X.env = (false, eval a X.env) :: starEach [.Name nx pn] X.env := by rfl) (hpl : (backTo pos (starEach [.Name nx pn] X.env)).any (·.1) = false := by rfl)
    (hs2 : starEach [.Name nx pn] X.env = (false, eval (.Name nx pn) X.env) :: starEach [] X.env := by rfl) :
    SE X C (.Call (.Name "isinstance" pf) [a, .Name nx pn] [] pos) (eUn (gIsi n) fa) :=
  pe_weak (pe_callB call_isi hg hm hvi (pa_cons ha (pa_cons (pe_bltn (v := .ty n) hgn hmn hv rfl hn hd) pa_nil hs2) hs) (by decide) (by decide) hs hpl) fun σ H Q h => by
    obtain ⟨δ, v8, re, eH, h1⟩ := lift_un h
    refine ⟨δ, v8, re, eH, on_mono h1 fun d v v1 l1 s1 r1 h2 => ?_⟩
    obtain ⟨v2, dx, d2, eH2, sr, e, r2, h2⟩ := h2
    rw [← eH2]
    unfold gIsi at e
    cases q : tyN dx with
    | none => rw [q] at e; exact nomatch e
    | some t =>
      rw [q] at e
      simp only [Option.map_some, Option.some.injEq] at e
      subst e
      have z : kitB t n = some (isTy t n) := of_decide_eq_true (List.all_eq_true.mp hk t (tyN_mem q))
      exact ⟨v, .ty n, .type t, .type n, isTy t n, rfl, .ty n, r2.tyx sr q, kit_ty z, h2 _ v2 .refl sr rfl (.bl _)⟩
/-- isinstance(x, (T, U)) -/
def gIsi2 (n m : String) : B1 := fun d => (tyN d).map fun t => .bl (isTy t n || isTy t m)
theorem se_isi2 {pf pn pm pt : Pos} {kt : Nat} {n m : String} {nx mx : Str} (ha : SE X C a fa) (hg : Gl X "isinstance") (hm : X.mg "isinstance" = none) (hgn : Gl X nx) (hmn : X.mg nx = none) (hv : bootBuiltins nx = some (.type n)) (hgm : Gl X mx) (hmm : X.mg mx = none) (hvm : bootBuiltins mx = some (.type m)) (hk : okTy n = true := by decide +kernel) (hk2 : okTy m = true := by decide +kernel)
    (hn : nx ≠ "__name__" := by decide) (hd : (nx == ("__debug__" : Str)) = false := by decide) (hn2 : mx ≠ "__name__" := by decide) (hd2 : (mx == ("__debug__" : Str)) = false := by decide) (hvi : bootBuiltins "isinstance" = some (.builtin "isinstance") := by decide +kernel)
    (hs : starEach [a, .Tuple [.Name nx pn, .Name mx pm] kt pt] X.env = (false, eval a X.env) :: starEach [.Tuple [.Name nx pn, .Name mx pm] kt pt] X.env := by rfl) (hpl : (backTo pos (starEach [.Tuple [.Name nx pn, .Name mx pm] kt pt] X.env)).any (·.1) = false := by rfl)
    (hs2 : starEach [.Tuple [.Name nx pn, .Name mx pm] kt pt] X.env = (false, eval (.Tuple [.Name nx pn, .Name mx pm] kt pt) X.env) :: starEach [] X.env := by rfl)
    (hs3 : starEach [.Name nx pn, .Name mx pm] X.env = (false, eval (.Name nx pn) X.env) :: starEach [.Name mx pm] X.env := by rfl) (hs4 : starEach [.Name mx pm] X.env = (false, eval (.Name mx pm) X.env) :: starEach [] X.env := by rfl) :
    SE X C (.Call (.Name "isinstance" pf) [a, .Tuple [.Name nx pn, .Name mx pm] kt pt] [] pos) (eUn (gIsi2 n m) fa) :=
  pe_weak (pe_callB call_isiT hg hm hvi (pa_cons ha (pa_cons (pe_tup (pa_cons (pe_bltn (v := .ty n) hgn hmn hv rfl hn hd) (pa_cons (pe_bltn (v := .ty m) hgm hmm hvm rfl hn2 hd2) pa_nil hs4) hs3)) pa_nil hs2) hs) (by decide) (by decide) hs hpl) fun σ H Q h => by
    obtain ⟨δ, v8, re, eH, h1⟩ := lift_un h
    refine ⟨δ, v8, re, eH, on_mono h1 fun d v v1 l1 s1 r1 h2 => ?_⟩
    obtain ⟨v2, dx, d2, eH2, sr, e, r2, h2⟩ := h2
    rw [← eH2]
    unfold gIsi2 at e
    cases q : tyN dx with
    | none => rw [q] at e; exact nomatch e
    | some t =>
      rw [q] at e
      simp only [Option.map_some, Option.some.injEq] at e
      subst e
      have z : kitB t n = some (isTy t n) := of_decide_eq_true (List.all_eq_true.mp hk t (tyN_mem q))
      have z2 : kitB t m = some (isTy t m) := of_decide_eq_true (List.all_eq_true.mp hk2 t (tyN_mem q))
      refine ⟨by show 2 ≤ sizeLine; decide, fun c hc => ?_⟩
      obtain ⟨l9, s9⟩ := more_ok sr (same_new hc (.tup [V.ty n, V.ty m]))
      have ty : TyX X.K (upd v2.H c (.tup [V.ty n, V.ty m])) v (.type t) := (r2.more l9 rfl (same_new hc _)).tyx s9 q
      refine ⟨v, c, [.ty n, .ty m], .type t, [.type n, .type m], isTy t n || isTy t m, rfl, upd_same, .cons (.ty n) (.cons (.ty m) .nil), ty, ?_, h2 _ _ l9 s9 rfl (.bl _)⟩
      refine kitAny_cons (kit_ty z) (fun b1 => ?_) (fun b1 => ?_)
      · rw [b1, Bool.false_or]
        exact kitAny_cons (kit_ty z2) (fun b2 => by rw [b2]; exact kitAny_nil) (fun b2 => b2)
      · rw [b1, Bool.true_or]

/-! ### methods of texts -/
def rDM (K : PySem.W.Frag) (ct : String → Addr) (g : D → List D → Option D) : V → List V → Hp → VK → Prop := fun x xs H Q => ∃ v dx ds d, v.H = H ∧ SR K ct v ∧ g dx ds = some d ∧ RepT K ct v dx x ∧ RepTL K ct v ds xs ∧ ∀ z v', Le v v' → SR K ct v' → v'.st = v.st → Rep K ct v'.G v'.m d z → Q z v'.H
def isStr : D → Bool
  | .str _ => true
  | _ => false
def eM1 (g : D → List D → Option D) (o a : E) : E := fun δ s => (o δ s).bind fun x s1 => if isStr x then (a δ s1).bind fun y s2 => R.ofO (g x [rsv s2 y]) s2 else .stk
theorem se_m1 {o : Expr} {fo : E} {g : D → List D → Option D} {id : String} {name : Str} {apos : Pos} (slot : PySem.Slot "str" name id) (ty : typeOf (.builtin id) = pure (.type "method_descriptor")) (rule : MtR X id (rDM X.K C.ct g)) (ho : SE X C o fo) (ha : SE X C a fa)
    (hs : starEach [a] X.env = [(false, eval a X.env)] := by rfl) (hbase : attributeBase o name X.env (eval o X.env) = eval o X.env := by rfl) (hline : (apos.endLine == pos.line) = true := by rfl) : SE X C (.Call (.Attribute o name apos) [a] [] pos) (eM1 g fo fa) :=
  pe_weak (pe_m1 slot ty rule ho ha hs hbase hline) fun σ H Q ⟨δ, v, re, eH, h⟩ => by
    refine ⟨δ, v, re, eH, on_mono (on_bind h) fun d x v1 l1 s1 r1 h1 => ?_⟩
    cases r1 <;> first
      | exact h1.elim
      | skip
    rename_i z
    refine ⟨⟨z, rfl⟩, δ, v1, re.step l1 s1, rfl, on_mono (on_bind (show on X.K C σ v1 (rE X.K C.ct) ((fa δ v1.st).bind fun y s2 => R.ofO (g (.str z) [rsv s2 y]) s2) _ from h1)) fun d2 x2 v2 l2 s2 r2 h2 => ?_⟩
    obtain ⟨w, e, h2⟩ := on_ofO h2
    exact ⟨v2, _, _, w, rfl, s2, e, .str z, .cons (r2.top s2) .nil, h2⟩
def gFind : D → List D → Option D
  | .str a, [.str b] => some (.int (Txt.find a b))
  | _, _ => none
def gStarts : D → List D → Option D
  | .str a, [.str b] => some (.bl (Txt.startswith a b))
  | _, _ => none
def gPart : D → List D → Option D
  | .str a, [.str b] => if (b.length == 0) = false ∧ a.length ≤ sizeLine then some (.tup [.str (Txt.partition a b).1, .str (Txt.partition a b).2.1, .str (Txt.partition a b).2.2]) else none
  | _, _ => none
def gSplit : D → List D → Option D
  | .str a, [.str b] => if (b.length == 0) = false ∧ a.length + 2 ≤ sizeLine then some (.lst ((Txt.split a b).map .str)) else none
  | _, _ => none
def gJoin : D → List D → Option D
  | .str a, [.lst xs] => (strsOf xs).bind fun ys => if (ys.map (·.length)).sum + ys.length * a.length ≤ 16777216 then some (.str (Txt.join a ys)) else none
  | _, _ => none
theorem m_find {ct : String → Addr} : MtR X "str.find" (rDM X.K ct gFind) := by
  intro pins s σ H x xs v us Q I rx ru h
  obtain ⟨v0, dx, ds, d, rfl, sr, e, r1, r2, h⟩ := h
  unfold gFind at e
  split at e
  · cases r1
    cases r2 with
    | cons r2 r3 =>
      cases r2; cases r3
      simp only [Option.some.injEq] at e
      subst e
      exact mt_find pins s σ _ _ _ v us Q I rx ru ⟨_, _, rfl, rfl, h _ v0 .refl sr rfl (.int _)⟩
  · exact nomatch e
theorem m_starts {ct : String → Addr} : MtR X "str.startswith" (rDM X.K ct gStarts) := by
  intro pins s σ H x xs v us Q I rx ru h
  obtain ⟨v0, dx, ds, d, rfl, sr, e, r1, r2, h⟩ := h
  unfold gStarts at e
  split at e
  · cases r1
    cases r2 with
    | cons r2 r3 =>
      cases r2; cases r3
      simp only [Option.some.injEq] at e
      subst e
      exact mt_startswith pins s σ _ _ _ v us Q I rx ru ⟨_, _, rfl, rfl, h _ v0 .refl sr rfl (.bl _)⟩
  · exact nomatch e
theorem m_part {ct : String → Addr} : MtR X "str.partition" (rDM X.K ct gPart) := by
  intro pins s σ H x xs v us Q I rx ru h
  obtain ⟨v0, dx, ds, d, rfl, sr, e, r1, r2, h⟩ := h
  unfold gPart at e
  split at e
  · cases r1
    cases r2 with
    | cons r2 r3 =>
      cases r2; cases r3
      split at e
      · rename_i hz
        simp only [Option.some.injEq] at e
        subst e
        exact mt_partition pins s σ _ _ _ v us Q I rx ru ⟨_, _, rfl, rfl, hz.1, hz.2, fun c hc => let ⟨l, s2⟩ := new_ok (o := .tup _) sr hc; h _ _ l s2 rfl (.tup (SqT.of upd_same) (.cons (.str _) (.cons (.str _) (.cons (.str _) .nil))))⟩
      · exact nomatch e
  · exact nomatch e
theorem RepL.strs {K : PySem.W.Frag} {ct : String → Addr} {G : Hp} {m : Nat → Option Addr} : ∀ ns : List Str, RepL K ct G m (ns.map D.str) (ns.map V.str)
  | [] => .nil
  | n :: r => .cons (.str n) (RepL.strs r)
theorem m_split {ct : String → Addr} : MtR X "str.split" (rDM X.K ct gSplit) := by
  intro pins s σ H x xs v us Q I rx ru h
  obtain ⟨v0, dx, ds, d, rfl, sr, e, r1, r2, h⟩ := h
  unfold gSplit at e
  split at e
  · cases r1
    cases r2 with
    | cons r2 r3 =>
      cases r2; cases r3
      split at e
      · rename_i hz
        simp only [Option.some.injEq] at e
        subst e
        exact mt_split pins s σ _ _ _ v us Q I rx ru ⟨_, _, rfl, rfl, hz.1, hz.2, fun c hc => let ⟨l, s2⟩ := new_ok (o := .lst _) sr hc; h _ _ l s2 rfl (.lst (SqL.of upd_same) (RepL.strs _))⟩
      · exact nomatch e
  · exact nomatch e
theorem m_join {ct : String → Addr} : MtR X "str.join" (rDM X.K ct gJoin) := by
  intro pins s σ H x xs v us Q I rx ru h
  obtain ⟨v0, dx, ds, d, rfl, sr, e, r1, r2, h⟩ := h
  unfold gJoin at e
  split at e
  · rename_i a ys
    cases q1 : strsOf ys with
    | none => rw [q1] at e; exact nomatch e
    | some ns =>
      rw [q1] at e
      simp only [Option.bind_some] at e
      have e2 := strsOf_eq q1
      subst e2
      split at e
      · rename_i hz
        simp only [Option.some.injEq] at e
        subst e
        cases r1
        cases r2 with
        | cons r2 r3 =>
          cases r3
          cases r2 with
          | lst p q =>
            have e3 := RepL.of_strs q
            subst e3
            exact mt_join pins s σ _ _ _ v us Q I rx ru ⟨_, _, ns, rfl, rfl, .inl (p), hz, h _ v0 .refl sr rfl (.str _)⟩
      · exact nomatch e
  · exact nomatch e
end
end Gs

/-! G5: statements, targets, loops. -/
namespace Gs
open PySem L2

inductive RS where
  | nx (δ : Sl) (s : Sto) | rt (d : D) (s : Sto) | bk (δ : Sl) (s : Sto) | ct (δ : Sl) (s : Sto) | exc (e : Ex) (δ : Sl) (s : Sto) | stk
abbrev S := Sl → Sto → RS
def onS (K : PySem.W.Frag) (C : Cc) (v : Vw) (r : RS) (Dn : Ends) : Prop := match r with
  | .nx δ s => ∀ σ' v', RE K C σ' δ v' → Le v v' → v'.st = s → Dn.nx σ' v'.H
  | .bk δ s => ∀ σ' v', RE K C σ' δ v' → Le v v' → v'.st = s → Dn.bk σ' v'.H
  | .ct δ s => ∀ σ' v', RE K C σ' δ v' → Le v v' → v'.st = s → Dn.ct σ' v'.H
  | .rt d s => ∀ x v', Le C.v0 v' → SR K C.ct v' → v'.st = s → Rep K C.ct v'.G v'.m d x → Dn.rt x v'.H
  | .exc e δ s => ∀ cls dd σ' v', RE K C σ' δ v' → Le v v' → v'.st = s → RepX K C.ct v' e cls dd → C.W cls dd σ' v'.H
  | .stk => False
def liftS (K : PySem.W.Frag) (C : Cc) (f : S) : TS := fun Dn σ H => ∃ δ v, RE K C σ δ v ∧ v.H = H ∧ onS K C v (f δ v.st) Dn
abbrev SS (X : Cx) (C : Cc) (st : Stmt) (f : S) : Prop := PS X st (liftS X.K C f)
abbrev SSs (X : Cx) (C : Cc) (st : List Stmt) (f : S) : Prop := PSs X st (liftS X.K C f)
theorem ps_weak {X : Cx} {e : Stmt} {t t' : TS} (h : PS X e t) (w : ∀ Dn σ H, t' Dn σ H → t Dn σ H) : PS X e t' := ⟨fun pins s σ H Dn I z => h.run pins s σ H Dn I (w Dn σ H z)⟩
theorem pss_weak {X : Cx} {e : List Stmt} {t t' : TS} (h : PSs X e t) (w : ∀ Dn σ H, t' Dn σ H → t Dn σ H) : PSs X e t' := ⟨fun pins s σ H Dn I z => h.run pins s σ H Dn I (w Dn σ H z)⟩
section
variable {α β : Type} {K : PySem.W.Frag} {C : Cc} {σ : L2.St} {v v' : Vw} {Dn : Ends} {rel : α → β → Vw → Prop}
theorem onS_same {r : RS} (l : Le v v') (h : onS K C v r Dn) : onS K C v' r Dn := by
  cases r with
  | nx δ s => exact fun σ' w re z => h σ' w re (l.trans z)
  | bk δ s => exact fun σ' w re z => h σ' w re (l.trans z)
  | ct δ s => exact fun σ' w re z => h σ' w re (l.trans z)
  | rt d s => exact h
  | exc e δ s => exact fun cls dd σ' w re z => h cls dd σ' w re (l.trans z)
  | stk => exact h
/-- an expression ahead of a statement's rest -/
def sBind {α : Type} (r : R α) (δ : Sl) (k : α → Sto → RS) : RS := match r with
  | .ok a s => k a s
  | .exc e s => .exc e δ s
  | .stk => .stk
theorem onX_of {δ : Sl} {e : Ex} {s : Sto} (re : RE K C σ δ v) (h : onS K C v (.exc e δ s) Dn) : onX K C σ v e s := fun cls dd v' l sr es r => h cls dd σ v' (re.step l sr) l es r
theorem onS_R {δ : Sl} {r : R α} {k : α → Sto → RS} (re : RE K C σ δ v) (h : onS K C v (sBind r δ k) Dn) : on K C σ v rel r fun a _ v1 => onS K C v1 (k a v1.st) Dn := by
  cases r with
  | ok a s =>
    intro b v1 l sr e _
    subst e
    exact onS_same l h
  | exc e s => exact onX_of re h
  | stk => exact h
end

/-! ### blocks -/
def sNx : S := fun δ s => .nx δ s
def sSeq (f g : S) : S := fun δ s => match f δ s with
  | .nx δ' s' => g δ' s'
  | r => r
section
variable {X : Cx} {C : Cc} {pos : Pos} {st : Stmt} {rest : List Stmt} {f g : S}
theorem ss_nil : SSs X C [] sNx := pss_weak pss_nil fun Dn σ H ⟨δ, v, re, eH, h⟩ => by subst eH; exact h σ v re .refl rfl
theorem ss_one (h1 : SS X C st f) : SSs X C [st] f := pss_one h1
theorem ss_cons (h1 : SS X C st f) (h2 : SSs X C rest g) : SSs X C (st :: rest) (sSeq f g) := pss_weak (pss_cons h1 h2) fun Dn σ H ⟨δ, v, re, eH, h⟩ => by
  refine ⟨δ, v, re, eH, ?_⟩
  unfold sSeq at h
  cases e : f δ v.st with
  | nx δ' s' => rw [e] at h; exact fun σ' v' re' l es => ⟨δ', v', re', rfl, by subst es; exact onS_same l h⟩
  | rt d s' => rw [e] at h; exact h
  | bk δ' s' => rw [e] at h; exact h
  | ct δ' s' => rw [e] at h; exact h
  | exc e2 δ' s' => rw [e] at h; exact h
  | stk => rw [e] at h; exact h
theorem ss_pass : SS X C (.Pass pos) sNx := ps_weak ps_pass fun Dn σ H ⟨δ, v, re, eH, h⟩ => by subst eH; exact h σ v re .refl rfl
def sBk : S := fun δ s => .bk δ s
def sCt : S := fun δ s => .ct δ s
theorem ss_break : SS X C (.Break pos) sBk := ps_weak ps_break fun Dn σ H ⟨δ, v, re, eH, h⟩ => by subst eH; exact h σ v re .refl rfl
theorem ss_cont : SS X C (.Continue pos) sCt := ps_weak ps_continue fun Dn σ H ⟨δ, v, re, eH, h⟩ => by subst eH; exact h σ v re .refl rfl
def sRet (f : E) : S := fun δ s => sBind (f δ s) δ fun d s1 => .rt d s1
theorem ss_ret {e : Expr} {f : E} (he : SE X C e f) : SS X C (.Return (some e) pos) (sRet f) := ps_weak (ps_ret he) fun Dn σ H ⟨δ, v, re, eH, h⟩ =>
  ⟨δ, v, re, eH, on_mono (onS_R re h) fun d x v1 l1 s1 r1 h1 => h1 x v1 (re.le.trans l1) s1 rfl r1⟩
def sRetN : S := fun _ s => .rt .non s
theorem ss_retN : SS X C (.Return none pos) sRetN := ps_weak ps_retN fun Dn σ H ⟨δ, v, re, eH, h⟩ => by subst eH; exact h .non v re.le re.sr rfl .non
def sIf (t : T) (a b : S) : S := fun δ s => sBind (t δ s) δ fun k s1 => if k = true then a δ s1 else b δ s1
theorem ss_if {c : Expr} {a b : List Stmt} {t : T} {fa fb : S} (hc : ST X C c t) (ha : SSs X C a fa) (hb : SSs X C b fb) : SS X C (.If c a b pos) (sIf t fa fb) := ps_weak (ps_if hc ha hb) fun Dn σ H ⟨δ, v, re, eH, h⟩ => by
  refine ⟨δ, v, re, eH, on_mono (onS_R re h) fun k k2 v1 l1 s1 e h1 => ?_⟩
  cases e
  cases k with
  | true => exact ⟨δ, v1, re.step l1 s1, rfl, h1⟩
  | false => exact ⟨δ, v1, re.step l1 s1, rfl, h1⟩
def sDrop (f : E) : S := fun δ s => sBind (f δ s) δ fun _ s1 => .nx δ s1
theorem ss_expr {e : Expr} {f : E} (he : SE X C e f) (hs : swapsWith e none pos.line X.env = pure false := by rfl) : SS X C (.Expr e pos) (sDrop f) := ps_weak (ps_expr he hs) fun Dn σ H ⟨δ, v, re, eH, h⟩ =>
  ⟨δ, v, re, eH, on_mono (onS_R re h) fun d x v1 l1 s1 r1 h1 => h1 σ v1 (re.step l1 s1) .refl rfl⟩
def sStk : S := fun _ _ => .stk
theorem ss_never : SS X C st sStk := ps_weak ps_never fun Dn σ H ⟨δ, v, re, eH, h⟩ => h
def sSet (i : Nat) (f : E) : S := fun δ s => sBind (f δ s) δ fun d s1 => .nx (δ.set i (some d)) s1
theorem ss_set (i : Nat) {x : Str} {e : Expr} {f : E} {pos' : Pos} (he : SE X C e f) (hN : X.N.Nodup) (hi : X.N[i]? = some x := by rfl) (hx : Loc X.env.scope x := by first | exact Or.inl rfl | exact Or.inr rfl) (hs : swapsWith e (some (.Name x pos')) pos.line X.env = pure false := by rfl)
    (hf : X.fn x = true ∨ X.env.scope.names.lookup x = some .local := by first | exact Or.inr rfl | exact Or.inl rfl) : SS X C (.Assign [.Name x pos'] e pos) (sSet i f) := ps_weak (ps_set hN hi hx he hs hf) fun Dn σ H ⟨δ, v, re, eH, h⟩ =>
  ⟨δ, v, re, eH, on_mono (onS_R re h) fun d x v1 l1 s1 r1 h1 => h1 (σ.set i (some x)) v1 ((re.step l1 s1).setV i r1) .refl rfl⟩
end

/-! ### targets -/
inductive Pt where
  | nm (i : Nat) | tp (ps : List Pt)
mutual
def bindP : Pt → D → Sl → Option Sl
  | .nm i, d, δ => some (δ.set i (some d))
  | .tp ps, .tup ds, δ => bindPs ps ds δ
  | .tp ps, .lst ds, δ => bindPs ps ds δ
  | _, _, _ => none
def bindPs : List Pt → List D → Sl → Option Sl
  | [], [], δ => some δ
  | p :: ps, d :: ds, δ => match bindP p d δ with
    | some δ' => bindPs ps ds δ'
    | none => none
  | _, _, _ => none
end
mutual
def idxP : Pt → List Nat
  | .nm i => [i]
  | .tp ps => idxPs ps
def idxPs : List Pt → List Nat
  | [] => []
  | p :: ps => idxP p ++ idxPs ps
end
/-- σ' differs from σ at these places alone -/
def Off (is : List Nat) (σ σ' : L2.St) : Prop := σ'.length = σ.length ∧ ∀ j, j ∉ is → σ'[j]? = σ[j]?
theorem Off.refl {is : List Nat} {σ : L2.St} : Off is σ σ := ⟨rfl, fun _ _ => rfl⟩
theorem Off.trans {is js : List Nat} {σ σ1 σ2 : L2.St} (a : Off is σ σ1) (b : Off js σ1 σ2) : Off (is ++ js) σ σ2 :=
  ⟨b.1.trans a.1, fun j hj => (b.2 j fun z => hj (List.mem_append_right _ z)).trans (a.2 j fun z => hj (List.mem_append_left _ z))⟩
def liftG (K : PySem.W.Frag) (C : Cc) (p : Pt) : TG := fun x σ H Q => ∃ d δ v δ', RE K C σ δ v ∧ v.H = H ∧ Rep K C.ct v.G v.m d x ∧ bindP p d δ = some δ' ∧ ∀ σ', RE K C σ' δ' v → Off (idxP p) σ σ' → Q σ' H
def liftGs (K : PySem.W.Frag) (C : Cc) (ps : List Pt) : TGs := fun vs σ H Q => ∃ ds δ v δ', RE K C σ δ v ∧ v.H = H ∧ RepL K C.ct v.G v.m ds vs ∧ bindPs ps ds δ = some δ' ∧ ∀ σ', RE K C σ' δ' v → Off (idxPs ps) σ σ' → Q σ' H
abbrev SG (X : Cx) (C : Cc) (e : Expr) (p : Pt) : Prop := PG X e (liftG X.K C p)
abbrev SGs (X : Cx) (C : Cc) (es : List Expr) (ps : List Pt) : Prop := PGs X es (liftGs X.K C ps)
theorem pg_weak {X : Cx} {e : Expr} {t t' : TG} (h : PG X e t) (w : ∀ v σ H Q, t' v σ H Q → t v σ H Q) : PG X e t' := ⟨fun pins s σ H v u Q I r z => h.run pins s σ H v u Q I r (w v σ H Q z)⟩
theorem pgs_weak {X : Cx} {e : List Expr} {t t' : TGs} (h : PGs X e t) (w : ∀ v σ H Q, t' v σ H Q → t v σ H Q) : PGs X e t' := ⟨fun pins s σ H v u Q I r z => h.run pins s σ H v u Q I r (w v σ H Q z)⟩
theorem bindPs_len : ∀ {ps : List Pt} {ds : List D} {δ δ' : Sl}, bindPs ps ds δ = some δ' → ds.length = ps.length := by
  intro ps
  induction ps with
  | nil => intro ds δ δ' e; cases ds with
    | nil => rfl
    | cons a b => simp [bindPs] at e
  | cons p ps ih => intro ds δ δ' e; cases ds with
    | nil => simp [bindPs] at e
    | cons a b =>
      simp only [bindPs] at e
      cases q : bindP p a δ with
      | none => rw [q] at e; exact nomatch e
      | some δ1 => rw [q] at e; simp [ih e]
section
variable {X : Cx} {C : Cc} {pos : Pos}
theorem sg_name (i : Nat) {x : Str} (hN : X.N.Nodup) (hi : X.N[i]? = some x := by rfl) (hx : Loc X.env.scope x := by first | exact Or.inl rfl | exact Or.inr rfl) (hf : X.fn x = true ∨ X.env.scope.names.lookup x = some .local := by first | exact Or.inr rfl | exact Or.inl rfl) : SG X C (.Name x pos) (.nm i) :=
  pg_weak (pg_name hN hi hx hf) fun v σ H Q ⟨d, δ, w, δ', re, eH, r, e, h⟩ => by
    simp only [bindP, Option.some.injEq] at e
    subst e
    refine h _ (re.setV i r) ⟨by simp, fun j hj => ?_⟩
    rw [List.getElem?_set_ne]
    intro z
    exact hj (by simp [idxP, z])
theorem sgs_nil : SGs X C [] [] := pgs_weak pgs_nil fun v σ H Q ⟨ds, δ, w, δ', re, eH, r, e, h⟩ => by
  cases r with
  | nil =>
    simp only [bindPs, Option.some.injEq] at e
    subst e
    exact ⟨rfl, h σ re Off.refl⟩
  | cons a b => simp [bindPs] at e
theorem sgs_cons {e : Expr} {es : List Expr} {p : Pt} {ps : List Pt} (h1 : SG X C e p) (h2 : SGs X C es ps) (hs : (assignEach (e :: es) X.env).map (·.2) = assign e X.env :: (assignEach es X.env).map (·.2) := by rfl) : SGs X C (e :: es) (p :: ps) :=
  pgs_weak (pgs_cons h1 h2 hs) fun v σ H Q ⟨ds, δ, w, δ', re, eH, r, e, h⟩ => by
    cases r with
    | nil => simp [bindPs] at e
    | @cons d9 v0 ds0 vs0 a b =>
      simp only [bindPs] at e
      cases q : bindP p d9 δ with
      | none => rw [q] at e; exact nomatch e
      | some δ1 =>
        rw [q] at e
        exact ⟨v0, vs0, rfl, d9, δ, w, δ1, re, eH, a, q, fun σ1 re1 o1 => ⟨ds0, δ1, w, δ', re1, eH, b, e, fun σ2 re2 o2 => h σ2 re2 (o1.trans o2)⟩⟩
theorem sg_tup {es : List Expr} {k : Nat} {ps : List Pt} (hc : X.calm = true) (h : SGs X C es ps) (hl : es.length = ps.length := by rfl) (hn : (assignEach es X.env).length = es.length := by rfl) (hst : (assignEach es X.env).findIdx? (·.1) = none := by rfl) :
    SG X C (.Tuple es k pos) (.tp ps) := by
  refine ⟨fun pins s σ H v u Q I rv ⟨d, δ, w, δ', re, eH, r, e, z⟩ => ?_⟩
  subst eH
  cases r with
  | @tup a vs ds p q =>
    simp only [bindP] at e
    have l1 := bindPs_len e
    have l2 := q.length
    exact (pg_tup hc h hn hst).run pins s σ _ _ u Q I rv ⟨a, vs, rfl, sqt_mono re.sr.sub p, by omega, ds, δ, w, δ', re, rfl, q, e, fun σ' re' o => z σ' re' o⟩
  | @lst a vs ds p q =>
    simp only [bindP] at e
    have l1 := bindPs_len e
    have l2 := q.length
    exact (pg_lst hc h hn hst).run pins s σ _ _ u Q I rv ⟨a, vs, rfl, re.sr.sub.seq p, by omega, ds, δ, w, δ', re, rfl, q, e, fun σ' re' o => z σ' re' o⟩
  | non => simp [bindP] at e
  | bl b => simp [bindP] at e
  | int b => simp [bindP] at e
  | str b => simp [bindP] at e
  | fn b => simp [bindP] at e
  | ob b => simp [bindP] at e
  | ev0 b => simp [bindP] at e
  | ev n a b c d => simp [bindP] at e
  | dct p l q => simp [bindP] at e
def sBindP (p : Pt) (d : D) (δ : Sl) (s : Sto) : RS := match bindP p d δ with
  | some δ' => .nx δ' s
  | none => .stk
def sAsg (p : Pt) (f : E) : S := fun δ s => sBind (f δ s) δ fun d s1 => sBindP p d δ s1
theorem ss_asg {tg e : Expr} {p : Pt} {f : E} (he : SE X C e f) (hg : SG X C tg p) (hs : swapsWithSole [tg] e pos.line X.env = pure false := by rfl) (hw : swappedStores [tg] e X.env = pure none := by rfl)
    (h1 : (assignEach [tg] X.env).map (·.2) = [assign tg X.env] := by rfl) : SS X C (.Assign [tg] e pos) (sAsg p f) := ps_weak (ps_asg he hg hs hw h1) fun Dn σ H ⟨δ, v, re, eH, h⟩ =>
  ⟨δ, v, re, eH, on_mono (onS_R re h) fun d0 x v1 l1 s1 r1 h1 => by
    unfold sBindP at h1
    cases q : bindP p d0 δ with
    | none => rw [q] at h1; exact h1.elim
    | some δ' => rw [q] at h1; exact ⟨d0, δ, v1, δ', re.step l1 s1, rfl, r1, q, fun σ' re' _ => h1 σ' v1 re' .refl rfl⟩⟩
/-- x op= e -/
def sAug (i : Nat) (g : B2) (f : E) : S := fun δ s => match δ[i]? with
  | some (some x) => sBind (f δ s) δ fun y s1 => match g (rsv s1 x) (rsv s1 y) with
    | some z => .nx (δ.set i (some z)) s1
    | none => .stk
  | _ => .stk
theorem ss_aug (i : Nat) {x : Str} {e : Expr} {f : E} {op : Operator} {g : B2} {pos' : Pos} (ho : OpR X (inplaceOp op) (rD X.K C.ct g)) (he : SE X C e f) (hN : X.N.Nodup) (hi : X.N[i]? = some x := by rfl) (hx : Loc X.env.scope x := by first | exact Or.inl rfl | exact Or.inr rfl)
    (hf : X.fn x = true ∨ X.env.scope.names.lookup x = some .local := by first | exact Or.inr rfl | exact Or.inl rfl) : SS X C (.AugAssign (.Name x pos') op e pos) (sAug i g f) :=
  ps_weak (ps_aug hN hi hx he ho hf) fun Dn σ H ⟨δ, v, re, eH, h⟩ => by
    unfold sAug at h
    split at h
    · rename_i d0 q
      obtain ⟨v0, e0, r0⟩ := re.sl i d0 q
      refine ⟨v0, e0, δ, v, re, eH, on_mono (onS_R re h) fun d x v1 l1 s1 r1 h1 => ?_⟩
      split at h1
      · rename_i w z
        exact ⟨v1, _, _, w, rfl, s1, z, (l1.rep r0).top s1, r1.top s1, fun x2 v2 l2 s2 e2 r2 => h1 _ v2 (((re.step l1 s1).step l2 s2).setV i r2) l2 e2⟩
      · exact h1.elim
    · exact h.elim
def gAddI : B2
  | .int i, .int j => some (.int (i + j))
  | .str x, .str y => if x.length + y.length ≤ sizeLine then some (.str (x ++ y)) else none
  | _, _ => none
theorem io_addI {ct : String → Addr} : OpR X (inplaceOp .Add) (rD X.K ct gAddI) := by
  intro pins s σ H x y v u Q I rx ry h
  obtain ⟨v0, dx, dy, d, rfl, sr, e, r1, r2, h⟩ := h
  cases r1 <;> cases r2 <;> simp only [gAddI, Option.some.injEq, reduceCtorEq] at e
  · subst e
    exact iop_add pins s σ _ _ _ v u Q I rx ry ⟨_, _, rfl, rfl, h _ v0 .refl sr rfl (.int _)⟩
  · split at e
    · rename_i hz
      simp only [Option.some.injEq] at e
      subst e
      exact iop_add_str pins s σ _ _ _ v u Q I rx ry ⟨_, _, rfl, rfl, hz, h _ v0 .refl sr rfl (.str _)⟩
    · exact nomatch e
theorem io_sub {ct : String → Addr} : OpR X (inplaceOp .Sub) (rD X.K ct gSub) := by
  intro pins s σ H x y v u Q I rx ry h
  obtain ⟨v0, dx, dy, d, rfl, sr, e, r1, r2, h⟩ := h
  cases r1 <;> cases r2 <;> simp only [gSub, Option.some.injEq, reduceCtorEq] at e
  subst e
  exact iop_sub pins s σ _ _ _ v u Q I rx ry ⟨_, _, rfl, rfl, h _ v0 .refl sr rfl (.int _)⟩
end

/-! ### for -/
structure ItOk (K : PySem.W.Frag) (ct : String → Addr) (J : It) (v : Vw) (items : List D) : Prop where
  go : ∀ i w, Le v w → SR K ct w → i < items.length → J.go i w.H
  stop : ∀ i w, Le v w → SR K ct w → items.length ≤ i → J.stop i w.H
  yld : ∀ i w x H', Le v w → SR K ct w → i < items.length → J.yld i w.H x H' → ∃ d w2, items[i]? = some d ∧ w2.H = H' ∧ Le w w2 ∧ SR K ct w2 ∧ w2.st = w.st ∧ Rep K ct w2.G w2.m d x
abbrev rI (K : PySem.W.Frag) (ct : String → Addr) : List D → It → Vw → Prop := fun items J v => ItOk K ct J v items
def liftI (K : PySem.W.Frag) (C : Cc) (f : As) : TI := fun σ H P => ∃ δ v, RE K C σ δ v ∧ v.H = H ∧ on K C σ v (rI K C.ct) (f δ v.st) fun _ J v' => P J v'.H
abbrev SI (X : Cx) (C : Cc) (tg e : Expr) (f : As) : Prop := PI X tg e (liftI X.K C f)
theorem pi_weak {X : Cx} {tg e : Expr} {t t' : TI} (h : PI X tg e t) (w : ∀ σ H Q, t' σ H Q → t σ H Q) : PI X tg e t' := ⟨fun pins s σ H Q I z => h.run pins s σ H Q I (w σ H Q z)⟩
def forD (p : Pt) (body : S) : List D → Sl → Sto → RS
  | [], δ, s => .nx δ s
  | d :: ds, δ, s => match bindP p d δ with
    | none => .stk
    | some δ1 => match body δ1 s with
      | .nx δ2 s2 => forD p body ds δ2 s2
      | .ct δ2 s2 => forD p body ds δ2 s2
      | .bk δ2 s2 => .nx δ2 s2
      | r => r
def sFor (it : As) (p : Pt) (body : S) : S := fun δ s => sBind (it δ s) δ fun items s1 => forD p body items δ s1
section
variable {X : Cx} {C : Cc} {pos : Pos} {tg iter : Expr}
theorem ss_for {body : List Stmt} {f : As} {p : Pt} {fb : S} (hp : PassesOwn (model X.prog X.w) X.A X.env X.xe) (hc : X.calm = true) (hi : SI X C tg iter f) (hg : SG X C tg p) (hb : SSs X C body fb)
    (hs : ∀ x, foldedSetIterable iter X.env x = pure x := by intro _; rfl) : SS X C (.For tg iter body [] pos) (sFor f p fb) := ps_weak (ps_for hp hc hi hg hb hs) fun Dn σ H ⟨δ, v, re, eH, h⟩ => by
  refine ⟨δ, v, re, eH, on_mono (onS_R re h) fun items J v1 l1 s1 ok h0 => ?_⟩
  refine ⟨fun i m σ H => m = items.length - i ∧ i ≤ items.length ∧ ∃ δ w, RE X.K C σ δ w ∧ w.H = H ∧ Le v1 w ∧ onS X.K C w (forD p fb (items.drop i) δ w.st) Dn, ⟨items.length, by simp, Nat.zero_le _, δ, v1, re.step l1 s1, rfl, .refl, h0⟩, ?_⟩
  rintro i m σ2 H2 ⟨rfl, hi, δ2, w, re2, rfl, lw, q⟩
  by_cases hlt : i < items.length
  · refine .inr ⟨ok.go i w lw re2.sr hlt, fun σ H => ∃ δ w, RE X.K C σ δ w ∧ w.H = H ∧ Le v1 w ∧ onS X.K C w (forD p fb (items.drop (i + 1)) δ w.st) Dn, fun σ' H' n => ⟨items.length - (i + 1), by omega, rfl, hlt, n⟩, fun x H' y => ?_⟩
    obtain ⟨d, w3, ed, rfl, l3, s3, e3, r3⟩ := ok.yld i w x H' lw re2.sr hlt y
    have ed2 : items.drop i = d :: items.drop (i + 1) := by
      rw [List.drop_eq_getElem_cons hlt]
      rw [List.getElem?_eq_getElem hlt] at ed
      rw [Option.some.inj ed]
    rw [ed2] at q
    simp only [forD] at q
    cases eb : bindP p d δ2 with
    | none => rw [eb] at q; exact q.elim
    | some δ3 =>
      rw [eb] at q
      refine ⟨d, δ2, w3, δ3, re2.step l3 s3, rfl, r3, eb, fun σ4 re4 _ => ⟨δ3, w3, re4, rfl, ?_⟩⟩
      simp only at q
      rw [e3]
      cases ef : fb δ3 w.st with
      | nx δ4 s4 => rw [ef] at q; exact fun σ' w' re' l' es => ⟨δ4, w', re', rfl, (lw.trans l3).trans l', by subst es; exact onS_same (l3.trans l') q⟩
      | ct δ4 s4 => rw [ef] at q; exact fun σ' w' re' l' es => ⟨δ4, w', re', rfl, (lw.trans l3).trans l', by subst es; exact onS_same (l3.trans l') q⟩
      | bk δ4 s4 => rw [ef] at q; exact fun σ' w' re' l' es => q σ' w' re' (l3.trans l') es
      | rt d s4 => rw [ef] at q; exact q
      | exc e4 δ4 s4 => rw [ef] at q; exact fun cls dd σ' w' re' l' es rx => q cls dd σ' w' re' (l3.trans l') es rx
      | stk => rw [ef] at q; exact q
  · have ei : i = items.length := by omega
    subst ei
    rw [List.drop_length] at q
    exact .inl ⟨ok.stop _ w lw re2.sr (Nat.le_refl _), q σ2 w re2 .refl rfl⟩

/-! ### what is walked -/
theorem itOk_list {K : PySem.W.Frag} {ct : String → Addr} {v : Vw} {a : Addr} {vs : List V} {ds : List D} (h : SqL K v.G a vs) (r : RepL K ct v.G v.m ds vs) : ItOk K ct (Itl K a) v ds where
  go := fun i w l s hi => by
    obtain ⟨x, e, _⟩ := r.get (List.getElem?_eq_getElem hi)
    exact ⟨vs, x, s.sub.seq (l.g.seq h), e⟩
  stop := fun i w l s hi => ⟨vs, s.sub.seq (l.g.seq h), by rw [← r.length]; exact hi⟩
  yld := fun i w x H' l s hi y => by
    obtain ⟨x', e, rv⟩ := r.get (List.getElem?_eq_getElem hi)
    obtain ⟨rfl, y2⟩ := y
    have z := y2 vs (s.sub.seq (l.g.seq h))
    rw [e] at z
    cases z
    exact ⟨_, w, List.getElem?_eq_getElem hi, rfl, .refl, s, rfl, l.rep rv⟩
theorem itOk_tup {K : PySem.W.Frag} {ct : String → Addr} {v : Vw} {a : Addr} {vs : List V} {ds : List D} (h : SqT K v.G a vs) (r : RepL K ct v.G v.m ds vs) : ItOk K ct (Itt K a) v ds where
  go := fun i w l s hi => by
    obtain ⟨x, e, _⟩ := r.get (List.getElem?_eq_getElem hi)
    exact ⟨vs, x, sqt_mono s.sub (sqt_mono l.g h), e⟩
  stop := fun i w l s hi => ⟨vs, sqt_mono s.sub (sqt_mono l.g h), by rw [← r.length]; exact hi⟩
  yld := fun i w x H' l s hi y => by
    obtain ⟨x', e, rv⟩ := r.get (List.getElem?_eq_getElem hi)
    obtain ⟨rfl, y2⟩ := y
    have z := y2 vs (sqt_mono s.sub (sqt_mono l.g h))
    rw [e] at z
    cases z
    exact ⟨_, w, List.getElem?_eq_getElem hi, rfl, .refl, s, rfl, l.rep rv⟩
theorem itOk_str {K : PySem.W.Frag} {ct : String → Addr} {v : Vw} {x : Str} : ItOk K ct (Its x) v (signs x) where
  go := fun i w l s hi => by show i < x.cps.size; simpa [signs] using hi
  stop := fun i w l s hi => by show x.cps.size ≤ i; simpa [signs] using hi
  yld := fun i w z H' l s hi y => by
    obtain ⟨rfl, c, e, rfl⟩ := y
    refine ⟨.str ⟨#[c]⟩, w, ?_, rfl, .refl, s, rfl, .str _⟩
    simp [signs, e]
/-- the things of a list (frozen), a tuple, a text -/
def seqOf : D → Option (List D)
  | .lst xs => some xs
  | .tup xs => some xs
  | .str x => some (signs x)
  | _ => none
def iSeq (f : E) : As := fun δ s => (f δ s).bind fun d s1 => R.ofO (seqOf d) s1
theorem si_seq {e : Expr} {f : E} (he : SE X C e f) : SI X C tg e (iSeq f) := by
  refine ⟨fun pins s σ H Rr I ⟨δ, v, re, eH, h⟩ => ?_⟩
  unfold iSeq at h
  have hz := on_bind (rel := rE X.K C.ct) h
  cases q : f δ v.st with
  | stk => rw [q] at hz; exact hz.elim
  | exc e s1 => exact (pi_list he).run pins s σ H Rr I ⟨δ, v, re, eH, by rw [q] at hz ⊢; exact hz⟩
  | ok d s1 =>
    rw [q] at hz
    have go : ∀ (P : V → Vw → Prop), (∀ x v1, Le v v1 → SR X.K C.ct v1 → v1.st = s1 → Rep X.K C.ct v1.G v1.m d x → P x v1) → on X.K C σ v (rE X.K C.ct) (f δ v.st) fun _ x v' => P x v' := fun P w => by rw [q]; exact w
    cases d with
    | lst xs =>
      refine (pi_list he).run pins s σ H Rr I ⟨δ, v, re, eH, go _ fun x v1 l1 sr1 es r1 => ?_⟩
      have h9 := hz x v1 l1 sr1 es r1
      cases r1 with
      | @lst a vs _ p rl => exact ⟨a, rfl, ⟨vs, sr1.sub.seq p⟩, on_self sr1 h9 (itOk_list p rl)⟩
    | tup xs =>
      refine (pi_tup he).run pins s σ H Rr I ⟨δ, v, re, eH, go _ fun x v1 l1 sr1 es r1 => ?_⟩
      have h9 := hz x v1 l1 sr1 es r1
      cases r1 with
      | @tup a vs _ p rl => exact ⟨a, rfl, ⟨vs, sqt_mono sr1.sub p⟩, on_self sr1 h9 (itOk_tup p rl)⟩
    | str z =>
      refine (pi_str he).run pins s σ H Rr I ⟨δ, v, re, eH, go _ fun x v1 l1 sr1 es r1 => ?_⟩
      have h9 := hz x v1 l1 sr1 es r1
      cases r1
      exact ⟨z, rfl, on_self sr1 h9 itOk_str⟩
    | _ => exact (pi_list he).run pins s σ H Rr I ⟨δ, v, re, eH, go _ fun x v1 l1 sr1 es r1 => (hz x v1 l1 sr1 es r1).elim⟩
/-- the whole numbers lo, lo + 1, .. -/
def rngD (lo : Int) (n : Nat) : List D := (List.range n).map fun (i : Nat) => .int (lo + (i : Int))
theorem ints_get {lo : Int} {n i : Nat} (h : i < n) : (rngD lo n)[i]? = some (.int (lo + (i : Int))) := by simp [rngD, h]
theorem itOk_rng {K : PySem.W.Frag} {ct : String → Addr} {v : Vw} {lo : Int} {n : Nat} : ItOk K ct (Itr lo n) v (rngD lo n) where
  go := fun i w l s hi => by show i < n; simpa [rngD] using hi
  stop := fun i w l s hi => by show n ≤ i; simpa [rngD] using hi
  yld := fun i w z H' l s hi y => by
    obtain ⟨rfl, rfl⟩ := y
    exact ⟨_, w, ints_get (by simpa [rngD] using hi), rfl, .refl, s, rfl, .int _⟩
def iRange1 (a : As) : As := fun δ s => (a δ s).bind fun ds s1 => match ds with
  | [.int j] => if -(2 ^ 62) ≤ j ∧ j < 2 ^ 62 then .ok (rngD 0 j.toNat) s1 else .stk
  | _ => .stk
def iRange2 (a : As) : As := fun δ s => (a δ s).bind fun ds s1 => match ds with
  | [.int i, .int j] => if -(2 ^ 62) ≤ i ∧ i < 2 ^ 62 ∧ -(2 ^ 62) ≤ j ∧ j < 2 ^ 62 then .ok (rngD i (j - i).toNat) s1 else .stk
  | _ => .stk
theorem si_range1 {a : Expr} {f : As} {p pos : Pos} (hg : Gl X "range") (hm : X.mg "range" = none) (ha : SA X C [a] f) (hs : starEach [a] X.env = [(false, eval a X.env)] := by rfl) : SI X C tg (.Call (.Name "range" p) [a] [] pos) (iRange1 f) :=
  pi_weak (pi_range1 hg hm ha hs) fun σ H P ⟨δ, v, re, eH, h⟩ => ⟨δ, v, re, eH, on_mono (on_bind h) fun ds vs v1 l1 s1 r1 h1 => by
    split at h1
    · rename_i j
      cases r1 with
      | cons r2 r3 =>
        cases r2; cases r3
        split at h1
        · rename_i hz
          exact ⟨j, rfl, hz.1, hz.2, on_self s1 h1 itOk_rng⟩
        · exact h1.elim
    · exact h1.elim⟩
theorem si_range2 {a b : Expr} {f : As} {p pos : Pos} (hg : Gl X "range") (hm : X.mg "range" = none) (ha : SA X C [a, b] f) (hs : starEach [a, b] X.env = [(false, eval a X.env), (false, eval b X.env)] := by rfl) (hs2 : starEach [b] X.env = [(false, eval b X.env)] := by rfl) :
    SI X C tg (.Call (.Name "range" p) [a, b] [] pos) (iRange2 f) :=
  pi_weak (pi_range2 hg hm ha hs hs2) fun σ H P ⟨δ, v, re, eH, h⟩ => ⟨δ, v, re, eH, on_mono (on_bind h) fun ds vs v1 l1 s1 r1 h1 => by
    split at h1
    · rename_i i j
      cases r1 with
      | cons r2 r3 =>
        cases r3 with
        | cons r3 r4 =>
          cases r2; cases r3; cases r4
          split at h1
          · rename_i hz
            exact ⟨i, j, rfl, hz, on_self s1 h1 itOk_rng⟩
          · exact h1.elim
    · exact h1.elim⟩
end

/-! ### while -/
def whileD (c : T) (body : S) : Nat → Sl → Sto → RS
  | 0, _, _ => .stk
  | n + 1, δ, s => match c δ s with
    | .ok true s1 => match body δ s1 with
      | .nx δ2 s2 => whileD c body n δ2 s2
      | .ct δ2 s2 => whileD c body n δ2 s2
      | .bk δ2 s2 => .nx δ2 s2
      | r => r
    | .ok false s1 => .nx δ s1
    | .exc e s1 => .exc e δ s1
    | .stk => .stk
section
variable {X : Cx} {C : Cc} {pos : Pos}
theorem ss_while (n : Nat) {c : Expr} {body : List Stmt} {t : T} {fb : S} (hp : PassesOwn (model X.prog X.w) X.A X.env X.xe) (hc : ST X C c t) (hb : SSs X C body fb) : SS X C (.While c body [] pos) (whileD t fb n) :=
  ps_weak (ps_while hp hc hb) fun Dn σ H ⟨δ, v, re, eH, h⟩ => by
    refine ⟨fun m σ H => ∃ δ v, RE X.K C σ δ v ∧ v.H = H ∧ onS X.K C v (whileD t fb m δ v.st) Dn, ⟨n, δ, v, re, eH, h⟩, ?_⟩
    rintro m σ2 H2 ⟨δ2, w, re2, rfl, q⟩
    cases m with
    | zero => exact q.elim
    | succ m =>
      simp only [whileD] at q
      refine ⟨δ2, w, re2, rfl, ?_⟩
      cases e : t δ2 w.st with
      | stk => rw [e] at q; exact q.elim
      | exc ex s1 => rw [e] at q; exact onX_of re2 q
      | ok b s1 =>
        rw [e] at q
        intro b2 w3 l3 s3 es eb
        cases eb
        cases b with
        | false =>
          rw [if_neg Bool.false_ne_true]
          exact q σ2 w3 (re2.step l3 s3) l3 es
        | true =>
          rw [if_pos rfl]
          refine ⟨fun σ H => ∃ δ v, RE X.K C σ δ v ∧ v.H = H ∧ onS X.K C v (whileD t fb m δ v.st) Dn, fun σ' H' z => ⟨m, Nat.lt_succ_self _, z⟩, δ2, w3, re2.step l3 s3, rfl, ?_⟩
          simp only at q
          subst es
          cases ef : fb δ2 w3.st with
          | nx δ4 s4 => rw [ef] at q; exact fun σ' w' re' l' es => ⟨δ4, w', re', rfl, by subst es; exact onS_same (l3.trans l') q⟩
          | ct δ4 s4 => rw [ef] at q; exact fun σ' w' re' l' es => ⟨δ4, w', re', rfl, by subst es; exact onS_same (l3.trans l') q⟩
          | bk δ4 s4 => rw [ef] at q; exact fun σ' w' re' l' es => q σ' w' re' (l3.trans l') es
          | rt d s4 => rw [ef] at q; exact q
          | exc e4 δ4 s4 => rw [ef] at q; exact fun cls dd σ' w' re' l' es rx => q cls dd σ' w' re' (l3.trans l') es rx
          | stk => rw [ef] at q; exact q
end
end Gs

/-! G6: defs by their function over data and store, calls, new lists, comprehensions, methods of lists. -/
namespace Gs
open PySem L2

/-- a def's promise: what its function says of the arguments' data and the store -/
def spG (K : PySem.W.Frag) (ct : String → Addr) (n : Nat) (F : List D → Sto → R D) : Sp := fun vs H Q E => ∃ v ds, v.H = H ∧ SR K ct v ∧ ds.length = n ∧ RepL K ct v.G v.m ds vs ∧ match F ds v.st with
  | .ok d s => ∀ x v', Le v v' → SR K ct v' → v'.st = s → Rep K ct v'.G v'.m d x → Q x v'.H
  | .exc e s => ∀ cls dd v', Le v v' → SR K ct v' → v'.st = s → RepX K ct v' e cls dd → E cls dd v'.H
  | .stk => False
/-- a body as a function of the arguments: N names -/
def runG (N : Nat) (body : S) (ds : List D) (s : Sto) : R D := match body (ds.map some ++ List.replicate (N - ds.length) none) s with
  | .nx _ s' => .ok .non s'
  | .rt d s' => .ok d s'
  | .exc e _ s' => .exc e s'
  | _ => .stk
theorem re_start {K : PySem.W.Frag} {C : Cc} {v : Vw} {ds : List D} {vs : List V} {N : List Str} (l : Le C.v0 v) (sr : SR K C.ct v) (r : RepL K C.ct v.G v.m ds vs) (hn : ds.length ≤ N.length) : RE K C (L2.start N vs) (ds.map some ++ List.replicate (N.length - ds.length) none) v := by
  have hl := r.length
  refine ⟨l, sr, by simp [L2.start]; omega, fun i d hs => ?_⟩
  unfold L2.start
  by_cases h : i < ds.length
  · rw [List.getElem?_append_left (by simpa using h)] at hs
    rw [List.getElem?_append_left (by simp; omega)]
    obtain ⟨x, e1, r1⟩ := r.get (List.getElem?_eq_getElem h)
    rw [List.getElem?_map, List.getElem?_eq_getElem h] at hs
    rw [List.getElem?_map, e1]
    cases hs
    exact ⟨x, rfl, r1⟩
  · rw [List.getElem?_append_right (by simpa using h)] at hs
    rw [List.getElem?_replicate] at hs
    split at hs
    · cases hs
    · exact nomatch hs
section
variable {P : Program} {w : World} {K : PySem.W.Frag} {mg : Str → Option Value} {base : Heap} {ct : String → Addr}
/-- a def of the text keeps the promise of its body's function -/
theorem fn_ok {x qual : Str} {st : Stmt} {f : Addr} {fd : FuncData} {N ps : List Str} {k : Nat} {body : S} (F : L2.Fun K x qual st f fd) (sc : FnScope N ps (defScope st)) (hn : ps.length ≤ N.length)
    (hb : ∀ (cdv : Value) (A : Around) (outer : List Env) (s : Shared) (H : Hp) (v : Vw) (E : XK), Room k (A.deeper (PyProof.Rows.envOfC qual (defScope st) s.heap.objs.size f cdv)) →
      SSs (cxOf (L2.CX P w) P w K mg base N qual (defScope st) f cdv A outer s H E) ⟨v, ct, fun cls d _ H => E cls d H⟩ (defBody st) body) :
    FnOk P w K mg base (L2.CX P w) (k + 1) f fd ps (spG K ct ps.length (runG N.length body)) := by
  refine F.okX sc (fun vs H Q E ⟨v, ds, e, sr, l, r, _⟩ => by rw [← l, r.length]) (fun cdv A outer s H vs Q E hr ⟨v, ds, e, sr, l, r, h⟩ => ⟨_, hb cdv A outer s H v E hr, ?_⟩)
  subst e
  have rs : RE K ⟨v, ct, fun cls d _ H => E cls d H⟩ (L2.start N vs) (ds.map some ++ List.replicate (N.length - ds.length) none) v := re_start .refl sr r (by omega)
  refine ⟨_, v, rs, rfl, ?_⟩
  unfold runG at h
  cases e : body (ds.map some ++ List.replicate (N.length - ds.length) none) v.st with
  | nx δ s => rw [e] at h; exact fun σ' v' re l es => h .non v' l re.sr es .non
  | rt d s => rw [e] at h; exact fun x v' l sr' es r => h x v' l sr' es r
  | exc e2 δ s => rw [e] at h; exact fun cls dd σ' v' re l es rx => h cls dd v' l re.sr es rx
  | bk δ s => rw [e] at h; exact h.elim
  | ct δ s => rw [e] at h; exact h.elim
  | stk => rw [e] at h; exact h.elim
theorem fn_zero {f : Addr} {fd : FuncData} {ps : List Str} : FnOk P w K mg base (L2.CX P w) 0 f fd ps (spG K ct ps.length fun _ _ => .stk) :=
  ⟨fun vs H Q E ⟨v, ds, e, sr, l, r, h⟩ => h.elim, fun A outer s H args us vs Q E _ _ _ _ ⟨v, ds, e, sr, l, r, h⟩ => h.elim⟩
end

/-! ### calls -/
def eCall (F : List D → Sto → R D) (a : As) : E := fun δ s => (a δ s).bind F
/-- an argument list gives as many as it has -/
def LenA (fa : As) (n : Nat) : Prop := ∀ δ s ds s', fa δ s = .ok ds s' → ds.length = n
theorem lenA_nil : LenA aNil 0 := fun δ s ds s' h => by cases h; rfl
theorem lenA_cons {f : E} {r : As} {n : Nat} (h : LenA r n) : LenA (aCons f r) (n + 1) := fun δ s ds s' e => by
  unfold aCons at e
  cases q : f δ s with
  | stk => rw [q] at e; exact nomatch e
  | exc e2 s2 => rw [q] at e; exact nomatch e
  | ok d s2 =>
    rw [q] at e
    cases q2 : r δ s2 with
    | stk => simp only [R.bind, q2] at e; exact nomatch e
    | exc e2 s3 => simp only [R.bind, q2] at e; exact nomatch e
    | ok xs s3 =>
      simp only [R.bind, q2, R.ok.injEq] at e
      rw [← e.1]
      simp [h δ s2 xs s3 q2]
theorem on_eq {α β : Type} {K : PySem.W.Frag} {C : Cc} {σ : L2.St} {v : Vw} {rel : α → β → Vw → Prop} {r : R α} {P : α → β → Vw → Prop} (h : on K C σ v rel r P) : on K C σ v rel r fun a b v' => P a b v' ∧ ∃ s, r = .ok a s := by
  cases r with
  | ok a s => exact fun b v' l sr e q => ⟨h b v' l sr e q, s, rfl⟩
  | exc e s => exact h
  | stk => exact h
section
variable {X : Cx} {C : Cc} {pos p : Pos} {x : Str} {e : Expr} {es : List Expr} {fa : As} {k n : Nat} {f : Addr} {fd : FuncData} {ps : List Str} {F : List D → Sto → R D}
theorem on_sp {K : PySem.W.Frag} {σ : L2.St} {v : Vw} {ds : List D} {vs : List V} {Q : VK} (sr : SR K C.ct v) (hl : ds.length = n) (r : RepL K C.ct v.G v.m ds vs) (h : on K C σ v (rE K C.ct) (F ds v.st) fun _ x v' => Q x v'.H) : spG K C.ct n F vs v.H Q (WE C.W σ) := by
  refine ⟨v, ds, rfl, sr, hl, r, ?_⟩
  cases q : F ds v.st with
  | ok d s => rw [q] at h; exact h
  | exc e s => rw [q] at h; exact h
  | stk => rw [q] at h; exact h
theorem se_call (hF : FnOk X.prog X.w X.K X.mg X.base (L2.CX X.prog X.w) k f fd ps (spG X.K C.ct n F)) (hr : Room k X.A) (tk : Takes X C.W) (hg : Gl X x) (hm : X.mg x = some (.ref f)) (hk : PySem.W.keepIn X.K (.ref f) = true) (hb : Binds X.K fd ps [])
    (ha : SA X C (e :: es) fa) (hl : LenA fa n) (hdb : (x == ("__debug__" : Str)) = false := by decide) (he : starEach (e :: es) X.env = (false, eval e X.env) :: starEach es X.env := by rfl) (hpl : (backTo pos (starEach es X.env)).any (·.1) = false := by rfl) :
    SE X C (.Call (.Name x p) (e :: es) [] pos) (eCall F fa) :=
  pe_weak (pe_callS hF hr hg hm hk hb (fun σ => passAt tk σ) ha hdb he hpl) fun σ H Q ⟨δ, v, re, eH, h⟩ => ⟨δ, v, re, eH, on_mono (on_eq (on_bind h)) fun ds vs v1 l1 s1 r1 h1 => by
    obtain ⟨h1, s, q⟩ := h1
    exact on_sp s1 (hl _ _ _ _ q) r1 h1⟩
end

/-! ### new lists -/
def onF (K : PySem.W.Frag) (C : Cc) (σ : L2.St) (v : Vw) (r : R (List D)) (P : List D → Addr → Vw → Prop) : Prop := match r with
  | .ok xs s => ∀ p vs v', Le v v' → SR K C.ct v' → v'.st = s → v.H p = none → v'.G p = none → v'.H p = some (.lst vs) → ¬ v'.owns p → RepL K C.ct v'.G v'.m xs vs → P xs p v'
  | .exc e s => onX K C σ v e s
  | .stk => False
abbrev Fr := Sl → Sto → R (List D)
def liftF (K : PySem.W.Frag) (C : Cc) (f : Fr) : TE := fun σ H Q => ∃ δ v, RE K C σ δ v ∧ v.H = H ∧ onF K C σ v (f δ v.st) fun _ p v' => Q (.ref p) v'.H
abbrev SF (X : Cx) (C : Cc) (e : Expr) (f : Fr) : Prop := PE X e (liftF X.K C f)
/-- a new list, frozen; a thing of the store -/
def eFz (f : Fr) : E := fun δ s => (f δ s).bind fun xs s1 => .ok (.lst xs) s1
def eNw (f : Fr) : E := fun δ s => (f δ s).bind fun xs s1 => .ok (.ob s1.length) (s1 ++ [.lst xs])
section
variable {K : PySem.W.Frag} {ct : String → Addr}
theorem owns_same {G G' H H' : Hp} {m : Nat → Option Addr} {st : Sto} {b : Addr} (hh : ∀ (i : Nat) (o : O) (a : Addr), st[i]? = some o → o.live = true → m i = some a → ∀ C fs dx, H' a = some (.ins C dx fs) → H a = some (.ins C dx fs)) (h : (Vw.mk G' H' m st).owns b) : (Vw.mk G H m st).owns b := by
  obtain ⟨i, o, a, e, l, em, z⟩ := h
  refine ⟨i, o, a, e, l, em, z.imp id fun ⟨C, fs, q⟩ => ⟨C, fs, hh i o a e l em C fs b q⟩⟩
/-- a new object that is none of the store's, frozen -/
theorem frz_new {v v' : Vw} {p : Addr} {u : HO} (l : Le v v') (s : SR K ct v') (hp : v.H p = none) (gp : v'.G p = none) (hu : v'.H p = some u) (no : ¬ v'.owns p) : Le v ⟨upd v'.G p u, v'.H, v'.m, v'.st⟩ ∧ SR K ct ⟨upd v'.G p u, v'.H, v'.m, v'.st⟩ := by
  have sg := same_new gp u
  refine ⟨⟨l.g.trans sg, l.m, l.h, fun b q => ?_, fun b q => l.ow b (owns_same (fun _ _ _ _ _ _ _ _ _ z => z) q), l.al⟩, fun b w q => ?_, s.dom, fun i o e lv => ?_, s.inj⟩
  · by_cases z : b = p
    · exact .inr (.inl (z ▸ hp))
    · have q' : upd v'.G p u b ≠ none := q
      rw [upd_ne z] at q'
      exact l.nw b q'
  · have q' : upd v'.G p u b = some w := q
    by_cases z : b = p
    · rw [z, upd_same] at q'
      cases q'
      show v'.H b = some u
      rw [z]
      exact hu
    · rw [upd_ne z] at q'
      exact s.sub _ _ q'
  · obtain ⟨a, em, ga, r⟩ := s.obj i o e lv
    have na : a ≠ p := fun z => no ⟨i, o, a, e, lv, em, .inl z.symm⟩
    exact ⟨a, em, (upd_ne na).trans ga, r.mono' (v := v') sg .refl rfl fun C dx fs q0 q1 q2 => ⟨rfl, (upd_ne fun z => no ⟨i, o, a, e, lv, em, .inr ⟨C, fs, by rw [← z]; exact q0⟩⟩).trans q2⟩⟩
/-- a new list, from here on the store's -/
theorem adopt {v v' : Vw} {p : Addr} {xs : List D} {vs : List V} (l : Le v v') (s : SR K ct v') (hp : v.H p = none) (gp : v'.G p = none) (hu : v'.H p = some (.lst vs)) (no : ¬ v'.owns p) (r : RepL K ct v'.G v'.m xs vs) :
    Le v (v'.alloc p v'.H (.lst xs)) ∧ SR K ct (v'.alloc p v'.H (.lst xs)) := by
  have m0 : v'.m v'.st.length = none := s.dom _ (Nat.le_refl _)
  have gr : Grow v'.m (mset v'.m v'.st.length p) := mset_grow m0
  have get : ∀ {i : Nat} {u : O}, (v'.alloc p v'.H (.lst xs)).st[i]? = some u → (i < v'.st.length ∧ v'.st[i]? = some u) ∨ (i = v'.st.length ∧ u = .lst xs) := fun e => get_snoc e
  have np : ∀ {i : Nat} {u : O} {a : Addr}, v'.st[i]? = some u → u.live = true → v'.m i = some a → a ≠ p := fun {i u a} e lv em z => no ⟨i, u, a, e, lv, em, .inl z.symm⟩
  refine ⟨⟨l.g, l.m.trans gr, l.h, l.nw, fun b ⟨i, u, a, e, lv, em, q⟩ => ?_, l.al⟩, s.sub, fun i hi => ?_, fun i u e lv => ?_, fun i j u w a e1 e2 l1 l2 m1 m2 => ?_⟩
  · have em' : mset v'.m v'.st.length p i = some a := em
    rcases get e with ⟨z, e⟩ | ⟨rfl, rfl⟩
    · rw [mset_ne (Nat.ne_of_lt z)] at em'
      exact l.ow b ⟨i, u, a, e, lv, em', q⟩
    · rw [mset_same] at em'
      cases em'
      rcases q with rfl | ⟨C, fs, q⟩
      · exact .inr hp
      · have q' : v'.H p = some (.ins C b fs) := q
        rw [hu] at q'
        cases q'
  · have hl : v'.st.length + 1 ≤ i := by simpa [Vw.alloc] using hi
    show mset v'.m v'.st.length p i = none
    rw [mset_ne (by omega)]
    exact s.dom i (by omega)
  · rcases get e with ⟨z, e⟩ | ⟨rfl, rfl⟩
    · obtain ⟨a, em, ga, r⟩ := s.obj i u e lv
      exact ⟨a, (mset_ne (Nat.ne_of_lt z)).trans em, ga, r.mono' (v := v') (v' := v'.alloc p v'.H (.lst xs)) (Same.refl _) gr rfl fun C dx fs _ q1 q2 => ⟨rfl, q2⟩⟩
    · exact ⟨p, mset_same, gp, vs, hu, r.mono (Same.refl _) gr⟩
  · have m1' : mset v'.m v'.st.length p i = some a := m1
    have m2' : mset v'.m v'.st.length p j = some a := m2
    rcases get e1 with ⟨z1, f1⟩ | ⟨y1, f1⟩ <;> rcases get e2 with ⟨z2, f2⟩ | ⟨y2, f2⟩
    · rw [mset_ne (Nat.ne_of_lt z1)] at m1'
      rw [mset_ne (Nat.ne_of_lt z2)] at m2'
      exact s.inj i j u w a f1 f2 l1 l2 m1' m2'
    · rw [mset_ne (Nat.ne_of_lt z1)] at m1'
      rw [y2, mset_same] at m2'
      cases m2'
      exact absurd rfl (np f1 l1 m1')
    · rw [mset_ne (Nat.ne_of_lt z2)] at m2'
      rw [y1, mset_same] at m1'
      cases m1'
      exact absurd rfl (np f2 l2 m2')
    · rw [y1, y2]
/-- what is none of the store's, and not frozen, may be changed aside -/
theorem side_ok {v : Vw} {p : Addr} {u : HO} (s : SR K ct v) (gp : v.G p = none) (no : ¬ v.owns p) : SR K ct ⟨v.G, upd v.H p u, v.m, v.st⟩ ∧ ∀ b, (Vw.mk v.G (upd v.H p u) v.m v.st).owns b → v.owns b := by
  have np : ∀ {i : Nat} {o : O} {a : Addr}, v.st[i]? = some o → o.live = true → v.m i = some a → a ≠ p := fun {i o a} e lv em z => no ⟨i, o, a, e, lv, em, .inl z.symm⟩
  refine ⟨⟨fun b w q => ?_, s.dom, fun i o e lv => ?_, s.inj⟩, fun b q => owns_same (fun i o a e lv em C fs dx z => by rwa [upd_ne (np e lv em)] at z) q⟩
  · have q' : v.G b = some w := q
    have z : b ≠ p := fun z => by rw [z, gp] at q'; cases q'
    show upd v.H p u b = some w
    rw [upd_ne z]
    exact s.sub _ _ q'
  · obtain ⟨a, em, ga, r⟩ := s.obj i o e lv
    exact ⟨a, em, ga, r.mono' (v := v) (Same.refl _) .refl (upd_ne (np e lv em)) fun C dx fs q0 q1 q2 => ⟨upd_ne fun z => no ⟨i, o, a, e, lv, em, .inr ⟨C, fs, by rw [← z]; exact q0⟩⟩, q2⟩⟩
end
section
variable {X : Cx} {C : Cc} {pos : Pos} {e : Expr} {es : List Expr} {f : Fr} {r : As}
theorem lift_fz {K : PySem.W.Frag} {σ : L2.St} {H : Hp} {Q : VK} (h : liftE K C (eFz f) σ H Q) : liftF K C f σ H Q := by
  obtain ⟨δ, v, re, eH, h⟩ := h
  refine ⟨δ, v, re, eH, ?_⟩
  unfold eFz at h
  cases q : f δ v.st with
  | stk => rw [q] at h; exact h
  | exc e s => rw [q] at h; exact h
  | ok xs s =>
    rw [q] at h
    intro p vs v' l sr es hp gp hh no r
    obtain ⟨l2, s2⟩ := frz_new l sr hp gp hh no
    exact h (.ref p) ⟨upd v'.G p (.lst vs), v'.H, v'.m, v'.st⟩ l2 s2 es (.lst (SqL.of upd_same) (r.mono (same_new gp _) .refl))
theorem lift_nw {K : PySem.W.Frag} {σ : L2.St} {H : Hp} {Q : VK} (h : liftE K C (eNw f) σ H Q) : liftF K C f σ H Q := by
  obtain ⟨δ, v, re, eH, h⟩ := h
  refine ⟨δ, v, re, eH, ?_⟩
  unfold eNw at h
  cases q : f δ v.st with
  | stk => rw [q] at h; exact h
  | exc e s => rw [q] at h; exact h
  | ok xs s =>
    rw [q] at h
    intro p vs v' l sr es hp gp hh no r
    obtain ⟨l2, s2⟩ := adopt l sr hp gp hh no r
    subst es
    exact h (.ref p) (v'.alloc p v'.H (.lst xs)) l2 s2 rfl (.ob mset_same)
theorem SF.fz (h : SF X C e f) : SE X C e (eFz f) := pe_weak h fun σ H Q z => lift_fz z
theorem SF.nw (h : SF X C e f) : SE X C e (eNw f) := pe_weak h fun σ H Q z => lift_nw z
theorem onF_bind {α β : Type} {K : PySem.W.Frag} {σ : L2.St} {v : Vw} {rel : α → β → Vw → Prop} {r : R α} {k : α → Sto → R (List D)} {P : List D → Addr → Vw → Prop} (h : onF K C σ v (r.bind k) P) : on K C σ v rel r fun a _ v1 => onF K C σ v1 (k a v1.st) P := by
  cases r with
  | ok a s =>
    intro b v1 l sr e q
    subst e
    have h' : onF K C σ v (k a v1.st) P := h
    show onF K C σ v1 (k a v1.st) P
    cases e : k a v1.st with
    | ok xs s2 =>
      rw [e] at h'
      intro p vs v2 l2 sr2 es hp gp hh no rr
      exact h' p vs v2 (l.trans l2) sr2 es (l.al p hp) gp hh no rr
    | exc e2 s2 => rw [e] at h'; exact fun cls dd w l2 => h' cls dd w (l.trans l2)
    | stk => rw [e] at h'; exact h'
  | exc e s => exact h
  | stk => exact h
end
end Gs

/-! G7: new lists: displays, list(..), comprehensions. -/
namespace Gs
open PySem L2
section
variable {X : Cx} {C : Cc} {pos : Pos} {e : Expr} {es : List Expr} {f : Fr} {r : As}
theorem newH {K : PySem.W.Frag} {ct : String → Addr} {v : Vw} {p : Addr} {u : HO} (sr : SR K ct v) (hp : v.H p = none) : Le v ⟨v.G, upd v.H p u, v.m, v.st⟩ ∧ SR K ct ⟨v.G, upd v.H p u, v.m, v.st⟩ ∧ ¬ (Vw.mk v.G (upd v.H p u) v.m v.st).owns p := by
  obtain ⟨l, s⟩ := more_ok sr (same_new hp u)
  refine ⟨l, s, fun q => ?_⟩
  obtain ⟨i, o, a, e, lv, em, z⟩ := q
  obtain ⟨_, w, hw, _⟩ := sr.obj_ne e lv em
  have na : a ≠ p := ne_of_none hw hp
  rcases z with z | ⟨C, fs, z⟩
  · exact na z.symm
  · have z' : upd v.H p u a = some (.ins C p fs) := z
    rw [upd_ne na] at z'
    obtain ⟨h1, _⟩ := sr.dx e lv em z'
    rw [hp] at h1
    cases h1
def fLst (r : As) : Fr := fun δ s => (r δ s).bind fun xs s1 => if xs.length ≤ sizeLine then .ok xs s1 else .stk
theorem sf_lst (h : SA X C es r) : SF X C (.List es pos) (fLst r) := pe_weak (pe_lst h) fun σ H Q ⟨δ, v, re, eH, h⟩ =>
  ⟨δ, v, re, eH, on_mono (onF_bind h) fun ds vs v1 l1 s1 r1 h1 => by
    have hl := r1.length
    by_cases z : ds.length ≤ sizeLine
    · rw [if_pos z] at h1
      refine ⟨by omega, fun p hp => ?_⟩
      obtain ⟨l2, s2, no⟩ := newH (u := .lst vs) s1 hp
      exact h1 p vs ⟨v1.G, upd v1.H p (.lst vs), v1.m, v1.st⟩ l2 s2 rfl hp (s1.free hp) upd_same no r1
    · rw [if_neg z] at h1
      exact h1.elim⟩
/-- list(x) -/
def fList (f : E) : Fr := fun δ s => (f δ s).bind fun d s1 => match rsv s1 d with
  | .lst xs => .ok xs s1
  | .tup xs => .ok xs s1
  | .str x => if x.length ≤ sizeLine then .ok (signs x) s1 else .stk
  | _ => .stk
theorem sf_list (hc : X.calm = true) {x : Str} {p : Pos} {a : Expr} {fa : E} (hx : x = "list") (hg : Gl X x) (hm : X.mg x = none) (ha : SE X C a fa) (hv : bootBuiltins x = some (.type "list")) (hn : x ≠ "__name__" := by decide) (hdb : (x == ("__debug__" : Str)) = false := by decide)
    (he : starEach [a] X.env = (false, eval a X.env) :: starEach [] X.env := by rfl) (hpl : (backTo pos (starEach [] X.env)).any (·.1) = false := by rfl) : SF X C (.Call (.Name x p) [a] [] pos) (fList fa) :=
  ⟨fun pins s σ H Q I ⟨δ, v, re, eH, h⟩ => by
    have go : ∀ (v1 : Vw) (vs : List V) (ds : List D) (c : Addr), Le v v1 → SR X.K C.ct v1 → v1.H c = none → RepL X.K C.ct v1.G v1.m ds vs → onF X.K C σ v1 (.ok ds v1.st) (fun _ p v' => Q (.ref p) v'.H) → Q (.ref c) (upd v1.H c (.lst vs)) := fun v1 vs ds c _ s1 hc rr hh => by
      obtain ⟨l2, s2, no⟩ := newH (u := .lst vs) s1 hc
      exact hh c vs ⟨v1.G, upd v1.H c (.lst vs), v1.m, v1.st⟩ l2 s2 rfl hc (s1.free hc) upd_same no rr
    have hz := onF_bind (rel := rE X.K C.ct) h
    have P1 : PE X (.Call (.Name x p) [a] [] pos) _ := pe_callTy call_list_of hg hm hv (pa_cons ha pa_nil he) hn hdb he hpl
    have seqs : (on X.K C σ v (rE X.K C.ct) (fa δ v.st) fun _ x v' => ∃ p ys, x = .ref p ∧ (SqL X.K v'.H p ys ∨ SqT X.K v'.H p ys) ∧ ∀ l, v'.H l = none → Q (.ref l) (upd v'.H l (.lst ys))) → _ := fun z => P1.run pins s σ H Q I ⟨δ, v, re, eH, on_mono z fun _ x v' _ _ _ ⟨p, ys, e, w⟩ => ⟨p, ys, by rw [e], w⟩⟩
    cases q : fa δ v.st with
    | stk => rw [q] at hz; exact hz.elim
    | exc e s1 => exact seqs (by rw [q] at hz ⊢; exact hz)
    | ok d s1 =>
      rw [q] at hz
      cases z : rsv s1 d with
      | lst xs =>
        refine seqs ?_
        rw [q]
        intro x v1 l1 sr1 es r1
        have h1 := hz x v1 l1 sr1 es r1
        have t := r1.top sr1
        subst es
        simp only [z] at h1
        rw [z] at t
        cases t with
        | @lst a vs _ p q => exact ⟨a, vs, rfl, .inl p, fun c hc => go v1 _ _ c l1 sr1 hc q h1⟩
      | tup xs =>
        refine seqs ?_
        rw [q]
        intro x v1 l1 sr1 es r1
        have h1 := hz x v1 l1 sr1 es r1
        have t := r1.top sr1
        subst es
        simp only [z] at h1
        rw [z] at t
        cases t with
        | @tup a vs _ p q => exact ⟨a, vs, rfl, .inr (sqt_mono sr1.sub p), fun c hc => go v1 _ _ c l1 sr1 hc q h1⟩
      | str y =>
        refine (pe_callTy (call_list_text hc) hg hm hv (pa_cons ha pa_nil he) hn hdb he hpl).run pins s σ H Q I ⟨δ, v, re, eH, ?_⟩
        rw [q]
        intro x v1 l1 sr1 es r1
        have h1 := hz x v1 l1 sr1 es r1
        have t := r1.top sr1
        subst es
        simp only [z] at h1
        rw [z] at t
        cases t
        split at h1
        · rename_i hy
          exact ⟨y, rfl, hy, fun c hc => go v1 _ _ c l1 sr1 hc (RepL.signs y) h1⟩
        · exact h1.elim
      | _ =>
        refine seqs ?_
        rw [q]
        intro x v1 l1 sr1 es r1
        have h1 := hz x v1 l1 sr1 es r1
        subst es
        simp only [z] at h1
        exact h1.elim⟩
end
/-! ### comprehensions -/
def wipeD (δ : Sl) : List Nat → Sl
  | [] => δ
  | v :: vs => (wipeD δ vs).set v none
theorem RE.wipe {K : PySem.W.Frag} {C : Cc} {σ : L2.St} {δ : Sl} {v : Vw} (r : RE K C σ δ v) : ∀ vs : List Nat, RE K C (L2.wipe σ vs) (wipeD δ vs) v
  | [] => r
  | i :: vs => (RE.wipe r vs).setU i none
theorem RE.wish {K : PySem.W.Frag} {C : Cc} {σ : L2.St} {δ : Sl} {v : Vw} (r : RE K C σ δ v) (W : WX) : RE K { C with W := W } σ δ v := ⟨r.le, r.sr, r.len, r.sl⟩
theorem wipe_get (σ : L2.St) : ∀ (vs : List Nat) (j : Nat), (L2.wipe σ vs)[j]? = if j ∈ vs ∧ j < σ.length then some none else σ[j]?
  | [], j => by simp [L2.wipe]
  | v :: vs, j => by
    unfold L2.wipe
    by_cases e : v = j
    · subst e
      by_cases h : v < σ.length
      · rw [List.getElem?_set_self (by rw [wipe_length]; exact h), if_pos ⟨List.mem_cons_self .., h⟩]
      · rw [if_neg fun z => h z.2, List.getElem?_eq_none (by rw [List.length_set, wipe_length]; omega), List.getElem?_eq_none (by omega)]
    · rw [List.getElem?_set_ne e, wipe_get σ vs j]
      have : (j ∈ v :: vs) ↔ j ∈ vs := by simp [Ne.symm e]
      simp only [this]
theorem wipe_off {is vs : List Nat} {σ σ' : L2.St} (o : Off is (L2.wipe σ vs) σ') (h : ∀ i ∈ is, i ∈ vs) : L2.wipe σ' vs = L2.wipe σ vs := by
  have hl : σ'.length = σ.length := by rw [o.1, wipe_length]
  apply List.ext_getElem?
  intro j
  rw [wipe_get, wipe_get, hl]
  by_cases hj : j ∈ vs ∧ j < σ.length
  · rw [if_pos hj, if_pos hj]
  · rw [if_neg hj, if_neg hj]
    by_cases hj2 : j ∈ vs
    · have : ¬ j < σ.length := fun z => hj ⟨hj2, z⟩
      rw [List.getElem?_eq_none (by omega), List.getElem?_eq_none (by omega)]
    · rw [o.2 j fun z => hj2 (h j z), wipe_get, if_neg hj]
abbrev Cc.nox (C : Cc) : Cc := { C with W := fun _ _ _ _ => False }
/-- what the turns give -/
def lcD (p : Pt) (c : T) (e : E) (δ : Sl) : List D → Sto → R (List D)
  | [], s => .ok [] s
  | d :: ds, s => match bindP p d δ with
    | none => .stk
    | some δ1 => match c δ1 s with
      | .ok true s1 => (match e δ1 s1 with
        | .ok y s2 => (match lcD p c e δ ds s2 with
          | .ok r s3 => .ok (y :: r) s3
          | _ => .stk)
        | _ => .stk)
      | .ok false s1 => lcD p c e δ ds s1
      | _ => .stk
theorem lcD_exc {p : Pt} {c : T} {e : E} {δ : Sl} : ∀ (ds : List D) (s : Sto) (ex : Ex) (s' : Sto), lcD p c e δ ds s ≠ .exc ex s'
  | [], s, ex, s', z => nomatch z
  | d :: ds, s, ex, s', z => by
    simp only [lcD] at z
    split at z
    · exact nomatch z
    · split at z
      · split at z
        · split at z <;> exact nomatch z
        · exact nomatch z
      · exact lcD_exc ds _ _ _ z
      · exact nomatch z
def fLc (it : As) (vs : List Nat) (p : Pt) (c : T) (e : E) : Fr := fun δ s => (it δ s).bind fun items s1 => (lcD p c e (wipeD δ vs) items s1).bind fun xs s2 => if xs.length ≤ sizeLine then .ok xs s2 else .stk
def tTrue : T := fun _ s => .ok true s
section
variable {X : Cx} {C : Cc} {pos : Pos}
/-- a list that is being made at L stays aside -/
structure Aside (v : Vw) (L : Addr) (va : List V) : Prop where
  h : v.H L = some (.lst va)
  g : v.G L = none
  no : ¬ v.owns L
theorem Aside.step {v v' : Vw} {L : Addr} {va : List V} (a : Aside v L va) (l : Le v v') : Aside v' L va := by
  refine ⟨l.h _ _ a.h a.no, ?_, fun q => ?_⟩
  · cases z : v'.G L with
    | none => rfl
    | some o =>
      rcases l.nw L (by rw [z]; exact fun y => nomatch y) with y | y | y
      · exact absurd a.g y
      · rw [a.h] at y; cases y
      · exact absurd y a.no
  · rcases l.ow L q with y | y
    · exact a.no y
    · rw [a.h] at y; cases y
theorem lift_lc {K : PySem.W.Frag} {it : As} {vs : List Nat} {p : Pt} {c : T} {e : E} (hp : ∀ i ∈ idxP p, i ∈ vs) {σ : L2.St} {H : Hp} {Q : VK} (h : liftF K C (fLc it vs p c e) σ H Q) :
    tLc (liftI K C it) (liftG K C.nox p) (liftT K C.nox c) (liftE K C.nox e) vs σ H Q := by
  obtain ⟨δ, v, re, eH, h⟩ := h
  refine ⟨δ, v, re, eH, on_mono (onF_bind h) fun items J v1 l1 sr1 ok h1 => ?_⟩
  intro L hD
  have h2 : onF K C σ v1 ((lcD p c e (wipeD δ vs) items v1.st).bind fun xs s2 => if xs.length ≤ sizeLine then .ok xs s2 else .stk) fun _ p v' => Q (.ref p) v'.H := h1
  clear h1
  cases q1 : lcD p c e (wipeD δ vs) items v1.st with
  | stk => rw [q1] at h2; exact h2.elim
  | exc ex s' => exact absurd q1 (lcD_exc _ _ _ _)
  | ok xs s9 =>
    rw [q1] at h2
    have h3 : xs.length ≤ sizeLine ∧ ∀ (va : List V) (v2 : Vw), Le v1 v2 → SR K C.ct v2 → v2.st = s9 → Aside v2 L va → RepL K C.ct v2.G v2.m xs va → Q (.ref L) v2.H := by
      have h4 : onF K C σ v1 (if xs.length ≤ sizeLine then .ok xs s9 else .stk) fun _ p v' => Q (.ref p) v'.H := h2
      by_cases z : xs.length ≤ sizeLine
      · rw [if_pos z] at h4
        exact ⟨z, fun va v2 l2 s2 es a2 ra => h4 L va v2 l2 s2 es hD a2.g a2.h a2.no ra⟩
      · rw [if_neg z] at h4
        exact h4.elim
    obtain ⟨hz, fin⟩ := h3
    clear h2
    have start : ∃ v2, v2.H = upd v1.H L (.lst []) ∧ Le v1 v2 ∧ SR K C.ct v2 ∧ Aside v2 L [] ∧ v2.st = v1.st := by
      obtain ⟨l2, s2, no⟩ := newH (u := .lst []) sr1 hD
      exact ⟨⟨v1.G, upd v1.H L (.lst []), v1.m, v1.st⟩, rfl, l2, s2, ⟨upd_same, sr1.free hD, no⟩, rfl⟩
    refine ⟨fun i m H2 => m = items.length - i ∧ i ≤ items.length ∧ ∃ (v2 : Vw) (acc rest : List D) (va : List V), v2.H = H2 ∧ Le v1 v2 ∧ SR K C.ct v2 ∧ Aside v2 L va ∧ RepL K C.ct v2.G v2.m acc va ∧
      lcD p c e (wipeD δ vs) (items.drop i) v2.st = .ok rest s9 ∧ acc ++ rest = xs, ?_, ?_⟩
    · obtain ⟨v2, e2, l2, s2, a2, es⟩ := start
      exact ⟨items.length, by simp, Nat.zero_le _, v2, [], xs, [], e2, l2, s2, a2, .nil, by rw [es]; exact q1, rfl⟩
    rintro i m H2 ⟨rfl, hi, v2, acc, rest, va, rfl, l2, s2, a2, ra, el, ex⟩
    by_cases hlt : i < items.length
    · refine .inr ⟨ok.go i v2 l2 s2 hlt, fun H3 => ∃ (v2 : Vw) (acc rest : List D) (va : List V), v2.H = H3 ∧ Le v1 v2 ∧ SR K C.ct v2 ∧ Aside v2 L va ∧ RepL K C.ct v2.G v2.m acc va ∧
        lcD p c e (wipeD δ vs) (items.drop (i + 1)) v2.st = .ok rest s9 ∧ acc ++ rest = xs, fun H' n => ⟨items.length - (i + 1), by omega, rfl, hlt, n⟩, fun x H' y => ?_⟩
      obtain ⟨d, v3, ed, rfl, l3, s3, e3, r3⟩ := ok.yld i v2 x H' l2 s2 hlt y
      have ed2 : items.drop i = d :: items.drop (i + 1) := by
        rw [List.drop_eq_getElem_cons hlt]
        rw [List.getElem?_eq_getElem hlt] at ed
        rw [Option.some.inj ed]
      rw [ed2] at el
      simp only [lcD] at el
      cases eb : bindP p d (wipeD δ vs) with
      | none => rw [eb] at el; exact nomatch el
      | some δ1 =>
        rw [eb] at el
        simp only at el
        have re3 := (((re.step l1 sr1).step l2 s2).step l3 s3)
        refine ⟨d, wipeD δ vs, v3, δ1, (re3.wipe vs).wish _, rfl, r3, eb, fun σ4 re4 o4 => ⟨wipe_off o4 hp, δ1, v3, re4, rfl, ?_⟩⟩
        rw [e3]
        cases ec : c δ1 v2.st with
        | stk => rw [ec] at el; exact nomatch el
        | exc _ _ => rw [ec] at el; exact nomatch el
        | ok b s4 =>
          rw [ec] at el
          intro b2 v4 l4 s4' es4 eb2
          cases eb2
          cases b with
          | true =>
            rw [if_pos rfl]
            simp only at el
            refine ⟨δ1, v4, re4.step l4 s4', rfl, ?_⟩
            rw [es4]
            cases ee : e δ1 s4 with
            | stk => rw [ee] at el; exact nomatch el
            | exc _ _ => rw [ee] at el; exact nomatch el
            | ok y0 s5 =>
              rw [ee] at el
              intro y5 v5 l5 s5' es5 r5
              simp only at el
              cases er : lcD p c e (wipeD δ vs) (items.drop (i + 1)) s5 with
              | stk => rw [er] at el; exact nomatch el
              | exc _ _ => rw [er] at el; exact nomatch el
              | ok rest2 s6 =>
                rw [er] at el
                simp only [R.ok.injEq] at el
                obtain ⟨el, es6⟩ := el
                subst el
                subst es6
                have l25 := (l3.trans l4).trans l5
                have a5 := a2.step l25
                have hl := ra.length
                have hl2 : acc.length + (rest2.length + 1) = xs.length := by rw [← ex]; simp
                obtain ⟨s7, ow7⟩ := side_ok (u := .lst (va ++ [y5])) s5' a5.g a5.no
                refine ⟨va, a5.h, by omega, ⟨v5.G, upd v5.H L (.lst (va ++ [y5])), v5.m, v5.st⟩, acc ++ [y0], rest2, va ++ [y5], rfl, ?_, s7, ⟨upd_same, a5.g, fun q => a5.no (ow7 _ q)⟩, (l25.repl ra).append (RepL.one r5), ?_, by rw [List.append_assoc]; exact ex⟩
                · have l15 := l2.trans l25
                  exact ⟨l15.g, l15.m, fun b o hb nb => by
                    show upd v5.H L _ b = some o
                    rw [upd_ne (ne_of_none hb hD)]
                    exact l15.h b o hb nb, l15.nw, fun b q => l15.ow b (ow7 b q), fun b q => by
                    have q' : upd v5.H L (.lst (va ++ [y5])) b = none := q
                    by_cases z : b = L
                    · rw [z, upd_same] at q'; cases q'
                    · rw [upd_ne z] at q'
                      exact l15.al b q'⟩
                · show lcD p c e (wipeD δ vs) (items.drop (i + 1)) v5.st = .ok rest2 s6
                  rw [es5]
                  exact er
          | false =>
            rw [if_neg Bool.false_ne_true]
            simp only at el
            have l24 := l3.trans l4
            exact ⟨v4, acc, rest, va, rfl, l2.trans l24, s4', a2.step l24, l24.repl ra, by rw [es4]; exact el, ex⟩
    · have ei : i = items.length := by omega
      subst ei
      rw [List.drop_length] at el
      simp only [lcD, R.ok.injEq] at el
      obtain ⟨el, es⟩ := el
      subst el
      rw [List.append_nil] at ex
      subst ex
      exact .inl ⟨ok.stop _ v2 l2 s2 (Nat.le_refl _), fin va v2 l2 s2 es a2 ra⟩
abbrev STs (X : Cx) (C : Cc) (ifs : List Expr) (t : T) : Prop := PTs X ifs (liftT X.K C t)
theorem sts_nil : STs X C [] tTrue := ⟨fun pins s σ H Q I ⟨δ, v, re, eH, h⟩ => by
  subst eH
  exact pts_nil.run pins s σ _ Q I (h true v .refl re.sr rfl rfl)⟩
theorem sts_one {c : Expr} {t : T} (h : ST X C c t) : STs X C [c] t := pts_one h
variable {elt tg iter : Expr} {ifs : List Expr} {scope : Scope} {it : As} {p : Pt} {c : T} {e : E}
theorem sf_lc (own : List (Str × Nat)) (hc : X.calm = true) (hN : X.N.Nodup) (hi : SI X C tg iter it) (ok : BlkOk X.N X.env.scope scope own) (hp : ∀ i ∈ idxP p, i ∈ own.map (·.2))
    (hg : ∀ (s : Shared) (H : Hp) (c0 : Addr) (cl : List (Str × Addr)) (fp : List Addr), SG (X.blk s H scope (compEnvC scope cl c0 X.env) fp) C.nox tg p)
    (ht : ∀ (s : Shared) (H : Hp) (c0 : Addr) (cl : List (Str × Addr)) (fp : List Addr), STs (X.blk s H scope (compEnvC scope cl c0 X.env) fp) C.nox ifs c)
    (he : ∀ (s : Shared) (H : Hp) (c0 : Addr) (cl : List (Str × Addr)) (fp : List Addr), SE (X.blk s H scope (compEnvC scope cl c0 X.env) fp) C.nox elt e) (hs : ∀ x, foldedSetIterable iter X.env x = pure x := by intro _; rfl) :
    SF X C (.ListComp elt [⟨tg, iter, ifs, 0⟩] scope pos) (fLc it (own.map (·.2)) p c e) :=
  pe_weak (pe_lc hc hN hi ok hg ht he hs) fun σ H Q h => lift_lc hp h
/-- y = [..] -/
theorem lift_setLc {K : PySem.W.Frag} {f : Fr} {g : Fr → E} {i : Nat} {Dn : Ends} {σ : L2.St} {H : Hp} {tlc : TE} (w : ∀ σ H Q, liftE K C (g f) σ H Q → tlc σ H Q) (h : liftS K C (sSet i (g f)) Dn σ H) : tAsg tlc (gName i) Dn σ H := by
  refine w _ _ _ ?_
  obtain ⟨δ, v, re, eH, h⟩ := h
  exact ⟨δ, v, re, eH, on_mono (onS_R re h) fun d x v1 l1 s1 r1 h1 => h1 (σ.set i (some x)) v1 ((re.step l1 s1).setV i r1) .refl rfl⟩
theorem ss_setLc (i : Nat) {g : Fr → E} {y : Str} {py spos : Pos} (own : List (Str × Nat)) (hgz : ∀ σ H Q, liftE X.K C (g (fLc it (own.map (·.2)) p c e)) σ H Q → liftF X.K C (fLc it (own.map (·.2)) p c e) σ H Q) (hc : X.calm = true) (hN : X.N.Nodup) (hy : X.N[i]? = some y) (hyl : X.env.scope.names.lookup y = some .local)
    (hsw : swapsWith (.ListComp elt [⟨tg, iter, ifs, 0⟩] scope pos) (some (.Name y py)) spos.line X.env = pure true) (hi : SI X C tg iter it) (ok : BlkOk X.N X.env.scope scope own) (hp : ∀ i ∈ idxP p, i ∈ own.map (·.2))
    (hg : ∀ (s : Shared) (H : Hp) (c0 : Addr) (cl : List (Str × Addr)) (fp : List Addr), SG (X.blk s H scope (compEnvC scope cl c0 X.env) fp) C.nox tg p)
    (ht : ∀ (s : Shared) (H : Hp) (c0 : Addr) (cl : List (Str × Addr)) (fp : List Addr), STs (X.blk s H scope (compEnvC scope cl c0 X.env) fp) C.nox ifs c)
    (he : ∀ (s : Shared) (H : Hp) (c0 : Addr) (cl : List (Str × Addr)) (fp : List Addr), SE (X.blk s H scope (compEnvC scope cl c0 X.env) fp) C.nox elt e) (hs : ∀ x, foldedSetIterable iter X.env x = pure x := by intro _; rfl) :
    SS X C (.Assign [.Name y py] (.ListComp elt [⟨tg, iter, ifs, 0⟩] scope pos) spos) (sSet i (g (fLc it (own.map (·.2)) p c e))) :=
  ps_weak (ps_setLc hc hN hy hyl hsw hi ok hg ht he hs) fun Dn σ H h => lift_setLc (g := g) (fun _ _ _ z => lift_lc hp (hgz _ _ _ z)) h
end
end Gs

/-! G8: in, is of truths; lists of the store; walks. -/
namespace Gs
open PySem L2
def gIn : B2
  | .str x, .str z => match x.cps.toList with
    | [c] => some (.bl (decide (c ∈ z.cps.toList)))
    | _ => none
  | .str x, .tup ds => (strsOf ds).map fun zs => .bl (decide (x ∈ zs))
  | .str x, .lst ds => (strsOf ds).map fun zs => .bl (decide (x ∈ zs))
  | .int x, .tup ds => (intsOf ds).map fun zs => .bl (decide (x ∈ zs))
  | .int x, .lst ds => (intsOf ds).map fun zs => .bl (decide (x ∈ zs))
  | _, _ => none
def gNin : B2 := fun x y => match gIn x y with
  | some (.bl b) => some (.bl !b)
  | _ => none
theorem inV_strs (x : Str) : ∀ zs : List Str, inV (.str x) (zs.map V.str) = decide (x ∈ zs)
  | [] => by simp [inV]
  | z :: zs => by
    have ih := inV_strs x zs
    unfold inV at ih ⊢
    rw [List.map_cons, List.any_cons, ih]
    have e : eqV (.str z) (.str x) = (z == x) := rfl
    rw [e]
    by_cases h : z = x
    · simp [h]
    · have h' : ¬ x = z := fun q => h q.symm
      simp [h, h']
theorem flat_strs : ∀ zs : List Str, (zs.map V.str).all flatV = true
  | [] => rfl
  | z :: zs => by
    rw [List.map_cons, List.all_cons, flat_strs zs]
    rfl
theorem inV_ints (x : Int) : ∀ zs : List Int, inV (.int x) (zs.map V.int) = decide (x ∈ zs)
  | [] => by simp [inV]
  | z :: zs => by
    have ih := inV_ints x zs
    unfold inV at ih ⊢
    rw [List.map_cons, List.any_cons, ih]
    have e : eqV (.int z) (.int x) = (z == x) := rfl
    rw [e]
    by_cases h : z = x
    · simp [h]
    · have h' : ¬ x = z := fun q => h q.symm
      simp [h, h']
theorem flat_ints : ∀ zs : List Int, (zs.map V.int).all flatV = true
  | [] => rfl
  | z :: zs => by
    rw [List.map_cons, List.all_cons, flat_ints zs]
    rfl
theorem one_sign {x : Str} {c : Nat} (h : x.cps.toList = [c]) : x = ⟨#[c]⟩ := by
  cases x with
  | mk a =>
    congr 1
    exact Array.toList_inj.mp h
section
variable {X : Cx}
theorem o_in {ct : String → Addr} : OpR X (compareOp .In) (rD X.K ct gIn) := by
  intro pins s σ H x y v u Q I rx ry h
  obtain ⟨v0, dx, dy, d, rfl, sr, e, r1, r2, h⟩ := h
  cases r1 <;> cases r2 <;> simp only [gIn, reduceCtorEq] at e
  · rename_i x a vs ds p q
    cases hz : intsOf ds with
    | none => rw [hz] at e; exact nomatch e
    | some zs =>
      rw [hz] at e
      simp only [Option.map_some, Option.some.injEq] at e
      subst e
      have hd := intsOf_eq hz
      subst hd
      have hv := RepL.of_ints q
      subst hv
      refine op_in_seq pins s σ _ _ _ v u Q I rx ry ⟨a, _, rfl, .inr (sqt_mono sr.sub p), rfl, flat_ints zs, ?_⟩
      rw [inV_ints]
      exact h _ v0 .refl sr rfl (.bl _)
  · rename_i x a vs ds p q
    cases hz : intsOf ds with
    | none => rw [hz] at e; exact nomatch e
    | some zs =>
      rw [hz] at e
      simp only [Option.map_some, Option.some.injEq] at e
      subst e
      have hd := intsOf_eq hz
      subst hd
      have hv := RepL.of_ints q
      subst hv
      refine op_in_seq pins s σ _ _ _ v u Q I rx ry ⟨a, _, rfl, .inl p, rfl, flat_ints zs, ?_⟩
      rw [inV_ints]
      exact h _ v0 .refl sr rfl (.bl _)
  · rename_i x z
    split at e
    · rename_i c hc
      simp only [Option.some.injEq] at e
      subst e
      exact op_in_sign pins s σ _ _ _ v u Q I rx ry ⟨c, z, by rw [one_sign hc], rfl, h _ v0 .refl sr rfl (.bl _)⟩
    · exact nomatch e
  · rename_i x a vs ds p q
    cases hz : strsOf ds with
    | none => rw [hz] at e; exact nomatch e
    | some zs =>
      rw [hz] at e
      simp only [Option.map_some, Option.some.injEq] at e
      subst e
      have hd := strsOf_eq hz
      subst hd
      have hv := RepL.of_strs q
      subst hv
      refine op_in_seq pins s σ _ _ _ v u Q I rx ry ⟨a, _, rfl, .inr (sqt_mono sr.sub p), rfl, flat_strs zs, ?_⟩
      rw [inV_strs]
      exact h _ v0 .refl sr rfl (.bl _)
  · rename_i x a vs ds p q
    cases hz : strsOf ds with
    | none => rw [hz] at e; exact nomatch e
    | some zs =>
      rw [hz] at e
      simp only [Option.map_some, Option.some.injEq] at e
      subst e
      have hd := strsOf_eq hz
      subst hd
      have hv := RepL.of_strs q
      subst hv
      refine op_in_seq pins s σ _ _ _ v u Q I rx ry ⟨a, _, rfl, .inl p, rfl, flat_strs zs, ?_⟩
      rw [inV_strs]
      exact h _ v0 .refl sr rfl (.bl _)
theorem o_nin {ct : String → Addr} : OpR X (compareOp .NotIn) (rD X.K ct gNin) := by
  intro pins s σ H x y v u Q I rx ry h
  obtain ⟨v0, dx, dy, d, rfl, sr, e, r1, r2, h⟩ := h
  unfold gNin at e
  cases r1 <;> cases r2 <;> simp only [gIn, reduceCtorEq] at e
  · rename_i x a vs ds p q
    cases hz : intsOf ds with
    | none => rw [hz] at e; exact nomatch e
    | some zs =>
      rw [hz] at e
      simp only [Option.map_some, Option.some.injEq] at e
      subst e
      have hd := intsOf_eq hz
      subst hd
      have hv := RepL.of_ints q
      subst hv
      refine op_notIn_seq pins s σ _ _ _ v u Q I rx ry ⟨a, _, rfl, .inr (sqt_mono sr.sub p), rfl, flat_ints zs, ?_⟩
      rw [inV_ints]
      exact h _ v0 .refl sr rfl (.bl _)
  · rename_i x a vs ds p q
    cases hz : intsOf ds with
    | none => rw [hz] at e; exact nomatch e
    | some zs =>
      rw [hz] at e
      simp only [Option.map_some, Option.some.injEq] at e
      subst e
      have hd := intsOf_eq hz
      subst hd
      have hv := RepL.of_ints q
      subst hv
      refine op_notIn_seq pins s σ _ _ _ v u Q I rx ry ⟨a, _, rfl, .inl p, rfl, flat_ints zs, ?_⟩
      rw [inV_ints]
      exact h _ v0 .refl sr rfl (.bl _)
  · rename_i x z
    split at e
    · rename_i b hb
      simp only [Option.some.injEq] at e
      subst e
      split at hb
      · rename_i c hc
        simp only [Option.some.injEq, D.bl.injEq] at hb
        subst hb
        exact op_notIn_sign pins s σ _ _ _ v u Q I rx ry ⟨c, z, by rw [one_sign hc], rfl, h _ v0 .refl sr rfl (.bl _)⟩
      · exact nomatch hb
    · exact nomatch e
  · rename_i x a vs ds p q
    cases hz : strsOf ds with
    | none => rw [hz] at e; exact nomatch e
    | some zs =>
      rw [hz] at e
      simp only [Option.map_some, Option.some.injEq] at e
      subst e
      have hd := strsOf_eq hz
      subst hd
      have hv := RepL.of_strs q
      subst hv
      refine op_notIn_seq pins s σ _ _ _ v u Q I rx ry ⟨a, _, rfl, .inr (sqt_mono sr.sub p), rfl, flat_strs zs, ?_⟩
      rw [inV_strs]
      exact h _ v0 .refl sr rfl (.bl _)
  · rename_i x a vs ds p q
    cases hz : strsOf ds with
    | none => rw [hz] at e; exact nomatch e
    | some zs =>
      rw [hz] at e
      simp only [Option.map_some, Option.some.injEq] at e
      subst e
      have hd := strsOf_eq hz
      subst hd
      have hv := RepL.of_strs q
      subst hv
      refine op_notIn_seq pins s σ _ _ _ v u Q I rx ry ⟨a, _, rfl, .inl p, rfl, flat_strs zs, ?_⟩
      rw [inV_strs]
      exact h _ v0 .refl sr rfl (.bl _)
def gIsB : B2
  | .bl a, .bl b => some (.bl (decide (a = b)))
  | _, _ => none
def gNotB : B2
  | .bl a, .bl b => some (.bl (!decide (a = b)))
  | _, _ => none
theorem o_isB {ct : String → Addr} : OpR X (compareOp .Is) (rD X.K ct gIsB) := by
  intro pins s σ H x y v u Q I rx ry h
  obtain ⟨v0, dx, dy, d, rfl, sr, e, r1, r2, h⟩ := h
  cases r1 <;> cases r2 <;> simp only [gIsB, Option.some.injEq, reduceCtorEq] at e
  subst e
  exact op_isBl pins s σ _ _ _ v u Q I rx ry ⟨_, _, rfl, rfl, h _ v0 .refl sr rfl (.bl _)⟩
theorem o_notB {ct : String → Addr} : OpR X (compareOp .IsNot) (rD X.K ct gNotB) := by
  intro pins s σ H x y v u Q I rx ry h
  obtain ⟨v0, dx, dy, d, rfl, sr, e, r1, r2, h⟩ := h
  cases r1 <;> cases r2 <;> simp only [gNotB, Option.some.injEq, reduceCtorEq] at e
  subst e
  exact op_notBl pins s σ _ _ _ v u Q I rx ry ⟨_, _, rfl, rfl, h _ v0 .refl sr rfl (.bl _)⟩
end
/-! ### lists of the store -/
/-- the things of a list of the store -/
def lsO (s : Sto) : D → Option (List D)
  | .ob i => match s[i]? with
    | some (.lst xs) => some xs
    | _ => none
  | _ => none
def stO (s : Sto) (d : D) (xs : List D) : Sto := match d with
  | .ob i => s.set i (.lst xs)
  | _ => s
theorem lsO_at {K : PySem.W.Frag} {ct : String → Addr} {v : Vw} {d : D} {x : V} {xs : List D} (sr : SR K ct v) (r : Rep K ct v.G v.m d x) (e : lsO v.st d = some xs) :
    ∃ i a vs, d = .ob i ∧ x = .ref a ∧ v.m i = some a ∧ v.st[i]? = some (.lst xs) ∧ v.H a = some (.lst vs) ∧ RepL K ct v.G v.m xs vs := by
  unfold lsO at e
  split at e
  · rename_i i
    split at e
    · rename_i ys q
      simp only [Option.some.injEq] at e
      subst e
      cases r with
      | ob em =>
        obtain ⟨a', em', _, vs, h, r2⟩ := sr.obj i _ q rfl
        rw [em] at em'
        cases em'
        exact ⟨i, _, vs, rfl, rfl, em, q, h, r2⟩
    · exact nomatch e
  · exact nomatch e
theorem stO_ok {K : PySem.W.Frag} {ct : String → Addr} {v : Vw} {i : Nat} {a : Addr} {xs ys : List D} {us : List V} (sr : SR K ct v) (em : v.m i = some a) (q : v.st[i]? = some (.lst xs)) (r : RepL K ct v.G v.m ys us) :
    Le v (v.put i a (.lst us) (.lst ys)) ∧ SR K ct (v.put i a (.lst us) (.lst ys)) :=
  put_ok sr q rfl em (fun C b fs z => nomatch z) ⟨us, upd_same, r⟩
section
variable {X : Cx} {C : Cc} {pos : Pos} {o a b e : Expr} {fo fa fb fe : E}
/-- o.append(a) -/
def eApp (o a : E) : E := fun δ s => (o δ s).bind fun x s1 => if (lsO s1 x).isSome = true then ((a δ s1).bind fun y s2 => match lsO s2 x with
  | some xs => if xs.length < sizeLine then .ok .non (stO s2 x (xs ++ [y])) else .stk
  | none => .stk) else .stk
theorem isSome_of {α : Type} {o : Option α} (h : o.isSome = true) : ∃ a, o = some a := Option.isSome_iff_exists.mp h
theorem se_app {p2 p3 : Pos} (ho : SE X C o fo) (ha : SE X C a fa) (hbase : attributeBase o "append" X.env (eval o X.env) = eval o X.env := by rfl)
    (hfew : ((backTo p3 (starEach [a] X.env)).all (fun x => !x.1) && (backToKw p3 (keywordEach [] X.env)).all (fun x => x.1.isSome)
      && decide ([a].length + ([] : List Keyword).length + (if ([] : List Keyword).isEmpty then 0 else 1) < 30)) = true := by rfl)
    (hline : (p2.endLine == p3.line) = true := by rfl) (hst : starEach [a] X.env = (false, eval a X.env) :: starEach [] X.env := by rfl) (hpl : (backTo p3 (starEach [] X.env)).any (·.1) = false := by rfl) :
    SE X C (.Call (.Attribute o "append" p2) [a] [] p3) (eApp fo fa) :=
  pe_weak (pe_bm PySem.F.plainAttrs_list PySem.F.slot_list_append PySem.F.type_list_append mt_append ho (pa_cons ha pa_nil hst) hbase hfew hline hst hpl) fun σ H Q ⟨δ, v, re, eH, h⟩ => by
    refine ⟨δ, v, re, eH, on_mono (on_bind h) fun d x v1 l1 s1 r1 h1 => ?_⟩
    split at h1
    · rename_i hs
      obtain ⟨xs0, e0⟩ := isSome_of hs
      obtain ⟨i, p, vs0, rfl, rfl, em, q0, hh0, _⟩ := lsO_at s1 r1 e0
      refine ⟨.inl ⟨rfl, vs0, SqL.of hh0⟩, δ, v1, re.step l1 s1, rfl, on_mono (on_bind h1) fun y u v2 l2 s2 r2 h2 => ?_⟩
      cases e1 : lsO v2.st (.ob i) with
      | none => rw [e1] at h2; exact h2.elim
      | some xs =>
        rw [e1] at h2
        obtain ⟨i', p', vs, ei, ep, em', q1, hh, r0⟩ := lsO_at s2 (l2.rep r1) e1
        cases ei
        cases ep
        simp only at h2
        split at h2
        · rename_i hz
          have hl := r0.length
          obtain ⟨l3, s3⟩ := stO_ok s2 em' q1 (r0.append (RepL.one r2))
          exact ⟨p, vs, u, rfl, rfl, hh, by omega, h2 .non (v2.put i p (.lst (vs ++ [u])) (.lst (xs ++ [y]))) l3 s3 rfl .non⟩
        · exact h2.elim
    · exact h1.elim
/-- o.pop(a) -/
def ePopAt (o a : E) : E := fun δ s => (o δ s).bind fun x s1 => if (lsO s1 x).isSome = true then ((a δ s1).bind fun y s2 => match lsO s2 x, y with
  | some xs, .int k => if -(2 ^ 63) ≤ k ∧ k < 2 ^ 63 then (match seqIndex? k xs.length with
    | some j => (match xs[j]? with
      | some d => .ok d (stO s2 x (xs.eraseIdx j))
      | none => .stk)
    | none => .stk) else .stk
  | _, _ => .stk) else .stk
theorem se_popAt {p2 p3 : Pos} (ho : SE X C o fo) (ha : SE X C a fa) (hbase : attributeBase o "pop" X.env (eval o X.env) = eval o X.env := by rfl)
    (hfew : ((backTo p3 (starEach [a] X.env)).all (fun x => !x.1) && (backToKw p3 (keywordEach [] X.env)).all (fun x => x.1.isSome)
      && decide ([a].length + ([] : List Keyword).length + (if ([] : List Keyword).isEmpty then 0 else 1) < 30)) = true := by rfl)
    (hline : (p2.endLine == p3.line) = true := by rfl) (hst : starEach [a] X.env = (false, eval a X.env) :: starEach [] X.env := by rfl) (hpl : (backTo p3 (starEach [] X.env)).any (·.1) = false := by rfl) :
    SE X C (.Call (.Attribute o "pop" p2) [a] [] p3) (ePopAt fo fa) :=
  pe_weak (pe_bm PySem.F.plainAttrs_list PySem.F.slot_list_pop PySem.F.type_list_pop mt_popAt ho (pa_cons ha pa_nil hst) hbase hfew hline hst hpl) fun σ H Q ⟨δ, v, re, eH, h⟩ => by
    refine ⟨δ, v, re, eH, on_mono (on_bind h) fun d x v1 l1 s1 r1 h1 => ?_⟩
    split at h1
    · rename_i hs
      obtain ⟨xs0, e0⟩ := isSome_of hs
      obtain ⟨i, p, vs0, rfl, rfl, em, q0, hh0, _⟩ := lsO_at s1 r1 e0
      refine ⟨.inl ⟨rfl, vs0, SqL.of hh0⟩, δ, v1, re.step l1 s1, rfl, on_mono (on_bind h1) fun y u v2 l2 s2 r2 h2 => ?_⟩
      cases e1 : lsO v2.st (.ob i) with
      | none => rw [e1] at h2; exact h2.elim
      | some xs =>
        rw [e1] at h2
        obtain ⟨i', p', vs, ei, ep, em', q1, hh, r0⟩ := lsO_at s2 (l2.rep r1) e1
        cases ei
        cases ep
        have hl := r0.length
        cases r2 with
        | int k =>
          simp only at h2
          split at h2
          · rename_i hk
            cases ej : seqIndex? k xs.length with
            | none => rw [ej] at h2; exact h2.elim
            | some j =>
              rw [ej] at h2
              simp only at h2
              cases ed : xs[j]? with
              | none => rw [ed] at h2; exact h2.elim
              | some d =>
                rw [ed] at h2
                obtain ⟨w, ew, rw2⟩ := r0.get ed
                obtain ⟨l3, s3⟩ := stO_ok s2 em' q1 (r0.erase j)
                exact ⟨p, vs, k, j, w, rfl, rfl, hh, hk.1, hk.2, by rw [← hl]; exact ej, ew, h2 w (v2.put i p (.lst (vs.eraseIdx j)) (.lst (xs.eraseIdx j))) l3 s3 rfl rw2⟩
          · exact h2.elim
        | _ => exact h2.elim
    · exact h1.elim
/-- o.extend(a), a another list -/
def eExt (o a : E) : E := fun δ s => (o δ s).bind fun x s1 => if (lsO s1 x).isSome = true then ((a δ s1).bind fun y s2 => match lsO s2 x, rsv s2 y with
  | some xs, .lst ys => (match y with
    | .ob _ => if xs.length + ys.length ≤ sizeLine then .ok .non (stO s2 x (xs ++ ys)) else .stk
    | _ => .stk)
  | _, _ => .stk) else .stk
theorem se_ext {p2 p3 : Pos} (ho : SE X C o fo) (ha : SE X C a fa) (hbase : attributeBase o "extend" X.env (eval o X.env) = eval o X.env := by rfl)
    (hfew : ((backTo p3 (starEach [a] X.env)).all (fun x => !x.1) && (backToKw p3 (keywordEach [] X.env)).all (fun x => x.1.isSome)
      && decide ([a].length + ([] : List Keyword).length + (if ([] : List Keyword).isEmpty then 0 else 1) < 30)) = true := by rfl)
    (hline : (p2.endLine == p3.line) = true := by rfl) (hst : starEach [a] X.env = (false, eval a X.env) :: starEach [] X.env := by rfl) (hpl : (backTo p3 (starEach [] X.env)).any (·.1) = false := by rfl) :
    SE X C (.Call (.Attribute o "extend" p2) [a] [] p3) (eExt fo fa) :=
  pe_weak (pe_bm PySem.F.plainAttrs_list PySem.F.slot_list_extend PySem.F.type_list_extend mt_extend ho (pa_cons ha pa_nil hst) hbase hfew hline hst hpl) fun σ H Q ⟨δ, v, re, eH, h⟩ => by
    refine ⟨δ, v, re, eH, on_mono (on_bind h) fun d x v1 l1 s1 r1 h1 => ?_⟩
    split at h1
    · rename_i hs
      obtain ⟨xs0, e0⟩ := isSome_of hs
      obtain ⟨i, p, vs0, rfl, rfl, em, q0, hh0, _⟩ := lsO_at s1 r1 e0
      refine ⟨.inl ⟨rfl, vs0, SqL.of hh0⟩, δ, v1, re.step l1 s1, rfl, on_mono (on_bind h1) fun y u v2 l2 s2 r2 h2 => ?_⟩
      cases e1 : lsO v2.st (.ob i) with
      | none => rw [e1] at h2; exact h2.elim
      | some xs =>
        rw [e1] at h2
        obtain ⟨i', p', vs, ei, ep, em', q1, hh, r0⟩ := lsO_at s2 (l2.rep r1) e1
        cases ei
        cases ep
        have hl := r0.length
        split at h2
        · rename_i zs ys ez ey
          cases ez
          split at h2
          · rename_i j
            split at h2
            · rename_i hz
              have eL : lsO v2.st (.ob j) = some ys := by
                unfold rsv at ey
                unfold lsO
                dsimp only at ey ⊢
                split at ey
                · rename_i q5; cases ey; rw [q5]
                · cases ey
                · cases ey
              obtain ⟨j', b, us, ej, eu, emj, qj, hb, rb⟩ := lsO_at s2 r2 eL
              cases ej
              cases eu
              have hl2 := rb.length
              obtain ⟨l3, s3⟩ := stO_ok s2 em' q1 (r0.append rb)
              exact ⟨p, b, vs, us, rfl, rfl, hh, hb, by omega, h2 .non (v2.put i p (.lst (vs ++ us)) (.lst (xs ++ ys))) l3 s3 rfl .non⟩
            · exact h2.elim
          · exact h2.elim
        · exact h2.elim
    · exact h1.elim
/-- a list of the store from here on frozen -/
def frzD (s : Sto) (d : D) : D × Sto := match d with
  | .ob i => (match s[i]? with
    | some (.lst xs) => (.lst xs, s.set i .gone)
    | _ => (d, s))
  | _ => (d, s)
theorem frzD_ok {K : PySem.W.Frag} {ct : String → Addr} {v : Vw} {d : D} {x : V} (sr : SR K ct v) (r : Rep K ct v.G v.m d x) : ∃ v', Le v v' ∧ SR K ct v' ∧ v'.H = v.H ∧ v'.st = (frzD v.st d).2 ∧ Rep K ct v'.G v'.m (frzD v.st d).1 x := by
  unfold frzD
  split
  · rename_i i
    split
    · rename_i xs q
      cases r with
      | @ob _ a em =>
        obtain ⟨a', em', _, vs, h, r2⟩ := sr.obj i _ q rfl
        rw [em] at em'
        cases em'
        obtain ⟨l, s⟩ := frz_ok sr q rfl em h
        exact ⟨v.frz i a (.lst vs), l, s, rfl, rfl, .lst (SqL.of upd_same) (l.repl r2)⟩
    · exact ⟨v, .refl, sr, rfl, rfl, r⟩
  · exact ⟨v, .refl, sr, rfl, rfl, r⟩
def eFrz (f : E) : E := fun δ s => (f δ s).bind fun d s1 => .ok (frzD s1 d).1 (frzD s1 d).2
theorem se_frz (h : SE X C e fe) : SE X C e (eFrz fe) := pe_weak h fun σ H Q ⟨δ, v, re, eH, h⟩ =>
  ⟨δ, v, re, eH, on_mono (on_bind h) fun d x v1 l1 s1 r1 h1 => by
    obtain ⟨v2, l2, s2, eH2, es2, r2⟩ := frzD_ok s1 r1
    have h2 : Q x v2.H := h1 x v2 l2 s2 es2 r2
    rw [eH2] at h2
    exact h2⟩
/-- the list at x is frozen from here on -/
def sFrz (i : Nat) (f : S) : S := fun δ s => match δ[i]? with
  | some (some d) => f (δ.set i (some (frzD s d).1)) (frzD s d).2
  | _ => f δ s
theorem ss_frz (i : Nat) {st : Stmt} {g : S} (h : SS X C st g) : SS X C st (sFrz i g) := ps_weak h fun Dn σ H ⟨δ, v, re, eH, h⟩ => by
  unfold sFrz at h
  split at h
  · rename_i d q
    obtain ⟨x, e0, r0⟩ := re.sl i d q
    obtain ⟨v2, l2, s2, eH2, es2, r2⟩ := frzD_ok re.sr r0
    have re2 := (re.step l2 s2).setV i r2
    have eσ : σ.set i (some x) = σ := by
      apply List.ext_getElem?
      intro j
      by_cases z : i = j
      · subst z
        rw [List.getElem?_set_self (List.getElem?_eq_some_iff.mp e0).1, e0]
      · rw [List.getElem?_set_ne z]
    rw [eσ] at re2
    rw [← es2] at h
    exact ⟨_, v2, re2, eH2.trans eH, onS_same l2 h⟩
  · exact ⟨δ, v, re, eH, h⟩
/-- o[b] = e of a list of the store -/
def sSetIx (o b e : E) : S := fun δ s => sBind (e δ s) δ fun d s1 => sBind (o δ s1) δ fun x s2 => sBind (b δ s2) δ fun z s3 => match lsO s3 x, z with
  | some xs, .int k => (match ixN xs.length k with
    | some j => .nx δ (stO s3 x (xs.set j d))
    | none => .stk)
  | _, _ => .stk
theorem ss_setIx {p2 : Pos} (ho : SE X C o fo) (hi : SE X C b fb) (he : SE X C e fe)
    (ha : ∀ v, assign (.Subscript o b p2) X.env v = (do
      let ov ← holding [v] (eval o X.env)
      let iv ← holding [v, ov] (eval b X.env)
      standAt p2
      holding [v, ov, iv] (setItem ov iv v)
      release [v, ov, iv] []) := by intro _; rfl)
    (hs : swapsWithSole [.Subscript o b p2] e pos.line X.env = pure false := by rfl) (hw : swappedStores [.Subscript o b p2] e X.env = pure none := by rfl)
    (h1 : (assignEach [.Subscript o b p2] X.env).map (·.2) = [assign (.Subscript o b p2) X.env] := by rfl) :
    SS X C (.Assign [.Subscript o b p2] e pos) (sSetIx fo fb fe) :=
  ps_weak (ps_asg he (pg_sub ho hi set_list ha) hs hw h1) fun Dn σ H ⟨δ, v, re, eH, h⟩ => by
    refine ⟨δ, v, re, eH, on_mono (onS_R re h) fun d x v1 l1 s1 r1 h1 => ?_⟩
    have re1 := re.step l1 s1
    refine ⟨δ, v1, re1, rfl, on_mono (onS_R re1 h1) fun d2 x2 v2 l2 s2 r2 h2 => ?_⟩
    have re2 := re1.step l2 s2
    refine ⟨δ, v2, re2, rfl, on_mono (onS_R re2 h2) fun z u v3 l3 s3 r3 h3 => ?_⟩
    have re3 := re2.step l3 s3
    split at h3
    · rename_i xs k e0
      split at h3
      · rename_i j ej
        obtain ⟨i, p, vs, rfl, rfl, em, q0, hh, r0⟩ := lsO_at s3 (l3.rep r2) e0
        cases r3
        have hl := r0.length
        obtain ⟨l4, s4⟩ := stO_ok s3 em q0 (r0.set j ((l2.trans l3).rep r1))
        exact ⟨p, vs, k, j, rfl, rfl, hh, by rw [← hl]; exact ej, h3 σ (v3.put i p (.lst (vs.set j x)) (.lst (xs.set j d))) (re3.step l4 s4) l4 rfl⟩
      · exact h3.elim
    · exact h3.elim
end
end Gs

/-! G9: walks, constants, ends; reckoning with the functions over data and store. -/
namespace Gs
open PySem L2
theorem hu_big {A : Around} {k : Nat} (hr : Room k A) : A.units + 64 < cLine := hr.units
/-- turns that a while may take -/
def fuel : Nat := 100000
/-- what is asked of the law: a script's numbers, True -/
def spL (K : PySem.W.Frag) (F : List D → Sto → R D) : Sp := fun vs H Q E => ∃ (a : Addr) (ns : List Int) (s' : Sto), vs = [.ref a] ∧ SqL K H a (ns.map V.int) ∧ F [.lst (ns.map D.int)] [] = .ok (.bl true) s' ∧ ∀ H', Q (.bl true) H'
theorem fn_law {P : Program} {w : World} {K : PySem.W.Frag} {mg : Str → Option Value} {base : Heap} {CX : CXT} {k : Nat} {f : Addr} {fd : FuncData} {ps : List Str} {ct : String → Addr} {F : List D → Sto → R D} (h : FnOk P w K mg base CX k f fd ps (spG K ct 1 F)) :
    FnOk P w K mg base CX k f fd ps (spL K F) := by
  have cv : ∀ (vs : List V) (H : Hp) (Q : VK) (E : XK), spL K F vs H Q E → spG K ct 1 F vs H Q E := by
    rintro vs H Q E ⟨a, ns, s', rfl, hS, hF, q⟩
    refine ⟨⟨H, H, fun _ => none, []⟩, [.lst (ns.map D.int)], rfl, ⟨Same.refl _, fun _ _ => rfl, fun i o e => ?_, fun i j o u a e => ?_⟩, rfl, .cons (.lst hS (RepL.ints ns)) .nil, ?_⟩
    · simp at e
    · simp at e
    · show match F [.lst (ns.map D.int)] [] with
        | .ok d s => _
        | .exc e s => _
        | .stk => _
      rw [hF]
      intro x v' l sr es r
      cases r
      exact q v'.H
  exact ⟨fun vs H Q E z => h.len vs H Q E (cv vs H Q E z), fun A outer s H args us vs Q E a b c d z => h.run A outer s H args us vs Q E a b c d (cv vs H Q E z)⟩
theorem law_sp {K : PySem.W.Frag} {H : Hp} {a : Addr} {ns : List Int} {F : List D → Sto → R D} (hS : SqL K H a (ns.map V.int)) (h : ∃ s', F [.lst (ns.map D.int)] [] = .ok (.bl true) s') : spL K F [.ref a] H (fun v _ => v = .bl true) fun _ _ _ => False :=
  let ⟨s', e⟩ := h
  ⟨a, ns, s', rfl, hS, e, fun _ => rfl⟩
theorem law_cx {P : Program} {w : World} {H : Hp} {s : Shared} {e : Value} {s' : Shared} (h : L2.CX P w [] H s (fun _ _ _ => False) e s') : False := by
  obtain ⟨_, _, _, _, _, _, _, _, _, _, _, _, z⟩ := h
  exact z
/-! ### constants of the module -/
def KC (K : PySem.W.Frag) (mg : Str → Option Value) (x : Str) (d : D) : Prop := ∀ ct : String → Addr, ∃ v u, mg x = some u ∧ RelV v u ∧ ∀ G m, Rep K ct G m d v
theorem se_con {X : Cx} {C : Cc} {x : Str} {d : D} {pos : Pos} (h : KC X.K X.mg x d) (hg : Gl X x := by rfl) (hd : (x == ("__debug__" : Str)) = false := by decide) : SE X C (.Name x pos) (eC d) := by
  obtain ⟨v, u, hm, r, q⟩ := h C.ct
  exact se_const (pe_glob hg hm r hd) q
theorem kc_tup {K : PySem.W.Frag} {mg : Str → Option Value} {x : Str} {ss : List Str} {a : Addr} {o : Obj} {its : Array Value} {n : Nat} (hm : mg x = some (.ref a)) (hl : K.lookup a = some o) (hc : o.cls = .type "tuple") (hd : o.data = .seq its n) (hs : its.size ≤ sizeLine) (hv : Vals (ss.map V.str) its.toList) : KC K mg x (.tup (ss.map .str)) :=
  fun ct => ⟨.ref a, .ref a, hm, rfl, fun G m => .tup (.inr ⟨o, its, n, hl, hc, hd, hs, hv⟩) (RepL.strs ss)⟩
/-- what is known of an own class of the program, over ValueError, without own __init__ -/
structure XC (K : PySem.W.Frag) (mg : Str → Option Value) (ct : String → Addr) (cn : String) : Prop where
  g : mg (Str.ofString cn) = some (.ref (ct cn))
  k : PySem.W.keepIn K (.ref (ct cn)) = true
  q : PySem.W.excIn K (ct cn) [.type "ValueError", .type "Exception", .type "BaseException", .type "object"] "ValueError.__new__" = true
  b : PySem.W.subIn K (.ref (ct cn)) (.type "BaseException") = some true
  t : PySem.W.typeIn K (.ref (ct cn)) = some (.type "type")
  d : PySem.W.hasDictIn K (ct cn) = true

section
variable {X : Cx} {C : Cc} {pos : Pos}
def sRaise (cn : String) : S := fun δ s => .exc ⟨cn, []⟩ δ s
theorem ss_raise {cn : String} {m : Str} {j : Nat} {p p2 p3 : Pos} (hc : X.calm = true) (tk : Takes X C.W) (c : XC X.K X.mg C.ct cn) (hg : Gl X (Str.ofString cn)) (hdb : ((Str.ofString cn) == ("__debug__" : Str)) = false := by decide) :
    SS X C (.Raise (some (.Call (.Name (Str.ofString cn) p) [.Constant (.str m) j p2] [] p3)) none pos) (sRaise cn) :=
  ps_weak (ps_raise hc tk (pmk_own PySem.F.excBase_ValueError c.q c.g c.k (raises_own c.b c.t) hg hdb)) fun Dn σ H ⟨δ, v, re, eH, h⟩ => by
    subst eH
    exact h _ none σ v re .refl rfl ⟨rfl, .inl ⟨rfl, rfl⟩⟩
end
/-! ### walks -/
/-! max, min of a list of numbers -/
def maxI : List Int → Option Int
  | [] => none
  | x :: xs => match maxI xs with
    | none => some x
    | some m => some (if x ≤ m then m else x)
def minI : List Int → Option Int
  | [] => none
  | x :: xs => match minI xs with
    | none => some x
    | some m => some (if m ≤ x then m else x)
theorem maxI_none : ∀ {xs : List Int}, maxI xs = none → xs = []
  | [], _ => rfl
  | x :: xs, h => by
    simp only [maxI] at h
    split at h <;> exact nomatch h
theorem minI_none : ∀ {xs : List Int}, minI xs = none → xs = []
  | [], _ => rfl
  | x :: xs, h => by
    simp only [minI] at h
    split at h <;> exact nomatch h
theorem maxI_spec : ∀ {xs : List Int} {m : Int}, maxI xs = some m → m ∈ xs ∧ ∀ y ∈ xs, y ≤ m
  | [], m, h => nomatch h
  | x :: xs, m, h => by
    simp only [maxI] at h
    split at h
    · rename_i e
      have := maxI_none e
      subst this
      cases h
      exact ⟨by simp, fun y hy => by simp at hy; omega⟩
    · rename_i m' e
      obtain ⟨h1, h2⟩ := maxI_spec e
      simp only [Option.some.injEq] at h
      subst h
      refine ⟨?_, fun y hy => ?_⟩
      · split
        · exact List.mem_cons_of_mem _ h1
        · exact List.mem_cons_self
      · rcases List.mem_cons.mp hy with rfl | hy
        · split <;> omega
        · have := h2 y hy
          split <;> omega
theorem minI_spec : ∀ {xs : List Int} {m : Int}, minI xs = some m → m ∈ xs ∧ ∀ y ∈ xs, m ≤ y
  | [], m, h => nomatch h
  | x :: xs, m, h => by
    simp only [minI] at h
    split at h
    · rename_i e
      have := minI_none e
      subst this
      cases h
      exact ⟨by simp, fun y hy => by simp at hy; omega⟩
    · rename_i m' e
      obtain ⟨h1, h2⟩ := minI_spec e
      simp only [Option.some.injEq] at h
      subst h
      refine ⟨?_, fun y hy => ?_⟩
      · split
        · exact List.mem_cons_of_mem _ h1
        · exact List.mem_cons_self
      · rcases List.mem_cons.mp hy with rfl | hy
        · split <;> omega
        · have := h2 y hy
          split <;> omega

section
variable {K : PySem.W.Frag} {ct : String → Addr} {v : Vw}
theorem RE.frz {C : Cc} {σ : L2.St} {δ : Sl} {v : Vw} (r : RE K C σ δ v) : Le C.v0 v := r.le
def enumD (xs : List D) : List D := xs.zipIdx.map fun p => .tup [.int (p.2 : Nat), p.1]
theorem itOk_enum {a : Addr} {vs : List V} {ds : List D} (h : SqL K v.G a vs) (r : RepL K ct v.G v.m ds vs) : ItOk K ct (Ite K a) v (enumD ds) where
  go := fun i w l s hi => by
    have hi' : i < ds.length := by simpa [enumD] using hi
    obtain ⟨x, e, _⟩ := r.get (List.getElem?_eq_getElem hi')
    exact ⟨vs, x, s.sub.seq (l.g.seq h), e⟩
  stop := fun i w l s hi => by
    have : ds.length ≤ i := by simpa [enumD] using hi
    exact ⟨vs, s.sub.seq (l.g.seq h), by rw [← r.length]; exact this⟩
  yld := fun i w z H' l s hi y => by
    have hi' : i < ds.length := by simpa [enumD] using hi
    obtain ⟨x, e, rv⟩ := r.get (List.getElem?_eq_getElem hi')
    obtain ⟨T, x', rfl, hT, rfl, y2⟩ := y
    have z2 := y2 vs (s.sub.seq (l.g.seq h))
    rw [e] at z2
    cases z2
    obtain ⟨l2, s2⟩ := new_ok (o := .tup [.int (i : Nat), x]) s hT
    exact ⟨.tup [.int (i : Nat), ds[i]], w.new T (.tup [.int (i : Nat), x]), by simp [enumD, hi'], rfl, l2, s2, rfl, .tup (SqT.of upd_same) (.cons (.int _) (.cons (l2.rep (l.rep rv)) .nil))⟩
theorem itOk_rev {a : Addr} {vs : List V} {ds : List D} (h : SqL K v.G a vs) (r : RepL K ct v.G v.m ds vs) : ItOk K ct (Itv K a vs.length) v ds.reverse where
  go := fun i w l s hi => by
    have hi' : i < ds.length := by simpa using hi
    have hl := r.length
    obtain ⟨x, e, _⟩ := r.get (List.getElem?_eq_getElem (show vs.length - 1 - i < ds.length by omega))
    exact ⟨by omega, vs, x, s.sub.seq (l.g.seq h), e⟩
  stop := fun i w l s hi => by
    have hl := r.length
    have : ds.length ≤ i := by simpa using hi
    show vs.length ≤ i
    omega
  yld := fun i w x H' l s hi y => by
    have hi' : i < ds.length := by simpa using hi
    have hl := r.length
    have hi2 : vs.length - 1 - i < ds.length := by omega
    obtain ⟨x0, e, rv⟩ := r.get (List.getElem?_eq_getElem hi2)
    obtain ⟨rfl, y2⟩ := y
    have z := y2 vs (s.sub.seq (l.g.seq h))
    rw [e] at z
    cases z
    refine ⟨_, w, ?_, rfl, .refl, s, rfl, l.rep rv⟩
    rw [List.getElem?_reverse hi', List.getElem?_eq_getElem (by omega)]
    congr 1
    exact getElem_congr rfl (by omega) _
def zipD (xs ys : List D) : List D := List.zipWith (fun x y => .tup [x, y]) xs ys
theorem zipD_get {xs ys : List D} {i : Nat} (hi : i < (zipD xs ys).length) : ∃ x y, xs[i]? = some x ∧ ys[i]? = some y ∧ (zipD xs ys)[i]? = some (.tup [x, y]) := by
  have h1 : i < xs.length ∧ i < ys.length := by
    simp only [zipD, List.length_zipWith] at hi
    omega
  exact ⟨xs[i], ys[i], List.getElem?_eq_getElem h1.1, List.getElem?_eq_getElem h1.2, by simp [zipD, List.getElem?_zipWith, h1.1, h1.2]⟩
theorem itOk_zip {a b : Addr} {vs us : List V} {ds es : List D} (h : SqL K v.G a vs) (h2 : SqL K v.G b us) (r : RepL K ct v.G v.m ds vs) (r2 : RepL K ct v.G v.m es us) : ItOk K ct (Itz K a b) v (zipD ds es) where
  go := fun i w l s hi => by
    obtain ⟨x, y, e1, e2, _⟩ := zipD_get hi
    obtain ⟨x1, e3, _⟩ := r.get e1
    obtain ⟨y1, e4, _⟩ := r2.get e2
    exact ⟨vs, us, x1, y1, s.sub.seq (l.g.seq h), s.sub.seq (l.g.seq h2), e3, e4⟩
  stop := fun i w l s hi => by
    have := hi
    simp only [zipD, List.length_zipWith] at this
    have hl := r.length
    have hl2 := r2.length
    exact ⟨vs, us, s.sub.seq (l.g.seq h), s.sub.seq (l.g.seq h2), by omega⟩
  yld := fun i w z H' l s hi y => by
    obtain ⟨dx, dy, e1, e2, e5⟩ := zipD_get hi
    obtain ⟨x1, e3, rv⟩ := r.get e1
    obtain ⟨y1', e4, ru⟩ := r2.get e2
    obtain ⟨T, x0, y0, rfl, hT, rfl, y1, y2⟩ := y
    have z := y1 vs (s.sub.seq (l.g.seq h))
    rw [e3] at z
    cases z
    have z2 := y2 us (s.sub.seq (l.g.seq h2))
    rw [e4] at z2
    cases z2
    obtain ⟨l2, s2⟩ := new_ok (o := .tup [x1, y1']) s hT
    exact ⟨.tup [dx, dy], w.new T (.tup [x1, y1']), e5, rfl, l2, s2, rfl, .tup (SqT.of upd_same) (.cons (l2.rep (l.rep rv)) (.cons (l2.rep (l.rep ru)) .nil))⟩
theorem itOk_zipT {a b : Addr} {vs us : List V} {ds es : List D} (h : SqT K v.G a vs) (h2 : SqT K v.G b us) (r : RepL K ct v.G v.m ds vs) (r2 : RepL K ct v.G v.m es us) : ItOk K ct (RZ.ItzT K a b) v (zipD ds es) where
  go := fun i w l s hi => by
    obtain ⟨x, y, e1, e2, _⟩ := zipD_get hi
    obtain ⟨x1, e3, _⟩ := r.get e1
    obtain ⟨y1, e4, _⟩ := r2.get e2
    exact ⟨vs, us, x1, y1, sqt_mono s.sub (sqt_mono l.g h), sqt_mono s.sub (sqt_mono l.g h2), e3, e4⟩
  stop := fun i w l s hi => by
    have := hi
    simp only [zipD, List.length_zipWith] at this
    have hl := r.length
    have hl2 := r2.length
    exact ⟨vs, us, sqt_mono s.sub (sqt_mono l.g h), sqt_mono s.sub (sqt_mono l.g h2), by omega⟩
  yld := fun i w z H' l s hi y => by
    obtain ⟨dx, dy, e1, e2, e5⟩ := zipD_get hi
    obtain ⟨x1, e3, rv⟩ := r.get e1
    obtain ⟨y1', e4, ru⟩ := r2.get e2
    obtain ⟨T, x0, y0, rfl, hT, rfl, y1, y2⟩ := y
    have z := y1 vs (sqt_mono s.sub (sqt_mono l.g h))
    rw [e3] at z
    cases z
    have z2 := y2 us (sqt_mono s.sub (sqt_mono l.g h2))
    rw [e4] at z2
    cases z2
    obtain ⟨l2, s2⟩ := new_ok (o := .tup [x1, y1']) s hT
    exact ⟨.tup [dx, dy], w.new T (.tup [x1, y1']), e5, rfl, l2, s2, rfl, .tup (SqT.of upd_same) (.cons (l2.rep (l.rep rv)) (.cons (l2.rep (l.rep ru)) .nil))⟩
theorem itOk_rngC {lo : Int} {n : Nat} : ItOk K ct (Itc (lo + (n : Int) - 1) (-1) n) v (rngD lo n).reverse where
  go := fun i w l s hi => by show i < n; simpa [rngD] using hi
  stop := fun i w l s hi => by show n ≤ i; simpa [rngD] using hi
  yld := fun i w z H' l s hi y => by
    obtain ⟨rfl, rfl⟩ := y
    have hi' : i < n := by simpa [rngD] using hi
    refine ⟨_, w, ?_, rfl, .refl, s, rfl, .int _⟩
    rw [List.getElem?_reverse (by simpa [rngD] using hi'), ints_get (by simp only [rngD, List.length_map, List.length_range]; omega)]
    congr 2
    simp only [rngD, List.length_map, List.length_range]
    omega
def rngS (lo c : Int) (n : Nat) : List D := (List.range n).map fun (i : Nat) => .int (lo + (i : Int) * c)
theorem rngS_get {lo c : Int} {n i : Nat} (h : i < n) : (rngS lo c n)[i]? = some (.int (lo + (i : Int) * c)) := by simp [rngS, h]
theorem itOk_rngS {lo c : Int} {n : Nat} : ItOk K ct (Itc lo c n) v (rngS lo c n) where
  go := fun i w l s hi => by show i < n; simpa [rngS] using hi
  stop := fun i w l s hi => by show n ≤ i; simpa [rngS] using hi
  yld := fun i w z H' l s hi y => by
    obtain ⟨rfl, rfl⟩ := y
    exact ⟨_, w, rngS_get (by simpa [rngS] using hi), rfl, .refl, s, rfl, .int _⟩
end
def iEnumD (a : As) : As := fun δ s => (a δ s).bind fun ds s1 => match ds with
  | [.lst xs] => .ok (enumD xs) s1
  | _ => .stk
def iRevD (a : As) : As := fun δ s => (a δ s).bind fun ds s1 => match ds with
  | [.lst xs] => .ok xs.reverse s1
  | _ => .stk
def iZipD (a : As) : As := fun δ s => (a δ s).bind fun ds s1 => match ds with
  | [.lst xs, .lst ys] => .ok (zipD xs ys) s1
  | [.tup xs, .tup ys] => .ok (zipD xs ys) s1
  | _ => .stk
def iRevR2 (a b : E) : As := fun δ s => (a δ s).bind fun x s1 => (b δ s1).bind fun y s2 => match x, y with
  | .int i, .int j => if -(2 ^ 62) ≤ i ∧ i < 2 ^ 62 ∧ -(2 ^ 62) ≤ j ∧ j < 2 ^ 62 then .ok (rngD i (j - i).toNat).reverse s2 else .stk
  | _, _ => .stk
def rng3Ok (i j c : Int) : Prop := c ≠ 0 ∧ c.natAbs < 1073741824 ∧ Builtin.Range.small i j c = true ∧ 0 ≤ Builtin.Range.rangeSize i j c
instance (i j c : Int) : Decidable (rng3Ok i j c) := inferInstanceAs (Decidable (c ≠ 0 ∧ c.natAbs < 1073741824 ∧ Builtin.Range.small i j c = true ∧ 0 ≤ Builtin.Range.rangeSize i j c))
def iRange3 (a : As) : As := fun δ s => (a δ s).bind fun ds s1 => match ds with
  | [.int i, .int j, .int c] => if rng3Ok i j c then .ok (rngS i c (Builtin.Range.rangeSize i j c).toNat) s1 else .stk
  | _ => .stk
section
variable {X : Cx} {C : Cc} {tg : Expr}
theorem si_enum {e : Expr} {f : As} {p pos tpos : Pos} {elts : List Expr} {kk : Nat} (hg : Gl X "enumerate") (hm : X.mg "enumerate" = none) (ha : SA X C [e] f) (hs : starEach [e] X.env = [(false, eval e X.env)] := by rfl) :
    SI X C (.Tuple elts kk tpos) (.Call (.Name "enumerate" p) [e] [] pos) (iEnumD f) :=
  pi_weak (pi_enum hg hm ha hs) fun σ H R ⟨δ, v, re, eH, h⟩ => ⟨δ, v, re, eH, on_mono (on_bind h) fun ds vs v1 l1 s1 r1 h1 => by
    split at h1
    · cases r1 with
      | cons r2 r3 =>
        cases r3
        cases r2 with
        | @lst a us _ pp q => exact ⟨a, us, rfl, s1.sub.seq pp, on_self s1 h1 (itOk_enum pp q)⟩
    · exact h1.elim⟩
theorem si_rev {e : Expr} {f : As} {p pos : Pos} (hg : Gl X "reversed") (hm : X.mg "reversed" = none) (ha : SA X C [e] f) (hs : starEach [e] X.env = [(false, eval e X.env)] := by rfl) : SI X C tg (.Call (.Name "reversed" p) [e] [] pos) (iRevD f) :=
  pi_weak (pi_reversed hg hm ha hs) fun σ H R ⟨δ, v, re, eH, h⟩ => ⟨δ, v, re, eH, on_mono (on_bind h) fun ds vs v1 l1 s1 r1 h1 => by
    split at h1
    · cases r1 with
      | cons r2 r3 =>
        cases r3
        cases r2 with
        | @lst a us _ pp q => exact ⟨a, us, rfl, s1.sub.seq pp, on_self s1 h1 (itOk_rev pp q)⟩
    · exact h1.elim⟩
theorem si_zip {e e2 : Expr} {f : As} {p pos tpos : Pos} {elts : List Expr} {kk : Nat} (hg : Gl X "zip") (hm : X.mg "zip" = none) (ha : SA X C [e, e2] f)
    (hs : starEach [e, e2] X.env = (false, eval e X.env) :: starEach [e2] X.env := by rfl) (hpl : (backTo pos (starEach [e2] X.env)).any (·.1) = false := by rfl) :
    SI X C (.Tuple elts kk tpos) (.Call (.Name "zip" p) [e, e2] [] pos) (iZipD f) :=
  pi_weak (RZ.pi_zipA hg hm ha hs hpl) fun σ H R ⟨δ, v, re, eH, h⟩ => ⟨δ, v, re, eH, on_mono (on_bind h) fun ds vs v1 l1 s1 r1 h1 => by
    split at h1
    · cases r1 with
      | cons r2 r3 =>
        cases r3 with
        | cons r3 r4 =>
          cases r4
          cases r2 with
          | @lst a us _ pp q =>
            cases r3 with
            | @lst b ws _ pp2 q2 => exact ⟨a, b, us, ws, rfl, .inl ⟨s1.sub.seq pp, s1.sub.seq pp2, on_self s1 h1 (itOk_zip pp pp2 q q2)⟩⟩
    · cases r1 with
      | cons r2 r3 =>
        cases r3 with
        | cons r3 r4 =>
          cases r4
          cases r2 with
          | @tup a us _ pp q =>
            cases r3 with
            | @tup b ws _ pp2 q2 => exact ⟨a, b, us, ws, rfl, .inr ⟨sqt_mono s1.sub pp, sqt_mono s1.sub pp2, on_self s1 h1 (itOk_zipT pp pp2 q q2)⟩⟩
    · exact h1.elim⟩
theorem si_revR2 {a b : Expr} {fa fb : E} {p p2 pos pos2 : Pos} (hg : Gl X "reversed") (hm : X.mg "reversed" = none) (hgr : Gl X "range") (hmr : X.mg "range" = none) (ha : SE X C a fa) (hb : SE X C b fb)
    (hs : starEach [.Call (.Name "range" p2) [a, b] [] pos2] X.env = (false, eval (.Call (.Name "range" p2) [a, b] [] pos2) X.env) :: starEach [] X.env := by rfl)
    (hs1 : starEach [a, b] X.env = (false, eval a X.env) :: starEach [b] X.env := by rfl) (hs2 : starEach [b] X.env = (false, eval b X.env) :: starEach [] X.env := by rfl) (hp : (backTo pos2 (starEach [b] X.env)).any (·.1) = false := by rfl) :
    SI X C tg (.Call (.Name "reversed" p) [.Call (.Name "range" p2) [a, b] [] pos2] [] pos) (iRevR2 fa fb) :=
  pi_weak (pi_revR hg hm (prg_2 hgr hmr ha hb hs1 hs2 hp) hs) fun σ H R ⟨δ, v, re, eH, h⟩ => ⟨δ, v, re, eH, on_mono (on_bind h) fun d x v1 l1 s1 r1 h1 => ⟨δ, v1, re.step l1 s1, rfl, on_mono (on_bind h1) fun d2 x2 v2 l2 s2 r2 h2 => by
    cases r1 <;> cases r2 <;> first
      | exact h2.elim
      | (simp only at h2
         split at h2
         · rename_i hz
           exact ⟨_, _, rfl, rfl, hz.1, hz.2.1, hz.2.2.1, hz.2.2.2, on_self s2 h2 itOk_rngC⟩
         · exact h2.elim)⟩⟩
theorem si_range3 {a b c : Expr} {f : As} {p pos : Pos} (hg : Gl X "range") (hm : X.mg "range" = none) (ha : SA X C [a, b, c] f)
    (hs : starEach [a, b, c] X.env = (false, eval a X.env) :: starEach [b, c] X.env := by rfl) (hpl : (backTo pos (starEach [b, c] X.env)).any (·.1) = false := by rfl) :
    SI X C tg (.Call (.Name "range" p) [a, b, c] [] pos) (iRange3 f) :=
  pi_weak (pi_range3 hg hm ha hs hpl) fun σ H R ⟨δ, v, re, eH, h⟩ => ⟨δ, v, re, eH, on_mono (on_bind h) fun ds vs v1 l1 s1 r1 h1 => by
    split at h1
    · rename_i i j c
      cases r1 with
      | cons r2 r3 =>
        cases r2
        cases r3 with
        | cons r4 r5 =>
          cases r4
          cases r5 with
          | cons r6 r7 =>
            cases r6
            cases r7
            split at h1
            · rename_i hz
              obtain ⟨z1, z2, z3, z4⟩ := hz
              exact ⟨_, _, _, _, rfl, ⟨z1, z2, z3, (Int.toNat_of_nonneg z4).symm⟩, on_self s1 h1 itOk_rngS⟩
            · exact h1.elim
    · exact h1.elim⟩
def eBits (f : E) : E := fun δ s => (f δ s).bind fun d s1 => match d with
  | .int i => .ok (.int (Builtin.Int.intBits i : Nat)) s1
  | _ => .stk
theorem se_bits {o : Expr} {f : E} {apos pos : Pos} (ho : SE X C o f) (hbase : attributeBase o "bit_length" X.env (eval o X.env) = eval o X.env := by rfl) (hline : (apos.endLine == pos.line) = true := by rfl) : SE X C (.Call (.Attribute o "bit_length" apos) [] [] pos) (eBits f) :=
  pe_weak (pe_bits ho hbase hline) fun σ H Q ⟨δ, v, re, eH, h⟩ => ⟨δ, v, re, eH, on_mono (on_bind h) fun d x v1 l1 s1 r1 h1 => by
    cases r1 with
    | int i => exact ⟨i, rfl, on_self s1 h1 (.int _)⟩
    | _ => exact h1.elim⟩
end
/-! ### reckoning -/
theorem runG_rt {N : Nat} {body : S} {ds : List D} {s s' : Sto} {d : D} (h : body (ds.map some ++ List.replicate (N - ds.length) none) s = .rt d s') : runG N body ds s = .ok d s' := by unfold runG; rw [h]
theorem runG_nx {N : Nat} {body : S} {ds : List D} {s s' : Sto} {δ : Sl} (h : body (ds.map some ++ List.replicate (N - ds.length) none) s = .nx δ s') : runG N body ds s = .ok .non s' := by unfold runG; rw [h]
theorem runG_exc {N : Nat} {body : S} {ds : List D} {s s' : Sto} {e : Ex} {δ : Sl} (h : body (ds.map some ++ List.replicate (N - ds.length) none) s = .exc e δ s') : runG N body ds s = .exc e s' := by unfold runG; rw [h]
/-- a loop whose turns go on -/
theorem forD_inv {p : Pt} {body : S} (Inv : Nat → Sl → Sto → Prop) : ∀ (items : List D) (k : Nat) (δ : Sl) (s : Sto), Inv k δ s →
    (∀ i d δ s, items[i]? = some d → Inv (k + i) δ s → ∃ δ1, bindP p d δ = some δ1 ∧ ∃ δ2 s2, body δ1 s = .nx δ2 s2 ∧ Inv (k + i + 1) δ2 s2) → ∃ δ' s', forD p body items δ s = .nx δ' s' ∧ Inv (k + items.length) δ' s'
  | [], k, δ, s, h0, _ => ⟨δ, s, rfl, h0⟩
  | d :: ds, k, δ, s, h0, hs => by
    obtain ⟨δ1, e1, δ2, s2, e2, h2⟩ := hs 0 d δ s rfl h0
    obtain ⟨δ', s', e3, h3⟩ := forD_inv Inv ds (k + 1) δ2 s2 h2 fun i d δ s hd hi => by
      have z := hs (i + 1) d δ s (by simpa using hd) (by rw [show k + (i + 1) = k + 1 + i by omega]; exact hi)
      rw [show k + (i + 1) + 1 = k + 1 + i + 1 by omega] at z
      exact z
    refine ⟨δ', s', ?_, by rw [List.length_cons, show k + (ds.length + 1) = k + 1 + ds.length by omega]; exact h3⟩
    simp only [forD, e1, e2, e3]
theorem rngD_length (lo : Int) (n : Nat) : (rngD lo n).length = n := by simp [rngD]
theorem rngD_some {lo : Int} {n i : Nat} {d : D} (h : (rngD lo n)[i]? = some d) : i < n ∧ d = .int (lo + (i : Int)) := by
  have hi : i < n := by
    have := (List.getElem?_eq_some_iff.mp h).1
    simpa [rngD] using this
  rw [ints_get hi] at h
  exact ⟨hi, (Option.some.inj h).symm⟩
theorem forR {p : Pt} {body : S} {lo : Int} {n : Nat} {δ : Sl} {s : Sto} (Inv : Nat → Sl → Sto → Prop) (h0 : Inv 0 δ s)
    (hs : ∀ i δ s, i < n → Inv i δ s → ∃ δ1, bindP p (.int (lo + (i : Int))) δ = some δ1 ∧ ∃ δ2 s2, body δ1 s = .nx δ2 s2 ∧ Inv (i + 1) δ2 s2) : ∃ δ' s', forD p body (rngD lo n) δ s = .nx δ' s' ∧ Inv n δ' s' := by
  have z := forD_inv (p := p) (body := body) Inv (rngD lo n) 0 δ s h0 fun i d δ s hd hi => by
    obtain ⟨h1, h2⟩ := rngD_some hd
    subst h2
    rw [Nat.zero_add] at hi ⊢
    exact hs i δ s h1 hi
  rw [Nat.zero_add, rngD_length] at z
  exact z
theorem whileK {c : T} {body : S} (Inv : Nat → Sl → Sto → Prop)
    (hs : ∀ k δ s, Inv k δ s → c δ s = .ok false s ∨ (c δ s = .ok true s ∧ ∃ δ2 s2, body δ s = .nx δ2 s2 ∧ ∃ k', k' < k ∧ Inv k' δ2 s2)) : ∀ (n k : Nat) (δ : Sl) (s : Sto), Inv k δ s → k < n → ∃ δ' s' k', whileD c body n δ s = .nx δ' s' ∧ Inv k' δ' s' ∧ c δ' s' = .ok false s'
  | 0, k, δ, s, _, h => by omega
  | n + 1, k, δ, s, hi, h => by
    rcases hs k δ s hi with hc | ⟨hc, δ2, s2, hb, k2, hk, hi2⟩
    · exact ⟨δ, s, k, by simp only [whileD, hc], hi, hc⟩
    · obtain ⟨δ', s', k', e, h2⟩ := whileK Inv hs n k2 δ2 s2 hi2 (by omega)
      exact ⟨δ', s', k', by simp only [whileD, hc, hb, e], h2⟩
/-- turns of a comprehension that leave the store -/
theorem lcD_mapL {α : Type} {p : Pt} {c : T} {e : E} {δ : Sl} {s : Sto} (g f : α → D) : ∀ l : List α, (∀ a ∈ l, ∃ δ1, bindP p (g a) δ = some δ1 ∧ c δ1 s = .ok true s ∧ e δ1 s = .ok (f a) s) → lcD p c e δ (l.map g) s = .ok (l.map f) s
  | [], _ => rfl
  | x :: l, h => by
    obtain ⟨δ1, e1, e2, e3⟩ := h x (by simp)
    have ih := lcD_mapL (p := p) (c := c) (e := e) (δ := δ) (s := s) g f l fun k hk => h k (by simp [hk])
    simp only [List.map_cons, lcD, e1, e2, e3, ih]
theorem ixN_ofNat {n j : Nat} (h : j < n) : ixN n (j : Int) = some j := by
  unfold ixN
  rw [if_pos (by omega), if_pos (by omega)]
  simp
theorem atI_ofNat {α : Type} (xs : List α) {j : Nat} (h : j < xs.length) : atI xs (j : Int) = some xs[j] := by
  unfold atI
  rw [ixN_ofNat h]
  exact List.getElem?_eq_getElem h

/-! ### sizes of products -/
theorem bits_le {i : Int} {a : Nat} (h : i.natAbs < 2 ^ a) : Builtin.Int.intBits i ≤ a := by
  unfold Builtin.Int.intBits
  split
  · exact Nat.zero_le _
  · rename_i hz
    have hz' : i.natAbs ≠ 0 := by
      simp only [beq_iff_eq] at hz
      omega
    exact Nat.succ_le_of_lt ((Nat.log2_lt hz').mpr h)
theorem mul_fits {i j : Int} {a b : Nat} (ha : i.natAbs < 2 ^ a) (hb : j.natAbs < 2 ^ b) (h : a + b ≤ 134217728) : IntMulOk i j := mulx_ok ha hb h |>.ok
theorem mul_fitsL {i j : Int} (ha : i.natAbs < 2 ^ 64) : IntMulOk i j := .of_left (bits_le ha)
theorem mul_fitsR {i j : Int} (ha : j.natAbs < 2 ^ 64) : IntMulOk i j := .of_right (bits_le ha)
theorem log_lt {n a : Nat} (h : n < 2 ^ a) (h0 : 0 < a) : n.log2 < a := by
  by_cases hz : n = 0
  · subst hz
    simpa using h0
  · exact (Nat.log2_lt hz).mpr h

@[simp] theorem mulOk_m1 (j : Int) : IntMulOk (-1) j := mul_fitsL (by decide)
@[simp] theorem mulOk_1 (j : Int) : IntMulOk 1 j := mul_fitsL (by decide)
@[simp] theorem mulOk_2 (j : Int) : IntMulOk 2 j := mul_fitsL (by decide)
@[simp] theorem mulOk_3 (j : Int) : IntMulOk 3 j := mul_fitsL (by decide)
@[simp] theorem mulOk_r2 (j : Int) : IntMulOk j 2 := mul_fitsR (by decide)
@[simp] theorem mulOk_r1000 (j : Int) : IntMulOk j 1000 := mul_fitsR (by decide)
@[simp] theorem mulOk_r1000003 (j : Int) : IntMulOk j 1000003 := mul_fitsR (by decide)
theorem log_small {n : Nat} (h : n < 2 ^ 64) : n.log2 < 9000 := Nat.lt_of_lt_of_le (log_lt h (by decide)) (by decide)
/-! ### unfolding -/
def rngOk (j : Int) : Prop := -(2 ^ 62) ≤ j ∧ j < 2 ^ 62
instance (j : Int) : Decidable (rngOk j) := inferInstanceAs (Decidable (-(2 ^ 62) ≤ j ∧ j < 2 ^ 62))
theorem rngOk_of {j : Int} (h1 : -1000000000 ≤ j) (h2 : j ≤ 1000000000) : rngOk j := by
  unfold rngOk
  omega
theorem rngOk_nat {j : Nat} (h : j ≤ 1000000000) : rngOk (j : Int) := rngOk_of (by omega) (by omega)
@[simp] theorem rngOk_0 : rngOk 0 := rngOk_of (by omega) (by omega)
@[simp] theorem rngOk_1 : rngOk 1 := rngOk_of (by omega) (by omega)
def divOk (j : Int) : Prop := 0 < j ∧ j.natAbs.log2 < 9000
instance (j : Int) : Decidable (divOk j) := inferInstanceAs (Decidable (0 < j ∧ j.natAbs.log2 < 9000))
theorem divOk_of {j : Int} {a : Nat} (h : 0 < j) (h2 : j.natAbs < 2 ^ a) (h3 : a ≤ 8999) : divOk j := ⟨h, by
  by_cases h0 : 0 < a
  · exact Nat.lt_of_lt_of_le (log_lt h2 h0) (by omega)
  · have e : a = 0 := by omega
    subst e
    have : (2 : Nat) ^ 0 = 1 := rfl
    omega⟩
theorem divOk_small {j : Int} (h : 0 < j) (h2 : j < 10 ^ 18) : divOk j := divOk_of (a := 64) h (by
  have : (10 : Int) ^ 18 < ((2 ^ 64 : Nat) : Int) := by decide
  omega) (by decide)
@[simp] theorem divOk_1 : divOk 1 := divOk_small (by decide) (by decide)
@[simp] theorem divOk_2 : divOk 2 := divOk_small (by decide) (by decide)
@[simp] theorem divOk_3 : divOk 3 := divOk_small (by decide) (by decide)
@[simp] theorem divOk_4 : divOk 4 := divOk_small (by decide) (by decide)
@[simp] theorem divOk_5 : divOk 5 := divOk_small (by decide) (by decide)
@[simp] theorem divOk_6 : divOk 6 := divOk_small (by decide) (by decide)
@[simp] theorem divOk_7 : divOk 7 := divOk_small (by decide) (by decide)
@[simp] theorem divOk_8 : divOk 8 := divOk_small (by decide) (by decide)
@[simp] theorem divOk_9 : divOk 9 := divOk_small (by decide) (by decide)
@[simp] theorem divOk_10 : divOk 10 := divOk_small (by decide) (by decide)
@[simp] theorem divOk_11 : divOk 11 := divOk_small (by decide) (by decide)
@[simp] theorem divOk_12 : divOk 12 := divOk_small (by decide) (by decide)
@[simp] theorem divOk_24 : divOk 24 := divOk_small (by decide) (by decide)
@[simp] theorem divOk_41 : divOk 41 := divOk_small (by decide) (by decide)
@[simp] theorem divOk_48 : divOk 48 := divOk_small (by decide) (by decide)
@[simp] theorem divOk_60 : divOk 60 := divOk_small (by decide) (by decide)
@[simp] theorem divOk_64 : divOk 64 := divOk_small (by decide) (by decide)
@[simp] theorem divOk_100 : divOk 100 := divOk_small (by decide) (by decide)
@[simp] theorem divOk_1000 : divOk 1000 := divOk_small (by decide) (by decide)
def powOk (i j : Int) : Prop := 0 ≤ j ∧ (Builtin.Int.intBits i : Int) * j ≤ 2 ^ 27
instance (i j : Int) : Decidable (powOk i j) := inferInstanceAs (Decidable (0 ≤ j ∧ (Builtin.Int.intBits i : Int) * j ≤ 2 ^ 27))
theorem powOk_of {i j : Int} {a : Nat} (hi : i.natAbs < 2 ^ a) (h0 : 0 ≤ j) (h : (a : Int) * j ≤ 134217728) : powOk i j := ⟨h0, by
  have h1 := bits_le hi
  have h2 : (Builtin.Int.intBits i : Int) * j ≤ (a : Int) * j := Int.mul_le_mul_of_nonneg_right (by omega) h0
  omega⟩
@[simp] theorem powOk_10 {j : Int} (h0 : 0 ≤ j) (h : j ≤ 1000) : powOk 10 j := powOk_of (a := 4) (by decide) h0 (by omega)
@[simp] theorem powOk_2 {j : Int} (h0 : 0 ≤ j) (h : j ≤ 1000000) : powOk 2 j := powOk_of (a := 2) (by decide) h0 (by omega)
@[simp] theorem powOk_1e60 {j : Int} (h0 : 0 ≤ j) (h : j ≤ 1000) : powOk 1000000000000000000000000000000000000000000000000000000000000 j := powOk_of (a := 200) (by decide) h0 (by omega)

@[simp] theorem v_bind_ok {α β : Type} (a : α) (s : Sto) (k : α → Sto → R β) : (R.ok a s).bind k = k a s := id rfl
@[simp] theorem v_bind_exc {α β : Type} (e : Ex) (s : Sto) (k : α → Sto → R β) : (R.exc e s).bind k = .exc e s := id rfl
@[simp] theorem v_bind_stk {α β : Type} (k : α → Sto → R β) : (R.stk : R α).bind k = .stk := id rfl
@[simp] theorem v_ofO_some {α : Type} (a : α) (s : Sto) : R.ofO (some a) s = .ok a s := id rfl
@[simp] theorem v_ofO_none {α : Type} (s : Sto) : R.ofO (none : Option α) s = .stk := id rfl
@[simp] theorem v_sBind_ok {α : Type} (a : α) (s : Sto) (δ : Sl) (k : α → Sto → RS) : sBind (.ok a s) δ k = k a s := id rfl
@[simp] theorem v_sBind_exc {α : Type} (e : Ex) (s : Sto) (δ : Sl) (k : α → Sto → RS) : sBind (.exc e s : R α) δ k = .exc e δ s := id rfl
@[simp] theorem v_sBind_stk {α : Type} (δ : Sl) (k : α → Sto → RS) : sBind (.stk : R α) δ k = .stk := id rfl
@[simp] theorem v_eV (i : Nat) (δ : Sl) (s : Sto) : eV i δ s = (match δ[i]? with | some (some d) => .ok d s | _ => .stk) := id rfl
@[simp] theorem v_eC (d : D) (δ : Sl) (s : Sto) : eC d δ s = .ok d s := id rfl
@[simp] theorem v_eBin (g : B2) (a b : E) (δ : Sl) (s : Sto) : eBin g a b δ s = (a δ s).bind fun x s1 => (b δ s1).bind fun y s2 => R.ofO (g (rsv s2 x) (rsv s2 y)) s2 := id rfl
@[simp] theorem v_eUn (g : B1) (a : E) (δ : Sl) (s : Sto) : eUn g a δ s = (a δ s).bind fun x s1 => R.ofO (g (rsv s1 x)) s1 := id rfl
@[simp] theorem v_eFn (g : BA) (a : As) (δ : Sl) (s : Sto) : eFn g a δ s = (a δ s).bind fun x s1 => R.ofO (g (x.map (rsv s1))) s1 := id rfl
@[simp] theorem v_eCall (F : List D → Sto → R D) (a : As) (δ : Sl) (s : Sto) : eCall F a δ s = (a δ s).bind F := id rfl
@[simp] theorem v_tV (f : E) (δ : Sl) (s : Sto) : tV f δ s = (f δ s).bind fun d s1 => match d with | .bl b => .ok b s1 | _ => .stk := id rfl
@[simp] theorem v_tNt (f : T) (δ : Sl) (s : Sto) : tNt f δ s = (f δ s).bind fun b s1 => .ok (!b) s1 := id rfl
@[simp] theorem v_tAn (f g : T) (δ : Sl) (s : Sto) : tAn f g δ s = (f δ s).bind fun b s1 => if b = true then g δ s1 else .ok false s1 := id rfl
@[simp] theorem v_tOrr (f g : T) (δ : Sl) (s : Sto) : tOrr f g δ s = (f δ s).bind fun b s1 => if b = true then .ok true s1 else g δ s1 := id rfl
@[simp] theorem v_tTrue (δ : Sl) (s : Sto) : tTrue δ s = .ok true s := id rfl
@[simp] theorem v_eAn (a b : E) (δ : Sl) (s : Sto) : eAn a b δ s = (a δ s).bind fun x s1 => match x with | .bl true => b δ s1 | .bl false => .ok (.bl false) s1 | _ => .stk := id rfl
@[simp] theorem v_eOr (a b : E) (δ : Sl) (s : Sto) : eOr a b δ s = (a δ s).bind fun x s1 => match x with | .bl true => .ok (.bl true) s1 | .bl false => b δ s1 | _ => .stk := id rfl
@[simp] theorem v_eNt (a : E) (δ : Sl) (s : Sto) : eNt a δ s = (a δ s).bind fun x s1 => match x with | .bl k => .ok (.bl !k) s1 | _ => .stk := id rfl
@[simp] theorem v_eIf (t : T) (a b : E) (δ : Sl) (s : Sto) : eIf t a b δ s = (t δ s).bind fun k s1 => if k = true then a δ s1 else b δ s1 := id rfl
@[simp] theorem v_aNil (δ : Sl) (s : Sto) : aNil δ s = .ok [] s := id rfl
@[simp] theorem v_aCons (f : E) (r : As) (δ : Sl) (s : Sto) : aCons f r δ s = (f δ s).bind fun x s1 => (r δ s1).bind fun xs s2 => .ok (x :: xs) s2 := id rfl
@[simp] theorem v_eTup (r : As) (δ : Sl) (s : Sto) : eTup r δ s = (r δ s).bind fun xs s1 => if xs.length ≤ sizeLine then .ok (.tup xs) s1 else .stk := id rfl
@[simp] theorem v_eFz (f : Fr) (δ : Sl) (s : Sto) : eFz f δ s = (f δ s).bind fun xs s1 => .ok (.lst xs) s1 := id rfl
@[simp] theorem v_eNw (f : Fr) (δ : Sl) (s : Sto) : eNw f δ s = (f δ s).bind fun xs s1 => .ok (.ob s1.length) (s1 ++ [.lst xs]) := id rfl
@[simp] theorem v_fLst (r : As) (δ : Sl) (s : Sto) : fLst r δ s = (r δ s).bind fun xs s1 => if xs.length ≤ sizeLine then .ok xs s1 else .stk := id rfl
@[simp] theorem v_fList (f : E) (δ : Sl) (s : Sto) : fList f δ s = (f δ s).bind fun d s1 => match rsv s1 d with | .lst xs => .ok xs s1 | .tup xs => .ok xs s1 | .str x => if x.length ≤ sizeLine then .ok (signs x) s1 else .stk | _ => .stk := id rfl
@[simp] theorem v_sNx (δ : Sl) (s : Sto) : sNx δ s = .nx δ s := id rfl
@[simp] theorem v_sBk (δ : Sl) (s : Sto) : sBk δ s = .bk δ s := id rfl
@[simp] theorem v_sCt (δ : Sl) (s : Sto) : sCt δ s = .ct δ s := id rfl
@[simp] theorem v_sSeq (f g : S) (δ : Sl) (s : Sto) : sSeq f g δ s = (match f δ s with | .nx δ' s' => g δ' s' | r => r) := id rfl
@[simp] theorem v_sRet (f : E) (δ : Sl) (s : Sto) : sRet f δ s = sBind (f δ s) δ fun d s1 => .rt d s1 := id rfl
@[simp] theorem v_sRetN (δ : Sl) (s : Sto) : sRetN δ s = .rt .non s := id rfl
@[simp] theorem v_sIf (t : T) (a b : S) (δ : Sl) (s : Sto) : sIf t a b δ s = sBind (t δ s) δ fun k s1 => if k = true then a δ s1 else b δ s1 := id rfl
@[simp] theorem v_sSet (i : Nat) (f : E) (δ : Sl) (s : Sto) : sSet i f δ s = sBind (f δ s) δ fun d s1 => .nx (δ.set i (some d)) s1 := id rfl
@[simp] theorem v_sAsg (p : Pt) (f : E) (δ : Sl) (s : Sto) : sAsg p f δ s = sBind (f δ s) δ fun d s1 => sBindP p d δ s1 := id rfl
@[simp] theorem v_sFor (it : As) (p : Pt) (b : S) (δ : Sl) (s : Sto) : sFor it p b δ s = sBind (it δ s) δ fun items s1 => forD p b items δ s1 := id rfl
@[simp] theorem v_sAug (i : Nat) (g : B2) (f : E) (δ : Sl) (s : Sto) : sAug i g f δ s = (match δ[i]? with | some (some x) => sBind (f δ s) δ fun y s1 => (match g (rsv s1 x) (rsv s1 y) with | some z => .nx (δ.set i (some z)) s1 | none => .stk) | _ => .stk) := id rfl
@[simp] theorem v_sDrop (f : E) (δ : Sl) (s : Sto) : sDrop f δ s = sBind (f δ s) δ fun _ s1 => .nx δ s1 := id rfl
@[simp] theorem v_sRaise (cn : String) (δ : Sl) (s : Sto) : sRaise cn δ s = .exc ⟨cn, []⟩ δ s := id rfl
@[simp] theorem v_sFrz (i : Nat) (f : S) (δ : Sl) (s : Sto) : sFrz i f δ s = (match δ[i]? with | some (some d) => f (δ.set i (some (frzD s d).1)) (frzD s d).2 | _ => f δ s) := id rfl
@[simp] theorem v_eFrz (f : E) (δ : Sl) (s : Sto) : eFrz f δ s = (f δ s).bind fun d s1 => .ok (frzD s1 d).1 (frzD s1 d).2 := id rfl
@[simp] theorem v_sSetIx (o b e : E) (δ : Sl) (s : Sto) : sSetIx o b e δ s = sBind (e δ s) δ fun d s1 => sBind (o δ s1) δ fun x s2 => sBind (b δ s2) δ fun z s3 => match lsO s3 x, z with
  | some xs, .int k => (match ixN xs.length k with
    | some j => .nx δ (stO s3 x (xs.set j d))
    | none => .stk)
  | _, _ => .stk := id rfl
@[simp] theorem v_eApp (o a : E) (δ : Sl) (s : Sto) : eApp o a δ s = (o δ s).bind fun x s1 => if (lsO s1 x).isSome = true then ((a δ s1).bind fun y s2 => match lsO s2 x with
  | some xs => if xs.length < sizeLine then .ok .non (stO s2 x (xs ++ [y])) else .stk
  | none => .stk) else .stk := id rfl
@[simp] theorem v_ePopAt (o a : E) (δ : Sl) (s : Sto) : ePopAt o a δ s = (o δ s).bind fun x s1 => if (lsO s1 x).isSome = true then ((a δ s1).bind fun y s2 => match lsO s2 x, y with
  | some xs, .int k => if -(2 ^ 63) ≤ k ∧ k < 2 ^ 63 then (match seqIndex? k xs.length with
    | some j => (match xs[j]? with
      | some d => .ok d (stO s2 x (xs.eraseIdx j))
      | none => .stk)
    | none => .stk) else .stk
  | _, _ => .stk) else .stk := id rfl
@[simp] theorem v_nm (i : Nat) (d : D) (δ : Sl) : bindP (.nm i) d δ = some (δ.set i (some d)) := by simp [bindP]
@[simp] theorem v_tp (ps : List Pt) (ds : List D) (δ : Sl) : bindP (.tp ps) (.tup ds) δ = bindPs ps ds δ := by simp [bindP]
@[simp] theorem v_tpl (ps : List Pt) (ds : List D) (δ : Sl) : bindP (.tp ps) (.lst ds) δ = bindPs ps ds δ := by simp [bindP]
@[simp] theorem v_ps0 (δ : Sl) : bindPs [] [] δ = some δ := by simp [bindPs]
@[simp] theorem v_ps1 (p : Pt) (ps : List Pt) (d : D) (ds : List D) (δ : Sl) : bindPs (p :: ps) (d :: ds) δ = (match bindP p d δ with | some δ' => bindPs ps ds δ' | none => none) := by first | (simp only [bindPs]; done) | (simp only [bindPs] <;> rfl)
@[simp] theorem v_sBindP (p : Pt) (d : D) (δ : Sl) (s : Sto) : sBindP p d δ s = (match bindP p d δ with | some δ' => .nx δ' s | none => .stk) := id rfl
@[simp] theorem v_iRange1 (a : As) (δ : Sl) (s : Sto) : iRange1 a δ s = (a δ s).bind fun ds s1 => match ds with | [.int j] => if rngOk j then .ok (rngD 0 j.toNat) s1 else .stk | _ => .stk := id rfl
@[simp] theorem v_iRange2 (a : As) (δ : Sl) (s : Sto) : iRange2 a δ s = (a δ s).bind fun ds s1 => match ds with | [.int i, .int j] => if rngOk i ∧ rngOk j then .ok (rngD i (j - i).toNat) s1 else .stk | _ => .stk := by
  unfold iRange2 rngOk
  congr 1
  funext ds s1
  split <;> simp only [and_assoc]
@[simp] theorem v_iRevR2 (a b : E) (δ : Sl) (s : Sto) : iRevR2 a b δ s = (a δ s).bind fun x s1 => (b δ s1).bind fun y s2 => match x, y with | .int i, .int j => if rngOk i ∧ rngOk j then .ok (rngD i (j - i).toNat).reverse s2 else .stk | _, _ => .stk := by
  unfold iRevR2 rngOk
  congr 1
  funext x s1
  congr 1
  funext y s2
  split <;> simp only [and_assoc]
@[simp] theorem v_iSeq (f : E) (δ : Sl) (s : Sto) : iSeq f δ s = (f δ s).bind fun d s1 => R.ofO (seqOf d) s1 := id rfl
@[simp] theorem v_seqL (xs : List D) : seqOf (.lst xs) = some xs := id rfl
@[simp] theorem v_seqT (xs : List D) : seqOf (.tup xs) = some xs := id rfl
@[simp] theorem v_seqS (x : Str) : seqOf (.str x) = some (signs x) := id rfl
@[simp] theorem v_iEnumD (a : As) (δ : Sl) (s : Sto) : iEnumD a δ s = (a δ s).bind fun ds s1 => match ds with | [.lst xs] => .ok (enumD xs) s1 | _ => .stk := id rfl
@[simp] theorem v_iRevD (a : As) (δ : Sl) (s : Sto) : iRevD a δ s = (a δ s).bind fun ds s1 => match ds with | [.lst xs] => .ok xs.reverse s1 | _ => .stk := id rfl
@[simp] theorem v_iZipD (a : As) (δ : Sl) (s : Sto) : iZipD a δ s = (a δ s).bind fun ds s1 => match ds with | [.lst xs, .lst ys] => .ok (zipD xs ys) s1 | [.tup xs, .tup ys] => .ok (zipD xs ys) s1 | _ => .stk := id rfl
@[simp] theorem v_eSl (a : E) (lo hi : Os) (δ : Sl) (s : Sto) : eSl a lo hi δ s = (a δ s).bind fun x s1 => (lo δ s1).bind fun l s2 => (hi δ s2).bind fun h s3 => R.ofO (gSl (rsv s3 x) l h) s3 := id rfl
@[simp] theorem v_oNone (δ : Sl) (s : Sto) : oNone δ s = .ok none s := id rfl
@[simp] theorem v_oSome (f : E) (δ : Sl) (s : Sto) : oSome f δ s = (f δ s).bind fun d s1 => match d with | .int i => .ok (some i) s1 | _ => .stk := id rfl
@[simp] theorem v_fLc (it : As) (vs : List Nat) (p : Pt) (c : T) (e : E) (δ : Sl) (s : Sto) : fLc it vs p c e δ s = (it δ s).bind fun items s1 => (lcD p c e (wipeD δ vs) items s1).bind fun xs s2 => if xs.length ≤ sizeLine then .ok xs s2 else .stk := id rfl
@[simp] theorem v_eChain (g g' : B2) (a b c : E) (δ : Sl) (s : Sto) : eChain g g' a b c δ s = (a δ s).bind fun x s1 => (b δ s1).bind fun y s2 => (R.ofO (g (rsv s2 x) (rsv s2 y)) s2).bind fun z s3 => match z with | .bl true => (c δ s3).bind fun w s4 => R.ofO (g' (rsv s4 y) (rsv s4 w)) s4 | .bl false => .ok (.bl false) s3 | _ => .stk := id rfl
@[simp] theorem v_eM1 (g : D → List D → Option D) (o a : E) (δ : Sl) (s : Sto) : eM1 g o a δ s = (o δ s).bind fun x s1 => if isStr x then (a δ s1).bind fun y s2 => R.ofO (g x [rsv s2 y]) s2 else .stk := id rfl
@[simp] theorem v_isStr (x : Str) : isStr (.str x) = true := id rfl
@[simp] theorem v_eBits (f : E) (δ : Sl) (s : Sto) : eBits f δ s = (f δ s).bind fun d s1 => match d with
  | .int i => .ok (.int (Builtin.Int.intBits i : Nat)) s1
  | _ => .stk := id rfl
@[simp] theorem r_non (s : Sto) : rsv s .non = .non := id rfl
@[simp] theorem r_bl (s : Sto) (b : Bool) : rsv s (.bl b) = .bl b := id rfl
@[simp] theorem r_int (s : Sto) (b : Int) : rsv s (.int b) = .int b := id rfl
@[simp] theorem r_str (s : Sto) (b : Str) : rsv s (.str b) = .str b := id rfl
@[simp] theorem r_tup (s : Sto) (b : List D) : rsv s (.tup b) = .tup b := id rfl
@[simp] theorem r_lst (s : Sto) (b : List D) : rsv s (.lst b) = .lst b := id rfl
theorem r_ob {s : Sto} {i : Nat} {xs : List D} (h : s[i]? = some (.lst xs)) : rsv s (.ob i) = .lst xs := by unfold rsv; simp only [h]
theorem lsO_ob {s : Sto} {i : Nat} {xs : List D} (h : s[i]? = some (.lst xs)) : lsO s (.ob i) = some xs := by unfold lsO; simp only [h]
theorem frz_ob {s : Sto} {i : Nat} {xs : List D} (h : s[i]? = some (.lst xs)) : frzD s (.ob i) = (.lst xs, s.set i .gone) := by unfold frzD; simp only [h]
@[simp] theorem stO_ob (s : Sto) (i : Nat) (xs : List D) : stO s (.ob i) xs = s.set i (.lst xs) := id rfl
@[simp] theorem frz_lst (s : Sto) (xs : List D) : frzD s (.lst xs) = (.lst xs, s) := id rfl
@[simp] theorem frz_tup (s : Sto) (xs : List D) : frzD s (.tup xs) = (.tup xs, s) := id rfl
@[simp] theorem frz_int (s : Sto) (x : Int) : frzD s (.int x) = (.int x, s) := id rfl
@[simp] theorem frz_str (s : Sto) (x : Str) : frzD s (.str x) = (.str x, s) := id rfl
@[simp] theorem frz_bl (s : Sto) (x : Bool) : frzD s (.bl x) = (.bl x, s) := id rfl
@[simp] theorem frz_non (s : Sto) : frzD s .non = (.non, s) := id rfl
theorem get_set {s : Sto} {i : Nat} {o u : O} (h : s[i]? = some o) : (s.set i u)[i]? = some u := List.getElem?_set_self (List.getElem?_eq_some_iff.mp h).1
theorem set_same {s : Sto} {i : Nat} {o : O} (h : s[i]? = some o) : s.set i o = s := by
  apply List.ext_getElem?
  intro j
  by_cases z : i = j
  · subst z; rw [get_set h, h]
  · rw [List.getElem?_set_ne z]
@[simp] theorem get_last (s : Sto) (o : O) : (s ++ [o])[s.length]? = some o := by simp
@[simp] theorem v_add (i j : Int) : gAdd (.int i) (.int j) = some (.int (i + j)) := id rfl
@[simp] theorem v_addI (i j : Int) : gAddI (.int i) (.int j) = some (.int (i + j)) := id rfl
@[simp] theorem v_sub (i j : Int) : gSub (.int i) (.int j) = some (.int (i - j)) := id rfl
@[simp] theorem v_mul (i j : Int) : gMul (.int i) (.int j) = if IntMulOk i j then some (.int (i * j)) else none := id rfl
@[simp] theorem v_div (i j : Int) : gDiv (.int i) (.int j) = if divOk j then some (.int (i / j)) else none := id rfl
@[simp] theorem v_mod (i j : Int) : gMod (.int i) (.int j) = if 0 < j then some (.int (i % j)) else none := id rfl
@[simp] theorem v_pow (i j : Int) : gPow (.int i) (.int j) = if powOk i j then some (.int (i ^ j.toNat)) else none := id rfl
@[simp] theorem v_addL (xs ys : List D) : gAdd (.lst xs) (.lst ys) = if xs.length + ys.length ≤ sizeLine then some (.lst (xs ++ ys)) else none := id rfl
@[simp] theorem v_eqB (a b : Bool) : gEq (.bl a) (.bl b) = some (.bl (decide (a = b))) := id rfl
@[simp] theorem v_neB (a b : Bool) : gNe (.bl a) (.bl b) = some (.bl (!decide (a = b))) := id rfl
@[simp] theorem v_gListL (xs : List D) : gList [.lst xs] = some (.lst xs) := id rfl
@[simp] theorem v_gListT (xs : List D) : gList [.tup xs] = some (.lst xs) := id rfl
@[simp] theorem v_gListS (x : Str) : gList [.str x] = if x.length ≤ sizeLine then some (.lst (signs x)) else none := id rfl
@[simp] theorem v_gTupleL (xs : List D) : gTuple [.lst xs] = some (.tup xs) := id rfl
@[simp] theorem v_gTupleT (xs : List D) : gTuple [.tup xs] = some (.tup xs) := id rfl
@[simp] theorem v_gIntI (i : Int) : gInt [.int i] = some (.int i) := id rfl
@[simp] theorem v_gIntB (b : Bool) : gInt [.bl b] = some (.int (if b then 1 else 0)) := id rfl
@[simp] theorem v_gslL (xs : List D) (lo hi : Option Int) : gSl (.lst xs) lo hi = some (.lst (cutD xs lo hi)) := id rfl
@[simp] theorem isN_non : gIsN .non .non = some (.bl true) := id rfl
@[simp] theorem isN_str (x : Str) : gIsN (.str x) .non = some (.bl false) := id rfl
@[simp] theorem isN_tup (x : List D) : gIsN (.tup x) .non = some (.bl false) := id rfl
@[simp] theorem isN_lst (x : List D) : gIsN (.lst x) .non = some (.bl false) := id rfl
@[simp] theorem isN_int (x : Int) : gIsN (.int x) .non = some (.bl false) := id rfl
@[simp] theorem notN_non : gNotN .non .non = some (.bl false) := id rfl
@[simp] theorem notN_str (x : Str) : gNotN (.str x) .non = some (.bl true) := id rfl
@[simp] theorem notN_tup (x : List D) : gNotN (.tup x) .non = some (.bl true) := id rfl
/-- a part of any list -/
def cutL {α : Type} (xs : List α) (lo hi : Option Int) : List α := (xs.drop (HT.sIx xs.length 0 lo)).take (HT.sIx xs.length xs.length hi - HT.sIx xs.length 0 lo)
theorem cutD_map {α : Type} (f : α → D) (xs : List α) (lo hi : Option Int) : cutD (xs.map f) lo hi = (cutL xs lo hi).map f := by
  simp [cutD, cutL, List.map_take, List.map_drop]
@[simp] theorem cutD_ints (xs : List Int) (lo hi : Option Int) : cutD (xs.map D.int) lo hi = (cutL xs lo hi).map D.int := cutD_map _ _ _ _
theorem cutL_sub {α : Type} {xs : List α} {lo hi : Option Int} {x : α} (h : x ∈ cutL xs lo hi) : x ∈ xs := List.mem_of_mem_drop (List.mem_of_mem_take h)
theorem cutL_len {α : Type} (xs : List α) (lo hi : Option Int) : (cutL xs lo hi).length ≤ xs.length := by
  simp only [cutL, List.length_take, List.length_drop]
  omega
theorem cutL_nn {α : Type} (xs : List α) (a b : Nat) : cutL xs (some (a : Int)) (some (b : Int)) = (xs.drop a).take (b - a) := by
  simp only [cutL, HT.sIx_nat]
  by_cases h : a ≤ xs.length
  · rw [Nat.min_eq_left h]
    by_cases h2 : b ≤ xs.length
    · rw [Nat.min_eq_left h2]
    · rw [Nat.min_eq_right (by omega), List.take_of_length_le (by simp), List.take_of_length_le (by simp; omega)]
  · have e : min a xs.length = xs.length := by omega
    rw [e, List.drop_of_length_le (Nat.le_refl _), List.drop_of_length_le (by omega)]
    simp
@[simp] theorem v_lt (i j : Int) : gLt (.int i) (.int j) = some (.bl (decide (i < j))) := id rfl
@[simp] theorem v_le (i j : Int) : gLe (.int i) (.int j) = some (.bl (decide (i ≤ j))) := id rfl
@[simp] theorem v_gt (i j : Int) : gGt (.int i) (.int j) = some (.bl (decide (j < i))) := id rfl
@[simp] theorem v_ge (i j : Int) : gGe (.int i) (.int j) = some (.bl (decide (j ≤ i))) := id rfl
@[simp] theorem v_eqI (i j : Int) : gEq (.int i) (.int j) = some (.bl (decide (i = j))) := id rfl
@[simp] theorem v_neI (i j : Int) : gNe (.int i) (.int j) = some (.bl (!decide (i = j))) := id rfl
@[simp] theorem v_neg (i : Int) : gNeg (.int i) = some (.int (-i)) := id rfl
@[simp] theorem v_lenL (xs : List D) : gLen [.lst xs] = some (.int xs.length) := id rfl
@[simp] theorem v_lenT (xs : List D) : gLen [.tup xs] = some (.int xs.length) := id rfl
@[simp] theorem v_lenS (x : Str) : gLen [.str x] = if x.length ≤ sizeLine then some (.int x.length) else none := id rfl
@[simp] theorem v_min2 (i j : Int) : gMin2 [.int i, .int j] = some (.int (if j < i then j else i)) := id rfl
@[simp] theorem v_max2 (i j : Int) : gMax2 [.int i, .int j] = some (.int (if j > i then j else i)) := id rfl
@[simp] theorem v_ixL (xs : List D) (i : Int) : gIx (.lst xs) (.int i) = atI xs i := id rfl
@[simp] theorem v_ixT (xs : List D) (i : Int) : gIx (.tup xs) (.int i) = atI xs i := id rfl
@[simp] theorem v_revL (xs : List D) : gRev (.lst xs) = some (.lst xs.reverse) := id rfl
@[simp] theorem v_isi (n : String) (d : D) : gIsi n d = (tyN d).map fun t => .bl (isTy t n) := id rfl
@[simp] theorem v_isi2 (n m : String) (d : D) : gIsi2 n m d = (tyN d).map fun t => .bl (isTy t n || isTy t m) := id rfl
@[simp] theorem v_tyI (i : Int) : tyN (.int i) = some "int" := id rfl
@[simp] theorem v_tyB (i : Bool) : tyN (.bl i) = some "bool" := id rfl
@[simp] theorem v_tyS (i : Str) : tyN (.str i) = some "str" := id rfl
@[simp] theorem v_tyT (i : List D) : tyN (.tup i) = some "tuple" := id rfl
@[simp] theorem v_tyL (i : List D) : tyN (.lst i) = some "list" := id rfl
@[simp] theorem v_tyN : tyN .non = some "NoneType" := id rfl
@[simp] theorem v_isTy_NoneTypeNoneType : isTy "NoneType" "NoneType" = true := by decide
@[simp] theorem v_isTy_NoneTypebool : isTy "NoneType" "bool" = false := by decide
@[simp] theorem v_isTy_NoneTypeint : isTy "NoneType" "int" = false := by decide
@[simp] theorem v_isTy_NoneTypestr : isTy "NoneType" "str" = false := by decide
@[simp] theorem v_isTy_NoneTypetuple : isTy "NoneType" "tuple" = false := by decide
@[simp] theorem v_isTy_NoneTypelist : isTy "NoneType" "list" = false := by decide
@[simp] theorem v_isTy_boolNoneType : isTy "bool" "NoneType" = false := by decide
@[simp] theorem v_isTy_boolbool : isTy "bool" "bool" = true := by decide
@[simp] theorem v_isTy_boolint : isTy "bool" "int" = true := by decide
@[simp] theorem v_isTy_boolstr : isTy "bool" "str" = false := by decide
@[simp] theorem v_isTy_booltuple : isTy "bool" "tuple" = false := by decide
@[simp] theorem v_isTy_boollist : isTy "bool" "list" = false := by decide
@[simp] theorem v_isTy_intNoneType : isTy "int" "NoneType" = false := by decide
@[simp] theorem v_isTy_intbool : isTy "int" "bool" = false := by decide
@[simp] theorem v_isTy_intint : isTy "int" "int" = true := by decide
@[simp] theorem v_isTy_intstr : isTy "int" "str" = false := by decide
@[simp] theorem v_isTy_inttuple : isTy "int" "tuple" = false := by decide
@[simp] theorem v_isTy_intlist : isTy "int" "list" = false := by decide
@[simp] theorem v_isTy_strNoneType : isTy "str" "NoneType" = false := by decide
@[simp] theorem v_isTy_strbool : isTy "str" "bool" = false := by decide
@[simp] theorem v_isTy_strint : isTy "str" "int" = false := by decide
@[simp] theorem v_isTy_strstr : isTy "str" "str" = true := by decide
@[simp] theorem v_isTy_strtuple : isTy "str" "tuple" = false := by decide
@[simp] theorem v_isTy_strlist : isTy "str" "list" = false := by decide
@[simp] theorem v_isTy_tupleNoneType : isTy "tuple" "NoneType" = false := by decide
@[simp] theorem v_isTy_tuplebool : isTy "tuple" "bool" = false := by decide
@[simp] theorem v_isTy_tupleint : isTy "tuple" "int" = false := by decide
@[simp] theorem v_isTy_tuplestr : isTy "tuple" "str" = false := by decide
@[simp] theorem v_isTy_tupletuple : isTy "tuple" "tuple" = true := by decide
@[simp] theorem v_isTy_tuplelist : isTy "tuple" "list" = false := by decide
@[simp] theorem v_isTy_listNoneType : isTy "list" "NoneType" = false := by decide
@[simp] theorem v_isTy_listbool : isTy "list" "bool" = false := by decide
@[simp] theorem v_isTy_listint : isTy "list" "int" = false := by decide
@[simp] theorem v_isTy_liststr : isTy "list" "str" = false := by decide
@[simp] theorem v_isTy_listtuple : isTy "list" "tuple" = false := by decide
@[simp] theorem v_isTy_listlist : isTy "list" "list" = true := by decide
theorem small_line {n : Nat} (h : n ≤ 100000) : n ≤ sizeLine := Nat.le_trans h (by decide)
@[simp] theorem v_line0 : (0 : Nat) ≤ sizeLine := Nat.zero_le _
@[simp] theorem v_line1 : (1 : Nat) ≤ sizeLine := by decide
@[simp] theorem v_line2 : (2 : Nat) ≤ sizeLine := by decide
@[simp] theorem v_line3 : (3 : Nat) ≤ sizeLine := by decide
@[simp] theorem v_line4 : (4 : Nat) ≤ sizeLine := by decide
@[simp] theorem v_line5 : (5 : Nat) ≤ sizeLine := by decide
@[simp] theorem v_line6 : (6 : Nat) ≤ sizeLine := by decide
@[simp] theorem v_line7 : (7 : Nat) ≤ sizeLine := by decide
@[simp] theorem v_line8 : (8 : Nat) ≤ sizeLine := by decide
@[simp] theorem v_isB (a b : Bool) : gIsB (.bl a) (.bl b) = some (.bl (decide (a = b))) := id rfl
@[simp] theorem v_notB (a b : Bool) : gNotB (.bl a) (.bl b) = some (.bl (!decide (a = b))) := id rfl
@[simp] theorem v_eqS (a b : Str) : gEq (.str a) (.str b) = some (.bl (decide (a = b))) := id rfl
@[simp] theorem v_neS (a b : Str) : gNe (.str a) (.str b) = some (.bl (!decide (a = b))) := id rfl
@[simp] theorem v_addS (x y : Str) : gAdd (.str x) (.str y) = if x.length + y.length ≤ sizeLine then some (.str (x ++ y)) else none := id rfl
@[simp] theorem v_addT (xs ys : List D) : gAdd (.tup xs) (.tup ys) = if xs.length + ys.length ≤ sizeLine then some (.tup (xs ++ ys)) else none := id rfl
@[simp] theorem v_ixS (z : Str) (i : Int) : gIx (.str z) (.int i) = if z.length ≤ sizeLine then (atI z.cps.toList i).map fun c => .str ⟨#[c]⟩ else none := id rfl

end Gs

/-! G10: equality, items, lists of numbers. -/
namespace Gs
open PySem L2
abbrev iL (xs : List Int) : D := .lst (xs.map D.int)
theorem toPyL_ints : ∀ xs : List Int, toPyL (xs.map D.int) = some (xs.map PyData.int)
  | [] => by simp [toPyL]
  | x :: xs => by simp [toPyL, toPy, toPyL_ints xs]
theorem eqvAll_ints : ∀ xs ys : List Int, PyData.eqvAll (xs.map PyData.int) (ys.map PyData.int) = decide (xs = ys)
  | [], [] => by simp [PyData.eqvAll]
  | [], y :: ys => by simp [PyData.eqvAll]
  | x :: xs, [] => by simp [PyData.eqvAll]
  | x :: xs, y :: ys => by
    rw [List.map_cons, List.map_cons, PyData.eqvAll, eqvAll_ints xs ys, PyData.eqv]
    by_cases h : x = y <;> by_cases h2 : xs = ys <;> simp [h, h2]
theorem canLay_ints : ∀ xs : List Int, PyData.canLayAll0 (xs.map PyData.int) = true
  | [] => by simp [PyData.canLayAll0]
  | x :: xs => by simp [PyData.canLayAll0, PyData.canLay0, canLay_ints xs]
theorem depth_ints : ∀ xs : List Int, PyData.depthAll (xs.map PyData.int) = 0
  | [] => by simp [PyData.depthAll]
  | x :: xs => by simp [PyData.depthAll, PyData.depth, depth_ints xs]
theorem shaped_ints (xs : List Int) : SeqAt.shaped (.list (xs.map PyData.int)) = true := by
  simp [SeqAt.shaped, PyData.canLay0, PyData.depth, canLay_ints, depth_ints]
theorem eqO_L (xs ys : List Int) : eqO (.lst (xs.map D.int)) (.lst (ys.map D.int)) = some (decide (xs = ys)) := by
  have h : eqO (.lst (xs.map D.int)) (.lst (ys.map D.int)) = eqPy (.lst (xs.map D.int)) (.lst (ys.map D.int)) := by simp [eqO]
  rw [h]
  simp [eqPy, toPy, toPyL_ints, shaped_ints, PyData.eqv, eqvAll_ints]
@[simp] theorem v_eqL (xs ys : List Int) : gEq (.lst (xs.map D.int)) (.lst (ys.map D.int)) = some (.bl (decide (xs = ys))) := by simp [gEq, eqO_L]
@[simp] theorem v_neL (xs ys : List Int) : gNe (.lst (xs.map D.int)) (.lst (ys.map D.int)) = some (.bl (!decide (xs = ys))) := by simp [gNe, eqO_L]
@[simp] theorem v_eqL0 (xs : List Int) : gEq (.lst (xs.map D.int)) (.lst []) = some (.bl (decide (xs = []))) := v_eqL xs []
@[simp] theorem v_neL0 (xs : List Int) : gNe (.lst (xs.map D.int)) (.lst []) = some (.bl (!decide (xs = []))) := v_neL xs []
@[simp] theorem v_at0 (a : D) (l : List D) : atI (a :: l) 0 = some a := atI_ofNat (a :: l) (j := 0) (by simp)
@[simp] theorem v_at1 (a b : D) (l : List D) : atI (a :: b :: l) 1 = some b := atI_ofNat (a :: b :: l) (j := 1) (by simp)
@[simp] theorem v_at2 (a b c : D) (l : List D) : atI (a :: b :: c :: l) 2 = some c := atI_ofNat (a :: b :: c :: l) (j := 2) (by simp)
@[simp] theorem v_at3 (a b c d : D) (l : List D) : atI (a :: b :: c :: d :: l) 3 = some d := atI_ofNat (a :: b :: c :: d :: l) (j := 3) (by simp)
theorem eqO_T2 (a b c d : Int) : eqO (.tup [.int a, .int b]) (.tup [.int c, .int d]) = some (decide (a = c ∧ b = d)) := by
  have h : eqO (.tup [.int a, .int b]) (.tup [.int c, .int d]) = eqPy (.tup [.int a, .int b]) (.tup [.int c, .int d]) := by simp [eqO]
  rw [h]
  by_cases h1 : a = c <;> by_cases h2 : b = d <;> simp [eqPy, toPy, toPyL, SeqAt.shaped, PyData.canLay0, PyData.canLayAll0, PyData.depth, PyData.depthAll, PyData.eqv, PyData.eqvAll, h1, h2]
@[simp] theorem v_eqT2 (a b c d : Int) : gEq (.tup [.int a, .int b]) (.tup [.int c, .int d]) = some (.bl (decide (a = c ∧ b = d))) := by simp [gEq, eqO_T2]
@[simp] theorem v_neT2 (a b c d : Int) : gNe (.tup [.int a, .int b]) (.tup [.int c, .int d]) = some (.bl (!decide (a = c ∧ b = d))) := by simp [gNe, eqO_T2]
theorem cutL_lo {α : Type} (xs : List α) (a : Nat) : cutL xs (some (a : Int)) none = xs.drop a := by
  simp only [cutL, HT.sIx_nat, HT.sIx_none]
  by_cases h : a ≤ xs.length
  · rw [Nat.min_eq_left h, List.take_of_length_le (by simp)]
  · have e : min a xs.length = xs.length := by omega
    rw [e, List.drop_of_length_le (Nat.le_refl _), List.drop_of_length_le (by omega)]
    simp
theorem cutL_hi {α : Type} (xs : List α) (b : Nat) : cutL xs none (some (b : Int)) = xs.take b := by
  simp only [cutL, HT.sIx_nat, HT.sIx_none, List.drop_zero, Nat.sub_zero]
  by_cases h : b ≤ xs.length
  · rw [Nat.min_eq_left h]
  · rw [Nat.min_eq_right (by omega), List.take_of_length_le (by simp), List.take_of_length_le (by omega)]
/-! == of data -/
def eqk (k : Nat) (d : D) : Prop := ∃ p, toPy d = some p ∧ p.canLay0 = true ∧ p.depth ≤ k
theorem eqk_int (k : Nat) (i : Int) : eqk k (.int i) := ⟨.int i, by simp [toPy], by simp [PyData.canLay0], by simp [PyData.depth]⟩
theorem eqk_str (k : Nat) {z : Str} (h : PyData.canLay0 (.str z) = true) : eqk k (.str z) := ⟨.str z, by simp [toPy], h, by simp [PyData.depth]⟩
theorem eqk_up {k l : Nat} {d : D} (h : eqk k d) (hl : k ≤ l) : eqk l d := by
  obtain ⟨p, h1, h2, h3⟩ := h
  exact ⟨p, h1, h2, Nat.le_trans h3 hl⟩
theorem eqk_tup {k : Nat} {v u : D} (h : eqk k v) (h2 : eqk k u) : eqk (k + 1) (.tup [v, u]) := by
  obtain ⟨p, a1, a2, a3⟩ := h
  obtain ⟨q, b1, b2, b3⟩ := h2
  exact ⟨.tuple [p, q], by simp [toPy, toPyL, a1, b1], by simp [PyData.canLay0, PyData.canLayAll0, a2, b2], by simp [PyData.depth, PyData.depthAll]; omega⟩
theorem eqk_all {k : Nat} : ∀ {xs : List D}, (∀ x ∈ xs, eqk k x) → ∃ ps, toPyL xs = some ps ∧ PyData.canLayAll0 ps = true ∧ PyData.depthAll ps ≤ k
  | [], _ => ⟨[], by simp [toPyL], by simp [PyData.canLayAll0], by simp [PyData.depthAll]⟩
  | x :: xs, h => by
    obtain ⟨p, a1, a2, a3⟩ := h x (by simp)
    obtain ⟨ps, b1, b2, b3⟩ := eqk_all (xs := xs) fun y hy => h y (by simp [hy])
    exact ⟨p :: ps, by simp [toPyL, a1, b1], by simp [PyData.canLayAll0, a2, b2], by simp [PyData.depthAll]; omega⟩
theorem eqk_lst {k : Nat} {xs : List D} (h : ∀ x ∈ xs, eqk k x) : eqk (k + 1) (.lst xs) := by
  obtain ⟨ps, b1, b2, b3⟩ := eqk_all h
  exact ⟨.list ps, by simp [toPy, b1], by simpa [PyData.canLay0] using b2, by simp [PyData.depth]; omega⟩
theorem eqO_self {xs : List D} {k : Nat} (h : eqk k (.lst xs)) (hk : k ≤ 60) : eqO (.lst xs) (.lst xs) = some true := by
  obtain ⟨p, h1, h2, h3⟩ := h
  have e : eqO (.lst xs) (.lst xs) = eqPy (.lst xs) (.lst xs) := by simp [eqO]
  rw [e]
  unfold eqPy
  rw [h1]
  have hs : SeqAt.shaped p = true := by
    simp [SeqAt.shaped, h2]
    omega
  simp [hs, SeqAt.eqv_refl p h2]
theorem eqk_bl (k : Nat) (b : Bool) : eqk k (.bl b) := ⟨.bool b, by simp [toPy], rfl, by simp [PyData.depth]⟩
theorem eqk_tupL {k : Nat} {xs : List D} (h : ∀ x ∈ xs, eqk k x) : eqk (k + 1) (.tup xs) := by
  obtain ⟨ps, b1, b2, b3⟩ := eqk_all h
  exact ⟨.tuple ps, by simp [toPy, b1], by simpa [PyData.canLay0] using b2, by simp [PyData.depth]; omega⟩
theorem eqO_nil {k : Nat} {xs : List D} (h : eqk k (.lst xs)) (hk : k ≤ 60) : eqO (.lst xs) (.lst []) = some (decide (xs = [])) := by
  obtain ⟨p, h1, h2, h3⟩ := h
  have e : eqO (.lst xs) (.lst []) = eqPy (.lst xs) (.lst []) := by simp [eqO]
  rw [e]
  unfold eqPy
  rw [h1]
  have hs : SeqAt.shaped p = true := by
    simp [SeqAt.shaped, h2]
    omega
  have hn : toPy (.lst []) = some (.list []) := by simp [toPy, toPyL]
  have hs2 : SeqAt.shaped (.list []) = true := by simp [SeqAt.shaped, PyData.canLay0, PyData.canLayAll0, PyData.depth, PyData.depthAll]
  rw [hn]
  simp only [hs, hs2, Bool.and_self, if_true]
  simp only [toPy] at h1
  cases xs with
  | nil =>
    simp [toPyL] at h1
    subst h1
    simp [PyData.eqv, PyData.eqvAll]
  | cons x xs =>
    simp only [toPyL] at h1
    cases hx : toPy x with
    | none => rw [hx] at h1; simp at h1
    | some q =>
      cases hy : toPyL xs with
      | none => rw [hx, hy] at h1; simp at h1
      | some qs =>
        rw [hx, hy] at h1
        simp at h1
        subst h1
        simp [PyData.eqv, PyData.eqvAll]
theorem eq_nil {k : Nat} {xs : List D} (h : eqk k (.lst xs)) (hk : k ≤ 60) : gEq (.lst xs) (.lst []) = some (.bl (decide (xs = []))) := by simp [gEq, eqO_nil h hk]

@[simp] theorem eq_non_str (x : Str) : gEq .non (.str x) = some (.bl false) := by simp [gEq, eqO]
@[simp] theorem eq_str_non (x : Str) : gEq (.str x) .non = some (.bl false) := by simp [gEq, eqO]
@[simp] theorem eq_non_non : gEq .non .non = some (.bl true) := by simp [gEq, eqO]
@[simp] theorem v_eq00 : gEq (.lst []) (.lst []) = some (.bl true) := (v_eqL [] []).trans (by simp)
@[simp] theorem v_ne00 : gNe (.lst []) (.lst []) = some (.bl false) := (v_neL [] []).trans (by simp)
/-! what stands in the midst of a store -/
@[simp] theorem get_mid (s0 g : Sto) (o : O) : (s0 ++ o :: g)[s0.length]? = some o := by simp
@[simp] theorem set_mid (s0 g : Sto) (o u : O) : (s0 ++ o :: g).set s0.length u = s0 ++ u :: g := by simp
@[simp] theorem lsO_mid (s0 g : Sto) (xs : List D) : lsO (s0 ++ .lst xs :: g) (.ob s0.length) = some xs := lsO_ob (get_mid _ _ _)
@[simp] theorem rsv_mid (s0 g : Sto) (xs : List D) : rsv (s0 ++ .lst xs :: g) (.ob s0.length) = .lst xs := r_ob (get_mid _ _ _)
@[simp] theorem frz_mid (s0 g : Sto) (xs : List D) : frzD (s0 ++ .lst xs :: g) (.ob s0.length) = (.lst xs, s0 ++ .gone :: g) := by rw [frz_ob (get_mid _ _ _), set_mid]
theorem forL {p : Pt} {body : S} {xs : List Int} {δ : Sl} {s : Sto} (Inv : Nat → Sl → Sto → Prop) (h0 : Inv 0 δ s)
    (hs : ∀ i (h : i < xs.length) δ s, Inv i δ s → ∃ δ1, bindP p (.int xs[i]) δ = some δ1 ∧ ∃ δ2 s2, body δ1 s = .nx δ2 s2 ∧ Inv (i + 1) δ2 s2) : ∃ δ' s', forD p body (xs.map D.int) δ s = .nx δ' s' ∧ Inv xs.length δ' s' := by
  have z := forD_inv (p := p) (body := body) Inv (xs.map D.int) 0 δ s h0 fun i d δ s hd hi => by
    obtain ⟨h1, h2⟩ := List.getElem?_eq_some_iff.mp hd
    rw [List.length_map] at h1
    rw [List.getElem_map] at h2
    subst h2
    rw [Nat.zero_add] at hi ⊢
    exact hs i h1 δ s hi
  rw [Nat.zero_add, List.length_map] at z
  exact z
end Gs

/-! GX: an exception that was caught is kept, as data. -/
namespace L2
open PySem PySem.Spec PyProof.Rows
/-- a thing that stands in the heap, laid within this frame, is tracked from here on -/
theorem Inv.track {X : Cx} {pins : List (Addr × Obj)} {σ : St} {H : Hp} {s : Shared} {a : Addr} {oe : Obj} {vs : Array Value} {o : HO} (J : Inv X pins σ H s) (hg : s.heap.get? a = some oe) (hd : oe.data = .fields vs) (na : H a = none) (n0 : X.s_0.heap.get? a = none) (nL : a ≠ X.env.locals)
    (np : ∀ p ∈ X.pn ++ pins, p.1 ≠ a) (nw : ObjOk X.prog X.w (upd H a o) s.heap a o) : Inv X pins σ (upd H a o) s where
  ok := J.ok
  os := J.os
  bare := J.bare
  base := by
    have ne : ∀ {b : Addr} {u : Obj}, X.s_0.heap.get? b = some u → b ≠ a := fun q z => by rw [z, n0] at q; cases q
    exact ⟨J.base.keep, J.base.slot, fun b u q m x => by rw [upd_ne (ne q)]; exact J.base.free b u q m x, J.base.there,
      fun b xs q => by
        have z := J.base.tups b xs q
        rw [upd_ne (ne_of_none z na)]
        exact z,
      fun b u w q => by
        have z := J.base.frzs b u w q
        rw [upd_ne (ne_of_none z na)]
        exact z,
      fun b ps q => by
        obtain ⟨more, z⟩ := J.base.tbls b ps q
        exact ⟨more, by rw [upd_ne (ne_of_none z na)]; exact z⟩⟩
  loc := J.loc
  cell := J.cell
  free := by rw [upd_ne nL.symm]; exact J.free
  freeC := fun x c e => by
    have ne : c ≠ a := fun z => by
      obtain ⟨v, oc, hoc, hdc⟩ := J.cell x c e
      rw [z, hg] at hoc
      cases hoc
      rw [hd] at hdc
      cases hdc
    rw [upd_ne ne]
    exact J.freeC x c e
  pin := fun p hp => by
    obtain ⟨e1, e2, e3, e4, e5⟩ := J.pin p hp
    exact ⟨e1, by rw [upd_ne (np p hp)]; exact e2, e3, e4, e5⟩
  hok := HOk.laidN J.hok (fun _ _ q => q) na nw
  len := J.len
/-- an exception object of the class cls with the own dict d at a -/
def EvK (cls : Value) (d : Option Addr) (a : Addr) : HO := .ext fun h => ∃ (oe : Obj) (vs : Array Value), h.get? a = some oe ∧ Zc cls d oe ∧ oe.data = .fields vs
theorem evK_ok {P : Program} {w : World} {H : Hp} {h : Heap} {a : Addr} {cls : Value} {d : Option Addr} {oe : Obj} {vs : Array Value} (e : h.get? a = some oe) (z : Zc cls d oe) (q : oe.data = .fields vs) : ObjOk P w H h a (EvK cls d a) :=
  ⟨⟨oe, vs, e, z, q⟩, ⟨oe, e⟩, fun _ _ ⟨o, v, q1, r⟩ k => ⟨o, v, k o q1, r⟩⟩
/-- the ends of a suite, the exception at a tracked behind it -/
def kEnds (i : Nat) (D : Ends) (T : Hp → Hp) : Ends :=
  { nx := fun σ H => D.nx (σ.set i none) (T H), rt := fun v H => D.rt v (T H), bk := fun σ H => D.bk (σ.set i none) (T H), ct := fun σ H => D.ct (σ.set i none) (T H) }
def wKp (K : PySem.W.Frag) (c : Value) (i : Nat) (ts : Addr → Value → Option Addr → TS) (Wo : WX) (D : Ends) : WX := fun cls d σ H => ∃ b, PySem.W.exmOne K cls c = some b ∧
  (b = true → ∀ a, H a = none → ts a cls d (kEnds i D fun H' => upd H' a (EvK cls d a)) (σ.set i (some (.ref a))) H) ∧ (b = false → Wo cls d σ H)
section
variable {X : Cx} {x n : Str} {c : Value} {i : Nat} {body suite : List Stmt} {st₀ : Stmt} {np pos pos' : Pos} {tb : WX → TS} {ts : Addr → Value → Option Addr → TS} {Wo : WX}
theorem ps_try_keep (hs : X.stack = X.env :: X.outer) (hf : X.env.frame = some X.env.locals) (hN : X.N.Nodup) (hi : X.N[i]? = some n) (hln : X.env.kindOf n = some .local) (hx0 : X.ex = []) (hc : Names X x c) (tk : Takes X Wo)
    (hb : ∀ (W : WX) (pn : List (Addr × Obj)) (xe : Value → Shared → Prop), Takes (X.tr pn xe) W → PassesOwn (model X.prog X.w) X.A X.env xe → PSs (X.tr pn xe) body (tb W))
    (hsu : ∀ (a : Addr) (oe : Obj) (cls : Value) (d : Option Addr) (pn : List (Addr × Obj)), Zc cls d oe → (∃ vs, oe.data = .fields vs) → PSs (X.suite a ((a, oe) :: pn)) (st₀ :: suite) (ts a cls d)) :
    PS X (.Try body [.ExceptHandler (some (.Name x np)) (some n) (st₀ :: suite) pos'] [] [] pos) (fun D σ H => tb (wKp X.K c i ts Wo D) D σ H) := by
  refine ⟨fun pins s σ H D I0 hpre => ?_⟩
  have okX := I0.ok
  have frames : X.A.frames = some (X.env :: X.outer) := by rw [okX.frames, hs]
  refine wpAny_Try_except ?_
  have bodyRun := (hb (wKp X.K c i ts Wo D) (X.pn ++ pins) (fun e z1 => wpAny (model X.prog X.w) X.A (noteFrame e X.env) (fun _ z2 => wpAny (model X.prog X.w) X.A (setFlight e none)
      (fun _ z3 => wpAny (model X.prog X.w) X.A (handleBy e X.env [.ExceptHandler (some (.Name x np)) (some n) (st₀ :: suite) pos']) (SP X pins D) X.xe z3) X.xe z2) X.xe z1) (fun u z xx => ?_) PassesOwn.looking).run [] s σ H D (I0.toTry _) hpre
  · refine wpAny_mono bodyRun (fun fl z1 hsp => ?_) (fun _ _ he => he)
    cases fl with
    | next =>
      obtain ⟨σ1, H1, J1, q1⟩ := hsp
      exact wpAny_execs_nil ⟨σ1, H1, J1.ofTry okX, q1⟩
    | brk =>
      obtain ⟨σ1, H1, J1, q1⟩ := hsp
      exact ⟨σ1, H1, J1.ofTry okX, q1⟩
    | cont =>
      obtain ⟨σ1, H1, J1, q1⟩ := hsp
      exact ⟨σ1, H1, J1.ofTry okX, q1⟩
    | ret u =>
      obtain ⟨v1, σ1, H1, J1, r1, q1⟩ := hsp
      exact ⟨v1, σ1, H1, J1.ofTry okX, r1, q1⟩
  · -- what is caught
    obtain ⟨a, B, sI, pins', σc, Hc, cls, d, rfl, Jt, nb, up, sky, na, osE, ag, b, hb1, hyes, hno⟩ := xx
    have J : Inv X pins σc Hc sI := Jt.ofTry okX
    have skyE : Sky B (X.env :: X.outer) a (Zc cls d) X.env.locals z.heap := by rw [← hs]; exact sky
    have nB : B.get? a = none := by rcases skyE with q | q | q <;> exact q.2.1
    show wpAny (model X.prog X.w) X.A (noteFrame (.ref a) X.env) _ _ _
    refine Sky.land Zc.steady frames hf skyE fun hp3 fly3 up3 => ?_
    have K3 : Inv X pins σc Hc { z with heap := hp3 } := J.landed nb fly3.1 (up.trans up3) osE ag
    obtain ⟨oe3, vs3, g3, zc3, d3⟩ := fly3.there
    have notFrame : a ∉ frs (X.env :: X.outer) := fun hm => by
      obtain ⟨_, o', e', hnf⟩ := fly3.2.2.1.mem hm
      rw [g3] at e'
      cases e'
      exact hnf _ d3
    have nL : a ≠ X.env.locals := fun w => notFrame (List.mem_filterMap.mpr ⟨X.env, List.mem_cons_self, by rw [hf, w]⟩)
    have nF : a ∉ X.fs := fun hm => by
      obtain ⟨e, he, q⟩ := List.mem_filterMap.mp hm
      exact notFrame (List.mem_filterMap.mpr ⟨e, List.mem_cons_of_mem _ he, q⟩)
    -- the exception is new
    have nI : sI.heap.get? a = none := by
      cases w : sI.heap.get? a with
      | none => rfl
      | some ob =>
        have w2 := nb a ob w (by rw [hs]; exact notFrame)
        rw [nB] at w2
        cases w2
    have n0 : X.s_0.heap.get? a = none := by
      cases w : X.s_0.heap.get? a with
      | none => rfl
      | some ob =>
        obtain ⟨o', w2⟩ := J.base.there a ob w (by rw [hx0]; simp)
        rw [nI] at w2
        cases w2
    have npin : ∀ p ∈ X.pn ++ pins, p.1 ≠ a := fun p hp w => by
      have w2 := (J.pin p hp).1
      rw [w, nI] at w2
      cases w2
    refine wpAny_handleBy_cons (codeAny_handlers_test ?_) (by intro q; cases q)
    have LT : PySem.W.Looks (model X.prog X.w) hp3 (typeOf (.ref a)) cls := fun A Q E s k q => wpAny_typeOf_ref (k _ _ g3) (by rw [zc3.1]; exact q)
    have LM := PySem.W.exm_one (M := model X.prog X.w) (K3.kIn) LT hb1
    have S3 := K3.suite g3 d3 na nL nF
    have clsNamed : ∀ {Q : Value → Shared → Prop} {E : Value → Shared → Prop}, Q c { z with heap := hp3 } → wpAny (model X.prog X.w) (X.A.mark (some (.ref a))) (eval (.Name x np) X.env) Q E { z with heap := hp3 } := fun {Q E} q => by
      obtain ⟨hgl, hdbg, hm | ⟨hm, hv, hnn⟩⟩ := hc
      · exact ld_glob (X := X.suite a ((a, oe3) :: (X.pn ++ pins))) S3 hgl hm q hdbg
      · exact ld_blt (X := X.suite a ((a, oe3) :: (X.pn ++ pins))) S3 hgl hm hv q hnn hdbg
    refine clsNamed (LM.here ?_)
    cases b with
    | false =>
      show wpAny _ X.A (handleBy (.ref a) X.env []) _ _ _
      refine wpAny_handleBy_nil ?_
      obtain ⟨k1, k2, k3, oe, vs, T, oT, tsl, he, hz, hd, h1, hr⟩ := id fly3
      unfold PySem.passOn
      refine wpAny_bind (wpAny_field he hd h1 ?_)
      rw [if_neg (show ¬ ((Value.ref T == Value.none) = true) from by simp)]
      have fin : wpAny (model X.prog X.w) X.A (setFlight (.ref a) X.env.frame) (fun _ z4 => wpAny (model X.prog X.w) X.A (throw (.ref a) : Sem Flow) (SP X pins D) X.xe z4) X.xe { z with heap := hp3 } := by
        rw [hf]
        refine HandSPX.setFlight_upZ fly3 fun h4 hh4 up4 => wpAny_throw (tk _ _ ?_)
        exact ⟨a, B, sI, pins, σc, Hc, cls, d, rfl, J, nb, (up.trans up3).trans up4, .inr (.inr (by rw [hs]; exact hh4)), na, osE, ag, hno rfl⟩
      first
        | exact wpAny_bind (wpAny_pure (wpAny_bind fin))
        | exact wpAny_bind fin
    | true =>
      refine codeAny_handlers_suite_as ?_
      refine HandSPX.lands_againZ fly3 fun hp4 fly4 up4 => ?_
      have K4 : Inv X pins σc Hc { z with heap := hp4 } := J.landed nb fly4.1 ((up.trans up3).trans up4) osE ag
      obtain ⟨oe4, vs4, g4, zc4, d4⟩ := fly4.there
      have S4 := K4.suite g4 d4 na nL nF
      refine store_ok (X := X.suite a ((a, oe4) :: (X.pn ++ pins))) (v := .ref a) S4 hN hi (.inl hln) rfl (fun z5 S5 => ?_) (.inr hln)
      have run := (hsu a oe4 cls d (X.pn ++ pins) zc4 ⟨_, d4⟩).run [] z5 _ Hc _ S5 (hyes rfl a na)
      refine wpAny_mono run (fun fl z6 hsp => ?_) (fun _ _ w => False.elim w)
      have leave : ∀ {σ6 : St} {H6 : Hp} {Q : Shared → Prop}, Inv (X.suite a ((a, oe4) :: (X.pn ++ pins))) [] σ6 H6 z6 → (∀ z7, Inv X pins (σ6.set i none) (upd H6 a (EvK cls d a)) z7 → Q z7) →
          wpAny (model X.prog X.w) X.A (do bindName X.env n .none; unbindBehindTheSuite X.env n pos') (fun _ z7 => Q z7) X.xe z6 := fun {σ6 H6 Q} S6 hq => by
        obtain ⟨p1, p2, p3, p4, p5⟩ := S6.pin (a, oe4) (by simp)
        have J6 : Inv X pins σ6 H6 z6 := S6.unsuite okX
        have T6 := J6.track p1 d4 p2 n0 nL npin (evK_ok p1 zc4 d4)
        exact gone_ok T6 hN hi hln hq
      cases fl with
      | next =>
        obtain ⟨σ6, H6, S6, q6⟩ := hsp
        exact leave S6 fun z7 J7 => ⟨_, _, J7, q6⟩
      | brk =>
        obtain ⟨σ6, H6, S6, q6⟩ := hsp
        exact leave S6 fun z7 J7 => ⟨_, _, J7, q6⟩
      | cont =>
        obtain ⟨σ6, H6, S6, q6⟩ := hsp
        exact leave S6 fun z7 J7 => ⟨_, _, J7, q6⟩
      | ret u =>
        obtain ⟨v6, σ6, H6, S6, r6, q6⟩ := hsp
        exact leave S6 fun z7 J7 => ⟨_, _, _, J7, r6, q6⟩
end
end L2

/-! GY: try .. except C as e: x = e; isinstance of what may be an exception. -/
namespace Gs
open PySem L2
theorem RE.wish2 {K : PySem.W.Frag} {v0 : Vw} {ct : String → Addr} {W W' : WX} {σ : L2.St} {δ : Sl} {v : Vw} (r : RE K ⟨v0, ct, W⟩ σ δ v) : RE K ⟨v0, ct, W'⟩ σ δ v := ⟨r.le, r.sr, r.len, r.sl⟩
/-- which classes the clause takes: by pairs -/
def XT (K : PySem.W.Frag) (ct : String → Addr) (c : Addr) (t : String → Option Bool) : Prop := ∀ s b, t s = some b → PySem.W.exmOne K (.ref (ct s)) (.ref c) = some b
theorem xt_sub {K : PySem.W.Frag} {ct : String → Addr} {c : Addr} (hb : PySem.W.subIn K (.ref c) (.type "BaseException") = some true) (hd : PySem.W.hasDictIn K c = true) (ht : PySem.W.typeIn K (.ref c) = some (.type "type")) {s : String} {b : Bool} (h : PySem.W.subIn K (.ref (ct s)) (.ref c) = some b) :
    PySem.W.exmOne K (.ref (ct s)) (.ref c) = some b := PySem.W.exm_ref hb hd ht h
def sTryK (t : String → Option Bool) (i j : Nat) (fb : S) : S := fun δ s => match fb δ s with
  | .exc e δ' s' => if e.fs.isEmpty = true then (match t e.cls with
    | some true => .nx (((δ'.set i none).set j (some (.ev e.cls [] []))).set i none) s'
    | some false => .exc e δ' s'
    | none => .stk) else .stk
  | r => r
section
variable {X : Cx} {C : Cc}
theorem ss_try_keep {x n : Str} {c : Addr} {t : String → Option Bool} {i j : Nat} {body suite : List Stmt} {b₀ : Stmt} {np pos' pos : Pos} {fb : S} (hs : X.stack = X.env :: X.outer) (hf : X.env.frame = some X.env.locals) (hN : X.N.Nodup) (hi : X.N[i]? = some n) (hln : X.env.kindOf n = some .local) (hx0 : X.ex = [])
    (hc : Names X x (.ref c)) (tk : Takes X C.W) (ht : XT X.K C.ct c t)
    (hb : ∀ (W : WX) (pn : List (Addr × Obj)) (xe : Value → Shared → Prop), Takes (X.tr pn xe) W → PassesOwn (model X.prog X.w) X.A X.env xe → SSs (X.tr pn xe) { C with W := W } body fb)
    (hsu : ∀ (a : Addr) (oe : Obj) (pn : List (Addr × Obj)), PSs (X.suite a ((a, oe) :: pn)) (b₀ :: suite) (fun Dn σ H => ∃ v, σ[i]? = some (some v) ∧ Dn.nx (σ.set j (some v)) H)) :
    SS X C (.Try body [.ExceptHandler (some (.Name x np)) (some n) (b₀ :: suite) pos'] [] [] pos) (sTryK t i j fb) := by
  refine ⟨fun pins s σ H Dn I h => ?_⟩
  have hiN : i < X.N.length := (List.getElem?_eq_some_iff.mp hi).1
  refine (ps_try_keep (tb := fun W => liftS X.K { C with W := W } fb) (ts := fun a cls d => fun Dn σ H => (∃ σ0 : L2.St, σ = List.set σ0 i (some (.ref a))) ∧ Dn.nx (σ.set j (some (.ref a))) H)
    hs hf hN hi hln hx0 hc tk hb fun a oe cls d pn hz hfl => ⟨fun pins s σ H Dn I hh => by
      obtain ⟨⟨σ0, rfl⟩, h2⟩ := hh
      have hl : (List.set σ0 i (some (V.ref a))).length = X.N.length := I.len
      rw [List.length_set] at hl
      exact (hsu a oe pn).run pins s _ H Dn I ⟨.ref a, List.getElem?_set_self (by omega), h2⟩⟩).run pins s σ H Dn I ?_
  have hσ : σ.length = X.N.length := I.len
  obtain ⟨δ, v, re, eH, h⟩ := h
  refine ⟨δ, v, re.wish2, eH, ?_⟩
  unfold sTryK at h
  cases e : fb δ v.st with
  | nx δ' s' => rw [e] at h; exact fun σ' v' re l es => h σ' v' re.wish2 l es
  | bk δ' s' => rw [e] at h; exact fun σ' v' re l es => h σ' v' re.wish2 l es
  | ct δ' s' => rw [e] at h; exact fun σ' v' re l es => h σ' v' re.wish2 l es
  | rt d s' => rw [e] at h; exact h
  | stk => rw [e] at h; exact h.elim
  | exc ex δ' s' =>
    rw [e] at h
    simp only at h
    intro cls dd σ' v' re' l' es rx
    split at h
    · rename_i hfs
      have hfs' : ex.fs = [] := List.isEmpty_iff.mp hfs
      have hdd : dd = none := rx.2.elim (fun z => z.2) fun z => absurd hfs' z.1
      cases q : t ex.cls with
      | none => rw [q] at h; exact h.elim
      | some bb =>
        rw [q] at h
        refine ⟨bb, by rw [rx.1]; exact ht _ _ q, fun hb => ?_, fun hb => ?_⟩
        · subst hb
          intro a ha
          simp only at h
          subst hdd
          refine ⟨⟨σ', rfl⟩, ?_⟩
          obtain ⟨l2, s2⟩ := new_ok (o := EvO cls none a) re'.sr ha
          have rep : Rep X.K C.ct (v'.new a (EvO cls none a)).G v'.m (.ev ex.cls [] []) (.ref a) := .ev0 (by rw [← rx.1]; exact upd_same)
          exact h _ (v'.new a (EvO cls none a)) (((((re'.setU i (some (.ref a))).step l2 s2).setV j rep).setU i none)).wish2 (l'.trans l2) es
        · subst hb
          exact h cls dd σ' v' re'.wish2 l' es rx
    · exact h.elim
end
/-! isinstance -/
/-- what is known of a class that is asked for: of None, of the classes that are raised -/
structure EI (K : PySem.W.Frag) (ct : String → Addr) (tb : String → Option Bool) (cv : Value) : Prop where
  non : PySem.W.kitOne K (.type "NoneType") cv = some false
  ev : ∀ c b, tb c = some b → ExcC K (ct c) ∧ PySem.W.kitOne K (.ref (ct c)) cv = some b
def rIsEv (K : PySem.W.Frag) : List V → Hp → VK → Prop := fun xs H Q => ∃ (a D : Addr) (c : V) (cv : Value) (b : Bool), xs = [.ref a, c] ∧ ClsV c cv ∧ H a = some (EvO (.ref D) none a) ∧ ExcC K D ∧ PySem.W.kitOne K (.ref D) cv = some b ∧ Q (.bl b) H
section
variable {X : Cx} {C : Cc}
theorem call_isEv : CallR X (.builtin "isinstance") (rIsEv X.K) := by
  intro pins s σ H xs us Q I r h
  obtain ⟨a, D, c, cv, b, rfl, hcv, hH, EC, e, q⟩ := h
  cases r with
  | cons rx rr =>
    cases rr with
    | cons rt rr =>
      cases rr
      cases rx
      have ec := hcv.eq rt
      subst ec
      obtain ⟨⟨oe, vs, hget, hz, hv⟩, _⟩ := (show ObjOk X.prog X.w H s.heap a (EvO (.ref D) none a) from I.hok a _ hH)
      have J : PySem.W.InstAt s.heap a oe D none := by
        obtain ⟨oc, od, oda, osl⟩ := oe
        obtain ⟨z1, z2⟩ := hz
        dsimp only at z1 z2 hv
        subst z1 z2 hv
        exact ⟨hget, rfl, rfl, trivial⟩
      exact PySem.W.kia_one (PySem.W.handS_kitx_exc EC.hg EC.hk EC.hs EC.hd EC.ha EC.hn EC.ht EC.hm) I.kIn J e (fun z => nomatch z) fun tk => ⟨.bl b, H, I.kept (t' := tk) fun _ _ z => z, rfl, q⟩
theorem call_isU : CallR X (.builtin "isinstance") (fun xs H Q => rIsi X.K xs H Q ∨ rIsEv X.K xs H Q) := fun pins s σ H xs us Q I r h =>
  h.elim (call_isi pins s σ H xs us Q I r) (call_isEv pins s σ H xs us Q I r)
def gIsC (tb : String → Option Bool) : B1
  | .non => some (.bl false)
  | .ev c [] [] => (tb c).map .bl
  | _ => none
theorem se_isC {a : Expr} {fa : E} {pf pn pos : Pos} {nx : Str} {cV : V} {cv : Value} {tb : String → Option Bool} (ha : SE X C a fa) (hg : Gl X "isinstance") (hm : X.mg "isinstance" = none) (hc : PE X (.Name nx pn) (tC cV)) (hk : ClsV cV cv) (hE : EI X.K C.ct tb cv)
    (hvi : bootBuiltins "isinstance" = some (.builtin "isinstance") := by decide +kernel)
    (hs : starEach [a, .Name nx pn] X.env = (false, eval a X.env) :: starEach [.Name nx pn] X.env := by rfl) (hpl : (backTo pos (starEach [.Name nx pn] X.env)).any (·.1) = false := by rfl)
    (hs2 : starEach [.Name nx pn] X.env = (false, eval (.Name nx pn) X.env) :: starEach [] X.env := by rfl) :
    SE X C (.Call (.Name "isinstance" pf) [a, .Name nx pn] [] pos) (eUn (gIsC tb) fa) :=
  pe_weak (pe_callB call_isU hg hm hvi (pa_cons ha (pa_cons hc pa_nil hs2) hs) (by decide) (by decide) hs hpl) fun σ H Q h => by
    obtain ⟨δ, v8, re, eH, h1⟩ := lift_un h
    refine ⟨δ, v8, re, eH, on_mono h1 fun d x v1 l1 s1 r1 h2 => ?_⟩
    obtain ⟨v2, dx, d2, eH2, sr, e, r2, h2⟩ := h2
    rw [← eH2]
    cases r2 with
    | non =>
      simp only [gIsC, Option.some.injEq] at e
      subst e
      exact .inl ⟨.non, cV, .type "NoneType", cv, false, rfl, hk, .base .non, hE.non, h2 _ v2 .refl sr rfl (.bl _)⟩
    | @ev a0 c ks0 ds0 r3 =>
      cases r3 with
      | ev0 hG =>
        simp only [gIsC] at e
        cases q : tb c with
        | none => rw [q] at e; exact nomatch e
        | some b =>
          rw [q] at e
          simp only [Option.map_some, Option.some.injEq] at e
          subst e
          obtain ⟨h3, h4⟩ := hE.ev c b q
          exact .inr ⟨a0, C.ct c, cV, cv, b, rfl, hk, sr.sub _ _ hG, h3, h4, h2 _ v2 .refl sr rfl (.bl _)⟩
      | ev n hG hG2 hl hr =>
        cases ks0 with
        | nil => exact absurd rfl n
        | cons k ks => simp only [gIsC, reduceCtorEq] at e
    | _ => simp only [gIsC, reduceCtorEq] at e
end
@[simp] theorem v_sTryK (t : String → Option Bool) (i j : Nat) (fb : S) (δ : Sl) (s : Sto) : sTryK t i j fb δ s = (match fb δ s with
  | .exc e δ' s' => if e.fs.isEmpty = true then (match t e.cls with
    | some true => .nx (((δ'.set i none).set j (some (.ev e.cls [] []))).set i none) s'
    | some false => .exc e δ' s'
    | none => .stk) else .stk
  | r => r) := id rfl
@[simp] theorem v_isC_non (tb : String → Option Bool) : gIsC tb .non = some (.bl false) := id rfl
@[simp] theorem v_isC_ev (tb : String → Option Bool) (c : String) : gIsC tb (.ev c [] []) = (tb c).map .bl := id rfl
@[simp] theorem isN_ev (c : String) (ks : List Str) (ds : List D) : gIsN (.ev c ks ds) .non = some (.bl false) := id rfl
@[simp] theorem notN_ev (c : String) (ks : List Str) (ds : List D) : gNotN (.ev c ks ds) .non = some (.bl true) := id rfl
@[simp] theorem r_ev (s : Sto) (c : String) (ks : List Str) (ds : List D) : rsv s (.ev c ks ds) = .ev c ks ds := id rfl
end Gs

/-! GZ: a call that only looks at the lists of the store; clear; xs[::-1] as a new list. -/
namespace Gs
open PySem L2
def gones (n : Nat) : Sto := List.replicate n .gone
/-- the frozen look of a datum's top -/
def lokD (s : Sto) : D → D
  | .ob i => match s[i]? with
    | some (.lst xs) => .lst xs
    | _ => .ob i
  | d => d
def scal : D → Bool
  | .non => true
  | .bl _ => true
  | .int _ => true
  | .str _ => true
  | _ => false
/-- b is a list of the store's -/
def Vw.isL (v : Vw) (b : Addr) : Prop := ∃ (i : Nat) (xs : List D), v.st[i]? = some (.lst xs) ∧ v.m i = some b
open Classical in
noncomputable def Vw.lookG (v : Vw) : Hp := fun b => if v.isL b then v.H b else v.G b
open Classical in
noncomputable def lessG (v : Vw) (G : Hp) : Hp := fun b => if v.isL b then none else G b
section
variable {K : PySem.W.Frag} {ct : String → Addr} {v : Vw}
theorem SR.isL_at (s : SR K ct v) {b : Addr} (h : v.isL b) : v.G b = none ∧ ∃ vs, v.H b = some (.lst vs) := by
  obtain ⟨i, xs, e, em⟩ := h
  obtain ⟨a, em', g, vs, hh, _⟩ := s.obj i _ e rfl
  rw [em] at em'
  cases em'
  exact ⟨g, vs, hh⟩
theorem lookG_same (s : SR K ct v) : Same v.G v.lookG := fun b u q => by
  unfold Vw.lookG
  rw [if_neg fun z => by rw [(s.isL_at z).1] at q; cases q]
  exact q
theorem gones_get {n i : Nat} {o : O} (h : (gones n)[i]? = some o) : o = .gone := by
  unfold gones at h
  rw [List.getElem?_replicate] at h
  split at h
  · exact (Option.some.inj h).symm
  · cases h
theorem look_ok (s : SR K ct v) : SR K ct ⟨v.lookG, v.H, v.m, gones v.st.length⟩ where
  sub := fun b u q => by
    have q' : v.lookG b = some u := q
    unfold Vw.lookG at q'
    split at q'
    · exact q'
    · exact s.sub b u q'
  dom := fun i hi => s.dom i (by simpa [gones] using hi)
  obj := fun i o e l => by rw [gones_get e] at l; cases l
  inj := fun i j o u a e _ l _ _ _ => by rw [gones_get e] at l; cases l
theorem look_rep (s : SR K ct v) {d : D} {x : V} (r : Rep K ct v.G v.m d x) : Rep K ct v.lookG v.m (lokD v.st d) x := by
  unfold lokD
  split
  · rename_i i
    split
    · rename_i xs e
      cases r with
      | @ob _ a em =>
        obtain ⟨a', em', g, vs, hh, rr⟩ := s.obj i _ e rfl
        rw [em] at em'
        cases em'
        have : v.lookG a = some (.lst vs) := by
          unfold Vw.lookG
          rw [if_pos ⟨i, xs, e, em⟩]
          exact hh
        exact .lst (SqL.of this) (rr.mono (lookG_same s) .refl)
    · exact r.mono (lookG_same s) .refl
  · exact r.mono (lookG_same s) .refl
theorem look_repL (s : SR K ct v) : ∀ {ds : List D} {xs : List V}, RepL K ct v.G v.m ds xs → RepL K ct v.lookG v.m (ds.map (lokD v.st)) xs
  | _, _, .nil => .nil
  | _, _, .cons h r => .cons (look_rep s h) (look_repL s r)
/-- behind the look the lists are the store's again -/
theorem thaw_ok (s : SR K ct v) {v' : Vw} (l : Le ⟨v.lookG, v.H, v.m, gones v.st.length⟩ v') (s' : SR K ct v') {k : Nat} (e : v'.st = gones k) (hk : v.st.length ≤ k) :
    Le v ⟨lessG v v'.G, v'.H, v'.m, v.st ++ gones (k - v.st.length)⟩ ∧ SR K ct ⟨lessG v v'.G, v'.H, v'.m, v.st ++ gones (k - v.st.length)⟩ := by
  have none' : ∀ b, ¬ (Vw.mk v.lookG v.H v.m (gones v.st.length)).owns b := fun b ⟨i, o, a, eo, lv, _⟩ => by rw [gones_get eo] at lv; cases lv
  have hH : Same v.H v'.H := fun b u q => l.h b u q (none' b)
  have hG : Same v.G (lessG v v'.G) := fun b u q => by
    unfold lessG
    rw [if_neg fun z => by rw [(s.isL_at z).1] at q; cases q]
    exact l.g b u (lookG_same s b u q)
  have gN : ∀ {b : Addr} {u : HO}, v.G b = none → v.H b = some u → lessG v v'.G b = none := fun {b u} g h => by
    unfold lessG
    split
    · rfl
    · rename_i nl
      cases z : v'.G b with
      | none => rfl
      | some w =>
        rcases l.nw b (by rw [z]; exact fun y => nomatch y) with y | y | y
        · exfalso
          have y' : v.lookG b ≠ none := y
          unfold Vw.lookG at y'
          rw [if_neg nl] at y'
          exact y' g
        · have y' : v.H b = none := y
          rw [h] at y'
          cases y'
        · exact absurd y (none' b)
  have get : ∀ {i : Nat} {o : O}, (v.st ++ gones (k - v.st.length))[i]? = some o → o.live = true → v.st[i]? = some o := fun {i o} eo lv => by
    by_cases z : i < v.st.length
    · rwa [List.getElem?_append_left z] at eo
    · rw [List.getElem?_append_right (Nat.not_lt.mp z)] at eo
      rw [gones_get eo] at lv
      cases lv
  refine ⟨⟨hG, l.m, fun b u q _ => hH b u q, fun b q => ?_, fun b ⟨i, o, a, eo, lv, em, q⟩ => ?_, l.al⟩, fun b u q => ?_, fun i hi => ?_, fun i o eo lv => ?_, fun i j o u a e1 e2 l1 l2 m1 m2 => ?_⟩
  · have q' : lessG v v'.G b ≠ none := q
    unfold lessG at q'
    split at q'
    · exact absurd rfl q'
    · rename_i nl
      rcases l.nw b q' with y | y | y
      · have y' : v.lookG b ≠ none := y
        unfold Vw.lookG at y'
        rw [if_neg nl] at y'
        exact .inl y'
      · exact .inr (.inl y)
      · exact absurd y (none' b)
  · have eo' := get eo lv
    obtain ⟨a0, em0, g0, r0⟩ := s.obj i o eo' lv
    obtain ⟨_, w, hw, _⟩ := s.obj_ne eo' lv em0
    have em' : v'.m i = some a := em
    rw [l.m i a0 em0] at em'
    cases em'
    refine .inl ⟨i, o, a, eo', lv, em0, q.imp id fun ⟨C, fs, z⟩ => ⟨C, fs, ?_⟩⟩
    have z' : v'.H a = some (.ins C b fs) := z
    rw [hH _ _ hw] at z'
    rw [hw]
    exact z'
  · have q' : lessG v v'.G b = some u := q
    unfold lessG at q'
    split at q'
    · cases q'
    · exact s'.sub b u q'
  · have hi' : v.st.length + (k - v.st.length) ≤ i := by simpa [gones] using hi
    exact s'.dom i (by rw [e]; simp [gones]; omega)
  · have eo' := get eo lv
    obtain ⟨a0, em0, g0, r0⟩ := s.obj i o eo' lv
    obtain ⟨_, w, hw, _⟩ := s.obj_ne eo' lv em0
    exact ⟨a0, l.m i a0 em0, gN g0 hw, r0.mono' (v := v) hG l.m ((hH _ _ hw).trans hw.symm) fun C dx fs _ q1 q2 => ⟨(hH _ _ q1).trans q1.symm, gN q2 q1⟩⟩
  · have e1' := get e1 l1
    have e2' := get e2 l2
    obtain ⟨a1, em1, _⟩ := s.obj i o e1' l1
    obtain ⟨a2, em2, _⟩ := s.obj j u e2' l2
    have m1' : v'.m i = some a := m1
    have m2' : v'.m j = some a := m2
    rw [l.m i a1 em1] at m1'
    rw [l.m j a2 em2] at m2'
    cases m1'
    cases m2'
    exact s.inj i j o u a e1' e2' l1 l2 em1 em2
end
open Classical in
noncomputable def thawR (s : Sto) : R D → R D
  | .ok d s2 => if scal d = true ∧ s.length ≤ s2.length ∧ s2 = gones s2.length then .ok d (s ++ gones (s2.length - s.length)) else .stk
  | _ => .stk
/-- a call that looks at the lists of the store, and tells a number, a truth, a text or None -/
noncomputable def eCallB (F : List D → Sto → R D) (a : As) : E := fun δ s => (a δ s).bind fun ds s1 => thawR s1 (F (ds.map (lokD s1)) (gones s1.length))
section
variable {X : Cx} {C : Cc} {pos p : Pos} {x : Str} {e : Expr} {es : List Expr} {fa : As} {k n : Nat} {f : Addr} {fd : FuncData} {ps : List Str} {F : List D → Sto → R D}
theorem se_callBr (hF : FnOk X.prog X.w X.K X.mg X.base (L2.CX X.prog X.w) k f fd ps (spG X.K C.ct n F)) (hr : Room k X.A) (tk : Takes X C.W) (hg : Gl X x) (hm : X.mg x = some (.ref f)) (hk : PySem.W.keepIn X.K (.ref f) = true) (hb : Binds X.K fd ps [])
    (ha : SA X C (e :: es) fa) (hl : LenA fa n) (hdb : (x == ("__debug__" : Str)) = false := by decide) (he : starEach (e :: es) X.env = (false, eval e X.env) :: starEach es X.env := by rfl) (hpl : (backTo pos (starEach es X.env)).any (·.1) = false := by rfl) :
    SE X C (.Call (.Name x p) (e :: es) [] pos) (eCallB F fa) :=
  pe_weak (pe_callS hF hr hg hm hk hb (fun σ => passAt tk σ) ha hdb he hpl) fun σ H Q ⟨δ, v, re, eH, h⟩ => ⟨δ, v, re, eH, on_mono (on_eq (on_bind h)) fun ds vs v1 l1 s1 r1 h1 => by
    obtain ⟨h1, s, q⟩ := h1
    refine ⟨⟨v1.lookG, v1.H, v1.m, gones v1.st.length⟩, ds.map (lokD v1.st), rfl, look_ok s1, by rw [List.length_map]; exact hl _ _ _ _ q, look_repL s1 r1, ?_⟩
    show match F (ds.map (lokD v1.st)) (gones v1.st.length) with
      | .ok d s => _
      | .exc e s => _
      | .stk => _
    unfold thawR at h1
    cases z : F (ds.map (lokD v1.st)) (gones v1.st.length) with
    | stk => rw [z] at h1; exact h1.elim
    | exc e2 s2 => rw [z] at h1; exact h1.elim
    | ok d s2 =>
      rw [z] at h1
      simp only at h1
      split at h1
      · rename_i hz
        obtain ⟨h3, h4, h5⟩ := hz
        intro x2 v' l' s' es r'
        obtain ⟨l2, s3⟩ := thaw_ok (k := s2.length) s1 l' s' (by rw [es]; exact h5) h4
        have rep : ∀ G m, Rep X.K C.ct G m d x2 := by
          cases r' <;> first
            | exact fun G m => .non
            | exact fun G m => .bl _
            | exact fun G m => .int _
            | exact fun G m => .str _
            | (simp only [scal, Bool.false_eq_true] at h3)
        exact h1 x2 ⟨lessG v1 v'.G, v'.H, v'.m, v1.st ++ gones (s2.length - v1.st.length)⟩ l2 s3 rfl (rep _ _)
      · exact h1.elim⟩
/-- o.clear() -/
def eClr (o : E) : E := fun δ s => (o δ s).bind fun x s1 => if (lsO s1 x).isSome = true then .ok .non (stO s1 x []) else .stk
theorem se_clr {o : Expr} {fo : E} {p2 p3 : Pos} (ho : SE X C o fo) (hbase : attributeBase o "clear" X.env (eval o X.env) = eval o X.env := by rfl) (hline : (p2.endLine == p3.line) = true := by rfl) :
    SE X C (.Call (.Attribute o "clear" p2) [] [] p3) (eClr fo) :=
  pe_weak (pe_bm0 PySem.F.plainAttrs_list PySem.F.slot_list_clear PySem.F.type_list_clear mt_clear ho hbase hline) fun σ H Q ⟨δ, v, re, eH, h⟩ => by
    refine ⟨δ, v, re, eH, on_mono (on_bind h) fun d x v1 l1 s1 r1 h1 => ?_⟩
    split at h1
    · rename_i hs
      obtain ⟨xs0, e0⟩ := isSome_of hs
      obtain ⟨i, p, vs0, rfl, rfl, em, q0, hh0, _⟩ := lsO_at s1 r1 e0
      obtain ⟨l3, s3⟩ := stO_ok s1 em q0 (ys := []) (us := []) .nil
      exact ⟨.inl ⟨rfl, vs0, SqL.of hh0⟩, p, vs0, rfl, rfl, hh0, h1 .non (v1.put i p (.lst []) (.lst [])) l3 s3 rfl .non⟩
    · exact h1.elim
/-- xs[::-1], a new list -/
def fRev (f : E) : Fr := fun δ s => (f δ s).bind fun d s1 => match rsv s1 d with
  | .lst xs => .ok xs.reverse s1
  | _ => .stk
theorem sf_rev {a : Expr} {fa : E} {k : Nat} {p1 p3 p4 : Pos} (ha : SE X C a fa) : SF X C (.Subscript a (.Slice none none (some (.UnaryOp .USub (.Constant (.int 1) k p1) p3)) p4) pos) (fRev fa) :=
  pe_weak (pe_revL ha) fun σ H Q ⟨δ, v, re, eH, h⟩ =>
  ⟨δ, v, re, eH, on_mono (onF_bind h) fun d x v1 l1 s1 r1 h1 => by
    have t := r1.top s1
    cases z : rsv v1.st d with
    | lst xs =>
      rw [z] at h1 t
      cases t with
      | @lst a vs _ p q =>
        refine ⟨a, vs, rfl, p, fun c hc => ?_⟩
        obtain ⟨l2, s2, no⟩ := newH (u := .lst vs.reverse) s1 hc
        exact h1 c vs.reverse ⟨v1.G, upd v1.H c (.lst vs.reverse), v1.m, v1.st⟩ l2 s2 rfl hc (s1.free hc) upd_same no q.reverse
    | _ => rw [z] at h1; exact h1.elim⟩
end
@[simp] theorem v_eCallB (F : List D → Sto → R D) (a : As) (δ : Sl) (s : Sto) : eCallB F a δ s = (a δ s).bind fun ds s1 => thawR s1 (F (ds.map (lokD s1)) (gones s1.length)) := id rfl
@[simp] theorem v_eClr (o : E) (δ : Sl) (s : Sto) : eClr o δ s = (o δ s).bind fun x s1 => if (lsO s1 x).isSome = true then .ok .non (stO s1 x []) else .stk := id rfl
@[simp] theorem v_fRev (f : E) (δ : Sl) (s : Sto) : fRev f δ s = (f δ s).bind fun d s1 => match rsv s1 d with
  | .lst xs => .ok xs.reverse s1
  | _ => .stk := id rfl
theorem thaw_val {s : Sto} {d : D} (h : scal d = true) : thawR s (.ok d (gones s.length)) = .ok d s := by
  unfold thawR
  have e : (gones s.length).length = s.length := by simp [gones]
  simp only [e, h, Nat.le_refl, and_self, if_true, Nat.sub_self]
  simp [gones]
theorem lok_ob {s : Sto} {i : Nat} {xs : List D} (h : s[i]? = some (.lst xs)) : lokD s (.ob i) = .lst xs := by unfold lokD; simp only [h]
@[simp] theorem lok_int (s : Sto) (i : Int) : lokD s (.int i) = .int i := id rfl
@[simp] theorem lok_str (s : Sto) (i : Str) : lokD s (.str i) = .str i := id rfl
@[simp] theorem lok_lst (s : Sto) (i : List D) : lokD s (.lst i) = .lst i := id rfl
@[simp] theorem lok_tup (s : Sto) (i : List D) : lokD s (.tup i) = .tup i := id rfl
end Gs

/-! GLx: an exception that a call in a list comprehension's element lets out. -/
namespace Gs
open PySem PySem.Spec PyProof.Rows L2
section
variable {X : Cx} {pins : List (Addr × Obj)} {σ : L2.St} {H3 : Hp} {s3 : Shared}
/-- a call's exception leaves the block and is in the def's air -/
theorem blk_out (I3 : Inv X pins σ H3 s3) {scope : Scope} {ce : Env} {fp : List Addr} (hst : X.stack = X.env :: X.outer) (hf : X.env.frame = some X.env.locals) (cf : ce.frame = X.env.frame) (cL : ce.locals = s3.heap.objs.size)
    (hch : ∀ b ∈ fp, (b ∈ X.ex ∨ X.s_0.heap.objs.size ≤ b) ∧ b ≠ X.env.locals ∧ (∀ x c, X.env.cells.lookup x = some c → c ≠ b) ∧ ∀ p ∈ X.pn ++ pins, p.1 ≠ b)
    {Wo : WX} (tk : Takes X Wo) {pb : List (Addr × Obj)} {σb : L2.St} {Hb : Hp} {sb s6 : Shared} {u : Value} (Ib : Inv (X.blk s3 H3 scope ce fp) pb σb Hb sb)
    (c : L2.CX X.prog X.w X.stack Hb sb (fun cls d H => Wo cls d σ H) u s6) : notedBy (model X.prog X.w) X.A ce (CompFails (model X.prog X.w) X.A X.xe ce) u s6 := by
  obtain ⟨a, B, H', cls, d, rfl, fl, hok, ub, na, os, ag, hE⟩ := c
  have hfr : X.A.frames = some (X.env :: X.outer) := by rw [I3.ok.frames, hst]
  obtain ⟨m, ⟨oC, esC, epC, eC, dC, rC⟩, _⟩ := Ib.loc
  have eC : sb.heap.get? ce.locals = some oC := eC
  have Cfree : Hb ce.locals = none := Ib.free
  have stk3 : ∀ b ∈ frs X.stack, ∃ o, s3.heap.get? b = some o ∧ ∀ vs, o.data ≠ .fields vs := fun b hb => (I3.stack.mem hb).2
  have Cnf : ce.locals ∉ frs X.stack := fun hb => by
    obtain ⟨o, e, _⟩ := stk3 _ hb
    have := Heap.lt_size e
    rw [cL] at this
    exact absurd this (Nat.lt_irrefl _)
  have BC : B.get? ce.locals = some oC := ub.keep _ _ eC Cfree Cnf
  have H'C : H' ce.locals = none := ub.free _ _ eC Cfree
  rw [hst] at fl
  show wpAny _ X.A (noteFrame (.ref a) ce) _ _ s6
  rw [noteFrame_env _ cf]
  refine HandSPX.looks_onZ Zc.steady hfr hf fl fun h1 hh1 up1 => ?_
  have st1 := hh1.1
  refine ⟨m, ⟨oC, esC, epC, st1 _ _ BC, dC, rC⟩, fun h2 m2 hn2 sb2 => ?_⟩
  obtain ⟨_, bn1, fr1, oe, vs, T, oT, ts, he, hz, hd, h1', hnT, hTe, hT, hdT, h3⟩ := hh1
  have hC1 : h1.get? ce.locals = some oC := st1 _ _ BC
  have na1 : a ≠ ce.locals := fun z => by
    rw [z, hC1] at he
    cases he
    rw [dC] at hd
    cases hd
  have nT1 : T ≠ ce.locals := fun z => by
    rw [z, hC1] at hT
    cases hT
    rw [dC] at hdT
    cases hdT
  obtain ⟨B2, hB2⟩ : ∃ B2, B2 = PySem.W.hideAll B [ce.locals] := ⟨_, rfl⟩
  have B2g : ∀ b o, B2.get? b = some o → B.get? b = some o ∧ b ≠ ce.locals := fun b o e => by
    rw [hB2] at e
    refine ⟨PySem.W.of_hideAll _ e, fun z => ?_⟩
    rw [z, PySem.W.hideAll_none _ (by simp)] at e
    cases e
  have B2p : ∀ b o, B.get? b = some o → b ≠ ce.locals → B2.get? b = some o := fun b o e n => by
    rw [hB2]
    exact PySem.W.hideAll_get _ e (by simpa using n)
  have B2n : ∀ b, B.get? b = none → B2.get? b = none := fun b e => by
    cases q : B2.get? b with
    | none => rfl
    | some o =>
      have z := (B2g b o q).1
      rw [e] at z
      cases z
  have hh2 : HandSPX.HeldZ B2 (X.env :: X.outer) a (Zc cls d) X.env.locals h2 := by
    refine ⟨fun b o e => (sb2.2 b (B2g b o e).2).trans (st1 _ _ (B2g b o e).1), B2n _ bn1, Heap.FunFrames.sameBut sb2 hn2 (funFrames_none fr1 fun L hL => B2n _ (fr1.mem hL).1), oe, vs, T, oT, ts, (sb2.2 a na1).trans he, hz, hd, h1', B2n _ hnT, hTe, (sb2.2 T nT1).trans hT, hdT, h3⟩
  have fin : wpAny (model X.prog X.w) X.A (setFlight (.ref a) ce.frame) (fun _ s4 => wpAny (model X.prog X.w) X.A (throw (.ref a) : Sem Value) (fun _ _ => False) X.xe s4) X.xe { s6 with heap := h2 } := by
    rw [cf, hf]
    refine HandSPX.setFlight_onZ hh2 fun h4 hh4 up4 => wpAny_throw (tk _ _ ?_)
    obtain ⟨G, g1, g2⟩ := restrict h4 fun b => (B2.get? b).isSome || decide (b ∈ frs X.stack)
    have st4 : B2.StaysIn h4 := hh4.1
    have gB : ∀ b o, B2.get? b = some o → G.get? b = some o := fun b o e => by
      rw [g1 b (by simp [e])]
      exact st4 b o e
    have gF : ∀ b, b ∈ frs X.stack → G.get? b = h4.get? b := fun b hb => g1 b (by simp [hb])
    have og : ∀ b o, G.get? b = some o → h4.get? b = some o ∧ ((B2.get? b).isSome = true ∨ b ∈ frs X.stack) := fun b o e => by
      cases q : ((B2.get? b).isSome || decide (b ∈ frs X.stack)) with
      | false => rw [g2 b q] at e; cases e
      | true =>
        rw [g1 b q] at e
        exact ⟨e, by simpa [Bool.or_eq_true] using q⟩
    have old : ∀ b o, s3.heap.get? b = some o → b ≠ ce.locals := fun b o e z => by
      have := Heap.lt_size e
      rw [z, cL] at this
      exact absurd this (Nat.lt_irrefl _)
    have frSlot : ∀ b o, sb.heap.get? b = some o → b ∈ frs X.stack → (∀ vs, o.data ≠ .fields vs) → b ≠ ce.locals → ∃ sl, G.get? b = some { o with slots := sl } := fun b o e hb hnf hne => by
      obtain ⟨sl, e1⟩ := ub.slot b o e hb
      obtain ⟨sl2, e2⟩ := up1 b _ e1 hnf
      obtain ⟨sl3, e3⟩ := up4 b _ ((sb2.2 b hne).trans e2) hnf
      exact ⟨sl3, by rw [gF b hb]; exact e3⟩
    have hnf3 : ∀ b o, s3.heap.get? b = some o → b ∈ frs X.stack → ∀ vs, o.data ≠ .fields vs := fun b o e hb => by
      obtain ⟨o', e', h'⟩ := stk3 b hb
      rw [e] at e'
      cases e'
      exact h'
    have un : Un (frs X.stack) fp H3 H' s3.heap G := by
      refine ⟨fun b o e n hb hx => ?_, fun b o e n hb hx => ?_, fun b o e n hx => ?_, fun b o e hx => ?_, fun b xs e => ub.tups b xs (Ib.base.tups b xs e), fun b o u e => ub.frzs b o u (Ib.base.frzs b o u e), fun b ps e => ?_⟩
      · exact gB b o (B2p b o (ub.keep b o (Ib.base.keep b o e n hb hx) (Ib.base.free b o e n hx) hb) (old b o e))
      · obtain ⟨sl, e1⟩ := Ib.base.slot b o e n hb hx
        obtain ⟨sl2, e2⟩ := frSlot b _ e1 hb (hnf3 b o e hb) (old b o e)
        exact ⟨sl2, e2⟩
      · obtain ⟨o', e1⟩ := Ib.base.there b o e hx
        exact ub.free b o' e1 (Ib.base.free b o e n hx)
      · obtain ⟨o', e1⟩ := Ib.base.there b o e hx
        by_cases hb : b ∈ frs X.stack
        · have n3 : H3 b = none := I3.stkFree b hb
          obtain ⟨sl, e1'⟩ := Ib.base.slot b o e n3 hb hx
          obtain ⟨sl2, e2⟩ := frSlot b _ e1' hb (hnf3 b o e hb) (old b o e)
          exact ⟨_, e2⟩
        · obtain ⟨o2, q⟩ := ub.there b o' e1 hb
          exact ⟨o2, gB b o2 (B2p b o2 q (old b o e))⟩
      · obtain ⟨m1, e1⟩ := Ib.base.tbls b ps e
        obtain ⟨m2, e2⟩ := ub.tbls b _ e1
        exact ⟨m1 ++ m2, by rw [e2, Array.append_assoc]⟩
    have hokG : HOk X.prog X.w H' G := fun b o q => (hok b o q).stay (fun c v hc r => gB c v (B2p c v r fun z => by
      rcases hc with hc | hc
      · rw [← hc, z, H'C] at q
        cases q
      · rw [z, H'C] at hc
        cases hc)) (fun _ r => r) fun _ _ r => r
    refine ⟨a, B2, { s3 with heap := G, gens := s6.gens, drawn := s6.drawn, toks := s6.toks }, pins, σ, H', cls, d, rfl, I3.call (ch := fp) un hokG ag hch, fun b o e hb => ?_, Heap.UpToSlots.of_keeps fun b o e => (og b o e).1, .inr (.inr (by rw [hst]; exact hh4)), na, os.trans Ib.os, ag, hE⟩
    obtain ⟨e', h⟩ := og b o e
    rcases h with h | h
    · obtain ⟨o', q⟩ := Option.isSome_iff_exists.mp h
      have z := st4 b o' q
      rw [e'] at z
      cases z
      exact q
    · exact absurd h hb
  unfold PySem.passOn
  refine wpAny_bind (wpAny_field ((sb2.2 a na1).trans he) hd h1' ?_)
  rw [if_neg (show ¬ ((Value.ref T == Value.none) = true) from by simp)]
  first
    | exact wpAny_bind (wpAny_pure (wpAny_bind fin))
    | exact wpAny_bind fin
end

/-! ### the rule -/
section
variable {X : Cx}
/-- a block whose element may call what raises -/
abbrev blkW (X : Cx) (s : Shared) (H : Hp) (scope : Scope) (cenv : Env) (fp : List Addr) (E : XK) : Cx :=
  (X.blk s H scope cenv fp).wish fun u s' => ∃ pins σ Hb sb, Inv (X.blk s H scope cenv fp) pins σ Hb sb ∧ L2.CX X.prog X.w X.stack Hb sb E u s'
theorem passW {s : Shared} {H : Hp} {scope : Scope} {cenv : Env} {fp : List Addr} {E : XK} : Passes (L2.CX X.prog X.w) (blkW X s H scope cenv fp E) E :=
  fun pins σ H s _ _ I c => ⟨pins, σ, H, s, I.unwish, c⟩
theorem pe_lcX {elt tg iter : Expr} {ifs : List Expr} {scope : Scope} {own : List (Str × Nat)} {pos : Pos} {wi : TI} {g : TG} {tt : TT} {te : XK → TE} {Wo : WX} (hc : X.calm = true) (hN : X.N.Nodup) (hst : X.stack = X.env :: X.outer) (hf : X.env.frame = some X.env.locals) (tk : Takes X Wo) (hi : PI X tg iter wi) (ok : BlkOk X.N X.env.scope scope own)
    (hg : ∀ (s : Shared) (H : Hp) (C : Addr) (cl : List (Str × Addr)) (fp : List Addr), PG (X.blk s H scope (compEnvC scope cl C X.env) fp) tg g) (ht : ∀ (s : Shared) (H : Hp) (C : Addr) (cl : List (Str × Addr)) (fp : List Addr), PTs (X.blk s H scope (compEnvC scope cl C X.env) fp) ifs tt)
    (he : ∀ (s : Shared) (H : Hp) (C : Addr) (cl : List (Str × Addr)) (fp : List Addr) (E : XK), PE (blkW X s H scope (compEnvC scope cl C X.env) fp E) elt (te E)) (hs : ∀ x, foldedSetIterable iter X.env x = pure x := by intro _; rfl) :
    PE X (.ListComp elt [⟨tg, iter, ifs, 0⟩] scope pos) (fun σ H Q => tLc wi g tt (te fun cls d H' => Wo cls d σ H') (own.map (·.2)) σ H Q) := by
  refine ⟨fun pins s σ H Q I h => ?_⟩
  rw [eval_ListComp]
  have hfree : ∀ y ∈ scope.names, y.2 = .free → ∃ c, X.env.cells.lookup y.1 = some c := fun y hy e => (ok.free y hy e).elim (fun k => I.ok.has _ (.inl k)) fun k => I.ok.has _ (.inr k)
  refine comprehension_at (use := none) rfl hs (closure_ok hfree) ok.kind (fun y hy e => by rw [ok.uniq y hy, e]) (thn (hi.run pins s σ H _ I h) fun xv s1 hx => thn hx fun itv s2 h2 => ?_)
  obtain ⟨it, fp, tn, J, H2, rfl, I2, T, st2, f2, q⟩ := h2
  refine wpAny_newObj_type (newEnv_comp ?_) (by show 0 ≤ sizeLine; decide)
  obtain ⟨D, hD⟩ : ∃ D, s2.heap.objs.size = D := ⟨_, rfl⟩
  obtain ⟨W, ⟨m0, w0⟩, turn⟩ := q D (I2.hok.fresh (Nat.le_of_eq hD))
  rw [hD]
  -- the new list stands
  obtain ⟨s3, hs3⟩ : ∃ s3 : Shared, ({ s2 with heap := s2.heap.push { cls := .type "list", data := .seq ([] : List Value).toArray } } : Shared) = s3 := ⟨_, rfl⟩
  obtain ⟨H3, hH3⟩ : ∃ H3, upd H2 D (.lst []) = H3 := ⟨_, rfl⟩
  rw [hH3] at w0
  have h3 : s3.heap = s2.heap.push { cls := .type "list", data := .seq ([] : List Value).toArray } := by rw [← hs3]
  have I3 : Inv X pins σ H3 s3 := by
    rw [← hs3, ← hH3]
    refine I2.laid (t' := s2.toks) (fun b o e => Heap.get?_push_of_some _ e) (Nat.le_of_eq hD) ⟨Nat.zero_le _, [], 0, .nil, ?_⟩
    rw [← hD]
    exact Heap.get?_push_size _ rfl
  have f3 : ∀ b ∈ fp, FpOk X pins H3 b ∧ b < s3.heap.objs.size := fun b hb => by
    obtain ⟨o, e, _⟩ := T.obj _ _ st2 b hb
    have hlt := Heap.lt_size e
    refine ⟨⟨?_, (f2 b hb).2⟩, by rw [h3, Heap.size_push]; exact Nat.lt_succ_of_lt hlt⟩
    rw [← hH3, upd_ne (by rw [← hD]; exact Nat.ne_of_lt hlt)]
    exact (f2 b hb).1
  have st3 : tn 0 s3.heap := T.keep _ _ _ st2 fun b _ o e => by rw [h3]; exact Heap.get?_push_of_some _ e
  have I4 := block_start I3 ok hN f3
  have nfp : ∀ b ∈ fp, H3 b = none := fun b hb => (f3 b hb).1.1
  have hch : ∀ b ∈ fp, (b ∈ X.ex ∨ X.s_0.heap.objs.size ≤ b) ∧ b ≠ X.env.locals ∧ (∀ x c, X.env.cells.lookup x = some c → c ≠ b) ∧ ∀ p ∈ X.pn ++ pins, p.1 ≠ b :=
    fun b hb => ⟨(f3 b hb).1.2.2.2.1, (f3 b hb).1.2.1, (f3 b hb).1.2.2.2.2.1, (f3 b hb).1.2.2.2.2.2⟩
  have pg := hg s3 H3 s3.heap.objs.size (cellsFrom (s3.heap.objs.size + 1) scope.names (cloFrom X.env.cells scope.names [])) fp
  have pt := ht s3 H3 s3.heap.objs.size (cellsFrom (s3.heap.objs.size + 1) scope.names (cloFrom X.env.cells scope.names [])) fp
  have pe := he s3 H3 s3.heap.objs.size (cellsFrom (s3.heap.objs.size + 1) scope.names (cloFrom X.env.cells scope.names [])) fp fun cls d H' => Wo cls d σ H'
  rw [hs3]
  show codeAny _ _ (.compStart (.ListComp elt [⟨tg, iter, ifs, 0⟩] scope pos) 0 (.ref it) (.ref D) (compEnvC scope (cellsFrom (s3.heap.objs.size + 1) scope.names (cloFrom X.env.cells scope.names [])) s3.heap.objs.size X.env)) (compEnds (model X.prog X.w) X.A X.xe none (EP X pins σ Q) (.ref D) (compEnvC scope (cellsFrom (s3.heap.objs.size + 1) scope.names (cloFrom X.env.cells scope.names [])) s3.heap.objs.size X.env)) { s3 with heap := pushCells (s3.heap.push { cls := .type "dict", data := .dict #[] }) scope.names }
  obtain ⟨ce, hce⟩ : ∃ ce, compEnvC scope (cellsFrom (s3.heap.objs.size + 1) scope.names (cloFrom X.env.cells scope.names [])) s3.heap.objs.size X.env = ce := ⟨_, rfl⟩
  have cL : ce.locals = s3.heap.objs.size := by subst hce; rfl
  have cF : ce.frame = X.env.frame := by subst hce; rfl
  rw [hce] at I4 pg pt pe ⊢
  obtain ⟨s4, hs4⟩ : ∃ s4 : Shared, ({ s3 with heap := pushCells (s3.heap.push { cls := .type "dict", data := .dict #[] }) scope.names } : Shared) = s4 := ⟨_, rfl⟩
  rw [hs4] at I4 ⊢
  have st4 : tn 0 s4.heap := T.keep _ _ _ st3 fun b _ o e => by rw [← hs4]; exact pushCells_keeps _ _ _ _ (Heap.get?_push_of_some _ e)
  have stat : ∀ {σ' : L2.St} {H' : Hp} {s' : Shared}, Inv (X.blk s3 H3 scope ce fp) [] σ' H' s' → (∀ b ∈ fp, H' b = none) → ∀ b ∈ fp, FpOk (X.blk s3 H3 scope ce fp) [] H' b := fun {σ' H' s'} I' hn b hb =>
    ⟨hn b hb, (I'.ok.exf b hb).1, I'.ok.exfs b hb, .inl hb, fun x c e => (I'.ok.exf b hb).2 x c e, fun p hp => absurd (show p ∈ ([] : List (Addr × Obj)) ++ [] from hp) (by simp)⟩
  have loop : codeAny (model X.prog X.w) X.A (.compLoop (.ListComp elt [⟨tg, iter, ifs, 0⟩] scope pos) 0 (.ref it) (.ref D) ce) (compEnds (model X.prog X.w) X.A X.xe none (EP X pins σ Q) (.ref D) ce) s4 := by
    refine compLoop_any (fun n s' => ∃ i H', Inv (X.blk s3 H3 scope ce fp) [] (wipe σ (own.map (·.2))) H' s' ∧ tn i s'.heap ∧ (∀ b ∈ fp, H' b = none) ∧ W i n H') ?_ m0 ⟨0, H3, I4, st4, nfp, w0⟩
    rintro n s5 ⟨i, H5, I5, st5, n5, w5⟩
    rcases turn i n H5 w5 with ⟨stop, qq⟩ | ⟨go, Nx, hNx, step⟩
    · refine thnF (T.done (X.blk s3 H3 scope ce fp) rfl rfl rfl hc i [] s5 _ H5 (fun _ _ => False) I5 (stat I5 n5) st5 stop) fun r s6 ⟨hr, I6⟩ => ?_
      subst hr
      have I7 : Inv X pins σ H5 s6 := I3.call' (ch := fp) I6.os I6.base I6.hok I6.bare hch
      have nC : H5 ce.locals = none := I6.free
      obtain ⟨m, hn, _⟩ := I6.loc
      have hn : s6.heap.Ns ce.locals m := hn
      refine ⟨m, hn, fun h' sb => ⟨.ref D, H5, ?_, rfl, qq⟩⟩
      rw [cL] at nC sb
      obtain ⟨f0, f1, f2, f3, f4, f5⟩ := I3.fpOk (Nat.le_refl _) nC
      exact I7.turned (t' := s6.toks) (fun b o hb e => (sb.2 b hb).trans e) f0 f1 f3 f4 f5
    · refine thnF (T.item (X.blk s3 H3 scope ce fp) rfl rfl rfl hc i [] s5 _ H5 (fun _ _ => False) I5 (stat I5 n5) st5 go) fun r s6 ⟨u, hr, h6⟩ => ?_
      subst hr
      refine thnF h6 fun _ s7 ⟨x, H7, I7, r7, y7, st7, n7⟩ => ?_
      refine thnF (pg.run _ s7 _ H7 x u _ (I7.pinned (stat I7 n7) (T.obj _ _ st7)) r7 (step x H7 y7)) fun _ s8 ⟨σ8, H8, I8, hw8, q8⟩ => ?_
      refine thnF (pt.run _ s8 σ8 H8 _ I8 q8) fun b s9 ⟨H9, I9, q9⟩ => ?_
      have fin : ∀ {s' : Shared} {H' : Hp}, Inv (X.blk s3 H3 scope ce fp) ([] ++ pinsAt fp s7.heap) σ8 H' s' → Nx H' → ∃ m, m < n ∧ ∃ i H', Inv (X.blk s3 H3 scope ce fp) [] (wipe σ (own.map (·.2))) H' s' ∧ tn i s'.heap ∧ (∀ b ∈ fp, H' b = none) ∧ W i m H' := fun {s' H'} I' nx => by
        obtain ⟨m', hm, w'⟩ := hNx H' nx
        have pin' : ∀ b ∈ fp, ∀ o, s7.heap.get? b = some o → s'.heap.get? b = some o ∧ H' b = none := fun b hb o e =>
          let z := I'.pin (b, o) (List.mem_append_right _ (List.mem_append_right _ (mem_pinsAt hb e)))
          ⟨z.1, z.2.1⟩
        refine ⟨m', hm, i + 1, H', (I'.unpinned (pins := [])).weak (by rw [← hw8, wipe_length]) (fun j v e => (wipe_some (by rw [hw8]; exact e)).1), T.keep _ _ _ st7 fun b hb o e => (pin' b hb o e).1, fun b hb => ?_, w'⟩
        obtain ⟨o, e, _⟩ := T.obj _ _ st7 b hb
        exact (pin' b hb o e).2
      cases b with
      | false =>
        simp only [Bool.false_eq_true, if_false] at q9 ⊢
        exact fin I9 q9
      | true =>
        simp only [if_true] at q9 ⊢
        refine wpAny_mono (pe.run _ s9 σ8 H9 _ (I9.wish _) q9) (fun z s10 ⟨yv, H10, I10, r10, acc, hD10, hz10, nx⟩ => ?_) fun u s10 ⟨pb, σb, Hb, sb, Ib, cx⟩ => blk_out I3 hst hf cF cL hch tk Ib cx
        exact app_ok (X := X.blk s3 H3 scope ce fp) I10.unwish hD10 hz10 r10 fun s11 I11 => fin I11 nx
  exact codeAny_compStart_list loop (T.self X.A 0 _ _ _ st4 loop)
end

/-! ### over data -/
/-- what the turns give; an element may raise -/
def lcX (p : Pt) (c : T) (e : E) (δ : Sl) : List D → Sto → R (List D)
  | [], s => .ok [] s
  | d :: ds, s => match bindP p d δ with
    | none => .stk
    | some δ1 => match c δ1 s with
      | .ok true s1 => (e δ1 s1).bind fun y s2 => (lcX p c e δ ds s2).bind fun r s3 => .ok (y :: r) s3
      | .ok false s1 => lcX p c e δ ds s1
      | _ => .stk
def fLcX (it : As) (vs : List Nat) (p : Pt) (c : T) (e : E) : Fr := fun δ s => (it δ s).bind fun items s1 => if items.length ≤ sizeLine then lcX p c e (wipeD δ vs) items s1 else .stk
/-- the block's exceptions are the def's -/
abbrev Cc.at (C : Cc) (σ : L2.St) : Cc := { C with W := fun cls d _ H => C.W cls d σ H }
theorem bind_bind {α β γ : Type} (r : R α) (f : α → Sto → R β) (g : β → Sto → R γ) : (r.bind f).bind g = r.bind fun a s => (f a s).bind g := by cases r <;> rfl
theorem bind_ok {α β : Type} {r : R α} {k : α → Sto → R β} {x : R β} (h : r.bind k = x) (hx : x ≠ .stk) : (∃ a s, r = .ok a s ∧ k a s = x) ∨ ∃ e s, r = .exc e s ∧ x = .exc e s := by
  cases r with
  | ok a s => exact .inl ⟨a, s, rfl, h⟩
  | exc e s => exact .inr ⟨e, s, rfl, h.symm⟩
  | stk => exact (hx h.symm).elim
theorem lift_lcX {K : PySem.W.Frag} {C : Cc} {it : As} {vs : List Nat} {p : Pt} {c : T} {e : E} (hp : ∀ i ∈ idxP p, i ∈ vs) {σ : L2.St} {H : Hp} {Q : VK} (h : liftF K C (fLcX it vs p c e) σ H Q) :
    tLc (liftI K C it) (liftG K C.nox p) (liftT K C.nox c) (liftE K (C.at σ) e) vs σ H Q := by
  obtain ⟨δ, v, re, eH, h⟩ := h
  refine ⟨δ, v, re, eH, on_mono (onF_bind h) fun items J v1 l1 sr1 ok h1 => ?_⟩
  intro L hD
  by_cases hiz : items.length ≤ sizeLine
  case neg =>
    have h2 : onF K C σ v1 (if items.length ≤ sizeLine then lcX p c e (wipeD δ vs) items v1.st else .stk) fun _ p v' => Q (.ref p) v'.H := h1
    rw [if_neg hiz] at h2
    exact h2.elim
  have h2 : onF K C σ v1 (lcX p c e (wipeD δ vs) items v1.st) fun _ p v' => Q (.ref p) v'.H := by
    have h3 : onF K C σ v1 (if items.length ≤ sizeLine then lcX p c e (wipeD δ vs) items v1.st else .stk) fun _ p v' => Q (.ref p) v'.H := h1
    rw [if_pos hiz] at h3
    exact h3
  clear h1
  obtain ⟨R0, q1⟩ : ∃ R0, lcX p c e (wipeD δ vs) items v1.st = R0 := ⟨_, rfl⟩
  rw [q1] at h2
  have hR : R0 ≠ .stk := fun z => by rw [z] at h2; exact h2
  have start : ∃ v2, v2.H = upd v1.H L (.lst []) ∧ Le v1 v2 ∧ SR K C.ct v2 ∧ Aside v2 L [] ∧ v2.st = v1.st := by
    obtain ⟨l2, s2, no⟩ := newH (u := .lst []) sr1 hD
    exact ⟨⟨v1.G, upd v1.H L (.lst []), v1.m, v1.st⟩, rfl, l2, s2, ⟨upd_same, sr1.free hD, no⟩, rfl⟩
  refine ⟨fun i m H2 => m = items.length - i ∧ i ≤ items.length ∧ ∃ (v2 : Vw) (acc : List D) (va : List V), v2.H = H2 ∧ Le v1 v2 ∧ SR K C.ct v2 ∧ Aside v2 L va ∧ RepL K C.ct v2.G v2.m acc va ∧ acc.length ≤ i ∧
    (lcX p c e (wipeD δ vs) (items.drop i) v2.st).bind (fun rest s => .ok (acc ++ rest) s) = R0, ?_, ?_⟩
  · obtain ⟨v2, e2, l2, s2, a2, es⟩ := start
    refine ⟨items.length, by simp, Nat.zero_le _, v2, [], [], e2, l2, s2, a2, .nil, by simp, ?_⟩
    rw [es, List.drop_zero, q1]
    cases R0 <;> rfl
  rintro i m H2 ⟨rfl, hi, v2, acc, va, rfl, l2, s2, a2, ra, hacc, el⟩
  by_cases hlt : i < items.length
  · refine .inr ⟨ok.go i v2 l2 s2 hlt, fun H3 => ∃ (v2 : Vw) (acc : List D) (va : List V), v2.H = H3 ∧ Le v1 v2 ∧ SR K C.ct v2 ∧ Aside v2 L va ∧ RepL K C.ct v2.G v2.m acc va ∧ acc.length ≤ i + 1 ∧
      (lcX p c e (wipeD δ vs) (items.drop (i + 1)) v2.st).bind (fun rest s => .ok (acc ++ rest) s) = R0, fun H' n => ⟨items.length - (i + 1), by omega, rfl, hlt, n⟩, fun x H' y => ?_⟩
    obtain ⟨d, v3, ed, rfl, l3, s3, e3, r3⟩ := ok.yld i v2 x H' l2 s2 hlt y
    have ed2 : items.drop i = d :: items.drop (i + 1) := by
      rw [List.drop_eq_getElem_cons hlt]
      rw [List.getElem?_eq_getElem hlt] at ed
      rw [Option.some.inj ed]
    rw [ed2] at el
    simp only [lcX] at el
    cases eb : bindP p d (wipeD δ vs) with
    | none =>
      rw [eb] at el
      exact (hR el.symm).elim
    | some δ1 =>
      rw [eb] at el
      simp only at el
      have re3 := (((re.step l1 sr1).step l2 s2).step l3 s3)
      refine ⟨d, wipeD δ vs, v3, δ1, (re3.wipe vs).wish _, rfl, r3, eb, fun σ4 re4 o4 => ⟨wipe_off o4 hp, δ1, v3, re4, rfl, ?_⟩⟩
      rw [e3]
      cases ec : c δ1 v2.st with
      | stk => rw [ec] at el; exact (hR el.symm).elim
      | exc _ _ => rw [ec] at el; exact (hR el.symm).elim
      | ok b s4 =>
        rw [ec] at el
        intro b2 v4 l4 s4' es4 eb2
        cases eb2
        cases b with
        | true =>
          rw [if_pos rfl]
          simp only at el
          refine ⟨δ1, v4, (re4.step l4 s4').wish _, rfl, ?_⟩
          rw [es4]
          have el2 : (e δ1 s4).bind (fun y s2 => (lcX p c e (wipeD δ vs) (items.drop (i + 1)) s2).bind fun r s3 => .ok (acc ++ y :: r) s3) = R0 := by
            rw [← el]
            simp only [bind_bind]
            rfl
          rcases bind_ok el2 hR with ⟨y0, s5, ee, er⟩ | ⟨ex, s5, ee, er⟩
          · rw [ee]
            intro y5 v5 l5 s5' es5 r5
            have l25 := (l3.trans l4).trans l5
            have a5 := a2.step l25
            have hl := ra.length
            obtain ⟨s7, ow7⟩ := side_ok (u := .lst (va ++ [y5])) s5' a5.g a5.no
            refine ⟨va, a5.h, by omega, ⟨v5.G, upd v5.H L (.lst (va ++ [y5])), v5.m, v5.st⟩, acc ++ [y0], va ++ [y5], rfl, ?_, s7, ⟨upd_same, a5.g, fun q => a5.no (ow7 _ q)⟩, (l25.repl ra).append (RepL.one r5), by rw [List.length_append, List.length_singleton]; omega, ?_⟩
            · have l15 := l2.trans l25
              exact ⟨l15.g, l15.m, fun b o hb nb => by
                show upd v5.H L _ b = some o
                rw [upd_ne (ne_of_none hb hD)]
                exact l15.h b o hb nb, l15.nw, fun b q => l15.ow b (ow7 b q), fun b q => by
                have q' : upd v5.H L (.lst (va ++ [y5])) b = none := q
                by_cases z : b = L
                · rw [z, upd_same] at q'; cases q'
                · rw [upd_ne z] at q'
                  exact l15.al b q'⟩
            · show (lcX p c e (wipeD δ vs) (items.drop (i + 1)) v5.st).bind _ = R0
              rw [es5, ← er]
              congr 1
              funext r s
              rw [List.append_assoc]
              rfl
          · rw [ee]
            rw [er] at h2
            intro cls dd v5 l5 sr5 es5 rx
            exact h2 cls dd v5 (((l2.trans l3).trans l4).trans l5) sr5 es5 rx
        | false =>
          rw [if_neg Bool.false_ne_true]
          simp only at el
          have l24 := l3.trans l4
          exact ⟨v4, acc, va, rfl, l2.trans l24, s4', a2.step l24, l24.repl ra, by omega, by rw [es4]; exact el⟩
  · have ei : i = items.length := by omega
    subst ei
    rw [List.drop_length] at el
    simp only [lcX] at el
    have el2 : R.ok (acc ++ []) v2.st = R0 := el
    rw [List.append_nil] at el2
    rw [← el2] at h2
    exact .inl ⟨ok.stop _ v2 l2 s2 (Nat.le_refl _), h2 L va v2 l2 s2 rfl hD a2.g a2.h a2.no ra⟩
section
variable {X : Cx} {C : Cc} {pos : Pos} {elt tg iter : Expr} {ifs : List Expr} {scope : Scope} {it : As} {p : Pt} {c : T} {e : E}
theorem sf_lcX (own : List (Str × Nat)) (hc : X.calm = true) (hN : X.N.Nodup) (hst : X.stack = X.env :: X.outer) (hf : X.env.frame = some X.env.locals) (tk : Takes X C.W) (hi : SI X C tg iter it) (ok : BlkOk X.N X.env.scope scope own) (hp : ∀ i ∈ idxP p, i ∈ own.map (·.2))
    (hg : ∀ (s : Shared) (H : Hp) (c0 : Addr) (cl : List (Str × Addr)) (fp : List Addr), SG (X.blk s H scope (compEnvC scope cl c0 X.env) fp) C.nox tg p)
    (ht : ∀ (s : Shared) (H : Hp) (c0 : Addr) (cl : List (Str × Addr)) (fp : List Addr), STs (X.blk s H scope (compEnvC scope cl c0 X.env) fp) C.nox ifs c)
    (he : ∀ (s : Shared) (H : Hp) (c0 : Addr) (cl : List (Str × Addr)) (fp : List Addr) (E : XK), SE (blkW X s H scope (compEnvC scope cl c0 X.env) fp E) ⟨C.v0, C.ct, fun cls d _ H => E cls d H⟩ elt e) (hs : ∀ x, foldedSetIterable iter X.env x = pure x := by intro _; rfl) :
    SF X C (.ListComp elt [⟨tg, iter, ifs, 0⟩] scope pos) (fLcX it (own.map (·.2)) p c e) :=
  pe_weak (pe_lcX (te := fun E => liftE X.K ⟨C.v0, C.ct, fun cls d _ H => E cls d H⟩ e) hc hN hst hf tk hi ok hg ht he hs) fun σ H Q h => lift_lcX hp h
end

section
variable {X : Cx} {C : Cc} {pos p : Pos} {x : Str} {e : Expr} {es : List Expr} {fa : As} {k n : Nat} {f : Addr} {fd : FuncData} {ps : List Str} {F : List D → Sto → R D}
/-- a call in such a block -/
theorem se_callX (hF : FnOk X.prog X.w X.K X.mg X.base (L2.CX X.prog X.w) k f fd ps (spG X.K C.ct n F)) (hr : Room k X.A) (hx : ∀ σ, PassesAt (L2.CX X.prog X.w) X σ (WE C.W σ)) (hg : Gl X x) (hm : X.mg x = some (.ref f)) (hk : PySem.W.keepIn X.K (.ref f) = true) (hb : Binds X.K fd ps [])
    (ha : SA X C (e :: es) fa) (hl : LenA fa n) (hdb : (x == ("__debug__" : Str)) = false := by decide) (he : starEach (e :: es) X.env = (false, eval e X.env) :: starEach es X.env := by rfl) (hpl : (backTo pos (starEach es X.env)).any (·.1) = false := by rfl) :
    SE X C (.Call (.Name x p) (e :: es) [] pos) (eCall F fa) :=
  pe_weak (pe_callS hF hr hg hm hk hb hx ha hdb he hpl) fun σ H Q ⟨δ, v, re, eH, h⟩ => ⟨δ, v, re, eH, on_mono (on_eq (on_bind h)) fun ds vs v1 l1 s1 r1 h1 => by
    obtain ⟨h1, s, q⟩ := h1
    exact on_sp s1 (hl _ _ _ _ q) r1 h1⟩
theorem passX {s : Shared} {H : Hp} {scope : Scope} {cenv : Env} {fp : List Addr} {E : XK} (σ : L2.St) : PassesAt (L2.CX X.prog X.w) (blkW X s H scope cenv fp E) σ (WE (fun cls d _ H => E cls d H) σ) :=
  fun pins H s _ _ I c => ⟨pins, σ, H, s, I.unwish, c⟩
end
@[simp] theorem v_fLcX (it : As) (vs : List Nat) (p : Pt) (c : T) (e : E) (δ : Sl) (s : Sto) : fLcX it vs p c e δ s = (it δ s).bind fun items s1 => if items.length ≤ sizeLine then lcX p c e (wipeD δ vs) items s1 else .stk := id rfl
theorem lcX_mapL {α : Type} {p : Pt} {c : T} {e : E} {δ : Sl} {s : Sto} (g f : α → D) : ∀ l : List α, (∀ a ∈ l, ∃ δ1, bindP p (g a) δ = some δ1 ∧ c δ1 s = .ok true s ∧ e δ1 s = .ok (f a) s) → lcX p c e δ (l.map g) s = .ok (l.map f) s
  | [], _ => rfl
  | x :: l, h => by
    obtain ⟨δ1, e1, e2, e3⟩ := h x List.mem_cons_self
    have ih := lcX_mapL (p := p) (c := c) (e := e) (δ := δ) (s := s) g f l fun k hk => h k (List.mem_cons_of_mem _ hk)
    simp only [List.map_cons, lcX, e1, e2, e3, R.bind, ih]
end Gs

set_option maxHeartbeats 3200000
/-! GSs: len(set(xs)), xs a list of texts. -/
namespace Gs
open PySem PySem.Spec PyProof.Rows L2
/-- how many unlike texts are among the first i -/
def unl (xs : List Str) : Nat → Nat
  | 0 => 0
  | i + 1 => if (xs.take i).any (· == xs.getD i Str.empty) = true then unl xs i else unl xs i + 1
theorem unl_le (xs : List Str) : ∀ i, unl xs i ≤ i
  | 0 => Nat.le_refl _
  | i + 1 => by
    have := unl_le xs i
    unfold unl
    split <;> omega
theorem any_snoc {xs : List Str} {i : Nat} (h : i < xs.length) (k : Str) : ((xs.take i).any (· == k) || decide (k = xs.getD i Str.empty)) = (xs.take (i + 1)).any (· == k) := by
  have e1 : xs.getD i Str.empty = xs[i] := by simp [List.getD, h]
  have e2 : xs.take (i + 1) = xs.take i ++ [xs[i]] := by rw [List.take_add_one, List.getElem?_eq_getElem h]; rfl
  rw [e1, e2, List.any_append]
  congr 1
  by_cases e : k = xs[i]
  · subst e; simp
  · have hb : (xs[i] == k) = false := by simpa [beq_iff_eq] using fun h' : xs[i] = k => e h'.symm
    simp [hb, e]
section
variable {prog : Program} {w : World} {A : Around} {R : Result → Shared → Prop} {I : Addr} {fp wr : List Addr} {G : Array GenState → Array GenState → Prop} {n : Nat} {P : Nat → Value → Prop} {St : Nat → Shared → Prop}
theorem set_loop (W : WalksS prog w A.in1 I fp wr G n P St) (S : Addr) (hSf : S ∉ fp) (xs : List Str) (hsz : xs.length = n) (hn : n + 1 < scanBound)
    (hval : ∀ i v, P i v → ∃ t, v = .str (xs.getD i Str.empty) t) :
    ∀ (k i : Nat) (s : Shared), n - i = k → i ≤ n → St i s →
      s.heap.SetOf (PySem.strKind prog w) S (fun k' => (xs.take i).any (· == k')) (unl xs i) →
      (∀ s', Moved (S :: wr) G s s' → s'.heap.SetOf (PySem.strKind prog w) S (fun k' => (xs.take n).any (· == k')) (unl xs n) → R (.ok (.ret .none)) s') →
      codeAny (model prog w) A (.builtin "set.update.loop" ⟨[.ref S, .ref I], []⟩) R s := by
  have hSw : S ∉ wr := fun h => hSf (W.sub _ h)
  have hsub : ∀ b ∈ wr, b ∈ S :: wr := fun b hb => List.mem_cons_of_mem _ hb
  intro k
  induction k with
  | zero =>
    intro i s hk hi hst hS hR
    obtain rfl : i = n := by omega
    refine codeAny_builtin PyProof.Rows.F.entry_set_update_loop ?_
    rw [Around.under_plainId PyProof.Rows.F.plain_set_update_loop _]
    show wpAny _ A.in1 (pyNext (.ref I) >>= _) _ _ s
    refine wpAny_bind (W.done s _ _ hst fun s' hm => ?_)
    show wpAny _ A.in1 (ret Value.none) _ _ s'
    obtain ⟨o, es, ep, t, ho, rest⟩ := hS
    exact wpAny_pure (hR s' (hm.mono hsub) ⟨o, es, ep, t, hm.heap S _ hSw ho, rest⟩)
  | succ k ih =>
    intro i s hk hi hst hS hR
    have hlt : i < n := by omega
    refine codeAny_builtin PyProof.Rows.F.entry_set_update_loop ?_
    rw [Around.under_plainId PyProof.Rows.F.plain_set_update_loop _]
    show wpAny _ A.in1 (pyNext (.ref I) >>= _) _ _ s
    refine wpAny_bind (W.item i s _ _ hlt hst fun v s' hP hst' hm => ?_)
    obtain ⟨t, rfl⟩ := hval i v hP
    have hS' : s'.heap.SetOf (PySem.strKind prog w) S (fun k' => (xs.take i).any (· == k')) (unl xs i) := by
      obtain ⟨o, es, ep, tb, ho, rest⟩ := hS
      exact ⟨o, es, ep, tb, hm.heap S _ hSw ho, rest⟩
    show wpAny _ A.in1 (holding [Value.str (xs.getD i Str.empty) t] (setAdd S (.str (xs.getD i Str.empty) t)) >>= _) _ _ s'
    refine wpAny_bind (wpAny_holding ?_)
    unfold setAdd
    refine wpAny_holding ?_
    refine wpAny_bind ((PySem.strKind prog w).pyHash (k := xs.getD i Str.empty) (strKind_is _ _ _ _) ?_)
    have hle := unl_le xs i
    refine wpAny_setAddHashed_of (knd := PySem.strKind prog w) (s := { s' with toks := s'.toks + 1 }) (strKind_is _ _ _ _) rfl hS' (by omega) fun h' hsb hS2 => ?_
    have hSi : h'.SetOf (PySem.strKind prog w) S (fun k' => (xs.take (i + 1)).any (· == k')) (unl xs (i + 1)) :=
      SetOf_congr hS2 (fun k' => any_snoc (by omega) k') rfl
    refine wpAny_pure ⟨plainId_quiet PyProof.Rows.F.plain_set_update_loop _, ih (i + 1) _ (by omega) hlt (W.frame _ s' _ _ hst' (Nat.le_succ _) fun b hb o e => ?_) hSi fun s'' hm'' hS'' => ?_⟩
    · rw [hsb.2 b (fun h : b = S => hSf (by rw [← h]; exact hb))]; exact e
    · refine hR s'' (Moved.trans W.gtrans ((hm.mono hsub).then_heap (Nat.le_succ _) fun b o hb e => ?_) hm'') hS''
      rw [hsb.2 b (fun h : b = S => hb (by rw [h]; exact List.mem_cons_self))]; exact e
end
section
variable {prog : Program} {w : World} {A : Around} {E : Value → Shared → Prop} {s : Shared}
theorem call_set_strs {l : Addr} {items : Array Value} {xs : List Str} {Q : Value → Shared → Prop}
    (hh : A.handled = none) (hl : s.heap.IsList l items) (hi : PyProof.Rows.StrsAre items.toList xs) (hn : items.size + 1 < scanBound)
    (h : ∀ (h' : Heap) (tk : Nat), h'.SetOf (PySem.strKind prog w) s.heap.objs.size (fun k' => (xs.take items.size).any (· == k')) (unl xs items.size) →
      (∀ b o, b < s.heap.objs.size → s.heap.get? b = some o → h'.get? b = some o) → Q (.ref s.heap.objs.size) { s with heap := h', toks := tk }) :
    wpAny (model prog w) A (call (.type "set") [.ref l]) Q E s := by
  obtain ⟨c, tl, hmro⟩ := PySem.F.called_set.mro
  have hmade := PySem.F.called_set.made
  have hsub := PySem.F.called_set.sub
  refine wpAny_call (codeAny_of_tree ?_)
  show wpAny _ _ (callAny (.type "set") _) _ _ _
  refine wpAny_pure ⟨Code.quiet_builtin _ (by decide +kernel), codeAny_builtin PySem.F.entry_type_call ?_⟩
  rw [Around.under_plain (weight_type_call_type "set" [.ref l] []) rfl]
  have h1 := PySem.F.called_set.notType
  have h2 := PySem.F.called_set.canCreate
  have hct := PySem.F.typeCall_set_1 (.ref l)
  repeat (any_goals (first | assumption | wp_step))
  refine codeAny_mono (code_set_new_1 (.ref l) (E := E) (Q₁ := fun obj s₁ => ∃ led : Bool, obj = .ref s.heap.objs.size ∧ s₁ = { s with heap := s.heap.push { cls := .type "set", dict := none, data := .set #[] 0 (.fresh 0 0 led) } }) fun led => ⟨led, rfl, rfl⟩) fun r s₁ hr => ?_
  cases r with
  | error e => exact hr
  | ok fl =>
    cases fl with
    | ret obj =>
      obtain ⟨led, rfl, rfl⟩ := hr
      generalize hO : ({ cls := .type "set", dict := none, data := .set #[] 0 (.fresh 0 0 led) } : Obj) = ob
      have hS : (s.heap.push ob).get? s.heap.objs.size = some ob := by subst hO; exact Heap.get?_push_size _ rfl
      have hT : Shared.TypeIs { s with heap := s.heap.push ob } (.ref s.heap.objs.size) "set" := ⟨_, hS, by rw [← hO]⟩
      have hli := PySem.F.called_set.init.lookup
      have hbi := PySem.F.called_set.init.bind (.ref s.heap.objs.size)
      repeat (any_goals (first | assumption | wp_step))
      refine codeAny_mono (codeAny_call_builtin (R := wants (fun r s₂ => r = .none ∧ ∃ h' tk, s₂ = { s with heap := h', toks := tk } ∧
          h'.SetOf (PySem.strKind prog w) s.heap.objs.size (fun k' => (xs.take items.size).any (· == k')) (unl xs items.size) ∧
          (∀ b o, b < s.heap.objs.size → s.heap.get? b = some o → h'.get? b = some o)) E) PySem.F.called_set.init.plain PySem.F.entry_set_init (check_set_init_1 hT ?_)) fun r₂ s₂ hr₂ => ?_
      · obtain ⟨⟨ocls, odict, odata, oslots⟩, hol, hcl, nl, hdl⟩ := hl
        simp only at hcl hdl
        subst hcl; subst hdl
        have hlS : l < s.heap.objs.size := Heap.lt_size hol
        have hol' : (s.heap.push ob).get? l = some { cls := .type "list", dict := odict, data := .seq items nl, slots := oslots } := Heap.get?_push_of_some _ hol
        have hsls := PySem.F.sub_list_set
        have hslf := PySem.F.sub_list_frozenset
        have hne : (Value.type "list" == Value.type "dict") = false := by decide
        have hl1 : (s.heap.push ob).IsList l items := ⟨_, hol', rfl, nl, rfl⟩
        unfold Builtin.«set.__init__» noKeywords Builtin.Frozenset.updateFrom
        subst hO
        generalize hPI : pyIter = PI
        wp_walk
        subst hPI
        refine wpAny_pyIter_list hl1 (wpAny_bind (wpAny_runValue ?_))
        have hh3 : A.in1.in1.in1.handled = none := by simp [hh]
        generalize hO : ({ cls := .type "set", dict := none, data := .set #[] 0 (.fresh 0 0 led) } : Obj) = ob at hS hT hol' hl1 ⊢
        have hz : (s.heap.push ob).objs.size = s.heap.objs.size + 1 := Heap.size_push ..
        have hneI : l ≠ (s.heap.push ob).objs.size := by
          rw [hz]; exact Nat.ne_of_lt (Nat.lt_succ_of_lt hlS)
        have hSf : s.heap.objs.size ∉ [(s.heap.push ob).objs.size, l] := by
          rw [hz]; simp only [List.mem_cons, List.not_mem_nil, or_false, not_or]
          exact ⟨Nat.ne_of_lt (Nat.lt_succ_self _), Nat.ne_of_gt hlS⟩
        have hsz : xs.length = items.size := by rw [← StrsAre.len_eq hi, Array.length_toList]
        refine set_loop ((Walks.list hh3 _ l hneI items).toS) s.heap.objs.size hSf xs hsz hn (fun i v hv => SS.strs_at hi i v (by rw [Array.getElem?_toList]; exact hv)) (items.size - 0) 0 _ (by omega) (Nat.zero_le _)
          ⟨⟨_, Heap.get?_push_size _ rfl, rfl, rfl⟩, (hl1.push _)⟩ ?_ fun s' hm hS' => ?_
        · subst hO
          exact PyProof.Rows.SetOf_congr ((PyProof.Rows.setObjOf_fresh (knd := PySem.strKind prog w) led).setOf (Heap.get?_push_of_some _ hS) (by unfold scanBound; omega)) (fun _ => rfl) rfl
        · obtain ⟨h', g', d', tk', os'⟩ := s'
          have eg : g' = s.gens := hm.gens
          have ed : d' = s.drawn := hm.drawn
          have eo : os' = s.os := hm.os
          subst eg; subst ed; subst eo
          refine wpAny_pure ?_
          show wpAny _ _ (ret Value.none) _ _ _
          refine wpAny_pure ⟨rfl, h', tk', rfl, hS', fun b o hb e => ?_⟩
          refine hm.heap b o ?_ (Heap.get?_push_of_some _ (Heap.get?_push_of_some _ e))
          simp only [List.mem_cons, List.not_mem_nil, or_false, not_or]
          exact ⟨Nat.ne_of_lt hb, by rw [hz]; exact Nat.ne_of_lt (Nat.lt_succ_of_lt hb)⟩
      · cases r₂ with
        | error e => exact hr₂
        | ok fl₂ =>
          cases fl₂ with
          | ret r =>
            obtain ⟨rfl, h', tk, rfl, hS', hk'⟩ := hr₂
            repeat (any_goals (first | assumption | wp_step))
            exact h _ _ hS' hk'
          | _ => exact hr₂.elim
    | _ => exact hr.elim
end
def tLenSetS (K : PySem.W.Frag) (ta : TE) : TE := fun σ H Q => ta σ H fun x H1 => ∃ (l : Addr) (xs : List Str), x = .ref l ∧ SqL K H1 l (xs.map V.str) ∧ xs.length ≤ 4000 ∧ Q (.int (unl xs xs.length : Nat)) H1
theorem pe_lenSetS {X : Cx} {a : Expr} {ta : TE} {p p2 q pos : Pos} (hg : Gl X "len") (hm : X.mg "len" = none) (hg2 : Gl X "set") (hm2 : X.mg "set" = none) (ha : PE X a ta) (hc : X.calm = true := by rfl)
    (na : starEach [a] X.env = (false, eval a X.env) :: starEach [] X.env := by rfl) : PE X (.Call (.Name "len" p) [.Call (.Name "set" p2) [a] [] q] [] pos) (tLenSetS X.K ta) := by
  refine ⟨fun pins s σ H Q I h => ?_⟩
  refine Call_ (ld_blt I hg hm boot_len ?_)
  refine PyProof.Rows.callWith_builtin1 (PyProof.Rows.args_cons ?_ rfl) rfl rfl
  refine Call_ (ld_blt I hg2 hm2 boot_set ?_)
  refine PyProof.Rows.callWith_type1 (PyProof.Rows.args_cons (thn (ha.run pins s σ H _ I h) fun v s1 ⟨x, H1, I1, r1, q1⟩ => PyProof.Rows.args_nil ?_) na) na rfl
  obtain ⟨l, xs, rfl, hq, hl, q1⟩ := q1
  cases r1
  obtain ⟨its, r, pl, hz⟩ := I1.list hq
  have hlen : its.toArray.size = xs.length := by rw [List.size_toArray, ← r.length, List.length_map]
  refine call_set_strs (I1.ok.hd hc) pl.isList (by simpa using strsAre_of r) (by rw [hlen]; unfold scanBound; omega) fun h' tk hS hk => ?_
  refine PyProof.Rows.args_nil ?_
  rw [hlen] at hS
  obtain ⟨o, es, ep, t, ho, hex, hd, _, _, _, hf, hn⟩ := hS
  have hle := unl_le xs xs.length
  have I2 : Inv X pins σ H1 { s1 with heap := h', toks := tk } := I1.kept fun b o e => hk b o (Heap.lt_size e) e
  exact call_len_set ho hex hd hf (by rw [hn] <;> omega) ⟨.int (unl xs xs.length : Nat), H1, I2.tok _, ⟨_, by rw [hn]⟩, q1⟩
theorem rep_strs {K : PySem.W.Frag} {ct : String → Addr} {G : Hp} {m : Nat → Option Addr} : ∀ {ds : List D} {vs : List V} {xs : List Str}, RepL K ct G m ds vs → strsOf ds = some xs → vs = xs.map V.str
  | [], _, xs, .nil, e => by simp only [strsOf, Option.some.injEq] at e; subst e; rfl
  | .str x :: ds, _, xs, .cons r rr, e => by
    simp only [strsOf] at e
    cases q : strsOf ds with
    | none => rw [q] at e; exact nomatch e
    | some ys =>
      rw [q] at e
      simp only [Option.map_some, Option.some.injEq] at e
      subst e
      cases r
      rw [rep_strs rr q]
      rfl
  | .non :: _, _, _, _, e => nomatch e
  | .bl _ :: _, _, _, _, e => nomatch e
  | .int _ :: _, _, _, _, e => nomatch e
  | .tup _ :: _, _, _, _, e => nomatch e
  | .lst _ :: _, _, _, _, e => nomatch e
  | .dct _ _ :: _, _, _, _, e => nomatch e
  | .ob _ :: _, _, _, _, e => nomatch e
  | .fn _ :: _, _, _, _, e => nomatch e
  | .ev _ _ _ :: _, _, _, _, e => nomatch e
def eLenSet (f : E) : E := fun δ s => (f δ s).bind fun d s1 => match rsv s1 d with
  | .lst ds => (match strsOf ds with
    | some xs => if xs.length ≤ 4000 then .ok (.int (unl xs xs.length : Nat)) s1 else .stk
    | none => .stk)
  | _ => .stk
section
variable {X : Cx} {C : Cc}
theorem se_lenSet {a : Expr} {fa : E} {p p2 q pos : Pos} (hg : Gl X "len") (hm : X.mg "len" = none) (hg2 : Gl X "set") (hm2 : X.mg "set" = none) (ha : SE X C a fa) (hc : X.calm = true := by rfl)
    (na : starEach [a] X.env = (false, eval a X.env) :: starEach [] X.env := by rfl) : SE X C (.Call (.Name "len" p) [.Call (.Name "set" p2) [a] [] q] [] pos) (eLenSet fa) :=
  pe_weak (pe_lenSetS hg hm hg2 hm2 ha hc na) fun σ H Q ⟨δ, v, re, eH, h⟩ => ⟨δ, v, re, eH, on_mono (on_bind h) fun d x v1 l1 s1 r1 h1 => by
    have t := r1.top s1
    cases z : rsv v1.st d with
    | lst ds =>
      rw [z] at h1 t
      cases t with
      | @lst a vs _ pp qq =>
        simp only at h1
        cases y : strsOf ds with
        | none => rw [y] at h1; exact h1.elim
        | some xs =>
          rw [y] at h1
          simp only at h1
          split at h1
          · rename_i hl
            have e := rep_strs qq y
            subst e
            exact ⟨a, xs, rfl, pp, hl, h1 _ v1 .refl s1 rfl (.int _)⟩
          · exact h1.elim
    | _ => rw [z] at h1; exact h1.elim⟩
end
@[simp] theorem v_eLenSet (f : E) (δ : Sl) (s : Sto) : eLenSet f δ s = (f δ s).bind fun d s1 => match rsv s1 d with
  | .lst ds => (match strsOf ds with
    | some xs => if xs.length ≤ 4000 then .ok (.int (unl xs xs.length : Nat)) s1 else .stk
    | none => .stk)
  | _ => .stk := id rfl
end Gs

set_option maxHeartbeats 200000
/-! GDf: defs with defaults; try .. except C as e: return (isinstance(e, C1), ..). -/
namespace Gs
open PySem L2
section
variable {P : Program} {w : World} {K : PySem.W.Frag} {mg : Str → Option Value} {base : Heap} {ct : String → Addr}
theorem fn_okD {x qual : Str} {st : Stmt} {f : Addr} {fd : FuncData} {N ps : List Str} {k : Nat} {body : S} {dvs : List V} (F : FunD K x qual (defArgs st) (defBody st) (defScope st) dvs [] f fd) (sc : FnScope N ps (defScope st)) (hn : ps.length ≤ N.length)
    (hb : ∀ (cdv : Value) (A : Around) (outer : List Env) (s : Shared) (H : Hp) (v : Vw) (E : XK), Room k (A.deeper (PyProof.Rows.envOfC qual (defScope st) s.heap.objs.size f cdv)) →
      SSs (cxOf (L2.CX P w) P w K mg base N qual (defScope st) f cdv A outer s H E) ⟨v, ct, fun cls d _ H => E cls d H⟩ (defBody st) body) :
    FnOk P w K mg base (L2.CX P w) (k + 1) f fd ps (spG K ct ps.length (runG N.length body)) := by
  refine F.ok sc (fun vs H Q E ⟨v, ds, e, sr, l, r, _⟩ => by rw [← l, r.length]) (fun cdv A outer s H vs Q E hr ⟨v, ds, e, sr, l, r, h⟩ => ⟨_, hb cdv A outer s H v E hr, ?_⟩)
  subst e
  have rs : RE K ⟨v, ct, fun cls d _ H => E cls d H⟩ (L2.start N vs) (ds.map some ++ List.replicate (N.length - ds.length) none) v := re_start .refl sr r (by omega)
  refine ⟨_, v, rs, rfl, ?_⟩
  unfold runG at h
  cases e : body (ds.map some ++ List.replicate (N.length - ds.length) none) v.st with
  | nx δ s => rw [e] at h; exact fun σ' v' re l es => h .non v' l re.sr es .non
  | rt d s => rw [e] at h; exact fun x v' l sr' es r => h x v' l sr' es r
  | exc e2 δ s => rw [e] at h; exact fun cls dd σ' v' re l es rx => h cls dd v' l re.sr es rx
  | bk δ s => rw [e] at h; exact h.elim
  | ct δ s => rw [e] at h; exact h.elim
  | stk => rw [e] at h; exact h.elim
theorem fund_mk {x qual : Str} {st : Stmt} {f T : Addr} {oc tc : Value} {od an to : Option Addr} {osl tsl : Array (Option Value)} {kV doc pm cdv c2 : Value} {n : Nat} {its : List Value} {dvs : List V}
    (l : K.lookup f = some ⟨oc, od, .func (PySem.W.fnOf x qual (defArgs st) (defBody st) (defScope st) (.ref T) kV doc pm an cdv c2), osl⟩)
    (c : PySem.W.codeIn K cdv qual = true) (k : PySem.W.keepIn K (.ref f) = true) (lT : K.lookup T = some ⟨tc, to, .seq its.toArray n, tsl⟩) (hn : dvs ≠ []) (r : Vals dvs its) :
    FunD K x qual (defArgs st) (defBody st) (defScope st) dvs [] f (PySem.W.fnOf x qual (defArgs st) (defBody st) (defScope st) (.ref T) kV doc pm an cdv c2) :=
  ⟨⟨oc, od, .ref T, kV, doc, pm, an, cdv, c2, osl, rfl, l, c, .inr ⟨hn, T, _, its, n, rfl, lT, rfl, r⟩, .inl rfl⟩, k⟩
end
/-! a call whose last arguments are the defaults -/
def eCallD (F : List D → Sto → R D) (a : As) (dd : List D) : E := fun δ s => (a δ s).bind fun ds s1 => F (ds ++ dd) s1
section
variable {X : Cx} {C : Cc} {pos p : Pos} {x : Str} {e : Expr} {es : List Expr} {fa : As} {k n j : Nat} {f : Addr} {fd : FuncData} {ps : List Str} {F : List D → Sto → R D} {dd : List D} {dvs : List V}
theorem se_callD (hF : FnOk X.prog X.w X.K X.mg X.base (L2.CX X.prog X.w) k f fd ps (spG X.K C.ct n F)) (hr : Room k X.A) (tk : Takes X C.W) (hg : Gl X x) (hm : X.mg x = some (.ref f)) (hk : PySem.W.keepIn X.K (.ref f) = true)
    (hb : ∃ ds, Vals dvs ds ∧ Binds X.K fd ps ds) (rd : ∀ G m, RepL X.K C.ct G m dd dvs)
    (ha : SA X C (e :: es) fa) (hl : LenA fa j) (hj : j + dd.length = n) (hdb : (x == ("__debug__" : Str)) = false := by decide) (he : starEach (e :: es) X.env = (false, eval e X.env) :: starEach es X.env := by rfl) (hpl : (backTo pos (starEach es X.env)).any (·.1) = false := by rfl) :
    SE X C (.Call (.Name x p) (e :: es) [] pos) (eCallD F fa dd) := by
  obtain ⟨ds, hv, hb⟩ := hb
  exact pe_weak (pe_callSD hF hr hg hm hk hb hv (fun σ => passAt tk σ) ha hdb he hpl) fun σ H Q ⟨δ, v, re, eH, h⟩ => ⟨δ, v, re, eH, on_mono (on_eq (on_bind h)) fun ds vs v1 l1 s1 r1 h1 => by
    obtain ⟨h1, s, q⟩ := h1
    have hh : (ds ++ dd).length = n := by rw [List.length_append, hl _ _ _ _ q, hj]
    exact on_sp s1 hh (r1.append (rd _ _)) h1⟩
end
@[simp] theorem v_eCallD (F : List D → Sto → R D) (a : As) (dd : List D) (δ : Sl) (s : Sto) : eCallD F a dd δ s = (a δ s).bind fun ds s1 => F (ds ++ dd) s1 := id rfl
/-! isinstance of what is caught, told as a tuple -/
section
variable {X : Cx}
theorem pe_isE {a D : Addr} {oe : Obj} {b : Bool} {i : Nat} {x cn : Str} {p1 p2 pf pos : Pos} {cv : Value} {cV : V} {pn : List (Addr × Obj)} (c : ExcC X.K D) (hz : Zc (.ref D) none oe) (hf : ∃ vs, oe.data = .fields vs)
    (hgi : Gl X "isinstance") (hmi : X.mg "isinstance" = none) (hc : PE (X.suite a ((a, oe) :: pn)) (.Name cn p2) (tC cV)) (hcv : ClsV cV cv) (hk : PySem.W.kitOne X.K (.ref D) cv = some b)
    (hN : X.N[i]? = some x := by rfl) (hv : Vis X.env.scope x := by first | exact Or.inl rfl | exact Or.inr (Or.inl rfl) | exact Or.inr (Or.inr rfl)) (hd : (x == ("__debug__" : Str)) = false := by decide) (hcd : (x == ("__classdict__" : Str)) = false := by decide)
    (hvi : bootBuiltins "isinstance" = some (.builtin "isinstance") := by decide +kernel)
    (hs : starEach [.Name x p1, .Name cn p2] X.env = (false, eval (.Name x p1) X.env) :: starEach [.Name cn p2] X.env := by rfl) (hpl : (backTo pos (starEach [.Name cn p2] X.env)).any (·.1) = false := by rfl) (hs2 : starEach [.Name cn p2] X.env = (false, eval (.Name cn p2) X.env) :: starEach [] X.env := by rfl) :
    PE (X.suite a ((a, oe) :: pn)) (.Call (.Name "isinstance" pf) [.Name x p1, .Name cn p2] [] pos) (fun σ H Q => σ[i]? = some (some (.ref a)) ∧ Q (.bl b) H) :=
  pe_weak (pe_callB (X := X.suite a ((a, oe) :: pn)) (call_isE c hz hf) hgi hmi hvi (pa_cons (pe_var (X := X.suite a ((a, oe) :: pn)) hN hv hd hcd) (pa_cons hc pa_nil hs2) hs) (by decide) (by decide) hs hpl) fun σ H Q ⟨e0, q⟩ =>
    ⟨_, e0, cV, cv, b, rfl, fun u r => hcv.eq r, hk, q⟩
/-- the answers, one for each table -/
def alT : List (String → Option Bool) → String → Option (List Bool)
  | [], _ => some []
  | t :: ts, s => match t s, alT ts s with
    | some b, some bs => some (b :: bs)
    | _, _ => none
theorem alT_len : ∀ {ts : List (String → Option Bool)} {s : String} {bs : List Bool}, alT ts s = some bs → ts.length ≤ 100 → bs.length ≤ 100
  | ts, s, bs, h, hl => by
    suffices hh : ∀ (ts : List (String → Option Bool)) (bs : List Bool), alT ts s = some bs → bs.length = ts.length by rw [hh ts bs h]; exact hl
    intro ts
    induction ts with
    | nil => intro bs h; simp only [alT, Option.some.injEq] at h; subst h; rfl
    | cons t ts ih =>
      intro bs h
      unfold alT at h
      split at h
      · rename_i b bs2 e1 e2; cases h; rw [List.length_cons, List.length_cons, ih _ e2]
      · exact nomatch h
theorem pa_isN {Y : Cx} {i : Nat} {a : Addr} : PA Y [] (fun σ H Q => σ[i]? = some (some (.ref a)) ∧ Q (([] : List Bool).map V.bl) H) := pa_weak pa_nil fun σ H Q ⟨_, q⟩ => q
theorem pa_isC {Y : Cx} {i : Nat} {a : Addr} {b : Bool} {bs : List Bool} {e : Expr} {es : List Expr} (h : PE Y e (fun σ H Q => σ[i]? = some (some (.ref a)) ∧ Q (.bl b) H)) (ht : PA Y es (fun σ H Q => σ[i]? = some (some (.ref a)) ∧ Q (bs.map V.bl) H))
    (hs : starEach (e :: es) Y.env = (false, eval e Y.env) :: starEach es Y.env := by rfl) : PA Y (e :: es) (fun σ H Q => σ[i]? = some (some (.ref a)) ∧ Q ((b :: bs).map V.bl) H) :=
  pa_weak (pa_cons h ht hs) fun σ H Q ⟨e0, q⟩ => ⟨e0, e0, q⟩
theorem pa_isN' {Y : Cx} {i : Nat} {a : Addr} {cn : String} : ∀ bs, alT [] cn = some bs → PA Y [] (fun σ H Q => σ[i]? = some (some (.ref a)) ∧ Q (bs.map V.bl) H) := fun bs h => by
  simp only [alT, Option.some.injEq] at h
  subst h
  exact pa_isN
theorem pa_isC' {Y : Cx} {i : Nat} {a : Addr} {e : Expr} {es : List Expr} {cn : String} {t : String → Option Bool} {ts : List (String → Option Bool)} (h : ∀ b, t cn = some b → PE Y e (fun σ H Q => σ[i]? = some (some (.ref a)) ∧ Q (.bl b) H)) (ht : ∀ bs, alT ts cn = some bs → PA Y es (fun σ H Q => σ[i]? = some (some (.ref a)) ∧ Q (bs.map V.bl) H))
    (bs : List Bool) (hh : alT (t :: ts) cn = some bs) (hs : starEach (e :: es) Y.env = (false, eval e Y.env) :: starEach es Y.env := by rfl) : PA Y (e :: es) (fun σ H Q => σ[i]? = some (some (.ref a)) ∧ Q (bs.map V.bl) H) := by
  unfold alT at hh
  split at hh
  · rename_i b bs2 e1 e2
    cases hh
    exact pa_isC (h b e1) (ht bs2 e2) hs
  · exact nomatch hh
theorem pss_isT {Y : Cx} {i : Nat} {a : Addr} {bs : List Bool} {es : List Expr} {k : Nat} {pos p2 : Pos} (h : PA Y es (fun σ H Q => σ[i]? = some (some (.ref a)) ∧ Q (bs.map V.bl) H)) (hl : bs.length ≤ 100) :
    PSs Y [.Return (some (.Tuple es k pos)) p2] (fun Dn σ H => σ[i]? = some (some (.ref a)) ∧ ∀ p, H p = none → Dn.rt (.ref p) (upd H p (.tup (bs.map V.bl)))) :=
  pss_one (ps_weak (ps_ret (pe_tup h)) fun Dn σ H ⟨e0, q⟩ => ⟨e0, by rw [List.length_map]; exact Nat.le_trans hl (by decide), fun p hp => q p hp⟩)
end
def sTryR (t : String → Option Bool) (al : String → Option (List Bool)) (fb : S) : S := fun δ s => match fb δ s with
  | .exc e δ' s' => if e.fs.isEmpty = true then (match t e.cls with
    | some true => (match al e.cls with
      | some bs => .rt (.tup (bs.map D.bl)) s'
      | none => .stk)
    | some false => .exc e δ' s'
    | none => .stk) else .stk
  | r => r
theorem repl_bl {K : PySem.W.Frag} {ct : String → Addr} {G : Hp} {m : Nat → Option Addr} : ∀ bs : List Bool, RepL K ct G m (bs.map D.bl) (bs.map V.bl)
  | [] => .nil
  | b :: bs => .cons (.bl b) (repl_bl bs)
section
variable {X : Cx} {C : Cc}
theorem ss_try_ret {x n : Str} {c : Addr} {t : String → Option Bool} {al : String → Option (List Bool)} {i : Nat} {body suite : List Stmt} {b₀ : Stmt} {np pos' pos : Pos} {fb : S} (hs : X.stack = X.env :: X.outer) (hf : X.env.frame = some X.env.locals) (hN : X.N.Nodup) (hi : X.N[i]? = some n) (hln : X.env.kindOf n = some .local)
    (hc : Names X x (.ref c)) (tk : Takes X C.W) (ht : XT X.K C.ct c t)
    (hb : ∀ (W : WX) (pn : List (Addr × Obj)) (xe : Value → Shared → Prop), Takes (X.tr pn xe) W → PassesOwn (model X.prog X.w) X.A X.env xe → SSs (X.tr pn xe) { C with W := W } body fb)
    (hsu : ∀ (a : Addr) (oe : Obj) (pn : List (Addr × Obj)) (cn : String) (bs : List Bool), al cn = some bs → Zc (.ref (C.ct cn)) none oe → (∃ vs, oe.data = .fields vs) →
      PSs (X.suite a ((a, oe) :: pn)) (b₀ :: suite) (fun Dn σ H => σ[i]? = some (some (.ref a)) ∧ ∀ p, H p = none → Dn.rt (.ref p) (upd H p (.tup (bs.map V.bl))))) :
    SS X C (.Try body [.ExceptHandler (some (.Name x np)) (some n) (b₀ :: suite) pos'] [] [] pos) (sTryR t al fb) := by
  refine ⟨fun pins s σ H Dn I h => ?_⟩
  have hiN : i < X.N.length := (List.getElem?_eq_some_iff.mp hi).1
  refine (ps_try_as (tb := fun W => liftS X.K { C with W := W } fb) (ts := fun a cls d => fun Dn σ H => ∃ (cn : String) (bs : List Bool), cls = .ref (C.ct cn) ∧ d = none ∧ al cn = some bs ∧ (∃ σ0 : L2.St, σ = List.set σ0 i (some (.ref a))) ∧ ∀ p, H p = none → Dn.rt (.ref p) (upd H p (.tup (bs.map V.bl))))
    hs hf hN hi hln hc tk hb fun a oe cls d pn hz hfl => ⟨fun pins s σ H Dn I hh => by
      obtain ⟨cn, bs, rfl, rfl, hal, ⟨σ0, rfl⟩, h2⟩ := hh
      have hl : (List.set σ0 i (some (V.ref a))).length = X.N.length := I.len
      rw [List.length_set] at hl
      exact (hsu a oe pn cn bs hal hz hfl).run pins s _ H Dn I ⟨List.getElem?_set_self (by omega), h2⟩⟩).run pins s σ H Dn I ?_
  obtain ⟨δ, v, re, eH, h⟩ := h
  refine ⟨δ, v, re.wish2, eH, ?_⟩
  unfold sTryR at h
  cases e : fb δ v.st with
  | nx δ' s' => rw [e] at h; exact fun σ' v' re l es => h σ' v' re.wish2 l es
  | bk δ' s' => rw [e] at h; exact fun σ' v' re l es => h σ' v' re.wish2 l es
  | ct δ' s' => rw [e] at h; exact fun σ' v' re l es => h σ' v' re.wish2 l es
  | rt d s' => rw [e] at h; exact h
  | stk => rw [e] at h; exact h.elim
  | exc ex δ' s' =>
    rw [e] at h
    simp only at h
    intro cls dd σ' v' re' l' es rx
    split at h
    · rename_i hfs
      have hfs' : ex.fs = [] := List.isEmpty_iff.mp hfs
      have hdd : dd = none := rx.2.elim (fun z => z.2) fun z => absurd hfs' z.1
      cases q : t ex.cls with
      | none => rw [q] at h; exact h.elim
      | some bb =>
        rw [q] at h
        refine ⟨bb, by rw [rx.1]; exact ht _ _ q, fun hb => ?_, fun hb => ?_⟩
        · subst hb
          intro a ha
          simp only at h
          cases qa : al ex.cls with
          | none => rw [qa] at h; exact h.elim
          | some bs =>
            rw [qa] at h
            refine ⟨ex.cls, bs, rx.1, hdd, qa, ⟨_, rfl⟩, fun p hp => ?_⟩
            obtain ⟨l2, s2⟩ := new_ok (o := .tup (bs.map V.bl)) re'.sr hp
            exact h (.ref p) _ (re'.le.trans l2) s2 es (.tup (SqT.of upd_same) (l2.repl (repl_bl bs)))
        · subst hb
          exact h cls dd σ' v' re'.wish2 l' es rx
    · exact h.elim
end
@[simp] theorem v_sTryR (t : String → Option Bool) (al : String → Option (List Bool)) (fb : S) (δ : Sl) (s : Sto) : sTryR t al fb δ s = (match fb δ s with
  | .exc e δ' s' => if e.fs.isEmpty = true then (match t e.cls with
    | some true => (match al e.cls with
      | some bs => .rt (.tup (bs.map D.bl)) s'
      | none => .stk)
    | some false => .exc e δ' s'
    | none => .stk) else .stk
  | r => r) := id rfl
end Gs

/-! GXf: exceptions with fields: made, caught, read. -/
namespace L2
open PySem PySem.Spec PyProof.Rows
section
variable {X : Cx} {e : Expr} {es : List Expr} {ta : TA} {p1 p2 pos : Pos}
/-- B.__init__(self, ..), B an own class without an __init__ of its own -/
theorem pe_ceinit {x : Str} {B : Addr} {pl : Sem Bool} (hg : Gl X x) (hm : X.mg x = some (.ref B)) (ga : PySem.W.specialIn X.K (.ref B) "__getattribute__" = some (some (.builtin "type.__getattribute__"))) (hT : PySem.W.typeIn X.K (.ref B) = some (.type "type"))
    (rd : PySem.W.readsIn X.K B (.type "type") = true) (vV : PySem.W.findCls X.K (.ref B) (.type "type") "__init__" = some (.val (.builtin "ValueError.__init__"))) (ha : PA X (e :: es) ta)
    (hc : eval (.Call (.Attribute (.Name x p1) "__init__" p2) (e :: es) [] pos) X.env = (do
      let ov ← eval (.Name x p1) X.env
      standAt p2.atName
      let (f, first) ← holding [ov] (getMethod ov "__init__" pl)
      callWith pos f first (backTo pos (starEach (e :: es) X.env)) (backToKw pos (keywordEach [] X.env))) := by rfl) (hdb : (x == ("__debug__" : Str)) = false := by decide)
    (he : starEach (e :: es) X.env = (false, eval e X.env) :: starEach es X.env := by rfl) (hpl : (backTo pos (starEach es X.env)).any (·.1) = false := by rfl) :
    PE X (.Call (.Attribute (.Name x p1) "__init__" p2) (e :: es) [] pos) (tVeI X.K ta) := by
  refine ⟨fun pins s σ H Q I h => ?_⟩
  refine PySem.W.methodCall_KW (ld_glob I hg hm ?_ hdb) hc
  obtain ⟨m, fr⟩ := I.fr
  refine PySem.W.method_of_cls fr I.ok.mod.kin ga (PySem.W.cls_val fr I.ok.mod.kin hT rd vV (by decide +kernel) ?_)
  show wpAny _ _ (callWith pos (Value.builtin "ValueError.__init__") [] (backTo pos (starEach (e :: es) X.env)) []) _ _ _
  refine PyProof.Rows.callWith_method1 (thn (ha.run pos pins _ σ H _ (I.tok _) h) fun us s1 ⟨vs, H1, I1, r1, a, C, ws, ev, hl, T, ea, q⟩ => ?_) he hpl
  subst ev
  cases r1 with
  | @cons _ u0 _ ur ra rw' =>
    obtain rfl : u0 = Value.ref a := ra
    have hlen : ur.length ≤ sizeLine := by
      rw [← Paired.length rw', sizeLine_eq]
      omega
    exact oinit_ok T I1 ea hlen fun s' J => ⟨.non, H1, J, rfl, q⟩
end
end L2
namespace Gs
open PySem L2
/-- an __init__ that keeps its fields ns (the last one stored first in the list) -/
def spXI (K : PySem.W.Frag) (C : Addr) (ns : List Str) : Sp := fun vs H Q E => ∃ (a : Addr) (w : V) (ys : List V), vs = .ref a :: w :: ys ∧ ys.length = ns.length ∧ OexC K C ∧ H a = some (exo a C none) ∧
  ∀ (H' : Hp) (dx : Addr), H dx = none → dx ≠ a → H' a = some (exo a C (some dx)) → H' dx = some (exd dx (ns.zip ys).reverse) → (∀ b, b ≠ a → b ≠ dx → H' b = H b) → Q .non H'
/-- an own exception class with fields -/
structure XF (K : PySem.W.Frag) (mg : Str → Option Value) (ct : String → Addr) (c : String) : Prop where
  g : mg (Str.ofString c) = some (.ref (ct c))
  ox : OexC K (ct c)
  fi : ∃ fI, PySem.W.findIn K (.ref (ct c)) "__init__" = some (some (.ref fI)) ∧ PySem.W.typeIn K (.ref fI) = some (.type "function")
def sRaiseF (c : String) (ns : List Str) (a : As) : S := fun δ s => sBind (a δ s) δ fun ds s1 => match ds with
  | _ :: ys => if ys.length = ns.length ∧ ns.length ≤ 10 ∧ ns ≠ [] then .exc ⟨c, (ns.zip ys).reverse⟩ δ s1 else .stk
  | [] => .stk
theorem repP_rev {κ : Type} {K : PySem.W.Frag} {ct : String → Addr} {G : Hp} {m : Nat → Option Addr} {ds : List (κ × D)} {vs : List (κ × V)} (r : RepP K ct G m ds vs) : RepP K ct G m ds.reverse vs.reverse := by
  induction r with
  | nil => exact .nil
  | cons h _ ih =>
    rw [List.reverse_cons, List.reverse_cons]
    exact ih.append (.cons h .nil)
section
variable {X : Cx} {C : Cc}
theorem ss_raiseF {c : String} {cx : Str} {fI : Addr} {fd : FuncData} {ps ns : List Str} {k : Nat} {e : Expr} {es : List Expr} {fa : As} {p pos1 pos : Pos} (hcx : Str.ofString c = cx) (hc : X.calm = true) (tk : Takes X C.W) (T : OexC X.K (C.ct c)) (iC : PySem.W.findIn X.K (.ref (C.ct c)) "__init__" = some (some (.ref fI)))
    (tI : PySem.W.typeIn X.K (.ref fI) = some (.type "function")) (F1 : FnOk X.prog X.w X.K X.mg X.base (L2.CX X.prog X.w) k fI fd ps (spXI X.K (C.ct c) ns)) (hr : Room (k + 1) X.A) (hb : Binds X.K fd ps []) (hg : Gl X cx) (hm : X.mg cx = some (.ref (C.ct c)))
    (ha : SA X C (e :: es) fa) (hdb : (cx == ("__debug__" : Str)) = false := by decide) (he : starEach (e :: es) X.env = (false, eval e X.env) :: starEach es X.env := by rfl) (hpl : (backTo pos1 (starEach es X.env)).any (·.1) = false := by rfl) :
    SS X C (.Raise (some (.Call (.Name cx p) (e :: es) [] pos1)) none pos) (sRaiseF c ns fa) := by
  refine ps_weak (ps_raise hc tk (pmk_oex (CX := L2.CX X.prog X.w) T iC tI F1 hr hb .nil (passes_call (E := fun _ _ _ => False) tk (fun _ _ _ _ z => z.elim)) hg hm ha hdb he hpl)) fun Dn σ H ⟨δ, v, re, eH, h⟩ => ?_
  refine ⟨δ, v, re, eH, ?_⟩
  refine on_mono (onS_R re h) fun ds vs v1 l1 s1 r1 h1 => ?_
  cases r1 with
  | nil => exact h1.elim
  | @cons d0 w ys us rw ry =>
    simp only at h1
    split at h1
    · rename_i hz
      obtain ⟨hz1, hz2, hz3⟩ := hz
      have hl := ry.length
      refine ⟨by simp only [List.length_cons]; omega, fun a na => ⟨a, w, us, by simp, by omega, T, upd_same, fun H' dx hd hda h2 h3 h4 => ⟨rfl, dx, _, h2, h3, ?_, ?_⟩⟩⟩
      · rwa [upd_ne hda] at hd
      · have hd1 : v1.H dx = none := by rwa [upd_ne hda] at hd
        have eH : upd (del H' a) dx (.xd (ns.zip us).reverse) = (v1.new dx (.xd (ns.zip us).reverse)).H := by
          funext b
          show upd (del H' a) dx _ b = upd v1.H dx _ b
          by_cases b1 : b = dx
          · rw [b1, upd_same, upd_same]
          · rw [upd_ne b1, upd_ne b1]
            by_cases b2 : b = a
            · rw [b2, del_same, na]
            · rw [del_ne b2, h4 b b2 b1, upd_ne b2]
        obtain ⟨l2, s2⟩ := new_ok (o := .xd (ns.zip us).reverse) s1 hd1
        rw [eH]
        refine h1 (.ref (C.ct c)) (some dx) σ (v1.new dx (.xd (ns.zip us).reverse)) ((re.step l1 s1).step l2 s2) l2 rfl ⟨rfl, .inr ⟨?_, dx, _, rfl, upd_same, ?_⟩⟩
        · intro z
          have z2 := congrArg List.length z
          simp only [List.length_reverse, List.length_zip, List.length_nil] at z2
          have : 0 < ns.length := List.length_pos_iff.mpr hz3
          omega
        · exact repP_rev (RepP.zip (l2.repl ry))
    · exact h1.elim
end
end Gs

/-! GXs: except suites in which the exception is a thing as others; its fields; isinstance. -/
namespace L2
open PySem PySem.Spec PyProof.Rows
/-- what the clause wishes: its suite runs with the exception told at a -/
def wSu (K : PySem.W.Frag) (c : Value) (i : Nat) (ts : Addr → Value → Option Addr → TS) (Wo : WX) (D : Ends) : WX := fun cls d σ H => ∃ b, PySem.W.exmOne K cls c = some b ∧
  (b = true → ∀ a, H a = none → ts a cls d { nx := fun σ H => D.nx (σ.set i none) H, rt := D.rt, bk := fun σ H => D.bk (σ.set i none) H, ct := fun σ H => D.ct (σ.set i none) H } (σ.set i (some (.ref a))) (upd H a (EvK cls d a))) ∧ (b = false → Wo cls d σ H)
section
variable {X : Cx} {pins : List (Addr × Obj)} {σ : St} {H : Hp} {s : Shared}
theorem Inv.suite0 (I : Inv X pins σ H s) (a : Addr) : Inv (X.suite a (X.pn ++ pins)) [] σ H s :=
  ⟨I.ok.suite _ _, I.os, I.bare, I.base, I.loc, I.cell, I.free, I.freeC, fun p hp => I.pin p (by rw [List.append_nil] at hp; exact hp), I.hok, I.len⟩
theorem Inv.unsuite0 {a : Addr} {pn' : List (Addr × Obj)} (I : Inv (X.suite a (X.pn ++ pins)) pn' σ H s) (ok : X.Ok) : Inv X pins σ H s :=
  ⟨ok, I.os, I.bare, I.base, I.loc, I.cell, I.free, I.freeC, fun p hp => I.pin p (List.mem_append_left _ hp), I.hok, I.len⟩
end
section
variable {X : Cx} {x n : Str} {c : Value} {i : Nat} {body suite : List Stmt} {st₀ : Stmt} {np pos pos' : Pos} {tb : WX → TS} {ts : Addr → Value → Option Addr → TS} {Wo : WX}
theorem ps_try_suite (hs : X.stack = X.env :: X.outer) (hf : X.env.frame = some X.env.locals) (hN : X.N.Nodup) (hi : X.N[i]? = some n) (hln : X.env.kindOf n = some .local) (hx0 : X.ex = []) (hc : Names X x c) (tk : Takes X Wo)
    (hb : ∀ (W : WX) (pn : List (Addr × Obj)) (xe : Value → Shared → Prop), Takes (X.tr pn xe) W → PassesOwn (model X.prog X.w) X.A X.env xe → PSs (X.tr pn xe) body (tb W))
    (hsu : ∀ (a : Addr) (cls : Value) (d : Option Addr) (pn : List (Addr × Obj)), PSs (X.suite a pn) (st₀ :: suite) (ts a cls d)) :
    PS X (.Try body [.ExceptHandler (some (.Name x np)) (some n) (st₀ :: suite) pos'] [] [] pos) (fun D σ H => tb (wSu X.K c i ts Wo D) D σ H) := by
  refine ⟨fun pins s σ H D I0 hpre => ?_⟩
  have okX := I0.ok
  have frames : X.A.frames = some (X.env :: X.outer) := by rw [okX.frames, hs]
  refine wpAny_Try_except ?_
  have bodyRun := (hb (wSu X.K c i ts Wo D) (X.pn ++ pins) (fun e z1 => wpAny (model X.prog X.w) X.A (noteFrame e X.env) (fun _ z2 => wpAny (model X.prog X.w) X.A (setFlight e none)
      (fun _ z3 => wpAny (model X.prog X.w) X.A (handleBy e X.env [.ExceptHandler (some (.Name x np)) (some n) (st₀ :: suite) pos']) (SP X pins D) X.xe z3) X.xe z2) X.xe z1) (fun u z xx => ?_) PassesOwn.looking).run [] s σ H D (I0.toTry _) hpre
  · refine wpAny_mono bodyRun (fun fl z1 hsp => ?_) (fun _ _ he => he)
    cases fl with
    | next =>
      obtain ⟨σ1, H1, J1, q1⟩ := hsp
      exact wpAny_execs_nil ⟨σ1, H1, J1.ofTry okX, q1⟩
    | brk =>
      obtain ⟨σ1, H1, J1, q1⟩ := hsp
      exact ⟨σ1, H1, J1.ofTry okX, q1⟩
    | cont =>
      obtain ⟨σ1, H1, J1, q1⟩ := hsp
      exact ⟨σ1, H1, J1.ofTry okX, q1⟩
    | ret u =>
      obtain ⟨v1, σ1, H1, J1, r1, q1⟩ := hsp
      exact ⟨v1, σ1, H1, J1.ofTry okX, r1, q1⟩
  · obtain ⟨a, B, sI, pins', σc, Hc, cls, d, rfl, Jt, nb, up, sky, na, osE, ag, b, hb1, hyes, hno⟩ := xx
    have J : Inv X pins σc Hc sI := Jt.ofTry okX
    have skyE : Sky B (X.env :: X.outer) a (Zc cls d) X.env.locals z.heap := by rw [← hs]; exact sky
    have nB : B.get? a = none := by rcases skyE with q | q | q <;> exact q.2.1
    show wpAny (model X.prog X.w) X.A (noteFrame (.ref a) X.env) _ _ _
    refine Sky.land Zc.steady frames hf skyE fun hp3 fly3 up3 => ?_
    have K3 : Inv X pins σc Hc { z with heap := hp3 } := J.landed nb fly3.1 (up.trans up3) osE ag
    obtain ⟨oe3, vs3, g3, zc3, d3⟩ := fly3.there
    have notFrame : a ∉ frs (X.env :: X.outer) := fun hm => by
      obtain ⟨_, o', e', hnf⟩ := fly3.2.2.1.mem hm
      rw [g3] at e'
      cases e'
      exact hnf _ d3
    have nL : a ≠ X.env.locals := fun w => notFrame (List.mem_filterMap.mpr ⟨X.env, List.mem_cons_self, by rw [hf, w]⟩)
    have nF : a ∉ X.fs := fun hm => by
      obtain ⟨e, he, q⟩ := List.mem_filterMap.mp hm
      exact notFrame (List.mem_filterMap.mpr ⟨e, List.mem_cons_of_mem _ he, q⟩)
    have nI : sI.heap.get? a = none := by
      cases w : sI.heap.get? a with
      | none => rfl
      | some ob =>
        have w2 := nb a ob w (by rw [hs]; exact notFrame)
        rw [nB] at w2
        cases w2
    have n0 : X.s_0.heap.get? a = none := by
      cases w : X.s_0.heap.get? a with
      | none => rfl
      | some ob =>
        obtain ⟨o', w2⟩ := J.base.there a ob w (by rw [hx0]; simp)
        rw [nI] at w2
        cases w2
    have npin : ∀ p ∈ X.pn ++ pins, p.1 ≠ a := fun p hp w => by
      have w2 := (J.pin p hp).1
      rw [w, nI] at w2
      cases w2
    refine wpAny_handleBy_cons (codeAny_handlers_test ?_) (by intro q; cases q)
    have LT : PySem.W.Looks (model X.prog X.w) hp3 (typeOf (.ref a)) cls := fun A Q E s k q => wpAny_typeOf_ref (k _ _ g3) (by rw [zc3.1]; exact q)
    have LM := PySem.W.exm_one (M := model X.prog X.w) (K3.kIn) LT hb1
    have S3 := K3.suite g3 d3 na nL nF
    have clsNamed : ∀ {Q : Value → Shared → Prop} {E : Value → Shared → Prop}, Q c { z with heap := hp3 } → wpAny (model X.prog X.w) (X.A.mark (some (.ref a))) (eval (.Name x np) X.env) Q E { z with heap := hp3 } := fun {Q E} q => by
      obtain ⟨hgl, hdbg, hm | ⟨hm, hv, hnn⟩⟩ := hc
      · exact ld_glob (X := X.suite a ((a, oe3) :: (X.pn ++ pins))) S3 hgl hm q hdbg
      · exact ld_blt (X := X.suite a ((a, oe3) :: (X.pn ++ pins))) S3 hgl hm hv q hnn hdbg
    refine clsNamed (LM.here ?_)
    cases b with
    | false =>
      show wpAny _ X.A (handleBy (.ref a) X.env []) _ _ _
      refine wpAny_handleBy_nil ?_
      obtain ⟨k1, k2, k3, oe, vs, T, oT, tsl, he, hz, hd, h1, hr⟩ := id fly3
      unfold PySem.passOn
      refine wpAny_bind (wpAny_field he hd h1 ?_)
      rw [if_neg (show ¬ ((Value.ref T == Value.none) = true) from by simp)]
      have fin : wpAny (model X.prog X.w) X.A (setFlight (.ref a) X.env.frame) (fun _ z4 => wpAny (model X.prog X.w) X.A (throw (.ref a) : Sem Flow) (SP X pins D) X.xe z4) X.xe { z with heap := hp3 } := by
        rw [hf]
        refine HandSPX.setFlight_upZ fly3 fun h4 hh4 up4 => wpAny_throw (tk _ _ ?_)
        exact ⟨a, B, sI, pins, σc, Hc, cls, d, rfl, J, nb, (up.trans up3).trans up4, .inr (.inr (by rw [hs]; exact hh4)), na, osE, ag, hno rfl⟩
      first
        | exact wpAny_bind (wpAny_pure (wpAny_bind fin))
        | exact wpAny_bind fin
    | true =>
      refine codeAny_handlers_suite_as ?_
      refine HandSPX.lands_againZ fly3 fun hp4 fly4 up4 => ?_
      have K4 : Inv X pins σc Hc { z with heap := hp4 } := J.landed nb fly4.1 ((up.trans up3).trans up4) osE ag
      obtain ⟨oe4, vs4, g4, zc4, d4⟩ := fly4.there
      have T4 := K4.track g4 d4 na n0 nL npin (evK_ok g4 zc4 d4)
      have S4 := T4.suite0 a
      refine store_ok (X := X.suite a (X.pn ++ pins)) (v := .ref a) S4 hN hi (.inl hln) rfl (fun z5 S5 => ?_) (.inr hln)
      have run := (hsu a cls d (X.pn ++ pins)).run [] z5 _ (upd Hc a (EvK cls d a)) _ S5 (hyes rfl a na)
      refine wpAny_mono run (fun fl z6 hsp => ?_) (fun _ _ w => False.elim w)
      have leave : ∀ {σ6 : St} {H6 : Hp} {Q : Shared → Prop}, Inv (X.suite a (X.pn ++ pins)) [] σ6 H6 z6 → (∀ z7, Inv X pins (σ6.set i none) H6 z7 → Q z7) →
          wpAny (model X.prog X.w) X.A (do bindName X.env n .none; unbindBehindTheSuite X.env n pos') (fun _ z7 => Q z7) X.xe z6 := fun {σ6 H6 Q} S6 hq => gone_ok (S6.unsuite0 okX) hN hi hln hq
      cases fl with
      | next =>
        obtain ⟨σ6, H6, S6, q6⟩ := hsp
        exact leave S6 fun z7 J7 => ⟨_, _, J7, q6⟩
      | brk =>
        obtain ⟨σ6, H6, S6, q6⟩ := hsp
        exact leave S6 fun z7 J7 => ⟨_, _, J7, q6⟩
      | cont =>
        obtain ⟨σ6, H6, S6, q6⟩ := hsp
        exact leave S6 fun z7 J7 => ⟨_, _, J7, q6⟩
      | ret u =>
        obtain ⟨v6, σ6, H6, S6, r6, q6⟩ := hsp
        exact leave S6 fun z7 J7 => ⟨_, _, _, J7, r6, q6⟩
end
end L2
namespace Gs
open PySem L2
def evD (e : Ex) : D := .ev e.cls (e.fs.map (·.1)) (e.fs.map (·.2))
theorem repx_ev {K : PySem.W.Frag} {ct : String → Addr} {v : Vw} {e : Ex} {cls : Value} {dd : Option Addr} {a : Addr} (sr : SR K ct v) (rx : RepX K ct v e cls dd) (na : v.H a = none) : Rep K ct (v.new a (EvO cls dd a)).G v.m (evD e) (.ref a) := by
  obtain ⟨hc, hf⟩ := rx
  have ga : v.G a = none := sr.free na
  rcases hf with ⟨h1, h2⟩ | ⟨h1, d, fs, h2, h3, h4⟩
  · subst h2
    have : evD e = .ev e.cls [] [] := by unfold evD; rw [h1]; rfl
    rw [this]
    exact .ev0 (by rw [← hc]; exact upd_same)
  · subst h2
    have hd : d ≠ a := fun z => by rw [z, ga] at h3; cases h3
    have k := h4.keys
    refine .ev (d := d) (vs := fs.map (·.2)) (fun z => h1 (List.map_eq_nil_iff.mp z)) (by rw [← hc]; exact upd_same) ?_ (by simp) ?_
    · show upd v.G a _ d = _
      rw [upd_ne hd, h3, k, zip_unzip]
    · exact (h4.vals).mono (same_new ga _) .refl
/-- try: body except C as e: suite -/
def sTryS (t : String → Option Bool) (i : Nat) (fb fs : S) : S := fun δ s => match fb δ s with
  | .exc e δ' s' => (match t e.cls with
    | some true => (match fs (δ'.set i (some (evD e))) s' with
      | .nx δ2 s2 => .nx (δ2.set i none) s2
      | .bk δ2 s2 => .bk (δ2.set i none) s2
      | .ct δ2 s2 => .ct (δ2.set i none) s2
      | .rt d s2 => .rt d s2
      | _ => .stk)
    | some false => .exc e δ' s'
    | none => .stk)
  | r => r
section
variable {X : Cx} {C : Cc}
theorem ss_try_suite {x n : Str} {c : Value} {t : String → Option Bool} {i : Nat} {body suite : List Stmt} {b₀ : Stmt} {np pos' pos : Pos} {fb fs : S} (hs : X.stack = X.env :: X.outer) (hf : X.env.frame = some X.env.locals) (hN : X.N.Nodup) (hi : X.N[i]? = some n) (hln : X.env.kindOf n = some .local) (hx0 : X.ex = [])
    (hc : Names X x c) (tk : Takes X C.W) (ht : ∀ s b, t s = some b → PySem.W.exmOne X.K (.ref (C.ct s)) c = some b)
    (hb : ∀ (W : WX) (pn : List (Addr × Obj)) (xe : Value → Shared → Prop), Takes (X.tr pn xe) W → PassesOwn (model X.prog X.w) X.A X.env xe → SSs (X.tr pn xe) { C with W := W } body fb)
    (hsu : ∀ (a : Addr) (pn : List (Addr × Obj)), SSs (X.suite a pn) C.nox (b₀ :: suite) fs) :
    SS X C (.Try body [.ExceptHandler (some (.Name x np)) (some n) (b₀ :: suite) pos'] [] [] pos) (sTryS t i fb fs) := by
  refine ⟨fun pins s σ H Dn I h => ?_⟩
  refine (ps_try_suite (tb := fun W => liftS X.K { C with W := W } fb) (ts := fun a cls d => liftS X.K C.nox fs) hs hf hN hi hln hx0 hc tk hb fun a cls d pn => hsu a pn).run pins s σ H Dn I ?_
  obtain ⟨δ, v, re, eH, h⟩ := h
  refine ⟨δ, v, re.wish2, eH, ?_⟩
  unfold sTryS at h
  cases e : fb δ v.st with
  | nx δ' s' => rw [e] at h; exact fun σ' v' re l es => h σ' v' re.wish2 l es
  | bk δ' s' => rw [e] at h; exact fun σ' v' re l es => h σ' v' re.wish2 l es
  | ct δ' s' => rw [e] at h; exact fun σ' v' re l es => h σ' v' re.wish2 l es
  | rt d s' => rw [e] at h; exact h
  | stk => rw [e] at h; exact h.elim
  | exc ex δ' s' =>
    rw [e] at h
    simp only at h
    intro cls dd σ' v' re' l' es rx
    cases q : t ex.cls with
    | none => rw [q] at h; exact h.elim
    | some bb =>
      rw [q] at h
      refine ⟨bb, by rw [rx.1]; exact ht _ _ q, fun hb => ?_, fun hb => ?_⟩
      · subst hb
        intro a ha
        simp only at h
        obtain ⟨l2, s2⟩ := new_ok (o := EvO cls dd a) re'.sr ha
        have rep := repx_ev re'.sr rx ha
        have l3 := l'.trans l2
        refine ⟨δ'.set i (some (evD ex)), v'.new a (EvO cls dd a), ((re'.step l2 s2).setV i rep).wish2, rfl, ?_⟩
        have es2 : (v'.new a (EvO cls dd a)).st = s' := es
        rw [es2]
        cases ef : fs (δ'.set i (some (evD ex))) s' with
        | nx δ2 s2 => rw [ef] at h; exact fun σ2 w re2 l4 e4 => h _ w ((re2.setU i none).wish2) (l3.trans l4) e4
        | bk δ2 s2 => rw [ef] at h; exact fun σ2 w re2 l4 e4 => h _ w ((re2.setU i none).wish2) (l3.trans l4) e4
        | ct δ2 s2 => rw [ef] at h; exact fun σ2 w re2 l4 e4 => h _ w ((re2.setU i none).wish2) (l3.trans l4) e4
        | rt d s2 => rw [ef] at h; exact fun x w l4 s4 e4 r4 => h x w l4 s4 e4 r4
        | exc _ _ _ => rw [ef] at h; exact h.elim
        | stk => rw [ef] at h; exact h.elim
      · subst hb
        exact h cls dd σ' v' re'.wish2 l' es rx
end
@[simp] theorem v_sTryS (t : String → Option Bool) (i : Nat) (fb fs : S) (δ : Sl) (s : Sto) : sTryS t i fb fs δ s = (match fb δ s with
  | .exc e δ' s' => (match t e.cls with
    | some true => (match fs (δ'.set i (some (evD e))) s' with
      | .nx δ2 s2 => .nx (δ2.set i none) s2
      | .bk δ2 s2 => .bk (δ2.set i none) s2
      | .ct δ2 s2 => .ct (δ2.set i none) s2
      | .rt d s2 => .rt d s2
      | _ => .stk)
    | some false => .exc e δ' s'
    | none => .stk)
  | r => r) := id rfl
end Gs
/-! ### fields of a kept exception; isinstance -/
namespace L2
open PySem PySem.Spec PyProof.Rows
theorem pe_evf {X : Cx} {e : Expr} {te : TE} {pos : Pos} {n : Str} (he : PE X e te) (hb : attributeBase e n X.env (eval e X.env) = eval e X.env := by rfl) :
    PE X (.Attribute e n pos) (fun σ H Q => te σ H fun x H1 => ∃ (a C dd : Addr) (fs : List (Str × V)) (v : V), x = .ref a ∧ XfC X.K C ∧ PySem.W.findIn X.K (.ref C) n = some none ∧ H1 a = some (EvK (.ref C) (some dd) a) ∧ H1 dd = some (.xd fs) ∧ fs.lookup n = some v ∧ Q v H1) := by
  refine ⟨fun pins s σ H Q I h => ?_⟩
  refine attr_of hb (thn (he.run pins s σ H _ I h) fun u s1 hh => ?_)
  obtain ⟨x, H1, I1, rx, a, C, dd, fs, v, ex, T, hno, eh, ea, l, q⟩ := hh
  subst ex
  obtain rfl : u = Value.ref a := rx
  obtain ⟨⟨oe, vs, ha, hz, hd⟩, _⟩ := (show ObjOk X.prog X.w H1 s1.heap a (EvK (.ref C) (some dd) a) from I1.hok a _ eh)
  have hx : ObjOk X.prog X.w H1 s1.heap dd (.xd fs) := I1.hok dd _ ea
  obtain ⟨mA, hns, hr⟩ := hx
  obtain ⟨od, ho, hl⟩ := lookIn_ns hns
  obtain ⟨u, hu, ru⟩ := RelO.some_of (v := v) (o := mA n) (by rw [← l]; exact hr n)
  have J : PySem.W.InstAt s1.heap a oe C (some od) := ⟨ha, hz.1, by unfold PySem.W.notCls; rw [hd] <;> rfl, by rw [hz.2]; exact ho⟩
  exact HandSPX.exc_get I1.kIn J T.ga T.gg T.exC (PySem.W.findObj_own T.hdC hno rfl (by rw [hl, hu])) (handed_of ru) ⟨v, H1, I1.tok _, ru, q⟩
end L2
namespace Gs
open PySem L2
/-- what is known of the classes whose field n is read -/
def XFd (K : PySem.W.Frag) (ct : String → Addr) (n : Str) (t : String → Bool) : Prop := ∀ c, t c = true → XfC K (ct c) ∧ PySem.W.findIn K (.ref (ct c)) n = some none
def gFdE (n : Str) (t : String → Bool) : D → Option D
  | .ev c ks ds => if t c = true then (ks.zip ds).lookup n else none
  | _ => none
def eFdE (n : Str) (t : String → Bool) (f : E) : E := fun δ s => (f δ s).bind fun d s1 => R.ofO (gFdE n t d) s1
section
variable {X : Cx} {C : Cc}
theorem se_evf {e : Expr} {f : E} {n : Str} {pos : Pos} {t : String → Bool} (ht : XFd X.K C.ct n t) (he : SE X C e f) (hb : attributeBase e n X.env (eval e X.env) = eval e X.env := by rfl) : SE X C (.Attribute e n pos) (eFdE n t f) :=
  pe_weak (pe_evf he hb) fun σ H Q ⟨δ, v, re, eH, h⟩ => ⟨δ, v, re, eH, on_mono (on_bind h) fun d x v1 l1 s1 r1 h1 => by
    obtain ⟨z, ez, h9⟩ := on_ofO h1
    cases r1 with
    | ev0 hG =>
      simp only [gFdE] at ez
      split at ez <;> simp at ez
    | @ev a dd vs c ks ds hn hG hG2 hl hr =>
      simp only [gFdE] at ez
      split at ez
      · rename_i tc
        obtain ⟨T, hno⟩ := ht c tc
        have rp : RepP X.K C.ct v1.G v1.m (ks.zip ds) (ks.zip vs) := RepP.zip hr
        rcases rp.lookup (x := n) with ⟨q1, _⟩ | ⟨d1, y1, q1, q2, q3⟩
        · rw [q1] at ez; cases ez
        · rw [q1] at ez
          cases ez
          exact ⟨a, C.ct c, dd, _, y1, rfl, T, hno, s1.sub _ _ hG, s1.sub _ _ hG2, q2, h9 _ v1 .refl s1 rfl q3⟩
      · cases ez
    | _ => cases ez⟩
/-! isinstance of an exception, with fields or without -/
def rIsEw (K : PySem.W.Frag) : List V → Hp → VK → Prop := fun xs H Q => ∃ (a D : Addr) (dd : Addr) (fs : List (Str × V)) (c : V) (cv : Value) (b : Bool), xs = [.ref a, c] ∧ ClsV c cv ∧ H a = some (EvO (.ref D) (some dd) a) ∧ H dd = some (.xd fs) ∧ ExcC K D ∧ PySem.W.kitOne K (.ref D) cv = some b ∧ Q (.bl b) H
theorem call_isEw : CallR X (.builtin "isinstance") (rIsEw X.K) := by
  intro pins s σ H xs us Q I r h
  obtain ⟨a, D, dd, fs, c, cv, b, rfl, hcv, hH, hdd, EC, e, q⟩ := h
  cases r with
  | cons rx rr =>
    cases rr with
    | cons rt rr =>
      cases rr
      cases rx
      have ec := hcv.eq rt
      subst ec
      obtain ⟨⟨oe, vs, hget, hz, hv⟩, _⟩ := (show ObjOk X.prog X.w H s.heap a (EvO (.ref D) (some dd) a) from I.hok a _ hH)
      have hx : ObjOk X.prog X.w H s.heap dd (.xd fs) := I.hok dd _ hdd
      obtain ⟨mA, hns, hr⟩ := hx
      obtain ⟨od, ho, hl⟩ := lookIn_ns hns
      have J : PySem.W.InstAt s.heap a oe D (some od) := ⟨hget, hz.1, by unfold PySem.W.notCls; rw [hv] <;> rfl, by rw [hz.2]; exact ho⟩
      have hcl : (PySem.W.clsIn X.K D).isSome = true := by
        have hd := EC.hd
        unfold PySem.W.hasDictIn at hd
        cases q : PySem.W.clsIn X.K D with
        | some c => rfl
        | none => rw [q] at hd; simp at hd
      exact PySem.W.kia_one (PySem.W.kitx_exc hcl EC.hg EC.hk EC.hs EC.ha EC.hn EC.ht EC.hm) I.kIn J e (fun z => nomatch z) fun tk => ⟨.bl b, H, I.kept (t' := tk) fun _ _ z => z, rfl, q⟩
theorem call_isV : CallR X (.builtin "isinstance") (fun xs H Q => rIsi X.K xs H Q ∨ rIsEv X.K xs H Q ∨ rIsEw X.K xs H Q) := fun pins s σ H xs us Q I r h =>
  h.elim (call_isi pins s σ H xs us Q I r) fun h => h.elim (call_isEv pins s σ H xs us Q I r) (call_isEw pins s σ H xs us Q I r)
/-- as gIsC, of exceptions with fields, too -/
def gIsD (tb : String → Option Bool) : B1
  | .non => some (.bl false)
  | .ev c _ _ => (tb c).map .bl
  | _ => none
theorem se_isD {C : Cc} {a : Expr} {fa : E} {pf pn pos : Pos} {nx : Str} {cV : V} {cv : Value} {tb : String → Option Bool} (ha : SE X C a fa) (hg : Gl X "isinstance") (hm : X.mg "isinstance" = none) (hc : PE X (.Name nx pn) (tC cV)) (hk : ClsV cV cv) (hE : EI X.K C.ct tb cv)
    (hvi : bootBuiltins "isinstance" = some (.builtin "isinstance") := by decide +kernel)
    (hs : starEach [a, .Name nx pn] X.env = (false, eval a X.env) :: starEach [.Name nx pn] X.env := by rfl) (hpl : (backTo pos (starEach [.Name nx pn] X.env)).any (·.1) = false := by rfl)
    (hs2 : starEach [.Name nx pn] X.env = (false, eval (.Name nx pn) X.env) :: starEach [] X.env := by rfl) :
    SE X C (.Call (.Name "isinstance" pf) [a, .Name nx pn] [] pos) (eUn (gIsD tb) fa) :=
  pe_weak (pe_callB call_isV hg hm hvi (pa_cons ha (pa_cons hc pa_nil hs2) hs) (by decide) (by decide) hs hpl) fun σ H Q h => by
    obtain ⟨δ, v8, re, eH, h1⟩ := lift_un h
    refine ⟨δ, v8, re, eH, on_mono h1 fun d x v1 l1 s1 r1 h2 => ?_⟩
    obtain ⟨v2, dx, d2, eH2, sr, e, r2, h2⟩ := h2
    rw [← eH2]
    cases r2 with
    | non =>
      simp only [gIsD, Option.some.injEq] at e
      subst e
      exact .inl ⟨.non, cV, .type "NoneType", cv, false, rfl, hk, .base .non, hE.non, h2 _ v2 .refl sr rfl (.bl _)⟩
    | @ev a0 c ks0 ds0 r3 =>
      simp only [gIsD] at e
      cases q : tb c with
      | none => rw [q] at e; exact nomatch e
      | some b =>
        rw [q] at e
        simp only [Option.map_some, Option.some.injEq] at e
        subst e
        obtain ⟨h3, h4⟩ := hE.ev c b q
        cases r3 with
        | ev0 hG => exact .inr (.inl ⟨a0, C.ct c, cV, cv, b, rfl, hk, sr.sub _ _ hG, h3, h4, h2 _ v2 .refl sr rfl (.bl _)⟩)
        | ev n hG hG2 hl hr => exact .inr (.inr ⟨a0, C.ct c, _, _, cV, cv, b, rfl, hk, sr.sub _ _ hG, sr.sub _ _ hG2, h3, h4, h2 _ v2 .refl sr rfl (.bl _)⟩)
    | _ => simp only [gIsD, reduceCtorEq] at e
end
@[simp] theorem v_isD_non (tb : String → Option Bool) : gIsD tb .non = some (.bl false) := id rfl
@[simp] theorem v_isD_ev (tb : String → Option Bool) (c : String) (ks : List Str) (ds : List D) : gIsD tb (.ev c ks ds) = (tb c).map .bl := id rfl
@[simp] theorem v_eFdE (n : Str) (t : String → Bool) (f : E) (δ : Sl) (s : Sto) : eFdE n t f δ s = (f δ s).bind fun d s1 => R.ofO (gFdE n t d) s1 := id rfl
@[simp] theorem v_sRaiseF (c : String) (ns : List Str) (a : As) (δ : Sl) (s : Sto) : sRaiseF c ns a δ s = sBind (a δ s) δ fun ds s1 => match ds with
  | _ :: ys => if ys.length = ns.length ∧ ns.length ≤ 10 ∧ ns ≠ [] then .exc ⟨c, (ns.zip ys).reverse⟩ δ s1 else .stk
  | [] => .stk := id rfl
end Gs

/-! GIx: s.index(y), where y stands in s. -/
namespace Gs
open PySem PySem.Spec PyProof.Rows L2
def gIndexS : D → List D → Option D
  | .str a, [.str b] => (Txt.index0 a b).map fun k => .int (k : Nat)
  | _, _ => none
section
variable {X : Cx}
theorem m_index {ct : String → Addr} : MtR X "str.index" (rDM X.K ct gIndexS) := by
  intro pins s σ H x xs v us Q I rx ru h
  obtain ⟨v0, dx, ds, d, rfl, sr, e, r1, r2, h⟩ := h
  unfold gIndexS at e
  split at e
  · rename_i a b
    cases r1
    cases r2 with
    | cons r2 r3 =>
      cases r2; cases r3
      obtain ⟨t, rfl⟩ := rx
      obtain ⟨w, rfl, hu⟩ := vals1 ru
      obtain ⟨u, rfl⟩ := hu
      cases q : Builtin.Str.occurrences a b 0 a.length 1 with
      | nil =>
        have z : Txt.index0 a b = none := by unfold Txt.index0; rw [q] <;> rfl
        rw [z] at e
        exact nomatch e
      | cons k rest =>
        have z : Txt.index0 a b = some k := by unfold Txt.index0; rw [q] <;> rfl
        rw [z] at e
        simp only [Option.map_some, Option.some.injEq] at e
        subst e
        exact PySem.SC.index q ⟨.int (k : Nat), _, I.tok _, ⟨_, rfl⟩, h _ v0 .refl sr rfl (.int _)⟩
  · exact nomatch e
end
end Gs

/-! GFo: walks over lists of the store (each turn asks that the list is still as it was), in for and in list comprehensions. -/
namespace Gs
open PySem PySem.Spec PyProof.Rows L2
/-- the things that are walked, and the place in the store, where they stand in a list of it -/
abbrev Wk := List D × Option Nat
def Stl (q : Wk) (s : Sto) : Prop := ∀ k, q.2 = some k → s[k]? = some (.lst q.1)
abbrev AsO := Sl → Sto → R Wk
structure ItO (K : PySem.W.Frag) (ct : String → Addr) (J : It) (v : Vw) (q : Wk) : Prop where
  go : ∀ i w, Le v w → SR K ct w → Stl q w.st → i < q.1.length → J.go i w.H
  stop : ∀ i w, Le v w → SR K ct w → Stl q w.st → q.1.length ≤ i → J.stop i w.H
  yld : ∀ i w x H', Le v w → SR K ct w → Stl q w.st → i < q.1.length → J.yld i w.H x H' → ∃ d w2, q.1[i]? = some d ∧ w2.H = H' ∧ Le w w2 ∧ SR K ct w2 ∧ w2.st = w.st ∧ Rep K ct w2.G w2.m d x
abbrev rIO (K : PySem.W.Frag) (ct : String → Addr) : Wk → It → Vw → Prop := fun q J v => ItO K ct J v q
def liftIO (K : PySem.W.Frag) (C : Cc) (f : AsO) : TI := fun σ H P => ∃ δ v, RE K C σ δ v ∧ v.H = H ∧ on K C σ v (rIO K C.ct) (f δ v.st) fun _ J v' => P J v'.H
abbrev SIO (X : Cx) (C : Cc) (tg e : Expr) (f : AsO) : Prop := PI X tg e (liftIO X.K C f)
open Classical in
noncomputable def forO (q : Wk) (p : Pt) (body : S) : List D → Sl → Sto → RS
  | [], δ, s => if Stl q s then .nx δ s else .stk
  | d :: ds, δ, s => if Stl q s then (match bindP p d δ with
    | none => .stk
    | some δ1 => match body δ1 s with
      | .nx δ2 s2 => forO q p body ds δ2 s2
      | .ct δ2 s2 => forO q p body ds δ2 s2
      | .bk δ2 s2 => .nx δ2 s2
      | r => r) else .stk
noncomputable def sForO (it : AsO) (p : Pt) (body : S) : S := fun δ s => sBind (it δ s) δ fun q s1 => forO q p body q.1 δ s1
open Classical in
noncomputable def lcO (q : Wk) (p : Pt) (c : T) (e : E) (δ : Sl) : List D → Sto → R (List D)
  | [], s => if Stl q s then .ok [] s else .stk
  | d :: ds, s => if Stl q s then (match bindP p d δ with
    | none => .stk
    | some δ1 => match c δ1 s with
      | .ok true s1 => (match e δ1 s1 with
        | .ok y s2 => (match lcO q p c e δ ds s2 with
          | .ok r s3 => .ok (y :: r) s3
          | _ => .stk)
        | _ => .stk)
      | .ok false s1 => lcO q p c e δ ds s1
      | _ => .stk) else .stk
theorem lcO_exc {q : Wk} {p : Pt} {c : T} {e : E} {δ : Sl} : ∀ (ds : List D) (s : Sto) (ex : Ex) (s' : Sto), lcO q p c e δ ds s ≠ .exc ex s'
  | [], s, ex, s', z => by
    simp only [lcO] at z
    split at z <;> exact nomatch z
  | d :: ds, s, ex, s', z => by
    simp only [lcO] at z
    split at z
    · split at z
      · exact nomatch z
      · split at z
        · split at z
          · split at z <;> exact nomatch z
          · exact nomatch z
        · exact lcO_exc ds _ _ _ z
        · exact nomatch z
    · exact nomatch z
noncomputable def fLcO (it : AsO) (vs : List Nat) (p : Pt) (c : T) (e : E) : Fr := fun δ s => (it δ s).bind fun q s1 => (lcO q p c e (wipeD δ vs) q.1 s1).bind fun xs s2 => if xs.length ≤ sizeLine then .ok xs s2 else .stk
section
variable {X : Cx} {C : Cc} {pos : Pos} {tg iter : Expr}
theorem ss_forO {body : List Stmt} {f : AsO} {p : Pt} {fb : S} (hp : PassesOwn (model X.prog X.w) X.A X.env X.xe) (hc : X.calm = true) (hi : SIO X C tg iter f) (hg : SG X C tg p) (hb : SSs X C body fb)
    (hs : ∀ x, foldedSetIterable iter X.env x = pure x := by intro _; rfl) : SS X C (.For tg iter body [] pos) (sForO f p fb) := ps_weak (ps_for hp hc hi hg hb hs) fun Dn σ H ⟨δ, v, re, eH, h⟩ => by
  refine ⟨δ, v, re, eH, on_mono (onS_R re h) fun wk J v1 l1 s1 ok h0 => ?_⟩
  obtain ⟨items, hit⟩ : ∃ items, wk.1 = items := ⟨_, rfl⟩
  refine ⟨fun i m σ H => m = items.length - i ∧ i ≤ items.length ∧ ∃ δ w, RE X.K C σ δ w ∧ w.H = H ∧ Le v1 w ∧ onS X.K C w (forO wk p fb (items.drop i) δ w.st) Dn, ⟨items.length, by simp, Nat.zero_le _, δ, v1, re.step l1 s1, rfl, .refl, by have h0 : onS X.K C v1 (forO wk p fb wk.1 δ v1.st) Dn := h0; rw [hit] at h0; exact h0⟩, ?_⟩
  rintro i m σ2 H2 ⟨rfl, hi, δ2, w, re2, rfl, lw, q⟩
  have hst : Stl wk w.st := by
    cases e9 : items.drop i with
    | nil =>
      rw [e9] at q
      simp only [forO] at q
      by_cases z : Stl wk w.st
      · exact z
      · rw [if_neg z] at q; exact q.elim
    | cons d ds =>
      rw [e9] at q
      simp only [forO] at q
      by_cases z : Stl wk w.st
      · exact z
      · rw [if_neg z] at q; exact q.elim
  by_cases hlt : i < items.length
  · refine .inr ⟨ok.go i w lw re2.sr hst (by rw [hit]; exact hlt), fun σ H => ∃ δ w, RE X.K C σ δ w ∧ w.H = H ∧ Le v1 w ∧ onS X.K C w (forO wk p fb (items.drop (i + 1)) δ w.st) Dn, fun σ' H' n => ⟨items.length - (i + 1), by omega, rfl, hlt, n⟩, fun x H' y => ?_⟩
    obtain ⟨d, w3, ed, rfl, l3, s3, e3, r3⟩ := ok.yld i w x H' lw re2.sr hst (by rw [hit]; exact hlt) y
    rw [hit] at ed
    have ed2 : items.drop i = d :: items.drop (i + 1) := by
      rw [List.drop_eq_getElem_cons hlt]
      rw [List.getElem?_eq_getElem hlt] at ed
      rw [Option.some.inj ed]
    rw [ed2] at q
    simp only [forO] at q
    rw [if_pos hst] at q
    cases eb : bindP p d δ2 with
    | none => rw [eb] at q; exact q.elim
    | some δ3 =>
      rw [eb] at q
      refine ⟨d, δ2, w3, δ3, re2.step l3 s3, rfl, r3, eb, fun σ4 re4 _ => ⟨δ3, w3, re4, rfl, ?_⟩⟩
      simp only at q
      rw [e3]
      cases ef : fb δ3 w.st with
      | nx δ4 s4 => rw [ef] at q; exact fun σ' w' re' l' es => ⟨δ4, w', re', rfl, (lw.trans l3).trans l', by subst es; exact onS_same (l3.trans l') q⟩
      | ct δ4 s4 => rw [ef] at q; exact fun σ' w' re' l' es => ⟨δ4, w', re', rfl, (lw.trans l3).trans l', by subst es; exact onS_same (l3.trans l') q⟩
      | bk δ4 s4 => rw [ef] at q; exact fun σ' w' re' l' es => q σ' w' re' (l3.trans l') es
      | rt d s4 => rw [ef] at q; exact q
      | exc e4 δ4 s4 => rw [ef] at q; exact fun cls dd σ' w' re' l' es rx => q cls dd σ' w' re' (l3.trans l') es rx
      | stk => rw [ef] at q; exact q
  · have ei : i = items.length := by omega
    subst ei
    rw [List.drop_length] at q
    simp only [forO] at q
    rw [if_pos hst] at q
    exact .inl ⟨ok.stop _ w lw re2.sr hst (by rw [hit]; exact Nat.le_refl _), q σ2 w re2 .refl rfl⟩


/-! ### what is walked -/
theorem itO_of {K : PySem.W.Frag} {ct : String → Addr} {J : It} {v : Vw} {items : List D} (h : ItOk K ct J v items) : ItO K ct J v (items, none) where
  go := fun i w l s _ hi => h.go i w l s hi
  stop := fun i w l s _ hi => h.stop i w l s hi
  yld := fun i w x H' l s _ hi y => h.yld i w x H' l s hi y
theorem itO_own {K : PySem.W.Frag} {ct : String → Addr} {v : Vw} {a : Addr} {k : Nat} {items : List D} (h : v.m k = some a) : ItO K ct (Itl K a) v (items, some k) where
  go := fun i w l s st hi => by
    obtain ⟨a', em, _, vs, hh, r⟩ := s.obj k _ (st k rfl) rfl
    rw [l.m k a h] at em
    cases em
    obtain ⟨x, e, _⟩ := r.get (List.getElem?_eq_getElem hi)
    exact ⟨vs, x, SqL.of hh, e⟩
  stop := fun i w l s st hi => by
    obtain ⟨a', em, _, vs, hh, r⟩ := s.obj k _ (st k rfl) rfl
    rw [l.m k a h] at em
    cases em
    exact ⟨vs, SqL.of hh, by rw [← r.length]; exact hi⟩
  yld := fun i w x H' l s st hi y => by
    obtain ⟨a', em, _, vs, hh, r⟩ := s.obj k _ (st k rfl) rfl
    rw [l.m k a h] at em
    cases em
    obtain ⟨x', e, rv⟩ := r.get (List.getElem?_eq_getElem hi)
    obtain ⟨rfl, y2⟩ := y
    have z := y2 vs (SqL.of hh)
    rw [e] at z
    cases z
    exact ⟨_, w, List.getElem?_eq_getElem hi, rfl, .refl, s, rfl, rv⟩
def wkOf (s : Sto) (d : D) : Option Wk := match d with
  | .ob k => (match s[k]? with
    | some (.lst xs) => some (xs, some k)
    | _ => none)
  | d => (seqOf d).map fun xs => (xs, none)
def iSeqO (f : E) : AsO := fun δ s => (f δ s).bind fun d s1 => R.ofO (wkOf s1 d) s1
theorem si_seqO {e : Expr} {f : E} (he : SE X C e f) : SIO X C tg e (iSeqO f) := by
  refine ⟨fun pins s σ H Rr I ⟨δ, v, re, eH, h⟩ => ?_⟩
  unfold iSeqO at h
  have hz := on_bind (rel := rE X.K C.ct) h
  cases q : f δ v.st with
  | stk => rw [q] at hz; exact hz.elim
  | exc e s1 => exact (pi_list he).run pins s σ H Rr I ⟨δ, v, re, eH, by rw [q] at hz ⊢; exact hz⟩
  | ok d s1 =>
    rw [q] at hz
    have go : ∀ (P : V → Vw → Prop), (∀ x v1, Le v v1 → SR X.K C.ct v1 → v1.st = s1 → Rep X.K C.ct v1.G v1.m d x → P x v1) → on X.K C σ v (rE X.K C.ct) (f δ v.st) fun _ x v' => P x v' := fun P w => by rw [q]; exact w
    cases d with
    | lst xs =>
      refine (pi_list he).run pins s σ H Rr I ⟨δ, v, re, eH, go _ fun x v1 l1 sr1 es r1 => ?_⟩
      have h9 := hz x v1 l1 sr1 es r1
      cases r1 with
      | @lst a vs _ p rl => exact ⟨a, rfl, ⟨vs, sr1.sub.seq p⟩, on_self sr1 h9 (itO_of (itOk_list p rl))⟩
    | tup xs =>
      refine (pi_tup he).run pins s σ H Rr I ⟨δ, v, re, eH, go _ fun x v1 l1 sr1 es r1 => ?_⟩
      have h9 := hz x v1 l1 sr1 es r1
      cases r1 with
      | @tup a vs _ p rl => exact ⟨a, rfl, ⟨vs, sqt_mono sr1.sub p⟩, on_self sr1 h9 (itO_of (itOk_tup p rl))⟩
    | str z =>
      refine (pi_str he).run pins s σ H Rr I ⟨δ, v, re, eH, go _ fun x v1 l1 sr1 es r1 => ?_⟩
      have h9 := hz x v1 l1 sr1 es r1
      cases r1
      exact ⟨z, rfl, on_self sr1 h9 (itO_of itOk_str)⟩
    | ob k =>
      refine (pi_list he).run pins s σ H Rr I ⟨δ, v, re, eH, go _ fun x v1 l1 sr1 es r1 => ?_⟩
      have h9 := hz x v1 l1 sr1 es r1
      subst es
      simp only [wkOf] at h9
      split at h9
      · rename_i xs ek
        cases r1 with
        | @ob _ a em =>
          obtain ⟨a', em', _, vs, hh, _⟩ := sr1.obj k _ ek rfl
          exact ⟨a, rfl, ⟨vs, SqL.of (by rw [em] at em'; cases em'; exact hh)⟩, on_self sr1 h9 (itO_own em)⟩
      · exact h9.elim
    | _ => exact (pi_list he).run pins s σ H Rr I ⟨δ, v, re, eH, go _ fun x v1 l1 sr1 es r1 => (hz x v1 l1 sr1 es r1).elim⟩
end
section
variable {X : Cx} {C : Cc} {pos : Pos}
theorem lift_lcO {K : PySem.W.Frag} {it : AsO} {vs : List Nat} {p : Pt} {c : T} {e : E} (hp : ∀ i ∈ idxP p, i ∈ vs) {σ : L2.St} {H : Hp} {Q : VK} (h : liftF K C (fLcO it vs p c e) σ H Q) :
    tLc (liftIO K C it) (liftG K C.nox p) (liftT K C.nox c) (liftE K C.nox e) vs σ H Q := by
  obtain ⟨δ, v, re, eH, h⟩ := h
  refine ⟨δ, v, re, eH, on_mono (onF_bind h) fun wk J v1 l1 sr1 ok h1 => ?_⟩
  obtain ⟨items, hit⟩ : ∃ items, wk.1 = items := ⟨_, rfl⟩
  intro L hD
  have h2 : onF K C σ v1 ((lcO wk p c e (wipeD δ vs) items v1.st).bind fun xs s2 => if xs.length ≤ sizeLine then .ok xs s2 else .stk) fun _ p v' => Q (.ref p) v'.H := by
    have h1 : onF K C σ v1 ((lcO wk p c e (wipeD δ vs) wk.1 v1.st).bind fun xs s2 => if xs.length ≤ sizeLine then .ok xs s2 else .stk) fun _ p v' => Q (.ref p) v'.H := h1
    rw [hit] at h1
    exact h1
  clear h1
  cases q1 : lcO wk p c e (wipeD δ vs) items v1.st with
  | stk => rw [q1] at h2; exact h2.elim
  | exc ex s' => exact absurd q1 (lcO_exc _ _ _ _)
  | ok xs s9 =>
    rw [q1] at h2
    have h3 : xs.length ≤ sizeLine ∧ ∀ (va : List V) (v2 : Vw), Le v1 v2 → SR K C.ct v2 → v2.st = s9 → Aside v2 L va → RepL K C.ct v2.G v2.m xs va → Q (.ref L) v2.H := by
      have h4 : onF K C σ v1 (if xs.length ≤ sizeLine then .ok xs s9 else .stk) fun _ p v' => Q (.ref p) v'.H := h2
      by_cases z : xs.length ≤ sizeLine
      · rw [if_pos z] at h4
        exact ⟨z, fun va v2 l2 s2 es a2 ra => h4 L va v2 l2 s2 es hD a2.g a2.h a2.no ra⟩
      · rw [if_neg z] at h4
        exact h4.elim
    obtain ⟨hz, fin⟩ := h3
    clear h2
    have start : ∃ v2, v2.H = upd v1.H L (.lst []) ∧ Le v1 v2 ∧ SR K C.ct v2 ∧ Aside v2 L [] ∧ v2.st = v1.st := by
      obtain ⟨l2, s2, no⟩ := newH (u := .lst []) sr1 hD
      exact ⟨⟨v1.G, upd v1.H L (.lst []), v1.m, v1.st⟩, rfl, l2, s2, ⟨upd_same, sr1.free hD, no⟩, rfl⟩
    refine ⟨fun i m H2 => m = items.length - i ∧ i ≤ items.length ∧ ∃ (v2 : Vw) (acc rest : List D) (va : List V), v2.H = H2 ∧ Le v1 v2 ∧ SR K C.ct v2 ∧ Aside v2 L va ∧ RepL K C.ct v2.G v2.m acc va ∧
      lcO wk p c e (wipeD δ vs) (items.drop i) v2.st = .ok rest s9 ∧ acc ++ rest = xs, ?_, ?_⟩
    · obtain ⟨v2, e2, l2, s2, a2, es⟩ := start
      exact ⟨items.length, by simp, Nat.zero_le _, v2, [], xs, [], e2, l2, s2, a2, .nil, by rw [es]; exact q1, rfl⟩
    rintro i m H2 ⟨rfl, hi, v2, acc, rest, va, rfl, l2, s2, a2, ra, el, ex⟩
    have hst : Stl wk v2.st := by
      cases e9 : items.drop i with
      | nil =>
        rw [e9] at el
        simp only [lcO] at el
        by_cases z : Stl wk v2.st
        · exact z
        · rw [if_neg z] at el; exact nomatch el
      | cons d ds =>
        rw [e9] at el
        simp only [lcO] at el
        by_cases z : Stl wk v2.st
        · exact z
        · rw [if_neg z] at el; exact nomatch el
    by_cases hlt : i < items.length
    · refine .inr ⟨ok.go i v2 l2 s2 hst (by rw [hit]; exact hlt), fun H3 => ∃ (v2 : Vw) (acc rest : List D) (va : List V), v2.H = H3 ∧ Le v1 v2 ∧ SR K C.ct v2 ∧ Aside v2 L va ∧ RepL K C.ct v2.G v2.m acc va ∧
        lcO wk p c e (wipeD δ vs) (items.drop (i + 1)) v2.st = .ok rest s9 ∧ acc ++ rest = xs, fun H' n => ⟨items.length - (i + 1), by omega, rfl, hlt, n⟩, fun x H' y => ?_⟩
      obtain ⟨d, v3, ed, rfl, l3, s3, e3, r3⟩ := ok.yld i v2 x H' l2 s2 hst (by rw [hit]; exact hlt) y
      rw [hit] at ed
      have ed2 : items.drop i = d :: items.drop (i + 1) := by
        rw [List.drop_eq_getElem_cons hlt]
        rw [List.getElem?_eq_getElem hlt] at ed
        rw [Option.some.inj ed]
      rw [ed2] at el
      simp only [lcO] at el
      rw [if_pos hst] at el
      cases eb : bindP p d (wipeD δ vs) with
      | none => rw [eb] at el; exact nomatch el
      | some δ1 =>
        rw [eb] at el
        simp only at el
        have re3 := (((re.step l1 sr1).step l2 s2).step l3 s3)
        refine ⟨d, wipeD δ vs, v3, δ1, (re3.wipe vs).wish _, rfl, r3, eb, fun σ4 re4 o4 => ⟨wipe_off o4 hp, δ1, v3, re4, rfl, ?_⟩⟩
        rw [e3]
        cases ec : c δ1 v2.st with
        | stk => rw [ec] at el; exact nomatch el
        | exc _ _ => rw [ec] at el; exact nomatch el
        | ok b s4 =>
          rw [ec] at el
          intro b2 v4 l4 s4' es4 eb2
          cases eb2
          cases b with
          | true =>
            rw [if_pos rfl]
            simp only at el
            refine ⟨δ1, v4, re4.step l4 s4', rfl, ?_⟩
            rw [es4]
            cases ee : e δ1 s4 with
            | stk => rw [ee] at el; exact nomatch el
            | exc _ _ => rw [ee] at el; exact nomatch el
            | ok y0 s5 =>
              rw [ee] at el
              intro y5 v5 l5 s5' es5 r5
              simp only at el
              cases er : lcO wk p c e (wipeD δ vs) (items.drop (i + 1)) s5 with
              | stk => rw [er] at el; exact nomatch el
              | exc _ _ => rw [er] at el; exact nomatch el
              | ok rest2 s6 =>
                rw [er] at el
                simp only [R.ok.injEq] at el
                obtain ⟨el, es6⟩ := el
                subst el
                subst es6
                have l25 := (l3.trans l4).trans l5
                have a5 := a2.step l25
                have hl := ra.length
                have hl2 : acc.length + (rest2.length + 1) = xs.length := by rw [← ex]; simp
                obtain ⟨s7, ow7⟩ := side_ok (u := .lst (va ++ [y5])) s5' a5.g a5.no
                refine ⟨va, a5.h, by omega, ⟨v5.G, upd v5.H L (.lst (va ++ [y5])), v5.m, v5.st⟩, acc ++ [y0], rest2, va ++ [y5], rfl, ?_, s7, ⟨upd_same, a5.g, fun q => a5.no (ow7 _ q)⟩, (l25.repl ra).append (RepL.one r5), ?_, by rw [List.append_assoc]; exact ex⟩
                · have l15 := l2.trans l25
                  exact ⟨l15.g, l15.m, fun b o hb nb => by
                    show upd v5.H L _ b = some o
                    rw [upd_ne (ne_of_none hb hD)]
                    exact l15.h b o hb nb, l15.nw, fun b q => l15.ow b (ow7 b q), fun b q => by
                    have q' : upd v5.H L (.lst (va ++ [y5])) b = none := q
                    by_cases z : b = L
                    · rw [z, upd_same] at q'; cases q'
                    · rw [upd_ne z] at q'
                      exact l15.al b q'⟩
                · show lcO wk p c e (wipeD δ vs) (items.drop (i + 1)) v5.st = .ok rest2 s6
                  rw [es5]
                  exact er
          | false =>
            rw [if_neg Bool.false_ne_true]
            simp only at el
            have l24 := l3.trans l4
            exact ⟨v4, acc, rest, va, rfl, l2.trans l24, s4', a2.step l24, l24.repl ra, by rw [es4]; exact el, ex⟩
    · have ei : i = items.length := by omega
      subst ei
      rw [List.drop_length] at el
      simp only [lcO] at el
      rw [if_pos hst] at el
      simp only [R.ok.injEq] at el
      obtain ⟨el, es⟩ := el
      subst el
      rw [List.append_nil] at ex
      subst ex
      exact .inl ⟨ok.stop _ v2 l2 s2 hst (by rw [hit]; exact Nat.le_refl _), fin va v2 l2 s2 es a2 ra⟩
variable {elt tg iter : Expr} {ifs : List Expr} {scope : Scope} {it : AsO} {p : Pt} {c : T} {e : E}
theorem sf_lcO (own : List (Str × Nat)) (hc : X.calm = true) (hN : X.N.Nodup) (hi : SIO X C tg iter it) (ok : BlkOk X.N X.env.scope scope own) (hp : ∀ i ∈ idxP p, i ∈ own.map (·.2))
    (hg : ∀ (s : Shared) (H : Hp) (c0 : Addr) (cl : List (Str × Addr)) (fp : List Addr), SG (X.blk s H scope (compEnvC scope cl c0 X.env) fp) C.nox tg p)
    (ht : ∀ (s : Shared) (H : Hp) (c0 : Addr) (cl : List (Str × Addr)) (fp : List Addr), STs (X.blk s H scope (compEnvC scope cl c0 X.env) fp) C.nox ifs c)
    (he : ∀ (s : Shared) (H : Hp) (c0 : Addr) (cl : List (Str × Addr)) (fp : List Addr), SE (X.blk s H scope (compEnvC scope cl c0 X.env) fp) C.nox elt e) (hs : ∀ x, foldedSetIterable iter X.env x = pure x := by intro _; rfl) :
    SF X C (.ListComp elt [⟨tg, iter, ifs, 0⟩] scope pos) (fLcO it (own.map (·.2)) p c e) :=
  pe_weak (pe_lc hc hN hi ok hg ht he hs) fun σ H Q h => lift_lcO hp h
theorem ss_setLcO (i : Nat) {g : Fr → E} {y : Str} {py spos : Pos} (own : List (Str × Nat)) (hgz : ∀ σ H Q, liftE X.K C (g (fLcO it (own.map (·.2)) p c e)) σ H Q → liftF X.K C (fLcO it (own.map (·.2)) p c e) σ H Q) (hc : X.calm = true) (hN : X.N.Nodup) (hy : X.N[i]? = some y) (hyl : X.env.scope.names.lookup y = some .local)
    (hsw : swapsWith (.ListComp elt [⟨tg, iter, ifs, 0⟩] scope pos) (some (.Name y py)) spos.line X.env = pure true) (hi : SIO X C tg iter it) (ok : BlkOk X.N X.env.scope scope own) (hp : ∀ i ∈ idxP p, i ∈ own.map (·.2))
    (hg : ∀ (s : Shared) (H : Hp) (c0 : Addr) (cl : List (Str × Addr)) (fp : List Addr), SG (X.blk s H scope (compEnvC scope cl c0 X.env) fp) C.nox tg p)
    (ht : ∀ (s : Shared) (H : Hp) (c0 : Addr) (cl : List (Str × Addr)) (fp : List Addr), STs (X.blk s H scope (compEnvC scope cl c0 X.env) fp) C.nox ifs c)
    (he : ∀ (s : Shared) (H : Hp) (c0 : Addr) (cl : List (Str × Addr)) (fp : List Addr), SE (X.blk s H scope (compEnvC scope cl c0 X.env) fp) C.nox elt e) (hs : ∀ x, foldedSetIterable iter X.env x = pure x := by intro _; rfl) :
    SS X C (.Assign [.Name y py] (.ListComp elt [⟨tg, iter, ifs, 0⟩] scope pos) spos) (sSet i (g (fLcO it (own.map (·.2)) p c e))) :=
  ps_weak (ps_setLc hc hN hy hyl hsw hi ok hg ht he hs) fun Dn σ H h => lift_setLc (g := g) (fun _ _ _ z => lift_lcO hp (hgz _ _ _ z)) h
end
@[simp] theorem v_sForO (it : AsO) (p : Pt) (b : S) (δ : Sl) (s : Sto) : sForO it p b δ s = sBind (it δ s) δ fun q s1 => forO q p b q.1 δ s1 := id rfl
@[simp] theorem v_iSeqO (f : E) (δ : Sl) (s : Sto) : iSeqO f δ s = (f δ s).bind fun d s1 => R.ofO (wkOf s1 d) s1 := id rfl
@[simp] theorem v_fLcO (it : AsO) (vs : List Nat) (p : Pt) (c : T) (e : E) (δ : Sl) (s : Sto) : fLcO it vs p c e δ s = (it δ s).bind fun q s1 => (lcO q p c e (wipeD δ vs) q.1 s1).bind fun xs s2 => if xs.length ≤ sizeLine then .ok xs s2 else .stk := id rfl
@[simp] theorem wk_lst (s : Sto) (xs : List D) : wkOf s (.lst xs) = some (xs, none) := id rfl
@[simp] theorem wk_tup (s : Sto) (xs : List D) : wkOf s (.tup xs) = some (xs, none) := id rfl
@[simp] theorem wk_str (s : Sto) (x : Str) : wkOf s (.str x) = some (signs x, none) := id rfl
theorem wk_ob {s : Sto} {k : Nat} {xs : List D} (h : s[k]? = some (.lst xs)) : wkOf s (.ob k) = some (xs, some k) := by simp only [wkOf, h]
@[simp] theorem wk_mid (s0 g : Sto) (xs : List D) : wkOf (s0 ++ .lst xs :: g) (.ob s0.length) = some (xs, some s0.length) := wk_ob (get_mid _ _ _)
theorem stl_none (xs : List D) (s : Sto) : Stl (xs, none) s := fun k h => nomatch h
theorem stl_some {xs : List D} {k : Nat} {s : Sto} (h : s[k]? = some (.lst xs)) : Stl (xs, some k) s := fun j e => by cases e; exact h
@[simp] theorem forO_none (xs : List D) (p : Pt) (b : S) : ∀ (ds : List D) (δ : Sl) (s : Sto), forO (xs, none) p b ds δ s = forD p b ds δ s
  | [], δ, s => by simp only [forO, forD, if_pos (stl_none xs s)]
  | d :: ds, δ, s => by
    simp only [forO, forD, if_pos (stl_none xs s)]
    cases bindP p d δ with
    | none => rfl
    | some δ1 =>
      simp only
      cases b δ1 s <;> first | rfl | exact forO_none xs p b ds _ _
@[simp] theorem lcO_none (xs : List D) (p : Pt) (c : T) (e : E) (δ : Sl) : ∀ (ds : List D) (s : Sto), lcO (xs, none) p c e δ ds s = lcD p c e δ ds s
  | [], s => by simp only [lcO, lcD, if_pos (stl_none xs s)]
  | d :: ds, s => by
    simp only [lcO, lcD, if_pos (stl_none xs s)]
    cases bindP p d δ with
    | none => rfl
    | some δ1 =>
      simp only
      cases hc : c δ1 s with
      | ok b s1 =>
        cases b with
        | true =>
          simp only
          cases he : e δ1 s1 with
          | ok y s2 =>
            simp only
            rw [lcO_none xs p c e δ ds s2]
            try (cases lcD p c e δ ds s2 <;> rfl)
          | _ => rfl
        | false => exact lcO_none xs p c e δ ds s1
      | _ => rfl
/-- where the walk leaves the store -/
theorem lcO_keep {q : Wk} {p : Pt} {c : T} {e : E} {δ : Sl} {s : Sto} (h : Stl q s) {α : Type} (g f : α → D) : ∀ l : List α, (∀ a ∈ l, ∃ δ1, bindP p (g a) δ = some δ1 ∧ c δ1 s = .ok true s ∧ e δ1 s = .ok (f a) s) → lcO q p c e δ (l.map g) s = .ok (l.map f) s
  | [], _ => by simp only [List.map_nil, lcO, if_pos h]
  | x :: l, hl => by
    obtain ⟨δ1, e1, e2, e3⟩ := hl x (by simp)
    have ih := lcO_keep h g f l fun a ha => hl a (by simp [ha])
    simp only [List.map_cons, lcO, if_pos h, e1, e2, e3, ih]
end Gs

namespace Law
open PySem L2 Gs
/-! the text by places -/
def topS (i : Nat) : Stmt := PySem.Challenge.pw_countgen_k06_books_read.main.body.getD i (.Pass ⟨0, 0, 0, 0⟩)
abbrev s_l_cell_at : Stmt := topS 47
abbrev N_l_cell_at : List Str := ["_law_script", "_law_k"]
abbrev P_l_cell_at : List Str := ["_law_script", "_law_k"]
theorem sc_l_cell_at : FnScope N_l_cell_at P_l_cell_at (defScope s_l_cell_at) := ⟨rfl, rfl, rfl, by decide +kernel, rfl, by decide +kernel, by decide +kernel⟩
abbrev s_l_word : Stmt := topS 48
abbrev N_l_word : List Str := ["_law_cell", "_law_size", "_law_word_here", "_law_number", "_law_k"]
abbrev P_l_word : List Str := ["_law_cell", "_law_size"]
theorem sc_l_word : FnScope N_l_word P_l_word (defScope s_l_word) := ⟨rfl, rfl, rfl, by decide +kernel, rfl, by decide +kernel, by decide +kernel⟩
abbrev s_l_names : Stmt := topS 49
abbrev N_l_names : List Str := ["_law_cell", "_law_many", "_law_base", "_law_at", "_law_letters", "_law_here", "_law_k"]
abbrev P_l_names : List Str := ["_law_cell", "_law_many"]
theorem sc_l_names : FnScope N_l_names P_l_names (defScope s_l_names) := ⟨rfl, rfl, rfl, by decide +kernel, rfl, by decide +kernel, by decide +kernel⟩
abbrev s_shape_of : Stmt := topS 40
abbrev N_shape_of : List Str := ["book", "name", "other", "shape"]
abbrev P_shape_of : List Str := ["book", "name"]
theorem sc_shape_of : FnScope N_shape_of P_shape_of (defScope s_shape_of) := ⟨rfl, rfl, rfl, by decide +kernel, rfl, by decide +kernel, by decide +kernel⟩
abbrev s_l_no_name : Stmt := topS 54
abbrev N_l_no_name : List Str := ["_law_book", "_law_name", "e"]
abbrev P_l_no_name : List Str := ["_law_book", "_law_name"]
theorem sc_l_no_name : FnScope N_l_no_name P_l_no_name (defScope s_l_no_name) := ⟨rfl, rfl, rfl, by decide +kernel, rfl, by decide +kernel, by decide +kernel⟩
abbrev s_l_same : Stmt := topS 53
abbrev N_l_same : List Str := ["_law_found", "_law_due", "_law_one", "_law_other"]
abbrev P_l_same : List Str := ["_law_found", "_law_due"]
theorem sc_l_same : FnScope N_l_same P_l_same (defScope s_l_same) := ⟨rfl, rfl, rfl, by decide +kernel, rfl, by decide +kernel, by decide +kernel⟩
abbrev s_l_shape : Stmt := topS 50
abbrev N_l_shape : List Str := ["_law_names_here", "_law_one", "_law_other", "_law_kind", "_law_here", "_law_there", "_law_mark"]
abbrev P_l_shape : List Str := ["_law_names_here", "_law_one", "_law_other", "_law_kind"]
theorem sc_l_shape : FnScope N_l_shape P_l_shape (defScope s_l_shape) := ⟨rfl, rfl, rfl, by decide +kernel, rfl, by decide +kernel, by decide +kernel⟩
abbrev s_l_text : Stmt := topS 51
abbrev N_l_text : List Str := ["_law_shape_here", "_law_part", "_law_mark"]
abbrev P_l_text : List Str := ["_law_shape_here"]
theorem sc_l_text : FnScope N_l_text P_l_text (defScope s_l_text) := ⟨rfl, rfl, rfl, by decide +kernel, rfl, by decide +kernel, by decide +kernel⟩
abbrev s_l_uses : Stmt := topS 52
abbrev N_l_uses : List Str := ["_law_shape_here", "_law_inner", "_law_names_here", "_law_part", "_law_mark", "_law_name"]
abbrev P_l_uses : List Str := ["_law_shape_here"]
theorem sc_l_uses : FnScope N_l_uses P_l_uses (defScope s_l_uses) := ⟨rfl, rfl, rfl, by decide +kernel, rfl, by decide +kernel, by decide +kernel⟩
abbrev s_inner_shapes : Stmt := topS 33
abbrev N_inner_shapes : List Str := ["shape", "mark", "part"]
abbrev P_inner_shapes : List Str := ["shape"]
theorem sc_inner_shapes : FnScope N_inner_shapes P_inner_shapes (defScope s_inner_shapes) := ⟨rfl, rfl, rfl, by decide +kernel, rfl, by decide +kernel, by decide +kernel⟩
abbrev s_names_used : Stmt := topS 41
abbrev N_names_used : List Str := ["shape", "some", "part", "name"]
abbrev P_names_used : List Str := ["shape"]
theorem sc_names_used : FnScope N_names_used P_names_used (defScope s_names_used) := ⟨rfl, rfl, rfl, by decide +kernel, rfl, by decide +kernel, by decide +kernel⟩
abbrev s_has_no_range : Stmt := topS 35
abbrev N_has_no_range : List Str := ["shape", "part"]
abbrev P_has_no_range : List Str := ["shape"]
theorem sc_has_no_range : FnScope N_has_no_range P_has_no_range (defScope s_has_no_range) := ⟨rfl, rfl, rfl, by decide +kernel, rfl, by decide +kernel, by decide +kernel⟩
abbrev s_has_twice : Stmt := topS 34
abbrev N_has_twice : List Str := ["shape", "some", "mark", "part"]
abbrev P_has_twice : List Str := ["shape"]
theorem sc_has_twice : FnScope N_has_twice P_has_twice (defScope s_has_twice) := ⟨rfl, rfl, rfl, by decide +kernel, rfl, by decide +kernel, by decide +kernel⟩
abbrev s_leads_back : Stmt := topS 43
abbrev N_leads_back : List Str := ["book", "name", "here", "turn"]
abbrev P_leads_back : List Str := ["book", "name"]
theorem sc_leads_back : FnScope N_leads_back P_leads_back (defScope s_leads_back) := ⟨rfl, rfl, rfl, by decide +kernel, rfl, by decide +kernel, by decide +kernel⟩
abbrev s_in_bounds : Stmt := topS 16
abbrev N_in_bounds : List Str := ["text", "opened", "deepest", "sign"]
abbrev P_in_bounds : List Str := ["text"]
theorem sc_in_bounds : FnScope N_in_bounds P_in_bounds (defScope s_in_bounds) := ⟨rfl, rfl, rfl, by decide +kernel, rfl, by decide +kernel, by decide +kernel⟩
abbrev s_is_mark : Stmt := topS 14
abbrev N_is_mark : List Str := ["text", "sign"]
abbrev P_is_mark : List Str := ["text"]
theorem sc_is_mark : FnScope N_is_mark P_is_mark (defScope s_is_mark) := ⟨rfl, rfl, rfl, by decide +kernel, rfl, by decide +kernel, by decide +kernel⟩
abbrev s_is_word : Stmt := topS 15
abbrev N_is_word : List Str := ["text", "signs", "sign"]
abbrev P_is_word : List Str := ["text"]
theorem sc_is_word : FnScope N_is_word P_is_word (defScope s_is_word) := ⟨rfl, rfl, rfl, by decide +kernel, rfl, by decide +kernel, by decide +kernel⟩
abbrev s_head_of : Stmt := topS 17
abbrev N_head_of : List Str := ["text", "at", "behind", "label", "colon", "word"]
abbrev P_head_of : List Str := ["text", "at"]
theorem sc_head_of : FnScope N_head_of P_head_of (defScope s_head_of) := ⟨rfl, rfl, rfl, by decide +kernel, rfl, by decide +kernel, by decide +kernel⟩
abbrev s_note_at : Stmt := topS 18
abbrev N_note_at : List Str := ["text", "at", "label", "word", "inner", "note"]
abbrev P_note_at : List Str := ["text", "at"]
theorem sc_note_at : FnScope N_note_at P_note_at (defScope s_note_at) := ⟨rfl, rfl, rfl, by decide +kernel, rfl, by decide +kernel, by decide +kernel⟩
abbrev s_read_note : Stmt := topS 19
abbrev N_read_note : List Str := ["text", "note", "at"]
abbrev P_read_note : List Str := ["text"]
theorem sc_read_note : FnScope N_read_note P_read_note (defScope s_read_note) := ⟨rfl, rfl, rfl, by decide +kernel, rfl, by decide +kernel, by decide +kernel⟩
abbrev s_is_figures : Stmt := topS 21
abbrev N_is_figures : List Str := ["text", "figures", "sign"]
abbrev P_is_figures : List Str := ["text"]
theorem sc_is_figures : FnScope N_is_figures P_is_figures (defScope s_is_figures) := ⟨rfl, rfl, rfl, by decide +kernel, rfl, by decide +kernel, by decide +kernel⟩
abbrev s_plain_word : Stmt := topS 26
abbrev N_plain_word : List Str := ["note"]
abbrev P_plain_word : List Str := ["note"]
theorem sc_plain_word : FnScope N_plain_word P_plain_word (defScope s_plain_word) := ⟨rfl, rfl, rfl, by decide +kernel, rfl, by decide +kernel, by decide +kernel⟩
abbrev s_plain_number : Stmt := topS 27
abbrev N_plain_number : List Str := ["note", "word"]
abbrev P_plain_number : List Str := ["note"]
theorem sc_plain_number : FnScope N_plain_number P_plain_number (defScope s_plain_number) := ⟨rfl, rfl, rfl, by decide +kernel, rfl, by decide +kernel, by decide +kernel⟩
abbrev s_noted_text : Stmt := topS 29
abbrev N_noted_text : List Str := ["inner", "signs"]
abbrev P_noted_text : List Str := ["inner"]
theorem sc_noted_text : FnScope N_noted_text P_noted_text (defScope s_noted_text) := ⟨rfl, rfl, rfl, by decide +kernel, rfl, by decide +kernel, by decide +kernel⟩
abbrev s_noted_pick : Stmt := topS 30
abbrev N_noted_pick : List Str := ["inner", "branches", "note"]
abbrev P_noted_pick : List Str := ["inner"]
theorem sc_noted_pick : FnScope N_noted_pick P_noted_pick (defScope s_noted_pick) := ⟨rfl, rfl, rfl, by decide +kernel, rfl, by decide +kernel, by decide +kernel⟩
abbrev s_noted_alike : Stmt := topS 31
abbrev N_noted_alike : List Str := ["inner", "times"]
abbrev P_noted_alike : List Str := ["inner"]
theorem sc_noted_alike : FnScope N_noted_alike P_noted_alike (defScope s_noted_alike) := ⟨rfl, rfl, rfl, by decide +kernel, rfl, by decide +kernel, by decide +kernel⟩
abbrev s_shape_noted : Stmt := topS 32
abbrev N_shape_noted : List Str := ["note", "word", "inner", "many", "each"]
abbrev P_shape_noted : List Str := ["note"]
theorem sc_shape_noted : FnScope N_shape_noted P_shape_noted (defScope s_shape_noted) := ⟨rfl, rfl, rfl, by decide +kernel, rfl, by decide +kernel, by decide +kernel⟩
abbrev s_unlabelled : Stmt := topS 28
abbrev N_unlabelled : List Str := ["note"]
abbrev P_unlabelled : List Str := ["note"]
theorem sc_unlabelled : FnScope N_unlabelled P_unlabelled (defScope s_unlabelled) := ⟨rfl, rfl, rfl, by decide +kernel, rfl, by decide +kernel, by decide +kernel⟩
abbrev s_rows_of : Stmt := topS 42
abbrev N_rows_of : List Str := ["text", "rows", "name", "sign", "rest", "book", "row"]
abbrev P_rows_of : List Str := ["text"]
theorem sc_rows_of : FnScope N_rows_of P_rows_of (defScope s_rows_of) := ⟨rfl, rfl, rfl, by decide +kernel, rfl, by decide +kernel, by decide +kernel⟩
abbrev s_read_book : Stmt := topS 44
abbrev N_read_book : List Str := ["text", "book", "names", "name", "shape", "ring", "used"]
abbrev P_read_book : List Str := ["text"]
theorem sc_read_book : FnScope N_read_book P_read_book (defScope s_read_book) := ⟨rfl, rfl, rfl, by decide +kernel, rfl, by decide +kernel, by decide +kernel⟩
abbrev s_note_of : Stmt := topS 36
abbrev N_note_of : List Str := ["shape", "label", "word", "mark", "part"]
abbrev P_note_of : List Str := ["shape", "label"]
theorem sc_note_of : FnScope N_note_of P_note_of (defScope s_note_of) := ⟨rfl, rfl, rfl, by decide +kernel, rfl, by decide +kernel, by decide +kernel⟩
abbrev s_show_note : Stmt := topS 20
abbrev N_show_note : List Str := ["note", "text", "inner"]
abbrev P_show_note : List Str := ["note"]
theorem sc_show_note : FnScope N_show_note P_show_note (defScope s_show_note) := ⟨rfl, rfl, rfl, by decide +kernel, rfl, by decide +kernel, by decide +kernel⟩
abbrev s_show_shape : Stmt := topS 37
abbrev N_show_shape : List Str := ["shape"]
abbrev P_show_shape : List Str := ["shape"]
theorem sc_show_shape : FnScope N_show_shape P_show_shape (defScope s_show_shape) := ⟨rfl, rfl, rfl, by decide +kernel, rfl, by decide +kernel, by decide +kernel⟩
abbrev s_show_book : Stmt := topS 45
abbrev N_show_book : List Str := ["book", "name", "shape"]
abbrev P_show_book : List Str := ["book"]
theorem sc_show_book : FnScope N_show_book P_show_book (defScope s_show_book) := ⟨rfl, rfl, rfl, by decide +kernel, rfl, by decide +kernel, by decide +kernel⟩
abbrev s_law : Stmt := topS 55
abbrev N_law : List Str := ["_law_script", "_law_many", "_law_names_here", "_law_odd", "_law_word_here", "_law_book", "_law_k", "_law_cells", "_law_text_here", "_law_found", "_law_name", "_law_shape_here", "_law_others", "_law_j", "_law_sign"]
abbrev P_law : List Str := ["_law_script"]
theorem sc_law : FnScope N_law P_law (defScope s_law) := ⟨rfl, rfl, rfl, by decide +kernel, rfl, by decide +kernel, by decide +kernel⟩
def clsS (i j : Nat) : Stmt := match topS i with
  | .ClassDef _ _ _ body _ _ _ _ _ _ _ => body.getD j (.Pass ⟨0, 0, 0, 0⟩)
  | s => s
abbrev s_NoGround___init__ : Stmt := clsS 7 0
abbrev PI_NoGround : List Str := ["self", "words", "ring"]
theorem sc_NoGround___init__ : FnScope PI_NoGround PI_NoGround (defScope s_NoGround___init__) := ⟨rfl, rfl, rfl, by decide +kernel, rfl, by decide +kernel, by decide +kernel⟩
/-! what they say of data -/
def xt_NoName (s : String) : Option Bool := if s = "Crowded" then some false else if s = "NoGround" then some false else if s = "NoName" then some true else if s = "NoNote" then some false else if s = "NoRange" then some false else if s = "Twice" then some false else none
def tb_CountError (s : String) : Option Bool := if s = "Crowded" then some true else if s = "NoGround" then some true else if s = "NoName" then some true else if s = "NoNote" then some true else if s = "NoRange" then some true else if s = "Twice" then some true else none
def tb_ValueError (s : String) : Option Bool := if s = "Crowded" then some true else if s = "NoGround" then some true else if s = "NoName" then some true else if s = "NoNote" then some true else if s = "NoRange" then some true else if s = "Twice" then some true else none
noncomputable def S_l_cell_at : List D → Sto → R D := runG 2 (
    sSeq (sIf (tV (eBin gLt (eV 1) (eFn gLen (aCons (eV 0) (aNil))))) (sRet (eBin gIx (eV 0) (eV 1))) (sNx))
    (sRet (eC (.int 0))))
noncomputable def L_l_word_0 : S := sSeq (sSet 3 (eBin gMod (eBin gMul (eV 3) (eC (.int 48271))) (eC (.int 2147483647))))
    (sSet 2 (eBin gAdd (eV 2) (eBin gIx (eC (.str (Str.ofString "abcdefghijklmnopqrstuvwxyz"))) (eBin gMod (eBin gDiv (eV 3) (eC (.int 1000))) (eC (.int 26))))))
noncomputable def S_l_word : List D → Sto → R D := runG 5 (
    sSeq (sSet 2 (eC (.str (Str.ofString ""))))
    (sSeq (sSet 3 (eBin gAdd (eBin gMod (eV 0) (eC (.int 2147483646))) (eC (.int 1))))
    (sSeq (sFor (iRange1 (aCons (eV 1) (aNil))) (.nm 4) (L_l_word_0))
    (sRet (eV 2)))))
noncomputable def S_l_names : List D → Sto → R D := runG 7 (
    sSeq (sSet 2 (eCall S_l_word (aCons (eBin gDiv (eV 0) (eC (.int 648))) (aCons (eC (.int 8)) (aNil)))))
    (sSeq (sIf (tV (eBin gEq (eBin gMod (eV 0) (eC (.int 3))) (eC (.int 0)))) (sRet (eNw (fLc (iRange1 (aCons (eV 1) (aNil))) [6] (.nm 6) (tTrue) (eSl (eV 2) (oNone) (oSome (eBin gSub (eV 1) (eV 6))))))) (sNx))
    (sSeq (sSet 2 (eSl (eV 2) (oNone) (oSome (eBin gAdd (eC (.int 1)) (eBin gMod (eBin gDiv (eV 0) (eC (.int 9))) (eC (.int 8)))))))
    (sSeq (sSet 3 (eBin gMod (eBin gDiv (eV 0) (eC (.int 72))) (eFn gLen (aCons (eV 2) (aNil)))))
    (sSeq (sSet 4 (eC (.str (Str.ofString "abcdefghijklmnopqrstuvwxyz"))))
    (sSeq (sSet 5 (eM1 gIndexS (eV 4) (eBin gIx (eV 2) (eV 3))))
    (sRet (eNw (fLc (iRange1 (aCons (eV 1) (aNil))) [6] (.nm 6) (tTrue) (eBin gAdd (eBin gAdd (eSl (eV 2) (oNone) (oSome (eV 3))) (eBin gIx (eV 4) (eBin gMod (eBin gAdd (eV 5) (eV 6)) (eC (.int 26))))) (eSl (eV 2) (oSome (eBin gAdd (eV 3) (eC (.int 1)))) (oNone))))))))))))
noncomputable def L_shape_of_0 : S := sIf (tV (eBin gEq (eV 2) (eV 1))) (sRet (eV 3)) (sNx)
noncomputable def S_shape_of : List D → Sto → R D := runG 4 (
    sSeq (sForO (iSeqO (eV 0)) (.tp [.nm 2, .nm 3]) (L_shape_of_0))
    (sRaise "NoName"))
noncomputable def S_l_no_name : List D → Sto → R D := runG 3 (
    sSeq (sTryS xt_NoName 2 (sDrop (eCall S_shape_of (aCons (eV 0) (aCons (eV 1) (aNil))))) (sRet (eAn (eUn (gIsD tb_CountError) (eV 2)) (eUn (gIsD tb_ValueError) (eV 2)))))
    (sRet (eC (.bl false))))
noncomputable def U_l_same (c_l_same : List D → Sto → R D) : List D → Sto → R D := runG 4 (
    sSeq (sIf (tV (eBin gIsN (eV 1) (eC .non))) (sRet (eBin gIsN (eV 0) (eC .non))) (sNx))
    (sSeq (sIf (tV (eUn (gIsi2 "list" "tuple") (eV 1))) (sSeq (sIf (tOrr (tNt (tV (eUn (gIsi2 "list" "tuple") (eV 0)))) (tV (eBin gNe (eUn (gIsi "list") (eV 1)) (eUn (gIsi "list") (eV 0))))) (sRet (eC (.bl false))) (sNx))
    (sRet (eAn (eBin gEq (eFn gLen (aCons (eV 0) (aNil))) (eFn gLen (aCons (eV 1) (aNil)))) (eFn gAll (aCons (eFz (fLc (iZipD (aCons (eV 0) (aCons (eV 1) (aNil)))) [2, 3] (.tp [.nm 2, .nm 3]) (tTrue) (eCallB c_l_same (aCons (eV 2) (aCons (eV 3) (aNil)))))) (aNil)))))) (sNx))
    (sSeq (sIf (tOrr (tV (eUn (gIsi "bool") (eV 1))) (tV (eUn (gIsi "bool") (eV 0)))) (sRet (eAn (eUn (gIsi "bool") (eV 1)) (eAn (eUn (gIsi "bool") (eV 0)) (eBin gEq (eV 0) (eV 1))))) (sNx))
    (sSeq (sIf (tV (eUn (gIsi "int") (eV 1))) (sRet (eAn (eUn (gIsi "int") (eV 0)) (eBin gEq (eV 0) (eV 1)))) (sNx))
    (sRet (eAn (eUn (gIsi "str") (eV 0)) (eAn (eUn (gIsi "str") (eV 1)) (eBin gEq (eV 0) (eV 1)))))))))
noncomputable def S_l_same : Nat → List D → Sto → R D
  | 0 => fun _ _ => .stk
  | n + 1 => U_l_same (S_l_same n)
noncomputable def S_l_shape : List D → Sto → R D := runG 7 (
    sSeq (sSet 4 (eBin gIx (eV 0) (eBin gMod (eV 1) (eFn gLen (aCons (eV 0) (aNil))))))
    (sSeq (sSet 5 (eBin gIx (eV 0) (eBin gMod (eV 2) (eFn gLen (aCons (eV 0) (aNil))))))
    (sSeq (sIf (tV (eBin gEq (eBin gMod (eV 3) (eC (.int 7))) (eC (.int 0)))) (sRet (eTup (aCons (eC (.str (Str.ofString "whole"))) (aCons (eBin gSub (eBin gMod (eV 1) (eBin gPow (eC (.int 10)) (eC (.int 59)))) (eBin gPow (eC (.int 10)) (eC (.int 58)))) (aCons (eBin gAdd (eBin gMod (eV 1) (eBin gPow (eC (.int 10)) (eC (.int 59)))) (eBin gMod (eV 2) (eBin gPow (eC (.int 10)) (eC (.int 59))))) (aNil)))))) (sNx))
    (sSeq (sIf (tV (eBin gEq (eBin gMod (eV 3) (eC (.int 7))) (eC (.int 1)))) (sRet (eTup (aCons (eC (.str (Str.ofString "text"))) (aCons (eBin gAdd (eC (.str (Str.ofString "aZ09"))) (eBin gIx (eFz (fLst (aCons (eC (.str (Str.ofString ""))) (aCons (eC (.str (Str.ofString "b"))) (aCons (eC (.str (Str.ofString "yx"))) (aNil)))))) (eBin gMod (eV 1) (eC (.int 3))))) (aNil))))) (sNx))
    (sSeq (sIf (tV (eBin gEq (eBin gMod (eV 3) (eC (.int 7))) (eC (.int 2)))) (sSeq (sSet 6 (eBin gIx (eFz (fLst (aCons (eC (.str (Str.ofString "q"))) (aCons (eC (.str (Str.ofString "r"))) (aNil))))) (eFn gInt (aCons (eBin gEq (eV 4) (eC (.str (Str.ofString "q")))) (aNil)))))
    (sRet (eTup (aCons (eC (.str (Str.ofString "pick"))) (aCons (eTup (aCons (eTup (aCons (eV 4) (aCons (eTup (aCons (eC (.str (Str.ofString "use"))) (aCons (eV 5) (aNil)))) (aNil)))) (aCons (eTup (aCons (eV 6) (aCons (eTup (aCons (eC (.str (Str.ofString "row"))) (aCons (eTup (aCons (eTup (aCons (eC (.str (Str.ofString "use"))) (aCons (eV 4) (aNil)))) (aCons (eTup (aCons (eC (.str (Str.ofString "use"))) (aCons (eV 5) (aNil)))) (aNil)))) (aNil)))) (aNil)))) (aNil)))) (aNil)))))) (sNx))
    (sSeq (sIf (tV (eBin gEq (eBin gMod (eV 3) (eC (.int 7))) (eC (.int 3)))) (sRet (eTup (aCons (eC (.str (Str.ofString "row"))) (aCons (eTup (aCons (eTup (aCons (eC (.str (Str.ofString "use"))) (aCons (eV 4) (aNil)))) (aCons (eTup (aCons (eC (.str (Str.ofString "many"))) (aCons (eTup (aCons (eC (.str (Str.ofString "use"))) (aCons (eV 5) (aNil)))) (aNil)))) (aCons (eTup (aCons (eC (.str (Str.ofString "use"))) (aCons (eV 4) (aNil)))) (aNil))))) (aNil))))) (sNx))
    (sSeq (sIf (tV (eBin gEq (eBin gMod (eV 3) (eC (.int 7))) (eC (.int 4)))) (sRet (eTup (aCons (eC (.str (Str.ofString "many"))) (aCons (eTup (aCons (eC (.str (Str.ofString "use"))) (aCons (eV 4) (aNil)))) (aNil))))) (sNx))
    (sSeq (sIf (tV (eBin gEq (eBin gMod (eV 3) (eC (.int 7))) (eC (.int 5)))) (sRet (eTup (aCons (eC (.str (Str.ofString "alike"))) (aCons (eTup (aCons (eC (.str (Str.ofString "use"))) (aCons (eV 4) (aNil)))) (aCons (eBin gAdd (eC (.int 1)) (eBin gMod (eV 2) (eC (.int 6)))) (aNil)))))) (sNx))
    (sRet (eTup (aCons (eC (.str (Str.ofString "rising"))) (aCons (eTup (aCons (eC (.str (Str.ofString "row"))) (aCons (eTup (aCons (eTup (aCons (eC (.str (Str.ofString "unlike"))) (aCons (eTup (aCons (eC (.str (Str.ofString "use"))) (aCons (eV 5) (aNil)))) (aNil)))) (aCons (eTup (aCons (eC (.str (Str.ofString "row"))) (aCons (eTup (aNil)) (aNil)))) (aNil)))) (aNil)))) (aNil)))))))))))))
noncomputable def U_l_text (c_l_text : List D → Sto → R D) : List D → Sto → R D := runG 3 (
    sSeq (sIf (tV (eBin gEq (eBin gIx (eV 0) (eC (.int 0))) (eC (.str (Str.ofString "use"))))) (sRet (eBin gIx (eV 0) (eC (.int 1)))) (sNx))
    (sSeq (sIf (tV (eBin gEq (eBin gIx (eV 0) (eC (.int 0))) (eC (.str (Str.ofString "whole"))))) (sRet (eBin gAdd (eBin gAdd (eBin gAdd (eBin gAdd (eC (.str (Str.ofString "whole("))) (eFn gStr (aCons (eBin gIx (eV 0) (eC (.int 1))) (aNil)))) (eC (.str (Str.ofString ",")))) (eFn gStr (aCons (eBin gIx (eV 0) (eC (.int 2))) (aNil)))) (eC (.str (Str.ofString ")"))))) (sNx))
    (sSeq (sIf (tV (eBin gEq (eBin gIx (eV 0) (eC (.int 0))) (eC (.str (Str.ofString "text"))))) (sRet (eBin gAdd (eBin gAdd (eC (.str (Str.ofString "text("))) (eBin gIx (eV 0) (eC (.int 1)))) (eC (.str (Str.ofString ")"))))) (sNx))
    (sSeq (sIf (tV (eBin gEq (eBin gIx (eV 0) (eC (.int 0))) (eC (.str (Str.ofString "row"))))) (sRet (eBin gAdd (eBin gAdd (eC (.str (Str.ofString "row("))) (eM1 gJoin (eC (.str (Str.ofString ","))) (eFz (fLc (iSeq (eBin gIx (eV 0) (eC (.int 1)))) [1] (.nm 1) (tTrue) (eCall c_l_text (aCons (eV 1) (aNil))))))) (eC (.str (Str.ofString ")"))))) (sNx))
    (sSeq (sIf (tV (eBin gEq (eBin gIx (eV 0) (eC (.int 0))) (eC (.str (Str.ofString "pick"))))) (sRet (eBin gAdd (eBin gAdd (eC (.str (Str.ofString "pick("))) (eM1 gJoin (eC (.str (Str.ofString ","))) (eFz (fLc (iSeq (eBin gIx (eV 0) (eC (.int 1)))) [2, 1] (.tp [.nm 2, .nm 1]) (tTrue) (eBin gAdd (eBin gAdd (eV 2) (eC (.str (Str.ofString ":")))) (eCall c_l_text (aCons (eV 1) (aNil)))))))) (eC (.str (Str.ofString ")"))))) (sNx))
    (sSeq (sIf (tV (eBin gEq (eBin gIx (eV 0) (eC (.int 0))) (eC (.str (Str.ofString "alike"))))) (sRet (eBin gAdd (eBin gAdd (eBin gAdd (eBin gAdd (eC (.str (Str.ofString "alike("))) (eCall c_l_text (aCons (eBin gIx (eV 0) (eC (.int 1))) (aNil)))) (eC (.str (Str.ofString ",")))) (eFn gStr (aCons (eBin gIx (eV 0) (eC (.int 2))) (aNil)))) (eC (.str (Str.ofString ")"))))) (sNx))
    (sRet (eBin gAdd (eBin gAdd (eBin gAdd (eBin gIx (eV 0) (eC (.int 0))) (eC (.str (Str.ofString "(")))) (eCall c_l_text (aCons (eBin gIx (eV 0) (eC (.int 1))) (aNil)))) (eC (.str (Str.ofString ")")))))))))))
noncomputable def S_l_text : Nat → List D → Sto → R D
  | 0 => fun _ _ => .stk
  | n + 1 => U_l_text (S_l_text n)
noncomputable def L_l_uses_0 (c_l_uses : List D → Sto → R D) : S := sSet 2 (eBin gAdd (eV 2) (eFz (fLc (iSeq (eFrz (eCall c_l_uses (aCons (eV 3) (aNil))))) [5] (.nm 5) (tV (eBin gNin (eV 5) (eV 2))) (eV 5))))
noncomputable def U_l_uses (c_l_uses : List D → Sto → R D) : List D → Sto → R D := runG 6 (
    sSeq (sIf (tV (eBin gEq (eBin gIx (eV 0) (eC (.int 0))) (eC (.str (Str.ofString "use"))))) (sRet (eFz (fLst (aCons (eBin gIx (eV 0) (eC (.int 1))) (aNil))))) (sNx))
    (sSeq (sSet 1 (eFz (fLst (aNil))))
    (sSeq (sIf (tV (eBin gEq (eBin gIx (eV 0) (eC (.int 0))) (eC (.str (Str.ofString "row"))))) (sSet 1 (eFn gList (aCons (eBin gIx (eV 0) (eC (.int 1))) (aNil)))) (sNx))
    (sSeq (sIf (tV (eBin gEq (eBin gIx (eV 0) (eC (.int 0))) (eC (.str (Str.ofString "pick"))))) (sSet 1 (eFz (fLc (iSeq (eBin gIx (eV 0) (eC (.int 1)))) [4, 3] (.tp [.nm 4, .nm 3]) (tTrue) (eV 3)))) (sNx))
    (sSeq (sIf (tV (eBin gIn (eBin gIx (eV 0) (eC (.int 0))) (eTup (aCons (eC (.str (Str.ofString "many"))) (aCons (eC (.str (Str.ofString "rising"))) (aCons (eC (.str (Str.ofString "unlike"))) (aCons (eC (.str (Str.ofString "alike"))) (aNil)))))))) (sSet 1 (eFz (fLst (aCons (eBin gIx (eV 0) (eC (.int 1))) (aNil))))) (sNx))
    (sSeq (sSet 2 (eFz (fLst (aNil))))
    (sSeq (sFor (iSeq (eV 1)) (.nm 3) (L_l_uses_0 c_l_uses))
    (sRet (eV 2)))))))))
noncomputable def S_l_uses : Nat → List D → Sto → R D
  | 0 => fun _ _ => .stk
  | n + 1 => U_l_uses (S_l_uses n)
noncomputable def S_inner_shapes : List D → Sto → R D := runG 3 (
    sSeq (sIf (tV (eBin gEq (eBin gIx (eV 0) (eC (.int 0))) (eC (.str (Str.ofString "row"))))) (sRet (eFn gList (aCons (eBin gIx (eV 0) (eC (.int 1))) (aNil)))) (sNx))
    (sSeq (sIf (tV (eBin gEq (eBin gIx (eV 0) (eC (.int 0))) (eC (.str (Str.ofString "pick"))))) (sRet (eFz (fLc (iSeq (eBin gIx (eV 0) (eC (.int 1)))) [1, 2] (.tp [.nm 1, .nm 2]) (tTrue) (eV 2)))) (sNx))
    (sSeq (sIf (tV (eBin gIn (eBin gIx (eV 0) (eC (.int 0))) (eTup (aCons (eC (.str (Str.ofString "many"))) (aCons (eC (.str (Str.ofString "rising"))) (aCons (eC (.str (Str.ofString "unlike"))) (aCons (eC (.str (Str.ofString "alike"))) (aNil)))))))) (sRet (eFz (fLst (aCons (eBin gIx (eV 0) (eC (.int 1))) (aNil))))) (sNx))
    (sRet (eFz (fLst (aNil)))))))
noncomputable def L_names_used_1 (c_names_used : List D → Sto → R D) : S := sIf (tV (eBin gNin (eV 3) (eV 1))) (sDrop (eApp (eV 1) (eV 3))) (sNx)
noncomputable def L_names_used_0 (c_names_used : List D → Sto → R D) : S := sFor (iSeq (eFrz (eCall c_names_used (aCons (eV 2) (aNil))))) (.nm 3) (L_names_used_1 c_names_used)
noncomputable def U_names_used (c_names_used : List D → Sto → R D) : List D → Sto → R D := runG 4 (
    sSeq (sIf (tV (eBin gEq (eBin gIx (eV 0) (eC (.int 0))) (eC (.str (Str.ofString "use"))))) (sRet (eNw (fLst (aCons (eBin gIx (eV 0) (eC (.int 1))) (aNil))))) (sNx))
    (sSeq (sSet 1 (eNw (fLst (aNil))))
    (sSeq (sFor (iSeq (eFrz (eCall S_inner_shapes (aCons (eV 0) (aNil))))) (.nm 2) (L_names_used_0 c_names_used))
    (sRet (eV 1)))))
noncomputable def S_names_used : Nat → List D → Sto → R D
  | 0 => fun _ _ => .stk
  | n + 1 => U_names_used (S_names_used n)
noncomputable def U_has_no_range (c_has_no_range : List D → Sto → R D) : List D → Sto → R D := runG 2 (
    sSeq (sIf (tAn (tV (eBin gEq (eBin gIx (eV 0) (eC (.int 0))) (eC (.str (Str.ofString "whole"))))) (tV (eBin gLt (eBin gIx (eV 0) (eC (.int 2))) (eBin gIx (eV 0) (eC (.int 1)))))) (sRet (eC (.bl true))) (sNx))
    (sRet (eFn gAny (aCons (eFz (fLc (iSeq (eFrz (eCall S_inner_shapes (aCons (eV 0) (aNil))))) [1] (.nm 1) (tTrue) (eCall c_has_no_range (aCons (eV 1) (aNil))))) (aNil)))))
noncomputable def S_has_no_range : Nat → List D → Sto → R D
  | 0 => fun _ _ => .stk
  | n + 1 => U_has_no_range (S_has_no_range n)
noncomputable def U_has_twice (c_has_twice : List D → Sto → R D) : List D → Sto → R D := runG 4 (
    sSeq (sSet 1 (eFz (fLst (aNil))))
    (sSeq (sIf (tV (eBin gEq (eBin gIx (eV 0) (eC (.int 0))) (eC (.str (Str.ofString "pick"))))) (sSet 1 (eFz (fLc (iSeq (eBin gIx (eV 0) (eC (.int 1)))) [2, 3] (.tp [.nm 2, .nm 3]) (tTrue) (eV 2)))) (sNx))
    (sSeq (sIf (tV (eBin gEq (eBin gIx (eV 0) (eC (.int 0))) (eC (.str (Str.ofString "text"))))) (sSet 1 (eFn gList (aCons (eBin gIx (eV 0) (eC (.int 1))) (aNil)))) (sNx))
    (sSeq (sIf (tV (eBin gNe (eLenSet (eV 1)) (eFn gLen (aCons (eV 1) (aNil))))) (sRet (eC (.bl true))) (sNx))
    (sRet (eFn gAny (aCons (eFz (fLc (iSeq (eFrz (eCall S_inner_shapes (aCons (eV 0) (aNil))))) [3] (.nm 3) (tTrue) (eCall c_has_twice (aCons (eV 3) (aNil))))) (aNil))))))))
noncomputable def S_has_twice : Nat → List D → Sto → R D
  | 0 => fun _ _ => .stk
  | n + 1 => U_has_twice (S_has_twice n)
noncomputable def L_leads_back_0 : S := sSeq (sIf (tV (eBin gNe (eBin gIx (eV 2) (eC (.int 0))) (eC (.str (Str.ofString "use"))))) (sRet (eC (.bl false))) (sNx))
    (sSeq (sIf (tV (eBin gEq (eBin gIx (eV 2) (eC (.int 1))) (eV 1))) (sRet (eC (.bl true))) (sNx))
    (sSet 2 (eCall S_shape_of (aCons (eV 0) (aCons (eBin gIx (eV 2) (eC (.int 1))) (aNil))))))
noncomputable def S_leads_back : List D → Sto → R D := runG 4 (
    sSeq (sSet 2 (eCall S_shape_of (aCons (eV 0) (aCons (eV 1) (aNil)))))
    (sSeq (sFor (iRange1 (aCons (eFn gLen (aCons (eV 0) (aNil))) (aNil))) (.nm 3) (L_leads_back_0))
    (sRet (eC (.bl false)))))
noncomputable def L_in_bounds_0 : S := sIf (tV (eBin gEq (eV 3) (eC (.str (Str.ofString "("))))) (sSeq (sAug 1 gAddI (eC (.int 1)))
    (sSet 2 (eFn gMax2 (aCons (eV 2) (aCons (eV 1) (aNil)))))) (sIf (tV (eBin gEq (eV 3) (eC (.str (Str.ofString ")"))))) (sAug 1 gSub (eC (.int 1))) (sNx))
noncomputable def S_in_bounds : List D → Sto → R D := runG 4 (
    sSeq (sSet 1 (eC (.int 0)))
    (sSeq (sSet 2 (eC (.int 0)))
    (sSeq (sFor (iSeq (eV 0)) (.nm 3) (L_in_bounds_0))
    (sIf (tOrr (tV (eBin gGt (eFn gLen (aCons (eV 0) (aNil))) (eC (.int 2000)))) (tV (eBin gGt (eV 2) (eC (.int 6))))) (sRaise "Crowded") (sNx)))))
noncomputable def S_is_mark : List D → Sto → R D := runG 2 (
    sRet (eAn (eChain gLe gLe (eC (.int 1)) (eFn gLen (aCons (eV 0) (aNil))) (eC (.int 8))) (eFn gAll (aCons (eFz (fLc (iSeq (eV 0)) [1] (.nm 1) (tTrue) (eBin gIn (eV 1) (eC (.str (Str.ofString "abcdefghijklmnopqrstuvwxyz")))))) (aNil)))))
noncomputable def S_is_word : List D → Sto → R D := runG 3 (
    sSeq (sSet 1 (eBin gAdd (eBin gAdd (eBin gAdd (eC (.str (Str.ofString "abcdefghijklmnopqrstuvwxyz"))) (eC (.str (Str.ofString "ABCDEFGHIJKLMNOPQRSTUVWXYZ")))) (eC (.str (Str.ofString "0123456789")))) (eC (.str (Str.ofString "-")))))
    (sRet (eAn (eChain gLe gLe (eC (.int 1)) (eFn gLen (aCons (eV 0) (aNil))) (eC (.int 62))) (eFn gAll (aCons (eFz (fLc (iSeq (eV 0)) [2] (.nm 2) (tTrue) (eBin gIn (eV 2) (eV 1)))) (aNil))))))
noncomputable def T_head_of_0 : T := tAn (tV (eBin gLt (eV 2) (eFn gLen (aCons (eV 0) (aNil))))) (tV (eBin gNin (eBin gIx (eV 0) (eV 2)) (eC (.str (Str.ofString "(),")))))
noncomputable def L_head_of_0 : S := sAug 2 gAddI (eC (.int 1))
noncomputable def S_head_of : List D → Sto → R D := runG 6 (
    sSeq (sSet 2 (eV 1))
    (sSeq (whileD (T_head_of_0) (L_head_of_0) fuel)
    (sSeq (sAsg (.tp [.nm 3, .nm 4, .nm 5]) (eM1 gPart (eSl (eV 0) (oSome (eV 1)) (oSome (eV 2))) (eC (.str (Str.ofString ":")))))
    (sSeq (sIf (tV (eBin gEq (eV 4) (eC (.str (Str.ofString ""))))) (sSeq (sSet 3 (eC (.str (Str.ofString ""))))
    (sSet 5 (eSl (eV 0) (oSome (eV 1)) (oSome (eV 2))))) (sIf (tNt (tV (eCall S_is_mark (aCons (eV 3) (aNil))))) (sRaise "NoNote") (sNx)))
    (sSeq (sIf (tNt (tV (eCall S_is_word (aCons (eV 5) (aNil))))) (sRaise "NoNote") (sNx))
    (sRet (eTup (aCons (eV 3) (aCons (eV 5) (aCons (eV 2) (aNil)))))))))))
noncomputable def T_note_at_0 (c_note_at : List D → Sto → R D) : T := tV (eC (.bl true))
noncomputable def L_note_at_0 (c_note_at : List D → Sto → R D) : S := sSeq (sAsg (.tp [.nm 5, .nm 1]) (eCall c_note_at (aCons (eV 0) (aCons (eV 1) (aNil)))))
    (sSeq (sDrop (eApp (eV 4) (eV 5)))
    (sSeq (sIf (tV (eBin gEq (eSl (eV 0) (oSome (eV 1)) (oSome (eBin gAdd (eV 1) (eC (.int 1))))) (eC (.str (Str.ofString ")"))))) (sFrz 4 (sRet (eTup (aCons (eTup (aCons (eV 2) (aCons (eV 3) (aCons (eFn gTuple (aCons (eV 4) (aNil))) (aNil))))) (aCons (eBin gAdd (eV 1) (eC (.int 1))) (aNil)))))) (sNx))
    (sSeq (sIf (tV (eBin gNe (eSl (eV 0) (oSome (eV 1)) (oSome (eBin gAdd (eV 1) (eC (.int 1))))) (eC (.str (Str.ofString ","))))) (sRaise "NoNote") (sNx))
    (sAug 1 gAddI (eC (.int 1))))))
noncomputable def U_note_at (c_note_at : List D → Sto → R D) : List D → Sto → R D := runG 6 (
    sSeq (sAsg (.tp [.nm 2, .nm 3, .nm 1]) (eCall S_head_of (aCons (eV 0) (aCons (eV 1) (aNil)))))
    (sSeq (sIf (tV (eBin gNe (eSl (eV 0) (oSome (eV 1)) (oSome (eBin gAdd (eV 1) (eC (.int 1))))) (eC (.str (Str.ofString "("))))) (sRet (eTup (aCons (eTup (aCons (eV 2) (aCons (eV 3) (aCons (eC .non) (aNil))))) (aCons (eV 1) (aNil))))) (sNx))
    (sSeq (sSet 4 (eNw (fLst (aNil))))
    (sSeq (sAug 1 gAddI (eC (.int 1)))
    (sSeq (sIf (tV (eBin gEq (eSl (eV 0) (oSome (eV 1)) (oSome (eBin gAdd (eV 1) (eC (.int 1))))) (eC (.str (Str.ofString ")"))))) (sRet (eTup (aCons (eTup (aCons (eV 2) (aCons (eV 3) (aCons (eTup (aNil)) (aNil))))) (aCons (eBin gAdd (eV 1) (eC (.int 1))) (aNil))))) (sNx))
    (whileD (T_note_at_0 c_note_at) (L_note_at_0 c_note_at) fuel))))))
noncomputable def S_note_at : Nat → List D → Sto → R D
  | 0 => fun _ _ => .stk
  | n + 1 => U_note_at (S_note_at n)
noncomputable def S_read_note : List D → Sto → R D := runG 3 (
    sSeq (sIf (tNt (tV (eUn (gIsi "str") (eV 0)))) (sRaise "NoNote") (sNx))
    (sSeq (sDrop (eCall S_in_bounds (aCons (eV 0) (aNil))))
    (sSeq (sAsg (.tp [.nm 1, .nm 2]) (eCall (S_note_at 70) (aCons (eV 0) (aCons (eC (.int 0)) (aNil)))))
    (sSeq (sIf (tV (eBin gNe (eV 2) (eFn gLen (aCons (eV 0) (aNil))))) (sRaise "NoNote") (sNx))
    (sRet (eV 1))))))
noncomputable def S_is_figures : List D → Sto → R D := runG 3 (
    sSeq (sSet 1 (eV 0))
    (sSeq (sIf (tV (eM1 gStarts (eV 0) (eC (.str (Str.ofString "-"))))) (sSet 1 (eSl (eV 0) (oSome (eC (.int 1))) (oNone))) (sNx))
    (sSeq (sIf (tOrr (tNt (tV (eChain gLe gLe (eC (.int 1)) (eFn gLen (aCons (eV 1) (aNil))) (eC (.int 60))))) (tNt (tV (eFn gAll (aCons (eFz (fLc (iSeq (eV 1)) [2] (.nm 2) (tTrue) (eBin gIn (eV 2) (eC (.str (Str.ofString "0123456789")))))) (aNil)))))) (sRet (eC (.bl false))) (sNx))
    (sRet (eOr (eBin gNe (eBin gIx (eV 1) (eC (.int 0))) (eC (.str (Str.ofString "0")))) (eBin gEq (eV 0) (eC (.str (Str.ofString "0")))))))))
noncomputable def S_plain_word : List D → Sto → R D := runG 1 (
    sSeq (sIf (tOrr (tV (eBin gNe (eBin gIx (eV 0) (eC (.int 0))) (eC (.str (Str.ofString ""))))) (tV (eBin gNotN (eBin gIx (eV 0) (eC (.int 2))) (eC .non)))) (sRaise "NoNote") (sNx))
    (sRet (eBin gIx (eV 0) (eC (.int 1)))))
noncomputable def S_plain_number : List D → Sto → R D := runG 2 (
    sSeq (sSet 1 (eCall S_plain_word (aCons (eV 0) (aNil))))
    (sSeq (sIf (tNt (tV (eCall S_is_figures (aCons (eV 1) (aNil))))) (sRaise "NoNote") (sNx))
    (sRet (eFn gInt (aCons (eV 1) (aNil))))))
noncomputable def S_noted_text : List D → Sto → R D := runG 2 (
    sSeq (sSet 1 (eCall S_plain_word (aCons (eBin gIx (eV 0) (eC (.int 0))) (aNil))))
    (sSeq (sIf (tV (eBin gIn (eC (.str (Str.ofString "-"))) (eV 1))) (sRaise "NoNote") (sNx))
    (sRet (eTup (aCons (eC (.str (Str.ofString "text"))) (aCons (eV 1) (aNil)))))))
noncomputable def U_noted_alike (c_noted_alike : List D → Sto → R D) (c_noted_pick : List D → Sto → R D) (c_shape_noted : List D → Sto → R D) (c_unlabelled : List D → Sto → R D) : List D → Sto → R D := runG 2 (
    sSeq (sSet 1 (eCall S_plain_number (aCons (eBin gIx (eV 0) (eC (.int 1))) (aNil))))
    (sSeq (sIf (tNt (tV (eChain gLe gLe (eC (.int 1)) (eV 1) (eC (.int 6))))) (sRaise "NoNote") (sNx))
    (sRet (eTup (aCons (eC (.str (Str.ofString "alike"))) (aCons (eCall c_unlabelled (aCons (eBin gIx (eV 0) (eC (.int 0))) (aNil))) (aCons (eV 1) (aNil))))))))
noncomputable def L_noted_pick_0 (c_noted_alike : List D → Sto → R D) (c_noted_pick : List D → Sto → R D) (c_shape_noted : List D → Sto → R D) (c_unlabelled : List D → Sto → R D) : S := sSeq (sIf (tV (eBin gEq (eBin gIx (eV 2) (eC (.int 0))) (eC (.str (Str.ofString ""))))) (sRaise "NoNote") (sNx))
    (sDrop (eApp (eV 1) (eTup (aCons (eBin gIx (eV 2) (eC (.int 0))) (aCons (eCall c_shape_noted (aCons (eV 2) (aNil))) (aNil))))))
noncomputable def U_noted_pick (c_noted_alike : List D → Sto → R D) (c_noted_pick : List D → Sto → R D) (c_shape_noted : List D → Sto → R D) (c_unlabelled : List D → Sto → R D) : List D → Sto → R D := runG 3 (
    sSeq (sSet 1 (eNw (fLst (aNil))))
    (sSeq (sFor (iSeq (eV 0)) (.nm 2) (L_noted_pick_0 c_noted_alike c_noted_pick c_shape_noted c_unlabelled))
    (sFrz 1 (sRet (eTup (aCons (eC (.str (Str.ofString "pick"))) (aCons (eFn gTuple (aCons (eV 1) (aNil))) (aNil))))))))
noncomputable def U_shape_noted (c_noted_alike : List D → Sto → R D) (c_noted_pick : List D → Sto → R D) (c_shape_noted : List D → Sto → R D) (c_unlabelled : List D → Sto → R D) : List D → Sto → R D := runG 5 (
    sSeq (sSet 1 (eBin gIx (eV 0) (eC (.int 1))))
    (sSeq (sSet 2 (eBin gIx (eV 0) (eC (.int 2))))
    (sSeq (sIf (tV (eBin gIsN (eV 2) (eC .non))) (sSeq (sIf (tNt (tV (eCall S_is_mark (aCons (eV 1) (aNil))))) (sRaise "NoNote") (sNx))
    (sRet (eTup (aCons (eC (.str (Str.ofString "use"))) (aCons (eV 1) (aNil)))))) (sNx))
    (sSeq (sSet 3 (eFn gLen (aCons (eV 2) (aNil))))
    (sSeq (sIf (tAn (tV (eBin gEq (eV 1) (eC (.str (Str.ofString "row"))))) (tV (eBin gLe (eV 3) (eC (.int 8))))) (sRet (eTup (aCons (eC (.str (Str.ofString "row"))) (aCons (eFn gTuple (aCons (eFz (fLcX (iSeq (eV 2)) [4] (.nm 4) (tTrue) (eCall c_unlabelled (aCons (eV 4) (aNil))))) (aNil))) (aNil))))) (sNx))
    (sSeq (sIf (tAn (tV (eBin gEq (eV 1) (eC (.str (Str.ofString "pick"))))) (tV (eChain gLe gLe (eC (.int 1)) (eV 3) (eC (.int 10))))) (sRet (eCall c_noted_pick (aCons (eV 2) (aNil)))) (sNx))
    (sSeq (sIf (tAn (tV (eBin gEq (eV 1) (eC (.str (Str.ofString "whole"))))) (tV (eBin gEq (eV 3) (eC (.int 2))))) (sRet (eTup (aCons (eC (.str (Str.ofString "whole"))) (aCons (eCall S_plain_number (aCons (eBin gIx (eV 2) (eC (.int 0))) (aNil))) (aCons (eCall S_plain_number (aCons (eBin gIx (eV 2) (eC (.int 1))) (aNil))) (aNil)))))) (sNx))
    (sSeq (sIf (tAn (tV (eBin gEq (eV 1) (eC (.str (Str.ofString "alike"))))) (tV (eBin gEq (eV 3) (eC (.int 2))))) (sRet (eCall c_noted_alike (aCons (eV 2) (aNil)))) (sNx))
    (sSeq (sIf (tAn (tV (eBin gEq (eV 1) (eC (.str (Str.ofString "text"))))) (tV (eBin gEq (eV 3) (eC (.int 1))))) (sRet (eCall S_noted_text (aCons (eV 2) (aNil)))) (sNx))
    (sSeq (sIf (tAn (tV (eBin gIn (eV 1) (eTup (aCons (eC (.str (Str.ofString "many"))) (aCons (eC (.str (Str.ofString "rising"))) (aCons (eC (.str (Str.ofString "unlike"))) (aNil))))))) (tV (eBin gEq (eV 3) (eC (.int 1))))) (sRet (eTup (aCons (eV 1) (aCons (eCall c_unlabelled (aCons (eBin gIx (eV 2) (eC (.int 0))) (aNil))) (aNil))))) (sNx))
    (sRaise "NoNote")))))))))))
noncomputable def U_unlabelled (c_noted_alike : List D → Sto → R D) (c_noted_pick : List D → Sto → R D) (c_shape_noted : List D → Sto → R D) (c_unlabelled : List D → Sto → R D) : List D → Sto → R D := runG 1 (
    sSeq (sIf (tV (eBin gNe (eBin gIx (eV 0) (eC (.int 0))) (eC (.str (Str.ofString ""))))) (sRaise "NoNote") (sNx))
    (sRet (eCall c_shape_noted (aCons (eV 0) (aNil)))))
mutual
noncomputable def S_noted_alike : Nat → List D → Sto → R D
  | 0 => fun _ _ => .stk
  | n + 1 => U_noted_alike (S_noted_alike n) (S_noted_pick n) (S_shape_noted n) (S_unlabelled n)
noncomputable def S_noted_pick : Nat → List D → Sto → R D
  | 0 => fun _ _ => .stk
  | n + 1 => U_noted_pick (S_noted_alike n) (S_noted_pick n) (S_shape_noted n) (S_unlabelled n)
noncomputable def S_shape_noted : Nat → List D → Sto → R D
  | 0 => fun _ _ => .stk
  | n + 1 => U_shape_noted (S_noted_alike n) (S_noted_pick n) (S_shape_noted n) (S_unlabelled n)
noncomputable def S_unlabelled : Nat → List D → Sto → R D
  | 0 => fun _ _ => .stk
  | n + 1 => U_unlabelled (S_noted_alike n) (S_noted_pick n) (S_shape_noted n) (S_unlabelled n)
end
noncomputable def L_rows_of_0 : S := sDrop (eCall S_in_bounds (aCons (eV 4) (aNil)))
noncomputable def L_rows_of_1 : S := sSeq (sIf (tOrr (tV (eBin gEq (eV 3) (eC (.str (Str.ofString ""))))) (tNt (tV (eCall S_is_mark (aCons (eV 2) (aNil)))))) (sRaise "NoNote") (sNx))
    (sDrop (eApp (eV 5) (eTup (aCons (eV 2) (aCons (eCall (S_unlabelled 70) (aCons (eCall S_read_note (aCons (eV 4) (aNil))) (aNil))) (aNil))))))
noncomputable def S_rows_of : List D → Sto → R D := runG 7 (
    sSeq (sIf (tNt (tV (eUn (gIsi "str") (eV 0)))) (sRaise "NoNote") (sNx))
    (sSeq (sSet 1 (eFz (fLc (iSeq (eM1 gSplit (eV 0) (eC (.str (Str.ofString "\n"))))) [6] (.nm 6) (tTrue) (eM1 gPart (eV 6) (eC (.str (Str.ofString "=")))))))
    (sSeq (sIf (tV (eBin gGt (eFn gLen (aCons (eV 1) (aNil))) (eC (.int 8)))) (sRaise "Crowded") (sNx))
    (sSeq (sFor (iSeq (eV 1)) (.tp [.nm 2, .nm 3, .nm 4]) (L_rows_of_0))
    (sSeq (sSet 5 (eNw (fLst (aNil))))
    (sSeq (sFor (iSeq (eV 1)) (.tp [.nm 2, .nm 3, .nm 4]) (L_rows_of_1))
    (sRet (eV 5))))))))
noncomputable def L_read_book_0 : S := sIf (tNt (tV (eFn gAll (aCons (eFz (fLc (iSeq (eFrz (eCall (S_names_used 70) (aCons (eV 4) (aNil))))) [6] (.nm 6) (tTrue) (eBin gIn (eV 6) (eV 2)))) (aNil))))) (sRaise "NoName") (sNx)
noncomputable def S_read_book : List D → Sto → R D := runG 7 (
    sSeq (sSet 1 (eCall S_rows_of (aCons (eV 0) (aNil))))
    (sSeq (sSet 2 (eFz (fLcO (iSeqO (eV 1)) [3, 4] (.tp [.nm 3, .nm 4]) (tTrue) (eV 3))))
    (sSeq (sIf (tOrr (tV (eBin gNe (eLenSet (eV 2)) (eFn gLen (aCons (eV 2) (aNil))))) (tV (eFn gAny (aCons (eFz (fLcO (iSeqO (eV 1)) [3, 4] (.tp [.nm 3, .nm 4]) (tTrue) (eCall (S_has_twice 70) (aCons (eV 4) (aNil))))) (aNil))))) (sRaise "Twice") (sNx))
    (sSeq (sIf (tV (eFn gAny (aCons (eFz (fLcO (iSeqO (eV 1)) [3, 4] (.tp [.nm 3, .nm 4]) (tTrue) (eCall (S_has_no_range 70) (aCons (eV 4) (aNil))))) (aNil)))) (sRaise "NoRange") (sNx))
    (sSeq (sForO (iSeqO (eV 1)) (.tp [.nm 3, .nm 4]) (L_read_book_0))
    (sSeq (sSet 5 (eFz (fLc (iSeq (eV 2)) [3] (.nm 3) (tV (eCall S_leads_back (aCons (eV 1) (aCons (eV 3) (aNil))))) (eV 3))))
    (sSeq (sIf (tV (eBin gNe (eV 5) (eFz (fLst (aNil))))) (sRaiseF "NoGround" ["ring"] (aCons (eC (.str (Str.ofString "names that lead back to themselves"))) (aCons (eV 5) (aNil)))) (sNx))
    (sRet (eV 1)))))))))
noncomputable def U_note_of (c_note_of : List D → Sto → R D) : List D → Sto → R D := runG 5 (
    sSeq (sSet 2 (eBin gIx (eV 0) (eC (.int 0))))
    (sSeq (sIf (tV (eBin gEq (eV 2) (eC (.str (Str.ofString "use"))))) (sRet (eTup (aCons (eV 1) (aCons (eBin gIx (eV 0) (eC (.int 1))) (aCons (eC .non) (aNil)))))) (sNx))
    (sSeq (sIf (tV (eBin gEq (eV 2) (eC (.str (Str.ofString "whole"))))) (sRet (eTup (aCons (eV 1) (aCons (eV 2) (aCons (eTup (aCons (eTup (aCons (eC (.str (Str.ofString ""))) (aCons (eFn gStr (aCons (eBin gIx (eV 0) (eC (.int 1))) (aNil))) (aCons (eC .non) (aNil))))) (aCons (eTup (aCons (eC (.str (Str.ofString ""))) (aCons (eFn gStr (aCons (eBin gIx (eV 0) (eC (.int 2))) (aNil))) (aCons (eC .non) (aNil))))) (aNil)))) (aNil)))))) (sNx))
    (sSeq (sIf (tV (eBin gEq (eV 2) (eC (.str (Str.ofString "text"))))) (sRet (eTup (aCons (eV 1) (aCons (eV 2) (aCons (eTup (aCons (eTup (aCons (eC (.str (Str.ofString ""))) (aCons (eBin gIx (eV 0) (eC (.int 1))) (aCons (eC .non) (aNil))))) (aNil))) (aNil)))))) (sNx))
    (sSeq (sIf (tV (eBin gEq (eV 2) (eC (.str (Str.ofString "pick"))))) (sRet (eTup (aCons (eV 1) (aCons (eV 2) (aCons (eFn gTuple (aCons (eFz (fLc (iSeq (eBin gIx (eV 0) (eC (.int 1)))) [3, 4] (.tp [.nm 3, .nm 4]) (tTrue) (eCall c_note_of (aCons (eV 4) (aCons (eV 3) (aNil)))))) (aNil))) (aNil)))))) (sNx))
    (sSeq (sIf (tV (eBin gEq (eV 2) (eC (.str (Str.ofString "alike"))))) (sRet (eTup (aCons (eV 1) (aCons (eV 2) (aCons (eTup (aCons (eCallD c_note_of (aCons (eBin gIx (eV 0) (eC (.int 1))) (aNil)) [.str (Str.ofString "")]) (aCons (eTup (aCons (eC (.str (Str.ofString ""))) (aCons (eFn gStr (aCons (eBin gIx (eV 0) (eC (.int 2))) (aNil))) (aCons (eC .non) (aNil))))) (aNil)))) (aNil)))))) (sNx))
    (sRet (eTup (aCons (eV 1) (aCons (eV 2) (aCons (eFn gTuple (aCons (eFz (fLc (iSeq (eFrz (eCall S_inner_shapes (aCons (eV 0) (aNil))))) [4] (.nm 4) (tTrue) (eCallD c_note_of (aCons (eV 4) (aNil)) [.str (Str.ofString "")]))) (aNil))) (aNil))))))))))))
noncomputable def S_note_of : Nat → List D → Sto → R D
  | 0 => fun _ _ => .stk
  | n + 1 => U_note_of (S_note_of n)
noncomputable def U_show_note (c_show_note : List D → Sto → R D) : List D → Sto → R D := runG 3 (
    sSeq (sSet 1 (eBin gIx (eV 0) (eC (.int 1))))
    (sSeq (sIf (tV (eBin gNe (eBin gIx (eV 0) (eC (.int 0))) (eC (.str (Str.ofString ""))))) (sSet 1 (eBin gAdd (eBin gAdd (eBin gIx (eV 0) (eC (.int 0))) (eC (.str (Str.ofString ":")))) (eV 1))) (sNx))
    (sSeq (sIf (tV (eBin gIsN (eBin gIx (eV 0) (eC (.int 2))) (eC .non))) (sRet (eV 1)) (sNx))
    (sRet (eBin gAdd (eBin gAdd (eBin gAdd (eV 1) (eC (.str (Str.ofString "(")))) (eM1 gJoin (eC (.str (Str.ofString ","))) (eFz (fLc (iSeq (eBin gIx (eV 0) (eC (.int 2)))) [2] (.nm 2) (tTrue) (eCall c_show_note (aCons (eV 2) (aNil))))))) (eC (.str (Str.ofString ")"))))))))
noncomputable def S_show_note : Nat → List D → Sto → R D
  | 0 => fun _ _ => .stk
  | n + 1 => U_show_note (S_show_note n)
noncomputable def S_show_shape : List D → Sto → R D := runG 1 (
    sRet (eCall (S_show_note 70) (aCons (eCallD (S_note_of 70) (aCons (eV 0) (aNil)) [.str (Str.ofString "")]) (aNil))))
noncomputable def S_show_book : List D → Sto → R D := runG 3 (
    sRet (eM1 gJoin (eC (.str (Str.ofString "\n"))) (eFz (fLc (iSeq (eV 0)) [1, 2] (.tp [.nm 1, .nm 2]) (tTrue) (eBin gAdd (eBin gAdd (eV 1) (eC (.str (Str.ofString "=")))) (eCall S_show_shape (aCons (eV 2) (aNil))))))))
noncomputable def L_law_0 : S := sSeq (sSet 7 (eFz (fLc (iRange1 (aCons (eC (.int 3)) (aNil))) [13] (.nm 13) (tTrue) (eCall S_l_cell_at (aCons (eV 0) (aCons (eBin gAdd (eBin gAdd (eC (.int 2)) (eBin gMul (eC (.int 3)) (eV 6))) (eV 13)) (aNil)))))))
    (sDrop (eApp (eV 5) (eTup (aCons (eBin gIx (eV 2) (eV 6)) (aCons (eCall S_l_shape (aCons (eV 2) (aCons (eBin gMod (eBin gIx (eV 7) (eC (.int 0))) (eBin gPow (eC (.int 10)) (eC (.int 62)))) (aCons (eBin gMod (eBin gIx (eV 7) (eC (.int 1))) (eBin gPow (eC (.int 10)) (eC (.int 62)))) (aCons (eBin gMod (eBin gIx (eV 7) (eC (.int 2))) (eC (.int 7))) (aNil)))))) (aNil))))))
noncomputable def L_law_1 : S := sIf (tOrr (tNt (tV (eCallB (S_l_same 70) (aCons (eCall S_shape_of (aCons (eV 5) (aCons (eV 10) (aNil)))) (aCons (eV 11) (aNil)))))) (tNt (tV (eCallB (S_l_same 70) (aCons (eCall (S_names_used 70) (aCons (eV 11) (aNil))) (aCons (eCall (S_l_uses 70) (aCons (eV 11) (aNil))) (aNil))))))) (sRet (eC (.bl false))) (sNx)
noncomputable def S_law : List D → Sto → R D := runG 15 (
    sSeq (sSet 1 (eBin gAdd (eC (.int 1)) (eBin gMod (eCall S_l_cell_at (aCons (eV 0) (aCons (eC (.int 0)) (aNil)))) (eC (.int 8)))))
    (sSeq (sSet 2 (eCall S_l_names (aCons (eBin gMod (eCall S_l_cell_at (aCons (eV 0) (aCons (eC (.int 1)) (aNil)))) (eBin gPow (eC (.int 10)) (eC (.int 18)))) (aCons (eV 1) (aNil)))))
    (sSeq (sSet 3 (eBin gMod (eCall S_l_cell_at (aCons (eV 0) (aCons (eC (.int 27)) (aNil)))) (eBin gPow (eC (.int 10)) (eC (.int 9)))))
    (sSeq (sSet 4 (eBin gIx (eFz (fLst (aCons (eC (.str (Str.ofString "whole"))) (aCons (eC (.str (Str.ofString "text"))) (aCons (eC (.str (Str.ofString "row"))) (aCons (eC (.str (Str.ofString "many"))) (aCons (eC (.str (Str.ofString "rising"))) (aCons (eC (.str (Str.ofString "unlike"))) (aCons (eC (.str (Str.ofString "alike"))) (aCons (eC (.str (Str.ofString "pick"))) (aNil))))))))))) (eBin gMod (eBin gDiv (eV 3) (eC (.int 8))) (eC (.int 8)))))
    (sSeq (sIf (tAn (tV (eBin gEq (eBin gMod (eV 3) (eC (.int 8))) (eC (.int 1)))) (tV (eBin gNin (eV 4) (eV 2)))) (sSetIx (eV 2) (eBin gMod (eBin gDiv (eV 3) (eC (.int 64))) (eV 1)) (eV 4)) (sNx))
    (sSeq (sSet 5 (eNw (fLst (aNil))))
    (sSeq (sFor (iRange1 (aCons (eV 1) (aNil))) (.nm 6) (L_law_0))
    (sSeq (sFrz 5 (sSet 8 (eM1 gJoin (eC (.str (Str.ofString "\n"))) (eFz (fLc (iSeq (eV 5)) [10, 11] (.tp [.nm 10, .nm 11]) (tTrue) (eBin gAdd (eBin gAdd (eV 10) (eC (.str (Str.ofString "=")))) (eCall (S_l_text 70) (aCons (eV 11) (aNil)))))))))
    (sSeq (sSet 9 (eCall S_read_book (aCons (eV 8) (aNil))))
    (sSeq (sIf (tOrr (tNt (tV (eCallB (S_l_same 70) (aCons (eV 9) (aCons (eV 5) (aNil)))))) (tNt (tV (eCallB (S_l_same 70) (aCons (eCall S_show_book (aCons (eV 5) (aNil))) (aCons (eV 8) (aNil))))))) (sRet (eC (.bl false))) (sNx))
    (sSeq (sFrz 5 (sFor (iSeq (eV 5)) (.tp [.nm 10, .nm 11]) (L_law_1)))
    (sSeq (sSet 12 (eFz (fLc (iSeq (eC (.str (Str.ofString "abcdefghijklmnopqrstuvwxyz")))) [14] (.nm 14) (tV (eBin gNin (eV 14) (eV 2))) (eV 14))))
    (sSeq (sIf (tNt (tV (eCall S_l_no_name (aCons (eV 5) (aCons (eBin gIx (eV 12) (eBin gMod (eCall S_l_cell_at (aCons (eV 0) (aCons (eC (.int 26)) (aNil)))) (eFn gLen (aCons (eV 12) (aNil))))) (aNil)))))) (sRet (eC (.bl false))) (sNx))
    (sSeq (sDrop (eApp (eV 9) (eTup (aCons (eC (.str (Str.ofString "more"))) (aCons (eTup (aCons (eC (.str (Str.ofString "row"))) (aCons (eTup (aNil)) (aNil)))) (aNil))))))
    (sRet (eAn (eCallB (S_l_same 70) (aCons (eCall S_read_book (aCons (eV 8) (aNil))) (aCons (eV 5) (aNil)))) (eCallB (S_l_same 70) (aCons (eCall S_show_book (aCons (eV 5) (aNil))) (aCons (eV 8) (aNil))))))))))))))))))))
/-! they keep it -/
section
variable {P : Program} {w : World} {K : PySem.W.Frag} {mg : Str → Option Value} {base : Heap} {ct : String → Addr}
set_option maxHeartbeats 4000000 in
theorem ok_NoGround___init__ {a : Addr} {fd : FuncData} (F : L2.Fun K "__init__" "NoGround.__init__" s_NoGround___init__ a fd) {B C : Addr} (gB : mg "CountError" = some (.ref B)) (ga : PySem.W.specialIn K (.ref B) "__getattribute__" = some (some (.builtin "type.__getattribute__"))) (hT : PySem.W.typeIn K (.ref B) = some (.type "type")) (rd : PySem.W.readsIn K B (.type "type") = true) (vV : PySem.W.findCls K (.ref B) (.type "type") "__init__" = some (.val (.builtin "ValueError.__init__"))) (nf0 : PySem.W.findIn K (.ref C) "ring" = some none) :
    FnOk P w K mg base (L2.CX P w) 1 a fd PI_NoGround (spXI K C ["ring"]) := by
  refine F.okX (N := PI_NoGround) sc_NoGround___init__ (fun vs H Q E ⟨a, w, ys, e, hl, _⟩ => by subst e; simpa using hl) (fun cdv A outer s H vs Q E hr ⟨a, w, ys, e, hl, T, ha, q⟩ => ⟨_, pss_cons (ps_expr (pe_ceinit rfl gB ga hT rd vV (pa_cons (pv 0) (pa_cons (pv 1) pa_nil)))) (pss_one (ps_ost (pv 0) (pv 2))), ?_⟩)
  subst e
  match ys, hl with
  | [y0], _ =>
    refine ⟨_, rfl, _, rfl, a, C, _, rfl, by simp, T, ha, _, rfl, _, rfl, a, C, rfl, T, nf0, .inl ⟨ha, fun dx nd ne => ?_⟩⟩
    exact q _ dx nd ne upd_same (by rw [upd_ne ne]; exact upd_same) fun b b1 b2 => by rw [upd_ne b1, upd_ne b2]
set_option maxHeartbeats 4000000 in
theorem ok_l_cell_at {a : Addr} {fd : FuncData} (F : L2.Fun K "_law_cell_at" "_law_cell_at" s_l_cell_at a fd) (Z_len : mg "len" = none) :
    FnOk P w K mg base (L2.CX P w) 1 a fd P_l_cell_at (spG K ct 2 S_l_cell_at) := by
  refine fn_ok (N := N_l_cell_at) (ct := ct) F sc_l_cell_at (by decide) (fun cdv A outer s H v E hr => ?_)
  have nd := sc_l_cell_at.nd
  exact ss_cons (ss_if (st_cmp o_lt (se_var 1) (se_callB (b_len) rfl Z_len (by decide +kernel) (sa_cons (se_var 0) (sa_nil)))) (ss_one (ss_ret (se_ix (se_var 0) (se_var 1)))) (ss_nil))
    (ss_one (ss_ret (se_int)))
set_option maxHeartbeats 4000000 in
theorem ok_l_word {a : Addr} {fd : FuncData} (F : L2.Fun K "_law_word" "_law_word" s_l_word a fd) (Z_range : mg "range" = none) :
    FnOk P w K mg base (L2.CX P w) 1 a fd P_l_word (spG K ct 2 S_l_word) := by
  refine fn_ok (N := N_l_word) (ct := ct) F sc_l_word (by decide) (fun cdv A outer s H v E hr => ?_)
  have nd := sc_l_word.nd
  exact ss_cons (ss_set 2 (se_str) nd)
    (ss_cons (ss_set 3 (se_bin o_add (se_bin o_mod (se_var 0) (se_int)) (se_int)) nd)
    (ss_cons (ss_for (passes_of rfl) rfl (si_range1 rfl Z_range (sa_cons (se_var 1) (sa_nil))) (sg_name 4 nd) (ss_cons (ss_set 3 (se_bin o_mod (se_bin o_mul (se_var 3) (se_int)) (se_int)) nd)
    (ss_one (ss_set 2 (se_bin o_add (se_var 2) (se_ix (se_str) (se_bin o_mod (se_bin o_div (se_var 3) (se_int)) (se_int)))) nd))))
    (ss_one (ss_ret (se_var 2)))))
set_option maxHeartbeats 4000000 in
theorem ok_l_names {a : Addr} {fd : FuncData} (F : L2.Fun K "_law_names" "_law_names" s_l_names a fd) {a_l_word : Addr} {f_l_word : FuncData} (G_l_word : FnOk P w K mg base (L2.CX P w) 1 a_l_word f_l_word P_l_word (spG K ct 2 S_l_word)) (M_l_word : mg "_law_word" = some (.ref a_l_word)) (K_l_word : PySem.W.keepIn K (.ref a_l_word) = true) (B_l_word : Binds K f_l_word P_l_word []) (Z_len : mg "len" = none) (Z_range : mg "range" = none) :
    FnOk P w K mg base (L2.CX P w) 2 a fd P_l_names (spG K ct 2 S_l_names) := by
  refine fn_ok (N := N_l_names) (ct := ct) F sc_l_names (by decide) (fun cdv A outer s H v E hr => ?_)
  have nd := sc_l_names.nd
  exact ss_cons (ss_set 2 (se_call G_l_word (hr.mono (by decide)) (takes_of rfl rfl rfl rfl) rfl M_l_word K_l_word B_l_word (sa_cons (se_bin o_div (se_var 0) (se_int)) (sa_cons (se_int) (sa_nil))) (lenA_cons (lenA_cons (lenA_nil)))) nd)
    (ss_cons (ss_if (st_cmp (o_eq (hu_big hr)) (se_bin o_mod (se_var 0) (se_int)) (se_int)) (ss_one (ss_ret (SF.nw (sf_lc [("_law_k", 6)] rfl nd (si_range1 rfl Z_range (sa_cons (se_var 1) (sa_nil))) (blkOk_by (by change blkC N_l_names (defScope s_l_names) _ _ = true; decide +kernel)) (by decide) (fun _ _ _ _ _ => sg_name 6 nd) (fun _ _ _ _ _ => sts_nil) (fun _ _ _ _ _ => se_sl (se_var 2) (so_none) (so_some (se_bin o_sub (se_var 1) (se_var 6)))))))) (ss_nil))
    (ss_cons (ss_set 2 (se_sl (se_var 2) (so_none) (so_some (se_bin o_add (se_int) (se_bin o_mod (se_bin o_div (se_var 0) (se_int)) (se_int))))) nd)
    (ss_cons (ss_set 3 (se_bin o_mod (se_bin o_div (se_var 0) (se_int)) (se_callB (b_len) rfl Z_len (by decide +kernel) (sa_cons (se_var 2) (sa_nil)))) nd)
    (ss_cons (ss_set 4 (se_str) nd)
    (ss_cons (ss_set 5 (se_m1 PySem.F.slot_str_index PySem.F.type_str_index m_index (se_var 4) (se_ix (se_var 2) (se_var 3))) nd)
    (ss_one (ss_ret (SF.nw (sf_lc [("_law_k", 6)] rfl nd (si_range1 rfl Z_range (sa_cons (se_var 1) (sa_nil))) (blkOk_by (by change blkC N_l_names (defScope s_l_names) _ _ = true; decide +kernel)) (by decide) (fun _ _ _ _ _ => sg_name 6 nd) (fun _ _ _ _ _ => sts_nil) (fun _ _ _ _ _ => se_bin o_add (se_bin o_add (se_sl (se_var 2) (so_none) (so_some (se_var 3))) (se_ix (se_var 4) (se_bin o_mod (se_bin o_add (se_var 5) (se_var 6)) (se_int)))) (se_sl (se_var 2) (so_some (se_bin o_add (se_var 3) (se_int))) (so_none))))))))))))
set_option maxHeartbeats 4000000 in
theorem ok_shape_of {a : Addr} {fd : FuncData} (F : L2.Fun K "shape_of" "shape_of" s_shape_of a fd) (X_NoName : XC K mg ct "NoName") :
    FnOk P w K mg base (L2.CX P w) 1 a fd P_shape_of (spG K ct 2 S_shape_of) := by
  refine fn_ok (N := N_shape_of) (ct := ct) F sc_shape_of (by decide) (fun cdv A outer s H v E hr => ?_)
  have nd := sc_shape_of.nd
  exact ss_cons (ss_forO (passes_of rfl) rfl (si_seqO (se_var 0)) (sg_tup rfl (sgs_cons (sg_name 2 nd) (sgs_cons (sg_name 3 nd) (sgs_nil)))) (ss_one (ss_if (st_cmp (o_eq (hu_big hr)) (se_var 2) (se_var 1)) (ss_one (ss_ret (se_var 3))) (ss_nil))))
    (ss_one (ss_raise (cn := "NoName") rfl (takes_of rfl rfl rfl rfl) X_NoName rfl))
set_option maxHeartbeats 4000000 in
theorem ok_l_no_name {a : Addr} {fd : FuncData} (F : L2.Fun K "_law_no_name" "_law_no_name" s_l_no_name a fd) {a_shape_of : Addr} {f_shape_of : FuncData} (G_shape_of : FnOk P w K mg base (L2.CX P w) 1 a_shape_of f_shape_of P_shape_of (spG K ct 2 S_shape_of)) (M_shape_of : mg "shape_of" = some (.ref a_shape_of)) (K_shape_of : PySem.W.keepIn K (.ref a_shape_of) = true) (B_shape_of : Binds K f_shape_of P_shape_of []) (Z_ValueError : mg "ValueError" = none) (Z_isinstance : mg "isinstance" = none) (GC_CountError : mg "CountError" = some (.ref (ct "CountError"))) (GC_NoName : mg "NoName" = some (.ref (ct "NoName"))) (EI_CountError : EI K ct tb_CountError (.ref (ct "CountError"))) (EI_ValueError : EI K ct tb_ValueError (.type "ValueError")) (XT_NoName : XT K ct (ct "NoName") xt_NoName) :
    FnOk P w K mg base (L2.CX P w) 2 a fd P_l_no_name (spG K ct 2 S_l_no_name) := by
  refine fn_ok (N := N_l_no_name) (ct := ct) F sc_l_no_name (by decide) (fun cdv A outer s H v E hr => ?_)
  have nd := sc_l_no_name.nd
  exact ss_cons (ss_try_suite (i := 2) rfl rfl nd rfl rfl rfl ⟨rfl, by decide, .inl GC_NoName⟩ (takes_of rfl rfl rfl rfl) XT_NoName (fun W pn xe tk hp => ss_one (ss_expr (se_call G_shape_of (hr.mono (by decide)) tk rfl M_shape_of K_shape_of B_shape_of (sa_cons (se_var 0) (sa_cons (se_var 1) (sa_nil))) (lenA_cons (lenA_cons (lenA_nil)))))) (fun a pn => ss_one (ss_ret (se_and (se_isD (se_var 2) rfl Z_isinstance (pe_glob (v := .ref (ct "CountError")) rfl GC_CountError rfl) (.own _) EI_CountError) (se_one (se_isD (se_var 2) rfl Z_isinstance (pe_bltn (v := .ty "ValueError") rfl Z_ValueError (u := .type "ValueError") (by decide +kernel) rfl) (.ty _) EI_ValueError))))))
    (ss_one (ss_ret (se_bl)))
set_option maxHeartbeats 4000000 in
theorem ok_l_same {a : Addr} {fd : FuncData} (F : L2.Fun K "_law_same" "_law_same" s_l_same a fd) {k : Nat} (hk : 0 ≤ k) {c_l_same : List D → Sto → R D} {a_l_same : Addr} {f_l_same : FuncData} (G_l_same : FnOk P w K mg base (L2.CX P w) k a_l_same f_l_same P_l_same (spG K ct 2 c_l_same)) (M_l_same : mg "_law_same" = some (.ref a_l_same)) (K_l_same : PySem.W.keepIn K (.ref a_l_same) = true) (B_l_same : Binds K f_l_same P_l_same []) (Z_all : mg "all" = none) (Z_bool : mg "bool" = none) (Z_int : mg "int" = none) (Z_isinstance : mg "isinstance" = none) (Z_len : mg "len" = none) (Z_list : mg "list" = none) (Z_str : mg "str" = none) (Z_tuple : mg "tuple" = none) (Z_zip : mg "zip" = none) :
    FnOk P w K mg base (L2.CX P w) (k + 1) a fd P_l_same (spG K ct 2 (U_l_same c_l_same)) := by
  refine fn_ok (N := N_l_same) (ct := ct) F sc_l_same (by decide) (fun cdv A outer s H v E hr => ?_)
  have nd := sc_l_same.nd
  exact ss_cons (ss_if (st_cmp o_isN (se_var 1) (se_non)) (ss_one (ss_ret (se_cmp o_isN (se_var 0) (se_non)))) (ss_nil))
    (ss_cons (ss_if (st_val (se_isi2 (n := "list") (m := "tuple") (se_var 1) rfl Z_isinstance rfl Z_list (by decide +kernel) rfl Z_tuple (by decide +kernel))) (ss_cons (ss_if (PW.pt (sw_or (st_not (st_val (se_isi2 (n := "list") (m := "tuple") (se_var 0) rfl Z_isinstance rfl Z_list (by decide +kernel) rfl Z_tuple (by decide +kernel)))) (sw_or1 (st_cmp (o_ne (hu_big hr)) (se_isi (n := "list") (se_var 1) rfl Z_isinstance rfl Z_list (by decide +kernel)) (se_isi (n := "list") (se_var 0) rfl Z_isinstance rfl Z_list (by decide +kernel)))))) (ss_one (ss_ret (se_bl))) (ss_nil))
    (ss_one (ss_ret (se_and (se_cmp (o_eq (hu_big hr)) (se_callB (b_len) rfl Z_len (by decide +kernel) (sa_cons (se_var 0) (sa_nil))) (se_callB (b_len) rfl Z_len (by decide +kernel) (sa_cons (se_var 1) (sa_nil)))) (se_one (se_callB (b_all rfl) rfl Z_all (by decide +kernel) (sa_cons (SF.fz (sf_lc [("_law_one", 2), ("_law_other", 3)] rfl nd (si_zip rfl Z_zip (sa_cons (se_var 0) (sa_cons (se_var 1) (sa_nil)))) (blkOk_by (by change blkC N_l_same (defScope s_l_same) _ _ = true; decide +kernel)) (by decide) (fun _ _ _ _ _ => sg_tup rfl (sgs_cons (sg_name 2 nd) (sgs_cons (sg_name 3 nd) (sgs_nil)))) (fun _ _ _ _ _ => sts_nil) (fun _ _ _ _ _ => se_callBr G_l_same (hr) takes0 rfl M_l_same K_l_same B_l_same (sa_cons (se_var 2) (sa_cons (se_var 3) (sa_nil))) (lenA_cons (lenA_cons (lenA_nil)))))) (sa_nil)))))))) (ss_nil))
    (ss_cons (ss_if (PW.pt (sw_or (st_val (se_isi (n := "bool") (se_var 1) rfl Z_isinstance rfl Z_bool (by decide +kernel))) (sw_or1 (st_val (se_isi (n := "bool") (se_var 0) rfl Z_isinstance rfl Z_bool (by decide +kernel)))))) (ss_one (ss_ret (se_and (se_isi (n := "bool") (se_var 1) rfl Z_isinstance rfl Z_bool (by decide +kernel)) (se_and (se_isi (n := "bool") (se_var 0) rfl Z_isinstance rfl Z_bool (by decide +kernel)) (se_one (se_cmp (o_eq (hu_big hr)) (se_var 0) (se_var 1))))))) (ss_nil))
    (ss_cons (ss_if (st_val (se_isi (n := "int") (se_var 1) rfl Z_isinstance rfl Z_int (by decide +kernel))) (ss_one (ss_ret (se_and (se_isi (n := "int") (se_var 0) rfl Z_isinstance rfl Z_int (by decide +kernel)) (se_one (se_cmp (o_eq (hu_big hr)) (se_var 0) (se_var 1)))))) (ss_nil))
    (ss_one (ss_ret (se_and (se_isi (n := "str") (se_var 0) rfl Z_isinstance rfl Z_str (by decide +kernel)) (se_and (se_isi (n := "str") (se_var 1) rfl Z_isinstance rfl Z_str (by decide +kernel)) (se_one (se_cmp (o_eq (hu_big hr)) (se_var 0) (se_var 1))))))))))
set_option maxHeartbeats 4000000 in
theorem ok_l_shape {a : Addr} {fd : FuncData} (F : L2.Fun K "_law_shape" "_law_shape" s_l_shape a fd) (Z_int : mg "int" = none) (Z_len : mg "len" = none) :
    FnOk P w K mg base (L2.CX P w) 1 a fd P_l_shape (spG K ct 4 S_l_shape) := by
  refine fn_ok (N := N_l_shape) (ct := ct) F sc_l_shape (by decide) (fun cdv A outer s H v E hr => ?_)
  have nd := sc_l_shape.nd
  exact ss_cons (ss_set 4 (se_ix (se_var 0) (se_bin o_mod (se_var 1) (se_callB (b_len) rfl Z_len (by decide +kernel) (sa_cons (se_var 0) (sa_nil))))) nd)
    (ss_cons (ss_set 5 (se_ix (se_var 0) (se_bin o_mod (se_var 2) (se_callB (b_len) rfl Z_len (by decide +kernel) (sa_cons (se_var 0) (sa_nil))))) nd)
    (ss_cons (ss_if (st_cmp (o_eq (hu_big hr)) (se_bin o_mod (se_var 3) (se_int)) (se_int)) (ss_one (ss_ret (se_tup (sa_cons (se_str) (sa_cons (se_bin o_sub (se_bin o_mod (se_var 1) (se_bin o_pow (se_int) (se_int))) (se_bin o_pow (se_int) (se_int))) (sa_cons (se_bin o_add (se_bin o_mod (se_var 1) (se_bin o_pow (se_int) (se_int))) (se_bin o_mod (se_var 2) (se_bin o_pow (se_int) (se_int)))) (sa_nil))))))) (ss_nil))
    (ss_cons (ss_if (st_cmp (o_eq (hu_big hr)) (se_bin o_mod (se_var 3) (se_int)) (se_int)) (ss_one (ss_ret (se_tup (sa_cons (se_str) (sa_cons (se_bin o_add (se_str) (se_ix (SF.fz (sf_lst (sa_cons (se_str) (sa_cons (se_str) (sa_cons (se_str) (sa_nil)))))) (se_bin o_mod (se_var 1) (se_int)))) (sa_nil)))))) (ss_nil))
    (ss_cons (ss_if (st_cmp (o_eq (hu_big hr)) (se_bin o_mod (se_var 3) (se_int)) (se_int)) (ss_cons (ss_set 6 (se_ix (SF.fz (sf_lst (sa_cons (se_str) (sa_cons (se_str) (sa_nil))))) (se_callT (b_int) rfl Z_int (by decide +kernel) (sa_cons (se_cmp (o_eq (hu_big hr)) (se_var 4) (se_str)) (sa_nil)))) nd)
    (ss_one (ss_ret (se_tup (sa_cons (se_str) (sa_cons (se_tup (sa_cons (se_tup (sa_cons (se_var 4) (sa_cons (se_tup (sa_cons (se_str) (sa_cons (se_var 5) (sa_nil)))) (sa_nil)))) (sa_cons (se_tup (sa_cons (se_var 6) (sa_cons (se_tup (sa_cons (se_str) (sa_cons (se_tup (sa_cons (se_tup (sa_cons (se_str) (sa_cons (se_var 4) (sa_nil)))) (sa_cons (se_tup (sa_cons (se_str) (sa_cons (se_var 5) (sa_nil)))) (sa_nil)))) (sa_nil)))) (sa_nil)))) (sa_nil)))) (sa_nil))))))) (ss_nil))
    (ss_cons (ss_if (st_cmp (o_eq (hu_big hr)) (se_bin o_mod (se_var 3) (se_int)) (se_int)) (ss_one (ss_ret (se_tup (sa_cons (se_str) (sa_cons (se_tup (sa_cons (se_tup (sa_cons (se_str) (sa_cons (se_var 4) (sa_nil)))) (sa_cons (se_tup (sa_cons (se_str) (sa_cons (se_tup (sa_cons (se_str) (sa_cons (se_var 5) (sa_nil)))) (sa_nil)))) (sa_cons (se_tup (sa_cons (se_str) (sa_cons (se_var 4) (sa_nil)))) (sa_nil))))) (sa_nil)))))) (ss_nil))
    (ss_cons (ss_if (st_cmp (o_eq (hu_big hr)) (se_bin o_mod (se_var 3) (se_int)) (se_int)) (ss_one (ss_ret (se_tup (sa_cons (se_str) (sa_cons (se_tup (sa_cons (se_str) (sa_cons (se_var 4) (sa_nil)))) (sa_nil)))))) (ss_nil))
    (ss_cons (ss_if (st_cmp (o_eq (hu_big hr)) (se_bin o_mod (se_var 3) (se_int)) (se_int)) (ss_one (ss_ret (se_tup (sa_cons (se_str) (sa_cons (se_tup (sa_cons (se_str) (sa_cons (se_var 4) (sa_nil)))) (sa_cons (se_bin o_add (se_int) (se_bin o_mod (se_var 2) (se_int))) (sa_nil))))))) (ss_nil))
    (ss_one (ss_ret (se_tup (sa_cons (se_str) (sa_cons (se_tup (sa_cons (se_str) (sa_cons (se_tup (sa_cons (se_tup (sa_cons (se_str) (sa_cons (se_tup (sa_cons (se_str) (sa_cons (se_var 5) (sa_nil)))) (sa_nil)))) (sa_cons (se_tup (sa_cons (se_str) (sa_cons (se_tup (sa_nil)) (sa_nil)))) (sa_nil)))) (sa_nil)))) (sa_nil)))))))))))))
set_option maxHeartbeats 4000000 in
theorem ok_l_text {a : Addr} {fd : FuncData} (F : L2.Fun K "_law_text" "_law_text" s_l_text a fd) {k : Nat} (hk : 0 ≤ k) {c_l_text : List D → Sto → R D} {a_l_text : Addr} {f_l_text : FuncData} (G_l_text : FnOk P w K mg base (L2.CX P w) k a_l_text f_l_text P_l_text (spG K ct 1 c_l_text)) (M_l_text : mg "_law_text" = some (.ref a_l_text)) (K_l_text : PySem.W.keepIn K (.ref a_l_text) = true) (B_l_text : Binds K f_l_text P_l_text []) (Z_str : mg "str" = none) :
    FnOk P w K mg base (L2.CX P w) (k + 1) a fd P_l_text (spG K ct 1 (U_l_text c_l_text)) := by
  refine fn_ok (N := N_l_text) (ct := ct) F sc_l_text (by decide) (fun cdv A outer s H v E hr => ?_)
  have nd := sc_l_text.nd
  exact ss_cons (ss_if (st_cmp (o_eq (hu_big hr)) (se_ix (se_var 0) (se_int)) (se_str)) (ss_one (ss_ret (se_ix (se_var 0) (se_int)))) (ss_nil))
    (ss_cons (ss_if (st_cmp (o_eq (hu_big hr)) (se_ix (se_var 0) (se_int)) (se_str)) (ss_one (ss_ret (se_bin o_add (se_bin o_add (se_bin o_add (se_bin o_add (se_str) (se_callT (b_str) rfl Z_str (by decide +kernel) (sa_cons (se_ix (se_var 0) (se_int)) (sa_nil)))) (se_str)) (se_callT (b_str) rfl Z_str (by decide +kernel) (sa_cons (se_ix (se_var 0) (se_int)) (sa_nil)))) (se_str)))) (ss_nil))
    (ss_cons (ss_if (st_cmp (o_eq (hu_big hr)) (se_ix (se_var 0) (se_int)) (se_str)) (ss_one (ss_ret (se_bin o_add (se_bin o_add (se_str) (se_ix (se_var 0) (se_int))) (se_str)))) (ss_nil))
    (ss_cons (ss_if (st_cmp (o_eq (hu_big hr)) (se_ix (se_var 0) (se_int)) (se_str)) (ss_one (ss_ret (se_bin o_add (se_bin o_add (se_str) (se_m1 PySem.F.slot_str_join PySem.F.type_str_join m_join (se_str) (SF.fz (sf_lc [("_law_part", 1)] rfl nd (si_seq (se_ix (se_var 0) (se_int))) (blkOk_by (by change blkC N_l_text (defScope s_l_text) _ _ = true; decide +kernel)) (by decide) (fun _ _ _ _ _ => sg_name 1 nd) (fun _ _ _ _ _ => sts_nil) (fun _ _ _ _ _ => se_call G_l_text (hr) takes0 rfl M_l_text K_l_text B_l_text (sa_cons (se_var 1) (sa_nil)) (lenA_cons (lenA_nil))))))) (se_str)))) (ss_nil))
    (ss_cons (ss_if (st_cmp (o_eq (hu_big hr)) (se_ix (se_var 0) (se_int)) (se_str)) (ss_one (ss_ret (se_bin o_add (se_bin o_add (se_str) (se_m1 PySem.F.slot_str_join PySem.F.type_str_join m_join (se_str) (SF.fz (sf_lc [("_law_mark", 2), ("_law_part", 1)] rfl nd (si_seq (se_ix (se_var 0) (se_int))) (blkOk_by (by change blkC N_l_text (defScope s_l_text) _ _ = true; decide +kernel)) (by decide) (fun _ _ _ _ _ => sg_tup rfl (sgs_cons (sg_name 2 nd) (sgs_cons (sg_name 1 nd) (sgs_nil)))) (fun _ _ _ _ _ => sts_nil) (fun _ _ _ _ _ => se_bin o_add (se_bin o_add (se_var 2) (se_str)) (se_call G_l_text (hr) takes0 rfl M_l_text K_l_text B_l_text (sa_cons (se_var 1) (sa_nil)) (lenA_cons (lenA_nil)))))))) (se_str)))) (ss_nil))
    (ss_cons (ss_if (st_cmp (o_eq (hu_big hr)) (se_ix (se_var 0) (se_int)) (se_str)) (ss_one (ss_ret (se_bin o_add (se_bin o_add (se_bin o_add (se_bin o_add (se_str) (se_call G_l_text (hr) (takes_of rfl rfl rfl rfl) rfl M_l_text K_l_text B_l_text (sa_cons (se_ix (se_var 0) (se_int)) (sa_nil)) (lenA_cons (lenA_nil)))) (se_str)) (se_callT (b_str) rfl Z_str (by decide +kernel) (sa_cons (se_ix (se_var 0) (se_int)) (sa_nil)))) (se_str)))) (ss_nil))
    (ss_one (ss_ret (se_bin o_add (se_bin o_add (se_bin o_add (se_ix (se_var 0) (se_int)) (se_str)) (se_call G_l_text (hr) (takes_of rfl rfl rfl rfl) rfl M_l_text K_l_text B_l_text (sa_cons (se_ix (se_var 0) (se_int)) (sa_nil)) (lenA_cons (lenA_nil)))) (se_str)))))))))
set_option maxHeartbeats 4000000 in
theorem ok_l_uses {a : Addr} {fd : FuncData} (F : L2.Fun K "_law_uses" "_law_uses" s_l_uses a fd) {k : Nat} (hk : 0 ≤ k) {c_l_uses : List D → Sto → R D} {a_l_uses : Addr} {f_l_uses : FuncData} (G_l_uses : FnOk P w K mg base (L2.CX P w) k a_l_uses f_l_uses P_l_uses (spG K ct 1 c_l_uses)) (M_l_uses : mg "_law_uses" = some (.ref a_l_uses)) (K_l_uses : PySem.W.keepIn K (.ref a_l_uses) = true) (B_l_uses : Binds K f_l_uses P_l_uses []) (Z_list : mg "list" = none) :
    FnOk P w K mg base (L2.CX P w) (k + 1) a fd P_l_uses (spG K ct 1 (U_l_uses c_l_uses)) := by
  refine fn_ok (N := N_l_uses) (ct := ct) F sc_l_uses (by decide) (fun cdv A outer s H v E hr => ?_)
  have nd := sc_l_uses.nd
  exact ss_cons (ss_if (st_cmp (o_eq (hu_big hr)) (se_ix (se_var 0) (se_int)) (se_str)) (ss_one (ss_ret (SF.fz (sf_lst (sa_cons (se_ix (se_var 0) (se_int)) (sa_nil)))))) (ss_nil))
    (ss_cons (ss_set 1 (SF.fz (sf_lst (sa_nil))) nd)
    (ss_cons (ss_if (st_cmp (o_eq (hu_big hr)) (se_ix (se_var 0) (se_int)) (se_str)) (ss_one (ss_set 1 (se_callT (b_list rfl) rfl Z_list (by decide +kernel) (sa_cons (se_ix (se_var 0) (se_int)) (sa_nil))) nd)) (ss_nil))
    (ss_cons (ss_if (st_cmp (o_eq (hu_big hr)) (se_ix (se_var 0) (se_int)) (se_str)) (ss_one (ss_setLc 1 (g := eFz) [("_law_mark", 4), ("_law_part", 3)] (fun _ _ _ z => lift_fz z) rfl nd rfl rfl (sw_true rfl rfl rfl (by decide +kernel)) (si_seq (se_ix (se_var 0) (se_int))) (blkOk_by (by change blkC N_l_uses (defScope s_l_uses) _ _ = true; decide +kernel)) (by decide) (fun _ _ _ _ _ => sg_tup rfl (sgs_cons (sg_name 4 nd) (sgs_cons (sg_name 3 nd) (sgs_nil)))) (fun _ _ _ _ _ => sts_nil) (fun _ _ _ _ _ => se_var 3))) (ss_nil))
    (ss_cons (ss_if (st_cmp o_in (se_ix (se_var 0) (se_int)) (se_tup (sa_cons (se_str) (sa_cons (se_str) (sa_cons (se_str) (sa_cons (se_str) (sa_nil))))))) (ss_one (ss_set 1 (SF.fz (sf_lst (sa_cons (se_ix (se_var 0) (se_int)) (sa_nil)))) nd)) (ss_nil))
    (ss_cons (ss_set 2 (SF.fz (sf_lst (sa_nil))) nd)
    (ss_cons (ss_for (passes_of rfl) rfl (si_seq (se_var 1)) (sg_name 3 nd) (ss_one (ss_set 2 (se_bin o_add (se_var 2) (SF.fz (sf_lc [("_law_name", 5)] rfl nd (si_seq (se_frz (se_call G_l_uses (hr) (takes_of rfl rfl rfl rfl) rfl M_l_uses K_l_uses B_l_uses (sa_cons (se_var 3) (sa_nil)) (lenA_cons (lenA_nil))))) (blkOk_by (by change blkC N_l_uses (defScope s_l_uses) _ _ = true; decide +kernel)) (by decide) (fun _ _ _ _ _ => sg_name 5 nd) (fun _ _ _ _ _ => sts_one (st_cmp o_nin (se_var 5) (se_var 2))) (fun _ _ _ _ _ => se_var 5)))) nd)))
    (ss_one (ss_ret (se_var 2)))))))))
set_option maxHeartbeats 4000000 in
theorem ok_inner_shapes {a : Addr} {fd : FuncData} (F : L2.Fun K "inner_shapes" "inner_shapes" s_inner_shapes a fd) (Z_list : mg "list" = none) :
    FnOk P w K mg base (L2.CX P w) 1 a fd P_inner_shapes (spG K ct 1 S_inner_shapes) := by
  refine fn_ok (N := N_inner_shapes) (ct := ct) F sc_inner_shapes (by decide) (fun cdv A outer s H v E hr => ?_)
  have nd := sc_inner_shapes.nd
  exact ss_cons (ss_if (st_cmp (o_eq (hu_big hr)) (se_ix (se_var 0) (se_int)) (se_str)) (ss_one (ss_ret (se_callT (b_list rfl) rfl Z_list (by decide +kernel) (sa_cons (se_ix (se_var 0) (se_int)) (sa_nil))))) (ss_nil))
    (ss_cons (ss_if (st_cmp (o_eq (hu_big hr)) (se_ix (se_var 0) (se_int)) (se_str)) (ss_one (ss_ret (SF.fz (sf_lc [("mark", 1), ("part", 2)] rfl nd (si_seq (se_ix (se_var 0) (se_int))) (blkOk_by (by change blkC N_inner_shapes (defScope s_inner_shapes) _ _ = true; decide +kernel)) (by decide) (fun _ _ _ _ _ => sg_tup rfl (sgs_cons (sg_name 1 nd) (sgs_cons (sg_name 2 nd) (sgs_nil)))) (fun _ _ _ _ _ => sts_nil) (fun _ _ _ _ _ => se_var 2))))) (ss_nil))
    (ss_cons (ss_if (st_cmp o_in (se_ix (se_var 0) (se_int)) (se_tup (sa_cons (se_str) (sa_cons (se_str) (sa_cons (se_str) (sa_cons (se_str) (sa_nil))))))) (ss_one (ss_ret (SF.fz (sf_lst (sa_cons (se_ix (se_var 0) (se_int)) (sa_nil)))))) (ss_nil))
    (ss_one (ss_ret (SF.fz (sf_lst (sa_nil)))))))
set_option maxHeartbeats 4000000 in
theorem ok_names_used {a : Addr} {fd : FuncData} (F : L2.Fun K "names_used" "names_used" s_names_used a fd) {k : Nat} (hk : 1 ≤ k) {c_names_used : List D → Sto → R D} {a_inner_shapes : Addr} {f_inner_shapes : FuncData} (G_inner_shapes : FnOk P w K mg base (L2.CX P w) 1 a_inner_shapes f_inner_shapes P_inner_shapes (spG K ct 1 S_inner_shapes)) (M_inner_shapes : mg "inner_shapes" = some (.ref a_inner_shapes)) (K_inner_shapes : PySem.W.keepIn K (.ref a_inner_shapes) = true) (B_inner_shapes : Binds K f_inner_shapes P_inner_shapes []) {a_names_used : Addr} {f_names_used : FuncData} (G_names_used : FnOk P w K mg base (L2.CX P w) k a_names_used f_names_used P_names_used (spG K ct 1 c_names_used)) (M_names_used : mg "names_used" = some (.ref a_names_used)) (K_names_used : PySem.W.keepIn K (.ref a_names_used) = true) (B_names_used : Binds K f_names_used P_names_used []) :
    FnOk P w K mg base (L2.CX P w) (k + 1) a fd P_names_used (spG K ct 1 (U_names_used c_names_used)) := by
  refine fn_ok (N := N_names_used) (ct := ct) F sc_names_used (by decide) (fun cdv A outer s H v E hr => ?_)
  have nd := sc_names_used.nd
  exact ss_cons (ss_if (st_cmp (o_eq (hu_big hr)) (se_ix (se_var 0) (se_int)) (se_str)) (ss_one (ss_ret (SF.nw (sf_lst (sa_cons (se_ix (se_var 0) (se_int)) (sa_nil)))))) (ss_nil))
    (ss_cons (ss_set 1 (SF.nw (sf_lst (sa_nil))) nd)
    (ss_cons (ss_for (passes_of rfl) rfl (si_seq (se_frz (se_call G_inner_shapes (hr.mono (Nat.le_trans (by decide) hk)) (takes_of rfl rfl rfl rfl) rfl M_inner_shapes K_inner_shapes B_inner_shapes (sa_cons (se_var 0) (sa_nil)) (lenA_cons (lenA_nil))))) (sg_name 2 nd) (ss_one (ss_for (passes_of rfl) rfl (si_seq (se_frz (se_call G_names_used (hr) (takes_of rfl rfl rfl rfl) rfl M_names_used K_names_used B_names_used (sa_cons (se_var 2) (sa_nil)) (lenA_cons (lenA_nil))))) (sg_name 3 nd) (ss_one (ss_if (st_cmp o_nin (se_var 3) (se_var 1)) (ss_one (ss_expr (se_app (se_var 1) (se_var 3)))) (ss_nil))))))
    (ss_one (ss_ret (se_var 1)))))
set_option maxHeartbeats 4000000 in
theorem ok_has_no_range {a : Addr} {fd : FuncData} (F : L2.Fun K "has_no_range" "has_no_range" s_has_no_range a fd) {k : Nat} (hk : 1 ≤ k) {c_has_no_range : List D → Sto → R D} {a_has_no_range : Addr} {f_has_no_range : FuncData} (G_has_no_range : FnOk P w K mg base (L2.CX P w) k a_has_no_range f_has_no_range P_has_no_range (spG K ct 1 c_has_no_range)) (M_has_no_range : mg "has_no_range" = some (.ref a_has_no_range)) (K_has_no_range : PySem.W.keepIn K (.ref a_has_no_range) = true) (B_has_no_range : Binds K f_has_no_range P_has_no_range []) {a_inner_shapes : Addr} {f_inner_shapes : FuncData} (G_inner_shapes : FnOk P w K mg base (L2.CX P w) 1 a_inner_shapes f_inner_shapes P_inner_shapes (spG K ct 1 S_inner_shapes)) (M_inner_shapes : mg "inner_shapes" = some (.ref a_inner_shapes)) (K_inner_shapes : PySem.W.keepIn K (.ref a_inner_shapes) = true) (B_inner_shapes : Binds K f_inner_shapes P_inner_shapes []) (Z_any : mg "any" = none) :
    FnOk P w K mg base (L2.CX P w) (k + 1) a fd P_has_no_range (spG K ct 1 (U_has_no_range c_has_no_range)) := by
  refine fn_ok (N := N_has_no_range) (ct := ct) F sc_has_no_range (by decide) (fun cdv A outer s H v E hr => ?_)
  have nd := sc_has_no_range.nd
  exact ss_cons (ss_if (PW.pt (sw_and (st_cmp (o_eq (hu_big hr)) (se_ix (se_var 0) (se_int)) (se_str)) (sw_and1 (st_cmp o_lt (se_ix (se_var 0) (se_int)) (se_ix (se_var 0) (se_int)))))) (ss_one (ss_ret (se_bl))) (ss_nil))
    (ss_one (ss_ret (se_callB (b_any rfl) rfl Z_any (by decide +kernel) (sa_cons (SF.fz (sf_lc [("part", 1)] rfl nd (si_seq (se_frz (se_call G_inner_shapes (hr.mono (Nat.le_trans (by decide) hk)) (takes_of rfl rfl rfl rfl) rfl M_inner_shapes K_inner_shapes B_inner_shapes (sa_cons (se_var 0) (sa_nil)) (lenA_cons (lenA_nil))))) (blkOk_by (by change blkC N_has_no_range (defScope s_has_no_range) _ _ = true; decide +kernel)) (by decide) (fun _ _ _ _ _ => sg_name 1 nd) (fun _ _ _ _ _ => sts_nil) (fun _ _ _ _ _ => se_call G_has_no_range (hr) takes0 rfl M_has_no_range K_has_no_range B_has_no_range (sa_cons (se_var 1) (sa_nil)) (lenA_cons (lenA_nil))))) (sa_nil)))))
set_option maxHeartbeats 4000000 in
theorem ok_has_twice {a : Addr} {fd : FuncData} (F : L2.Fun K "has_twice" "has_twice" s_has_twice a fd) {k : Nat} (hk : 1 ≤ k) {c_has_twice : List D → Sto → R D} {a_has_twice : Addr} {f_has_twice : FuncData} (G_has_twice : FnOk P w K mg base (L2.CX P w) k a_has_twice f_has_twice P_has_twice (spG K ct 1 c_has_twice)) (M_has_twice : mg "has_twice" = some (.ref a_has_twice)) (K_has_twice : PySem.W.keepIn K (.ref a_has_twice) = true) (B_has_twice : Binds K f_has_twice P_has_twice []) {a_inner_shapes : Addr} {f_inner_shapes : FuncData} (G_inner_shapes : FnOk P w K mg base (L2.CX P w) 1 a_inner_shapes f_inner_shapes P_inner_shapes (spG K ct 1 S_inner_shapes)) (M_inner_shapes : mg "inner_shapes" = some (.ref a_inner_shapes)) (K_inner_shapes : PySem.W.keepIn K (.ref a_inner_shapes) = true) (B_inner_shapes : Binds K f_inner_shapes P_inner_shapes []) (Z_any : mg "any" = none) (Z_len : mg "len" = none) (Z_list : mg "list" = none) (Z_set : mg "set" = none) :
    FnOk P w K mg base (L2.CX P w) (k + 1) a fd P_has_twice (spG K ct 1 (U_has_twice c_has_twice)) := by
  refine fn_ok (N := N_has_twice) (ct := ct) F sc_has_twice (by decide) (fun cdv A outer s H v E hr => ?_)
  have nd := sc_has_twice.nd
  exact ss_cons (ss_set 1 (SF.fz (sf_lst (sa_nil))) nd)
    (ss_cons (ss_if (st_cmp (o_eq (hu_big hr)) (se_ix (se_var 0) (se_int)) (se_str)) (ss_one (ss_setLc 1 (g := eFz) [("mark", 2), ("part", 3)] (fun _ _ _ z => lift_fz z) rfl nd rfl rfl (sw_true rfl rfl rfl (by decide +kernel)) (si_seq (se_ix (se_var 0) (se_int))) (blkOk_by (by change blkC N_has_twice (defScope s_has_twice) _ _ = true; decide +kernel)) (by decide) (fun _ _ _ _ _ => sg_tup rfl (sgs_cons (sg_name 2 nd) (sgs_cons (sg_name 3 nd) (sgs_nil)))) (fun _ _ _ _ _ => sts_nil) (fun _ _ _ _ _ => se_var 2))) (ss_nil))
    (ss_cons (ss_if (st_cmp (o_eq (hu_big hr)) (se_ix (se_var 0) (se_int)) (se_str)) (ss_one (ss_set 1 (se_callT (b_list rfl) rfl Z_list (by decide +kernel) (sa_cons (se_ix (se_var 0) (se_int)) (sa_nil))) nd)) (ss_nil))
    (ss_cons (ss_if (st_cmp (o_ne (hu_big hr)) (se_lenSet rfl Z_len rfl Z_set (se_var 1)) (se_callB (b_len) rfl Z_len (by decide +kernel) (sa_cons (se_var 1) (sa_nil)))) (ss_one (ss_ret (se_bl))) (ss_nil))
    (ss_one (ss_ret (se_callB (b_any rfl) rfl Z_any (by decide +kernel) (sa_cons (SF.fz (sf_lc [("part", 3)] rfl nd (si_seq (se_frz (se_call G_inner_shapes (hr.mono (Nat.le_trans (by decide) hk)) (takes_of rfl rfl rfl rfl) rfl M_inner_shapes K_inner_shapes B_inner_shapes (sa_cons (se_var 0) (sa_nil)) (lenA_cons (lenA_nil))))) (blkOk_by (by change blkC N_has_twice (defScope s_has_twice) _ _ = true; decide +kernel)) (by decide) (fun _ _ _ _ _ => sg_name 3 nd) (fun _ _ _ _ _ => sts_nil) (fun _ _ _ _ _ => se_call G_has_twice (hr) takes0 rfl M_has_twice K_has_twice B_has_twice (sa_cons (se_var 3) (sa_nil)) (lenA_cons (lenA_nil))))) (sa_nil))))))))
set_option maxHeartbeats 4000000 in
theorem ok_leads_back {a : Addr} {fd : FuncData} (F : L2.Fun K "leads_back" "leads_back" s_leads_back a fd) {a_shape_of : Addr} {f_shape_of : FuncData} (G_shape_of : FnOk P w K mg base (L2.CX P w) 1 a_shape_of f_shape_of P_shape_of (spG K ct 2 S_shape_of)) (M_shape_of : mg "shape_of" = some (.ref a_shape_of)) (K_shape_of : PySem.W.keepIn K (.ref a_shape_of) = true) (B_shape_of : Binds K f_shape_of P_shape_of []) (Z_len : mg "len" = none) (Z_range : mg "range" = none) :
    FnOk P w K mg base (L2.CX P w) 2 a fd P_leads_back (spG K ct 2 S_leads_back) := by
  refine fn_ok (N := N_leads_back) (ct := ct) F sc_leads_back (by decide) (fun cdv A outer s H v E hr => ?_)
  have nd := sc_leads_back.nd
  exact ss_cons (ss_set 2 (se_call G_shape_of (hr.mono (by decide)) (takes_of rfl rfl rfl rfl) rfl M_shape_of K_shape_of B_shape_of (sa_cons (se_var 0) (sa_cons (se_var 1) (sa_nil))) (lenA_cons (lenA_cons (lenA_nil)))) nd)
    (ss_cons (ss_for (passes_of rfl) rfl (si_range1 rfl Z_range (sa_cons (se_callB (b_len) rfl Z_len (by decide +kernel) (sa_cons (se_var 0) (sa_nil))) (sa_nil))) (sg_name 3 nd) (ss_cons (ss_if (st_cmp (o_ne (hu_big hr)) (se_ix (se_var 2) (se_int)) (se_str)) (ss_one (ss_ret (se_bl))) (ss_nil))
    (ss_cons (ss_if (st_cmp (o_eq (hu_big hr)) (se_ix (se_var 2) (se_int)) (se_var 1)) (ss_one (ss_ret (se_bl))) (ss_nil))
    (ss_one (ss_set 2 (se_call G_shape_of (hr.mono (by decide)) (takes_of rfl rfl rfl rfl) rfl M_shape_of K_shape_of B_shape_of (sa_cons (se_var 0) (sa_cons (se_ix (se_var 2) (se_int)) (sa_nil))) (lenA_cons (lenA_cons (lenA_nil)))) nd)))))
    (ss_one (ss_ret (se_bl))))
set_option maxHeartbeats 4000000 in
theorem ok_in_bounds {a : Addr} {fd : FuncData} (F : L2.Fun K "in_bounds" "in_bounds" s_in_bounds a fd) (Z_len : mg "len" = none) (Z_max : mg "max" = none) (CN_MOST_OPEN : KC K mg "MOST_OPEN" (.int 6)) (CN_MOST_SIGNS : KC K mg "MOST_SIGNS" (.int 2000)) (X_Crowded : XC K mg ct "Crowded") :
    FnOk P w K mg base (L2.CX P w) 1 a fd P_in_bounds (spG K ct 1 S_in_bounds) := by
  refine fn_ok (N := N_in_bounds) (ct := ct) F sc_in_bounds (by decide) (fun cdv A outer s H v E hr => ?_)
  have nd := sc_in_bounds.nd
  exact ss_cons (ss_set 1 (se_int) nd)
    (ss_cons (ss_set 2 (se_int) nd)
    (ss_cons (ss_for (passes_of rfl) rfl (si_seq (se_var 0)) (sg_name 3 nd) (ss_one (ss_if (st_cmp (o_eq (hu_big hr)) (se_var 3) (se_str)) (ss_cons (ss_aug 1 io_addI (se_int) nd)
    (ss_one (ss_set 2 (se_callB (b_max2 rfl) rfl Z_max (by decide +kernel) (sa_cons (se_var 2) (sa_cons (se_var 1) (sa_nil)))) nd))) (ss_one (ss_if (st_cmp (o_eq (hu_big hr)) (se_var 3) (se_str)) (ss_one (ss_aug 1 io_sub (se_int) nd)) (ss_nil))))))
    (ss_one (ss_if (PW.pt (sw_or (st_cmp o_gt (se_callB (b_len) rfl Z_len (by decide +kernel) (sa_cons (se_var 0) (sa_nil))) (se_con CN_MOST_SIGNS)) (sw_or1 (st_cmp o_gt (se_var 2) (se_con CN_MOST_OPEN))))) (ss_one (ss_raise (cn := "Crowded") rfl (takes_of rfl rfl rfl rfl) X_Crowded rfl)) (ss_nil)))))
set_option maxHeartbeats 4000000 in
theorem ok_is_mark {a : Addr} {fd : FuncData} (F : L2.Fun K "is_mark" "is_mark" s_is_mark a fd) (Z_all : mg "all" = none) (Z_len : mg "len" = none) (CN_LETTERS : KC K mg "LETTERS" (.str (Str.ofString "abcdefghijklmnopqrstuvwxyz"))) :
    FnOk P w K mg base (L2.CX P w) 1 a fd P_is_mark (spG K ct 1 S_is_mark) := by
  refine fn_ok (N := N_is_mark) (ct := ct) F sc_is_mark (by decide) (fun cdv A outer s H v E hr => ?_)
  have nd := sc_is_mark.nd
  exact ss_one (ss_ret (se_and (se_chain o_le o_le (se_int) (se_callB (b_len) rfl Z_len (by decide +kernel) (sa_cons (se_var 0) (sa_nil))) (se_int)) (se_one (se_callB (b_all rfl) rfl Z_all (by decide +kernel) (sa_cons (SF.fz (sf_lc [("sign", 1)] rfl nd (si_seq (se_var 0)) (blkOk_by (by change blkC N_is_mark (defScope s_is_mark) _ _ = true; decide +kernel)) (by decide) (fun _ _ _ _ _ => sg_name 1 nd) (fun _ _ _ _ _ => sts_nil) (fun _ _ _ _ _ => se_cmp o_in (se_var 1) (se_con CN_LETTERS)))) (sa_nil))))))
set_option maxHeartbeats 4000000 in
theorem ok_is_word {a : Addr} {fd : FuncData} (F : L2.Fun K "is_word" "is_word" s_is_word a fd) (Z_all : mg "all" = none) (Z_len : mg "len" = none) (CN_FIGURES : KC K mg "FIGURES" (.str (Str.ofString "0123456789"))) (CN_GREAT : KC K mg "GREAT" (.str (Str.ofString "ABCDEFGHIJKLMNOPQRSTUVWXYZ"))) (CN_LETTERS : KC K mg "LETTERS" (.str (Str.ofString "abcdefghijklmnopqrstuvwxyz"))) :
    FnOk P w K mg base (L2.CX P w) 1 a fd P_is_word (spG K ct 1 S_is_word) := by
  refine fn_ok (N := N_is_word) (ct := ct) F sc_is_word (by decide) (fun cdv A outer s H v E hr => ?_)
  have nd := sc_is_word.nd
  exact ss_cons (ss_set 1 (se_bin o_add (se_bin o_add (se_bin o_add (se_con CN_LETTERS) (se_con CN_GREAT)) (se_con CN_FIGURES)) (se_str)) nd)
    (ss_one (ss_ret (se_and (se_chain o_le o_le (se_int) (se_callB (b_len) rfl Z_len (by decide +kernel) (sa_cons (se_var 0) (sa_nil))) (se_int)) (se_one (se_callB (b_all rfl) rfl Z_all (by decide +kernel) (sa_cons (SF.fz (sf_lc [("sign", 2)] rfl nd (si_seq (se_var 0)) (blkOk_by (by change blkC N_is_word (defScope s_is_word) _ _ = true; decide +kernel)) (by decide) (fun _ _ _ _ _ => sg_name 2 nd) (fun _ _ _ _ _ => sts_nil) (fun _ _ _ _ _ => se_cmp o_in (se_var 2) (se_var 1)))) (sa_nil)))))))
set_option maxHeartbeats 4000000 in
theorem ok_head_of {a : Addr} {fd : FuncData} (F : L2.Fun K "head_of" "head_of" s_head_of a fd) {a_is_mark : Addr} {f_is_mark : FuncData} (G_is_mark : FnOk P w K mg base (L2.CX P w) 1 a_is_mark f_is_mark P_is_mark (spG K ct 1 S_is_mark)) (M_is_mark : mg "is_mark" = some (.ref a_is_mark)) (K_is_mark : PySem.W.keepIn K (.ref a_is_mark) = true) (B_is_mark : Binds K f_is_mark P_is_mark []) {a_is_word : Addr} {f_is_word : FuncData} (G_is_word : FnOk P w K mg base (L2.CX P w) 1 a_is_word f_is_word P_is_word (spG K ct 1 S_is_word)) (M_is_word : mg "is_word" = some (.ref a_is_word)) (K_is_word : PySem.W.keepIn K (.ref a_is_word) = true) (B_is_word : Binds K f_is_word P_is_word []) (Z_len : mg "len" = none) (X_NoNote : XC K mg ct "NoNote") :
    FnOk P w K mg base (L2.CX P w) 2 a fd P_head_of (spG K ct 2 S_head_of) := by
  refine fn_ok (N := N_head_of) (ct := ct) F sc_head_of (by decide) (fun cdv A outer s H v E hr => ?_)
  have nd := sc_head_of.nd
  exact ss_cons (ss_set 2 (se_var 1) nd)
    (ss_cons (ss_while fuel (passes_of rfl) (PW.pt (sw_and (st_cmp o_lt (se_var 2) (se_callB (b_len) rfl Z_len (by decide +kernel) (sa_cons (se_var 0) (sa_nil)))) (sw_and1 (st_cmp o_nin (se_ix (se_var 0) (se_var 2)) (se_str))))) (ss_one (ss_aug 2 io_addI (se_int) nd)))
    (ss_cons (ss_asg (se_m1 PySem.F.slot_str_partition PySem.F.type_str_partition m_part (se_sl (se_var 0) (so_some (se_var 1)) (so_some (se_var 2))) (se_str)) (sg_tup rfl (sgs_cons (sg_name 3 nd) (sgs_cons (sg_name 4 nd) (sgs_cons (sg_name 5 nd) (sgs_nil))))))
    (ss_cons (ss_if (st_cmp (o_eq (hu_big hr)) (se_var 4) (se_str)) (ss_cons (ss_set 3 (se_str) nd)
    (ss_one (ss_set 5 (se_sl (se_var 0) (so_some (se_var 1)) (so_some (se_var 2))) nd))) (ss_one (ss_if (st_not (st_val (se_call G_is_mark (hr.mono (by decide)) (takes_of rfl rfl rfl rfl) rfl M_is_mark K_is_mark B_is_mark (sa_cons (se_var 3) (sa_nil)) (lenA_cons (lenA_nil))))) (ss_one (ss_raise (cn := "NoNote") rfl (takes_of rfl rfl rfl rfl) X_NoNote rfl)) (ss_nil))))
    (ss_cons (ss_if (st_not (st_val (se_call G_is_word (hr.mono (by decide)) (takes_of rfl rfl rfl rfl) rfl M_is_word K_is_word B_is_word (sa_cons (se_var 5) (sa_nil)) (lenA_cons (lenA_nil))))) (ss_one (ss_raise (cn := "NoNote") rfl (takes_of rfl rfl rfl rfl) X_NoNote rfl)) (ss_nil))
    (ss_one (ss_ret (se_tup (sa_cons (se_var 3) (sa_cons (se_var 5) (sa_cons (se_var 2) (sa_nil)))))))))))
set_option maxHeartbeats 4000000 in
theorem ok_note_at {a : Addr} {fd : FuncData} (F : L2.Fun K "note_at" "note_at" s_note_at a fd) {k : Nat} (hk : 2 ≤ k) {c_note_at : List D → Sto → R D} {a_head_of : Addr} {f_head_of : FuncData} (G_head_of : FnOk P w K mg base (L2.CX P w) 2 a_head_of f_head_of P_head_of (spG K ct 2 S_head_of)) (M_head_of : mg "head_of" = some (.ref a_head_of)) (K_head_of : PySem.W.keepIn K (.ref a_head_of) = true) (B_head_of : Binds K f_head_of P_head_of []) {a_note_at : Addr} {f_note_at : FuncData} (G_note_at : FnOk P w K mg base (L2.CX P w) k a_note_at f_note_at P_note_at (spG K ct 2 c_note_at)) (M_note_at : mg "note_at" = some (.ref a_note_at)) (K_note_at : PySem.W.keepIn K (.ref a_note_at) = true) (B_note_at : Binds K f_note_at P_note_at []) (Z_tuple : mg "tuple" = none) (X_NoNote : XC K mg ct "NoNote") :
    FnOk P w K mg base (L2.CX P w) (k + 1) a fd P_note_at (spG K ct 2 (U_note_at c_note_at)) := by
  refine fn_ok (N := N_note_at) (ct := ct) F sc_note_at (by decide) (fun cdv A outer s H v E hr => ?_)
  have nd := sc_note_at.nd
  exact ss_cons (ss_asg (se_call G_head_of (hr.mono (Nat.le_trans (by decide) hk)) (takes_of rfl rfl rfl rfl) rfl M_head_of K_head_of B_head_of (sa_cons (se_var 0) (sa_cons (se_var 1) (sa_nil))) (lenA_cons (lenA_cons (lenA_nil)))) (sg_tup rfl (sgs_cons (sg_name 2 nd) (sgs_cons (sg_name 3 nd) (sgs_cons (sg_name 1 nd) (sgs_nil))))))
    (ss_cons (ss_if (st_cmp (o_ne (hu_big hr)) (se_sl (se_var 0) (so_some (se_var 1)) (so_some (se_bin o_add (se_var 1) (se_int)))) (se_str)) (ss_one (ss_ret (se_tup (sa_cons (se_tup (sa_cons (se_var 2) (sa_cons (se_var 3) (sa_cons (se_non) (sa_nil))))) (sa_cons (se_var 1) (sa_nil)))))) (ss_nil))
    (ss_cons (ss_set 4 (SF.nw (sf_lst (sa_nil))) nd)
    (ss_cons (ss_aug 1 io_addI (se_int) nd)
    (ss_cons (ss_if (st_cmp (o_eq (hu_big hr)) (se_sl (se_var 0) (so_some (se_var 1)) (so_some (se_bin o_add (se_var 1) (se_int)))) (se_str)) (ss_one (ss_ret (se_tup (sa_cons (se_tup (sa_cons (se_var 2) (sa_cons (se_var 3) (sa_cons (se_tup (sa_nil)) (sa_nil))))) (sa_cons (se_bin o_add (se_var 1) (se_int)) (sa_nil)))))) (ss_nil))
    (ss_one (ss_while fuel (passes_of rfl) (st_val (se_bl)) (ss_cons (ss_asg (se_call G_note_at (hr) (takes_of rfl rfl rfl rfl) rfl M_note_at K_note_at B_note_at (sa_cons (se_var 0) (sa_cons (se_var 1) (sa_nil))) (lenA_cons (lenA_cons (lenA_nil)))) (sg_tup rfl (sgs_cons (sg_name 5 nd) (sgs_cons (sg_name 1 nd) (sgs_nil)))))
    (ss_cons (ss_expr (se_app (se_var 4) (se_var 5)))
    (ss_cons (ss_if (st_cmp (o_eq (hu_big hr)) (se_sl (se_var 0) (so_some (se_var 1)) (so_some (se_bin o_add (se_var 1) (se_int)))) (se_str)) (ss_one (ss_frz 4 (ss_ret (se_tup (sa_cons (se_tup (sa_cons (se_var 2) (sa_cons (se_var 3) (sa_cons (se_callT (b_tuple) rfl Z_tuple (by decide +kernel) (sa_cons (se_var 4) (sa_nil))) (sa_nil))))) (sa_cons (se_bin o_add (se_var 1) (se_int)) (sa_nil))))))) (ss_nil))
    (ss_cons (ss_if (st_cmp (o_ne (hu_big hr)) (se_sl (se_var 0) (so_some (se_var 1)) (so_some (se_bin o_add (se_var 1) (se_int)))) (se_str)) (ss_one (ss_raise (cn := "NoNote") rfl (takes_of rfl rfl rfl rfl) X_NoNote rfl)) (ss_nil))
    (ss_one (ss_aug 1 io_addI (se_int) nd))))))))))))
set_option maxHeartbeats 4000000 in
theorem ok_read_note {a : Addr} {fd : FuncData} (F : L2.Fun K "read_note" "read_note" s_read_note a fd) {a_in_bounds : Addr} {f_in_bounds : FuncData} (G_in_bounds : FnOk P w K mg base (L2.CX P w) 1 a_in_bounds f_in_bounds P_in_bounds (spG K ct 1 S_in_bounds)) (M_in_bounds : mg "in_bounds" = some (.ref a_in_bounds)) (K_in_bounds : PySem.W.keepIn K (.ref a_in_bounds) = true) (B_in_bounds : Binds K f_in_bounds P_in_bounds []) {a_note_at : Addr} {f_note_at : FuncData} (G_note_at : FnOk P w K mg base (L2.CX P w) 72 a_note_at f_note_at P_note_at (spG K ct 2 (S_note_at 70))) (M_note_at : mg "note_at" = some (.ref a_note_at)) (K_note_at : PySem.W.keepIn K (.ref a_note_at) = true) (B_note_at : Binds K f_note_at P_note_at []) (Z_isinstance : mg "isinstance" = none) (Z_len : mg "len" = none) (Z_str : mg "str" = none) (X_NoNote : XC K mg ct "NoNote") :
    FnOk P w K mg base (L2.CX P w) 73 a fd P_read_note (spG K ct 1 S_read_note) := by
  refine fn_ok (N := N_read_note) (ct := ct) F sc_read_note (by decide) (fun cdv A outer s H v E hr => ?_)
  have nd := sc_read_note.nd
  exact ss_cons (ss_if (st_not (st_val (se_isi (n := "str") (se_var 0) rfl Z_isinstance rfl Z_str (by decide +kernel)))) (ss_one (ss_raise (cn := "NoNote") rfl (takes_of rfl rfl rfl rfl) X_NoNote rfl)) (ss_nil))
    (ss_cons (ss_expr (se_call G_in_bounds (hr.mono (by decide)) (takes_of rfl rfl rfl rfl) rfl M_in_bounds K_in_bounds B_in_bounds (sa_cons (se_var 0) (sa_nil)) (lenA_cons (lenA_nil))))
    (ss_cons (ss_asg (se_call G_note_at (hr.mono (by decide)) (takes_of rfl rfl rfl rfl) rfl M_note_at K_note_at B_note_at (sa_cons (se_var 0) (sa_cons (se_int) (sa_nil))) (lenA_cons (lenA_cons (lenA_nil)))) (sg_tup rfl (sgs_cons (sg_name 1 nd) (sgs_cons (sg_name 2 nd) (sgs_nil)))))
    (ss_cons (ss_if (st_cmp (o_ne (hu_big hr)) (se_var 2) (se_callB (b_len) rfl Z_len (by decide +kernel) (sa_cons (se_var 0) (sa_nil)))) (ss_one (ss_raise (cn := "NoNote") rfl (takes_of rfl rfl rfl rfl) X_NoNote rfl)) (ss_nil))
    (ss_one (ss_ret (se_var 1))))))
set_option maxHeartbeats 4000000 in
theorem ok_is_figures {a : Addr} {fd : FuncData} (F : L2.Fun K "is_figures" "is_figures" s_is_figures a fd) (Z_all : mg "all" = none) (Z_len : mg "len" = none) (CN_FIGURES : KC K mg "FIGURES" (.str (Str.ofString "0123456789"))) :
    FnOk P w K mg base (L2.CX P w) 1 a fd P_is_figures (spG K ct 1 S_is_figures) := by
  refine fn_ok (N := N_is_figures) (ct := ct) F sc_is_figures (by decide) (fun cdv A outer s H v E hr => ?_)
  have nd := sc_is_figures.nd
  exact ss_cons (ss_set 1 (se_var 0) nd)
    (ss_cons (ss_if (st_val (se_m1 PySem.F.slot_str_startswith PySem.F.type_str_startswith m_starts (se_var 0) (se_str))) (ss_one (ss_set 1 (se_sl (se_var 0) (so_some (se_int)) (so_none)) nd)) (ss_nil))
    (ss_cons (ss_if (PW.pt (sw_or (st_not (st_chain o_le o_le (se_int) (se_callB (b_len) rfl Z_len (by decide +kernel) (sa_cons (se_var 1) (sa_nil))) (se_int))) (sw_or1 (st_not (st_val (se_callB (b_all rfl) rfl Z_all (by decide +kernel) (sa_cons (SF.fz (sf_lc [("sign", 2)] rfl nd (si_seq (se_var 1)) (blkOk_by (by change blkC N_is_figures (defScope s_is_figures) _ _ = true; decide +kernel)) (by decide) (fun _ _ _ _ _ => sg_name 2 nd) (fun _ _ _ _ _ => sts_nil) (fun _ _ _ _ _ => se_cmp o_in (se_var 2) (se_con CN_FIGURES)))) (sa_nil)))))))) (ss_one (ss_ret (se_bl))) (ss_nil))
    (ss_one (ss_ret (se_or (se_cmp (o_ne (hu_big hr)) (se_ix (se_var 1) (se_int)) (se_str)) (se_one (se_cmp (o_eq (hu_big hr)) (se_var 0) (se_str))))))))
set_option maxHeartbeats 4000000 in
theorem ok_plain_word {a : Addr} {fd : FuncData} (F : L2.Fun K "plain_word" "plain_word" s_plain_word a fd) (X_NoNote : XC K mg ct "NoNote") :
    FnOk P w K mg base (L2.CX P w) 1 a fd P_plain_word (spG K ct 1 S_plain_word) := by
  refine fn_ok (N := N_plain_word) (ct := ct) F sc_plain_word (by decide) (fun cdv A outer s H v E hr => ?_)
  have nd := sc_plain_word.nd
  exact ss_cons (ss_if (PW.pt (sw_or (st_cmp (o_ne (hu_big hr)) (se_ix (se_var 0) (se_int)) (se_str)) (sw_or1 (st_cmp o_notN (se_ix (se_var 0) (se_int)) (se_non))))) (ss_one (ss_raise (cn := "NoNote") rfl (takes_of rfl rfl rfl rfl) X_NoNote rfl)) (ss_nil))
    (ss_one (ss_ret (se_ix (se_var 0) (se_int))))
set_option maxHeartbeats 4000000 in
theorem ok_plain_number {a : Addr} {fd : FuncData} (F : L2.Fun K "plain_number" "plain_number" s_plain_number a fd) {a_is_figures : Addr} {f_is_figures : FuncData} (G_is_figures : FnOk P w K mg base (L2.CX P w) 1 a_is_figures f_is_figures P_is_figures (spG K ct 1 S_is_figures)) (M_is_figures : mg "is_figures" = some (.ref a_is_figures)) (K_is_figures : PySem.W.keepIn K (.ref a_is_figures) = true) (B_is_figures : Binds K f_is_figures P_is_figures []) {a_plain_word : Addr} {f_plain_word : FuncData} (G_plain_word : FnOk P w K mg base (L2.CX P w) 1 a_plain_word f_plain_word P_plain_word (spG K ct 1 S_plain_word)) (M_plain_word : mg "plain_word" = some (.ref a_plain_word)) (K_plain_word : PySem.W.keepIn K (.ref a_plain_word) = true) (B_plain_word : Binds K f_plain_word P_plain_word []) (Z_int : mg "int" = none) (X_NoNote : XC K mg ct "NoNote") :
    FnOk P w K mg base (L2.CX P w) 2 a fd P_plain_number (spG K ct 1 S_plain_number) := by
  refine fn_ok (N := N_plain_number) (ct := ct) F sc_plain_number (by decide) (fun cdv A outer s H v E hr => ?_)
  have nd := sc_plain_number.nd
  exact ss_cons (ss_set 1 (se_call G_plain_word (hr.mono (by decide)) (takes_of rfl rfl rfl rfl) rfl M_plain_word K_plain_word B_plain_word (sa_cons (se_var 0) (sa_nil)) (lenA_cons (lenA_nil))) nd)
    (ss_cons (ss_if (st_not (st_val (se_call G_is_figures (hr.mono (by decide)) (takes_of rfl rfl rfl rfl) rfl M_is_figures K_is_figures B_is_figures (sa_cons (se_var 1) (sa_nil)) (lenA_cons (lenA_nil))))) (ss_one (ss_raise (cn := "NoNote") rfl (takes_of rfl rfl rfl rfl) X_NoNote rfl)) (ss_nil))
    (ss_one (ss_ret (se_callT (b_int) rfl Z_int (by decide +kernel) (sa_cons (se_var 1) (sa_nil))))))
set_option maxHeartbeats 4000000 in
theorem ok_noted_text {a : Addr} {fd : FuncData} (F : L2.Fun K "noted_text" "noted_text" s_noted_text a fd) {a_plain_word : Addr} {f_plain_word : FuncData} (G_plain_word : FnOk P w K mg base (L2.CX P w) 1 a_plain_word f_plain_word P_plain_word (spG K ct 1 S_plain_word)) (M_plain_word : mg "plain_word" = some (.ref a_plain_word)) (K_plain_word : PySem.W.keepIn K (.ref a_plain_word) = true) (B_plain_word : Binds K f_plain_word P_plain_word []) (X_NoNote : XC K mg ct "NoNote") :
    FnOk P w K mg base (L2.CX P w) 2 a fd P_noted_text (spG K ct 1 S_noted_text) := by
  refine fn_ok (N := N_noted_text) (ct := ct) F sc_noted_text (by decide) (fun cdv A outer s H v E hr => ?_)
  have nd := sc_noted_text.nd
  exact ss_cons (ss_set 1 (se_call G_plain_word (hr.mono (by decide)) (takes_of rfl rfl rfl rfl) rfl M_plain_word K_plain_word B_plain_word (sa_cons (se_ix (se_var 0) (se_int)) (sa_nil)) (lenA_cons (lenA_nil))) nd)
    (ss_cons (ss_if (st_cmp o_in (se_str) (se_var 1)) (ss_one (ss_raise (cn := "NoNote") rfl (takes_of rfl rfl rfl rfl) X_NoNote rfl)) (ss_nil))
    (ss_one (ss_ret (se_tup (sa_cons (se_str) (sa_cons (se_var 1) (sa_nil)))))))
set_option maxHeartbeats 4000000 in
theorem ok_noted_alike {a : Addr} {fd : FuncData} (F : L2.Fun K "noted_alike" "noted_alike" s_noted_alike a fd) {k : Nat} (hk : 2 ≤ k) {c_noted_alike : List D → Sto → R D} {c_noted_pick : List D → Sto → R D} {c_shape_noted : List D → Sto → R D} {c_unlabelled : List D → Sto → R D} {a_plain_number : Addr} {f_plain_number : FuncData} (G_plain_number : FnOk P w K mg base (L2.CX P w) 2 a_plain_number f_plain_number P_plain_number (spG K ct 1 S_plain_number)) (M_plain_number : mg "plain_number" = some (.ref a_plain_number)) (K_plain_number : PySem.W.keepIn K (.ref a_plain_number) = true) (B_plain_number : Binds K f_plain_number P_plain_number []) {a_unlabelled : Addr} {f_unlabelled : FuncData} (G_unlabelled : FnOk P w K mg base (L2.CX P w) k a_unlabelled f_unlabelled P_unlabelled (spG K ct 1 c_unlabelled)) (M_unlabelled : mg "unlabelled" = some (.ref a_unlabelled)) (K_unlabelled : PySem.W.keepIn K (.ref a_unlabelled) = true) (B_unlabelled : Binds K f_unlabelled P_unlabelled []) (CN_MOST_TIMES : KC K mg "MOST_TIMES" (.int 6)) (X_NoNote : XC K mg ct "NoNote") :
    FnOk P w K mg base (L2.CX P w) (k + 1) a fd P_noted_alike (spG K ct 1 (U_noted_alike c_noted_alike c_noted_pick c_shape_noted c_unlabelled)) := by
  refine fn_ok (N := N_noted_alike) (ct := ct) F sc_noted_alike (by decide) (fun cdv A outer s H v E hr => ?_)
  have nd := sc_noted_alike.nd
  exact ss_cons (ss_set 1 (se_call G_plain_number (hr.mono (Nat.le_trans (by decide) hk)) (takes_of rfl rfl rfl rfl) rfl M_plain_number K_plain_number B_plain_number (sa_cons (se_ix (se_var 0) (se_int)) (sa_nil)) (lenA_cons (lenA_nil))) nd)
    (ss_cons (ss_if (st_not (st_chain o_le o_le (se_int) (se_var 1) (se_con CN_MOST_TIMES))) (ss_one (ss_raise (cn := "NoNote") rfl (takes_of rfl rfl rfl rfl) X_NoNote rfl)) (ss_nil))
    (ss_one (ss_ret (se_tup (sa_cons (se_str) (sa_cons (se_call G_unlabelled (hr) (takes_of rfl rfl rfl rfl) rfl M_unlabelled K_unlabelled B_unlabelled (sa_cons (se_ix (se_var 0) (se_int)) (sa_nil)) (lenA_cons (lenA_nil))) (sa_cons (se_var 1) (sa_nil))))))))
set_option maxHeartbeats 4000000 in
theorem ok_noted_pick {a : Addr} {fd : FuncData} (F : L2.Fun K "noted_pick" "noted_pick" s_noted_pick a fd) {k : Nat} (hk : 2 ≤ k) {c_noted_alike : List D → Sto → R D} {c_noted_pick : List D → Sto → R D} {c_shape_noted : List D → Sto → R D} {c_unlabelled : List D → Sto → R D} {a_shape_noted : Addr} {f_shape_noted : FuncData} (G_shape_noted : FnOk P w K mg base (L2.CX P w) k a_shape_noted f_shape_noted P_shape_noted (spG K ct 1 c_shape_noted)) (M_shape_noted : mg "shape_noted" = some (.ref a_shape_noted)) (K_shape_noted : PySem.W.keepIn K (.ref a_shape_noted) = true) (B_shape_noted : Binds K f_shape_noted P_shape_noted []) (Z_tuple : mg "tuple" = none) (X_NoNote : XC K mg ct "NoNote") :
    FnOk P w K mg base (L2.CX P w) (k + 1) a fd P_noted_pick (spG K ct 1 (U_noted_pick c_noted_alike c_noted_pick c_shape_noted c_unlabelled)) := by
  refine fn_ok (N := N_noted_pick) (ct := ct) F sc_noted_pick (by decide) (fun cdv A outer s H v E hr => ?_)
  have nd := sc_noted_pick.nd
  exact ss_cons (ss_set 1 (SF.nw (sf_lst (sa_nil))) nd)
    (ss_cons (ss_for (passes_of rfl) rfl (si_seq (se_var 0)) (sg_name 2 nd) (ss_cons (ss_if (st_cmp (o_eq (hu_big hr)) (se_ix (se_var 2) (se_int)) (se_str)) (ss_one (ss_raise (cn := "NoNote") rfl (takes_of rfl rfl rfl rfl) X_NoNote rfl)) (ss_nil))
    (ss_one (ss_expr (se_app (se_var 1) (se_tup (sa_cons (se_ix (se_var 2) (se_int)) (sa_cons (se_call G_shape_noted (hr) (takes_of rfl rfl rfl rfl) rfl M_shape_noted K_shape_noted B_shape_noted (sa_cons (se_var 2) (sa_nil)) (lenA_cons (lenA_nil))) (sa_nil)))))))))
    (ss_one (ss_frz 1 (ss_ret (se_tup (sa_cons (se_str) (sa_cons (se_callT (b_tuple) rfl Z_tuple (by decide +kernel) (sa_cons (se_var 1) (sa_nil))) (sa_nil))))))))
set_option maxHeartbeats 4000000 in
theorem ok_shape_noted {a : Addr} {fd : FuncData} (F : L2.Fun K "shape_noted" "shape_noted" s_shape_noted a fd) {k : Nat} (hk : 2 ≤ k) {c_noted_alike : List D → Sto → R D} {c_noted_pick : List D → Sto → R D} {c_shape_noted : List D → Sto → R D} {c_unlabelled : List D → Sto → R D} {a_is_mark : Addr} {f_is_mark : FuncData} (G_is_mark : FnOk P w K mg base (L2.CX P w) 1 a_is_mark f_is_mark P_is_mark (spG K ct 1 S_is_mark)) (M_is_mark : mg "is_mark" = some (.ref a_is_mark)) (K_is_mark : PySem.W.keepIn K (.ref a_is_mark) = true) (B_is_mark : Binds K f_is_mark P_is_mark []) {a_noted_alike : Addr} {f_noted_alike : FuncData} (G_noted_alike : FnOk P w K mg base (L2.CX P w) k a_noted_alike f_noted_alike P_noted_alike (spG K ct 1 c_noted_alike)) (M_noted_alike : mg "noted_alike" = some (.ref a_noted_alike)) (K_noted_alike : PySem.W.keepIn K (.ref a_noted_alike) = true) (B_noted_alike : Binds K f_noted_alike P_noted_alike []) {a_noted_pick : Addr} {f_noted_pick : FuncData} (G_noted_pick : FnOk P w K mg base (L2.CX P w) k a_noted_pick f_noted_pick P_noted_pick (spG K ct 1 c_noted_pick)) (M_noted_pick : mg "noted_pick" = some (.ref a_noted_pick)) (K_noted_pick : PySem.W.keepIn K (.ref a_noted_pick) = true) (B_noted_pick : Binds K f_noted_pick P_noted_pick []) {a_noted_text : Addr} {f_noted_text : FuncData} (G_noted_text : FnOk P w K mg base (L2.CX P w) 2 a_noted_text f_noted_text P_noted_text (spG K ct 1 S_noted_text)) (M_noted_text : mg "noted_text" = some (.ref a_noted_text)) (K_noted_text : PySem.W.keepIn K (.ref a_noted_text) = true) (B_noted_text : Binds K f_noted_text P_noted_text []) {a_plain_number : Addr} {f_plain_number : FuncData} (G_plain_number : FnOk P w K mg base (L2.CX P w) 2 a_plain_number f_plain_number P_plain_number (spG K ct 1 S_plain_number)) (M_plain_number : mg "plain_number" = some (.ref a_plain_number)) (K_plain_number : PySem.W.keepIn K (.ref a_plain_number) = true) (B_plain_number : Binds K f_plain_number P_plain_number []) {a_unlabelled : Addr} {f_unlabelled : FuncData} (G_unlabelled : FnOk P w K mg base (L2.CX P w) k a_unlabelled f_unlabelled P_unlabelled (spG K ct 1 c_unlabelled)) (M_unlabelled : mg "unlabelled" = some (.ref a_unlabelled)) (K_unlabelled : PySem.W.keepIn K (.ref a_unlabelled) = true) (B_unlabelled : Binds K f_unlabelled P_unlabelled []) (Z_len : mg "len" = none) (Z_tuple : mg "tuple" = none) (CN_MOST_BRANCHES : KC K mg "MOST_BRANCHES" (.int 10)) (CN_MOST_PARTS : KC K mg "MOST_PARTS" (.int 8)) (X_NoNote : XC K mg ct "NoNote") :
    FnOk P w K mg base (L2.CX P w) (k + 1) a fd P_shape_noted (spG K ct 1 (U_shape_noted c_noted_alike c_noted_pick c_shape_noted c_unlabelled)) := by
  refine fn_ok (N := N_shape_noted) (ct := ct) F sc_shape_noted (by decide) (fun cdv A outer s H v E hr => ?_)
  have nd := sc_shape_noted.nd
  exact ss_cons (ss_set 1 (se_ix (se_var 0) (se_int)) nd)
    (ss_cons (ss_set 2 (se_ix (se_var 0) (se_int)) nd)
    (ss_cons (ss_if (st_cmp o_isN (se_var 2) (se_non)) (ss_cons (ss_if (st_not (st_val (se_call G_is_mark (hr.mono (Nat.le_trans (by decide) hk)) (takes_of rfl rfl rfl rfl) rfl M_is_mark K_is_mark B_is_mark (sa_cons (se_var 1) (sa_nil)) (lenA_cons (lenA_nil))))) (ss_one (ss_raise (cn := "NoNote") rfl (takes_of rfl rfl rfl rfl) X_NoNote rfl)) (ss_nil))
    (ss_one (ss_ret (se_tup (sa_cons (se_str) (sa_cons (se_var 1) (sa_nil))))))) (ss_nil))
    (ss_cons (ss_set 3 (se_callB (b_len) rfl Z_len (by decide +kernel) (sa_cons (se_var 2) (sa_nil))) nd)
    (ss_cons (ss_if (PW.pt (sw_and (st_cmp (o_eq (hu_big hr)) (se_var 1) (se_str)) (sw_and1 (st_cmp o_le (se_var 3) (se_con CN_MOST_PARTS))))) (ss_one (ss_ret (se_tup (sa_cons (se_str) (sa_cons (se_callT (b_tuple) rfl Z_tuple (by decide +kernel) (sa_cons (SF.fz (sf_lcX [("each", 4)] rfl nd rfl rfl (takes_of rfl rfl rfl rfl) (si_seq (se_var 2)) (blkOk_by (by change blkC N_shape_noted (defScope s_shape_noted) _ _ = true; decide +kernel)) (by decide) (fun _ _ _ _ _ => sg_name 4 nd) (fun _ _ _ _ _ => sts_nil) (fun _ _ _ _ _ _ => se_callX G_unlabelled (hr) (fun σ => passX σ) rfl M_unlabelled K_unlabelled B_unlabelled (sa_cons (se_var 4) (sa_nil)) (lenA_cons (lenA_nil))))) (sa_nil))) (sa_nil)))))) (ss_nil))
    (ss_cons (ss_if (PW.pt (sw_and (st_cmp (o_eq (hu_big hr)) (se_var 1) (se_str)) (sw_and1 (st_chain o_le o_le (se_int) (se_var 3) (se_con CN_MOST_BRANCHES))))) (ss_one (ss_ret (se_call G_noted_pick (hr) (takes_of rfl rfl rfl rfl) rfl M_noted_pick K_noted_pick B_noted_pick (sa_cons (se_var 2) (sa_nil)) (lenA_cons (lenA_nil))))) (ss_nil))
    (ss_cons (ss_if (PW.pt (sw_and (st_cmp (o_eq (hu_big hr)) (se_var 1) (se_str)) (sw_and1 (st_cmp (o_eq (hu_big hr)) (se_var 3) (se_int))))) (ss_one (ss_ret (se_tup (sa_cons (se_str) (sa_cons (se_call G_plain_number (hr.mono (Nat.le_trans (by decide) hk)) (takes_of rfl rfl rfl rfl) rfl M_plain_number K_plain_number B_plain_number (sa_cons (se_ix (se_var 2) (se_int)) (sa_nil)) (lenA_cons (lenA_nil))) (sa_cons (se_call G_plain_number (hr.mono (Nat.le_trans (by decide) hk)) (takes_of rfl rfl rfl rfl) rfl M_plain_number K_plain_number B_plain_number (sa_cons (se_ix (se_var 2) (se_int)) (sa_nil)) (lenA_cons (lenA_nil))) (sa_nil))))))) (ss_nil))
    (ss_cons (ss_if (PW.pt (sw_and (st_cmp (o_eq (hu_big hr)) (se_var 1) (se_str)) (sw_and1 (st_cmp (o_eq (hu_big hr)) (se_var 3) (se_int))))) (ss_one (ss_ret (se_call G_noted_alike (hr) (takes_of rfl rfl rfl rfl) rfl M_noted_alike K_noted_alike B_noted_alike (sa_cons (se_var 2) (sa_nil)) (lenA_cons (lenA_nil))))) (ss_nil))
    (ss_cons (ss_if (PW.pt (sw_and (st_cmp (o_eq (hu_big hr)) (se_var 1) (se_str)) (sw_and1 (st_cmp (o_eq (hu_big hr)) (se_var 3) (se_int))))) (ss_one (ss_ret (se_call G_noted_text (hr.mono (Nat.le_trans (by decide) hk)) (takes_of rfl rfl rfl rfl) rfl M_noted_text K_noted_text B_noted_text (sa_cons (se_var 2) (sa_nil)) (lenA_cons (lenA_nil))))) (ss_nil))
    (ss_cons (ss_if (PW.pt (sw_and (st_cmp o_in (se_var 1) (se_tup (sa_cons (se_str) (sa_cons (se_str) (sa_cons (se_str) (sa_nil)))))) (sw_and1 (st_cmp (o_eq (hu_big hr)) (se_var 3) (se_int))))) (ss_one (ss_ret (se_tup (sa_cons (se_var 1) (sa_cons (se_call G_unlabelled (hr) (takes_of rfl rfl rfl rfl) rfl M_unlabelled K_unlabelled B_unlabelled (sa_cons (se_ix (se_var 2) (se_int)) (sa_nil)) (lenA_cons (lenA_nil))) (sa_nil)))))) (ss_nil))
    (ss_one (ss_raise (cn := "NoNote") rfl (takes_of rfl rfl rfl rfl) X_NoNote rfl)))))))))))
set_option maxHeartbeats 4000000 in
theorem ok_unlabelled {a : Addr} {fd : FuncData} (F : L2.Fun K "unlabelled" "unlabelled" s_unlabelled a fd) {k : Nat} (hk : 2 ≤ k) {c_noted_alike : List D → Sto → R D} {c_noted_pick : List D → Sto → R D} {c_shape_noted : List D → Sto → R D} {c_unlabelled : List D → Sto → R D} {a_shape_noted : Addr} {f_shape_noted : FuncData} (G_shape_noted : FnOk P w K mg base (L2.CX P w) k a_shape_noted f_shape_noted P_shape_noted (spG K ct 1 c_shape_noted)) (M_shape_noted : mg "shape_noted" = some (.ref a_shape_noted)) (K_shape_noted : PySem.W.keepIn K (.ref a_shape_noted) = true) (B_shape_noted : Binds K f_shape_noted P_shape_noted []) (X_NoNote : XC K mg ct "NoNote") :
    FnOk P w K mg base (L2.CX P w) (k + 1) a fd P_unlabelled (spG K ct 1 (U_unlabelled c_noted_alike c_noted_pick c_shape_noted c_unlabelled)) := by
  refine fn_ok (N := N_unlabelled) (ct := ct) F sc_unlabelled (by decide) (fun cdv A outer s H v E hr => ?_)
  have nd := sc_unlabelled.nd
  exact ss_cons (ss_if (st_cmp (o_ne (hu_big hr)) (se_ix (se_var 0) (se_int)) (se_str)) (ss_one (ss_raise (cn := "NoNote") rfl (takes_of rfl rfl rfl rfl) X_NoNote rfl)) (ss_nil))
    (ss_one (ss_ret (se_call G_shape_noted (hr) (takes_of rfl rfl rfl rfl) rfl M_shape_noted K_shape_noted B_shape_noted (sa_cons (se_var 0) (sa_nil)) (lenA_cons (lenA_nil)))))
set_option maxHeartbeats 4000000 in
theorem ok_rows_of {a : Addr} {fd : FuncData} (F : L2.Fun K "rows_of" "rows_of" s_rows_of a fd) {a_in_bounds : Addr} {f_in_bounds : FuncData} (G_in_bounds : FnOk P w K mg base (L2.CX P w) 1 a_in_bounds f_in_bounds P_in_bounds (spG K ct 1 S_in_bounds)) (M_in_bounds : mg "in_bounds" = some (.ref a_in_bounds)) (K_in_bounds : PySem.W.keepIn K (.ref a_in_bounds) = true) (B_in_bounds : Binds K f_in_bounds P_in_bounds []) {a_is_mark : Addr} {f_is_mark : FuncData} (G_is_mark : FnOk P w K mg base (L2.CX P w) 1 a_is_mark f_is_mark P_is_mark (spG K ct 1 S_is_mark)) (M_is_mark : mg "is_mark" = some (.ref a_is_mark)) (K_is_mark : PySem.W.keepIn K (.ref a_is_mark) = true) (B_is_mark : Binds K f_is_mark P_is_mark []) {a_read_note : Addr} {f_read_note : FuncData} (G_read_note : FnOk P w K mg base (L2.CX P w) 73 a_read_note f_read_note P_read_note (spG K ct 1 S_read_note)) (M_read_note : mg "read_note" = some (.ref a_read_note)) (K_read_note : PySem.W.keepIn K (.ref a_read_note) = true) (B_read_note : Binds K f_read_note P_read_note []) {a_unlabelled : Addr} {f_unlabelled : FuncData} (G_unlabelled : FnOk P w K mg base (L2.CX P w) 72 a_unlabelled f_unlabelled P_unlabelled (spG K ct 1 (S_unlabelled 70))) (M_unlabelled : mg "unlabelled" = some (.ref a_unlabelled)) (K_unlabelled : PySem.W.keepIn K (.ref a_unlabelled) = true) (B_unlabelled : Binds K f_unlabelled P_unlabelled []) (Z_isinstance : mg "isinstance" = none) (Z_len : mg "len" = none) (Z_str : mg "str" = none) (CN_MOST_NAMES : KC K mg "MOST_NAMES" (.int 8)) (X_Crowded : XC K mg ct "Crowded") (X_NoNote : XC K mg ct "NoNote") :
    FnOk P w K mg base (L2.CX P w) 74 a fd P_rows_of (spG K ct 1 S_rows_of) := by
  refine fn_ok (N := N_rows_of) (ct := ct) F sc_rows_of (by decide) (fun cdv A outer s H v E hr => ?_)
  have nd := sc_rows_of.nd
  exact ss_cons (ss_if (st_not (st_val (se_isi (n := "str") (se_var 0) rfl Z_isinstance rfl Z_str (by decide +kernel)))) (ss_one (ss_raise (cn := "NoNote") rfl (takes_of rfl rfl rfl rfl) X_NoNote rfl)) (ss_nil))
    (ss_cons (ss_setLc 1 (g := eFz) [("row", 6)] (fun _ _ _ z => lift_fz z) rfl nd rfl rfl (sw_true rfl rfl rfl (by decide +kernel)) (si_seq (se_m1 PySem.F.slot_str_split PySem.F.type_str_split m_split (se_var 0) (se_str))) (blkOk_by (by change blkC N_rows_of (defScope s_rows_of) _ _ = true; decide +kernel)) (by decide) (fun _ _ _ _ _ => sg_name 6 nd) (fun _ _ _ _ _ => sts_nil) (fun _ _ _ _ _ => se_m1 PySem.F.slot_str_partition PySem.F.type_str_partition m_part (se_var 6) (se_str)))
    (ss_cons (ss_if (st_cmp o_gt (se_callB (b_len) rfl Z_len (by decide +kernel) (sa_cons (se_var 1) (sa_nil))) (se_con CN_MOST_NAMES)) (ss_one (ss_raise (cn := "Crowded") rfl (takes_of rfl rfl rfl rfl) X_Crowded rfl)) (ss_nil))
    (ss_cons (ss_for (passes_of rfl) rfl (si_seq (se_var 1)) (sg_tup rfl (sgs_cons (sg_name 2 nd) (sgs_cons (sg_name 3 nd) (sgs_cons (sg_name 4 nd) (sgs_nil))))) (ss_one (ss_expr (se_call G_in_bounds (hr.mono (by decide)) (takes_of rfl rfl rfl rfl) rfl M_in_bounds K_in_bounds B_in_bounds (sa_cons (se_var 4) (sa_nil)) (lenA_cons (lenA_nil))))))
    (ss_cons (ss_set 5 (SF.nw (sf_lst (sa_nil))) nd)
    (ss_cons (ss_for (passes_of rfl) rfl (si_seq (se_var 1)) (sg_tup rfl (sgs_cons (sg_name 2 nd) (sgs_cons (sg_name 3 nd) (sgs_cons (sg_name 4 nd) (sgs_nil))))) (ss_cons (ss_if (PW.pt (sw_or (st_cmp (o_eq (hu_big hr)) (se_var 3) (se_str)) (sw_or1 (st_not (st_val (se_call G_is_mark (hr.mono (by decide)) (takes_of rfl rfl rfl rfl) rfl M_is_mark K_is_mark B_is_mark (sa_cons (se_var 2) (sa_nil)) (lenA_cons (lenA_nil)))))))) (ss_one (ss_raise (cn := "NoNote") rfl (takes_of rfl rfl rfl rfl) X_NoNote rfl)) (ss_nil))
    (ss_one (ss_expr (se_app (se_var 5) (se_tup (sa_cons (se_var 2) (sa_cons (se_call G_unlabelled (hr.mono (by decide)) (takes_of rfl rfl rfl rfl) rfl M_unlabelled K_unlabelled B_unlabelled (sa_cons (se_call G_read_note (hr.mono (by decide)) (takes_of rfl rfl rfl rfl) rfl M_read_note K_read_note B_read_note (sa_cons (se_var 4) (sa_nil)) (lenA_cons (lenA_nil))) (sa_nil)) (lenA_cons (lenA_nil))) (sa_nil)))))))))
    (ss_one (ss_ret (se_var 5))))))))
set_option maxHeartbeats 4000000 in
theorem ok_read_book {a : Addr} {fd : FuncData} (F : L2.Fun K "read_book" "read_book" s_read_book a fd) {a_has_no_range : Addr} {f_has_no_range : FuncData} (G_has_no_range : FnOk P w K mg base (L2.CX P w) 71 a_has_no_range f_has_no_range P_has_no_range (spG K ct 1 (S_has_no_range 70))) (M_has_no_range : mg "has_no_range" = some (.ref a_has_no_range)) (K_has_no_range : PySem.W.keepIn K (.ref a_has_no_range) = true) (B_has_no_range : Binds K f_has_no_range P_has_no_range []) {a_has_twice : Addr} {f_has_twice : FuncData} (G_has_twice : FnOk P w K mg base (L2.CX P w) 71 a_has_twice f_has_twice P_has_twice (spG K ct 1 (S_has_twice 70))) (M_has_twice : mg "has_twice" = some (.ref a_has_twice)) (K_has_twice : PySem.W.keepIn K (.ref a_has_twice) = true) (B_has_twice : Binds K f_has_twice P_has_twice []) {a_leads_back : Addr} {f_leads_back : FuncData} (G_leads_back : FnOk P w K mg base (L2.CX P w) 2 a_leads_back f_leads_back P_leads_back (spG K ct 2 S_leads_back)) (M_leads_back : mg "leads_back" = some (.ref a_leads_back)) (K_leads_back : PySem.W.keepIn K (.ref a_leads_back) = true) (B_leads_back : Binds K f_leads_back P_leads_back []) {a_names_used : Addr} {f_names_used : FuncData} (G_names_used : FnOk P w K mg base (L2.CX P w) 71 a_names_used f_names_used P_names_used (spG K ct 1 (S_names_used 70))) (M_names_used : mg "names_used" = some (.ref a_names_used)) (K_names_used : PySem.W.keepIn K (.ref a_names_used) = true) (B_names_used : Binds K f_names_used P_names_used []) {a_rows_of : Addr} {f_rows_of : FuncData} (G_rows_of : FnOk P w K mg base (L2.CX P w) 74 a_rows_of f_rows_of P_rows_of (spG K ct 1 S_rows_of)) (M_rows_of : mg "rows_of" = some (.ref a_rows_of)) (K_rows_of : PySem.W.keepIn K (.ref a_rows_of) = true) (B_rows_of : Binds K f_rows_of P_rows_of []) (Z_all : mg "all" = none) (Z_any : mg "any" = none) (Z_len : mg "len" = none) (Z_set : mg "set" = none) (X_NoName : XC K mg ct "NoName") (X_NoRange : XC K mg ct "NoRange") (X_Twice : XC K mg ct "Twice") {fi_NoGround : Addr} {fd_NoGround : FuncData} (OX_NoGround : OexC K (ct "NoGround")) (iC_NoGround : PySem.W.findIn K (.ref (ct "NoGround")) "__init__" = some (some (.ref fi_NoGround))) (tI_NoGround : PySem.W.typeIn K (.ref fi_NoGround) = some (.type "function")) (GI_NoGround : FnOk P w K mg base (L2.CX P w) 1 fi_NoGround fd_NoGround PI_NoGround (spXI K (ct "NoGround") ["ring"])) (BI_NoGround : Binds K fd_NoGround PI_NoGround []) (MC_NoGround : mg "NoGround" = some (.ref (ct "NoGround"))) :
    FnOk P w K mg base (L2.CX P w) 75 a fd P_read_book (spG K ct 1 S_read_book) := by
  refine fn_ok (N := N_read_book) (ct := ct) F sc_read_book (by decide) (fun cdv A outer s H v E hr => ?_)
  have nd := sc_read_book.nd
  exact ss_cons (ss_set 1 (se_call G_rows_of (hr.mono (by decide)) (takes_of rfl rfl rfl rfl) rfl M_rows_of K_rows_of B_rows_of (sa_cons (se_var 0) (sa_nil)) (lenA_cons (lenA_nil))) nd)
    (ss_cons (ss_set 2 (SF.fz (sf_lcO [("name", 3), ("shape", 4)] rfl nd (si_seqO (se_var 1)) (blkOk_by (by change blkC N_read_book (defScope s_read_book) _ _ = true; decide +kernel)) (by decide) (fun _ _ _ _ _ => sg_tup rfl (sgs_cons (sg_name 3 nd) (sgs_cons (sg_name 4 nd) (sgs_nil)))) (fun _ _ _ _ _ => sts_nil) (fun _ _ _ _ _ => se_var 3))) nd)
    (ss_cons (ss_if (PW.pt (sw_or (st_cmp (o_ne (hu_big hr)) (se_lenSet rfl Z_len rfl Z_set (se_var 2)) (se_callB (b_len) rfl Z_len (by decide +kernel) (sa_cons (se_var 2) (sa_nil)))) (sw_or1 (st_val (se_callB (b_any rfl) rfl Z_any (by decide +kernel) (sa_cons (SF.fz (sf_lcO [("name", 3), ("shape", 4)] rfl nd (si_seqO (se_var 1)) (blkOk_by (by change blkC N_read_book (defScope s_read_book) _ _ = true; decide +kernel)) (by decide) (fun _ _ _ _ _ => sg_tup rfl (sgs_cons (sg_name 3 nd) (sgs_cons (sg_name 4 nd) (sgs_nil)))) (fun _ _ _ _ _ => sts_nil) (fun _ _ _ _ _ => se_call G_has_twice (hr.mono (by decide)) takes0 rfl M_has_twice K_has_twice B_has_twice (sa_cons (se_var 4) (sa_nil)) (lenA_cons (lenA_nil))))) (sa_nil))))))) (ss_one (ss_raise (cn := "Twice") rfl (takes_of rfl rfl rfl rfl) X_Twice rfl)) (ss_nil))
    (ss_cons (ss_if (st_val (se_callB (b_any rfl) rfl Z_any (by decide +kernel) (sa_cons (SF.fz (sf_lcO [("name", 3), ("shape", 4)] rfl nd (si_seqO (se_var 1)) (blkOk_by (by change blkC N_read_book (defScope s_read_book) _ _ = true; decide +kernel)) (by decide) (fun _ _ _ _ _ => sg_tup rfl (sgs_cons (sg_name 3 nd) (sgs_cons (sg_name 4 nd) (sgs_nil)))) (fun _ _ _ _ _ => sts_nil) (fun _ _ _ _ _ => se_call G_has_no_range (hr.mono (by decide)) takes0 rfl M_has_no_range K_has_no_range B_has_no_range (sa_cons (se_var 4) (sa_nil)) (lenA_cons (lenA_nil))))) (sa_nil)))) (ss_one (ss_raise (cn := "NoRange") rfl (takes_of rfl rfl rfl rfl) X_NoRange rfl)) (ss_nil))
    (ss_cons (ss_forO (passes_of rfl) rfl (si_seqO (se_var 1)) (sg_tup rfl (sgs_cons (sg_name 3 nd) (sgs_cons (sg_name 4 nd) (sgs_nil)))) (ss_one (ss_if (st_not (st_val (se_callB (b_all rfl) rfl Z_all (by decide +kernel) (sa_cons (SF.fz (sf_lc [("used", 6)] rfl nd (si_seq (se_frz (se_call G_names_used (hr.mono (by decide)) (takes_of rfl rfl rfl rfl) rfl M_names_used K_names_used B_names_used (sa_cons (se_var 4) (sa_nil)) (lenA_cons (lenA_nil))))) (blkOk_by (by change blkC N_read_book (defScope s_read_book) _ _ = true; decide +kernel)) (by decide) (fun _ _ _ _ _ => sg_name 6 nd) (fun _ _ _ _ _ => sts_nil) (fun _ _ _ _ _ => se_cmp o_in (se_var 6) (se_var 2)))) (sa_nil))))) (ss_one (ss_raise (cn := "NoName") rfl (takes_of rfl rfl rfl rfl) X_NoName rfl)) (ss_nil))))
    (ss_cons (ss_setLc 5 (g := eFz) [("name", 3)] (fun _ _ _ z => lift_fz z) rfl nd rfl rfl (sw_true rfl rfl rfl (by decide +kernel)) (si_seq (se_var 2)) (blkOk_by (by change blkC N_read_book (defScope s_read_book) _ _ = true; decide +kernel)) (by decide) (fun _ _ _ _ _ => sg_name 3 nd) (fun _ _ _ _ _ => sts_one (st_val (se_call G_leads_back (hr.mono (by decide)) takes0 rfl M_leads_back K_leads_back B_leads_back (sa_cons (se_var 1) (sa_cons (se_var 3) (sa_nil))) (lenA_cons (lenA_cons (lenA_nil)))))) (fun _ _ _ _ _ => se_var 3))
    (ss_cons (ss_if (st_cmp (o_ne (hu_big hr)) (se_var 5) (SF.fz (sf_lst (sa_nil)))) (ss_one (ss_raiseF (c := "NoGround") (ns := ["ring"]) rfl rfl (takes_of rfl rfl rfl rfl) OX_NoGround iC_NoGround tI_NoGround GI_NoGround (hr.mono (by decide)) BI_NoGround rfl MC_NoGround (sa_cons (se_str) (sa_cons (se_var 5) (sa_nil))))) (ss_nil))
    (ss_one (ss_ret (se_var 1)))))))))
set_option maxHeartbeats 4000000 in
theorem ok_note_of {a : Addr} {fd : FuncData} (F : L2.FunD K "note_of" "note_of" (defArgs s_note_of) (defBody s_note_of) (defScope s_note_of) [V.str (Str.ofString "")] [] a fd) {k : Nat} (hk : 1 ≤ k) {c_note_of : List D → Sto → R D} {a_inner_shapes : Addr} {f_inner_shapes : FuncData} (G_inner_shapes : FnOk P w K mg base (L2.CX P w) 1 a_inner_shapes f_inner_shapes P_inner_shapes (spG K ct 1 S_inner_shapes)) (M_inner_shapes : mg "inner_shapes" = some (.ref a_inner_shapes)) (K_inner_shapes : PySem.W.keepIn K (.ref a_inner_shapes) = true) (B_inner_shapes : Binds K f_inner_shapes P_inner_shapes []) {a_note_of : Addr} {f_note_of : FuncData} (G_note_of : FnOk P w K mg base (L2.CX P w) k a_note_of f_note_of P_note_of (spG K ct 2 c_note_of)) (M_note_of : mg "note_of" = some (.ref a_note_of)) (K_note_of : PySem.W.keepIn K (.ref a_note_of) = true) (B_note_of : Binds K f_note_of P_note_of []) (BD_note_of : ∃ ds, Vals [V.str (Str.ofString "")] ds ∧ Binds K f_note_of P_note_of ds) (Z_str : mg "str" = none) (Z_tuple : mg "tuple" = none) :
    FnOk P w K mg base (L2.CX P w) (k + 1) a fd P_note_of (spG K ct 2 (U_note_of c_note_of)) := by
  refine fn_okD (N := N_note_of) (ct := ct) F sc_note_of (by decide) (fun cdv A outer s H v E hr => ?_)
  have nd := sc_note_of.nd
  exact ss_cons (ss_set 2 (se_ix (se_var 0) (se_int)) nd)
    (ss_cons (ss_if (st_cmp (o_eq (hu_big hr)) (se_var 2) (se_str)) (ss_one (ss_ret (se_tup (sa_cons (se_var 1) (sa_cons (se_ix (se_var 0) (se_int)) (sa_cons (se_non) (sa_nil))))))) (ss_nil))
    (ss_cons (ss_if (st_cmp (o_eq (hu_big hr)) (se_var 2) (se_str)) (ss_one (ss_ret (se_tup (sa_cons (se_var 1) (sa_cons (se_var 2) (sa_cons (se_tup (sa_cons (se_tup (sa_cons (se_str) (sa_cons (se_callT (b_str) rfl Z_str (by decide +kernel) (sa_cons (se_ix (se_var 0) (se_int)) (sa_nil))) (sa_cons (se_non) (sa_nil))))) (sa_cons (se_tup (sa_cons (se_str) (sa_cons (se_callT (b_str) rfl Z_str (by decide +kernel) (sa_cons (se_ix (se_var 0) (se_int)) (sa_nil))) (sa_cons (se_non) (sa_nil))))) (sa_nil)))) (sa_nil))))))) (ss_nil))
    (ss_cons (ss_if (st_cmp (o_eq (hu_big hr)) (se_var 2) (se_str)) (ss_one (ss_ret (se_tup (sa_cons (se_var 1) (sa_cons (se_var 2) (sa_cons (se_tup (sa_cons (se_tup (sa_cons (se_str) (sa_cons (se_ix (se_var 0) (se_int)) (sa_cons (se_non) (sa_nil))))) (sa_nil))) (sa_nil))))))) (ss_nil))
    (ss_cons (ss_if (st_cmp (o_eq (hu_big hr)) (se_var 2) (se_str)) (ss_one (ss_ret (se_tup (sa_cons (se_var 1) (sa_cons (se_var 2) (sa_cons (se_callT (b_tuple) rfl Z_tuple (by decide +kernel) (sa_cons (SF.fz (sf_lc [("mark", 3), ("part", 4)] rfl nd (si_seq (se_ix (se_var 0) (se_int))) (blkOk_by (by change blkC N_note_of (defScope s_note_of) _ _ = true; decide +kernel)) (by decide) (fun _ _ _ _ _ => sg_tup rfl (sgs_cons (sg_name 3 nd) (sgs_cons (sg_name 4 nd) (sgs_nil)))) (fun _ _ _ _ _ => sts_nil) (fun _ _ _ _ _ => se_call G_note_of (hr) takes0 rfl M_note_of K_note_of B_note_of (sa_cons (se_var 4) (sa_cons (se_var 3) (sa_nil))) (lenA_cons (lenA_cons (lenA_nil)))))) (sa_nil))) (sa_nil))))))) (ss_nil))
    (ss_cons (ss_if (st_cmp (o_eq (hu_big hr)) (se_var 2) (se_str)) (ss_one (ss_ret (se_tup (sa_cons (se_var 1) (sa_cons (se_var 2) (sa_cons (se_tup (sa_cons (se_callD G_note_of (hr) (takes_of rfl rfl rfl rfl) rfl M_note_of K_note_of BD_note_of (fun _ _ => .cons (.str _) (.nil)) (sa_cons (se_ix (se_var 0) (se_int)) (sa_nil)) (lenA_cons (lenA_nil)) rfl) (sa_cons (se_tup (sa_cons (se_str) (sa_cons (se_callT (b_str) rfl Z_str (by decide +kernel) (sa_cons (se_ix (se_var 0) (se_int)) (sa_nil))) (sa_cons (se_non) (sa_nil))))) (sa_nil)))) (sa_nil))))))) (ss_nil))
    (ss_one (ss_ret (se_tup (sa_cons (se_var 1) (sa_cons (se_var 2) (sa_cons (se_callT (b_tuple) rfl Z_tuple (by decide +kernel) (sa_cons (SF.fz (sf_lc [("part", 4)] rfl nd (si_seq (se_frz (se_call G_inner_shapes (hr.mono (Nat.le_trans (by decide) hk)) (takes_of rfl rfl rfl rfl) rfl M_inner_shapes K_inner_shapes B_inner_shapes (sa_cons (se_var 0) (sa_nil)) (lenA_cons (lenA_nil))))) (blkOk_by (by change blkC N_note_of (defScope s_note_of) _ _ = true; decide +kernel)) (by decide) (fun _ _ _ _ _ => sg_name 4 nd) (fun _ _ _ _ _ => sts_nil) (fun _ _ _ _ _ => se_callD G_note_of (hr) takes0 rfl M_note_of K_note_of BD_note_of (fun _ _ => .cons (.str _) (.nil)) (sa_cons (se_var 4) (sa_nil)) (lenA_cons (lenA_nil)) rfl))) (sa_nil))) (sa_nil))))))))))))
set_option maxHeartbeats 4000000 in
theorem ok_show_note {a : Addr} {fd : FuncData} (F : L2.Fun K "show_note" "show_note" s_show_note a fd) {k : Nat} (hk : 0 ≤ k) {c_show_note : List D → Sto → R D} {a_show_note : Addr} {f_show_note : FuncData} (G_show_note : FnOk P w K mg base (L2.CX P w) k a_show_note f_show_note P_show_note (spG K ct 1 c_show_note)) (M_show_note : mg "show_note" = some (.ref a_show_note)) (K_show_note : PySem.W.keepIn K (.ref a_show_note) = true) (B_show_note : Binds K f_show_note P_show_note []) :
    FnOk P w K mg base (L2.CX P w) (k + 1) a fd P_show_note (spG K ct 1 (U_show_note c_show_note)) := by
  refine fn_ok (N := N_show_note) (ct := ct) F sc_show_note (by decide) (fun cdv A outer s H v E hr => ?_)
  have nd := sc_show_note.nd
  exact ss_cons (ss_set 1 (se_ix (se_var 0) (se_int)) nd)
    (ss_cons (ss_if (st_cmp (o_ne (hu_big hr)) (se_ix (se_var 0) (se_int)) (se_str)) (ss_one (ss_set 1 (se_bin o_add (se_bin o_add (se_ix (se_var 0) (se_int)) (se_str)) (se_var 1)) nd)) (ss_nil))
    (ss_cons (ss_if (st_cmp o_isN (se_ix (se_var 0) (se_int)) (se_non)) (ss_one (ss_ret (se_var 1))) (ss_nil))
    (ss_one (ss_ret (se_bin o_add (se_bin o_add (se_bin o_add (se_var 1) (se_str)) (se_m1 PySem.F.slot_str_join PySem.F.type_str_join m_join (se_str) (SF.fz (sf_lc [("inner", 2)] rfl nd (si_seq (se_ix (se_var 0) (se_int))) (blkOk_by (by change blkC N_show_note (defScope s_show_note) _ _ = true; decide +kernel)) (by decide) (fun _ _ _ _ _ => sg_name 2 nd) (fun _ _ _ _ _ => sts_nil) (fun _ _ _ _ _ => se_call G_show_note (hr) takes0 rfl M_show_note K_show_note B_show_note (sa_cons (se_var 2) (sa_nil)) (lenA_cons (lenA_nil))))))) (se_str))))))
set_option maxHeartbeats 4000000 in
theorem ok_show_shape {a : Addr} {fd : FuncData} (F : L2.Fun K "show_shape" "show_shape" s_show_shape a fd) {a_note_of : Addr} {f_note_of : FuncData} (G_note_of : FnOk P w K mg base (L2.CX P w) 71 a_note_of f_note_of P_note_of (spG K ct 2 (S_note_of 70))) (M_note_of : mg "note_of" = some (.ref a_note_of)) (K_note_of : PySem.W.keepIn K (.ref a_note_of) = true) (B_note_of : Binds K f_note_of P_note_of []) (BD_note_of : ∃ ds, Vals [V.str (Str.ofString "")] ds ∧ Binds K f_note_of P_note_of ds) {a_show_note : Addr} {f_show_note : FuncData} (G_show_note : FnOk P w K mg base (L2.CX P w) 70 a_show_note f_show_note P_show_note (spG K ct 1 (S_show_note 70))) (M_show_note : mg "show_note" = some (.ref a_show_note)) (K_show_note : PySem.W.keepIn K (.ref a_show_note) = true) (B_show_note : Binds K f_show_note P_show_note []) :
    FnOk P w K mg base (L2.CX P w) 72 a fd P_show_shape (spG K ct 1 S_show_shape) := by
  refine fn_ok (N := N_show_shape) (ct := ct) F sc_show_shape (by decide) (fun cdv A outer s H v E hr => ?_)
  have nd := sc_show_shape.nd
  exact ss_one (ss_ret (se_call G_show_note (hr.mono (by decide)) (takes_of rfl rfl rfl rfl) rfl M_show_note K_show_note B_show_note (sa_cons (se_callD G_note_of (hr.mono (by decide)) (takes_of rfl rfl rfl rfl) rfl M_note_of K_note_of BD_note_of (fun _ _ => .cons (.str _) (.nil)) (sa_cons (se_var 0) (sa_nil)) (lenA_cons (lenA_nil)) rfl) (sa_nil)) (lenA_cons (lenA_nil))))
set_option maxHeartbeats 4000000 in
theorem ok_show_book {a : Addr} {fd : FuncData} (F : L2.Fun K "show_book" "show_book" s_show_book a fd) {a_show_shape : Addr} {f_show_shape : FuncData} (G_show_shape : FnOk P w K mg base (L2.CX P w) 72 a_show_shape f_show_shape P_show_shape (spG K ct 1 S_show_shape)) (M_show_shape : mg "show_shape" = some (.ref a_show_shape)) (K_show_shape : PySem.W.keepIn K (.ref a_show_shape) = true) (B_show_shape : Binds K f_show_shape P_show_shape []) :
    FnOk P w K mg base (L2.CX P w) 73 a fd P_show_book (spG K ct 1 S_show_book) := by
  refine fn_ok (N := N_show_book) (ct := ct) F sc_show_book (by decide) (fun cdv A outer s H v E hr => ?_)
  have nd := sc_show_book.nd
  exact ss_one (ss_ret (se_m1 PySem.F.slot_str_join PySem.F.type_str_join m_join (se_str) (SF.fz (sf_lc [("name", 1), ("shape", 2)] rfl nd (si_seq (se_var 0)) (blkOk_by (by change blkC N_show_book (defScope s_show_book) _ _ = true; decide +kernel)) (by decide) (fun _ _ _ _ _ => sg_tup rfl (sgs_cons (sg_name 1 nd) (sgs_cons (sg_name 2 nd) (sgs_nil)))) (fun _ _ _ _ _ => sts_nil) (fun _ _ _ _ _ => se_bin o_add (se_bin o_add (se_var 1) (se_str)) (se_call G_show_shape (hr.mono (by decide)) takes0 rfl M_show_shape K_show_shape B_show_shape (sa_cons (se_var 2) (sa_nil)) (lenA_cons (lenA_nil))))))))
set_option maxHeartbeats 4000000 in
theorem ok_law {a : Addr} {fd : FuncData} (F : L2.Fun K "law" "law" s_law a fd) {a_l_cell_at : Addr} {f_l_cell_at : FuncData} (G_l_cell_at : FnOk P w K mg base (L2.CX P w) 1 a_l_cell_at f_l_cell_at P_l_cell_at (spG K ct 2 S_l_cell_at)) (M_l_cell_at : mg "_law_cell_at" = some (.ref a_l_cell_at)) (K_l_cell_at : PySem.W.keepIn K (.ref a_l_cell_at) = true) (B_l_cell_at : Binds K f_l_cell_at P_l_cell_at []) {a_l_names : Addr} {f_l_names : FuncData} (G_l_names : FnOk P w K mg base (L2.CX P w) 2 a_l_names f_l_names P_l_names (spG K ct 2 S_l_names)) (M_l_names : mg "_law_names" = some (.ref a_l_names)) (K_l_names : PySem.W.keepIn K (.ref a_l_names) = true) (B_l_names : Binds K f_l_names P_l_names []) {a_l_no_name : Addr} {f_l_no_name : FuncData} (G_l_no_name : FnOk P w K mg base (L2.CX P w) 2 a_l_no_name f_l_no_name P_l_no_name (spG K ct 2 S_l_no_name)) (M_l_no_name : mg "_law_no_name" = some (.ref a_l_no_name)) (K_l_no_name : PySem.W.keepIn K (.ref a_l_no_name) = true) (B_l_no_name : Binds K f_l_no_name P_l_no_name []) {a_l_same : Addr} {f_l_same : FuncData} (G_l_same : FnOk P w K mg base (L2.CX P w) 70 a_l_same f_l_same P_l_same (spG K ct 2 (S_l_same 70))) (M_l_same : mg "_law_same" = some (.ref a_l_same)) (K_l_same : PySem.W.keepIn K (.ref a_l_same) = true) (B_l_same : Binds K f_l_same P_l_same []) {a_l_shape : Addr} {f_l_shape : FuncData} (G_l_shape : FnOk P w K mg base (L2.CX P w) 1 a_l_shape f_l_shape P_l_shape (spG K ct 4 S_l_shape)) (M_l_shape : mg "_law_shape" = some (.ref a_l_shape)) (K_l_shape : PySem.W.keepIn K (.ref a_l_shape) = true) (B_l_shape : Binds K f_l_shape P_l_shape []) {a_l_text : Addr} {f_l_text : FuncData} (G_l_text : FnOk P w K mg base (L2.CX P w) 70 a_l_text f_l_text P_l_text (spG K ct 1 (S_l_text 70))) (M_l_text : mg "_law_text" = some (.ref a_l_text)) (K_l_text : PySem.W.keepIn K (.ref a_l_text) = true) (B_l_text : Binds K f_l_text P_l_text []) {a_l_uses : Addr} {f_l_uses : FuncData} (G_l_uses : FnOk P w K mg base (L2.CX P w) 70 a_l_uses f_l_uses P_l_uses (spG K ct 1 (S_l_uses 70))) (M_l_uses : mg "_law_uses" = some (.ref a_l_uses)) (K_l_uses : PySem.W.keepIn K (.ref a_l_uses) = true) (B_l_uses : Binds K f_l_uses P_l_uses []) {a_names_used : Addr} {f_names_used : FuncData} (G_names_used : FnOk P w K mg base (L2.CX P w) 71 a_names_used f_names_used P_names_used (spG K ct 1 (S_names_used 70))) (M_names_used : mg "names_used" = some (.ref a_names_used)) (K_names_used : PySem.W.keepIn K (.ref a_names_used) = true) (B_names_used : Binds K f_names_used P_names_used []) {a_read_book : Addr} {f_read_book : FuncData} (G_read_book : FnOk P w K mg base (L2.CX P w) 75 a_read_book f_read_book P_read_book (spG K ct 1 S_read_book)) (M_read_book : mg "read_book" = some (.ref a_read_book)) (K_read_book : PySem.W.keepIn K (.ref a_read_book) = true) (B_read_book : Binds K f_read_book P_read_book []) {a_shape_of : Addr} {f_shape_of : FuncData} (G_shape_of : FnOk P w K mg base (L2.CX P w) 1 a_shape_of f_shape_of P_shape_of (spG K ct 2 S_shape_of)) (M_shape_of : mg "shape_of" = some (.ref a_shape_of)) (K_shape_of : PySem.W.keepIn K (.ref a_shape_of) = true) (B_shape_of : Binds K f_shape_of P_shape_of []) {a_show_book : Addr} {f_show_book : FuncData} (G_show_book : FnOk P w K mg base (L2.CX P w) 73 a_show_book f_show_book P_show_book (spG K ct 1 S_show_book)) (M_show_book : mg "show_book" = some (.ref a_show_book)) (K_show_book : PySem.W.keepIn K (.ref a_show_book) = true) (B_show_book : Binds K f_show_book P_show_book []) (Z_len : mg "len" = none) (Z_range : mg "range" = none) :
    FnOk P w K mg base (L2.CX P w) 76 a fd P_law (spG K ct 1 S_law) := by
  refine fn_ok (N := N_law) (ct := ct) F sc_law (by decide) (fun cdv A outer s H v E hr => ?_)
  have nd := sc_law.nd
  exact ss_cons (ss_set 1 (se_bin o_add (se_int) (se_bin o_mod (se_call G_l_cell_at (hr.mono (by decide)) (takes_of rfl rfl rfl rfl) rfl M_l_cell_at K_l_cell_at B_l_cell_at (sa_cons (se_var 0) (sa_cons (se_int) (sa_nil))) (lenA_cons (lenA_cons (lenA_nil)))) (se_int))) nd)
    (ss_cons (ss_set 2 (se_call G_l_names (hr.mono (by decide)) (takes_of rfl rfl rfl rfl) rfl M_l_names K_l_names B_l_names (sa_cons (se_bin o_mod (se_call G_l_cell_at (hr.mono (by decide)) (takes_of rfl rfl rfl rfl) rfl M_l_cell_at K_l_cell_at B_l_cell_at (sa_cons (se_var 0) (sa_cons (se_int) (sa_nil))) (lenA_cons (lenA_cons (lenA_nil)))) (se_bin o_pow (se_int) (se_int))) (sa_cons (se_var 1) (sa_nil))) (lenA_cons (lenA_cons (lenA_nil)))) nd)
    (ss_cons (ss_set 3 (se_bin o_mod (se_call G_l_cell_at (hr.mono (by decide)) (takes_of rfl rfl rfl rfl) rfl M_l_cell_at K_l_cell_at B_l_cell_at (sa_cons (se_var 0) (sa_cons (se_int) (sa_nil))) (lenA_cons (lenA_cons (lenA_nil)))) (se_bin o_pow (se_int) (se_int))) nd)
    (ss_cons (ss_set 4 (se_ix (SF.fz (sf_lst (sa_cons (se_str) (sa_cons (se_str) (sa_cons (se_str) (sa_cons (se_str) (sa_cons (se_str) (sa_cons (se_str) (sa_cons (se_str) (sa_cons (se_str) (sa_nil))))))))))) (se_bin o_mod (se_bin o_div (se_var 3) (se_int)) (se_int))) nd)
    (ss_cons (ss_if (PW.pt (sw_and (st_cmp (o_eq (hu_big hr)) (se_bin o_mod (se_var 3) (se_int)) (se_int)) (sw_and1 (st_cmp o_nin (se_var 4) (se_var 2))))) (ss_one (ss_setIx (se_var 2) (se_bin o_mod (se_bin o_div (se_var 3) (se_int)) (se_var 1)) (se_var 4))) (ss_nil))
    (ss_cons (ss_set 5 (SF.nw (sf_lst (sa_nil))) nd)
    (ss_cons (ss_for (passes_of rfl) rfl (si_range1 rfl Z_range (sa_cons (se_var 1) (sa_nil))) (sg_name 6 nd) (ss_cons (ss_setLc 7 (g := eFz) [("_law_j", 13)] (fun _ _ _ z => lift_fz z) rfl nd rfl rfl (sw_true rfl rfl rfl (by decide +kernel)) (si_range1 rfl Z_range (sa_cons (se_int) (sa_nil))) (blkOk_by (by change blkC N_law (defScope s_law) _ _ = true; decide +kernel)) (by decide) (fun _ _ _ _ _ => sg_name 13 nd) (fun _ _ _ _ _ => sts_nil) (fun _ _ _ _ _ => se_call G_l_cell_at (hr.mono (by decide)) takes0 rfl M_l_cell_at K_l_cell_at B_l_cell_at (sa_cons (se_var 0) (sa_cons (se_bin o_add (se_bin o_add (se_int) (se_bin o_mul (se_int) (se_var 6))) (se_var 13)) (sa_nil))) (lenA_cons (lenA_cons (lenA_nil)))))
    (ss_one (ss_expr (se_app (se_var 5) (se_tup (sa_cons (se_ix (se_var 2) (se_var 6)) (sa_cons (se_call G_l_shape (hr.mono (by decide)) (takes_of rfl rfl rfl rfl) rfl M_l_shape K_l_shape B_l_shape (sa_cons (se_var 2) (sa_cons (se_bin o_mod (se_ix (se_var 7) (se_int)) (se_bin o_pow (se_int) (se_int))) (sa_cons (se_bin o_mod (se_ix (se_var 7) (se_int)) (se_bin o_pow (se_int) (se_int))) (sa_cons (se_bin o_mod (se_ix (se_var 7) (se_int)) (se_int)) (sa_nil))))) (lenA_cons (lenA_cons (lenA_cons (lenA_cons (lenA_nil)))))) (sa_nil)))))))))
    (ss_cons (ss_frz 5 (ss_set 8 (se_m1 PySem.F.slot_str_join PySem.F.type_str_join m_join (se_str) (SF.fz (sf_lc [("_law_name", 10), ("_law_shape_here", 11)] rfl nd (si_seq (se_var 5)) (blkOk_by (by change blkC N_law (defScope s_law) _ _ = true; decide +kernel)) (by decide) (fun _ _ _ _ _ => sg_tup rfl (sgs_cons (sg_name 10 nd) (sgs_cons (sg_name 11 nd) (sgs_nil)))) (fun _ _ _ _ _ => sts_nil) (fun _ _ _ _ _ => se_bin o_add (se_bin o_add (se_var 10) (se_str)) (se_call G_l_text (hr.mono (by decide)) takes0 rfl M_l_text K_l_text B_l_text (sa_cons (se_var 11) (sa_nil)) (lenA_cons (lenA_nil))))))) nd))
    (ss_cons (ss_set 9 (se_call G_read_book (hr.mono (by decide)) (takes_of rfl rfl rfl rfl) rfl M_read_book K_read_book B_read_book (sa_cons (se_var 8) (sa_nil)) (lenA_cons (lenA_nil))) nd)
    (ss_cons (ss_if (PW.pt (sw_or (st_not (st_val (se_callBr G_l_same (hr.mono (by decide)) (takes_of rfl rfl rfl rfl) rfl M_l_same K_l_same B_l_same (sa_cons (se_var 9) (sa_cons (se_var 5) (sa_nil))) (lenA_cons (lenA_cons (lenA_nil)))))) (sw_or1 (st_not (st_val (se_callBr G_l_same (hr.mono (by decide)) (takes_of rfl rfl rfl rfl) rfl M_l_same K_l_same B_l_same (sa_cons (se_call G_show_book (hr.mono (by decide)) (takes_of rfl rfl rfl rfl) rfl M_show_book K_show_book B_show_book (sa_cons (se_var 5) (sa_nil)) (lenA_cons (lenA_nil))) (sa_cons (se_var 8) (sa_nil))) (lenA_cons (lenA_cons (lenA_nil))))))))) (ss_one (ss_ret (se_bl))) (ss_nil))
    (ss_cons (ss_frz 5 (ss_for (passes_of rfl) rfl (si_seq (se_var 5)) (sg_tup rfl (sgs_cons (sg_name 10 nd) (sgs_cons (sg_name 11 nd) (sgs_nil)))) (ss_one (ss_if (PW.pt (sw_or (st_not (st_val (se_callBr G_l_same (hr.mono (by decide)) (takes_of rfl rfl rfl rfl) rfl M_l_same K_l_same B_l_same (sa_cons (se_call G_shape_of (hr.mono (by decide)) (takes_of rfl rfl rfl rfl) rfl M_shape_of K_shape_of B_shape_of (sa_cons (se_var 5) (sa_cons (se_var 10) (sa_nil))) (lenA_cons (lenA_cons (lenA_nil)))) (sa_cons (se_var 11) (sa_nil))) (lenA_cons (lenA_cons (lenA_nil)))))) (sw_or1 (st_not (st_val (se_callBr G_l_same (hr.mono (by decide)) (takes_of rfl rfl rfl rfl) rfl M_l_same K_l_same B_l_same (sa_cons (se_call G_names_used (hr.mono (by decide)) (takes_of rfl rfl rfl rfl) rfl M_names_used K_names_used B_names_used (sa_cons (se_var 11) (sa_nil)) (lenA_cons (lenA_nil))) (sa_cons (se_call G_l_uses (hr.mono (by decide)) (takes_of rfl rfl rfl rfl) rfl M_l_uses K_l_uses B_l_uses (sa_cons (se_var 11) (sa_nil)) (lenA_cons (lenA_nil))) (sa_nil))) (lenA_cons (lenA_cons (lenA_nil))))))))) (ss_one (ss_ret (se_bl))) (ss_nil)))))
    (ss_cons (ss_setLc 12 (g := eFz) [("_law_sign", 14)] (fun _ _ _ z => lift_fz z) rfl nd rfl rfl (sw_true rfl rfl rfl (by decide +kernel)) (si_seq (se_str)) (blkOk_by (by change blkC N_law (defScope s_law) _ _ = true; decide +kernel)) (by decide) (fun _ _ _ _ _ => sg_name 14 nd) (fun _ _ _ _ _ => sts_one (st_cmp o_nin (se_var 14) (se_var 2))) (fun _ _ _ _ _ => se_var 14))
    (ss_cons (ss_if (st_not (st_val (se_call G_l_no_name (hr.mono (by decide)) (takes_of rfl rfl rfl rfl) rfl M_l_no_name K_l_no_name B_l_no_name (sa_cons (se_var 5) (sa_cons (se_ix (se_var 12) (se_bin o_mod (se_call G_l_cell_at (hr.mono (by decide)) (takes_of rfl rfl rfl rfl) rfl M_l_cell_at K_l_cell_at B_l_cell_at (sa_cons (se_var 0) (sa_cons (se_int) (sa_nil))) (lenA_cons (lenA_cons (lenA_nil)))) (se_callB (b_len) rfl Z_len (by decide +kernel) (sa_cons (se_var 12) (sa_nil))))) (sa_nil))) (lenA_cons (lenA_cons (lenA_nil)))))) (ss_one (ss_ret (se_bl))) (ss_nil))
    (ss_cons (ss_expr (se_app (se_var 9) (se_tup (sa_cons (se_str) (sa_cons (se_tup (sa_cons (se_str) (sa_cons (se_tup (sa_nil)) (sa_nil)))) (sa_nil))))))
    (ss_one (ss_ret (se_and (se_callBr G_l_same (hr.mono (by decide)) (takes_of rfl rfl rfl rfl) rfl M_l_same K_l_same B_l_same (sa_cons (se_call G_read_book (hr.mono (by decide)) (takes_of rfl rfl rfl rfl) rfl M_read_book K_read_book B_read_book (sa_cons (se_var 8) (sa_nil)) (lenA_cons (lenA_nil))) (sa_cons (se_var 5) (sa_nil))) (lenA_cons (lenA_cons (lenA_nil)))) (se_one (se_callBr G_l_same (hr.mono (by decide)) (takes_of rfl rfl rfl rfl) rfl M_l_same K_l_same B_l_same (sa_cons (se_call G_show_book (hr.mono (by decide)) (takes_of rfl rfl rfl rfl) rfl M_show_book K_show_book B_show_book (sa_cons (se_var 5) (sa_nil)) (lenA_cons (lenA_nil))) (sa_cons (se_var 8) (sa_nil))) (lenA_cons (lenA_cons (lenA_nil)))))))))))))))))))))
end
def ctOf (c_Crowded c_NoName c_NoNote c_NoRange c_Twice c_CountError c_NoGround : Addr) : String → Addr := fun s => if s = "Crowded" then c_Crowded else if s = "NoName" then c_NoName else if s = "NoNote" then c_NoNote else if s = "NoRange" then c_NoRange else if s = "Twice" then c_Twice else if s = "CountError" then c_CountError else if s = "NoGround" then c_NoGround else 0
set_option maxHeartbeats 4000000 in
theorem all_mk {l : PySem.W.OpenLaw} {w : World} {K : PySem.W.Frag} {h : Heap} {mg : Str → Option Value} {fa : Addr} (X : K.In h) (G : h.Ns mainGlobals mg) (hfa : mg "law" = some (.ref fa))
    {q8 : Tok}
    {q7 : Tok}
    {q6 : Tok}
    {q5 : Tok}
    {q4 : Tok}
    {q3 : Tok}
    {q2 : Tok}
    {q1 : Tok}
    {q0 : Tok}
    {c_Crowded c_NoName c_NoNote c_NoRange c_Twice c_CountError c_NoGround : Addr}
    {a_NoGround___init__ : Addr} {od_NoGround an_NoGround : Option Addr} {sl_NoGround : Array (Option Value)} {oc_NoGround kV_NoGround dc_NoGround pm_NoGround cd_NoGround ct_NoGround : Value} {nm_NoGround q_NoGround : Str} {N_NoGround : Addr} {bs_NoGround bm_NoGround sub_NoGround : List Value} {sn_NoGround : List Str} {ab_NoGround : Bool} {col_NoGround : Option Bool} {dd_NoGround : Option Addr} {k0_NoGround k1_NoGround k2_NoGround k3_NoGround k5_NoGround : Option Value}
    {dt_note_of : Addr} {dc_note_of : Value} {do_note_of : Option Addr} {dn_note_of : Nat} {ds_note_of : Array (Option Value)} {dq_note_of_0 : Tok}
    {a_l_cell_at : Addr} {od0 an0 : Option Addr} {sl0 : Array (Option Value)} {oc0 kV0 dc0 pm0 cd0 ct0 : Value}
    {a_l_word : Addr} {od1 an1 : Option Addr} {sl1 : Array (Option Value)} {oc1 kV1 dc1 pm1 cd1 ct1 : Value}
    {a_l_names : Addr} {od2 an2 : Option Addr} {sl2 : Array (Option Value)} {oc2 kV2 dc2 pm2 cd2 ct2 : Value}
    {a_shape_of : Addr} {od3 an3 : Option Addr} {sl3 : Array (Option Value)} {oc3 kV3 dc3 pm3 cd3 ct3 : Value}
    {a_l_no_name : Addr} {od4 an4 : Option Addr} {sl4 : Array (Option Value)} {oc4 kV4 dc4 pm4 cd4 ct4 : Value}
    {a_l_same : Addr} {od5 an5 : Option Addr} {sl5 : Array (Option Value)} {oc5 kV5 dc5 pm5 cd5 ct5 : Value}
    {a_l_shape : Addr} {od6 an6 : Option Addr} {sl6 : Array (Option Value)} {oc6 kV6 dc6 pm6 cd6 ct6 : Value}
    {a_l_text : Addr} {od7 an7 : Option Addr} {sl7 : Array (Option Value)} {oc7 kV7 dc7 pm7 cd7 ct7 : Value}
    {a_l_uses : Addr} {od8 an8 : Option Addr} {sl8 : Array (Option Value)} {oc8 kV8 dc8 pm8 cd8 ct8 : Value}
    {a_inner_shapes : Addr} {od9 an9 : Option Addr} {sl9 : Array (Option Value)} {oc9 kV9 dc9 pm9 cd9 ct9 : Value}
    {a_names_used : Addr} {od10 an10 : Option Addr} {sl10 : Array (Option Value)} {oc10 kV10 dc10 pm10 cd10 ct10 : Value}
    {a_has_no_range : Addr} {od11 an11 : Option Addr} {sl11 : Array (Option Value)} {oc11 kV11 dc11 pm11 cd11 ct11 : Value}
    {a_has_twice : Addr} {od12 an12 : Option Addr} {sl12 : Array (Option Value)} {oc12 kV12 dc12 pm12 cd12 ct12 : Value}
    {a_leads_back : Addr} {od13 an13 : Option Addr} {sl13 : Array (Option Value)} {oc13 kV13 dc13 pm13 cd13 ct13 : Value}
    {a_in_bounds : Addr} {od14 an14 : Option Addr} {sl14 : Array (Option Value)} {oc14 kV14 dc14 pm14 cd14 ct14 : Value}
    {a_is_mark : Addr} {od15 an15 : Option Addr} {sl15 : Array (Option Value)} {oc15 kV15 dc15 pm15 cd15 ct15 : Value}
    {a_is_word : Addr} {od16 an16 : Option Addr} {sl16 : Array (Option Value)} {oc16 kV16 dc16 pm16 cd16 ct16 : Value}
    {a_head_of : Addr} {od17 an17 : Option Addr} {sl17 : Array (Option Value)} {oc17 kV17 dc17 pm17 cd17 ct17 : Value}
    {a_note_at : Addr} {od18 an18 : Option Addr} {sl18 : Array (Option Value)} {oc18 kV18 dc18 pm18 cd18 ct18 : Value}
    {a_read_note : Addr} {od19 an19 : Option Addr} {sl19 : Array (Option Value)} {oc19 kV19 dc19 pm19 cd19 ct19 : Value}
    {a_is_figures : Addr} {od20 an20 : Option Addr} {sl20 : Array (Option Value)} {oc20 kV20 dc20 pm20 cd20 ct20 : Value}
    {a_plain_word : Addr} {od21 an21 : Option Addr} {sl21 : Array (Option Value)} {oc21 kV21 dc21 pm21 cd21 ct21 : Value}
    {a_plain_number : Addr} {od22 an22 : Option Addr} {sl22 : Array (Option Value)} {oc22 kV22 dc22 pm22 cd22 ct22 : Value}
    {a_noted_text : Addr} {od23 an23 : Option Addr} {sl23 : Array (Option Value)} {oc23 kV23 dc23 pm23 cd23 ct23 : Value}
    {a_noted_pick : Addr} {od24 an24 : Option Addr} {sl24 : Array (Option Value)} {oc24 kV24 dc24 pm24 cd24 ct24 : Value}
    {a_noted_alike : Addr} {od25 an25 : Option Addr} {sl25 : Array (Option Value)} {oc25 kV25 dc25 pm25 cd25 ct25 : Value}
    {a_shape_noted : Addr} {od26 an26 : Option Addr} {sl26 : Array (Option Value)} {oc26 kV26 dc26 pm26 cd26 ct26 : Value}
    {a_unlabelled : Addr} {od27 an27 : Option Addr} {sl27 : Array (Option Value)} {oc27 kV27 dc27 pm27 cd27 ct27 : Value}
    {a_rows_of : Addr} {od28 an28 : Option Addr} {sl28 : Array (Option Value)} {oc28 kV28 dc28 pm28 cd28 ct28 : Value}
    {a_read_book : Addr} {od29 an29 : Option Addr} {sl29 : Array (Option Value)} {oc29 kV29 dc29 pm29 cd29 ct29 : Value}
    {a_note_of : Addr} {od30 an30 : Option Addr} {sl30 : Array (Option Value)} {oc30 kV30 dc30 pm30 cd30 ct30 : Value}
    {a_show_note : Addr} {od31 an31 : Option Addr} {sl31 : Array (Option Value)} {oc31 kV31 dc31 pm31 cd31 ct31 : Value}
    {a_show_shape : Addr} {od32 an32 : Option Addr} {sl32 : Array (Option Value)} {oc32 kV32 dc32 pm32 cd32 ct32 : Value}
    {a_show_book : Addr} {od33 an33 : Option Addr} {sl33 : Array (Option Value)} {oc33 kV33 dc33 pm33 cd33 ct33 : Value}
    {a_law : Addr} {od34 an34 : Option Addr} {sl34 : Array (Option Value)} {oc34 kV34 dc34 pm34 cd34 ct34 : Value}
    (N_0 : PySem.W.nsIn K mainGlobals "_law_cell_at" = some (some (.ref a_l_cell_at)))
    (L_0 : K.lookup a_l_cell_at = some ⟨oc0, od0, .func (PySem.W.fnOf "_law_cell_at" "_law_cell_at" (defArgs s_l_cell_at) (defBody s_l_cell_at) (defScope s_l_cell_at) .none kV0 dc0 pm0 an0 cd0 ct0), sl0⟩)
    (C_0 : PySem.W.codeIn K cd0 "_law_cell_at" = true)
    (K_l_cell_at : PySem.W.keepIn K (.ref a_l_cell_at) = true)
    (N_1 : PySem.W.nsIn K mainGlobals "_law_word" = some (some (.ref a_l_word)))
    (L_1 : K.lookup a_l_word = some ⟨oc1, od1, .func (PySem.W.fnOf "_law_word" "_law_word" (defArgs s_l_word) (defBody s_l_word) (defScope s_l_word) .none kV1 dc1 pm1 an1 cd1 ct1), sl1⟩)
    (C_1 : PySem.W.codeIn K cd1 "_law_word" = true)
    (K_l_word : PySem.W.keepIn K (.ref a_l_word) = true)
    (N_2 : PySem.W.nsIn K mainGlobals "_law_names" = some (some (.ref a_l_names)))
    (L_2 : K.lookup a_l_names = some ⟨oc2, od2, .func (PySem.W.fnOf "_law_names" "_law_names" (defArgs s_l_names) (defBody s_l_names) (defScope s_l_names) .none kV2 dc2 pm2 an2 cd2 ct2), sl2⟩)
    (C_2 : PySem.W.codeIn K cd2 "_law_names" = true)
    (K_l_names : PySem.W.keepIn K (.ref a_l_names) = true)
    (N_3 : PySem.W.nsIn K mainGlobals "shape_of" = some (some (.ref a_shape_of)))
    (L_3 : K.lookup a_shape_of = some ⟨oc3, od3, .func (PySem.W.fnOf "shape_of" "shape_of" (defArgs s_shape_of) (defBody s_shape_of) (defScope s_shape_of) .none kV3 dc3 pm3 an3 cd3 ct3), sl3⟩)
    (C_3 : PySem.W.codeIn K cd3 "shape_of" = true)
    (K_shape_of : PySem.W.keepIn K (.ref a_shape_of) = true)
    (N_4 : PySem.W.nsIn K mainGlobals "_law_no_name" = some (some (.ref a_l_no_name)))
    (L_4 : K.lookup a_l_no_name = some ⟨oc4, od4, .func (PySem.W.fnOf "_law_no_name" "_law_no_name" (defArgs s_l_no_name) (defBody s_l_no_name) (defScope s_l_no_name) .none kV4 dc4 pm4 an4 cd4 ct4), sl4⟩)
    (C_4 : PySem.W.codeIn K cd4 "_law_no_name" = true)
    (K_l_no_name : PySem.W.keepIn K (.ref a_l_no_name) = true)
    (N_5 : PySem.W.nsIn K mainGlobals "_law_same" = some (some (.ref a_l_same)))
    (L_5 : K.lookup a_l_same = some ⟨oc5, od5, .func (PySem.W.fnOf "_law_same" "_law_same" (defArgs s_l_same) (defBody s_l_same) (defScope s_l_same) .none kV5 dc5 pm5 an5 cd5 ct5), sl5⟩)
    (C_5 : PySem.W.codeIn K cd5 "_law_same" = true)
    (K_l_same : PySem.W.keepIn K (.ref a_l_same) = true)
    (N_6 : PySem.W.nsIn K mainGlobals "_law_shape" = some (some (.ref a_l_shape)))
    (L_6 : K.lookup a_l_shape = some ⟨oc6, od6, .func (PySem.W.fnOf "_law_shape" "_law_shape" (defArgs s_l_shape) (defBody s_l_shape) (defScope s_l_shape) .none kV6 dc6 pm6 an6 cd6 ct6), sl6⟩)
    (C_6 : PySem.W.codeIn K cd6 "_law_shape" = true)
    (K_l_shape : PySem.W.keepIn K (.ref a_l_shape) = true)
    (N_7 : PySem.W.nsIn K mainGlobals "_law_text" = some (some (.ref a_l_text)))
    (L_7 : K.lookup a_l_text = some ⟨oc7, od7, .func (PySem.W.fnOf "_law_text" "_law_text" (defArgs s_l_text) (defBody s_l_text) (defScope s_l_text) .none kV7 dc7 pm7 an7 cd7 ct7), sl7⟩)
    (C_7 : PySem.W.codeIn K cd7 "_law_text" = true)
    (K_l_text : PySem.W.keepIn K (.ref a_l_text) = true)
    (N_8 : PySem.W.nsIn K mainGlobals "_law_uses" = some (some (.ref a_l_uses)))
    (L_8 : K.lookup a_l_uses = some ⟨oc8, od8, .func (PySem.W.fnOf "_law_uses" "_law_uses" (defArgs s_l_uses) (defBody s_l_uses) (defScope s_l_uses) .none kV8 dc8 pm8 an8 cd8 ct8), sl8⟩)
    (C_8 : PySem.W.codeIn K cd8 "_law_uses" = true)
    (K_l_uses : PySem.W.keepIn K (.ref a_l_uses) = true)
    (N_9 : PySem.W.nsIn K mainGlobals "inner_shapes" = some (some (.ref a_inner_shapes)))
    (L_9 : K.lookup a_inner_shapes = some ⟨oc9, od9, .func (PySem.W.fnOf "inner_shapes" "inner_shapes" (defArgs s_inner_shapes) (defBody s_inner_shapes) (defScope s_inner_shapes) .none kV9 dc9 pm9 an9 cd9 ct9), sl9⟩)
    (C_9 : PySem.W.codeIn K cd9 "inner_shapes" = true)
    (K_inner_shapes : PySem.W.keepIn K (.ref a_inner_shapes) = true)
    (N_10 : PySem.W.nsIn K mainGlobals "names_used" = some (some (.ref a_names_used)))
    (L_10 : K.lookup a_names_used = some ⟨oc10, od10, .func (PySem.W.fnOf "names_used" "names_used" (defArgs s_names_used) (defBody s_names_used) (defScope s_names_used) .none kV10 dc10 pm10 an10 cd10 ct10), sl10⟩)
    (C_10 : PySem.W.codeIn K cd10 "names_used" = true)
    (K_names_used : PySem.W.keepIn K (.ref a_names_used) = true)
    (N_11 : PySem.W.nsIn K mainGlobals "has_no_range" = some (some (.ref a_has_no_range)))
    (L_11 : K.lookup a_has_no_range = some ⟨oc11, od11, .func (PySem.W.fnOf "has_no_range" "has_no_range" (defArgs s_has_no_range) (defBody s_has_no_range) (defScope s_has_no_range) .none kV11 dc11 pm11 an11 cd11 ct11), sl11⟩)
    (C_11 : PySem.W.codeIn K cd11 "has_no_range" = true)
    (K_has_no_range : PySem.W.keepIn K (.ref a_has_no_range) = true)
    (N_12 : PySem.W.nsIn K mainGlobals "has_twice" = some (some (.ref a_has_twice)))
    (L_12 : K.lookup a_has_twice = some ⟨oc12, od12, .func (PySem.W.fnOf "has_twice" "has_twice" (defArgs s_has_twice) (defBody s_has_twice) (defScope s_has_twice) .none kV12 dc12 pm12 an12 cd12 ct12), sl12⟩)
    (C_12 : PySem.W.codeIn K cd12 "has_twice" = true)
    (K_has_twice : PySem.W.keepIn K (.ref a_has_twice) = true)
    (N_13 : PySem.W.nsIn K mainGlobals "leads_back" = some (some (.ref a_leads_back)))
    (L_13 : K.lookup a_leads_back = some ⟨oc13, od13, .func (PySem.W.fnOf "leads_back" "leads_back" (defArgs s_leads_back) (defBody s_leads_back) (defScope s_leads_back) .none kV13 dc13 pm13 an13 cd13 ct13), sl13⟩)
    (C_13 : PySem.W.codeIn K cd13 "leads_back" = true)
    (K_leads_back : PySem.W.keepIn K (.ref a_leads_back) = true)
    (N_14 : PySem.W.nsIn K mainGlobals "in_bounds" = some (some (.ref a_in_bounds)))
    (L_14 : K.lookup a_in_bounds = some ⟨oc14, od14, .func (PySem.W.fnOf "in_bounds" "in_bounds" (defArgs s_in_bounds) (defBody s_in_bounds) (defScope s_in_bounds) .none kV14 dc14 pm14 an14 cd14 ct14), sl14⟩)
    (C_14 : PySem.W.codeIn K cd14 "in_bounds" = true)
    (K_in_bounds : PySem.W.keepIn K (.ref a_in_bounds) = true)
    (N_15 : PySem.W.nsIn K mainGlobals "is_mark" = some (some (.ref a_is_mark)))
    (L_15 : K.lookup a_is_mark = some ⟨oc15, od15, .func (PySem.W.fnOf "is_mark" "is_mark" (defArgs s_is_mark) (defBody s_is_mark) (defScope s_is_mark) .none kV15 dc15 pm15 an15 cd15 ct15), sl15⟩)
    (C_15 : PySem.W.codeIn K cd15 "is_mark" = true)
    (K_is_mark : PySem.W.keepIn K (.ref a_is_mark) = true)
    (N_16 : PySem.W.nsIn K mainGlobals "is_word" = some (some (.ref a_is_word)))
    (L_16 : K.lookup a_is_word = some ⟨oc16, od16, .func (PySem.W.fnOf "is_word" "is_word" (defArgs s_is_word) (defBody s_is_word) (defScope s_is_word) .none kV16 dc16 pm16 an16 cd16 ct16), sl16⟩)
    (C_16 : PySem.W.codeIn K cd16 "is_word" = true)
    (K_is_word : PySem.W.keepIn K (.ref a_is_word) = true)
    (N_17 : PySem.W.nsIn K mainGlobals "head_of" = some (some (.ref a_head_of)))
    (L_17 : K.lookup a_head_of = some ⟨oc17, od17, .func (PySem.W.fnOf "head_of" "head_of" (defArgs s_head_of) (defBody s_head_of) (defScope s_head_of) .none kV17 dc17 pm17 an17 cd17 ct17), sl17⟩)
    (C_17 : PySem.W.codeIn K cd17 "head_of" = true)
    (K_head_of : PySem.W.keepIn K (.ref a_head_of) = true)
    (N_18 : PySem.W.nsIn K mainGlobals "note_at" = some (some (.ref a_note_at)))
    (L_18 : K.lookup a_note_at = some ⟨oc18, od18, .func (PySem.W.fnOf "note_at" "note_at" (defArgs s_note_at) (defBody s_note_at) (defScope s_note_at) .none kV18 dc18 pm18 an18 cd18 ct18), sl18⟩)
    (C_18 : PySem.W.codeIn K cd18 "note_at" = true)
    (K_note_at : PySem.W.keepIn K (.ref a_note_at) = true)
    (N_19 : PySem.W.nsIn K mainGlobals "read_note" = some (some (.ref a_read_note)))
    (L_19 : K.lookup a_read_note = some ⟨oc19, od19, .func (PySem.W.fnOf "read_note" "read_note" (defArgs s_read_note) (defBody s_read_note) (defScope s_read_note) .none kV19 dc19 pm19 an19 cd19 ct19), sl19⟩)
    (C_19 : PySem.W.codeIn K cd19 "read_note" = true)
    (K_read_note : PySem.W.keepIn K (.ref a_read_note) = true)
    (N_20 : PySem.W.nsIn K mainGlobals "is_figures" = some (some (.ref a_is_figures)))
    (L_20 : K.lookup a_is_figures = some ⟨oc20, od20, .func (PySem.W.fnOf "is_figures" "is_figures" (defArgs s_is_figures) (defBody s_is_figures) (defScope s_is_figures) .none kV20 dc20 pm20 an20 cd20 ct20), sl20⟩)
    (C_20 : PySem.W.codeIn K cd20 "is_figures" = true)
    (K_is_figures : PySem.W.keepIn K (.ref a_is_figures) = true)
    (N_21 : PySem.W.nsIn K mainGlobals "plain_word" = some (some (.ref a_plain_word)))
    (L_21 : K.lookup a_plain_word = some ⟨oc21, od21, .func (PySem.W.fnOf "plain_word" "plain_word" (defArgs s_plain_word) (defBody s_plain_word) (defScope s_plain_word) .none kV21 dc21 pm21 an21 cd21 ct21), sl21⟩)
    (C_21 : PySem.W.codeIn K cd21 "plain_word" = true)
    (K_plain_word : PySem.W.keepIn K (.ref a_plain_word) = true)
    (N_22 : PySem.W.nsIn K mainGlobals "plain_number" = some (some (.ref a_plain_number)))
    (L_22 : K.lookup a_plain_number = some ⟨oc22, od22, .func (PySem.W.fnOf "plain_number" "plain_number" (defArgs s_plain_number) (defBody s_plain_number) (defScope s_plain_number) .none kV22 dc22 pm22 an22 cd22 ct22), sl22⟩)
    (C_22 : PySem.W.codeIn K cd22 "plain_number" = true)
    (K_plain_number : PySem.W.keepIn K (.ref a_plain_number) = true)
    (N_23 : PySem.W.nsIn K mainGlobals "noted_text" = some (some (.ref a_noted_text)))
    (L_23 : K.lookup a_noted_text = some ⟨oc23, od23, .func (PySem.W.fnOf "noted_text" "noted_text" (defArgs s_noted_text) (defBody s_noted_text) (defScope s_noted_text) .none kV23 dc23 pm23 an23 cd23 ct23), sl23⟩)
    (C_23 : PySem.W.codeIn K cd23 "noted_text" = true)
    (K_noted_text : PySem.W.keepIn K (.ref a_noted_text) = true)
    (N_24 : PySem.W.nsIn K mainGlobals "noted_pick" = some (some (.ref a_noted_pick)))
    (L_24 : K.lookup a_noted_pick = some ⟨oc24, od24, .func (PySem.W.fnOf "noted_pick" "noted_pick" (defArgs s_noted_pick) (defBody s_noted_pick) (defScope s_noted_pick) .none kV24 dc24 pm24 an24 cd24 ct24), sl24⟩)
    (C_24 : PySem.W.codeIn K cd24 "noted_pick" = true)
    (K_noted_pick : PySem.W.keepIn K (.ref a_noted_pick) = true)
    (N_25 : PySem.W.nsIn K mainGlobals "noted_alike" = some (some (.ref a_noted_alike)))
    (L_25 : K.lookup a_noted_alike = some ⟨oc25, od25, .func (PySem.W.fnOf "noted_alike" "noted_alike" (defArgs s_noted_alike) (defBody s_noted_alike) (defScope s_noted_alike) .none kV25 dc25 pm25 an25 cd25 ct25), sl25⟩)
    (C_25 : PySem.W.codeIn K cd25 "noted_alike" = true)
    (K_noted_alike : PySem.W.keepIn K (.ref a_noted_alike) = true)
    (N_26 : PySem.W.nsIn K mainGlobals "shape_noted" = some (some (.ref a_shape_noted)))
    (L_26 : K.lookup a_shape_noted = some ⟨oc26, od26, .func (PySem.W.fnOf "shape_noted" "shape_noted" (defArgs s_shape_noted) (defBody s_shape_noted) (defScope s_shape_noted) .none kV26 dc26 pm26 an26 cd26 ct26), sl26⟩)
    (C_26 : PySem.W.codeIn K cd26 "shape_noted" = true)
    (K_shape_noted : PySem.W.keepIn K (.ref a_shape_noted) = true)
    (N_27 : PySem.W.nsIn K mainGlobals "unlabelled" = some (some (.ref a_unlabelled)))
    (L_27 : K.lookup a_unlabelled = some ⟨oc27, od27, .func (PySem.W.fnOf "unlabelled" "unlabelled" (defArgs s_unlabelled) (defBody s_unlabelled) (defScope s_unlabelled) .none kV27 dc27 pm27 an27 cd27 ct27), sl27⟩)
    (C_27 : PySem.W.codeIn K cd27 "unlabelled" = true)
    (K_unlabelled : PySem.W.keepIn K (.ref a_unlabelled) = true)
    (N_28 : PySem.W.nsIn K mainGlobals "rows_of" = some (some (.ref a_rows_of)))
    (L_28 : K.lookup a_rows_of = some ⟨oc28, od28, .func (PySem.W.fnOf "rows_of" "rows_of" (defArgs s_rows_of) (defBody s_rows_of) (defScope s_rows_of) .none kV28 dc28 pm28 an28 cd28 ct28), sl28⟩)
    (C_28 : PySem.W.codeIn K cd28 "rows_of" = true)
    (K_rows_of : PySem.W.keepIn K (.ref a_rows_of) = true)
    (N_29 : PySem.W.nsIn K mainGlobals "read_book" = some (some (.ref a_read_book)))
    (L_29 : K.lookup a_read_book = some ⟨oc29, od29, .func (PySem.W.fnOf "read_book" "read_book" (defArgs s_read_book) (defBody s_read_book) (defScope s_read_book) .none kV29 dc29 pm29 an29 cd29 ct29), sl29⟩)
    (C_29 : PySem.W.codeIn K cd29 "read_book" = true)
    (K_read_book : PySem.W.keepIn K (.ref a_read_book) = true)
    (N_30 : PySem.W.nsIn K mainGlobals "note_of" = some (some (.ref a_note_of)))
    (L_30 : K.lookup a_note_of = some ⟨oc30, od30, .func (PySem.W.fnOf "note_of" "note_of" (defArgs s_note_of) (defBody s_note_of) (defScope s_note_of) (.ref dt_note_of) kV30 dc30 pm30 an30 cd30 ct30), sl30⟩)
    (LT_note_of : K.lookup dt_note_of = some ⟨dc_note_of, do_note_of, .seq #[.str (Str.ofString "") dq_note_of_0] dn_note_of, ds_note_of⟩)
    (C_30 : PySem.W.codeIn K cd30 "note_of" = true)
    (K_note_of : PySem.W.keepIn K (.ref a_note_of) = true)
    (N_31 : PySem.W.nsIn K mainGlobals "show_note" = some (some (.ref a_show_note)))
    (L_31 : K.lookup a_show_note = some ⟨oc31, od31, .func (PySem.W.fnOf "show_note" "show_note" (defArgs s_show_note) (defBody s_show_note) (defScope s_show_note) .none kV31 dc31 pm31 an31 cd31 ct31), sl31⟩)
    (C_31 : PySem.W.codeIn K cd31 "show_note" = true)
    (K_show_note : PySem.W.keepIn K (.ref a_show_note) = true)
    (N_32 : PySem.W.nsIn K mainGlobals "show_shape" = some (some (.ref a_show_shape)))
    (L_32 : K.lookup a_show_shape = some ⟨oc32, od32, .func (PySem.W.fnOf "show_shape" "show_shape" (defArgs s_show_shape) (defBody s_show_shape) (defScope s_show_shape) .none kV32 dc32 pm32 an32 cd32 ct32), sl32⟩)
    (C_32 : PySem.W.codeIn K cd32 "show_shape" = true)
    (K_show_shape : PySem.W.keepIn K (.ref a_show_shape) = true)
    (N_33 : PySem.W.nsIn K mainGlobals "show_book" = some (some (.ref a_show_book)))
    (L_33 : K.lookup a_show_book = some ⟨oc33, od33, .func (PySem.W.fnOf "show_book" "show_book" (defArgs s_show_book) (defBody s_show_book) (defScope s_show_book) .none kV33 dc33 pm33 an33 cd33 ct33), sl33⟩)
    (C_33 : PySem.W.codeIn K cd33 "show_book" = true)
    (K_show_book : PySem.W.keepIn K (.ref a_show_book) = true)
    (N_34 : PySem.W.nsIn K mainGlobals "law" = some (some (.ref a_law)))
    (L_34 : K.lookup a_law = some ⟨oc34, od34, .func (PySem.W.fnOf "law" "law" (defArgs s_law) (defBody s_law) (defScope s_law) .none kV34 dc34 pm34 an34 cd34 ct34), sl34⟩)
    (C_34 : PySem.W.codeIn K cd34 "law" = true)
    (K_law : PySem.W.keepIn K (.ref a_law) = true)
    (Y_ValueError : PySem.W.nsIn K mainGlobals "ValueError" = some none)
    (Y_all : PySem.W.nsIn K mainGlobals "all" = some none)
    (Y_any : PySem.W.nsIn K mainGlobals "any" = some none)
    (Y_bool : PySem.W.nsIn K mainGlobals "bool" = some none)
    (Y_int : PySem.W.nsIn K mainGlobals "int" = some none)
    (Y_isinstance : PySem.W.nsIn K mainGlobals "isinstance" = some none)
    (Y_len : PySem.W.nsIn K mainGlobals "len" = some none)
    (Y_list : PySem.W.nsIn K mainGlobals "list" = some none)
    (Y_max : PySem.W.nsIn K mainGlobals "max" = some none)
    (Y_range : PySem.W.nsIn K mainGlobals "range" = some none)
    (Y_set : PySem.W.nsIn K mainGlobals "set" = some none)
    (Y_str : PySem.W.nsIn K mainGlobals "str" = some none)
    (Y_tuple : PySem.W.nsIn K mainGlobals "tuple" = some none)
    (Y_zip : PySem.W.nsIn K mainGlobals "zip" = some none)
    (Cn_FIGURES : PySem.W.nsIn K mainGlobals "FIGURES" = some (some (.str (Str.ofString "0123456789") q0)))
    (Cn_GREAT : PySem.W.nsIn K mainGlobals "GREAT" = some (some (.str (Str.ofString "ABCDEFGHIJKLMNOPQRSTUVWXYZ") q1)))
    (Cn_LETTERS : PySem.W.nsIn K mainGlobals "LETTERS" = some (some (.str (Str.ofString "abcdefghijklmnopqrstuvwxyz") q2)))
    (Cn_MOST_BRANCHES : PySem.W.nsIn K mainGlobals "MOST_BRANCHES" = some (some (.int 10 q3)))
    (Cn_MOST_NAMES : PySem.W.nsIn K mainGlobals "MOST_NAMES" = some (some (.int 8 q4)))
    (Cn_MOST_OPEN : PySem.W.nsIn K mainGlobals "MOST_OPEN" = some (some (.int 6 q5)))
    (Cn_MOST_PARTS : PySem.W.nsIn K mainGlobals "MOST_PARTS" = some (some (.int 8 q6)))
    (Cn_MOST_SIGNS : PySem.W.nsIn K mainGlobals "MOST_SIGNS" = some (some (.int 2000 q7)))
    (Cn_MOST_TIMES : PySem.W.nsIn K mainGlobals "MOST_TIMES" = some (some (.int 6 q8)))
    (Cg_CountError : PySem.W.nsIn K mainGlobals "CountError" = some (some (.ref c_CountError)))
    (Cg_Crowded : PySem.W.nsIn K mainGlobals "Crowded" = some (some (.ref c_Crowded)))
    (Ck_Crowded : PySem.W.keepIn K (.ref c_Crowded) = true)
    (Cq_Crowded : PySem.W.excIn K c_Crowded [.type "ValueError", .type "Exception", .type "BaseException", .type "object"] "ValueError.__new__" = true)
    (Cb_Crowded : PySem.W.subIn K (.ref c_Crowded) (.type "BaseException") = some true)
    (Ct_Crowded : PySem.W.typeIn K (.ref c_Crowded) = some (.type "type"))
    (Cd_Crowded : PySem.W.hasDictIn K c_Crowded = true)
    (Cg_NoName : PySem.W.nsIn K mainGlobals "NoName" = some (some (.ref c_NoName)))
    (Ck_NoName : PySem.W.keepIn K (.ref c_NoName) = true)
    (Cq_NoName : PySem.W.excIn K c_NoName [.type "ValueError", .type "Exception", .type "BaseException", .type "object"] "ValueError.__new__" = true)
    (Cb_NoName : PySem.W.subIn K (.ref c_NoName) (.type "BaseException") = some true)
    (Ct_NoName : PySem.W.typeIn K (.ref c_NoName) = some (.type "type"))
    (Cd_NoName : PySem.W.hasDictIn K c_NoName = true)
    (Cg_NoNote : PySem.W.nsIn K mainGlobals "NoNote" = some (some (.ref c_NoNote)))
    (Ck_NoNote : PySem.W.keepIn K (.ref c_NoNote) = true)
    (Cq_NoNote : PySem.W.excIn K c_NoNote [.type "ValueError", .type "Exception", .type "BaseException", .type "object"] "ValueError.__new__" = true)
    (Cb_NoNote : PySem.W.subIn K (.ref c_NoNote) (.type "BaseException") = some true)
    (Ct_NoNote : PySem.W.typeIn K (.ref c_NoNote) = some (.type "type"))
    (Cd_NoNote : PySem.W.hasDictIn K c_NoNote = true)
    (Cg_NoRange : PySem.W.nsIn K mainGlobals "NoRange" = some (some (.ref c_NoRange)))
    (Ck_NoRange : PySem.W.keepIn K (.ref c_NoRange) = true)
    (Cq_NoRange : PySem.W.excIn K c_NoRange [.type "ValueError", .type "Exception", .type "BaseException", .type "object"] "ValueError.__new__" = true)
    (Cb_NoRange : PySem.W.subIn K (.ref c_NoRange) (.type "BaseException") = some true)
    (Ct_NoRange : PySem.W.typeIn K (.ref c_NoRange) = some (.type "type"))
    (Cd_NoRange : PySem.W.hasDictIn K c_NoRange = true)
    (Cg_Twice : PySem.W.nsIn K mainGlobals "Twice" = some (some (.ref c_Twice)))
    (Ck_Twice : PySem.W.keepIn K (.ref c_Twice) = true)
    (Cq_Twice : PySem.W.excIn K c_Twice [.type "ValueError", .type "Exception", .type "BaseException", .type "object"] "ValueError.__new__" = true)
    (Cb_Twice : PySem.W.subIn K (.ref c_Twice) (.type "BaseException") = some true)
    (Ct_Twice : PySem.W.typeIn K (.ref c_Twice) = some (.type "type"))
    (Cd_Twice : PySem.W.hasDictIn K c_Twice = true)
    (Ct_CountError : PySem.W.typeIn K (.ref c_CountError) = some (.type "type"))
    (Fga_CountError : PySem.W.specialIn K (.ref c_CountError) "__getattribute__" = some (some (.builtin "type.__getattribute__")))
    (Frd_CountError : PySem.W.readsIn K c_CountError (.type "type") = true)
    (Fvv_CountError : PySem.W.findCls K (.ref c_CountError) (.type "type") "__init__" = some (.val (.builtin "ValueError.__init__")))
    (Cg_NoGround : PySem.W.nsIn K mainGlobals "NoGround" = some (some (.ref c_NoGround)))
    (Ck_NoGround : PySem.W.keepIn K (.ref c_NoGround) = true)
    (Cb_NoGround : PySem.W.subIn K (.ref c_NoGround) (.type "BaseException") = some true)
    (Ct_NoGround : PySem.W.typeIn K (.ref c_NoGround) = some (.type "type"))
    (Cd_NoGround : PySem.W.hasDictIn K c_NoGround = true)
    (Fl_NoGround : K.lookup c_NoGround = some (excClassObj nm_NoGround q_NoGround c_NoGround N_NoGround bs_NoGround bm_NoGround true sn_NoGround sub_NoGround ab_NoGround col_NoGround dd_NoGround k0_NoGround k1_NoGround k2_NoGround k3_NoGround k5_NoGround "ValueError.__new__"))
    (Fr_NoGround : PySem.HandSPX.refsVE bm_NoGround = true)
    (Fs_NoGround : PySem.W.findIn K (.ref c_NoGround) "__setattr__" = some (some (.builtin "object.__setattr__")))
    (Fi_NoGround : PySem.W.findIn K (.ref c_NoGround) "__init__" = some (some (.ref a_NoGround___init__)))
    (Ft_NoGround : PySem.W.typeIn K (.ref a_NoGround___init__) = some (.type "function"))
    (FL_NoGround : K.lookup a_NoGround___init__ = some ⟨oc_NoGround, od_NoGround, .func (PySem.W.fnOf "__init__" "NoGround.__init__" (defArgs s_NoGround___init__) (defBody s_NoGround___init__) (defScope s_NoGround___init__) .none kV_NoGround dc_NoGround pm_NoGround an_NoGround cd_NoGround ct_NoGround), sl_NoGround⟩)
    (FC_NoGround : PySem.W.codeIn K cd_NoGround "NoGround.__init__" = true)
    (FK_NoGround : PySem.W.keepIn K (.ref a_NoGround___init__) = true)
    (Fn_NoGround_ring : PySem.W.findIn K (.ref c_NoGround) "ring" = some none)
    (Ehg_Crowded : PySem.W.findIn K (.ref c_Crowded) "__getattribute__" = some (some (.builtin "BaseException.__getattribute__")))
    (Ehk_Crowded : PySem.W.findIn K (.ref c_Crowded) "__getattr__" = some none)
    (Eha_Crowded : PySem.W.findIn K (.ref c_Crowded) "__class__" = some (some (.builtin "object.__class__")))
    (Ehm_Crowded : PySem.W.mroIn K c_Crowded (.type "object") = some true)
    (Kt_Crowded_CountError : PySem.W.kitOne K (.ref c_Crowded) (.ref c_CountError) = some true)
    (Kt_Crowded_ValueError : PySem.W.kitOne K (.ref c_Crowded) (.type "ValueError") = some true)
    (Ehg_NoGround : PySem.W.findIn K (.ref c_NoGround) "__getattribute__" = some (some (.builtin "BaseException.__getattribute__")))
    (Ehk_NoGround : PySem.W.findIn K (.ref c_NoGround) "__getattr__" = some none)
    (Eha_NoGround : PySem.W.findIn K (.ref c_NoGround) "__class__" = some (some (.builtin "object.__class__")))
    (Ehm_NoGround : PySem.W.mroIn K c_NoGround (.type "object") = some true)
    (Kt_NoGround_CountError : PySem.W.kitOne K (.ref c_NoGround) (.ref c_CountError) = some true)
    (Kt_NoGround_ValueError : PySem.W.kitOne K (.ref c_NoGround) (.type "ValueError") = some true)
    (Ehg_NoName : PySem.W.findIn K (.ref c_NoName) "__getattribute__" = some (some (.builtin "BaseException.__getattribute__")))
    (Ehk_NoName : PySem.W.findIn K (.ref c_NoName) "__getattr__" = some none)
    (Eha_NoName : PySem.W.findIn K (.ref c_NoName) "__class__" = some (some (.builtin "object.__class__")))
    (Ehm_NoName : PySem.W.mroIn K c_NoName (.type "object") = some true)
    (Kt_NoName_CountError : PySem.W.kitOne K (.ref c_NoName) (.ref c_CountError) = some true)
    (Kt_NoName_ValueError : PySem.W.kitOne K (.ref c_NoName) (.type "ValueError") = some true)
    (Ehg_NoNote : PySem.W.findIn K (.ref c_NoNote) "__getattribute__" = some (some (.builtin "BaseException.__getattribute__")))
    (Ehk_NoNote : PySem.W.findIn K (.ref c_NoNote) "__getattr__" = some none)
    (Eha_NoNote : PySem.W.findIn K (.ref c_NoNote) "__class__" = some (some (.builtin "object.__class__")))
    (Ehm_NoNote : PySem.W.mroIn K c_NoNote (.type "object") = some true)
    (Kt_NoNote_CountError : PySem.W.kitOne K (.ref c_NoNote) (.ref c_CountError) = some true)
    (Kt_NoNote_ValueError : PySem.W.kitOne K (.ref c_NoNote) (.type "ValueError") = some true)
    (Ehg_NoRange : PySem.W.findIn K (.ref c_NoRange) "__getattribute__" = some (some (.builtin "BaseException.__getattribute__")))
    (Ehk_NoRange : PySem.W.findIn K (.ref c_NoRange) "__getattr__" = some none)
    (Eha_NoRange : PySem.W.findIn K (.ref c_NoRange) "__class__" = some (some (.builtin "object.__class__")))
    (Ehm_NoRange : PySem.W.mroIn K c_NoRange (.type "object") = some true)
    (Kt_NoRange_CountError : PySem.W.kitOne K (.ref c_NoRange) (.ref c_CountError) = some true)
    (Kt_NoRange_ValueError : PySem.W.kitOne K (.ref c_NoRange) (.type "ValueError") = some true)
    (Ehg_Twice : PySem.W.findIn K (.ref c_Twice) "__getattribute__" = some (some (.builtin "BaseException.__getattribute__")))
    (Ehk_Twice : PySem.W.findIn K (.ref c_Twice) "__getattr__" = some none)
    (Eha_Twice : PySem.W.findIn K (.ref c_Twice) "__class__" = some (some (.builtin "object.__class__")))
    (Ehm_Twice : PySem.W.mroIn K c_Twice (.type "object") = some true)
    (Kt_Twice_CountError : PySem.W.kitOne K (.ref c_Twice) (.ref c_CountError) = some true)
    (Kt_Twice_ValueError : PySem.W.kitOne K (.ref c_Twice) (.type "ValueError") = some true)
    (Kn_CountError : PySem.W.kitOne K (.type "NoneType") (.ref c_CountError) = some false)
    (Kn_ValueError : PySem.W.kitOne K (.type "NoneType") (.type "ValueError") = some false)
    (Ehn : PySem.W.specialIn K (.builtin "object.__class__") "__get__" = some (some (.builtin "getset_descriptor.__get__")))
    (Eht : PySem.W.takesIn K (.builtin "object.__class__") = some true)
    (Cs_Crowded_NoName : PySem.W.subIn K (.ref c_Crowded) (.ref c_NoName) = some false)
    (Cs_NoGround_NoName : PySem.W.subIn K (.ref c_NoGround) (.ref c_NoName) = some false)
    (Cs_NoName_NoName : PySem.W.subIn K (.ref c_NoName) (.ref c_NoName) = some true)
    (Cs_NoNote_NoName : PySem.W.subIn K (.ref c_NoNote) (.ref c_NoName) = some false)
    (Cs_NoRange_NoName : PySem.W.subIn K (.ref c_NoRange) (.ref c_NoName) = some false)
    (Cs_Twice_NoName : PySem.W.subIn K (.ref c_Twice) (.ref c_NoName) = some false) :
    ∃ fd : FuncData, (∀ (s : Shared) (v : Value), BindsTo s fd ⟨[v], []⟩ [("_law_script", v)]) ∧ ∀ base : Heap, K.In base → base.Ns mainGlobals mg → FnOk l.prog w K mg base (L2.CX l.prog w) 76 fa fd ["_law_script"] (spL K S_law) := by
  have e := hfa.symm.trans (PySem.W.mg_of X G N_34)
  cases e
  have F_l_cell_at := fun_mk (st := s_l_cell_at) L_0 C_0 K_l_cell_at
  have B_l_cell_at := F_l_cell_at.binds (ps := P_l_cell_at) fun _ _ _ _ _ _ us hl => match us, hl with | [_, _], _ => rfl
  have M_l_cell_at := PySem.W.mg_of X G N_0
  have F_l_word := fun_mk (st := s_l_word) L_1 C_1 K_l_word
  have B_l_word := F_l_word.binds (ps := P_l_word) fun _ _ _ _ _ _ us hl => match us, hl with | [_, _], _ => rfl
  have M_l_word := PySem.W.mg_of X G N_1
  have F_l_names := fun_mk (st := s_l_names) L_2 C_2 K_l_names
  have B_l_names := F_l_names.binds (ps := P_l_names) fun _ _ _ _ _ _ us hl => match us, hl with | [_, _], _ => rfl
  have M_l_names := PySem.W.mg_of X G N_2
  have F_shape_of := fun_mk (st := s_shape_of) L_3 C_3 K_shape_of
  have B_shape_of := F_shape_of.binds (ps := P_shape_of) fun _ _ _ _ _ _ us hl => match us, hl with | [_, _], _ => rfl
  have M_shape_of := PySem.W.mg_of X G N_3
  have F_l_no_name := fun_mk (st := s_l_no_name) L_4 C_4 K_l_no_name
  have B_l_no_name := F_l_no_name.binds (ps := P_l_no_name) fun _ _ _ _ _ _ us hl => match us, hl with | [_, _], _ => rfl
  have M_l_no_name := PySem.W.mg_of X G N_4
  have F_l_same := fun_mk (st := s_l_same) L_5 C_5 K_l_same
  have B_l_same := F_l_same.binds (ps := P_l_same) fun _ _ _ _ _ _ us hl => match us, hl with | [_, _], _ => rfl
  have M_l_same := PySem.W.mg_of X G N_5
  have F_l_shape := fun_mk (st := s_l_shape) L_6 C_6 K_l_shape
  have B_l_shape := F_l_shape.binds (ps := P_l_shape) fun _ _ _ _ _ _ us hl => match us, hl with | [_, _, _, _], _ => rfl
  have M_l_shape := PySem.W.mg_of X G N_6
  have F_l_text := fun_mk (st := s_l_text) L_7 C_7 K_l_text
  have B_l_text := F_l_text.binds (ps := P_l_text) fun _ _ _ _ _ _ us hl => match us, hl with | [_], _ => rfl
  have M_l_text := PySem.W.mg_of X G N_7
  have F_l_uses := fun_mk (st := s_l_uses) L_8 C_8 K_l_uses
  have B_l_uses := F_l_uses.binds (ps := P_l_uses) fun _ _ _ _ _ _ us hl => match us, hl with | [_], _ => rfl
  have M_l_uses := PySem.W.mg_of X G N_8
  have F_inner_shapes := fun_mk (st := s_inner_shapes) L_9 C_9 K_inner_shapes
  have B_inner_shapes := F_inner_shapes.binds (ps := P_inner_shapes) fun _ _ _ _ _ _ us hl => match us, hl with | [_], _ => rfl
  have M_inner_shapes := PySem.W.mg_of X G N_9
  have F_names_used := fun_mk (st := s_names_used) L_10 C_10 K_names_used
  have B_names_used := F_names_used.binds (ps := P_names_used) fun _ _ _ _ _ _ us hl => match us, hl with | [_], _ => rfl
  have M_names_used := PySem.W.mg_of X G N_10
  have F_has_no_range := fun_mk (st := s_has_no_range) L_11 C_11 K_has_no_range
  have B_has_no_range := F_has_no_range.binds (ps := P_has_no_range) fun _ _ _ _ _ _ us hl => match us, hl with | [_], _ => rfl
  have M_has_no_range := PySem.W.mg_of X G N_11
  have F_has_twice := fun_mk (st := s_has_twice) L_12 C_12 K_has_twice
  have B_has_twice := F_has_twice.binds (ps := P_has_twice) fun _ _ _ _ _ _ us hl => match us, hl with | [_], _ => rfl
  have M_has_twice := PySem.W.mg_of X G N_12
  have F_leads_back := fun_mk (st := s_leads_back) L_13 C_13 K_leads_back
  have B_leads_back := F_leads_back.binds (ps := P_leads_back) fun _ _ _ _ _ _ us hl => match us, hl with | [_, _], _ => rfl
  have M_leads_back := PySem.W.mg_of X G N_13
  have F_in_bounds := fun_mk (st := s_in_bounds) L_14 C_14 K_in_bounds
  have B_in_bounds := F_in_bounds.binds (ps := P_in_bounds) fun _ _ _ _ _ _ us hl => match us, hl with | [_], _ => rfl
  have M_in_bounds := PySem.W.mg_of X G N_14
  have F_is_mark := fun_mk (st := s_is_mark) L_15 C_15 K_is_mark
  have B_is_mark := F_is_mark.binds (ps := P_is_mark) fun _ _ _ _ _ _ us hl => match us, hl with | [_], _ => rfl
  have M_is_mark := PySem.W.mg_of X G N_15
  have F_is_word := fun_mk (st := s_is_word) L_16 C_16 K_is_word
  have B_is_word := F_is_word.binds (ps := P_is_word) fun _ _ _ _ _ _ us hl => match us, hl with | [_], _ => rfl
  have M_is_word := PySem.W.mg_of X G N_16
  have F_head_of := fun_mk (st := s_head_of) L_17 C_17 K_head_of
  have B_head_of := F_head_of.binds (ps := P_head_of) fun _ _ _ _ _ _ us hl => match us, hl with | [_, _], _ => rfl
  have M_head_of := PySem.W.mg_of X G N_17
  have F_note_at := fun_mk (st := s_note_at) L_18 C_18 K_note_at
  have B_note_at := F_note_at.binds (ps := P_note_at) fun _ _ _ _ _ _ us hl => match us, hl with | [_, _], _ => rfl
  have M_note_at := PySem.W.mg_of X G N_18
  have F_read_note := fun_mk (st := s_read_note) L_19 C_19 K_read_note
  have B_read_note := F_read_note.binds (ps := P_read_note) fun _ _ _ _ _ _ us hl => match us, hl with | [_], _ => rfl
  have M_read_note := PySem.W.mg_of X G N_19
  have F_is_figures := fun_mk (st := s_is_figures) L_20 C_20 K_is_figures
  have B_is_figures := F_is_figures.binds (ps := P_is_figures) fun _ _ _ _ _ _ us hl => match us, hl with | [_], _ => rfl
  have M_is_figures := PySem.W.mg_of X G N_20
  have F_plain_word := fun_mk (st := s_plain_word) L_21 C_21 K_plain_word
  have B_plain_word := F_plain_word.binds (ps := P_plain_word) fun _ _ _ _ _ _ us hl => match us, hl with | [_], _ => rfl
  have M_plain_word := PySem.W.mg_of X G N_21
  have F_plain_number := fun_mk (st := s_plain_number) L_22 C_22 K_plain_number
  have B_plain_number := F_plain_number.binds (ps := P_plain_number) fun _ _ _ _ _ _ us hl => match us, hl with | [_], _ => rfl
  have M_plain_number := PySem.W.mg_of X G N_22
  have F_noted_text := fun_mk (st := s_noted_text) L_23 C_23 K_noted_text
  have B_noted_text := F_noted_text.binds (ps := P_noted_text) fun _ _ _ _ _ _ us hl => match us, hl with | [_], _ => rfl
  have M_noted_text := PySem.W.mg_of X G N_23
  have F_noted_pick := fun_mk (st := s_noted_pick) L_24 C_24 K_noted_pick
  have B_noted_pick := F_noted_pick.binds (ps := P_noted_pick) fun _ _ _ _ _ _ us hl => match us, hl with | [_], _ => rfl
  have M_noted_pick := PySem.W.mg_of X G N_24
  have F_noted_alike := fun_mk (st := s_noted_alike) L_25 C_25 K_noted_alike
  have B_noted_alike := F_noted_alike.binds (ps := P_noted_alike) fun _ _ _ _ _ _ us hl => match us, hl with | [_], _ => rfl
  have M_noted_alike := PySem.W.mg_of X G N_25
  have F_shape_noted := fun_mk (st := s_shape_noted) L_26 C_26 K_shape_noted
  have B_shape_noted := F_shape_noted.binds (ps := P_shape_noted) fun _ _ _ _ _ _ us hl => match us, hl with | [_], _ => rfl
  have M_shape_noted := PySem.W.mg_of X G N_26
  have F_unlabelled := fun_mk (st := s_unlabelled) L_27 C_27 K_unlabelled
  have B_unlabelled := F_unlabelled.binds (ps := P_unlabelled) fun _ _ _ _ _ _ us hl => match us, hl with | [_], _ => rfl
  have M_unlabelled := PySem.W.mg_of X G N_27
  have F_rows_of := fun_mk (st := s_rows_of) L_28 C_28 K_rows_of
  have B_rows_of := F_rows_of.binds (ps := P_rows_of) fun _ _ _ _ _ _ us hl => match us, hl with | [_], _ => rfl
  have M_rows_of := PySem.W.mg_of X G N_28
  have F_read_book := fun_mk (st := s_read_book) L_29 C_29 K_read_book
  have B_read_book := F_read_book.binds (ps := P_read_book) fun _ _ _ _ _ _ us hl => match us, hl with | [_], _ => rfl
  have M_read_book := PySem.W.mg_of X G N_29
  have F_note_of := fund_mk (st := s_note_of) (dvs := [V.str (Str.ofString "")]) (its := [.str (Str.ofString "") dq_note_of_0]) L_30 C_30 K_note_of LT_note_of (fun z => nomatch z) (.cons ⟨_, rfl⟩ (.nil))
  have B_note_of := F_note_of.binds1 (ps := P_note_of) 2 1 (fun z => nomatch z) rfl fun _ _ _ _ _ _ _ us its hl h2 => match us, its, hl, h2 with | [_, _], [_], _, _ => ⟨_, rfl, rfl⟩
  have BD_note_of := F_note_of.binds1 (ps := P_note_of) 1 0 (fun z => nomatch z) rfl fun _ _ _ _ _ _ _ us its hl h2 => match us, its, hl, h2 with | [_], [_], _, _ => ⟨_, rfl, rfl⟩
  have B_note_of := (fun ⟨_, z1, z2⟩ => (match z1 with | .nil => z2) : (∃ ds, Vals [] ds ∧ Binds K _ P_note_of ds) → Binds K _ P_note_of []) B_note_of
  have M_note_of := PySem.W.mg_of X G N_30
  have F_show_note := fun_mk (st := s_show_note) L_31 C_31 K_show_note
  have B_show_note := F_show_note.binds (ps := P_show_note) fun _ _ _ _ _ _ us hl => match us, hl with | [_], _ => rfl
  have M_show_note := PySem.W.mg_of X G N_31
  have F_show_shape := fun_mk (st := s_show_shape) L_32 C_32 K_show_shape
  have B_show_shape := F_show_shape.binds (ps := P_show_shape) fun _ _ _ _ _ _ us hl => match us, hl with | [_], _ => rfl
  have M_show_shape := PySem.W.mg_of X G N_32
  have F_show_book := fun_mk (st := s_show_book) L_33 C_33 K_show_book
  have B_show_book := F_show_book.binds (ps := P_show_book) fun _ _ _ _ _ _ us hl => match us, hl with | [_], _ => rfl
  have M_show_book := PySem.W.mg_of X G N_33
  have F_law := fun_mk (st := s_law) L_34 C_34 K_law
  have B_law := F_law.binds (ps := P_law) fun _ _ _ _ _ _ us hl => match us, hl with | [_], _ => rfl
  have M_law := PySem.W.mg_of X G N_34
  have Z_ValueError := PySem.W.mg_none_of X G Y_ValueError
  have Z_all := PySem.W.mg_none_of X G Y_all
  have Z_any := PySem.W.mg_none_of X G Y_any
  have Z_bool := PySem.W.mg_none_of X G Y_bool
  have Z_int := PySem.W.mg_none_of X G Y_int
  have Z_isinstance := PySem.W.mg_none_of X G Y_isinstance
  have Z_len := PySem.W.mg_none_of X G Y_len
  have Z_list := PySem.W.mg_none_of X G Y_list
  have Z_max := PySem.W.mg_none_of X G Y_max
  have Z_range := PySem.W.mg_none_of X G Y_range
  have Z_set := PySem.W.mg_none_of X G Y_set
  have Z_str := PySem.W.mg_none_of X G Y_str
  have Z_tuple := PySem.W.mg_none_of X G Y_tuple
  have Z_zip := PySem.W.mg_none_of X G Y_zip
  have CN_FIGURES : KC K mg "FIGURES" (.str (Str.ofString "0123456789")) := fun _ => ⟨.str (Str.ofString "0123456789"), _, PySem.W.mg_of X G Cn_FIGURES, ⟨_, rfl⟩, fun _ _ => .str _⟩
  have CN_GREAT : KC K mg "GREAT" (.str (Str.ofString "ABCDEFGHIJKLMNOPQRSTUVWXYZ")) := fun _ => ⟨.str (Str.ofString "ABCDEFGHIJKLMNOPQRSTUVWXYZ"), _, PySem.W.mg_of X G Cn_GREAT, ⟨_, rfl⟩, fun _ _ => .str _⟩
  have CN_LETTERS : KC K mg "LETTERS" (.str (Str.ofString "abcdefghijklmnopqrstuvwxyz")) := fun _ => ⟨.str (Str.ofString "abcdefghijklmnopqrstuvwxyz"), _, PySem.W.mg_of X G Cn_LETTERS, ⟨_, rfl⟩, fun _ _ => .str _⟩
  have CN_MOST_BRANCHES : KC K mg "MOST_BRANCHES" (.int 10) := fun _ => ⟨.int 10, _, PySem.W.mg_of X G Cn_MOST_BRANCHES, ⟨_, rfl⟩, fun _ _ => .int _⟩
  have CN_MOST_NAMES : KC K mg "MOST_NAMES" (.int 8) := fun _ => ⟨.int 8, _, PySem.W.mg_of X G Cn_MOST_NAMES, ⟨_, rfl⟩, fun _ _ => .int _⟩
  have CN_MOST_OPEN : KC K mg "MOST_OPEN" (.int 6) := fun _ => ⟨.int 6, _, PySem.W.mg_of X G Cn_MOST_OPEN, ⟨_, rfl⟩, fun _ _ => .int _⟩
  have CN_MOST_PARTS : KC K mg "MOST_PARTS" (.int 8) := fun _ => ⟨.int 8, _, PySem.W.mg_of X G Cn_MOST_PARTS, ⟨_, rfl⟩, fun _ _ => .int _⟩
  have CN_MOST_SIGNS : KC K mg "MOST_SIGNS" (.int 2000) := fun _ => ⟨.int 2000, _, PySem.W.mg_of X G Cn_MOST_SIGNS, ⟨_, rfl⟩, fun _ _ => .int _⟩
  have CN_MOST_TIMES : KC K mg "MOST_TIMES" (.int 6) := fun _ => ⟨.int 6, _, PySem.W.mg_of X G Cn_MOST_TIMES, ⟨_, rfl⟩, fun _ _ => .int _⟩
  have X_Crowded : XC K mg (ctOf c_Crowded c_NoName c_NoNote c_NoRange c_Twice c_CountError c_NoGround) "Crowded" := ⟨PySem.W.mg_of X G Cg_Crowded, Ck_Crowded, Cq_Crowded, Cb_Crowded, Ct_Crowded, Cd_Crowded⟩
  have X_NoName : XC K mg (ctOf c_Crowded c_NoName c_NoNote c_NoRange c_Twice c_CountError c_NoGround) "NoName" := ⟨PySem.W.mg_of X G Cg_NoName, Ck_NoName, Cq_NoName, Cb_NoName, Ct_NoName, Cd_NoName⟩
  have X_NoNote : XC K mg (ctOf c_Crowded c_NoName c_NoNote c_NoRange c_Twice c_CountError c_NoGround) "NoNote" := ⟨PySem.W.mg_of X G Cg_NoNote, Ck_NoNote, Cq_NoNote, Cb_NoNote, Ct_NoNote, Cd_NoNote⟩
  have X_NoRange : XC K mg (ctOf c_Crowded c_NoName c_NoNote c_NoRange c_Twice c_CountError c_NoGround) "NoRange" := ⟨PySem.W.mg_of X G Cg_NoRange, Ck_NoRange, Cq_NoRange, Cb_NoRange, Ct_NoRange, Cd_NoRange⟩
  have X_Twice : XC K mg (ctOf c_Crowded c_NoName c_NoNote c_NoRange c_Twice c_CountError c_NoGround) "Twice" := ⟨PySem.W.mg_of X G Cg_Twice, Ck_Twice, Cq_Twice, Cb_Twice, Ct_Twice, Cd_Twice⟩
  have OX_NoGround : OexC K ((ctOf c_Crowded c_NoName c_NoNote c_NoRange c_Twice c_CountError c_NoGround) "NoGround") := ⟨⟨_, _, _, _, _, _, _, _, _, _, _, _, _, _, _, Fl_NoGround, Fr_NoGround⟩, Fs_NoGround, Cb_NoGround, Ct_NoGround, Ck_NoGround⟩
  have FF_NoGround := fun_mk (st := s_NoGround___init__) FL_NoGround FC_NoGround FK_NoGround
  have BI_NoGround := FF_NoGround.binds (ps := PI_NoGround) fun _ _ _ _ _ _ us hl => match us, hl with | [_, _, _], _ => rfl
  have XT_NoName : XT K (ctOf c_Crowded c_NoName c_NoNote c_NoRange c_Twice c_CountError c_NoGround) ((ctOf c_Crowded c_NoName c_NoNote c_NoRange c_Twice c_CountError c_NoGround) "NoName") xt_NoName := by
    intro s b hs
    unfold xt_NoName at hs
    split at hs
    · rename_i e; subst e; cases hs; exact xt_sub Cb_NoName Cd_NoName Ct_NoName Cs_Crowded_NoName
    split at hs
    · rename_i e; subst e; cases hs; exact xt_sub Cb_NoName Cd_NoName Ct_NoName Cs_NoGround_NoName
    split at hs
    · rename_i e; subst e; cases hs; exact xt_sub Cb_NoName Cd_NoName Ct_NoName Cs_NoName_NoName
    split at hs
    · rename_i e; subst e; cases hs; exact xt_sub Cb_NoName Cd_NoName Ct_NoName Cs_NoNote_NoName
    split at hs
    · rename_i e; subst e; cases hs; exact xt_sub Cb_NoName Cd_NoName Ct_NoName Cs_NoRange_NoName
    split at hs
    · rename_i e; subst e; cases hs; exact xt_sub Cb_NoName Cd_NoName Ct_NoName Cs_Twice_NoName
    exact nomatch hs
  have EI_CountError : EI K (ctOf c_Crowded c_NoName c_NoNote c_NoRange c_Twice c_CountError c_NoGround) tb_CountError (.ref ((ctOf c_Crowded c_NoName c_NoNote c_NoRange c_Twice c_CountError c_NoGround) "CountError")) := by
    refine ⟨Kn_CountError, fun s b hs => ?_⟩
    unfold tb_CountError at hs
    split at hs
    · rename_i e; subst e; cases hs; exact ⟨⟨Ehg_Crowded, Ehk_Crowded, Cb_Crowded, Cd_Crowded, Eha_Crowded, Ehn, Eht, Ehm_Crowded⟩, Kt_Crowded_CountError⟩
    split at hs
    · rename_i e; subst e; cases hs; exact ⟨⟨Ehg_NoGround, Ehk_NoGround, Cb_NoGround, Cd_NoGround, Eha_NoGround, Ehn, Eht, Ehm_NoGround⟩, Kt_NoGround_CountError⟩
    split at hs
    · rename_i e; subst e; cases hs; exact ⟨⟨Ehg_NoName, Ehk_NoName, Cb_NoName, Cd_NoName, Eha_NoName, Ehn, Eht, Ehm_NoName⟩, Kt_NoName_CountError⟩
    split at hs
    · rename_i e; subst e; cases hs; exact ⟨⟨Ehg_NoNote, Ehk_NoNote, Cb_NoNote, Cd_NoNote, Eha_NoNote, Ehn, Eht, Ehm_NoNote⟩, Kt_NoNote_CountError⟩
    split at hs
    · rename_i e; subst e; cases hs; exact ⟨⟨Ehg_NoRange, Ehk_NoRange, Cb_NoRange, Cd_NoRange, Eha_NoRange, Ehn, Eht, Ehm_NoRange⟩, Kt_NoRange_CountError⟩
    split at hs
    · rename_i e; subst e; cases hs; exact ⟨⟨Ehg_Twice, Ehk_Twice, Cb_Twice, Cd_Twice, Eha_Twice, Ehn, Eht, Ehm_Twice⟩, Kt_Twice_CountError⟩
    exact nomatch hs
  have EI_ValueError : EI K (ctOf c_Crowded c_NoName c_NoNote c_NoRange c_Twice c_CountError c_NoGround) tb_ValueError (.type "ValueError") := by
    refine ⟨Kn_ValueError, fun s b hs => ?_⟩
    unfold tb_ValueError at hs
    split at hs
    · rename_i e; subst e; cases hs; exact ⟨⟨Ehg_Crowded, Ehk_Crowded, Cb_Crowded, Cd_Crowded, Eha_Crowded, Ehn, Eht, Ehm_Crowded⟩, Kt_Crowded_ValueError⟩
    split at hs
    · rename_i e; subst e; cases hs; exact ⟨⟨Ehg_NoGround, Ehk_NoGround, Cb_NoGround, Cd_NoGround, Eha_NoGround, Ehn, Eht, Ehm_NoGround⟩, Kt_NoGround_ValueError⟩
    split at hs
    · rename_i e; subst e; cases hs; exact ⟨⟨Ehg_NoName, Ehk_NoName, Cb_NoName, Cd_NoName, Eha_NoName, Ehn, Eht, Ehm_NoName⟩, Kt_NoName_ValueError⟩
    split at hs
    · rename_i e; subst e; cases hs; exact ⟨⟨Ehg_NoNote, Ehk_NoNote, Cb_NoNote, Cd_NoNote, Eha_NoNote, Ehn, Eht, Ehm_NoNote⟩, Kt_NoNote_ValueError⟩
    split at hs
    · rename_i e; subst e; cases hs; exact ⟨⟨Ehg_NoRange, Ehk_NoRange, Cb_NoRange, Cd_NoRange, Eha_NoRange, Ehn, Eht, Ehm_NoRange⟩, Kt_NoRange_ValueError⟩
    split at hs
    · rename_i e; subst e; cases hs; exact ⟨⟨Ehg_Twice, Ehk_Twice, Cb_Twice, Cd_Twice, Eha_Twice, Ehn, Eht, Ehm_Twice⟩, Kt_Twice_ValueError⟩
    exact nomatch hs
  refine ⟨PySem.W.fnOf "law" "law" (defArgs s_law) (defBody s_law) (defScope s_law) .none kV34 dc34 pm34 an34 cd34 ct34, fun s v => .of_eq rfl, fun base _ _ => ?_⟩
  have G_l_cell_at := ok_l_cell_at (P := l.prog) (w := w) (mg := mg) (base := base) (ct := (ctOf c_Crowded c_NoName c_NoNote c_NoRange c_Twice c_CountError c_NoGround)) F_l_cell_at Z_len
  have G_l_word := ok_l_word (P := l.prog) (w := w) (mg := mg) (base := base) (ct := (ctOf c_Crowded c_NoName c_NoNote c_NoRange c_Twice c_CountError c_NoGround)) F_l_word Z_range
  have G_l_names := ok_l_names (P := l.prog) (w := w) (mg := mg) (base := base) (ct := (ctOf c_Crowded c_NoName c_NoNote c_NoRange c_Twice c_CountError c_NoGround)) F_l_names G_l_word M_l_word K_l_word B_l_word Z_len Z_range
  have G_shape_of := ok_shape_of (P := l.prog) (w := w) (mg := mg) (base := base) (ct := (ctOf c_Crowded c_NoName c_NoNote c_NoRange c_Twice c_CountError c_NoGround)) F_shape_of X_NoName
  have G_l_no_name := ok_l_no_name (P := l.prog) (w := w) (mg := mg) (base := base) (ct := (ctOf c_Crowded c_NoName c_NoNote c_NoRange c_Twice c_CountError c_NoGround)) F_l_no_name G_shape_of M_shape_of K_shape_of B_shape_of Z_ValueError Z_isinstance (PySem.W.mg_of X G Cg_CountError) (PySem.W.mg_of X G Cg_NoName) EI_CountError EI_ValueError XT_NoName
  have Q_l_same : ∀ n : Nat, FnOk l.prog w K mg base (L2.CX l.prog w) (0 + n) a_l_same (PySem.W.fnOf "_law_same" "_law_same" (defArgs s_l_same) (defBody s_l_same) (defScope s_l_same) .none kV5 dc5 pm5 an5 cd5 ct5) P_l_same (spG K (ctOf c_Crowded c_NoName c_NoNote c_NoRange c_Twice c_CountError c_NoGround) 2 (S_l_same n)) := by
    intro n
    induction n with
    | zero => exact (fn_zero (ps := P_l_same)).mono (Nat.zero_le _)
    | succ n ih =>
      have G_l_same := ih
      exact ok_l_same (P := l.prog) (w := w) (mg := mg) (base := base) (ct := (ctOf c_Crowded c_NoName c_NoNote c_NoRange c_Twice c_CountError c_NoGround)) F_l_same (Nat.le_add_right _ _) G_l_same M_l_same K_l_same B_l_same Z_all Z_bool Z_int Z_isinstance Z_len Z_list Z_str Z_tuple Z_zip
  have G_l_same := Q_l_same 70
  have G_l_shape := ok_l_shape (P := l.prog) (w := w) (mg := mg) (base := base) (ct := (ctOf c_Crowded c_NoName c_NoNote c_NoRange c_Twice c_CountError c_NoGround)) F_l_shape Z_int Z_len
  have Q_l_text : ∀ n : Nat, FnOk l.prog w K mg base (L2.CX l.prog w) (0 + n) a_l_text (PySem.W.fnOf "_law_text" "_law_text" (defArgs s_l_text) (defBody s_l_text) (defScope s_l_text) .none kV7 dc7 pm7 an7 cd7 ct7) P_l_text (spG K (ctOf c_Crowded c_NoName c_NoNote c_NoRange c_Twice c_CountError c_NoGround) 1 (S_l_text n)) := by
    intro n
    induction n with
    | zero => exact (fn_zero (ps := P_l_text)).mono (Nat.zero_le _)
    | succ n ih =>
      have G_l_text := ih
      exact ok_l_text (P := l.prog) (w := w) (mg := mg) (base := base) (ct := (ctOf c_Crowded c_NoName c_NoNote c_NoRange c_Twice c_CountError c_NoGround)) F_l_text (Nat.le_add_right _ _) G_l_text M_l_text K_l_text B_l_text Z_str
  have G_l_text := Q_l_text 70
  have Q_l_uses : ∀ n : Nat, FnOk l.prog w K mg base (L2.CX l.prog w) (0 + n) a_l_uses (PySem.W.fnOf "_law_uses" "_law_uses" (defArgs s_l_uses) (defBody s_l_uses) (defScope s_l_uses) .none kV8 dc8 pm8 an8 cd8 ct8) P_l_uses (spG K (ctOf c_Crowded c_NoName c_NoNote c_NoRange c_Twice c_CountError c_NoGround) 1 (S_l_uses n)) := by
    intro n
    induction n with
    | zero => exact (fn_zero (ps := P_l_uses)).mono (Nat.zero_le _)
    | succ n ih =>
      have G_l_uses := ih
      exact ok_l_uses (P := l.prog) (w := w) (mg := mg) (base := base) (ct := (ctOf c_Crowded c_NoName c_NoNote c_NoRange c_Twice c_CountError c_NoGround)) F_l_uses (Nat.le_add_right _ _) G_l_uses M_l_uses K_l_uses B_l_uses Z_list
  have G_l_uses := Q_l_uses 70
  have G_inner_shapes := ok_inner_shapes (P := l.prog) (w := w) (mg := mg) (base := base) (ct := (ctOf c_Crowded c_NoName c_NoNote c_NoRange c_Twice c_CountError c_NoGround)) F_inner_shapes Z_list
  have Q_names_used : ∀ n : Nat, FnOk l.prog w K mg base (L2.CX l.prog w) (1 + n) a_names_used (PySem.W.fnOf "names_used" "names_used" (defArgs s_names_used) (defBody s_names_used) (defScope s_names_used) .none kV10 dc10 pm10 an10 cd10 ct10) P_names_used (spG K (ctOf c_Crowded c_NoName c_NoNote c_NoRange c_Twice c_CountError c_NoGround) 1 (S_names_used n)) := by
    intro n
    induction n with
    | zero => exact (fn_zero (ps := P_names_used)).mono (Nat.zero_le _)
    | succ n ih =>
      have G_names_used := ih
      exact ok_names_used (P := l.prog) (w := w) (mg := mg) (base := base) (ct := (ctOf c_Crowded c_NoName c_NoNote c_NoRange c_Twice c_CountError c_NoGround)) F_names_used (Nat.le_add_right _ _) G_inner_shapes M_inner_shapes K_inner_shapes B_inner_shapes G_names_used M_names_used K_names_used B_names_used
  have G_names_used := Q_names_used 70
  have Q_has_no_range : ∀ n : Nat, FnOk l.prog w K mg base (L2.CX l.prog w) (1 + n) a_has_no_range (PySem.W.fnOf "has_no_range" "has_no_range" (defArgs s_has_no_range) (defBody s_has_no_range) (defScope s_has_no_range) .none kV11 dc11 pm11 an11 cd11 ct11) P_has_no_range (spG K (ctOf c_Crowded c_NoName c_NoNote c_NoRange c_Twice c_CountError c_NoGround) 1 (S_has_no_range n)) := by
    intro n
    induction n with
    | zero => exact (fn_zero (ps := P_has_no_range)).mono (Nat.zero_le _)
    | succ n ih =>
      have G_has_no_range := ih
      exact ok_has_no_range (P := l.prog) (w := w) (mg := mg) (base := base) (ct := (ctOf c_Crowded c_NoName c_NoNote c_NoRange c_Twice c_CountError c_NoGround)) F_has_no_range (Nat.le_add_right _ _) G_has_no_range M_has_no_range K_has_no_range B_has_no_range G_inner_shapes M_inner_shapes K_inner_shapes B_inner_shapes Z_any
  have G_has_no_range := Q_has_no_range 70
  have Q_has_twice : ∀ n : Nat, FnOk l.prog w K mg base (L2.CX l.prog w) (1 + n) a_has_twice (PySem.W.fnOf "has_twice" "has_twice" (defArgs s_has_twice) (defBody s_has_twice) (defScope s_has_twice) .none kV12 dc12 pm12 an12 cd12 ct12) P_has_twice (spG K (ctOf c_Crowded c_NoName c_NoNote c_NoRange c_Twice c_CountError c_NoGround) 1 (S_has_twice n)) := by
    intro n
    induction n with
    | zero => exact (fn_zero (ps := P_has_twice)).mono (Nat.zero_le _)
    | succ n ih =>
      have G_has_twice := ih
      exact ok_has_twice (P := l.prog) (w := w) (mg := mg) (base := base) (ct := (ctOf c_Crowded c_NoName c_NoNote c_NoRange c_Twice c_CountError c_NoGround)) F_has_twice (Nat.le_add_right _ _) G_has_twice M_has_twice K_has_twice B_has_twice G_inner_shapes M_inner_shapes K_inner_shapes B_inner_shapes Z_any Z_len Z_list Z_set
  have G_has_twice := Q_has_twice 70
  have G_leads_back := ok_leads_back (P := l.prog) (w := w) (mg := mg) (base := base) (ct := (ctOf c_Crowded c_NoName c_NoNote c_NoRange c_Twice c_CountError c_NoGround)) F_leads_back G_shape_of M_shape_of K_shape_of B_shape_of Z_len Z_range
  have G_in_bounds := ok_in_bounds (P := l.prog) (w := w) (mg := mg) (base := base) (ct := (ctOf c_Crowded c_NoName c_NoNote c_NoRange c_Twice c_CountError c_NoGround)) F_in_bounds Z_len Z_max CN_MOST_OPEN CN_MOST_SIGNS X_Crowded
  have G_is_mark := ok_is_mark (P := l.prog) (w := w) (mg := mg) (base := base) (ct := (ctOf c_Crowded c_NoName c_NoNote c_NoRange c_Twice c_CountError c_NoGround)) F_is_mark Z_all Z_len CN_LETTERS
  have G_is_word := ok_is_word (P := l.prog) (w := w) (mg := mg) (base := base) (ct := (ctOf c_Crowded c_NoName c_NoNote c_NoRange c_Twice c_CountError c_NoGround)) F_is_word Z_all Z_len CN_FIGURES CN_GREAT CN_LETTERS
  have G_head_of := ok_head_of (P := l.prog) (w := w) (mg := mg) (base := base) (ct := (ctOf c_Crowded c_NoName c_NoNote c_NoRange c_Twice c_CountError c_NoGround)) F_head_of G_is_mark M_is_mark K_is_mark B_is_mark G_is_word M_is_word K_is_word B_is_word Z_len X_NoNote
  have Q_note_at : ∀ n : Nat, FnOk l.prog w K mg base (L2.CX l.prog w) (2 + n) a_note_at (PySem.W.fnOf "note_at" "note_at" (defArgs s_note_at) (defBody s_note_at) (defScope s_note_at) .none kV18 dc18 pm18 an18 cd18 ct18) P_note_at (spG K (ctOf c_Crowded c_NoName c_NoNote c_NoRange c_Twice c_CountError c_NoGround) 2 (S_note_at n)) := by
    intro n
    induction n with
    | zero => exact (fn_zero (ps := P_note_at)).mono (Nat.zero_le _)
    | succ n ih =>
      have G_note_at := ih
      exact ok_note_at (P := l.prog) (w := w) (mg := mg) (base := base) (ct := (ctOf c_Crowded c_NoName c_NoNote c_NoRange c_Twice c_CountError c_NoGround)) F_note_at (Nat.le_add_right _ _) G_head_of M_head_of K_head_of B_head_of G_note_at M_note_at K_note_at B_note_at Z_tuple X_NoNote
  have G_note_at := Q_note_at 70
  have G_read_note := ok_read_note (P := l.prog) (w := w) (mg := mg) (base := base) (ct := (ctOf c_Crowded c_NoName c_NoNote c_NoRange c_Twice c_CountError c_NoGround)) F_read_note G_in_bounds M_in_bounds K_in_bounds B_in_bounds G_note_at M_note_at K_note_at B_note_at Z_isinstance Z_len Z_str X_NoNote
  have G_is_figures := ok_is_figures (P := l.prog) (w := w) (mg := mg) (base := base) (ct := (ctOf c_Crowded c_NoName c_NoNote c_NoRange c_Twice c_CountError c_NoGround)) F_is_figures Z_all Z_len CN_FIGURES
  have G_plain_word := ok_plain_word (P := l.prog) (w := w) (mg := mg) (base := base) (ct := (ctOf c_Crowded c_NoName c_NoNote c_NoRange c_Twice c_CountError c_NoGround)) F_plain_word X_NoNote
  have G_plain_number := ok_plain_number (P := l.prog) (w := w) (mg := mg) (base := base) (ct := (ctOf c_Crowded c_NoName c_NoNote c_NoRange c_Twice c_CountError c_NoGround)) F_plain_number G_is_figures M_is_figures K_is_figures B_is_figures G_plain_word M_plain_word K_plain_word B_plain_word Z_int X_NoNote
  have G_noted_text := ok_noted_text (P := l.prog) (w := w) (mg := mg) (base := base) (ct := (ctOf c_Crowded c_NoName c_NoNote c_NoRange c_Twice c_CountError c_NoGround)) F_noted_text G_plain_word M_plain_word K_plain_word B_plain_word X_NoNote
  have Q_noted_alike : ∀ n : Nat, FnOk l.prog w K mg base (L2.CX l.prog w) (2 + n) a_noted_alike (PySem.W.fnOf "noted_alike" "noted_alike" (defArgs s_noted_alike) (defBody s_noted_alike) (defScope s_noted_alike) .none kV25 dc25 pm25 an25 cd25 ct25) P_noted_alike (spG K (ctOf c_Crowded c_NoName c_NoNote c_NoRange c_Twice c_CountError c_NoGround) 1 (S_noted_alike n)) ∧ FnOk l.prog w K mg base (L2.CX l.prog w) (2 + n) a_noted_pick (PySem.W.fnOf "noted_pick" "noted_pick" (defArgs s_noted_pick) (defBody s_noted_pick) (defScope s_noted_pick) .none kV24 dc24 pm24 an24 cd24 ct24) P_noted_pick (spG K (ctOf c_Crowded c_NoName c_NoNote c_NoRange c_Twice c_CountError c_NoGround) 1 (S_noted_pick n)) ∧ FnOk l.prog w K mg base (L2.CX l.prog w) (2 + n) a_shape_noted (PySem.W.fnOf "shape_noted" "shape_noted" (defArgs s_shape_noted) (defBody s_shape_noted) (defScope s_shape_noted) .none kV26 dc26 pm26 an26 cd26 ct26) P_shape_noted (spG K (ctOf c_Crowded c_NoName c_NoNote c_NoRange c_Twice c_CountError c_NoGround) 1 (S_shape_noted n)) ∧ FnOk l.prog w K mg base (L2.CX l.prog w) (2 + n) a_unlabelled (PySem.W.fnOf "unlabelled" "unlabelled" (defArgs s_unlabelled) (defBody s_unlabelled) (defScope s_unlabelled) .none kV27 dc27 pm27 an27 cd27 ct27) P_unlabelled (spG K (ctOf c_Crowded c_NoName c_NoNote c_NoRange c_Twice c_CountError c_NoGround) 1 (S_unlabelled n)) := by
    intro n
    induction n with
    | zero => exact ⟨(fn_zero (ps := P_noted_alike)).mono (Nat.zero_le _), (fn_zero (ps := P_noted_pick)).mono (Nat.zero_le _), (fn_zero (ps := P_shape_noted)).mono (Nat.zero_le _), (fn_zero (ps := P_unlabelled)).mono (Nat.zero_le _)⟩
    | succ n ih =>
      obtain ⟨G_noted_alike, G_noted_pick, G_shape_noted, G_unlabelled⟩ := ih
      exact ⟨ok_noted_alike (P := l.prog) (w := w) (mg := mg) (base := base) (ct := (ctOf c_Crowded c_NoName c_NoNote c_NoRange c_Twice c_CountError c_NoGround)) F_noted_alike (Nat.le_add_right _ _) G_plain_number M_plain_number K_plain_number B_plain_number G_unlabelled M_unlabelled K_unlabelled B_unlabelled CN_MOST_TIMES X_NoNote, ok_noted_pick (P := l.prog) (w := w) (mg := mg) (base := base) (ct := (ctOf c_Crowded c_NoName c_NoNote c_NoRange c_Twice c_CountError c_NoGround)) F_noted_pick (Nat.le_add_right _ _) G_shape_noted M_shape_noted K_shape_noted B_shape_noted Z_tuple X_NoNote, ok_shape_noted (P := l.prog) (w := w) (mg := mg) (base := base) (ct := (ctOf c_Crowded c_NoName c_NoNote c_NoRange c_Twice c_CountError c_NoGround)) F_shape_noted (Nat.le_add_right _ _) G_is_mark M_is_mark K_is_mark B_is_mark G_noted_alike M_noted_alike K_noted_alike B_noted_alike G_noted_pick M_noted_pick K_noted_pick B_noted_pick G_noted_text M_noted_text K_noted_text B_noted_text G_plain_number M_plain_number K_plain_number B_plain_number G_unlabelled M_unlabelled K_unlabelled B_unlabelled Z_len Z_tuple CN_MOST_BRANCHES CN_MOST_PARTS X_NoNote, ok_unlabelled (P := l.prog) (w := w) (mg := mg) (base := base) (ct := (ctOf c_Crowded c_NoName c_NoNote c_NoRange c_Twice c_CountError c_NoGround)) F_unlabelled (Nat.le_add_right _ _) G_shape_noted M_shape_noted K_shape_noted B_shape_noted X_NoNote⟩
  obtain ⟨G_noted_alike, G_noted_pick, G_shape_noted, G_unlabelled⟩ := Q_noted_alike 70
  have G_rows_of := ok_rows_of (P := l.prog) (w := w) (mg := mg) (base := base) (ct := (ctOf c_Crowded c_NoName c_NoNote c_NoRange c_Twice c_CountError c_NoGround)) F_rows_of G_in_bounds M_in_bounds K_in_bounds B_in_bounds G_is_mark M_is_mark K_is_mark B_is_mark G_read_note M_read_note K_read_note B_read_note G_unlabelled M_unlabelled K_unlabelled B_unlabelled Z_isinstance Z_len Z_str CN_MOST_NAMES X_Crowded X_NoNote
  have G_read_book := ok_read_book (P := l.prog) (w := w) (mg := mg) (base := base) (ct := (ctOf c_Crowded c_NoName c_NoNote c_NoRange c_Twice c_CountError c_NoGround)) F_read_book G_has_no_range M_has_no_range K_has_no_range B_has_no_range G_has_twice M_has_twice K_has_twice B_has_twice G_leads_back M_leads_back K_leads_back B_leads_back G_names_used M_names_used K_names_used B_names_used G_rows_of M_rows_of K_rows_of B_rows_of Z_all Z_any Z_len Z_set X_NoName X_NoRange X_Twice OX_NoGround Fi_NoGround Ft_NoGround (ok_NoGround___init__ (P := l.prog) (w := w) (mg := mg) (base := base) (C := (ctOf c_Crowded c_NoName c_NoNote c_NoRange c_Twice c_CountError c_NoGround) "NoGround") FF_NoGround (PySem.W.mg_of X G Cg_CountError) Fga_CountError Ct_CountError Frd_CountError Fvv_CountError Fn_NoGround_ring) BI_NoGround (PySem.W.mg_of X G Cg_NoGround)
  have Q_note_of : ∀ n : Nat, FnOk l.prog w K mg base (L2.CX l.prog w) (1 + n) a_note_of (PySem.W.fnOf "note_of" "note_of" (defArgs s_note_of) (defBody s_note_of) (defScope s_note_of) (.ref dt_note_of) kV30 dc30 pm30 an30 cd30 ct30) P_note_of (spG K (ctOf c_Crowded c_NoName c_NoNote c_NoRange c_Twice c_CountError c_NoGround) 2 (S_note_of n)) := by
    intro n
    induction n with
    | zero => exact (fn_zero (ps := P_note_of)).mono (Nat.zero_le _)
    | succ n ih =>
      have G_note_of := ih
      exact ok_note_of (P := l.prog) (w := w) (mg := mg) (base := base) (ct := (ctOf c_Crowded c_NoName c_NoNote c_NoRange c_Twice c_CountError c_NoGround)) F_note_of (Nat.le_add_right _ _) G_inner_shapes M_inner_shapes K_inner_shapes B_inner_shapes G_note_of M_note_of K_note_of B_note_of BD_note_of Z_str Z_tuple
  have G_note_of := Q_note_of 70
  have Q_show_note : ∀ n : Nat, FnOk l.prog w K mg base (L2.CX l.prog w) (0 + n) a_show_note (PySem.W.fnOf "show_note" "show_note" (defArgs s_show_note) (defBody s_show_note) (defScope s_show_note) .none kV31 dc31 pm31 an31 cd31 ct31) P_show_note (spG K (ctOf c_Crowded c_NoName c_NoNote c_NoRange c_Twice c_CountError c_NoGround) 1 (S_show_note n)) := by
    intro n
    induction n with
    | zero => exact (fn_zero (ps := P_show_note)).mono (Nat.zero_le _)
    | succ n ih =>
      have G_show_note := ih
      exact ok_show_note (P := l.prog) (w := w) (mg := mg) (base := base) (ct := (ctOf c_Crowded c_NoName c_NoNote c_NoRange c_Twice c_CountError c_NoGround)) F_show_note (Nat.le_add_right _ _) G_show_note M_show_note K_show_note B_show_note
  have G_show_note := Q_show_note 70
  have G_show_shape := ok_show_shape (P := l.prog) (w := w) (mg := mg) (base := base) (ct := (ctOf c_Crowded c_NoName c_NoNote c_NoRange c_Twice c_CountError c_NoGround)) F_show_shape G_note_of M_note_of K_note_of B_note_of BD_note_of G_show_note M_show_note K_show_note B_show_note
  have G_show_book := ok_show_book (P := l.prog) (w := w) (mg := mg) (base := base) (ct := (ctOf c_Crowded c_NoName c_NoNote c_NoRange c_Twice c_CountError c_NoGround)) F_show_book G_show_shape M_show_shape K_show_shape B_show_shape
  have G_law := ok_law (P := l.prog) (w := w) (mg := mg) (base := base) (ct := (ctOf c_Crowded c_NoName c_NoNote c_NoRange c_Twice c_CountError c_NoGround)) F_law G_l_cell_at M_l_cell_at K_l_cell_at B_l_cell_at G_l_names M_l_names K_l_names B_l_names G_l_no_name M_l_no_name K_l_no_name B_l_no_name G_l_same M_l_same K_l_same B_l_same G_l_shape M_l_shape K_l_shape B_l_shape G_l_text M_l_text K_l_text B_l_text G_l_uses M_l_uses K_l_uses B_l_uses G_names_used M_names_used K_names_used B_names_used G_read_book M_read_book K_read_book B_read_book G_shape_of M_shape_of K_shape_of B_shape_of G_show_book M_show_book K_show_book B_show_book Z_len Z_range
  exact fn_law G_law
end Law

/-! GTx: texts as lists of signs. -/
namespace Law
open PySem L2 Gs
/-- the text of these signs -/
def St (l : List Nat) : Str := ⟨l.toArray⟩
@[simp] theorem St_tl (l : List Nat) : (St l).cps.toList = l := id rfl
theorem tl_St (x : Str) : St x.cps.toList = x := TL.mk_tl x
theorem St_eq {a b : List Nat} : (St a = St b) = (a = b) := by
  refine propext ⟨fun h => ?_, fun h => by rw [h]⟩
  have := congrArg (fun x : Str => x.cps.toList) h
  simpa using this
@[simp] theorem St_len (l : List Nat) : (St l).length = l.length := by simp [St, Str.length]
@[simp] theorem St_cat (a b : List Nat) : St a ++ St b = St (a ++ b) := TL.ext_tl (TL.tl_append (St a) (St b))
theorem of_St {x : Str} {l : List Nat} (h : x.cps.toList = l) : x = St l := by rw [← h, tl_St]
@[simp] theorem c_nil : Str.ofString "" = St [] := of_St (by decide +kernel)
@[simp] theorem c_opn : Str.ofString "(" = St [40] := of_St (by decide +kernel)
@[simp] theorem c_cls : Str.ofString ")" = St [41] := of_St (by decide +kernel)
@[simp] theorem c_com : Str.ofString "," = St [44] := of_St (by decide +kernel)
@[simp] theorem c_col : Str.ofString ":" = St [58] := of_St (by decide +kernel)
@[simp] theorem c_stop : Str.ofString "()," = St [40, 41, 44] := of_St (by decide +kernel)
def lets : List Nat := (List.range 26).map (97 + ·)
def grts : List Nat := (List.range 26).map (65 + ·)
def figs : List Nat := (List.range 10).map (48 + ·)
@[simp] theorem c_lets : Str.ofString "abcdefghijklmnopqrstuvwxyz" = St lets := of_St (by decide +kernel)
@[simp] theorem c_grts : Str.ofString "ABCDEFGHIJKLMNOPQRSTUVWXYZ" = St grts := of_St (by decide +kernel)
@[simp] theorem c_figs : Str.ofString "0123456789" = St figs := of_St (by decide +kernel)
@[simp] theorem c_dash : Str.ofString "-" = St [45] := of_St (by decide +kernel)
def wsig : List Nat := lets ++ grts ++ figs ++ [45]
@[simp] theorem sg_St (l : List Nat) : signs (St l) = l.map fun c => .str (St [c]) := id rfl
@[simp] theorem v_inS (c : Nat) (l : List Nat) : gIn (.str (St [c])) (.str (St l)) = some (.bl (decide (c ∈ l))) := id rfl
@[simp] theorem v_ninS (c : Nat) (l : List Nat) : gNin (.str (St [c])) (.str (St l)) = some (.bl (!decide (c ∈ l))) := id rfl
@[simp] theorem v_addS (a b : List Nat) : gAdd (.str (St a)) (.str (St b)) = if a.length + b.length ≤ sizeLine then some (.str (St (a ++ b))) else none := by
  simp only [gAdd, St_len, St_cat]
@[simp] theorem v_lenSt (a : List Nat) : gLen [.str (St a)] = if a.length ≤ sizeLine then some (.int a.length) else none := by simp
@[simp] theorem v_slS (a : List Nat) (lo hi : Option Int) : gSl (.str (St a)) lo hi = if a.length ≤ sizeLine then some (.str (St (cutL a lo hi))) else none := by
  have e : cutS (St a) lo hi = St (cutL a lo hi) := of_St (by simp [cutS, cutL])
  simp only [gSl, St_len, e]
theorem v_ixS (a : List Nat) (i : Int) : gIx (.str (St a)) (.int i) = if a.length ≤ sizeLine then (atI a i).map fun c => .str (St [c]) else none := by
  simp only [gIx, St_len, St_tl]
  rfl
theorem lc_signs (l : List Nat) (k : Nat) (e : E) (δ : Sl) (s : Sto) (f : Nat → Bool) (he : ∀ c, e (δ.set k (some (.str (St [c])))) s = .ok (.bl (f c)) s) : lcD (.nm k) tTrue e δ (l.map fun c => .str (St [c])) s = .ok (l.map fun c => D.bl (f c)) s := by
  induction l with
  | nil => rfl
  | cons c l ih => simp [lcD, he, ih]
theorem gAll_map {α : Type} (l : List α) (f : α → Bool) : gAll [.lst (l.map fun c => D.bl (f c))] = some (.bl (l.all f)) := by
  have e : l.map (fun c => D.bl (f c)) = (l.map f).map D.bl := by simp
  have e2 : ∀ l : List α, (l.map f).all (fun b => b) = l.all f := fun l => by
    induction l with
    | nil => rfl
    | cons c l ih => simp [ih]
  rw [e]
  simp only [gAll, blsOf_map, Option.map_some, e2]
theorem at_St {T : List Nat} {j c : Nat} (hl : T.length ≤ sizeLine) (h : T[j]? = some c) : gIx (.str (St T)) (.int (j : Int)) = some (.str (St [c])) := by
  obtain ⟨h1, h2⟩ := List.getElem?_eq_some_iff.mp h
  rw [v_ixS, if_pos hl, atI_ofNat T h1, h2]
  rfl
/-! with the length shown small; simp (disch := (simp only [List.length_append, List.length_cons, List.length_nil, St_len]; omega)) -/
theorem d_addS (a b : List Nat) (h : a.length + b.length ≤ 100000) : gAdd (.str (St a)) (.str (St b)) = some (.str (St (a ++ b))) := by
  rw [v_addS, if_pos (small_line (by omega))]
theorem d_lenS (a : List Nat) (h : a.length ≤ 100000) : gLen [.str (St a)] = some (.int a.length) := by
  rw [v_lenSt, if_pos (small_line (by omega))]
theorem d_slS (a : List Nat) (lo hi : Option Int) (h : a.length ≤ 100000) : gSl (.str (St a)) lo hi = some (.str (St (cutL a lo hi))) := by
  rw [v_slS, if_pos (small_line (by omega))]
end Law

/-! GSame: a datum is the same as itself, by the law's own look. -/
namespace Law
open PySem L2 Gs
def Sam (k : Nat) (x : D) : Prop := (∀ s, lokD s x = x) ∧ ∀ m s, S_l_same (m + k) [x, x] s = .ok (.bl true) s
theorem Sam.up {k l : Nat} {x : D} (h : Sam k x) (hl : k ≤ l) : Sam l x := ⟨h.1, fun m s => by
  have := h.2 (m + (l - k)) s
  rwa [show m + (l - k) + k = m + l by omega] at this⟩
theorem sam_int (i : Int) : Sam 1 (.int i) := ⟨fun s => rfl, fun m s => by
  show U_l_same _ _ _ = _
  apply runG_rt
  simp⟩
theorem sam_str (x : Str) : Sam 1 (.str x) := ⟨fun s => rfl, fun m s => by
  show U_l_same _ _ _ = _
  apply runG_rt
  simp⟩
theorem zip_self (xs : List D) : zipD xs xs = xs.map fun x => .tup [x, x] := by
  unfold zipD
  induction xs with
  | nil => rfl
  | cons x xs ih => simp [ih]
theorem same_row {k m : Nat} {xs : List D} {s : Sto} {y z : Option D} (h : ∀ x ∈ xs, Sam k x) :
    lcD (.tp [.nm 2, .nm 3]) tTrue (eCallB (S_l_same (m + k)) (aCons (eV 2) (aCons (eV 3) aNil))) [y, z, none, none] (xs.map fun x => .tup [x, x]) s = .ok (xs.map fun _ => D.bl true) s :=
  lcD_mapL _ _ _ fun x hx => ⟨_, by simp; rfl, by simp, by
    have h2 := (h x hx).2 m (gones s.length)
    have h1 := (h x hx).1 s
    simp only [v_eCallB, v_aCons, v_eV, v_aNil, v_bind_ok, List.getElem?_set, List.map_cons, List.map_nil]
    simp [h1, h2, thaw_val (s := s) (d := .bl true) rfl]⟩
theorem sam_tup {k : Nat} {xs : List D} (h : ∀ x ∈ xs, Sam k x) (hl : xs.length ≤ 10000) : Sam (k + 1) (.tup xs) := ⟨fun s => rfl, fun m s => by
  have l6 : xs.length ≤ sizeLine := small_line (by omega)
  have e1 := fun y z => same_row (m := m) (s := s) (y := y) (z := z) h
  have e2 := gAll_map xs (fun _ => true)
  have e3 : xs.all (fun _ => true) = true := by simp
  rw [e3] at e2
  show U_l_same _ _ _ = _
  apply runG_rt
  simp [wipeD, zip_self, e1, e2, l6]⟩
theorem sam_lst {k : Nat} {xs : List D} (h : ∀ x ∈ xs, Sam k x) (hl : xs.length ≤ 10000) : Sam (k + 1) (.lst xs) := ⟨fun s => rfl, fun m s => by
  have l6 : xs.length ≤ sizeLine := small_line (by omega)
  have e1 := fun y z => same_row (m := m) (s := s) (y := y) (z := z) h
  have e2 := gAll_map xs (fun _ => true)
  have e3 : xs.all (fun _ => true) = true := by simp
  rw [e3] at e2
  show U_l_same _ _ _ = _
  apply runG_rt
  simp [wipeD, zip_self, e1, e2, l6]⟩
theorem tv_n {s : Sto} {n : Nat} (b : Bool) (h : s.length = n) : thawR s (.ok (.bl b) (gones n)) = .ok (.bl b) s := by
  subst h
  exact thaw_val rfl
theorem same_of {n : Nat} {x : D} (h : Sam n x) (hn : n ≤ 70) (s : Sto) : S_l_same 70 [x, x] s = .ok (.bl true) s := (h.up hn).2 0 s
end Law

/-! GNt: words, labels. -/
namespace Law
open PySem L2 Gs
/-! words, labels -/
def isW (w : List Nat) : Bool := decide (1 ≤ w.length ∧ w.length ≤ 62) && w.all fun c => decide (c ∈ wsig)
def isM (w : List Nat) : Bool := decide (1 ≤ w.length ∧ w.length ≤ 8) && w.all fun c => decide (c ∈ lets)
theorem mark_val (w : List Nat) (h : w.length ≤ 100000) (s : Sto) : S_is_mark [.str (St w)] s = .ok (.bl (isM w)) s := by
  have hl : w.length ≤ sizeLine := small_line (by omega)
  have e := lc_signs w 1 (eBin gIn (eV 1) (eC (.str (St lets)))) [some (.str (St w)), none] s (fun c => decide (c ∈ lets)) (fun c => by simp)
  have g := gAll_map w (fun c => decide (c ∈ lets))
  apply runG_rt
  by_cases h1 : (1 : Int) ≤ (w.length : Int)
  · have h1' : 1 ≤ w.length := by omega
    by_cases h2 : (w.length : Int) ≤ 8
    · have h2' : w.length ≤ 8 := by omega
      simp only [isM, decide_eq_true (And.intro h1' h2'), Bool.true_and]
      simp [hl, decide_eq_true h1, decide_eq_true h2, wipeD, e, g, -decide_eq_true_eq]
    · have h2' : ¬ w.length ≤ 8 := by omega
      simp [hl, h1', h2', decide_eq_true h1, decide_eq_false h2, isM]
  · have h1' : w = [] := List.length_eq_zero_iff.mp (by omega)
    subst h1'
    simp [isM]
theorem word_val (w : List Nat) (h : w.length ≤ 100000) (s : Sto) : S_is_word [.str (St w)] s = .ok (.bl (isW w)) s := by
  have hl : w.length ≤ sizeLine := small_line (by omega)
  have e := lc_signs w 2 (eBin gIn (eV 2) (eV 1)) [some (.str (St w)), some (.str (St wsig)), none] s (fun c => decide (c ∈ wsig)) (fun c => by simp)
  have g := gAll_map w (fun c => decide (c ∈ wsig))
  have e0 : lets ++ grts ++ figs ++ [45] = wsig := rfl
  have e1 : lets ++ (grts ++ (figs ++ [45])) = wsig := by rw [← e0]; simp
  have a1 : lets.length + grts.length ≤ sizeLine := by decide
  have a2 : (lets ++ grts).length + figs.length ≤ sizeLine := by decide
  have a3 : (lets ++ grts ++ figs).length + [45].length ≤ sizeLine := by decide
  simp at a2 a3
  apply runG_rt
  by_cases h1 : (1 : Int) ≤ (w.length : Int)
  · have h1' : 1 ≤ w.length := by omega
    by_cases h2 : (w.length : Int) ≤ 62
    · have h2' : w.length ≤ 62 := by omega
      simp only [isW, decide_eq_true (And.intro h1' h2'), Bool.true_and]
      simp [hl, decide_eq_true h1, decide_eq_true h2, wipeD, e, g, a1, a2, a3, e0, e1, -decide_eq_true_eq]
    · have h2' : ¬ w.length ≤ 62 := by omega
      simp [hl, h1', h2', decide_eq_true h1, decide_eq_false h2, isW, a1, a2, a3, e0, e1]
  · have h1' : w = [] := List.length_eq_zero_iff.mp (by omega)
    subst h1'
    simp [isW, a1, a2, a3, e0, e1]
end Law

/-! VNu: a note's head, a note, read. -/
namespace Law
open PySem L2 Gs
def stops : List Nat := [40, 41, 44]
theorem head_loop {T : List Nat} (hT : T.length ≤ 100000) (p : Int) (s : Sto) : ∀ (k n j : Nat), (∀ i, j ≤ i → i < j + k → ∃ c, T[i]? = some c ∧ c ∉ stops) → (j + k = T.length ∨ ∃ c, T[j + k]? = some c ∧ c ∈ stops) → k < n →
    whileD T_head_of_0 L_head_of_0 n [some (.str (St T)), some (.int p), some (.int (j : Int)), none, none, none] s = .nx [some (.str (St T)), some (.int p), some (.int ((j + k : Nat) : Int)), none, none, none] s
  | 0, n + 1, j, h, he, hn => by
    have hl : T.length ≤ sizeLine := small_line (by omega)
    have hc : T_head_of_0 [some (.str (St T)), some (.int p), some (.int (j : Int)), none, none, none] s = .ok false s := by
      rcases he with he | ⟨c, he, hs⟩
      · have : ¬ j < T.length := by omega
        simp [T_head_of_0, hl, this]
      · have hj := (List.getElem?_eq_some_iff.mp he).1
        have e := at_St hl he
        have : j < T.length := by omega
        simp [stops] at hs
        simp only [Nat.add_zero] at e
        rcases hs with hs | hs | hs <;> subst hs <;> simp [T_head_of_0, hl, this, e]
    simp only [whileD, hc, Nat.add_zero]
  | k + 1, n + 1, j, h, he, hn => by
    have hl : T.length ≤ sizeLine := small_line (by omega)
    obtain ⟨c, e0, hs⟩ := h j (Nat.le_refl _) (by omega)
    have hj := (List.getElem?_eq_some_iff.mp e0).1
    have e := at_St hl e0
    simp [stops] at hs
    have hc : T_head_of_0 [some (.str (St T)), some (.int p), some (.int (j : Int)), none, none, none] s = .ok true s := by
      simp [T_head_of_0, hl, hj, e, hs]
    have hb : L_head_of_0 [some (.str (St T)), some (.int p), some (.int (j : Int)), none, none, none] s = .nx [some (.str (St T)), some (.int p), some (.int ((j + 1 : Nat) : Int)), none, none, none] s := by
      simp [L_head_of_0]
    have ih := head_loop hT p s k n (j + 1) (fun i h1 h2 => h i (by omega) (by omega)) (by rw [show j + 1 + k = j + (k + 1) by omega]; exact he) (by omega)
    simp only [whileD, hc, hb, ih]
    rw [show j + 1 + k = j + (k + 1) by omega]
  | k, 0, j, h, he, hn => by omega
/-- the head of a note -/
def hd (lab w : List Nat) : List Nat := if lab = [] then w else lab ++ [58] ++ w
def LabOk (lab : List Nat) : Prop := lab = [] ∨ isM lab = true
theorem wsig_free : ∀ c ∈ wsig, c ≠ 58 ∧ c ≠ 40 ∧ c ≠ 41 ∧ c ≠ 44 := by decide
theorem lets_free : ∀ c ∈ lets, c ≠ 58 ∧ c ≠ 40 ∧ c ≠ 41 ∧ c ≠ 44 := by decide
theorem isW_all {w : List Nat} (h : isW w = true) : 1 ≤ w.length ∧ w.length ≤ 62 ∧ ∀ c ∈ w, c ∈ wsig := by
  unfold isW at h
  rw [Bool.and_eq_true, decide_eq_true_eq, List.all_eq_true] at h
  exact ⟨h.1.1, h.1.2, fun c hc => of_decide_eq_true (h.2 c hc)⟩
theorem isM_all {w : List Nat} (h : isM w = true) : 1 ≤ w.length ∧ w.length ≤ 8 ∧ ∀ c ∈ w, c ∈ lets := by
  unfold isM at h
  rw [Bool.and_eq_true, decide_eq_true_eq, List.all_eq_true] at h
  exact ⟨h.1.1, h.1.2, fun c hc => of_decide_eq_true (h.2 c hc)⟩
theorem LabOk.all {lab : List Nat} (h : LabOk lab) : lab.length ≤ 8 ∧ ∀ c ∈ lab, c ∈ lets := by
  rcases h with h | h
  · subst h; exact ⟨by decide, fun c hc => nomatch hc⟩
  · exact ⟨(isM_all h).2.1, (isM_all h).2.2⟩
theorem hd_len {lab w : List Nat} (hl : LabOk lab) (hw : isW w = true) : (hd lab w).length ≤ 71 ∧ 1 ≤ (hd lab w).length := by
  have h1 := hl.all.1
  have h2 := isW_all hw
  unfold hd
  split
  · omega
  · simp; omega
theorem hd_free {lab w : List Nat} (hl : LabOk lab) (hw : isW w = true) : ∀ c ∈ hd lab w, c ∉ stops := by
  intro c hc
  have h0 : c ∈ lab ∨ c = 58 ∨ c ∈ w := by
    unfold hd at hc
    split at hc
    · exact .inr (.inr hc)
    · simpa [or_assoc] using hc
  rcases h0 with h | h | h
  · have := lets_free c (hl.all.2 c h); simp [stops]; omega
  · subst h; decide
  · have := wsig_free c ((isW_all hw).2.2 c h); simp [stops]; omega
theorem part_hd {lab w : List Nat} (hl : LabOk lab) (hw : isW w = true) : gPart (.str (St (hd lab w))) [.str (St [58])] = some (if lab = [] then .tup [.str (St w), .str (St []), .str (St [])] else .tup [.str (St lab), .str (St [58]), .str (St w)]) := by
  have h2 := isW_all hw
  have hlen : ((St [58]).length == 0) = false := by decide
  have hs : (St (hd lab w)).length ≤ sizeLine := small_line (by have := hd_len hl hw; simp; omega)
  simp only [gPart, hlen, hs, and_self, if_true]
  by_cases hz : lab = []
  · have e : Txt.partition (St w) (St [58]) = (St w, St [], St []) := TL.partition_none (s := 58) (S := []) rfl (fun hc => (wsig_free 58 (h2.2.2 58 hc)).1 rfl)
    simp only [hd, hz, if_true, e]
  · have e : Txt.partition (St lab ++ St [58] ++ St w) (St [58]) = (St lab, St [58], St w) := TL.partition_app (s := 58) (S := []) rfl (fun hc => (lets_free 58 (hl.all.2 58 hc)).1 rfl)
    rw [St_cat, St_cat] at e
    simp only [hd, hz, if_false, e]
def EndOk (suf : List Nat) : Prop := suf = [] ∨ ∃ c r, suf = c :: r ∧ c ∈ stops
theorem head_val {T pre lab w suf : List Nat} {a b : Nat} (hT : T.length ≤ 90000) (e : T = pre ++ hd lab w ++ suf) (ha : pre.length = a) (hb : a + (hd lab w).length = b) (hl : LabOk lab) (hw : isW w = true) (hs : EndOk suf) (s : Sto) :
    S_head_of [.str (St T), .int (a : Int)] s = .ok (.tup [.str (St lab), .str (St w), .int (b : Int)]) s := by
  have hl9 : T.length ≤ sizeLine := small_line (by omega)
  have hfree := hd_free hl hw
  have e1 := head_loop (T := T) (by omega) (a : Int) s (hd lab w).length fuel a (fun i h1 h2 => by
      have hi : i - a < (hd lab w).length := by omega
      refine ⟨(hd lab w)[i - a], ?_, hfree _ (List.getElem_mem hi)⟩
      rw [e, List.append_assoc, List.getElem?_append_right (by omega), ha, List.getElem?_append_left hi, List.getElem?_eq_getElem hi])
    (by
      rcases hs with hs | ⟨c, r, hs, hc⟩
      · refine .inl ?_
        rw [e, hs]
        simp [ha]
      · refine .inr ⟨c, ?_, hc⟩
        rw [e, hs, List.getElem?_append_right (by simp [ha]), show a + (hd lab w).length - (pre ++ hd lab w).length = 0 by simp [ha]]
        rfl) (by have := hd_len hl hw; unfold fuel; omega)
  rw [hb] at e1
  have e2 : cutL T (some (a : Int)) (some (b : Int)) = hd lab w := by
    rw [cutL_nn, e, List.append_assoc, List.drop_left' ha, List.take_left' (by omega)]
  have e3 := part_hd hl hw
  have e4 := word_val w (by have := isW_all hw; omega) s
  rw [hw] at e4
  apply runG_rt
  by_cases hz : lab = []
  · subst hz
    have e5 : hd [] w = w := rfl
    rw [e5] at e3 e2
    rw [if_pos rfl] at e3
    simp [e1, hl9, e2, e3, e4, St_eq]
  · rw [if_neg hz] at e3
    have hm : isM lab = true := hl.resolve_left hz
    have e6 := mark_val lab (by have := isM_all hm; omega) s
    rw [hm] at e6
    simp [e1, hl9, e2, e3, e4, e6, St_eq]
end Law

/-! VNv: notes, read and shown. -/
namespace Law
open PySem L2 Gs
def nt (lab w : List Nat) (x : D) : D := .tup [.str (St lab), .str (St w), x]
/-- a note of at most so many open brackets, and its text -/
def Nx : Nat → D → List Nat → Prop
  | 0, x, t => ∃ lab w, LabOk lab ∧ isW w = true ∧ x = nt lab w .non ∧ t = hd lab w
  | d + 1, x, t => ∃ lab w, LabOk lab ∧ isW w = true ∧ ((x = nt lab w .non ∧ t = hd lab w) ∨
      ∃ ps : List (D × List Nat), ps.length ≤ 1000 ∧ (∀ p ∈ ps, Nx d p.1 p.2) ∧ x = nt lab w (.tup (ps.map (·.1))) ∧ t = hd lab w ++ [40] ++ TL.joinL [44] (ps.map (·.2)) ++ [41])
theorem Nx.leaf {d : Nat} {lab w : List Nat} (hl : LabOk lab) (hw : isW w = true) : Nx d (nt lab w .non) (hd lab w) := by
  cases d with
  | zero => exact ⟨lab, w, hl, hw, rfl, rfl⟩
  | succ d => exact ⟨lab, w, hl, hw, .inl ⟨rfl, rfl⟩⟩
theorem cut_one (T : List Nat) (b : Nat) : cutL T (some (b : Int)) (some ((b : Int) + 1)) = (T.drop b).take 1 := by
  have := cutL_nn T b (b + 1)
  rw [show ((b + 1 : Nat) : Int) = (b : Int) + 1 by omega, show b + 1 - b = 1 by omega] at this
  exact this
/-! reading -/
/-- what the reading of a thing within comes to -/
def EndN (suf : List Nat) : Prop := suf = [] ∨ ∃ c r, suf = c :: r ∧ (c = 41 ∨ c = 44)
theorem EndN.ok {suf : List Nat} (h : EndN suf) : EndOk suf := by
  rcases h with h | ⟨c, r, h, hc⟩
  · exact .inl h
  · exact .inr ⟨c, r, h, by rcases hc with rfl | rfl <;> decide⟩
def Rd1 (N : List D → Sto → R D) (T : List Nat) (q : D × List Nat) : Prop := ∀ (pre suf : List Nat) (a : Nat) (s : Sto), T = pre ++ q.2 ++ suf → pre.length = a → EndN suf → ∃ g, N [.str (St T), .int (a : Int)] s = .ok (.tup [q.1, .int ((a + q.2.length : Nat) : Int)]) (s ++ g)
theorem joinL_cons2 (p q : List Nat) (r : List (List Nat)) : TL.joinL [44] (p :: q :: r) = p ++ (44 :: TL.joinL [44] (q :: r)) := by
  show p ++ ([44] ++ TL.joinL [44] (q :: r)) = _
  simp
theorem inner_loop {N : List D → Sto → R D} {T : List Nat} (hT : T.length ≤ 90000) {lab w : D} (s0 : Sto) : ∀ (qs : List (D × List Nat)) (q : D × List Nat) (done : List D) (pre suf : List Nat) (a n : Nat) (y : Option D) (g : Sto), (∀ p ∈ q :: qs, Rd1 N T p) → T = pre ++ TL.joinL [44] ((q :: qs).map (·.2)) ++ 41 :: suf → pre.length = a → done.length + qs.length ≤ 2000 → qs.length < n →
    ∃ g', whileD (T_note_at_0 N) (L_note_at_0 N) n [some (.str (St T)), some (.int (a : Int)), some lab, some w, some (.ob s0.length), y] (s0 ++ .lst done :: g) =
      .rt (.tup [.tup [lab, w, .tup (done ++ (q :: qs).map (·.1))], .int ((a + (TL.joinL [44] ((q :: qs).map (·.2))).length + 1 : Nat) : Int)]) (s0 ++ g')
  | qs, q, done, pre, suf, a, 0, y, g, hq, e, ha, hd, hn => by omega
  | [], q, done, pre, suf, a, n + 1, y, g, hq, e, ha, hd, hn => by
    have hl9 : T.length ≤ sizeLine := small_line (by omega)
    have l2 : done.length < sizeLine := small_line (n := done.length + 1) (by omega)
    have ej : TL.joinL [44] ([q].map (·.2)) = q.2 := rfl
    rw [ej] at e ⊢
    obtain ⟨g1, r⟩ := hq q (by simp) pre (41 :: suf) a (s0 ++ .lst done :: g) e ha (.inr ⟨41, suf, rfl, .inl rfl⟩)
    obtain ⟨b, hb⟩ : ∃ b, a + q.2.length = b := ⟨_, rfl⟩
    rw [hb] at r ⊢
    have c1 : cutL T (some (b : Int)) (some ((b : Int) + 1)) = [41] := by
      rw [cut_one, e, List.drop_left' (by simp [ha, hb])]
      rfl
    have hc : T_note_at_0 N [some (.str (St T)), some (.int (a : Int)), some lab, some w, some (.ob s0.length), y] (s0 ++ .lst done :: g) = .ok true (s0 ++ .lst done :: g) := by simp [T_note_at_0]
    have hbd : L_note_at_0 N [some (.str (St T)), some (.int (a : Int)), some lab, some w, some (.ob s0.length), y] (s0 ++ .lst done :: g) = .rt (.tup [.tup [lab, w, .tup (done ++ [q].map (·.1))], .int ((b + 1 : Nat) : Int)]) (s0 ++ .gone :: (g ++ g1)) := by
      simp at r
      simp [L_note_at_0, r, hl9, c1, l2, St_eq]
    exact ⟨.gone :: (g ++ g1), by simp only [whileD, hc, hbd]⟩
  | q2 :: qs, q, done, pre, suf, a, n + 1, y, g, hq, e, ha, hd, hn => by
    have hl9 : T.length ≤ sizeLine := small_line (by omega)
    have l2 : done.length < sizeLine := small_line (n := done.length + 1) (by omega)
    have ej : TL.joinL [44] ((q :: q2 :: qs).map (·.2)) = q.2 ++ (44 :: TL.joinL [44] ((q2 :: qs).map (·.2))) := joinL_cons2 _ _ _
    rw [ej] at e ⊢
    have e2 : T = pre ++ q.2 ++ (44 :: (TL.joinL [44] ((q2 :: qs).map (·.2)) ++ 41 :: suf)) := by rw [e]; simp
    obtain ⟨g1, r⟩ := hq q (by simp) pre _ a (s0 ++ .lst done :: g) e2 ha (.inr ⟨44, _, rfl, .inr rfl⟩)
    obtain ⟨b, hb⟩ : ∃ b, a + q.2.length = b := ⟨_, rfl⟩
    rw [hb] at r
    have c1 : cutL T (some (b : Int)) (some ((b : Int) + 1)) = [44] := by
      rw [cut_one, e2, List.drop_left' (by simp [ha, hb])]
      rfl
    have hc : T_note_at_0 N [some (.str (St T)), some (.int (a : Int)), some lab, some w, some (.ob s0.length), y] (s0 ++ .lst done :: g) = .ok true (s0 ++ .lst done :: g) := by simp [T_note_at_0]
    have hbd : L_note_at_0 N [some (.str (St T)), some (.int (a : Int)), some lab, some w, some (.ob s0.length), y] (s0 ++ .lst done :: g) = .nx [some (.str (St T)), some (.int ((b + 1 : Nat) : Int)), some lab, some w, some (.ob s0.length), some q.1] (s0 ++ .lst (done ++ [q.1]) :: (g ++ g1)) := by
      simp at r
      simp [L_note_at_0, r, hl9, c1, l2, St_eq]
    obtain ⟨g', ih⟩ := inner_loop hT (N := N) (lab := lab) (w := w) s0 qs q2 (done ++ [q.1]) (pre ++ q.2 ++ [44]) suf (b + 1) n (some q.1) (g ++ g1) (fun p hp => hq p (by simp at hp ⊢; exact .inr hp)) (by rw [e2]; simp) (by simp; omega) (by simp at hd ⊢; omega) (by simp at hn; omega)
    refine ⟨g', ?_⟩
    simp only [whileD, hc, hbd, ih, List.map_cons, List.append_assoc, List.singleton_append, List.cons_append, List.nil_append]
    have hx : b + 1 = a + (q.2.length + 1) := by omega
    simp [hx, Nat.add_assoc, Nat.add_comm, Nat.add_left_comm]
theorem nx_head {d : Nat} {x : D} {t : List Nat} (h : Nx d x t) : ∃ c r, t = c :: r ∧ c ∉ stops := by
  have key : ∀ (lab w r : List Nat), LabOk lab → isW w = true → ∃ c s, hd lab w ++ r = c :: s ∧ c ∉ stops := fun lab w r hl hw => by
    have h1 := (hd_len hl hw).2
    have h2 := hd_free hl hw
    cases q : hd lab w with
    | nil => rw [q] at h1; simp at h1
    | cons c s => exact ⟨c, s ++ r, rfl, h2 c (by rw [q]; simp)⟩
  cases d with
  | zero =>
    obtain ⟨lab, w, hl, hw, _, e⟩ := h
    have := key lab w [] hl hw
    rw [List.append_nil] at this
    rw [e]; exact this
  | succ d =>
    obtain ⟨lab, w, hl, hw, ⟨_, e⟩ | ⟨ps, _, _, _, e⟩⟩ := h
    · have := key lab w [] hl hw
      rw [List.append_nil] at this
      rw [e]; exact this
    · have := key lab w ([40] ++ TL.joinL [44] (ps.map (·.2)) ++ [41]) hl hw
      rw [e]
      simpa using this
theorem leaf_rd (k : Nat) {lab w T : List Nat} (hl : LabOk lab) (hw : isW w = true) (hT : T.length ≤ 90000) : Rd1 (S_note_at (k + 1)) T (nt lab w .non, hd lab w) := by
  intro pre suf a s e ha hs
  have hl9 : T.length ≤ sizeLine := small_line (by omega)
  obtain ⟨b, hb⟩ : ∃ b, a + (hd lab w).length = b := ⟨_, rfl⟩
  have e1 := head_val hT e ha hb hl hw hs.ok s
  refine ⟨[], ?_⟩
  rw [List.append_nil]
  have c1 : cutL T (some (b : Int)) (some ((b : Int) + 1)) ≠ [40] := by
    rw [cut_one, show T = pre ++ hd lab w ++ suf from e, List.drop_left' (by simp [ha, hb])]
    rcases hs with hs | ⟨c, r, hs, hc⟩
    · subst hs; decide
    · subst hs
      rcases hc with rfl | rfl <;> simp
  show U_note_at _ _ _ = _
  apply runG_rt
  simp only [hb]
  simp [e1, hl9, St_eq, c1, nt]
theorem note_rd : ∀ (d : Nat) (x : D) (t : List Nat), Nx d x t → ∀ (T : List Nat), T.length ≤ 90000 → ∀ m, Rd1 (S_note_at (m + d + 1)) T (x, t)
  | 0, x, t, ⟨lab, w, hl, hw, ex, et⟩, T, hT, m => by
    subst ex; subst et
    exact leaf_rd _ hl hw hT
  | d + 1, x, t, ⟨lab, w, hl, hw, .inl ⟨ex, et⟩⟩, T, hT, m => by
    subst ex; subst et
    exact leaf_rd _ hl hw hT
  | d + 1, x, t, ⟨lab, w, hl, hw, .inr ⟨ps, hp, hps, ex, et⟩⟩, T, hT, m => by
    intro pre suf a s e ha hs
    have ih := fun p hp => note_rd d p.1 p.2 (hps p hp) T hT m
    have hl9 : T.length ≤ sizeLine := small_line (by omega)
    obtain ⟨b, hb⟩ : ∃ b, a + (hd lab w).length = b := ⟨_, rfl⟩
    have e' : T = pre ++ hd lab w ++ (40 :: (TL.joinL [44] (ps.map (·.2)) ++ 41 :: suf)) := by rw [show T = pre ++ t ++ suf from e, et]; simp
    have e1 := head_val hT e' ha hb hl hw (.inr ⟨40, _, rfl, by decide⟩) s
    have d1 : T.drop b = 40 :: (TL.joinL [44] (ps.map (·.2)) ++ 41 :: suf) := by rw [e', List.drop_left' (by simp [ha, hb])]
    have c1 : cutL T (some (b : Int)) (some ((b : Int) + 1)) = [40] := by
      rw [cut_one, d1]
      rfl
    have d2 : T.drop (b + 1) = TL.joinL [44] (ps.map (·.2)) ++ 41 :: suf := by
      rw [← List.drop_drop, d1]
      rfl
    have c2 := cut_one T (b + 1)
    rw [d2, show ((b + 1 : Nat) : Int) = (b : Int) + 1 by omega] at c2
    have hlen : a + t.length = b + (TL.joinL [44] (ps.map (·.2))).length + 2 := by rw [et]; simp; omega
    subst ex
    cases ps with
    | nil =>
      refine ⟨[.lst []], ?_⟩
      show U_note_at _ _ _ = _
      apply runG_rt
      simp only [hlen]
      have c3 : cutL T (some ((b : Int) + 1)) (some ((b : Int) + 1 + 1)) = [41] := c2
      simp [e1, hl9, St_eq, c1, c3, nt, TL.joinL]
      omega
    | cons p ps =>
      have c3 : cutL T (some ((b : Int) + 1)) (some ((b : Int) + 1 + 1)) ≠ [41] := by
        obtain ⟨c, r, h1, h2⟩ := nx_head (hps p (by simp))
        have : ∃ s, TL.joinL [44] ((p :: ps).map (·.2)) = c :: s := by
          cases ps with
          | nil => exact ⟨r, h1⟩
          | cons q qs => exact ⟨_, (joinL_cons2 _ _ _).trans (by simp only [h1]; rfl)⟩
        obtain ⟨s, hs⟩ := this
        rw [c2, hs]
        intro z
        simp at z
        exact h2 (by rw [z]; decide)
      obtain ⟨g', lp⟩ := inner_loop (N := S_note_at (m + d + 1)) hT (lab := .str (St lab)) (w := .str (St w)) s ps p [] (pre ++ hd lab w ++ [40]) suf (b + 1) fuel none [] (fun q hq => ih q hq) (by rw [e']; simp) (by simp; omega) (by simp at hp ⊢; omega) (by simp at hp; unfold fuel; omega)
      have lp2 : whileD (T_note_at_0 (S_note_at (m + (d + 1)))) (L_note_at_0 (S_note_at (m + (d + 1)))) fuel [some (.str (St T)), some (.int ((b : Int) + 1)), some (.str (St lab)), some (.str (St w)), some (.ob s.length), none] (s ++ [.lst []]) = _ := lp
      refine ⟨g', ?_⟩
      show U_note_at _ _ _ = _
      apply runG_rt
      simp only [hlen]
      simp [e1, hl9, St_eq, c1, c3, nt, lp2]
      omega
end Law

/-! GNb: the bounds; texts joined. -/
namespace Law
open PySem L2 Gs
def bst (s : Int × Int) (c : Nat) : Int × Int := if c = 40 then (s.1 + 1, if s.1 + 1 > s.2 then s.1 + 1 else s.2) else if c = 41 then (s.1 - 1, s.2) else s
theorem bounds_loop (x : Option D) (z : Sto) : ∀ (l : List Nat) (s : Int × Int) (y : Option D), ∃ y', forD (.nm 3) L_in_bounds_0 (l.map fun c => .str (St [c])) [x, some (.int s.1), some (.int s.2), y] z = .nx [x, some (.int (l.foldl bst s).1), some (.int (l.foldl bst s).2), y'] z
  | [], s, y => ⟨y, rfl⟩
  | c :: l, s, y => by
    obtain ⟨y', e⟩ := bounds_loop x z l (bst s c) (some (.str (St [c])))
    refine ⟨y', ?_⟩
    have hb : L_in_bounds_0 [x, some (.int s.1), some (.int s.2), some (.str (St [c]))] z = .nx [x, some (.int (bst s c).1), some (.int (bst s c).2), some (.str (St [c]))] z := by
      by_cases h1 : c = 40
      · subst h1
        simp [L_in_bounds_0, bst, St_eq]
      · by_cases h2 : c = 41
        · subst h2
          simp [L_in_bounds_0, bst, St_eq]
        · simp [L_in_bounds_0, bst, St_eq, h1, h2]
    simp [forD, hb, e]
theorem bf_free : ∀ (l : List Nat) (s : Int × Int), (∀ c ∈ l, c ∉ stops) → l.foldl bst s = s
  | [], s, h => rfl
  | c :: l, s, h => by
    have hc := h c (by simp)
    simp [stops] at hc
    have : bst s c = s := by simp [bst, hc]
    rw [List.foldl_cons, this]
    exact bf_free l s fun c hc => h c (by simp [hc])
theorem bf_note : ∀ (d : Nat) (x : D) (t : List Nat), Nx d x t → ∀ (o m : Int), ∃ m', t.foldl bst (o, m) = (o, m') ∧ m ≤ m' ∧ (m' ≤ m ∨ m' ≤ o + d)
  | 0, x, t, ⟨lab, w, hl, hw, ex, et⟩, o, m => ⟨m, by rw [et]; exact bf_free _ _ (hd_free hl hw), by omega, .inl (by omega)⟩
  | d + 1, x, t, ⟨lab, w, hl, hw, .inl ⟨ex, et⟩⟩, o, m => ⟨m, by rw [et]; exact bf_free _ _ (hd_free hl hw), by omega, .inl (by omega)⟩
  | d + 1, x, t, ⟨lab, w, hl, hw, .inr ⟨ps, hp, hps, ex, et⟩⟩, o, m => by
    have ih := fun p hp => bf_note d p.1 p.2 (hps p hp)
    have join : ∀ (qs : List (D × List Nat)), (∀ q ∈ qs, q ∈ ps) → ∀ (o m : Int), ∃ m', (TL.joinL [44] (qs.map (·.2))).foldl bst (o, m) = (o, m') ∧ m ≤ m' ∧ (m' ≤ m ∨ m' ≤ o + d) := by
      intro qs
      induction qs with
      | nil => exact fun _ o m => ⟨m, rfl, by omega, .inl (by omega)⟩
      | cons q qs ihq =>
        intro hq o m
        obtain ⟨m1, e1, h1, h2⟩ := ih q (hq q (by simp)) o m
        cases qs with
        | nil => exact ⟨m1, e1, h1, h2⟩
        | cons r rs =>
          obtain ⟨m2, e2, h3, h4⟩ := ihq (fun z hz => hq z (by simp at hz ⊢; exact .inr hz)) o m1
          refine ⟨m2, ?_, by omega, by omega⟩
          have ej : TL.joinL [44] ((q :: r :: rs).map (·.2)) = q.2 ++ (44 :: TL.joinL [44] ((r :: rs).map (·.2))) := joinL_cons2 _ _ _
          rw [ej, List.foldl_append, e1, List.foldl_cons]
          exact e2
    obtain ⟨m1, e1, h1, h2⟩ := join ps (fun _ h => h) (o + 1) (if o + 1 > m then o + 1 else m)
    refine ⟨m1, ?_, ?_, ?_⟩
    · rw [et, List.foldl_append, List.foldl_append, List.foldl_append, bf_free _ _ (hd_free hl hw)]
      have : [40].foldl bst (o, m) = (o + 1, if o + 1 > m then o + 1 else m) := rfl
      rw [this, e1]
      simp [bst]
    · split at h1 <;> omega
    · split at h2 <;> omega
theorem bounds_val {x : D} {t : List Nat} (h : Nx 6 x t) (hl : t.length ≤ 2000) (s : Sto) : S_in_bounds [.str (St t)] s = .ok .non s := by
  obtain ⟨m', e, h1, h2⟩ := bf_note 6 x t h 0 0
  obtain ⟨y', e2⟩ := bounds_loop (some (.str (St t))) s t (0, 0) none
  rw [e] at e2
  have hl9 : t.length ≤ sizeLine := small_line (by omega)
  have g1 : ¬ ((t.length : Int) > 2000) := by omega
  have g2 : ¬ (m' > 6) := by omega
  have g1' : ¬ (2000 : Int) < (t.length : Int) := by omega
  have g2' : ¬ 6 < m' := by omega
  refine runG_nx (δ := [some (.str (St t)), some (.int 0), some (.int m'), y']) ?_
  simp at e2
  simp [e2, hl9, g1', g2']
theorem read_val {x : D} {t : List Nat} (h : Nx 6 x t) (hl : t.length ≤ 2000) (s : Sto) : ∃ g, S_read_note [.str (St t)] s = .ok x (s ++ g) := by
  have hl9 : t.length ≤ sizeLine := small_line (by omega)
  have e1 := bounds_val h hl s
  obtain ⟨g, e2⟩ := note_rd 6 x t h t (by omega) 63 [] [] 0 s (by simp) rfl (.inl rfl)
  have e3 : S_note_at 70 [.str (St t), .int 0] s = .ok (.tup [x, .int (t.length : Int)]) (s ++ g) := by
    rw [Nat.zero_add] at e2
    exact e2
  refine ⟨g, ?_⟩
  apply runG_rt
  simp [e1, e3, hl9]
theorem joinL_le : ∀ (ts : List (List Nat)), (∀ t ∈ ts, t.length ≤ (TL.joinL [44] ts).length) ∧ ts.length ≤ (TL.joinL [44] ts).length + 1 ∧ (ts.map (·.length)).sum + ts.length ≤ (TL.joinL [44] ts).length + 1
  | [] => ⟨(fun _ h => nomatch h), by simp, by simp [TL.joinL]⟩
  | [p] => ⟨fun t h => by simp at h; subst h; exact Nat.le_refl _, by simp, by simp [TL.joinL]⟩
  | p :: q :: r => by
    obtain ⟨h1, h2, h3⟩ := joinL_le (q :: r)
    have e : (TL.joinL [44] (p :: q :: r)).length = p.length + 1 + (TL.joinL [44] (q :: r)).length := by rw [joinL_cons2]; simp; omega
    refine ⟨fun t ht => ?_, by rw [e]; simp at h2 ⊢; omega, by rw [e]; simp at h3 ⊢; omega⟩
    rw [e]
    rcases List.mem_cons.mp ht with z | z
    · subst z; omega
    · have := h1 t z; omega
theorem join_St (ts : List (List Nat)) : Txt.join (St [44]) (ts.map St) = St (TL.joinL [44] ts) := by
  rw [TL.join_eq]
  refine TL.ext_tl ?_
  have := TL.tl_join (St [44]) (ts.map St)
  rw [this]
  have e : (ts.map St).map TL.tl = ts := by
    rw [List.map_map]
    exact (List.map_congr_left (g := id) fun x _ => rfl).trans (List.map_id _)
  rw [e]
  rfl
theorem gJoin_val (ts : List (List Nat)) (h : (TL.joinL [44] ts).length ≤ 90000) : gJoin (.str (St [44])) [.lst (ts.map fun t => .str (St t))] = some (.str (St (TL.joinL [44] ts))) := by
  have e : ts.map (fun t => D.str (St t)) = (ts.map St).map D.str := by simp
  have h3 := (joinL_le ts).2.2
  have h4 : ((ts.map St).map (·.length)).sum + (ts.map St).length * (St [44]).length ≤ 16777216 := by
    have e1 : (ts.map St).map (·.length) = ts.map (·.length) := by simp
    have e2 : (St [44]).length = 1 := by simp
    rw [e1, e2, List.length_map]
    omega
  rw [e]
  simp only [gJoin, strsOf_map, Option.bind_some]
  rw [if_pos h4, join_St]
end Law

/-! GP: the reading of any text, as a plain function. -/
namespace Law
open PySem L2 Gs
def fre (c : Nat) : Bool := !decide (c ∈ stops)
def seg (r : List Nat) : List Nat := r.takeWhile fre
def aft (r : List Nat) : List Nat := r.dropWhile fre
theorem seg_aft (r : List Nat) : seg r ++ aft r = r := List.takeWhile_append_dropWhile
theorem seg_free : ∀ (r : List Nat), ∀ c ∈ seg r, c ∉ stops
  | [], c, h => nomatch h
  | x :: r, c, h => by
    unfold seg at h
    rw [List.takeWhile_cons] at h
    split at h
    · rename_i hx
      rcases List.mem_cons.mp h with rfl | h
      · simpa [fre] using hx
      · exact seg_free r c h
    · exact nomatch h
theorem aft_end : ∀ (r : List Nat), EndOk (aft r)
  | [] => .inl rfl
  | x :: r => by
    unfold aft
    rw [List.dropWhile_cons]
    split
    · exact aft_end r
    · rename_i hx
      exact .inr ⟨x, r, rfl, by simpa [fre] using hx⟩
/-! a head -/
def bef (g : List Nat) : List Nat := g.takeWhile fun c => decide (c ≠ 58)
def beh (g : List Nat) : List Nat := (g.dropWhile fun c => decide (c ≠ 58)).tail
theorem bef_free : ∀ (g : List Nat), 58 ∉ bef g
  | [], h => nomatch h
  | x :: g, h => by
    unfold bef at h
    rw [List.takeWhile_cons] at h
    split at h
    · rename_i hx
      rcases List.mem_cons.mp h with rfl | h
      · simp at hx
      · exact bef_free g h
    · exact nomatch h
theorem bef_beh : ∀ {g : List Nat}, 58 ∈ g → g = bef g ++ 58 :: beh g
  | [], h => nomatch h
  | x :: g, h => by
    by_cases hx : x = 58
    · subst hx
      simp [bef, beh]
    · have h2 : 58 ∈ g := by
        rcases List.mem_cons.mp h with h | h
        · exact absurd h.symm hx
        · exact h
      have ih := bef_beh h2
      have e1 : bef (x :: g) = x :: bef g := by simp [bef, hx]
      have e2 : beh (x :: g) = beh g := by simp [beh, hx]
      rw [e1, e2]
      simp only [List.cons_append]
      rw [← ih]
def headP (g : List Nat) : Option (List Nat × List Nat) :=
  if 58 ∈ g then (if isM (bef g) = true then (if isW (beh g) = true then some (bef g, beh g) else none) else none) else (if isW g = true then some ([], g) else none)
theorem head_gen {T pre r : List Nat} {a : Nat} (hT : T.length ≤ 90000) (e : T = pre ++ r) (ha : pre.length = a) (s : Sto) :
    S_head_of [.str (St T), .int (a : Int)] s = (match headP (seg r) with
      | some (l, w) => .ok (.tup [.str (St l), .str (St w), .int ((a + (seg r).length : Nat) : Int)]) s
      | none => .exc ⟨"NoNote", []⟩ s) := by
  have hl9 : T.length ≤ sizeLine := small_line (by omega)
  have er := seg_aft r
  have hsl : (seg r).length ≤ T.length := by
    have := congrArg List.length (seg_aft r)
    rw [e]
    simp at this ⊢
    omega
  obtain ⟨g, hg⟩ : ∃ g, seg r = g := ⟨_, rfl⟩
  obtain ⟨u, hu⟩ : ∃ u, aft r = u := ⟨_, rfl⟩
  have hfree := seg_free r
  have hend := aft_end r
  rw [hg, hu] at er
  rw [hg] at hfree hsl
  rw [hu] at hend
  rw [hg]
  rw [← er] at e
  have e1 := head_loop (T := T) (by omega) (a : Int) s g.length fuel a (fun i h1 h2 => by
      have hi : i - a < g.length := by omega
      refine ⟨g[i - a], ?_, hfree _ (List.getElem_mem hi)⟩
      rw [e, List.getElem?_append_right (by omega), ha, List.getElem?_append_left hi, List.getElem?_eq_getElem hi])
    (by
      rcases hend with hs | ⟨c, v, hs, hc⟩
      · refine .inl ?_
        rw [e, hs]
        simp [ha]
      · refine .inr ⟨c, ?_, hc⟩
        rw [e, hs, List.getElem?_append_right (by simp [ha]), List.getElem?_append_right (by simp [ha]), show a + g.length - pre.length - g.length = 0 by omega]
        rfl) (by unfold fuel; omega)
  have e2 : cutL T (some (a : Int)) (some ((a + g.length : Nat) : Int)) = g := by
    rw [cutL_nn, e, List.drop_left' ha, List.take_left' (by omega)]
  obtain ⟨b, hb⟩ : ∃ b, a + g.length = b := ⟨_, rfl⟩
  rw [hb] at e1 e2 ⊢
  have hlen : ((St [58]).length == 0) = false := by decide
  have hs : (St g).length ≤ sizeLine := small_line (by simp; omega)
  unfold headP
  by_cases hc : 58 ∈ g
  · have hp : gPart (.str (St g)) [.str (St [58])] = some (.tup [.str (St (bef g)), .str (St [58]), .str (St (beh g))]) := by
      have q : Txt.partition (St (bef g) ++ St [58] ++ St (beh g)) (St [58]) = (St (bef g), St [58], St (beh g)) := TL.partition_app (s := 58) (S := []) rfl (bef_free g)
      rw [St_cat, St_cat, show bef g ++ [58] ++ beh g = g by rw [List.append_assoc]; exact (bef_beh hc).symm] at q
      simp only [gPart, hlen, hs, and_self, if_true, q]
    have hbl : (bef g).length + (beh g).length ≤ g.length := by
      have := congrArg List.length (bef_beh hc)
      simp at this
      omega
    have m1 := mark_val (bef g) (by omega) s
    have m2 := word_val (beh g) (by omega) s
    rw [if_pos hc]
    by_cases h1 : isM (bef g) = true
    · rw [h1] at m1
      rw [if_pos h1]
      by_cases h2 : isW (beh g) = true
      · rw [h2] at m2
        rw [if_pos h2]
        apply runG_rt
        simp [e1, hl9, e2, hp, m1, m2, St_eq]
      · rw [Bool.not_eq_true] at h2
        rw [h2] at m2
        rw [if_neg (by rw [h2]; decide)]
        apply runG_exc
        simp [e1, hl9, e2, hp, m1, m2, St_eq]
        rfl
    · rw [Bool.not_eq_true] at h1
      rw [h1] at m1
      rw [if_neg (by rw [h1]; decide)]
      apply runG_exc
      simp [e1, hl9, e2, hp, m1, m2, St_eq]
      rfl
  · have hp : gPart (.str (St g)) [.str (St [58])] = some (.tup [.str (St g), .str (St []), .str (St [])]) := by
      have q : Txt.partition (St g) (St [58]) = (St g, St [], St []) := TL.partition_none (s := 58) (S := []) rfl hc
      simp only [gPart, hlen, hs, and_self, if_true, q]
    have m2 := word_val g (by omega) s
    rw [if_neg hc]
    by_cases h2 : isW g = true
    · rw [h2] at m2
      rw [if_pos h2]
      apply runG_rt
      simp [e1, hl9, e2, hp, m2, St_eq]
    · rw [Bool.not_eq_true] at h2
      rw [h2] at m2
      rw [if_neg (by rw [h2]; decide)]
      apply runG_exc
      simp [e1, hl9, e2, hp, m2, St_eq]
      rfl
end Law

/-! GPa: the reading of any text, as a plain function; its depth. -/
namespace Law
open PySem L2 Gs
inductive Pr where
  | ok (x : D) (r : List Nat)
  | no
  | deep
def inP (P : List Nat → Pr) (l w : List Nat) : Nat → List D → List Nat → Pr
  | 0, _, _ => .deep
  | k + 1, done, r => match P r with
    | .ok x r2 => (match r2 with
      | [] => .no
      | c :: r3 => if c = 41 then .ok (nt l w (.tup (done ++ [x]))) r3 else if c = 44 then inP P l w k (done ++ [x]) r3 else .no)
    | .no => .no
    | .deep => .deep
def clo (r : List Nat) : Option (List Nat) := match r with
  | [] => none
  | c :: r2 => if c = 41 then some r2 else none
def noteP : Nat → List Nat → Pr
  | 0, _ => .deep
  | n + 1, r => match headP (seg r) with
    | none => .no
    | some (l, w) => (match aft r with
      | [] => .ok (nt l w .non) []
      | c :: r2 => if c = 40 then (match clo r2 with
          | some r3 => .ok (nt l w (.tup [])) r3
          | none => inP (noteP n) l w (r2.length + 1) [] r2) else .ok (nt l w .non) (c :: r2))
/-! brackets open -/
def stp (c : Nat) : Int := if c = 40 then 1 else if c = 41 then -1 else 0
def bal : List Nat → Int
  | [] => 0
  | c :: r => stp c + bal r
theorem bal_app : ∀ p r : List Nat, bal (p ++ r) = bal p + bal r
  | [], r => by simp [bal]
  | c :: p, r => by simp [bal, bal_app p r]; omega
theorem bal_free : ∀ p : List Nat, (∀ c ∈ p, c ∉ stops) → bal p = 0
  | [], _ => rfl
  | c :: p, h => by
    have h1 := h c (by simp)
    simp [stops] at h1
    simp [bal, stp, h1, bal_free p fun c hc => h c (by simp [hc])]
def hi : Int → List Nat → Prop
  | m, [] => 0 ≤ m
  | m, c :: r => 0 ≤ m ∧ hi (m - stp c) r
theorem hi_nn {m : Int} : ∀ {r : List Nat}, hi m r → 0 ≤ m
  | [], h => h
  | _ :: _, h => h.1
theorem hi_app : ∀ {m : Int} (p : List Nat) {r : List Nat}, hi m (p ++ r) → hi (m - bal p) r
  | m, [], r, h => by simpa [bal] using h
  | m, c :: p, r, h => by
    have := hi_app p h.2
    rwa [show m - stp c - bal p = m - bal (c :: p) by simp [bal]; omega] at this
theorem headP_pos {g l w : List Nat} (h : headP g = some (l, w)) : 1 ≤ g.length := by
  cases g with
  | nil => simp [headP, isW] at h
  | cons c g => simp
theorem clo_some {r r3 : List Nat} (h : clo r = some r3) : r = 41 :: r3 := by
  unfold clo at h
  split at h
  · cases h
  · split at h
    · rename_i h2
      cases h
      rw [h2]
    · cases h
theorem inP_suf {P : List Nat → Pr} (hP : ∀ r x r2, P r = .ok x r2 → ∃ p, r = p ++ r2 ∧ 1 ≤ p.length ∧ bal p = 0) {l w : List Nat} : ∀ (k : Nat) (done : List D) (r : List Nat) (x : D) (r2 : List Nat), inP P l w k done r = .ok x r2 → ∃ p, r = p ++ r2 ∧ 1 ≤ p.length ∧ bal p = -1
  | 0, done, r, x, r2, h => nomatch h
  | k + 1, done, r, x, r2, h => by
    unfold inP at h
    split at h
    · rename_i y r1 hy
      obtain ⟨p, e1, e2, e3⟩ := hP _ _ _ hy
      split at h
      · cases h
      · rename_i c r3
        split at h
        · rename_i hc
          cases h
          exact ⟨p ++ [c], by rw [e1]; simp, by simp, by rw [bal_app, e3, hc]; simp [bal, stp]⟩
        · split at h
          · rename_i hc
            obtain ⟨q, f1, f2, f3⟩ := inP_suf hP k _ _ _ _ h
            exact ⟨p ++ c :: q, by rw [e1, f1]; simp, by simp; omega, by rw [bal_app, e3]; simp [bal, hc, stp, f3]⟩
          · cases h
    · cases h
    · cases h
theorem noteP_suf : ∀ (n : Nat) (r : List Nat) (x : D) (r2 : List Nat), noteP n r = .ok x r2 → ∃ p, r = p ++ r2 ∧ 1 ≤ p.length ∧ bal p = 0
  | 0, r, x, r2, h => nomatch h
  | n + 1, r, x, r2, h => by
    have es := seg_aft r
    have eb := bal_free _ (seg_free r)
    unfold noteP at h
    split at h
    · cases h
    · rename_i l w hh
      have h1 := headP_pos hh
      split at h
      · rename_i ha
        cases h
        rw [ha] at es
        exact ⟨seg r, es.symm, h1, eb⟩
      · rename_i c r3 ha
        rw [ha] at es
        split at h
        · rename_i hc
          subst hc
          split at h
          · rename_i r4 hc4
            cases h
            have := clo_some hc4
            subst this
            exact ⟨seg r ++ [40, 41], by rw [List.append_assoc]; exact es.symm, by simp, by rw [bal_app, eb]; simp [bal, stp]⟩
          · obtain ⟨q, f1, f2, f3⟩ := inP_suf (noteP_suf n) _ _ _ _ _ h
            refine ⟨seg r ++ 40 :: q, ?_, by simp; omega, by rw [bal_app, eb]; simp [bal, stp, f3]⟩
            rw [f1] at es
            rw [List.append_assoc]
            exact es.symm
        · cases h
          exact ⟨seg r, es.symm, h1, eb⟩
theorem inP_deep {P : List Nat → Pr} (m : Int) (hP : ∀ r x r2, P r = .ok x r2 → ∃ p, r = p ++ r2 ∧ 1 ≤ p.length ∧ bal p = 0) (hD : ∀ r, hi m r → P r ≠ .deep) {l w : List Nat} : ∀ (k : Nat) (done : List D) (r : List Nat), hi m r → r.length < k → inP P l w k done r ≠ .deep
  | 0, done, r, _, h => by omega
  | k + 1, done, r, hm, hk => by
    unfold inP
    have hd := hD r hm
    split
    · rename_i y r1 hy
      obtain ⟨p, e1, e2, e3⟩ := hP _ _ _ hy
      subst e1
      have h2 := hi_app p hm
      rw [e3] at h2
      split
      · intro h; cases h
      · rename_i c r3
        split
        · intro h; cases h
        · split
          · rename_i hc
            subst hc
            have h3 := h2.2
            simp [stp] at h3
            exact inP_deep m hP hD k _ _ h3 (by simp at hk; omega)
          · intro h; cases h
    · intro h; cases h
    · rename_i hy
      exact absurd hy hd
theorem noteP_deep : ∀ (n : Nat) (r : List Nat), hi (n : Int) r → noteP (n + 1) r ≠ .deep
  | n, r, h => by
    have es := seg_aft r
    have eb := bal_free _ (seg_free r)
    rw [← es] at h
    have h2 := hi_app _ h
    rw [eb] at h2
    unfold noteP
    split
    · intro h; cases h
    · split
      · intro h; cases h
      · rename_i c r3 ha
        rw [ha] at h2
        split
        · rename_i hc
          subst hc
          split
          · intro h; cases h
          · have h3 := h2.2
            simp [stp] at h3
            have h4 := hi_nn h3
            obtain ⟨k, rfl⟩ : ∃ k, n = k + 1 := ⟨n - 1, by omega⟩
            rw [show ((k + 1 : Nat) : Int) - 1 = (k : Int) by omega] at h3
            exact inP_deep (k : Int) (noteP_suf (k + 1)) (fun r hr => noteP_deep k r hr) _ _ _ h3 (by omega)
        · intro h; cases h
end Law

/-! GPb: the program reads as the plain function. -/
namespace Law
open PySem L2 Gs
def nono : Ex := ⟨"NoNote", []⟩
def SimP (N : List D → Sto → R D) (P : List Nat → Pr) (T : List Nat) : Prop := ∀ (r pre : List Nat) (a : Nat) (s : Sto), T = pre ++ r → pre.length = a →
  (∀ x r2, P r = .ok x r2 → ∃ g, N [.str (St T), .int (a : Int)] s = .ok (.tup [x, .int ((T.length - r2.length : Nat) : Int)]) (s ++ g)) ∧
  (P r = .no → ∃ g, N [.str (St T), .int (a : Int)] s = .exc nono (s ++ g))
def Suf (P : List Nat → Pr) : Prop := ∀ r x r2, P r = .ok x r2 → ∃ p, r = p ++ r2 ∧ 1 ≤ p.length ∧ bal p = 0
/-- what the loop over the inner notes comes to -/
theorem in_sim {N : List D → Sto → R D} {P : List Nat → Pr} {T : List Nat} (hT : T.length ≤ 90000) (hN : SimP N P T) (hP : Suf P) (l w : List Nat) (s0 : Sto) :
    ∀ (k : Nat) (done : List D) (r pre : List Nat) (a n : Nat) (y : Option D) (g : Sto), T = pre ++ r → pre.length = a → done.length + r.length ≤ 90000 → k < n →
    (∀ x r2, inP P l w k done r = .ok x r2 → ∃ g', whileD (T_note_at_0 N) (L_note_at_0 N) n [some (.str (St T)), some (.int (a : Int)), some (.str (St l)), some (.str (St w)), some (.ob s0.length), y] (s0 ++ .lst done :: g) =
      .rt (.tup [x, .int ((T.length - r2.length : Nat) : Int)]) (s0 ++ g')) ∧
    (inP P l w k done r = .no → ∃ δ' g', whileD (T_note_at_0 N) (L_note_at_0 N) n [some (.str (St T)), some (.int (a : Int)), some (.str (St l)), some (.str (St w)), some (.ob s0.length), y] (s0 ++ .lst done :: g) =
      .exc nono δ' (s0 ++ g'))
  | 0, done, r, pre, a, n, y, g, e, ha, hd, hn => ⟨fun x r2 h => (nomatch h), fun h => nomatch h⟩
  | k + 1, done, r, pre, a, 0, y, g, e, ha, hd, hn => by omega
  | k + 1, done, r, pre, a, n + 1, y, g, e, ha, hd, hn => by
    have hl9 : T.length ≤ sizeLine := small_line (by omega)
    have l2 : done.length < sizeLine := small_line (n := done.length + 1) (by omega)
    have hc : T_note_at_0 N [some (.str (St T)), some (.int (a : Int)), some (.str (St l)), some (.str (St w)), some (.ob s0.length), y] (s0 ++ .lst done :: g) = .ok true (s0 ++ .lst done :: g) := by simp [T_note_at_0]
    obtain ⟨h1, h2⟩ := hN r pre a (s0 ++ .lst done :: g) e ha
    unfold inP
    cases hp : P r with
    | deep => exact ⟨fun x r2 h => (nomatch h), fun h => nomatch h⟩
    | no =>
      obtain ⟨g1, e1⟩ := h2 hp
      refine ⟨fun x r2 h => (nomatch h), fun _ => ?_⟩
      have hbd : ∃ δ', L_note_at_0 N [some (.str (St T)), some (.int (a : Int)), some (.str (St l)), some (.str (St w)), some (.ob s0.length), y] (s0 ++ .lst done :: g) = .exc nono δ' (s0 ++ .lst done :: (g ++ g1)) := by
        simp at e1
        exact ⟨_, by simp [L_note_at_0, e1]; first | rfl | exact ⟨rfl, rfl⟩⟩
      obtain ⟨δ', hbd⟩ := hbd
      exact ⟨δ', .lst done :: (g ++ g1), by simp only [whileD, hc, hbd]⟩
    | ok x r2 =>
      obtain ⟨g1, e1⟩ := h1 x r2 hp
      obtain ⟨p, f1, f2, f3⟩ := hP _ _ _ hp
      have hTl : T.length = a + p.length + r2.length := by rw [e, f1]; simp; omega
      obtain ⟨b, hb⟩ : ∃ b, T.length - r2.length = b := ⟨_, rfl⟩
      have hb2 : a + p.length = b := by omega
      have hTb : T = (pre ++ p) ++ r2 := by rw [e, f1]; simp
      have hpb : (pre ++ p).length = b := by simp; omega
      rw [hb] at e1
      have c0 : cutL T (some (b : Int)) (some ((b : Int) + 1)) = r2.take 1 := by rw [cut_one, hTb, List.drop_left' hpb]
      simp at e1
      have hfail : (r2.take 1 ≠ [41]) → (r2.take 1 ≠ [44]) → ∃ δ' g', whileD (T_note_at_0 N) (L_note_at_0 N) (n + 1) [some (.str (St T)), some (.int (a : Int)), some (.str (St l)), some (.str (St w)), some (.ob s0.length), y] (s0 ++ .lst done :: g) = .exc nono δ' (s0 ++ g') := fun q1 q2 => by
        have hbd : ∃ δ', L_note_at_0 N [some (.str (St T)), some (.int (a : Int)), some (.str (St l)), some (.str (St w)), some (.ob s0.length), y] (s0 ++ .lst done :: g) = .exc nono δ' (s0 ++ .lst (done ++ [x]) :: (g ++ g1)) := by
          exact ⟨_, by simp [L_note_at_0, e1, hl9, c0, l2, St_eq, q1, q2]; first | rfl | exact ⟨rfl, rfl⟩⟩
        obtain ⟨δ', hbd⟩ := hbd
        exact ⟨δ', .lst (done ++ [x]) :: (g ++ g1), by simp only [whileD, hc, hbd]⟩
      simp only []
      cases r2 with
      | nil => exact ⟨fun x r2 h => (nomatch h), fun _ => hfail (by simp) (by simp)⟩
      | cons c r3 =>
        by_cases hc1 : c = 41
        · subst hc1
          simp only [if_pos]
          refine ⟨fun x' r' h => ?_, fun h => nomatch h⟩
          cases h
          have hbd : L_note_at_0 N [some (.str (St T)), some (.int (a : Int)), some (.str (St l)), some (.str (St w)), some (.ob s0.length), y] (s0 ++ .lst done :: g) = .rt (.tup [nt l w (.tup (done ++ [x])), .int ((b + 1 : Nat) : Int)]) (s0 ++ .gone :: (g ++ g1)) := by
            simp [L_note_at_0, e1, hl9, c0, l2, St_eq, nt]
          refine ⟨.gone :: (g ++ g1), ?_⟩
          rw [show T.length - r3.length = b + 1 by simp at hTl; omega]
          simp only [whileD, hc, hbd]
        · simp only [if_neg hc1]
          by_cases hc2 : c = 44
          · subst hc2
            simp only [if_pos]
            have hbd : L_note_at_0 N [some (.str (St T)), some (.int (a : Int)), some (.str (St l)), some (.str (St w)), some (.ob s0.length), y] (s0 ++ .lst done :: g) = .nx [some (.str (St T)), some (.int ((b + 1 : Nat) : Int)), some (.str (St l)), some (.str (St w)), some (.ob s0.length), some x] (s0 ++ .lst (done ++ [x]) :: (g ++ g1)) := by
              simp [L_note_at_0, e1, hl9, c0, l2, St_eq]
            obtain ⟨i1, i2⟩ := in_sim hT hN hP l w s0 k (done ++ [x]) r3 (pre ++ p ++ [44]) (b + 1) n (some x) (g ++ g1) (by rw [hTb]; simp) (by simp; omega) (by rw [f1] at hd; simp at hd ⊢; omega) (by omega)
            refine ⟨fun x' r' h => ?_, fun h => ?_⟩
            · obtain ⟨g', q⟩ := i1 x' r' h
              exact ⟨g', by simp only [whileD, hc, hbd, q]⟩
            · obtain ⟨δ', g', q⟩ := i2 h
              exact ⟨δ', g', by simp only [whileD, hc, hbd, q]⟩
          · simp only [if_neg hc2]
            exact ⟨fun x r2 h => (nomatch h), fun _ => hfail (by simpa using hc1) (by simpa using hc2)⟩
theorem note_sim {T : List Nat} (hT : T.length ≤ 90000) : ∀ n, SimP (S_note_at n) (noteP n) T
  | 0 => fun r pre a s e ha => ⟨fun x r2 h => (nomatch h), fun h => nomatch h⟩
  | n + 1 => fun r pre a s e ha => by
    have ih := note_sim hT n
    have hl9 : T.length ≤ sizeLine := small_line (by omega)
    have hh := head_gen hT e ha s
    have es := seg_aft r
    obtain ⟨b, hb⟩ : ∃ b, a + (seg r).length = b := ⟨_, rfl⟩
    have hTb : T = (pre ++ seg r) ++ aft r := by rw [List.append_assoc, es]; exact e
    have hpb : (pre ++ seg r).length = b := by simp; omega
    have hTl : T.length = b + (aft r).length := by
      have := congrArg List.length hTb
      rw [List.length_append, hpb] at this
      exact this
    have c0 : cutL T (some (b : Int)) (some ((b : Int) + 1)) = (aft r).take 1 := by rw [cut_one, hTb, List.drop_left' hpb]
    rw [hb] at hh
    unfold noteP
    cases hp : headP (seg r) with
    | none =>
      rw [hp] at hh
      refine ⟨fun x r2 h => (nomatch h), fun _ => ⟨[], ?_⟩⟩
      show U_note_at _ _ _ = _
      apply runG_exc
      simp only [] at hh
      simp [hh]
      first | rfl | exact ⟨rfl, rfl⟩
    | some lw =>
      obtain ⟨l, w⟩ := lw
      rw [hp] at hh
      simp only [] at hh ⊢
      have hleaf : (aft r).take 1 ≠ [40] → S_note_at (n + 1) [.str (St T), .int (a : Int)] s = .ok (.tup [nt l w .non, .int (b : Int)]) s := fun q => by
        show U_note_at _ _ _ = _
        apply runG_rt
        simp [hh, hl9, St_eq, c0, q, nt]
      cases hq : aft r with
      | nil =>
        rw [hq] at hleaf
        refine ⟨fun x r2 h => ?_, fun h => nomatch h⟩
        cases h
        refine ⟨[], ?_⟩
        rw [List.append_nil, show T.length - ([] : List Nat).length = b by rw [hq] at hTl; simpa using hTl]
        exact hleaf (by simp)
      | cons c r2 =>
        rw [hq] at hleaf c0 hTb hTl
        simp only []
        by_cases hc : c = 40
        · subst hc
          rw [if_pos rfl]
          have hT2 : T = (pre ++ seg r ++ [40]) ++ r2 := by rw [hTb]; simp
          have hp2 : (pre ++ seg r ++ [40]).length = b + 1 := by simp at hpb ⊢; omega
          have c2 := cut_one T (b + 1)
          rw [show T.drop (b + 1) = r2 by rw [hT2, List.drop_left' hp2], show ((b + 1 : Nat) : Int) = (b : Int) + 1 by omega] at c2
          simp at c0
          cases hcl : clo r2 with
          | some r3 =>
            have hr2 := clo_some hcl
            subst hr2
            simp only []
            refine ⟨fun x r' h => ?_, fun h => nomatch h⟩
            cases h
            simp at c2
            refine ⟨[.lst []], ?_⟩
            rw [show T.length - r3.length = b + 2 by simp at hTl; omega]
            show U_note_at _ _ _ = _
            apply runG_rt
            simp [hh, hl9, St_eq, c0, c2, nt]
            omega
          | none =>
            have c3 : r2.take 1 ≠ [41] := fun q => by
              cases r2 with
              | nil => simp at q
              | cons d r3 =>
                simp at q
                subst q
                simp [clo] at hcl
            simp only []
            obtain ⟨i1, i2⟩ := in_sim hT ih (noteP_suf n) l w s (r2.length + 1) [] r2 (pre ++ seg r ++ [40]) (b + 1) fuel none [] hT2 hp2 (by simp at hTl ⊢; omega) (by simp at hTl; unfold fuel; omega)
            refine ⟨fun x r' h => ?_, fun h => ?_⟩
            · obtain ⟨g', q⟩ := i1 x r' h
              refine ⟨g', ?_⟩
              show U_note_at _ _ _ = _
              apply runG_rt
              simp at q
              simp [hh, hl9, St_eq, c0, c2, c3, q]
            · obtain ⟨δ', g', q⟩ := i2 h
              refine ⟨g', ?_⟩
              show U_note_at _ _ _ = _
              refine runG_exc (δ := δ') ?_
              simp at q
              simp [hh, hl9, St_eq, c0, c2, c3, q]
        · rw [if_neg hc]
          refine ⟨fun x r' h => ?_, fun h => nomatch h⟩
          cases h
          refine ⟨[], ?_⟩
          rw [List.append_nil, show T.length - (c :: r2).length = b by simp at hTl ⊢; omega]
          exact hleaf (by simpa using hc)
end Law

/-! GPc: the bounds, and a note read, of any text. -/
namespace Law
open PySem L2 Gs
theorem hi_mono {m k : Int} (h : m ≤ k) : ∀ {r : List Nat}, hi m r → hi k r
  | [], q => by have : (0 : Int) ≤ m := q; show (0 : Int) ≤ k; omega
  | c :: r, q => ⟨by have := q.1; omega, hi_mono (by omega) q.2⟩
theorem bst_hi : ∀ (l : List Nat) (o m : Int), o ≤ m → ((l.foldl bst (o, m)).2 ≤ 6 ↔ m ≤ 6 ∧ hi (6 - o) l)
  | [], o, m, h => by
    show m ≤ 6 ↔ m ≤ 6 ∧ (0 : Int) ≤ 6 - o
    omega
  | c :: l, o, m, h => by
    rw [List.foldl_cons]
    have e : hi (6 - o) (c :: l) = (0 ≤ 6 - o ∧ hi (6 - o - stp c) l) := rfl
    rw [e]
    by_cases h1 : c = 40
    · subst h1
      have ih := bst_hi l (o + 1) (if o + 1 > m then o + 1 else m) (by split <;> omega)
      have e2 : bst (o, m) 40 = (o + 1, if o + 1 > m then o + 1 else m) := rfl
      rw [e2, ih, show 6 - o - stp 40 = 6 - (o + 1) by simp [stp]; omega]
      constructor
      · rintro ⟨a, b⟩
        split at a <;> exact ⟨by omega, by omega, b⟩
      · rintro ⟨a, _, b⟩
        have := hi_nn b
        refine ⟨?_, b⟩
        split <;> omega
    · by_cases h2 : c = 41
      · subst h2
        have ih := bst_hi l (o - 1) m (by omega)
        have e2 : bst (o, m) 41 = (o - 1, m) := rfl
        rw [e2, ih, show 6 - o - stp 41 = 6 - (o - 1) by simp [stp]; omega]
        constructor
        · rintro ⟨a, b⟩
          exact ⟨a, by omega, b⟩
        · rintro ⟨a, _, b⟩
          exact ⟨a, b⟩
      · have ih := bst_hi l o m h
        have e2 : bst (o, m) c = (o, m) := by simp [bst, h1, h2]
        rw [e2, ih, show 6 - o - stp c = 6 - o by simp [stp, h1, h2]]
        constructor
        · rintro ⟨a, b⟩
          exact ⟨a, by omega, b⟩
        · rintro ⟨a, _, b⟩
          exact ⟨a, b⟩
def crowd : Ex := ⟨"Crowded", []⟩
def Fit (t : List Nat) : Prop := hi 6 t ∧ t.length ≤ 2000
theorem bounds_gen {t : List Nat} (hl : t.length ≤ 90000) (s : Sto) : (Fit t → S_in_bounds [.str (St t)] s = .ok .non s) ∧ (¬ Fit t → S_in_bounds [.str (St t)] s = .exc crowd s) := by
  obtain ⟨y', e2⟩ := bounds_loop (some (.str (St t))) s t (0, 0) none
  have hb := bst_hi t 0 0 (by omega)
  obtain ⟨q, hq⟩ : ∃ q, t.foldl bst (0, 0) = q := ⟨_, rfl⟩
  rw [hq] at e2 hb
  have hl9 : t.length ≤ sizeLine := small_line (by omega)
  simp at e2
  have hf : Fit t ↔ q.2 ≤ 6 ∧ t.length ≤ 2000 := by
    unfold Fit
    rw [hb]
    simp
  constructor
  · intro h
    rw [hf] at h
    have g1' : ¬ (2000 : Int) < (t.length : Int) := by omega
    have g2' : ¬ 6 < q.2 := by omega
    refine runG_nx (δ := [some (.str (St t)), some (.int q.1), some (.int q.2), y']) ?_
    simp [e2, hl9, g1', g2']
  · intro h
    rw [hf] at h
    refine runG_exc (δ := [some (.str (St t)), some (.int q.1), some (.int q.2), y']) ?_
    by_cases g1 : t.length ≤ 2000
    · have g1' : ¬ (2000 : Int) < (t.length : Int) := by omega
      have g2' : 6 < q.2 := by omega
      simp [e2, hl9, g1', g2', crowd]
    · have g1' : (2000 : Int) < (t.length : Int) := by omega
      simp [e2, hl9, g1', crowd]
theorem read_crowd {t : List Nat} (hl : t.length ≤ 90000) (h : ¬ Fit t) (s : Sto) : S_read_note [.str (St t)] s = .exc crowd s := by
  have e1 := (bounds_gen hl s).2 h
  apply runG_exc
  simp [e1]
  first | rfl | exact ⟨rfl, rfl⟩
theorem fit_deep {t : List Nat} (h : Fit t) : noteP 70 t ≠ .deep := noteP_deep 69 t (hi_mono (by decide) h.1)
theorem read_ok {t : List Nat} (hl : t.length ≤ 90000) (h : Fit t) {x : D} (hp : noteP 70 t = .ok x []) (s : Sto) : ∃ g, S_read_note [.str (St t)] s = .ok x (s ++ g) := by
  have hl9 : t.length ≤ sizeLine := small_line (by omega)
  have e1 := (bounds_gen hl s).1 h
  obtain ⟨g, e2⟩ := (note_sim hl 70 t [] 0 s rfl rfl).1 x [] hp
  have e3 : S_note_at 70 [.str (St t), .int 0] s = .ok (.tup [x, .int (t.length : Int)]) (s ++ g) := e2
  refine ⟨g, ?_⟩
  apply runG_rt
  simp [e1, e3, hl9]
theorem read_no {t : List Nat} (hl : t.length ≤ 90000) (h : Fit t) (hp : ∀ x, noteP 70 t ≠ .ok x []) (s : Sto) : ∃ g, S_read_note [.str (St t)] s = .exc nono (s ++ g) := by
  have hl9 : t.length ≤ sizeLine := small_line (by omega)
  have e1 := (bounds_gen hl s).1 h
  have hs := note_sim hl 70 t [] 0 s rfl rfl
  cases hq : noteP 70 t with
  | deep => exact absurd hq (fit_deep h)
  | no =>
    obtain ⟨g, e2⟩ := hs.2 hq
    have e3 : S_note_at 70 [.str (St t), .int 0] s = .exc nono (s ++ g) := e2
    refine ⟨g, ?_⟩
    apply runG_exc
    simp [e1, e3, hl9]
    first | rfl | exact ⟨rfl, rfl⟩
  | ok x r2 =>
    obtain ⟨g, e2⟩ := hs.1 x r2 hq
    have e3 : S_note_at 70 [.str (St t), .int 0] s = .ok (.tup [x, .int ((t.length - r2.length : Nat) : Int)]) (s ++ g) := e2
    have hr : r2 ≠ [] := fun z => by
      subst z
      exact hp x hq
    have hrl : 0 < r2.length := List.length_pos_iff.mpr hr
    obtain ⟨p, f1, _, _⟩ := noteP_suf _ _ _ _ hq
    have hl2 : t.length = p.length + r2.length := by rw [f1]; simp
    obtain ⟨b, hb⟩ : ∃ b, t.length - r2.length = b := ⟨_, rfl⟩
    rw [hb] at e3
    have hne : ¬ (b : Int) = (t.length : Int) := by omega
    refine ⟨g, ?_⟩
    apply runG_exc
    simp [e1, e3, hl9, hne, nono]
    first | rfl | exact ⟨rfl, rfl⟩
theorem read_other {d : D} {n : String} (h : tyN d = some n) (hn : isTy n "str" = false) (s : Sto) (hr : rsv s d = d) : S_read_note [d] s = .exc nono s := by
  apply runG_exc
  simp [hr, h, hn, nono]
  first | rfl | exact ⟨rfl, rfl⟩
end Law

/-! VNw: notes, shown; the bounds. -/
namespace Law
open PySem L2 Gs
/-- a function that shows notes -/
def Shw (N : List D → Sto → R D) (q : D × List Nat) : Prop := ∀ s, N [q.1] s = .ok (.str (St q.2)) s
theorem show_in {N : List D → Sto → R D} {ps : List (D × List Nat)} {δ : Sl} (s : Sto) (h : ∀ p ∈ ps, Shw N p) (hd : δ.length = 3) : lcD (.nm 2) tTrue (eCall N (aCons (eV 2) aNil)) δ (ps.map (·.1)) s = .ok (ps.map fun p => .str (St p.2)) s :=
  lcD_mapL _ _ _ fun p hp => ⟨_, by simp; rfl, by simp, by
    have e := h p hp s
    simp [hd, e]⟩
theorem show_val : ∀ (d : Nat) (x : D) (t : List Nat), Nx d x t → t.length ≤ 90000 → ∀ m, Shw (S_show_note (m + d + 1)) (x, t) := by
  have leaf : ∀ (k : Nat) (lab w : List Nat), LabOk lab → isW w = true → Shw (S_show_note (k + 1)) (nt lab w .non, hd lab w) := by
    intro k lab w hl hw
    have h1 := isW_all hw
    have h2 := hl.all
    have l1 : lab.length + 1 ≤ sizeLine := small_line (by omega)
    have l2 : lab.length + 1 + w.length ≤ sizeLine := small_line (by omega)
    intro s
    show U_show_note _ _ _ = _
    apply runG_rt
    by_cases hz : lab = []
    · subst hz
      simp [nt, hd, St_eq]
    · simp [nt, hd, St_eq, hz, l1, l2]
  intro d
  induction d with
  | zero =>
    intro x t h ht m
    obtain ⟨lab, w, hl, hw, ex, et⟩ := h
    subst ex; subst et
    exact leaf _ lab w hl hw
  | succ d ih =>
    intro x t h ht m
    obtain ⟨lab, w, hl, hw, ⟨ex, et⟩ | ⟨ps, hp, hps, ex, et⟩⟩ := h
    · subst ex; subst et
      exact leaf _ lab w hl hw
    · have h1 := isW_all hw
      have h2 := hl.all
      have hh := hd_len hl hw
      have tl : t.length = (hd lab w).length + (TL.joinL [44] (ps.map (·.2))).length + 2 := by rw [et]; simp; omega
      have l1 : lab.length + 1 ≤ sizeLine := small_line (by omega)
      have l2 : lab.length + 1 + w.length ≤ sizeLine := small_line (by omega)
      have l3 : w.length + 1 ≤ sizeLine := small_line (by omega)
      have l6 : ps.length ≤ sizeLine := small_line (by omega)
      have jl := (joinL_le (ps.map (·.2))).1
      have e1 : ∀ p ∈ ps, Shw (S_show_note (m + d + 1)) p := fun p hp => ih p.1 p.2 (hps p hp) (by have := jl p.2 (List.mem_map_of_mem hp); omega) m
      have e2 := fun δ s hδ => show_in (δ := δ) s e1 hδ
      have e3 := gJoin_val (ps.map (·.2)) (by omega)
      rw [List.map_map] at e3
      have e4 : (ps.map ((fun t => D.str (St t)) ∘ fun x => x.2)) = ps.map fun p => D.str (St p.2) := rfl
      rw [e4] at e3
      obtain ⟨J, hJ⟩ : ∃ J, TL.joinL [44] (ps.map (·.2)) = J := ⟨_, rfl⟩
      rw [hJ] at e3 et tl
      have e5 : ∀ y s, lcD (.nm 2) tTrue (eCall (S_show_note (m + (d + 1))) (aCons (eV 2) aNil)) [some (nt lab w (.tup (ps.map (·.1)))), y, none] (ps.map (·.1)) s = .ok (ps.map fun p => .str (St p.2)) s := fun y s => e2 _ s rfl
      simp only [nt] at e5
      clear e2 e1 jl ih leaf
      subst ex
      intro s
      show U_show_note _ _ _ = _
      apply runG_rt
      rw [et]
      by_cases hz : lab = []
      · subst hz
        have hw0 : hd [] w = w := rfl
        rw [hw0] at *
        have l7 : w.length + (J.length + 1) + 1 ≤ sizeLine := small_line (by omega)
        have l8 : w.length + 1 + J.length ≤ sizeLine := small_line (by omega)
        simp [nt, St_eq, wipeD, e5, e3, l3, l6, l7, l8]
      · have hw0 : hd lab w = lab ++ 58 :: w := by simp [hd, hz]
        have hw1 : (hd lab w).length = lab.length + w.length + 1 := by rw [hw0]; simp; omega
        have l7 : lab.length + (w.length + 1) + 1 ≤ sizeLine := small_line (by omega)
        have l8 : lab.length + (w.length + 1 + 1) + J.length ≤ sizeLine := small_line (by omega)
        have l9 : lab.length + (w.length + (J.length + 1) + 1) + 1 ≤ sizeLine := small_line (by omega)
        simp [nt, St_eq, wipeD, e5, e3, l1, l2, l6, l7, l8, l9, hz, hw0]
end Law

/-! GNx: whole numbers as texts. -/
namespace Law
open PySem L2 Gs
def nT (i : Int) : List Nat := if i < 0 then 45 :: TL.numL i.natAbs else TL.numL i.natAbs
theorem of_num (i : Int) : Str.ofString (toString i) = St (nT i) := by
  refine TL.ext_tl ?_
  show TL.tl (Str.ofString (toString i)) = nT i
  cases i with
  | ofNat n =>
    have e : nT (Int.ofNat n) = TL.numL n := by
      unfold nT
      rw [if_neg (by simp)]
      rfl
    rw [e]
    exact TL.tl_num n
  | negSucc n =>
    have e : nT (Int.negSucc n) = 45 :: TL.numL (n + 1) := by
      unfold nT
      rw [if_pos (by omega)]
      rfl
    have e2 : toString (Int.negSucc n) = "-" ++ toString (n + 1) := rfl
    have e3 := TL.tl_num (n + 1)
    have e4 : toString ((n + 1 : Nat) : Int) = toString (n + 1) := rfl
    rw [e4, TL.tl_ofString] at e3
    rw [e, e2, TL.tl_ofString, String.toList_append, List.map_append, e3]
    rfl
theorem numL_head {n : Nat} (h : 0 < n) : ∃ c r, TL.numL n = c :: r ∧ c ≠ 48 := by
  induction n using Nat.strongRecOn with
  | _ n ih =>
    by_cases h10 : n < 10
    · exact ⟨48 + n, [], TL.numL_lt h10, by omega⟩
    · obtain ⟨c, r, e, hc⟩ := ih (n / 10) (by omega) (by omega)
      exact ⟨c, r ++ [48 + n % 10], by rw [TL.numL_step (by omega), e]; rfl, hc⟩
theorem starts_dash (c : Nat) (r : List Nat) : Txt.startswith (St (c :: r)) (St [45]) = decide (c = 45) := by
  unfold Txt.startswith
  rw [PySem.StrLaws.subAt_eq]
  simp
  by_cases h : c = 45 <;> simp [h]
theorem nT_len {i : Int} (h : i.natAbs < 10 ^ 60) : (nT i).length ≤ 61 ∧ 1 ≤ (nT i).length := by
  have h1 := TL.numL_len (k := 60) (by decide) h
  have h2 := List.length_pos_iff.mpr (TL.numL_ne i.natAbs)
  unfold nT
  split
  · simp only [List.length_cons]; omega
  · omega
theorem figs_of {c : Nat} (h : 48 ≤ c ∧ c ≤ 57) : c ∈ figs := by
  unfold figs
  simp
  exact ⟨c - 48, by omega, by omega⟩
theorem nT_sig {i : Int} : ∀ c ∈ nT i, c ∈ wsig := by
  intro c hc
  have hd : ∀ c ∈ TL.numL i.natAbs, c ∈ wsig := fun c hc => by
    have := figs_of (TL.numL_digits _ c hc)
    simp [wsig, this]
  unfold nT at hc
  split at hc
  · rcases List.mem_cons.mp hc with h | h
    · subst h; decide
    · exact hd c h
  · exact hd c hc
theorem nT_word {i : Int} (h : i.natAbs < 10 ^ 60) : isW (nT i) = true := by
  have := nT_len h
  unfold isW
  rw [Bool.and_eq_true, decide_eq_true_eq, List.all_eq_true]
  exact ⟨⟨by omega, by omega⟩, fun c hc => decide_eq_true (nT_sig c hc)⟩
theorem fig_val {i : Int} (h : i.natAbs < 10 ^ 60) (s : Sto) : S_is_figures [.str (St (nT i))] s = .ok (.bl true) s := by
  have hN := TL.numL_len (k := 60) (by decide) h
  obtain ⟨f, hf⟩ : ∃ f, TL.numL i.natAbs = f := ⟨_, rfl⟩
  have hdig : ∀ c ∈ f, decide (c ∈ figs) = true := fun c hc => decide_eq_true (figs_of (TL.numL_digits _ c (by rw [hf]; exact hc)))
  have hne : f ≠ [] := by rw [← hf]; exact TL.numL_ne _
  rw [hf] at hN
  have hl : f.length ≤ sizeLine := small_line (by omega)
  have h1 : (1 : Int) ≤ (f.length : Int) := by have := List.length_pos_iff.mpr hne; omega
  have h2 : (f.length : Int) ≤ 60 := by omega
  have e := fun a s => lc_signs f 2 (eBin gIn (eV 2) (eC (.str (St figs)))) [a, some (.str (St f)), none] s (fun c => decide (c ∈ figs)) (fun c => by simp)
  have g := gAll_map f (fun c => decide (c ∈ figs))
  have hall : f.all (fun c => decide (c ∈ figs)) = true := List.all_eq_true.mpr hdig
  rw [hall] at g
  have c0 : Str.ofString "0" = St [48] := of_St (by decide +kernel)
  apply runG_rt
  by_cases hneg : i < 0
  · have et : nT i = 45 :: f := by unfold nT; rw [if_pos hneg, hf]
    obtain ⟨c, r, ec, hc⟩ := numL_head (n := i.natAbs) (by omega)
    rw [hf] at ec
    have e0 : gIx (.str (St f)) (.int 0) = some (.str (St [c])) := at_St (j := 0) hl (by rw [ec]; rfl)
    have e1 : cutL (45 :: f) (some 1) none = f := cutL_lo (45 :: f) 1
    have hl2 : (45 :: f).length ≤ sizeLine := small_line (by simp; omega)
    simp at hl2
    have hl3 : f.length < sizeLine := by omega
    rw [et]
    simp [gStarts, starts_dash, hl2, hl3, e1, wipeD, e, g, hl, decide_eq_true h1, decide_eq_true h2, e0, c0, St_eq, hc, -decide_eq_true_eq]
  · have et : nT i = f := by unfold nT; rw [if_neg hneg, hf]
    obtain ⟨c, r, ec⟩ : ∃ c r, f = c :: r := List.exists_cons_of_ne_nil hne
    have hc45 : ¬ c = 45 := fun z => by
      have := TL.numL_digits i.natAbs c (by rw [hf, ec]; simp)
      omega
    have hs : Txt.startswith (St f) (St [45]) = false := by rw [ec, starts_dash]; exact decide_eq_false hc45
    have e0 : gIx (.str (St f)) (.int 0) = some (.str (St [c])) := at_St (j := 0) hl (by rw [ec]; rfl)
    rw [et]
    by_cases hz : c = 48
    · have hz0 : f = [48] := by
        by_cases hp : 0 < i.natAbs
        · obtain ⟨c', r', ec', hc'⟩ := numL_head hp
          rw [hf, ec] at ec'
          cases ec'
          exact absurd hz hc'
        · have : i.natAbs = 0 := by omega
          rw [this] at hf
          rw [← hf]
          exact TL.numL_lt (by decide)
      subst hz
      subst hz0
      simp only [List.map_cons, List.map_nil] at e g
      simp [gStarts, hs, wipeD, e, g, e0, c0, St_eq]
    · simp [gStarts, hs, wipeD, e, g, hl, decide_eq_true h1, decide_eq_true h2, e0, c0, St_eq, hz, -decide_eq_true_eq]
theorem int_val {i : Int} (h : i.natAbs < 10 ^ 60) : gInt [.str (St (nT i))] = some (.int i) := by
  have hN := TL.numL_len (k := 60) (by decide) h
  have hl := nT_len h
  have hl2 : (St (nT i)).length ≤ 640 := by simp; omega
  have ei : intText? (St (nT i)) = some i := by
    by_cases hneg : i < 0
    · have et : nT i = 45 :: TL.numL i.natAbs := by unfold nT; rw [if_pos hneg]
      have := PySem.intText_neg (x := St (nT i)) (cs := TL.numL i.natAbs) (by simp [et]) (TL.numL_digits _) (TL.numL_ne _) (by simp; omega)
      rw [this, TL.numL_val]
      congr 1
      omega
    · have et : nT i = TL.numL i.natAbs := by unfold nT; rw [if_neg hneg]
      have := PySem.intText_digits (x := St (nT i)) (by simp [et]; exact TL.numL_digits _) (by simp [et]; exact TL.numL_ne _) (by simp; omega)
      rw [this]
      simp only [St_tl]
      rw [et, TL.numL_val]
      congr 1
      omega
  simp only [gInt, ei]
  rw [if_pos hl2]
theorem str_val {i : Int} (h : i.natAbs < 10 ^ 60) : gStr [.int i] = some (.str (St (nT i))) := by
  have hs : i.natAbs.log2 < 1920 := by
    by_cases hz : i.natAbs = 0
    · rw [hz]; decide
    · have h1 : i.natAbs < 2 ^ 200 := Nat.lt_trans h (by decide)
      have := (Nat.log2_lt hz).mpr h1
      omega
  simp only [gStr]
  rw [if_pos hs, of_num]
end Law

/-! GFg: texts that write whole numbers, of any form. -/
namespace Law
open PySem L2 Gs
/-- the figures of a text: what stands behind a dash, or all -/
def figP (l : List Nat) : List Nat := match l with
  | 45 :: f => f
  | l => l
def isF (l : List Nat) : Bool := decide (1 ≤ (figP l).length ∧ (figP l).length ≤ 60) && (figP l).all (fun c => decide (c ∈ figs)) && (decide ((figP l).head? ≠ some 48) || decide (l = [48]))
theorem c_zero : Str.ofString "0" = St [48] := of_St (by decide +kernel)
theorem starts_nil : Txt.startswith (St []) (St [45]) = false := by
  unfold Txt.startswith
  rw [PySem.StrLaws.subAt_eq]
  simp
theorem starts_dash2 (l : List Nat) : Txt.startswith (St l) (St [45]) = decide (l.head? = some 45) := by
  cases l with
  | nil => rw [starts_nil]; simp
  | cons c r => rw [starts_dash]; simp
theorem figP_dash {l : List Nat} (h : l.head? = some 45) : figP l = l.tail ∧ l = 45 :: l.tail := by
  cases l with
  | nil => simp at h
  | cons c r =>
    simp at h
    subst h
    exact ⟨rfl, rfl⟩
theorem figP_no {l : List Nat} (h : l.head? ≠ some 45) : figP l = l := by
  cases l with
  | nil => rfl
  | cons c r =>
    simp at h
    unfold figP
    split
    · rename_i e
      cases e
      exact absurd rfl h
    · rfl
theorem fig_gen (l : List Nat) (hl : l.length ≤ 90000) (s : Sto) : S_is_figures [.str (St l)] s = .ok (.bl (isF l)) s := by
  have key : ∀ f, figP l = f → f.length ≤ 90000 → S_is_figures [.str (St l)] s = .ok (.bl (isF l)) s := fun f hf hfl => by
    have h9 : f.length ≤ sizeLine := small_line (by omega)
    have h8 : l.length ≤ sizeLine := small_line (by omega)
    have e := fun a s => lc_signs f 2 (eBin gIn (eV 2) (eC (.str (St figs)))) [a, some (.str (St f)), none] s (fun c => decide (c ∈ figs)) (fun c => by simp)
    have g := gAll_map f (fun c => decide (c ∈ figs))
    have hz : isF l = (decide (1 ≤ f.length ∧ f.length ≤ 60) && f.all (fun c => decide (c ∈ figs)) && (decide (f.head? ≠ some 48) || decide (l = [48]))) := by unfold isF; rw [hf]
    obtain ⟨b, hb⟩ : ∃ b, f.all (fun c => decide (c ∈ figs)) = b := ⟨_, rfl⟩
    rw [hb] at g hz
    apply runG_rt
    have lastF : ∀ (c : Nat) (r : List Nat), f = c :: r → gIx (.str (St f)) (.int 0) = some (.str (St [c])) := fun c r ec => at_St (j := 0) h9 (by rw [ec]; rfl)
    by_cases hd : l.head? = some 45
    · have hst : Txt.startswith (St l) (St [45]) = true := by rw [starts_dash2]; exact decide_eq_true hd
      obtain ⟨f1, f2⟩ := figP_dash hd
      rw [hf] at f1
      have e1 : cutL l (some 1) none = f := by rw [f1, f2]; exact cutL_lo (45 :: l.tail) 1
      by_cases h1 : 1 ≤ f.length
      · by_cases h2 : f.length ≤ 60
        · have k1 : (1 : Int) ≤ (f.length : Int) := by omega
          have k2 : (f.length : Int) ≤ 60 := by omega
          cases b with
          | false => simp [gStarts, hst, h8, h9, e1, wipeD, e, g, decide_eq_true k1, decide_eq_true k2, hz, -decide_eq_true_eq]
          | true =>
            obtain ⟨c, r, ec⟩ : ∃ c r, f = c :: r := List.exists_cons_of_ne_nil (by intro z; rw [z] at h1; simp at h1)
            have e0 := lastF c r ec
            have hhd : f.head? = some c := by rw [ec]; rfl
            by_cases hc : c = 48
            · subst hc
              simp [gStarts, hst, h8, h9, e1, wipeD, e, g, decide_eq_true k1, decide_eq_true k2, hz, e0, c_zero, St_eq, hhd, h1, h2, -decide_eq_true_eq]
            · simp [gStarts, hst, h8, h9, e1, wipeD, e, g, decide_eq_true k1, decide_eq_true k2, hz, e0, c_zero, St_eq, hhd, hc, h1, h2, -decide_eq_true_eq]
        · have k1 : (1 : Int) ≤ (f.length : Int) := by omega
          have k2 : ¬ (f.length : Int) ≤ 60 := by omega
          simp [gStarts, hst, h8, h9, e1, decide_eq_true k1, decide_eq_false k2, hz, h2, -decide_eq_true_eq]
      · have k1 : ¬ (1 : Int) ≤ (f.length : Int) := by omega
        simp [gStarts, hst, h8, h9, e1, decide_eq_false k1, hz, h1, -decide_eq_true_eq]
    · have hst : Txt.startswith (St l) (St [45]) = false := by rw [starts_dash2]; exact decide_eq_false hd
      have f1 := figP_no hd
      rw [hf] at f1
      subst f1
      by_cases h1 : 1 ≤ f.length
      · by_cases h2 : f.length ≤ 60
        · have k1 : (1 : Int) ≤ (f.length : Int) := by omega
          have k2 : (f.length : Int) ≤ 60 := by omega
          cases b with
          | false => simp [gStarts, hst, h8, wipeD, e, g, decide_eq_true k1, decide_eq_true k2, hz, -decide_eq_true_eq]
          | true =>
            obtain ⟨c, r, ec⟩ : ∃ c r, f = c :: r := List.exists_cons_of_ne_nil (by intro z; rw [z] at h1; simp at h1)
            have e0 := lastF c r ec
            have hhd : f.head? = some c := by rw [ec]; rfl
            by_cases hc : c = 48
            · subst hc
              simp [gStarts, hst, h8, wipeD, e, g, decide_eq_true k1, decide_eq_true k2, hz, e0, c_zero, St_eq, hhd, h1, h2, -decide_eq_true_eq]
            · simp [gStarts, hst, h8, wipeD, e, g, decide_eq_true k1, decide_eq_true k2, hz, e0, c_zero, St_eq, hhd, hc, h1, h2, -decide_eq_true_eq]
        · have k1 : (1 : Int) ≤ (f.length : Int) := by omega
          have k2 : ¬ (f.length : Int) ≤ 60 := by omega
          simp [gStarts, hst, h8, decide_eq_true k1, decide_eq_false k2, hz, h2, -decide_eq_true_eq]
      · have k1 : ¬ (1 : Int) ≤ (f.length : Int) := by omega
        simp [gStarts, hst, h8, decide_eq_false k1, hz, h1, -decide_eq_true_eq]
  refine key (figP l) rfl ?_
  by_cases hd : l.head? = some 45
  · rw [(figP_dash hd).1]; simp; omega
  · rw [figP_no hd]; exact hl
/-! what such a text writes -/
theorem figs_lt {c : Nat} (h : c ∈ figs) : 48 ≤ c ∧ c ≤ 57 := by
  unfold figs at h
  simp at h
  omega
theorem numL_of : ∀ (n : Nat) (f : List Nat), f.length = n → f ≠ [] → (∀ c ∈ f, c ∈ figs) → f.head? ≠ some 48 → ∃ k, 0 < k ∧ f = TL.numL k := by
  intro n
  induction n using Nat.strongRecOn with
  | _ n ih =>
    intro f hn hne hf hh
    obtain ⟨g, c, rfl⟩ : ∃ g c, f = g ++ [c] := ⟨f.dropLast, f.getLast hne, (List.dropLast_concat_getLast hne).symm⟩
    have hc := figs_lt (hf c (by simp))
    cases g with
    | nil =>
      simp at hh
      refine ⟨c - 48, by omega, ?_⟩
      rw [TL.numL_lt (by omega)]
      simp
      omega
    | cons x g =>
      obtain ⟨k, hk, e⟩ := ih (x :: g).length (by rw [← hn]; simp) (x :: g) rfl (by simp) (fun c hc => hf c (by simp at hc ⊢; rcases hc with hc | hc <;> simp [hc])) (by simpa using hh)
      refine ⟨k * 10 + (c - 48), by omega, ?_⟩
      rw [TL.numL_step (by omega), e, show (k * 10 + (c - 48)) / 10 = k by omega, show (k * 10 + (c - 48)) % 10 = c - 48 by omega, show 48 + (c - 48) = c by omega]
theorem numL_lt_pow {k m : Nat} (h : (TL.numL k).length ≤ m) (hm : 0 < m) : k < 10 ^ m := by
  induction m generalizing k with
  | zero => omega
  | succ m ih =>
    by_cases hk : k < 10
    · exact Nat.lt_of_lt_of_le hk (by rw [Nat.pow_succ]; have := Nat.pow_pos (n := m) (show 0 < 10 by decide); omega)
    · rw [TL.numL_step (by omega)] at h
      simp at h
      have h2 : 0 < (TL.numL (k / 10)).length := List.length_pos_iff.mpr (TL.numL_ne _)
      have := ih (k := k / 10) (by omega) (by omega)
      rw [Nat.pow_succ]
      omega
theorem isF_num {l : List Nat} (h : isF l = true) : ∃ i : Int, i.natAbs < 10 ^ 60 ∧ l = nT i := by
  unfold isF at h
  simp only [Bool.and_eq_true, Bool.or_eq_true, decide_eq_true_eq, List.all_eq_true] at h
  obtain ⟨⟨⟨h1, h2⟩, h3⟩, h4⟩ := h
  by_cases hz : l = [48]
  · exact ⟨0, by decide, by rw [hz]; decide⟩
  · have h5 := h4.resolve_right hz
    obtain ⟨k, hk, e⟩ := numL_of _ (figP l) rfl (by intro z; rw [z] at h1; simp at h1) h3 h5
    have hk2 : k < 10 ^ 60 := numL_lt_pow (by rw [← e]; exact h2) (by decide)
    by_cases hd : l.head? = some 45
    · obtain ⟨f1, f2⟩ := figP_dash hd
      refine ⟨-(k : Int), by rw [Int.natAbs_neg]; exact hk2, ?_⟩
      unfold nT
      rw [if_pos (by omega), Int.natAbs_neg, Int.natAbs_natCast, ← e, f1]
      exact f2
    · refine ⟨(k : Int), hk2, ?_⟩
      unfold nT
      rw [if_neg (by omega), Int.natAbs_natCast, ← e, figP_no hd]
theorem isF_nT {i : Int} (h : i.natAbs < 10 ^ 60) : isF (nT i) = true := by
  have e1 := fig_val h []
  have e2 := fig_gen (nT i) (by have := nT_len h; omega) []
  rw [e1] at e2
  simp only [R.ok.injEq, D.bl.injEq] at e2
  exact e2.1.symm
theorem isF_free {l : List Nat} (h : isF l = true) : ∀ c ∈ l, c ∈ wsig := by
  obtain ⟨i, hi, rfl⟩ := isF_num h
  exact nT_sig
end Law

/-! GShF: flat notes, of any signs between. -/
namespace Law
open PySem L2 Gs
/-- none of ( ) , : -/
def Pln (l : List Nat) : Prop := ∀ c ∈ l, c ∉ stops ∧ c ≠ 58
theorem takeW_app {p : Nat → Bool} : ∀ (a b : List Nat), (∀ c ∈ a, p c = true) → (a ++ b).takeWhile p = a ++ b.takeWhile p ∧ (a ++ b).dropWhile p = b.dropWhile p
  | [], b, h => ⟨rfl, rfl⟩
  | x :: a, b, h => by
    have ih := takeW_app a b (fun c hc => h c (by simp [hc]))
    have hx := h x (by simp)
    rw [List.cons_append, List.takeWhile_cons, List.dropWhile_cons, if_pos hx, if_pos hx, ih.1, ih.2]
    exact ⟨rfl, rfl⟩
theorem seg_pln {a : List Nat} (h : Pln a) (b : List Nat) (hb : EndOk b) : seg (a ++ b) = a ∧ aft (a ++ b) = b := by
  have ha : ∀ c ∈ a, fre c = true := fun c hc => by unfold fre; rw [decide_eq_false (h c hc).1]; rfl
  obtain ⟨h1, h2⟩ := takeW_app a b ha
  have hb2 : b.takeWhile fre = [] ∧ b.dropWhile fre = b := by
    rcases hb with rfl | ⟨c, r, rfl, hc⟩
    · exact ⟨rfl, rfl⟩
    · have : fre c = false := by unfold fre; rw [decide_eq_true hc]; rfl
      rw [List.takeWhile_cons, List.dropWhile_cons, this]
      exact ⟨rfl, rfl⟩
  unfold seg aft
  rw [h1, h2, hb2.1, hb2.2, List.append_nil]
  exact ⟨rfl, rfl⟩
theorem headP_pln {a : List Nat} (h : Pln a) : headP a = if isW a = true then some ([], a) else none := by
  unfold headP
  rw [if_neg (fun z => (h 58 z).2 rfl)]
theorem hi_skip {m : Int} : ∀ (a b : List Nat), (∀ c ∈ a, c ≠ 40 ∧ c ≠ 41) → hi m b → 0 ≤ m → hi m (a ++ b)
  | [], b, _, h, _ => h
  | c :: a, b, ha, h, hm => by
    have hc := ha c (by simp)
    refine ⟨hm, ?_⟩
    have : stp c = 0 := by simp [stp, hc]
    rw [this, Int.sub_zero]
    exact hi_skip a b (fun c hc => ha c (by simp [hc])) h hm
theorem pln_np {a : List Nat} (h : Pln a) : ∀ c ∈ a, c ≠ 40 ∧ c ≠ 41 := fun c hc => by
  have := (h c hc).1
  simp [stops] at this
  exact ⟨this.1, this.2.1⟩
theorem fit_flat {w m : List Nat} (hw : Pln w) (hm : ∀ c ∈ m, c ≠ 40 ∧ c ≠ 41) (hl : w.length + m.length ≤ 1990) : Fit (w ++ 40 :: (m ++ [41])) := by
  refine ⟨?_, by simp; omega⟩
  refine hi_skip _ _ (pln_np hw) ⟨by decide, ?_⟩ (by decide)
  refine hi_skip _ _ hm ?_ (by decide)
  exact ⟨by decide, show (0 : Int) ≤ _ by decide⟩
theorem one_P {w a : List Nat} (hw : Pln w) (hww : isW w = true) (ha : Pln a) (hne : a ≠ []) : noteP 70 (w ++ 40 :: (a ++ [41])) = if isW a = true then .ok (nt [] w (.tup [nt [] a .non])) [] else .no := by
  obtain ⟨s1, s2⟩ := seg_pln hw (40 :: (a ++ [41])) (.inr ⟨40, _, rfl, by decide⟩)
  obtain ⟨s3, s4⟩ := seg_pln ha [41] (.inr ⟨41, _, rfl, by decide⟩)
  obtain ⟨c, r, ec⟩ := List.exists_cons_of_ne_nil hne
  have hc : ¬ c = 41 := fun z => by have := (ha c (by rw [ec]; simp)).1; simp [stops, z] at this
  have e0 : clo (a ++ [41]) = none := by rw [ec]; show (if c = 41 then _ else none) = none; rw [if_neg hc]
  show (match headP (seg (w ++ 40 :: (a ++ [41]))) with | none => _ | some (l, w) => _) = _
  rw [s1, headP_pln hw, if_pos hww]
  simp only []
  rw [s2]
  simp only [if_true, e0]
  have e1 : noteP 69 (a ++ [41]) = if isW a = true then .ok (nt [] a .non) [41] else .no := by
    show (match headP (seg (a ++ [41])) with | none => _ | some (l, w) => _) = _
    rw [s3, headP_pln ha]
    by_cases h : isW a = true
    · rw [if_pos h, if_pos h]
      simp only []
      rw [s4]
      simp
    · rw [if_neg h, if_neg h]
  have hk : (a ++ [41]).length = a.length + 1 := by simp
  rw [hk]
  unfold inP
  rw [e1]
  by_cases h : isW a = true
  · rw [if_pos h, if_pos h]
    simp
  · rw [if_neg h, if_neg h]
theorem two_P {w a b : List Nat} (hw : Pln w) (hww : isW w = true) (ha : Pln a) (hb : Pln b) (hne : a ≠ []) : noteP 70 (w ++ 40 :: (a ++ 44 :: (b ++ [41]))) = if isW a = true ∧ isW b = true then .ok (nt [] w (.tup [nt [] a .non, nt [] b .non])) [] else .no := by
  obtain ⟨s1, s2⟩ := seg_pln hw (40 :: (a ++ 44 :: (b ++ [41]))) (.inr ⟨40, _, rfl, by decide⟩)
  obtain ⟨s3, s4⟩ := seg_pln ha (44 :: (b ++ [41])) (.inr ⟨44, _, rfl, by decide⟩)
  obtain ⟨s5, s6⟩ := seg_pln hb [41] (.inr ⟨41, _, rfl, by decide⟩)
  obtain ⟨c, r, ec⟩ := List.exists_cons_of_ne_nil hne
  have hc : ¬ c = 41 := fun z => by have := (ha c (by rw [ec]; simp)).1; simp [stops, z] at this
  have e0 : clo (a ++ 44 :: (b ++ [41])) = none := by rw [ec]; show (if c = 41 then _ else none) = none; rw [if_neg hc]
  show (match headP (seg (w ++ 40 :: (a ++ 44 :: (b ++ [41])))) with | none => _ | some (l, w) => _) = _
  rw [s1, headP_pln hw, if_pos hww]
  simp only []
  rw [s2]
  simp only [if_true, e0]
  have e1 : noteP 69 (a ++ 44 :: (b ++ [41])) = if isW a = true then .ok (nt [] a .non) (44 :: (b ++ [41])) else .no := by
    show (match headP (seg (a ++ 44 :: (b ++ [41]))) with | none => _ | some (l, w) => _) = _
    rw [s3, headP_pln ha]
    by_cases h : isW a = true
    · rw [if_pos h, if_pos h]
      simp only []
      rw [s4]
      simp
    · rw [if_neg h, if_neg h]
  have e2 : noteP 69 (b ++ [41]) = if isW b = true then .ok (nt [] b .non) [41] else .no := by
    show (match headP (seg (b ++ [41])) with | none => _ | some (l, w) => _) = _
    rw [s5, headP_pln hb]
    by_cases h : isW b = true
    · rw [if_pos h, if_pos h]
      simp only []
      rw [s6]
      simp
    · rw [if_neg h, if_neg h]
  have hk : (a ++ 44 :: (b ++ [41])).length = (a.length + b.length + 1) + 1 := by simp; omega
  rw [hk]
  unfold inP
  rw [e1]
  by_cases h : isW a = true
  · rw [if_pos h]
    simp only [h, true_and]
    simp only [show ¬ (44 : Nat) = 41 by decide, if_false, if_true]
    unfold inP
    rw [e2]
    by_cases h2 : isW b = true
    · rw [if_pos h2, if_pos h2]
      simp
    · rw [if_neg h2, if_neg h2]
  · rw [if_neg h, if_neg (fun z => h z.1)]
end Law

/-! GShV: shapes of numbers and signs, read and shown. -/
namespace Law
open PySem L2 Gs
theorem c_row : Str.ofString "row" = St [114, 111, 119] := of_St (by decide +kernel)
theorem c_pick : Str.ofString "pick" = St [112, 105, 99, 107] := of_St (by decide +kernel)
theorem c_whole : Str.ofString "whole" = St [119, 104, 111, 108, 101] := of_St (by decide +kernel)
theorem c_alike : Str.ofString "alike" = St [97, 108, 105, 107, 101] := of_St (by decide +kernel)
theorem c_text : Str.ofString "text" = St [116, 101, 120, 116] := of_St (by decide +kernel)
theorem c_use : Str.ofString "use" = St [117, 115, 101] := of_St (by decide +kernel)
theorem c_many : Str.ofString "many" = St [109, 97, 110, 121] := of_St (by decide +kernel)
theorem c_rising : Str.ofString "rising" = St [114, 105, 115, 105, 110, 103] := of_St (by decide +kernel)
theorem c_unlike : Str.ofString "unlike" = St [117, 110, 108, 105, 107, 101] := of_St (by decide +kernel)
def twice : Ex := ⟨"Twice", []⟩
def norng : Ex := ⟨"NoRange", []⟩
def kWhole : List Nat := [119, 104, 111, 108, 101]
def kText : List Nat := [116, 101, 120, 116]
theorem kWhole_ok : Pln kWhole ∧ isW kWhole = true := by
  refine ⟨?_, by decide⟩
  unfold Pln kWhole
  decide
theorem kText_ok : Pln kText ∧ isW kText = true := by
  refine ⟨?_, by decide⟩
  unfold Pln kText
  decide
theorem pword_val (a : List Nat) (s : Sto) : S_plain_word [nt [] a .non] s = .ok (.str (St a)) s := by
  apply runG_rt
  simp [nt, St_eq]
theorem pnum_ok {i : Int} (h : i.natAbs < 10 ^ 60) (s : Sto) : S_plain_number [nt [] (nT i) .non] s = .ok (.int i) s := by
  have e1 := pword_val (nT i) s
  have e2 := fig_val h s
  have e3 := int_val h
  apply runG_rt
  simp [e1, e2, e3]
theorem pnum_no {a : List Nat} (h : isF a = false) (hl : a.length ≤ 90000) (s : Sto) : S_plain_number [nt [] a .non] s = .exc nono s := by
  have e1 := pword_val a s
  have e2 := fig_gen a hl s
  rw [h] at e2
  apply runG_exc
  simp [e1, e2]
  first | rfl | exact ⟨rfl, rfl⟩
theorem sh_two (k : Nat) {a b : List Nat} (ha : a.length ≤ 90000) (hb : b.length ≤ 90000) (s : Sto) :
    (∀ i j : Int, i.natAbs < 10 ^ 60 → j.natAbs < 10 ^ 60 → a = nT i → b = nT j → S_unlabelled (k + 2) [nt [] kWhole (.tup [nt [] a .non, nt [] b .non])] s = .ok (.tup [.str (St kWhole), .int i, .int j]) s) ∧
    (isF a = false ∨ isF b = false → S_unlabelled (k + 2) [nt [] kWhole (.tup [nt [] a .non, nt [] b .non])] s = .exc nono s) := by
  have outer : ∀ r, S_shape_noted (k + 1) [nt [] kWhole (.tup [nt [] a .non, nt [] b .non])] s = r → r ≠ .stk → S_unlabelled (k + 2) [nt [] kWhole (.tup [nt [] a .non, nt [] b .non])] s = r := fun r e hr => by
    have e' : S_shape_noted (k + 1) [.tup [.str (St []), .str (St kWhole), .tup [nt [] a .non, nt [] b .non]]] s = r := e
    show U_unlabelled _ _ _ _ _ _ = r
    cases r with
    | ok d s' => apply runG_rt; simp [nt, St_eq, e']; simp [nt] at e'; simp [e']
    | exc x s' => apply runG_exc; simp [nt, St_eq, e']; simp [nt] at e'; simp [e']; first | rfl | exact ⟨rfl, rfl⟩
    | stk => exact absurd rfl hr
  constructor
  · intro i j hi hj ea eb
    subst ea; subst eb
    refine outer _ ?_ (fun z => nomatch z)
    have e1 := pnum_ok hi s
    have e2 := pnum_ok hj s
    simp only [nt] at e1 e2
    show U_shape_noted _ _ _ _ _ _ = _
    apply runG_rt
    simp [nt, St_eq, e1, e2, c_row, c_pick, c_whole, kWhole]
  · intro h
    refine outer _ ?_ (fun z => nomatch z)
    show U_shape_noted _ _ _ _ _ _ = _
    by_cases q : isF a = true
    · obtain ⟨i, hi, ea⟩ := isF_num q
      subst ea
      apply runG_exc
      have e1 := pnum_ok hi s
      have e2 := pnum_no (h.resolve_left (by rw [q]; decide)) hb s
      simp only [nt] at e1 e2
      simp [nt, St_eq, e1, e2, c_row, c_pick, c_whole, kWhole]
      first | rfl | exact ⟨rfl, rfl⟩
    · rw [Bool.not_eq_true] at q
      apply runG_exc
      have e1 := pnum_no q ha s
      simp only [nt] at e1
      simp [nt, St_eq, e1, c_row, c_pick, c_whole, kWhole]
      first | rfl | exact ⟨rfl, rfl⟩
theorem sh_one (k : Nat) {a : List Nat} (ha : a.length ≤ 90000) (s : Sto) :
    S_unlabelled (k + 2) [nt [] kText (.tup [nt [] a .non])] s = if 45 ∈ a then .exc nono s else .ok (.tup [.str (St kText), .str (St a)]) s := by
  have outer : ∀ r, S_shape_noted (k + 1) [nt [] kText (.tup [nt [] a .non])] s = r → r ≠ .stk → S_unlabelled (k + 2) [nt [] kText (.tup [nt [] a .non])] s = r := fun r e hr => by
    have e' : S_shape_noted (k + 1) [.tup [.str (St []), .str (St kText), .tup [nt [] a .non]]] s = r := e
    show U_unlabelled _ _ _ _ _ _ = r
    cases r with
    | ok d s' => apply runG_rt; simp [nt, St_eq, e']; simp [nt] at e'; simp [e']
    | exc x s' => apply runG_exc; simp [nt, St_eq, e']; simp [nt] at e'; simp [e']; first | rfl | exact ⟨rfl, rfl⟩
    | stk => exact absurd rfl hr
  have e1 := pword_val a s
  simp only [nt] at e1
  by_cases h : 45 ∈ a
  · rw [if_pos h]
    refine outer _ ?_ (fun z => nomatch z)
    have e2 : S_noted_text [.tup [nt [] a .non]] s = .exc nono s := by
      apply runG_exc
      simp [nt, e1, h]
      first | rfl | exact ⟨rfl, rfl⟩
    simp only [nt] at e2
    show U_shape_noted _ _ _ _ _ _ = _
    apply runG_exc
    simp [nt, St_eq, e2, c_row, c_pick, c_whole, c_alike, c_text, kText]
    first | rfl | exact ⟨rfl, rfl⟩
  · rw [if_neg h]
    refine outer _ ?_ (fun z => nomatch z)
    have e2 : S_noted_text [.tup [nt [] a .non]] s = .ok (.tup [.str (St kText), .str (St a)]) s := by
      apply runG_rt
      simp [nt, e1, h, c_text, kText]
    simp only [nt] at e2
    show U_shape_noted _ _ _ _ _ _ = _
    apply runG_rt
    simp [nt, St_eq, e2, c_row, c_pick, c_whole, c_alike, c_text, kText]
/-! looked at -/
theorem inner_flat {x : List D} {w : List Nat} (hw : w = kWhole ∨ w = kText) (s : Sto) : S_inner_shapes [.tup (.str (St w) :: x)] s = .ok (.lst []) s := by
  rcases hw with rfl | rfl
  · apply runG_rt
    simp [kWhole, c_row, c_pick, c_many, c_rising, c_unlike, c_alike, St_eq, gIn, strsOf]
  · apply runG_rt
    simp [kText, c_row, c_pick, c_many, c_rising, c_unlike, c_alike, St_eq, gIn, strsOf]
/-- the signs of a text, one by one -/
def ones (a : List Nat) : List Str := a.map fun c => St [c]
theorem signs_ones (a : List Nat) : a.map (fun c => D.str (St [c])) = (ones a).map D.str := by
  unfold ones
  rw [List.map_map]
  rfl
theorem unl_nodup {xs : List Str} (h : xs.Nodup) : ∀ i, i ≤ xs.length → unl xs i = i
  | 0, _ => rfl
  | i + 1, hi => by
    have ih := unl_nodup h i (by omega)
    have hz : ¬ (xs.take i).any (· == xs.getD i Str.empty) = true := fun z => by
      rw [List.any_eq_true] at z
      obtain ⟨x, hx, he⟩ := z
      have he : x = xs.getD i Str.empty := by simpa using he
      obtain ⟨j, hj, ej⟩ := List.getElem_of_mem hx
      rw [List.length_take] at hj
      rw [List.getElem_take] at ej
      have e1 : xs.getD i Str.empty = xs[i] := by simp [List.getD, show i < xs.length by omega]
      rw [e1, ← ej] at he
      have := (List.getElem_inj h).mp he
      omega
    unfold unl
    rw [if_neg hz, ih]
theorem unl_lt {xs : List Str} {j k : Nat} (hjk : j < k) (hk : k < xs.length) (he : xs[j]? = xs[k]?) : ∀ i, k < i → i ≤ xs.length → unl xs i < i
  | 0, h, _ => by omega
  | i + 1, h, hi => by
    unfold unl
    by_cases q : k < i
    · have := unl_lt hjk hk he i q (by omega)
      split <;> omega
    · have hki : k = i := by omega
      subst hki
      have hz : (xs.take k).any (· == xs.getD k Str.empty) = true := by
        rw [List.any_eq_true]
        refine ⟨xs[j], ?_, ?_⟩
        · rw [List.mem_take_iff_getElem]
          exact ⟨j, by omega, rfl⟩
        · rw [List.getElem?_eq_getElem (by omega), List.getElem?_eq_getElem hk] at he
          simp only [Option.some.injEq] at he
          simp [List.getD, hk, he]
      have := unl_le xs k
      rw [if_pos hz]
      omega
theorem ones_nodup {a : List Nat} : (ones a).Nodup ↔ a.Nodup := by
  unfold ones
  rw [List.nodup_iff_pairwise_ne, List.nodup_iff_pairwise_ne, List.pairwise_map]
  simp [St_eq]
theorem unl_eq {a : List Nat} : unl (ones a) (ones a).length = (ones a).length ↔ a.Nodup := by
  constructor
  · intro h
    rw [← ones_nodup, List.nodup_iff_pairwise_ne, List.pairwise_iff_getElem]
    intro i j hi hj hij he
    have := unl_lt hij hj (by rw [List.getElem?_eq_getElem hi, List.getElem?_eq_getElem hj, he]) (ones a).length hj (Nat.le_refl _)
    omega
  · intro h
    exact unl_nodup (ones_nodup.mpr h) _ (Nat.le_refl _)
theorem tw_whole (k : Nat) (i j : Int) (s : Sto) : S_has_twice (k + 1) [.tup [.str (St kWhole), .int i, .int j]] s = .ok (.bl false) s := by
  have e1 := inner_flat (x := [.int i, .int j]) (w := kWhole) (.inl rfl) s
  show U_has_twice _ _ _ = _
  apply runG_rt
  simp only [kWhole] at e1
  simp [kWhole, c_pick, c_text, St_eq, e1, strsOf, unl, lcD, blsOf, gAny]
open Classical in
theorem tw_text (k : Nat) {a : List Nat} (hl : a.length ≤ 4000) (s : Sto) : S_has_twice (k + 1) [.tup [.str (St kText), .str (St a)]] s = .ok (.bl (decide (¬ a.Nodup))) s := by
  have e1 := inner_flat (x := [.str (St a)]) (w := kText) (.inr rfl) s
  have e2 := signs_ones a
  have e3 := strsOf_map (ones a)
  have el : (ones a).length = a.length := by simp [ones]
  have hl9 : a.length ≤ sizeLine := small_line (by omega)
  have hu := unl_eq (a := a)
  rw [el] at hu
  show U_has_twice _ _ _ = _
  apply runG_rt
  simp only [kText] at e1
  by_cases h : a.Nodup
  · have hu2 := hu.mpr h
    simp [kText, c_pick, c_text, St_eq, e1, e2, e3, el, hl, hl9, hu2, h, lcD, blsOf, gAny]
  · have hu2 : ¬ ((unl (ones a) a.length : Nat) : Int) = (a.length : Int) := fun z => h (hu.mp (by omega))
    simp [kText, c_pick, c_text, St_eq, e1, e2, e3, el, hl, hl9, hu2, h, lcD, blsOf, gAny]
theorem nr_whole (k : Nat) (i j : Int) (s : Sto) : S_has_no_range (k + 1) [.tup [.str (St kWhole), .int i, .int j]] s = .ok (.bl (decide (j < i))) s := by
  have e1 := inner_flat (x := [.int i, .int j]) (w := kWhole) (.inl rfl) s
  show U_has_no_range _ _ _ = _
  apply runG_rt
  simp only [kWhole] at e1
  by_cases h : j < i
  · simp [kWhole, c_whole, St_eq, h]
  · simp [kWhole, c_whole, St_eq, e1, h, lcD, blsOf, gAny]
theorem nr_text (k : Nat) (a : List Nat) (s : Sto) : S_has_no_range (k + 1) [.tup [.str (St kText), .str (St a)]] s = .ok (.bl false) s := by
  have e1 := inner_flat (x := [.str (St a)]) (w := kText) (.inr rfl) s
  show U_has_no_range _ _ _ = _
  apply runG_rt
  simp only [kText] at e1
  simp [kText, c_whole, St_eq, e1, lcD, blsOf, gAny]
end Law

/-! GSp: shapes of any kind, their notes and texts. -/
namespace Law
open PySem L2 Gs
def kUse : List Nat := [117, 115, 101]
def kRow : List Nat := [114, 111, 119]
def kPick : List Nat := [112, 105, 99, 107]
def kAlike : List Nat := [97, 108, 105, 107, 101]
def kMany : List Nat := [109, 97, 110, 121]
def kRising : List Nat := [114, 105, 115, 105, 110, 103]
def kUnlike : List Nat := [117, 110, 108, 105, 107, 101]
def kOnes : List (List Nat) := [kMany, kRising, kUnlike]
/-- a shape: its datum, its note's word and what is within, its text, whether two are alike in it, whether a low is above its high -/
structure Sq where
  x : D
  w : List Nat
  z : D
  t : List Nat
  tw : Bool
  nr : Bool
  us : List (List Nat)
/-- the names of one, then those of the other that are none of these -/
def uni (a b : List (List Nat)) : List (List Nat) := a ++ b.filter fun n => decide (n ∉ a)
def usL (l : List (List (List Nat))) : List (List Nat) := l.foldl uni []
def nq (lab : List Nat) (q : Sq) : D := nt lab q.w q.z
def brk (w : List Nat) (ts : List (List Nat)) : List Nat := w ++ [40] ++ TL.joinL [44] ts ++ [41]
def qUse (w : List Nat) : Sq := ⟨.tup [.str (St kUse), .str (St w)], w, .non, w, false, false, [w]⟩
def qWhole (i j : Int) : Sq := ⟨.tup [.str (St kWhole), .int i, .int j], kWhole, .tup [nt [] (nT i) .non, nt [] (nT j) .non], brk kWhole [nT i, nT j], false, decide (j < i), []⟩
def qText (a : List Nat) : Sq := ⟨.tup [.str (St kText), .str (St a)], kText, .tup [nt [] a .non], brk kText [a], !decide a.Nodup, false, []⟩
def qRow (ps : List Sq) : Sq := ⟨.tup [.str (St kRow), .tup (ps.map (·.x))], kRow, .tup (ps.map (nq [])), brk kRow (ps.map (·.t)), ps.any (·.tw), ps.any (·.nr), usL (ps.map (·.us))⟩
def qPick (ps : List (List Nat × Sq)) : Sq := ⟨.tup [.str (St kPick), .tup (ps.map fun p => .tup [.str (St p.1), p.2.x])], kPick, .tup (ps.map fun p => nq p.1 p.2), brk kPick (ps.map fun p => hd p.1 p.2.t), !decide (ps.map (·.1)).Nodup || ps.any (·.2.tw), ps.any (·.2.nr), usL (ps.map (·.2.us))⟩
def qOne (w : List Nat) (p : Sq) : Sq := ⟨.tup [.str (St w), p.x], w, .tup [nq [] p], brk w [p.t], p.tw, p.nr, usL [p.us]⟩
def qAlike (p : Sq) (i : Int) : Sq := ⟨.tup [.str (St kAlike), p.x, .int i], kAlike, .tup [nq [] p, nt [] (nT i) .non], brk kAlike [p.t, nT i], p.tw, p.nr, usL [p.us]⟩
/-- a shape of at most so many brackets -/
def Shp : Nat → Sq → Prop
  | 0, q => ∃ w, isM w = true ∧ q = qUse w
  | d + 1, q => (∃ w, isM w = true ∧ q = qUse w) ∨ (∃ i j : Int, i.natAbs < 10 ^ 60 ∧ j.natAbs < 10 ^ 60 ∧ q = qWhole i j) ∨ (∃ a, isW a = true ∧ 45 ∉ a ∧ q = qText a) ∨
      (∃ ps : List Sq, ps.length ≤ 8 ∧ (∀ p ∈ ps, Shp d p) ∧ q = qRow ps) ∨ (∃ ps : List (List Nat × Sq), 1 ≤ ps.length ∧ ps.length ≤ 10 ∧ (∀ p ∈ ps, isM p.1 = true ∧ Shp d p.2) ∧ q = qPick ps) ∨
      (∃ w p, w ∈ kOnes ∧ Shp d p ∧ q = qOne w p) ∨ (∃ p, ∃ i : Int, 1 ≤ i ∧ i ≤ 6 ∧ Shp d p ∧ q = qAlike p i)
theorem lets_sig : ∀ c ∈ lets, c ∈ wsig ∧ c ≠ 45 := by decide
theorem isM_isW {w : List Nat} (h : isM w = true) : isW w = true := by
  obtain ⟨h1, h2, h3⟩ := isM_all h
  simp only [isW, Bool.and_eq_true, decide_eq_true_eq, List.all_eq_true]
  exact ⟨⟨h1, by omega⟩, fun c hc => (lets_sig c (h3 c hc)).1⟩
theorem shp_use {d : Nat} {w : List Nat} (h : isM w = true) : Shp d (qUse w) := by
  cases d with
  | zero => exact ⟨w, h, rfl⟩
  | succ d => exact .inl ⟨w, h, rfl⟩
theorem shp_up : ∀ {d : Nat} {q : Sq}, Shp d q → Shp (d + 1) q
  | 0, q, h => .inl h
  | d + 1, q, h => by
    rcases h with h | h | h | ⟨ps, h1, h2, h3⟩ | ⟨ps, h0, h1, h2, h3⟩ | ⟨w, p, h1, h2, h3⟩ | ⟨p, i, h0, h1, h2, h3⟩
    · exact .inl h
    · exact .inr (.inl h)
    · exact .inr (.inr (.inl h))
    · exact .inr (.inr (.inr (.inl ⟨ps, h1, fun p hp => shp_up (h2 p hp), h3⟩)))
    · exact .inr (.inr (.inr (.inr (.inl ⟨ps, h0, h1, fun p hp => ⟨(h2 p hp).1, shp_up (h2 p hp).2⟩, h3⟩))))
    · exact .inr (.inr (.inr (.inr (.inr (.inl ⟨w, p, h1, shp_up h2, h3⟩)))))
    · exact .inr (.inr (.inr (.inr (.inr (.inr ⟨p, i, h0, h1, shp_up h2, h3⟩)))))
theorem shp_ups {d : Nat} {q : Sq} (k : Nat) (h : Shp d q) : Shp (d + k) q := by
  induction k with
  | zero => exact h
  | succ k ih => exact shp_up ih
theorem kw_W : ∀ w ∈ kWhole :: kText :: kRow :: kPick :: kAlike :: kOnes, isW w = true ∧ w.length ≤ 6 := by decide
theorem hd_brk (lab w : List Nat) (ts : List (List Nat)) : hd lab (brk w ts) = hd lab w ++ [40] ++ TL.joinL [44] ts ++ [41] := by
  by_cases h : lab = [] <;> simp [hd, brk, h]
theorem nx_brk {d : Nat} {lab w : List Nat} (hl : LabOk lab) (hw : isW w = true) (ps : List (D × List Nat)) (h0 : ps.length ≤ 1000) (h : ∀ p ∈ ps, Nx d p.1 p.2) : Nx (d + 1) (nt lab w (.tup (ps.map (·.1)))) (hd lab (brk w (ps.map (·.2)))) :=
  ⟨lab, w, hl, hw, .inr ⟨ps, h0, h, rfl, hd_brk _ _ _⟩⟩
theorem nx_lf {d : Nat} {w : List Nat} (hw : isW w = true) : Nx d (nt [] w .non) w := Nx.leaf (lab := []) (.inl rfl) hw
theorem small6 {i : Int} (h0 : 1 ≤ i) (h : i ≤ 6) : i.natAbs < 10 ^ 60 := Nat.lt_of_le_of_lt (by omega : i.natAbs ≤ 6) (by decide)
theorem shp_nx : ∀ (d : Nat) (q : Sq), Shp d q → ∀ lab, LabOk lab → Nx d (nq lab q) (hd lab q.t)
  | 0, q, ⟨w, hw, e⟩, lab, hl => by subst e; exact Nx.leaf hl (isM_isW hw)
  | d + 1, q, h, lab, hl => by
    rcases h with ⟨w, hw, e⟩ | ⟨i, j, hi, hj, e⟩ | ⟨a, ha, _, e⟩ | ⟨ps, h1, h2, e⟩ | ⟨ps, h0, h1, h2, e⟩ | ⟨w, p, h1, h2, e⟩ | ⟨p, i, h0, h1, h2, e⟩
    · subst e; exact Nx.leaf hl (isM_isW hw)
    · subst e
      exact nx_brk hl kWhole_ok.2 [(nt [] (nT i) .non, nT i), (nt [] (nT j) .non, nT j)] (by simp) (fun p hp => by
        simp only [List.mem_cons, List.not_mem_nil, or_false] at hp
        rcases hp with rfl | rfl
        · exact nx_lf (nT_word hi)
        · exact nx_lf (nT_word hj))
    · subst e
      exact nx_brk hl kText_ok.2 [(nt [] a .non, a)] (by simp) (fun p hp => by
        simp only [List.mem_cons, List.not_mem_nil, or_false] at hp
        subst hp
        exact nx_lf ha)
    · subst e
      have := nx_brk (d := d) hl (kw_W kRow (by simp)).1 (ps.map fun p => (nq [] p, p.t)) (by simp; omega) (fun p hp => by
        obtain ⟨r, hr, rfl⟩ := List.mem_map.mp hp
        exact shp_nx d r (h2 r hr) [] (.inl rfl))
      rw [List.map_map, List.map_map] at this
      exact this
    · subst e
      have := nx_brk (d := d) hl (kw_W kPick (by simp)).1 (ps.map fun p => (nq p.1 p.2, hd p.1 p.2.t)) (by simp; omega) (fun p hp => by
        obtain ⟨r, hr, rfl⟩ := List.mem_map.mp hp
        exact shp_nx d r.2 (h2 r hr).2 r.1 (.inr (h2 r hr).1))
      rw [List.map_map, List.map_map] at this
      exact this
    · subst e
      exact nx_brk hl (kw_W w (by simp [h1])).1 [(nq [] p, p.t)] (by simp) (fun r hp => by
        simp only [List.mem_cons, List.not_mem_nil, or_false] at hp
        subst hp
        exact shp_nx d p h2 [] (.inl rfl))
    · subst e
      exact nx_brk hl (kw_W kAlike (by simp)).1 [(nq [] p, p.t), (nt [] (nT i) .non, nT i)] (by simp) (fun r hp => by
        simp only [List.mem_cons, List.not_mem_nil, or_false] at hp
        rcases hp with rfl | rfl
        · exact shp_nx d p h2 [] (.inl rfl)
        · exact nx_lf (nT_word (small6 h0 h1)))
end Law

/-! GSpR: shapes read from their notes (where a part's reading may raise). -/
namespace Law
open PySem L2 Gs
theorem unl_ok {k : Nat} {w : List Nat} {z x : D} {s s' : Sto} (h : S_shape_noted k [nt [] w z] s = .ok x s') : S_unlabelled (k + 1) [nt [] w z] s = .ok x s' := by
  show U_unlabelled _ _ _ _ _ _ = _
  apply runG_rt
  simp only [nt] at h
  simp [nt, h]
theorem unl_exc {k : Nat} {w : List Nat} {z : D} {x : Ex} {s s' : Sto} (h : S_shape_noted k [nt [] w z] s = .exc x s') : S_unlabelled (k + 1) [nt [] w z] s = .exc x s' := by
  show U_unlabelled _ _ _ _ _ _ = _
  apply runG_exc
  simp only [nt] at h
  simp [nt, h]
  first | rfl | exact ⟨rfl, rfl⟩
theorem unl_lab {k : Nat} {lab w : List Nat} {z : D} {s : Sto} (h : lab ≠ []) : S_unlabelled (k + 1) [nt lab w z] s = .exc nono s := by
  show U_unlabelled _ _ _ _ _ _ = _
  apply runG_exc
  simp [nt, St_eq, h]
  first | rfl | exact ⟨rfl, rfl⟩
theorem gN_non : gIsN .non .non = some (.bl true) := rfl
theorem gN_tup (xs : List D) : gIsN (.tup xs) .non = some (.bl false) := rfl
theorem sn_use {k : Nat} {lab w : List Nat} (hl : w.length ≤ 90000) (s : Sto) : S_shape_noted (k + 1) [nt lab w .non] s = if isM w = true then .ok (.tup [.str (St kUse), .str (St w)]) s else .exc nono s := by
  have e := mark_val w (by omega) s
  show U_shape_noted _ _ _ _ _ _ = _
  by_cases h : isM w = true
  · rw [if_pos h]
    rw [h] at e
    apply runG_rt
    simp [nt, gN_non, e, c_use, kUse]
  · rw [if_neg h]
    rw [Bool.not_eq_true] at h
    rw [h] at e
    apply runG_exc
    simp [nt, gN_non, e]
    first | rfl | exact ⟨rfl, rfl⟩
/-- the reading of a row's parts -/
theorem lcX_mix {α : Type} {p : Pt} {e : E} {δ : Sl} {x : Ex} (f0 f : α → D) (P : α → Bool) : ∀ l : List α, (∀ a ∈ l, ∃ δ1, bindP p (f0 a) δ = some δ1 ∧ ∀ s, ∃ g, e δ1 s = if P a = true then .exc x (s ++ g) else .ok (f a) (s ++ g)) → ∀ s : Sto, ∃ g, lcX p tTrue e δ (l.map f0) s = if l.any P = true then .exc x (s ++ g) else .ok (l.map f) (s ++ g)
  | [], _, s => ⟨[], by simp [lcX]⟩
  | y :: l, h, s => by
    obtain ⟨δ1, e1, e2⟩ := h y (by simp)
    obtain ⟨g, e3⟩ := e2 s
    by_cases q : P y = true
    · rw [if_pos q] at e3
      exact ⟨g, by simp [lcX, e1, e3, q, tTrue, R.bind]⟩
    · rw [if_neg q] at e3
      obtain ⟨g2, ih⟩ := lcX_mix f0 f P l (fun k hk => h k (by simp [hk])) (s ++ g)
      refine ⟨g ++ g2, ?_⟩
      rw [Bool.not_eq_true] at q
      by_cases r : l.any P = true
      · rw [if_pos r] at ih
        have r2 : (y :: l).any P = true := by simp only [List.any_cons, r, Bool.or_true]
        rw [if_pos r2]
        simp [lcX, e1, e3, ih, tTrue, R.bind, List.append_assoc]
      · rw [if_neg r] at ih
        have r2 : ¬ (y :: l).any P = true := by simp only [List.any_cons, q, Bool.false_or]; exact r
        rw [if_neg r2]
        simp [lcX, e1, e3, ih, tTrue, R.bind, List.append_assoc]
theorem sn_row {k : Nat} {lab : List Nat} {α : Type} (l : List α) (f0 f : α → D) (P : α → Bool) (hl : l.length ≤ 8) (h : ∀ a ∈ l, ∀ s, ∃ g, S_unlabelled k [f0 a] s = if P a = true then .exc nono (s ++ g) else .ok (f a) (s ++ g)) (s : Sto) :
    ∃ g, S_shape_noted (k + 1) [nt lab kRow (.tup (l.map f0))] s = if l.any P = true then .exc nono (s ++ g) else .ok (.tup [.str (St kRow), .tup (l.map f)]) (s ++ g) := by
  have l1 : l.length ≤ sizeLine := small_line (by omega)
  have l2 : (l.length : Int) ≤ 8 := by omega
  obtain ⟨g, e⟩ := lcX_mix (p := .nm 4) (e := eCall (S_unlabelled k) (aCons (eV 4) aNil)) (δ := [some (nt lab kRow (.tup (l.map f0))), some (.str (St kRow)), some (.tup (l.map f0)), some (.int l.length), none]) (x := nono) f0 f P l (fun a ha => ⟨_, by simp; rfl, fun s => by
    obtain ⟨g, e⟩ := h a ha s
    refine ⟨g, ?_⟩
    by_cases q : P a = true
    · rw [if_pos q] at e ⊢; simp [e]
    · rw [if_neg q] at e ⊢; simp [e]⟩) s
  refine ⟨g, ?_⟩
  show U_shape_noted _ _ _ _ _ _ = _
  simp only [nt, kRow] at e
  by_cases q : l.any P = true
  · rw [if_pos q] at e ⊢
    apply runG_exc
    simp [nt, gN_tup, St_eq, c_row, l1, l2, kRow, wipeD, e]
    first | rfl | exact ⟨rfl, rfl⟩
  · rw [if_neg q] at e ⊢
    apply runG_rt
    simp [nt, gN_tup, St_eq, c_row, l1, l2, kRow, wipeD, e]
/-- a branch: its label, its note, the shape's datum, whether its reading raises -/
abbrev Br := List Nat × D × D × Bool
def BrOk (k : Nat) (p : Br) : Prop := (∃ w z, p.2.1 = nt p.1 w z) ∧ (p.1 = [] → p.2.2.2 = true) ∧ (p.1 ≠ [] → ∀ s, ∃ g, S_shape_noted k [p.2.1] s = if p.2.2.2 = true then .exc nono (s ++ g) else .ok p.2.2.1 (s ++ g))
theorem pick_loop {k : Nat} (n1 n2 n3 : List D → Sto → R D) {xs : D} (s0 : Sto) : ∀ (l : List Br) (done : List D) (g : Sto) (y : Option D), (∀ p ∈ l, BrOk k p) → done.length + l.length ≤ 100 →
    ∃ y' g', forD (.nm 2) (L_noted_pick_0 n1 n2 (S_shape_noted k) n3) (l.map (·.2.1)) [some xs, some (.ob s0.length), y] (s0 ++ .lst done :: g) = if l.any (·.2.2.2) = true then .exc nono [some xs, some (.ob s0.length), y'] (s0 ++ g') else .nx [some xs, some (.ob s0.length), y'] (s0 ++ .lst (done ++ l.map fun p => .tup [.str (St p.1), p.2.2.1]) :: g')
  | [], done, g, y, _, _ => ⟨y, g, by simp [forD]⟩
  | (lab, yy, x, b) :: l, done, g, y, h, hl => by
    obtain ⟨⟨w, z, h2⟩, h3, h4⟩ := h (lab, yy, x, b) (by simp)
    simp only at h2 h3 h4
    subst h2
    have hd9 : done.length < sizeLine := small_line (n := done.length + 1) (by simp at hl; omega)
    by_cases hlab : lab = []
    · have hb := h3 hlab
      subst hb
      refine ⟨some (nt lab w z), .lst done :: g, ?_⟩
      subst hlab
      simp [forD, L_noted_pick_0, nt]
      rfl
    · obtain ⟨g2, e3⟩ := h4 hlab (s0 ++ .lst done :: g)
      cases b with
      | true =>
        rw [if_pos rfl] at e3
        refine ⟨some (nt lab w z), .lst done :: g ++ g2, ?_⟩
        simp only [nt] at e3
        simp at e3
        simp [forD, L_noted_pick_0, nt, St_eq, hlab, e3]
        first | rfl | exact ⟨rfl, rfl⟩ | skip
      | false =>
        rw [if_neg (by decide)] at e3
        obtain ⟨y', g', ih⟩ := pick_loop (xs := xs) n1 n2 n3 s0 l (done ++ [.tup [.str (St lab), x]]) (g ++ g2) (some (nt lab w z)) (fun q hq => h q (by simp [hq])) (by simp at hl ⊢; omega)
        refine ⟨y', g', ?_⟩
        have eb : L_noted_pick_0 n1 n2 (S_shape_noted k) n3 [some xs, some (.ob s0.length), some (nt lab w z)] (s0 ++ .lst done :: g) = .nx [some xs, some (.ob s0.length), some (nt lab w z)] (s0 ++ .lst (done ++ [.tup [.str (St lab), x]]) :: (g ++ g2)) := by
          simp only [nt] at e3 ⊢
          simp at e3
          simp [L_noted_pick_0, St_eq, hlab, e3, hd9]
        simp only [List.map_cons, forD, v_nm, List.set_cons_succ, List.set_cons_zero]
        rw [show ((lab, nt lab w z, x, false) :: l).any (fun p : Br => p.2.2.2) = l.any (fun p => p.2.2.2) from by rw [List.any_cons, Bool.false_or], eb]
        simp only []
        rw [ih]
        simp
theorem np_val {k : Nat} (l : List Br) (h : ∀ p ∈ l, BrOk k p) (hl : l.length ≤ 20) (s : Sto) : ∃ g, S_noted_pick (k + 1) [.tup (l.map (·.2.1))] s = if l.any (·.2.2.2) = true then .exc nono (s ++ g) else .ok (.tup [.str (St kPick), .tup (l.map fun p => .tup [.str (St p.1), p.2.2.1])]) (s ++ g) := by
  obtain ⟨y', g', e⟩ := pick_loop (S_noted_alike k) (S_noted_pick k) (S_unlabelled k) (xs := .tup (l.map (·.2.1))) s l [] [] none h (by simp; omega)
  have l1 : l.length ≤ sizeLine := small_line (by omega)
  by_cases q : l.any (·.2.2.2) = true
  · rw [if_pos q] at e
    refine ⟨g', ?_⟩
    rw [if_pos q]
    show U_noted_pick _ _ _ _ _ _ = _
    apply runG_exc
    simp [e, nono]
    first | rfl | exact ⟨rfl, rfl⟩ | skip
  · rw [if_neg q] at e
    refine ⟨.gone :: g', ?_⟩
    rw [if_neg q]
    show U_noted_pick _ _ _ _ _ _ = _
    apply runG_rt
    simp at e
    simp [e, c_pick, kPick, l1]
theorem sn_pick {k : Nat} {lab : List Nat} (l : List Br) (h : ∀ p ∈ l, BrOk k p) (h0 : 1 ≤ l.length) (hl : l.length ≤ 10) (s : Sto) : ∃ g, S_shape_noted (k + 2) [nt lab kPick (.tup (l.map (·.2.1)))] s = if l.any (·.2.2.2) = true then .exc nono (s ++ g) else .ok (.tup [.str (St kPick), .tup (l.map fun p => .tup [.str (St p.1), p.2.2.1])]) (s ++ g) := by
  obtain ⟨g, e⟩ := np_val l h (by omega) s
  refine ⟨g, ?_⟩
  have l1 : l.length ≤ sizeLine := small_line (by omega)
  have l2 : (l.length : Int) ≤ 10 := by omega
  have l3 : (1 : Int) ≤ (l.length : Int) := by omega
  show U_shape_noted _ _ _ _ _ _ = _
  by_cases q : l.any (·.2.2.2) = true
  · rw [if_pos q] at e ⊢
    apply runG_exc
    simp [nt, gN_tup, St_eq, c_row, c_pick, l1, l2, l3, kPick, e]
    first | rfl | exact ⟨rfl, rfl⟩ | skip
  · rw [if_neg q] at e ⊢
    apply runG_rt
    simp [nt, gN_tup, St_eq, c_row, c_pick, l1, l2, l3, kPick] at e ⊢
    simp [e]
theorem sn_one {k : Nat} {lab w : List Nat} {y x : D} {s s' : Sto} (hw : w ∈ kOnes) : (S_unlabelled k [y] s = .ok x s' → S_shape_noted (k + 1) [nt lab w (.tup [y])] s = .ok (.tup [.str (St w), x]) s') ∧ (S_unlabelled k [y] s = .exc nono s' → S_shape_noted (k + 1) [nt lab w (.tup [y])] s = .exc nono s') := by
  have l1 : 1 ≤ sizeLine := small_line (by omega)
  simp only [kOnes, List.mem_cons, List.not_mem_nil, or_false] at hw
  constructor <;> intro e <;> show U_shape_noted _ _ _ _ _ _ = _
  · apply runG_rt
    rcases hw with h | h | h <;> subst h <;> simp [nt, gN_tup, St_eq, c_row, c_pick, c_whole, c_alike, c_text, c_many, c_rising, c_unlike, kMany, kRising, kUnlike, gIn, strsOf, e]
  · rcases hw with h | h | h <;> subst h <;> (apply runG_exc; simp [nt, gN_tup, St_eq, c_row, c_pick, c_whole, c_alike, c_text, c_many, c_rising, c_unlike, kMany, kRising, kUnlike, gIn, strsOf, e]; first | done | rfl | exact ⟨rfl, rfl⟩)
theorem sn_alike {k : Nat} {lab : List Nat} {y x : D} {i : Int} {s s' : Sto} (h0 : 1 ≤ i) (h1 : i ≤ 6) : (S_unlabelled k [y] s = .ok x s' → S_shape_noted (k + 2) [nt lab kAlike (.tup [y, nt [] (nT i) .non])] s = .ok (.tup [.str (St kAlike), x, .int i]) s') ∧ (S_unlabelled k [y] s = .exc nono s' → S_shape_noted (k + 2) [nt lab kAlike (.tup [y, nt [] (nT i) .non])] s = .exc nono s') := by
  have hi : i.natAbs < 10 ^ 60 := Nat.lt_of_le_of_lt (by omega : i.natAbs ≤ 6) (by decide)
  have l2 : 2 ≤ sizeLine := small_line (by omega)
  have e2 := pnum_ok hi s
  simp only [nt] at e2
  constructor <;> intro e
  · have key : S_noted_alike (k + 1) [.tup [y, nt [] (nT i) .non]] s = .ok (.tup [.str (St kAlike), x, .int i]) s' := by
      show U_noted_alike _ _ _ _ _ _ = _
      apply runG_rt
      simp [nt, e2, h0, h1, e, c_alike, kAlike]
    show U_shape_noted _ _ _ _ _ _ = _
    apply runG_rt
    simp only [nt] at key
    simp only [kAlike] at key
    simp [nt, gN_tup, St_eq, c_row, c_pick, c_whole, c_alike, kAlike, key]
  · have key : S_noted_alike (k + 1) [.tup [y, nt [] (nT i) .non]] s = .exc nono s' := by
      show U_noted_alike _ _ _ _ _ _ = _
      apply runG_exc
      simp [nt, e2, h0, h1, e]
      first | rfl | exact ⟨rfl, rfl⟩ | skip
    show U_shape_noted _ _ _ _ _ _ = _
    apply runG_exc
    simp only [nt] at key
    simp [nt, gN_tup, St_eq, c_row, c_pick, c_whole, c_alike, kAlike, key]
    first | rfl | exact ⟨rfl, rfl⟩ | skip
theorem sn_whole {k : Nat} {lab : List Nat} {i j : Int} (hi : i.natAbs < 10 ^ 60) (hj : j.natAbs < 10 ^ 60) (s : Sto) : S_shape_noted (k + 1) [nt lab kWhole (.tup [nt [] (nT i) .non, nt [] (nT j) .non])] s = .ok (.tup [.str (St kWhole), .int i, .int j]) s := by
  have e1 := pnum_ok hi s
  have e2 := pnum_ok hj s
  have l2 : 2 ≤ sizeLine := small_line (by omega)
  simp only [nt] at e1 e2
  show U_shape_noted _ _ _ _ _ _ = _
  apply runG_rt
  simp [nt, gN_tup, St_eq, c_row, c_pick, c_whole, kWhole, e1, e2]
theorem sn_text {k : Nat} {lab a : List Nat} (s : Sto) : S_shape_noted (k + 1) [nt lab kText (.tup [nt [] a .non])] s = if 45 ∈ a then .exc nono s else .ok (.tup [.str (St kText), .str (St a)]) s := by
  have e1 := pword_val a s
  have l1 : 1 ≤ sizeLine := small_line (by omega)
  simp only [nt] at e1
  show U_shape_noted _ _ _ _ _ _ = _
  by_cases h : 45 ∈ a
  · rw [if_pos h]
    have e2 : S_noted_text [.tup [nt [] a .non]] s = .exc nono s := by
      apply runG_exc
      simp [nt, e1, h]
      first | rfl | exact ⟨rfl, rfl⟩ | skip
    simp only [nt] at e2
    apply runG_exc
    simp [nt, gN_tup, St_eq, e2, c_row, c_pick, c_whole, c_alike, c_text, kText]
    first | rfl | exact ⟨rfl, rfl⟩ | skip
  · rw [if_neg h]
    have e2 : S_noted_text [.tup [nt [] a .non]] s = .ok (.tup [.str (St kText), .str (St a)]) s := by
      apply runG_rt
      simp [nt, e1, h, c_text, kText]
    simp only [nt] at e2
    apply runG_rt
    simp [nt, gN_tup, St_eq, e2, c_row, c_pick, c_whole, c_alike, c_text, kText]
theorem shp_rd : ∀ (d : Nat) (q : Sq), Shp d q → ∀ (lab : List Nat) (m : Nat) (s : Sto), ∃ g, S_shape_noted (m + 3 * d + 1) [nq lab q] s = .ok q.x (s ++ g)
  | 0, q, ⟨w, hw, e⟩, lab, m, s => by
    subst e
    have := isM_all hw
    refine ⟨[], ?_⟩
    rw [List.append_nil]
    have e := sn_use (k := m) (lab := lab) (w := w) (by omega) s
    rw [if_pos hw] at e
    exact e
  | d + 1, q, h, lab, m, s => by
    have sub : ∀ (j : Nat) p lab s, Shp d p → ∃ g, S_shape_noted (m + j + 3 * d + 1) [nq lab p] s = .ok p.x (s ++ g) := fun j p lab s hp => shp_rd d p hp lab (m + j) s
    rcases h with ⟨w, hw, e⟩ | ⟨i, j, hi, hj, e⟩ | ⟨a, ha, h45, e⟩ | ⟨ps, h1, h2, e⟩ | ⟨ps, h0, h1, h2, e⟩ | ⟨w, p, h1, h2, e⟩ | ⟨p, i, h0, h1, h2, e⟩
    · subst e
      have := isM_all hw
      refine ⟨[], ?_⟩
      rw [List.append_nil]
      have e := sn_use (k := m + 3 * (d + 1)) (lab := lab) (w := w) (by omega) s
      rw [if_pos hw] at e
      exact e
    · subst e
      refine ⟨[], ?_⟩
      rw [List.append_nil]
      exact sn_whole hi hj s
    · subst e
      refine ⟨[], ?_⟩
      rw [List.append_nil]
      have e := sn_text (k := m + 3 * (d + 1)) (lab := lab) (a := a) s
      rw [if_neg h45] at e
      exact e
    · subst e
      obtain ⟨g, e⟩ := sn_row (k := m + 1 + 3 * d + 1 + 1) (lab := lab) ps (nq []) (·.x) (fun _ => false) h1 (fun p hp s => by
        obtain ⟨g, e⟩ := sub 1 p [] s (h2 p hp)
        exact ⟨g, by rw [if_neg Bool.false_ne_true]; exact unl_ok e⟩) s
      have ha : ps.any (fun _ => false) = false := by simp
      rw [ha, if_neg Bool.false_ne_true] at e
      refine ⟨g, ?_⟩
      rw [show m + 3 * (d + 1) + 1 = m + 1 + 3 * d + 1 + 1 + 1 by omega]
      exact e
    · subst e
      obtain ⟨g, e⟩ := sn_pick (k := m + 1 + 3 * d + 1) (lab := lab) (ps.map fun p => (p.1, nq p.1 p.2, p.2.x, false)) (fun p hp => by
        obtain ⟨r, hr, rfl⟩ := List.mem_map.mp hp
        have hm := isM_all (h2 r hr).1
        refine ⟨⟨_, _, rfl⟩, fun z => ?_, fun _ s => ?_⟩
        · simp only at z
          rw [z] at hm
          simp at hm
        · obtain ⟨g, e⟩ := sub 1 r.2 r.1 s (h2 r hr).2
          exact ⟨g, by rw [if_neg Bool.false_ne_true]; exact e⟩) (by simpa using h0) (by simpa using h1) s
      have ha : (ps.map fun p => (p.1, nq p.1 p.2, p.2.x, false)).any (·.2.2.2) = false := by simp
      rw [ha, if_neg Bool.false_ne_true, List.map_map, List.map_map] at e
      refine ⟨g, ?_⟩
      rw [show m + 3 * (d + 1) + 1 = m + 1 + 3 * d + 1 + 2 by omega]
      exact e
    · subst e
      obtain ⟨g, e⟩ := sub 1 p [] s h2
      refine ⟨g, ?_⟩
      rw [show m + 3 * (d + 1) + 1 = m + 1 + 3 * d + 1 + 1 + 1 by omega]
      exact (sn_one h1).1 (unl_ok e)
    · subst e
      obtain ⟨g, e⟩ := sub 0 p [] s h2
      refine ⟨g, ?_⟩
      rw [show m + 3 * (d + 1) + 1 = m + 0 + 3 * d + 1 + 1 + 2 by omega]
      exact (sn_alike h0 h1).1 (unl_ok e)
end Law

/-! GSpT: what is alike in a shape, what has no range; shapes read and shown. -/
namespace Law
open PySem L2 Gs
theorem gAny_map {α : Type} (l : List α) (f : α → Bool) : gAny [.lst (l.map fun c => D.bl (f c))] = some (.bl (l.any f)) := by
  have e : l.map (fun c => D.bl (f c)) = (l.map f).map D.bl := by simp
  have e2 : ∀ l : List α, (l.map f).any (fun b => b) = l.any f := fun l => by
    induction l with
    | nil => rfl
    | cons c l ih => simp [ih]
  rw [e]
  simp only [gAny, blsOf_map, Option.map_some, e2]
theorem in_row (xs : List D) (hl : xs.length ≤ 1000) (s : Sto) : S_inner_shapes [.tup [.str (St kRow), .tup xs]] s = .ok (.lst xs) s := by
  have l1 : xs.length ≤ sizeLine := small_line (by omega)
  apply runG_rt
  simp [kRow, c_row, l1]
theorem in_pick {α : Type} (l : List α) (f g : α → D) (hl : l.length ≤ 1000) (s : Sto) : S_inner_shapes [.tup [.str (St kPick), .tup (l.map fun p => .tup [f p, g p])]] s = .ok (.lst (l.map g)) s := by
  have l1 : l.length ≤ sizeLine := small_line (by omega)
  have e := lcD_mapL (p := .tp [.nm 1, .nm 2]) (c := tTrue) (e := eV 2) (δ := [some (.tup [.str (St kPick), .tup (l.map fun p => .tup [f p, g p])]), none, none]) (s := s) (fun p : α => .tup [f p, g p]) g l fun a _ => ⟨_, by simp; rfl, by simp, by simp⟩
  simp only [kPick] at e
  apply runG_rt
  simp [kPick, c_row, c_pick, St_eq, l1, wipeD, e]
theorem in_one {w : List Nat} (hw : w ∈ kOnes) (x : D) (s : Sto) : S_inner_shapes [.tup [.str (St w), x]] s = .ok (.lst [x]) s := by
  simp only [kOnes, List.mem_cons, List.not_mem_nil, or_false] at hw
  apply runG_rt
  rcases hw with h | h | h <;> subst h <;> simp [kMany, kRising, kUnlike, c_row, c_pick, c_many, c_rising, c_unlike, c_alike, St_eq, gIn, strsOf]
theorem in_alike (x y : D) (s : Sto) : S_inner_shapes [.tup [.str (St kAlike), x, y]] s = .ok (.lst [x]) s := by
  apply runG_rt
  simp [kAlike, c_row, c_pick, c_many, c_rising, c_unlike, c_alike, St_eq, gIn, strsOf]
theorem in_use (x : D) (s : Sto) : S_inner_shapes [.tup [.str (St kUse), x]] s = .ok (.lst []) s := by
  apply runG_rt
  simp [kUse, c_row, c_pick, c_many, c_rising, c_unlike, c_alike, St_eq, gIn, strsOf]
theorem unl_all {xs : List Str} : unl xs xs.length = xs.length ↔ xs.Nodup := by
  constructor
  · intro h
    rw [List.nodup_iff_pairwise_ne, List.pairwise_iff_getElem]
    intro i j hi hj hij he
    have := unl_lt hij hj (by rw [List.getElem?_eq_getElem hi, List.getElem?_eq_getElem hj, he]) xs.length hj (Nat.le_refl _)
    omega
  · intro h
    exact unl_nodup h _ (Nat.le_refl _)
theorem marks_nodup {α : Type} {l : List α} (f : α → List Nat) : (l.map fun p => St (f p)).Nodup ↔ (l.map f).Nodup := by
  rw [List.nodup_iff_pairwise_ne, List.nodup_iff_pairwise_ne, List.pairwise_map, List.pairwise_map]
  simp [St_eq]
/-- the word of a shape that is neither a pick nor a text -/
def Pl (w : List Nat) : Prop := w = kUse ∨ w = kRow ∨ w = kMany ∨ w = kRising ∨ w = kUnlike ∨ w = kAlike
theorem tw_plain (k : Nat) {w : List Nat} (hw : Pl w) (r : List D) (ys : List D) (P : D → Bool) (hl : ys.length ≤ 1000) (s : Sto) (h1 : S_inner_shapes [.tup (.str (St w) :: r)] s = .ok (.lst ys) s) (h2 : ∀ y ∈ ys, S_has_twice k [y] s = .ok (.bl (P y)) s) : S_has_twice (k + 1) [.tup (.str (St w) :: r)] s = .ok (.bl (ys.any P)) s := by
  have l1 : ys.length ≤ sizeLine := small_line (by omega)
  have e : ∀ a b, lcD (.nm 3) tTrue (eCall (S_has_twice k) (aCons (eV 3) aNil)) [some (.tup (.str (St w) :: r)), a, b, none] ys s = .ok (ys.map fun y => .bl (P y)) s := fun a b => by
    have := lcD_mapL (p := .nm 3) (c := tTrue) (e := eCall (S_has_twice k) (aCons (eV 3) aNil)) (δ := [some (.tup (.str (St w) :: r)), a, b, none]) (s := s) (fun y : D => y) (fun y => .bl (P y)) ys fun y hy => ⟨_, by simp; rfl, by simp, by simp [h2 y hy]⟩
    simpa using this
  have g := gAny_map ys P
  show U_has_twice _ _ _ = _
  apply runG_rt
  rcases hw with h | h | h | h | h | h <;> subst h <;> simp only [kUse, kRow, kMany, kRising, kUnlike, kAlike] at h1 e ⊢ <;> simp [c_pick, c_text, St_eq, h1, strsOf, unl, l1, wipeD, e, g]
theorem nr_plain (k : Nat) {w : List Nat} (hw : Pl w ∨ w = kPick) (r : List D) (ys : List D) (P : D → Bool) (hl : ys.length ≤ 1000) (s : Sto) (h1 : S_inner_shapes [.tup (.str (St w) :: r)] s = .ok (.lst ys) s) (h2 : ∀ y ∈ ys, S_has_no_range k [y] s = .ok (.bl (P y)) s) : S_has_no_range (k + 1) [.tup (.str (St w) :: r)] s = .ok (.bl (ys.any P)) s := by
  have l1 : ys.length ≤ sizeLine := small_line (by omega)
  have e : lcD (.nm 1) tTrue (eCall (S_has_no_range k) (aCons (eV 1) aNil)) [some (.tup (.str (St w) :: r)), none] ys s = .ok (ys.map fun y => .bl (P y)) s := by
    have := lcD_mapL (p := .nm 1) (c := tTrue) (e := eCall (S_has_no_range k) (aCons (eV 1) aNil)) (δ := [some (.tup (.str (St w) :: r)), none]) (s := s) (fun y : D => y) (fun y => .bl (P y)) ys fun y hy => ⟨_, by simp; rfl, by simp, by simp [h2 y hy]⟩
    simpa using this
  have g := gAny_map ys P
  show U_has_no_range _ _ _ = _
  apply runG_rt
  rcases hw with (h | h | h | h | h | h) | h <;> subst h <;> simp only [kUse, kRow, kMany, kRising, kUnlike, kAlike, kPick] at h1 e ⊢ <;> simp [c_whole, St_eq, h1, l1, wipeD, e, g]
theorem tw_pick (k : Nat) (l : List (List Nat × D)) (P : D → Bool) (hl : l.length ≤ 1000) (s : Sto) (h2 : ∀ p ∈ l, S_has_twice k [p.2] s = .ok (.bl (P p.2)) s) : S_has_twice (k + 1) [.tup [.str (St kPick), .tup (l.map fun p => .tup [.str (St p.1), p.2])]] s = .ok (.bl (!decide (l.map (·.1)).Nodup || l.any fun p => P p.2)) s := by
  have l1 : l.length ≤ sizeLine := small_line (by omega)
  have h1 := in_pick l (fun p => D.str (St p.1)) (·.2) hl s
  obtain ⟨X, hX⟩ : ∃ X : D, .tup [.str (St kPick), .tup (l.map fun p => .tup [.str (St p.1), p.2])] = X := ⟨_, rfl⟩
  have e0 := lcD_mapL (p := .tp [.nm 2, .nm 3]) (c := tTrue) (e := eV 2) (δ := [some X, some (.lst []), none, none]) (s := s) (fun p : List Nat × D => .tup [.str (St p.1), p.2]) (fun p => .str (St p.1)) l fun a _ => ⟨_, by simp; rfl, by simp, by simp⟩
  have e : ∀ a b, lcD (.nm 3) tTrue (eCall (S_has_twice k) (aCons (eV 3) aNil)) [some X, a, b, none] (l.map (·.2)) s = .ok (l.map fun p => .bl (P p.2)) s := fun a b =>
    lcD_mapL (fun p : List Nat × D => p.2) (fun p => .bl (P p.2)) l fun y hy => ⟨_, by simp; rfl, by simp, by simp [h2 y hy]⟩
  have g := gAny_map l fun p => P p.2
  have q := unl_all (xs := l.map fun p => St p.1)
  rw [marks_nodup] at q
  simp only [List.length_map] at q
  have e3 := strsOf_map (l.map fun p => St p.1)
  rw [List.map_map] at e3
  have e4 : (l.map fun p => D.str (St p.1)) = l.map (D.str ∘ fun p => St p.1) := rfl
  show U_has_twice _ _ _ = _
  apply runG_rt
  subst hX
  have l2 : l.length ≤ 4000 := by omega
  simp only [kPick] at h1 e0 e ⊢
  by_cases hn : (l.map (·.1)).Nodup
  · have hu := q.mpr hn
    simp [c_pick, c_text, St_eq, wipeD, e0, l1, l2, e4, e3, hu, h1, e, g, hn]
  · have hu : ¬ ((unl (l.map fun p => St p.1) l.length : Nat) : Int) = (l.length : Int) := fun z => hn (q.mp (by omega))
    simp [c_pick, c_text, St_eq, wipeD, e0, l1, l2, e4, e3, hu, hn]
end Law

/-! GSpU: shapes looked at, read and shown. -/
namespace Law
open PySem L2 Gs
theorem any_mapx {α β : Type} (f : α → β) (P : β → Bool) (l : List α) : (l.map f).any P = l.any fun a => P (f a) := by
  induction l with
  | nil => rfl
  | cons a l ih => simp [ih]
theorem any_cong {α : Type} {P Q : α → Bool} : ∀ {l : List α}, (∀ a ∈ l, P a = Q a) → l.any P = l.any Q
  | [], _ => rfl
  | a :: l, h => by
    rw [List.any_cons, List.any_cons, h a (by simp), any_cong fun b hb => h b (by simp [hb])]
theorem pl_one {w : List Nat} (h : w ∈ kOnes) : Pl w := by
  simp only [kOnes, List.mem_cons, List.not_mem_nil, or_false] at h
  rcases h with h | h | h
  · exact .inr (.inr (.inl h))
  · exact .inr (.inr (.inr (.inl h)))
  · exact .inr (.inr (.inr (.inr (.inl h))))
/-- a walk over a list of parts, each with its own answer -/
theorem tw_list {k : Nat} {w : List Nat} (hw : Pl w) (r : List D) (ys : List (D × Bool)) (hl : ys.length ≤ 1000) (s : Sto) (h1 : S_inner_shapes [.tup (.str (St w) :: r)] s = .ok (.lst (ys.map (·.1))) s) (h2 : ∀ y ∈ ys, S_has_twice k [y.1] s = .ok (.bl y.2) s) : S_has_twice (k + 1) [.tup (.str (St w) :: r)] s = .ok (.bl (ys.any (·.2))) s := by
  classical
  have := tw_plain k hw r (ys.map (·.1)) (fun d => decide (S_has_twice k [d] s = .ok (.bl true) s)) (by simpa using hl) s h1 (fun y hy => by
    obtain ⟨z, hz, rfl⟩ := List.mem_map.mp hy
    rw [h2 z hz]
    cases z.2 <;> simp)
  rw [this, any_mapx]
  congr 2
  exact any_cong fun a ha => by rw [h2 a ha]; cases a.2 <;> simp
theorem nr_list {k : Nat} {w : List Nat} (hw : Pl w ∨ w = kPick) (r : List D) (ys : List (D × Bool)) (hl : ys.length ≤ 1000) (s : Sto) (h1 : S_inner_shapes [.tup (.str (St w) :: r)] s = .ok (.lst (ys.map (·.1))) s) (h2 : ∀ y ∈ ys, S_has_no_range k [y.1] s = .ok (.bl y.2) s) : S_has_no_range (k + 1) [.tup (.str (St w) :: r)] s = .ok (.bl (ys.any (·.2))) s := by
  classical
  have := nr_plain k hw r (ys.map (·.1)) (fun d => decide (S_has_no_range k [d] s = .ok (.bl true) s)) (by simpa using hl) s h1 (fun y hy => by
    obtain ⟨z, hz, rfl⟩ := List.mem_map.mp hy
    rw [h2 z hz]
    cases z.2 <;> simp)
  rw [this, any_mapx]
  congr 2
  exact any_cong fun a ha => by rw [h2 a ha]; cases a.2 <;> simp
theorem twp_list {k : Nat} (l : List (List Nat × D × Bool)) (hl : l.length ≤ 1000) (s : Sto) (h2 : ∀ p ∈ l, S_has_twice k [p.2.1] s = .ok (.bl p.2.2) s) : S_has_twice (k + 1) [.tup [.str (St kPick), .tup (l.map fun p => .tup [.str (St p.1), p.2.1])]] s = .ok (.bl (!decide (l.map (·.1)).Nodup || l.any fun p => p.2.2)) s := by
  classical
  have := tw_pick k (l.map fun p => (p.1, p.2.1)) (fun d => decide (S_has_twice k [d] s = .ok (.bl true) s)) (by simpa using hl) s (fun y hy => by
    obtain ⟨z, hz, rfl⟩ := List.mem_map.mp hy
    simp only
    rw [h2 z hz]
    cases z.2.2 <;> simp)
  rw [List.map_map, List.map_map, any_mapx] at this
  have e : (l.any fun a => decide (S_has_twice k [(a.1, a.2.1).2] s = .ok (.bl true) s)) = l.any fun p => p.2.2 := any_cong fun a ha => by
    simp only
    rw [h2 a ha]
    cases a.2.2 <;> simp
  rw [e] at this
  exact this
theorem shp_tw : ∀ (d : Nat) (q : Sq), Shp d q → ∀ (m : Nat) (s : Sto), S_has_twice (m + d + 1) [q.x] s = .ok (.bl q.tw) s
  | 0, q, ⟨w, hw, e⟩, m, s => by subst e; exact tw_list (.inl rfl) [.str (St w)] [] (by decide) s (in_use _ s) (fun y hy => nomatch hy)
  | d + 1, q, h, m, s => by
    rcases h with ⟨w, hw, e⟩ | ⟨i, j, hi, hj, e⟩ | ⟨a, ha, h45, e⟩ | ⟨ps, h1, h2, e⟩ | ⟨ps, h0, h1, h2, e⟩ | ⟨w, p, h1, h2, e⟩ | ⟨p, i, h0, h1, h2, e⟩
    · subst e; exact tw_list (.inl rfl) [.str (St w)] [] (by decide) s (in_use _ s) (fun y hy => nomatch hy)
    · subst e; exact tw_whole _ i j s
    · subst e
      have := isW_all ha
      refine (tw_text (m + (d + 1)) (a := a) (by omega) s).trans ?_
      show R.ok (D.bl _) s = R.ok (D.bl (!decide a.Nodup)) s
      by_cases q : a.Nodup <;> simp [q]
    · subst e
      have := tw_list (k := m + d + 1) (w := kRow) (.inr (.inl rfl)) [.tup (ps.map (·.x))] (ps.map fun p => (p.x, p.tw)) (by simp; omega) s (by rw [List.map_map]; exact in_row _ (by simp; omega) s) (fun y hy => by
        obtain ⟨p, hp, rfl⟩ := List.mem_map.mp hy
        exact shp_tw d p (h2 p hp) m s)
      rw [any_mapx] at this
      exact this
    · subst e
      have := twp_list (k := m + d + 1) (ps.map fun p => (p.1, p.2.x, p.2.tw)) (by simp; omega) s (fun y hy => by
        obtain ⟨p, hp, rfl⟩ := List.mem_map.mp hy
        exact shp_tw d p.2 (h2 p hp).2 m s)
      rw [List.map_map, List.map_map, any_mapx] at this
      exact this
    · subst e
      have := tw_list (k := m + d + 1) (w := w) (pl_one h1) [p.x] [(p.x, p.tw)] (by simp) s (in_one h1 _ s) (fun y hy => by
        rw [List.mem_singleton.mp hy]
        exact shp_tw d p h2 m s)
      rw [show ([(p.x, p.tw)].any (·.2)) = p.tw by simp] at this
      exact this
    · subst e
      have := tw_list (k := m + d + 1) (w := kAlike) (.inr (.inr (.inr (.inr (.inr rfl))))) [p.x, .int i] [(p.x, p.tw)] (by simp) s (in_alike _ _ s) (fun y hy => by
        rw [List.mem_singleton.mp hy]
        exact shp_tw d p h2 m s)
      rw [show ([(p.x, p.tw)].any (·.2)) = p.tw by simp] at this
      exact this
theorem shp_nr : ∀ (d : Nat) (q : Sq), Shp d q → ∀ (m : Nat) (s : Sto), S_has_no_range (m + d + 1) [q.x] s = .ok (.bl q.nr) s
  | 0, q, ⟨w, hw, e⟩, m, s => by subst e; exact nr_list (.inl (.inl rfl)) [.str (St w)] [] (by decide) s (in_use _ s) (fun y hy => nomatch hy)
  | d + 1, q, h, m, s => by
    rcases h with ⟨w, hw, e⟩ | ⟨i, j, hi, hj, e⟩ | ⟨a, ha, h45, e⟩ | ⟨ps, h1, h2, e⟩ | ⟨ps, h0, h1, h2, e⟩ | ⟨w, p, h1, h2, e⟩ | ⟨p, i, h0, h1, h2, e⟩
    · subst e; exact nr_list (.inl (.inl rfl)) [.str (St w)] [] (by decide) s (in_use _ s) (fun y hy => nomatch hy)
    · subst e; exact nr_whole _ i j s
    · subst e; exact nr_text _ a s
    · subst e
      have := nr_list (k := m + d + 1) (w := kRow) (.inl (.inr (.inl rfl))) [.tup (ps.map (·.x))] (ps.map fun p => (p.x, p.nr)) (by simp; omega) s (by rw [List.map_map]; exact in_row _ (by simp; omega) s) (fun y hy => by
        obtain ⟨p, hp, rfl⟩ := List.mem_map.mp hy
        exact shp_nr d p (h2 p hp) m s)
      rw [any_mapx] at this
      exact this
    · subst e
      have := nr_list (k := m + d + 1) (w := kPick) (.inr rfl) [.tup (ps.map fun p => .tup [.str (St p.1), p.2.x])] (ps.map fun p => (p.2.x, p.2.nr)) (by simp; omega) s (by rw [List.map_map]; exact in_pick ps _ (·.2.x) (by omega) s) (fun y hy => by
        obtain ⟨p, hp, rfl⟩ := List.mem_map.mp hy
        exact shp_nr d p.2 (h2 p hp).2 m s)
      rw [any_mapx] at this
      exact this
    · subst e
      have := nr_list (k := m + d + 1) (w := w) (.inl (pl_one h1)) [p.x] [(p.x, p.nr)] (by simp) s (in_one h1 _ s) (fun y hy => by
        rw [List.mem_singleton.mp hy]
        exact shp_nr d p h2 m s)
      rw [show ([(p.x, p.nr)].any (·.2)) = p.nr by simp] at this
      exact this
    · subst e
      have := nr_list (k := m + d + 1) (w := kAlike) (.inl (.inr (.inr (.inr (.inr (.inr rfl)))))) [p.x, .int i] [(p.x, p.nr)] (by simp) s (in_alike _ _ s) (fun y hy => by
        rw [List.mem_singleton.mp hy]
        exact shp_nr d p h2 m s)
      rw [show ([(p.x, p.nr)].any (·.2)) = p.nr by simp] at this
      exact this
/-! the note of a shape -/
theorem no_list {k : Nat} {lab w : List Nat} (hw : w = kRow ∨ w ∈ kOnes) (r : List D) (ys : List (D × D)) (hl : ys.length ≤ 1000) (s : Sto) (h1 : S_inner_shapes [.tup (.str (St w) :: r)] s = .ok (.lst (ys.map (·.1))) s) (h2 : ∀ y ∈ ys, S_note_of k [y.1, .str (St [])] s = .ok y.2 s) : S_note_of (k + 1) [.tup (.str (St w) :: r), .str (St lab)] s = .ok (nt lab w (.tup (ys.map (·.2)))) s := by
  have l1 : ys.length ≤ sizeLine := small_line (by omega)
  have e : ∀ a b c d, lcD (.nm 4) tTrue (eCallD (S_note_of k) (aCons (eV 4) aNil) [.str (Str.ofString "")]) [a, b, c, d, none] (ys.map (·.1)) s = .ok (ys.map (·.2)) s := fun a b c d =>
    lcD_mapL (fun p : D × D => p.1) (·.2) ys fun y hy => ⟨_, by simp; rfl, by simp, by simp [h2 y hy]⟩
  have e := e (some (.tup (.str (St w) :: r))) (some (.str (St lab))) (some (.str (St w))) none
  simp only [kOnes, List.mem_cons, List.not_mem_nil, or_false] at hw
  show U_note_of _ _ _ = _
  apply runG_rt
  rcases hw with h | h | h | h <;> subst h <;> simp only [kRow, kMany, kRising, kUnlike] at h1 e ⊢ <;> simp at e <;> simp [c_use, c_whole, c_text, c_pick, c_alike, St_eq, h1, wipeD, e, l1, nt]
theorem shp_note : ∀ (d : Nat) (q : Sq), Shp d q → ∀ (lab : List Nat) (m : Nat) (s : Sto), S_note_of (m + d + 1) [q.x, .str (St lab)] s = .ok (nq lab q) s
  | 0, q, ⟨w, hw, e⟩, lab, m, s => by
    subst e
    show U_note_of _ _ _ = _
    apply runG_rt
    simp [qUse, nq, nt, kUse, c_use]
  | d + 1, q, h, lab, m, s => by
    rcases h with ⟨w, hw, e⟩ | ⟨i, j, hi, hj, e⟩ | ⟨a, ha, h45, e⟩ | ⟨ps, h1, h2, e⟩ | ⟨ps, h0, h1, h2, e⟩ | ⟨w, p, h1, h2, e⟩ | ⟨p, i, h0, h1, h2, e⟩
    · subst e
      show U_note_of _ _ _ = _
      apply runG_rt
      simp [qUse, nq, nt, kUse, c_use]
    · subst e
      show U_note_of _ _ _ = _
      apply runG_rt
      simp [qWhole, nq, nt, kWhole, c_use, c_whole, St_eq, str_val hi, str_val hj]
    · subst e
      show U_note_of _ _ _ = _
      apply runG_rt
      simp [qText, nq, nt, kText, c_use, c_whole, c_text, St_eq]
    · subst e
      have := no_list (k := m + d + 1) (lab := lab) (w := kRow) (.inl rfl) [.tup (ps.map (·.x))] (ps.map fun p => (p.x, nq [] p)) (by simp; omega) s (by rw [List.map_map]; exact in_row _ (by simp; omega) s) (fun y hy => by
        obtain ⟨p, hp, rfl⟩ := List.mem_map.mp hy
        exact shp_note d p (h2 p hp) [] m s)
      rw [List.map_map] at this
      exact this
    · subst e
      have l1 : ps.length ≤ sizeLine := small_line (by omega)
      have e : ∀ a b c, lcD (.tp [.nm 3, .nm 4]) tTrue (eCall (S_note_of (m + (d + 1))) (aCons (eV 4) (aCons (eV 3) aNil))) [a, b, c, none, none] (ps.map fun p => .tup [.str (St p.1), p.2.x]) s = .ok (ps.map fun p => nq p.1 p.2) s := fun a b c =>
        lcD_mapL (fun p : List Nat × Sq => .tup [.str (St p.1), p.2.x]) (fun p => nq p.1 p.2) ps fun y hy => ⟨_, by simp; rfl, by simp, by
          have : S_note_of (m + (d + 1)) [y.2.x, .str (St y.1)] s = .ok (nq y.1 y.2) s := shp_note d y.2 (h2 y hy).2 y.1 m s
          simp [this]⟩
      have e := e (some (qPick ps).x) (some (.str (St lab))) (some (.str (St kPick)))
      show U_note_of _ _ _ = _
      apply runG_rt
      simp only [qPick, kPick] at e ⊢
      simp [nq, nt, c_use, c_whole, c_text, c_pick, St_eq, wipeD, e, l1] at e ⊢
      try simp [e, l1]
    · subst e
      exact no_list (k := m + d + 1) (lab := lab) (w := w) (.inr h1) [p.x] [(p.x, nq [] p)] (by simp) s (in_one h1 _ s) (fun y hy => by
        rw [List.mem_singleton.mp hy]
        exact shp_note d p h2 [] m s)
    · subst e
      have e1 := shp_note d p h2 [] m s
      have e2 : S_note_of (m + (d + 1)) [p.x, .str (St [])] s = .ok (nq [] p) s := e1
      show U_note_of _ _ _ = _
      apply runG_rt
      simp [qAlike, nq, nt, kAlike, c_use, c_whole, c_text, c_pick, c_alike, St_eq, str_val (small6 h0 h1)] at e2 ⊢
      simp [e2]
/-! read, and shown again -/
theorem nx_ups {d : Nat} {x : D} {t : List Nat} (k : Nat) (h : Nx d x t) : Nx (d + k) x t := by
  have up : ∀ {d : Nat} {x : D} {t : List Nat}, Nx d x t → Nx (d + 1) x t := by
    intro d
    induction d with
    | zero => exact fun ⟨lab, w, h1, h2, h3, h4⟩ => ⟨lab, w, h1, h2, .inl ⟨h3, h4⟩⟩
    | succ d ih => exact fun ⟨lab, w, h1, h2, h3⟩ => ⟨lab, w, h1, h2, h3.elim .inl fun ⟨ps, a, b, c⟩ => .inr ⟨ps, a, fun p hp => ih (b p hp), c⟩⟩
  induction k with
  | zero => exact h
  | succ k ih => exact up ih
theorem shp_show {q : Sq} (h : Shp 6 q) (hl : q.t.length ≤ 2000) (s : Sto) : S_show_shape [q.x] s = .ok (.str (St q.t)) s := by
  have e1 := shp_note 6 q h [] 63 s
  have e2 := show_val 6 (nq [] q) (hd [] q.t) (shp_nx 6 q h [] (.inl rfl)) (show q.t.length ≤ 90000 by omega) 63 s
  have e0 : hd [] q.t = q.t := rfl
  rw [e0] at e2
  simp only [Nat.reduceAdd] at e1 e2
  apply runG_rt
  simp [e1, e2]
end Law

/-! GSpN: the names that a shape uses; a shape is the same as itself; its text as the law writes it. -/
namespace Law
open PySem L2 Gs
theorem uni_nodup {a b : List (List Nat)} (ha : a.Nodup) (hb : b.Nodup) : (uni a b).Nodup := by
  unfold uni
  rw [List.nodup_append]
  refine ⟨ha, hb.filter _, fun x hx y hy e => ?_⟩
  have := (List.mem_filter.mp hy).2
  rw [decide_eq_true_eq] at this
  exact this (e ▸ hx)
theorem usF_nodup : ∀ (l : List (List (List Nat))) (a : List (List Nat)), a.Nodup → (∀ x ∈ l, x.Nodup) → (l.foldl uni a).Nodup
  | [], a, ha, _ => ha
  | x :: l, a, ha, h => usF_nodup l (uni a x) (uni_nodup ha (h x (by simp))) fun y hy => h y (by simp [hy])
theorem usF_len : ∀ (l : List (List (List Nat))) (a : List (List Nat)) (L : Nat), (∀ x ∈ l, x.length ≤ L) → (l.foldl uni a).length ≤ a.length + l.length * L
  | [], a, L, _ => by simp
  | x :: l, a, L, h => by
    have h1 := usF_len l (uni a x) L fun y hy => h y (by simp [hy])
    have h2 : (uni a x).length ≤ a.length + L := by
      unfold uni
      rw [List.length_append]
      have := List.length_filter_le (fun n => decide (n ∉ a)) x
      have := h x (by simp)
      omega
    rw [List.foldl_cons, List.length_cons, Nat.succ_mul]
    omega
theorem shp_nodup : ∀ (d : Nat) (q : Sq), Shp d q → q.us.Nodup
  | 0, q, ⟨w, hw, e⟩ => by subst e; simp [qUse]
  | d + 1, q, h => by
    rcases h with ⟨w, hw, e⟩ | ⟨i, j, hi, hj, e⟩ | ⟨a, ha, h45, e⟩ | ⟨ps, h1, h2, e⟩ | ⟨ps, h0, h1, h2, e⟩ | ⟨w, p, h1, h2, e⟩ | ⟨p, i, h0, h1, h2, e⟩
    · subst e; simp [qUse]
    · subst e; simp [qWhole]
    · subst e; simp [qText]
    · subst e
      exact usF_nodup _ [] (by simp) fun x hx => by
        obtain ⟨p, hp, rfl⟩ := List.mem_map.mp hx
        exact shp_nodup d p (h2 p hp)
    · subst e
      exact usF_nodup _ [] (by simp) fun x hx => by
        obtain ⟨p, hp, rfl⟩ := List.mem_map.mp hx
        exact shp_nodup d p.2 (h2 p hp).2
    · subst e
      exact usF_nodup _ [] (by simp) fun x hx => by
        rw [List.mem_singleton.mp hx]
        exact shp_nodup d p h2
    · subst e
      exact usF_nodup _ [] (by simp) fun x hx => by
        rw [List.mem_singleton.mp hx]
        exact shp_nodup d p h2
def nmsD (l : List (List Nat)) : List D := l.map fun t => .str (St t)
theorem mem_nms (l : List (List Nat)) (t : List Nat) : gNin (.str (St t)) (.lst (nmsD l)) = some (.bl (decide (t ∉ l))) := by
  have e : nmsD l = (l.map St).map D.str := by simp [nmsD]
  have h : gIn (.str (St t)) (.lst (nmsD l)) = some (.bl (decide (t ∈ l))) := by
    rw [e]
    simp only [gIn, strsOf_map, Option.map_some]
    congr 2
    have : (St t ∈ l.map St) ↔ t ∈ l := by
      rw [List.mem_map]
      constructor
      · rintro ⟨a, ha, q⟩
        rw [St_eq] at q
        rwa [← q]
      · exact fun h => ⟨t, h, rfl⟩
    simp [this]
  unfold gNin
  rw [e] at h ⊢
  simp only [gIn, strsOf_map, Option.map_some, Option.some.injEq, D.bl.injEq] at h ⊢
  rw [h]
  by_cases q : t ∈ l <;> simp [q]
end Law

/-! GSpM: the names that a shape uses, as the program and as the law tell them. -/
namespace Law
open PySem L2 Gs
def add1 (a : List (List Nat)) (n : List Nat) : List (List Nat) := if n ∈ a then a else a ++ [n]
theorem add_uni : ∀ (b a : List (List Nat)), b.Nodup → b.foldl add1 a = uni a b
  | [], a, _ => by simp [uni]
  | n :: b, a, h => by
    obtain ⟨h1, h2⟩ := List.nodup_cons.mp h
    rw [List.foldl_cons, add_uni b _ h2]
    unfold uni add1
    by_cases q : n ∈ a
    · rw [if_pos q, List.filter_cons, if_neg (by simp [q])]
    · rw [if_neg q, List.filter_cons, if_pos (by simp [q]), List.append_assoc]
      congr 1
      rw [List.singleton_append]
      congr 1
      refine List.filter_congr fun x hx => ?_
      have : x ≠ n := fun e => h1 (e ▸ hx)
      simp [this]
theorem add_len (a : List (List Nat)) (n : List Nat) : (add1 a n).length ≤ a.length + 1 := by
  unfold add1
  split <;> simp
theorem nu_in {k : Nat} {x y : Option D} (s0 : Sto) : ∀ (b a : List (List Nat)) (g : Sto) (z : Option D), a.length + b.length ≤ 10000 →
    ∃ z', forD (.nm 3) (L_names_used_1 (S_names_used k)) (nmsD b) [x, some (.ob s0.length), y, z] (s0 ++ .lst (nmsD a) :: g) = .nx [x, some (.ob s0.length), y, z'] (s0 ++ .lst (nmsD (b.foldl add1 a)) :: g)
  | [], a, g, z, _ => ⟨z, rfl⟩
  | n :: b, a, g, z, h => by
    have hl : a.length < sizeLine := small_line (n := a.length + 1) (by simp at h; omega)
    have hal := add_len a n
    obtain ⟨z', ih⟩ := nu_in (k := k) (x := x) (y := y) s0 b (add1 a n) g (some (.str (St n))) (by simp at h; omega)
    refine ⟨z', ?_⟩
    have e1 := mem_nms a n
    have eb : L_names_used_1 (S_names_used k) [x, some (.ob s0.length), y, some (.str (St n))] (s0 ++ .lst (nmsD a) :: g) = .nx [x, some (.ob s0.length), y, some (.str (St n))] (s0 ++ .lst (nmsD (add1 a n)) :: g) := by
      unfold add1
      by_cases q : n ∈ a
      · rw [if_pos q]
        rw [decide_eq_false (by simpa using q)] at e1
        simp [L_names_used_1, e1]
      · rw [if_neg q]
        rw [decide_eq_true q] at e1
        have e2 : nmsD (a ++ [n]) = nmsD a ++ [.str (St n)] := by simp [nmsD]
        have e3 : (nmsD a).length < sizeLine := by simpa [nmsD] using hl
        rw [e2]
        simp [L_names_used_1, e1, e3]
    show forD _ _ (.str (St n) :: nmsD b) _ _ = _
    simp only [forD, v_nm, List.set_cons_succ, List.set_cons_zero]
    rw [eb]
    exact ih
theorem nu_out {k : Nat} {x : Option D} (s0 : Sto) : ∀ (ps : List Sq) (a : List (List Nat)) (g : Sto) (y z : Option D), (∀ p ∈ ps, p.us.Nodup ∧ ∀ s, ∃ g, S_names_used k [p.x] s = .ok (.ob s.length) (s ++ .lst (nmsD p.us) :: g)) → a.length + (ps.map (·.us.length)).sum ≤ 10000 →
    ∃ y' z' g', forD (.nm 2) (L_names_used_0 (S_names_used k)) (ps.map (·.x)) [x, some (.ob s0.length), y, z] (s0 ++ .lst (nmsD a) :: g) = .nx [x, some (.ob s0.length), y', z'] (s0 ++ .lst (nmsD ((ps.map (·.us)).foldl uni a)) :: g')
  | [], a, g, y, z, _, _ => ⟨y, z, g, rfl⟩
  | p :: ps, a, g, y, z, h, hl => by
    obtain ⟨hn, h1⟩ := h p (by simp)
    obtain ⟨g2, e1⟩ := h1 (s0 ++ .lst (nmsD a) :: g)
    simp at hl
    obtain ⟨z1, e2⟩ := nu_in (k := k) (x := x) (y := some p.x) s0 p.us a (g ++ .gone :: g2) z (by omega)
    rw [add_uni _ _ hn] at e2
    have hu : (uni a p.us).length ≤ a.length + p.us.length := by
      unfold uni
      rw [List.length_append]
      have := List.length_filter_le (fun n => decide (n ∉ a)) p.us
      omega
    obtain ⟨y', z', g', ih⟩ := nu_out (x := x) s0 ps (uni a p.us) (g ++ .gone :: g2) (some p.x) z1 (fun q hq => h q (by simp [hq])) (by omega)
    refine ⟨y', z', g', ?_⟩
    have f1 := frz_mid (s0 ++ .lst (nmsD a) :: g) g2 (nmsD p.us)
    have eb : L_names_used_0 (S_names_used k) [x, some (.ob s0.length), some p.x, z] (s0 ++ .lst (nmsD a) :: g) = .nx [x, some (.ob s0.length), some p.x, z1] (s0 ++ .lst (nmsD (uni a p.us)) :: (g ++ .gone :: g2)) := by
      unfold L_names_used_0
      simp only [v_sFor, v_iSeq, v_eFrz, v_eCall, v_aCons, v_eV, v_aNil, List.getElem?_cons_succ, List.getElem?_cons_zero, v_bind_ok]
      rw [e1]
      simp only [v_bind_ok, f1]
      simp only [seqOf, R.ofO, v_bind_ok]
      have e3 : s0 ++ O.lst (nmsD a) :: g ++ O.gone :: g2 = s0 ++ O.lst (nmsD a) :: (g ++ O.gone :: g2) := by simp
      rw [e3]
      exact e2
    simp only [List.map_cons, forD, v_nm, List.set_cons_succ, List.set_cons_zero, List.foldl_cons]
    rw [eb]
    exact ih
theorem us_len : ∀ (d : Nat) (q : Sq), Shp d q → q.us.length ≤ q.t.length
  | 0, q, ⟨w, hw, e⟩ => by subst e; exact (isM_all hw).1
  | d + 1, q, h => by
    have key : ∀ (l : List (List (List Nat) × List Nat)), (∀ p ∈ l, p.1.length ≤ p.2.length) → ∀ a : List (List Nat), ((l.map (·.1)).foldl uni a).length + l.length ≤ a.length + (TL.joinL [44] (l.map (·.2))).length + 1 := by
      intro l hl a
      have h1 : ∀ (l : List (List (List Nat) × List Nat)) (a : List (List Nat)), (∀ p ∈ l, p.1.length ≤ p.2.length) → ((l.map (·.1)).foldl uni a).length ≤ a.length + ((l.map (·.2)).map (·.length)).sum := by
        intro l
        induction l with
        | nil => intro a _; simp
        | cons p l ih =>
          intro a hp
          have := ih (uni a p.1) fun q hq => hp q (by simp [hq])
          have h2 := hp p (by simp)
          have hu : (uni a p.1).length ≤ a.length + p.1.length := by
            unfold uni
            rw [List.length_append]
            have := List.length_filter_le (fun n => decide (n ∉ a)) p.1
            omega
          simp only [List.map_cons, List.foldl_cons, List.sum_cons]
          omega
      have h2 := h1 l a hl
      have h3 := (joinL_le (l.map (·.2))).2.2
      simp only [List.length_map] at h3
      omega
    rcases h with ⟨w, hw, e⟩ | ⟨i, j, hi, hj, e⟩ | ⟨a, ha, h45, e⟩ | ⟨ps, h1, h2, e⟩ | ⟨ps, h0, h1, h2, e⟩ | ⟨w, p, h1, h2, e⟩ | ⟨p, i, h0, h1, h2, e⟩
    · subst e; exact (isM_all hw).1
    · subst e; exact Nat.zero_le _
    · subst e; exact Nat.zero_le _
    · subst e
      have := key (ps.map fun p => (p.us, p.t)) (fun p hp => by
        obtain ⟨r, hr, rfl⟩ := List.mem_map.mp hp
        exact us_len d r (h2 r hr)) []
      rw [List.map_map, List.map_map] at this
      show (usL (ps.map (·.us))).length ≤ (brk kRow (ps.map (·.t))).length
      unfold usL brk
      simp only [List.length_append, List.length_singleton]
      have e1 : (ps.map ((·.1) ∘ fun p : Sq => (p.us, p.t))) = ps.map (·.us) := rfl
      have e2 : (ps.map ((·.2) ∘ fun p : Sq => (p.us, p.t))) = ps.map (·.t) := rfl
      rw [e1, e2] at this
      simp at this
      omega
    · subst e
      have := key (ps.map fun p => (p.2.us, hd p.1 p.2.t)) (fun p hp => by
        obtain ⟨r, hr, rfl⟩ := List.mem_map.mp hp
        have := us_len d r.2 (h2 r hr).2
        show r.2.us.length ≤ (hd r.1 r.2.t).length
        unfold hd
        split
        · exact this
        · simp; omega) []
      rw [List.map_map, List.map_map] at this
      show (usL (ps.map (·.2.us))).length ≤ (brk kPick (ps.map fun p => hd p.1 p.2.t)).length
      unfold usL brk
      simp only [List.length_append, List.length_singleton]
      have e1 : (ps.map ((·.1) ∘ fun p : List Nat × Sq => (p.2.us, hd p.1 p.2.t))) = ps.map (·.2.us) := rfl
      have e2 : (ps.map ((·.2) ∘ fun p : List Nat × Sq => (p.2.us, hd p.1 p.2.t))) = ps.map fun p => hd p.1 p.2.t := rfl
      rw [e1, e2] at this
      simp at this
      omega
    · subst e
      have := us_len d p h2
      show (usL [p.us]).length ≤ (brk w [p.t]).length
      have hf : (uni [] p.us).length ≤ p.us.length := by
        unfold uni
        rw [List.nil_append]
        exact List.length_filter_le _ _
      simp only [usL, List.foldl_cons, List.foldl_nil, brk, TL.joinL, List.length_append, List.length_singleton]
      omega
    · subst e
      have := us_len d p h2
      show (usL [p.us]).length ≤ (brk kAlike [p.t, nT i]).length
      have hf : (uni [] p.us).length ≤ p.us.length := by
        unfold uni
        rw [List.nil_append]
        exact List.length_filter_le _ _
      simp only [usL, List.foldl_cons, List.foldl_nil, brk, joinL_cons2, TL.joinL, List.length_append, List.length_cons, List.length_nil]
      omega
theorem brk_le {w : List Nat} {ts : List (List Nat)} {L : Nat} (h : (brk w ts).length ≤ L) : (∀ t ∈ ts, t.length ≤ L) ∧ (TL.joinL [44] ts).length ≤ L := by
  have h1 := (joinL_le ts).1
  unfold brk at h
  simp only [List.length_append, List.length_singleton] at h
  exact ⟨fun t ht => by have := h1 t ht; omega, by omega⟩
theorem hd_le {a t : List Nat} {L : Nat} (h : (hd a t).length ≤ L) : t.length ≤ L := by
  unfold hd at h
  split at h
  · exact h
  · simp at h; omega
/-- what names_used tells of a shape that is none of a use -/
theorem nu_val (k : Nat) {w : List Nat} (hw : w ≠ kUse) (r : List D) (ps : List Sq) (s : Sto) (h1 : ∀ s, S_inner_shapes [.tup (.str (St w) :: r)] s = .ok (.lst (ps.map (·.x))) s) (h2 : ∀ p ∈ ps, p.us.Nodup ∧ ∀ s, ∃ g, S_names_used k [p.x] s = .ok (.ob s.length) (s ++ .lst (nmsD p.us) :: g)) (hl : (ps.map (·.us.length)).sum ≤ 10000) : ∃ g, S_names_used (k + 1) [.tup (.str (St w) :: r)] s = .ok (.ob s.length) (s ++ .lst (nmsD (usL (ps.map (·.us)))) :: g) := by
  obtain ⟨y', z', g', e⟩ := nu_out (k := k) (x := some (.tup (.str (St w) :: r))) s ps [] [] none none h2 (by simpa using hl)
  refine ⟨g', ?_⟩
  have h1 := h1 (s ++ [.lst []])
  have e0 : nmsD [] = [] := rfl
  rw [e0] at e
  show U_names_used _ _ _ = _
  apply runG_rt
  simp only [kUse] at hw
  simp [c_use, St_eq, hw, h1, frzD, seqOf, e, usL]
end Law

/-! GSpL: a shape's names, by the program and the law; its text, by the law; the same as itself. -/
namespace Law
open PySem L2 Gs
theorem sum_le {α : Type} (f g : α → Nat) : ∀ l : List α, (∀ a ∈ l, f a ≤ g a) → (l.map f).sum ≤ (l.map g).sum
  | [], _ => Nat.le_refl _
  | a :: l, h => by
    have h1 := sum_le f g l fun b hb => h b (by simp [hb])
    have h2 := h a (by simp)
    simp only [List.map_cons, List.sum_cons]
    omega
theorem brk_sum {w : List Nat} {ts : List (List Nat)} {L : Nat} (h : (brk w ts).length ≤ L) : (ts.map (·.length)).sum ≤ L + 1 := by
  have := (joinL_le ts).2.2
  have h2 := (brk_le h).2
  omega
theorem shp_nu : ∀ (d : Nat) (q : Sq), Shp d q → q.t.length ≤ 2000 → ∀ (m : Nat) (s : Sto), ∃ g, S_names_used (m + d + 1) [q.x] s = .ok (.ob s.length) (s ++ .lst (nmsD q.us) :: g) := by
  have use : ∀ w k s, isM w = true → ∃ g, S_names_used (k + 1) [(qUse w).x] s = .ok (.ob s.length) (s ++ .lst (nmsD (qUse w).us) :: g) := fun w k s hw => by
    refine ⟨[], ?_⟩
    have l1 : 1 ≤ sizeLine := small_line (by omega)
    show U_names_used _ _ _ = _
    apply runG_rt
    simp [qUse, kUse, c_use, nmsD, l1]
  intro d
  induction d with
  | zero => intro q ⟨w, hw, e⟩ _ m s; subst e; exact use w m s hw
  | succ d ih =>
    intro q h hl m s
    rcases h with ⟨w, hw, e⟩ | ⟨i, j, hi, hj, e⟩ | ⟨a, ha, h45, e⟩ | ⟨ps, h1, h2, e⟩ | ⟨ps, h0, h1, h2, e⟩ | ⟨w, p, h1, h2, e⟩ | ⟨p, i, h0, h1, h2, e⟩
    · subst e; exact use w _ s hw
    · subst e; exact nu_val (m + d + 1) (w := kWhole) (by decide) [.int i, .int j] [] s (fun s => inner_flat (.inl rfl) s) (fun p hp => nomatch hp) (by simp)
    · subst e; exact nu_val (m + d + 1) (w := kText) (by decide) [.str (St a)] [] s (fun s => inner_flat (.inr rfl) s) (fun p hp => nomatch hp) (by simp)
    · subst e
      have hb := brk_le (w := kRow) (ts := ps.map (·.t)) hl
      have hs := brk_sum (w := kRow) (ts := ps.map (·.t)) hl
      rw [List.map_map] at hs
      have hs2 := sum_le (fun p : Sq => p.us.length) (fun p => p.t.length) ps fun p hp => us_len d p (h2 p hp)
      refine nu_val (m + d + 1) (w := kRow) (by decide) [.tup (ps.map (·.x))] ps s (fun s => in_row _ (by simp; omega) s) (fun p hp => ⟨shp_nodup d p (h2 p hp), fun s => ih p (h2 p hp) (hb.1 _ (List.mem_map_of_mem hp)) m s⟩) ?_
      have e1 : (ps.map ((·.length) ∘ (·.t))) = ps.map fun p : Sq => p.t.length := rfl
      rw [e1] at hs
      omega
    · subst e
      have hb := brk_le (w := kPick) (ts := ps.map fun p => hd p.1 p.2.t) hl
      have hs := brk_sum (w := kPick) (ts := ps.map fun p => hd p.1 p.2.t) hl
      rw [List.map_map] at hs
      have hs2 := sum_le (fun p : List Nat × Sq => p.2.us.length) (fun p => (hd p.1 p.2.t).length) ps fun p hp => by
        have := us_len d p.2 (h2 p hp).2
        unfold hd
        split
        · exact this
        · simp; omega
      have := nu_val (m + d + 1) (w := kPick) (by decide) [.tup (ps.map fun p => .tup [.str (St p.1), p.2.x])] (ps.map (·.2)) s (fun s => by rw [List.map_map]; exact in_pick ps _ (·.2.x) (by omega) s) (fun p hp => by
        obtain ⟨r, hr, rfl⟩ := List.mem_map.mp hp
        exact ⟨shp_nodup d r.2 (h2 r hr).2, fun s => ih r.2 (h2 r hr).2 (hd_le (hb.1 _ (List.mem_map_of_mem hr))) m s⟩) (by
        rw [List.map_map]
        have e1 : (ps.map ((fun p : Sq => p.us.length) ∘ (·.2))) = ps.map fun p : List Nat × Sq => p.2.us.length := rfl
        have e2 : (ps.map ((·.length) ∘ fun p : List Nat × Sq => hd p.1 p.2.t)) = ps.map fun p : List Nat × Sq => (hd p.1 p.2.t).length := rfl
        rw [e2] at hs
        rw [e1]
        omega)
      rw [List.map_map] at this
      exact this
    · subst e
      have hb := brk_le (w := w) (ts := [p.t]) hl
      have hu := us_len d p h2
      have ht := hb.1 p.t (by simp)
      exact nu_val (m + d + 1) (w := w) (by simp only [kOnes, List.mem_cons, List.not_mem_nil, or_false] at h1; rcases h1 with rfl | rfl | rfl <;> decide) [p.x] [p] s (fun s => in_one h1 _ s) (fun r hp => by
        rw [List.mem_singleton.mp hp]
        exact ⟨shp_nodup d p h2, fun s => ih p h2 ht m s⟩) (by simp; omega)
    · subst e
      have hb := brk_le (w := kAlike) (ts := [p.t, nT i]) hl
      have hu := us_len d p h2
      have ht := hb.1 p.t (by simp)
      exact nu_val (m + d + 1) (w := kAlike) (by decide) [p.x, .int i] [p] s (fun s => in_alike _ _ s) (fun r hp => by
        rw [List.mem_singleton.mp hp]
        exact ⟨shp_nodup d p h2, fun s => ih p h2 ht m s⟩) (by simp; omega)
/-! the law's own -/
theorem lc_names {a : List (List Nat)} (n : Nat) {e : E} {c : T} {δ : Sl} {s : Sto} (h : ∀ t : List Nat, c (δ.set n (some (.str (St t)))) s = .ok (decide (t ∉ a)) s ∧ e (δ.set n (some (.str (St t)))) s = .ok (.str (St t)) s) : ∀ b : List (List Nat), lcD (.nm n) c e δ (nmsD b) s = .ok (nmsD (b.filter fun t => decide (t ∉ a))) s
  | [] => rfl
  | t :: b => by
    have ih := lc_names n h b
    obtain ⟨h1, h2⟩ := h t
    show lcD _ _ _ _ (.str (St t) :: nmsD b) _ = _
    simp only [lcD, v_nm, h1]
    by_cases q : t ∈ a
    · rw [decide_eq_false (by simpa using q)]
      simp [ih, q]
    · rw [decide_eq_true q]
      have hf : (t :: b).filter (fun t => decide (t ∉ a)) = t :: b.filter (fun t => decide (t ∉ a)) := by simp [q]
      rw [hf]
      simp only [h2, v_bind_ok]
      rw [ih]
      rfl
theorem ln_loop {k : Nat} {x x1 : Option D} {s : Sto} : ∀ (ps : List Sq) (a : List (List Nat)) (y : Option D), (∀ p ∈ ps, ∀ s, S_l_uses k [p.x] s = .ok (.lst (nmsD p.us)) s) → (∀ p ∈ ps, p.us.length ≤ 10000) → a.length + (ps.map (·.us.length)).sum ≤ 10000 →
    ∃ y', forD (.nm 3) (L_l_uses_0 (S_l_uses k)) (ps.map (·.x)) [x, x1, some (.lst (nmsD a)), y, none, none] s = .nx [x, x1, some (.lst (nmsD ((ps.map (·.us)).foldl uni a))), y', none, none] s
  | [], a, y, _, _, _ => ⟨y, rfl⟩
  | p :: ps, a, y, h, h9, hl => by
    have e1 := h p (by simp) s
    have hp9 := h9 p (by simp)
    simp at hl
    have hu : (uni a p.us).length ≤ a.length + p.us.length := by
      unfold uni
      rw [List.length_append]
      have := List.length_filter_le (fun n => decide (n ∉ a)) p.us
      omega
    obtain ⟨y', ih⟩ := ln_loop (x := x) (x1 := x1) (s := s) ps (uni a p.us) (some p.x) (fun q hq => h q (by simp [hq])) (fun q hq => h9 q (by simp [hq])) (by omega)
    refine ⟨y', ?_⟩
    have e2 := lc_names (a := a) 5 (e := eV 5) (c := tV (eBin gNin (eV 5) (eV 2))) (δ := [x, x1, some (.lst (nmsD a)), some p.x, none, none]) (s := s) (fun t => by
      have := mem_nms a t
      simp [this]) p.us
    have hf := List.length_filter_le (fun t => decide (t ∉ a)) p.us
    have l1 : (p.us.filter fun t => decide (t ∉ a)).length ≤ sizeLine := small_line (by omega)
    have l2 : a.length + (p.us.filter fun t => decide (t ∉ a)).length ≤ sizeLine := small_line (by omega)
    have l3 : (nmsD (p.us.filter fun t => decide (t ∉ a))).length = (p.us.filter fun t => decide (t ∉ a)).length := by simp [nmsD]
    have l4 : (nmsD a).length = a.length := by simp [nmsD]
    have e3 : nmsD (uni a p.us) = nmsD a ++ nmsD (p.us.filter fun t => decide (t ∉ a)) := by simp [nmsD, uni]
    have eb : L_l_uses_0 (S_l_uses k) [x, x1, some (.lst (nmsD a)), some p.x, none, none] s = .nx [x, x1, some (.lst (nmsD (uni a p.us))), some p.x, none, none] s := by
      rw [e3]
      obtain ⟨F, hF⟩ : ∃ F, (p.us.filter fun t => decide (t ∉ a)) = F := ⟨_, rfl⟩
      rw [hF] at e2 l1 l2 l3 ⊢
      simp [L_l_uses_0, e1, seqOf, wipeD, e2, l1, l2, l3, l4]
    simp only [List.map_cons, forD, v_nm, List.set_cons_succ, List.set_cons_zero, List.foldl_cons]
    rw [eb]
    exact ih
end Law

/-! GSpK: a shape's names and its text, by the law; the same as itself. -/
namespace Law
open PySem L2 Gs
theorem ln_use {k : Nat} {w : List Nat} (s : Sto) : S_l_uses (k + 1) [(qUse w).x] s = .ok (.lst (nmsD [w])) s := by
  have l1 : 1 ≤ sizeLine := small_line (by omega)
  show U_l_uses _ _ _ = _
  apply runG_rt
  simp [qUse, kUse, c_use, nmsD, l1]
/-- the parts of a shape that is none of a use, as the law tells them -/
theorem ln_val {k : Nat} {w : List Nat} (r : List D) (ps : List Sq) (s : Sto) (hw : w ≠ kUse) (h0 : ∃ a b, (sSeq (sIf (tV (eBin gEq (eBin gIx (eV 0) (eC (.int 0))) (eC (.str (Str.ofString "row"))))) (sSet 1 (eFn gList (aCons (eBin gIx (eV 0) (eC (.int 1))) (aNil)))) (sNx))
    (sSeq (sIf (tV (eBin gEq (eBin gIx (eV 0) (eC (.int 0))) (eC (.str (Str.ofString "pick"))))) (sSet 1 (eFz (fLc (iSeq (eBin gIx (eV 0) (eC (.int 1)))) [4, 3] (.tp [.nm 4, .nm 3]) (tTrue) (eV 3)))) (sNx))
    (sIf (tV (eBin gIn (eBin gIx (eV 0) (eC (.int 0))) (eTup (aCons (eC (.str (Str.ofString "many"))) (aCons (eC (.str (Str.ofString "rising"))) (aCons (eC (.str (Str.ofString "unlike"))) (aCons (eC (.str (Str.ofString "alike"))) (aNil)))))))) (sSet 1 (eFz (fLst (aCons (eBin gIx (eV 0) (eC (.int 1))) (aNil))))) (sNx)))) [some (.tup (.str (St w) :: r)), some (.lst []), none, none, none, none] s = .nx [some (.tup (.str (St w) :: r)), some (.lst (ps.map (·.x))), none, a, b, none] s ∧ a = none ∧ b = none)
    (h : ∀ p ∈ ps, ∀ s, S_l_uses k [p.x] s = .ok (.lst (nmsD p.us)) s) (h9 : ∀ p ∈ ps, p.us.length ≤ 10000) (hl : (ps.map (·.us.length)).sum ≤ 10000) : S_l_uses (k + 1) [.tup (.str (St w) :: r)] s = .ok (.lst (nmsD (usL (ps.map (·.us))))) s := by
  obtain ⟨a, b, e0, rfl, rfl⟩ := h0
  obtain ⟨y', e⟩ := ln_loop (k := k) (x := some (.tup (.str (St w) :: r))) (x1 := some (.lst (ps.map (·.x)))) (s := s) ps [] none h h9 (by simpa using hl)
  show U_l_uses _ _ _ = _
  apply runG_rt
  simp only [kUse] at hw
  have hn : nmsD [] = [] := rfl
  rw [hn] at e
  rw [v_sSeq] at e0
  simp only [v_sSeq] at e0
  rw [v_sSeq]
  have e1 : (sIf (tV (eBin gEq (eBin gIx (eV 0) (eC (.int 0))) (eC (.str (Str.ofString "use"))))) (sRet (eFz (fLst (aCons (eBin gIx (eV 0) (eC (.int 1))) (aNil))))) (sNx)) ([D.tup (.str (St w) :: r)].map some ++ List.replicate (6 - [D.tup (.str (St w) :: r)].length) none) s = .nx [some (.tup (.str (St w) :: r)), none, none, none, none, none] s := by
    simp [c_use, St_eq, hw]
  rw [e1]
  simp only []
  rw [v_sSeq]
  have e2 : (sSet 1 (eFz (fLst (aNil)))) [some (.tup (.str (St w) :: r)), none, none, none, none, none] s = .nx [some (.tup (.str (St w) :: r)), some (.lst []), none, none, none, none] s := by simp
  rw [e2]
  simp only []
  have assoc : ∀ (A B C D : S) (δ : Sl) (s : Sto) (δ' : Sl) (s' : Sto), sSeq A (sSeq B C) δ s = .nx δ' s' → sSeq A (sSeq B (sSeq C D)) δ s = D δ' s' := fun A B C D δ s δ' s' h => by
    simp only [v_sSeq] at h ⊢
    cases q1 : A δ s with
    | nx δ1 s1 =>
      rw [q1] at h
      simp only at h ⊢
      cases q2 : B δ1 s1 with
      | nx δ2 s2 =>
        rw [q2] at h
        simp only at h ⊢
        rw [h]
      | _ => rw [q2] at h; exact nomatch h
    | _ => rw [q1] at h; exact nomatch h
  refine (assoc _ _ _ _ _ _ _ _ (by simp only [v_sSeq]; exact e0)).trans ?_
  simp [seqOf, e, usL]
end Law

/-! GSpJ: a shape's names and its text, by the law; the same as itself. -/
namespace Law
open PySem L2 Gs
theorem usum_row {d : Nat} {ps : List Sq} {w : List Nat} (h2 : ∀ p ∈ ps, Shp d p) (hl : (brk w (ps.map (·.t))).length ≤ 2000) : (ps.map (·.us.length)).sum ≤ 10000 ∧ ∀ p ∈ ps, p.us.length ≤ 10000 := by
  have hs := brk_sum hl
  have hb := brk_le hl
  rw [List.map_map] at hs
  have hs2 := sum_le (fun p : Sq => p.us.length) (fun p => p.t.length) ps fun p hp => us_len d p (h2 p hp)
  have e1 : (ps.map ((·.length) ∘ (·.t))) = ps.map fun p : Sq => p.t.length := rfl
  rw [e1] at hs
  refine ⟨by omega, fun p hp => ?_⟩
  have := hb.1 _ (List.mem_map_of_mem hp)
  have := us_len d p (h2 p hp)
  omega
theorem usum_pick {d : Nat} {ps : List (List Nat × Sq)} {w : List Nat} (h2 : ∀ p ∈ ps, Shp d p.2) (hl : (brk w (ps.map fun p => hd p.1 p.2.t)).length ≤ 2000) : (ps.map fun p => p.2.us.length).sum ≤ 10000 ∧ (∀ p ∈ ps, p.2.us.length ≤ 10000) ∧ ∀ p ∈ ps, p.2.t.length ≤ 2000 := by
  have hs := brk_sum hl
  have hb := brk_le hl
  rw [List.map_map] at hs
  have hx : ∀ p ∈ ps, p.2.us.length ≤ (hd p.1 p.2.t).length := fun p hp => by
    have := us_len d p.2 (h2 p hp)
    unfold hd
    split
    · exact this
    · simp; omega
  have hs2 := sum_le (fun p : List Nat × Sq => p.2.us.length) (fun p => (hd p.1 p.2.t).length) ps hx
  have e2 : (ps.map ((·.length) ∘ fun p : List Nat × Sq => hd p.1 p.2.t)) = ps.map fun p : List Nat × Sq => (hd p.1 p.2.t).length := rfl
  rw [e2] at hs
  refine ⟨by omega, fun p hp => ?_, fun p hp => hd_le (hb.1 _ (List.mem_map_of_mem hp))⟩
  have h3 : (hd p.1 p.2.t).length ≤ 2000 := hb.1 _ (List.mem_map_of_mem hp)
  have := hx p hp
  omega
theorem shp_ln : ∀ (d : Nat) (q : Sq), Shp d q → q.t.length ≤ 2000 → ∀ (m : Nat) (s : Sto), S_l_uses (m + d + 1) [q.x] s = .ok (.lst (nmsD q.us)) s := by
  intro d
  induction d with
  | zero => intro q ⟨w, hw, e⟩ _ m s; subst e; exact ln_use s
  | succ d ih =>
    intro q h hl m s
    have l1 : ∀ k : Nat, k ≤ 100 → k ≤ sizeLine := fun k hk => small_line (by omega)
    rcases h with ⟨w, hw, e⟩ | ⟨i, j, hi, hj, e⟩ | ⟨a, ha, h45, e⟩ | ⟨ps, h1, h2, e⟩ | ⟨ps, h0, h1, h2, e⟩ | ⟨w, p, h1, h2, e⟩ | ⟨p, i, h0, h1, h2, e⟩
    · subst e; exact ln_use s
    · subst e
      exact ln_val (k := m + d + 1) (w := kWhole) [.int i, .int j] [] s (by decide) ⟨_, _, by simp [kWhole, c_row, c_pick, c_many, c_rising, c_unlike, c_alike, St_eq, gIn, strsOf], rfl, rfl⟩ (fun p hp => nomatch hp) (fun p hp => nomatch hp) (by simp)
    · subst e
      exact ln_val (k := m + d + 1) (w := kText) [.str (St a)] [] s (by decide) ⟨_, _, by simp [kText, c_row, c_pick, c_many, c_rising, c_unlike, c_alike, St_eq, gIn, strsOf], rfl, rfl⟩ (fun p hp => nomatch hp) (fun p hp => nomatch hp) (by simp)
    · subst e
      have hu := usum_row (w := kRow) h2 hl
      have hb := (brk_le (w := kRow) (ts := ps.map (·.t)) hl).1
      have lp := l1 ps.length (by omega)
      exact ln_val (k := m + d + 1) (w := kRow) [.tup (ps.map (·.x))] ps s (by decide) ⟨_, _, by simp [kRow, c_row, c_pick, c_many, c_rising, c_unlike, c_alike, St_eq, gIn, strsOf, lp], rfl, rfl⟩ (fun p hp s => ih p (h2 p hp) (hb _ (List.mem_map_of_mem hp)) m s) hu.2 hu.1
    · subst e
      have hu := usum_pick (w := kPick) (fun p hp => (h2 p hp).2) hl
      have lp := l1 ps.length (by omega)
      have e := lcD_mapL (p := .tp [.nm 4, .nm 3]) (c := tTrue) (e := eV 3) (δ := [some (qPick ps).x, some (.lst []), none, none, none, none]) (s := s) (fun p : List Nat × Sq => .tup [.str (St p.1), p.2.x]) (fun p => p.2.x) ps fun a _ => ⟨_, by simp; rfl, by simp, by simp⟩
      have := ln_val (k := m + d + 1) (w := kPick) [.tup (ps.map fun p => .tup [.str (St p.1), p.2.x])] (ps.map (·.2)) s (by decide) ⟨_, _, by
        simp only [qPick, kPick] at e
        simp [kPick, c_row, c_pick, c_many, c_rising, c_unlike, c_alike, St_eq, gIn, strsOf, lp, wipeD, seqOf, e], rfl, rfl⟩ (fun p hp s => by
        obtain ⟨r, hr, rfl⟩ := List.mem_map.mp hp
        exact ih r.2 (h2 r hr).2 (hu.2.2 r hr) m s) (fun p hp => by
        obtain ⟨r, hr, rfl⟩ := List.mem_map.mp hp
        exact hu.2.1 r hr) (by rw [List.map_map]; exact hu.1)
      rw [List.map_map] at this
      exact this
    · subst e
      have hu := usum_row (d := d) (ps := [p]) (w := w) (fun r hr => by rw [List.mem_singleton.mp hr]; exact h2) hl
      have ht := (brk_le (w := w) (ts := [p.t]) hl).1 p.t (by simp)
      refine ln_val (k := m + d + 1) (w := w) [p.x] [p] s (by simp only [kOnes, List.mem_cons, List.not_mem_nil, or_false] at h1; rcases h1 with rfl | rfl | rfl <;> decide) ⟨_, _, ?_, rfl, rfl⟩ (fun r hr s => by rw [List.mem_singleton.mp hr]; exact ih p h2 ht m s) hu.2 hu.1
      have z1 := l1 1 (by decide)
      simp only [kOnes, List.mem_cons, List.not_mem_nil, or_false] at h1
      rcases h1 with rfl | rfl | rfl <;> simp [kMany, kRising, kUnlike, c_row, c_pick, c_many, c_rising, c_unlike, c_alike, St_eq, gIn, strsOf, z1]
    · subst e
      have hb := (brk_le (w := kAlike) (ts := [p.t, nT i]) hl).1
      have ht := hb p.t (by simp)
      have hu := us_len d p h2
      refine ln_val (k := m + d + 1) (w := kAlike) [p.x, .int i] [p] s (by decide) ⟨_, _, ?_, rfl, rfl⟩ (fun r hr s => by rw [List.mem_singleton.mp hr]; exact ih p h2 ht m s) (fun r hr => by rw [List.mem_singleton.mp hr]; omega) (by simp; omega)
      have z1 := l1 1 (by decide)
      simp [kAlike, c_row, c_pick, c_many, c_rising, c_unlike, c_alike, St_eq, gIn, strsOf, z1]
/-! the same -/
theorem shp_sam : ∀ (d : Nat) (q : Sq), Shp d q → Sam (3 * d + 2) q.x
  | 0, q, ⟨w, hw, e⟩ => by
    subst e
    exact sam_tup (k := 1) (fun x hx => by
      simp only [List.mem_cons, List.not_mem_nil, or_false] at hx
      rcases hx with rfl | rfl <;> exact sam_str _) (by simp)
  | d + 1, q, h => by
    rcases h with ⟨w, hw, e⟩ | ⟨i, j, hi, hj, e⟩ | ⟨a, ha, h45, e⟩ | ⟨ps, h1, h2, e⟩ | ⟨ps, h0, h1, h2, e⟩ | ⟨w, p, h1, h2, e⟩ | ⟨p, i, h0, h1, h2, e⟩
    · subst e
      exact (sam_tup (k := 1) (fun x hx => by
        simp only [List.mem_cons, List.not_mem_nil, or_false] at hx
        rcases hx with rfl | rfl <;> exact sam_str _) (by simp)).up (by omega)
    · subst e
      exact (sam_tup (k := 1) (fun x hx => by
        simp only [List.mem_cons, List.not_mem_nil, or_false] at hx
        rcases hx with rfl | rfl | rfl
        · exact sam_str _
        · exact sam_int _
        · exact sam_int _) (by simp)).up (by omega)
    · subst e
      exact (sam_tup (k := 1) (fun x hx => by
        simp only [List.mem_cons, List.not_mem_nil, or_false] at hx
        rcases hx with rfl | rfl <;> exact sam_str _) (by simp)).up (by omega)
    · subst e
      have := sam_tup (k := 3 * d + 2) (xs := ps.map (·.x)) (fun x hx => by
        obtain ⟨r, hr, rfl⟩ := List.mem_map.mp hx
        exact shp_sam d r (h2 r hr)) (by simp; omega)
      exact (sam_tup (k := 3 * d + 3) (fun x hx => by
        simp only [List.mem_cons, List.not_mem_nil, or_false] at hx
        rcases hx with rfl | rfl
        · exact (sam_str _).up (by omega)
        · exact this) (by simp)).up (by omega)
    · subst e
      have := sam_tup (k := 3 * d + 3) (xs := ps.map fun p => .tup [.str (St p.1), p.2.x]) (fun x hx => by
        obtain ⟨r, hr, rfl⟩ := List.mem_map.mp hx
        exact sam_tup (k := 3 * d + 2) (fun x hx => by
          simp only [List.mem_cons, List.not_mem_nil, or_false] at hx
          rcases hx with rfl | rfl
          · exact (sam_str _).up (by omega)
          · exact shp_sam d r.2 (h2 r hr).2) (by simp)) (by simp; omega)
      exact (sam_tup (k := 3 * d + 4) (fun x hx => by
        simp only [List.mem_cons, List.not_mem_nil, or_false] at hx
        rcases hx with rfl | rfl
        · exact (sam_str _).up (by omega)
        · exact this) (by simp)).up (by omega)
    · subst e
      exact (sam_tup (k := 3 * d + 2) (fun x hx => by
        simp only [List.mem_cons, List.not_mem_nil, or_false] at hx
        rcases hx with rfl | rfl
        · exact (sam_str _).up (by omega)
        · exact shp_sam d p h2) (by simp)).up (by omega)
    · subst e
      exact (sam_tup (k := 3 * d + 2) (fun x hx => by
        simp only [List.mem_cons, List.not_mem_nil, or_false] at hx
        rcases hx with rfl | rfl | rfl
        · exact (sam_str _).up (by omega)
        · exact shp_sam d p h2
        · exact (sam_int _).up (by omega)) (by simp)).up (by omega)
end Law

/-! GW: given texts as lists of signs; lists of texts; statements one by one. -/
namespace Law
open PySem L2 Gs
def W (s : String) : List Nat := (Str.ofString s).cps.toList
@[simp] theorem St_W (s : String) : St (W s) = Str.ofString s := tl_St _
theorem W_St (s : String) : Str.ofString s = St (W s) := (St_W s).symm
theorem seqE {α : Type} {Q : α → Prop} {A R : S} {δ : Sl} {s : Sto} (f : α → Sl) (g : Sto) (h : ∃ x, Q x ∧ A δ s = .nx (f x) g) (h2 : ∀ x, Q x → ∃ s', R (f x) g = .rt (.bl true) s') : ∃ s', sSeq A R δ s = .rt (.bl true) s' := by
  obtain ⟨x, q, e⟩ := h
  obtain ⟨s', e2⟩ := h2 x q
  exact ⟨s', by rw [v_sSeq, e]; exact e2⟩
/-- as seqE, where the store may be another one -/
theorem seqG {α : Type} {Q : α → Prop} {A R : S} {δ : Sl} {s : Sto} (f : α → Sl) (g : α → Sto) (h : ∃ x, Q x ∧ A δ s = .nx (f x) (g x)) (h2 : ∀ x, Q x → ∃ s', R (f x) (g x) = .rt (.bl true) s') : ∃ s', sSeq A R δ s = .rt (.bl true) s' := by
  obtain ⟨x, q, e⟩ := h
  obtain ⟨s', e2⟩ := h2 x q
  exact ⟨s', by rw [v_sSeq, e]; exact e2⟩
theorem seq_nx {A R : S} {δ : Sl} {s : Sto} {r : RS} (δ' : Sl) (s' : Sto) (h : A δ s = .nx δ' s') (h2 : R δ' s' = r) : sSeq A R δ s = r := by
  rw [v_sSeq, h]
  exact h2
def txs (l : List (List Nat)) : D := .lst (l.map fun t => D.str (St t))
theorem ix_txs {l : List (List Nat)} (hl : l.length ≤ 100000) {c m : Int} (hm : (l.length : Int) = m) (h0 : 0 < m) : ∃ t, t ∈ l ∧ gIx (txs l) (.int (c % m)) = some (.str (St t)) := by
  have h1 := Int.emod_nonneg c (show m ≠ 0 by omega)
  have h2 := Int.emod_lt_of_pos c h0
  obtain ⟨j, hj⟩ : ∃ j : Nat, c % m = (j : Int) := ⟨(c % m).toNat, by omega⟩
  have hj2 : j < l.length := by omega
  refine ⟨l[j], List.getElem_mem _, ?_⟩
  have e : atI (l.map fun t => D.str (St t)) (j : Int) = some (.str (St l[j])) := by
    rw [atI_ofNat _ (by simpa using hj2)]
    simp
  have l1 : l.length ≤ sizeLine := small_line (by omega)
  rw [hj]
  simp [txs, e, l1]
theorem add_W (w : String) (l : List Nat) (h : (W w).length + l.length ≤ 100000) : gAdd (.str (Str.ofString w)) (.str (St l)) = some (.str (St (W w ++ l))) := by
  rw [← St_W w, v_addS, if_pos (small_line h)]
theorem add_R (l : List Nat) (w : String) (h : l.length + (W w).length ≤ 100000) : gAdd (.str (St l)) (.str (Str.ofString w)) = some (.str (St (l ++ W w))) := by
  rw [← St_W w, v_addS, if_pos (small_line h)]
theorem mul_W {w : String} {l : List Nat} (j : Nat) (hw : W w = l) (h1 : l.length ≤ 10) (h2 : j ≤ 5000) : gMul (.str (Str.ofString w)) (.int (j : Int)) = some (.str (St (List.replicate j l).flatten)) := by
  have e : Str.ofString w = St l := by rw [← St_W w, hw]
  have e2 : repS (St l) (j : Int) = St (List.replicate j l).flatten := by
    unfold repS
    rw [St_tl]
    rfl
  have h3 : l.length * j ≤ 100000 := Nat.le_trans (Nat.mul_le_mul h1 h2) (by decide)
  rw [e]
  simp only [gMul, St_len, Int.toNat_natCast]
  rw [if_pos ⟨by omega, by omega, by omega, h3⟩, e2]
theorem nT_nat (n : Nat) : nT (n : Int) = TL.numL n := by
  unfold nT
  rw [if_neg (by omega)]
  rfl
theorem nT_neg (n : Nat) : nT (-((n + 1 : Nat) : Int)) = 45 :: TL.numL (n + 1) := by
  unfold nT
  rw [if_pos (by omega), show (-((n + 1 : Nat) : Int)).natAbs = n + 1 by omega]
theorem nN_figs {n : Nat} : ∀ c ∈ TL.numL n, c ∈ figs := fun c hc => figs_of (TL.numL_digits _ _ hc)
theorem fig_sig {c : Nat} (h : c ∈ figs) : c ∈ wsig := by simp [wsig, h]
theorem isW_figs {l : List Nat} (h1 : 1 ≤ l.length) (h2 : l.length ≤ 62) (h : ∀ c ∈ l, c ∈ figs) : isW l = true := by
  simp only [isW, Bool.and_eq_true, decide_eq_true_eq, List.all_eq_true]
  exact ⟨⟨h1, h2⟩, fun c hc => fig_sig (h c hc)⟩
/-- the parts of a text in brackets -/
theorem brk_one (w : String) (u : List Nat) : W w ++ u ++ [41] = W w ++ (u ++ [41]) := by simp
end Law

/-! GSpI: a shape's text, as the law writes it. -/
namespace Law
open PySem L2 Gs
theorem opn {w : String} {l : List Nat} (h : (Str.ofString w).cps.toList = l ++ [40]) : ∃ K, Str.ofString w = St K ∧ K.length = l.length + 1 ∧ l ++ [40] = K := ⟨_, of_St h, by simp, rfl⟩
theorem dS (a b : List Nat) (h : a.length + b.length ≤ 100000) : gAdd (.str (St a)) (.str (St b)) = some (.str (St (a ++ b))) := d_addS a b h
theorem lt_use (k : Nat) (w : List Nat) (s : Sto) : S_l_text (k + 1) [(qUse w).x] s = .ok (.str (St w)) s := by
  show U_l_text _ _ _ = _
  apply runG_rt
  simp [qUse, kUse, c_use]
theorem lt_whole (k : Nat) {i j : Int} (hi : i.natAbs < 10 ^ 60) (hj : j.natAbs < 10 ^ 60) (s : Sto) : S_l_text (k + 1) [(qWhole i j).x] s = .ok (.str (St (qWhole i j).t)) s := by
  have li := nT_len hi
  have lj := nT_len hj
  obtain ⟨K, k1, k2, k3⟩ := opn (w := "whole(") (l := kWhole) (by decide +kernel)
  have k2 : K.length = 6 := k2
  have a1 := dS K (nT i) (by omega)
  have a2 := dS (K ++ nT i) [44] (by rw [List.length_append]; simp only [List.length_singleton]; omega)
  have a3 := dS (K ++ nT i ++ [44]) (nT j) (by rw [List.length_append, List.length_append]; simp only [List.length_singleton]; omega)
  have a4 := dS (K ++ nT i ++ [44] ++ nT j) [41] (by rw [List.length_append, List.length_append, List.length_append]; simp only [List.length_singleton]; omega)
  have et : (qWhole i j).t = K ++ nT i ++ [44] ++ nT j ++ [41] := by rw [← k3]; simp [qWhole, brk, TL.joinL]
  rw [et]
  show U_l_text _ _ _ = _
  apply runG_rt
  simp [qWhole, c_use, c_whole, k1, St_eq, kWhole, str_val hi, str_val hj, a1, a2, a3, a4, -Gs.v_addS, -Law.v_addS, -List.append_assoc]
theorem lt_text (k : Nat) {a : List Nat} (ha : isW a = true) (s : Sto) : S_l_text (k + 1) [(qText a).x] s = .ok (.str (St (qText a).t)) s := by
  have la := (isW_all ha).2.1
  obtain ⟨K, k1, k2, k3⟩ := opn (w := "text(") (l := kText) (by decide +kernel)
  have k2 : K.length = 5 := k2
  have a1 := dS K a (by omega)
  have a2 := dS (K ++ a) [41] (by rw [List.length_append]; simp only [List.length_singleton]; omega)
  have et : (qText a).t = K ++ a ++ [41] := by rw [← k3]; simp [qText, brk, TL.joinL]
  rw [et]
  show U_l_text _ _ _ = _
  apply runG_rt
  simp [qText, c_use, c_whole, c_text, k1, St_eq, kText, a1, a2, -Gs.v_addS, -Law.v_addS, -List.append_assoc]
theorem lt_row (k : Nat) {ps : List Sq} (h1 : ps.length ≤ 8) (hl : (qRow ps).t.length ≤ 2000) (s : Sto) (h : ∀ p ∈ ps, S_l_text k [p.x] s = .ok (.str (St p.t)) s) : S_l_text (k + 1) [(qRow ps).x] s = .ok (.str (St (qRow ps).t)) s := by
  have hj := (brk_le (w := kRow) (ts := ps.map (·.t)) hl).2
  obtain ⟨J, hJ⟩ : ∃ J, TL.joinL [44] (ps.map (·.t)) = J := ⟨_, rfl⟩
  have jv := gJoin_val (ps.map (·.t)) (by omega)
  rw [hJ] at hj jv
  rw [List.map_map] at jv
  have jv : gJoin (.str (St [44])) [.lst (ps.map fun p => D.str (St p.t))] = some (.str (St J)) := jv
  obtain ⟨K, k1, k2, k3⟩ := opn (w := "row(") (l := kRow) (by decide +kernel)
  have k2 : K.length = 4 := k2
  have a1 := dS K J (by omega)
  have a2 := dS (K ++ J) [41] (by rw [List.length_append]; simp only [List.length_singleton]; omega)
  have et : (qRow ps).t = K ++ J ++ [41] := by rw [← k3, ← hJ]; rfl
  have lp : ps.length ≤ sizeLine := small_line (by omega)
  have e : lcD (.nm 1) tTrue (eCall (S_l_text k) (aCons (eV 1) aNil)) [some (qRow ps).x, none, none] (ps.map (·.x)) s = .ok (ps.map fun p => D.str (St p.t)) s :=
    lcD_mapL (fun p : Sq => p.x) (fun p => .str (St p.t)) ps fun p hp => ⟨_, by simp; rfl, by simp, by simp [h p hp]⟩
  rw [et]
  show U_l_text _ _ _ = _
  apply runG_rt
  simp only [qRow, kRow] at e ⊢
  simp [c_use, c_whole, c_text, c_row, k1, St_eq, wipeD, e, lp, jv, a1, a2, -Gs.v_addS, -Law.v_addS, -List.append_assoc]
theorem lt_pick (k : Nat) {ps : List (List Nat × Sq)} (h1 : ps.length ≤ 10) (hl : (qPick ps).t.length ≤ 2000) (s : Sto) (h : ∀ p ∈ ps, p.1 ≠ [] ∧ S_l_text k [p.2.x] s = .ok (.str (St p.2.t)) s) : S_l_text (k + 1) [(qPick ps).x] s = .ok (.str (St (qPick ps).t)) s := by
  have hb := brk_le (w := kPick) (ts := ps.map fun p => hd p.1 p.2.t) hl
  have hj := hb.2
  obtain ⟨J, hJ⟩ : ∃ J, TL.joinL [44] (ps.map fun p => hd p.1 p.2.t) = J := ⟨_, rfl⟩
  have jv := gJoin_val (ps.map fun p => hd p.1 p.2.t) (by omega)
  rw [hJ] at hj jv
  rw [List.map_map] at jv
  have jv : gJoin (.str (St [44])) [.lst (ps.map fun p => D.str (St (hd p.1 p.2.t)))] = some (.str (St J)) := jv
  obtain ⟨K, k1, k2, k3⟩ := opn (w := "pick(") (l := kPick) (by decide +kernel)
  have k2 : K.length = 5 := k2
  have a1 := dS K J (by omega)
  have a2 := dS (K ++ J) [41] (by rw [List.length_append]; simp only [List.length_singleton]; omega)
  have et : (qPick ps).t = K ++ J ++ [41] := by rw [← k3, ← hJ]; rfl
  have lp : ps.length ≤ sizeLine := small_line (by omega)
  have e : lcD (.tp [.nm 2, .nm 1]) tTrue (eBin gAdd (eBin gAdd (eV 2) (eC (.str (Str.ofString ":")))) (eCall (S_l_text k) (aCons (eV 1) aNil))) [some (qPick ps).x, none, none] (ps.map fun p => .tup [.str (St p.1), p.2.x]) s = .ok (ps.map fun p => D.str (St (hd p.1 p.2.t))) s :=
    lcD_mapL (fun p : List Nat × Sq => .tup [.str (St p.1), p.2.x]) (fun p => .str (St (hd p.1 p.2.t))) ps fun p hp => ⟨_, by simp; rfl, by simp, by
      obtain ⟨h2, h3⟩ := h p hp
      have h4 : (hd p.1 p.2.t).length ≤ 2000 := hb.1 _ (List.mem_map_of_mem hp)
      have ehd : hd p.1 p.2.t = p.1 ++ [58] ++ p.2.t := by unfold hd; rw [if_neg h2]
      have h5 : p.1.length + 1 + p.2.t.length ≤ 2000 := by rw [ehd, List.length_append, List.length_append] at h4; exact h4
      have b1 := dS p.1 [58] (by simp only [List.length_singleton]; omega)
      have b2 := dS (p.1 ++ [58]) p.2.t (by rw [List.length_append]; simp only [List.length_singleton]; omega)
      rw [ehd]
      simp [h3, b1, b2, -Gs.v_addS, -Law.v_addS, -List.append_assoc]⟩
  rw [et]
  show U_l_text _ _ _ = _
  apply runG_rt
  simp only [qPick, kPick, c_col] at e ⊢
  simp [c_use, c_whole, c_text, c_row, c_pick, k1, St_eq, wipeD, e, lp, jv, a1, a2, -Gs.v_addS, -Law.v_addS, -List.append_assoc]
theorem lt_alike (k : Nat) {p : Sq} {i : Int} (h0 : 1 ≤ i) (h6 : i ≤ 6) (hl : (qAlike p i).t.length ≤ 2000) (s : Sto) (h : S_l_text k [p.x] s = .ok (.str (St p.t)) s) : S_l_text (k + 1) [(qAlike p i).x] s = .ok (.str (St (qAlike p i).t)) s := by
  have ht := (brk_le (w := kAlike) (ts := [p.t, nT i]) hl).1 p.t (by simp)
  have li := nT_len (small6 h0 h6)
  obtain ⟨K, k1, k2, k3⟩ := opn (w := "alike(") (l := kAlike) (by decide +kernel)
  have k2 : K.length = 6 := k2
  have a1 := dS K p.t (by omega)
  have a2 := dS (K ++ p.t) [44] (by rw [List.length_append]; simp only [List.length_singleton]; omega)
  have a3 := dS (K ++ p.t ++ [44]) (nT i) (by rw [List.length_append, List.length_append]; simp only [List.length_singleton]; omega)
  have a4 := dS (K ++ p.t ++ [44] ++ nT i) [41] (by rw [List.length_append, List.length_append, List.length_append]; simp only [List.length_singleton]; omega)
  have et : (qAlike p i).t = K ++ p.t ++ [44] ++ nT i ++ [41] := by rw [← k3]; simp [qAlike, brk, TL.joinL]
  rw [et]
  show U_l_text _ _ _ = _
  apply runG_rt
  simp [qAlike, c_use, c_whole, c_text, c_row, c_pick, c_alike, k1, St_eq, kAlike, str_val (small6 h0 h6), h, a1, a2, a3, a4, -Gs.v_addS, -Law.v_addS, -List.append_assoc]
theorem lt_one (k : Nat) {p : Sq} {w : List Nat} (hw : w ∈ kOnes) (hl : (qOne w p).t.length ≤ 2000) (s : Sto) (h : S_l_text k [p.x] s = .ok (.str (St p.t)) s) : S_l_text (k + 1) [(qOne w p).x] s = .ok (.str (St (qOne w p).t)) s := by
  have ht := (brk_le (w := w) (ts := [p.t]) hl).1 p.t (by simp)
  have wl := (kw_W w (by simp [hw])).2
  have a1 := dS w [40] (by simp only [List.length_singleton]; omega)
  have a2 := dS (w ++ [40]) p.t (by rw [List.length_append]; simp only [List.length_singleton]; omega)
  have a3 := dS (w ++ [40] ++ p.t) [41] (by rw [List.length_append, List.length_append]; simp only [List.length_singleton]; omega)
  have et : (qOne w p).t = w ++ [40] ++ p.t ++ [41] := by simp [qOne, brk, TL.joinL]
  rw [et]
  have hne : w ≠ kUse ∧ w ≠ kWhole ∧ w ≠ kText ∧ w ≠ kRow ∧ w ≠ kPick ∧ w ≠ kAlike := by
    simp only [kOnes, List.mem_cons, List.not_mem_nil, or_false] at hw
    rcases hw with rfl | rfl | rfl <;> decide
  obtain ⟨n1, n2, n3, n4, n5, n6⟩ := hne
  simp only [kUse, kWhole, kText, kRow, kPick, kAlike] at n1 n2 n3 n4 n5 n6
  show U_l_text _ _ _ = _
  apply runG_rt
  simp [qOne, c_use, c_whole, c_text, c_row, c_pick, c_alike, St_eq, n1, n2, n3, n4, n5, n6, h, a1, a2, a3, -Gs.v_addS, -Law.v_addS, -List.append_assoc]
theorem shp_lt : ∀ (d : Nat) (q : Sq), Shp d q → q.t.length ≤ 2000 → ∀ (m : Nat) (s : Sto), S_l_text (m + d + 1) [q.x] s = .ok (.str (St q.t)) s := by
  intro d
  induction d with
  | zero => intro q ⟨w, hw, e⟩ _ m s; subst e; exact lt_use m w s
  | succ d ih =>
    intro q h hl m s
    rcases h with ⟨w, hw, e⟩ | ⟨i, j, hi, hj, e⟩ | ⟨a, ha, h45, e⟩ | ⟨ps, h1, h2, e⟩ | ⟨ps, h0, h1, h2, e⟩ | ⟨w, p, h1, h2, e⟩ | ⟨p, i, h0, h1, h2, e⟩
    · subst e; exact lt_use _ w s
    · subst e; exact lt_whole _ hi hj s
    · subst e; exact lt_text _ ha s
    · subst e
      have hb := (brk_le (w := kRow) (ts := ps.map (·.t)) hl).1
      exact lt_row (m + d + 1) h1 hl s fun p hp => ih p (h2 p hp) (hb _ (List.mem_map_of_mem hp)) m s
    · subst e
      have hu := usum_pick (w := kPick) (fun p hp => (h2 p hp).2) hl
      exact lt_pick (m + d + 1) h1 hl s fun p hp => ⟨fun z => by have := (isM_all (h2 p hp).1).1; rw [z] at this; simp at this, ih p.2 (h2 p hp).2 (hu.2.2 p hp) m s⟩
    · subst e
      exact lt_one (m + d + 1) h1 hl s (ih p h2 ((brk_le (w := w) (ts := [p.t]) hl).1 p.t (by simp)) m s)
    · subst e
      exact lt_alike (m + d + 1) h0 h1 hl s (ih p h2 ((brk_le (w := kAlike) (ts := [p.t, nT i]) hl).1 p.t (by simp)) m s)
end Law

/-! GBk: books: their data, their texts; a shape by its name. -/
namespace Law
open PySem L2 Gs
def noname : Ex := ⟨"NoName", []⟩
/-- the rows of a book: a name, a shape -/
abbrev Bok := List (List Nat × Sq)
def bkL (rows : Bok) : List D := rows.map fun p => .tup [.str (St p.1), p.2.x]
def bkT (rows : Bok) : List Nat := TL.joinL [10] (rows.map fun p => p.1 ++ [61] ++ p.2.t)
def nmB (rows : Bok) : List (List Nat) := rows.map (·.1)
structure RowOk (names : List (List Nat)) (p : List Nat × Sq) : Prop where
  nm : isM p.1 = true
  sh : Shp 6 p.2
  tw : p.2.tw = false
  nr : p.2.nr = false
  us : ∀ n ∈ p.2.us, n ∈ names
  ln : p.2.t.length ≤ 1000
  nu : ∃ w r, p.2.x = .tup (.str (St w) :: r) ∧ w ≠ kUse
structure BokOk (rows : Bok) : Prop where
  row : ∀ p ∈ rows, RowOk (nmB rows) p
  nd : (nmB rows).Nodup
  lo : 1 ≤ rows.length
  hi : rows.length ≤ 8
/-- what stands for the book: the frozen list, or a list of the store -/
structure Bk (s : Sto) (b : D) (rows : Bok) : Prop where
  rs : rsv s b = .lst (bkL rows)
  wk : ∃ o, wkOf s b = some (bkL rows, o) ∧ Stl (bkL rows, o) s
theorem Bk.frz (s : Sto) (rows : Bok) : Bk s (.lst (bkL rows)) rows := ⟨rfl, none, rfl, stl_none _ _⟩
theorem Bk.mid (s0 g : Sto) (rows : Bok) : Bk (s0 ++ .lst (bkL rows) :: g) (.ob s0.length) rows := ⟨rsv_mid _ _ _, some s0.length, wk_mid _ _ _, stl_some (get_mid _ _ _)⟩
theorem bkL_len (rows : Bok) : (bkL rows).length = rows.length := by simp [bkL]
/-! a shape by its name -/
theorem so_loop {q : Wk} {s : Sto} {b : D} {n : List Nat} (hq : Stl q s) : ∀ (ps : Bok) (y z : Option D), (∀ p ∈ ps, p.1 ≠ n) → ∀ tl, ∃ y' z', forO q (.tp [.nm 2, .nm 3]) L_shape_of_0 (bkL ps ++ tl) [some b, some (.str (St n)), y, z] s = forO q (.tp [.nm 2, .nm 3]) L_shape_of_0 tl [some b, some (.str (St n)), y', z'] s
  | [], y, z, _, tl => ⟨y, z, rfl⟩
  | p :: ps, y, z, h, tl => by
    obtain ⟨y', z', ih⟩ := so_loop (b := b) (n := n) hq ps (some (.str (St p.1))) (some p.2.x) (fun r hr => h r (by simp [hr])) tl
    refine ⟨y', z', ?_⟩
    have hne := h p (by simp)
    have eb : L_shape_of_0 [some b, some (.str (St n)), some (.str (St p.1)), some p.2.x] s = .nx [some b, some (.str (St n)), some (.str (St p.1)), some p.2.x] s := by
      simp [L_shape_of_0, St_eq, hne]
    show forO q _ _ (.tup [.str (St p.1), p.2.x] :: (bkL ps ++ tl)) _ _ = _
    simp only [forO, if_pos hq, v_tp, v_ps1, v_nm, v_ps0, List.set_cons_succ, List.set_cons_zero]
    rw [eb]
    exact ih
theorem so_hit {s : Sto} {b : D} {rows : Bok} (hb : Bk s b rows) (hn : (nmB rows).Nodup) {p : List Nat × Sq} (hp : p ∈ rows) : S_shape_of [b, .str (St p.1)] s = .ok p.2.x s := by
  obtain ⟨o, hw, hq⟩ := hb.wk
  obtain ⟨l1, l2, e⟩ := List.append_of_mem hp
  have hne : ∀ r ∈ l1, r.1 ≠ p.1 := fun r hr z => by
    rw [e, nmB, List.map_append, List.nodup_append] at hn
    exact hn.2.2 r.1 (List.mem_map_of_mem hr) p.1 (by simp) z
  obtain ⟨y', z', e1⟩ := so_loop (b := b) (n := p.1) hq l1 none none hne (bkL (p :: l2))
  have e2 : bkL rows = bkL l1 ++ bkL (p :: l2) := by rw [e]; simp [bkL]
  rw [← e2] at e1
  have e3 : forO (bkL rows, o) (.tp [.nm 2, .nm 3]) L_shape_of_0 (bkL (p :: l2)) [some b, some (.str (St p.1)), y', z'] s = .rt p.2.x s := by
    show forO _ _ _ (.tup [.str (St p.1), p.2.x] :: bkL l2) _ _ = _
    simp only [forO, if_pos hq, v_tp, v_ps1, v_nm, v_ps0, List.set_cons_succ, List.set_cons_zero]
    simp [L_shape_of_0]
  apply runG_rt
  simp [hw, e1, e3]
theorem so_miss {s : Sto} {b : D} {rows : Bok} (hb : Bk s b rows) {n : List Nat} (hn : n ∉ nmB rows) : S_shape_of [b, .str (St n)] s = .exc noname s := by
  obtain ⟨o, hw, hq⟩ := hb.wk
  have hne : ∀ r ∈ rows, r.1 ≠ n := fun r hr z => hn (z ▸ List.mem_map_of_mem hr)
  obtain ⟨y', z', e1⟩ := so_loop (b := b) (n := n) hq rows none none hne []
  rw [List.append_nil] at e1
  have e3 : forO (bkL rows, o) (.tp [.nm 2, .nm 3]) L_shape_of_0 [] [some b, some (.str (St n)), y', z'] s = .nx [some b, some (.str (St n)), y', z'] s := by
    simp only [forO, if_pos hq]
  apply runG_exc
  simp [hw, e1, e3]
  exact ⟨rfl, rfl⟩
theorem lb_no {s : Sto} {b : D} {rows : Bok} (hb : Bk s b rows) (hok : BokOk rows) {p : List Nat × Sq} (hp : p ∈ rows) : S_leads_back [b, .str (St p.1)] s = .ok (.bl false) s := by
  have e1 := so_hit hb hok.nd hp
  obtain ⟨w, r, hx, hw⟩ := (hok.row p hp).nu
  have hl := bkL_len rows
  have h1 := hok.lo
  have h8 := hok.hi
  have ll : rows.length ≤ sizeLine := small_line (by omega)
  have ro : rngOk (rows.length : Int) := rngOk_nat (by omega)
  obtain ⟨n, en⟩ : ∃ n, rows.length = n + 1 := ⟨rows.length - 1, by omega⟩
  have er : rngD 0 rows.length = .int 0 :: (List.range n).map fun i => .int (0 + ((i + 1 : Nat) : Int)) := by
    rw [en]
    simp [rngD, List.range_succ_eq_map, Function.comp_def]
  have rs := hb.rs
  rw [hx] at e1
  simp only [kUse] at hw
  apply runG_rt
  simp [e1, rs, hl, ll, ro, er, forD, L_leads_back_0, c_use, St_eq, hw]
/-! no line end in a shape's text -/
theorem mem_joinL {c s : Nat} : ∀ {ts : List (List Nat)}, c ∈ TL.joinL [s] ts → c = s ∨ ∃ t ∈ ts, c ∈ t
  | [], h => by simp [TL.joinL] at h
  | [p], h => .inr ⟨p, by simp, by simpa [TL.joinL] using h⟩
  | p :: q :: r, h => by
    have e : TL.joinL [s] (p :: q :: r) = p ++ ([s] ++ TL.joinL [s] (q :: r)) := rfl
    rw [e] at h
    simp only [List.mem_append, List.mem_singleton] at h
    rcases h with h | h | h
    · exact .inr ⟨p, by simp, h⟩
    · exact .inl h
    · rcases mem_joinL h with h | ⟨t, ht, hc⟩
      · exact .inl h
      · exact .inr ⟨t, by simp [ht], hc⟩
theorem sig_no10 : (∀ c ∈ wsig, c ≠ 10) ∧ (∀ c ∈ lets, c ≠ 10 ∧ c ≠ 61) := by decide
theorem hd_no10 {lab w : List Nat} (hl : LabOk lab) (hw : isW w = true) : 10 ∉ hd lab w := fun h => by
  unfold hd at h
  split at h
  · exact sig_no10.1 10 ((isW_all hw).2.2 10 h) rfl
  · simp only [List.mem_append, List.mem_singleton] at h
    rcases h with (h | h) | h
    · exact (sig_no10.2 10 (hl.all.2 10 h)).1 rfl
    · exact absurd h (by decide)
    · exact sig_no10.1 10 ((isW_all hw).2.2 10 h) rfl
theorem nx_no10 : ∀ (d : Nat) (x : D) (t : List Nat), Nx d x t → 10 ∉ t
  | 0, x, t, ⟨lab, w, hl, hw, _, e⟩ => by subst e; exact hd_no10 hl hw
  | d + 1, x, t, ⟨lab, w, hl, hw, h⟩ => by
    rcases h with ⟨_, e⟩ | ⟨ps, _, hp, _, e⟩
    · subst e; exact hd_no10 hl hw
    · subst e
      intro h
      simp only [List.mem_append, List.mem_singleton] at h
      rcases h with ((h | h) | h) | h
      · exact hd_no10 hl hw h
      · exact absurd h (by decide)
      · rcases mem_joinL h with h | ⟨t, ht, hc⟩
        · exact absurd h (by decide)
        · obtain ⟨p, hpp, rfl⟩ := List.mem_map.mp ht
          exact nx_no10 d p.1 p.2 (hp p hpp) hc
      · exact absurd h (by decide)
theorem c_nl : Str.ofString "\n" = St [10] := of_St (by decide +kernel)
theorem c_eqs : Str.ofString "=" = St [61] := of_St (by decide +kernel)
theorem row_no10 {names : List (List Nat)} {p : List Nat × Sq} (h : RowOk names p) : 10 ∉ p.1 ++ [61] ++ p.2.t := fun hm => by
  simp only [List.mem_append, List.mem_singleton] at hm
  rcases hm with (hm | hm) | hm
  · exact (sig_no10.2 10 ((isM_all h.nm).2.2 10 hm)).1 rfl
  · exact absurd hm (by decide)
  · exact nx_no10 6 _ _ (shp_nx 6 p.2 h.sh [] (.inl rfl)) hm
theorem row_part {names : List (List Nat)} {p : List Nat × Sq} (h : RowOk names p) : gPart (.str (St (p.1 ++ [61] ++ p.2.t))) [.str (St [61])] = some (.tup [.str (St p.1), .str (St [61]), .str (St p.2.t)]) := by
  have h8 := (isM_all h.nm).2.1
  have hln := h.ln
  have hlen : ((St [61]).length == 0) = false := by decide
  have hs : (St (p.1 ++ [61] ++ p.2.t)).length ≤ sizeLine := small_line (by simp; omega)
  simp only [gPart, hlen, hs, and_self, if_true]
  have e : Txt.partition (St p.1 ++ St [61] ++ St p.2.t) (St [61]) = (St p.1, St [61], St p.2.t) := TL.partition_app (s := 61) (S := []) rfl (fun hc => (sig_no10.2 61 ((isM_all h.nm).2.2 61 hc)).2 rfl)
  rw [St_cat, St_cat] at e
  rw [e]
end Law

/-! GBk2: a book read from its text, shown as it. -/
namespace Law
open PySem L2 Gs
def prD (rows : Bok) : List D := rows.map fun p => .tup [.str (St p.1), .str (St [61]), .str (St p.2.t)]
theorem seq_nx' {A R : S} {δ : Sl} {s : Sto} {r : RS} (δ' : Sl) (s' : Sto) (h : A δ s = .nx δ' s') (h2 : R δ' s' = r) : sSeq A R δ s = r := by
  rw [v_sSeq, h]
  exact h2
theorem joinN_len {s : Nat} : ∀ ts : List (List Nat), (TL.joinL [s] ts).length ≤ (ts.map (·.length)).sum + ts.length
  | [] => by simp [TL.joinL]
  | [p] => by simp [TL.joinL]
  | p :: q :: r => by
    have ih := joinN_len (s := s) (q :: r)
    have e : TL.joinL [s] (p :: q :: r) = p ++ ([s] ++ TL.joinL [s] (q :: r)) := rfl
    rw [e]
    simp only [List.length_append, List.length_cons, List.length_nil, List.map_cons, List.sum_cons] at ih ⊢
    omega
theorem bkT_len {rows : Bok} (h : BokOk rows) : (bkT rows).length ≤ 10000 := by
  have h1 := joinN_len (s := 10) (rows.map fun p => p.1 ++ [61] ++ p.2.t)
  have h2 : ∀ (l : Bok), (∀ p ∈ l, RowOk (nmB rows) p) → ((l.map fun p => p.1 ++ [61] ++ p.2.t).map (·.length)).sum ≤ 1010 * l.length := by
    intro l
    induction l with
    | nil => intro _; simp
    | cons p l ih =>
      intro hp
      have := ih fun q hq => hp q (by simp [hq])
      have hr := hp p (by simp)
      have h8 := (isM_all hr.nm).2.1
      have hln := hr.ln
      simp only [List.map_cons, List.sum_cons, List.length_cons, List.length_append, List.length_nil] at this ⊢
      omega
  have := h2 rows h.row
  have := h.hi
  rw [List.length_map] at h1
  show (TL.joinL [10] _).length ≤ _
  omega
theorem bk_split {rows : Bok} (h : BokOk rows) : gSplit (.str (St (bkT rows))) [.str (St [10])] = some (.lst (rows.map fun p => .str (St (p.1 ++ [61] ++ p.2.t)))) := by
  have hl := bkT_len h
  have hlen : ((St [10]).length == 0) = false := by decide
  have hs : (St (bkT rows)).length + 2 ≤ sizeLine := by rw [St_len]; exact small_line (by omega)
  simp only [gSplit, hlen, hs, and_self, if_true]
  have ej : St (bkT rows) = Txt.join (St [10]) ((rows.map fun p => p.1 ++ [61] ++ p.2.t).map St) := by
    rw [TL.join_eq]
    refine (TL.ext_tl ?_).symm
    have := TL.tl_join (St [10]) ((rows.map fun p => p.1 ++ [61] ++ p.2.t).map St)
    rw [this]
    have e : ((rows.map fun p => p.1 ++ [61] ++ p.2.t).map St).map TL.tl = rows.map fun p => p.1 ++ [61] ++ p.2.t := by
      rw [List.map_map]
      exact (List.map_congr_left (g := id) fun x _ => rfl).trans (List.map_id _)
    rw [e]
    rfl
  have es := TL.split_join (y := St [10]) (s := 10) (S := []) rfl (by decide +kernel) (parts := (rows.map fun p => p.1 ++ [61] ++ p.2.t).map St) (by
    have := h.lo
    intro z
    have h0 := congrArg List.length z
    simp only [List.length_map, List.length_nil] at h0
    omega) (fun p hp => by
    obtain ⟨t, ht, rfl⟩ := List.mem_map.mp hp
    obtain ⟨r, hr, rfl⟩ := List.mem_map.mp ht
    exact row_no10 (h.row r hr))
  rw [ej, es]
  simp
/-! its rows -/
theorem ro_bounds {x0 x1 x5 x6 : Option D} {s : Sto} : ∀ (ps : Bok) (y z w : Option D), (∀ p ∈ ps, Shp 6 p.2 ∧ p.2.t.length ≤ 1000) → ∃ y' z' w', forD (.tp [.nm 2, .nm 3, .nm 4]) L_rows_of_0 (prD ps) [x0, x1, y, z, w, x5, x6] s = .nx [x0, x1, y', z', w', x5, x6] s
  | [], y, z, w, _ => ⟨y, z, w, rfl⟩
  | p :: ps, y, z, w, h => by
    obtain ⟨h1, h2⟩ := h p (by simp)
    obtain ⟨y', z', w', ih⟩ := ro_bounds (x0 := x0) (x1 := x1) (x5 := x5) (x6 := x6) (s := s) ps (some (.str (St p.1))) (some (.str (St [61]))) (some (.str (St p.2.t))) (fun r hr => h r (by simp [hr]))
    refine ⟨y', z', w', ?_⟩
    have e1 := bounds_val (shp_nx 6 p.2 h1 [] (.inl rfl)) (show (hd [] p.2.t).length ≤ 2000 from by show p.2.t.length ≤ 2000; omega) s
    have e1 : S_in_bounds [.str (St p.2.t)] s = .ok .non s := e1
    have eb : L_rows_of_0 [x0, x1, some (.str (St p.1)), some (.str (St [61])), some (.str (St p.2.t)), x5, x6] s = .nx [x0, x1, some (.str (St p.1)), some (.str (St [61])), some (.str (St p.2.t)), x5, x6] s := by
      simp [L_rows_of_0, e1]
    show forD _ _ (.tup [.str (St p.1), .str (St [61]), .str (St p.2.t)] :: prD ps) _ _ = _
    simp only [forD, v_tp, v_ps1, v_nm, v_ps0, List.set_cons_succ, List.set_cons_zero]
    rw [eb]
    exact ih
theorem ro_read {x0 x1 x6 : Option D} (s0 : Sto) : ∀ (ps done : Bok) (y z w : Option D) (g : Sto), (∀ p ∈ ps, isM p.1 = true ∧ Shp 6 p.2 ∧ p.2.t.length ≤ 1000) → done.length + ps.length ≤ 100 → ∃ y' z' w' g', forD (.tp [.nm 2, .nm 3, .nm 4]) L_rows_of_1 (prD ps) [x0, x1, y, z, w, some (.ob s0.length), x6] (s0 ++ .lst (bkL done) :: g) = .nx [x0, x1, y', z', w', some (.ob s0.length), x6] (s0 ++ .lst (bkL (done ++ ps)) :: g')
  | [], done, y, z, w, g, _, _ => ⟨y, z, w, g, by simp [prD, forD]⟩
  | p :: ps, done, y, z, w, g, h, hl => by
    obtain ⟨h0, h1, h2⟩ := h p (by simp)
    obtain ⟨g1, e1⟩ := read_val (shp_nx 6 p.2 h1 [] (.inl rfl)) (show (hd [] p.2.t).length ≤ 2000 from by show p.2.t.length ≤ 2000; omega) (s0 ++ .lst (bkL done) :: g)
    have e1 : S_read_note [.str (St p.2.t)] (s0 ++ .lst (bkL done) :: g) = .ok (nq [] p.2) (s0 ++ .lst (bkL done) :: g ++ g1) := e1
    obtain ⟨g2, e2⟩ := shp_rd 6 p.2 h1 [] 50 (s0 ++ .lst (bkL done) :: g ++ g1)
    have e2 : S_unlabelled 70 [nq [] p.2] (s0 ++ .lst (bkL done) :: g ++ g1) = .ok p.2.x (s0 ++ .lst (bkL done) :: g ++ g1 ++ g2) := unl_ok e2
    obtain ⟨y', z', w', g', ih⟩ := ro_read (x0 := x0) (x1 := x1) (x6 := x6) s0 ps (done ++ [p]) (some (.str (St p.1))) (some (.str (St [61]))) (some (.str (St p.2.t))) (g ++ g1 ++ g2) (fun r hr => h r (by simp [hr])) (by simp at hl ⊢; omega)
    refine ⟨y', z', w', g', ?_⟩
    have hm := (isM_all h0).2.1
    have em := fun s => mark_val p.1 (by omega) s
    rw [h0] at em
    have hd : (bkL done).length < sizeLine := by rw [bkL_len]; exact small_line (n := done.length + 1) (by simp at hl; omega)
    have l2 : 2 ≤ sizeLine := small_line (by omega)
    have e3 : bkL (done ++ [p]) = bkL done ++ [.tup [.str (St p.1), p.2.x]] := by simp [bkL]
    have a1 : s0 ++ O.lst (bkL done) :: g ++ g1 = s0 ++ O.lst (bkL done) :: (g ++ g1) := by simp
    have a2 : s0 ++ O.lst (bkL done) :: (g ++ g1) ++ g2 = s0 ++ O.lst (bkL done) :: (g ++ g1 ++ g2) := by simp
    rw [a1] at e1 e2
    rw [a2] at e2
    have eb : L_rows_of_1 [x0, x1, some (.str (St p.1)), some (.str (St [61])), some (.str (St p.2.t)), some (.ob s0.length), x6] (s0 ++ .lst (bkL done) :: g) = .nx [x0, x1, some (.str (St p.1)), some (.str (St [61])), some (.str (St p.2.t)), some (.ob s0.length), x6] (s0 ++ .lst (bkL (done ++ [p])) :: (g ++ g1 ++ g2)) := by
      rw [e3]
      simp [L_rows_of_1, St_eq, em, e1, e2, hd, l2]
    show forD _ _ (.tup [.str (St p.1), .str (St [61]), .str (St p.2.t)] :: prD ps) _ _ = _
    simp only [forD, v_tp, v_ps1, v_nm, v_ps0, List.set_cons_succ, List.set_cons_zero]
    rw [eb]
    simp only []
    rw [ih]
    simp
theorem rows_val {rows : Bok} (h : BokOk rows) (s : Sto) : ∃ g, S_rows_of [.str (St (bkT rows))] s = .ok (.ob s.length) (s ++ .lst (bkL rows) :: g) := by
  have h8 := h.hi
  have ll : rows.length ≤ sizeLine := small_line (by omega)
  have e0 := bk_split h
  have e1 := lcD_mapL (p := .nm 6) (c := tTrue) (e := eM1 gPart (eV 6) (eC (.str (Str.ofString "=")))) (δ := [some (.str (St (bkT rows))), none, none, none, none, none, none]) (s := s) (fun p : List Nat × Sq => .str (St (p.1 ++ [61] ++ p.2.t))) (fun p => .tup [.str (St p.1), .str (St [61]), .str (St p.2.t)]) rows fun p hp => ⟨_, by simp; rfl, by simp, by
    have := row_part (h.row p hp)
    rw [c_eqs]
    simp only [v_eM1, v_eV, v_eC, v_bind_ok, List.getElem?_set, R.ofO]
    have this2 := this
    simp only [List.append_assoc, List.singleton_append] at this2
    simp [isStr, this, this2]⟩
  obtain ⟨y, z, w, e2⟩ := ro_bounds (x0 := some (.str (St (bkT rows)))) (x1 := some (.lst (prD rows))) (x5 := none) (x6 := none) (s := s) rows none none none (fun p hp => ⟨(h.row p hp).sh, (h.row p hp).ln⟩)
  obtain ⟨y', z', w', g', e3⟩ := ro_read (x0 := some (.str (St (bkT rows)))) (x1 := some (.lst (prD rows))) (x6 := none) s rows [] y z w [] (fun p hp => ⟨(h.row p hp).nm, (h.row p hp).sh, (h.row p hp).ln⟩) (by simp; omega)
  refine ⟨g', ?_⟩
  have lp : (prD rows).length = rows.length := by simp [prD]
  have h8' : ¬ (8 : Int) < (rows.length : Int) := by omega
  apply runG_rt
  refine seq_nx' [some (.str (St (bkT rows))), none, none, none, none, none, none] s (by simp) ?_
  refine seq_nx' [some (.str (St (bkT rows))), some (.lst (prD rows)), none, none, none, none, none] s ?_ ?_
  · rw [c_nl]
    rw [c_eqs] at e1 ⊢
    simp [e0, isStr, seqOf, wipeD, e1, ll, prD, -List.append_assoc]
  refine seq_nx' [some (.str (St (bkT rows))), some (.lst (prD rows)), none, none, none, none, none] s (by simp [lp, ll, h8']) ?_
  refine seq_nx' [some (.str (St (bkT rows))), some (.lst (prD rows)), y, z, w, none, none] s (by simp [seqOf, e2]) ?_
  refine seq_nx' [some (.str (St (bkT rows))), some (.lst (prD rows)), y, z, w, some (.ob s.length), none] (s ++ [.lst []]) (by simp) ?_
  have e3 : forD (.tp [.nm 2, .nm 3, .nm 4]) L_rows_of_1 (prD rows) [some (.str (St (bkT rows))), some (.lst (prD rows)), y, z, w, some (.ob s.length), none] (s ++ [.lst []]) = .nx [some (.str (St (bkT rows))), some (.lst (prD rows)), y', z', w', some (.ob s.length), none] (s ++ .lst (bkL rows) :: g') := e3
  refine seq_nx' [some (.str (St (bkT rows))), some (.lst (prD rows)), y', z', w', some (.ob s.length), none] (s ++ .lst (bkL rows) :: g') (by simp [seqOf, e3]) ?_
  simp
end Law

/-! GBk3: a book read, a book shown. -/
namespace Law
open PySem L2 Gs
theorem strs_nms (l : List (List Nat)) : strsOf (nmsD l) = some (l.map St) := by
  have e : nmsD l = (l.map St).map D.str := by simp [nmsD]
  rw [e, strsOf_map]
theorem unl_nms {l : List (List Nat)} (h : l.Nodup) : unl (l.map St) l.length = l.length := by
  have q := unl_all (xs := l.map St)
  have e : (l.map fun p => St (id p)).Nodup ↔ (l.map id).Nodup := marks_nodup id
  simp only [id_eq] at e
  rw [List.map_id] at e
  rw [List.length_map] at q
  exact q.mpr (e.mpr h)
theorem mem_nmsT (l : List (List Nat)) (t : List Nat) : gIn (.str (St t)) (.lst (nmsD l)) = some (.bl (decide (t ∈ l))) := by
  have e : nmsD l = (l.map St).map D.str := by simp [nmsD]
  rw [e]
  simp only [gIn, strsOf_map, Option.map_some]
  congr 2
  have : (St t ∈ l.map St) ↔ t ∈ l := by
    rw [List.mem_map]
    constructor
    · rintro ⟨a, ha, q⟩
      rw [St_eq] at q
      rwa [← q]
    · exact fun h => ⟨t, h, rfl⟩
  simp [this]
theorem lcD_no {p : Pt} {c : T} {e : E} {δ : Sl} {s : Sto} : ∀ l : List D, (∀ a ∈ l, ∃ δ1, bindP p a δ = some δ1 ∧ c δ1 s = .ok false s) → lcD p c e δ l s = .ok [] s
  | [], _ => rfl
  | x :: l, h => by
    obtain ⟨δ1, e1, e2⟩ := h x (by simp)
    simp only [lcD, e1, e2]
    exact lcD_no l fun a ha => h a (by simp [ha])
theorem any_false {α : Type} (l : List α) : gAny [.lst (l.map fun _ => D.bl false)] = some (.bl false) := by
  have := gAny_map l (fun _ => false)
  rw [show l.any (fun _ => false) = false by simp] at this
  exact this
theorem all_true {α : Type} (l : List α) : gAll [.lst (l.map fun _ => D.bl true)] = some (.bl true) := by
  have := gAll_map l (fun _ => true)
  rw [show l.all (fun _ => true) = true by simp] at this
  exact this
/-- the names of each shape are names of the book -/
theorem rb_loop {x0 : Option D} {names : List (List Nat)} (rows : Bok) (s0 : Sto) : ∀ (ps : Bok) (y z : Option D) (g : Sto), (∀ p ∈ ps, RowOk names p) → ∃ y' z' g', forO (bkL rows, some s0.length) (.tp [.nm 3, .nm 4]) L_read_book_0 (bkL ps) [x0, some (.ob s0.length), some (.lst (nmsD names)), y, z, none, none] (s0 ++ .lst (bkL rows) :: g) = .nx [x0, some (.ob s0.length), some (.lst (nmsD names)), y', z', none, none] (s0 ++ .lst (bkL rows) :: g')
  | [], y, z, g, _ => ⟨y, z, g, by
    have hs : Stl (bkL rows, some s0.length) (s0 ++ .lst (bkL rows) :: g) := stl_some (get_mid _ _ _)
    show forO _ _ _ [] _ _ = _
    simp only [forO, if_pos hs]⟩
  | p :: ps, y, z, g, h => by
    have hr := h p (by simp)
    have hs : Stl (bkL rows, some s0.length) (s0 ++ .lst (bkL rows) :: g) := stl_some (get_mid _ _ _)
    obtain ⟨g1, e1⟩ := shp_nu 6 p.2 hr.sh (by have := hr.ln; omega) 63 (s0 ++ .lst (bkL rows) :: g)
    have e1 : S_names_used 70 [p.2.x] (s0 ++ .lst (bkL rows) :: g) = .ok (.ob (s0 ++ .lst (bkL rows) :: g).length) (s0 ++ .lst (bkL rows) :: g ++ .lst (nmsD p.2.us) :: g1) := e1
    have f1 := frz_mid (s0 ++ .lst (bkL rows) :: g) g1 (nmsD p.2.us)
    have a1 : s0 ++ O.lst (bkL rows) :: g ++ O.gone :: g1 = s0 ++ O.lst (bkL rows) :: (g ++ O.gone :: g1) := by simp
    obtain ⟨y', z', g', ih⟩ := rb_loop (x0 := x0) (names := names) rows s0 ps (some (.str (St p.1))) (some p.2.x) (g ++ .gone :: g1) (fun r hr => h r (by simp [hr]))
    refine ⟨y', z', g', ?_⟩
    have lu : p.2.us.length ≤ sizeLine := small_line (by have := us_len 6 p.2 hr.sh; have := hr.ln; omega)
    have e2 := lcD_mapL (p := .nm 6) (c := tTrue) (e := eBin gIn (eV 6) (eV 2)) (δ := [x0, some (.ob s0.length), some (.lst (nmsD names)), some (.str (St p.1)), some p.2.x, none, none]) (s := s0 ++ .lst (bkL rows) :: (g ++ .gone :: g1)) (fun t : List Nat => .str (St t)) (fun _ => .bl true) p.2.us fun t ht => ⟨_, by simp; rfl, by simp, by
      have := mem_nmsT names t
      rw [decide_eq_true (hr.us t ht)] at this
      simp [this]⟩
    have e3 := all_true p.2.us
    have eb : L_read_book_0 [x0, some (.ob s0.length), some (.lst (nmsD names)), some (.str (St p.1)), some p.2.x, none, none] (s0 ++ .lst (bkL rows) :: g) = .nx [x0, some (.ob s0.length), some (.lst (nmsD names)), some (.str (St p.1)), some p.2.x, none, none] (s0 ++ .lst (bkL rows) :: (g ++ .gone :: g1)) := by
      unfold L_read_book_0
      have ec : ∀ δ : Sl, δ[4]? = some (some p.2.x) → (eFrz (eCall (S_names_used 70) (aCons (eV 4) (aNil)))) δ (s0 ++ .lst (bkL rows) :: g) = .ok (.lst (nmsD p.2.us)) (s0 ++ .lst (bkL rows) :: (g ++ .gone :: g1)) := fun δ hδ => by
        simp only [v_eFrz, v_eCall, v_aCons, v_eV, v_aNil, hδ, v_bind_ok]
        rw [e1]
        simp only [v_bind_ok, f1, a1]
      have ef : (fLc (iSeq (eFrz (eCall (S_names_used 70) (aCons (eV 4) (aNil))))) [6] (.nm 6) (tTrue) (eBin gIn (eV 6) (eV 2))) [x0, some (.ob s0.length), some (.lst (nmsD names)), some (.str (St p.1)), some p.2.x, none, none] (s0 ++ .lst (bkL rows) :: g) = .ok (p.2.us.map fun _ => .bl true) (s0 ++ .lst (bkL rows) :: (g ++ .gone :: g1)) := by
        rw [v_fLc, v_iSeq, ec _ rfl]
        simp only [v_bind_ok, seqOf, R.ofO, wipeD, List.set_cons_succ, List.set_cons_zero]
        have e2' : lcD (.nm 6) tTrue (eBin gIn (eV 6) (eV 2)) [x0, some (.ob s0.length), some (.lst (nmsD names)), some (.str (St p.1)), some p.2.x, none, none] (nmsD p.2.us) (s0 ++ .lst (bkL rows) :: (g ++ .gone :: g1)) = .ok (p.2.us.map fun _ => .bl true) (s0 ++ .lst (bkL rows) :: (g ++ .gone :: g1)) := e2
        rw [e2']
        simp [lu]
      simp only [v_sIf, v_tNt, v_tV, v_eFn, v_aCons, v_aNil, v_eFz]
      rw [ef]
      simp [e3]
    show forO _ _ _ (.tup [.str (St p.1), p.2.x] :: bkL ps) _ _ = _
    simp only [forO, if_pos hs, v_tp, v_ps1, v_nm, v_ps0, List.set_cons_succ, List.set_cons_zero]
    rw [eb]
    exact ih
end Law

/-! GBk4: a book read, a book shown. -/
namespace Law
open PySem L2 Gs
theorem nmB_ok {rows : Bok} : rows.map (fun p => D.str (St p.1)) = nmsD (nmB rows) := by simp [nmsD, nmB]
theorem book_read {rows : Bok} (h : BokOk rows) (s : Sto) : ∃ g, S_read_book [.str (St (bkT rows))] s = .ok (.ob s.length) (s ++ .lst (bkL rows) :: g) := by
  obtain ⟨g, e1⟩ := rows_val h s
  have h8 := h.hi
  have ll : rows.length ≤ sizeLine := small_line (by omega)
  have hs : ∀ g, Stl (bkL rows, some s.length) (s ++ .lst (bkL rows) :: g) := fun g => stl_some (get_mid _ _ _)
  obtain ⟨y', z', g', e2⟩ := rb_loop (x0 := some (.str (St (bkT rows)))) (names := nmB rows) rows s rows none none g h.row
  obtain ⟨T, hT⟩ : ∃ T, s ++ O.lst (bkL rows) :: g = T := ⟨_, rfl⟩
  obtain ⟨T', hT'⟩ : ∃ T', s ++ O.lst (bkL rows) :: g' = T' := ⟨_, rfl⟩
  have hs1 := hs g
  have hs2 := hs g'
  have hw1 : wkOf T (.ob s.length) = some (bkL rows, some s.length) := by rw [← hT]; exact wk_mid _ _ _
  have hb2 : Bk T' (.ob s.length) rows := by rw [← hT']; exact Bk.mid _ _ _
  rw [hT] at e1 e2 hs1
  rw [hT'] at e2 hs2
  have lc1 : ∀ δ : Sl, δ.length = 7 → lcO (bkL rows, some s.length) (.tp [.nm 3, .nm 4]) tTrue (eV 3) δ (bkL rows) T = .ok (nmsD (nmB rows)) T := fun δ hδ => by
    rw [← nmB_ok]
    exact lcO_keep hs1 (fun p : List Nat × Sq => .tup [.str (St p.1), p.2.x]) (fun p => .str (St p.1)) rows fun p hp => ⟨_, by simp; rfl, by simp, by simp [hδ]⟩
  have lc2 : ∀ δ : Sl, δ.length = 7 → lcO (bkL rows, some s.length) (.tp [.nm 3, .nm 4]) tTrue (eCall (S_has_twice 70) (aCons (eV 4) (aNil))) δ (bkL rows) T = .ok (rows.map fun _ => .bl false) T := fun δ hδ =>
    lcO_keep hs1 (fun p : List Nat × Sq => .tup [.str (St p.1), p.2.x]) (fun _ => .bl false) rows fun p hp => ⟨_, by simp; rfl, by simp, by
      have hr := h.row p hp
      have e : S_has_twice 70 [p.2.x] T = .ok (.bl p.2.tw) T := shp_tw 6 p.2 hr.sh 63 T
      rw [hr.tw] at e
      simp [hδ, e]⟩
  have lc3 : ∀ δ : Sl, δ.length = 7 → lcO (bkL rows, some s.length) (.tp [.nm 3, .nm 4]) tTrue (eCall (S_has_no_range 70) (aCons (eV 4) (aNil))) δ (bkL rows) T = .ok (rows.map fun _ => .bl false) T := fun δ hδ =>
    lcO_keep hs1 (fun p : List Nat × Sq => .tup [.str (St p.1), p.2.x]) (fun _ => .bl false) rows fun p hp => ⟨_, by simp; rfl, by simp, by
      have hr := h.row p hp
      have e : S_has_no_range 70 [p.2.x] T = .ok (.bl p.2.nr) T := shp_nr 6 p.2 hr.sh 63 T
      rw [hr.nr] at e
      simp [hδ, e]⟩
  have lc4 : ∀ a b c d e f : Option D, lcD (.nm 3) (tV (eCall S_leads_back (aCons (eV 1) (aCons (eV 3) (aNil))))) (eV 3) [a, some (.ob s.length), b, c, d, e, f] (nmsD (nmB rows)) T' = .ok [] T' := fun a b c d e f => lcD_no _ fun d hd => by
    obtain ⟨n, hn, rfl⟩ := List.mem_map.mp hd
    obtain ⟨p, hp, rfl⟩ := List.mem_map.mp hn
    have e := lb_no hb2 h hp
    exact ⟨_, by simp; rfl, by simp [e]⟩
  have af := any_false rows
  have un := unl_nms h.nd
  have lnm : (nmB rows).length = rows.length := by simp [nmB]
  rw [lnm] at un
  have lnD : (nmsD (nmB rows)).length = rows.length := by simp [nmsD, lnm]
  have l4 : rows.length ≤ 4000 := by omega
  have sn := strs_nms (nmB rows)
  have ne0 : gNe (.lst []) (.lst []) = some (.bl false) := by
    obtain ⟨p, h1, h2, h3⟩ := eqk_lst (k := 1) (xs := []) (fun x hx => nomatch hx)
    have e : eqO (.lst []) (.lst []) = eqPy (.lst []) (.lst []) := by simp [eqO]
    have hs : SeqAt.shaped p = true := by
      simp [SeqAt.shaped, h2]
      omega
    unfold gNe
    rw [e]
    unfold eqPy
    rw [h1]
    simp [hs, SeqAt.eqv_refl p h2]
  obtain ⟨N, hN⟩ : ∃ N, nmsD (nmB rows) = N := ⟨_, rfl⟩
  rw [hN] at lc1 lc4 sn lnD e2
  refine ⟨g', ?_⟩
  rw [hT']
  apply runG_rt
  refine seq_nx' [some (.str (St (bkT rows))), some (.ob s.length), none, none, none, none, none] T (by simp [e1]) ?_
  refine seq_nx' [some (.str (St (bkT rows))), some (.ob s.length), some (.lst N), none, none, none, none] T (by simp [hw1, wipeD, lc1, lnD, ll]) ?_
  refine seq_nx' [some (.str (St (bkT rows))), some (.ob s.length), some (.lst N), none, none, none, none] T (by simp [hw1, wipeD, lc2, sn, lnm, l4, un, lnD, ll, af]) ?_
  refine seq_nx' [some (.str (St (bkT rows))), some (.ob s.length), some (.lst N), none, none, none, none] T (by simp [hw1, wipeD, lc3, ll, af]) ?_
  refine seq_nx' [some (.str (St (bkT rows))), some (.ob s.length), some (.lst N), y', z', none, none] T' (by simp [hw1, e2]) ?_
  refine seq_nx' [some (.str (St (bkT rows))), some (.ob s.length), some (.lst N), y', z', some (.lst []), none] T' (by simp [seqOf, wipeD, lc4]) ?_
  refine seq_nx' [some (.str (St (bkT rows))), some (.ob s.length), some (.lst N), y', z', some (.lst []), none] T' (by simp [ne0]) ?_
  simp
theorem book_show {rows : Bok} (h : BokOk rows) (s : Sto) : S_show_book [.lst (bkL rows)] s = .ok (.str (St (bkT rows))) s := by
  have h8 := h.hi
  have ll : rows.length ≤ sizeLine := small_line (by omega)
  have e1 : lcD (.tp [.nm 1, .nm 2]) tTrue (eBin gAdd (eBin gAdd (eV 1) (eC (.str (Str.ofString "=")))) (eCall S_show_shape (aCons (eV 2) (aNil)))) [some (.lst (bkL rows)), none, none] (bkL rows) s = .ok (rows.map fun p => .str (St (p.1 ++ [61] ++ p.2.t))) s :=
    lcD_mapL (fun p : List Nat × Sq => .tup [.str (St p.1), p.2.x]) (fun p => .str (St (p.1 ++ [61] ++ p.2.t))) rows fun p hp => ⟨_, by simp; rfl, by simp, by
      have hr := h.row p hp
      have e := shp_show hr.sh (by have := hr.ln; omega) s
      have hm := (isM_all hr.nm).2.1
      have hln := hr.ln
      have b1 := d_addS p.1 [61] (by simp only [List.length_singleton]; omega)
      have b2 := d_addS (p.1 ++ [61]) p.2.t (by rw [List.length_append]; simp only [List.length_singleton]; omega)
      simp [c_eqs, e, b1, b2, -Gs.v_addS, -Law.v_addS, -List.append_assoc]⟩
  have hj := bkT_len h
  have jv : gJoin (.str (St [10])) [.lst (rows.map fun p => D.str (St (p.1 ++ [61] ++ p.2.t)))] = some (.str (St (bkT rows))) := by
    have e : (rows.map fun p => D.str (St (p.1 ++ [61] ++ p.2.t))) = ((rows.map fun p => p.1 ++ [61] ++ p.2.t).map St).map D.str := by simp
    have h4 : (((rows.map fun p => p.1 ++ [61] ++ p.2.t).map St).map (·.length)).sum + ((rows.map fun p => p.1 ++ [61] ++ p.2.t).map St).length * (St [10]).length ≤ 16777216 := by
      have key : ∀ (l : Bok), (∀ p ∈ l, RowOk (nmB rows) p) → (((l.map fun p => p.1 ++ [61] ++ p.2.t).map St).map (·.length)).sum ≤ 1010 * l.length := by
        intro l
        induction l with
        | nil => intro _; simp
        | cons p l ih =>
          intro hp
          have := ih fun q hq => hp q (by simp [hq])
          have hr := hp p (by simp)
          have h8 := (isM_all hr.nm).2.1
          have hln := hr.ln
          simp only [List.map_cons, List.sum_cons, List.length_cons, St_len, List.length_append, List.length_nil] at this ⊢
          omega
      have := key rows h.row
      rw [List.length_map, List.length_map, St_len]
      simp only [List.length_singleton]
      omega
    have ej : Txt.join (St [10]) ((rows.map fun p => p.1 ++ [61] ++ p.2.t).map St) = St (bkT rows) := by
      rw [TL.join_eq]
      refine TL.ext_tl ?_
      have := TL.tl_join (St [10]) ((rows.map fun p => p.1 ++ [61] ++ p.2.t).map St)
      rw [this]
      have e : ((rows.map fun p => p.1 ++ [61] ++ p.2.t).map St).map TL.tl = rows.map fun p => p.1 ++ [61] ++ p.2.t := by
        rw [List.map_map]
        exact (List.map_congr_left (g := id) fun x _ => rfl).trans (List.map_id _)
      rw [e]
      rfl
    rw [e]
    simp only [gJoin, strsOf_map, Option.bind_some]
    rw [if_pos h4, ej]
  obtain ⟨X, hX⟩ : ∃ X, (rows.map fun p => D.str (St (p.1 ++ [61] ++ p.2.t))) = X := ⟨_, rfl⟩
  have hXl : X.length = rows.length := by rw [← hX]; simp
  rw [hX] at e1 jv
  apply runG_rt
  rw [c_nl]
  simp [seqOf, wipeD, e1, hXl, ll, jv]
end Law

/-! GWd: words of letters, as the laws draw them (as in GK04). -/
namespace Law
open PySem L2 Gs
theorem mulx (x : Int) : IntMulOk x 48271 := mul_fitsR (by decide)
theorem dSw (a b : List Nat) (h : a.length + b.length ≤ 100000) : gAdd (.str (St a)) (.str (St b)) = some (.str (St (a ++ b))) := d_addS a b h
theorem lets_len : lets.length = 26 ∧ lets.Nodup := by
  refine ⟨by decide, by decide⟩
theorem lets_at {j : Nat} (h : j < 26) : ∃ c, lets[j]? = some c ∧ c ∈ lets := by
  have h2 : j < lets.length := by rw [lets_len.1]; exact h
  exact ⟨lets[j], List.getElem?_eq_getElem h2, List.getElem_mem h2⟩
theorem rem_nat {c m : Int} (h : 0 < m) : ∃ j : Nat, c % m = (j : Int) ∧ (j : Int) < m := by
  have h1 := Int.emod_nonneg c (show m ≠ 0 by omega)
  have h2 := Int.emod_lt_of_pos c h
  exact ⟨(c % m).toNat, by omega, by omega⟩
theorem lword_val (c : Int) (n : Nat) (h : n ≤ 1000) (s : Sto) : ∃ w : List Nat, w.length = n ∧ (∀ x ∈ w, x ∈ lets) ∧ S_l_word [.int c, .int (n : Int)] s = .ok (.str (St w)) s := by
  have l26 : lets.length ≤ sizeLine := small_line (by rw [lets_len.1]; omega)
  obtain ⟨δ', s', e, a, x, y, rfl, rfl, ha, hx⟩ := forR (p := .nm 4) (body := L_l_word_0) (lo := 0) (n := n) (δ := [some (.int c), some (.int (n : Int)), some (.str (St [])), some (.int (c % 2147483646 + 1)), none]) (s := s)
    (fun i δ s' => ∃ (a : List Nat) (x : Int) (y : Option D), δ = [some (.int c), some (.int (n : Int)), some (.str (St a)), some (.int x), y] ∧ s' = s ∧ a.length = i ∧ ∀ x ∈ a, x ∈ lets)
    ⟨[], _, none, rfl, rfl, rfl, fun x hx => nomatch hx⟩
    (fun i δ s1 hi ⟨a, x, y, e1, e2, ha, hx⟩ => by
      subst e1; subst e2
      refine ⟨_, rfl, ?_⟩
      obtain ⟨j, hj, hj2⟩ := rem_nat (c := x * 48271 % 2147483647 / 1000) (m := 26) (by decide)
      obtain ⟨z, hz, hz2⟩ := lets_at (j := j) (by omega)
      have hat := at_St l26 hz
      have g1 : a.length + 1 ≤ sizeLine := small_line (by omega)
      have hdv : divOk 1000 := divOk_small (by decide) (by decide)
      refine ⟨[some (.int c), some (.int (n : Int)), some (.str (St (a ++ [z]))), some (.int (x * 48271 % 2147483647)), some (.int (i : Int))], s1, ?_, a ++ [z], _, _, rfl, rfl, by simp; omega, fun x hx' => ?_⟩
      · simp [L_l_word_0, hdv, hj, hat, g1, mulx]
      · rcases List.mem_append.mp hx' with h | h
        · exact hx x h
        · rw [List.mem_singleton.mp h]; exact hz2)
  refine ⟨a, ha, hx, ?_⟩
  have hr : rngOk (n : Int) := rngOk_nat (by omega)
  apply runG_rt
  simp [hr, e]
theorem isM_of {w : List Nat} (h1 : 1 ≤ w.length) (h2 : w.length ≤ 8) (h : ∀ x ∈ w, x ∈ lets) : isM w = true := by
  simp only [isM, Bool.and_eq_true, decide_eq_true_eq, List.all_eq_true]
  exact ⟨⟨h1, h2⟩, h⟩
theorem ix_lets : ∀ c ∈ lets, gIndexS (.str (St lets)) [.str (St [c])] = some (.int ((c - 97 : Nat) : Int)) ∧ c - 97 < 26 ∧ lets[c - 97]? = some c := by
  have h : ∀ c ∈ lets, Txt.index0 (St lets) (St [c]) = some (c - 97) ∧ c - 97 < 26 ∧ lets[c - 97]? = some c := by decide +kernel
  intro c hc
  obtain ⟨h1, h2⟩ := h c hc
  refine ⟨?_, h2⟩
  simp only [gIndexS, h1, Option.map_some]
theorem nodup_map {α : Type} {f : α → List Nat} : ∀ {l : List α}, l.Nodup → (∀ a ∈ l, ∀ b ∈ l, f a = f b → a = b) → (l.map f).Nodup
  | [], _, _ => by simp
  | a :: l, h, hf => by
    obtain ⟨h1, h2⟩ := List.nodup_cons.mp h
    rw [List.map_cons, List.nodup_cons]
    refine ⟨fun hm => ?_, nodup_map h2 fun x hx y hy e => hf x (by simp [hx]) y (by simp [hy]) e⟩
    obtain ⟨b, hb, e⟩ := List.mem_map.mp hm
    have := hf b (by simp [hb]) a (by simp) e
    exact h1 (this ▸ hb)
theorem rng_lc {n : Nat} {p : Nat} {e : E} {δ : Sl} {s : Sto} (f : Nat → D) (h : ∀ i, i < n → e (δ.set p (some (.int (i : Int)))) s = .ok (f i) s) : lcD (.nm p) tTrue e δ (rngD 0 n) s = .ok ((List.range n).map f) s :=
  lcD_mapL (fun i : Nat => D.int (0 + (i : Int))) f (List.range n) fun i hi => ⟨_, by simp; rfl, by simp, by
    have := h i (List.mem_range.mp hi)
    simpa using this⟩
end Law

/-! GK06: the names, as the law draws them. -/
namespace Law
open PySem L2 Gs
theorem names_val (c : Int) (n : Nat) (h1 : 1 ≤ n) (h : n ≤ 8) (s : Sto) : ∃ ms : List (List Nat), S_l_names [.int c, .int (n : Int)] s = .ok (.ob s.length) (s ++ [.lst (nmsD ms)]) ∧ ms.length = n ∧ (∀ m ∈ ms, isM m = true) ∧ ms.Nodup := by
  obtain ⟨w, hw, hwl, e1⟩ := lword_val (c / 648) 8 (by decide) s
  have e1 : S_l_word [.int (c / 648), .int 8] s = .ok (.str (St w)) s := e1
  have hr : rngOk (n : Int) := rngOk_nat (by omega)
  have d3 : divOk 3 := divOk_small (by decide) (by decide)
  have d9 : divOk 9 := divOk_small (by decide) (by decide)
  have d72 : divOk 72 := divOk_small (by decide) (by decide)
  have ln : n ≤ sizeLine := small_line (by omega)
  have l8 : w.length ≤ sizeLine := small_line (by omega)
  have d648 : divOk 648 := divOk_small (by decide) (by decide)
  by_cases q : c % 3 = 0
  · have q2 := q
    have e2 := rng_lc (n := n) (p := 6) (e := eSl (eV 2) oNone (oSome (eBin gSub (eV 1) (eV 6)))) (δ := [some (.int c), some (.int (n : Int)), some (.str (St w)), none, none, none, none]) (s := s) (fun i => .str (St (w.take (n - i)))) (fun i hi => by
      have e3 := cutL_hi w (n - i)
      have e4 : ((n - i : Nat) : Int) = (n : Int) - (i : Int) := by omega
      rw [e4] at e3
      simp [l8, e3])
    refine ⟨(List.range n).map fun i => w.take (n - i), ?_, by simp, fun m hm => ?_, ?_⟩
    · apply runG_rt
      simp [e1, q2, d648, hr, wipeD, e2, ln, nmsD]
    · obtain ⟨i, hi, rfl⟩ := List.mem_map.mp hm
      have := List.mem_range.mp hi
      exact isM_of (by rw [List.length_take]; omega) (by rw [List.length_take]; omega) fun x hx => hwl x (List.mem_of_mem_take hx)
    · refine nodup_map List.nodup_range fun a ha b hb e => ?_
      have h1 := List.mem_range.mp ha
      have h2 := List.mem_range.mp hb
      have := congrArg List.length e
      rw [List.length_take, List.length_take] at this
      omega
  · obtain ⟨k, hk, hk8⟩ := rem_nat (c := c / 9) (m := 8) (by decide)
    have hk8 : k < 8 := by omega
    obtain ⟨b, hb⟩ : ∃ b, w.take (1 + k) = b := ⟨_, rfl⟩
    have hbl : b.length = 1 + k := by rw [← hb, List.length_take]; omega
    have hbx : ∀ x ∈ b, x ∈ lets := fun x hx => hwl x (List.mem_of_mem_take (by rw [hb]; exact hx))
    have ecut := cutL_hi w (1 + k)
    rw [hb] at ecut
    have ecut : cutL w none (some (1 + (k : Int))) = b := by
      rw [← ecut]
      congr 2
    have lb : b.length ≤ sizeLine := small_line (by omega)
    obtain ⟨a, ha, haL⟩ := rem_nat (c := c / 72) (m := (b.length : Int)) (by omega)
    have haL : a < b.length := by omega
    obtain ⟨z, hz⟩ : ∃ z, b[a]? = some z := ⟨b[a], List.getElem?_eq_getElem haL⟩
    have hzl : z ∈ lets := hbx z (List.mem_of_getElem? hz)
    obtain ⟨i1, i2, i3⟩ := ix_lets z hzl
    obtain ⟨o, ho⟩ : ∃ o, z - 97 = o := ⟨_, rfl⟩
    rw [ho] at i1 i2 i3
    have l26 : lets.length ≤ sizeLine := small_line (by rw [lets_len.1]; omega)
    have at1 := at_St lb hz
    have u1 := cutL_hi b a
    have u2 := cutL_lo b (a + 1)
    have u2 : cutL b (some ((a : Int) + 1)) none = b.drop (a + 1) := by
      rw [← u2]
      rfl
    have hpos : (0 : Int) < (b.length : Int) := by omega
    have hlet : ∀ i : Nat, ∃ y, lets[(o + i) % 26]? = some y ∧ y ∈ lets := fun i => lets_at (Nat.mod_lt _ (by decide))
    obtain ⟨f, hf⟩ := Classical.axiomOfChoice hlet
    have tl : (b.take a).length = a := by rw [List.length_take]; omega
    have dl : (b.drop (a + 1)).length = b.length - (a + 1) := List.length_drop
    have e2 := rng_lc (n := n) (p := 6) (e := eBin gAdd (eBin gAdd (eSl (eV 2) oNone (oSome (eV 3))) (eBin gIx (eV 4) (eBin gMod (eBin gAdd (eV 5) (eV 6)) (eC (.int 26))))) (eSl (eV 2) (oSome (eBin gAdd (eV 3) (eC (.int 1)))) oNone)) (δ := [some (.int c), some (.int (n : Int)), some (.str (St b)), some (.int (a : Int)), some (.str (St lets)), some (.int (o : Int)), none]) (s := s) (fun i => .str (St (b.take a ++ [f i] ++ b.drop (a + 1)))) (fun i hi => by
      have at2 := at_St l26 (hf i).1
      have e5 : (((o + i) % 26 : Nat) : Int) = ((o : Int) + (i : Int)) % 26 := by omega
      rw [e5] at at2
      have g1 := dSw (b.take a) [f i] (by simp; omega)
      have g2 := dSw (b.take a ++ [f i]) (b.drop (a + 1)) (by simp; omega)
      simp [lb, u1, at2, u2, g1, g2, -Gs.v_addS, -Law.v_addS, -List.append_assoc])
    refine ⟨(List.range n).map fun i => b.take a ++ [f i] ++ b.drop (a + 1), ?_, by simp, fun m hm => ?_, ?_⟩
    · have hb' : 0 < b.length := by omega
      simp at e2
      apply runG_rt
      simp [e1, q, d648, d9, d72, hk, l8, ecut, lb, ha, hb', at1, i1, hr, wipeD, e2, ln, nmsD]
    · obtain ⟨i, hi, rfl⟩ := List.mem_map.mp hm
      refine isM_of (by simp; omega) (by simp; omega) fun x hx => ?_
      simp only [List.mem_append, List.mem_singleton] at hx
      rcases hx with (hx | hx) | hx
      · exact hbx x (List.mem_of_mem_take hx)
      · rw [hx]; exact (hf i).2
      · exact hbx x (List.mem_of_mem_drop hx)
    · refine nodup_map List.nodup_range fun i hi j hj e => ?_
      have h1 := List.mem_range.mp hi
      have h2 := List.mem_range.mp hj
      have e1 : f i = f j := by
        have h3 : (b.take a ++ [f i] ++ b.drop (a + 1))[a]? = some (f i) := by
          rw [List.getElem?_append_left (by simp; omega), List.getElem?_append_right (by omega), tl]; simp
        have h4 : (b.take a ++ [f j] ++ b.drop (a + 1))[a]? = some (f j) := by
          rw [List.getElem?_append_left (by simp; omega), List.getElem?_append_right (by omega), tl]; simp
        rw [e, h4] at h3
        exact (Option.some.inj h3).symm
      have h5 := (hf i).1
      have h6 := (hf j).1
      rw [e1, ← h6] at h5
      have lt1 : (o + i) % 26 < lets.length := by rw [lets_len.1]; exact Nat.mod_lt _ (by decide)
      have lt2 : (o + j) % 26 < lets.length := by rw [lets_len.1]; exact Nat.mod_lt _ (by decide)
      rw [List.getElem?_eq_getElem lt1, List.getElem?_eq_getElem lt2] at h5
      have := (List.getElem_inj lets_len.2).mp (Option.some.inj h5)
      omega
end Law

/-! GK06b: a shape of the book, as the law draws it. -/
namespace Law
open PySem L2 Gs
theorem mem_usL {n : List Nat} : ∀ {l : List (List (List Nat))} {a : List (List Nat)}, n ∈ l.foldl uni a → n ∈ a ∨ ∃ x ∈ l, n ∈ x
  | [], a, h => .inl h
  | x :: l, a, h => by
    rcases mem_usL (l := l) h with h | ⟨y, hy, hn⟩
    · unfold uni at h
      rcases List.mem_append.mp h with h | h
      · exact .inl h
      · exact .inr ⟨x, by simp, (List.mem_filter.mp h).1⟩
    · exact .inr ⟨y, by simp [hy], hn⟩
theorem us_in {names : List (List Nat)} {l : List (List (List Nat))} (h : ∀ x ∈ l, ∀ n ∈ x, n ∈ names) : ∀ n ∈ usL l, n ∈ names := fun n hn => by
  rcases mem_usL hn with hn | ⟨x, hx, hn⟩
  · exact nomatch hn
  · exact h x hx n hn
theorem u_row {names : List (List Nat)} {ps : List Sq} (h : ∀ p ∈ ps, ∀ n ∈ p.us, n ∈ names) : ∀ n ∈ (qRow ps).us, n ∈ names := us_in fun x hx => by
  obtain ⟨p, hp, rfl⟩ := List.mem_map.mp hx
  exact h p hp
theorem u_one {names : List (List Nat)} {w : List Nat} {p : Sq} (h : ∀ n ∈ p.us, n ∈ names) : ∀ n ∈ (qOne w p).us, n ∈ names := us_in fun x hx => by
  rw [List.mem_singleton.mp hx]; exact h
theorem u_use {names : List (List Nat)} {w : List Nat} (h : w ∈ names) : ∀ n ∈ (qUse w).us, n ∈ names := fun n hn => by
  rw [List.mem_singleton.mp hn]; exact h
theorem s_row {d : Nat} {ps : List Sq} (h1 : ps.length ≤ 8) (h2 : ∀ p ∈ ps, Shp d p) : Shp (d + 1) (qRow ps) := .inr (.inr (.inr (.inl ⟨ps, h1, h2, rfl⟩)))
theorem s_one {d : Nat} {w : List Nat} {p : Sq} (h1 : w ∈ kOnes) (h2 : Shp d p) : Shp (d + 1) (qOne w p) := .inr (.inr (.inr (.inr (.inr (.inl ⟨w, p, h1, h2, rfl⟩)))))
theorem all2s {α : Type} {p q : α} {P : α → Prop} (h1 : P p) (h2 : P q) : ∀ r ∈ [p, q], P r := fun r hr => by
  rcases List.mem_cons.mp hr with rfl | hr
  · exact h1
  · rw [List.mem_singleton.mp hr]; exact h2
theorem all3s {α : Type} {p q t : α} {P : α → Prop} (h1 : P p) (h2 : P q) (h3 : P t) : ∀ r ∈ [p, q, t], P r := fun r hr => by
  rcases List.mem_cons.mp hr with rfl | hr
  · exact h1
  · exact all2s h2 h3 r hr
theorem ix_nms {l : List (List Nat)} (hl : l.length ≤ 1000) (c : Int) (h0 : 0 < l.length) : ∃ t, t ∈ l ∧ gIx (.lst (nmsD l)) (.int (c % (l.length : Int))) = some (.str (St t)) := ix_txs (by omega) rfl (by omega)
/-- what is asked of a drawn shape -/
structure Dr (names : List (List Nat)) (q : Sq) : Prop where
  sh : Shp 6 q
  tw : q.tw = false
  nr : q.nr = false
  us : ∀ n ∈ q.us, n ∈ names
  ln : q.t.length ≤ 1000
  nu : ∃ w r, q.x = .tup (.str (St w) :: r) ∧ w ≠ kUse
theorem kd6_t {δ : Sl} {s : Sto} {i j : Int} {A R : S} {x : D} {s' : Sto} (h : δ[3]? = some (some (.int i))) (hi : i % 7 = j) (h2 : A δ s = .rt x s') : sSeq (sIf (tV (eBin gEq (eBin gMod (eV 3) (eC (.int 7))) (eC (.int j)))) A sNx) R δ s = .rt x s' := by
  rw [v_sSeq, v_sIf]
  simp [h, hi]
  rw [h2]
theorem kd6_f {δ : Sl} {s : Sto} {i j : Int} {A R : S} {r : RS} (h : δ[3]? = some (some (.int i))) (hi : i % 7 ≠ j) (h2 : R δ s = r) : sSeq (sIf (tV (eBin gEq (eBin gMod (eV 3) (eC (.int 7))) (eC (.int j)))) A sNx) R δ s = r := by
  rw [v_sSeq, v_sIf]
  simp [h, hi]
  exact h2
theorem kUseEq : Str.ofString "use" = St kUse := c_use
theorem kWholeEq : Str.ofString "whole" = St kWhole := c_whole
theorem kTextEq : Str.ofString "text" = St kText := c_text
theorem kRowEq : Str.ofString "row" = St kRow := c_row
theorem kPickEq : Str.ofString "pick" = St kPick := c_pick
theorem kManyEq : Str.ofString "many" = St kMany := c_many
theorem kAlikeEq : Str.ofString "alike" = St kAlike := c_alike
theorem kRisingEq : Str.ofString "rising" = St kRising := c_rising
theorem kUnlikeEq : Str.ofString "unlike" = St kUnlike := c_unlike
theorem drawn_val {names : List (List Nat)} (h1 : 1 ≤ names.length) (h8 : names.length ≤ 8) (hm : ∀ n ∈ names, isM n = true) {b : D} {s : Sto} (rs : rsv s b = .lst (nmsD names)) (one other kind : Int) : ∃ q, S_l_shape [b, .int one, .int other, .int kind] s = .ok q.x s ∧ Dr names q := by
  obtain ⟨h, hh, e1⟩ := ix_nms (l := names) (by omega) one (by omega)
  obtain ⟨t, ht, e2⟩ := ix_nms (l := names) (by omega) other (by omega)
  have ll : names.length ≤ sizeLine := small_line (by omega)
  have lD : (nmsD names).length = names.length := by simp [nmsD]
  have hp : 0 < names.length := by omega
  have mh := hm h hh
  have mt := hm t ht
  have lh := (isM_all mh).2.1
  have lt := (isM_all mt).2.1
  have ln : ∀ k : Nat, k ≤ 100 → k ≤ sizeLine := fun k hk => small_line (by omega)
  have l2 := ln 2 (by decide)
  have l3 := ln 3 (by decide)
  have z0 : 0 ≤ sizeLine := Nat.zero_le _
  have useS : ∀ {d w}, isM w = true → Shp d (qUse w) := fun h => shp_use h
  have pre : ∀ {q : Sq} {S : S}, S [some b, some (.int one), some (.int other), some (.int kind), some (.str (St h)), some (.str (St t)), none] s = .rt q.x s → runG 7 (sSeq (sSet 4 (eBin gIx (eV 0) (eBin gMod (eV 1) (eFn gLen (aCons (eV 0) (aNil))))))
    (sSeq (sSet 5 (eBin gIx (eV 0) (eBin gMod (eV 2) (eFn gLen (aCons (eV 0) (aNil)))))) S)) [b, .int one, .int other, .int kind] s = .ok q.x s := fun {q S} hS => by
    apply runG_rt
    refine seq_nx' [some b, some (.int one), some (.int other), some (.int kind), some (.str (St h)), none, none] s ?_ ?_
    · simp [rs, lD, ll, hp, e1, -v_ixL]
    refine seq_nx' [some b, some (.int one), some (.int other), some (.int kind), some (.str (St h)), some (.str (St t)), none] s ?_ ?_
    · simp [rs, lD, ll, hp, e2, -v_ixL]
    exact hS
  have hk : kind % 7 = 0 ∨ kind % 7 = 1 ∨ kind % 7 = 2 ∨ kind % 7 = 3 ∨ kind % 7 = 4 ∨ kind % 7 = 5 ∨ kind % 7 = 6 := by omega
  suffices main : ∃ q, (_ : Gs.R D) = .ok q.x s ∧ Dr names q from main
  rcases hk with hk | hk | hk | hk | hk | hk | hk
  · have hi : (one % 100000000000000000000000000000000000000000000000000000000000 - 10000000000000000000000000000000000000000000000000000000000).natAbs < 10 ^ 60 := by omega
    have hj : (one % 100000000000000000000000000000000000000000000000000000000000 + other % 100000000000000000000000000000000000000000000000000000000000).natAbs < 10 ^ 60 := by omega
    have li := nT_len hi
    have lj := nT_len hj
    refine ⟨qWhole _ _, pre (kd6_t rfl hk ?_), .inr (.inl ⟨_, _, hi, hj, rfl⟩), rfl, decide_eq_false (by omega), (fun n hn => nomatch hn), ?_, ⟨kWhole, _, rfl, by decide⟩⟩
    · simp [kWholeEq, qWhole, l3]
    · show (brk kWhole [nT _, nT _]).length ≤ 1000
      unfold brk
      rw [joinL_cons2]
      have : kWhole.length = 5 := rfl
      simp only [TL.joinL, List.length_append, List.length_cons, List.length_nil]
      omega
  · have ha : ∃ a, isW a = true ∧ 45 ∉ a ∧ a.Nodup ∧ a.length ≤ 10 ∧ gAdd (.str (Str.ofString "aZ09")) (.str (Str.ofString (if one % 3 = 0 then "" else if one % 3 = 1 then "b" else "yx"))) = some (.str (St a)) := by
      have h3 : one % 3 = 0 ∨ one % 3 = 1 ∨ one % 3 = 2 := by omega
      rcases h3 with q | q | q <;> rw [q]
      · exact ⟨W "aZ09", by decide +kernel, by decide +kernel, by decide +kernel, by decide +kernel, by simp only [if_pos]; rw [W_St "aZ09", W_St "", v_addS, if_pos (by decide +kernel)]; congr 2⟩
      · exact ⟨W "aZ09b", by decide +kernel, by decide +kernel, by decide +kernel, by decide +kernel, by rw [if_neg (by decide), if_pos rfl]; rw [W_St "aZ09", W_St "b", v_addS, if_pos (by decide +kernel)]; congr 2⟩
      · exact ⟨W "aZ09yx", by decide +kernel, by decide +kernel, by decide +kernel, by decide +kernel, by rw [if_neg (by decide), if_neg (by decide)]; rw [W_St "aZ09", W_St "yx", v_addS, if_pos (by decide +kernel)]; congr 2⟩
    obtain ⟨a, a1, a2, a3, a4, a5⟩ := ha
    refine ⟨qText a, pre (kd6_f rfl (by omega) (kd6_t rfl hk ?_)), .inr (.inr (.inl ⟨a, a1, a2, rfl⟩)), ?_, rfl, (fun n hn => nomatch hn), ?_, ⟨kText, _, rfl, by decide⟩⟩
    · have e3 : gIx (.lst [.str (Str.ofString ""), .str (Str.ofString "b"), .str (Str.ofString "yx")]) (.int (one % 3)) = some (.str (Str.ofString (if one % 3 = 0 then "" else if one % 3 = 1 then "b" else "yx"))) := by
        have h3 : one % 3 = 0 ∨ one % 3 = 1 ∨ one % 3 = 2 := by omega
        rcases h3 with q | q | q <;> rw [q] <;> simp [l3]
      obtain ⟨Y, hY⟩ : ∃ Y, Str.ofString (if one % 3 = 0 then "" else if one % 3 = 1 then "b" else "yx") = Y := ⟨_, rfl⟩
      rw [hY] at e3 a5
      simp [l3] at e3
      simp [kTextEq, qText, l2, l3, e3, a5]
    · show (!decide a.Nodup) = false
      rw [decide_eq_true a3]; rfl
    · show (brk kText [a]).length ≤ 1000
      unfold brk
      have : kText.length = 4 := rfl
      simp only [TL.joinL, List.length_append, List.length_cons, List.length_nil]
      omega
  · have hmk : ∃ m, isM m = true ∧ h ≠ m ∧ gIx (.lst [.str (Str.ofString "q"), .str (Str.ofString "r")]) (.int (if h = [113] then 1 else 0)) = some (.str (St m)) := by
      by_cases q : h = [113]
      · exact ⟨W "r", by decide +kernel, by rw [q]; decide +kernel, by rw [if_pos q]; simp [l2]⟩
      · exact ⟨W "q", by decide +kernel, fun z => q (z.trans (by decide +kernel)), by rw [if_neg q]; simp [l2]⟩
    obtain ⟨m, m1, m2, m3⟩ := hmk
    have lm := (isM_all m1).2.1
    have cq : Str.ofString "q" = St [113] := of_St (by decide +kernel)
    refine ⟨qPick [(h, qUse t), (m, qRow [qUse h, qUse t])], pre (kd6_f rfl (by omega) (kd6_f rfl (by omega) (kd6_t rfl hk ?_))), .inr (.inr (.inr (.inr (.inl ⟨_, by simp, by simp, all2s ⟨mh, useS mt⟩ ⟨m1, s_row (by simp) (all2s (useS mh) (useS mt))⟩, rfl⟩)))), ?_, rfl, us_in (all2s (u_use ht) (u_row (all2s (u_use hh) (u_use ht)))), ?_, ⟨kPick, _, rfl, by decide⟩⟩
    · have gi : gInt [.bl (decide (h = [113]))] = some (.int (if h = [113] then 1 else 0)) := by
        by_cases q : h = [113] <;> simp [gInt, q]
      refine seq_nx' [some b, some (.int one), some (.int other), some (.int kind), some (.str (St h)), some (.str (St t)), some (.str (St m))] s ?_ ?_
      · have m3' := m3
        rw [cq] at m3' ⊢
        simp [l2, -v_ixL, cq, St_eq, gi, m3']
      · simp [kPickEq, kUseEq, kRowEq, qPick, qUse, qRow, l2]
    · show (!decide [h, m].Nodup || (false || (([qUse h, qUse t].any (·.tw)) || false))) = false
      have : [h, m].Nodup := by simp [m2]
      rw [decide_eq_true this]
      rfl
    · show (brk kPick [hd h t, hd m (brk kRow [h, t])]).length ≤ 1000
      have c1 : ∀ a t : List Nat, (hd a t).length ≤ a.length + 1 + t.length := fun a t => by
        unfold hd
        split
        · omega
        · simp; omega
      have d1 := c1 h t
      have d2 := c1 m (brk kRow [h, t])
      have d3 : (brk kRow [h, t]).length ≤ 30 := by
        unfold brk
        rw [joinL_cons2]
        have : kRow.length = 3 := rfl
        simp only [TL.joinL, List.length_append, List.length_cons, List.length_nil]
        omega
      have d4 : ∀ w a b : List Nat, (brk w [a, b]).length = w.length + a.length + b.length + 3 := fun w a b => by
        unfold brk
        rw [joinL_cons2]
        simp only [TL.joinL, List.length_append, List.length_cons, List.length_nil]
        omega
      rw [d4]
      have : kPick.length = 4 := rfl
      omega
  · refine ⟨qRow [qUse h, qOne kMany (qUse t), qUse h], pre (kd6_f rfl (by omega) (kd6_f rfl (by omega) (kd6_f rfl (by omega) (kd6_t rfl hk ?_)))), s_row (by simp) (all3s (useS mh) (s_one (by decide) (useS mt)) (useS mh)), rfl, rfl, u_row (all3s (u_use hh) (u_one (u_use ht)) (u_use hh)), ?_, ⟨kRow, _, rfl, by decide⟩⟩
    · simp [kRowEq, kUseEq, kManyEq, qRow, qOne, qUse, l2, l3]
    · show (brk kRow [h, brk kMany [t], h]).length ≤ 1000
      unfold brk
      rw [joinL_cons2, joinL_cons2]
      have : kRow.length = 3 := rfl
      have : kMany.length = 4 := rfl
      simp only [TL.joinL, List.length_append, List.length_cons, List.length_nil]
      omega
  · refine ⟨qOne kMany (qUse h), pre (kd6_f rfl (by omega) (kd6_f rfl (by omega) (kd6_f rfl (by omega) (kd6_f rfl (by omega) (kd6_t rfl hk ?_))))), s_one (by decide) (useS mh), rfl, rfl, u_one (u_use hh), ?_, ⟨kMany, _, rfl, by decide⟩⟩
    · simp [kUseEq, kManyEq, qOne, qUse, l2]
    · show (brk kMany [h]).length ≤ 1000
      unfold brk
      have : kMany.length = 4 := rfl
      simp only [TL.joinL, List.length_append, List.length_cons, List.length_nil]
      omega
  · have i0 : (1 : Int) ≤ 1 + other % 6 := by omega
    have i6 : 1 + other % 6 ≤ 6 := by omega
    have li := nT_len (small6 i0 i6)
    refine ⟨qAlike (qUse h) (1 + other % 6), pre (kd6_f rfl (by omega) (kd6_f rfl (by omega) (kd6_f rfl (by omega) (kd6_f rfl (by omega) (kd6_f rfl (by omega) (kd6_t rfl hk ?_)))))), .inr (.inr (.inr (.inr (.inr (.inr ⟨_, _, i0, i6, useS mh, rfl⟩))))), rfl, rfl, us_in (fun x hx => by rw [List.mem_singleton.mp hx]; exact u_use hh), ?_, ⟨kAlike, _, rfl, by decide⟩⟩
    · simp [kUseEq, kAlikeEq, qAlike, qUse, l2, l3]
    · show (brk kAlike [h, nT _]).length ≤ 1000
      unfold brk
      rw [joinL_cons2]
      have : kAlike.length = 5 := rfl
      simp only [TL.joinL, List.length_append, List.length_cons, List.length_nil]
      omega
  · refine ⟨qOne kRising (qRow [qOne kUnlike (qUse t), qRow []]), pre (kd6_f rfl (by omega) (kd6_f rfl (by omega) (kd6_f rfl (by omega) (kd6_f rfl (by omega) (kd6_f rfl (by omega) (kd6_f rfl (by omega) ?_)))))), s_one (by decide) (s_row (by simp) (all2s (s_one (by decide) (useS mt)) (s_row (by simp) (fun p hp => nomatch hp)))), rfl, rfl, u_one (u_row (all2s (u_one (u_use ht)) (u_row (fun p hp => nomatch hp)))), ?_, ⟨kRising, _, rfl, by decide⟩⟩
    · simp [kUseEq, kRisingEq, kUnlikeEq, kRowEq, qRow, qOne, qUse, l2, z0]
    · show (brk kRising [brk kRow [brk kUnlike [t], brk kRow []]]).length ≤ 1000
      unfold brk
      simp only [joinL_cons2]
      have : kRow.length = 3 := rfl
      have : kRising.length = 6 := rfl
      have : kUnlike.length = 6 := rfl
      simp only [TL.joinL, List.length_append, List.length_cons, List.length_nil]
      omega
end Law

/-! GK06c: the book of the law. -/
namespace Law
open PySem L2 Gs
theorem seqE' {α : Type} {Q : α → Prop} {A R : S} {δ : Sl} {s : Sto} (f : α → Sl) (g : α → Sto) (h : ∃ x, Q x ∧ A δ s = .nx (f x) (g x)) (h2 : ∀ x, Q x → ∃ s', R (f x) (g x) = .rt (.bl true) s') : ∃ s', sSeq A R δ s = .rt (.bl true) s' := by
  obtain ⟨x, q, e⟩ := h
  obtain ⟨s', e2⟩ := h2 x q
  exact ⟨s', by rw [v_sSeq, e]; exact e2⟩
theorem cell_val (ns : List Int) (k : Nat) : ∃ c : Int, ∀ s, S_l_cell_at [.lst (ns.map .int), .int (k : Int)] s = .ok (.int c) s := by
  by_cases h : k < ns.length
  · refine ⟨ns[k], fun s => ?_⟩
    apply runG_rt
    have e : atI (ns.map D.int) (k : Int) = some (.int ns[k]) := by
      rw [atI_ofNat _ (by simpa using h)]
      simp
    simp [h, e]
  · refine ⟨0, fun s => ?_⟩
    apply runG_rt
    simp [h]
theorem nodup_sub {α : Type} [DecidableEq α] : ∀ (l m : List α), l.Nodup → (∀ x ∈ l, x ∈ m) → l.length ≤ m.length
  | [], m, _, _ => Nat.zero_le _
  | x :: l, m, h, hs => by
    obtain ⟨h1, h2⟩ := List.nodup_cons.mp h
    have hx := hs x (by simp)
    have := nodup_sub l (m.erase x) h2 fun y hy => by
      have hne : y ≠ x := fun e => h1 (e ▸ hy)
      exact (List.mem_erase_of_ne hne).mpr (hs y (by simp [hy]))
    rw [List.length_erase_of_mem hx] at this
    have hp : 0 < m.length := List.length_pos_of_mem hx
    simp only [List.length_cons]
    omega
/-- the rows so far -/
structure Rws (names : List (List Nat)) (k : Nat) (rows : Bok) : Prop where
  nm : rows.map (·.1) = names.take k
  dr : ∀ p ∈ rows, Dr names p.2
theorem rws_ok {names : List (List Nat)} {rows : Bok} (h1 : 1 ≤ names.length) (h8 : names.length ≤ 8) (hm : ∀ n ∈ names, isM n = true) (hn : names.Nodup) (h : Rws names names.length rows) : BokOk rows ∧ nmB rows = names ∧ rows.length = names.length := by
  have e : nmB rows = names := by
    have := h.nm
    rw [List.take_length] at this
    exact this
  have el : rows.length = names.length := by rw [← e]; simp [nmB]
  refine ⟨⟨fun p hp => ?_, by rw [e]; exact hn, by omega, by omega⟩, e, el⟩
  have d := h.dr p hp
  refine ⟨hm _ ?_, d.sh, d.tw, d.nr, by rw [e]; exact d.us, d.ln, d.nu⟩
  rw [← e]
  exact List.mem_map_of_mem hp
theorem bk_loop (ns : List Int) (names : List (List Nat)) (h1 : 1 ≤ names.length) (h8 : names.length ≤ 8) (hm : ∀ n ∈ names, isM n = true) (odd w : D) : ∃ (rows : Bok) (y6 y7 : Option D), Rws names names.length rows ∧ forD (.nm 6) L_law_0 (rngD 0 names.length) [some (.lst (ns.map .int)), some (.int (names.length : Int)), some (.ob 0), some odd, some w, some (.ob 1), none, none, none, none, none, none, none, none, none] [.lst (nmsD names), .lst []] = .nx [some (.lst (ns.map .int)), some (.int (names.length : Int)), some (.ob 0), some odd, some w, some (.ob 1), y6, y7, none, none, none, none, none, none, none] [.lst (nmsD names), .lst (bkL rows)] := by
  obtain ⟨δ', s', e, rows, y6, y7, rfl, rfl, hr⟩ := forR (p := .nm 6) (body := L_law_0) (lo := 0) (n := names.length) (δ := [some (.lst (ns.map .int)), some (.int (names.length : Int)), some (.ob 0), some odd, some w, some (.ob 1), none, none, none, none, none, none, none, none, none]) (s := [.lst (nmsD names), .lst []])
    (fun k δ s => ∃ (rows : Bok) (y6 y7 : Option D), δ = [some (.lst (ns.map .int)), some (.int (names.length : Int)), some (.ob 0), some odd, some w, some (.ob 1), y6, y7, none, none, none, none, none, none, none] ∧ s = [.lst (nmsD names), .lst (bkL rows)] ∧ Rws names k rows)
    ⟨[], none, none, rfl, rfl, by simp, fun p hp => nomatch hp⟩
    (fun k δ s hk ⟨rows, y6, y7, e1, e2, hr⟩ => by
      subst e1; subst e2
      refine ⟨_, rfl, ?_⟩
      have hc : ∀ j : Nat, ∃ c : Int, ∀ s, S_l_cell_at [.lst (ns.map .int), .int (2 + 3 * (k : Int) + (j : Int))] s = .ok (.int c) s := fun j => by
        obtain ⟨c, hc⟩ := cell_val ns (2 + 3 * k + j)
        refine ⟨c, fun s => ?_⟩
        have := hc s
        rw [show ((2 + 3 * k + j : Nat) : Int) = 2 + 3 * (k : Int) + (j : Int) by omega] at this
        exact this
      obtain ⟨c, hc⟩ := Classical.axiomOfChoice hc
      obtain ⟨S, hS⟩ : ∃ S : Sto, [O.lst (nmsD names), O.lst (bkL rows)] = S := ⟨_, rfl⟩
      have rs : rsv S (.ob 0) = .lst (nmsD names) := by rw [← hS]; exact r_ob rfl
      have ls : lsO S (.ob 1) = some (bkL rows) := by rw [← hS]; exact lsO_ob rfl
      obtain ⟨q, e3, hq⟩ := drawn_val h1 h8 hm rs (c 0 % 100000000000000000000000000000000000000000000000000000000000000) (c 1 % 100000000000000000000000000000000000000000000000000000000000000) (c 2 % 7)
      have e4 := rng_lc (n := 3) (p := 13) (e := eCall S_l_cell_at (aCons (eV 0) (aCons (eBin gAdd (eBin gAdd (eC (.int 2)) (eBin gMul (eC (.int 3)) (eV 6))) (eV 13)) (aNil)))) (δ := [some (.lst (ns.map .int)), some (.int (names.length : Int)), some (.ob 0), some odd, some w, some (.ob 1), some (.int (0 + (k : Int))), y7, none, none, none, none, none, none, none]) (s := S) (fun i => .int (c i)) (fun i hi => by
        have := hc i S
        simp [this])
      have e5 : (List.range 3).map (fun i => D.int (c i)) = [.int (c 0), .int (c 1), .int (c 2)] := rfl
      rw [e5] at e4
      have hkl : k < names.length := hk
      have e6 : atI (nmsD names) (k : Int) = some (.str (St names[k])) := by
        rw [atI_ofNat _ (by simpa [nmsD] using hkl)]
        simp [nmsD]
      have rl : rows.length = k := by
        have := congrArg List.length hr.nm
        rw [List.length_map, List.length_take] at this
        omega
      have lb : (bkL rows).length < sizeLine := by rw [bkL_len]; exact small_line (n := rows.length + 1) (by omega)
      have l2 : 2 ≤ sizeLine := small_line (by omega)
      have l3 : 3 ≤ sizeLine := small_line (by omega)
      have ll : names.length ≤ sizeLine := small_line (by omega)
      have lD : (nmsD names).length = names.length := by simp [nmsD]
      have ro : rngOk 3 := rngOk_nat (j := 3) (by decide)
      have eB : bkL (rows ++ [(names[k], q)]) = bkL rows ++ [.tup [.str (St names[k]), q.x]] := by simp [bkL]
      refine ⟨[some (.lst (ns.map .int)), some (.int (names.length : Int)), some (.ob 0), some odd, some w, some (.ob 1), some (.int (0 + (k : Int))), some (.lst [.int (c 0), .int (c 1), .int (c 2)]), none, none, none, none, none, none, none], [.lst (nmsD names), .lst (bkL (rows ++ [(names[k], q)]))], ?_, rows ++ [(names[k], q)], _, _, rfl, rfl, ?_, fun p hp => ?_⟩
      · refine seq_nx' [some (.lst (ns.map .int)), some (.int (names.length : Int)), some (.ob 0), some odd, some w, some (.ob 1), some (.int (0 + (k : Int))), some (.lst [.int (c 0), .int (c 1), .int (c 2)]), none, none, none, none, none, none, none] S ?_ ?_
        · simp at e4
          simp [ro, wipeD, e4, l3]
          try simp [hS, e4, l3]
        · rw [eB]
          have st : ∀ xs, stO S (.ob 1) xs = [.lst (nmsD names), .lst xs] := fun xs => by rw [← hS]; simp [stO]
          have st2 : ∀ xs : List D, List.set S 1 (.lst xs) = [.lst (nmsD names), .lst xs] := fun xs => by rw [← hS]; rfl
          simp [rs, ls, lD, ll, e6, l3, e3, l2, lb, st, st2]
      · rw [List.map_append, hr.nm, List.map_singleton, List.take_succ, List.getElem?_eq_getElem hkl]
        rfl
      · rcases List.mem_append.mp hp with hp | hp
        · exact hr.dr p hp
        · rw [List.mem_singleton.mp hp]; exact hq)
  exact ⟨rows, y6, y7, hr, e⟩
end Law

/-! GK06d: the law. -/
namespace Law
open PySem L2 Gs
theorem same_B {n : Nat} {x : D} (h : Sam n x) (hn : n ≤ 70) (s : Sto) : thawR s (S_l_same 70 [x, x] (gones s.length)) = .ok (.bl true) s := by
  rw [same_of h hn]
  exact tv_n true rfl
theorem sam_nms (l : List (List Nat)) (h : l.length ≤ 10000) : Sam 2 (.lst (nmsD l)) := sam_lst (k := 1) (fun x hx => by
  obtain ⟨t, _, rfl⟩ := List.mem_map.mp hx
  exact sam_str _) (by simpa [nmsD] using h)
theorem sam_bk {rows : Bok} (h : BokOk rows) : Sam 22 (.lst (bkL rows)) := sam_lst (k := 21) (fun x hx => by
  obtain ⟨p, hp, rfl⟩ := List.mem_map.mp hx
  exact sam_tup (k := 20) (fun y hy => by
    simp only [List.mem_cons, List.not_mem_nil, or_false] at hy
    rcases hy with rfl | rfl
    · exact (sam_str _).up (by decide)
    · exact shp_sam 6 p.2 (h.row p hp).sh) (by simp)) (by rw [bkL_len]; have := h.hi; omega)
/-- each name's shape, and what names it uses -/
theorem ask_loop {rows : Bok} (hok : BokOk rows) (x0 x1 x2 x3 x4 x6 x7 x8 x9 x12 x13 x14 : Option D) : ∀ (ps : Bok) (y z : Option D) (s : Sto), (∀ p ∈ ps, p ∈ rows) → ∃ y' z' g, forD (.tp [.nm 10, .nm 11]) L_law_1 (bkL ps) [x0, x1, x2, x3, x4, some (.lst (bkL rows)), x6, x7, x8, x9, y, z, x12, x13, x14] s = .nx [x0, x1, x2, x3, x4, some (.lst (bkL rows)), x6, x7, x8, x9, y', z', x12, x13, x14] (s ++ g)
  | [], y, z, s, _ => ⟨y, z, [], by simp [bkL, forD]⟩
  | p :: ps, y, z, s, h => by
    have hp := h p (by simp)
    have hr := hok.row p hp
    have hl : p.2.t.length ≤ 2000 := by have := hr.ln; omega
    have e1 := so_hit (Bk.frz s rows) hok.nd hp
    obtain ⟨g1, e2⟩ := shp_nu 6 p.2 hr.sh hl 63 s
    have e2 : S_names_used 70 [p.2.x] s = .ok (.ob s.length) (s ++ .lst (nmsD p.2.us) :: g1) := e2
    have e3 : ∀ s, S_l_uses 70 [p.2.x] s = .ok (.lst (nmsD p.2.us)) s := fun s => shp_ln 6 p.2 hr.sh hl 63 s
    have sx := shp_sam 6 p.2 hr.sh
    have sl : p.2.us.length ≤ 10000 := by have := us_len 6 p.2 hr.sh; omega
    have b1 := same_B sx (by decide) s
    have k1 := sx.1 s
    have b2 := same_B (sam_nms p.2.us sl) (by decide) (s ++ .lst (nmsD p.2.us) :: g1)
    have k2 : lokD (s ++ .lst (nmsD p.2.us) :: g1) (.ob s.length) = .lst (nmsD p.2.us) := lok_ob (get_mid _ _ _)
    obtain ⟨y', z', g', ih⟩ := ask_loop hok x0 x1 x2 x3 x4 x6 x7 x8 x9 x12 x13 x14 ps (some (.str (St p.1))) (some p.2.x) (s ++ .lst (nmsD p.2.us) :: g1) (fun r hr => h r (by simp [hr]))
    refine ⟨y', z', .lst (nmsD p.2.us) :: g1 ++ g', ?_⟩
    have eb : L_law_1 [x0, x1, x2, x3, x4, some (.lst (bkL rows)), x6, x7, x8, x9, some (.str (St p.1)), some p.2.x, x12, x13, x14] s = .nx [x0, x1, x2, x3, x4, some (.lst (bkL rows)), x6, x7, x8, x9, some (.str (St p.1)), some p.2.x, x12, x13, x14] (s ++ .lst (nmsD p.2.us) :: g1) := by
      obtain ⟨T, hT⟩ : ∃ T, s ++ O.lst (nmsD p.2.us) :: g1 = T := ⟨_, rfl⟩
      rw [hT] at e2 b2 k2 ⊢
      simp [L_law_1, e1, k1, b1, e2, e3, k2, b2]
    show forD _ _ (.tup [.str (St p.1), p.2.x] :: bkL ps) _ _ = _
    simp only [forD, v_tp, v_ps1, v_nm, v_ps0, List.set_cons_succ, List.set_cons_zero]
    rw [eb]
    simp only []
    rw [ih]
    simp
theorem no_name {rows : Bok} {z : List Nat} (h : z ∉ nmB rows) (s : Sto) : S_l_no_name [.lst (bkL rows), .str (St z)] s = .ok (.bl true) s := by
  have e := so_miss (Bk.frz s rows) h
  apply runG_rt
  simp [e, noname, xt_NoName, gIsD, evD, tb_CountError, tb_ValueError]
theorem law_text {rows : Bok} (hok : BokOk rows) (δ : Sl) (hδ : δ.length = 15) (s : Sto) : lcD (.tp [.nm 10, .nm 11]) tTrue (eBin gAdd (eBin gAdd (eV 10) (eC (.str (Str.ofString "=")))) (eCall (S_l_text 70) (aCons (eV 11) (aNil)))) δ (bkL rows) s = .ok (rows.map fun p => .str (St (p.1 ++ [61] ++ p.2.t))) s :=
  lcD_mapL (fun p : List Nat × Sq => .tup [.str (St p.1), p.2.x]) (fun p => .str (St (p.1 ++ [61] ++ p.2.t))) rows fun p hp => ⟨_, by simp; rfl, by simp, by
    have hr := hok.row p hp
    have e : S_l_text 70 [p.2.x] s = .ok (.str (St p.2.t)) s := shp_lt 6 p.2 hr.sh (by have := hr.ln; omega) 63 s
    have hm := (isM_all hr.nm).2.1
    have hln := hr.ln
    have b1 := d_addS p.1 [61] (by simp only [List.length_singleton]; omega)
    have b2 := d_addS (p.1 ++ [61]) p.2.t (by rw [List.length_append]; simp only [List.length_singleton]; omega)
    simp [hδ, c_eqs, e, b1, b2, -Gs.v_addS, -Law.v_addS, -List.append_assoc]⟩
theorem bk_join {rows : Bok} (h : BokOk rows) : gJoin (.str (St [10])) [.lst (rows.map fun p => D.str (St (p.1 ++ [61] ++ p.2.t)))] = some (.str (St (bkT rows))) := by
  have hj := bkT_len h
  have e : (rows.map fun p => D.str (St (p.1 ++ [61] ++ p.2.t))) = ((rows.map fun p => p.1 ++ [61] ++ p.2.t).map St).map D.str := by simp
  have h4 : (((rows.map fun p => p.1 ++ [61] ++ p.2.t).map St).map (·.length)).sum + ((rows.map fun p => p.1 ++ [61] ++ p.2.t).map St).length * (St [10]).length ≤ 16777216 := by
    have key : ∀ (l : Bok), (∀ p ∈ l, RowOk (nmB rows) p) → (((l.map fun p => p.1 ++ [61] ++ p.2.t).map St).map (·.length)).sum ≤ 1010 * l.length := by
      intro l
      induction l with
      | nil => intro _; simp
      | cons p l ih =>
        intro hp
        have := ih fun q hq => hp q (by simp [hq])
        have hr := hp p (by simp)
        have h8 := (isM_all hr.nm).2.1
        have hln := hr.ln
        simp only [List.map_cons, List.sum_cons, List.length_cons, St_len, List.length_append, List.length_nil] at this ⊢
        omega
    have := key rows h.row
    have := h.hi
    rw [List.length_map, List.length_map, St_len]
    simp only [List.length_singleton]
    omega
  have ej : Txt.join (St [10]) ((rows.map fun p => p.1 ++ [61] ++ p.2.t).map St) = St (bkT rows) := by
    rw [TL.join_eq]
    refine TL.ext_tl ?_
    have := TL.tl_join (St [10]) ((rows.map fun p => p.1 ++ [61] ++ p.2.t).map St)
    rw [this]
    have e : ((rows.map fun p => p.1 ++ [61] ++ p.2.t).map St).map TL.tl = rows.map fun p => p.1 ++ [61] ++ p.2.t := by
      rw [List.map_map]
      exact (List.map_congr_left (g := id) fun x _ => rfl).trans (List.map_id _)
    rw [e]
    rfl
  rw [e]
  simp only [gJoin, strsOf_map, Option.bind_some]
  rw [if_pos h4, ej]
def words : List (List Nat) := [kWhole, kText, kRow, kMany, kRising, kUnlike, kAlike, kPick]
theorem words_M : ∀ w ∈ words, isM w = true := by decide
theorem ixN_nat {n j : Nat} (h : j < n) : ixN n (j : Int) = some j := by
  unfold ixN
  have h1 : ¬ (j : Int) < 0 := by omega
  simp [h1, h]
theorem names_one (c odd : Int) (n : Nat) (h1 : 1 ≤ n) (h8 : n ≤ 8) : ∃ (w : List Nat) (ms names : List (List Nat)), w ∈ words ∧ gIx (.lst [.str (Str.ofString "whole"), .str (Str.ofString "text"), .str (Str.ofString "row"), .str (Str.ofString "many"), .str (Str.ofString "rising"), .str (Str.ofString "unlike"), .str (Str.ofString "alike"), .str (Str.ofString "pick")]) (.int (odd / 8 % 8)) = some (.str (St w)) ∧ S_l_names [.int c, .int (n : Int)] [] = .ok (.ob 0) [.lst (nmsD ms)] ∧ ms.length = n ∧ names.length = n ∧ (∀ m ∈ names, isM m = true) ∧ names.Nodup ∧ (names = ms ∧ ¬ (odd % 8 = 1 ∧ w ∉ ms) ∨ (odd % 8 = 1 ∧ w ∉ ms ∧ ∃ j : Nat, j < n ∧ odd / 64 % (n : Int) = (j : Int) ∧ names = ms.set j w)) := by
  obtain ⟨ms, e1, hl, hm, hn⟩ := names_val c n h1 h8 []
  have l8 : 8 ≤ sizeLine := small_line (by omega)
  have ht : ∃ w, w ∈ words ∧ gIx (.lst [.str (Str.ofString "whole"), .str (Str.ofString "text"), .str (Str.ofString "row"), .str (Str.ofString "many"), .str (Str.ofString "rising"), .str (Str.ofString "unlike"), .str (Str.ofString "alike"), .str (Str.ofString "pick")]) (.int (odd / 8 % 8)) = some (.str (St w)) := by
    obtain ⟨t, ht, e⟩ := ix_txs (l := words) (by decide) (c := odd / 8) (m := 8) (by decide) (by decide)
    refine ⟨t, ht, ?_⟩
    rw [← e]
    rw [kWholeEq, kTextEq, kRowEq, kManyEq, kRisingEq, kUnlikeEq, kAlikeEq, kPickEq]
    rfl
  obtain ⟨w, hw, e2⟩ := ht
  by_cases q : odd % 8 = 1 ∧ w ∉ ms
  · obtain ⟨j, hj, hj2⟩ := rem_nat (c := odd / 64) (m := (n : Int)) (by omega)
    have hj3 : j < n := by omega
    refine ⟨w, ms, ms.set j w, hw, e2, e1, hl, by simpa using hl, fun m hmm => ?_, ?_, .inr ⟨q.1, q.2, j, hj3, hj, rfl⟩⟩
    · rcases List.mem_or_eq_of_mem_set hmm with h | h
      · exact hm m h
      · rw [h]; exact words_M w hw
    · have key : ∀ (l : List (List Nat)) (j : Nat), l.Nodup → w ∉ l → (l.set j w).Nodup := by
        intro l
        induction l with
        | nil => intro j h _; simpa using h
        | cons x l ih =>
          intro j h hw
          obtain ⟨a1, a2⟩ := List.nodup_cons.mp h
          have hw1 : w ≠ x := fun e => hw (by simp [e])
          have hw2 : w ∉ l := fun e => hw (by simp [e])
          cases j with
          | zero => exact List.nodup_cons.mpr ⟨hw2, a2⟩
          | succ j =>
            refine List.nodup_cons.mpr ⟨fun hx => ?_, ih j a2 hw2⟩
            rcases List.mem_or_eq_of_mem_set hx with h | h
            · exact a1 h
            · exact hw1 h.symm
      exact key ms j hn q.2
  · exact ⟨w, ms, ms, hw, e2, e1, hl, hl, hm, hn, .inl ⟨rfl, q⟩⟩
end Law

/-! GK06e: the law. -/
namespace Law
open PySem L2 Gs
theorem law_true (ns : List Int) (hn : ns.length ≤ 63) : ∃ s', S_law [.lst (ns.map D.int)] [] = .ok (.bl true) s' := by
  obtain ⟨c0, h0⟩ := cell_val ns 0
  obtain ⟨c1, h1⟩ := cell_val ns 1
  obtain ⟨c26, h26⟩ := cell_val ns 26
  obtain ⟨c27, h27⟩ := cell_val ns 27
  simp at h0 h1 h26 h27
  obtain ⟨n0, hn0, hn8⟩ := rem_nat (c := c0) (m := 8) (by decide)
  obtain ⟨n, hnn⟩ : ∃ n, 1 + n0 = n := ⟨_, rfl⟩
  have en : (1 : Int) + c0 % 8 = (n : Int) := by omega
  obtain ⟨o, ho⟩ : ∃ o, c27 % 1000000000 = o := ⟨_, rfl⟩
  obtain ⟨w, ms, names, hw, ew, enm, hml, hnl, hM, hnd, hcase⟩ := names_one (c1 % 1000000000000000000) o n (by omega) (by omega)
  have hn1 : 1 ≤ names.length := by omega
  have hnm8 : names.length ≤ 8 := by omega
  obtain ⟨rows, y6, y7, hr, eb⟩ := bk_loop ns names hn1 hnm8 hM (.int o) (.str (St w))
  obtain ⟨hok, hnmB, hrl⟩ := rws_ok hn1 hnm8 hM hnd hr
  rw [hnl] at eb
  -- the stores
  obtain ⟨g, er⟩ := book_read hok [.lst (nmsD names), .gone]
  obtain ⟨U, hU⟩ : ∃ U : Sto, [O.lst (nmsD names), .gone] ++ .lst (bkL rows) :: g = U := ⟨_, rfl⟩
  rw [hU] at er
  have er : S_read_book [.str (St (bkT rows))] [.lst (nmsD names), .gone] = .ok (.ob 2) U := er
  have es := book_show hok U
  have sB := sam_bk hok
  have b1 := same_B sB (by decide) U
  have b2 := same_B (sam_str (St (bkT rows))) (by decide) U
  have k1 : lokD U (.ob 2) = .lst (bkL rows) := by rw [← hU]; exact lok_ob rfl
  obtain ⟨y10, y11, g2, el⟩ := ask_loop hok (some (.lst (ns.map .int))) (some (.int (n : Int))) (some (.ob 0)) (some (.int o)) (some (.str (St w))) y6 y7 (some (.str (St (bkT rows)))) (some (.ob 2)) none none none rows none none U (fun p hp => hp)
  obtain ⟨V, hV⟩ : ∃ V : Sto, U ++ g2 = V := ⟨_, rfl⟩
  rw [hV] at el
  have hVe : V = .lst (nmsD names) :: .gone :: .lst (bkL rows) :: (g ++ g2) := by rw [← hV, ← hU]; simp
  have rs : rsv V (.ob 0) = .lst (nmsD names) := by rw [hVe]; exact r_ob rfl
  -- the other letters
  obtain ⟨L9, hO⟩ : ∃ L9, ((lets.map fun c => [c]).filter fun t => decide (t ∉ names)) = L9 := ⟨_, rfl⟩
  have eo := lc_names (a := names) 14 (e := eV 14) (c := tV (eBin gNin (eV 14) (eV 2))) (δ := [some (.lst (ns.map .int)), some (.int (n : Int)), some (.ob 0), some (.int o), some (.str (St w)), some (.lst (bkL rows)), y6, y7, some (.str (St (bkT rows))), some (.ob 2), y10, y11, none, none, none]) (s := V) (fun t => by
    have := mem_nms names t
    simp [rs, this]) (lets.map fun c => [c])
  rw [hO] at eo
  have e26 : nmsD (lets.map fun c => [c]) = lets.map fun c => .str (St [c]) := by simp [nmsD, Function.comp_def]
  rw [e26] at eo
  have hOl : 0 < L9.length ∧ L9.length ≤ 26 := by
    have hle : L9.length ≤ 26 := by
      rw [← hO]
      refine Nat.le_trans (List.length_filter_le _ _) ?_
      rw [List.length_map, lets_len.1]
      exact Nat.le_refl _
    refine ⟨?_, hle⟩
    cases q : L9 with
    | cons a b => simp
    | nil =>
      rw [q, List.filter_eq_nil_iff] at hO
      have h26n : (lets.map fun c => [c]).Nodup := nodup_map lets_len.2 fun a _ b _ e => by simpa using e
      have := nodup_sub (lets.map fun c => [c]) names h26n fun x hx => by
        have := hO x hx
        simpa using this
      rw [List.length_map, lets_len.1] at this
      omega
  obtain ⟨z, hz, ez⟩ := ix_nms (l := L9) (by omega) c26 hOl.1
  have hzn : z ∉ nmB rows := by
    rw [← hO] at hz
    have := (List.mem_filter.mp hz).2
    rw [hnmB]
    simpa using this
  have enn := no_name hzn V
  -- put to, and read again
  have ls : lsO V (.ob 2) = some (bkL rows) := by rw [hVe]; exact lsO_ob rfl
  obtain ⟨X, hX⟩ : ∃ X : List D, bkL rows ++ [.tup [.str (Str.ofString "more"), .tup [.str (Str.ofString "row"), .tup []]]] = X := ⟨_, rfl⟩
  obtain ⟨Y, hY⟩ : ∃ Y : Sto, List.set V 2 (.lst X) = Y := ⟨_, rfl⟩
  obtain ⟨g3, er2⟩ := book_read hok Y
  obtain ⟨Z, hZ⟩ : ∃ Z : Sto, Y ++ .lst (bkL rows) :: g3 = Z := ⟨_, rfl⟩
  have k3 : lokD Z (.ob Y.length) = .lst (bkL rows) := by rw [← hZ]; exact lok_ob (get_mid _ _ _)
  rw [hZ] at er2
  have es2 := book_show hok Z
  have b3 := same_B sB (by decide) Z
  have b4 := same_B (sam_str (St (bkT rows))) (by decide) Z
  have k0 : ∀ s, lokD s (.lst (bkL rows)) = .lst (bkL rows) := fun s => rfl
  have kt : ∀ s, lokD s (.str (St (bkT rows))) = .str (St (bkT rows)) := fun s => rfl
  have ro : rngOk (n : Int) := rngOk_nat (by omega)
  have l26 : 26 ≤ sizeLine := small_line (by omega)
  have l8 : 8 ≤ sizeLine := small_line (by omega)
  have l2 : 2 ≤ sizeLine := small_line (by omega)
  have z0 : 0 ≤ sizeLine := Nat.zero_le _
  have d8 : divOk 8 := divOk_small (by decide) (by decide)
  have d64 : divOk 64 := divOk_small (by decide) (by decide)
  have lO : L9.length ≤ sizeLine := small_line (by omega)
  have lOD : (nmsD L9).length = L9.length := by simp [nmsD]
  have lrs : rows.length ≤ sizeLine := small_line (by omega)
  have lbk : (bkL rows).length < sizeLine := by rw [bkL_len]; exact small_line (n := rows.length + 1) (by omega)
  suffices main : ∃ s', (runG 15 _ [.lst (ns.map D.int)] [] : Gs.R D) = .ok (.bl true) s' from main
  refine ⟨Z, runG_rt ?_⟩
  refine seq_nx' [some (.lst (ns.map .int)), some (.int (n : Int)), none, none, none, none, none, none, none, none, none, none, none, none, none] [] (by simp [h0, en]) ?_
  refine seq_nx' [some (.lst (ns.map .int)), some (.int (n : Int)), some (.ob 0), none, none, none, none, none, none, none, none, none, none, none, none] [.lst (nmsD ms)] (by simp [h1, enm]) ?_
  refine seq_nx' [some (.lst (ns.map .int)), some (.int (n : Int)), some (.ob 0), some (.int o), none, none, none, none, none, none, none, none, none, none, none] [.lst (nmsD ms)] (by simp [h27, ho]) ?_
  refine seq_nx' [some (.lst (ns.map .int)), some (.int (n : Int)), some (.ob 0), some (.int o), some (.str (St w)), none, none, none, none, none, none, none, none, none, none] [.lst (nmsD ms)] (by simp [d8, l8, ew, -v_ixL]) ?_
  refine seq_nx' [some (.lst (ns.map .int)), some (.int (n : Int)), some (.ob 0), some (.int o), some (.str (St w)), none, none, none, none, none, none, none, none, none, none] [.lst (nmsD names)] ?_ ?_
  · have rm : rsv [O.lst (nmsD ms)] (.ob 0) = .lst (nmsD ms) := r_ob rfl
    have mw := mem_nms ms w
    rcases hcase with ⟨e, hno⟩ | ⟨q1, q2, j, hj, ej, e⟩
    · subst e
      by_cases q1 : o % 8 = 1
      · have q2 : w ∈ names := by
          by_cases q2 : w ∈ names
          · exact q2
          · exact (hno ⟨q1, q2⟩).elim
        rw [decide_eq_false (by simpa using q2)] at mw
        simp [q1, rm, mw]
      · simp [q1]
    · rw [decide_eq_true q2] at mw
      have lm : lsO [O.lst (nmsD ms)] (.ob 0) = some (nmsD ms) := lsO_ob rfl
      have lml : (nmsD ms).length = n := by simp [nmsD, hml]
      have ixj := ixN_nat hj
      have hp : 0 < n := by omega
      have st : List.set [O.lst (nmsD ms)] 0 (.lst ((nmsD ms).set j (.str (St w)))) = [.lst (nmsD names)] := by
        rw [e]
        simp [nmsD, List.map_set]
      simp [q1, rm, mw, d64, hp, ej, lm, lml, ixj]
      simp at st
      simp [st]
  refine seq_nx' [some (.lst (ns.map .int)), some (.int (n : Int)), some (.ob 0), some (.int o), some (.str (St w)), some (.ob 1), none, none, none, none, none, none, none, none, none] [.lst (nmsD names), .lst []] (by simp) ?_
  refine seq_nx' [some (.lst (ns.map .int)), some (.int (n : Int)), some (.ob 0), some (.int o), some (.str (St w)), some (.ob 1), y6, y7, none, none, none, none, none, none, none] [.lst (nmsD names), .lst (bkL rows)] (by simp [ro, eb]) ?_
  refine seq_nx' [some (.lst (ns.map .int)), some (.int (n : Int)), some (.ob 0), some (.int o), some (.str (St w)), some (.lst (bkL rows)), y6, y7, some (.str (St (bkT rows))), none, none, none, none, none, none] [.lst (nmsD names), .gone] ?_ ?_
  · have f := frz_mid [O.lst (nmsD names)] [] (bkL rows)
    have f : frzD [O.lst (nmsD names), .lst (bkL rows)] (.ob 1) = (.lst (bkL rows), [.lst (nmsD names), .gone]) := f
    have e1 := law_text hok [some (.lst (ns.map .int)), some (.int (n : Int)), some (.ob 0), some (.int o), some (.str (St w)), some (.lst (bkL rows)), y6, y7, none, none, none, none, none, none, none] rfl [.lst (nmsD names), .gone]
    have jv := bk_join hok
    obtain ⟨W2, hW2⟩ : ∃ W2, (rows.map fun p => D.str (St (p.1 ++ [61] ++ p.2.t))) = W2 := ⟨_, rfl⟩
    have hWl : W2.length = rows.length := by rw [← hW2]; simp
    rw [hW2] at e1 jv
    rw [c_nl]
    simp [f, seqOf, wipeD, e1, hWl, lrs, jv]
  refine seq_nx' [some (.lst (ns.map .int)), some (.int (n : Int)), some (.ob 0), some (.int o), some (.str (St w)), some (.lst (bkL rows)), y6, y7, some (.str (St (bkT rows))), some (.ob 2), none, none, none, none, none] U (by simp [er]) ?_
  refine seq_nx' [some (.lst (ns.map .int)), some (.int (n : Int)), some (.ob 0), some (.int o), some (.str (St w)), some (.lst (bkL rows)), y6, y7, some (.str (St (bkT rows))), some (.ob 2), none, none, none, none, none] U (by simp [k1, b1, es, b2]) ?_
  refine seq_nx' [some (.lst (ns.map .int)), some (.int (n : Int)), some (.ob 0), some (.int o), some (.str (St w)), some (.lst (bkL rows)), y6, y7, some (.str (St (bkT rows))), some (.ob 2), y10, y11, none, none, none] V (by simp [frzD, seqOf, el]) ?_
  refine seq_nx' [some (.lst (ns.map .int)), some (.int (n : Int)), some (.ob 0), some (.int o), some (.str (St w)), some (.lst (bkL rows)), y6, y7, some (.str (St (bkT rows))), some (.ob 2), y10, y11, some (.lst (nmsD L9)), none, none] V ?_ ?_
  · simp [wipeD, eo, lO, lOD]
  refine seq_nx' [some (.lst (ns.map .int)), some (.int (n : Int)), some (.ob 0), some (.int o), some (.str (St w)), some (.lst (bkL rows)), y6, y7, some (.str (St (bkT rows))), some (.ob 2), y10, y11, some (.lst (nmsD L9)), none, none] V ?_ ?_
  · have hp := hOl.1
    simp [h26, lOD, lO, hp, ez, enn, -v_ixL]
  refine seq_nx' [some (.lst (ns.map .int)), some (.int (n : Int)), some (.ob 0), some (.int o), some (.str (St w)), some (.lst (bkL rows)), y6, y7, some (.str (St (bkT rows))), some (.ob 2), y10, y11, some (.lst (nmsD L9)), none, none] Y ?_ ?_
  · have st : stO V (.ob 2) X = Y := by rw [← hY]; simp [stO]
    rw [← hX] at st hY
    simp [ls, lbk, z0, l2, st, hY]
  simp [er2, k3, b3, es2, b4]
end Law

open PySem PySem.W
set_option maxRecDepth 100000 in
set_option maxHeartbeats 0 in
theorem PySem.Challenge.cw_countgen_k06_books_read_holds : PySem.Challenge.rw_countgen_k06_books_read.Holds := by
  w_on; o_law; k_head; (case hw => w_witness2)
  k_fill
  refine L2.walk_of (l := PySem.Challenge.rw_countgen_k06_books_read) (n := 63) (k := 76) (x := "_law_script") (CX := fun w => L2.CX (PySem.W.OpenLaw.prog PySem.Challenge.rw_countgen_k06_books_read) w) (sp := fun w => Gs.spL _ Law.S_law) rfl (by decide) rfl ⟨rfl, by decide, by decide⟩ (fun w h Y => PySem.W.kIn_of Y) ?F
    (fun w H a ns hl _ hS => Gs.law_sp hS (Law.law_true ns hl)) (fun _ _ _ _ _ h => Gs.law_cx h)
  case F =>
    intro w mg fa h KX G hmg
    refine' Law.all_mk KX G hmg ?c0 ?c1 ?c2 ?c3 ?c4 ?c5 ?c6 ?c7 ?c8 ?c9 ?c10 ?c11 ?c12 ?c13 ?c14 ?c15 ?c16 ?c17 ?c18 ?c19 ?c20 ?c21 ?c22 ?c23 ?c24 ?c25 ?c26 ?c27 ?c28 ?c29 ?c30 ?c31 ?c32 ?c33 ?c34 ?c35 ?c36 ?c37 ?c38 ?c39 ?c40 ?c41 ?c42 ?c43 ?c44 ?c45 ?c46 ?c47 ?c48 ?c49 ?c50 ?c51 ?c52 ?c53 ?c54 ?c55 ?c56 ?c57 ?c58 ?c59 ?c60 ?c61 ?c62 ?c63 ?c64 ?c65 ?c66 ?c67 ?c68 ?c69 ?c70 ?c71 ?c72 ?c73 ?c74 ?c75 ?c76 ?c77 ?c78 ?c79 ?c80 ?c81 ?c82 ?c83 ?c84 ?c85 ?c86 ?c87 ?c88 ?c89 ?c90 ?c91 ?c92 ?c93 ?c94 ?c95 ?c96 ?c97 ?c98 ?c99 ?c100 ?c101 ?c102 ?c103 ?c104 ?c105 ?c106 ?c107 ?c108 ?c109 ?c110 ?c111 ?c112 ?c113 ?c114 ?c115 ?c116 ?c117 ?c118 ?c119 ?c120 ?c121 ?c122 ?c123 ?c124 ?c125 ?c126 ?c127 ?c128 ?c129 ?c130 ?c131 ?c132 ?c133 ?c134 ?c135 ?c136 ?c137 ?c138 ?c139 ?c140 ?c141 ?c142 ?c143 ?c144 ?c145 ?c146 ?c147 ?c148 ?c149 ?c150 ?c151 ?c152 ?c153 ?c154 ?c155 ?c156 ?c157 ?c158 ?c159 ?c160 ?c161 ?c162 ?c163 ?c164 ?c165 ?c166 ?c167 ?c168 ?c169 ?c170 ?c171 ?c172 ?c173 ?c174 ?c175 ?c176 ?c177 ?c178 ?c179 ?c180 ?c181 ?c182 ?c183 ?c184 ?c185 ?c186 ?c187 ?c188 ?c189 ?c190 ?c191 ?c192 ?c193 ?c194 ?c195 ?c196 ?c197 ?c198 ?c199 ?c200 ?c201 ?c202 ?c203 ?c204 ?c205 ?c206 ?c207 ?c208 ?c209 ?c210 ?c211 ?c212 ?c213 ?c214 ?c215 ?c216 ?c217 ?c218 ?c219 ?c220 ?c221 ?c222 ?c223 ?c224 ?c225 ?c226 ?c227 ?c228 ?c229 ?c230 ?c231 ?c232 ?c233 ?c234 ?c235 ?c236 ?c237 ?c238 ?c239 ?c240 ?c241 ?c242 ?c243 ?c244 ?c245 ?c246 ?c247 ?c248 ?c249 ?c250 ?c251 ?c252 ?c253 ?c254 ?c255 ?c256 ?c257 ?c258
    (case c0 => k_is); (case c1 => k_is); (case c2 => k_is); (case c3 => k_is); (case c4 => k_is); (case c5 => k_is); (case c6 => k_is); (case c7 => k_is); (case c8 => k_is); (case c9 => k_is); (case c10 => k_is); (case c11 => k_is); (case c12 => k_is); (case c13 => k_is); (case c14 => k_is); (case c15 => k_is); (case c16 => k_is); (case c17 => k_is); (case c18 => k_is); (case c19 => k_is); (case c20 => k_is); (case c21 => k_is); (case c22 => k_is); (case c23 => k_is); (case c24 => k_is); (case c25 => k_is); (case c26 => k_is); (case c27 => k_is); (case c28 => k_is); (case c29 => k_is); (case c30 => k_is); (case c31 => k_is); (case c32 => k_is); (case c33 => k_is); (case c34 => k_is); (case c35 => k_is); (case c36 => k_is); (case c37 => k_is); (case c38 => k_is); (case c39 => k_is); (case c40 => k_is); (case c41 => k_is); (case c42 => k_is); (case c43 => k_is); (case c44 => k_is); (case c45 => k_is); (case c46 => k_is); (case c47 => k_is); (case c48 => k_is); (case c49 => k_is); (case c50 => k_is); (case c51 => k_is); (case c52 => k_is); (case c53 => k_is); (case c54 => k_is); (case c55 => k_is); (case c56 => k_is); (case c57 => k_is); (case c58 => k_is); (case c59 => k_is); (case c60 => k_is); (case c61 => k_is); (case c62 => k_is); (case c63 => k_is); (case c64 => k_is); (case c65 => k_is); (case c66 => k_is); (case c67 => k_is); (case c68 => k_is); (case c69 => k_is); (case c70 => k_is); (case c71 => k_is); (case c72 => k_is); (case c73 => k_is); (case c74 => k_is); (case c75 => k_is); (case c76 => k_is); (case c77 => k_is); (case c78 => k_is); (case c79 => k_is); (case c80 => k_is); (case c81 => k_is); (case c82 => k_is); (case c83 => k_is); (case c84 => k_is); (case c85 => k_is); (case c86 => k_is); (case c87 => k_is); (case c88 => k_is); (case c89 => k_is); (case c90 => k_is); (case c91 => k_is); (case c92 => k_is); (case c93 => k_is); (case c94 => k_is); (case c95 => k_is); (case c96 => k_is); (case c97 => k_is); (case c98 => k_is); (case c99 => k_is); (case c100 => k_is); (case c101 => k_is); (case c102 => k_is); (case c103 => k_is); (case c104 => k_is); (case c105 => k_is); (case c106 => k_is); (case c107 => k_is); (case c108 => k_is); (case c109 => k_is); (case c110 => k_is); (case c111 => k_is); (case c112 => k_is); (case c113 => k_is); (case c114 => k_is); (case c115 => k_is); (case c116 => k_is); (case c117 => k_is); (case c118 => k_is); (case c119 => k_is); (case c120 => k_is); (case c121 => k_is); (case c122 => k_is); (case c123 => k_is); (case c124 => k_is); (case c125 => k_is); (case c126 => k_is); (case c127 => k_is); (case c128 => k_is); (case c129 => k_is); (case c130 => k_is); (case c131 => k_is); (case c132 => k_is); (case c133 => k_is); (case c134 => k_is); (case c135 => k_is); (case c136 => k_is); (case c137 => k_is); (case c138 => k_is); (case c139 => k_is); (case c140 => k_is); (case c141 => k_is); (case c142 => k_is); (case c143 => k_is); (case c144 => k_is); (case c145 => k_is); (case c146 => k_is); (case c147 => k_is); (case c148 => k_is); (case c149 => k_is); (case c150 => k_is); (case c151 => k_is); (case c152 => k_is); (case c153 => k_is); (case c154 => k_is); (case c155 => k_is); (case c156 => k_is); (case c157 => k_is); (case c158 => k_is); (case c159 => k_is); (case c160 => k_is); (case c161 => k_is); (case c162 => k_is); (case c163 => k_is); (case c164 => k_is); (case c165 => k_is); (case c166 => k_is); (case c167 => k_exc); (case c168 => k_is); (case c169 => k_is); (case c170 => k_is); (case c171 => k_is); (case c172 => k_is); (case c173 => k_exc); (case c174 => k_is); (case c175 => k_is); (case c176 => k_is); (case c177 => k_is); (case c178 => k_is); (case c179 => k_exc); (case c180 => k_is); (case c181 => k_is); (case c182 => k_is); (case c183 => k_is); (case c184 => k_is); (case c185 => k_exc); (case c186 => k_is); (case c187 => k_is); (case c188 => k_is); (case c189 => k_is); (case c190 => k_is); (case c191 => k_exc); (case c192 => k_is); (case c193 => k_is); (case c194 => k_is); (case c195 => k_is); (case c196 => k_is); (case c197 => k_is); (case c198 => k_is); (case c199 => k_is); (case c200 => k_is); (case c201 => k_is); (case c202 => k_is); (case c203 => k_is); (case c204 => k_is); (case c205 => first | rfl | decide +kernel); (case c206 => k_is); (case c207 => k_is); (case c208 => k_is); (case c209 => k_is); (case c210 => k_is); (case c211 => k_is); (case c212 => k_is); (case c213 => k_is); (case c214 => k_is); (case c215 => k_is); (case c216 => k_is); (case c217 => first | rfl | k_is); (case c218 => first | rfl | k_is); (case c219 => k_is); (case c220 => k_is); (case c221 => k_is); (case c222 => k_is); (case c223 => first | rfl | k_is); (case c224 => first | rfl | k_is); (case c225 => k_is); (case c226 => k_is); (case c227 => k_is); (case c228 => k_is); (case c229 => first | rfl | k_is); (case c230 => first | rfl | k_is); (case c231 => k_is); (case c232 => k_is); (case c233 => k_is); (case c234 => k_is); (case c235 => first | rfl | k_is); (case c236 => first | rfl | k_is); (case c237 => k_is); (case c238 => k_is); (case c239 => k_is); (case c240 => k_is); (case c241 => first | rfl | k_is); (case c242 => first | rfl | k_is); (case c243 => k_is); (case c244 => k_is); (case c245 => k_is); (case c246 => k_is); (case c247 => first | rfl | k_is); (case c248 => first | rfl | k_is); (case c249 => first | rfl | k_is); (case c250 => first | rfl | k_is); (case c251 => k_is); (case c252 => k_is); (case c253 => first | rfl | k_is); (case c254 => first | rfl | k_is); (case c255 => first | rfl | k_is); (case c256 => first | rfl | k_is); (case c257 => first | rfl | k_is); (case c258 => first | rfl | k_is)
