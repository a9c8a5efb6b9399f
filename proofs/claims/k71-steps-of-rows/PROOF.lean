import PyProof.Rows.All
import HandS.ForMost
import HandS.ForExc
import HandS.WideBits
import HandS.Wide
import HandS.TupAny
import HandS.IsInst
import HandS.Style
import HandS.RevRange
import HandS.Codes
import HandS.Zip
import HandS.ExcValue
import HandS.HotCalls
import HandS.ExcIs
import HandS.Rev
import HandS.Zip0
import KE.GoesMore
import KE.GoesZip
import PySem.Challenge.RW_countgen_k71_steps_of_rows
set_option Elab.async false
set_option linter.all false
set_option maxRecDepth 100000
set_option autoImplicit false
/-! G1: data and a store of things that change; what stands for them in a heap; a step; a frame. -/
namespace Gs
open PySem L2

inductive D where
  | non | bl (b : Bool) | int (i : Int) | str (x : Str) | tup (xs : List D) | lst (xs : List D) | dct (ks : List Key) (ds : List D)
  | ob (i : Nat) | fn (s : String) | ev (c : String) (ks : List Str) (ds : List D)
  deriving Inhabited
inductive O where
  | lst (xs : List D) | dK (kvs : List (Key × D)) | dT (kvs : List (List Key × D)) | ins (c : String) (fs : List (Str × D)) | gone
  deriving Inhabited
abbrev Sto := List O
def O.live : O → Bool
  | .gone => false
  | _ => true
/-- an exception's object, of the class cls, with the own dict d -/
def EvO (cls : Value) (d : Option Addr) (a : Addr) : HO := .ext fun h => ∃ (oe : Obj) (vs : Array Value), h.get? a = some oe ∧ Zc cls d oe ∧ oe.data = .fields vs

mutual
inductive Rep (K : PySem.W.Frag) (ct : String → Addr) (G : Hp) (m : Nat → Option Addr) : D → V → Prop
  | non : Rep K ct G m .non .non
  | bl (b : Bool) : Rep K ct G m (.bl b) (.bl b)
  | int (i : Int) : Rep K ct G m (.int i) (.int i)
  | str (x : Str) : Rep K ct G m (.str x) (.str x)
  | fn (s : String) : Rep K ct G m (.fn s) (.ref (ct s))
  | ob {i : Nat} {a : Addr} : m i = some a → Rep K ct G m (.ob i) (.ref a)
  | tup {a : Addr} {vs : List V} {ds : List D} : SqT K G a vs → RepL K ct G m ds vs → Rep K ct G m (.tup ds) (.ref a)
  | lst {a : Addr} {vs : List V} {ds : List D} : SqL K G a vs → RepL K ct G m ds vs → Rep K ct G m (.lst ds) (.ref a)
  | dct {a : Addr} {vs : List V} {ks : List Key} {ds : List D} : G a = some (.dK (ks.zip vs)) → ks.length = ds.length → RepL K ct G m ds vs → Rep K ct G m (.dct ks ds) (.ref a)
  | ev0 {a : Addr} {c : String} : G a = some (EvO (.ref (ct c)) none a) → Rep K ct G m (.ev c [] []) (.ref a)
  | ev {a d : Addr} {vs : List V} {c : String} {ks : List Str} {ds : List D} : ks ≠ [] → G a = some (EvO (.ref (ct c)) (some d) a) → G d = some (.xd (ks.zip vs)) → ks.length = ds.length → RepL K ct G m ds vs → Rep K ct G m (.ev c ks ds) (.ref a)
inductive RepL (K : PySem.W.Frag) (ct : String → Addr) (G : Hp) (m : Nat → Option Addr) : List D → List V → Prop
  | nil : RepL K ct G m [] []
  | cons {d : D} {v : V} {ds : List D} {vs : List V} : Rep K ct G m d v → RepL K ct G m ds vs → RepL K ct G m (d :: ds) (v :: vs)
end

def Grow (m m' : Nat → Option Addr) : Prop := ∀ i a, m i = some a → m' i = some a
theorem Grow.refl {m : Nat → Option Addr} : Grow m m := fun _ _ h => h
theorem Grow.trans {m m1 m2 : Nat → Option Addr} (a : Grow m m1) (b : Grow m1 m2) : Grow m m2 := fun i x h => b i x (a i x h)

theorem rd_mono {G G' : Hp} {a : Addr} {u : HO} (e : Same G G') (h : Rd G a u) : Rd G' a u := by
  rcases h with h | ⟨o, h⟩
  · exact .inl (e _ _ h)
  · exact .inr ⟨o, e _ _ h⟩
theorem sqt_mono {K : PySem.W.Frag} {G G' : Hp} {a : Addr} {xs : List V} (e : Same G G') (h : SqT K G a xs) : SqT K G' a xs := by
  rcases h with h | h
  · exact .inl (rd_mono e h)
  · exact .inr h
section
variable {K : PySem.W.Frag} {ct : String → Addr} {G G' : Hp} {m m' : Nat → Option Addr}
mutual
theorem Rep.mono (e : Same G G') (g : Grow m m') : ∀ {d : D} {v : V}, Rep K ct G m d v → Rep K ct G' m' d v
  | _, _, .non => .non
  | _, _, .bl b => .bl b
  | _, _, .int i => .int i
  | _, _, .str x => .str x
  | _, _, .fn a => .fn a
  | _, _, .ob h => .ob (g _ _ h)
  | _, _, .tup h r => .tup (sqt_mono e h) (RepL.mono e g r)
  | _, _, .lst h r => .lst (e.seq h) (RepL.mono e g r)
  | _, _, .dct h l r => .dct (e _ _ h) l (RepL.mono e g r)
  | _, _, .ev0 h => .ev0 (e _ _ h)
  | _, _, .ev n h h2 l r => .ev n (e _ _ h) (e _ _ h2) l (RepL.mono e g r)
theorem RepL.mono (e : Same G G') (g : Grow m m') : ∀ {ds : List D} {vs : List V}, RepL K ct G m ds vs → RepL K ct G' m' ds vs
  | _, _, .nil => .nil
  | _, _, .cons h r => .cons (Rep.mono e g h) (RepL.mono e g r)
end
theorem RepL.length : ∀ {ds : List D} {vs : List V}, RepL K ct G m ds vs → ds.length = vs.length
  | _, _, .nil => rfl
  | _, _, .cons _ r => by simp [RepL.length r]
theorem RepL.get : ∀ {ds : List D} {vs : List V} {i : Nat} {d : D}, RepL K ct G m ds vs → ds[i]? = some d → ∃ v, vs[i]? = some v ∧ Rep K ct G m d v
  | _, _, 0, _, .cons h _, e => by simp at e; subst e; exact ⟨_, rfl, h⟩
  | _, _, i + 1, d, .cons _ r, e => by
    obtain ⟨v, h1, h2⟩ := RepL.get (i := i) (d := d) r (by simpa using e)
    exact ⟨v, by simpa using h1, h2⟩
theorem RepL.append : ∀ {ds es : List D} {vs us : List V}, RepL K ct G m ds vs → RepL K ct G m es us → RepL K ct G m (ds ++ es) (vs ++ us)
  | _, _, _, _, .nil, s => s
  | _, _, _, _, .cons h r, s => .cons h (RepL.append r s)
theorem RepL.one {d : D} {v : V} (h : Rep K ct G m d v) : RepL K ct G m [d] [v] := .cons h .nil
theorem RepL.set : ∀ {ds : List D} {vs : List V} {d : D} {v : V} (i : Nat), RepL K ct G m ds vs → Rep K ct G m d v → RepL K ct G m (ds.set i d) (vs.set i v)
  | _, _, _, _, _, .nil, _ => .nil
  | _, _, _, _, 0, .cons _ r, h => .cons h r
  | _, _, _, _, i + 1, .cons q r, h => .cons q (RepL.set i r h)
theorem RepL.take : ∀ {ds : List D} {vs : List V} (n : Nat), RepL K ct G m ds vs → RepL K ct G m (ds.take n) (vs.take n)
  | _, _, 0, _ => .nil
  | _, _, _ + 1, .nil => .nil
  | _, _, n + 1, .cons h r => .cons h (RepL.take n r)
theorem RepL.drop : ∀ {ds : List D} {vs : List V} (n : Nat), RepL K ct G m ds vs → RepL K ct G m (ds.drop n) (vs.drop n)
  | _, _, 0, r => r
  | _, _, _ + 1, .nil => .nil
  | _, _, n + 1, .cons _ r => RepL.drop n r
theorem RepL.reverse : ∀ {ds : List D} {vs : List V}, RepL K ct G m ds vs → RepL K ct G m ds.reverse vs.reverse
  | _, _, .nil => .nil
  | _, _, .cons h r => by
    rw [List.reverse_cons, List.reverse_cons]
    exact RepL.append (RepL.reverse r) (RepL.one h)
theorem RepL.erase : ∀ {ds : List D} {vs : List V} (i : Nat), RepL K ct G m ds vs → RepL K ct G m (ds.eraseIdx i) (vs.eraseIdx i)
  | _, _, _, .nil => .nil
  | _, _, 0, .cons _ r => r
  | _, _, i + 1, .cons q r => .cons q (RepL.erase i r)
theorem RepL.insert : ∀ {ds : List D} {vs : List V} {d : D} {v : V} (i : Nat), RepL K ct G m ds vs → Rep K ct G m d v → RepL K ct G m (ds.take i ++ d :: ds.drop i) (vs.take i ++ v :: vs.drop i) := fun i r h =>
  (r.take i).append (.cons h (r.drop i))
theorem RepL.ints : ∀ ns : List Int, RepL K ct G m (ns.map D.int) (ns.map V.int)
  | [] => .nil
  | n :: r => .cons (.int n) (RepL.ints r)
theorem RepL.of_ints : ∀ {ns : List Int} {vs : List V}, RepL K ct G m (ns.map D.int) vs → vs = ns.map V.int
  | [], _, .nil => rfl
  | _ :: _, _, .cons (.int _) r => by rw [RepL.of_ints r]; rfl
theorem RepL.of_bls : ∀ {bs : List Bool} {vs : List V}, RepL K ct G m (bs.map D.bl) vs → vs = bs.map V.bl
  | [], _, .nil => rfl
  | _ :: _, _, .cons (.bl _) r => by rw [RepL.of_bls r]; rfl
theorem RepL.of_strs : ∀ {bs : List Str} {vs : List V}, RepL K ct G m (bs.map D.str) vs → vs = bs.map V.str
  | [], _, .nil => rfl
  | _ :: _, _, .cons (.str _) r => by rw [RepL.of_strs r]; rfl
end
/-- pairs of a key and a thing -/
inductive RepP {κ : Type} (K : PySem.W.Frag) (ct : String → Addr) (G : Hp) (m : Nat → Option Addr) : List (κ × D) → List (κ × V) → Prop
  | nil : RepP K ct G m [] []
  | cons {x : κ} {d : D} {v : V} {ds : List (κ × D)} {vs : List (κ × V)} : Rep K ct G m d v → RepP K ct G m ds vs → RepP K ct G m ((x, d) :: ds) ((x, v) :: vs)
section
variable {κ : Type} {K : PySem.W.Frag} {ct : String → Addr} {G G' : Hp} {m m' : Nat → Option Addr}
theorem RepP.mono (e : Same G G') (g : Grow m m') {ds : List (κ × D)} {vs : List (κ × V)} (r : RepP K ct G m ds vs) : RepP K ct G' m' ds vs := by
  induction r with
  | nil => exact .nil
  | cons h _ ih => exact .cons (h.mono e g) ih
theorem RepP.length {ds : List (κ × D)} {vs : List (κ × V)} (r : RepP K ct G m ds vs) : ds.length = vs.length := by
  induction r with
  | nil => rfl
  | cons h _ ih => simp [ih]
theorem RepP.keys {ds : List (κ × D)} {vs : List (κ × V)} (r : RepP K ct G m ds vs) : ds.map (·.1) = vs.map (·.1) := by
  induction r with
  | nil => rfl
  | cons h _ ih => simp [ih]
theorem RepP.vals {ds : List (κ × D)} {vs : List (κ × V)} (r : RepP K ct G m ds vs) : RepL K ct G m (ds.map (·.2)) (vs.map (·.2)) := by
  induction r with
  | nil => exact .nil
  | cons h _ ih => exact .cons h ih
theorem RepP.zip : ∀ {ks : List κ} {ds : List D} {vs : List V}, RepL K ct G m ds vs → RepP K ct G m (ks.zip ds) (ks.zip vs)
  | [], _, _, _ => .nil
  | _ :: _, _, _, .nil => .nil
  | _ :: _, _, _, .cons h r => .cons h (RepP.zip r)
theorem RepP.append {ds es : List (κ × D)} {vs us : List (κ × V)} (r : RepP K ct G m ds vs) (s : RepP K ct G m es us) : RepP K ct G m (ds ++ es) (vs ++ us) := by
  induction r with
  | nil => exact s
  | cons h _ ih => exact .cons h ih
theorem RepP.lookup [BEq κ] {ds : List (κ × D)} {vs : List (κ × V)} {x : κ} (r : RepP K ct G m ds vs) : (ds.lookup x = none ∧ vs.lookup x = none) ∨ ∃ d v, ds.lookup x = some d ∧ vs.lookup x = some v ∧ Rep K ct G m d v := by
  induction r with
  | nil => exact .inl ⟨rfl, rfl⟩
  | @cons y d v ds vs h _ ih =>
    simp only [List.lookup_cons]
    cases e : x == y with
    | true => exact .inr ⟨d, v, rfl, rfl, h⟩
    | false => exact ih
end

/-- the frozen heap, the whole heap, where the things of the store stand, the store -/
structure Vw where
  G : Hp
  H : Hp
  m : Nat → Option Addr
  st : Sto
/-- b belongs to a thing of the store -/
def Vw.owns (v : Vw) (b : Addr) : Prop := ∃ (i : Nat) (o : O) (a : Addr), v.st[i]? = some o ∧ o.live = true ∧ v.m i = some a ∧ (b = a ∨ ∃ C fs, v.H a = some (.ins C b fs))
def ORep (K : PySem.W.Frag) (ct : String → Addr) (v : Vw) (a : Addr) : O → Prop
  | .lst xs => ∃ vs, v.H a = some (.lst vs) ∧ RepL K ct v.G v.m xs vs
  | .dK kvs => ∃ vs, v.H a = some (.dK vs) ∧ RepP K ct v.G v.m kvs vs
  | .dT kvs => ∃ vs, v.H a = some (.dT vs) ∧ RepP K ct v.G v.m kvs vs
  | .ins c fs => ∃ dx vs, v.H a = some (.ins (ct c) dx vs) ∧ v.H dx = some (.own a) ∧ v.G dx = none ∧ RepP K ct v.G v.m fs vs
  | .gone => True
structure SR (K : PySem.W.Frag) (ct : String → Addr) (v : Vw) : Prop where
  sub : Same v.G v.H
  dom : ∀ i, v.st.length ≤ i → v.m i = none
  obj : ∀ (i : Nat) (o : O), v.st[i]? = some o → o.live = true → ∃ a, v.m i = some a ∧ v.G a = none ∧ ORep K ct v a o
  inj : ∀ (i j : Nat) (o u : O) (a : Addr), v.st[i]? = some o → v.st[j]? = some u → o.live = true → u.live = true → v.m i = some a → v.m j = some a → i = j
/-- a step: what was frozen is so still, what was tracked and is none of the store's stands -/
structure Le (v v' : Vw) : Prop where
  g : Same v.G v'.G
  m : Grow v.m v'.m
  h : ∀ b o, v.H b = some o → ¬ v.owns b → v'.H b = some o
  nw : ∀ b, v'.G b ≠ none → v.G b ≠ none ∨ v.H b = none ∨ v.owns b
  ow : ∀ b, v'.owns b → v.owns b ∨ v.H b = none
  al : ∀ b, v'.H b = none → v.H b = none
theorem same_none {H H' : Hp} (s : Same H H') (b : Addr) (h : H' b = none) : H b = none := s.free h
theorem Le.refl {v : Vw} : Le v v := ⟨Same.refl _, .refl, fun _ _ h _ => h, fun _ h => .inl h, fun _ h => .inl h, fun _ h => h⟩
theorem Le.trans {a b c : Vw} (x : Le a b) (y : Le b c) : Le a c := by
  have key : ∀ p, b.H p = none ∨ b.owns p → a.H p = none ∨ a.owns p := fun p z => by
    cases e : a.H p with
    | none => exact .inl rfl
    | some o =>
      by_cases q : a.owns p
      · exact .inr q
      · have h1 := x.h p o e q
        rcases z with z | z
        · rw [h1] at z; cases z
        · rcases x.ow p z with z | z
          · exact .inr z
          · rw [e] at z; cases z
  refine ⟨x.g.trans y.g, x.m.trans y.m, fun p o h n => ?_, fun p h => ?_, fun p h => ?_, fun p h => x.al p (y.al p h)⟩
  · refine y.h p o (x.h p o h n) fun z => ?_
    rcases x.ow p z with z | z
    · exact n z
    · rw [h] at z; cases z
  · rcases y.nw p h with z | z
    · exact x.nw p z
    · exact .inr (key p z)
  · rcases y.ow p h with z | z
    · exact x.ow p z
    · exact (key p (.inl z)).symm
theorem same_new {H : Hp} {p : Addr} (h : H p = none) (o : HO) : Same H (upd H p o) := fun b u q => by rw [upd_ne (ne_of_none q h)]; exact q
theorem same_upd {G H : Hp} {p : Addr} {o : HO} (s : Same G H) : Same (upd G p o) (upd H p o) := fun b u q => by
  unfold upd at *
  by_cases e : b = p
  · rw [if_pos e] at q ⊢
    exact q
  · rw [if_neg e] at q ⊢
    exact s _ _ q
section
variable {K : PySem.W.Frag} {ct : String → Addr}
theorem Le.rep {v v' : Vw} {d : D} {x : V} (l : Le v v') (r : Rep K ct v.G v.m d x) : Rep K ct v'.G v'.m d x := r.mono l.g l.m
theorem Le.repl {v v' : Vw} {d : List D} {x : List V} (l : Le v v') (r : RepL K ct v.G v.m d x) : RepL K ct v'.G v'.m d x := r.mono l.g l.m
theorem SR.obj_ne {v : Vw} (s : SR K ct v) {i : Nat} {o : O} {a : Addr} (h : v.st[i]? = some o) (l : o.live = true) (e : v.m i = some a) : v.G a = none ∧ ∃ u, v.H a = some u ∧ ∀ x, u ≠ .own x := by
  obtain ⟨a', e', g, r⟩ := s.obj i o h l
  rw [e] at e'
  cases e'
  refine ⟨g, ?_⟩
  cases o with
  | gone => cases l
  | lst xs => obtain ⟨vs, h, _⟩ := r; exact ⟨_, h, fun _ z => nomatch z⟩
  | dK xs => obtain ⟨vs, h, _⟩ := r; exact ⟨_, h, fun _ z => nomatch z⟩
  | dT xs => obtain ⟨vs, h, _⟩ := r; exact ⟨_, h, fun _ z => nomatch z⟩
  | ins c fs => obtain ⟨dx, vs, h, _⟩ := r; exact ⟨_, h, fun _ z => nomatch z⟩
/-- the own dict of an instance of the store -/
theorem SR.dx {v : Vw} (s : SR K ct v) {i : Nat} {o : O} {a C b : Addr} {fs : List (Str × V)} (h : v.st[i]? = some o) (l : o.live = true) (e : v.m i = some a) (hi : v.H a = some (.ins C b fs)) : v.H b = some (.own a) ∧ v.G b = none := by
  obtain ⟨a', e', g, r⟩ := s.obj i o h l
  rw [e] at e'
  cases e'
  cases o with
  | gone => cases l
  | lst xs => obtain ⟨vs, h, _⟩ := r; rw [hi] at h; cases h
  | dK xs => obtain ⟨vs, h, _⟩ := r; rw [hi] at h; cases h
  | dT xs => obtain ⟨vs, h, _⟩ := r; rw [hi] at h; cases h
  | ins c fs =>
    obtain ⟨dx, vs, h, h2, h3, _⟩ := r
    rw [hi] at h
    cases h
    exact ⟨h2, h3⟩
/-- what is the store's is tracked and not frozen -/
theorem SR.owns_tracked {v : Vw} (s : SR K ct v) {b : Addr} (h : v.owns b) : v.G b = none ∧ ∃ u, v.H b = some u := by
  obtain ⟨i, o, a, e, l, em, h⟩ := h
  rcases h with rfl | ⟨C, fs, h⟩
  · obtain ⟨g, u, hu, _⟩ := s.obj_ne e l em
    exact ⟨g, u, hu⟩
  · obtain ⟨h1, h2⟩ := s.dx e l em h
    exact ⟨h2, _, h1⟩
theorem SR.not_owned {v : Vw} (s : SR K ct v) {b : Addr} (h : v.H b = none) : ¬ v.owns b := fun z => by
  obtain ⟨_, u, hu⟩ := s.owns_tracked z
  rw [h] at hu
  cases hu
theorem ORep.mono' {v v' : Vw} {a : Addr} {o : O} (g : Same v.G v'.G) (m : Grow v.m v'.m) (ha : v'.H a = v.H a) (hd : ∀ C dx fs, v.H a = some (.ins C dx fs) → v.H dx = some (.own a) → v.G dx = none → v'.H dx = v.H dx ∧ v'.G dx = none) (r : ORep K ct v a o) : ORep K ct v' a o := by
  cases o with
  | gone => trivial
  | lst xs => obtain ⟨vs, h, r⟩ := r; exact ⟨vs, ha.trans h, r.mono g m⟩
  | dK xs => obtain ⟨vs, h, r⟩ := r; exact ⟨vs, ha.trans h, r.mono g m⟩
  | dT xs => obtain ⟨vs, h, r⟩ := r; exact ⟨vs, ha.trans h, r.mono g m⟩
  | ins c fs =>
    obtain ⟨dx, vs, h, h2, h3, r⟩ := r
    obtain ⟨h4, h5⟩ := hd _ _ _ h h2 h3
    exact ⟨dx, vs, ha.trans h, h4.trans h2, h5, r.mono g m⟩
theorem SR.free {v : Vw} (s : SR K ct v) {p : Addr} (h : v.H p = none) : v.G p = none := s.sub.free h
/-- the heaps go on, the store is as it was -/
theorem grow_ok {v : Vw} {G' H' : Hp} (s : SR K ct v) (hg : Same v.G G') (hh : Same v.H H') (sub : Same G' H') (nw : ∀ b, G' b ≠ none → v.G b ≠ none ∨ v.H b = none) : Le v ⟨G', H', v.m, v.st⟩ ∧ SR K ct ⟨G', H', v.m, v.st⟩ := by
  have keepG : ∀ b u, v.H b = some u → v.G b = none → G' b = none := fun b u h g => by
    cases z : G' b with
    | none => rfl
    | some w =>
      rcases nw b (by rw [z]; exact fun y => nomatch y) with y | y
      · exact absurd g y
      · rw [h] at y; cases y
  refine ⟨⟨hg, .refl, fun b u q _ => hh _ _ q, fun b q => (nw b q).imp id .inl, fun b ⟨i, u, a, e, l, em, q⟩ => ?_, same_none hh⟩, sub, s.dom, fun i u e l => ?_, s.inj⟩
  · rcases q with rfl | ⟨C, fs, q⟩
    · exact .inl ⟨i, u, b, e, l, em, .inl rfl⟩
    · obtain ⟨_, w, hw, _⟩ := s.obj_ne e l em
      have q' : H' a = some (.ins C b fs) := q
      rw [hh _ _ hw] at q'
      cases q'
      exact .inl ⟨i, u, a, e, l, em, .inr ⟨C, fs, hw⟩⟩
  · obtain ⟨a, em, ga, r⟩ := s.obj i u e l
    obtain ⟨_, w, hw, _⟩ := s.obj_ne e l em
    exact ⟨a, em, keepG _ _ hw ga, r.mono' hg .refl ((hh _ _ hw).trans hw.symm) fun C dx fs _ q1 q2 => ⟨(hh _ _ q1).trans q1.symm, keepG _ _ q1 q2⟩⟩
/-- a new object at p, frozen -/
def Vw.new (v : Vw) (p : Addr) (o : HO) : Vw := ⟨upd v.G p o, upd v.H p o, v.m, v.st⟩
theorem new_ok {v : Vw} {p : Addr} {o : HO} (s : SR K ct v) (h : v.H p = none) : Le v (v.new p o) ∧ SR K ct (v.new p o) :=
  grow_ok s (same_new (s.free h) _) (same_new h _) (same_upd s.sub) fun b q => by
    by_cases z : b = p
    · exact .inr (z ▸ h)
    · rw [upd_ne z] at q
      exact .inl q
theorem more_ok {v : Vw} {H' : Hp} (s : SR K ct v) (h : Same v.H H') : Le v ⟨v.G, H', v.m, v.st⟩ ∧ SR K ct ⟨v.G, H', v.m, v.st⟩ :=
  grow_ok s (Same.refl _) h (s.sub.trans h) fun _ q => .inl q

/-! ### things of the store -/
def mset (m : Nat → Option Addr) (i : Nat) (a : Addr) : Nat → Option Addr := fun j => if j = i then some a else m j
theorem mset_same {m : Nat → Option Addr} {i : Nat} {a : Addr} : mset m i a i = some a := if_pos rfl
theorem mset_ne {m : Nat → Option Addr} {i j : Nat} {a : Addr} (h : j ≠ i) : mset m i a j = m j := if_neg h
theorem mset_grow {m : Nat → Option Addr} {i : Nat} {a : Addr} (h : m i = none) : Grow m (mset m i a) := fun j b e => by
  rw [mset_ne]
  · exact e
  · intro z; rw [z, h] at e; cases e
theorem get_snoc {st : Sto} {o u : O} {i : Nat} (e : (st ++ [o])[i]? = some u) : (i < st.length ∧ st[i]? = some u) ∨ (i = st.length ∧ u = o) := by
  by_cases z : i < st.length
  · rw [List.getElem?_append_left z] at e
    exact .inl ⟨z, e⟩
  · rw [List.getElem?_append_right (Nat.not_lt.mp z)] at e
    have h0 : i - st.length = 0 := by
      have := (List.getElem?_eq_some_iff.mp e).1
      simp only [List.length_cons, List.length_nil] at this
      omega
    rw [h0] at e
    simp only [List.getElem?_cons_zero, Option.some.injEq] at e
    exact .inr ⟨by omega, e.symm⟩
/-- a new thing of the store: its address, the heap with it -/
def Vw.alloc (v : Vw) (p : Addr) (H' : Hp) (o : O) : Vw := ⟨v.G, H', mset v.m v.st.length p, v.st ++ [o]⟩
theorem alloc_ok {v : Vw} {p : Addr} {H' : Hp} {o : O} (s : SR K ct v) (hp : v.H p = none) (hs : Same v.H H') (hn : ∀ C b fs, H' p = some (.ins C b fs) → v.H b = none)
    (r : ORep K ct (v.alloc p H' o) p o) : Le v (v.alloc p H' o) ∧ SR K ct (v.alloc p H' o) := by
  have m0 : v.m v.st.length = none := s.dom _ (Nat.le_refl _)
  have gr : Grow v.m (mset v.m v.st.length p) := mset_grow m0
  have np : ∀ {i : Nat} {u : O} {a : Addr}, v.st[i]? = some u → u.live = true → v.m i = some a → a ≠ p := fun e l em => by
    obtain ⟨_, w, hw, _⟩ := s.obj_ne e l em
    exact ne_of_none hw hp
  have get_snoc : ∀ {i : Nat} {u : O}, (v.alloc p H' o).st[i]? = some u → (i < v.st.length ∧ v.st[i]? = some u) ∨ (i = v.st.length ∧ u = o) := fun e => get_snoc e
  refine ⟨⟨Same.refl _, gr, fun b u q _ => hs _ _ q, fun b q => .inl q, fun b ⟨i, u, a, e, l, em, q⟩ => ?_, same_none hs⟩, s.sub.trans hs, fun i hi => ?_, fun i u e l => ?_, fun i j u w a e1 e2 l1 l2 m1 m2 => ?_⟩
  · have em' : mset v.m v.st.length p i = some a := em
    rcases get_snoc e with ⟨z, e⟩ | ⟨rfl, rfl⟩
    · rw [mset_ne (Nat.ne_of_lt z)] at em'
      rcases q with rfl | ⟨C, fs, q⟩
      · exact .inl ⟨i, u, b, e, l, em', .inl rfl⟩
      · obtain ⟨_, w, hw, _⟩ := s.obj_ne e l em'
        have q' : H' a = some (.ins C b fs) := q
        rw [hs _ _ hw] at q'
        cases q'
        exact .inl ⟨i, u, a, e, l, em', .inr ⟨C, fs, hw⟩⟩
    · rw [mset_same] at em'
      cases em'
      rcases q with rfl | ⟨C, fs, q⟩
      · exact .inr hp
      · exact .inr (hn C b fs q)
  · have hl : v.st.length + 1 ≤ i := by simpa [Vw.alloc] using hi
    show mset v.m v.st.length p i = none
    rw [mset_ne (by omega)]
    exact s.dom i (by omega)
  · rcases get_snoc e with ⟨z, e⟩ | ⟨rfl, rfl⟩
    · obtain ⟨a, em, ga, r⟩ := s.obj i u e l
      obtain ⟨_, w, hw, _⟩ := s.obj_ne e l em
      exact ⟨a, (mset_ne (Nat.ne_of_lt z)).trans em, ga, r.mono' (v := v) (v' := v.alloc p H' o) (Same.refl _) gr ((hs _ _ hw).trans hw.symm) fun C dx fs _ q1 q2 => ⟨(hs _ _ q1).trans q1.symm, q2⟩⟩
    · exact ⟨p, mset_same, s.free hp, r⟩
  · have m1' : mset v.m v.st.length p i = some a := m1
    have m2' : mset v.m v.st.length p j = some a := m2
    rcases get_snoc e1 with ⟨z1, f1⟩ | ⟨y1, f1⟩ <;> rcases get_snoc e2 with ⟨z2, f2⟩ | ⟨y2, f2⟩
    · rw [mset_ne (Nat.ne_of_lt z1)] at m1'
      rw [mset_ne (Nat.ne_of_lt z2)] at m2'
      exact s.inj i j u w a f1 f2 l1 l2 m1' m2'
    · rw [mset_ne (Nat.ne_of_lt z1)] at m1'
      rw [y2, mset_same] at m2'
      cases m2'
      exact absurd rfl (np f1 l1 m1')
    · rw [mset_ne (Nat.ne_of_lt z2)] at m2'
      rw [y1, mset_same] at m1'
      cases m1'
      exact absurd rfl (np f2 l2 m2')
    · rw [y1, y2]
/-- a thing of the store is changed, at its own address -/
def Vw.put (v : Vw) (i : Nat) (a : Addr) (u : HO) (o : O) : Vw := ⟨v.G, upd v.H a u, v.m, v.st.set i o⟩
theorem put_ok {v : Vw} {i : Nat} {a : Addr} {u : HO} {o o0 : O} (s : SR K ct v) (e0 : v.st[i]? = some o0) (l0 : o0.live = true) (em : v.m i = some a) (hn : ∀ C b fs, u = .ins C b fs → ∃ fs0, v.H a = some (.ins C b fs0))
    (r : ORep K ct (v.put i a u o) a o) : Le v (v.put i a u o) ∧ SR K ct (v.put i a u o) := by
  obtain ⟨ga, w0, hw0, no0⟩ := s.obj_ne e0 l0 em
  have own : v.owns a := ⟨i, o0, a, e0, l0, em, .inl rfl⟩
  have get : ∀ {j : Nat} {w : O}, (v.st.set i o)[j]? = some w → (j = i ∧ w = o) ∨ (j ≠ i ∧ v.st[j]? = some w) := fun {j w} e => by
    by_cases z : i = j
    · subst z
      rw [List.getElem?_set_self (List.getElem?_eq_some_iff.mp e0).1] at e
      exact .inl ⟨rfl, (Option.some.inj e).symm⟩
    · rw [List.getElem?_set_ne z] at e
      exact .inr ⟨fun q => z q.symm, e⟩
  refine ⟨⟨Same.refl _, .refl, fun b w q n => ?_, fun b q => .inl q, fun b ⟨j, w, a2, e, l, em2, q⟩ => ?_, fun b q => ?_⟩, fun b w q => ?_, fun j hj => s.dom j (by simpa [Vw.put] using hj), fun j w e l => ?_, fun j k w w2 a2 e1 e2 l1 l2 m1 m2 => ?_⟩
  · show upd v.H a u b = some w
    have z : b ≠ a := fun z => n (by rw [z]; exact own)
    rw [upd_ne z]
    exact q
  · rcases get e with ⟨rfl, rfl⟩ | ⟨z, e⟩
    · have em2' : v.m j = some a2 := em2
      rw [em] at em2'
      cases em2'
      rcases q with rfl | ⟨C, fs, q⟩
      · exact .inl own
      · have q' : upd v.H a u a = some (.ins C b fs) := q
        rw [upd_same] at q'
        obtain ⟨fs0, h0⟩ := hn C b fs (Option.some.inj q')
        exact .inl ⟨j, o0, a, e0, l0, em, .inr ⟨C, fs0, h0⟩⟩
    · have em2' : v.m j = some a2 := em2
      rcases q with rfl | ⟨C, fs, q⟩
      · exact .inl ⟨j, w, b, e, l, em2', .inl rfl⟩
      · have na : a2 ≠ a := fun zz => z (s.inj j i w o0 a e e0 l l0 (zz ▸ em2') em)
        have q' : upd v.H a u a2 = some (.ins C b fs) := q
        rw [upd_ne na] at q'
        exact .inl ⟨j, w, a2, e, l, em2', .inr ⟨C, fs, q'⟩⟩
  · have q' : upd v.H a u b = none := q
    by_cases z : b = a
    · rw [z, upd_same] at q'
      cases q'
    · rw [upd_ne z] at q'
      exact q'
  · show upd v.H a u b = some w
    have q' : v.G b = some w := q
    have z : b ≠ a := fun z => by rw [z, ga] at q'; cases q'
    rw [upd_ne z]
    exact s.sub _ _ q'
  · rcases get e with ⟨rfl, rfl⟩ | ⟨z, e⟩
    · exact ⟨a, em, ga, r⟩
    · obtain ⟨a2, em2, ga2, r2⟩ := s.obj j w e l
      have na : a2 ≠ a := fun zz => z (s.inj j i w o0 a e e0 l l0 (zz ▸ em2) em)
      refine ⟨a2, em2, ga2, r2.mono' (v := v) (v' := v.put i a u o) (Same.refl _) .refl (upd_ne na) fun C dx fs _ q1 q2 => ⟨upd_ne fun zz => ?_, q2⟩⟩
      rw [zz, hw0] at q1
      exact no0 _ (Option.some.inj q1)
  · rcases get e1 with ⟨y1, _⟩ | ⟨z1, f1⟩ <;> rcases get e2 with ⟨y2, _⟩ | ⟨z2, f2⟩
    · rw [y1, y2]
    · exact s.inj j k o0 w2 a2 (y1 ▸ e0) f2 l0 l2 m1 m2
    · exact s.inj j k w o0 a2 f1 (y2 ▸ e0) l1 l0 m1 m2
    · exact s.inj j k w w2 a2 f1 f2 l1 l2 m1 m2
/-- a thing of the store is frozen, or forgotten -/
def Vw.frz (v : Vw) (i : Nat) (a : Addr) (u : HO) : Vw := ⟨upd v.G a u, v.H, v.m, v.st.set i .gone⟩
theorem frz_ok {v : Vw} {i : Nat} {a : Addr} {u : HO} {o0 : O} (s : SR K ct v) (e0 : v.st[i]? = some o0) (l0 : o0.live = true) (em : v.m i = some a) (hu : v.H a = some u) : Le v (v.frz i a u) ∧ SR K ct (v.frz i a u) := by
  obtain ⟨ga, w0, hw0, no0⟩ := s.obj_ne e0 l0 em
  have own : v.owns a := ⟨i, o0, a, e0, l0, em, .inl rfl⟩
  have get : ∀ {j : Nat} {w : O}, (v.st.set i .gone)[j]? = some w → w.live = true → j ≠ i ∧ v.st[j]? = some w := fun {j w} e l => by
    by_cases z : i = j
    · subst z
      rw [List.getElem?_set_self (List.getElem?_eq_some_iff.mp e0).1] at e
      cases e
      cases l
    · rw [List.getElem?_set_ne z] at e
      exact ⟨fun q => z q.symm, e⟩
  have sg := same_new ga u
  refine ⟨⟨sg, .refl, fun b w q n => q, fun b q => ?_, fun b ⟨j, w, a2, e, l, em2, q⟩ => ?_, fun b q => q⟩, fun b w q => ?_, fun j hj => s.dom j (by simpa [Vw.frz] using hj), fun j w e l => ?_, fun j k w w2 a2 e1 e2 l1 l2 m1 m2 => ?_⟩
  · by_cases z : b = a
    · exact .inr (.inr (z ▸ own))
    · have q' : upd v.G a u b ≠ none := q
      rw [upd_ne z] at q'
      exact .inl q'
  · obtain ⟨_, e⟩ := get e l
    exact .inl ⟨j, w, a2, e, l, em2, q⟩
  · by_cases z : b = a
    · have q' : upd v.G a u b = some w := q
      rw [z, upd_same] at q'
      cases q'
      show v.H b = some u
      rw [z]
      exact hu
    · have q' : upd v.G a u b = some w := q
      rw [upd_ne z] at q'
      exact s.sub _ _ q'
  · obtain ⟨z, e⟩ := get e l
    obtain ⟨a2, em2, ga2, r2⟩ := s.obj j w e l
    have na : a2 ≠ a := fun zz => z (s.inj j i w o0 a e e0 l l0 (zz ▸ em2) em)
    refine ⟨a2, em2, (upd_ne na).trans ga2, r2.mono' (v := v) (v' := v.frz i a u) sg .refl rfl fun C dx fs _ q1 q2 => ⟨rfl, (upd_ne fun zz => ?_).trans q2⟩⟩
    rw [zz, hw0] at q1
    exact no0 _ (Option.some.inj q1)
  · exact s.inj j k w w2 a2 (get e1 l1).2 (get e2 l2).2 l1 l2 m1 m2
end
end Gs

/-! G2: results, frames, expressions, tests, arguments. -/
namespace Gs
open PySem L2

structure Ex where
  cls : String
  fs : List (Str × D)
inductive R (α : Type) where
  | ok (a : α) (s : Sto) | exc (e : Ex) (s : Sto) | stk
def R.bind {α β : Type} (r : R α) (k : α → Sto → R β) : R β := match r with
  | .ok a s => k a s
  | .exc e s => .exc e s
  | .stk => .stk
def R.ofO {α : Type} (o : Option α) (s : Sto) : R α := match o with
  | some a => .ok a s
  | none => .stk

/-- what is fixed through a body: the view at its entry, the classes' addresses, what is wanted of an exception -/
structure Cc where
  v0 : Vw
  ct : String → Addr
  W : WX
/-- an exception's class and own dict -/
def RepX (K : PySem.W.Frag) (ct : String → Addr) (v : Vw) (e : Ex) (cls : Value) (dd : Option Addr) : Prop :=
  cls = .ref (ct e.cls) ∧ ((e.fs = [] ∧ dd = none) ∨ (e.fs ≠ [] ∧ ∃ d fs, dd = some d ∧ v.H d = some (.xd fs) ∧ v.G d = none ∧ RepP K ct v.G v.m e.fs fs))
abbrev Sl := List (Option D)
structure RE (K : PySem.W.Frag) (C : Cc) (σ : L2.St) (δ : Sl) (v : Vw) : Prop where
  le : Le C.v0 v
  sr : SR K C.ct v
  len : σ.length = δ.length
  sl : ∀ (i : Nat) (d : D), δ[i]? = some (some d) → ∃ x, σ[i]? = some (some x) ∧ Rep K C.ct v.G v.m d x
section
variable {K : PySem.W.Frag} {C : Cc} {σ : L2.St} {δ : Sl} {v v' : Vw}
theorem RE.step (r : RE K C σ δ v) (l : Le v v') (s : SR K C.ct v') : RE K C σ δ v' :=
  ⟨r.le.trans l, s, r.len, fun i d h => let ⟨x, e, q⟩ := r.sl i d h; ⟨x, e, l.rep q⟩⟩
theorem RE.setV {d : D} {x : V} (r : RE K C σ δ v) (i : Nat) (h : Rep K C.ct v.G v.m d x) : RE K C (σ.set i (some x)) (δ.set i (some d)) v := by
  refine ⟨r.le, r.sr, by simp [r.len], fun j e hs => ?_⟩
  by_cases z : i = j
  · subst z
    have hi : i < δ.length := by
      have := (List.getElem?_eq_some_iff.mp hs).1
      simpa using this
    rw [List.getElem?_set_self hi] at hs
    cases hs
    rw [List.getElem?_set_self (by rw [r.len]; exact hi)]
    exact ⟨x, rfl, h⟩
  · rw [List.getElem?_set_ne z] at hs
    rw [List.getElem?_set_ne z]
    exact r.sl j e hs
theorem RE.setU (r : RE K C σ δ v) (i : Nat) (x : Option V) : RE K C (σ.set i x) (δ.set i none) v := by
  refine ⟨r.le, r.sr, by simp [r.len], fun j e hs => ?_⟩
  by_cases z : i = j
  · subst z
    have hi : i < δ.length := by
      have := (List.getElem?_eq_some_iff.mp hs).1
      simpa using this
    rw [List.getElem?_set_self hi] at hs
    cases hs
  · rw [List.getElem?_set_ne z] at hs
    rw [List.getElem?_set_ne z]
    exact r.sl j e hs
end

/-! ### what is due of a result -/
def onX (K : PySem.W.Frag) (C : Cc) (σ : L2.St) (v : Vw) (e : Ex) (s : Sto) : Prop := ∀ cls dd v', Le v v' → SR K C.ct v' → v'.st = s → RepX K C.ct v' e cls dd → C.W cls dd σ v'.H
def on {α β : Type} (K : PySem.W.Frag) (C : Cc) (σ : L2.St) (v : Vw) (rel : α → β → Vw → Prop) (r : R α) (P : α → β → Vw → Prop) : Prop := match r with
  | .ok a s => ∀ b v', Le v v' → SR K C.ct v' → v'.st = s → rel a b v' → P a b v'
  | .exc e s => onX K C σ v e s
  | .stk => False
abbrev rE (K : PySem.W.Frag) (ct : String → Addr) : D → V → Vw → Prop := fun d x v => Rep K ct v.G v.m d x
abbrev rA (K : PySem.W.Frag) (ct : String → Addr) : List D → List V → Vw → Prop := fun d x v => RepL K ct v.G v.m d x
abbrev rB {α : Type} : α → α → Vw → Prop := fun a b _ => a = b
section
variable {α β γ ε : Type} {K : PySem.W.Frag} {C : Cc} {σ : L2.St} {v v' : Vw} {rel : α → β → Vw → Prop} {rel2 : γ → ε → Vw → Prop}
theorem on_step {r : R α} {P : α → β → Vw → Prop} (l : Le v v') (h : on K C σ v rel r P) : on K C σ v' rel r P := by
  cases r with
  | ok a s => exact fun b w l2 => h b w (l.trans l2)
  | exc e s => exact fun cls dd w l2 => h cls dd w (l.trans l2)
  | stk => exact h
theorem on_mono {r : R α} {P P' : α → β → Vw → Prop} (h : on K C σ v rel r P) (w : ∀ a b v', Le v v' → SR K C.ct v' → rel a b v' → P a b v' → P' a b v') : on K C σ v rel r P' := by
  cases r with
  | ok a s => exact fun b v' l sr e q => w a b v' l sr q (h b v' l sr e q)
  | exc e s => exact h
  | stk => exact h
/-- one after another -/
theorem on_bind {r : R α} {k : α → Sto → R γ} {P : γ → ε → Vw → Prop} (h : on K C σ v rel2 (r.bind k) P) : on K C σ v rel r fun a _ v1 => on K C σ v1 rel2 (k a v1.st) P := by
  cases r with
  | ok a s =>
    intro b v1 l sr e q
    subst e
    exact on_step l h
  | exc e s => exact h
  | stk => exact h
theorem on_self {a : α} {b : β} {P : α → β → Vw → Prop} (sr : SR K C.ct v) (h : on K C σ v rel (.ok a v.st) P) (r : rel a b v) : P a b v := h b v .refl sr rfl r
theorem on_ofO {o : Option α} {P : α → β → Vw → Prop} (h : on K C σ v rel (R.ofO o v.st) P) : ∃ a, o = some a ∧ ∀ b v', Le v v' → SR K C.ct v' → v'.st = v.st → rel a b v' → P a b v' := by
  cases o with
  | none => exact h.elim
  | some a => exact ⟨a, rfl, h⟩
end

abbrev E := Sl → Sto → R D
abbrev T := Sl → Sto → R Bool
abbrev As := Sl → Sto → R (List D)
def liftE (K : PySem.W.Frag) (C : Cc) (f : E) : TE := fun σ H Q => ∃ δ v, RE K C σ δ v ∧ v.H = H ∧ on K C σ v (rE K C.ct) (f δ v.st) fun _ x v' => Q x v'.H
def liftT (K : PySem.W.Frag) (C : Cc) (f : T) : TT := fun σ H Q => ∃ δ v, RE K C σ δ v ∧ v.H = H ∧ on K C σ v rB (f δ v.st) fun _ b v' => Q b v'.H
def liftA (K : PySem.W.Frag) (C : Cc) (f : As) : TA := fun σ H Q => ∃ δ v, RE K C σ δ v ∧ v.H = H ∧ on K C σ v (rA K C.ct) (f δ v.st) fun _ xs v' => Q xs v'.H
abbrev SE (X : Cx) (C : Cc) (e : Expr) (f : E) : Prop := PE X e (liftE X.K C f)
abbrev ST (X : Cx) (C : Cc) (e : Expr) (f : T) : Prop := PT X e (liftT X.K C f)
abbrev SA (X : Cx) (C : Cc) (es : List Expr) (f : As) : Prop := PA X es (liftA X.K C f)
theorem pe_weak {X : Cx} {e : Expr} {t t' : TE} (h : PE X e t) (w : ∀ σ H Q, t' σ H Q → t σ H Q) : PE X e t' := ⟨fun pins s σ H Q I z => h.run pins s σ H Q I (w σ H Q z)⟩
theorem pt_weak {X : Cx} {e : Expr} {t t' : TT} (h : PT X e t) (w : ∀ σ H Q, t' σ H Q → t σ H Q) : PT X e t' := ⟨fun pins s σ H Q I z => h.run pins s σ H Q I (w σ H Q z)⟩
theorem pw_weak {X : Cx} {e : Expr} {t t' : TT} (h : PW X e t) (w : ∀ σ H Q, t' σ H Q → t σ H Q) : PW X e t' := ⟨fun wh pins s σ H Q I z => h.run wh pins s σ H Q I (w σ H Q z)⟩
theorem pa_weak {X : Cx} {e : List Expr} {t t' : TA} (h : PA X e t) (w : ∀ σ H Q, t' σ H Q → t σ H Q) : PA X e t' := ⟨fun pos pins s σ H Q I z => h.run pos pins s σ H Q I (w σ H Q z)⟩

/-! ### names and constants -/
def eV (i : Nat) : E := fun δ s => match δ[i]? with
  | some (some d) => .ok d s
  | _ => .stk
def eC (d : D) : E := fun _ s => .ok d s
def eStk : E := fun _ _ => .stk
section
variable {X : Cx} {C : Cc} {pos : Pos}
theorem se_var (i : Nat) {x : Str} (hN : X.N[i]? = some x := by rfl) (hv : Vis X.env.scope x := by first | exact Or.inl rfl | exact Or.inr (Or.inl rfl) | exact Or.inr (Or.inr rfl)) (hd : (x == ("__debug__" : Str)) = false := by decide)
    (hcd : (x == ("__classdict__" : Str)) = false := by decide) : SE X C (.Name x pos) (eV i) :=
  pe_weak (pe_var hN hv hd hcd) fun σ H Q ⟨δ, v, re, eH, h⟩ => by
    subst eH
    unfold eV at h
    split at h
    · rename_i d e
      obtain ⟨x, ex, rx⟩ := re.sl i d e
      exact ⟨x, ex, on_self re.sr h rx⟩
    · exact h.elim
theorem se_const {e : Expr} {d : D} {x : V} (h : PE X e (fun _ H Q => Q x H)) (r : ∀ G m, Rep X.K C.ct G m d x) : SE X C e (eC d) :=
  pe_weak h fun σ H Q ⟨δ, v, re, eH, h⟩ => by subst eH; exact on_self re.sr h (r _ _)
theorem se_int {i : Int} {j : Nat} : SE X C (.Constant (.int i) j pos) (eC (.int i)) := se_const pe_int fun _ _ => .int i
theorem se_bl {b : Bool} {j : Nat} : SE X C (.Constant (.bool b) j pos) (eC (.bl b)) := se_const pe_bl fun _ _ => .bl b
theorem se_non {j : Nat} : SE X C (.Constant .none j pos) (eC .non) := se_const pe_non fun _ _ => .non
theorem se_str {x : Str} {j : Nat} : SE X C (.Constant (.str x) j pos) (eC (.str x)) := se_const pe_str fun _ _ => .str x
/-- a constant of the module -/
theorem se_glob {x : Str} {d : D} {v : V} {u : Value} (hg : Gl X x) (hm : X.mg x = some u) (r : RelV v u) (rd : ∀ G m, Rep X.K C.ct G m d v) (hd : (x == ("__debug__" : Str)) = false := by decide) : SE X C (.Name x pos) (eC d) := se_const (pe_glob hg hm r hd) rd
theorem se_never {e : Expr} : SE X C e eStk := ⟨fun pins s σ H Q I ⟨δ, v, re, eH, h⟩ => h.elim⟩
end

/-! ### what stands at the top of a datum, read in the heap as it is -/
inductive RepT (K : PySem.W.Frag) (ct : String → Addr) (v : Vw) : D → V → Prop
  | non : RepT K ct v .non .non
  | bl (b : Bool) : RepT K ct v (.bl b) (.bl b)
  | int (i : Int) : RepT K ct v (.int i) (.int i)
  | str (x : Str) : RepT K ct v (.str x) (.str x)
  | fn (s : String) : RepT K ct v (.fn s) (.ref (ct s))
  | ob {i : Nat} {a : Addr} : v.m i = some a → RepT K ct v (.ob i) (.ref a)
  | tup {a : Addr} {vs : List V} {ds : List D} : SqT K v.G a vs → RepL K ct v.G v.m ds vs → RepT K ct v (.tup ds) (.ref a)
  | lst {a : Addr} {vs : List V} {ds : List D} : SqL K v.H a vs → RepL K ct v.G v.m ds vs → RepT K ct v (.lst ds) (.ref a)
  | dct {a : Addr} {vs : List V} {ks : List Key} {ds : List D} : v.H a = some (.dK (ks.zip vs)) → ks.length = ds.length → RepL K ct v.G v.m ds vs → RepT K ct v (.dct ks ds) (.ref a)
  | ev {a : Addr} {c : String} {ks : List Str} {ds : List D} : Rep K ct v.G v.m (.ev c ks ds) (.ref a) → RepT K ct v (.ev c ks ds) (.ref a)
def rsv (s : Sto) : D → D
  | .ob i => match s[i]? with
    | some (.lst xs) => .lst xs
    | some (.dK kvs) => .dct (kvs.map (·.1)) (kvs.map (·.2))
    | _ => .ob i
  | d => d
theorem zip_unzip {κ β : Type} : ∀ l : List (κ × β), (l.map (·.1)).zip (l.map (·.2)) = l
  | [] => rfl
  | x :: r => by simp [zip_unzip r]
theorem Rep.top {K : PySem.W.Frag} {ct : String → Addr} {v : Vw} {d : D} {x : V} (sr : SR K ct v) (r : Rep K ct v.G v.m d x) : RepT K ct v (rsv v.st d) x := by
  cases r with
  | non => exact .non
  | bl b => exact .bl b
  | int b => exact .int b
  | str b => exact .str b
  | fn s => exact .fn s
  | tup h r => exact .tup h r
  | lst h r => exact .lst (sr.sub.seq h) r
  | dct h l r => exact .dct (sr.sub _ _ h) l r
  | ev0 h => exact .ev (.ev0 h)
  | ev n h h2 l r => exact .ev (.ev n h h2 l r)
  | @ob i a e =>
    unfold rsv
    dsimp only
    split
    · rename_i xs h
      obtain ⟨a', e', _, vs, h2, r⟩ := sr.obj i _ h rfl
      rw [e] at e'
      cases e'
      exact .lst (SqL.of h2) r
    · rename_i kvs h
      obtain ⟨a', e', _, vs, h2, r⟩ := sr.obj i _ h rfl
      rw [e] at e'
      cases e'
      have k := r.keys
      refine .dct (vs := vs.map (·.2)) ?_ (by simp) r.vals
      rw [k, zip_unzip]
      exact h2
    · exact .ob e

/-! ### operators, by values -/
abbrev B2 := D → D → Option D
def rD (K : PySem.W.Frag) (ct : String → Addr) (g : B2) : R2 := fun x y H Q => ∃ v dx dy d, v.H = H ∧ SR K ct v ∧ g dx dy = some d ∧ RepT K ct v dx x ∧ RepT K ct v dy y ∧ ∀ z v', Le v v' → SR K ct v' → v'.st = v.st → Rep K ct v'.G v'.m d z → Q z v'.H
def eBin (g : B2) (a b : E) : E := fun δ s => (a δ s).bind fun x s1 => (b δ s1).bind fun y s2 => R.ofO (g (rsv s2 x) (rsv s2 y)) s2
section
variable {X : Cx} {C : Cc} {pos : Pos} {a b c : Expr} {fa fb fc : E} {g : B2}
theorem lift_bin {K : PySem.W.Frag} {σ : L2.St} {H : Hp} {Q : VK} (h : liftE K C (eBin g fa fb) σ H Q) : tOp (rD K C.ct g) (liftE K C fa) (liftE K C fb) σ H Q := by
  obtain ⟨δ, v, re, rfl, h⟩ := h
  refine ⟨δ, v, re, rfl, on_mono (on_bind h) fun d x v1 l1 s1 r1 h1 => ?_⟩
  refine ⟨δ, v1, re.step l1 s1, rfl, on_mono (on_bind h1) fun d2 x2 v2 l2 s2 r2 h2 => ?_⟩
  obtain ⟨z, e, h2⟩ := on_ofO h2
  exact ⟨v2, _, _, z, rfl, s2, e, (l2.rep r1).top s2, r2.top s2, h2⟩
theorem se_bin {op : Operator} (ho : OpR X (binaryOp op) (rD X.K C.ct g)) (ha : SE X C a fa) (hb : SE X C b fb) : SE X C (.BinOp a op b pos) (eBin g fa fb) :=
  pe_weak (pe_op ho ha hb) fun σ H Q h => lift_bin h
theorem se_cmp {op : CmpOp} (ho : OpR X (compareOp op) (rD X.K C.ct g)) (ha : SE X C a fa) (hb : SE X C b fb) (hm : behindInMarks op b = false := by first | exact nomark _ | rfl) : SE X C (.Compare a [op] [b] pos) (eBin g fa fb) :=
  pe_weak (pe_cmpR ho ha hb hm) fun σ H Q h => lift_bin h
/-- a value as a test: a truth -/
def tV (f : E) : T := fun δ s => (f δ s).bind fun d s1 => match d with
  | .bl b => .ok b s1
  | _ => .stk
theorem lift_test {K : PySem.W.Frag} {f : E} {σ : L2.St} {H : Hp} {Q : Bool → Hp → Prop} (h : liftT K C (tV f) σ H Q) : liftE K C f σ H fun v H' => ∃ k, v = .bl k ∧ Q k H' := by
  obtain ⟨δ, v, re, eH, h⟩ := h
  refine ⟨δ, v, re, eH, on_mono (on_bind h) fun d x v1 l1 s1 r1 h1 => ?_⟩
  cases r1 <;> first
    | exact h1.elim
    | exact ⟨_, rfl, on_self s1 h1 rfl⟩
theorem st_cmp {op : CmpOp} (ho : OpR X (compareOp op) (rD X.K C.ct g)) (ha : SE X C a fa) (hb : SE X C b fb) (hm : behindInMarks op b = false := by first | exact nomark _ | rfl) : ST X C (.Compare a [op] [b] pos) (tV (eBin g fa fb)) := by
  refine ⟨fun pins s σ H Q I h => ?_⟩
  refine (pt_cmpR ho ha hb hm).run pins s σ H Q I ?_
  exact lift_bin (Q := fun v H' => ∃ k, v = .bl k ∧ Q k H') (lift_test h)
theorem st_val {e : Expr} {f : E} (h : SE X C e f) (he : ∀ whole, isTrue e X.env whole = (do let v ← whole; standAt e.pos; holding [v] (truthy v)) := by intro _; rfl) : ST X C e (tV f) :=
  pt_weak (pt_val h he) fun σ H Q z => lift_test z
/-- two comparisons in a chain -/
def eChain (g g' : B2) (a b c : E) : E := fun δ s => (a δ s).bind fun x s1 => (b δ s1).bind fun y s2 => (R.ofO (g (rsv s2 x) (rsv s2 y)) s2).bind fun z s3 => match z with
  | .bl true => (c δ s3).bind fun w s4 => R.ofO (g' (rsv s4 y) (rsv s4 w)) s4
  | .bl false => .ok (.bl false) s3
  | _ => .stk
theorem lift_chain {K : PySem.W.Frag} {g' : B2} {σ : L2.St} {H : Hp} {Q : VK} (h : liftE K C (eChain g g' fa fb fc) σ H Q) : tChain (rD K C.ct g) (rD K C.ct g') (liftE K C fa) (liftE K C fb) (liftE K C fc) σ H Q := by
  obtain ⟨δ, v, re, rfl, h⟩ := h
  refine ⟨δ, v, re, rfl, on_mono (on_bind h) fun d x v1 l1 s1 r1 h1 => ?_⟩
  refine ⟨δ, v1, re.step l1 s1, rfl, on_mono (on_bind h1) fun d2 x2 v2 l2 s2 r2 h2 => ?_⟩
  have h3 := on_bind (rel := rE K C.ct) h2
  obtain ⟨z, e, h3⟩ := on_ofO h3
  refine ⟨v2, _, _, z, rfl, s2, e, (l2.rep r1).top s2, r2.top s2, fun x3 v3 l3 s3 e3 r3 => ?_⟩
  have h4 := h3 x3 v3 l3 s3 e3 r3
  cases r3 <;> first
    | exact h4.elim
    | skip
  rename_i k
  refine ⟨k, rfl, ?_⟩
  cases k with
  | true =>
    rw [if_pos rfl]
    refine ⟨δ, v3, ((re.step l1 s1).step l2 s2).step l3 s3, rfl, on_mono (on_bind h4) fun d4 x4 v4 l4 s4 r4 h5 => ?_⟩
    obtain ⟨z, e, h5⟩ := on_ofO h5
    exact ⟨v4, _, _, z, rfl, s4, e, ((l3.trans l4).rep r2).top s4, r4.top s4, h5⟩
  | false =>
    rw [if_neg Bool.false_ne_true]
    exact on_self s3 h4 (.bl false)
theorem se_chain {op op' : CmpOp} {g' : B2} (ho : OpR X (compareOp op) (rD X.K C.ct g)) (ho' : OpR X (compareOp op') (rD X.K C.ct g')) (ha : SE X C a fa) (hb : SE X C b fb) (hc : SE X C c fc)
    (hm : lastMarks [op, op'] [b, c] = false := by with_unfolding_all rfl) : SE X C (.Compare a [op, op'] [b, c] pos) (eChain g g' fa fb fc) :=
  pe_weak (pe_chain ho ho' ha hb hc hm) fun σ H Q h => lift_chain h
theorem st_chain {op op' : CmpOp} {g' : B2} (ho : OpR X (compareOp op) (rD X.K C.ct g)) (ho' : OpR X (compareOp op') (rD X.K C.ct g')) (ha : SE X C a fa) (hb : SE X C b fb) (hc : SE X C c fc)
    (hm : lastMarks [op, op'] [b, c] = false := by with_unfolding_all rfl) : ST X C (.Compare a [op, op'] [b, c] pos) (tV (eChain g g' fa fb fc)) := by
  refine ⟨fun pins s σ H Q I h => ?_⟩
  refine (pt_chain ho ho' ha hb hc hm).run pins s σ H Q I ?_
  exact lift_chain (Q := fun v H' => ∃ k, v = .bl k ∧ Q k H') (lift_test h)

/-! ### not, and, or -/
def tNt (f : T) : T := fun δ s => (f δ s).bind fun b s1 => .ok (!b) s1
def tAn (f g : T) : T := fun δ s => (f δ s).bind fun b s1 => if b = true then g δ s1 else .ok false s1
def tOrr (f g : T) : T := fun δ s => (f δ s).bind fun b s1 => if b = true then .ok true s1 else g δ s1
theorem st_not {ft : T} (h : ST X C a ft) : ST X C (.UnaryOp .Not a pos) (tNt ft) := pt_weak (pt_not h) fun σ H Q ⟨δ, v, re, eH, h⟩ =>
  ⟨δ, v, re, eH, on_mono (on_bind h) fun b k v1 l1 s1 e h1 => by cases e; exact on_self s1 h1 rfl⟩
theorem lift_and {K : PySem.W.Frag} {ft gt : T} {σ : L2.St} {H : Hp} {Q : Bool → Hp → Prop} (h : liftT K C (tAn ft gt) σ H Q) : tAnd (liftT K C ft) (liftT K C gt) σ H Q := by
  obtain ⟨δ, v, re, eH, h⟩ := h
  refine ⟨δ, v, re, eH, on_mono (on_bind h) fun b k v1 l1 s1 e h1 => ?_⟩
  cases e
  cases b with
  | true => exact ⟨δ, v1, re.step l1 s1, rfl, h1⟩
  | false => exact on_self s1 h1 rfl
theorem lift_or {K : PySem.W.Frag} {ft gt : T} {σ : L2.St} {H : Hp} {Q : Bool → Hp → Prop} (h : liftT K C (tOrr ft gt) σ H Q) : tOr (liftT K C ft) (liftT K C gt) σ H Q := by
  obtain ⟨δ, v, re, eH, h⟩ := h
  refine ⟨δ, v, re, eH, on_mono (on_bind h) fun b k v1 l1 s1 e h1 => ?_⟩
  cases e
  cases b with
  | true => exact on_self s1 h1 rfl
  | false => exact ⟨δ, v1, re.step l1 s1, rfl, h1⟩
end
/-- tests whose whole is theirs (and, or) -/
abbrev SW (X : Cx) (C : Cc) (e : Expr) (f : T) : Prop := PW X e (liftT X.K C f)
section
variable {X : Cx} {C : Cc} {pos : Pos} {a : Expr} {rest : List Expr} {ft gt : T}
theorem sw_and1 (ha : ST X C a ft) : SW X C (.BoolOp .And [a] pos) ft := pw_and1 ha
theorem sw_and {b : Expr} (ha : ST X C a ft) (hr : SW X C (.BoolOp .And (b :: rest) pos) gt) : SW X C (.BoolOp .And (a :: b :: rest) pos) (tAn ft gt) := pw_weak (pw_and ha hr) fun σ H Q h => lift_and h
theorem sw_or1 (ha : ST X C a ft) : SW X C (.BoolOp .Or [a] pos) ft := pw_or1 ha
theorem sw_or {b : Expr} (ha : ST X C a ft) (hr : SW X C (.BoolOp .Or (b :: rest) pos) gt) : SW X C (.BoolOp .Or (a :: b :: rest) pos) (tOrr ft gt) := pw_weak (pw_or ha hr) fun σ H Q h => lift_or h
end
/-! ### and, or, not as values (truths) -/
def eAn (a b : E) : E := fun δ s => (a δ s).bind fun x s1 => match x with
  | .bl true => b δ s1
  | .bl false => .ok (.bl false) s1
  | _ => .stk
def eOr (a b : E) : E := fun δ s => (a δ s).bind fun x s1 => match x with
  | .bl true => .ok (.bl true) s1
  | .bl false => b δ s1
  | _ => .stk
def eNt (a : E) : E := fun δ s => (a δ s).bind fun x s1 => match x with
  | .bl k => .ok (.bl !k) s1
  | _ => .stk
section
variable {X : Cx} {C : Cc} {pos : Pos} {a b c : Expr} {fa fb fc : E} {ft : T} {rest : List Expr}
theorem lift_anV {K : PySem.W.Frag} {σ : L2.St} {H : Hp} {Q : VK} (h : liftE K C (eAn fa fb) σ H Q) : tAndV (liftE K C fa) (liftE K C fb) σ H Q := by
  obtain ⟨δ, v, re, eH, h⟩ := h
  refine ⟨δ, v, re, eH, on_mono (on_bind h) fun d x v1 l1 s1 r1 h1 => ?_⟩
  cases r1 <;> first
    | exact h1.elim
    | skip
  rename_i k
  refine ⟨k, rfl, ?_⟩
  cases k with
  | true => exact ⟨δ, v1, re.step l1 s1, rfl, h1⟩
  | false => exact on_self s1 h1 (.bl false)
theorem lift_orV {K : PySem.W.Frag} {σ : L2.St} {H : Hp} {Q : VK} (h : liftE K C (eOr fa fb) σ H Q) : tOrV (liftE K C fa) (liftE K C fb) σ H Q := by
  obtain ⟨δ, v, re, eH, h⟩ := h
  refine ⟨δ, v, re, eH, on_mono (on_bind h) fun d x v1 l1 s1 r1 h1 => ?_⟩
  cases r1 <;> first
    | exact h1.elim
    | skip
  rename_i k
  refine ⟨k, rfl, ?_⟩
  cases k with
  | true => exact on_self s1 h1 (.bl true)
  | false => exact ⟨δ, v1, re.step l1 s1, rfl, h1⟩
theorem lift_nt {K : PySem.W.Frag} {σ : L2.St} {H : Hp} {Q : VK} (h : liftE K C (eNt fa) σ H Q) : tNotV (liftE K C fa) σ H Q := by
  obtain ⟨δ, v, re, eH, h⟩ := h
  refine ⟨δ, v, re, eH, on_mono (on_bind h) fun d x v1 l1 s1 r1 h1 => ?_⟩
  cases r1 <;> first
    | exact h1.elim
    | exact ⟨_, rfl, on_self s1 h1 (.bl _)⟩
theorem se_nt (ha : SE X C a fa) : SE X C (.UnaryOp .Not a pos) (eNt fa) := pe_weak (pe_not ha) fun σ H Q h => lift_nt h
theorem se_one {op : BoolOp} (ha : SE X C a fa) : SE X C (.BoolOp op [a] pos) fa := pe_one ha
theorem se_and (ha : SE X C a fa) (hb : SE X C (.BoolOp .And (b :: rest) pos) fb) : SE X C (.BoolOp .And (a :: b :: rest) pos) (eAn fa fb) := pe_weak (pe_and ha hb) fun σ H Q h => lift_anV h
theorem se_or (ha : SE X C a fa) (hb : SE X C (.BoolOp .Or (b :: rest) pos) fb) : SE X C (.BoolOp .Or (a :: b :: rest) pos) (eOr fa fb) := pe_weak (pe_or ha hb) fun σ H Q h => lift_orV h
/-- a if t else b -/
def eIf (t : T) (a b : E) : E := fun δ s => (t δ s).bind fun k s1 => if k = true then a δ s1 else b δ s1
theorem se_if (ht : ST X C c ft) (ha : SE X C a fa) (hb : SE X C b fb) : SE X C (.IfExp c a b pos) (eIf ft fa fb) := pe_weak (pe_ifExp ht ha hb) fun σ H Q ⟨δ, v, re, eH, h⟩ => by
  refine ⟨δ, v, re, eH, on_mono (on_bind h) fun b k v1 l1 s1 e h1 => ?_⟩
  cases e
  cases b with
  | true => exact ⟨δ, v1, re.step l1 s1, rfl, h1⟩
  | false => exact ⟨δ, v1, re.step l1 s1, rfl, h1⟩
end

/-! ### arguments, displays -/
def aNil : As := fun _ s => .ok [] s
def aCons (f : E) (r : As) : As := fun δ s => (f δ s).bind fun x s1 => (r δ s1).bind fun xs s2 => .ok (x :: xs) s2
def eTup (r : As) : E := fun δ s => (r δ s).bind fun xs s1 => if xs.length ≤ sizeLine then .ok (.tup xs) s1 else .stk
/-- a written list, frozen at once -/
def eLst (r : As) : E := fun δ s => (r δ s).bind fun xs s1 => if xs.length ≤ sizeLine then .ok (.lst xs) s1 else .stk
/-- a written list, a thing of the store -/
def eNew (r : As) : E := fun δ s => (r δ s).bind fun xs s1 => if xs.length ≤ sizeLine then .ok (.ob s1.length) (s1 ++ [.lst xs]) else .stk
section
variable {X : Cx} {C : Cc} {pos : Pos} {e : Expr} {es : List Expr} {f : E} {r : As}
theorem sa_nil : SA X C [] aNil := pa_weak pa_nil fun σ H Q ⟨δ, v, re, eH, h⟩ => by subst eH; exact on_self (b := []) re.sr h .nil
theorem sa_cons (ha : SE X C e f) (hr : SA X C es r) (hs : starEach (e :: es) X.env = (false, eval e X.env) :: starEach es X.env := by rfl) : SA X C (e :: es) (aCons f r) :=
  pa_weak (pa_cons ha hr hs) fun σ H Q ⟨δ, v, re, eH, h⟩ => ⟨δ, v, re, eH, on_mono (on_bind h) fun d x v1 l1 s1 r1 h1 =>
    ⟨δ, v1, re.step l1 s1, rfl, on_mono (on_bind h1) fun ds xs v2 l2 s2 r2 h2 => on_self (b := x :: xs) s2 h2 (.cons (l2.rep r1) r2)⟩⟩
theorem se_tup {k : Nat} (h : SA X C es r) : SE X C (.Tuple es k pos) (eTup r) := pe_weak (pe_tup h) fun σ H Q ⟨δ, v, re, eH, h⟩ =>
  ⟨δ, v, re, eH, on_mono (on_bind h) fun ds vs v1 l1 s1 r1 h1 => by
    have hl := r1.length
    split at h1
    · rename_i z
      refine ⟨by omega, fun p hp => ?_⟩
      obtain ⟨l2, s2⟩ := new_ok (o := .tup vs) s1 hp
      exact h1 (.ref p) _ l2 s2 rfl (.tup (SqT.of upd_same) (l2.repl r1))
    · exact h1.elim⟩
theorem se_lst (h : SA X C es r) : SE X C (.List es pos) (eLst r) := pe_weak (pe_lst h) fun σ H Q ⟨δ, v, re, eH, h⟩ =>
  ⟨δ, v, re, eH, on_mono (on_bind h) fun ds vs v1 l1 s1 r1 h1 => by
    have hl := r1.length
    split at h1
    · rename_i z
      refine ⟨by omega, fun p hp => ?_⟩
      obtain ⟨l2, s2⟩ := new_ok (o := .lst vs) s1 hp
      exact h1 (.ref p) _ l2 s2 rfl (.lst (SqL.of upd_same) (l2.repl r1))
    · exact h1.elim⟩
/-- a new list of the store at p -/
theorem newL_ok {K : PySem.W.Frag} {ct : String → Addr} {v : Vw} {p : Addr} {ds : List D} {vs : List V} (s : SR K ct v) (hp : v.H p = none) (r : RepL K ct v.G v.m ds vs) :
    Le v (v.alloc p (upd v.H p (.lst vs)) (.lst ds)) ∧ SR K ct (v.alloc p (upd v.H p (.lst vs)) (.lst ds)) :=
  alloc_ok s hp (same_new hp _) (fun C b fs q => by rw [upd_same] at q; cases q) ⟨vs, upd_same, r.mono (Same.refl _) (mset_grow (s.dom _ (Nat.le_refl _)))⟩
theorem se_new (h : SA X C es r) : SE X C (.List es pos) (eNew r) := pe_weak (pe_lst h) fun σ H Q ⟨δ, v, re, eH, h⟩ =>
  ⟨δ, v, re, eH, on_mono (on_bind h) fun ds vs v1 l1 s1 r1 h1 => by
    have hl := r1.length
    split at h1
    · rename_i z
      refine ⟨by omega, fun p hp => ?_⟩
      obtain ⟨l2, s2⟩ := newL_ok s1 hp r1
      exact h1 (.ref p) _ l2 s2 rfl (.ob mset_same)
    · exact h1.elim⟩
end
end Gs

/-! G3: operators, built-in functions, items and slices over data. -/
namespace Gs
open PySem L2

/-! ### data that == takes -/
mutual
def toPy : D → Option PyData
  | .non => some .none
  | .bl b => some (.bool b)
  | .int i => some (.int i)
  | .str x => some (.str x)
  | .fn _ => none
  | .dct _ _ => none
  | .ob _ => none
  | .ev _ _ _ => none
  | .tup xs => (toPyL xs).map .tuple
  | .lst xs => (toPyL xs).map .list
def toPyL : List D → Option (List PyData)
  | [] => some []
  | d :: ds => match toPy d, toPyL ds with
    | some p, some ps => some (p :: ps)
    | _, _ => none
end
mutual
theorem Rep.dp {K : PySem.W.Frag} {ct : String → Addr} {G H : Hp} {m : Nat → Option Addr} (sub : Same G H) : ∀ {d : D} {v : V} {p : PyData}, Rep K ct G m d v → toPy d = some p → Dp K H v p
  | _, _, _, .non, e => by simp only [toPy, Option.some.injEq] at e; subst e; exact .non
  | _, _, _, .bl b, e => by simp only [toPy, Option.some.injEq] at e; subst e; exact .bl b
  | _, _, _, .int i, e => by simp only [toPy, Option.some.injEq] at e; subst e; exact .int i
  | _, _, _, .str x, e => by simp only [toPy, Option.some.injEq] at e; subst e; exact .str x
  | _, _, _, .fn a, e => by simp only [toPy] at e; exact nomatch e
  | _, _, _, .ob _, e => by simp only [toPy] at e; exact nomatch e
  | _, _, _, .ev0 _, e => by simp only [toPy] at e; exact nomatch e
  | _, _, _, .ev _ _ _ _ _, e => by simp only [toPy] at e; exact nomatch e
  | _, _, _, .dct h l r, e => by simp only [toPy] at e; exact nomatch e
  | .tup ds, _, _, .tup h r, e => by
    simp only [toPy] at e
    cases q : toPyL ds with
    | none => rw [q] at e; exact nomatch e
    | some ps =>
      rw [q] at e
      simp only [Option.map_some, Option.some.injEq] at e
      subst e
      exact .tup (sqt_mono sub h) (RepL.dp sub r q)
  | .lst ds, _, _, .lst h r, e => by
    simp only [toPy] at e
    cases q : toPyL ds with
    | none => rw [q] at e; exact nomatch e
    | some ps =>
      rw [q] at e
      simp only [Option.map_some, Option.some.injEq] at e
      subst e
      exact .lst (sub.seq h) (RepL.dp sub r q)
theorem RepL.dp {K : PySem.W.Frag} {ct : String → Addr} {G H : Hp} {m : Nat → Option Addr} (sub : Same G H) : ∀ {ds : List D} {vs : List V} {ps : List PyData}, RepL K ct G m ds vs → toPyL ds = some ps → DpAll K H vs ps
  | _, _, _, .nil, e => by simp only [toPyL, Option.some.injEq] at e; subst e; exact .nil
  | d :: ds, _, _, .cons h r, e => by
    simp only [toPyL] at e
    cases q : toPy d with
    | none => rw [q] at e; simp at e
    | some p =>
      cases q2 : toPyL ds with
      | none => rw [q, q2] at e; simp at e
      | some ps =>
        rw [q, q2] at e
        simp only [Option.some.injEq] at e
        subst e
        exact .cons (Rep.dp sub h q) (RepL.dp sub r q2)
end
theorem RepT.dp {K : PySem.W.Frag} {ct : String → Addr} {v : Vw} (sr : SR K ct v) {d : D} {x : V} {p : PyData} (r : RepT K ct v d x) (e : toPy d = some p) : Dp K v.H x p := by
  cases r with
  | non => exact (Rep.non (K := K) (ct := ct) (m := v.m)).dp sr.sub e
  | bl b => exact (Rep.bl (K := K) (ct := ct) (m := v.m) b).dp sr.sub e
  | int b => exact (Rep.int (K := K) (ct := ct) (m := v.m) b).dp sr.sub e
  | str b => exact (Rep.str (K := K) (ct := ct) (m := v.m) b).dp sr.sub e
  | fn s => simp only [toPy] at e; exact nomatch e
  | ob h => simp only [toPy] at e; exact nomatch e
  | ev h => simp only [toPy] at e; exact nomatch e
  | dct h l r => simp only [toPy] at e; exact nomatch e
  | tup h r => exact (Rep.tup h r).dp sr.sub e
  | @lst a vs ds h r =>
    simp only [toPy] at e
    cases q : toPyL ds with
    | none => rw [q] at e; exact nomatch e
    | some ps =>
      rw [q] at e
      simp only [Option.map_some, Option.some.injEq] at e
      subst e
      exact .lst h (RepL.dp sr.sub r q)

/-! ### operators -/
def gAdd : B2
  | .int i, .int j => some (.int (i + j))
  | .str x, .str y => if x.length + y.length ≤ sizeLine then some (.str (x ++ y)) else none
  | .lst xs, .lst ys => if xs.length + ys.length ≤ sizeLine then some (.lst (xs ++ ys)) else none
  | .tup xs, .tup ys => if xs.length + ys.length ≤ sizeLine then some (.tup (xs ++ ys)) else none
  | _, _ => none
def gSub : B2
  | .int i, .int j => some (.int (i - j))
  | _, _ => none
instance {i j : Int} : Decidable (IntMulOk i j) := by unfold IntMulOk; infer_instance
/-- a text so often -/
def repS (x : Str) (j : Int) : Str := ⟨(List.replicate j.toNat x.cps.toList).flatten.toArray⟩
def gMul : B2
  | .int i, .int j => if IntMulOk i j then some (.int (i * j)) else none
  | .str x, .int j => if 0 ≤ j ∧ j ≤ 100000 ∧ x.length ≤ 1000 ∧ x.length * j.toNat ≤ 100000 then some (.str (repS x j)) else none
  | _, _ => none
def gDiv : B2
  | .int i, .int j => if 0 < j ∧ j.natAbs.log2 < 9000 then some (.int (i / j)) else none
  | _, _ => none
def gMod : B2
  | .int i, .int j => if 0 < j then some (.int (i % j)) else none
  | _, _ => none
def gPow : B2
  | .int i, .int j => if 0 ≤ j ∧ (Builtin.Int.intBits i : Int) * j ≤ 2 ^ 27 then some (.int (i ^ j.toNat)) else none
  | _, _ => none
def gShl : B2
  | .int i, .int j => if 0 ≤ j ∧ (Builtin.Int.intBits i : Int) + j ≤ 2 ^ 27 then some (.int (i * 2 ^ j.toNat)) else none
  | _, _ => none
def gShr : B2
  | .int i, .int j => if 0 ≤ j then some (.int (i / 2 ^ j.toNat)) else none
  | _, _ => none
def gLt : B2
  | .int i, .int j => some (.bl (decide (i < j)))
  | .str x, .str y => some (.bl (decide (x.cps.toList < y.cps.toList)))
  | _, _ => none
def gLe : B2
  | .int i, .int j => some (.bl (decide (i ≤ j)))
  | _, _ => none
def gGt : B2
  | .int i, .int j => some (.bl (decide (j < i)))
  | _, _ => none
def gGe : B2
  | .int i, .int j => some (.bl (decide (j ≤ i)))
  | _, _ => none
def eqPy (x y : D) : Option Bool := match toPy x, toPy y with
  | some p, some q => if SeqAt.shaped p && SeqAt.shaped q then some (PyData.eqv p q) else none
  | _, _ => none
def eqO : D → D → Option Bool
  | .int i, .int j => some (decide (i = j))
  | .str x, .str y => some (decide (x = y))
  | .bl x, .bl y => some (decide (x = y))
  | .non, .non => some true
  | .non, .str _ => some false
  | .str _, .non => some false
  | .int _, .str _ => some false
  | .str _, .int _ => some false
  | .non, .int _ => some false
  | .int _, .non => some false
  | x, y => eqPy x y
def gEq : B2 := fun x y => (eqO x y).map .bl
def gNe : B2 := fun x y => (eqO x y).map fun b => .bl !b
def gIsN : B2
  | x, .non => some (.bl (match x with | .non => true | _ => false))
  | _, _ => none
def gNotN : B2
  | x, .non => some (.bl (match x with | .non => false | _ => true))
  | _, _ => none

section
variable {X : Cx} {ct : String → Addr}
theorem op_none {f : Value → Value → Sem Value} {r : R2} : OpR X f r → OpR X f r := id
theorem o_add : OpR X (binaryOp .Add) (rD X.K ct gAdd) := by
  intro pins s σ H x y v u Q I rx ry h
  obtain ⟨v0, dx, dy, d, rfl, sr, e, r1, r2, h⟩ := h
  cases r1 with
  | int i =>
    cases r2 <;> simp only [gAdd, Option.some.injEq, reduceCtorEq] at e
    subst e
    exact op_add pins s σ _ _ _ v u Q I rx ry ⟨_, _, rfl, rfl, h _ v0 .refl sr rfl (.int _)⟩
  | str z =>
    cases r2 <;> simp only [gAdd, reduceCtorEq] at e
    split at e
    · rename_i hz
      simp only [Option.some.injEq] at e
      subst e
      exact op_add_str pins s σ _ _ _ v u Q I rx ry ⟨_, _, rfl, rfl, hz, h _ v0 .refl sr rfl (.str _)⟩
    · exact nomatch e
  | non => cases r2 <;> simp only [gAdd, reduceCtorEq] at e
  | bl b => cases r2 <;> simp only [gAdd, reduceCtorEq] at e
  | fn a => cases r2 <;> simp only [gAdd, reduceCtorEq] at e
  | ob a => cases r2 <;> simp only [gAdd, reduceCtorEq] at e
  | ev a => cases r2 <;> simp only [gAdd, reduceCtorEq] at e
  | dct p l q => cases r2 <;> simp only [gAdd, reduceCtorEq] at e
  | tup p q =>
    cases r2 <;> simp only [gAdd, reduceCtorEq] at e
    rename_i p2 q2
    split at e
    · rename_i hz
      simp only [Option.some.injEq] at e
      subst e
      have l1 := q.length
      have l2 := q2.length
      refine op_catA pins s σ _ _ _ v u Q I rx ry ⟨_, _, _, _, rfl, rfl, sqt_mono sr.sub p, sqt_mono sr.sub p2, by omega, fun z => ?_, fun z1 z2 => ?_, fun z1 z2 c hc => ?_⟩
      · subst z
        cases q
        exact h _ v0 .refl sr rfl (.tup p2 q2)
      · subst z2
        cases q2
        rw [List.append_nil] at h
        exact h _ v0 .refl sr rfl (.tup p q)
      · obtain ⟨l, s2⟩ := new_ok (o := .tup _) sr hc
        exact h _ _ l s2 rfl (.tup (SqT.of upd_same) (RepL.append (l.repl q) (l.repl q2)))
    · exact nomatch e
  | lst p q =>
    cases r2 <;> simp only [gAdd, reduceCtorEq] at e
    rename_i a1 vs1 ds1 a2 vs2 ds2 p2 q2
    split at e
    · rename_i hz
      simp only [Option.some.injEq] at e
      subst e
      cases rx
      cases ry
      have l1 := q.length
      have l2 := q2.length
      obtain ⟨is1, t1, ⟨⟨c1, d1, b1, s1⟩, n1, ho1, hc1, hd1, hs1⟩, z1⟩ := I.list (p)
      obtain ⟨is2, t2, ⟨⟨c2, d2, b2, s2⟩, n2, ho2, hc2, hd2, hs2⟩, z2⟩ := I.list (p2)
      simp only at hc1 hd1 hs1 hc2 hd2 hs2
      subst hc1 hd1 hs1 hc2 hd2 hs2
      have m1 := t1.length
      have m2 := t2.length
      refine concat_meets ⟨_, ho1, rfl⟩ ⟨_, ho2, rfl⟩ noFill_list_add seq_list_add PySem.F.slot_list_add PySem.F.entry_list_add (PySem.F.args_list_add_2 _ _) (PyProof.Rows.list_addW _ _ is1.toArray is2.toArray n1 n2 _ _ s1 s2 (by simp only [List.size_toArray]; omega)) ⟨ho1, ho2, ?_⟩
      rw [show is1.toArray ++ is2.toArray = (is1 ++ is2).toArray by simp]
      have hf := I.fresh
      obtain ⟨l, s2⟩ := new_ok (o := .lst (vs1 ++ vs2)) sr hf
      exact ⟨.ref _, _, I.lnew (t' := s.toks) (t1.append t2) (by simp only [List.length_append]; omega), rfl, h _ _ l s2 rfl (.lst (SqL.of upd_same) (RepL.append (l.repl q) (l.repl q2)))⟩
    · exact nomatch e
theorem o_sub : OpR X (binaryOp .Sub) (rD X.K ct gSub) := by
  intro pins s σ H x y v u Q I rx ry h
  obtain ⟨v0, dx, dy, d, rfl, sr, e, r1, r2, h⟩ := h
  cases r1 <;> cases r2 <;> simp only [gSub, Option.some.injEq, reduceCtorEq] at e
  subst e
  exact op_sub pins s σ _ _ _ v u Q I rx ry ⟨_, _, rfl, rfl, h _ v0 .refl sr rfl (.int _)⟩
theorem rep_flat (x : Array Nat) : ∀ (n : Nat) (acc : Array Nat), (List.replicate n x).foldl (· ++ ·) acc = (acc.toList ++ (List.replicate n x.toList).flatten).toArray
  | 0, acc => by simp
  | n + 1, acc => by
    rw [List.replicate_succ, List.foldl_cons, rep_flat x n, List.replicate_succ, List.flatten_cons]
    simp
theorem rep_len (x : Str) (j : Int) : (repS x j).length = x.length * j.toNat := by
  unfold repS
  show (List.replicate j.toNat x.cps.toList).flatten.toArray.size = x.cps.size * j.toNat
  rw [List.size_toArray, List.length_flatten, List.map_replicate, Array.length_toList]
  generalize x.cps.size = a
  generalize j.toNat = n
  induction n with
  | zero => simp
  | succ n ih => rw [List.replicate_succ, List.sum_cons, ih, Nat.mul_succ, Nat.add_comm]
theorem rep_one (x : Str) : repS x 1 = x := by
  unfold repS
  simp
theorem rep_zero (x : Str) : repS x 0 = Str.empty := by
  unfold repS
  rfl
theorem rep_nil (x : Str) (j : Int) (h : x.length = 0) : repS x j = x := by
  have e : x.cps.toList = [] := List.length_eq_zero_iff.mp (by simpa [Str.length] using h)
  have e2 : x = ⟨[].toArray⟩ := by rw [← e]
  unfold repS
  rw [e]
  have : (List.replicate j.toNat ([] : List Nat)).flatten = [] := by simp
  rw [this, ← e2]
theorem o_mul : OpR X (binaryOp .Mult) (rD X.K ct gMul) := by
  intro pins s σ H x y v u Q I rx ry h
  obtain ⟨v0, dx, dy, d, rfl, sr, e, r1, r2, h⟩ := h
  cases r1 <;> cases r2 <;> simp only [gMul, reduceCtorEq] at e
  · split at e
    · rename_i hc
      simp only [Option.some.injEq] at e
      subst e
      obtain ⟨t, rfl⟩ := rx
      obtain ⟨t', rfl⟩ := ry
      exact PyProof.Rows.mul_int ⟨.int _, _, I.tok _, ⟨_, rfl⟩, h _ v0 .refl sr rfl (.int _)⟩ hc
    · exact nomatch e
  · rename_i z j
    split at e
    · rename_i hc
      simp only [Option.some.injEq] at e
      subst e
      obtain ⟨t, rfl⟩ := rx
      obtain ⟨t', rfl⟩ := ry
      obtain ⟨h0, h1, h2, h3⟩ := hc
      have hs : (100000 : Nat) ≤ sizeLine := by decide
      have c1 : ∀ t', EP X pins σ Q (Value.str (repS z j) t') { s with toks := s.toks + 1 } := fun t' => ⟨.str _, _, I.tok _, ⟨_, rfl⟩, h _ v0 .refl sr rfl (.str _)⟩
      refine PySem.P.mul_str (by rw [decide_eq_false (by omega), decide_eq_false (by omega)]; rfl) (fun a b => ?_) (fun a b => ?_) ?_
      · have : (1000 : Int) ≤ (2 ^ 63 - 1) / j := Int.le_ediv_of_mul_le (by omega) (by omega)
        omega
      · unfold Builtin.Str.tooLong
        exact decide_eq_false (by omega)
      · by_cases a : j < 1
        · rw [if_pos a]
          have : j = 0 := by omega
          subst this
          have c1 := c1 s.toks
          rw [rep_zero] at c1
          exact ⟨by decide, c1⟩
        · rw [if_neg a]
          by_cases b : (j == 1 || z.length == 0) = true
          · rw [if_pos b]
            have e : repS z j = z := by
              rw [Bool.or_eq_true] at b
              rcases b with b | b
              · have : j = 1 := by simpa using b
                subst this
                exact rep_one z
              · exact rep_nil z j (by simpa using b)
            have g : EP X pins σ Q (Value.str z t) s := ⟨.str z, _, I, ⟨_, rfl⟩, by
              have := h (.str (repS z j)) v0 .refl sr rfl (.str _)
              rwa [e] at this⟩
            exact g
          · rw [if_neg b]
            have e : (⟨(List.replicate j.toNat z.cps).foldl (· ++ ·) #[]⟩ : Str) = repS z j := by
              unfold repS
              rw [rep_flat]
              simp
            rw [e]
            exact ⟨by rw [rep_len]; omega, c1 s.toks⟩
    · exact nomatch e
theorem o_div : OpR X (binaryOp .FloorDiv) (rD X.K ct gDiv) := by
  intro pins s σ H x y v u Q I rx ry h
  obtain ⟨v0, dx, dy, d, rfl, sr, e, r1, r2, h⟩ := h
  cases r1 <;> cases r2 <;> simp only [gDiv, reduceCtorEq] at e
  split at e
  · rename_i hc
    simp only [Option.some.injEq] at e
    subst e
    exact op_fdivW pins s σ _ _ _ v u Q I rx ry ⟨_, _, rfl, rfl, hc, h _ v0 .refl sr rfl (.int _)⟩
  · exact nomatch e
theorem o_mod : OpR X (binaryOp .Mod) (rD X.K ct gMod) := by
  intro pins s σ H x y v u Q I rx ry h
  obtain ⟨v0, dx, dy, d, rfl, sr, e, r1, r2, h⟩ := h
  cases r1 <;> cases r2 <;> simp only [gMod, reduceCtorEq] at e
  split at e
  · rename_i hc
    simp only [Option.some.injEq] at e
    subst e
    exact op_mod pins s σ _ _ _ v u Q I rx ry ⟨_, _, rfl, rfl, hc, h _ v0 .refl sr rfl (.int _)⟩
  · exact nomatch e
theorem op_powW : OpR X (binaryOp .Pow) (rI (fun i j => 0 ≤ j ∧ (Builtin.Int.intBits i : Int) * j ≤ 2 ^ 27) fun i j => .int (i ^ j.toNat)) := opI fun _ _ _ _ _ _ _ hc q => PyProof.Rows.pow_int hc.1 hc.2 q
theorem o_pow : OpR X (binaryOp .Pow) (rD X.K ct gPow) := by
  intro pins s σ H x y v u Q I rx ry h
  obtain ⟨v0, dx, dy, d, rfl, sr, e, r1, r2, h⟩ := h
  cases r1 <;> cases r2 <;> simp only [gPow, reduceCtorEq] at e
  split at e
  · rename_i hc
    simp only [Option.some.injEq] at e
    subst e
    exact op_powW pins s σ _ _ _ v u Q I rx ry ⟨_, _, rfl, rfl, hc, h _ v0 .refl sr rfl (.int _)⟩
  · exact nomatch e
theorem o_shl : OpR X (binaryOp .LShift) (rD X.K ct gShl) := by
  intro pins s σ H x y v u Q I rx ry h
  obtain ⟨v0, dx, dy, d, rfl, sr, e, r1, r2, h⟩ := h
  cases r1 <;> cases r2 <;> simp only [gShl, reduceCtorEq] at e
  split at e
  · rename_i hc
    simp only [Option.some.injEq] at e
    subst e
    exact op_shlW pins s σ _ _ _ v u Q I rx ry ⟨_, _, rfl, rfl, hc, h _ v0 .refl sr rfl (.int _)⟩
  · exact nomatch e
theorem o_shr : OpR X (binaryOp .RShift) (rD X.K ct gShr) := by
  intro pins s σ H x y v u Q I rx ry h
  obtain ⟨v0, dx, dy, d, rfl, sr, e, r1, r2, h⟩ := h
  cases r1 <;> cases r2 <;> simp only [gShr, reduceCtorEq] at e
  split at e
  · rename_i hc
    simp only [Option.some.injEq] at e
    subst e
    exact op_shr pins s σ _ _ _ v u Q I rx ry ⟨_, _, rfl, rfl, hc, h _ v0 .refl sr rfl (.int _)⟩
  · exact nomatch e
theorem o_lt : OpR X (compareOp .Lt) (rD X.K ct gLt) := by
  intro pins s σ H x y v u Q I rx ry h
  obtain ⟨v0, dx, dy, d, rfl, sr, e, r1, r2, h⟩ := h
  cases r1 <;> cases r2 <;> simp only [gLt, Option.some.injEq, reduceCtorEq] at e
  · subst e
    exact op_lt pins s σ _ _ _ v u Q I rx ry ⟨_, _, rfl, rfl, h _ v0 .refl sr rfl (.bl _)⟩
  · subst e
    exact op_lt_str pins s σ _ _ _ v u Q I rx ry ⟨_, _, rfl, rfl, h _ v0 .refl sr rfl (.bl _)⟩
theorem o_le : OpR X (compareOp .LtE) (rD X.K ct gLe) := by
  intro pins s σ H x y v u Q I rx ry h
  obtain ⟨v0, dx, dy, d, rfl, sr, e, r1, r2, h⟩ := h
  cases r1 <;> cases r2 <;> simp only [gLe, Option.some.injEq, reduceCtorEq] at e
  subst e
  exact op_le pins s σ _ _ _ v u Q I rx ry ⟨_, _, rfl, rfl, h _ v0 .refl sr rfl (.bl _)⟩
theorem o_gt : OpR X (compareOp .Gt) (rD X.K ct gGt) := by
  intro pins s σ H x y v u Q I rx ry h
  obtain ⟨v0, dx, dy, d, rfl, sr, e, r1, r2, h⟩ := h
  cases r1 <;> cases r2 <;> simp only [gGt, Option.some.injEq, reduceCtorEq] at e
  subst e
  exact op_gt pins s σ _ _ _ v u Q I rx ry ⟨_, _, rfl, rfl, h _ v0 .refl sr rfl (.bl _)⟩
theorem o_ge : OpR X (compareOp .GtE) (rD X.K ct gGe) := by
  intro pins s σ H x y v u Q I rx ry h
  obtain ⟨v0, dx, dy, d, rfl, sr, e, r1, r2, h⟩ := h
  cases r1 <;> cases r2 <;> simp only [gGe, Option.some.injEq, reduceCtorEq] at e
  subst e
  exact op_ge pins s σ _ _ _ v u Q I rx ry ⟨_, _, rfl, rfl, h _ v0 .refl sr rfl (.bl _)⟩
/-- both sides of == and != -/
theorem eq_core {K : PySem.W.Frag} {ct : String → Addr} {v : Vw} (sr : SR K ct v) {dx dy : D} {x y : V} {b : Bool} (r1 : RepT K ct v dx x) (r2 : RepT K ct v dy y) (e : eqO dx dy = some b) :
    (scal x y = true ∧ decide (x = y) = b) ∨ ∃ p q, Dp K v.H x p ∧ Dp K v.H y q ∧ SeqAt.shaped p = true ∧ SeqAt.shaped q = true ∧ PyData.eqv p q = b := by
  have gen : eqPy dx dy = some b → ∃ p q, Dp K v.H x p ∧ Dp K v.H y q ∧ SeqAt.shaped p = true ∧ SeqAt.shaped q = true ∧ PyData.eqv p q = b := fun e => by
    unfold eqPy at e
    cases q1 : toPy dx with
    | none => rw [q1] at e; exact nomatch e
    | some p =>
      cases q2 : toPy dy with
      | none => rw [q1, q2] at e; exact nomatch e
      | some q =>
        rw [q1, q2] at e
        simp only at e
        split at e
        · rename_i hs
          rw [Bool.and_eq_true] at hs
          exact ⟨p, q, r1.dp sr q1, r2.dp sr q2, hs.1, hs.2, Option.some.inj e⟩
        · exact nomatch e
  cases r1 <;> cases r2 <;> first
    | (simp only [eqO] at e; exact .inr (gen e))
    | (refine .inl ⟨rfl, ?_⟩; simp only [eqO, Option.some.injEq] at e; rw [← e]; simp)
theorem o_eq (hu : X.A.units + 64 < cLine) : OpR X (compareOp .Eq) (rD X.K ct gEq) := by
  intro pins s σ H x y v u Q I rx ry h
  obtain ⟨v0, dx, dy, d, rfl, sr, e, r1, r2, h⟩ := h
  unfold gEq at e
  cases q : eqO dx dy with
  | none => rw [q] at e; exact nomatch e
  | some b =>
    rw [q] at e
    have e' : d = .bl b := (Option.some.inj e).symm
    subst e'
    rcases eq_core sr r1 r2 q with ⟨h1, h2⟩ | ⟨p, q, d1, d2, s1, s2, eb⟩
    · exact op_eq pins s σ _ x y v u Q I rx ry ⟨h1, by rw [h2]; exact h _ v0 .refl sr rfl (.bl b)⟩
    · exact op_eqD hu pins s σ _ x y v u Q I rx ry ⟨p, q, d1, d2, s1, s2, by rw [eb]; exact h _ v0 .refl sr rfl (.bl b)⟩
theorem o_ne (hu : X.A.units + 64 < cLine) : OpR X (compareOp .NotEq) (rD X.K ct gNe) := by
  intro pins s σ H x y v u Q I rx ry h
  obtain ⟨v0, dx, dy, d, rfl, sr, e, r1, r2, h⟩ := h
  unfold gNe at e
  cases q : eqO dx dy with
  | none => rw [q] at e; exact nomatch e
  | some b =>
    rw [q] at e
    have e' : d = .bl !b := (Option.some.inj e).symm
    subst e'
    rcases eq_core sr r1 r2 q with ⟨h1, h2⟩ | ⟨p, q, d1, d2, s1, s2, eb⟩
    · exact op_ne pins s σ _ x y v u Q I rx ry ⟨h1, by rw [h2]; exact h _ v0 .refl sr rfl (.bl _)⟩
    · exact op_neD hu pins s σ _ x y v u Q I rx ry ⟨p, q, d1, d2, s1, s2, by rw [eb]; exact h _ v0 .refl sr rfl (.bl _)⟩
theorem o_isN : OpR X (compareOp .Is) (rD X.K ct gIsN) := by
  intro pins s σ H x y v u Q I rx ry h
  obtain ⟨v0, dx, dy, d, rfl, sr, e, r1, r2, h⟩ := h
  cases r2 <;> simp only [gIsN, Option.some.injEq, reduceCtorEq] at e
  subst e
  cases r1 <;> exact op_isN pins s σ _ _ _ v u Q I rx ry ⟨rfl, h _ v0 .refl sr rfl (.bl _)⟩
theorem o_notN : OpR X (compareOp .IsNot) (rD X.K ct gNotN) := by
  intro pins s σ H x y v u Q I rx ry h
  obtain ⟨v0, dx, dy, d, rfl, sr, e, r1, r2, h⟩ := h
  cases r2 <;> simp only [gNotN, Option.some.injEq, reduceCtorEq] at e
  subst e
  cases r1 <;> exact op_notN pins s σ _ _ _ v u Q I rx ry ⟨rfl, h _ v0 .refl sr rfl (.bl _)⟩
end

/-! ### one operand -/
abbrev B1 := D → Option D
def rD1 (K : PySem.W.Frag) (ct : String → Addr) (g : B1) : V → Hp → VK → Prop := fun x H Q => ∃ v dx d, v.H = H ∧ SR K ct v ∧ g dx = some d ∧ RepT K ct v dx x ∧ ∀ z v', Le v v' → SR K ct v' → v'.st = v.st → Rep K ct v'.G v'.m d z → Q z v'.H
def eUn (g : B1) (a : E) : E := fun δ s => (a δ s).bind fun x s1 => R.ofO (g (rsv s1 x)) s1
def gNeg : B1
  | .int i => some (.int (-i))
  | _ => none
section
variable {X : Cx} {C : Cc} {pos : Pos} {a : Expr} {fa : E} {g : B1}
theorem lift_un {K : PySem.W.Frag} {σ : L2.St} {H : Hp} {Q : VK} (h : liftE K C (eUn g fa) σ H Q) : tUn (rD1 K C.ct g) (liftE K C fa) σ H Q := by
  obtain ⟨δ, v, re, rfl, h⟩ := h
  refine ⟨δ, v, re, rfl, on_mono (on_bind h) fun d x v1 l1 s1 r1 h1 => ?_⟩
  obtain ⟨z, e, h1⟩ := on_ofO h1
  exact ⟨v1, _, z, rfl, s1, e, r1.top s1, h1⟩
theorem se_un {op : UnaryOp} (ho : UnR X (unaryOp op) (rD1 X.K C.ct g)) (ha : SE X C a fa) : SE X C (.UnaryOp op a pos) (eUn g fa) := pe_weak (pe_un ho ha) fun σ H Q h => lift_un h
theorem o_neg {ct : String → Addr} : UnR X (unaryOp .USub) (rD1 X.K ct gNeg) := by
  intro pins s σ H x v Q I rx h
  obtain ⟨v0, dx, d, rfl, sr, e, r1, h⟩ := h
  cases r1 <;> simp only [gNeg, Option.some.injEq, reduceCtorEq] at e
  subst e
  exact un_neg pins s σ _ _ v Q I rx ⟨_, rfl, h _ v0 .refl sr rfl (.int _)⟩
end

/-! ### built-in functions of values -/
abbrev BA := List D → Option D
inductive RepTL (K : PySem.W.Frag) (ct : String → Addr) (v : Vw) : List D → List V → Prop
  | nil : RepTL K ct v [] []
  | cons {d : D} {x : V} {ds : List D} {xs : List V} : RepT K ct v d x → RepTL K ct v ds xs → RepTL K ct v (d :: ds) (x :: xs)
theorem RepL.top {K : PySem.W.Frag} {ct : String → Addr} {v : Vw} (sr : SR K ct v) : ∀ {ds : List D} {xs : List V}, RepL K ct v.G v.m ds xs → RepTL K ct v (ds.map (rsv v.st)) xs
  | _, _, .nil => .nil
  | _, _, .cons h r => .cons (h.top sr) (RepL.top sr r)
def rDA (K : PySem.W.Frag) (ct : String → Addr) (g : BA) : List V → Hp → VK → Prop := fun xs H Q => ∃ v ds d, v.H = H ∧ SR K ct v ∧ g ds = some d ∧ RepTL K ct v ds xs ∧ ∀ z v', Le v v' → SR K ct v' → v'.st = v.st → Rep K ct v'.G v'.m d z → Q z v'.H
def eFn (g : BA) (a : As) : E := fun δ s => (a δ s).bind fun xs s1 => R.ofO (g (xs.map (rsv s1))) s1
section
variable {X : Cx} {C : Cc} {pos p : Pos} {x : Str} {id T : String} {e : Expr} {es : List Expr} {fa : As} {g : BA}
theorem lift_fn {K : PySem.W.Frag} {σ : L2.St} {H : Hp} {Q : VK} (h : liftE K C (eFn g fa) σ H Q) : tCB (rDA K C.ct g) (liftA K C fa) σ H Q := by
  obtain ⟨δ, v, re, rfl, h⟩ := h
  refine ⟨δ, v, re, rfl, on_mono (on_bind h) fun d x v1 l1 s1 r1 h1 => ?_⟩
  obtain ⟨z, e, h1⟩ := on_ofO h1
  exact ⟨v1, _, z, rfl, s1, e, r1.top s1, h1⟩
theorem se_callB (hc : CallR X (.builtin id) (rDA X.K C.ct g)) (hg : Gl X x) (hm : X.mg x = none) (hv : bootBuiltins x = some (.builtin id)) (ha : SA X C (e :: es) fa) (hn : x ≠ "__name__" := by decide) (hdb : (x == ("__debug__" : Str)) = false := by decide)
    (he : starEach (e :: es) X.env = (false, eval e X.env) :: starEach es X.env := by rfl) (hpl : (backTo pos (starEach es X.env)).any (·.1) = false := by rfl) : SE X C (.Call (.Name x p) (e :: es) [] pos) (eFn g fa) :=
  pe_weak (pe_callB hc hg hm hv ha hn hdb he hpl) fun σ H Q h => lift_fn h
theorem se_callT (hc : CallR X (.type T) (rDA X.K C.ct g)) (hg : Gl X x) (hm : X.mg x = none) (hv : bootBuiltins x = some (.type T)) (ha : SA X C (e :: es) fa) (hn : x ≠ "__name__" := by decide) (hdb : (x == ("__debug__" : Str)) = false := by decide)
    (he : starEach (e :: es) X.env = (false, eval e X.env) :: starEach es X.env := by rfl) (hpl : (backTo pos (starEach es X.env)).any (·.1) = false := by rfl) : SE X C (.Call (.Name x p) (e :: es) [] pos) (eFn g fa) :=
  pe_weak (pe_callTy hc hg hm hv ha hn hdb he hpl) fun σ H Q h => lift_fn h

def gLen : BA
  | [.lst xs] => some (.int xs.length)
  | [.tup xs] => some (.int xs.length)
  | [.str x] => if x.length ≤ sizeLine then some (.int x.length) else none
  | _ => none
def gMin2 : BA
  | [.int i, .int j] => some (.int (if j < i then j else i))
  | _ => none
def gMax2 : BA
  | [.int i, .int j] => some (.int (if j > i then j else i))
  | _ => none
def gAbs : BA
  | [.int i] => some (.int (if i < 0 then -i else i))
  | _ => none
def gInt : BA
  | [.int i] => some (.int i)
  | [.bl k] => some (.int (if k then 1 else 0))
  | [.str a] => match PySem.intText? a with
    | some n => if a.length ≤ 640 then some (.int n) else none
    | none => none
  | _ => none
def gStr : BA
  | [.int i] => if i.natAbs.log2 < 1920 then some (.str (toString i)) else none
  | _ => none
def gList : BA
  | [.lst xs] => some (.lst xs)
  | [.tup xs] => some (.lst xs)
  | _ => none
def gTuple : BA
  | [.lst xs] => some (.tup xs)
  | [.tup xs] => some (.tup xs)
  | _ => none
def gDivmod : BA
  | [.int i, .int j] => if 0 < j ∧ Builtin.divisionGoesByPylong i j = false then some (.tup [.int (i / j), .int (i % j)]) else none
  | _ => none
def intsOf : List D → Option (List Int)
  | [] => some []
  | .int i :: r => (intsOf r).map (i :: ·)
  | _ => none
def blsOf : List D → Option (List Bool)
  | [] => some []
  | .bl i :: r => (blsOf r).map (i :: ·)
  | _ => none
def strsOf : List D → Option (List Str)
  | [] => some []
  | .str i :: r => (strsOf r).map (i :: ·)
  | _ => none
theorem intsOf_eq : ∀ {ds : List D} {ns : List Int}, intsOf ds = some ns → ds = ns.map D.int
  | [], _, e => by simp only [intsOf, Option.some.injEq] at e; subst e; rfl
  | .int i :: r, ns, e => by
    simp only [intsOf] at e
    cases q : intsOf r with
    | none => rw [q] at e; exact nomatch e
    | some ms => rw [q] at e; simp only [Option.map_some, Option.some.injEq] at e; subst e; rw [intsOf_eq q]; rfl
  | .non :: _, _, e => nomatch e
  | .bl _ :: _, _, e => nomatch e
  | .str _ :: _, _, e => nomatch e
  | .tup _ :: _, _, e => nomatch e
  | .lst _ :: _, _, e => nomatch e
  | .fn _ :: _, _, e => nomatch e
  | .ob _ :: _, _, e => nomatch e
  | .ev _ _ _ :: _, _, e => nomatch e
  | .dct _ _ :: _, _, e => nomatch e
theorem blsOf_eq : ∀ {ds : List D} {ns : List Bool}, blsOf ds = some ns → ds = ns.map D.bl
  | [], _, e => by simp only [blsOf, Option.some.injEq] at e; subst e; rfl
  | .bl i :: r, ns, e => by
    simp only [blsOf] at e
    cases q : blsOf r with
    | none => rw [q] at e; exact nomatch e
    | some ms => rw [q] at e; simp only [Option.map_some, Option.some.injEq] at e; subst e; rw [blsOf_eq q]; rfl
  | .non :: _, _, e => nomatch e
  | .int _ :: _, _, e => nomatch e
  | .str _ :: _, _, e => nomatch e
  | .tup _ :: _, _, e => nomatch e
  | .lst _ :: _, _, e => nomatch e
  | .fn _ :: _, _, e => nomatch e
  | .ob _ :: _, _, e => nomatch e
  | .ev _ _ _ :: _, _, e => nomatch e
  | .dct _ _ :: _, _, e => nomatch e
theorem strsOf_eq : ∀ {ds : List D} {ns : List Str}, strsOf ds = some ns → ds = ns.map D.str
  | [], _, e => by simp only [strsOf, Option.some.injEq] at e; subst e; rfl
  | .str i :: r, ns, e => by
    simp only [strsOf] at e
    cases q : strsOf r with
    | none => rw [q] at e; exact nomatch e
    | some ms => rw [q] at e; simp only [Option.map_some, Option.some.injEq] at e; subst e; rw [strsOf_eq q]; rfl
  | .non :: _, _, e => nomatch e
  | .int _ :: _, _, e => nomatch e
  | .bl _ :: _, _, e => nomatch e
  | .tup _ :: _, _, e => nomatch e
  | .lst _ :: _, _, e => nomatch e
  | .fn _ :: _, _, e => nomatch e
  | .ob _ :: _, _, e => nomatch e
  | .ev _ _ _ :: _, _, e => nomatch e
  | .dct _ _ :: _, _, e => nomatch e
theorem intsOf_map : ∀ ns : List Int, intsOf (ns.map D.int) = some ns
  | [] => rfl
  | n :: r => by simp only [List.map_cons, intsOf, intsOf_map r, Option.map_some]
theorem blsOf_map : ∀ ns : List Bool, blsOf (ns.map D.bl) = some ns
  | [] => rfl
  | n :: r => by simp only [List.map_cons, blsOf, blsOf_map r, Option.map_some]
theorem strsOf_map : ∀ ns : List Str, strsOf (ns.map D.str) = some ns
  | [] => rfl
  | n :: r => by simp only [List.map_cons, strsOf, strsOf_map r, Option.map_some]
def gSum : BA
  | [.lst xs] => (intsOf xs).map fun ns => .int ns.sum
  | _ => none
def gAll : BA
  | [.lst xs] => (blsOf xs).map fun ns => .bl (ns.all fun b => b)
  | _ => none
def gAny : BA
  | [.lst xs] => (blsOf xs).map fun ns => .bl (ns.any fun b => b)
  | _ => none
def gMin : BA
  | [.lst xs] => (intsOf xs).bind fun ns => ns.min?.map .int
  | _ => none
def gMax : BA
  | [.lst xs] => (intsOf xs).bind fun ns => ns.max?.map .int
  | _ => none
theorem b_len {ct : String → Addr} : CallR X (.builtin "len") (rDA X.K ct gLen) := by
  intro pins s σ H xs us Q I r h
  obtain ⟨v0, ds, d, rfl, sr, e, rl, h⟩ := h
  unfold gLen at e
  split at e
  · cases rl with
    | cons r1 r2 =>
      cases r2
      cases r1 with
      | lst p q =>
        simp only [Option.some.injEq] at e
        subst e
        refine call_len_seq pins s σ _ _ us Q I r ⟨_, _, rfl, .inl (p), ?_⟩
        rw [← q.length]
        exact h _ v0 .refl sr rfl (.int _)
  · cases rl with
    | cons r1 r2 =>
      cases r2
      cases r1 with
      | tup p q =>
        simp only [Option.some.injEq] at e
        subst e
        refine call_len_seq pins s σ _ _ us Q I r ⟨_, _, rfl, .inr (sqt_mono sr.sub p), ?_⟩
        rw [← q.length]
        exact h _ v0 .refl sr rfl (.int _)
  · cases rl with
    | cons r1 r2 =>
      cases r2
      cases r1
      split at e
      · rename_i hz
        simp only [Option.some.injEq] at e
        subst e
        exact call_len_str pins s σ _ _ us Q I r ⟨_, rfl, hz, h _ v0 .refl sr rfl (.int _)⟩
      · exact nomatch e
  · exact nomatch e
theorem b_min2 {ct : String → Addr} (hc : X.calm = true) : CallR X (.builtin "min") (rDA X.K ct gMin2) := by
  intro pins s σ H xs us Q I r h
  obtain ⟨v0, ds, d, rfl, sr, e, rl, h⟩ := h
  unfold gMin2 at e
  split at e
  · cases rl with
    | cons r1 r2 =>
      cases r2 with
      | cons r2 r3 =>
        cases r1; cases r2; cases r3
        simp only [Option.some.injEq] at e
        subst e
        exact call_min2 hc pins s σ _ _ us Q I r ⟨_, _, rfl, h _ v0 .refl sr rfl (.int _)⟩
  · exact nomatch e
theorem b_max2 {ct : String → Addr} (hc : X.calm = true) : CallR X (.builtin "max") (rDA X.K ct gMax2) := by
  intro pins s σ H xs us Q I r h
  obtain ⟨v0, ds, d, rfl, sr, e, rl, h⟩ := h
  unfold gMax2 at e
  split at e
  · cases rl with
    | cons r1 r2 =>
      cases r2 with
      | cons r2 r3 =>
        cases r1; cases r2; cases r3
        simp only [Option.some.injEq] at e
        subst e
        exact call_max2 hc pins s σ _ _ us Q I r ⟨_, _, rfl, h _ v0 .refl sr rfl (.int _)⟩
  · exact nomatch e
theorem b_abs {ct : String → Addr} : CallR X (.builtin "abs") (rDA X.K ct gAbs) := by
  intro pins s σ H xs us Q I r h
  obtain ⟨v0, ds, d, rfl, sr, e, rl, h⟩ := h
  unfold gAbs at e
  split at e
  · cases rl with
    | cons r1 r2 =>
      cases r1; cases r2
      simp only [Option.some.injEq] at e
      subst e
      exact call_abs pins s σ _ _ us Q I r ⟨_, rfl, h _ v0 .refl sr rfl (.int _)⟩
  · exact nomatch e
theorem b_int {ct : String → Addr} : CallR X (.type "int") (rDA X.K ct gInt) := by
  intro pins s σ H xs us Q I r h
  obtain ⟨v0, ds, d, rfl, sr, e, rl, h⟩ := h
  unfold gInt at e
  split at e
  · cases rl with
    | cons r1 r2 =>
      cases r1; cases r2
      simp only [Option.some.injEq] at e
      subst e
      exact call_int1 pins s σ _ _ us Q I r (.inl ⟨_, rfl, h _ v0 .refl sr rfl (.int _)⟩)
  · cases rl with
    | cons r1 r2 =>
      cases r1; cases r2
      simp only [Option.some.injEq] at e
      subst e
      exact call_int1 pins s σ _ _ us Q I r (.inr ⟨_, rfl, h _ v0 .refl sr rfl (.int _)⟩)
  · cases rl with
    | cons r1 r2 =>
      cases r1; cases r2
      split at e
      · rename_i n hn
        split at e
        · rename_i hz
          simp only [Option.some.injEq] at e
          subst e
          exact call_int_str pins s σ _ _ us Q I r ⟨_, n, rfl, hn, hz, h _ v0 .refl sr rfl (.int _)⟩
        · exact nomatch e
      · exact nomatch e
  · exact nomatch e
theorem b_str {ct : String → Addr} : CallR X (.type "str") (rDA X.K ct gStr) := by
  intro pins s σ H xs us Q I r h
  obtain ⟨v0, ds, d, rfl, sr, e, rl, h⟩ := h
  unfold gStr at e
  split at e
  · cases rl with
    | cons r1 r2 =>
      cases r1; cases r2
      split at e
      · rename_i hz
        simp only [Option.some.injEq] at e
        subst e
        exact call_str_int pins s σ _ _ us Q I r ⟨_, rfl, hz, h _ v0 .refl sr rfl (.str _)⟩
      · exact nomatch e
  · exact nomatch e
theorem b_list {ct : String → Addr} : CallR X (.type "list") (rDA X.K ct gList) := by
  intro pins s σ H xs us Q I r h
  obtain ⟨v0, ds, d, rfl, sr, e, rl, h⟩ := h
  unfold gList at e
  split at e
  · cases rl with
    | cons r1 r2 =>
      cases r2
      cases r1 with
      | lst p q =>
        simp only [Option.some.injEq] at e
        subst e
        exact call_list_of pins s σ _ _ us Q I r ⟨_, _, rfl, .inl (p), fun c hc => let ⟨l, s2⟩ := new_ok (o := .lst _) sr hc; h _ _ l s2 rfl (.lst (SqL.of upd_same) (l.repl q))⟩
  · cases rl with
    | cons r1 r2 =>
      cases r2
      cases r1 with
      | tup p q =>
        simp only [Option.some.injEq] at e
        subst e
        exact call_list_of pins s σ _ _ us Q I r ⟨_, _, rfl, .inr (sqt_mono sr.sub p), fun c hc => let ⟨l, s2⟩ := new_ok (o := .lst _) sr hc; h _ _ l s2 rfl (.lst (SqL.of upd_same) (l.repl q))⟩
  · exact nomatch e
theorem b_tuple {ct : String → Addr} : CallR X (.type "tuple") (rDA X.K ct gTuple) := by
  intro pins s σ H xs us Q I r h
  obtain ⟨v0, ds, d, rfl, sr, e, rl, h⟩ := h
  unfold gTuple at e
  split at e
  · cases rl with
    | cons r1 r2 =>
      cases r2
      cases r1 with
      | lst p q =>
        simp only [Option.some.injEq] at e
        subst e
        exact call_tuple_of pins s σ _ _ us Q I r ⟨_, _, rfl, .inl ⟨p, fun c hc => let ⟨l, s2⟩ := new_ok (o := .tup _) sr hc; h _ _ l s2 rfl (.tup (SqT.of upd_same) (l.repl q))⟩⟩
  · cases rl with
    | cons r1 r2 =>
      cases r2
      cases r1 with
      | tup p q =>
        simp only [Option.some.injEq] at e
        subst e
        exact call_tuple_of pins s σ _ _ us Q I r ⟨_, _, rfl, .inr ⟨sqt_mono sr.sub p, h _ v0 .refl sr rfl (.tup p q)⟩⟩
  · exact nomatch e
theorem b_divmod {ct : String → Addr} : CallR X (.builtin "divmod") (rDA X.K ct gDivmod) := by
  intro pins s σ H xs us Q I r h
  obtain ⟨v0, ds, d, rfl, sr, e, rl, h⟩ := h
  unfold gDivmod at e
  split at e
  · cases rl with
    | cons r1 r2 =>
      cases r2 with
      | cons r2 r3 =>
        cases r1; cases r2; cases r3
        split at e
        · rename_i hz
          simp only [Option.some.injEq] at e
          subst e
          exact call_divmodW pins s σ _ _ us Q I r ⟨_, _, rfl, hz, fun c hc => let ⟨l, s2⟩ := new_ok (o := .tup _) sr hc; h _ _ l s2 rfl (.tup (SqT.of upd_same) (.cons (.int _) (.cons (.int _) .nil)))⟩
        · exact nomatch e
  · exact nomatch e
theorem b_sum {ct : String → Addr} (hc : X.calm = true) : CallR X (.builtin "sum") (rDA X.K ct gSum) := by
  intro pins s σ H xs us Q I r h
  obtain ⟨v0, ds, d, rfl, sr, e, rl, h⟩ := h
  unfold gSum at e
  split at e
  · rename_i ys
    cases q1 : intsOf ys with
    | none => rw [q1] at e; exact nomatch e
    | some ns =>
      rw [q1] at e
      simp only [Option.map_some, Option.some.injEq] at e
      subst e
      have e2 := intsOf_eq q1
      subst e2
      cases rl with
      | cons r1 r2 =>
        cases r2
        cases r1 with
        | lst p q =>
          have e3 := RepL.of_ints q
          subst e3
          exact cr_sum hc pins s σ _ _ us Q I r ⟨_, ns, rfl, p, h _ v0 .refl sr rfl (.int _)⟩
  · exact nomatch e
theorem b_all {ct : String → Addr} (hc : X.calm = true) : CallR X (.builtin "all") (rDA X.K ct gAll) := by
  intro pins s σ H xs us Q I r h
  obtain ⟨v0, ds, d, rfl, sr, e, rl, h⟩ := h
  unfold gAll at e
  split at e
  · rename_i ys
    cases q1 : blsOf ys with
    | none => rw [q1] at e; exact nomatch e
    | some ns =>
      rw [q1] at e
      simp only [Option.map_some, Option.some.injEq] at e
      subst e
      have e2 := blsOf_eq q1
      subst e2
      cases rl with
      | cons r1 r2 =>
        cases r2
        cases r1 with
        | lst p q =>
          have e3 := RepL.of_bls q
          subst e3
          exact cr_all hc pins s σ _ _ us Q I r ⟨_, ns, rfl, p, h _ v0 .refl sr rfl (.bl _)⟩
  · exact nomatch e
theorem b_any {ct : String → Addr} (hc : X.calm = true) : CallR X (.builtin "any") (rDA X.K ct gAny) := by
  intro pins s σ H xs us Q I r h
  obtain ⟨v0, ds, d, rfl, sr, e, rl, h⟩ := h
  unfold gAny at e
  split at e
  · rename_i ys
    cases q1 : blsOf ys with
    | none => rw [q1] at e; exact nomatch e
    | some ns =>
      rw [q1] at e
      simp only [Option.map_some, Option.some.injEq] at e
      subst e
      have e2 := blsOf_eq q1
      subst e2
      cases rl with
      | cons r1 r2 =>
        cases r2
        cases r1 with
        | lst p q =>
          have e3 := RepL.of_bls q
          subst e3
          exact cr_any hc pins s σ _ _ us Q I r ⟨_, ns, rfl, p, h _ v0 .refl sr rfl (.bl _)⟩
  · exact nomatch e
end
/-! ### [e, ..] * n -/
def repD (xs : List D) (n : Nat) : List D := (List.replicate n xs).flatten
theorem RepL.rep {K : PySem.W.Frag} {ct : String → Addr} {G : Hp} {m : Nat → Option Addr} {ds : List D} {vs : List V} (r : RepL K ct G m ds vs) : ∀ n : Nat, RepL K ct G m (repD ds n) (List.replicate n vs).flatten
  | 0 => .nil
  | n + 1 => by
    unfold repD
    rw [List.replicate_succ, List.replicate_succ, List.flatten_cons, List.flatten_cons]
    exact r.append (RepL.rep r n)
/-- [e, ..] * n: the list, frozen (b = false) or a thing of the store -/
def eRep (keep : Bool) (r : As) (b : E) : E := fun δ s => (r δ s).bind fun xs s1 => if xs.length ≤ sizeLine then ((b δ s1).bind fun y s2 => match y with
  | .int k => if -(2 ^ 63) ≤ k ∧ k < 2 ^ 63 ∧ xs.length * k.toNat ≤ sizeLine then (if keep = true then .ok (.ob s2.length) (s2 ++ [.lst (repD xs k.toNat)]) else .ok (.lst (repD xs k.toNat)) s2) else .stk
  | _ => .stk) else .stk
theorem se_rep {X : Cx} {C : Cc} {pos p2 : Pos} {es : List Expr} {b : Expr} {r : As} {fb : E} (keep : Bool) (h : SA X C es r) (hb : SE X C b fb) : SE X C (.BinOp (.List es p2) .Mult b pos) (eRep keep r fb) :=
  pe_weak (pe_op op_rep (pe_lst h) hb) fun σ H Q ⟨δ, v, re, eH, h⟩ => ⟨δ, v, re, eH, on_mono (on_bind h) fun ds vs v1 l1 s1 r1 h1 => by
    have hl := r1.length
    split at h1
    · rename_i z
      refine ⟨by omega, fun p hp => ?_⟩
      obtain ⟨l2, s2⟩ := more_ok s1 (same_new hp (.lst vs))
      refine ⟨δ, _, (re.step l1 s1).step l2 s2, rfl, on_mono (on_bind (on_step l2 h1)) fun y x v3 l3 s3 r3 h3 => ?_⟩
      cases r3 <;> first
        | exact h3.elim
        | skip
      rename_i k
      simp only at h3
      split at h3
      · rename_i hz
        have hH : v3.H p = some (.lst vs) := l3.h p _ upd_same fun q => by
          obtain ⟨i, o, a, e, l, em, q⟩ := q
          obtain ⟨_, w, hw, _⟩ := s1.obj_ne e l em
          rcases q with rfl | ⟨C, fs, q⟩
          · rw [hp] at hw
            cases hw
          · have q' : upd v1.H p (.lst vs) a = some (.ins C p fs) := q
            rw [upd_ne (ne_of_none hw hp)] at q'
            obtain ⟨d1, _⟩ := s1.dx e l em q'
            rw [hp] at d1
            cases d1
        refine ⟨p, k, vs, rfl, rfl, hH, hz.1, hz.2.1, by rw [← hl]; exact hz.2.2, fun q hq => ?_⟩
        have r4 := (l2.trans l3).repl r1
        split at h3
        · obtain ⟨l5, s5⟩ := newL_ok (ds := repD ds k.toNat) s3 hq (r4.rep k.toNat)
          exact h3 (.ref q) _ l5 s5 rfl (.ob mset_same)
        · obtain ⟨l5, s5⟩ := new_ok (o := .lst (List.replicate k.toNat vs).flatten) s3 hq
          exact h3 (.ref q) _ l5 s5 rfl (.lst (SqL.of upd_same) (l5.repl (r4.rep k.toNat)))
      · exact h3.elim
    · exact h1.elim⟩
end Gs

/-! G4: items, slices, isinstance, methods of texts. -/
namespace Gs
open PySem L2

/-! ### items -/
theorem RepL.atI {K : PySem.W.Frag} {ct : String → Addr} {G : Hp} {m : Nat → Option Addr} {ds : List D} {vs : List V} {i : Int} {d : D} (r : RepL K ct G m ds vs) (e : L2.atI ds i = some d) : ∃ v, L2.atI vs i = some v ∧ Rep K ct G m d v := by
  unfold L2.atI at e ⊢
  rw [r.length] at e
  cases q : ixN vs.length i with
  | none => rw [q] at e; exact nomatch e
  | some j => rw [q] at e; exact r.get e
def gIx : B2
  | .lst xs, .int i => atI xs i
  | .tup xs, .int i => atI xs i
  | .str z, .int i => if z.length ≤ sizeLine then (atI z.cps.toList i).map fun c => .str ⟨#[c]⟩ else none
  | _, _ => none
section
variable {X : Cx} {C : Cc} {pos p2 : Pos} {a b : Expr} {fa fb : E}
theorem x_ix {ct : String → Addr} : IxR X (rD X.K ct gIx) := by
  intro value slice pins s σ H x y v u Q I rx ry h hs
  obtain ⟨v0, dx, dy, d, rfl, sr, e, r1, r2, h⟩ := h
  cases r1 with
  | lst p q =>
    cases r2 <;> simp only [gIx, reduceCtorEq] at e
    obtain ⟨v', e1, r3⟩ := q.atI e
    exact ix_list value slice pins s σ _ _ _ v u Q I rx ry ⟨_, _, _, _, rfl, rfl, p, e1, h _ v0 .refl sr rfl r3⟩ hs
  | tup p q =>
    cases r2 <;> simp only [gIx, reduceCtorEq] at e
    obtain ⟨v', e1, r3⟩ := q.atI e
    exact ix_tup value slice pins s σ _ _ _ v u Q I rx ry ⟨_, _, _, _, rfl, rfl, sqt_mono sr.sub p, e1, h _ v0 .refl sr rfl r3⟩ hs
  | str z =>
    cases r2 <;> simp only [gIx, reduceCtorEq] at e
    split at e
    · rename_i hz
      cases q : atI z.cps.toList _ with
      | none => rw [q] at e; exact nomatch e
      | some c =>
        rw [q] at e
        simp only [Option.map_some, Option.some.injEq] at e
        subst e
        exact ix_str value slice pins s σ _ _ _ v u Q I rx ry ⟨_, _, c, rfl, rfl, hz, q, h _ v0 .refl sr rfl (.str _)⟩ hs
    · exact nomatch e
  | non => cases r2 <;> simp only [gIx, reduceCtorEq] at e
  | bl b => cases r2 <;> simp only [gIx, reduceCtorEq] at e
  | int b => cases r2 <;> simp only [gIx, reduceCtorEq] at e
  | fn a => cases r2 <;> simp only [gIx, reduceCtorEq] at e
  | ob a => cases r2 <;> simp only [gIx, reduceCtorEq] at e
  | ev a => cases r2 <;> simp only [gIx, reduceCtorEq] at e
  | dct p l q => cases r2 <;> simp only [gIx, reduceCtorEq] at e
theorem se_ix (ha : SE X C a fa) (hb : SE X C b fb) (hs : PlainIx b := by intro _ _; rfl) : SE X C (.Subscript a b pos) (eBin gIx fa fb) := pe_weak (pe_ix x_ix ha hb hs) fun σ H Q h => lift_bin h

/-! ### slices -/
abbrev Os := Sl → Sto → R (Option Int)
def liftO (K : PySem.W.Frag) (C : Cc) (f : Os) : TO := fun σ H Q => ∃ δ v, RE K C σ δ v ∧ v.H = H ∧ on K C σ v rB (f δ v.st) fun _ b v' => Q b v'.H
abbrev SO (X : Cx) (C : Cc) (e : Option Expr) (f : Os) : Prop := PO X e (liftO X.K C f)
theorem po_weak {X : Cx} {e : Option Expr} {t t' : TO} (h : PO X e t) (w : ∀ σ H Q, t' σ H Q → t σ H Q) : PO X e t' := ⟨fun pins s σ H Q I z => h.run pins s σ H Q I (w σ H Q z)⟩
def oNone : Os := fun _ s => .ok none s
def oSome (f : E) : Os := fun δ s => (f δ s).bind fun d s1 => match d with
  | .int i => .ok (some i) s1
  | _ => .stk
theorem so_none : SO X C none oNone := po_weak po_none fun σ H Q ⟨δ, v, re, eH, h⟩ => by subst eH; exact on_self re.sr h rfl
theorem so_some (ha : SE X C a fa) : SO X C (some a) (oSome fa) := po_weak (po_some ha) fun σ H Q ⟨δ, v, re, eH, h⟩ =>
  ⟨δ, v, re, eH, on_mono (on_bind h) fun d x v1 l1 s1 r1 h1 => by
    cases r1 <;> first
      | exact h1.elim
      | exact ⟨_, rfl, on_self s1 h1 rfl⟩⟩
def cutD (xs : List D) (lo hi : Option Int) : List D := (xs.drop (HT.sIx xs.length 0 lo)).take (HT.sIx xs.length xs.length hi - HT.sIx xs.length 0 lo)
theorem RepL.cut {K : PySem.W.Frag} {ct : String → Addr} {G : Hp} {m : Nat → Option Addr} {ds : List D} {vs : List V} (r : RepL K ct G m ds vs) (lo hi : Option Int) : RepL K ct G m (cutD ds lo hi) (cutV vs lo hi) := by
  unfold cutD cutV
  rw [r.length]
  exact (r.drop _).take _
def gSl : D → Option Int → Option Int → Option D
  | .lst xs, lo, hi => some (.lst (cutD xs lo hi))
  | .tup xs, lo, hi => some (.tup (cutD xs lo hi))
  | .str z, lo, hi => if z.length ≤ sizeLine then some (.str (cutS z lo hi)) else none
  | _, _, _ => none
def rDS (K : PySem.W.Frag) (ct : String → Addr) (g : D → Option Int → Option Int → Option D) : V → Option Int → Option Int → Hp → VK → Prop := fun x lo hi H Q => ∃ v dx d, v.H = H ∧ SR K ct v ∧ g dx lo hi = some d ∧ RepT K ct v dx x ∧ ∀ z v', Le v v' → SR K ct v' → v'.st = v.st → Rep K ct v'.G v'.m d z → Q z v'.H
theorem s_sl {ct : String → Addr} : SlR X (rDS X.K ct gSl) := by
  intro pins s σ H x v vl vu lo hi sl Q I rx hs pl pu h
  obtain ⟨v0, dx, d, rfl, sr, e, r1, h⟩ := h
  cases r1 with
  | lst p q =>
    simp only [gSl, Option.some.injEq] at e
    subst e
    exact sl_list pins s σ _ _ v vl vu lo hi sl Q I rx hs pl pu ⟨_, _, rfl, p, fun c hc => let ⟨l, s2⟩ := new_ok (o := .lst _) sr hc; h _ _ l s2 rfl (.lst (SqL.of upd_same) ((q.cut lo hi).mono l.g l.m))⟩
  | @tup c0 vs0 ds0 p q =>
    simp only [gSl, Option.some.injEq] at e
    subst e
    refine sl_tupA pins s σ _ _ v vl vu lo hi sl Q I rx hs pl pu ⟨_, _, rfl, sqt_mono sr.sub p, fun z => ?_, fun _ c hc => let ⟨l, s2⟩ := new_ok (o := .tup _) sr hc; h _ _ l s2 rfl (.tup (SqT.of upd_same) (l.repl (q.cut lo hi)))⟩
    refine h _ v0 .refl sr rfl (.tup p ?_)
    have e2 := q.cut lo hi
    have e3 : cutV vs0 lo hi = vs0 := by
      unfold cutV
      rw [z.1, z.2, Nat.sub_zero, List.drop_zero, List.take_length]
    rw [e3] at e2
    exact e2
  | str z =>
    simp only [gSl] at e
    split at e
    · rename_i hz
      simp only [Option.some.injEq] at e
      subst e
      exact sl_str pins s σ _ _ v vl vu lo hi sl Q I rx hs pl pu ⟨_, rfl, hz, h _ v0 .refl sr rfl (.str _)⟩
    · exact nomatch e
  | non => simp only [gSl, reduceCtorEq] at e
  | bl b => simp only [gSl, reduceCtorEq] at e
  | int b => simp only [gSl, reduceCtorEq] at e
  | fn a => simp only [gSl, reduceCtorEq] at e
  | ob a => simp only [gSl, reduceCtorEq] at e
  | ev a => simp only [gSl, reduceCtorEq] at e
  | dct p l q => simp only [gSl, reduceCtorEq] at e
def eSl (a : E) (lo hi : Os) : E := fun δ s => (a δ s).bind fun x s1 => (lo δ s1).bind fun l s2 => (hi δ s2).bind fun h s3 => R.ofO (gSl (rsv s3 x) l h) s3
theorem se_sl {lo hi : Option Expr} {fl fh : Os} (ha : SE X C a fa) (hl : SO X C lo fl) (hh : SO X C hi fh) : SE X C (.Subscript a (.Slice lo hi none p2) pos) (eSl fa fl fh) :=
  pe_weak (pe_slice s_sl ha hl hh) fun σ H Q ⟨δ, v, re, eH, h⟩ => by
    refine ⟨δ, v, re, eH, on_mono (on_bind h) fun d x v1 l1 s1 r1 h1 => ?_⟩
    refine ⟨δ, v1, re.step l1 s1, rfl, on_mono (on_bind h1) fun l y v2 l2 s2 e2 h2 => ?_⟩
    cases e2
    refine ⟨δ, v2, (re.step l1 s1).step l2 s2, rfl, on_mono (on_bind h2) fun u y v3 l3 s3 e3 h3 => ?_⟩
    cases e3
    obtain ⟨z, e, h3⟩ := on_ofO h3
    exact ⟨v3, _, z, rfl, s3, e, ((l2.trans l3).rep r1).top s3, h3⟩
/-- xs[::-1] -/
def gRev : B1
  | .lst xs => some (.lst xs.reverse)
  | _ => none
theorem se_rev {k : Nat} {p1 p3 p4 : Pos} (ha : SE X C a fa) : SE X C (.Subscript a (.Slice none none (some (.UnaryOp .USub (.Constant (.int 1) k p1) p3)) p4) pos) (eUn gRev fa) :=
  pe_weak (pe_revL ha) fun σ H Q h => by
    obtain ⟨δ, v, re, eH, h1⟩ := lift_un h
    refine ⟨δ, v, re, eH, on_mono h1 fun d x v1 l1 s1 r1 h2 => ?_⟩
    obtain ⟨v2, dx, d2, eH2, sr, e, r2, h2⟩ := h2
    cases r2 <;> simp only [gRev, Option.some.injEq, reduceCtorEq] at e
    rename_i c vs ds p q
    subst e
    rw [← eH2]
    exact ⟨_, _, rfl, p, fun l hl => let ⟨l9, s9⟩ := new_ok (o := .lst _) sr hl; h2 _ _ l9 s9 rfl (.lst (SqL.of upd_same) (l9.repl q.reverse))⟩

/-! ### isinstance -/
def tyN : D → Option String
  | .non => some "NoneType"
  | .bl _ => some "bool"
  | .int _ => some "int"
  | .str _ => some "str"
  | .tup _ => some "tuple"
  | .lst _ => some "list"
  | .fn _ => none
  | .ob _ => none
  | .ev _ _ _ => none
  | .dct _ _ => some "dict"
theorem RepT.tyx {K : PySem.W.Frag} {ct : String → Addr} {w : Vw} (sr : SR K ct w) {d : D} {v : V} {n : String} (r : RepT K ct w d v) (e : tyN d = some n) : TyX K w.H v (.type n) := by
  cases r <;> simp only [tyN, Option.some.injEq, reduceCtorEq] at e <;> subst e
  · exact .base .non
  · exact .base (.bl _)
  · exact .base (.int _)
  · exact .base (.str _)
  · rename_i a vs ds h r
    rcases sqt_mono sr.sub h with (h | ⟨o, h⟩) | ⟨o, its, m, h, c, _⟩
    · exact .base (.tup h)
    · exact .fTuple h
    · exact .kTuple h c
  · rename_i a vs ds h r
    rcases h with (h | ⟨o, h⟩) | ⟨o, its, m, h, c, _⟩
    · exact .base (.lst h)
    · exact .base (.frz h)
    · exact .kList h c
  · rename_i a vs ks ds h l r
    exact .base (.dK h)
theorem RepT.more {K : PySem.W.Frag} {ct : String → Addr} {w w' : Vw} {d : D} {v : V} (l : Le w w') (e : w'.G = w.G) (hh : Same w.H w'.H) (r : RepT K ct w d v) : RepT K ct w' d v := by
  cases r with
  | non => exact .non
  | bl b => exact .bl b
  | int b => exact .int b
  | str b => exact .str b
  | fn s => exact .fn s
  | ob h => exact .ob (l.m _ _ h)
  | tup h r => exact .tup (sqt_mono l.g h) (l.repl r)
  | lst h r => exact .lst (hh.seq h) (l.repl r)
  | dct h k r => exact .dct (hh _ _ h) k (l.repl r)
  | ev h => exact .ev (l.rep h)
/-- the built-in class n of a datum's class -/
def isTy : String → String → Bool
  | "bool", "int" => true
  | a, b => a == b
def gIsi (n : String) : B1 := fun d => (tyN d).map fun t => .bl (isTy t n)
def okTy (n : String) : Bool := ["NoneType", "bool", "int", "str", "tuple", "list", "dict"].all fun t => decide (kitB t n = some (isTy t n))
theorem tyN_mem {d : D} {t : String} (h : tyN d = some t) : t ∈ ["NoneType", "bool", "int", "str", "tuple", "list", "dict"] := by
  cases d <;> simp only [tyN, Option.some.injEq, reduceCtorEq] at h <;> subst h <;> simp
theorem se_isi {pf pn : Pos} {n : String} {nx : Str} (ha : SE X C a fa) (hg : Gl X "isinstance") (hm : X.mg "isinstance" = none) (hgn : Gl X nx) (hmn : X.mg nx = none) (hv : bootBuiltins nx = some (.type n)) (hk : okTy n = true := by decide +kernel)
    (hn : nx ≠ "__name__" := by decide) (hd : (nx == ("__debug__" : Str)) = false := by decide) (hvi : bootBuiltins "isinstance" = some (.builtin "isinstance") := by decide +kernel)
    (hs : starEach [a, .Name nx pn] X.env = (false, eval a X.env) :: starEach [.Name nx pn] X.env := by rfl) (hpl : (backTo pos (starEach [.Name nx pn] X.env)).any (·.1) = false := by rfl)
    (hs2 : starEach [.Name nx pn] X.env = (false, eval (.Name nx pn) X.env) :: starEach [] X.env := by rfl) :
    SE X C (.Call (.Name "isinstance" pf) [a, .Name nx pn] [] pos) (eUn (gIsi n) fa) :=
  pe_weak (pe_callB call_isi hg hm hvi (pa_cons ha (pa_cons (pe_bltn (v := .ty n) hgn hmn hv rfl hn hd) pa_nil hs2) hs) (by decide) (by decide) hs hpl) fun σ H Q h => by
    obtain ⟨δ, v8, re, eH, h1⟩ := lift_un h
    refine ⟨δ, v8, re, eH, on_mono h1 fun d v v1 l1 s1 r1 h2 => ?_⟩
    obtain ⟨v2, dx, d2, eH2, sr, e, r2, h2⟩ := h2
    rw [← eH2]
    unfold gIsi at e
    cases q : tyN dx with
    | none => rw [q] at e; exact nomatch e
    | some t =>
      rw [q] at e
      simp only [Option.map_some, Option.some.injEq] at e
      subst e
      have z : kitB t n = some (isTy t n) := of_decide_eq_true (List.all_eq_true.mp hk t (tyN_mem q))
      exact ⟨v, .ty n, .type t, .type n, isTy t n, rfl, .ty n, r2.tyx sr q, kit_ty z, h2 _ v2 .refl sr rfl (.bl _)⟩
/-- isinstance(x, (T, U)) -/
def gIsi2 (n m : String) : B1 := fun d => (tyN d).map fun t => .bl (isTy t n || isTy t m)
theorem se_isi2 {pf pn pm pt : Pos} {kt : Nat} {n m : String} {nx mx : Str} (ha : SE X C a fa) (hg : Gl X "isinstance") (hm : X.mg "isinstance" = none) (hgn : Gl X nx) (hmn : X.mg nx = none) (hv : bootBuiltins nx = some (.type n)) (hgm : Gl X mx) (hmm : X.mg mx = none) (hvm : bootBuiltins mx = some (.type m)) (hk : okTy n = true := by decide +kernel) (hk2 : okTy m = true := by decide +kernel)
    (hn : nx ≠ "__name__" := by decide) (hd : (nx == ("__debug__" : Str)) = false := by decide) (hn2 : mx ≠ "__name__" := by decide) (hd2 : (mx == ("__debug__" : Str)) = false := by decide) (hvi : bootBuiltins "isinstance" = some (.builtin "isinstance") := by decide +kernel)
    (hs : starEach [a, .Tuple [.Name nx pn, .Name mx pm] kt pt] X.env = (false, eval a X.env) :: starEach [.Tuple [.Name nx pn, .Name mx pm] kt pt] X.env := by rfl) (hpl : (backTo pos (starEach [.Tuple [.Name nx pn, .Name mx pm] kt pt] X.env)).any (·.1) = false := by rfl)
    (hs2 : starEach [.Tuple [.Name nx pn, .Name mx pm] kt pt] X.env = (false, eval (.Tuple [.Name nx pn, .Name mx pm] kt pt) X.env) :: starEach [] X.env := by rfl)
    (hs3 : starEach [.Name nx pn, .Name mx pm] X.env = (false, eval (.Name nx pn) X.env) :: starEach [.Name mx pm] X.env := by rfl) (hs4 : starEach [.Name mx pm] X.env = (false, eval (.Name mx pm) X.env) :: starEach [] X.env := by rfl) :
    SE X C (.Call (.Name "isinstance" pf) [a, .Tuple [.Name nx pn, .Name mx pm] kt pt] [] pos) (eUn (gIsi2 n m) fa) :=
  pe_weak (pe_callB call_isiT hg hm hvi (pa_cons ha (pa_cons (pe_tup (pa_cons (pe_bltn (v := .ty n) hgn hmn hv rfl hn hd) (pa_cons (pe_bltn (v := .ty m) hgm hmm hvm rfl hn2 hd2) pa_nil hs4) hs3)) pa_nil hs2) hs) (by decide) (by decide) hs hpl) fun σ H Q h => by
    obtain ⟨δ, v8, re, eH, h1⟩ := lift_un h
    refine ⟨δ, v8, re, eH, on_mono h1 fun d v v1 l1 s1 r1 h2 => ?_⟩
    obtain ⟨v2, dx, d2, eH2, sr, e, r2, h2⟩ := h2
    rw [← eH2]
    unfold gIsi2 at e
    cases q : tyN dx with
    | none => rw [q] at e; exact nomatch e
    | some t =>
      rw [q] at e
      simp only [Option.map_some, Option.some.injEq] at e
      subst e
      have z : kitB t n = some (isTy t n) := of_decide_eq_true (List.all_eq_true.mp hk t (tyN_mem q))
      have z2 : kitB t m = some (isTy t m) := of_decide_eq_true (List.all_eq_true.mp hk2 t (tyN_mem q))
      refine ⟨by show 2 ≤ sizeLine; decide, fun c hc => ?_⟩
      obtain ⟨l9, s9⟩ := more_ok sr (same_new hc (.tup [V.ty n, V.ty m]))
      have ty : TyX X.K (upd v2.H c (.tup [V.ty n, V.ty m])) v (.type t) := (r2.more l9 rfl (same_new hc _)).tyx s9 q
      refine ⟨v, c, [.ty n, .ty m], .type t, [.type n, .type m], isTy t n || isTy t m, rfl, upd_same, .cons (.ty n) (.cons (.ty m) .nil), ty, ?_, h2 _ _ l9 s9 rfl (.bl _)⟩
      refine kitAny_cons (kit_ty z) (fun b1 => ?_) (fun b1 => ?_)
      · rw [b1, Bool.false_or]
        exact kitAny_cons (kit_ty z2) (fun b2 => by rw [b2]; exact kitAny_nil) (fun b2 => b2)
      · rw [b1, Bool.true_or]

/-! ### methods of texts -/
def rDM (K : PySem.W.Frag) (ct : String → Addr) (g : D → List D → Option D) : V → List V → Hp → VK → Prop := fun x xs H Q => ∃ v dx ds d, v.H = H ∧ SR K ct v ∧ g dx ds = some d ∧ RepT K ct v dx x ∧ RepTL K ct v ds xs ∧ ∀ z v', Le v v' → SR K ct v' → v'.st = v.st → Rep K ct v'.G v'.m d z → Q z v'.H
def isStr : D → Bool
  | .str _ => true
  | _ => false
def eM1 (g : D → List D → Option D) (o a : E) : E := fun δ s => (o δ s).bind fun x s1 => if isStr x then (a δ s1).bind fun y s2 => R.ofO (g x [rsv s2 y]) s2 else .stk
theorem se_m1 {o : Expr} {fo : E} {g : D → List D → Option D} {id : String} {name : Str} {apos : Pos} (slot : PySem.Slot "str" name id) (ty : typeOf (.builtin id) = pure (.type "method_descriptor")) (rule : MtR X id (rDM X.K C.ct g)) (ho : SE X C o fo) (ha : SE X C a fa)
    (hs : starEach [a] X.env = [(false, eval a X.env)] := by rfl) (hbase : attributeBase o name X.env (eval o X.env) = eval o X.env := by rfl) (hline : (apos.endLine == pos.line) = true := by rfl) : SE X C (.Call (.Attribute o name apos) [a] [] pos) (eM1 g fo fa) :=
  pe_weak (pe_m1 slot ty rule ho ha hs hbase hline) fun σ H Q ⟨δ, v, re, eH, h⟩ => by
    refine ⟨δ, v, re, eH, on_mono (on_bind h) fun d x v1 l1 s1 r1 h1 => ?_⟩
    cases r1 <;> first
      | exact h1.elim
      | skip
    rename_i z
    refine ⟨⟨z, rfl⟩, δ, v1, re.step l1 s1, rfl, on_mono (on_bind (show on X.K C σ v1 (rE X.K C.ct) ((fa δ v1.st).bind fun y s2 => R.ofO (g (.str z) [rsv s2 y]) s2) _ from h1)) fun d2 x2 v2 l2 s2 r2 h2 => ?_⟩
    obtain ⟨w, e, h2⟩ := on_ofO h2
    exact ⟨v2, _, _, w, rfl, s2, e, .str z, .cons (r2.top s2) .nil, h2⟩
def gFind : D → List D → Option D
  | .str a, [.str b] => some (.int (Txt.find a b))
  | _, _ => none
def gStarts : D → List D → Option D
  | .str a, [.str b] => some (.bl (Txt.startswith a b))
  | _, _ => none
def gPart : D → List D → Option D
  | .str a, [.str b] => if (b.length == 0) = false ∧ a.length ≤ sizeLine then some (.tup [.str (Txt.partition a b).1, .str (Txt.partition a b).2.1, .str (Txt.partition a b).2.2]) else none
  | _, _ => none
def gSplit : D → List D → Option D
  | .str a, [.str b] => if (b.length == 0) = false ∧ a.length + 2 ≤ sizeLine then some (.lst ((Txt.split a b).map .str)) else none
  | _, _ => none
def gJoin : D → List D → Option D
  | .str a, [.lst xs] => (strsOf xs).bind fun ys => if (ys.map (·.length)).sum + ys.length * a.length ≤ 16777216 then some (.str (Txt.join a ys)) else none
  | _, _ => none
theorem m_find {ct : String → Addr} : MtR X "str.find" (rDM X.K ct gFind) := by
  intro pins s σ H x xs v us Q I rx ru h
  obtain ⟨v0, dx, ds, d, rfl, sr, e, r1, r2, h⟩ := h
  unfold gFind at e
  split at e
  · cases r1
    cases r2 with
    | cons r2 r3 =>
      cases r2; cases r3
      simp only [Option.some.injEq] at e
      subst e
      exact mt_find pins s σ _ _ _ v us Q I rx ru ⟨_, _, rfl, rfl, h _ v0 .refl sr rfl (.int _)⟩
  · exact nomatch e
theorem m_starts {ct : String → Addr} : MtR X "str.startswith" (rDM X.K ct gStarts) := by
  intro pins s σ H x xs v us Q I rx ru h
  obtain ⟨v0, dx, ds, d, rfl, sr, e, r1, r2, h⟩ := h
  unfold gStarts at e
  split at e
  · cases r1
    cases r2 with
    | cons r2 r3 =>
      cases r2; cases r3
      simp only [Option.some.injEq] at e
      subst e
      exact mt_startswith pins s σ _ _ _ v us Q I rx ru ⟨_, _, rfl, rfl, h _ v0 .refl sr rfl (.bl _)⟩
  · exact nomatch e
theorem m_part {ct : String → Addr} : MtR X "str.partition" (rDM X.K ct gPart) := by
  intro pins s σ H x xs v us Q I rx ru h
  obtain ⟨v0, dx, ds, d, rfl, sr, e, r1, r2, h⟩ := h
  unfold gPart at e
  split at e
  · cases r1
    cases r2 with
    | cons r2 r3 =>
      cases r2; cases r3
      split at e
      · rename_i hz
        simp only [Option.some.injEq] at e
        subst e
        exact mt_partition pins s σ _ _ _ v us Q I rx ru ⟨_, _, rfl, rfl, hz.1, hz.2, fun c hc => let ⟨l, s2⟩ := new_ok (o := .tup _) sr hc; h _ _ l s2 rfl (.tup (SqT.of upd_same) (.cons (.str _) (.cons (.str _) (.cons (.str _) .nil))))⟩
      · exact nomatch e
  · exact nomatch e
theorem RepL.strs {K : PySem.W.Frag} {ct : String → Addr} {G : Hp} {m : Nat → Option Addr} : ∀ ns : List Str, RepL K ct G m (ns.map D.str) (ns.map V.str)
  | [] => .nil
  | n :: r => .cons (.str n) (RepL.strs r)
theorem m_split {ct : String → Addr} : MtR X "str.split" (rDM X.K ct gSplit) := by
  intro pins s σ H x xs v us Q I rx ru h
  obtain ⟨v0, dx, ds, d, rfl, sr, e, r1, r2, h⟩ := h
  unfold gSplit at e
  split at e
  · cases r1
    cases r2 with
    | cons r2 r3 =>
      cases r2; cases r3
      split at e
      · rename_i hz
        simp only [Option.some.injEq] at e
        subst e
        exact mt_split pins s σ _ _ _ v us Q I rx ru ⟨_, _, rfl, rfl, hz.1, hz.2, fun c hc => let ⟨l, s2⟩ := new_ok (o := .lst _) sr hc; h _ _ l s2 rfl (.lst (SqL.of upd_same) (RepL.strs _))⟩
      · exact nomatch e
  · exact nomatch e
theorem m_join {ct : String → Addr} : MtR X "str.join" (rDM X.K ct gJoin) := by
  intro pins s σ H x xs v us Q I rx ru h
  obtain ⟨v0, dx, ds, d, rfl, sr, e, r1, r2, h⟩ := h
  unfold gJoin at e
  split at e
  · rename_i a ys
    cases q1 : strsOf ys with
    | none => rw [q1] at e; exact nomatch e
    | some ns =>
      rw [q1] at e
      simp only [Option.bind_some] at e
      have e2 := strsOf_eq q1
      subst e2
      split at e
      · rename_i hz
        simp only [Option.some.injEq] at e
        subst e
        cases r1
        cases r2 with
        | cons r2 r3 =>
          cases r3
          cases r2 with
          | lst p q =>
            have e3 := RepL.of_strs q
            subst e3
            exact mt_join pins s σ _ _ _ v us Q I rx ru ⟨_, _, ns, rfl, rfl, .inl (p), hz, h _ v0 .refl sr rfl (.str _)⟩
      · exact nomatch e
  · exact nomatch e
end
end Gs

/-! G5: statements, targets, loops. -/
namespace Gs
open PySem L2

inductive RS where
  | nx (δ : Sl) (s : Sto) | rt (d : D) (s : Sto) | bk (δ : Sl) (s : Sto) | ct (δ : Sl) (s : Sto) | exc (e : Ex) (δ : Sl) (s : Sto) | stk
abbrev S := Sl → Sto → RS
def onS (K : PySem.W.Frag) (C : Cc) (v : Vw) (r : RS) (Dn : Ends) : Prop := match r with
  | .nx δ s => ∀ σ' v', RE K C σ' δ v' → Le v v' → v'.st = s → Dn.nx σ' v'.H
  | .bk δ s => ∀ σ' v', RE K C σ' δ v' → Le v v' → v'.st = s → Dn.bk σ' v'.H
  | .ct δ s => ∀ σ' v', RE K C σ' δ v' → Le v v' → v'.st = s → Dn.ct σ' v'.H
  | .rt d s => ∀ x v', Le C.v0 v' → SR K C.ct v' → v'.st = s → Rep K C.ct v'.G v'.m d x → Dn.rt x v'.H
  | .exc e δ s => ∀ cls dd σ' v', RE K C σ' δ v' → Le v v' → v'.st = s → RepX K C.ct v' e cls dd → C.W cls dd σ' v'.H
  | .stk => False
def liftS (K : PySem.W.Frag) (C : Cc) (f : S) : TS := fun Dn σ H => ∃ δ v, RE K C σ δ v ∧ v.H = H ∧ onS K C v (f δ v.st) Dn
abbrev SS (X : Cx) (C : Cc) (st : Stmt) (f : S) : Prop := PS X st (liftS X.K C f)
abbrev SSs (X : Cx) (C : Cc) (st : List Stmt) (f : S) : Prop := PSs X st (liftS X.K C f)
theorem ps_weak {X : Cx} {e : Stmt} {t t' : TS} (h : PS X e t) (w : ∀ Dn σ H, t' Dn σ H → t Dn σ H) : PS X e t' := ⟨fun pins s σ H Dn I z => h.run pins s σ H Dn I (w Dn σ H z)⟩
theorem pss_weak {X : Cx} {e : List Stmt} {t t' : TS} (h : PSs X e t) (w : ∀ Dn σ H, t' Dn σ H → t Dn σ H) : PSs X e t' := ⟨fun pins s σ H Dn I z => h.run pins s σ H Dn I (w Dn σ H z)⟩
section
variable {α β : Type} {K : PySem.W.Frag} {C : Cc} {σ : L2.St} {v v' : Vw} {Dn : Ends} {rel : α → β → Vw → Prop}
theorem onS_same {r : RS} (l : Le v v') (h : onS K C v r Dn) : onS K C v' r Dn := by
  cases r with
  | nx δ s => exact fun σ' w re z => h σ' w re (l.trans z)
  | bk δ s => exact fun σ' w re z => h σ' w re (l.trans z)
  | ct δ s => exact fun σ' w re z => h σ' w re (l.trans z)
  | rt d s => exact h
  | exc e δ s => exact fun cls dd σ' w re z => h cls dd σ' w re (l.trans z)
  | stk => exact h
/-- an expression ahead of a statement's rest -/
def sBind {α : Type} (r : R α) (δ : Sl) (k : α → Sto → RS) : RS := match r with
  | .ok a s => k a s
  | .exc e s => .exc e δ s
  | .stk => .stk
theorem onX_of {δ : Sl} {e : Ex} {s : Sto} (re : RE K C σ δ v) (h : onS K C v (.exc e δ s) Dn) : onX K C σ v e s := fun cls dd v' l sr es r => h cls dd σ v' (re.step l sr) l es r
theorem onS_R {δ : Sl} {r : R α} {k : α → Sto → RS} (re : RE K C σ δ v) (h : onS K C v (sBind r δ k) Dn) : on K C σ v rel r fun a _ v1 => onS K C v1 (k a v1.st) Dn := by
  cases r with
  | ok a s =>
    intro b v1 l sr e _
    subst e
    exact onS_same l h
  | exc e s => exact onX_of re h
  | stk => exact h
end

/-! ### blocks -/
def sNx : S := fun δ s => .nx δ s
def sSeq (f g : S) : S := fun δ s => match f δ s with
  | .nx δ' s' => g δ' s'
  | r => r
section
variable {X : Cx} {C : Cc} {pos : Pos} {st : Stmt} {rest : List Stmt} {f g : S}
theorem ss_nil : SSs X C [] sNx := pss_weak pss_nil fun Dn σ H ⟨δ, v, re, eH, h⟩ => by subst eH; exact h σ v re .refl rfl
theorem ss_one (h1 : SS X C st f) : SSs X C [st] f := pss_one h1
theorem ss_cons (h1 : SS X C st f) (h2 : SSs X C rest g) : SSs X C (st :: rest) (sSeq f g) := pss_weak (pss_cons h1 h2) fun Dn σ H ⟨δ, v, re, eH, h⟩ => by
  refine ⟨δ, v, re, eH, ?_⟩
  unfold sSeq at h
  cases e : f δ v.st with
  | nx δ' s' => rw [e] at h; exact fun σ' v' re' l es => ⟨δ', v', re', rfl, by subst es; exact onS_same l h⟩
  | rt d s' => rw [e] at h; exact h
  | bk δ' s' => rw [e] at h; exact h
  | ct δ' s' => rw [e] at h; exact h
  | exc e2 δ' s' => rw [e] at h; exact h
  | stk => rw [e] at h; exact h
theorem ss_pass : SS X C (.Pass pos) sNx := ps_weak ps_pass fun Dn σ H ⟨δ, v, re, eH, h⟩ => by subst eH; exact h σ v re .refl rfl
def sBk : S := fun δ s => .bk δ s
def sCt : S := fun δ s => .ct δ s
theorem ss_break : SS X C (.Break pos) sBk := ps_weak ps_break fun Dn σ H ⟨δ, v, re, eH, h⟩ => by subst eH; exact h σ v re .refl rfl
theorem ss_cont : SS X C (.Continue pos) sCt := ps_weak ps_continue fun Dn σ H ⟨δ, v, re, eH, h⟩ => by subst eH; exact h σ v re .refl rfl
def sRet (f : E) : S := fun δ s => sBind (f δ s) δ fun d s1 => .rt d s1
theorem ss_ret {e : Expr} {f : E} (he : SE X C e f) : SS X C (.Return (some e) pos) (sRet f) := ps_weak (ps_ret he) fun Dn σ H ⟨δ, v, re, eH, h⟩ =>
  ⟨δ, v, re, eH, on_mono (onS_R re h) fun d x v1 l1 s1 r1 h1 => h1 x v1 (re.le.trans l1) s1 rfl r1⟩
def sRetN : S := fun _ s => .rt .non s
theorem ss_retN : SS X C (.Return none pos) sRetN := ps_weak ps_retN fun Dn σ H ⟨δ, v, re, eH, h⟩ => by subst eH; exact h .non v re.le re.sr rfl .non
def sIf (t : T) (a b : S) : S := fun δ s => sBind (t δ s) δ fun k s1 => if k = true then a δ s1 else b δ s1
theorem ss_if {c : Expr} {a b : List Stmt} {t : T} {fa fb : S} (hc : ST X C c t) (ha : SSs X C a fa) (hb : SSs X C b fb) : SS X C (.If c a b pos) (sIf t fa fb) := ps_weak (ps_if hc ha hb) fun Dn σ H ⟨δ, v, re, eH, h⟩ => by
  refine ⟨δ, v, re, eH, on_mono (onS_R re h) fun k k2 v1 l1 s1 e h1 => ?_⟩
  cases e
  cases k with
  | true => exact ⟨δ, v1, re.step l1 s1, rfl, h1⟩
  | false => exact ⟨δ, v1, re.step l1 s1, rfl, h1⟩
def sDrop (f : E) : S := fun δ s => sBind (f δ s) δ fun _ s1 => .nx δ s1
theorem ss_expr {e : Expr} {f : E} (he : SE X C e f) (hs : swapsWith e none pos.line X.env = pure false := by rfl) : SS X C (.Expr e pos) (sDrop f) := ps_weak (ps_expr he hs) fun Dn σ H ⟨δ, v, re, eH, h⟩ =>
  ⟨δ, v, re, eH, on_mono (onS_R re h) fun d x v1 l1 s1 r1 h1 => h1 σ v1 (re.step l1 s1) .refl rfl⟩
def sStk : S := fun _ _ => .stk
theorem ss_never : SS X C st sStk := ps_weak ps_never fun Dn σ H ⟨δ, v, re, eH, h⟩ => h
def sSet (i : Nat) (f : E) : S := fun δ s => sBind (f δ s) δ fun d s1 => .nx (δ.set i (some d)) s1
theorem ss_set (i : Nat) {x : Str} {e : Expr} {f : E} {pos' : Pos} (he : SE X C e f) (hN : X.N.Nodup) (hi : X.N[i]? = some x := by rfl) (hx : Loc X.env.scope x := by first | exact Or.inl rfl | exact Or.inr rfl) (hs : swapsWith e (some (.Name x pos')) pos.line X.env = pure false := by rfl)
    (hf : X.fn x = true ∨ X.env.scope.names.lookup x = some .local := by first | exact Or.inr rfl | exact Or.inl rfl) : SS X C (.Assign [.Name x pos'] e pos) (sSet i f) := ps_weak (ps_set hN hi hx he hs hf) fun Dn σ H ⟨δ, v, re, eH, h⟩ =>
  ⟨δ, v, re, eH, on_mono (onS_R re h) fun d x v1 l1 s1 r1 h1 => h1 (σ.set i (some x)) v1 ((re.step l1 s1).setV i r1) .refl rfl⟩
end

/-! ### targets -/
inductive Pt where
  | nm (i : Nat) | tp (ps : List Pt)
mutual
def bindP : Pt → D → Sl → Option Sl
  | .nm i, d, δ => some (δ.set i (some d))
  | .tp ps, .tup ds, δ => bindPs ps ds δ
  | .tp ps, .lst ds, δ => bindPs ps ds δ
  | _, _, _ => none
def bindPs : List Pt → List D → Sl → Option Sl
  | [], [], δ => some δ
  | p :: ps, d :: ds, δ => match bindP p d δ with
    | some δ' => bindPs ps ds δ'
    | none => none
  | _, _, _ => none
end
mutual
def idxP : Pt → List Nat
  | .nm i => [i]
  | .tp ps => idxPs ps
def idxPs : List Pt → List Nat
  | [] => []
  | p :: ps => idxP p ++ idxPs ps
end
/-- σ' differs from σ at these places alone -/
def Off (is : List Nat) (σ σ' : L2.St) : Prop := σ'.length = σ.length ∧ ∀ j, j ∉ is → σ'[j]? = σ[j]?
theorem Off.refl {is : List Nat} {σ : L2.St} : Off is σ σ := ⟨rfl, fun _ _ => rfl⟩
theorem Off.trans {is js : List Nat} {σ σ1 σ2 : L2.St} (a : Off is σ σ1) (b : Off js σ1 σ2) : Off (is ++ js) σ σ2 :=
  ⟨b.1.trans a.1, fun j hj => (b.2 j fun z => hj (List.mem_append_right _ z)).trans (a.2 j fun z => hj (List.mem_append_left _ z))⟩
def liftG (K : PySem.W.Frag) (C : Cc) (p : Pt) : TG := fun x σ H Q => ∃ d δ v δ', RE K C σ δ v ∧ v.H = H ∧ Rep K C.ct v.G v.m d x ∧ bindP p d δ = some δ' ∧ ∀ σ', RE K C σ' δ' v → Off (idxP p) σ σ' → Q σ' H
def liftGs (K : PySem.W.Frag) (C : Cc) (ps : List Pt) : TGs := fun vs σ H Q => ∃ ds δ v δ', RE K C σ δ v ∧ v.H = H ∧ RepL K C.ct v.G v.m ds vs ∧ bindPs ps ds δ = some δ' ∧ ∀ σ', RE K C σ' δ' v → Off (idxPs ps) σ σ' → Q σ' H
abbrev SG (X : Cx) (C : Cc) (e : Expr) (p : Pt) : Prop := PG X e (liftG X.K C p)
abbrev SGs (X : Cx) (C : Cc) (es : List Expr) (ps : List Pt) : Prop := PGs X es (liftGs X.K C ps)
theorem pg_weak {X : Cx} {e : Expr} {t t' : TG} (h : PG X e t) (w : ∀ v σ H Q, t' v σ H Q → t v σ H Q) : PG X e t' := ⟨fun pins s σ H v u Q I r z => h.run pins s σ H v u Q I r (w v σ H Q z)⟩
theorem pgs_weak {X : Cx} {e : List Expr} {t t' : TGs} (h : PGs X e t) (w : ∀ v σ H Q, t' v σ H Q → t v σ H Q) : PGs X e t' := ⟨fun pins s σ H v u Q I r z => h.run pins s σ H v u Q I r (w v σ H Q z)⟩
theorem bindPs_len : ∀ {ps : List Pt} {ds : List D} {δ δ' : Sl}, bindPs ps ds δ = some δ' → ds.length = ps.length := by
  intro ps
  induction ps with
  | nil => intro ds δ δ' e; cases ds with
    | nil => rfl
    | cons a b => simp [bindPs] at e
  | cons p ps ih => intro ds δ δ' e; cases ds with
    | nil => simp [bindPs] at e
    | cons a b =>
      simp only [bindPs] at e
      cases q : bindP p a δ with
      | none => rw [q] at e; exact nomatch e
      | some δ1 => rw [q] at e; simp [ih e]
section
variable {X : Cx} {C : Cc} {pos : Pos}
theorem sg_name (i : Nat) {x : Str} (hN : X.N.Nodup) (hi : X.N[i]? = some x := by rfl) (hx : Loc X.env.scope x := by first | exact Or.inl rfl | exact Or.inr rfl) (hf : X.fn x = true ∨ X.env.scope.names.lookup x = some .local := by first | exact Or.inr rfl | exact Or.inl rfl) : SG X C (.Name x pos) (.nm i) :=
  pg_weak (pg_name hN hi hx hf) fun v σ H Q ⟨d, δ, w, δ', re, eH, r, e, h⟩ => by
    simp only [bindP, Option.some.injEq] at e
    subst e
    refine h _ (re.setV i r) ⟨by simp, fun j hj => ?_⟩
    rw [List.getElem?_set_ne]
    intro z
    exact hj (by simp [idxP, z])
theorem sgs_nil : SGs X C [] [] := pgs_weak pgs_nil fun v σ H Q ⟨ds, δ, w, δ', re, eH, r, e, h⟩ => by
  cases r with
  | nil =>
    simp only [bindPs, Option.some.injEq] at e
    subst e
    exact ⟨rfl, h σ re Off.refl⟩
  | cons a b => simp [bindPs] at e
theorem sgs_cons {e : Expr} {es : List Expr} {p : Pt} {ps : List Pt} (h1 : SG X C e p) (h2 : SGs X C es ps) (hs : (assignEach (e :: es) X.env).map (·.2) = assign e X.env :: (assignEach es X.env).map (·.2) := by rfl) : SGs X C (e :: es) (p :: ps) :=
  pgs_weak (pgs_cons h1 h2 hs) fun v σ H Q ⟨ds, δ, w, δ', re, eH, r, e, h⟩ => by
    cases r with
    | nil => simp [bindPs] at e
    | @cons d9 v0 ds0 vs0 a b =>
      simp only [bindPs] at e
      cases q : bindP p d9 δ with
      | none => rw [q] at e; exact nomatch e
      | some δ1 =>
        rw [q] at e
        exact ⟨v0, vs0, rfl, d9, δ, w, δ1, re, eH, a, q, fun σ1 re1 o1 => ⟨ds0, δ1, w, δ', re1, eH, b, e, fun σ2 re2 o2 => h σ2 re2 (o1.trans o2)⟩⟩
theorem sg_tup {es : List Expr} {k : Nat} {ps : List Pt} (hc : X.calm = true) (h : SGs X C es ps) (hl : es.length = ps.length := by rfl) (hn : (assignEach es X.env).length = es.length := by rfl) (hst : (assignEach es X.env).findIdx? (·.1) = none := by rfl) :
    SG X C (.Tuple es k pos) (.tp ps) := by
  refine ⟨fun pins s σ H v u Q I rv ⟨d, δ, w, δ', re, eH, r, e, z⟩ => ?_⟩
  subst eH
  cases r with
  | @tup a vs ds p q =>
    simp only [bindP] at e
    have l1 := bindPs_len e
    have l2 := q.length
    exact (pg_tup hc h hn hst).run pins s σ _ _ u Q I rv ⟨a, vs, rfl, sqt_mono re.sr.sub p, by omega, ds, δ, w, δ', re, rfl, q, e, fun σ' re' o => z σ' re' o⟩
  | @lst a vs ds p q =>
    simp only [bindP] at e
    have l1 := bindPs_len e
    have l2 := q.length
    exact (pg_lst hc h hn hst).run pins s σ _ _ u Q I rv ⟨a, vs, rfl, re.sr.sub.seq p, by omega, ds, δ, w, δ', re, rfl, q, e, fun σ' re' o => z σ' re' o⟩
  | non => simp [bindP] at e
  | bl b => simp [bindP] at e
  | int b => simp [bindP] at e
  | str b => simp [bindP] at e
  | fn b => simp [bindP] at e
  | ob b => simp [bindP] at e
  | ev0 b => simp [bindP] at e
  | ev n a b c d => simp [bindP] at e
  | dct p l q => simp [bindP] at e
def sBindP (p : Pt) (d : D) (δ : Sl) (s : Sto) : RS := match bindP p d δ with
  | some δ' => .nx δ' s
  | none => .stk
def sAsg (p : Pt) (f : E) : S := fun δ s => sBind (f δ s) δ fun d s1 => sBindP p d δ s1
theorem ss_asg {tg e : Expr} {p : Pt} {f : E} (he : SE X C e f) (hg : SG X C tg p) (hs : swapsWithSole [tg] e pos.line X.env = pure false := by rfl) (hw : swappedStores [tg] e X.env = pure none := by rfl)
    (h1 : (assignEach [tg] X.env).map (·.2) = [assign tg X.env] := by rfl) : SS X C (.Assign [tg] e pos) (sAsg p f) := ps_weak (ps_asg he hg hs hw h1) fun Dn σ H ⟨δ, v, re, eH, h⟩ =>
  ⟨δ, v, re, eH, on_mono (onS_R re h) fun d0 x v1 l1 s1 r1 h1 => by
    unfold sBindP at h1
    cases q : bindP p d0 δ with
    | none => rw [q] at h1; exact h1.elim
    | some δ' => rw [q] at h1; exact ⟨d0, δ, v1, δ', re.step l1 s1, rfl, r1, q, fun σ' re' _ => h1 σ' v1 re' .refl rfl⟩⟩
/-- x op= e -/
def sAug (i : Nat) (g : B2) (f : E) : S := fun δ s => match δ[i]? with
  | some (some x) => sBind (f δ s) δ fun y s1 => match g (rsv s1 x) (rsv s1 y) with
    | some z => .nx (δ.set i (some z)) s1
    | none => .stk
  | _ => .stk
theorem ss_aug (i : Nat) {x : Str} {e : Expr} {f : E} {op : Operator} {g : B2} {pos' : Pos} (ho : OpR X (inplaceOp op) (rD X.K C.ct g)) (he : SE X C e f) (hN : X.N.Nodup) (hi : X.N[i]? = some x := by rfl) (hx : Loc X.env.scope x := by first | exact Or.inl rfl | exact Or.inr rfl)
    (hf : X.fn x = true ∨ X.env.scope.names.lookup x = some .local := by first | exact Or.inr rfl | exact Or.inl rfl) : SS X C (.AugAssign (.Name x pos') op e pos) (sAug i g f) :=
  ps_weak (ps_aug hN hi hx he ho hf) fun Dn σ H ⟨δ, v, re, eH, h⟩ => by
    unfold sAug at h
    split at h
    · rename_i d0 q
      obtain ⟨v0, e0, r0⟩ := re.sl i d0 q
      refine ⟨v0, e0, δ, v, re, eH, on_mono (onS_R re h) fun d x v1 l1 s1 r1 h1 => ?_⟩
      split at h1
      · rename_i w z
        exact ⟨v1, _, _, w, rfl, s1, z, (l1.rep r0).top s1, r1.top s1, fun x2 v2 l2 s2 e2 r2 => h1 _ v2 (((re.step l1 s1).step l2 s2).setV i r2) l2 e2⟩
      · exact h1.elim
    · exact h.elim
def gAddI : B2
  | .int i, .int j => some (.int (i + j))
  | .str x, .str y => if x.length + y.length ≤ sizeLine then some (.str (x ++ y)) else none
  | _, _ => none
theorem io_addI {ct : String → Addr} : OpR X (inplaceOp .Add) (rD X.K ct gAddI) := by
  intro pins s σ H x y v u Q I rx ry h
  obtain ⟨v0, dx, dy, d, rfl, sr, e, r1, r2, h⟩ := h
  cases r1 <;> cases r2 <;> simp only [gAddI, Option.some.injEq, reduceCtorEq] at e
  · subst e
    exact iop_add pins s σ _ _ _ v u Q I rx ry ⟨_, _, rfl, rfl, h _ v0 .refl sr rfl (.int _)⟩
  · split at e
    · rename_i hz
      simp only [Option.some.injEq] at e
      subst e
      exact iop_add_str pins s σ _ _ _ v u Q I rx ry ⟨_, _, rfl, rfl, hz, h _ v0 .refl sr rfl (.str _)⟩
    · exact nomatch e
theorem io_sub {ct : String → Addr} : OpR X (inplaceOp .Sub) (rD X.K ct gSub) := by
  intro pins s σ H x y v u Q I rx ry h
  obtain ⟨v0, dx, dy, d, rfl, sr, e, r1, r2, h⟩ := h
  cases r1 <;> cases r2 <;> simp only [gSub, Option.some.injEq, reduceCtorEq] at e
  subst e
  exact iop_sub pins s σ _ _ _ v u Q I rx ry ⟨_, _, rfl, rfl, h _ v0 .refl sr rfl (.int _)⟩
end

/-! ### for -/
structure ItOk (K : PySem.W.Frag) (ct : String → Addr) (J : It) (v : Vw) (items : List D) : Prop where
  go : ∀ i w, Le v w → SR K ct w → i < items.length → J.go i w.H
  stop : ∀ i w, Le v w → SR K ct w → items.length ≤ i → J.stop i w.H
  yld : ∀ i w x H', Le v w → SR K ct w → i < items.length → J.yld i w.H x H' → ∃ d w2, items[i]? = some d ∧ w2.H = H' ∧ Le w w2 ∧ SR K ct w2 ∧ w2.st = w.st ∧ Rep K ct w2.G w2.m d x
abbrev rI (K : PySem.W.Frag) (ct : String → Addr) : List D → It → Vw → Prop := fun items J v => ItOk K ct J v items
def liftI (K : PySem.W.Frag) (C : Cc) (f : As) : TI := fun σ H P => ∃ δ v, RE K C σ δ v ∧ v.H = H ∧ on K C σ v (rI K C.ct) (f δ v.st) fun _ J v' => P J v'.H
abbrev SI (X : Cx) (C : Cc) (tg e : Expr) (f : As) : Prop := PI X tg e (liftI X.K C f)
theorem pi_weak {X : Cx} {tg e : Expr} {t t' : TI} (h : PI X tg e t) (w : ∀ σ H Q, t' σ H Q → t σ H Q) : PI X tg e t' := ⟨fun pins s σ H Q I z => h.run pins s σ H Q I (w σ H Q z)⟩
def forD (p : Pt) (body : S) : List D → Sl → Sto → RS
  | [], δ, s => .nx δ s
  | d :: ds, δ, s => match bindP p d δ with
    | none => .stk
    | some δ1 => match body δ1 s with
      | .nx δ2 s2 => forD p body ds δ2 s2
      | .ct δ2 s2 => forD p body ds δ2 s2
      | .bk δ2 s2 => .nx δ2 s2
      | r => r
def sFor (it : As) (p : Pt) (body : S) : S := fun δ s => sBind (it δ s) δ fun items s1 => forD p body items δ s1
section
variable {X : Cx} {C : Cc} {pos : Pos} {tg iter : Expr}
theorem ss_for {body : List Stmt} {f : As} {p : Pt} {fb : S} (hp : PassesOwn (model X.prog X.w) X.A X.env X.xe) (hc : X.calm = true) (hi : SI X C tg iter f) (hg : SG X C tg p) (hb : SSs X C body fb)
    (hs : ∀ x, foldedSetIterable iter X.env x = pure x := by intro _; rfl) : SS X C (.For tg iter body [] pos) (sFor f p fb) := ps_weak (ps_for hp hc hi hg hb hs) fun Dn σ H ⟨δ, v, re, eH, h⟩ => by
  refine ⟨δ, v, re, eH, on_mono (onS_R re h) fun items J v1 l1 s1 ok h0 => ?_⟩
  refine ⟨fun i m σ H => m = items.length - i ∧ i ≤ items.length ∧ ∃ δ w, RE X.K C σ δ w ∧ w.H = H ∧ Le v1 w ∧ onS X.K C w (forD p fb (items.drop i) δ w.st) Dn, ⟨items.length, by simp, Nat.zero_le _, δ, v1, re.step l1 s1, rfl, .refl, h0⟩, ?_⟩
  rintro i m σ2 H2 ⟨rfl, hi, δ2, w, re2, rfl, lw, q⟩
  by_cases hlt : i < items.length
  · refine .inr ⟨ok.go i w lw re2.sr hlt, fun σ H => ∃ δ w, RE X.K C σ δ w ∧ w.H = H ∧ Le v1 w ∧ onS X.K C w (forD p fb (items.drop (i + 1)) δ w.st) Dn, fun σ' H' n => ⟨items.length - (i + 1), by omega, rfl, hlt, n⟩, fun x H' y => ?_⟩
    obtain ⟨d, w3, ed, rfl, l3, s3, e3, r3⟩ := ok.yld i w x H' lw re2.sr hlt y
    have ed2 : items.drop i = d :: items.drop (i + 1) := by
      rw [List.drop_eq_getElem_cons hlt]
      rw [List.getElem?_eq_getElem hlt] at ed
      rw [Option.some.inj ed]
    rw [ed2] at q
    simp only [forD] at q
    cases eb : bindP p d δ2 with
    | none => rw [eb] at q; exact q.elim
    | some δ3 =>
      rw [eb] at q
      refine ⟨d, δ2, w3, δ3, re2.step l3 s3, rfl, r3, eb, fun σ4 re4 _ => ⟨δ3, w3, re4, rfl, ?_⟩⟩
      simp only at q
      rw [e3]
      cases ef : fb δ3 w.st with
      | nx δ4 s4 => rw [ef] at q; exact fun σ' w' re' l' es => ⟨δ4, w', re', rfl, (lw.trans l3).trans l', by subst es; exact onS_same (l3.trans l') q⟩
      | ct δ4 s4 => rw [ef] at q; exact fun σ' w' re' l' es => ⟨δ4, w', re', rfl, (lw.trans l3).trans l', by subst es; exact onS_same (l3.trans l') q⟩
      | bk δ4 s4 => rw [ef] at q; exact fun σ' w' re' l' es => q σ' w' re' (l3.trans l') es
      | rt d s4 => rw [ef] at q; exact q
      | exc e4 δ4 s4 => rw [ef] at q; exact fun cls dd σ' w' re' l' es rx => q cls dd σ' w' re' (l3.trans l') es rx
      | stk => rw [ef] at q; exact q
  · have ei : i = items.length := by omega
    subst ei
    rw [List.drop_length] at q
    exact .inl ⟨ok.stop _ w lw re2.sr (Nat.le_refl _), q σ2 w re2 .refl rfl⟩

/-! ### what is walked -/
theorem itOk_list {K : PySem.W.Frag} {ct : String → Addr} {v : Vw} {a : Addr} {vs : List V} {ds : List D} (h : SqL K v.G a vs) (r : RepL K ct v.G v.m ds vs) : ItOk K ct (Itl K a) v ds where
  go := fun i w l s hi => by
    obtain ⟨x, e, _⟩ := r.get (List.getElem?_eq_getElem hi)
    exact ⟨vs, x, s.sub.seq (l.g.seq h), e⟩
  stop := fun i w l s hi => ⟨vs, s.sub.seq (l.g.seq h), by rw [← r.length]; exact hi⟩
  yld := fun i w x H' l s hi y => by
    obtain ⟨x', e, rv⟩ := r.get (List.getElem?_eq_getElem hi)
    obtain ⟨rfl, y2⟩ := y
    have z := y2 vs (s.sub.seq (l.g.seq h))
    rw [e] at z
    cases z
    exact ⟨_, w, List.getElem?_eq_getElem hi, rfl, .refl, s, rfl, l.rep rv⟩
theorem itOk_tup {K : PySem.W.Frag} {ct : String → Addr} {v : Vw} {a : Addr} {vs : List V} {ds : List D} (h : SqT K v.G a vs) (r : RepL K ct v.G v.m ds vs) : ItOk K ct (Itt K a) v ds where
  go := fun i w l s hi => by
    obtain ⟨x, e, _⟩ := r.get (List.getElem?_eq_getElem hi)
    exact ⟨vs, x, sqt_mono s.sub (sqt_mono l.g h), e⟩
  stop := fun i w l s hi => ⟨vs, sqt_mono s.sub (sqt_mono l.g h), by rw [← r.length]; exact hi⟩
  yld := fun i w x H' l s hi y => by
    obtain ⟨x', e, rv⟩ := r.get (List.getElem?_eq_getElem hi)
    obtain ⟨rfl, y2⟩ := y
    have z := y2 vs (sqt_mono s.sub (sqt_mono l.g h))
    rw [e] at z
    cases z
    exact ⟨_, w, List.getElem?_eq_getElem hi, rfl, .refl, s, rfl, l.rep rv⟩
/-- a text's signs -/
def signs (x : Str) : List D := x.cps.toList.map fun c => .str ⟨#[c]⟩
theorem itOk_str {K : PySem.W.Frag} {ct : String → Addr} {v : Vw} {x : Str} : ItOk K ct (Its x) v (signs x) where
  go := fun i w l s hi => by show i < x.cps.size; simpa [signs] using hi
  stop := fun i w l s hi => by show x.cps.size ≤ i; simpa [signs] using hi
  yld := fun i w z H' l s hi y => by
    obtain ⟨rfl, c, e, rfl⟩ := y
    refine ⟨.str ⟨#[c]⟩, w, ?_, rfl, .refl, s, rfl, .str _⟩
    simp [signs, e]
/-- the things of a list (frozen), a tuple, a text -/
def seqOf : D → Option (List D)
  | .lst xs => some xs
  | .tup xs => some xs
  | .str x => some (signs x)
  | _ => none
def iSeq (f : E) : As := fun δ s => (f δ s).bind fun d s1 => R.ofO (seqOf d) s1
theorem si_seq {e : Expr} {f : E} (he : SE X C e f) : SI X C tg e (iSeq f) := by
  refine ⟨fun pins s σ H Rr I ⟨δ, v, re, eH, h⟩ => ?_⟩
  unfold iSeq at h
  have hz := on_bind (rel := rE X.K C.ct) h
  cases q : f δ v.st with
  | stk => rw [q] at hz; exact hz.elim
  | exc e s1 => exact (pi_list he).run pins s σ H Rr I ⟨δ, v, re, eH, by rw [q] at hz ⊢; exact hz⟩
  | ok d s1 =>
    rw [q] at hz
    have go : ∀ (P : V → Vw → Prop), (∀ x v1, Le v v1 → SR X.K C.ct v1 → v1.st = s1 → Rep X.K C.ct v1.G v1.m d x → P x v1) → on X.K C σ v (rE X.K C.ct) (f δ v.st) fun _ x v' => P x v' := fun P w => by rw [q]; exact w
    cases d with
    | lst xs =>
      refine (pi_list he).run pins s σ H Rr I ⟨δ, v, re, eH, go _ fun x v1 l1 sr1 es r1 => ?_⟩
      have h9 := hz x v1 l1 sr1 es r1
      cases r1 with
      | @lst a vs _ p rl => exact ⟨a, rfl, ⟨vs, sr1.sub.seq p⟩, on_self sr1 h9 (itOk_list p rl)⟩
    | tup xs =>
      refine (pi_tup he).run pins s σ H Rr I ⟨δ, v, re, eH, go _ fun x v1 l1 sr1 es r1 => ?_⟩
      have h9 := hz x v1 l1 sr1 es r1
      cases r1 with
      | @tup a vs _ p rl => exact ⟨a, rfl, ⟨vs, sqt_mono sr1.sub p⟩, on_self sr1 h9 (itOk_tup p rl)⟩
    | str z =>
      refine (pi_str he).run pins s σ H Rr I ⟨δ, v, re, eH, go _ fun x v1 l1 sr1 es r1 => ?_⟩
      have h9 := hz x v1 l1 sr1 es r1
      cases r1
      exact ⟨z, rfl, on_self sr1 h9 itOk_str⟩
    | _ => exact (pi_list he).run pins s σ H Rr I ⟨δ, v, re, eH, go _ fun x v1 l1 sr1 es r1 => (hz x v1 l1 sr1 es r1).elim⟩
/-- the whole numbers lo, lo + 1, .. -/
def rngD (lo : Int) (n : Nat) : List D := (List.range n).map fun (i : Nat) => .int (lo + (i : Int))
theorem ints_get {lo : Int} {n i : Nat} (h : i < n) : (rngD lo n)[i]? = some (.int (lo + (i : Int))) := by simp [rngD, h]
theorem itOk_rng {K : PySem.W.Frag} {ct : String → Addr} {v : Vw} {lo : Int} {n : Nat} : ItOk K ct (Itr lo n) v (rngD lo n) where
  go := fun i w l s hi => by show i < n; simpa [rngD] using hi
  stop := fun i w l s hi => by show n ≤ i; simpa [rngD] using hi
  yld := fun i w z H' l s hi y => by
    obtain ⟨rfl, rfl⟩ := y
    exact ⟨_, w, ints_get (by simpa [rngD] using hi), rfl, .refl, s, rfl, .int _⟩
def iRange1 (a : As) : As := fun δ s => (a δ s).bind fun ds s1 => match ds with
  | [.int j] => if -(2 ^ 62) ≤ j ∧ j < 2 ^ 62 then .ok (rngD 0 j.toNat) s1 else .stk
  | _ => .stk
def iRange2 (a : As) : As := fun δ s => (a δ s).bind fun ds s1 => match ds with
  | [.int i, .int j] => if -(2 ^ 62) ≤ i ∧ i < 2 ^ 62 ∧ -(2 ^ 62) ≤ j ∧ j < 2 ^ 62 then .ok (rngD i (j - i).toNat) s1 else .stk
  | _ => .stk
theorem si_range1 {a : Expr} {f : As} {p pos : Pos} (hg : Gl X "range") (hm : X.mg "range" = none) (ha : SA X C [a] f) (hs : starEach [a] X.env = [(false, eval a X.env)] := by rfl) : SI X C tg (.Call (.Name "range" p) [a] [] pos) (iRange1 f) :=
  pi_weak (pi_range1 hg hm ha hs) fun σ H P ⟨δ, v, re, eH, h⟩ => ⟨δ, v, re, eH, on_mono (on_bind h) fun ds vs v1 l1 s1 r1 h1 => by
    split at h1
    · rename_i j
      cases r1 with
      | cons r2 r3 =>
        cases r2; cases r3
        split at h1
        · rename_i hz
          exact ⟨j, rfl, hz.1, hz.2, on_self s1 h1 itOk_rng⟩
        · exact h1.elim
    · exact h1.elim⟩
theorem si_range2 {a b : Expr} {f : As} {p pos : Pos} (hg : Gl X "range") (hm : X.mg "range" = none) (ha : SA X C [a, b] f) (hs : starEach [a, b] X.env = [(false, eval a X.env), (false, eval b X.env)] := by rfl) (hs2 : starEach [b] X.env = [(false, eval b X.env)] := by rfl) :
    SI X C tg (.Call (.Name "range" p) [a, b] [] pos) (iRange2 f) :=
  pi_weak (pi_range2 hg hm ha hs hs2) fun σ H P ⟨δ, v, re, eH, h⟩ => ⟨δ, v, re, eH, on_mono (on_bind h) fun ds vs v1 l1 s1 r1 h1 => by
    split at h1
    · rename_i i j
      cases r1 with
      | cons r2 r3 =>
        cases r3 with
        | cons r3 r4 =>
          cases r2; cases r3; cases r4
          split at h1
          · rename_i hz
            exact ⟨i, j, rfl, hz, on_self s1 h1 itOk_rng⟩
          · exact h1.elim
    · exact h1.elim⟩
end

/-! ### while -/
def whileD (c : T) (body : S) : Nat → Sl → Sto → RS
  | 0, _, _ => .stk
  | n + 1, δ, s => match c δ s with
    | .ok true s1 => match body δ s1 with
      | .nx δ2 s2 => whileD c body n δ2 s2
      | .ct δ2 s2 => whileD c body n δ2 s2
      | .bk δ2 s2 => .nx δ2 s2
      | r => r
    | .ok false s1 => .nx δ s1
    | .exc e s1 => .exc e δ s1
    | .stk => .stk
section
variable {X : Cx} {C : Cc} {pos : Pos}
theorem ss_while (n : Nat) {c : Expr} {body : List Stmt} {t : T} {fb : S} (hp : PassesOwn (model X.prog X.w) X.A X.env X.xe) (hc : ST X C c t) (hb : SSs X C body fb) : SS X C (.While c body [] pos) (whileD t fb n) :=
  ps_weak (ps_while hp hc hb) fun Dn σ H ⟨δ, v, re, eH, h⟩ => by
    refine ⟨fun m σ H => ∃ δ v, RE X.K C σ δ v ∧ v.H = H ∧ onS X.K C v (whileD t fb m δ v.st) Dn, ⟨n, δ, v, re, eH, h⟩, ?_⟩
    rintro m σ2 H2 ⟨δ2, w, re2, rfl, q⟩
    cases m with
    | zero => exact q.elim
    | succ m =>
      simp only [whileD] at q
      refine ⟨δ2, w, re2, rfl, ?_⟩
      cases e : t δ2 w.st with
      | stk => rw [e] at q; exact q.elim
      | exc ex s1 => rw [e] at q; exact onX_of re2 q
      | ok b s1 =>
        rw [e] at q
        intro b2 w3 l3 s3 es eb
        cases eb
        cases b with
        | false =>
          rw [if_neg Bool.false_ne_true]
          exact q σ2 w3 (re2.step l3 s3) l3 es
        | true =>
          rw [if_pos rfl]
          refine ⟨fun σ H => ∃ δ v, RE X.K C σ δ v ∧ v.H = H ∧ onS X.K C v (whileD t fb m δ v.st) Dn, fun σ' H' z => ⟨m, Nat.lt_succ_self _, z⟩, δ2, w3, re2.step l3 s3, rfl, ?_⟩
          simp only at q
          subst es
          cases ef : fb δ2 w3.st with
          | nx δ4 s4 => rw [ef] at q; exact fun σ' w' re' l' es => ⟨δ4, w', re', rfl, by subst es; exact onS_same (l3.trans l') q⟩
          | ct δ4 s4 => rw [ef] at q; exact fun σ' w' re' l' es => ⟨δ4, w', re', rfl, by subst es; exact onS_same (l3.trans l') q⟩
          | bk δ4 s4 => rw [ef] at q; exact fun σ' w' re' l' es => q σ' w' re' (l3.trans l') es
          | rt d s4 => rw [ef] at q; exact q
          | exc e4 δ4 s4 => rw [ef] at q; exact fun cls dd σ' w' re' l' es rx => q cls dd σ' w' re' (l3.trans l') es rx
          | stk => rw [ef] at q; exact q
end
end Gs

/-! G6: defs by their function over data and store, calls, new lists, comprehensions, methods of lists. -/
namespace Gs
open PySem L2

/-- a def's promise: what its function says of the arguments' data and the store -/
def spG (K : PySem.W.Frag) (ct : String → Addr) (n : Nat) (F : List D → Sto → R D) : Sp := fun vs H Q E => ∃ v ds, v.H = H ∧ SR K ct v ∧ ds.length = n ∧ RepL K ct v.G v.m ds vs ∧ match F ds v.st with
  | .ok d s => ∀ x v', Le v v' → SR K ct v' → v'.st = s → Rep K ct v'.G v'.m d x → Q x v'.H
  | .exc e s => ∀ cls dd v', Le v v' → SR K ct v' → v'.st = s → RepX K ct v' e cls dd → E cls dd v'.H
  | .stk => False
/-- a body as a function of the arguments: N names -/
def runG (N : Nat) (body : S) (ds : List D) (s : Sto) : R D := match body (ds.map some ++ List.replicate (N - ds.length) none) s with
  | .nx _ s' => .ok .non s'
  | .rt d s' => .ok d s'
  | .exc e _ s' => .exc e s'
  | _ => .stk
theorem re_start {K : PySem.W.Frag} {C : Cc} {v : Vw} {ds : List D} {vs : List V} {N : List Str} (l : Le C.v0 v) (sr : SR K C.ct v) (r : RepL K C.ct v.G v.m ds vs) (hn : ds.length ≤ N.length) : RE K C (L2.start N vs) (ds.map some ++ List.replicate (N.length - ds.length) none) v := by
  have hl := r.length
  refine ⟨l, sr, by simp [L2.start]; omega, fun i d hs => ?_⟩
  unfold L2.start
  by_cases h : i < ds.length
  · rw [List.getElem?_append_left (by simpa using h)] at hs
    rw [List.getElem?_append_left (by simp; omega)]
    obtain ⟨x, e1, r1⟩ := r.get (List.getElem?_eq_getElem h)
    rw [List.getElem?_map, List.getElem?_eq_getElem h] at hs
    rw [List.getElem?_map, e1]
    cases hs
    exact ⟨x, rfl, r1⟩
  · rw [List.getElem?_append_right (by simpa using h)] at hs
    rw [List.getElem?_replicate] at hs
    split at hs
    · cases hs
    · exact nomatch hs
section
variable {P : Program} {w : World} {K : PySem.W.Frag} {mg : Str → Option Value} {base : Heap} {ct : String → Addr}
/-- a def of the text keeps the promise of its body's function -/
theorem fn_ok {x qual : Str} {st : Stmt} {f : Addr} {fd : FuncData} {N ps : List Str} {k : Nat} {body : S} (F : L2.Fun K x qual st f fd) (sc : FnScope N ps (defScope st)) (hn : ps.length ≤ N.length)
    (hb : ∀ (cdv : Value) (A : Around) (outer : List Env) (s : Shared) (H : Hp) (v : Vw) (E : XK), Room k (A.deeper (PyProof.Rows.envOfC qual (defScope st) s.heap.objs.size f cdv)) →
      SSs (cxOf (L2.CX P w) P w K mg base N qual (defScope st) f cdv A outer s H E) ⟨v, ct, fun cls d _ H => E cls d H⟩ (defBody st) body) :
    FnOk P w K mg base (L2.CX P w) (k + 1) f fd ps (spG K ct ps.length (runG N.length body)) := by
  refine F.okX sc (fun vs H Q E ⟨v, ds, e, sr, l, r, _⟩ => by rw [← l, r.length]) (fun cdv A outer s H vs Q E hr ⟨v, ds, e, sr, l, r, h⟩ => ⟨_, hb cdv A outer s H v E hr, ?_⟩)
  subst e
  have rs : RE K ⟨v, ct, fun cls d _ H => E cls d H⟩ (L2.start N vs) (ds.map some ++ List.replicate (N.length - ds.length) none) v := re_start .refl sr r (by omega)
  refine ⟨_, v, rs, rfl, ?_⟩
  unfold runG at h
  cases e : body (ds.map some ++ List.replicate (N.length - ds.length) none) v.st with
  | nx δ s => rw [e] at h; exact fun σ' v' re l es => h .non v' l re.sr es .non
  | rt d s => rw [e] at h; exact fun x v' l sr' es r => h x v' l sr' es r
  | exc e2 δ s => rw [e] at h; exact fun cls dd σ' v' re l es rx => h cls dd v' l re.sr es rx
  | bk δ s => rw [e] at h; exact h.elim
  | ct δ s => rw [e] at h; exact h.elim
  | stk => rw [e] at h; exact h.elim
theorem fn_zero {f : Addr} {fd : FuncData} {ps : List Str} : FnOk P w K mg base (L2.CX P w) 0 f fd ps (spG K ct ps.length fun _ _ => .stk) :=
  ⟨fun vs H Q E ⟨v, ds, e, sr, l, r, h⟩ => h.elim, fun A outer s H args us vs Q E _ _ _ _ ⟨v, ds, e, sr, l, r, h⟩ => h.elim⟩
end

/-! ### calls -/
def eCall (F : List D → Sto → R D) (a : As) : E := fun δ s => (a δ s).bind F
/-- an argument list gives as many as it has -/
def LenA (fa : As) (n : Nat) : Prop := ∀ δ s ds s', fa δ s = .ok ds s' → ds.length = n
theorem lenA_nil : LenA aNil 0 := fun δ s ds s' h => by cases h; rfl
theorem lenA_cons {f : E} {r : As} {n : Nat} (h : LenA r n) : LenA (aCons f r) (n + 1) := fun δ s ds s' e => by
  unfold aCons at e
  cases q : f δ s with
  | stk => rw [q] at e; exact nomatch e
  | exc e2 s2 => rw [q] at e; exact nomatch e
  | ok d s2 =>
    rw [q] at e
    cases q2 : r δ s2 with
    | stk => simp only [R.bind, q2] at e; exact nomatch e
    | exc e2 s3 => simp only [R.bind, q2] at e; exact nomatch e
    | ok xs s3 =>
      simp only [R.bind, q2, R.ok.injEq] at e
      rw [← e.1]
      simp [h δ s2 xs s3 q2]
theorem on_eq {α β : Type} {K : PySem.W.Frag} {C : Cc} {σ : L2.St} {v : Vw} {rel : α → β → Vw → Prop} {r : R α} {P : α → β → Vw → Prop} (h : on K C σ v rel r P) : on K C σ v rel r fun a b v' => P a b v' ∧ ∃ s, r = .ok a s := by
  cases r with
  | ok a s => exact fun b v' l sr e q => ⟨h b v' l sr e q, s, rfl⟩
  | exc e s => exact h
  | stk => exact h
section
variable {X : Cx} {C : Cc} {pos p : Pos} {x : Str} {e : Expr} {es : List Expr} {fa : As} {k n : Nat} {f : Addr} {fd : FuncData} {ps : List Str} {F : List D → Sto → R D}
theorem on_sp {K : PySem.W.Frag} {σ : L2.St} {v : Vw} {ds : List D} {vs : List V} {Q : VK} (sr : SR K C.ct v) (hl : ds.length = n) (r : RepL K C.ct v.G v.m ds vs) (h : on K C σ v (rE K C.ct) (F ds v.st) fun _ x v' => Q x v'.H) : spG K C.ct n F vs v.H Q (WE C.W σ) := by
  refine ⟨v, ds, rfl, sr, hl, r, ?_⟩
  cases q : F ds v.st with
  | ok d s => rw [q] at h; exact h
  | exc e s => rw [q] at h; exact h
  | stk => rw [q] at h; exact h
theorem se_call (hF : FnOk X.prog X.w X.K X.mg X.base (L2.CX X.prog X.w) k f fd ps (spG X.K C.ct n F)) (hr : Room k X.A) (tk : Takes X C.W) (hg : Gl X x) (hm : X.mg x = some (.ref f)) (hk : PySem.W.keepIn X.K (.ref f) = true) (hb : Binds X.K fd ps [])
    (ha : SA X C (e :: es) fa) (hl : LenA fa n) (hdb : (x == ("__debug__" : Str)) = false := by decide) (he : starEach (e :: es) X.env = (false, eval e X.env) :: starEach es X.env := by rfl) (hpl : (backTo pos (starEach es X.env)).any (·.1) = false := by rfl) :
    SE X C (.Call (.Name x p) (e :: es) [] pos) (eCall F fa) :=
  pe_weak (pe_callS hF hr hg hm hk hb (fun σ => passAt tk σ) ha hdb he hpl) fun σ H Q ⟨δ, v, re, eH, h⟩ => ⟨δ, v, re, eH, on_mono (on_eq (on_bind h)) fun ds vs v1 l1 s1 r1 h1 => by
    obtain ⟨h1, s, q⟩ := h1
    exact on_sp s1 (hl _ _ _ _ q) r1 h1⟩
end

/-! ### new lists -/
def onF (K : PySem.W.Frag) (C : Cc) (σ : L2.St) (v : Vw) (r : R (List D)) (P : List D → Addr → Vw → Prop) : Prop := match r with
  | .ok xs s => ∀ p vs v', Le v v' → SR K C.ct v' → v'.st = s → v.H p = none → v'.G p = none → v'.H p = some (.lst vs) → ¬ v'.owns p → RepL K C.ct v'.G v'.m xs vs → P xs p v'
  | .exc e s => onX K C σ v e s
  | .stk => False
abbrev Fr := Sl → Sto → R (List D)
def liftF (K : PySem.W.Frag) (C : Cc) (f : Fr) : TE := fun σ H Q => ∃ δ v, RE K C σ δ v ∧ v.H = H ∧ onF K C σ v (f δ v.st) fun _ p v' => Q (.ref p) v'.H
abbrev SF (X : Cx) (C : Cc) (e : Expr) (f : Fr) : Prop := PE X e (liftF X.K C f)
/-- a new list, frozen; a thing of the store -/
def eFz (f : Fr) : E := fun δ s => (f δ s).bind fun xs s1 => .ok (.lst xs) s1
def eNw (f : Fr) : E := fun δ s => (f δ s).bind fun xs s1 => .ok (.ob s1.length) (s1 ++ [.lst xs])
section
variable {K : PySem.W.Frag} {ct : String → Addr}
theorem owns_same {G G' H H' : Hp} {m : Nat → Option Addr} {st : Sto} {b : Addr} (hh : ∀ (i : Nat) (o : O) (a : Addr), st[i]? = some o → o.live = true → m i = some a → ∀ C fs dx, H' a = some (.ins C dx fs) → H a = some (.ins C dx fs)) (h : (Vw.mk G' H' m st).owns b) : (Vw.mk G H m st).owns b := by
  obtain ⟨i, o, a, e, l, em, z⟩ := h
  refine ⟨i, o, a, e, l, em, z.imp id fun ⟨C, fs, q⟩ => ⟨C, fs, hh i o a e l em C fs b q⟩⟩
/-- a new object that is none of the store's, frozen -/
theorem frz_new {v v' : Vw} {p : Addr} {u : HO} (l : Le v v') (s : SR K ct v') (hp : v.H p = none) (gp : v'.G p = none) (hu : v'.H p = some u) (no : ¬ v'.owns p) : Le v ⟨upd v'.G p u, v'.H, v'.m, v'.st⟩ ∧ SR K ct ⟨upd v'.G p u, v'.H, v'.m, v'.st⟩ := by
  have sg := same_new gp u
  refine ⟨⟨l.g.trans sg, l.m, l.h, fun b q => ?_, fun b q => l.ow b (owns_same (fun _ _ _ _ _ _ _ _ _ z => z) q), l.al⟩, fun b w q => ?_, s.dom, fun i o e lv => ?_, s.inj⟩
  · by_cases z : b = p
    · exact .inr (.inl (z ▸ hp))
    · have q' : upd v'.G p u b ≠ none := q
      rw [upd_ne z] at q'
      exact l.nw b q'
  · have q' : upd v'.G p u b = some w := q
    by_cases z : b = p
    · rw [z, upd_same] at q'
      cases q'
      show v'.H b = some u
      rw [z]
      exact hu
    · rw [upd_ne z] at q'
      exact s.sub _ _ q'
  · obtain ⟨a, em, ga, r⟩ := s.obj i o e lv
    have na : a ≠ p := fun z => no ⟨i, o, a, e, lv, em, .inl z.symm⟩
    exact ⟨a, em, (upd_ne na).trans ga, r.mono' (v := v') sg .refl rfl fun C dx fs q0 q1 q2 => ⟨rfl, (upd_ne fun z => no ⟨i, o, a, e, lv, em, .inr ⟨C, fs, by rw [← z]; exact q0⟩⟩).trans q2⟩⟩
/-- a new list, from here on the store's -/
theorem adopt {v v' : Vw} {p : Addr} {xs : List D} {vs : List V} (l : Le v v') (s : SR K ct v') (hp : v.H p = none) (gp : v'.G p = none) (hu : v'.H p = some (.lst vs)) (no : ¬ v'.owns p) (r : RepL K ct v'.G v'.m xs vs) :
    Le v (v'.alloc p v'.H (.lst xs)) ∧ SR K ct (v'.alloc p v'.H (.lst xs)) := by
  have m0 : v'.m v'.st.length = none := s.dom _ (Nat.le_refl _)
  have gr : Grow v'.m (mset v'.m v'.st.length p) := mset_grow m0
  have get : ∀ {i : Nat} {u : O}, (v'.alloc p v'.H (.lst xs)).st[i]? = some u → (i < v'.st.length ∧ v'.st[i]? = some u) ∨ (i = v'.st.length ∧ u = .lst xs) := fun e => get_snoc e
  have np : ∀ {i : Nat} {u : O} {a : Addr}, v'.st[i]? = some u → u.live = true → v'.m i = some a → a ≠ p := fun {i u a} e lv em z => no ⟨i, u, a, e, lv, em, .inl z.symm⟩
  refine ⟨⟨l.g, l.m.trans gr, l.h, l.nw, fun b ⟨i, u, a, e, lv, em, q⟩ => ?_, l.al⟩, s.sub, fun i hi => ?_, fun i u e lv => ?_, fun i j u w a e1 e2 l1 l2 m1 m2 => ?_⟩
  · have em' : mset v'.m v'.st.length p i = some a := em
    rcases get e with ⟨z, e⟩ | ⟨rfl, rfl⟩
    · rw [mset_ne (Nat.ne_of_lt z)] at em'
      exact l.ow b ⟨i, u, a, e, lv, em', q⟩
    · rw [mset_same] at em'
      cases em'
      rcases q with rfl | ⟨C, fs, q⟩
      · exact .inr hp
      · have q' : v'.H p = some (.ins C b fs) := q
        rw [hu] at q'
        cases q'
  · have hl : v'.st.length + 1 ≤ i := by simpa [Vw.alloc] using hi
    show mset v'.m v'.st.length p i = none
    rw [mset_ne (by omega)]
    exact s.dom i (by omega)
  · rcases get e with ⟨z, e⟩ | ⟨rfl, rfl⟩
    · obtain ⟨a, em, ga, r⟩ := s.obj i u e lv
      exact ⟨a, (mset_ne (Nat.ne_of_lt z)).trans em, ga, r.mono' (v := v') (v' := v'.alloc p v'.H (.lst xs)) (Same.refl _) gr rfl fun C dx fs _ q1 q2 => ⟨rfl, q2⟩⟩
    · exact ⟨p, mset_same, gp, vs, hu, r.mono (Same.refl _) gr⟩
  · have m1' : mset v'.m v'.st.length p i = some a := m1
    have m2' : mset v'.m v'.st.length p j = some a := m2
    rcases get e1 with ⟨z1, f1⟩ | ⟨y1, f1⟩ <;> rcases get e2 with ⟨z2, f2⟩ | ⟨y2, f2⟩
    · rw [mset_ne (Nat.ne_of_lt z1)] at m1'
      rw [mset_ne (Nat.ne_of_lt z2)] at m2'
      exact s.inj i j u w a f1 f2 l1 l2 m1' m2'
    · rw [mset_ne (Nat.ne_of_lt z1)] at m1'
      rw [y2, mset_same] at m2'
      cases m2'
      exact absurd rfl (np f1 l1 m1')
    · rw [mset_ne (Nat.ne_of_lt z2)] at m2'
      rw [y1, mset_same] at m1'
      cases m1'
      exact absurd rfl (np f2 l2 m2')
    · rw [y1, y2]
/-- what is none of the store's, and not frozen, may be changed aside -/
theorem side_ok {v : Vw} {p : Addr} {u : HO} (s : SR K ct v) (gp : v.G p = none) (no : ¬ v.owns p) : SR K ct ⟨v.G, upd v.H p u, v.m, v.st⟩ ∧ ∀ b, (Vw.mk v.G (upd v.H p u) v.m v.st).owns b → v.owns b := by
  have np : ∀ {i : Nat} {o : O} {a : Addr}, v.st[i]? = some o → o.live = true → v.m i = some a → a ≠ p := fun {i o a} e lv em z => no ⟨i, o, a, e, lv, em, .inl z.symm⟩
  refine ⟨⟨fun b w q => ?_, s.dom, fun i o e lv => ?_, s.inj⟩, fun b q => owns_same (fun i o a e lv em C fs dx z => by rwa [upd_ne (np e lv em)] at z) q⟩
  · have q' : v.G b = some w := q
    have z : b ≠ p := fun z => by rw [z, gp] at q'; cases q'
    show upd v.H p u b = some w
    rw [upd_ne z]
    exact s.sub _ _ q'
  · obtain ⟨a, em, ga, r⟩ := s.obj i o e lv
    exact ⟨a, em, ga, r.mono' (v := v) (Same.refl _) .refl (upd_ne (np e lv em)) fun C dx fs q0 q1 q2 => ⟨upd_ne fun z => no ⟨i, o, a, e, lv, em, .inr ⟨C, fs, by rw [← z]; exact q0⟩⟩, q2⟩⟩
end
section
variable {X : Cx} {C : Cc} {pos : Pos} {e : Expr} {es : List Expr} {f : Fr} {r : As}
theorem lift_fz {K : PySem.W.Frag} {σ : L2.St} {H : Hp} {Q : VK} (h : liftE K C (eFz f) σ H Q) : liftF K C f σ H Q := by
  obtain ⟨δ, v, re, eH, h⟩ := h
  refine ⟨δ, v, re, eH, ?_⟩
  unfold eFz at h
  cases q : f δ v.st with
  | stk => rw [q] at h; exact h
  | exc e s => rw [q] at h; exact h
  | ok xs s =>
    rw [q] at h
    intro p vs v' l sr es hp gp hh no r
    obtain ⟨l2, s2⟩ := frz_new l sr hp gp hh no
    exact h (.ref p) ⟨upd v'.G p (.lst vs), v'.H, v'.m, v'.st⟩ l2 s2 es (.lst (SqL.of upd_same) (r.mono (same_new gp _) .refl))
theorem lift_nw {K : PySem.W.Frag} {σ : L2.St} {H : Hp} {Q : VK} (h : liftE K C (eNw f) σ H Q) : liftF K C f σ H Q := by
  obtain ⟨δ, v, re, eH, h⟩ := h
  refine ⟨δ, v, re, eH, ?_⟩
  unfold eNw at h
  cases q : f δ v.st with
  | stk => rw [q] at h; exact h
  | exc e s => rw [q] at h; exact h
  | ok xs s =>
    rw [q] at h
    intro p vs v' l sr es hp gp hh no r
    obtain ⟨l2, s2⟩ := adopt l sr hp gp hh no r
    subst es
    exact h (.ref p) (v'.alloc p v'.H (.lst xs)) l2 s2 rfl (.ob mset_same)
theorem SF.fz (h : SF X C e f) : SE X C e (eFz f) := pe_weak h fun σ H Q z => lift_fz z
theorem SF.nw (h : SF X C e f) : SE X C e (eNw f) := pe_weak h fun σ H Q z => lift_nw z
theorem onF_bind {α β : Type} {K : PySem.W.Frag} {σ : L2.St} {v : Vw} {rel : α → β → Vw → Prop} {r : R α} {k : α → Sto → R (List D)} {P : List D → Addr → Vw → Prop} (h : onF K C σ v (r.bind k) P) : on K C σ v rel r fun a _ v1 => onF K C σ v1 (k a v1.st) P := by
  cases r with
  | ok a s =>
    intro b v1 l sr e q
    subst e
    have h' : onF K C σ v (k a v1.st) P := h
    show onF K C σ v1 (k a v1.st) P
    cases e : k a v1.st with
    | ok xs s2 =>
      rw [e] at h'
      intro p vs v2 l2 sr2 es hp gp hh no rr
      exact h' p vs v2 (l.trans l2) sr2 es (l.al p hp) gp hh no rr
    | exc e2 s2 => rw [e] at h'; exact fun cls dd w l2 => h' cls dd w (l.trans l2)
    | stk => rw [e] at h'; exact h'
  | exc e s => exact h
  | stk => exact h
end
end Gs

/-! G7: new lists: displays, list(..), comprehensions. -/
namespace Gs
open PySem L2
section
variable {X : Cx} {C : Cc} {pos : Pos} {e : Expr} {es : List Expr} {f : Fr} {r : As}
theorem newH {K : PySem.W.Frag} {ct : String → Addr} {v : Vw} {p : Addr} {u : HO} (sr : SR K ct v) (hp : v.H p = none) : Le v ⟨v.G, upd v.H p u, v.m, v.st⟩ ∧ SR K ct ⟨v.G, upd v.H p u, v.m, v.st⟩ ∧ ¬ (Vw.mk v.G (upd v.H p u) v.m v.st).owns p := by
  obtain ⟨l, s⟩ := more_ok sr (same_new hp u)
  refine ⟨l, s, fun q => ?_⟩
  obtain ⟨i, o, a, e, lv, em, z⟩ := q
  obtain ⟨_, w, hw, _⟩ := sr.obj_ne e lv em
  have na : a ≠ p := ne_of_none hw hp
  rcases z with z | ⟨C, fs, z⟩
  · exact na z.symm
  · have z' : upd v.H p u a = some (.ins C p fs) := z
    rw [upd_ne na] at z'
    obtain ⟨h1, _⟩ := sr.dx e lv em z'
    rw [hp] at h1
    cases h1
def fLst (r : As) : Fr := fun δ s => (r δ s).bind fun xs s1 => if xs.length ≤ sizeLine then .ok xs s1 else .stk
theorem sf_lst (h : SA X C es r) : SF X C (.List es pos) (fLst r) := pe_weak (pe_lst h) fun σ H Q ⟨δ, v, re, eH, h⟩ =>
  ⟨δ, v, re, eH, on_mono (onF_bind h) fun ds vs v1 l1 s1 r1 h1 => by
    have hl := r1.length
    by_cases z : ds.length ≤ sizeLine
    · rw [if_pos z] at h1
      refine ⟨by omega, fun p hp => ?_⟩
      obtain ⟨l2, s2, no⟩ := newH (u := .lst vs) s1 hp
      exact h1 p vs ⟨v1.G, upd v1.H p (.lst vs), v1.m, v1.st⟩ l2 s2 rfl hp (s1.free hp) upd_same no r1
    · rw [if_neg z] at h1
      exact h1.elim⟩
/-- list(x) -/
def fList (f : E) : Fr := fun δ s => (f δ s).bind fun d s1 => match rsv s1 d with
  | .lst xs => .ok xs s1
  | .tup xs => .ok xs s1
  | _ => .stk
theorem sf_list {x : Str} {p : Pos} {a : Expr} {fa : E} (hx : x = "list") (hg : Gl X x) (hm : X.mg x = none) (ha : SE X C a fa) (hv : bootBuiltins x = some (.type "list")) (hn : x ≠ "__name__" := by decide) (hdb : (x == ("__debug__" : Str)) = false := by decide)
    (he : starEach [a] X.env = (false, eval a X.env) :: starEach [] X.env := by rfl) (hpl : (backTo pos (starEach [] X.env)).any (·.1) = false := by rfl) : SF X C (.Call (.Name x p) [a] [] pos) (fList fa) :=
  pe_weak (pe_callTy call_list_of hg hm hv (pa_cons ha pa_nil he) hn hdb he hpl) fun σ H Q ⟨δ, v, re, eH, h⟩ =>
  ⟨δ, v, re, eH, on_mono (onF_bind h) fun d x v1 l1 s1 r1 h1 => by
    have t := r1.top s1
    have go : ∀ (vs : List V) (ds : List D) (c : Addr), v1.H c = none → RepL X.K C.ct v1.G v1.m ds vs → onF X.K C σ v1 (.ok ds v1.st) (fun _ p v' => Q (.ref p) v'.H) → Q (.ref c) (upd v1.H c (.lst vs)) := fun vs ds c hc rr hh => by
      obtain ⟨l2, s2, no⟩ := newH (u := .lst vs) s1 hc
      exact hh c vs ⟨v1.G, upd v1.H c (.lst vs), v1.m, v1.st⟩ l2 s2 rfl hc (s1.free hc) upd_same no rr
    cases z : rsv v1.st d with
    | lst xs =>
      rw [z] at h1 t
      cases t with
      | @lst a vs _ p q => exact ⟨a, vs, rfl, .inl p, fun c hc => go _ _ c hc q h1⟩
    | tup xs =>
      rw [z] at h1 t
      cases t with
      | @tup a vs _ p q => exact ⟨a, vs, rfl, .inr (sqt_mono s1.sub p), fun c hc => go _ _ c hc q h1⟩
    | _ => rw [z] at h1; exact h1.elim⟩
end
/-! ### comprehensions -/
def wipeD (δ : Sl) : List Nat → Sl
  | [] => δ
  | v :: vs => (wipeD δ vs).set v none
theorem RE.wipe {K : PySem.W.Frag} {C : Cc} {σ : L2.St} {δ : Sl} {v : Vw} (r : RE K C σ δ v) : ∀ vs : List Nat, RE K C (L2.wipe σ vs) (wipeD δ vs) v
  | [] => r
  | i :: vs => (RE.wipe r vs).setU i none
theorem RE.wish {K : PySem.W.Frag} {C : Cc} {σ : L2.St} {δ : Sl} {v : Vw} (r : RE K C σ δ v) (W : WX) : RE K { C with W := W } σ δ v := ⟨r.le, r.sr, r.len, r.sl⟩
theorem wipe_get (σ : L2.St) : ∀ (vs : List Nat) (j : Nat), (L2.wipe σ vs)[j]? = if j ∈ vs ∧ j < σ.length then some none else σ[j]?
  | [], j => by simp [L2.wipe]
  | v :: vs, j => by
    unfold L2.wipe
    by_cases e : v = j
    · subst e
      by_cases h : v < σ.length
      · rw [List.getElem?_set_self (by rw [wipe_length]; exact h), if_pos ⟨List.mem_cons_self .., h⟩]
      · rw [if_neg fun z => h z.2, List.getElem?_eq_none (by rw [List.length_set, wipe_length]; omega), List.getElem?_eq_none (by omega)]
    · rw [List.getElem?_set_ne e, wipe_get σ vs j]
      have : (j ∈ v :: vs) ↔ j ∈ vs := by simp [Ne.symm e]
      simp only [this]
theorem wipe_off {is vs : List Nat} {σ σ' : L2.St} (o : Off is (L2.wipe σ vs) σ') (h : ∀ i ∈ is, i ∈ vs) : L2.wipe σ' vs = L2.wipe σ vs := by
  have hl : σ'.length = σ.length := by rw [o.1, wipe_length]
  apply List.ext_getElem?
  intro j
  rw [wipe_get, wipe_get, hl]
  by_cases hj : j ∈ vs ∧ j < σ.length
  · rw [if_pos hj, if_pos hj]
  · rw [if_neg hj, if_neg hj]
    by_cases hj2 : j ∈ vs
    · have : ¬ j < σ.length := fun z => hj ⟨hj2, z⟩
      rw [List.getElem?_eq_none (by omega), List.getElem?_eq_none (by omega)]
    · rw [o.2 j fun z => hj2 (h j z), wipe_get, if_neg hj]
abbrev Cc.nox (C : Cc) : Cc := { C with W := fun _ _ _ _ => False }
/-- what the turns give -/
def lcD (p : Pt) (c : T) (e : E) (δ : Sl) : List D → Sto → R (List D)
  | [], s => .ok [] s
  | d :: ds, s => match bindP p d δ with
    | none => .stk
    | some δ1 => match c δ1 s with
      | .ok true s1 => (match e δ1 s1 with
        | .ok y s2 => (match lcD p c e δ ds s2 with
          | .ok r s3 => .ok (y :: r) s3
          | _ => .stk)
        | _ => .stk)
      | .ok false s1 => lcD p c e δ ds s1
      | _ => .stk
theorem lcD_exc {p : Pt} {c : T} {e : E} {δ : Sl} : ∀ (ds : List D) (s : Sto) (ex : Ex) (s' : Sto), lcD p c e δ ds s ≠ .exc ex s'
  | [], s, ex, s', z => nomatch z
  | d :: ds, s, ex, s', z => by
    simp only [lcD] at z
    split at z
    · exact nomatch z
    · split at z
      · split at z
        · split at z <;> exact nomatch z
        · exact nomatch z
      · exact lcD_exc ds _ _ _ z
      · exact nomatch z
def fLc (it : As) (vs : List Nat) (p : Pt) (c : T) (e : E) : Fr := fun δ s => (it δ s).bind fun items s1 => (lcD p c e (wipeD δ vs) items s1).bind fun xs s2 => if xs.length ≤ sizeLine then .ok xs s2 else .stk
def tTrue : T := fun _ s => .ok true s
section
variable {X : Cx} {C : Cc} {pos : Pos}
/-- a list that is being made at L stays aside -/
structure Aside (v : Vw) (L : Addr) (va : List V) : Prop where
  h : v.H L = some (.lst va)
  g : v.G L = none
  no : ¬ v.owns L
theorem Aside.step {v v' : Vw} {L : Addr} {va : List V} (a : Aside v L va) (l : Le v v') : Aside v' L va := by
  refine ⟨l.h _ _ a.h a.no, ?_, fun q => ?_⟩
  · cases z : v'.G L with
    | none => rfl
    | some o =>
      rcases l.nw L (by rw [z]; exact fun y => nomatch y) with y | y | y
      · exact absurd a.g y
      · rw [a.h] at y; cases y
      · exact absurd y a.no
  · rcases l.ow L q with y | y
    · exact a.no y
    · rw [a.h] at y; cases y
theorem lift_lc {K : PySem.W.Frag} {it : As} {vs : List Nat} {p : Pt} {c : T} {e : E} (hp : ∀ i ∈ idxP p, i ∈ vs) {σ : L2.St} {H : Hp} {Q : VK} (h : liftF K C (fLc it vs p c e) σ H Q) :
    tLc (liftI K C it) (liftG K C.nox p) (liftT K C.nox c) (liftE K C.nox e) vs σ H Q := by
  obtain ⟨δ, v, re, eH, h⟩ := h
  refine ⟨δ, v, re, eH, on_mono (onF_bind h) fun items J v1 l1 sr1 ok h1 => ?_⟩
  intro L hD
  have h2 : onF K C σ v1 ((lcD p c e (wipeD δ vs) items v1.st).bind fun xs s2 => if xs.length ≤ sizeLine then .ok xs s2 else .stk) fun _ p v' => Q (.ref p) v'.H := h1
  clear h1
  cases q1 : lcD p c e (wipeD δ vs) items v1.st with
  | stk => rw [q1] at h2; exact h2.elim
  | exc ex s' => exact absurd q1 (lcD_exc _ _ _ _)
  | ok xs s9 =>
    rw [q1] at h2
    have h3 : xs.length ≤ sizeLine ∧ ∀ (va : List V) (v2 : Vw), Le v1 v2 → SR K C.ct v2 → v2.st = s9 → Aside v2 L va → RepL K C.ct v2.G v2.m xs va → Q (.ref L) v2.H := by
      have h4 : onF K C σ v1 (if xs.length ≤ sizeLine then .ok xs s9 else .stk) fun _ p v' => Q (.ref p) v'.H := h2
      by_cases z : xs.length ≤ sizeLine
      · rw [if_pos z] at h4
        exact ⟨z, fun va v2 l2 s2 es a2 ra => h4 L va v2 l2 s2 es hD a2.g a2.h a2.no ra⟩
      · rw [if_neg z] at h4
        exact h4.elim
    obtain ⟨hz, fin⟩ := h3
    clear h2
    have start : ∃ v2, v2.H = upd v1.H L (.lst []) ∧ Le v1 v2 ∧ SR K C.ct v2 ∧ Aside v2 L [] ∧ v2.st = v1.st := by
      obtain ⟨l2, s2, no⟩ := newH (u := .lst []) sr1 hD
      exact ⟨⟨v1.G, upd v1.H L (.lst []), v1.m, v1.st⟩, rfl, l2, s2, ⟨upd_same, sr1.free hD, no⟩, rfl⟩
    refine ⟨fun i m H2 => m = items.length - i ∧ i ≤ items.length ∧ ∃ (v2 : Vw) (acc rest : List D) (va : List V), v2.H = H2 ∧ Le v1 v2 ∧ SR K C.ct v2 ∧ Aside v2 L va ∧ RepL K C.ct v2.G v2.m acc va ∧
      lcD p c e (wipeD δ vs) (items.drop i) v2.st = .ok rest s9 ∧ acc ++ rest = xs, ?_, ?_⟩
    · obtain ⟨v2, e2, l2, s2, a2, es⟩ := start
      exact ⟨items.length, by simp, Nat.zero_le _, v2, [], xs, [], e2, l2, s2, a2, .nil, by rw [es]; exact q1, rfl⟩
    rintro i m H2 ⟨rfl, hi, v2, acc, rest, va, rfl, l2, s2, a2, ra, el, ex⟩
    by_cases hlt : i < items.length
    · refine .inr ⟨ok.go i v2 l2 s2 hlt, fun H3 => ∃ (v2 : Vw) (acc rest : List D) (va : List V), v2.H = H3 ∧ Le v1 v2 ∧ SR K C.ct v2 ∧ Aside v2 L va ∧ RepL K C.ct v2.G v2.m acc va ∧
        lcD p c e (wipeD δ vs) (items.drop (i + 1)) v2.st = .ok rest s9 ∧ acc ++ rest = xs, fun H' n => ⟨items.length - (i + 1), by omega, rfl, hlt, n⟩, fun x H' y => ?_⟩
      obtain ⟨d, v3, ed, rfl, l3, s3, e3, r3⟩ := ok.yld i v2 x H' l2 s2 hlt y
      have ed2 : items.drop i = d :: items.drop (i + 1) := by
        rw [List.drop_eq_getElem_cons hlt]
        rw [List.getElem?_eq_getElem hlt] at ed
        rw [Option.some.inj ed]
      rw [ed2] at el
      simp only [lcD] at el
      cases eb : bindP p d (wipeD δ vs) with
      | none => rw [eb] at el; exact nomatch el
      | some δ1 =>
        rw [eb] at el
        simp only at el
        have re3 := (((re.step l1 sr1).step l2 s2).step l3 s3)
        refine ⟨d, wipeD δ vs, v3, δ1, (re3.wipe vs).wish _, rfl, r3, eb, fun σ4 re4 o4 => ⟨wipe_off o4 hp, δ1, v3, re4, rfl, ?_⟩⟩
        rw [e3]
        cases ec : c δ1 v2.st with
        | stk => rw [ec] at el; exact nomatch el
        | exc _ _ => rw [ec] at el; exact nomatch el
        | ok b s4 =>
          rw [ec] at el
          intro b2 v4 l4 s4' es4 eb2
          cases eb2
          cases b with
          | true =>
            rw [if_pos rfl]
            simp only at el
            refine ⟨δ1, v4, re4.step l4 s4', rfl, ?_⟩
            rw [es4]
            cases ee : e δ1 s4 with
            | stk => rw [ee] at el; exact nomatch el
            | exc _ _ => rw [ee] at el; exact nomatch el
            | ok y0 s5 =>
              rw [ee] at el
              intro y5 v5 l5 s5' es5 r5
              simp only at el
              cases er : lcD p c e (wipeD δ vs) (items.drop (i + 1)) s5 with
              | stk => rw [er] at el; exact nomatch el
              | exc _ _ => rw [er] at el; exact nomatch el
              | ok rest2 s6 =>
                rw [er] at el
                simp only [R.ok.injEq] at el
                obtain ⟨el, es6⟩ := el
                subst el
                subst es6
                have l25 := (l3.trans l4).trans l5
                have a5 := a2.step l25
                have hl := ra.length
                have hl2 : acc.length + (rest2.length + 1) = xs.length := by rw [← ex]; simp
                obtain ⟨s7, ow7⟩ := side_ok (u := .lst (va ++ [y5])) s5' a5.g a5.no
                refine ⟨va, a5.h, by omega, ⟨v5.G, upd v5.H L (.lst (va ++ [y5])), v5.m, v5.st⟩, acc ++ [y0], rest2, va ++ [y5], rfl, ?_, s7, ⟨upd_same, a5.g, fun q => a5.no (ow7 _ q)⟩, (l25.repl ra).append (RepL.one r5), ?_, by rw [List.append_assoc]; exact ex⟩
                · have l15 := l2.trans l25
                  exact ⟨l15.g, l15.m, fun b o hb nb => by
                    show upd v5.H L _ b = some o
                    rw [upd_ne (ne_of_none hb hD)]
                    exact l15.h b o hb nb, l15.nw, fun b q => l15.ow b (ow7 b q), fun b q => by
                    have q' : upd v5.H L (.lst (va ++ [y5])) b = none := q
                    by_cases z : b = L
                    · rw [z, upd_same] at q'; cases q'
                    · rw [upd_ne z] at q'
                      exact l15.al b q'⟩
                · show lcD p c e (wipeD δ vs) (items.drop (i + 1)) v5.st = .ok rest2 s6
                  rw [es5]
                  exact er
          | false =>
            rw [if_neg Bool.false_ne_true]
            simp only at el
            have l24 := l3.trans l4
            exact ⟨v4, acc, rest, va, rfl, l2.trans l24, s4', a2.step l24, l24.repl ra, by rw [es4]; exact el, ex⟩
    · have ei : i = items.length := by omega
      subst ei
      rw [List.drop_length] at el
      simp only [lcD, R.ok.injEq] at el
      obtain ⟨el, es⟩ := el
      subst el
      rw [List.append_nil] at ex
      subst ex
      exact .inl ⟨ok.stop _ v2 l2 s2 (Nat.le_refl _), fin va v2 l2 s2 es a2 ra⟩
abbrev STs (X : Cx) (C : Cc) (ifs : List Expr) (t : T) : Prop := PTs X ifs (liftT X.K C t)
theorem sts_nil : STs X C [] tTrue := ⟨fun pins s σ H Q I ⟨δ, v, re, eH, h⟩ => by
  subst eH
  exact pts_nil.run pins s σ _ Q I (h true v .refl re.sr rfl rfl)⟩
theorem sts_one {c : Expr} {t : T} (h : ST X C c t) : STs X C [c] t := pts_one h
variable {elt tg iter : Expr} {ifs : List Expr} {scope : Scope} {it : As} {p : Pt} {c : T} {e : E}
theorem sf_lc (own : List (Str × Nat)) (hc : X.calm = true) (hN : X.N.Nodup) (hi : SI X C tg iter it) (ok : BlkOk X.N X.env.scope scope own) (hp : ∀ i ∈ idxP p, i ∈ own.map (·.2))
    (hg : ∀ (s : Shared) (H : Hp) (c0 : Addr) (cl : List (Str × Addr)) (fp : List Addr), SG (X.blk s H scope (compEnvC scope cl c0 X.env) fp) C.nox tg p)
    (ht : ∀ (s : Shared) (H : Hp) (c0 : Addr) (cl : List (Str × Addr)) (fp : List Addr), STs (X.blk s H scope (compEnvC scope cl c0 X.env) fp) C.nox ifs c)
    (he : ∀ (s : Shared) (H : Hp) (c0 : Addr) (cl : List (Str × Addr)) (fp : List Addr), SE (X.blk s H scope (compEnvC scope cl c0 X.env) fp) C.nox elt e) (hs : ∀ x, foldedSetIterable iter X.env x = pure x := by intro _; rfl) :
    SF X C (.ListComp elt [⟨tg, iter, ifs, 0⟩] scope pos) (fLc it (own.map (·.2)) p c e) :=
  pe_weak (pe_lc hc hN hi ok hg ht he hs) fun σ H Q h => lift_lc hp h
/-- y = [..] -/
theorem lift_setLc {K : PySem.W.Frag} {f : Fr} {g : Fr → E} {i : Nat} {Dn : Ends} {σ : L2.St} {H : Hp} {tlc : TE} (w : ∀ σ H Q, liftE K C (g f) σ H Q → tlc σ H Q) (h : liftS K C (sSet i (g f)) Dn σ H) : tAsg tlc (gName i) Dn σ H := by
  refine w _ _ _ ?_
  obtain ⟨δ, v, re, eH, h⟩ := h
  exact ⟨δ, v, re, eH, on_mono (onS_R re h) fun d x v1 l1 s1 r1 h1 => h1 (σ.set i (some x)) v1 ((re.step l1 s1).setV i r1) .refl rfl⟩
theorem ss_setLc (i : Nat) {g : Fr → E} {y : Str} {py spos : Pos} (own : List (Str × Nat)) (hgz : ∀ σ H Q, liftE X.K C (g (fLc it (own.map (·.2)) p c e)) σ H Q → liftF X.K C (fLc it (own.map (·.2)) p c e) σ H Q) (hc : X.calm = true) (hN : X.N.Nodup) (hy : X.N[i]? = some y) (hyl : X.env.scope.names.lookup y = some .local)
    (hsw : swapsWith (.ListComp elt [⟨tg, iter, ifs, 0⟩] scope pos) (some (.Name y py)) spos.line X.env = pure true) (hi : SI X C tg iter it) (ok : BlkOk X.N X.env.scope scope own) (hp : ∀ i ∈ idxP p, i ∈ own.map (·.2))
    (hg : ∀ (s : Shared) (H : Hp) (c0 : Addr) (cl : List (Str × Addr)) (fp : List Addr), SG (X.blk s H scope (compEnvC scope cl c0 X.env) fp) C.nox tg p)
    (ht : ∀ (s : Shared) (H : Hp) (c0 : Addr) (cl : List (Str × Addr)) (fp : List Addr), STs (X.blk s H scope (compEnvC scope cl c0 X.env) fp) C.nox ifs c)
    (he : ∀ (s : Shared) (H : Hp) (c0 : Addr) (cl : List (Str × Addr)) (fp : List Addr), SE (X.blk s H scope (compEnvC scope cl c0 X.env) fp) C.nox elt e) (hs : ∀ x, foldedSetIterable iter X.env x = pure x := by intro _; rfl) :
    SS X C (.Assign [.Name y py] (.ListComp elt [⟨tg, iter, ifs, 0⟩] scope pos) spos) (sSet i (g (fLc it (own.map (·.2)) p c e))) :=
  ps_weak (ps_setLc hc hN hy hyl hsw hi ok hg ht he hs) fun Dn σ H h => lift_setLc (g := g) (fun _ _ _ z => lift_lc hp (hgz _ _ _ z)) h
end
end Gs

/-! G8: in, is of truths; lists of the store; walks. -/
namespace Gs
open PySem L2
def gIn : B2
  | .str x, .str z => match x.cps.toList with
    | [c] => some (.bl (decide (c ∈ z.cps.toList)))
    | _ => none
  | .str x, .tup ds => (strsOf ds).map fun zs => .bl (decide (x ∈ zs))
  | .str x, .lst ds => (strsOf ds).map fun zs => .bl (decide (x ∈ zs))
  | .int x, .tup ds => (intsOf ds).map fun zs => .bl (decide (x ∈ zs))
  | .int x, .lst ds => (intsOf ds).map fun zs => .bl (decide (x ∈ zs))
  | _, _ => none
def gNin : B2 := fun x y => match gIn x y with
  | some (.bl b) => some (.bl !b)
  | _ => none
theorem inV_strs (x : Str) : ∀ zs : List Str, inV (.str x) (zs.map V.str) = decide (x ∈ zs)
  | [] => by simp [inV]
  | z :: zs => by
    have ih := inV_strs x zs
    unfold inV at ih ⊢
    rw [List.map_cons, List.any_cons, ih]
    have e : eqV (.str z) (.str x) = (z == x) := rfl
    rw [e]
    by_cases h : z = x
    · simp [h]
    · have h' : ¬ x = z := fun q => h q.symm
      simp [h, h']
theorem flat_strs : ∀ zs : List Str, (zs.map V.str).all flatV = true
  | [] => rfl
  | z :: zs => by
    rw [List.map_cons, List.all_cons, flat_strs zs]
    rfl
theorem inV_ints (x : Int) : ∀ zs : List Int, inV (.int x) (zs.map V.int) = decide (x ∈ zs)
  | [] => by simp [inV]
  | z :: zs => by
    have ih := inV_ints x zs
    unfold inV at ih ⊢
    rw [List.map_cons, List.any_cons, ih]
    have e : eqV (.int z) (.int x) = (z == x) := rfl
    rw [e]
    by_cases h : z = x
    · simp [h]
    · have h' : ¬ x = z := fun q => h q.symm
      simp [h, h']
theorem flat_ints : ∀ zs : List Int, (zs.map V.int).all flatV = true
  | [] => rfl
  | z :: zs => by
    rw [List.map_cons, List.all_cons, flat_ints zs]
    rfl
theorem one_sign {x : Str} {c : Nat} (h : x.cps.toList = [c]) : x = ⟨#[c]⟩ := by
  cases x with
  | mk a =>
    congr 1
    exact Array.toList_inj.mp h
section
variable {X : Cx}
theorem o_in {ct : String → Addr} : OpR X (compareOp .In) (rD X.K ct gIn) := by
  intro pins s σ H x y v u Q I rx ry h
  obtain ⟨v0, dx, dy, d, rfl, sr, e, r1, r2, h⟩ := h
  cases r1 <;> cases r2 <;> simp only [gIn, reduceCtorEq] at e
  · rename_i x a vs ds p q
    cases hz : intsOf ds with
    | none => rw [hz] at e; exact nomatch e
    | some zs =>
      rw [hz] at e
      simp only [Option.map_some, Option.some.injEq] at e
      subst e
      have hd := intsOf_eq hz
      subst hd
      have hv := RepL.of_ints q
      subst hv
      refine op_in_seq pins s σ _ _ _ v u Q I rx ry ⟨a, _, rfl, .inr (sqt_mono sr.sub p), rfl, flat_ints zs, ?_⟩
      rw [inV_ints]
      exact h _ v0 .refl sr rfl (.bl _)
  · rename_i x a vs ds p q
    cases hz : intsOf ds with
    | none => rw [hz] at e; exact nomatch e
    | some zs =>
      rw [hz] at e
      simp only [Option.map_some, Option.some.injEq] at e
      subst e
      have hd := intsOf_eq hz
      subst hd
      have hv := RepL.of_ints q
      subst hv
      refine op_in_seq pins s σ _ _ _ v u Q I rx ry ⟨a, _, rfl, .inl p, rfl, flat_ints zs, ?_⟩
      rw [inV_ints]
      exact h _ v0 .refl sr rfl (.bl _)
  · rename_i x z
    split at e
    · rename_i c hc
      simp only [Option.some.injEq] at e
      subst e
      exact op_in_sign pins s σ _ _ _ v u Q I rx ry ⟨c, z, by rw [one_sign hc], rfl, h _ v0 .refl sr rfl (.bl _)⟩
    · exact nomatch e
  · rename_i x a vs ds p q
    cases hz : strsOf ds with
    | none => rw [hz] at e; exact nomatch e
    | some zs =>
      rw [hz] at e
      simp only [Option.map_some, Option.some.injEq] at e
      subst e
      have hd := strsOf_eq hz
      subst hd
      have hv := RepL.of_strs q
      subst hv
      refine op_in_seq pins s σ _ _ _ v u Q I rx ry ⟨a, _, rfl, .inr (sqt_mono sr.sub p), rfl, flat_strs zs, ?_⟩
      rw [inV_strs]
      exact h _ v0 .refl sr rfl (.bl _)
  · rename_i x a vs ds p q
    cases hz : strsOf ds with
    | none => rw [hz] at e; exact nomatch e
    | some zs =>
      rw [hz] at e
      simp only [Option.map_some, Option.some.injEq] at e
      subst e
      have hd := strsOf_eq hz
      subst hd
      have hv := RepL.of_strs q
      subst hv
      refine op_in_seq pins s σ _ _ _ v u Q I rx ry ⟨a, _, rfl, .inl p, rfl, flat_strs zs, ?_⟩
      rw [inV_strs]
      exact h _ v0 .refl sr rfl (.bl _)
theorem o_nin {ct : String → Addr} : OpR X (compareOp .NotIn) (rD X.K ct gNin) := by
  intro pins s σ H x y v u Q I rx ry h
  obtain ⟨v0, dx, dy, d, rfl, sr, e, r1, r2, h⟩ := h
  unfold gNin at e
  cases r1 <;> cases r2 <;> simp only [gIn, reduceCtorEq] at e
  · rename_i x a vs ds p q
    cases hz : intsOf ds with
    | none => rw [hz] at e; exact nomatch e
    | some zs =>
      rw [hz] at e
      simp only [Option.map_some, Option.some.injEq] at e
      subst e
      have hd := intsOf_eq hz
      subst hd
      have hv := RepL.of_ints q
      subst hv
      refine op_notIn_seq pins s σ _ _ _ v u Q I rx ry ⟨a, _, rfl, .inr (sqt_mono sr.sub p), rfl, flat_ints zs, ?_⟩
      rw [inV_ints]
      exact h _ v0 .refl sr rfl (.bl _)
  · rename_i x a vs ds p q
    cases hz : intsOf ds with
    | none => rw [hz] at e; exact nomatch e
    | some zs =>
      rw [hz] at e
      simp only [Option.map_some, Option.some.injEq] at e
      subst e
      have hd := intsOf_eq hz
      subst hd
      have hv := RepL.of_ints q
      subst hv
      refine op_notIn_seq pins s σ _ _ _ v u Q I rx ry ⟨a, _, rfl, .inl p, rfl, flat_ints zs, ?_⟩
      rw [inV_ints]
      exact h _ v0 .refl sr rfl (.bl _)
  · rename_i x z
    split at e
    · rename_i b hb
      simp only [Option.some.injEq] at e
      subst e
      split at hb
      · rename_i c hc
        simp only [Option.some.injEq, D.bl.injEq] at hb
        subst hb
        exact op_notIn_sign pins s σ _ _ _ v u Q I rx ry ⟨c, z, by rw [one_sign hc], rfl, h _ v0 .refl sr rfl (.bl _)⟩
      · exact nomatch hb
    · exact nomatch e
  · rename_i x a vs ds p q
    cases hz : strsOf ds with
    | none => rw [hz] at e; exact nomatch e
    | some zs =>
      rw [hz] at e
      simp only [Option.map_some, Option.some.injEq] at e
      subst e
      have hd := strsOf_eq hz
      subst hd
      have hv := RepL.of_strs q
      subst hv
      refine op_notIn_seq pins s σ _ _ _ v u Q I rx ry ⟨a, _, rfl, .inr (sqt_mono sr.sub p), rfl, flat_strs zs, ?_⟩
      rw [inV_strs]
      exact h _ v0 .refl sr rfl (.bl _)
  · rename_i x a vs ds p q
    cases hz : strsOf ds with
    | none => rw [hz] at e; exact nomatch e
    | some zs =>
      rw [hz] at e
      simp only [Option.map_some, Option.some.injEq] at e
      subst e
      have hd := strsOf_eq hz
      subst hd
      have hv := RepL.of_strs q
      subst hv
      refine op_notIn_seq pins s σ _ _ _ v u Q I rx ry ⟨a, _, rfl, .inl p, rfl, flat_strs zs, ?_⟩
      rw [inV_strs]
      exact h _ v0 .refl sr rfl (.bl _)
def gIsB : B2
  | .bl a, .bl b => some (.bl (decide (a = b)))
  | _, _ => none
def gNotB : B2
  | .bl a, .bl b => some (.bl (!decide (a = b)))
  | _, _ => none
theorem o_isB {ct : String → Addr} : OpR X (compareOp .Is) (rD X.K ct gIsB) := by
  intro pins s σ H x y v u Q I rx ry h
  obtain ⟨v0, dx, dy, d, rfl, sr, e, r1, r2, h⟩ := h
  cases r1 <;> cases r2 <;> simp only [gIsB, Option.some.injEq, reduceCtorEq] at e
  subst e
  exact op_isBl pins s σ _ _ _ v u Q I rx ry ⟨_, _, rfl, rfl, h _ v0 .refl sr rfl (.bl _)⟩
theorem o_notB {ct : String → Addr} : OpR X (compareOp .IsNot) (rD X.K ct gNotB) := by
  intro pins s σ H x y v u Q I rx ry h
  obtain ⟨v0, dx, dy, d, rfl, sr, e, r1, r2, h⟩ := h
  cases r1 <;> cases r2 <;> simp only [gNotB, Option.some.injEq, reduceCtorEq] at e
  subst e
  exact op_notBl pins s σ _ _ _ v u Q I rx ry ⟨_, _, rfl, rfl, h _ v0 .refl sr rfl (.bl _)⟩
end
/-! ### lists of the store -/
/-- the things of a list of the store -/
def lsO (s : Sto) : D → Option (List D)
  | .ob i => match s[i]? with
    | some (.lst xs) => some xs
    | _ => none
  | _ => none
def stO (s : Sto) (d : D) (xs : List D) : Sto := match d with
  | .ob i => s.set i (.lst xs)
  | _ => s
theorem lsO_at {K : PySem.W.Frag} {ct : String → Addr} {v : Vw} {d : D} {x : V} {xs : List D} (sr : SR K ct v) (r : Rep K ct v.G v.m d x) (e : lsO v.st d = some xs) :
    ∃ i a vs, d = .ob i ∧ x = .ref a ∧ v.m i = some a ∧ v.st[i]? = some (.lst xs) ∧ v.H a = some (.lst vs) ∧ RepL K ct v.G v.m xs vs := by
  unfold lsO at e
  split at e
  · rename_i i
    split at e
    · rename_i ys q
      simp only [Option.some.injEq] at e
      subst e
      cases r with
      | ob em =>
        obtain ⟨a', em', _, vs, h, r2⟩ := sr.obj i _ q rfl
        rw [em] at em'
        cases em'
        exact ⟨i, _, vs, rfl, rfl, em, q, h, r2⟩
    · exact nomatch e
  · exact nomatch e
theorem stO_ok {K : PySem.W.Frag} {ct : String → Addr} {v : Vw} {i : Nat} {a : Addr} {xs ys : List D} {us : List V} (sr : SR K ct v) (em : v.m i = some a) (q : v.st[i]? = some (.lst xs)) (r : RepL K ct v.G v.m ys us) :
    Le v (v.put i a (.lst us) (.lst ys)) ∧ SR K ct (v.put i a (.lst us) (.lst ys)) :=
  put_ok sr q rfl em (fun C b fs z => nomatch z) ⟨us, upd_same, r⟩
section
variable {X : Cx} {C : Cc} {pos : Pos} {o a b e : Expr} {fo fa fb fe : E}
/-- o.append(a) -/
def eApp (o a : E) : E := fun δ s => (o δ s).bind fun x s1 => if (lsO s1 x).isSome = true then ((a δ s1).bind fun y s2 => match lsO s2 x with
  | some xs => if xs.length < sizeLine then .ok .non (stO s2 x (xs ++ [y])) else .stk
  | none => .stk) else .stk
theorem isSome_of {α : Type} {o : Option α} (h : o.isSome = true) : ∃ a, o = some a := Option.isSome_iff_exists.mp h
theorem se_app {p2 p3 : Pos} (ho : SE X C o fo) (ha : SE X C a fa) (hbase : attributeBase o "append" X.env (eval o X.env) = eval o X.env := by rfl)
    (hfew : ((backTo p3 (starEach [a] X.env)).all (fun x => !x.1) && (backToKw p3 (keywordEach [] X.env)).all (fun x => x.1.isSome)
      && decide ([a].length + ([] : List Keyword).length + (if ([] : List Keyword).isEmpty then 0 else 1) < 30)) = true := by rfl)
    (hline : (p2.endLine == p3.line) = true := by rfl) (hst : starEach [a] X.env = (false, eval a X.env) :: starEach [] X.env := by rfl) (hpl : (backTo p3 (starEach [] X.env)).any (·.1) = false := by rfl) :
    SE X C (.Call (.Attribute o "append" p2) [a] [] p3) (eApp fo fa) :=
  pe_weak (pe_bm PySem.F.plainAttrs_list PySem.F.slot_list_append PySem.F.type_list_append mt_append ho (pa_cons ha pa_nil hst) hbase hfew hline hst hpl) fun σ H Q ⟨δ, v, re, eH, h⟩ => by
    refine ⟨δ, v, re, eH, on_mono (on_bind h) fun d x v1 l1 s1 r1 h1 => ?_⟩
    split at h1
    · rename_i hs
      obtain ⟨xs0, e0⟩ := isSome_of hs
      obtain ⟨i, p, vs0, rfl, rfl, em, q0, hh0, _⟩ := lsO_at s1 r1 e0
      refine ⟨.inl ⟨rfl, vs0, SqL.of hh0⟩, δ, v1, re.step l1 s1, rfl, on_mono (on_bind h1) fun y u v2 l2 s2 r2 h2 => ?_⟩
      cases e1 : lsO v2.st (.ob i) with
      | none => rw [e1] at h2; exact h2.elim
      | some xs =>
        rw [e1] at h2
        obtain ⟨i', p', vs, ei, ep, em', q1, hh, r0⟩ := lsO_at s2 (l2.rep r1) e1
        cases ei
        cases ep
        simp only at h2
        split at h2
        · rename_i hz
          have hl := r0.length
          obtain ⟨l3, s3⟩ := stO_ok s2 em' q1 (r0.append (RepL.one r2))
          exact ⟨p, vs, u, rfl, rfl, hh, by omega, h2 .non (v2.put i p (.lst (vs ++ [u])) (.lst (xs ++ [y]))) l3 s3 rfl .non⟩
        · exact h2.elim
    · exact h1.elim
/-- o.pop(a) -/
def ePopAt (o a : E) : E := fun δ s => (o δ s).bind fun x s1 => if (lsO s1 x).isSome = true then ((a δ s1).bind fun y s2 => match lsO s2 x, y with
  | some xs, .int k => if -(2 ^ 63) ≤ k ∧ k < 2 ^ 63 then (match seqIndex? k xs.length with
    | some j => (match xs[j]? with
      | some d => .ok d (stO s2 x (xs.eraseIdx j))
      | none => .stk)
    | none => .stk) else .stk
  | _, _ => .stk) else .stk
theorem se_popAt {p2 p3 : Pos} (ho : SE X C o fo) (ha : SE X C a fa) (hbase : attributeBase o "pop" X.env (eval o X.env) = eval o X.env := by rfl)
    (hfew : ((backTo p3 (starEach [a] X.env)).all (fun x => !x.1) && (backToKw p3 (keywordEach [] X.env)).all (fun x => x.1.isSome)
      && decide ([a].length + ([] : List Keyword).length + (if ([] : List Keyword).isEmpty then 0 else 1) < 30)) = true := by rfl)
    (hline : (p2.endLine == p3.line) = true := by rfl) (hst : starEach [a] X.env = (false, eval a X.env) :: starEach [] X.env := by rfl) (hpl : (backTo p3 (starEach [] X.env)).any (·.1) = false := by rfl) :
    SE X C (.Call (.Attribute o "pop" p2) [a] [] p3) (ePopAt fo fa) :=
  pe_weak (pe_bm PySem.F.plainAttrs_list PySem.F.slot_list_pop PySem.F.type_list_pop mt_popAt ho (pa_cons ha pa_nil hst) hbase hfew hline hst hpl) fun σ H Q ⟨δ, v, re, eH, h⟩ => by
    refine ⟨δ, v, re, eH, on_mono (on_bind h) fun d x v1 l1 s1 r1 h1 => ?_⟩
    split at h1
    · rename_i hs
      obtain ⟨xs0, e0⟩ := isSome_of hs
      obtain ⟨i, p, vs0, rfl, rfl, em, q0, hh0, _⟩ := lsO_at s1 r1 e0
      refine ⟨.inl ⟨rfl, vs0, SqL.of hh0⟩, δ, v1, re.step l1 s1, rfl, on_mono (on_bind h1) fun y u v2 l2 s2 r2 h2 => ?_⟩
      cases e1 : lsO v2.st (.ob i) with
      | none => rw [e1] at h2; exact h2.elim
      | some xs =>
        rw [e1] at h2
        obtain ⟨i', p', vs, ei, ep, em', q1, hh, r0⟩ := lsO_at s2 (l2.rep r1) e1
        cases ei
        cases ep
        have hl := r0.length
        cases r2 with
        | int k =>
          simp only at h2
          split at h2
          · rename_i hk
            cases ej : seqIndex? k xs.length with
            | none => rw [ej] at h2; exact h2.elim
            | some j =>
              rw [ej] at h2
              simp only at h2
              cases ed : xs[j]? with
              | none => rw [ed] at h2; exact h2.elim
              | some d =>
                rw [ed] at h2
                obtain ⟨w, ew, rw2⟩ := r0.get ed
                obtain ⟨l3, s3⟩ := stO_ok s2 em' q1 (r0.erase j)
                exact ⟨p, vs, k, j, w, rfl, rfl, hh, hk.1, hk.2, by rw [← hl]; exact ej, ew, h2 w (v2.put i p (.lst (vs.eraseIdx j)) (.lst (xs.eraseIdx j))) l3 s3 rfl rw2⟩
          · exact h2.elim
        | _ => exact h2.elim
    · exact h1.elim
/-- o.extend(a), a another list -/
def eExt (o a : E) : E := fun δ s => (o δ s).bind fun x s1 => if (lsO s1 x).isSome = true then ((a δ s1).bind fun y s2 => match lsO s2 x, rsv s2 y with
  | some xs, .lst ys => (match y with
    | .ob _ => if xs.length + ys.length ≤ sizeLine then .ok .non (stO s2 x (xs ++ ys)) else .stk
    | _ => .stk)
  | _, _ => .stk) else .stk
theorem se_ext {p2 p3 : Pos} (ho : SE X C o fo) (ha : SE X C a fa) (hbase : attributeBase o "extend" X.env (eval o X.env) = eval o X.env := by rfl)
    (hfew : ((backTo p3 (starEach [a] X.env)).all (fun x => !x.1) && (backToKw p3 (keywordEach [] X.env)).all (fun x => x.1.isSome)
      && decide ([a].length + ([] : List Keyword).length + (if ([] : List Keyword).isEmpty then 0 else 1) < 30)) = true := by rfl)
    (hline : (p2.endLine == p3.line) = true := by rfl) (hst : starEach [a] X.env = (false, eval a X.env) :: starEach [] X.env := by rfl) (hpl : (backTo p3 (starEach [] X.env)).any (·.1) = false := by rfl) :
    SE X C (.Call (.Attribute o "extend" p2) [a] [] p3) (eExt fo fa) :=
  pe_weak (pe_bm PySem.F.plainAttrs_list PySem.F.slot_list_extend PySem.F.type_list_extend mt_extend ho (pa_cons ha pa_nil hst) hbase hfew hline hst hpl) fun σ H Q ⟨δ, v, re, eH, h⟩ => by
    refine ⟨δ, v, re, eH, on_mono (on_bind h) fun d x v1 l1 s1 r1 h1 => ?_⟩
    split at h1
    · rename_i hs
      obtain ⟨xs0, e0⟩ := isSome_of hs
      obtain ⟨i, p, vs0, rfl, rfl, em, q0, hh0, _⟩ := lsO_at s1 r1 e0
      refine ⟨.inl ⟨rfl, vs0, SqL.of hh0⟩, δ, v1, re.step l1 s1, rfl, on_mono (on_bind h1) fun y u v2 l2 s2 r2 h2 => ?_⟩
      cases e1 : lsO v2.st (.ob i) with
      | none => rw [e1] at h2; exact h2.elim
      | some xs =>
        rw [e1] at h2
        obtain ⟨i', p', vs, ei, ep, em', q1, hh, r0⟩ := lsO_at s2 (l2.rep r1) e1
        cases ei
        cases ep
        have hl := r0.length
        split at h2
        · rename_i zs ys ez ey
          cases ez
          split at h2
          · rename_i j
            split at h2
            · rename_i hz
              have eL : lsO v2.st (.ob j) = some ys := by
                unfold rsv at ey
                unfold lsO
                dsimp only at ey ⊢
                split at ey
                · rename_i q5; cases ey; rw [q5]
                · cases ey
                · cases ey
              obtain ⟨j', b, us, ej, eu, emj, qj, hb, rb⟩ := lsO_at s2 r2 eL
              cases ej
              cases eu
              have hl2 := rb.length
              obtain ⟨l3, s3⟩ := stO_ok s2 em' q1 (r0.append rb)
              exact ⟨p, b, vs, us, rfl, rfl, hh, hb, by omega, h2 .non (v2.put i p (.lst (vs ++ us)) (.lst (xs ++ ys))) l3 s3 rfl .non⟩
            · exact h2.elim
          · exact h2.elim
        · exact h2.elim
    · exact h1.elim
/-- a list of the store from here on frozen -/
def frzD (s : Sto) (d : D) : D × Sto := match d with
  | .ob i => (match s[i]? with
    | some (.lst xs) => (.lst xs, s.set i .gone)
    | _ => (d, s))
  | _ => (d, s)
theorem frzD_ok {K : PySem.W.Frag} {ct : String → Addr} {v : Vw} {d : D} {x : V} (sr : SR K ct v) (r : Rep K ct v.G v.m d x) : ∃ v', Le v v' ∧ SR K ct v' ∧ v'.H = v.H ∧ v'.st = (frzD v.st d).2 ∧ Rep K ct v'.G v'.m (frzD v.st d).1 x := by
  unfold frzD
  split
  · rename_i i
    split
    · rename_i xs q
      cases r with
      | @ob _ a em =>
        obtain ⟨a', em', _, vs, h, r2⟩ := sr.obj i _ q rfl
        rw [em] at em'
        cases em'
        obtain ⟨l, s⟩ := frz_ok sr q rfl em h
        exact ⟨v.frz i a (.lst vs), l, s, rfl, rfl, .lst (SqL.of upd_same) (l.repl r2)⟩
    · exact ⟨v, .refl, sr, rfl, rfl, r⟩
  · exact ⟨v, .refl, sr, rfl, rfl, r⟩
def eFrz (f : E) : E := fun δ s => (f δ s).bind fun d s1 => .ok (frzD s1 d).1 (frzD s1 d).2
theorem se_frz (h : SE X C e fe) : SE X C e (eFrz fe) := pe_weak h fun σ H Q ⟨δ, v, re, eH, h⟩ =>
  ⟨δ, v, re, eH, on_mono (on_bind h) fun d x v1 l1 s1 r1 h1 => by
    obtain ⟨v2, l2, s2, eH2, es2, r2⟩ := frzD_ok s1 r1
    have h2 : Q x v2.H := h1 x v2 l2 s2 es2 r2
    rw [eH2] at h2
    exact h2⟩
/-- the list at x is frozen from here on -/
def sFrz (i : Nat) (f : S) : S := fun δ s => match δ[i]? with
  | some (some d) => f (δ.set i (some (frzD s d).1)) (frzD s d).2
  | _ => f δ s
theorem ss_frz (i : Nat) {st : Stmt} {g : S} (h : SS X C st g) : SS X C st (sFrz i g) := ps_weak h fun Dn σ H ⟨δ, v, re, eH, h⟩ => by
  unfold sFrz at h
  split at h
  · rename_i d q
    obtain ⟨x, e0, r0⟩ := re.sl i d q
    obtain ⟨v2, l2, s2, eH2, es2, r2⟩ := frzD_ok re.sr r0
    have re2 := (re.step l2 s2).setV i r2
    have eσ : σ.set i (some x) = σ := by
      apply List.ext_getElem?
      intro j
      by_cases z : i = j
      · subst z
        rw [List.getElem?_set_self (List.getElem?_eq_some_iff.mp e0).1, e0]
      · rw [List.getElem?_set_ne z]
    rw [eσ] at re2
    rw [← es2] at h
    exact ⟨_, v2, re2, eH2.trans eH, onS_same l2 h⟩
  · exact ⟨δ, v, re, eH, h⟩
/-- o[b] = e of a list of the store -/
def sSetIx (o b e : E) : S := fun δ s => sBind (e δ s) δ fun d s1 => sBind (o δ s1) δ fun x s2 => sBind (b δ s2) δ fun z s3 => match lsO s3 x, z with
  | some xs, .int k => (match ixN xs.length k with
    | some j => .nx δ (stO s3 x (xs.set j d))
    | none => .stk)
  | _, _ => .stk
theorem ss_setIx {p2 : Pos} (ho : SE X C o fo) (hi : SE X C b fb) (he : SE X C e fe)
    (ha : ∀ v, assign (.Subscript o b p2) X.env v = (do
      let ov ← holding [v] (eval o X.env)
      let iv ← holding [v, ov] (eval b X.env)
      standAt p2
      holding [v, ov, iv] (setItem ov iv v)
      release [v, ov, iv] []) := by intro _; rfl)
    (hs : swapsWithSole [.Subscript o b p2] e pos.line X.env = pure false := by rfl) (hw : swappedStores [.Subscript o b p2] e X.env = pure none := by rfl)
    (h1 : (assignEach [.Subscript o b p2] X.env).map (·.2) = [assign (.Subscript o b p2) X.env] := by rfl) :
    SS X C (.Assign [.Subscript o b p2] e pos) (sSetIx fo fb fe) :=
  ps_weak (ps_asg he (pg_sub ho hi set_list ha) hs hw h1) fun Dn σ H ⟨δ, v, re, eH, h⟩ => by
    refine ⟨δ, v, re, eH, on_mono (onS_R re h) fun d x v1 l1 s1 r1 h1 => ?_⟩
    have re1 := re.step l1 s1
    refine ⟨δ, v1, re1, rfl, on_mono (onS_R re1 h1) fun d2 x2 v2 l2 s2 r2 h2 => ?_⟩
    have re2 := re1.step l2 s2
    refine ⟨δ, v2, re2, rfl, on_mono (onS_R re2 h2) fun z u v3 l3 s3 r3 h3 => ?_⟩
    have re3 := re2.step l3 s3
    split at h3
    · rename_i xs k e0
      split at h3
      · rename_i j ej
        obtain ⟨i, p, vs, rfl, rfl, em, q0, hh, r0⟩ := lsO_at s3 (l3.rep r2) e0
        cases r3
        have hl := r0.length
        obtain ⟨l4, s4⟩ := stO_ok s3 em q0 (r0.set j ((l2.trans l3).rep r1))
        exact ⟨p, vs, k, j, rfl, rfl, hh, by rw [← hl]; exact ej, h3 σ (v3.put i p (.lst (vs.set j x)) (.lst (xs.set j d))) (re3.step l4 s4) l4 rfl⟩
      · exact h3.elim
    · exact h3.elim
end
end Gs

/-! G9: walks, constants, ends; reckoning with the functions over data and store. -/
namespace Gs
open PySem L2
theorem hu_big {A : Around} {k : Nat} (hr : Room k A) : A.units + 64 < cLine := hr.units
/-- turns that a while may take -/
def fuel : Nat := 100000
/-- what is asked of the law: a script's numbers, True -/
def spL (K : PySem.W.Frag) (F : List D → Sto → R D) : Sp := fun vs H Q E => ∃ (a : Addr) (ns : List Int) (s' : Sto), vs = [.ref a] ∧ SqL K H a (ns.map V.int) ∧ F [.lst (ns.map D.int)] [] = .ok (.bl true) s' ∧ ∀ H', Q (.bl true) H'
theorem fn_law {P : Program} {w : World} {K : PySem.W.Frag} {mg : Str → Option Value} {base : Heap} {CX : CXT} {k : Nat} {f : Addr} {fd : FuncData} {ps : List Str} {ct : String → Addr} {F : List D → Sto → R D} (h : FnOk P w K mg base CX k f fd ps (spG K ct 1 F)) :
    FnOk P w K mg base CX k f fd ps (spL K F) := by
  have cv : ∀ (vs : List V) (H : Hp) (Q : VK) (E : XK), spL K F vs H Q E → spG K ct 1 F vs H Q E := by
    rintro vs H Q E ⟨a, ns, s', rfl, hS, hF, q⟩
    refine ⟨⟨H, H, fun _ => none, []⟩, [.lst (ns.map D.int)], rfl, ⟨Same.refl _, fun _ _ => rfl, fun i o e => ?_, fun i j o u a e => ?_⟩, rfl, .cons (.lst hS (RepL.ints ns)) .nil, ?_⟩
    · simp at e
    · simp at e
    · show match F [.lst (ns.map D.int)] [] with
        | .ok d s => _
        | .exc e s => _
        | .stk => _
      rw [hF]
      intro x v' l sr es r
      cases r
      exact q v'.H
  exact ⟨fun vs H Q E z => h.len vs H Q E (cv vs H Q E z), fun A outer s H args us vs Q E a b c d z => h.run A outer s H args us vs Q E a b c d (cv vs H Q E z)⟩
theorem law_sp {K : PySem.W.Frag} {H : Hp} {a : Addr} {ns : List Int} {F : List D → Sto → R D} (hS : SqL K H a (ns.map V.int)) (h : ∃ s', F [.lst (ns.map D.int)] [] = .ok (.bl true) s') : spL K F [.ref a] H (fun v _ => v = .bl true) fun _ _ _ => False :=
  let ⟨s', e⟩ := h
  ⟨a, ns, s', rfl, hS, e, fun _ => rfl⟩
theorem law_cx {P : Program} {w : World} {H : Hp} {s : Shared} {e : Value} {s' : Shared} (h : L2.CX P w [] H s (fun _ _ _ => False) e s') : False := by
  obtain ⟨_, _, _, _, _, _, _, _, _, _, _, _, z⟩ := h
  exact z
/-! ### constants of the module -/
def KC (K : PySem.W.Frag) (mg : Str → Option Value) (x : Str) (d : D) : Prop := ∀ ct : String → Addr, ∃ v u, mg x = some u ∧ RelV v u ∧ ∀ G m, Rep K ct G m d v
theorem se_con {X : Cx} {C : Cc} {x : Str} {d : D} {pos : Pos} (h : KC X.K X.mg x d) (hg : Gl X x := by rfl) (hd : (x == ("__debug__" : Str)) = false := by decide) : SE X C (.Name x pos) (eC d) := by
  obtain ⟨v, u, hm, r, q⟩ := h C.ct
  exact se_const (pe_glob hg hm r hd) q
theorem kc_tup {K : PySem.W.Frag} {mg : Str → Option Value} {x : Str} {ss : List Str} {a : Addr} {o : Obj} {its : Array Value} {n : Nat} (hm : mg x = some (.ref a)) (hl : K.lookup a = some o) (hc : o.cls = .type "tuple") (hd : o.data = .seq its n) (hs : its.size ≤ sizeLine) (hv : Vals (ss.map V.str) its.toList) : KC K mg x (.tup (ss.map .str)) :=
  fun ct => ⟨.ref a, .ref a, hm, rfl, fun G m => .tup (.inr ⟨o, its, n, hl, hc, hd, hs, hv⟩) (RepL.strs ss)⟩
/-- what is known of an own class of the program, over ValueError, without own __init__ -/
structure XC (K : PySem.W.Frag) (mg : Str → Option Value) (ct : String → Addr) (cn : String) : Prop where
  g : mg (Str.ofString cn) = some (.ref (ct cn))
  k : PySem.W.keepIn K (.ref (ct cn)) = true
  q : PySem.W.excIn K (ct cn) [.type "ValueError", .type "Exception", .type "BaseException", .type "object"] "ValueError.__new__" = true
  b : PySem.W.subIn K (.ref (ct cn)) (.type "BaseException") = some true
  t : PySem.W.typeIn K (.ref (ct cn)) = some (.type "type")
  d : PySem.W.hasDictIn K (ct cn) = true

section
variable {X : Cx} {C : Cc} {pos : Pos}
def sRaise (cn : String) : S := fun δ s => .exc ⟨cn, []⟩ δ s
theorem ss_raise {cn : String} {m : Str} {j : Nat} {p p2 p3 : Pos} (hc : X.calm = true) (tk : Takes X C.W) (c : XC X.K X.mg C.ct cn) (hg : Gl X (Str.ofString cn)) (hdb : ((Str.ofString cn) == ("__debug__" : Str)) = false := by decide) :
    SS X C (.Raise (some (.Call (.Name (Str.ofString cn) p) [.Constant (.str m) j p2] [] p3)) none pos) (sRaise cn) :=
  ps_weak (ps_raise hc tk (pmk_own PySem.F.excBase_ValueError c.q c.g c.k (raises_own c.b c.t) hg hdb)) fun Dn σ H ⟨δ, v, re, eH, h⟩ => by
    subst eH
    exact h _ none σ v re .refl rfl ⟨rfl, .inl ⟨rfl, rfl⟩⟩
end
/-! ### walks -/
/-! max, min of a list of numbers -/
def maxI : List Int → Option Int
  | [] => none
  | x :: xs => match maxI xs with
    | none => some x
    | some m => some (if x ≤ m then m else x)
def minI : List Int → Option Int
  | [] => none
  | x :: xs => match minI xs with
    | none => some x
    | some m => some (if m ≤ x then m else x)
theorem maxI_none : ∀ {xs : List Int}, maxI xs = none → xs = []
  | [], _ => rfl
  | x :: xs, h => by
    simp only [maxI] at h
    split at h <;> exact nomatch h
theorem minI_none : ∀ {xs : List Int}, minI xs = none → xs = []
  | [], _ => rfl
  | x :: xs, h => by
    simp only [minI] at h
    split at h <;> exact nomatch h
theorem maxI_spec : ∀ {xs : List Int} {m : Int}, maxI xs = some m → m ∈ xs ∧ ∀ y ∈ xs, y ≤ m
  | [], m, h => nomatch h
  | x :: xs, m, h => by
    simp only [maxI] at h
    split at h
    · rename_i e
      have := maxI_none e
      subst this
      cases h
      exact ⟨by simp, fun y hy => by simp at hy; omega⟩
    · rename_i m' e
      obtain ⟨h1, h2⟩ := maxI_spec e
      simp only [Option.some.injEq] at h
      subst h
      refine ⟨?_, fun y hy => ?_⟩
      · split
        · exact List.mem_cons_of_mem _ h1
        · exact List.mem_cons_self
      · rcases List.mem_cons.mp hy with rfl | hy
        · split <;> omega
        · have := h2 y hy
          split <;> omega
theorem minI_spec : ∀ {xs : List Int} {m : Int}, minI xs = some m → m ∈ xs ∧ ∀ y ∈ xs, m ≤ y
  | [], m, h => nomatch h
  | x :: xs, m, h => by
    simp only [minI] at h
    split at h
    · rename_i e
      have := minI_none e
      subst this
      cases h
      exact ⟨by simp, fun y hy => by simp at hy; omega⟩
    · rename_i m' e
      obtain ⟨h1, h2⟩ := minI_spec e
      simp only [Option.some.injEq] at h
      subst h
      refine ⟨?_, fun y hy => ?_⟩
      · split
        · exact List.mem_cons_of_mem _ h1
        · exact List.mem_cons_self
      · rcases List.mem_cons.mp hy with rfl | hy
        · split <;> omega
        · have := h2 y hy
          split <;> omega

section
variable {K : PySem.W.Frag} {ct : String → Addr} {v : Vw}
theorem RE.frz {C : Cc} {σ : L2.St} {δ : Sl} {v : Vw} (r : RE K C σ δ v) : Le C.v0 v := r.le
def enumD (xs : List D) : List D := xs.zipIdx.map fun p => .tup [.int (p.2 : Nat), p.1]
theorem itOk_enum {a : Addr} {vs : List V} {ds : List D} (h : SqL K v.G a vs) (r : RepL K ct v.G v.m ds vs) : ItOk K ct (Ite K a) v (enumD ds) where
  go := fun i w l s hi => by
    have hi' : i < ds.length := by simpa [enumD] using hi
    obtain ⟨x, e, _⟩ := r.get (List.getElem?_eq_getElem hi')
    exact ⟨vs, x, s.sub.seq (l.g.seq h), e⟩
  stop := fun i w l s hi => by
    have : ds.length ≤ i := by simpa [enumD] using hi
    exact ⟨vs, s.sub.seq (l.g.seq h), by rw [← r.length]; exact this⟩
  yld := fun i w z H' l s hi y => by
    have hi' : i < ds.length := by simpa [enumD] using hi
    obtain ⟨x, e, rv⟩ := r.get (List.getElem?_eq_getElem hi')
    obtain ⟨T, x', rfl, hT, rfl, y2⟩ := y
    have z2 := y2 vs (s.sub.seq (l.g.seq h))
    rw [e] at z2
    cases z2
    obtain ⟨l2, s2⟩ := new_ok (o := .tup [.int (i : Nat), x]) s hT
    exact ⟨.tup [.int (i : Nat), ds[i]], w.new T (.tup [.int (i : Nat), x]), by simp [enumD, hi'], rfl, l2, s2, rfl, .tup (SqT.of upd_same) (.cons (.int _) (.cons (l2.rep (l.rep rv)) .nil))⟩
theorem itOk_rev {a : Addr} {vs : List V} {ds : List D} (h : SqL K v.G a vs) (r : RepL K ct v.G v.m ds vs) : ItOk K ct (Itv K a vs.length) v ds.reverse where
  go := fun i w l s hi => by
    have hi' : i < ds.length := by simpa using hi
    have hl := r.length
    obtain ⟨x, e, _⟩ := r.get (List.getElem?_eq_getElem (show vs.length - 1 - i < ds.length by omega))
    exact ⟨by omega, vs, x, s.sub.seq (l.g.seq h), e⟩
  stop := fun i w l s hi => by
    have hl := r.length
    have : ds.length ≤ i := by simpa using hi
    show vs.length ≤ i
    omega
  yld := fun i w x H' l s hi y => by
    have hi' : i < ds.length := by simpa using hi
    have hl := r.length
    have hi2 : vs.length - 1 - i < ds.length := by omega
    obtain ⟨x0, e, rv⟩ := r.get (List.getElem?_eq_getElem hi2)
    obtain ⟨rfl, y2⟩ := y
    have z := y2 vs (s.sub.seq (l.g.seq h))
    rw [e] at z
    cases z
    refine ⟨_, w, ?_, rfl, .refl, s, rfl, l.rep rv⟩
    rw [List.getElem?_reverse hi', List.getElem?_eq_getElem (by omega)]
    congr 1
    exact getElem_congr rfl (by omega) _
def zipD (xs ys : List D) : List D := List.zipWith (fun x y => .tup [x, y]) xs ys
theorem zipD_get {xs ys : List D} {i : Nat} (hi : i < (zipD xs ys).length) : ∃ x y, xs[i]? = some x ∧ ys[i]? = some y ∧ (zipD xs ys)[i]? = some (.tup [x, y]) := by
  have h1 : i < xs.length ∧ i < ys.length := by
    simp only [zipD, List.length_zipWith] at hi
    omega
  exact ⟨xs[i], ys[i], List.getElem?_eq_getElem h1.1, List.getElem?_eq_getElem h1.2, by simp [zipD, List.getElem?_zipWith, h1.1, h1.2]⟩
theorem itOk_zip {a b : Addr} {vs us : List V} {ds es : List D} (h : SqL K v.G a vs) (h2 : SqL K v.G b us) (r : RepL K ct v.G v.m ds vs) (r2 : RepL K ct v.G v.m es us) : ItOk K ct (Itz K a b) v (zipD ds es) where
  go := fun i w l s hi => by
    obtain ⟨x, y, e1, e2, _⟩ := zipD_get hi
    obtain ⟨x1, e3, _⟩ := r.get e1
    obtain ⟨y1, e4, _⟩ := r2.get e2
    exact ⟨vs, us, x1, y1, s.sub.seq (l.g.seq h), s.sub.seq (l.g.seq h2), e3, e4⟩
  stop := fun i w l s hi => by
    have := hi
    simp only [zipD, List.length_zipWith] at this
    have hl := r.length
    have hl2 := r2.length
    exact ⟨vs, us, s.sub.seq (l.g.seq h), s.sub.seq (l.g.seq h2), by omega⟩
  yld := fun i w z H' l s hi y => by
    obtain ⟨dx, dy, e1, e2, e5⟩ := zipD_get hi
    obtain ⟨x1, e3, rv⟩ := r.get e1
    obtain ⟨y1', e4, ru⟩ := r2.get e2
    obtain ⟨T, x0, y0, rfl, hT, rfl, y1, y2⟩ := y
    have z := y1 vs (s.sub.seq (l.g.seq h))
    rw [e3] at z
    cases z
    have z2 := y2 us (s.sub.seq (l.g.seq h2))
    rw [e4] at z2
    cases z2
    obtain ⟨l2, s2⟩ := new_ok (o := .tup [x1, y1']) s hT
    exact ⟨.tup [dx, dy], w.new T (.tup [x1, y1']), e5, rfl, l2, s2, rfl, .tup (SqT.of upd_same) (.cons (l2.rep (l.rep rv)) (.cons (l2.rep (l.rep ru)) .nil))⟩
theorem itOk_zipT {a b : Addr} {vs us : List V} {ds es : List D} (h : SqT K v.G a vs) (h2 : SqT K v.G b us) (r : RepL K ct v.G v.m ds vs) (r2 : RepL K ct v.G v.m es us) : ItOk K ct (RZ.ItzT K a b) v (zipD ds es) where
  go := fun i w l s hi => by
    obtain ⟨x, y, e1, e2, _⟩ := zipD_get hi
    obtain ⟨x1, e3, _⟩ := r.get e1
    obtain ⟨y1, e4, _⟩ := r2.get e2
    exact ⟨vs, us, x1, y1, sqt_mono s.sub (sqt_mono l.g h), sqt_mono s.sub (sqt_mono l.g h2), e3, e4⟩
  stop := fun i w l s hi => by
    have := hi
    simp only [zipD, List.length_zipWith] at this
    have hl := r.length
    have hl2 := r2.length
    exact ⟨vs, us, sqt_mono s.sub (sqt_mono l.g h), sqt_mono s.sub (sqt_mono l.g h2), by omega⟩
  yld := fun i w z H' l s hi y => by
    obtain ⟨dx, dy, e1, e2, e5⟩ := zipD_get hi
    obtain ⟨x1, e3, rv⟩ := r.get e1
    obtain ⟨y1', e4, ru⟩ := r2.get e2
    obtain ⟨T, x0, y0, rfl, hT, rfl, y1, y2⟩ := y
    have z := y1 vs (sqt_mono s.sub (sqt_mono l.g h))
    rw [e3] at z
    cases z
    have z2 := y2 us (sqt_mono s.sub (sqt_mono l.g h2))
    rw [e4] at z2
    cases z2
    obtain ⟨l2, s2⟩ := new_ok (o := .tup [x1, y1']) s hT
    exact ⟨.tup [dx, dy], w.new T (.tup [x1, y1']), e5, rfl, l2, s2, rfl, .tup (SqT.of upd_same) (.cons (l2.rep (l.rep rv)) (.cons (l2.rep (l.rep ru)) .nil))⟩
theorem itOk_rngC {lo : Int} {n : Nat} : ItOk K ct (Itc (lo + (n : Int) - 1) (-1) n) v (rngD lo n).reverse where
  go := fun i w l s hi => by show i < n; simpa [rngD] using hi
  stop := fun i w l s hi => by show n ≤ i; simpa [rngD] using hi
  yld := fun i w z H' l s hi y => by
    obtain ⟨rfl, rfl⟩ := y
    have hi' : i < n := by simpa [rngD] using hi
    refine ⟨_, w, ?_, rfl, .refl, s, rfl, .int _⟩
    rw [List.getElem?_reverse (by simpa [rngD] using hi'), ints_get (by simp only [rngD, List.length_map, List.length_range]; omega)]
    congr 2
    simp only [rngD, List.length_map, List.length_range]
    omega
def rngS (lo c : Int) (n : Nat) : List D := (List.range n).map fun (i : Nat) => .int (lo + (i : Int) * c)
theorem rngS_get {lo c : Int} {n i : Nat} (h : i < n) : (rngS lo c n)[i]? = some (.int (lo + (i : Int) * c)) := by simp [rngS, h]
theorem itOk_rngS {lo c : Int} {n : Nat} : ItOk K ct (Itc lo c n) v (rngS lo c n) where
  go := fun i w l s hi => by show i < n; simpa [rngS] using hi
  stop := fun i w l s hi => by show n ≤ i; simpa [rngS] using hi
  yld := fun i w z H' l s hi y => by
    obtain ⟨rfl, rfl⟩ := y
    exact ⟨_, w, rngS_get (by simpa [rngS] using hi), rfl, .refl, s, rfl, .int _⟩
end
def iEnumD (a : As) : As := fun δ s => (a δ s).bind fun ds s1 => match ds with
  | [.lst xs] => .ok (enumD xs) s1
  | _ => .stk
def iRevD (a : As) : As := fun δ s => (a δ s).bind fun ds s1 => match ds with
  | [.lst xs] => .ok xs.reverse s1
  | _ => .stk
def iZipD (a : As) : As := fun δ s => (a δ s).bind fun ds s1 => match ds with
  | [.lst xs, .lst ys] => .ok (zipD xs ys) s1
  | [.tup xs, .tup ys] => .ok (zipD xs ys) s1
  | _ => .stk
def iRevR2 (a b : E) : As := fun δ s => (a δ s).bind fun x s1 => (b δ s1).bind fun y s2 => match x, y with
  | .int i, .int j => if -(2 ^ 62) ≤ i ∧ i < 2 ^ 62 ∧ -(2 ^ 62) ≤ j ∧ j < 2 ^ 62 then .ok (rngD i (j - i).toNat).reverse s2 else .stk
  | _, _ => .stk
def rng3Ok (i j c : Int) : Prop := c ≠ 0 ∧ c.natAbs < 1073741824 ∧ Builtin.Range.small i j c = true ∧ 0 ≤ Builtin.Range.rangeSize i j c
instance (i j c : Int) : Decidable (rng3Ok i j c) := inferInstanceAs (Decidable (c ≠ 0 ∧ c.natAbs < 1073741824 ∧ Builtin.Range.small i j c = true ∧ 0 ≤ Builtin.Range.rangeSize i j c))
def iRange3 (a : As) : As := fun δ s => (a δ s).bind fun ds s1 => match ds with
  | [.int i, .int j, .int c] => if rng3Ok i j c then .ok (rngS i c (Builtin.Range.rangeSize i j c).toNat) s1 else .stk
  | _ => .stk
section
variable {X : Cx} {C : Cc} {tg : Expr}
theorem si_enum {e : Expr} {f : As} {p pos tpos : Pos} {elts : List Expr} {kk : Nat} (hg : Gl X "enumerate") (hm : X.mg "enumerate" = none) (ha : SA X C [e] f) (hs : starEach [e] X.env = [(false, eval e X.env)] := by rfl) :
    SI X C (.Tuple elts kk tpos) (.Call (.Name "enumerate" p) [e] [] pos) (iEnumD f) :=
  pi_weak (pi_enum hg hm ha hs) fun σ H R ⟨δ, v, re, eH, h⟩ => ⟨δ, v, re, eH, on_mono (on_bind h) fun ds vs v1 l1 s1 r1 h1 => by
    split at h1
    · cases r1 with
      | cons r2 r3 =>
        cases r3
        cases r2 with
        | @lst a us _ pp q => exact ⟨a, us, rfl, s1.sub.seq pp, on_self s1 h1 (itOk_enum pp q)⟩
    · exact h1.elim⟩
theorem si_rev {e : Expr} {f : As} {p pos : Pos} (hg : Gl X "reversed") (hm : X.mg "reversed" = none) (ha : SA X C [e] f) (hs : starEach [e] X.env = [(false, eval e X.env)] := by rfl) : SI X C tg (.Call (.Name "reversed" p) [e] [] pos) (iRevD f) :=
  pi_weak (pi_reversed hg hm ha hs) fun σ H R ⟨δ, v, re, eH, h⟩ => ⟨δ, v, re, eH, on_mono (on_bind h) fun ds vs v1 l1 s1 r1 h1 => by
    split at h1
    · cases r1 with
      | cons r2 r3 =>
        cases r3
        cases r2 with
        | @lst a us _ pp q => exact ⟨a, us, rfl, s1.sub.seq pp, on_self s1 h1 (itOk_rev pp q)⟩
    · exact h1.elim⟩
theorem si_zip {e e2 : Expr} {f : As} {p pos tpos : Pos} {elts : List Expr} {kk : Nat} (hg : Gl X "zip") (hm : X.mg "zip" = none) (ha : SA X C [e, e2] f)
    (hs : starEach [e, e2] X.env = (false, eval e X.env) :: starEach [e2] X.env := by rfl) (hpl : (backTo pos (starEach [e2] X.env)).any (·.1) = false := by rfl) :
    SI X C (.Tuple elts kk tpos) (.Call (.Name "zip" p) [e, e2] [] pos) (iZipD f) :=
  pi_weak (RZ.pi_zipA hg hm ha hs hpl) fun σ H R ⟨δ, v, re, eH, h⟩ => ⟨δ, v, re, eH, on_mono (on_bind h) fun ds vs v1 l1 s1 r1 h1 => by
    split at h1
    · cases r1 with
      | cons r2 r3 =>
        cases r3 with
        | cons r3 r4 =>
          cases r4
          cases r2 with
          | @lst a us _ pp q =>
            cases r3 with
            | @lst b ws _ pp2 q2 => exact ⟨a, b, us, ws, rfl, .inl ⟨s1.sub.seq pp, s1.sub.seq pp2, on_self s1 h1 (itOk_zip pp pp2 q q2)⟩⟩
    · cases r1 with
      | cons r2 r3 =>
        cases r3 with
        | cons r3 r4 =>
          cases r4
          cases r2 with
          | @tup a us _ pp q =>
            cases r3 with
            | @tup b ws _ pp2 q2 => exact ⟨a, b, us, ws, rfl, .inr ⟨sqt_mono s1.sub pp, sqt_mono s1.sub pp2, on_self s1 h1 (itOk_zipT pp pp2 q q2)⟩⟩
    · exact h1.elim⟩
theorem si_revR2 {a b : Expr} {fa fb : E} {p p2 pos pos2 : Pos} (hg : Gl X "reversed") (hm : X.mg "reversed" = none) (hgr : Gl X "range") (hmr : X.mg "range" = none) (ha : SE X C a fa) (hb : SE X C b fb)
    (hs : starEach [.Call (.Name "range" p2) [a, b] [] pos2] X.env = (false, eval (.Call (.Name "range" p2) [a, b] [] pos2) X.env) :: starEach [] X.env := by rfl)
    (hs1 : starEach [a, b] X.env = (false, eval a X.env) :: starEach [b] X.env := by rfl) (hs2 : starEach [b] X.env = (false, eval b X.env) :: starEach [] X.env := by rfl) (hp : (backTo pos2 (starEach [b] X.env)).any (·.1) = false := by rfl) :
    SI X C tg (.Call (.Name "reversed" p) [.Call (.Name "range" p2) [a, b] [] pos2] [] pos) (iRevR2 fa fb) :=
  pi_weak (pi_revR hg hm (prg_2 hgr hmr ha hb hs1 hs2 hp) hs) fun σ H R ⟨δ, v, re, eH, h⟩ => ⟨δ, v, re, eH, on_mono (on_bind h) fun d x v1 l1 s1 r1 h1 => ⟨δ, v1, re.step l1 s1, rfl, on_mono (on_bind h1) fun d2 x2 v2 l2 s2 r2 h2 => by
    cases r1 <;> cases r2 <;> first
      | exact h2.elim
      | (simp only at h2
         split at h2
         · rename_i hz
           exact ⟨_, _, rfl, rfl, hz.1, hz.2.1, hz.2.2.1, hz.2.2.2, on_self s2 h2 itOk_rngC⟩
         · exact h2.elim)⟩⟩
theorem si_range3 {a b c : Expr} {f : As} {p pos : Pos} (hg : Gl X "range") (hm : X.mg "range" = none) (ha : SA X C [a, b, c] f)
    (hs : starEach [a, b, c] X.env = (false, eval a X.env) :: starEach [b, c] X.env := by rfl) (hpl : (backTo pos (starEach [b, c] X.env)).any (·.1) = false := by rfl) :
    SI X C tg (.Call (.Name "range" p) [a, b, c] [] pos) (iRange3 f) :=
  pi_weak (pi_range3 hg hm ha hs hpl) fun σ H R ⟨δ, v, re, eH, h⟩ => ⟨δ, v, re, eH, on_mono (on_bind h) fun ds vs v1 l1 s1 r1 h1 => by
    split at h1
    · rename_i i j c
      cases r1 with
      | cons r2 r3 =>
        cases r2
        cases r3 with
        | cons r4 r5 =>
          cases r4
          cases r5 with
          | cons r6 r7 =>
            cases r6
            cases r7
            split at h1
            · rename_i hz
              obtain ⟨z1, z2, z3, z4⟩ := hz
              exact ⟨_, _, _, _, rfl, ⟨z1, z2, z3, (Int.toNat_of_nonneg z4).symm⟩, on_self s1 h1 itOk_rngS⟩
            · exact h1.elim
    · exact h1.elim⟩
def eBits (f : E) : E := fun δ s => (f δ s).bind fun d s1 => match d with
  | .int i => .ok (.int (Builtin.Int.intBits i : Nat)) s1
  | _ => .stk
theorem se_bits {o : Expr} {f : E} {apos pos : Pos} (ho : SE X C o f) (hbase : attributeBase o "bit_length" X.env (eval o X.env) = eval o X.env := by rfl) (hline : (apos.endLine == pos.line) = true := by rfl) : SE X C (.Call (.Attribute o "bit_length" apos) [] [] pos) (eBits f) :=
  pe_weak (pe_bits ho hbase hline) fun σ H Q ⟨δ, v, re, eH, h⟩ => ⟨δ, v, re, eH, on_mono (on_bind h) fun d x v1 l1 s1 r1 h1 => by
    cases r1 with
    | int i => exact ⟨i, rfl, on_self s1 h1 (.int _)⟩
    | _ => exact h1.elim⟩
end
/-! ### reckoning -/
theorem runG_rt {N : Nat} {body : S} {ds : List D} {s s' : Sto} {d : D} (h : body (ds.map some ++ List.replicate (N - ds.length) none) s = .rt d s') : runG N body ds s = .ok d s' := by unfold runG; rw [h]
theorem runG_nx {N : Nat} {body : S} {ds : List D} {s s' : Sto} {δ : Sl} (h : body (ds.map some ++ List.replicate (N - ds.length) none) s = .nx δ s') : runG N body ds s = .ok .non s' := by unfold runG; rw [h]
theorem runG_exc {N : Nat} {body : S} {ds : List D} {s s' : Sto} {e : Ex} {δ : Sl} (h : body (ds.map some ++ List.replicate (N - ds.length) none) s = .exc e δ s') : runG N body ds s = .exc e s' := by unfold runG; rw [h]
/-- a loop whose turns go on -/
theorem forD_inv {p : Pt} {body : S} (Inv : Nat → Sl → Sto → Prop) : ∀ (items : List D) (k : Nat) (δ : Sl) (s : Sto), Inv k δ s →
    (∀ i d δ s, items[i]? = some d → Inv (k + i) δ s → ∃ δ1, bindP p d δ = some δ1 ∧ ∃ δ2 s2, body δ1 s = .nx δ2 s2 ∧ Inv (k + i + 1) δ2 s2) → ∃ δ' s', forD p body items δ s = .nx δ' s' ∧ Inv (k + items.length) δ' s'
  | [], k, δ, s, h0, _ => ⟨δ, s, rfl, h0⟩
  | d :: ds, k, δ, s, h0, hs => by
    obtain ⟨δ1, e1, δ2, s2, e2, h2⟩ := hs 0 d δ s rfl h0
    obtain ⟨δ', s', e3, h3⟩ := forD_inv Inv ds (k + 1) δ2 s2 h2 fun i d δ s hd hi => by
      have z := hs (i + 1) d δ s (by simpa using hd) (by rw [show k + (i + 1) = k + 1 + i by omega]; exact hi)
      rw [show k + (i + 1) + 1 = k + 1 + i + 1 by omega] at z
      exact z
    refine ⟨δ', s', ?_, by rw [List.length_cons, show k + (ds.length + 1) = k + 1 + ds.length by omega]; exact h3⟩
    simp only [forD, e1, e2, e3]
theorem rngD_length (lo : Int) (n : Nat) : (rngD lo n).length = n := by simp [rngD]
theorem rngD_some {lo : Int} {n i : Nat} {d : D} (h : (rngD lo n)[i]? = some d) : i < n ∧ d = .int (lo + (i : Int)) := by
  have hi : i < n := by
    have := (List.getElem?_eq_some_iff.mp h).1
    simpa [rngD] using this
  rw [ints_get hi] at h
  exact ⟨hi, (Option.some.inj h).symm⟩
theorem forR {p : Pt} {body : S} {lo : Int} {n : Nat} {δ : Sl} {s : Sto} (Inv : Nat → Sl → Sto → Prop) (h0 : Inv 0 δ s)
    (hs : ∀ i δ s, i < n → Inv i δ s → ∃ δ1, bindP p (.int (lo + (i : Int))) δ = some δ1 ∧ ∃ δ2 s2, body δ1 s = .nx δ2 s2 ∧ Inv (i + 1) δ2 s2) : ∃ δ' s', forD p body (rngD lo n) δ s = .nx δ' s' ∧ Inv n δ' s' := by
  have z := forD_inv (p := p) (body := body) Inv (rngD lo n) 0 δ s h0 fun i d δ s hd hi => by
    obtain ⟨h1, h2⟩ := rngD_some hd
    subst h2
    rw [Nat.zero_add] at hi ⊢
    exact hs i δ s h1 hi
  rw [Nat.zero_add, rngD_length] at z
  exact z
theorem whileK {c : T} {body : S} (Inv : Nat → Sl → Sto → Prop)
    (hs : ∀ k δ s, Inv k δ s → c δ s = .ok false s ∨ (c δ s = .ok true s ∧ ∃ δ2 s2, body δ s = .nx δ2 s2 ∧ ∃ k', k' < k ∧ Inv k' δ2 s2)) : ∀ (n k : Nat) (δ : Sl) (s : Sto), Inv k δ s → k < n → ∃ δ' s' k', whileD c body n δ s = .nx δ' s' ∧ Inv k' δ' s' ∧ c δ' s' = .ok false s'
  | 0, k, δ, s, _, h => by omega
  | n + 1, k, δ, s, hi, h => by
    rcases hs k δ s hi with hc | ⟨hc, δ2, s2, hb, k2, hk, hi2⟩
    · exact ⟨δ, s, k, by simp only [whileD, hc], hi, hc⟩
    · obtain ⟨δ', s', k', e, h2⟩ := whileK Inv hs n k2 δ2 s2 hi2 (by omega)
      exact ⟨δ', s', k', by simp only [whileD, hc, hb, e], h2⟩
/-- turns of a comprehension that leave the store -/
theorem lcD_mapL {α : Type} {p : Pt} {c : T} {e : E} {δ : Sl} {s : Sto} (g f : α → D) : ∀ l : List α, (∀ a ∈ l, ∃ δ1, bindP p (g a) δ = some δ1 ∧ c δ1 s = .ok true s ∧ e δ1 s = .ok (f a) s) → lcD p c e δ (l.map g) s = .ok (l.map f) s
  | [], _ => rfl
  | x :: l, h => by
    obtain ⟨δ1, e1, e2, e3⟩ := h x (by simp)
    have ih := lcD_mapL (p := p) (c := c) (e := e) (δ := δ) (s := s) g f l fun k hk => h k (by simp [hk])
    simp only [List.map_cons, lcD, e1, e2, e3, ih]
theorem ixN_ofNat {n j : Nat} (h : j < n) : ixN n (j : Int) = some j := by
  unfold ixN
  rw [if_pos (by omega), if_pos (by omega)]
  simp
theorem atI_ofNat {α : Type} (xs : List α) {j : Nat} (h : j < xs.length) : atI xs (j : Int) = some xs[j] := by
  unfold atI
  rw [ixN_ofNat h]
  exact List.getElem?_eq_getElem h

/-! ### sizes of products -/
theorem bits_le {i : Int} {a : Nat} (h : i.natAbs < 2 ^ a) : Builtin.Int.intBits i ≤ a := by
  unfold Builtin.Int.intBits
  split
  · exact Nat.zero_le _
  · rename_i hz
    have hz' : i.natAbs ≠ 0 := by
      simp only [beq_iff_eq] at hz
      omega
    exact Nat.succ_le_of_lt ((Nat.log2_lt hz').mpr h)
theorem mul_fits {i j : Int} {a b : Nat} (ha : i.natAbs < 2 ^ a) (hb : j.natAbs < 2 ^ b) (h : a + b ≤ 134217728) : IntMulOk i j := mulx_ok ha hb h |>.ok
theorem mul_fitsL {i j : Int} (ha : i.natAbs < 2 ^ 64) : IntMulOk i j := .of_left (bits_le ha)
theorem mul_fitsR {i j : Int} (ha : j.natAbs < 2 ^ 64) : IntMulOk i j := .of_right (bits_le ha)
theorem log_lt {n a : Nat} (h : n < 2 ^ a) (h0 : 0 < a) : n.log2 < a := by
  by_cases hz : n = 0
  · subst hz
    simpa using h0
  · exact (Nat.log2_lt hz).mpr h

@[simp] theorem mulOk_m1 (j : Int) : IntMulOk (-1) j := mul_fitsL (by decide)
@[simp] theorem mulOk_1 (j : Int) : IntMulOk 1 j := mul_fitsL (by decide)
@[simp] theorem mulOk_2 (j : Int) : IntMulOk 2 j := mul_fitsL (by decide)
@[simp] theorem mulOk_3 (j : Int) : IntMulOk 3 j := mul_fitsL (by decide)
@[simp] theorem mulOk_r2 (j : Int) : IntMulOk j 2 := mul_fitsR (by decide)
@[simp] theorem mulOk_r1000 (j : Int) : IntMulOk j 1000 := mul_fitsR (by decide)
@[simp] theorem mulOk_r1000003 (j : Int) : IntMulOk j 1000003 := mul_fitsR (by decide)
theorem log_small {n : Nat} (h : n < 2 ^ 64) : n.log2 < 9000 := Nat.lt_of_lt_of_le (log_lt h (by decide)) (by decide)
/-! ### unfolding -/
def rngOk (j : Int) : Prop := -(2 ^ 62) ≤ j ∧ j < 2 ^ 62
instance (j : Int) : Decidable (rngOk j) := inferInstanceAs (Decidable (-(2 ^ 62) ≤ j ∧ j < 2 ^ 62))
theorem rngOk_of {j : Int} (h1 : -1000000000 ≤ j) (h2 : j ≤ 1000000000) : rngOk j := by
  unfold rngOk
  omega
theorem rngOk_nat {j : Nat} (h : j ≤ 1000000000) : rngOk (j : Int) := rngOk_of (by omega) (by omega)
@[simp] theorem rngOk_0 : rngOk 0 := rngOk_of (by omega) (by omega)
@[simp] theorem rngOk_1 : rngOk 1 := rngOk_of (by omega) (by omega)
def divOk (j : Int) : Prop := 0 < j ∧ j.natAbs.log2 < 9000
instance (j : Int) : Decidable (divOk j) := inferInstanceAs (Decidable (0 < j ∧ j.natAbs.log2 < 9000))
theorem divOk_of {j : Int} {a : Nat} (h : 0 < j) (h2 : j.natAbs < 2 ^ a) (h3 : a ≤ 8999) : divOk j := ⟨h, by
  by_cases h0 : 0 < a
  · exact Nat.lt_of_lt_of_le (log_lt h2 h0) (by omega)
  · have e : a = 0 := by omega
    subst e
    have : (2 : Nat) ^ 0 = 1 := rfl
    omega⟩
theorem divOk_small {j : Int} (h : 0 < j) (h2 : j < 10 ^ 18) : divOk j := divOk_of (a := 64) h (by
  have : (10 : Int) ^ 18 < ((2 ^ 64 : Nat) : Int) := by decide
  omega) (by decide)
@[simp] theorem divOk_1 : divOk 1 := divOk_small (by decide) (by decide)
@[simp] theorem divOk_2 : divOk 2 := divOk_small (by decide) (by decide)
@[simp] theorem divOk_3 : divOk 3 := divOk_small (by decide) (by decide)
@[simp] theorem divOk_4 : divOk 4 := divOk_small (by decide) (by decide)
@[simp] theorem divOk_5 : divOk 5 := divOk_small (by decide) (by decide)
@[simp] theorem divOk_6 : divOk 6 := divOk_small (by decide) (by decide)
@[simp] theorem divOk_7 : divOk 7 := divOk_small (by decide) (by decide)
@[simp] theorem divOk_8 : divOk 8 := divOk_small (by decide) (by decide)
@[simp] theorem divOk_9 : divOk 9 := divOk_small (by decide) (by decide)
@[simp] theorem divOk_10 : divOk 10 := divOk_small (by decide) (by decide)
@[simp] theorem divOk_11 : divOk 11 := divOk_small (by decide) (by decide)
@[simp] theorem divOk_12 : divOk 12 := divOk_small (by decide) (by decide)
@[simp] theorem divOk_24 : divOk 24 := divOk_small (by decide) (by decide)
@[simp] theorem divOk_41 : divOk 41 := divOk_small (by decide) (by decide)
@[simp] theorem divOk_48 : divOk 48 := divOk_small (by decide) (by decide)
@[simp] theorem divOk_60 : divOk 60 := divOk_small (by decide) (by decide)
@[simp] theorem divOk_64 : divOk 64 := divOk_small (by decide) (by decide)
@[simp] theorem divOk_100 : divOk 100 := divOk_small (by decide) (by decide)
@[simp] theorem divOk_1000 : divOk 1000 := divOk_small (by decide) (by decide)
def powOk (i j : Int) : Prop := 0 ≤ j ∧ (Builtin.Int.intBits i : Int) * j ≤ 2 ^ 27
instance (i j : Int) : Decidable (powOk i j) := inferInstanceAs (Decidable (0 ≤ j ∧ (Builtin.Int.intBits i : Int) * j ≤ 2 ^ 27))
theorem powOk_of {i j : Int} {a : Nat} (hi : i.natAbs < 2 ^ a) (h0 : 0 ≤ j) (h : (a : Int) * j ≤ 134217728) : powOk i j := ⟨h0, by
  have h1 := bits_le hi
  have h2 : (Builtin.Int.intBits i : Int) * j ≤ (a : Int) * j := Int.mul_le_mul_of_nonneg_right (by omega) h0
  omega⟩
@[simp] theorem powOk_10 {j : Int} (h0 : 0 ≤ j) (h : j ≤ 1000) : powOk 10 j := powOk_of (a := 4) (by decide) h0 (by omega)
@[simp] theorem powOk_2 {j : Int} (h0 : 0 ≤ j) (h : j ≤ 1000000) : powOk 2 j := powOk_of (a := 2) (by decide) h0 (by omega)
@[simp] theorem powOk_1e60 {j : Int} (h0 : 0 ≤ j) (h : j ≤ 1000) : powOk 1000000000000000000000000000000000000000000000000000000000000 j := powOk_of (a := 200) (by decide) h0 (by omega)

@[simp] theorem v_bind_ok {α β : Type} (a : α) (s : Sto) (k : α → Sto → R β) : (R.ok a s).bind k = k a s := id rfl
@[simp] theorem v_bind_exc {α β : Type} (e : Ex) (s : Sto) (k : α → Sto → R β) : (R.exc e s).bind k = .exc e s := id rfl
@[simp] theorem v_bind_stk {α β : Type} (k : α → Sto → R β) : (R.stk : R α).bind k = .stk := id rfl
@[simp] theorem v_ofO_some {α : Type} (a : α) (s : Sto) : R.ofO (some a) s = .ok a s := id rfl
@[simp] theorem v_ofO_none {α : Type} (s : Sto) : R.ofO (none : Option α) s = .stk := id rfl
@[simp] theorem v_sBind_ok {α : Type} (a : α) (s : Sto) (δ : Sl) (k : α → Sto → RS) : sBind (.ok a s) δ k = k a s := id rfl
@[simp] theorem v_sBind_exc {α : Type} (e : Ex) (s : Sto) (δ : Sl) (k : α → Sto → RS) : sBind (.exc e s : R α) δ k = .exc e δ s := id rfl
@[simp] theorem v_sBind_stk {α : Type} (δ : Sl) (k : α → Sto → RS) : sBind (.stk : R α) δ k = .stk := id rfl
@[simp] theorem v_eV (i : Nat) (δ : Sl) (s : Sto) : eV i δ s = (match δ[i]? with | some (some d) => .ok d s | _ => .stk) := id rfl
@[simp] theorem v_eC (d : D) (δ : Sl) (s : Sto) : eC d δ s = .ok d s := id rfl
@[simp] theorem v_eBin (g : B2) (a b : E) (δ : Sl) (s : Sto) : eBin g a b δ s = (a δ s).bind fun x s1 => (b δ s1).bind fun y s2 => R.ofO (g (rsv s2 x) (rsv s2 y)) s2 := id rfl
@[simp] theorem v_eUn (g : B1) (a : E) (δ : Sl) (s : Sto) : eUn g a δ s = (a δ s).bind fun x s1 => R.ofO (g (rsv s1 x)) s1 := id rfl
@[simp] theorem v_eFn (g : BA) (a : As) (δ : Sl) (s : Sto) : eFn g a δ s = (a δ s).bind fun x s1 => R.ofO (g (x.map (rsv s1))) s1 := id rfl
@[simp] theorem v_eCall (F : List D → Sto → R D) (a : As) (δ : Sl) (s : Sto) : eCall F a δ s = (a δ s).bind F := id rfl
@[simp] theorem v_tV (f : E) (δ : Sl) (s : Sto) : tV f δ s = (f δ s).bind fun d s1 => match d with | .bl b => .ok b s1 | _ => .stk := id rfl
@[simp] theorem v_tNt (f : T) (δ : Sl) (s : Sto) : tNt f δ s = (f δ s).bind fun b s1 => .ok (!b) s1 := id rfl
@[simp] theorem v_tAn (f g : T) (δ : Sl) (s : Sto) : tAn f g δ s = (f δ s).bind fun b s1 => if b = true then g δ s1 else .ok false s1 := id rfl
@[simp] theorem v_tOrr (f g : T) (δ : Sl) (s : Sto) : tOrr f g δ s = (f δ s).bind fun b s1 => if b = true then .ok true s1 else g δ s1 := id rfl
@[simp] theorem v_tTrue (δ : Sl) (s : Sto) : tTrue δ s = .ok true s := id rfl
@[simp] theorem v_eAn (a b : E) (δ : Sl) (s : Sto) : eAn a b δ s = (a δ s).bind fun x s1 => match x with | .bl true => b δ s1 | .bl false => .ok (.bl false) s1 | _ => .stk := id rfl
@[simp] theorem v_eOr (a b : E) (δ : Sl) (s : Sto) : eOr a b δ s = (a δ s).bind fun x s1 => match x with | .bl true => .ok (.bl true) s1 | .bl false => b δ s1 | _ => .stk := id rfl
@[simp] theorem v_eNt (a : E) (δ : Sl) (s : Sto) : eNt a δ s = (a δ s).bind fun x s1 => match x with | .bl k => .ok (.bl !k) s1 | _ => .stk := id rfl
@[simp] theorem v_eIf (t : T) (a b : E) (δ : Sl) (s : Sto) : eIf t a b δ s = (t δ s).bind fun k s1 => if k = true then a δ s1 else b δ s1 := id rfl
@[simp] theorem v_aNil (δ : Sl) (s : Sto) : aNil δ s = .ok [] s := id rfl
@[simp] theorem v_aCons (f : E) (r : As) (δ : Sl) (s : Sto) : aCons f r δ s = (f δ s).bind fun x s1 => (r δ s1).bind fun xs s2 => .ok (x :: xs) s2 := id rfl
@[simp] theorem v_eTup (r : As) (δ : Sl) (s : Sto) : eTup r δ s = (r δ s).bind fun xs s1 => if xs.length ≤ sizeLine then .ok (.tup xs) s1 else .stk := id rfl
@[simp] theorem v_eFz (f : Fr) (δ : Sl) (s : Sto) : eFz f δ s = (f δ s).bind fun xs s1 => .ok (.lst xs) s1 := id rfl
@[simp] theorem v_eNw (f : Fr) (δ : Sl) (s : Sto) : eNw f δ s = (f δ s).bind fun xs s1 => .ok (.ob s1.length) (s1 ++ [.lst xs]) := id rfl
@[simp] theorem v_fLst (r : As) (δ : Sl) (s : Sto) : fLst r δ s = (r δ s).bind fun xs s1 => if xs.length ≤ sizeLine then .ok xs s1 else .stk := id rfl
@[simp] theorem v_fList (f : E) (δ : Sl) (s : Sto) : fList f δ s = (f δ s).bind fun d s1 => match rsv s1 d with | .lst xs => .ok xs s1 | .tup xs => .ok xs s1 | _ => .stk := id rfl
@[simp] theorem v_sNx (δ : Sl) (s : Sto) : sNx δ s = .nx δ s := id rfl
@[simp] theorem v_sBk (δ : Sl) (s : Sto) : sBk δ s = .bk δ s := id rfl
@[simp] theorem v_sCt (δ : Sl) (s : Sto) : sCt δ s = .ct δ s := id rfl
@[simp] theorem v_sSeq (f g : S) (δ : Sl) (s : Sto) : sSeq f g δ s = (match f δ s with | .nx δ' s' => g δ' s' | r => r) := id rfl
@[simp] theorem v_sRet (f : E) (δ : Sl) (s : Sto) : sRet f δ s = sBind (f δ s) δ fun d s1 => .rt d s1 := id rfl
@[simp] theorem v_sRetN (δ : Sl) (s : Sto) : sRetN δ s = .rt .non s := id rfl
@[simp] theorem v_sIf (t : T) (a b : S) (δ : Sl) (s : Sto) : sIf t a b δ s = sBind (t δ s) δ fun k s1 => if k = true then a δ s1 else b δ s1 := id rfl
@[simp] theorem v_sSet (i : Nat) (f : E) (δ : Sl) (s : Sto) : sSet i f δ s = sBind (f δ s) δ fun d s1 => .nx (δ.set i (some d)) s1 := id rfl
@[simp] theorem v_sAsg (p : Pt) (f : E) (δ : Sl) (s : Sto) : sAsg p f δ s = sBind (f δ s) δ fun d s1 => sBindP p d δ s1 := id rfl
@[simp] theorem v_sFor (it : As) (p : Pt) (b : S) (δ : Sl) (s : Sto) : sFor it p b δ s = sBind (it δ s) δ fun items s1 => forD p b items δ s1 := id rfl
@[simp] theorem v_sAug (i : Nat) (g : B2) (f : E) (δ : Sl) (s : Sto) : sAug i g f δ s = (match δ[i]? with | some (some x) => sBind (f δ s) δ fun y s1 => (match g (rsv s1 x) (rsv s1 y) with | some z => .nx (δ.set i (some z)) s1 | none => .stk) | _ => .stk) := id rfl
@[simp] theorem v_sDrop (f : E) (δ : Sl) (s : Sto) : sDrop f δ s = sBind (f δ s) δ fun _ s1 => .nx δ s1 := id rfl
@[simp] theorem v_sRaise (cn : String) (δ : Sl) (s : Sto) : sRaise cn δ s = .exc ⟨cn, []⟩ δ s := id rfl
@[simp] theorem v_sFrz (i : Nat) (f : S) (δ : Sl) (s : Sto) : sFrz i f δ s = (match δ[i]? with | some (some d) => f (δ.set i (some (frzD s d).1)) (frzD s d).2 | _ => f δ s) := id rfl
@[simp] theorem v_eFrz (f : E) (δ : Sl) (s : Sto) : eFrz f δ s = (f δ s).bind fun d s1 => .ok (frzD s1 d).1 (frzD s1 d).2 := id rfl
@[simp] theorem v_sSetIx (o b e : E) (δ : Sl) (s : Sto) : sSetIx o b e δ s = sBind (e δ s) δ fun d s1 => sBind (o δ s1) δ fun x s2 => sBind (b δ s2) δ fun z s3 => match lsO s3 x, z with
  | some xs, .int k => (match ixN xs.length k with
    | some j => .nx δ (stO s3 x (xs.set j d))
    | none => .stk)
  | _, _ => .stk := id rfl
@[simp] theorem v_eApp (o a : E) (δ : Sl) (s : Sto) : eApp o a δ s = (o δ s).bind fun x s1 => if (lsO s1 x).isSome = true then ((a δ s1).bind fun y s2 => match lsO s2 x with
  | some xs => if xs.length < sizeLine then .ok .non (stO s2 x (xs ++ [y])) else .stk
  | none => .stk) else .stk := id rfl
@[simp] theorem v_ePopAt (o a : E) (δ : Sl) (s : Sto) : ePopAt o a δ s = (o δ s).bind fun x s1 => if (lsO s1 x).isSome = true then ((a δ s1).bind fun y s2 => match lsO s2 x, y with
  | some xs, .int k => if -(2 ^ 63) ≤ k ∧ k < 2 ^ 63 then (match seqIndex? k xs.length with
    | some j => (match xs[j]? with
      | some d => .ok d (stO s2 x (xs.eraseIdx j))
      | none => .stk)
    | none => .stk) else .stk
  | _, _ => .stk) else .stk := id rfl
@[simp] theorem v_nm (i : Nat) (d : D) (δ : Sl) : bindP (.nm i) d δ = some (δ.set i (some d)) := by simp [bindP]
@[simp] theorem v_tp (ps : List Pt) (ds : List D) (δ : Sl) : bindP (.tp ps) (.tup ds) δ = bindPs ps ds δ := by simp [bindP]
@[simp] theorem v_tpl (ps : List Pt) (ds : List D) (δ : Sl) : bindP (.tp ps) (.lst ds) δ = bindPs ps ds δ := by simp [bindP]
@[simp] theorem v_ps0 (δ : Sl) : bindPs [] [] δ = some δ := by simp [bindPs]
@[simp] theorem v_ps1 (p : Pt) (ps : List Pt) (d : D) (ds : List D) (δ : Sl) : bindPs (p :: ps) (d :: ds) δ = (match bindP p d δ with | some δ' => bindPs ps ds δ' | none => none) := by first | (simp only [bindPs]; done) | (simp only [bindPs] <;> rfl)
@[simp] theorem v_sBindP (p : Pt) (d : D) (δ : Sl) (s : Sto) : sBindP p d δ s = (match bindP p d δ with | some δ' => .nx δ' s | none => .stk) := id rfl
@[simp] theorem v_iRange1 (a : As) (δ : Sl) (s : Sto) : iRange1 a δ s = (a δ s).bind fun ds s1 => match ds with | [.int j] => if rngOk j then .ok (rngD 0 j.toNat) s1 else .stk | _ => .stk := id rfl
@[simp] theorem v_iRange2 (a : As) (δ : Sl) (s : Sto) : iRange2 a δ s = (a δ s).bind fun ds s1 => match ds with | [.int i, .int j] => if rngOk i ∧ rngOk j then .ok (rngD i (j - i).toNat) s1 else .stk | _ => .stk := by
  unfold iRange2 rngOk
  congr 1
  funext ds s1
  split <;> simp only [and_assoc]
@[simp] theorem v_iRevR2 (a b : E) (δ : Sl) (s : Sto) : iRevR2 a b δ s = (a δ s).bind fun x s1 => (b δ s1).bind fun y s2 => match x, y with | .int i, .int j => if rngOk i ∧ rngOk j then .ok (rngD i (j - i).toNat).reverse s2 else .stk | _, _ => .stk := by
  unfold iRevR2 rngOk
  congr 1
  funext x s1
  congr 1
  funext y s2
  split <;> simp only [and_assoc]
@[simp] theorem v_iSeq (f : E) (δ : Sl) (s : Sto) : iSeq f δ s = (f δ s).bind fun d s1 => R.ofO (seqOf d) s1 := id rfl
@[simp] theorem v_seqL (xs : List D) : seqOf (.lst xs) = some xs := id rfl
@[simp] theorem v_seqT (xs : List D) : seqOf (.tup xs) = some xs := id rfl
@[simp] theorem v_seqS (x : Str) : seqOf (.str x) = some (signs x) := id rfl
@[simp] theorem v_iEnumD (a : As) (δ : Sl) (s : Sto) : iEnumD a δ s = (a δ s).bind fun ds s1 => match ds with | [.lst xs] => .ok (enumD xs) s1 | _ => .stk := id rfl
@[simp] theorem v_iRevD (a : As) (δ : Sl) (s : Sto) : iRevD a δ s = (a δ s).bind fun ds s1 => match ds with | [.lst xs] => .ok xs.reverse s1 | _ => .stk := id rfl
@[simp] theorem v_iZipD (a : As) (δ : Sl) (s : Sto) : iZipD a δ s = (a δ s).bind fun ds s1 => match ds with | [.lst xs, .lst ys] => .ok (zipD xs ys) s1 | [.tup xs, .tup ys] => .ok (zipD xs ys) s1 | _ => .stk := id rfl
@[simp] theorem v_eSl (a : E) (lo hi : Os) (δ : Sl) (s : Sto) : eSl a lo hi δ s = (a δ s).bind fun x s1 => (lo δ s1).bind fun l s2 => (hi δ s2).bind fun h s3 => R.ofO (gSl (rsv s3 x) l h) s3 := id rfl
@[simp] theorem v_oNone (δ : Sl) (s : Sto) : oNone δ s = .ok none s := id rfl
@[simp] theorem v_oSome (f : E) (δ : Sl) (s : Sto) : oSome f δ s = (f δ s).bind fun d s1 => match d with | .int i => .ok (some i) s1 | _ => .stk := id rfl
@[simp] theorem v_fLc (it : As) (vs : List Nat) (p : Pt) (c : T) (e : E) (δ : Sl) (s : Sto) : fLc it vs p c e δ s = (it δ s).bind fun items s1 => (lcD p c e (wipeD δ vs) items s1).bind fun xs s2 => if xs.length ≤ sizeLine then .ok xs s2 else .stk := id rfl
@[simp] theorem v_eChain (g g' : B2) (a b c : E) (δ : Sl) (s : Sto) : eChain g g' a b c δ s = (a δ s).bind fun x s1 => (b δ s1).bind fun y s2 => (R.ofO (g (rsv s2 x) (rsv s2 y)) s2).bind fun z s3 => match z with | .bl true => (c δ s3).bind fun w s4 => R.ofO (g' (rsv s4 y) (rsv s4 w)) s4 | .bl false => .ok (.bl false) s3 | _ => .stk := id rfl
@[simp] theorem v_eM1 (g : D → List D → Option D) (o a : E) (δ : Sl) (s : Sto) : eM1 g o a δ s = (o δ s).bind fun x s1 => if isStr x then (a δ s1).bind fun y s2 => R.ofO (g x [rsv s2 y]) s2 else .stk := id rfl
@[simp] theorem v_isStr (x : Str) : isStr (.str x) = true := id rfl
@[simp] theorem v_eBits (f : E) (δ : Sl) (s : Sto) : eBits f δ s = (f δ s).bind fun d s1 => match d with
  | .int i => .ok (.int (Builtin.Int.intBits i : Nat)) s1
  | _ => .stk := id rfl
@[simp] theorem r_non (s : Sto) : rsv s .non = .non := id rfl
@[simp] theorem r_bl (s : Sto) (b : Bool) : rsv s (.bl b) = .bl b := id rfl
@[simp] theorem r_int (s : Sto) (b : Int) : rsv s (.int b) = .int b := id rfl
@[simp] theorem r_str (s : Sto) (b : Str) : rsv s (.str b) = .str b := id rfl
@[simp] theorem r_tup (s : Sto) (b : List D) : rsv s (.tup b) = .tup b := id rfl
@[simp] theorem r_lst (s : Sto) (b : List D) : rsv s (.lst b) = .lst b := id rfl
theorem r_ob {s : Sto} {i : Nat} {xs : List D} (h : s[i]? = some (.lst xs)) : rsv s (.ob i) = .lst xs := by unfold rsv; simp only [h]
theorem lsO_ob {s : Sto} {i : Nat} {xs : List D} (h : s[i]? = some (.lst xs)) : lsO s (.ob i) = some xs := by unfold lsO; simp only [h]
theorem frz_ob {s : Sto} {i : Nat} {xs : List D} (h : s[i]? = some (.lst xs)) : frzD s (.ob i) = (.lst xs, s.set i .gone) := by unfold frzD; simp only [h]
@[simp] theorem stO_ob (s : Sto) (i : Nat) (xs : List D) : stO s (.ob i) xs = s.set i (.lst xs) := id rfl
@[simp] theorem frz_lst (s : Sto) (xs : List D) : frzD s (.lst xs) = (.lst xs, s) := id rfl
@[simp] theorem frz_tup (s : Sto) (xs : List D) : frzD s (.tup xs) = (.tup xs, s) := id rfl
@[simp] theorem frz_int (s : Sto) (x : Int) : frzD s (.int x) = (.int x, s) := id rfl
@[simp] theorem frz_str (s : Sto) (x : Str) : frzD s (.str x) = (.str x, s) := id rfl
@[simp] theorem frz_bl (s : Sto) (x : Bool) : frzD s (.bl x) = (.bl x, s) := id rfl
@[simp] theorem frz_non (s : Sto) : frzD s .non = (.non, s) := id rfl
theorem get_set {s : Sto} {i : Nat} {o u : O} (h : s[i]? = some o) : (s.set i u)[i]? = some u := List.getElem?_set_self (List.getElem?_eq_some_iff.mp h).1
theorem set_same {s : Sto} {i : Nat} {o : O} (h : s[i]? = some o) : s.set i o = s := by
  apply List.ext_getElem?
  intro j
  by_cases z : i = j
  · subst z; rw [get_set h, h]
  · rw [List.getElem?_set_ne z]
@[simp] theorem get_last (s : Sto) (o : O) : (s ++ [o])[s.length]? = some o := by simp
@[simp] theorem v_add (i j : Int) : gAdd (.int i) (.int j) = some (.int (i + j)) := id rfl
@[simp] theorem v_addI (i j : Int) : gAddI (.int i) (.int j) = some (.int (i + j)) := id rfl
@[simp] theorem v_sub (i j : Int) : gSub (.int i) (.int j) = some (.int (i - j)) := id rfl
@[simp] theorem v_mul (i j : Int) : gMul (.int i) (.int j) = if IntMulOk i j then some (.int (i * j)) else none := id rfl
@[simp] theorem v_div (i j : Int) : gDiv (.int i) (.int j) = if divOk j then some (.int (i / j)) else none := id rfl
@[simp] theorem v_mod (i j : Int) : gMod (.int i) (.int j) = if 0 < j then some (.int (i % j)) else none := id rfl
@[simp] theorem v_pow (i j : Int) : gPow (.int i) (.int j) = if powOk i j then some (.int (i ^ j.toNat)) else none := id rfl
@[simp] theorem v_addL (xs ys : List D) : gAdd (.lst xs) (.lst ys) = if xs.length + ys.length ≤ sizeLine then some (.lst (xs ++ ys)) else none := id rfl
@[simp] theorem v_eqB (a b : Bool) : gEq (.bl a) (.bl b) = some (.bl (decide (a = b))) := id rfl
@[simp] theorem v_neB (a b : Bool) : gNe (.bl a) (.bl b) = some (.bl (!decide (a = b))) := id rfl
@[simp] theorem v_gListL (xs : List D) : gList [.lst xs] = some (.lst xs) := id rfl
@[simp] theorem v_gListT (xs : List D) : gList [.tup xs] = some (.lst xs) := id rfl
@[simp] theorem v_gTupleL (xs : List D) : gTuple [.lst xs] = some (.tup xs) := id rfl
@[simp] theorem v_gTupleT (xs : List D) : gTuple [.tup xs] = some (.tup xs) := id rfl
@[simp] theorem v_gIntI (i : Int) : gInt [.int i] = some (.int i) := id rfl
@[simp] theorem v_gIntB (b : Bool) : gInt [.bl b] = some (.int (if b then 1 else 0)) := id rfl
@[simp] theorem v_gslL (xs : List D) (lo hi : Option Int) : gSl (.lst xs) lo hi = some (.lst (cutD xs lo hi)) := id rfl
@[simp] theorem isN_non : gIsN .non .non = some (.bl true) := id rfl
@[simp] theorem isN_str (x : Str) : gIsN (.str x) .non = some (.bl false) := id rfl
@[simp] theorem isN_tup (x : List D) : gIsN (.tup x) .non = some (.bl false) := id rfl
@[simp] theorem isN_lst (x : List D) : gIsN (.lst x) .non = some (.bl false) := id rfl
@[simp] theorem isN_int (x : Int) : gIsN (.int x) .non = some (.bl false) := id rfl
@[simp] theorem notN_non : gNotN .non .non = some (.bl false) := id rfl
@[simp] theorem notN_str (x : Str) : gNotN (.str x) .non = some (.bl true) := id rfl
@[simp] theorem notN_tup (x : List D) : gNotN (.tup x) .non = some (.bl true) := id rfl
/-- a part of any list -/
def cutL {α : Type} (xs : List α) (lo hi : Option Int) : List α := (xs.drop (HT.sIx xs.length 0 lo)).take (HT.sIx xs.length xs.length hi - HT.sIx xs.length 0 lo)
theorem cutD_map {α : Type} (f : α → D) (xs : List α) (lo hi : Option Int) : cutD (xs.map f) lo hi = (cutL xs lo hi).map f := by
  simp [cutD, cutL, List.map_take, List.map_drop]
@[simp] theorem cutD_ints (xs : List Int) (lo hi : Option Int) : cutD (xs.map D.int) lo hi = (cutL xs lo hi).map D.int := cutD_map _ _ _ _
theorem cutL_sub {α : Type} {xs : List α} {lo hi : Option Int} {x : α} (h : x ∈ cutL xs lo hi) : x ∈ xs := List.mem_of_mem_drop (List.mem_of_mem_take h)
theorem cutL_len {α : Type} (xs : List α) (lo hi : Option Int) : (cutL xs lo hi).length ≤ xs.length := by
  simp only [cutL, List.length_take, List.length_drop]
  omega
theorem cutL_nn {α : Type} (xs : List α) (a b : Nat) : cutL xs (some (a : Int)) (some (b : Int)) = (xs.drop a).take (b - a) := by
  simp only [cutL, HT.sIx_nat]
  by_cases h : a ≤ xs.length
  · rw [Nat.min_eq_left h]
    by_cases h2 : b ≤ xs.length
    · rw [Nat.min_eq_left h2]
    · rw [Nat.min_eq_right (by omega), List.take_of_length_le (by simp), List.take_of_length_le (by simp; omega)]
  · have e : min a xs.length = xs.length := by omega
    rw [e, List.drop_of_length_le (Nat.le_refl _), List.drop_of_length_le (by omega)]
    simp
@[simp] theorem v_lt (i j : Int) : gLt (.int i) (.int j) = some (.bl (decide (i < j))) := id rfl
@[simp] theorem v_le (i j : Int) : gLe (.int i) (.int j) = some (.bl (decide (i ≤ j))) := id rfl
@[simp] theorem v_gt (i j : Int) : gGt (.int i) (.int j) = some (.bl (decide (j < i))) := id rfl
@[simp] theorem v_ge (i j : Int) : gGe (.int i) (.int j) = some (.bl (decide (j ≤ i))) := id rfl
@[simp] theorem v_eqI (i j : Int) : gEq (.int i) (.int j) = some (.bl (decide (i = j))) := id rfl
@[simp] theorem v_neI (i j : Int) : gNe (.int i) (.int j) = some (.bl (!decide (i = j))) := id rfl
@[simp] theorem v_neg (i : Int) : gNeg (.int i) = some (.int (-i)) := id rfl
@[simp] theorem v_lenL (xs : List D) : gLen [.lst xs] = some (.int xs.length) := id rfl
@[simp] theorem v_lenT (xs : List D) : gLen [.tup xs] = some (.int xs.length) := id rfl
@[simp] theorem v_lenS (x : Str) : gLen [.str x] = if x.length ≤ sizeLine then some (.int x.length) else none := id rfl
@[simp] theorem v_min2 (i j : Int) : gMin2 [.int i, .int j] = some (.int (if j < i then j else i)) := id rfl
@[simp] theorem v_max2 (i j : Int) : gMax2 [.int i, .int j] = some (.int (if j > i then j else i)) := id rfl
@[simp] theorem v_ixL (xs : List D) (i : Int) : gIx (.lst xs) (.int i) = atI xs i := id rfl
@[simp] theorem v_ixT (xs : List D) (i : Int) : gIx (.tup xs) (.int i) = atI xs i := id rfl
@[simp] theorem v_revL (xs : List D) : gRev (.lst xs) = some (.lst xs.reverse) := id rfl
@[simp] theorem v_isi (n : String) (d : D) : gIsi n d = (tyN d).map fun t => .bl (isTy t n) := id rfl
@[simp] theorem v_isi2 (n m : String) (d : D) : gIsi2 n m d = (tyN d).map fun t => .bl (isTy t n || isTy t m) := id rfl
@[simp] theorem v_tyI (i : Int) : tyN (.int i) = some "int" := id rfl
@[simp] theorem v_tyB (i : Bool) : tyN (.bl i) = some "bool" := id rfl
@[simp] theorem v_tyS (i : Str) : tyN (.str i) = some "str" := id rfl
@[simp] theorem v_tyT (i : List D) : tyN (.tup i) = some "tuple" := id rfl
@[simp] theorem v_tyL (i : List D) : tyN (.lst i) = some "list" := id rfl
@[simp] theorem v_tyN : tyN .non = some "NoneType" := id rfl
@[simp] theorem v_isTy_NoneTypeNoneType : isTy "NoneType" "NoneType" = true := by decide
@[simp] theorem v_isTy_NoneTypebool : isTy "NoneType" "bool" = false := by decide
@[simp] theorem v_isTy_NoneTypeint : isTy "NoneType" "int" = false := by decide
@[simp] theorem v_isTy_NoneTypestr : isTy "NoneType" "str" = false := by decide
@[simp] theorem v_isTy_NoneTypetuple : isTy "NoneType" "tuple" = false := by decide
@[simp] theorem v_isTy_NoneTypelist : isTy "NoneType" "list" = false := by decide
@[simp] theorem v_isTy_boolNoneType : isTy "bool" "NoneType" = false := by decide
@[simp] theorem v_isTy_boolbool : isTy "bool" "bool" = true := by decide
@[simp] theorem v_isTy_boolint : isTy "bool" "int" = true := by decide
@[simp] theorem v_isTy_boolstr : isTy "bool" "str" = false := by decide
@[simp] theorem v_isTy_booltuple : isTy "bool" "tuple" = false := by decide
@[simp] theorem v_isTy_boollist : isTy "bool" "list" = false := by decide
@[simp] theorem v_isTy_intNoneType : isTy "int" "NoneType" = false := by decide
@[simp] theorem v_isTy_intbool : isTy "int" "bool" = false := by decide
@[simp] theorem v_isTy_intint : isTy "int" "int" = true := by decide
@[simp] theorem v_isTy_intstr : isTy "int" "str" = false := by decide
@[simp] theorem v_isTy_inttuple : isTy "int" "tuple" = false := by decide
@[simp] theorem v_isTy_intlist : isTy "int" "list" = false := by decide
@[simp] theorem v_isTy_strNoneType : isTy "str" "NoneType" = false := by decide
@[simp] theorem v_isTy_strbool : isTy "str" "bool" = false := by decide
@[simp] theorem v_isTy_strint : isTy "str" "int" = false := by decide
@[simp] theorem v_isTy_strstr : isTy "str" "str" = true := by decide
@[simp] theorem v_isTy_strtuple : isTy "str" "tuple" = false := by decide
@[simp] theorem v_isTy_strlist : isTy "str" "list" = false := by decide
@[simp] theorem v_isTy_tupleNoneType : isTy "tuple" "NoneType" = false := by decide
@[simp] theorem v_isTy_tuplebool : isTy "tuple" "bool" = false := by decide
@[simp] theorem v_isTy_tupleint : isTy "tuple" "int" = false := by decide
@[simp] theorem v_isTy_tuplestr : isTy "tuple" "str" = false := by decide
@[simp] theorem v_isTy_tupletuple : isTy "tuple" "tuple" = true := by decide
@[simp] theorem v_isTy_tuplelist : isTy "tuple" "list" = false := by decide
@[simp] theorem v_isTy_listNoneType : isTy "list" "NoneType" = false := by decide
@[simp] theorem v_isTy_listbool : isTy "list" "bool" = false := by decide
@[simp] theorem v_isTy_listint : isTy "list" "int" = false := by decide
@[simp] theorem v_isTy_liststr : isTy "list" "str" = false := by decide
@[simp] theorem v_isTy_listtuple : isTy "list" "tuple" = false := by decide
@[simp] theorem v_isTy_listlist : isTy "list" "list" = true := by decide
theorem small_line {n : Nat} (h : n ≤ 100000) : n ≤ sizeLine := Nat.le_trans h (by decide)
@[simp] theorem v_line0 : (0 : Nat) ≤ sizeLine := Nat.zero_le _
@[simp] theorem v_line1 : (1 : Nat) ≤ sizeLine := by decide
@[simp] theorem v_line2 : (2 : Nat) ≤ sizeLine := by decide
@[simp] theorem v_line3 : (3 : Nat) ≤ sizeLine := by decide
@[simp] theorem v_line4 : (4 : Nat) ≤ sizeLine := by decide
@[simp] theorem v_line5 : (5 : Nat) ≤ sizeLine := by decide
@[simp] theorem v_line6 : (6 : Nat) ≤ sizeLine := by decide
@[simp] theorem v_line7 : (7 : Nat) ≤ sizeLine := by decide
@[simp] theorem v_line8 : (8 : Nat) ≤ sizeLine := by decide
@[simp] theorem v_isB (a b : Bool) : gIsB (.bl a) (.bl b) = some (.bl (decide (a = b))) := id rfl
@[simp] theorem v_notB (a b : Bool) : gNotB (.bl a) (.bl b) = some (.bl (!decide (a = b))) := id rfl
@[simp] theorem v_eqS (a b : Str) : gEq (.str a) (.str b) = some (.bl (decide (a = b))) := id rfl
@[simp] theorem v_neS (a b : Str) : gNe (.str a) (.str b) = some (.bl (!decide (a = b))) := id rfl
@[simp] theorem v_addS (x y : Str) : gAdd (.str x) (.str y) = if x.length + y.length ≤ sizeLine then some (.str (x ++ y)) else none := id rfl
@[simp] theorem v_addT (xs ys : List D) : gAdd (.tup xs) (.tup ys) = if xs.length + ys.length ≤ sizeLine then some (.tup (xs ++ ys)) else none := id rfl
@[simp] theorem v_ixS (z : Str) (i : Int) : gIx (.str z) (.int i) = if z.length ≤ sizeLine then (atI z.cps.toList i).map fun c => .str ⟨#[c]⟩ else none := id rfl

end Gs

/-! G10: equality, items, lists of numbers. -/
namespace Gs
open PySem L2
abbrev iL (xs : List Int) : D := .lst (xs.map D.int)
theorem toPyL_ints : ∀ xs : List Int, toPyL (xs.map D.int) = some (xs.map PyData.int)
  | [] => by simp [toPyL]
  | x :: xs => by simp [toPyL, toPy, toPyL_ints xs]
theorem eqvAll_ints : ∀ xs ys : List Int, PyData.eqvAll (xs.map PyData.int) (ys.map PyData.int) = decide (xs = ys)
  | [], [] => by simp [PyData.eqvAll]
  | [], y :: ys => by simp [PyData.eqvAll]
  | x :: xs, [] => by simp [PyData.eqvAll]
  | x :: xs, y :: ys => by
    rw [List.map_cons, List.map_cons, PyData.eqvAll, eqvAll_ints xs ys, PyData.eqv]
    by_cases h : x = y <;> by_cases h2 : xs = ys <;> simp [h, h2]
theorem canLay_ints : ∀ xs : List Int, PyData.canLayAll0 (xs.map PyData.int) = true
  | [] => by simp [PyData.canLayAll0]
  | x :: xs => by simp [PyData.canLayAll0, PyData.canLay0, canLay_ints xs]
theorem depth_ints : ∀ xs : List Int, PyData.depthAll (xs.map PyData.int) = 0
  | [] => by simp [PyData.depthAll]
  | x :: xs => by simp [PyData.depthAll, PyData.depth, depth_ints xs]
theorem shaped_ints (xs : List Int) : SeqAt.shaped (.list (xs.map PyData.int)) = true := by
  simp [SeqAt.shaped, PyData.canLay0, PyData.depth, canLay_ints, depth_ints]
theorem eqO_L (xs ys : List Int) : eqO (.lst (xs.map D.int)) (.lst (ys.map D.int)) = some (decide (xs = ys)) := by
  have h : eqO (.lst (xs.map D.int)) (.lst (ys.map D.int)) = eqPy (.lst (xs.map D.int)) (.lst (ys.map D.int)) := by simp [eqO]
  rw [h]
  simp [eqPy, toPy, toPyL_ints, shaped_ints, PyData.eqv, eqvAll_ints]
@[simp] theorem v_eqL (xs ys : List Int) : gEq (.lst (xs.map D.int)) (.lst (ys.map D.int)) = some (.bl (decide (xs = ys))) := by simp [gEq, eqO_L]
@[simp] theorem v_neL (xs ys : List Int) : gNe (.lst (xs.map D.int)) (.lst (ys.map D.int)) = some (.bl (!decide (xs = ys))) := by simp [gNe, eqO_L]
@[simp] theorem v_eqL0 (xs : List Int) : gEq (.lst (xs.map D.int)) (.lst []) = some (.bl (decide (xs = []))) := v_eqL xs []
@[simp] theorem v_neL0 (xs : List Int) : gNe (.lst (xs.map D.int)) (.lst []) = some (.bl (!decide (xs = []))) := v_neL xs []
@[simp] theorem v_at0 (a : D) (l : List D) : atI (a :: l) 0 = some a := atI_ofNat (a :: l) (j := 0) (by simp)
@[simp] theorem v_at1 (a b : D) (l : List D) : atI (a :: b :: l) 1 = some b := atI_ofNat (a :: b :: l) (j := 1) (by simp)
@[simp] theorem v_at2 (a b c : D) (l : List D) : atI (a :: b :: c :: l) 2 = some c := atI_ofNat (a :: b :: c :: l) (j := 2) (by simp)
@[simp] theorem v_at3 (a b c d : D) (l : List D) : atI (a :: b :: c :: d :: l) 3 = some d := atI_ofNat (a :: b :: c :: d :: l) (j := 3) (by simp)
theorem eqO_T2 (a b c d : Int) : eqO (.tup [.int a, .int b]) (.tup [.int c, .int d]) = some (decide (a = c ∧ b = d)) := by
  have h : eqO (.tup [.int a, .int b]) (.tup [.int c, .int d]) = eqPy (.tup [.int a, .int b]) (.tup [.int c, .int d]) := by simp [eqO]
  rw [h]
  by_cases h1 : a = c <;> by_cases h2 : b = d <;> simp [eqPy, toPy, toPyL, SeqAt.shaped, PyData.canLay0, PyData.canLayAll0, PyData.depth, PyData.depthAll, PyData.eqv, PyData.eqvAll, h1, h2]
@[simp] theorem v_eqT2 (a b c d : Int) : gEq (.tup [.int a, .int b]) (.tup [.int c, .int d]) = some (.bl (decide (a = c ∧ b = d))) := by simp [gEq, eqO_T2]
@[simp] theorem v_neT2 (a b c d : Int) : gNe (.tup [.int a, .int b]) (.tup [.int c, .int d]) = some (.bl (!decide (a = c ∧ b = d))) := by simp [gNe, eqO_T2]
theorem cutL_lo {α : Type} (xs : List α) (a : Nat) : cutL xs (some (a : Int)) none = xs.drop a := by
  simp only [cutL, HT.sIx_nat, HT.sIx_none]
  by_cases h : a ≤ xs.length
  · rw [Nat.min_eq_left h, List.take_of_length_le (by simp)]
  · have e : min a xs.length = xs.length := by omega
    rw [e, List.drop_of_length_le (Nat.le_refl _), List.drop_of_length_le (by omega)]
    simp
theorem cutL_hi {α : Type} (xs : List α) (b : Nat) : cutL xs none (some (b : Int)) = xs.take b := by
  simp only [cutL, HT.sIx_nat, HT.sIx_none, List.drop_zero, Nat.sub_zero]
  by_cases h : b ≤ xs.length
  · rw [Nat.min_eq_left h]
  · rw [Nat.min_eq_right (by omega), List.take_of_length_le (by simp), List.take_of_length_le (by omega)]
/-! == of data -/
def eqk (k : Nat) (d : D) : Prop := ∃ p, toPy d = some p ∧ p.canLay0 = true ∧ p.depth ≤ k
theorem eqk_int (k : Nat) (i : Int) : eqk k (.int i) := ⟨.int i, by simp [toPy], by simp [PyData.canLay0], by simp [PyData.depth]⟩
theorem eqk_str (k : Nat) {z : Str} (h : PyData.canLay0 (.str z) = true) : eqk k (.str z) := ⟨.str z, by simp [toPy], h, by simp [PyData.depth]⟩
theorem eqk_up {k l : Nat} {d : D} (h : eqk k d) (hl : k ≤ l) : eqk l d := by
  obtain ⟨p, h1, h2, h3⟩ := h
  exact ⟨p, h1, h2, Nat.le_trans h3 hl⟩
theorem eqk_tup {k : Nat} {v u : D} (h : eqk k v) (h2 : eqk k u) : eqk (k + 1) (.tup [v, u]) := by
  obtain ⟨p, a1, a2, a3⟩ := h
  obtain ⟨q, b1, b2, b3⟩ := h2
  exact ⟨.tuple [p, q], by simp [toPy, toPyL, a1, b1], by simp [PyData.canLay0, PyData.canLayAll0, a2, b2], by simp [PyData.depth, PyData.depthAll]; omega⟩
theorem eqk_all {k : Nat} : ∀ {xs : List D}, (∀ x ∈ xs, eqk k x) → ∃ ps, toPyL xs = some ps ∧ PyData.canLayAll0 ps = true ∧ PyData.depthAll ps ≤ k
  | [], _ => ⟨[], by simp [toPyL], by simp [PyData.canLayAll0], by simp [PyData.depthAll]⟩
  | x :: xs, h => by
    obtain ⟨p, a1, a2, a3⟩ := h x (by simp)
    obtain ⟨ps, b1, b2, b3⟩ := eqk_all (xs := xs) fun y hy => h y (by simp [hy])
    exact ⟨p :: ps, by simp [toPyL, a1, b1], by simp [PyData.canLayAll0, a2, b2], by simp [PyData.depthAll]; omega⟩
theorem eqk_lst {k : Nat} {xs : List D} (h : ∀ x ∈ xs, eqk k x) : eqk (k + 1) (.lst xs) := by
  obtain ⟨ps, b1, b2, b3⟩ := eqk_all h
  exact ⟨.list ps, by simp [toPy, b1], by simpa [PyData.canLay0] using b2, by simp [PyData.depth]; omega⟩
theorem eqO_self {xs : List D} {k : Nat} (h : eqk k (.lst xs)) (hk : k ≤ 60) : eqO (.lst xs) (.lst xs) = some true := by
  obtain ⟨p, h1, h2, h3⟩ := h
  have e : eqO (.lst xs) (.lst xs) = eqPy (.lst xs) (.lst xs) := by simp [eqO]
  rw [e]
  unfold eqPy
  rw [h1]
  have hs : SeqAt.shaped p = true := by
    simp [SeqAt.shaped, h2]
    omega
  simp [hs, SeqAt.eqv_refl p h2]
theorem eqk_bl (k : Nat) (b : Bool) : eqk k (.bl b) := ⟨.bool b, by simp [toPy], rfl, by simp [PyData.depth]⟩
theorem eqk_tupL {k : Nat} {xs : List D} (h : ∀ x ∈ xs, eqk k x) : eqk (k + 1) (.tup xs) := by
  obtain ⟨ps, b1, b2, b3⟩ := eqk_all h
  exact ⟨.tuple ps, by simp [toPy, b1], by simpa [PyData.canLay0] using b2, by simp [PyData.depth]; omega⟩
theorem eqO_nil {k : Nat} {xs : List D} (h : eqk k (.lst xs)) (hk : k ≤ 60) : eqO (.lst xs) (.lst []) = some (decide (xs = [])) := by
  obtain ⟨p, h1, h2, h3⟩ := h
  have e : eqO (.lst xs) (.lst []) = eqPy (.lst xs) (.lst []) := by simp [eqO]
  rw [e]
  unfold eqPy
  rw [h1]
  have hs : SeqAt.shaped p = true := by
    simp [SeqAt.shaped, h2]
    omega
  have hn : toPy (.lst []) = some (.list []) := by simp [toPy, toPyL]
  have hs2 : SeqAt.shaped (.list []) = true := by simp [SeqAt.shaped, PyData.canLay0, PyData.canLayAll0, PyData.depth, PyData.depthAll]
  rw [hn]
  simp only [hs, hs2, Bool.and_self, if_true]
  simp only [toPy] at h1
  cases xs with
  | nil =>
    simp [toPyL] at h1
    subst h1
    simp [PyData.eqv, PyData.eqvAll]
  | cons x xs =>
    simp only [toPyL] at h1
    cases hx : toPy x with
    | none => rw [hx] at h1; simp at h1
    | some q =>
      cases hy : toPyL xs with
      | none => rw [hx, hy] at h1; simp at h1
      | some qs =>
        rw [hx, hy] at h1
        simp at h1
        subst h1
        simp [PyData.eqv, PyData.eqvAll]
theorem eq_nil {k : Nat} {xs : List D} (h : eqk k (.lst xs)) (hk : k ≤ 60) : gEq (.lst xs) (.lst []) = some (.bl (decide (xs = []))) := by simp [gEq, eqO_nil h hk]

@[simp] theorem eq_non_str (x : Str) : gEq .non (.str x) = some (.bl false) := by simp [gEq, eqO]
@[simp] theorem eq_str_non (x : Str) : gEq (.str x) .non = some (.bl false) := by simp [gEq, eqO]
@[simp] theorem eq_non_non : gEq .non .non = some (.bl true) := by simp [gEq, eqO]
@[simp] theorem v_eq00 : gEq (.lst []) (.lst []) = some (.bl true) := (v_eqL [] []).trans (by simp)
@[simp] theorem v_ne00 : gNe (.lst []) (.lst []) = some (.bl false) := (v_neL [] []).trans (by simp)
/-! what stands in the midst of a store -/
@[simp] theorem get_mid (s0 g : Sto) (o : O) : (s0 ++ o :: g)[s0.length]? = some o := by simp
@[simp] theorem set_mid (s0 g : Sto) (o u : O) : (s0 ++ o :: g).set s0.length u = s0 ++ u :: g := by simp
@[simp] theorem lsO_mid (s0 g : Sto) (xs : List D) : lsO (s0 ++ .lst xs :: g) (.ob s0.length) = some xs := lsO_ob (get_mid _ _ _)
@[simp] theorem rsv_mid (s0 g : Sto) (xs : List D) : rsv (s0 ++ .lst xs :: g) (.ob s0.length) = .lst xs := r_ob (get_mid _ _ _)
@[simp] theorem frz_mid (s0 g : Sto) (xs : List D) : frzD (s0 ++ .lst xs :: g) (.ob s0.length) = (.lst xs, s0 ++ .gone :: g) := by rw [frz_ob (get_mid _ _ _), set_mid]
theorem forL {p : Pt} {body : S} {xs : List Int} {δ : Sl} {s : Sto} (Inv : Nat → Sl → Sto → Prop) (h0 : Inv 0 δ s)
    (hs : ∀ i (h : i < xs.length) δ s, Inv i δ s → ∃ δ1, bindP p (.int xs[i]) δ = some δ1 ∧ ∃ δ2 s2, body δ1 s = .nx δ2 s2 ∧ Inv (i + 1) δ2 s2) : ∃ δ' s', forD p body (xs.map D.int) δ s = .nx δ' s' ∧ Inv xs.length δ' s' := by
  have z := forD_inv (p := p) (body := body) Inv (xs.map D.int) 0 δ s h0 fun i d δ s hd hi => by
    obtain ⟨h1, h2⟩ := List.getElem?_eq_some_iff.mp hd
    rw [List.length_map] at h1
    rw [List.getElem_map] at h2
    subst h2
    rw [Nat.zero_add] at hi ⊢
    exact hs i h1 δ s hi
  rw [Nat.zero_add, List.length_map] at z
  exact z
end Gs

/-! GX: an exception that was caught is kept, as data. -/
namespace L2
open PySem PySem.Spec PyProof.Rows
/-- a thing that stands in the heap, laid within this frame, is tracked from here on -/
theorem Inv.track {X : Cx} {pins : List (Addr × Obj)} {σ : St} {H : Hp} {s : Shared} {a : Addr} {oe : Obj} {vs : Array Value} {o : HO} (J : Inv X pins σ H s) (hg : s.heap.get? a = some oe) (hd : oe.data = .fields vs) (na : H a = none) (n0 : X.s_0.heap.get? a = none) (nL : a ≠ X.env.locals)
    (np : ∀ p ∈ X.pn ++ pins, p.1 ≠ a) (nw : ObjOk X.prog X.w (upd H a o) s.heap a o) : Inv X pins σ (upd H a o) s where
  ok := J.ok
  os := J.os
  bare := J.bare
  base := by
    have ne : ∀ {b : Addr} {u : Obj}, X.s_0.heap.get? b = some u → b ≠ a := fun q z => by rw [z, n0] at q; cases q
    exact ⟨J.base.keep, J.base.slot, fun b u q m x => by rw [upd_ne (ne q)]; exact J.base.free b u q m x, J.base.there,
      fun b xs q => by
        have z := J.base.tups b xs q
        rw [upd_ne (ne_of_none z na)]
        exact z,
      fun b u w q => by
        have z := J.base.frzs b u w q
        rw [upd_ne (ne_of_none z na)]
        exact z,
      fun b ps q => by
        obtain ⟨more, z⟩ := J.base.tbls b ps q
        exact ⟨more, by rw [upd_ne (ne_of_none z na)]; exact z⟩⟩
  loc := J.loc
  cell := J.cell
  free := by rw [upd_ne nL.symm]; exact J.free
  freeC := fun x c e => by
    have ne : c ≠ a := fun z => by
      obtain ⟨v, oc, hoc, hdc⟩ := J.cell x c e
      rw [z, hg] at hoc
      cases hoc
      rw [hd] at hdc
      cases hdc
    rw [upd_ne ne]
    exact J.freeC x c e
  pin := fun p hp => by
    obtain ⟨e1, e2, e3, e4, e5⟩ := J.pin p hp
    exact ⟨e1, by rw [upd_ne (np p hp)]; exact e2, e3, e4, e5⟩
  hok := HOk.laidN J.hok (fun _ _ q => q) na nw
  len := J.len
/-- an exception object of the class cls with the own dict d at a -/
def EvK (cls : Value) (d : Option Addr) (a : Addr) : HO := .ext fun h => ∃ (oe : Obj) (vs : Array Value), h.get? a = some oe ∧ Zc cls d oe ∧ oe.data = .fields vs
theorem evK_ok {P : Program} {w : World} {H : Hp} {h : Heap} {a : Addr} {cls : Value} {d : Option Addr} {oe : Obj} {vs : Array Value} (e : h.get? a = some oe) (z : Zc cls d oe) (q : oe.data = .fields vs) : ObjOk P w H h a (EvK cls d a) :=
  ⟨⟨oe, vs, e, z, q⟩, ⟨oe, e⟩, fun _ _ ⟨o, v, q1, r⟩ k => ⟨o, v, k o q1, r⟩⟩
/-- the ends of a suite, the exception at a tracked behind it -/
def kEnds (i : Nat) (D : Ends) (T : Hp → Hp) : Ends :=
  { nx := fun σ H => D.nx (σ.set i none) (T H), rt := fun v H => D.rt v (T H), bk := fun σ H => D.bk (σ.set i none) (T H), ct := fun σ H => D.ct (σ.set i none) (T H) }
def wKp (K : PySem.W.Frag) (c : Value) (i : Nat) (ts : Addr → Value → Option Addr → TS) (Wo : WX) (D : Ends) : WX := fun cls d σ H => ∃ b, PySem.W.exmOne K cls c = some b ∧
  (b = true → ∀ a, H a = none → ts a cls d (kEnds i D fun H' => upd H' a (EvK cls d a)) (σ.set i (some (.ref a))) H) ∧ (b = false → Wo cls d σ H)
section
variable {X : Cx} {x n : Str} {c : Value} {i : Nat} {body suite : List Stmt} {st₀ : Stmt} {np pos pos' : Pos} {tb : WX → TS} {ts : Addr → Value → Option Addr → TS} {Wo : WX}
theorem ps_try_keep (hs : X.stack = X.env :: X.outer) (hf : X.env.frame = some X.env.locals) (hN : X.N.Nodup) (hi : X.N[i]? = some n) (hln : X.env.kindOf n = some .local) (hx0 : X.ex = []) (hc : Names X x c) (tk : Takes X Wo)
    (hb : ∀ (W : WX) (pn : List (Addr × Obj)) (xe : Value → Shared → Prop), Takes (X.tr pn xe) W → PassesOwn (model X.prog X.w) X.A X.env xe → PSs (X.tr pn xe) body (tb W))
    (hsu : ∀ (a : Addr) (oe : Obj) (cls : Value) (d : Option Addr) (pn : List (Addr × Obj)), Zc cls d oe → (∃ vs, oe.data = .fields vs) → PSs (X.suite a ((a, oe) :: pn)) (st₀ :: suite) (ts a cls d)) :
    PS X (.Try body [.ExceptHandler (some (.Name x np)) (some n) (st₀ :: suite) pos'] [] [] pos) (fun D σ H => tb (wKp X.K c i ts Wo D) D σ H) := by
  refine ⟨fun pins s σ H D I0 hpre => ?_⟩
  have okX := I0.ok
  have frames : X.A.frames = some (X.env :: X.outer) := by rw [okX.frames, hs]
  refine wpAny_Try_except ?_
  have bodyRun := (hb (wKp X.K c i ts Wo D) (X.pn ++ pins) (fun e z1 => wpAny (model X.prog X.w) X.A (noteFrame e X.env) (fun _ z2 => wpAny (model X.prog X.w) X.A (setFlight e none)
      (fun _ z3 => wpAny (model X.prog X.w) X.A (handleBy e X.env [.ExceptHandler (some (.Name x np)) (some n) (st₀ :: suite) pos']) (SP X pins D) X.xe z3) X.xe z2) X.xe z1) (fun u z xx => ?_) PassesOwn.looking).run [] s σ H D (I0.toTry _) hpre
  · refine wpAny_mono bodyRun (fun fl z1 hsp => ?_) (fun _ _ he => he)
    cases fl with
    | next =>
      obtain ⟨σ1, H1, J1, q1⟩ := hsp
      exact wpAny_execs_nil ⟨σ1, H1, J1.ofTry okX, q1⟩
    | brk =>
      obtain ⟨σ1, H1, J1, q1⟩ := hsp
      exact ⟨σ1, H1, J1.ofTry okX, q1⟩
    | cont =>
      obtain ⟨σ1, H1, J1, q1⟩ := hsp
      exact ⟨σ1, H1, J1.ofTry okX, q1⟩
    | ret u =>
      obtain ⟨v1, σ1, H1, J1, r1, q1⟩ := hsp
      exact ⟨v1, σ1, H1, J1.ofTry okX, r1, q1⟩
  · -- what is caught
    obtain ⟨a, B, sI, pins', σc, Hc, cls, d, rfl, Jt, nb, up, sky, na, osE, ag, b, hb1, hyes, hno⟩ := xx
    have J : Inv X pins σc Hc sI := Jt.ofTry okX
    have skyE : Sky B (X.env :: X.outer) a (Zc cls d) X.env.locals z.heap := by rw [← hs]; exact sky
    have nB : B.get? a = none := by rcases skyE with q | q | q <;> exact q.2.1
    show wpAny (model X.prog X.w) X.A (noteFrame (.ref a) X.env) _ _ _
    refine Sky.land Zc.steady frames hf skyE fun hp3 fly3 up3 => ?_
    have K3 : Inv X pins σc Hc { z with heap := hp3 } := J.landed nb fly3.1 (up.trans up3) osE ag
    obtain ⟨oe3, vs3, g3, zc3, d3⟩ := fly3.there
    have notFrame : a ∉ frs (X.env :: X.outer) := fun hm => by
      obtain ⟨_, o', e', hnf⟩ := fly3.2.2.1.mem hm
      rw [g3] at e'
      cases e'
      exact hnf _ d3
    have nL : a ≠ X.env.locals := fun w => notFrame (List.mem_filterMap.mpr ⟨X.env, List.mem_cons_self, by rw [hf, w]⟩)
    have nF : a ∉ X.fs := fun hm => by
      obtain ⟨e, he, q⟩ := List.mem_filterMap.mp hm
      exact notFrame (List.mem_filterMap.mpr ⟨e, List.mem_cons_of_mem _ he, q⟩)
    -- the exception is new
    have nI : sI.heap.get? a = none := by
      cases w : sI.heap.get? a with
      | none => rfl
      | some ob =>
        have w2 := nb a ob w (by rw [hs]; exact notFrame)
        rw [nB] at w2
        cases w2
    have n0 : X.s_0.heap.get? a = none := by
      cases w : X.s_0.heap.get? a with
      | none => rfl
      | some ob =>
        obtain ⟨o', w2⟩ := J.base.there a ob w (by rw [hx0]; simp)
        rw [nI] at w2
        cases w2
    have npin : ∀ p ∈ X.pn ++ pins, p.1 ≠ a := fun p hp w => by
      have w2 := (J.pin p hp).1
      rw [w, nI] at w2
      cases w2
    refine wpAny_handleBy_cons (codeAny_handlers_test ?_) (by intro q; cases q)
    have LT : PySem.W.Looks (model X.prog X.w) hp3 (typeOf (.ref a)) cls := fun A Q E s k q => wpAny_typeOf_ref (k _ _ g3) (by rw [zc3.1]; exact q)
    have LM := PySem.W.exm_one (M := model X.prog X.w) (K3.kIn) LT hb1
    have S3 := K3.suite g3 d3 na nL nF
    have clsNamed : ∀ {Q : Value → Shared → Prop} {E : Value → Shared → Prop}, Q c { z with heap := hp3 } → wpAny (model X.prog X.w) (X.A.mark (some (.ref a))) (eval (.Name x np) X.env) Q E { z with heap := hp3 } := fun {Q E} q => by
      obtain ⟨hgl, hdbg, hm | ⟨hm, hv, hnn⟩⟩ := hc
      · exact ld_glob (X := X.suite a ((a, oe3) :: (X.pn ++ pins))) S3 hgl hm q hdbg
      · exact ld_blt (X := X.suite a ((a, oe3) :: (X.pn ++ pins))) S3 hgl hm hv q hnn hdbg
    refine clsNamed (LM.here ?_)
    cases b with
    | false =>
      show wpAny _ X.A (handleBy (.ref a) X.env []) _ _ _
      refine wpAny_handleBy_nil ?_
      obtain ⟨k1, k2, k3, oe, vs, T, oT, tsl, he, hz, hd, h1, hr⟩ := id fly3
      unfold PySem.passOn
      refine wpAny_bind (wpAny_field he hd h1 ?_)
      rw [if_neg (show ¬ ((Value.ref T == Value.none) = true) from by simp)]
      have fin : wpAny (model X.prog X.w) X.A (setFlight (.ref a) X.env.frame) (fun _ z4 => wpAny (model X.prog X.w) X.A (throw (.ref a) : Sem Flow) (SP X pins D) X.xe z4) X.xe { z with heap := hp3 } := by
        rw [hf]
        refine HandSPX.setFlight_upZ fly3 fun h4 hh4 up4 => wpAny_throw (tk _ _ ?_)
        exact ⟨a, B, sI, pins, σc, Hc, cls, d, rfl, J, nb, (up.trans up3).trans up4, .inr (.inr (by rw [hs]; exact hh4)), na, osE, ag, hno rfl⟩
      first
        | exact wpAny_bind (wpAny_pure (wpAny_bind fin))
        | exact wpAny_bind fin
    | true =>
      refine codeAny_handlers_suite_as ?_
      refine HandSPX.lands_againZ fly3 fun hp4 fly4 up4 => ?_
      have K4 : Inv X pins σc Hc { z with heap := hp4 } := J.landed nb fly4.1 ((up.trans up3).trans up4) osE ag
      obtain ⟨oe4, vs4, g4, zc4, d4⟩ := fly4.there
      have S4 := K4.suite g4 d4 na nL nF
      refine store_ok (X := X.suite a ((a, oe4) :: (X.pn ++ pins))) (v := .ref a) S4 hN hi (.inl hln) rfl (fun z5 S5 => ?_) (.inr hln)
      have run := (hsu a oe4 cls d (X.pn ++ pins) zc4 ⟨_, d4⟩).run [] z5 _ Hc _ S5 (hyes rfl a na)
      refine wpAny_mono run (fun fl z6 hsp => ?_) (fun _ _ w => False.elim w)
      have leave : ∀ {σ6 : St} {H6 : Hp} {Q : Shared → Prop}, Inv (X.suite a ((a, oe4) :: (X.pn ++ pins))) [] σ6 H6 z6 → (∀ z7, Inv X pins (σ6.set i none) (upd H6 a (EvK cls d a)) z7 → Q z7) →
          wpAny (model X.prog X.w) X.A (do bindName X.env n .none; unbindBehindTheSuite X.env n pos') (fun _ z7 => Q z7) X.xe z6 := fun {σ6 H6 Q} S6 hq => by
        obtain ⟨p1, p2, p3, p4, p5⟩ := S6.pin (a, oe4) (by simp)
        have J6 : Inv X pins σ6 H6 z6 := S6.unsuite okX
        have T6 := J6.track p1 d4 p2 n0 nL npin (evK_ok p1 zc4 d4)
        exact gone_ok T6 hN hi hln hq
      cases fl with
      | next =>
        obtain ⟨σ6, H6, S6, q6⟩ := hsp
        exact leave S6 fun z7 J7 => ⟨_, _, J7, q6⟩
      | brk =>
        obtain ⟨σ6, H6, S6, q6⟩ := hsp
        exact leave S6 fun z7 J7 => ⟨_, _, J7, q6⟩
      | cont =>
        obtain ⟨σ6, H6, S6, q6⟩ := hsp
        exact leave S6 fun z7 J7 => ⟨_, _, J7, q6⟩
      | ret u =>
        obtain ⟨v6, σ6, H6, S6, r6, q6⟩ := hsp
        exact leave S6 fun z7 J7 => ⟨_, _, _, J7, r6, q6⟩
end
end L2

/-! GY: try .. except C as e: x = e; isinstance of what may be an exception. -/
namespace Gs
open PySem L2
theorem RE.wish2 {K : PySem.W.Frag} {v0 : Vw} {ct : String → Addr} {W W' : WX} {σ : L2.St} {δ : Sl} {v : Vw} (r : RE K ⟨v0, ct, W⟩ σ δ v) : RE K ⟨v0, ct, W'⟩ σ δ v := ⟨r.le, r.sr, r.len, r.sl⟩
/-- which classes the clause takes: by pairs -/
def XT (K : PySem.W.Frag) (ct : String → Addr) (c : Addr) (t : String → Option Bool) : Prop := ∀ s b, t s = some b → PySem.W.exmOne K (.ref (ct s)) (.ref c) = some b
theorem xt_sub {K : PySem.W.Frag} {ct : String → Addr} {c : Addr} (hb : PySem.W.subIn K (.ref c) (.type "BaseException") = some true) (hd : PySem.W.hasDictIn K c = true) (ht : PySem.W.typeIn K (.ref c) = some (.type "type")) {s : String} {b : Bool} (h : PySem.W.subIn K (.ref (ct s)) (.ref c) = some b) :
    PySem.W.exmOne K (.ref (ct s)) (.ref c) = some b := PySem.W.exm_ref hb hd ht h
def sTryK (t : String → Option Bool) (i j : Nat) (fb : S) : S := fun δ s => match fb δ s with
  | .exc e δ' s' => if e.fs.isEmpty = true then (match t e.cls with
    | some true => .nx (((δ'.set i none).set j (some (.ev e.cls [] []))).set i none) s'
    | some false => .exc e δ' s'
    | none => .stk) else .stk
  | r => r
section
variable {X : Cx} {C : Cc}
theorem ss_try_keep {x n : Str} {c : Addr} {t : String → Option Bool} {i j : Nat} {body suite : List Stmt} {b₀ : Stmt} {np pos' pos : Pos} {fb : S} (hs : X.stack = X.env :: X.outer) (hf : X.env.frame = some X.env.locals) (hN : X.N.Nodup) (hi : X.N[i]? = some n) (hln : X.env.kindOf n = some .local) (hx0 : X.ex = [])
    (hc : Names X x (.ref c)) (tk : Takes X C.W) (ht : XT X.K C.ct c t)
    (hb : ∀ (W : WX) (pn : List (Addr × Obj)) (xe : Value → Shared → Prop), Takes (X.tr pn xe) W → PassesOwn (model X.prog X.w) X.A X.env xe → SSs (X.tr pn xe) { C with W := W } body fb)
    (hsu : ∀ (a : Addr) (oe : Obj) (pn : List (Addr × Obj)), PSs (X.suite a ((a, oe) :: pn)) (b₀ :: suite) (fun Dn σ H => ∃ v, σ[i]? = some (some v) ∧ Dn.nx (σ.set j (some v)) H)) :
    SS X C (.Try body [.ExceptHandler (some (.Name x np)) (some n) (b₀ :: suite) pos'] [] [] pos) (sTryK t i j fb) := by
  refine ⟨fun pins s σ H Dn I h => ?_⟩
  have hiN : i < X.N.length := (List.getElem?_eq_some_iff.mp hi).1
  refine (ps_try_keep (tb := fun W => liftS X.K { C with W := W } fb) (ts := fun a cls d => fun Dn σ H => (∃ σ0 : L2.St, σ = List.set σ0 i (some (.ref a))) ∧ Dn.nx (σ.set j (some (.ref a))) H)
    hs hf hN hi hln hx0 hc tk hb fun a oe cls d pn hz hfl => ⟨fun pins s σ H Dn I hh => by
      obtain ⟨⟨σ0, rfl⟩, h2⟩ := hh
      have hl : (List.set σ0 i (some (V.ref a))).length = X.N.length := I.len
      rw [List.length_set] at hl
      exact (hsu a oe pn).run pins s _ H Dn I ⟨.ref a, List.getElem?_set_self (by omega), h2⟩⟩).run pins s σ H Dn I ?_
  have hσ : σ.length = X.N.length := I.len
  obtain ⟨δ, v, re, eH, h⟩ := h
  refine ⟨δ, v, re.wish2, eH, ?_⟩
  unfold sTryK at h
  cases e : fb δ v.st with
  | nx δ' s' => rw [e] at h; exact fun σ' v' re l es => h σ' v' re.wish2 l es
  | bk δ' s' => rw [e] at h; exact fun σ' v' re l es => h σ' v' re.wish2 l es
  | ct δ' s' => rw [e] at h; exact fun σ' v' re l es => h σ' v' re.wish2 l es
  | rt d s' => rw [e] at h; exact h
  | stk => rw [e] at h; exact h.elim
  | exc ex δ' s' =>
    rw [e] at h
    simp only at h
    intro cls dd σ' v' re' l' es rx
    split at h
    · rename_i hfs
      have hfs' : ex.fs = [] := List.isEmpty_iff.mp hfs
      have hdd : dd = none := rx.2.elim (fun z => z.2) fun z => absurd hfs' z.1
      cases q : t ex.cls with
      | none => rw [q] at h; exact h.elim
      | some bb =>
        rw [q] at h
        refine ⟨bb, by rw [rx.1]; exact ht _ _ q, fun hb => ?_, fun hb => ?_⟩
        · subst hb
          intro a ha
          simp only at h
          subst hdd
          refine ⟨⟨σ', rfl⟩, ?_⟩
          obtain ⟨l2, s2⟩ := new_ok (o := EvO cls none a) re'.sr ha
          have rep : Rep X.K C.ct (v'.new a (EvO cls none a)).G v'.m (.ev ex.cls [] []) (.ref a) := .ev0 (by rw [← rx.1]; exact upd_same)
          exact h _ (v'.new a (EvO cls none a)) (((((re'.setU i (some (.ref a))).step l2 s2).setV j rep).setU i none)).wish2 (l'.trans l2) es
        · subst hb
          exact h cls dd σ' v' re'.wish2 l' es rx
    · exact h.elim
end
/-! isinstance -/
/-- what is known of a class that is asked for: of None, of the classes that are raised -/
structure EI (K : PySem.W.Frag) (ct : String → Addr) (tb : String → Option Bool) (cv : Value) : Prop where
  non : PySem.W.kitOne K (.type "NoneType") cv = some false
  ev : ∀ c b, tb c = some b → ExcC K (ct c) ∧ PySem.W.kitOne K (.ref (ct c)) cv = some b
def rIsEv (K : PySem.W.Frag) : List V → Hp → VK → Prop := fun xs H Q => ∃ (a D : Addr) (c : V) (cv : Value) (b : Bool), xs = [.ref a, c] ∧ ClsV c cv ∧ H a = some (EvO (.ref D) none a) ∧ ExcC K D ∧ PySem.W.kitOne K (.ref D) cv = some b ∧ Q (.bl b) H
section
variable {X : Cx} {C : Cc}
theorem call_isEv : CallR X (.builtin "isinstance") (rIsEv X.K) := by
  intro pins s σ H xs us Q I r h
  obtain ⟨a, D, c, cv, b, rfl, hcv, hH, EC, e, q⟩ := h
  cases r with
  | cons rx rr =>
    cases rr with
    | cons rt rr =>
      cases rr
      cases rx
      have ec := hcv.eq rt
      subst ec
      obtain ⟨⟨oe, vs, hget, hz, hv⟩, _⟩ := (show ObjOk X.prog X.w H s.heap a (EvO (.ref D) none a) from I.hok a _ hH)
      have J : PySem.W.InstAt s.heap a oe D none := by
        obtain ⟨oc, od, oda, osl⟩ := oe
        obtain ⟨z1, z2⟩ := hz
        dsimp only at z1 z2 hv
        subst z1 z2 hv
        exact ⟨hget, rfl, rfl, trivial⟩
      exact PySem.W.kia_one (PySem.W.handS_kitx_exc EC.hg EC.hk EC.hs EC.hd EC.ha EC.hn EC.ht EC.hm) I.kIn J e (fun z => nomatch z) fun tk => ⟨.bl b, H, I.kept (t' := tk) fun _ _ z => z, rfl, q⟩
theorem call_isU : CallR X (.builtin "isinstance") (fun xs H Q => rIsi X.K xs H Q ∨ rIsEv X.K xs H Q) := fun pins s σ H xs us Q I r h =>
  h.elim (call_isi pins s σ H xs us Q I r) (call_isEv pins s σ H xs us Q I r)
def gIsC (tb : String → Option Bool) : B1
  | .non => some (.bl false)
  | .ev c [] [] => (tb c).map .bl
  | _ => none
theorem se_isC {a : Expr} {fa : E} {pf pn pos : Pos} {nx : Str} {cV : V} {cv : Value} {tb : String → Option Bool} (ha : SE X C a fa) (hg : Gl X "isinstance") (hm : X.mg "isinstance" = none) (hc : PE X (.Name nx pn) (tC cV)) (hk : ClsV cV cv) (hE : EI X.K C.ct tb cv)
    (hvi : bootBuiltins "isinstance" = some (.builtin "isinstance") := by decide +kernel)
    (hs : starEach [a, .Name nx pn] X.env = (false, eval a X.env) :: starEach [.Name nx pn] X.env := by rfl) (hpl : (backTo pos (starEach [.Name nx pn] X.env)).any (·.1) = false := by rfl)
    (hs2 : starEach [.Name nx pn] X.env = (false, eval (.Name nx pn) X.env) :: starEach [] X.env := by rfl) :
    SE X C (.Call (.Name "isinstance" pf) [a, .Name nx pn] [] pos) (eUn (gIsC tb) fa) :=
  pe_weak (pe_callB call_isU hg hm hvi (pa_cons ha (pa_cons hc pa_nil hs2) hs) (by decide) (by decide) hs hpl) fun σ H Q h => by
    obtain ⟨δ, v8, re, eH, h1⟩ := lift_un h
    refine ⟨δ, v8, re, eH, on_mono h1 fun d x v1 l1 s1 r1 h2 => ?_⟩
    obtain ⟨v2, dx, d2, eH2, sr, e, r2, h2⟩ := h2
    rw [← eH2]
    cases r2 with
    | non =>
      simp only [gIsC, Option.some.injEq] at e
      subst e
      exact .inl ⟨.non, cV, .type "NoneType", cv, false, rfl, hk, .base .non, hE.non, h2 _ v2 .refl sr rfl (.bl _)⟩
    | @ev a0 c ks0 ds0 r3 =>
      cases r3 with
      | ev0 hG =>
        simp only [gIsC] at e
        cases q : tb c with
        | none => rw [q] at e; exact nomatch e
        | some b =>
          rw [q] at e
          simp only [Option.map_some, Option.some.injEq] at e
          subst e
          obtain ⟨h3, h4⟩ := hE.ev c b q
          exact .inr ⟨a0, C.ct c, cV, cv, b, rfl, hk, sr.sub _ _ hG, h3, h4, h2 _ v2 .refl sr rfl (.bl _)⟩
      | ev n hG hG2 hl hr =>
        cases ks0 with
        | nil => exact absurd rfl n
        | cons k ks => simp only [gIsC, reduceCtorEq] at e
    | _ => simp only [gIsC, reduceCtorEq] at e
end
@[simp] theorem v_sTryK (t : String → Option Bool) (i j : Nat) (fb : S) (δ : Sl) (s : Sto) : sTryK t i j fb δ s = (match fb δ s with
  | .exc e δ' s' => if e.fs.isEmpty = true then (match t e.cls with
    | some true => .nx (((δ'.set i none).set j (some (.ev e.cls [] []))).set i none) s'
    | some false => .exc e δ' s'
    | none => .stk) else .stk
  | r => r) := id rfl
@[simp] theorem v_isC_non (tb : String → Option Bool) : gIsC tb .non = some (.bl false) := id rfl
@[simp] theorem v_isC_ev (tb : String → Option Bool) (c : String) : gIsC tb (.ev c [] []) = (tb c).map .bl := id rfl
@[simp] theorem isN_ev (c : String) (ks : List Str) (ds : List D) : gIsN (.ev c ks ds) .non = some (.bl false) := id rfl
@[simp] theorem notN_ev (c : String) (ks : List Str) (ds : List D) : gNotN (.ev c ks ds) .non = some (.bl true) := id rfl
@[simp] theorem r_ev (s : Sto) (c : String) (ks : List Str) (ds : List D) : rsv s (.ev c ks ds) = .ev c ks ds := id rfl
end Gs

/-! GZ: a call that only looks at the lists of the store; clear; xs[::-1] as a new list. -/
namespace Gs
open PySem L2
def gones (n : Nat) : Sto := List.replicate n .gone
/-- the frozen look of a datum's top -/
def lokD (s : Sto) : D → D
  | .ob i => match s[i]? with
    | some (.lst xs) => .lst xs
    | _ => .ob i
  | d => d
def scal : D → Bool
  | .non => true
  | .bl _ => true
  | .int _ => true
  | .str _ => true
  | _ => false
/-- b is a list of the store's -/
def Vw.isL (v : Vw) (b : Addr) : Prop := ∃ (i : Nat) (xs : List D), v.st[i]? = some (.lst xs) ∧ v.m i = some b
open Classical in
noncomputable def Vw.lookG (v : Vw) : Hp := fun b => if v.isL b then v.H b else v.G b
open Classical in
noncomputable def lessG (v : Vw) (G : Hp) : Hp := fun b => if v.isL b then none else G b
section
variable {K : PySem.W.Frag} {ct : String → Addr} {v : Vw}
theorem SR.isL_at (s : SR K ct v) {b : Addr} (h : v.isL b) : v.G b = none ∧ ∃ vs, v.H b = some (.lst vs) := by
  obtain ⟨i, xs, e, em⟩ := h
  obtain ⟨a, em', g, vs, hh, _⟩ := s.obj i _ e rfl
  rw [em] at em'
  cases em'
  exact ⟨g, vs, hh⟩
theorem lookG_same (s : SR K ct v) : Same v.G v.lookG := fun b u q => by
  unfold Vw.lookG
  rw [if_neg fun z => by rw [(s.isL_at z).1] at q; cases q]
  exact q
theorem gones_get {n i : Nat} {o : O} (h : (gones n)[i]? = some o) : o = .gone := by
  unfold gones at h
  rw [List.getElem?_replicate] at h
  split at h
  · exact (Option.some.inj h).symm
  · cases h
theorem look_ok (s : SR K ct v) : SR K ct ⟨v.lookG, v.H, v.m, gones v.st.length⟩ where
  sub := fun b u q => by
    have q' : v.lookG b = some u := q
    unfold Vw.lookG at q'
    split at q'
    · exact q'
    · exact s.sub b u q'
  dom := fun i hi => s.dom i (by simpa [gones] using hi)
  obj := fun i o e l => by rw [gones_get e] at l; cases l
  inj := fun i j o u a e _ l _ _ _ => by rw [gones_get e] at l; cases l
theorem look_rep (s : SR K ct v) {d : D} {x : V} (r : Rep K ct v.G v.m d x) : Rep K ct v.lookG v.m (lokD v.st d) x := by
  unfold lokD
  split
  · rename_i i
    split
    · rename_i xs e
      cases r with
      | @ob _ a em =>
        obtain ⟨a', em', g, vs, hh, rr⟩ := s.obj i _ e rfl
        rw [em] at em'
        cases em'
        have : v.lookG a = some (.lst vs) := by
          unfold Vw.lookG
          rw [if_pos ⟨i, xs, e, em⟩]
          exact hh
        exact .lst (SqL.of this) (rr.mono (lookG_same s) .refl)
    · exact r.mono (lookG_same s) .refl
  · exact r.mono (lookG_same s) .refl
theorem look_repL (s : SR K ct v) : ∀ {ds : List D} {xs : List V}, RepL K ct v.G v.m ds xs → RepL K ct v.lookG v.m (ds.map (lokD v.st)) xs
  | _, _, .nil => .nil
  | _, _, .cons h r => .cons (look_rep s h) (look_repL s r)
/-- behind the look the lists are the store's again -/
theorem thaw_ok (s : SR K ct v) {v' : Vw} (l : Le ⟨v.lookG, v.H, v.m, gones v.st.length⟩ v') (s' : SR K ct v') {k : Nat} (e : v'.st = gones k) (hk : v.st.length ≤ k) :
    Le v ⟨lessG v v'.G, v'.H, v'.m, v.st ++ gones (k - v.st.length)⟩ ∧ SR K ct ⟨lessG v v'.G, v'.H, v'.m, v.st ++ gones (k - v.st.length)⟩ := by
  have none' : ∀ b, ¬ (Vw.mk v.lookG v.H v.m (gones v.st.length)).owns b := fun b ⟨i, o, a, eo, lv, _⟩ => by rw [gones_get eo] at lv; cases lv
  have hH : Same v.H v'.H := fun b u q => l.h b u q (none' b)
  have hG : Same v.G (lessG v v'.G) := fun b u q => by
    unfold lessG
    rw [if_neg fun z => by rw [(s.isL_at z).1] at q; cases q]
    exact l.g b u (lookG_same s b u q)
  have gN : ∀ {b : Addr} {u : HO}, v.G b = none → v.H b = some u → lessG v v'.G b = none := fun {b u} g h => by
    unfold lessG
    split
    · rfl
    · rename_i nl
      cases z : v'.G b with
      | none => rfl
      | some w =>
        rcases l.nw b (by rw [z]; exact fun y => nomatch y) with y | y | y
        · exfalso
          have y' : v.lookG b ≠ none := y
          unfold Vw.lookG at y'
          rw [if_neg nl] at y'
          exact y' g
        · have y' : v.H b = none := y
          rw [h] at y'
          cases y'
        · exact absurd y (none' b)
  have get : ∀ {i : Nat} {o : O}, (v.st ++ gones (k - v.st.length))[i]? = some o → o.live = true → v.st[i]? = some o := fun {i o} eo lv => by
    by_cases z : i < v.st.length
    · rwa [List.getElem?_append_left z] at eo
    · rw [List.getElem?_append_right (Nat.not_lt.mp z)] at eo
      rw [gones_get eo] at lv
      cases lv
  refine ⟨⟨hG, l.m, fun b u q _ => hH b u q, fun b q => ?_, fun b ⟨i, o, a, eo, lv, em, q⟩ => ?_, l.al⟩, fun b u q => ?_, fun i hi => ?_, fun i o eo lv => ?_, fun i j o u a e1 e2 l1 l2 m1 m2 => ?_⟩
  · have q' : lessG v v'.G b ≠ none := q
    unfold lessG at q'
    split at q'
    · exact absurd rfl q'
    · rename_i nl
      rcases l.nw b q' with y | y | y
      · have y' : v.lookG b ≠ none := y
        unfold Vw.lookG at y'
        rw [if_neg nl] at y'
        exact .inl y'
      · exact .inr (.inl y)
      · exact absurd y (none' b)
  · have eo' := get eo lv
    obtain ⟨a0, em0, g0, r0⟩ := s.obj i o eo' lv
    obtain ⟨_, w, hw, _⟩ := s.obj_ne eo' lv em0
    have em' : v'.m i = some a := em
    rw [l.m i a0 em0] at em'
    cases em'
    refine .inl ⟨i, o, a, eo', lv, em0, q.imp id fun ⟨C, fs, z⟩ => ⟨C, fs, ?_⟩⟩
    have z' : v'.H a = some (.ins C b fs) := z
    rw [hH _ _ hw] at z'
    rw [hw]
    exact z'
  · have q' : lessG v v'.G b = some u := q
    unfold lessG at q'
    split at q'
    · cases q'
    · exact s'.sub b u q'
  · have hi' : v.st.length + (k - v.st.length) ≤ i := by simpa [gones] using hi
    exact s'.dom i (by rw [e]; simp [gones]; omega)
  · have eo' := get eo lv
    obtain ⟨a0, em0, g0, r0⟩ := s.obj i o eo' lv
    obtain ⟨_, w, hw, _⟩ := s.obj_ne eo' lv em0
    exact ⟨a0, l.m i a0 em0, gN g0 hw, r0.mono' (v := v) hG l.m ((hH _ _ hw).trans hw.symm) fun C dx fs _ q1 q2 => ⟨(hH _ _ q1).trans q1.symm, gN q2 q1⟩⟩
  · have e1' := get e1 l1
    have e2' := get e2 l2
    obtain ⟨a1, em1, _⟩ := s.obj i o e1' l1
    obtain ⟨a2, em2, _⟩ := s.obj j u e2' l2
    have m1' : v'.m i = some a := m1
    have m2' : v'.m j = some a := m2
    rw [l.m i a1 em1] at m1'
    rw [l.m j a2 em2] at m2'
    cases m1'
    cases m2'
    exact s.inj i j o u a e1' e2' l1 l2 em1 em2
end
open Classical in
noncomputable def thawR (s : Sto) : R D → R D
  | .ok d s2 => if scal d = true ∧ s.length ≤ s2.length ∧ s2 = gones s2.length then .ok d (s ++ gones (s2.length - s.length)) else .stk
  | _ => .stk
/-- a call that looks at the lists of the store, and tells a number, a truth, a text or None -/
noncomputable def eCallB (F : List D → Sto → R D) (a : As) : E := fun δ s => (a δ s).bind fun ds s1 => thawR s1 (F (ds.map (lokD s1)) (gones s1.length))
section
variable {X : Cx} {C : Cc} {pos p : Pos} {x : Str} {e : Expr} {es : List Expr} {fa : As} {k n : Nat} {f : Addr} {fd : FuncData} {ps : List Str} {F : List D → Sto → R D}
theorem se_callBr (hF : FnOk X.prog X.w X.K X.mg X.base (L2.CX X.prog X.w) k f fd ps (spG X.K C.ct n F)) (hr : Room k X.A) (tk : Takes X C.W) (hg : Gl X x) (hm : X.mg x = some (.ref f)) (hk : PySem.W.keepIn X.K (.ref f) = true) (hb : Binds X.K fd ps [])
    (ha : SA X C (e :: es) fa) (hl : LenA fa n) (hdb : (x == ("__debug__" : Str)) = false := by decide) (he : starEach (e :: es) X.env = (false, eval e X.env) :: starEach es X.env := by rfl) (hpl : (backTo pos (starEach es X.env)).any (·.1) = false := by rfl) :
    SE X C (.Call (.Name x p) (e :: es) [] pos) (eCallB F fa) :=
  pe_weak (pe_callS hF hr hg hm hk hb (fun σ => passAt tk σ) ha hdb he hpl) fun σ H Q ⟨δ, v, re, eH, h⟩ => ⟨δ, v, re, eH, on_mono (on_eq (on_bind h)) fun ds vs v1 l1 s1 r1 h1 => by
    obtain ⟨h1, s, q⟩ := h1
    refine ⟨⟨v1.lookG, v1.H, v1.m, gones v1.st.length⟩, ds.map (lokD v1.st), rfl, look_ok s1, by rw [List.length_map]; exact hl _ _ _ _ q, look_repL s1 r1, ?_⟩
    show match F (ds.map (lokD v1.st)) (gones v1.st.length) with
      | .ok d s => _
      | .exc e s => _
      | .stk => _
    unfold thawR at h1
    cases z : F (ds.map (lokD v1.st)) (gones v1.st.length) with
    | stk => rw [z] at h1; exact h1.elim
    | exc e2 s2 => rw [z] at h1; exact h1.elim
    | ok d s2 =>
      rw [z] at h1
      simp only at h1
      split at h1
      · rename_i hz
        obtain ⟨h3, h4, h5⟩ := hz
        intro x2 v' l' s' es r'
        obtain ⟨l2, s3⟩ := thaw_ok (k := s2.length) s1 l' s' (by rw [es]; exact h5) h4
        have rep : ∀ G m, Rep X.K C.ct G m d x2 := by
          cases r' <;> first
            | exact fun G m => .non
            | exact fun G m => .bl _
            | exact fun G m => .int _
            | exact fun G m => .str _
            | (simp only [scal, Bool.false_eq_true] at h3)
        exact h1 x2 ⟨lessG v1 v'.G, v'.H, v'.m, v1.st ++ gones (s2.length - v1.st.length)⟩ l2 s3 rfl (rep _ _)
      · exact h1.elim⟩
/-- o.clear() -/
def eClr (o : E) : E := fun δ s => (o δ s).bind fun x s1 => if (lsO s1 x).isSome = true then .ok .non (stO s1 x []) else .stk
theorem se_clr {o : Expr} {fo : E} {p2 p3 : Pos} (ho : SE X C o fo) (hbase : attributeBase o "clear" X.env (eval o X.env) = eval o X.env := by rfl) (hline : (p2.endLine == p3.line) = true := by rfl) :
    SE X C (.Call (.Attribute o "clear" p2) [] [] p3) (eClr fo) :=
  pe_weak (pe_bm0 PySem.F.plainAttrs_list PySem.F.slot_list_clear PySem.F.type_list_clear mt_clear ho hbase hline) fun σ H Q ⟨δ, v, re, eH, h⟩ => by
    refine ⟨δ, v, re, eH, on_mono (on_bind h) fun d x v1 l1 s1 r1 h1 => ?_⟩
    split at h1
    · rename_i hs
      obtain ⟨xs0, e0⟩ := isSome_of hs
      obtain ⟨i, p, vs0, rfl, rfl, em, q0, hh0, _⟩ := lsO_at s1 r1 e0
      obtain ⟨l3, s3⟩ := stO_ok s1 em q0 (ys := []) (us := []) .nil
      exact ⟨.inl ⟨rfl, vs0, SqL.of hh0⟩, p, vs0, rfl, rfl, hh0, h1 .non (v1.put i p (.lst []) (.lst [])) l3 s3 rfl .non⟩
    · exact h1.elim
/-- xs[::-1], a new list -/
def fRev (f : E) : Fr := fun δ s => (f δ s).bind fun d s1 => match rsv s1 d with
  | .lst xs => .ok xs.reverse s1
  | _ => .stk
theorem sf_rev {a : Expr} {fa : E} {k : Nat} {p1 p3 p4 : Pos} (ha : SE X C a fa) : SF X C (.Subscript a (.Slice none none (some (.UnaryOp .USub (.Constant (.int 1) k p1) p3)) p4) pos) (fRev fa) :=
  pe_weak (pe_revL ha) fun σ H Q ⟨δ, v, re, eH, h⟩ =>
  ⟨δ, v, re, eH, on_mono (onF_bind h) fun d x v1 l1 s1 r1 h1 => by
    have t := r1.top s1
    cases z : rsv v1.st d with
    | lst xs =>
      rw [z] at h1 t
      cases t with
      | @lst a vs _ p q =>
        refine ⟨a, vs, rfl, p, fun c hc => ?_⟩
        obtain ⟨l2, s2, no⟩ := newH (u := .lst vs.reverse) s1 hc
        exact h1 c vs.reverse ⟨v1.G, upd v1.H c (.lst vs.reverse), v1.m, v1.st⟩ l2 s2 rfl hc (s1.free hc) upd_same no q.reverse
    | _ => rw [z] at h1; exact h1.elim⟩
end
@[simp] theorem v_eCallB (F : List D → Sto → R D) (a : As) (δ : Sl) (s : Sto) : eCallB F a δ s = (a δ s).bind fun ds s1 => thawR s1 (F (ds.map (lokD s1)) (gones s1.length)) := id rfl
@[simp] theorem v_eClr (o : E) (δ : Sl) (s : Sto) : eClr o δ s = (o δ s).bind fun x s1 => if (lsO s1 x).isSome = true then .ok .non (stO s1 x []) else .stk := id rfl
@[simp] theorem v_fRev (f : E) (δ : Sl) (s : Sto) : fRev f δ s = (f δ s).bind fun d s1 => match rsv s1 d with
  | .lst xs => .ok xs.reverse s1
  | _ => .stk := id rfl
theorem thaw_val {s : Sto} {d : D} (h : scal d = true) : thawR s (.ok d (gones s.length)) = .ok d s := by
  unfold thawR
  have e : (gones s.length).length = s.length := by simp [gones]
  simp only [e, h, Nat.le_refl, and_self, if_true, Nat.sub_self]
  simp [gones]
theorem lok_ob {s : Sto} {i : Nat} {xs : List D} (h : s[i]? = some (.lst xs)) : lokD s (.ob i) = .lst xs := by unfold lokD; simp only [h]
@[simp] theorem lok_int (s : Sto) (i : Int) : lokD s (.int i) = .int i := id rfl
@[simp] theorem lok_str (s : Sto) (i : Str) : lokD s (.str i) = .str i := id rfl
@[simp] theorem lok_lst (s : Sto) (i : List D) : lokD s (.lst i) = .lst i := id rfl
@[simp] theorem lok_tup (s : Sto) (i : List D) : lokD s (.tup i) = .tup i := id rfl
end Gs

/-! GR: list(reversed(x)), x a list. -/
namespace Gs
open PySem PySem.Spec PyProof.Rows L2 RT
section
variable {prog : Program} {w : World} {A : Around} {E : Value → Shared → Prop} {s : Shared}
theorem call_list_rev {it l : Addr} {items : Array Value} {Q : Value → Shared → Prop} (hh : A.handled = none) (hit : s.heap.IsRevIter it l ((items.size : Int) - 1)) (hl : s.heap.IsList l items) (hne : l ≠ it) (hn : items.size ≤ sizeLine)
    (hQ : ∀ (h' : Heap) (tk : Nat) (acc : Array Value) (c' : Nat), (∀ b o, b ≠ it → s.heap.get? b = some o → h'.get? b = some o) → h'.get? s.heap.objs.size = some { cls := .type "list", dict := none, data := .seq acc c', slots := #[] } →
      ItemsOf (fun i v => items[items.size - 1 - i]? = some v) acc items.size → Q (.ref s.heap.objs.size) { s with heap := h', toks := tk }) :
    wpAny (model prog w) A (call (.type "list") [.ref it]) Q E s := by
  refine callType_codes (Q₁ := fun obj s₁ => obj = .ref s.heap.objs.size ∧ s₁ = { s with heap := s.heap.push { cls := .type "list", data := .seq #[] } }) F.called_list (F.typeCall_list_1 _) F.entry_list_init
    (code_list_new _ ⟨rfl, rfl⟩) fun obj s₁ h₁ => ?_
  obtain ⟨rfl, rfl⟩ := h₁
  have hS : (s.heap.push { cls := .type "list", data := .seq #[] }).get? s.heap.objs.size = some { cls := .type "list", data := .seq #[] } := Heap.get?_push_size _ rfl
  refine ⟨⟨_, hS, rfl⟩, F.args_list_init_2 _ _, ?_⟩
  have W := (Walks.listRev (prog := prog) (w := w) (A := A.in1.in1) hh it l hne items).toS
  obtain ⟨oi, hoi, _⟩ := id hit
  obtain ⟨ol, hol, _⟩ := id hl
  have hSi : s.heap.objs.size ≠ it := Nat.ne_of_gt (Heap.lt_size hoi)
  have hSl : s.heap.objs.size ≠ l := Nat.ne_of_gt (Heap.lt_size hol)
  have hSf : s.heap.objs.size ∉ [it, l] := by simp only [List.mem_cons, List.not_mem_nil, or_false, not_or]; exact ⟨hSi, hSl⟩
  show wpAny _ A.in1.in1 (do let old ← Builtin.List.listItems (.ref s.heap.objs.size); Builtin.List.listUpdate (.ref s.heap.objs.size) (fun _ => #[]); letGo old.toList.reverse; Builtin.List.listExtendWith (.ref s.heap.objs.size) (.ref it) .none) _ _ _
  refine wpAny_bind ?_
  unfold Builtin.List.listItems
  refine wpAny_bind (wpAny_seqItems hS rfl (wpAny_pure ?_))
  show wpAny _ A.in1.in1 (updateSeq s.heap.objs.size (fun _ => #[]) >>= fun _ => letGo (#[] : Array Value).toList.reverse >>= fun _ => Builtin.List.listExtendWith (.ref s.heap.objs.size) (.ref it) .none) _ _ _
  refine wpAny_bind (wpAny_updateSeq hS rfl ?_)
  have hS₂ := Heap.get?_update_self (Obj.mapSeq (fun _ => (#[] : Array Value))) hS rfl
  have oth : ∀ b o, b ≠ s.heap.objs.size → (s.heap.push { cls := .type "list", data := .seq #[] }).get? b = some o → ((s.heap.push { cls := .type "list", data := .seq #[] }).update s.heap.objs.size (Obj.mapSeq (fun _ => (#[] : Array Value)))).get? b = some o :=
    fun b o hb e => (Heap.get?_update_other _ _ (Ne.symm hb)).trans e
  have hit1 : ((s.heap.push { cls := .type "list", data := .seq #[] }).update s.heap.objs.size (Obj.mapSeq (fun _ => (#[] : Array Value)))).IsRevIter it l ((items.size : Int) - 1) := hit.at fun o e => oth _ _ hSi.symm (Heap.get?_push_of_some _ e)
  have hl1 : ((s.heap.push { cls := .type "list", data := .seq #[] }).update s.heap.objs.size (Obj.mapSeq (fun _ => (#[] : Array Value)))).IsList l items := by
    obtain ⟨o, ho, r⟩ := hl
    exact ⟨o, oth _ _ hSl.symm (Heap.get?_push_of_some _ ho), r⟩
  refine wpAny_bind (wpAny_letGo ?_)
  have hT : ({ s with heap := (s.heap.push { cls := .type "list", data := .seq #[] }).update s.heap.objs.size (Obj.mapSeq (fun _ => (#[] : Array Value))) } : Shared).TypeIs (.ref it) "list_reverseiterator" := Heap.IsRevIter.typeIs (s := { s with heap := (s.heap.push { cls := .type "list", data := .seq #[] }).update s.heap.objs.size (Obj.mapSeq (fun _ => (#[] : Array Value))) }) hit1
  have h1 : Builtin.List.listSameRef (.ref s.heap.objs.size) (.ref it) = false := by simp [Builtin.List.listSameRef, hSi]
  unfold Builtin.List.listExtendWith
  refine wpAny_bind (wpAny_typeOf hT ?_)
  rw [if_neg (by rw [h1]; decide)]
  refine wpAny_bind (wpAny_pyIter_revIter (s := { s with heap := (s.heap.push { cls := .type "list", data := .seq #[] }).update s.heap.objs.size (Obj.mapSeq (fun _ => (#[] : Array Value))) }) hit1 ?_)
  refine wpAny_bind (wpAny_holding ?_)
  unfold Builtin.List.listLengthHint
  refine wpAny_bind (wpAny_specialOf hT nolen_lri ?_)
  show wpAny _ A.in1.in1 (specialOf (Value.ref it) (Str.ofString "__length_hint__") >>= _) _ _ _
  refine wpAny_bind (wpAny_specialOf hT hint_lri ?_)
  generalize hid : ("list_reverseiterator.__length_hint__" : String) = id0
  wp_delta
  rw [show splitId id0 = some ("list_reverseiterator", "__length_hint__") from by subst hid; decide +kernel]
  subst hid
  refine wpAny_bind (wpAny_isInstance (b := true) hT (by rw [isSubtype_type]; kernel_rfl) ?_)
  refine wpAny_pure ?_
  rw [if_neg (by decide)]
  have e0 : ((items.size : Nat) : Int) - 1 - ((0 : Nat) : Int) = (items.size : Int) - 1 := by omega
  refine wpAny_pure ⟨plainId_quiet F.plain_extend_loop _, codeAny_extend_loopS W hn _ hSf _ items.size 0 _ _ _ rfl (Nat.zero_le _) ⟨Nat.zero_le _, by rw [e0]; exact hit1, hl1⟩ hS₂ (ItemsOf.nil _) fun s' acc' c' hm hS' hacc => ?_⟩
  refine ⟨rfl, ?_⟩
  rw [Moved.eq_with hm]
  refine hQ s'.heap s'.toks acc' c' (fun b o hb e => hm.heap b o (fun hmem => ?_) (oth _ _ (Nat.ne_of_lt (Heap.lt_size e)) (Heap.get?_push_of_some _ e))) hS' hacc
  rcases List.mem_cons.mp hmem with e' | hmem
  · exact absurd (Heap.lt_size e) (by rw [e']; exact Nat.lt_irrefl _)
  · exact hb (List.mem_singleton.mp hmem)
end
/-- list(reversed(x)), x a list: a new list -/
def tListRev (K : PySem.W.Frag) (te : TE) : TE := fun σ H Q => te σ H fun v H1 => ∃ (a : Addr) (xs : List V), v = .ref a ∧ SqL K H1 a xs ∧ ∀ q, H1 q = none → Q (.ref q) (upd H1 q (.lst xs.reverse))
section
variable {X : Cx} {C : Cc} {pos : Pos}
theorem pe_listRev {e : Expr} {te : TE} {p p2 pos2 : Pos} (hc : X.calm = true) (hg : Gl X "list") (hm : X.mg "list" = none) (hg2 : Gl X "reversed") (hm2 : X.mg "reversed" = none) (he : PE X e te)
    (hs : starEach [e] X.env = (false, eval e X.env) :: starEach [] X.env := by rfl)
    (hs2 : starEach [.Call (.Name "reversed" p2) [e] [] pos2] X.env = (false, eval (.Call (.Name "reversed" p2) [e] [] pos2) X.env) :: starEach [] X.env := by rfl) :
    PE X (.Call (.Name "list" p) [.Call (.Name "reversed" p2) [e] [] pos2] [] pos) (tListRev X.K te) := by
  refine ⟨fun pins s σ H Q I h => ?_⟩
  refine Call_ (ld_blt I hg hm boot_list (PyProof.Rows.callWith_type1 (args_cons (Call_ (ld_blt I hg2 hm2 PyProof.Rows.boot_reversed (PyProof.Rows.callWith_type1 (args_cons (thn (he.run pins s σ H _ I h) fun u s1 ⟨v, H1, I1, r1, q1⟩ => args_nil ?_) hs) hs rfl))) hs2) hs2 rfl))
  obtain ⟨a, xs, ev, hq, q⟩ := q1
  subst ev
  obtain rfl : u = Value.ref a := r1
  obtain ⟨its, rv, p', hz⟩ := I1.list hq
  refine call_reversed_list p'.isList (args_nil ?_)
  have k0 : ∀ b o, s1.heap.get? b = some o → (s1.heap.push (revObj a ((its.toArray.size : Int) - 1))).get? b = some o := fun b o e => Heap.get?_push_of_some _ e
  have I2 : Inv X pins σ H1 { s1 with heap := s1.heap.push (revObj a ((its.toArray.size : Int) - 1)) } := I1.kept (t' := s1.toks) k0
  obtain ⟨f0, f1, f2, f3, f4, f5⟩ := I1.fpOk (H' := H1) (b := s1.heap.objs.size) (Nat.le_refl _) (I1.hok.fresh (Nat.le_refl _))
  have hl := p'.isList
  obtain ⟨ol, hol, _⟩ := id hl
  have hne : a ≠ s1.heap.objs.size := Nat.ne_of_lt (Heap.lt_size hol)
  have hn : its.toArray.size ≤ sizeLine := by rw [List.size_toArray, ← rv.length]; exact hz
  refine call_list_rev (s := { s1 with heap := s1.heap.push (revObj a ((its.toArray.size : Int) - 1)) }) (I1.ok.hd hc) ⟨_, Heap.get?_push_size _ rfl, rfl, rfl⟩ (hl.push _) hne hn fun h' tk acc c' hk hS hi => ?_
  have hT : (s1.heap.push (revObj a ((its.toArray.size : Int) - 1))).objs.size ≤ (s1.heap.push (revObj a ((its.toArray.size : Int) - 1))).objs.size := Nat.le_refl _
  refine ⟨.ref (s1.heap.push (revObj a ((its.toArray.size : Int) - 1))).objs.size, upd H1 (s1.heap.push (revObj a ((its.toArray.size : Int) - 1))).objs.size (.lst xs.reverse),
    I2.turnedNew (t' := tk) (ch := [s1.heap.objs.size]) (fun b o hb e => hk b o (fun z => hb (by rw [z]; simp)) e) (fun b hb => ?_) hT
      (show ObjOk X.prog X.w _ h' _ (.lst xs.reverse) from ⟨by rw [List.length_reverse]; exact hz, acc.toList, c', RT.vals_rev rv hi, ?_⟩), rfl, q _ (I2.hok.fresh hT)⟩
  · have : b = s1.heap.objs.size := by simpa using hb
    subst this
    exact ⟨f0, f1, f2, f3, f4, f5⟩
  · rw [Array.toArray_toList]
    exact hS
/-- list(reversed(x)) -/
theorem sf_lrev {a : Expr} {fa : E} {p p2 pos2 : Pos} (hc : X.calm = true) (hg : Gl X "list") (hm : X.mg "list" = none) (hg2 : Gl X "reversed") (hm2 : X.mg "reversed" = none) (ha : SE X C a fa)
    (hs : starEach [a] X.env = (false, eval a X.env) :: starEach [] X.env := by rfl)
    (hs2 : starEach [.Call (.Name "reversed" p2) [a] [] pos2] X.env = (false, eval (.Call (.Name "reversed" p2) [a] [] pos2) X.env) :: starEach [] X.env := by rfl) :
    SF X C (.Call (.Name "list" p) [.Call (.Name "reversed" p2) [a] [] pos2] [] pos) (fRev fa) :=
  pe_weak (pe_listRev hc hg hm hg2 hm2 ha hs hs2) fun σ H Q ⟨δ, v, re, eH, h⟩ =>
  ⟨δ, v, re, eH, on_mono (onF_bind h) fun d x v1 l1 s1 r1 h1 => by
    have t := r1.top s1
    cases z : rsv v1.st d with
    | lst xs =>
      rw [z] at h1 t
      cases t with
      | @lst a vs _ p q =>
        refine ⟨a, vs, rfl, p, fun c hc => ?_⟩
        obtain ⟨l2, s2, no⟩ := newH (u := .lst vs.reverse) s1 hc
        exact h1 c vs.reverse ⟨v1.G, upd v1.H c (.lst vs.reverse), v1.m, v1.st⟩ l2 s2 rfl hc (s1.free hc) upd_same no q.reverse
    | _ => rw [z] at h1; exact h1.elim⟩
end
end Gs

/-! GE: enumerate of a list or a tuple. -/
namespace Gs
open PySem PySem.Spec PyProof.Rows L2
theorem meets_enum_tup (l : Addr) (items : Array Value) :
    Meets (Builtin.«enumerate.__new__» ⟨[.type "enumerate", .ref l], []⟩) (fun _ R s => s.heap.IsTuple l items ∧
      R (.ok (.ret (.ref (s.heap.push { cls := .type "tuple_iterator", data := .fields #[.ref l, .int 0 0] }).objs.size)))
        { s with heap := (s.heap.push { cls := .type "tuple_iterator", data := .fields #[.ref l, .int 0 0] }).push { cls := .type "enumerate", data := .fields #[.none, .bool false, .ref s.heap.objs.size, rawInt 0, .none, .none] } }) :=
  .of_wp fun prog w A R s h => by
    obtain ⟨hp, g, d, tk, os⟩ := s
    obtain ⟨hl, h⟩ := h
    have hsub := sub_enumerate
    have hL : Heap.IsTuple (Shared.heap ⟨hp, g, d, tk, os⟩) l items := hl
    wp_walk
    refine wpAny_stack_any fun st => wpAny_pure ?_
    split
    · rename_i c _ _ _ _ _
      cases (c == Value.type "enumerate")
      · wp_walk using wpAny_pyIter_tuple hL
        exact ⟨_, rfl, h⟩
      · wp_walk using wpAny_pyIter_tuple hL
        exact ⟨_, rfl, h⟩
    · wp_walk using wpAny_pyIter_tuple hL
      exact ⟨_, rfl, h⟩
section
variable {prog : Program} {w : World} {A : Around} {E : Value → Shared → Prop} {s : Shared}
theorem call_enum_tup {l : Addr} {items : Array Value} {Q : Value → Shared → Prop} (hL : s.heap.IsTuple l items)
    (h : ∀ h', IsEnum h' (s.heap.objs.size + 1) s.heap.objs.size 0 .none → h'.IsTupleIter s.heap.objs.size l 0 →
      (∀ b o, s.heap.get? b = some o → h'.get? b = some o) → Q (.ref (s.heap.objs.size + 1)) { s with heap := h' }) :
    wpAny (model prog w) A (call (.type "enumerate") [.ref l]) Q E s := by
  refine callType_new F.called_enumerate (by decide) (F.typeCall_enumerate_1 _) (F.newCall_enumerate_1 _) (fun obj => F.args_object_init_2 obj _) F.entry_enumerate_new
    (meets_enum_tup l items) ⟨hL, ?_⟩
  have hz : (s.heap.push { cls := .type "tuple_iterator", data := .fields #[.ref l, .int 0 0] }).objs.size = s.heap.objs.size + 1 := Heap.size_push ..
  show _ ∧ _
  rw [hz]
  have he := Heap.get?_push_size (s.heap.push { cls := .type "tuple_iterator", data := .fields #[.ref l, .int 0 0] })
    (o := { cls := .type "enumerate", data := .fields #[.none, .bool false, .ref s.heap.objs.size, rawInt 0, .none, .none] }) rfl
  rw [hz] at he
  exact ⟨⟨_, he, rfl⟩, h _ he ⟨_, Heap.get?_push_of_some _ (Heap.get?_push_size _ rfl), rfl, rfl⟩ fun b o x => Heap.get?_push_of_some _ (Heap.get?_push_of_some _ x)⟩
end
/-- the tuple at a, each item in a new pair with its place -/
def IteT (K : PySem.W.Frag) (a : Addr) : It :=
  ⟨fun i H => ∃ (xs : List V) (x : V), SqT K H a xs ∧ xs[i]? = some x, fun i H v H' => ∃ T x, v = .ref T ∧ H T = none ∧ H' = upd H T (.tup [.int (i : Nat), x]) ∧ ∀ xs, SqT K H a xs → xs[i]? = some x, fun i H => ∃ xs : List V, SqT K H a xs ∧ xs.length ≤ i⟩
theorem turn_enumT {P : Program} {w : World} {K : PySem.W.Frag} {elts : List Expr} {kk : Nat} {tpos : Pos} (a e it : Addr) (hea : e ≠ a) (hai : a ≠ it) (hne : e ≠ it) :
    Turn P w K (.Tuple elts kk tpos) (IteT K a) [e, it] e (fun i h => (∃ old, IsEnum h e it ((i : Nat) : Int) old) ∧ h.IsTupleIter it a i) where
  mem := by simp
  obj := fun i h st b hb => by
    obtain ⟨⟨old, he⟩, ⟨o, ho, hc, hd⟩⟩ := st
    have e' : b = e ∨ b = it := by simpa using hb
    rcases e' with z | z
    · rw [z]; exact ⟨_, he, fun v q => nomatch q⟩
    · rw [z]; exact ⟨o, ho, fun v q => by rw [hd] at q; cases q⟩
  keep := fun i h h' st k => by
    obtain ⟨⟨old, he⟩, ⟨o, ho, r⟩⟩ := st
    exact ⟨⟨old, k e (by simp) _ he⟩, ⟨o, k it (by simp) o ho, r⟩⟩
  item := by
    intro X hP hw hK hc i pins s σ H E I hf st hg
    subst hP hw hK
    obtain ⟨⟨old, he⟩, hit⟩ := st
    obtain ⟨xs, x, hq, hx⟩ := hg
    obtain ⟨its, rv, p, hz⟩ := I.tuple hq
    obtain ⟨u, hu, ru⟩ := rv.get hx
    have hp : s.heap.IsTuple a its.toArray := p
    have hel : e < s.heap.objs.size := Heap.lt_size he
    have hil : it < s.heap.objs.size := by obtain ⟨_, q, _⟩ := hit; exact Heap.lt_size q
    have hu2 : its.toArray[i]? = some u := by simpa using hu
    have hlt : i < its.toArray.size := (Array.getElem?_eq_some_iff.mp hu2).1
    refine wpAny_pyNext_enum_itemD (Draws.tuple (A := X.A.in1) (I.ok.hd hc) it a hai its.toArray) he ⟨hit, hp⟩ hlt hne (by simp [hne, hea]) fun x' h' tk hx' ho st' hT hsz hk => ?_
    obtain ⟨hit', _⟩ := st'
    have hxu : x' = u := by rw [hu2] at hx'; exact (Option.some.inj hx').symm
    subst hxu
    refine ⟨_, rfl, wpAny_letOwnedTupleGo_enum (s := { s with heap := h', toks := tk + 1 }) ho fun h'' he' sb => ?_⟩
    have hT2 : h''.get? s.heap.objs.size = some { cls := .type "tuple", data := .seq #[.int i tk, x'] } := (sb.2 _ (Nat.ne_of_gt hel)).trans hT
    have new : ObjOk X.prog X.w (upd H s.heap.objs.size (.tup [.int (i : Nat), x])) h'' s.heap.objs.size (.tup [.int (i : Nat), x]) :=
      ⟨by show 2 ≤ sizeLine; decide, [.int i tk, x'], .cons ⟨_, rfl⟩ (.cons ru .nil), ⟨_, hT2, rfl, _, rfl⟩⟩
    have I1 : Inv X pins σ (upd H s.heap.objs.size (.tup [.int (i : Nat), x])) { s with heap := h'', toks := tk + 1 } :=
      I.turnedNew (ch := [e, it]) (fun b ob hb q => (sb.2 b (fun z => hb (by simp [z]))).trans (hk b ob (fun z => hb (by simp [z])) (fun z => hb (by simp [z])) q)) hf (Nat.le_refl _) new
    refine ⟨.ref s.heap.objs.size, _, I1, rfl, ⟨_, x, rfl, I.hok.fresh (Nat.le_refl _), rfl, fun ys hy => by rw [I.tuple_inj hy hq]; exact hx⟩, ⟨⟨x', ?_⟩, ?_⟩, fun b hb => ?_⟩
    · have e1 : ((i + 1 : Nat) : Int) = (i : Int) + 1 := by omega
      rw [e1]; exact he'
    · obtain ⟨o, ho2, r⟩ := hit'
      exact ⟨o, (sb.2 it (Ne.symm hne)).trans ho2, r⟩
    · have hb' : b < s.heap.objs.size := by
        have e' : b = e ∨ b = it := by simpa using hb
        rcases e' with z | z
        · rw [z]; exact hel
        · rw [z]; exact hil
      rw [upd_ne (Nat.ne_of_lt hb')]
      exact (hf b hb).1
  done := by
    intro X hP hw hK hc i pins s σ H E I hf st hg
    subst hP hw hK
    obtain ⟨⟨old, he⟩, hit⟩ := st
    obtain ⟨xs, hq, hx⟩ := hg
    obtain ⟨its, rv, p, hz⟩ := I.tuple hq
    have hp : s.heap.IsTuple a its.toArray := p
    obtain ⟨f0, f1, f2, f3, f4, f5⟩ := hf it (by simp)
    have hl := rv.length
    have hT : s.TypeIs (.ref e) "enumerate" := ⟨_, he, rfl⟩
    unfold pyNext
    refine wpAny_bind (wpAny_attempt (wpAny_callSpecial?_slot (name := Str.ofString "__next__") hT F.slot_enumerate_next
      (wpAny_call_entry F.slot_enumerate_next hT F.entry_enumerate_next ?_ (F.args_enumerate_next_1 _))))
    show wpAny _ _ (field (.ref e) 2 >>= _) _ _ _
    refine wpAny_bind (wpAny_field he rfl (x := .ref it) rfl ?_)
    refine wpAny_bind (RZ.nextOf_tuple_end (A := X.A.in1) (I.ok.hd hc) hit hp (by simp; omega) fun h' x he' hx' => ?_)
    obtain ⟨o, ho, hcc⟩ := hx'
    refine wpAny_bind (wpAny_isInstance (T := "StopIteration") (b := true) ⟨o, ho, hcc⟩ isSubtype_stop ?_)
    exact wpAny_pure ⟨rfl, I.turned (t' := s.toks) (fun b o hb q => he' b o hb q) f0 f1 f3 f4 f5⟩
  self := fun A i s Q E st h => let ⟨⟨_, he⟩, _⟩ := st; wpAny_pyIter_enum he h
def iEnumA (K : PySem.W.Frag) (ta : TA) : TI := fun σ H R => ta σ H fun vs H1 => ∃ a xs, vs = [.ref a] ∧ ((SqL K H1 a xs ∧ R (Ite K a) H1) ∨ (SqT K H1 a xs ∧ R (IteT K a) H1))
theorem pi_enumA {X : Cx} {e : Expr} {ta : TA} {p pos tpos : Pos} {elts : List Expr} {kk : Nat} (hg : Gl X "enumerate") (hm : X.mg "enumerate" = none) (ha : PA X [e] ta) (hs : starEach [e] X.env = [(false, eval e X.env)] := by rfl) :
    PI X (.Tuple elts kk tpos) (.Call (.Name "enumerate" p) [e] [] pos) (iEnumA X.K ta) := by
  refine ⟨fun pins s σ H R I h => ?_⟩
  refine Call_ (ld_blt I hg hm boot_enumerate (PyProof.Rows.callWith_type1 (thn (ha.run pos pins s σ H _ I h) fun us s1 ⟨vs, H1, I1, r1, q1⟩ => ?_) hs rfl))
  obtain ⟨a, xs, ex, q1⟩ := q1
  subst ex
  cases r1 with
  | cons r rr =>
    cases rr
    cases r
    have fr : ∀ b ∈ [s1.heap.objs.size + 1, s1.heap.objs.size], FpOk X pins H1 b := fun b hb => by
      have e' : b = s1.heap.objs.size + 1 ∨ b = s1.heap.objs.size := by simpa using hb
      have hle : s1.heap.objs.size ≤ b := by
        rcases e' with z | z
        · rw [z]; exact Nat.le_add_right _ _
        · rw [z]; exact Nat.le_refl _
      exact I1.fpOk hle (I1.hok.fresh hle)
    rcases q1 with ⟨hq, q⟩ | ⟨hq, q⟩
    · obtain ⟨its, rv, p', hz⟩ := I1.list hq
      refine call_enumerate_list p'.isList fun h' he hit hsz hk => wpAny_pyIter_enum he ?_
      have I2 : Inv X pins σ H1 { s1 with heap := h' } := I1.kept (t' := s1.toks) hk
      exact ⟨s1.heap.objs.size + 1, [s1.heap.objs.size + 1, s1.heap.objs.size], _, _, H1, rfl, I2, turn_enum a (s1.heap.objs.size + 1) s1.heap.objs.size, ⟨⟨.none, he⟩, hit, Nat.succ_ne_self _⟩, fr, q⟩
    · obtain ⟨its, rv, p', hz⟩ := I1.tuple hq
      have hp : s1.heap.IsTuple a its.toArray := p'
      obtain ⟨ol, hol, _⟩ := id hp
      have hlt : a < s1.heap.objs.size := Heap.lt_size hol
      refine call_enum_tup hp fun h' he hit hk => wpAny_pyIter_enum he ?_
      have I2 : Inv X pins σ H1 { s1 with heap := h' } := I1.kept (t' := s1.toks) hk
      exact ⟨s1.heap.objs.size + 1, [s1.heap.objs.size + 1, s1.heap.objs.size], _, _, H1, rfl, I2, turn_enumT a (s1.heap.objs.size + 1) s1.heap.objs.size (Nat.ne_of_gt (Nat.lt_succ_of_lt hlt)) (Nat.ne_of_lt hlt) (Nat.succ_ne_self _), ⟨⟨.none, he⟩, hit⟩, fr, q⟩
section
variable {K : PySem.W.Frag} {ct : String → Addr} {v : Vw}
theorem itOk_enumT {a : Addr} {vs : List V} {ds : List D} (h : SqT K v.G a vs) (r : RepL K ct v.G v.m ds vs) : ItOk K ct (IteT K a) v (enumD ds) where
  go := fun i w l s hi => by
    have hi' : i < ds.length := by simpa [enumD] using hi
    obtain ⟨x, e, _⟩ := r.get (List.getElem?_eq_getElem hi')
    exact ⟨vs, x, sqt_mono s.sub (sqt_mono l.g h), e⟩
  stop := fun i w l s hi => by
    have : ds.length ≤ i := by simpa [enumD] using hi
    exact ⟨vs, sqt_mono s.sub (sqt_mono l.g h), by rw [← r.length]; exact this⟩
  yld := fun i w z H' l s hi y => by
    have hi' : i < ds.length := by simpa [enumD] using hi
    obtain ⟨x, e, rv⟩ := r.get (List.getElem?_eq_getElem hi')
    obtain ⟨T, x', rfl, hT, rfl, y2⟩ := y
    have z2 := y2 vs (sqt_mono s.sub (sqt_mono l.g h))
    rw [e] at z2
    cases z2
    obtain ⟨l2, s2⟩ := new_ok (o := .tup [.int (i : Nat), x]) s hT
    exact ⟨.tup [.int (i : Nat), ds[i]], w.new T (.tup [.int (i : Nat), x]), by simp [enumD, hi'], rfl, l2, s2, rfl, .tup (SqT.of upd_same) (.cons (.int _) (.cons (l2.rep (l.rep rv)) .nil))⟩
end
def iEnumX (a : As) : As := fun δ s => (a δ s).bind fun ds s1 => match ds with
  | [.lst xs] => .ok (enumD xs) s1
  | [.tup xs] => .ok (enumD xs) s1
  | _ => .stk
section
variable {X : Cx} {C : Cc}
theorem si_enumX {e : Expr} {f : As} {p pos tpos : Pos} {elts : List Expr} {kk : Nat} (hg : Gl X "enumerate") (hm : X.mg "enumerate" = none) (ha : SA X C [e] f) (hs : starEach [e] X.env = [(false, eval e X.env)] := by rfl) :
    SI X C (.Tuple elts kk tpos) (.Call (.Name "enumerate" p) [e] [] pos) (iEnumX f) :=
  pi_weak (pi_enumA hg hm ha hs) fun σ H R ⟨δ, v, re, eH, h⟩ => ⟨δ, v, re, eH, on_mono (on_bind h) fun ds vs v1 l1 s1 r1 h1 => by
    split at h1
    · cases r1 with
      | cons r2 r3 =>
        cases r3
        cases r2 with
        | @lst a us _ pp q => exact ⟨a, us, rfl, .inl ⟨s1.sub.seq pp, on_self s1 h1 (itOk_enum pp q)⟩⟩
    · cases r1 with
      | cons r2 r3 =>
        cases r3
        cases r2 with
        | @tup a us _ pp q => exact ⟨a, us, rfl, .inr ⟨sqt_mono s1.sub pp, on_self s1 h1 (itOk_enumT pp q)⟩⟩
    · exact h1.elim⟩
end
@[simp] theorem v_iEnumX (a : As) (δ : Sl) (s : Sto) : iEnumX a δ s = (a δ s).bind fun ds s1 => match ds with | [.lst xs] => .ok (enumD xs) s1 | [.tup xs] => .ok (enumD xs) s1 | _ => .stk := id rfl
end Gs

/-! GM: zip of a list and a tuple. -/
namespace Gs
open PySem PySem.Spec PyProof.Rows L2
def ItzM (K : PySem.W.Frag) (a b : Addr) (n1 n2 : Nat) : It :=
  ⟨fun i H => i < n1 ∧ i < n2 ∧ ∃ (xs ys : List V) (x y : V), SqL K H a xs ∧ SqT K H b ys ∧ xs.length = n1 ∧ ys.length = n2 ∧ xs[i]? = some x ∧ ys[i]? = some y,
    fun i H v H' => ∃ T x y, v = .ref T ∧ H T = none ∧ H' = upd H T (.tup [x, y]) ∧ (∀ xs, SqL K H a xs → xs[i]? = some x) ∧ ∀ ys, SqT K H b ys → ys[i]? = some y,
    fun i H => ∃ xs ys : List V, SqL K H a xs ∧ SqT K H b ys ∧ xs.length = n1 ∧ ys.length = n2 ∧ (n1 ≤ i ∨ n2 ≤ i)⟩
theorem turn_zipM {P : Program} {w : World} {K : PySem.W.Frag} {elts : List Expr} {kk : Nat} {tpos : Pos} {a b z TI TO i1 i2 : Addr} {n1 n2 : Nat} (S : ZipSep2 z TI TO i1 i2 [i1, a] [i2, b]) (ha1 : a ≠ i1) (hb2 : b ≠ i2) :
    Turn P w K (.Tuple elts kk tpos) (ItzM K a b n1 n2) [z, TI, TO, i1, i2] z (fun i h => IsZip h z TI TO .none ∧ IsTupOf2 h TI (.ref i1) (.ref i2) ∧ (∃ x y, IsTupOf2 h TO x y) ∧ h.IsListIter i1 a i ∧ h.IsTupleIter i2 b i ∧ i ≤ n1 ∧ i ≤ n2) where
  mem := by simp
  obj := fun i h st c hc => by
    obtain ⟨hz, hTI, ⟨x, y, hTO⟩, ⟨o1, e1, _, d1⟩, ⟨o2, e2, _, d2⟩, _⟩ := st
    have e' : c = z ∨ c = TI ∨ c = TO ∨ c = i1 ∨ c = i2 := by simpa using hc
    rcases e' with q | q | q | q | q
    · rw [q]; exact ⟨_, hz, fun v q => nomatch q⟩
    · rw [q]; exact ⟨_, hTI, fun v q => nomatch q⟩
    · rw [q]; exact ⟨_, hTO, fun v q => nomatch q⟩
    · rw [q]; exact ⟨o1, e1, fun v q => by rw [d1] at q; cases q⟩
    · rw [q]; exact ⟨o2, e2, fun v q => by rw [d2] at q; cases q⟩
  keep := fun i h h' st k => by
    obtain ⟨hz, hTI, ⟨x, y, hTO⟩, ⟨o1, e1, r1⟩, ⟨o2, e2, r2⟩, l1, l2⟩ := st
    exact ⟨k z (by simp) _ hz, k TI (by simp) _ hTI, ⟨x, y, k TO (by simp) _ hTO⟩, ⟨o1, k i1 (by simp) o1 e1, r1⟩, ⟨o2, k i2 (by simp) o2 e2, r2⟩, l1, l2⟩
  item := by
    intro X hP hw hK hc i pins s σ H E I hf st hg
    subst hP hw hK
    obtain ⟨hz, hTI, ⟨x0, y0, hTO⟩, h1, h2, l1, l2⟩ := st
    obtain ⟨lt1, lt2, xs, ys, x, y, hqx, hqy, n1e, n2e, hx, hy⟩ := hg
    obtain ⟨its, rv, p, _⟩ := I.list hqx
    obtain ⟨its2, rv2, p2, _⟩ := I.tuple hqy
    obtain ⟨u, hu, ru⟩ := rv.get hx
    obtain ⟨u2, hu2, ru2⟩ := rv2.get hy
    have hpt : s.heap.IsTuple b its2.toArray := p2
    have hzl : z < s.heap.objs.size := Heap.lt_size hz
    have m1 : its.toArray.size = n1 := by rw [List.size_toArray, ← rv.length, n1e]
    have m2 : its2.toArray.size = n2 := by rw [List.size_toArray, ← rv2.length, n2e]
    refine wpAny_pyNext_zipD2_item S (Draws.list (A := X.A.in1) (I.ok.hd hc) i1 a ha1 its.toArray) (Draws.tuple (A := X.A.in1) (I.ok.hd hc) i2 b hb2 its2.toArray) hz hTI hTO ⟨h1, p.isList⟩ ⟨h2, hpt⟩ (by rw [m1]; exact lt1) (by rw [m2]; exact lt2) fun w1 w2 h' tk q1 q2 z' TO' st1 st2 hT hsz hk => ?_
    obtain ⟨h1', _⟩ := st1
    obtain ⟨h2', _⟩ := st2
    have hw1 : w1 = u := by
      have : its.toArray[i]? = some u := by simpa using hu
      rw [this] at q1
      exact (Option.some.inj q1).symm
    have hw2 : w2 = u2 := by
      have : its2.toArray[i]? = some u2 := by simpa using hu2
      rw [this] at q2
      exact (Option.some.inj q2).symm
    subst hw1 hw2
    refine ⟨_, rfl, wpAny_letOwnedTupleGo_zip (s := { s with heap := h', toks := tk }) z' fun h'' z'' sb => ?_⟩
    have hT2 : h''.get? s.heap.objs.size = some { cls := .type "tuple", data := .seq #[w1, w2] } := (sb.2 _ (Nat.ne_of_gt hzl)).trans hT
    have new : ObjOk X.prog X.w (upd H s.heap.objs.size (.tup [x, y])) h'' s.heap.objs.size (.tup [x, y]) :=
      ⟨by show 2 ≤ sizeLine; decide, [w1, w2], .cons ru (.cons ru2 .nil), ⟨_, hT2, rfl, _, rfl⟩⟩
    have I1 : Inv X pins σ (upd H s.heap.objs.size (.tup [x, y])) { s with heap := h'', toks := tk } :=
      I.turnedNew (t' := tk) (ch := [z, TI, TO, i1, i2]) (fun c o hb q => (sb.2 c (fun q' => hb (by simp [q']))).trans (hk c o (fun q' => hb (by simp [q'])) (fun q' => hb (by simp [q'])) (fun q' => hb (by simp [q'])) (fun q' => hb (by simp [q'])) q)) hf (Nat.le_refl _) new
    refine ⟨.ref s.heap.objs.size, _, I1, rfl, ⟨_, x, y, rfl, I.hok.fresh (Nat.le_refl _), rfl, fun l hl => by rw [I.list_inj hl hqx]; exact hx, fun l hl => by rw [I.tuple_inj hl hqy]; exact hy⟩, ⟨z'', ?_, ⟨w1, w2, ?_⟩, ?_, ?_, lt1, lt2⟩, fun c hcm => ?_⟩
    · exact (sb.2 _ S.TIz).trans (hk _ _ S.TIz S.TITO S.TIi1 S.TIi2 hTI)
    · exact (sb.2 _ S.TOz).trans TO'
    · obtain ⟨o, ho, r⟩ := h1'
      exact ⟨o, (sb.2 _ S.zi1.symm).trans ho, r⟩
    · obtain ⟨o, ho, r⟩ := h2'
      exact ⟨o, (sb.2 _ S.zi2.symm).trans ho, r⟩
    · have hlt : c < s.heap.objs.size := by
        have e' : c = z ∨ c = TI ∨ c = TO ∨ c = i1 ∨ c = i2 := by simpa using hcm
        rcases e' with q | q | q | q | q
        · rw [q]; exact hzl
        · rw [q]; exact Heap.lt_size hTI
        · rw [q]; exact Heap.lt_size hTO
        · rw [q]; obtain ⟨_, e1, _⟩ := h1; exact Heap.lt_size e1
        · rw [q]; obtain ⟨_, e2, _⟩ := h2; exact Heap.lt_size e2
      rw [upd_ne (Nat.ne_of_lt hlt)]
      exact (hf c hcm).1
  done := by
    intro X hP hw hK hc i pins s σ H E I hf st hg
    subst hP hw hK
    obtain ⟨hz, hTI, ⟨x0, y0, hTO⟩, h1, h2, l1, l2⟩ := st
    obtain ⟨xs, ys, hqx, hqy, n1e, n2e, hend⟩ := hg
    obtain ⟨its, rv, p, _⟩ := I.list hqx
    obtain ⟨its2, rv2, p2, _⟩ := I.tuple hqy
    have hpt : s.heap.IsTuple b its2.toArray := p2
    have m1 : its.toArray.size = n1 := by rw [List.size_toArray, ← rv.length, n1e]
    have m2 : its2.toArray.size = n2 := by rw [List.size_toArray, ← rv2.length, n2e]
    refine wpAny_pyNext_zipD2_end S (Draws.list (A := X.A.in1) (I.ok.hd hc) i1 a ha1 its.toArray) (Draws.tuple (A := X.A.in1) (I.ok.hd hc) i2 b hb2 its2.toArray) hz hTI hTO ⟨h1, p.isList⟩ ⟨h2, hpt⟩ (by rw [m1]; exact l1) (by rw [m2]; exact l2) (by rw [m1, m2]; omega) fun h' tk hk => ⟨rfl, I.turnedL (t' := tk) (ch := [z, TI, TO, i1, i2]) (fun c o hb q =>
      hk c o (fun q' => hb (by simp [q'])) (fun q' => hb (by simp [q'])) (fun q' => hb (by simp [q'])) (fun q' => hb (by simp [q'])) q) hf⟩
  self := fun A i s Q E st h => wpAny_pyIter_zip st.1 h
def iZipMx (K : PySem.W.Frag) (ta : TA) : TI := fun σ H R => ta σ H fun vs H1 => ∃ a b xs ys, vs = [.ref a, .ref b] ∧ SqL K H1 a xs ∧ SqT K H1 b ys ∧ R (ItzM K a b xs.length ys.length) H1
theorem pi_zipM {X : Cx} {e e2 : Expr} {ta : TA} {p pos tpos : Pos} {elts : List Expr} {kk : Nat} (hg : Gl X "zip") (hm : X.mg "zip" = none) (ha : PA X [e, e2] ta)
    (hs : starEach [e, e2] X.env = (false, eval e X.env) :: starEach [e2] X.env := by rfl) (hpl : (backTo pos (starEach [e2] X.env)).any (·.1) = false := by rfl) :
    PI X (.Tuple elts kk tpos) (.Call (.Name "zip" p) [e, e2] [] pos) (iZipMx X.K ta) := by
  refine ⟨fun pins s σ H R I h => ?_⟩
  refine Call_ (ld_blt I hg hm PyProof.Rows.boot_zip (PyProof.Rows.callWith_type1 (thn (ha.run pos pins s σ H _ I h) fun us s1 ⟨vs, H1, I1, r1, q1⟩ => ?_) hs hpl))
  obtain ⟨a, b, xs, ys, ex, hqx, hqy, q⟩ := q1
  subst ex
  cases r1 with
  | cons r rr =>
    cases rr with
    | cons r' rr =>
      cases rr
      cases r
      cases r'
      obtain ⟨its, rv, p1, _⟩ := I1.list hqx
      obtain ⟨its2, rv2, p2, _⟩ := I1.tuple hqy
      have hpt : s1.heap.IsTuple b its2.toArray := p2
      obtain ⟨o2, ho2, _⟩ := id hpt
      have la : a < s1.heap.objs.size := p1.lt
      have lb : b < s1.heap.objs.size := Heap.lt_size ho2
      refine zip_begins2 (begins_list a its.toArray) (begins_tuple b its2.toArray) p1.isList hpt fun h' hz hTI hTO g1 g2 hsz hk => wpAny_pyIter_zip hz ?_
      have I2 : Inv X pins σ H1 { s1 with heap := h' } := I1.kept (t' := s1.toks) hk
      have nt : ∀ {k : Nat}, a ≠ s1.heap.objs.size + k := fun {k} => Nat.ne_of_lt (Nat.lt_of_lt_of_le la (Nat.le_add_right _ _))
      have nu : ∀ {k : Nat}, b ≠ s1.heap.objs.size + k := fun {k} => Nat.ne_of_lt (Nat.lt_of_lt_of_le lb (Nat.le_add_right _ _))
      have S : ZipSep2 (s1.heap.objs.size + 4) (s1.heap.objs.size + 2) (s1.heap.objs.size + 3) s1.heap.objs.size (s1.heap.objs.size + 1) [s1.heap.objs.size, a] [s1.heap.objs.size + 1, b] := by
        have n0 : a ≠ s1.heap.objs.size := nt (k := 0)
        have n0' : b ≠ s1.heap.objs.size := nu (k := 0)
        constructor <;> simp [nt.symm, nu.symm, n0.symm, n0'.symm] <;> first | omega | (intro z; omega) | skip
      refine ⟨s1.heap.objs.size + 4, [s1.heap.objs.size + 4, s1.heap.objs.size + 2, s1.heap.objs.size + 3, s1.heap.objs.size, s1.heap.objs.size + 1], _, _, H1, rfl, I2, turn_zipM S (nt (k := 0)) nu, ⟨hz, hTI, ⟨_, _, hTO⟩, ⟨_, g1, rfl, rfl⟩, ⟨_, g2, rfl, rfl⟩, Nat.zero_le _, Nat.zero_le _⟩, fun c hcm => ?_, q⟩
      have e' : c = s1.heap.objs.size + 4 ∨ c = s1.heap.objs.size + 2 ∨ c = s1.heap.objs.size + 3 ∨ c = s1.heap.objs.size ∨ c = s1.heap.objs.size + 1 := by simpa using hcm
      have hle : s1.heap.objs.size ≤ c := by
        rcases e' with z | z | z | z | z
        · rw [z]; exact Nat.le_add_right _ _
        · rw [z]; exact Nat.le_add_right _ _
        · rw [z]; exact Nat.le_add_right _ _
        · rw [z]; exact Nat.le_refl _
        · rw [z]; exact Nat.le_add_right _ _
      exact I1.fpOk hle (I1.hok.fresh hle)
section
variable {K : PySem.W.Frag} {ct : String → Addr} {v : Vw}
theorem itOk_zipM {a b : Addr} {vs us : List V} {ds es : List D} (h : SqL K v.G a vs) (h2 : SqT K v.G b us) (r : RepL K ct v.G v.m ds vs) (r2 : RepL K ct v.G v.m es us) : ItOk K ct (ItzM K a b vs.length us.length) v (zipD ds es) where
  go := fun i w l s hi => by
    obtain ⟨dx, dy, e1, e2, _⟩ := zipD_get hi
    obtain ⟨x, q1, _⟩ := r.get e1
    obtain ⟨y, q2, _⟩ := r2.get e2
    exact ⟨(List.getElem?_eq_some_iff.mp q1).1, (List.getElem?_eq_some_iff.mp q2).1, vs, us, x, y, s.sub.seq (l.g.seq h), sqt_mono s.sub (sqt_mono l.g h2), rfl, rfl, q1, q2⟩
  stop := fun i w l s hi => by
    have hi' : min ds.length es.length ≤ i := by simpa [zipD] using hi
    have l1 := r.length
    have l2 := r2.length
    refine ⟨vs, us, s.sub.seq (l.g.seq h), sqt_mono s.sub (sqt_mono l.g h2), rfl, rfl, ?_⟩
    omega
  yld := fun i w z H' l s hi y => by
    obtain ⟨dx, dy, e1, e2, e3⟩ := zipD_get hi
    obtain ⟨x, q1, rv⟩ := r.get e1
    obtain ⟨u, q2, ru⟩ := r2.get e2
    obtain ⟨T, x', u', rfl, hT, rfl, y1, y2⟩ := y
    have z1 := y1 vs (s.sub.seq (l.g.seq h))
    have z2 := y2 us (sqt_mono s.sub (sqt_mono l.g h2))
    rw [q1] at z1
    rw [q2] at z2
    cases z1
    cases z2
    obtain ⟨l2, s2⟩ := new_ok (o := .tup [x, u]) s hT
    exact ⟨.tup [dx, dy], w.new T (.tup [x, u]), e3, rfl, l2, s2, rfl, .tup (SqT.of upd_same) (.cons (l2.rep (l.rep rv)) (.cons (l2.rep (l.rep ru)) .nil))⟩
end
def iZipM (a : As) : As := fun δ s => (a δ s).bind fun ds s1 => match ds with
  | [.lst xs, .tup ys] => .ok (zipD xs ys) s1
  | _ => .stk
section
variable {X : Cx} {C : Cc}
theorem si_zipM {e e2 : Expr} {f : As} {p pos tpos : Pos} {elts : List Expr} {kk : Nat} (hg : Gl X "zip") (hm : X.mg "zip" = none) (ha : SA X C [e, e2] f)
    (hs : starEach [e, e2] X.env = (false, eval e X.env) :: starEach [e2] X.env := by rfl) (hpl : (backTo pos (starEach [e2] X.env)).any (·.1) = false := by rfl) :
    SI X C (.Tuple elts kk tpos) (.Call (.Name "zip" p) [e, e2] [] pos) (iZipM f) :=
  pi_weak (pi_zipM hg hm ha hs hpl) fun σ H R ⟨δ, v, re, eH, h⟩ => ⟨δ, v, re, eH, on_mono (on_bind h) fun ds vs v1 l1 s1 r1 h1 => by
    split at h1
    · cases r1 with
      | cons r2 r3 =>
        cases r3 with
        | cons r3 r4 =>
          cases r4
          cases r2 with
          | @lst a us _ pp q =>
            cases r3 with
            | @tup b us2 _ pp2 q2 => exact ⟨a, b, us, us2, rfl, s1.sub.seq pp, sqt_mono s1.sub pp2, on_self s1 h1 (itOk_zipM pp pp2 q q2)⟩
    · exact h1.elim⟩
end
@[simp] theorem v_iZipM (a : As) (δ : Sl) (s : Sto) : iZipM a δ s = (a δ s).bind fun ds s1 => match ds with | [.lst xs, .tup ys] => .ok (zipD xs ys) s1 | _ => .stk := id rfl
end Gs

namespace Law
open PySem L2 Gs
/-! the text by places -/
def topS (i : Nat) : Stmt := PySem.Challenge.pw_countgen_k71_steps_of_rows.main.body.getD i (.Pass ⟨0, 0, 0, 0⟩)
abbrev s_l_alike : Stmt := topS 51
abbrev N_l_alike : List Str := ["_law_found", "_law_parts", "_law_due", "_law_one", "_law_other", "_law_part_here", "_law_thing_here"]
abbrev P_l_alike : List Str := ["_law_found", "_law_parts", "_law_due"]
theorem sc_l_alike : FnScope N_l_alike P_l_alike (defScope s_l_alike) := ⟨rfl, rfl, rfl, by decide +kernel, rfl, by decide +kernel, by decide +kernel⟩
abbrev s_l_cell_at : Stmt := topS 45
abbrev N_l_cell_at : List Str := ["_law_script", "_law_k"]
abbrev P_l_cell_at : List Str := ["_law_script", "_law_k"]
theorem sc_l_cell_at : FnScope N_l_cell_at P_l_cell_at (defScope s_l_cell_at) := ⟨rfl, rfl, rfl, by decide +kernel, rfl, by decide +kernel, by decide +kernel⟩
abbrev s_l_inner : Stmt := topS 49
abbrev N_l_inner : List Str := ["_law_part_here", "_law_thing_here", "_law_far", "_law_less", "_law_k"]
abbrev P_l_inner : List Str := ["_law_part_here", "_law_thing_here"]
theorem sc_l_inner : FnScope N_l_inner P_l_inner (defScope s_l_inner) := ⟨rfl, rfl, rfl, by decide +kernel, rfl, by decide +kernel, by decide +kernel⟩
abbrev s_l_count : Stmt := topS 50
abbrev N_l_count : List Str := ["_law_parts", "_law_things", "_law_part_here", "_law_thing_here"]
abbrev P_l_count : List Str := ["_law_parts", "_law_things"]
theorem sc_l_count : FnScope N_l_count P_l_count (defScope s_l_count) := ⟨rfl, rfl, rfl, by decide +kernel, rfl, by decide +kernel, by decide +kernel⟩
abbrev s_l_signs : Stmt := topS 46
abbrev N_l_signs : List Str := ["_law_cell", "_law_many", "_law_some", "_law_k"]
abbrev P_l_signs : List Str := ["_law_cell", "_law_many"]
theorem sc_l_signs : FnScope N_l_signs P_l_signs (defScope s_l_signs) := ⟨rfl, rfl, rfl, by decide +kernel, rfl, by decide +kernel, by decide +kernel⟩
abbrev s_l_part : Stmt := topS 47
abbrev N_l_part : List Str := ["_law_cell", "_law_low"]
abbrev P_l_part : List Str := ["_law_cell"]
theorem sc_l_part : FnScope N_l_part P_l_part (defScope s_l_part) := ⟨rfl, rfl, rfl, by decide +kernel, rfl, by decide +kernel, by decide +kernel⟩
abbrev s_l_thing : Stmt := topS 48
abbrev N_l_thing : List Str := ["_law_part_here", "_law_cell", "_law_many", "_law_k"]
abbrev P_l_thing : List Str := ["_law_part_here", "_law_cell"]
theorem sc_l_thing : FnScope N_l_thing P_l_thing (defScope s_l_thing) := ⟨rfl, rfl, rfl, by decide +kernel, rfl, by decide +kernel, by decide +kernel⟩
abbrev s_place_of : Stmt := topS 10
abbrev N_place_of : List Str := ["branches", "mark", "k", "branch"]
abbrev P_place_of : List Str := ["branches", "mark"]
theorem sc_place_of : FnScope N_place_of P_place_of (defScope s_place_of) := ⟨rfl, rfl, rfl, by decide +kernel, rfl, by decide +kernel, by decide +kernel⟩
abbrev s_all_alike : Stmt := topS 19
abbrev N_all_alike : List Str := ["times", "things", "thing"]
abbrev P_all_alike : List Str := ["times", "things"]
theorem sc_all_alike : FnScope N_all_alike P_all_alike (defScope s_all_alike) := ⟨rfl, rfl, rfl, by decide +kernel, rfl, by decide +kernel, by decide +kernel⟩
abbrev s_shape_of : Stmt := topS 5
abbrev N_shape_of : List Str := ["book", "name", "other", "shape"]
abbrev P_shape_of : List Str := ["book", "name"]
theorem sc_shape_of : FnScope N_shape_of P_shape_of (defScope s_shape_of) := ⟨rfl, rfl, rfl, by decide +kernel, rfl, by decide +kernel, by decide +kernel⟩
abbrev s_measured : Stmt := topS 11
abbrev N_measured : List Str := ["book", "shape", "value", "part", "thing"]
abbrev P_measured : List Str := ["book", "shape", "value"]
theorem sc_measured : FnScope N_measured P_measured (defScope s_measured) := ⟨rfl, rfl, rfl, by decide +kernel, rfl, by decide +kernel, by decide +kernel⟩
abbrev s_heaps : Stmt := topS 16
abbrev N_heaps : List Str := ["book", "part", "things", "found", "thing"]
abbrev P_heaps : List Str := ["book", "part", "things"]
theorem sc_heaps : FnScope N_heaps P_heaps (defScope s_heaps) := ⟨rfl, rfl, rfl, by decide +kernel, rfl, by decide +kernel, by decide +kernel⟩
abbrev s_order_of_heaps : Stmt := topS 17
abbrev N_order_of_heaps : List Str := ["book", "part", "one", "other", "near", "far", "size", "here", "there", "found", "thing"]
abbrev P_order_of_heaps : List Str := ["book", "part", "one", "other"]
theorem sc_order_of_heaps : FnScope N_order_of_heaps P_order_of_heaps (defScope s_order_of_heaps) := ⟨rfl, rfl, rfl, by decide +kernel, rfl, by decide +kernel, by decide +kernel⟩
abbrev s_sign_of : Stmt := topS 9
abbrev N_sign_of : List Str := ["number"]
abbrev P_sign_of : List Str := ["number"]
theorem sc_sign_of : FnScope N_sign_of P_sign_of (defScope s_sign_of) := ⟨rfl, rfl, rfl, by decide +kernel, rfl, by decide +kernel, by decide +kernel⟩
abbrev s_order_of_texts : Stmt := topS 13
abbrev N_order_of_texts : List Str := ["signs", "one", "other", "here", "there"]
abbrev P_order_of_texts : List Str := ["signs", "one", "other"]
theorem sc_order_of_texts : FnScope N_order_of_texts P_order_of_texts (defScope s_order_of_texts) := ⟨rfl, rfl, rfl, by decide +kernel, rfl, by decide +kernel, by decide +kernel⟩
abbrev s_order_of_rows : Stmt := topS 14
abbrev N_order_of_rows : List Str := ["book", "parts", "one", "other", "k", "found"]
abbrev P_order_of_rows : List Str := ["book", "parts", "one", "other"]
theorem sc_order_of_rows : FnScope N_order_of_rows P_order_of_rows (defScope s_order_of_rows) := ⟨rfl, rfl, rfl, by decide +kernel, rfl, by decide +kernel, by decide +kernel⟩
abbrev s_order_of_picks : Stmt := topS 15
abbrev N_order_of_picks : List Str := ["book", "branches", "one", "other", "near", "far"]
abbrev P_order_of_picks : List Str := ["book", "branches", "one", "other"]
theorem sc_order_of_picks : FnScope N_order_of_picks P_order_of_picks (defScope s_order_of_picks) := ⟨rfl, rfl, rfl, by decide +kernel, rfl, by decide +kernel, by decide +kernel⟩
abbrev s_order : Stmt := topS 12
abbrev N_order : List Str := ["book", "shape", "one", "other", "near", "far", "thing"]
abbrev P_order : List Str := ["book", "shape", "one", "other"]
theorem sc_order : FnScope N_order P_order (defScope s_order) := ⟨rfl, rfl, rfl, by decide +kernel, rfl, by decide +kernel, by decide +kernel⟩
abbrev s_rises : Stmt := topS 18
abbrev N_rises : List Str := ["book", "part", "things", "most", "k"]
abbrev P_rises : List Str := ["book", "part", "things", "most"]
theorem sc_rises : FnScope N_rises P_rises (defScope s_rises) := ⟨rfl, rfl, rfl, by decide +kernel, rfl, by decide +kernel, by decide +kernel⟩
abbrev s_fits_parts : Stmt := topS 22
abbrev N_fits_parts : List Str := ["book", "parts", "things", "part", "thing"]
abbrev P_fits_parts : List Str := ["book", "parts", "things"]
theorem sc_fits_parts : FnScope N_fits_parts P_fits_parts (defScope s_fits_parts) := ⟨rfl, rfl, rfl, by decide +kernel, rfl, by decide +kernel, by decide +kernel⟩
abbrev s_fits_list : Stmt := topS 24
abbrev N_fits_list : List Str := ["book", "shape", "things", "thing"]
abbrev P_fits_list : List Str := ["book", "shape", "things"]
theorem sc_fits_list : FnScope N_fits_list P_fits_list (defScope s_fits_list) := ⟨rfl, rfl, rfl, by decide +kernel, rfl, by decide +kernel, by decide +kernel⟩
abbrev s_fits_branch : Stmt := topS 23
abbrev N_fits_branch : List Str := ["book", "branches", "pair", "at"]
abbrev P_fits_branch : List Str := ["book", "branches", "pair"]
theorem sc_fits_branch : FnScope N_fits_branch P_fits_branch (defScope s_fits_branch) := ⟨rfl, rfl, rfl, by decide +kernel, rfl, by decide +kernel, by decide +kernel⟩
abbrev s_fits : Stmt := topS 21
abbrev N_fits : List Str := ["book", "shape", "value", "sign"]
abbrev P_fits : List Str := ["book", "shape", "value"]
theorem sc_fits : FnScope N_fits P_fits (defScope s_fits) := ⟨rfl, rfl, rfl, by decide +kernel, rfl, by decide +kernel, by decide +kernel⟩
abbrev s_own_copy : Stmt := topS 7
abbrev N_own_copy : List Str := ["value", "thing"]
abbrev P_own_copy : List Str := ["value"]
theorem sc_own_copy : FnScope N_own_copy P_own_copy (defScope s_own_copy) := ⟨rfl, rfl, rfl, by decide +kernel, rfl, by decide +kernel, by decide +kernel⟩
abbrev s_within_parts : Stmt := topS 40
abbrev N_within_parts : List Str := ["book", "name", "parts", "things", "found", "part", "thing"]
abbrev P_within_parts : List Str := ["book", "name", "parts", "things"]
theorem sc_within_parts : FnScope N_within_parts P_within_parts (defScope s_within_parts) := ⟨rfl, rfl, rfl, by decide +kernel, rfl, by decide +kernel, by decide +kernel⟩
abbrev s_at_uses : Stmt := topS 41
abbrev N_at_uses : List Str := ["book", "name", "shape", "value", "found", "mark", "part"]
abbrev P_at_uses : List Str := ["book", "name", "shape", "value"]
theorem sc_at_uses : FnScope N_at_uses P_at_uses (defScope s_at_uses) := ⟨rfl, rfl, rfl, by decide +kernel, rfl, by decide +kernel, by decide +kernel⟩
abbrev s_left_out : Stmt := topS 36
abbrev N_left_out : List Str := ["things", "at"]
abbrev P_left_out : List Str := ["things"]
theorem sc_left_out : FnScope N_left_out P_left_out (defScope s_left_out) := ⟨rfl, rfl, rfl, by decide +kernel, rfl, by decide +kernel, by decide +kernel⟩
abbrev s_least_of_row : Stmt := topS 27
abbrev N_least_of_row : List Str := ["parts", "sizes", "total", "part", "found"]
abbrev P_least_of_row : List Str := ["parts", "sizes"]
theorem sc_least_of_row : FnScope N_least_of_row P_least_of_row (defScope s_least_of_row) := ⟨rfl, rfl, rfl, by decide +kernel, rfl, by decide +kernel, by decide +kernel⟩
abbrev s_least_of_pick : Stmt := topS 28
abbrev N_least_of_pick : List Str := ["branches", "sizes", "known", "branch", "size"]
abbrev P_least_of_pick : List Str := ["branches", "sizes"]
theorem sc_least_of_pick : FnScope N_least_of_pick P_least_of_pick (defScope s_least_of_pick) := ⟨rfl, rfl, rfl, by decide +kernel, rfl, by decide +kernel, by decide +kernel⟩
abbrev s_least_size : Stmt := topS 29
abbrev N_least_size : List Str := ["shape", "sizes", "kind", "found"]
abbrev P_least_size : List Str := ["shape", "sizes"]
theorem sc_least_size : FnScope N_least_size P_least_size (defScope s_least_size) := ⟨rfl, rfl, rfl, by decide +kernel, rfl, by decide +kernel, by decide +kernel⟩
abbrev s_least_sizes : Stmt := topS 30
abbrev N_least_sizes : List Str := ["book", "sizes", "name", "shape", "k"]
abbrev P_least_sizes : List Str := ["book"]
theorem sc_least_sizes : FnScope N_least_sizes P_least_sizes (defScope s_least_sizes) := ⟨rfl, rfl, rfl, by decide +kernel, rfl, by decide +kernel, by decide +kernel⟩
abbrev s_least_thing : Stmt := topS 31
abbrev N_least_thing : List Str := ["shapes", "shape", "sizes", "kind", "least", "mark", "part", "k"]
abbrev P_least_thing : List Str := ["shapes", "shape", "sizes"]
theorem sc_least_thing : FnScope N_least_thing P_least_thing (defScope s_least_thing) := ⟨rfl, rfl, rfl, by decide +kernel, rfl, by decide +kernel, by decide +kernel⟩
abbrev s_least_value : Stmt := topS 33
abbrev N_least_value : List Str := ["book", "shape", "below", "sizes", "size"]
abbrev P_least_value : List Str := ["book", "shape", "below"]
theorem sc_least_value : FnScope N_least_value P_least_value (defScope s_least_value) := ⟨rfl, rfl, rfl, by decide +kernel, rfl, by decide +kernel, by decide +kernel⟩
abbrev s_size_of : Stmt := topS 25
abbrev N_size_of : List Str := ["book", "shape", "value"]
abbrev P_size_of : List Str := ["book", "shape", "value"]
theorem sc_size_of : FnScope N_size_of P_size_of (defScope s_size_of) := ⟨rfl, rfl, rfl, by decide +kernel, rfl, by decide +kernel, by decide +kernel⟩
abbrev s_whole_steps : Stmt := topS 35
abbrev N_whole_steps : List Str := ["low", "value", "found", "far"]
abbrev P_whole_steps : List Str := ["low", "value"]
theorem sc_whole_steps : FnScope N_whole_steps P_whole_steps (defScope s_whole_steps) := ⟨rfl, rfl, rfl, by decide +kernel, rfl, by decide +kernel, by decide +kernel⟩
abbrev s_row_steps : Stmt := topS 37
abbrev N_row_steps : List Str := ["book", "parts", "value", "found", "at", "part", "step"]
abbrev P_row_steps : List Str := ["book", "parts", "value"]
theorem sc_row_steps : FnScope N_row_steps P_row_steps (defScope s_row_steps) := ⟨rfl, rfl, rfl, by decide +kernel, rfl, by decide +kernel, by decide +kernel⟩
abbrev s_pick_steps : Stmt := topS 39
abbrev N_pick_steps : List Str := ["book", "shape", "value", "below", "found", "mark", "part", "least", "step"]
abbrev P_pick_steps : List Str := ["book", "shape", "value"]
theorem sc_pick_steps : FnScope N_pick_steps P_pick_steps (defScope s_pick_steps) := ⟨rfl, rfl, rfl, by decide +kernel, rfl, by decide +kernel, by decide +kernel⟩
abbrev s_list_steps : Stmt := topS 38
abbrev N_list_steps : List Str := ["book", "part", "value", "found", "at", "thing", "step"]
abbrev P_list_steps : List Str := ["book", "part", "value"]
theorem sc_list_steps : FnScope N_list_steps P_list_steps (defScope s_list_steps) := ⟨rfl, rfl, rfl, by decide +kernel, rfl, by decide +kernel, by decide +kernel⟩
abbrev s_plain_steps : Stmt := topS 42
abbrev N_plain_steps : List Str := ["book", "shape", "value", "word", "inner", "step"]
abbrev P_plain_steps : List Str := ["book", "shape", "value"]
theorem sc_plain_steps : FnScope N_plain_steps P_plain_steps (defScope s_plain_steps) := ⟨rfl, rfl, rfl, by decide +kernel, rfl, by decide +kernel, by decide +kernel⟩
abbrev s_steps_of : Stmt := topS 43
abbrev N_steps_of : List Str := ["book", "shape", "value", "step"]
abbrev P_steps_of : List Str := ["book", "shape", "value"]
theorem sc_steps_of : FnScope N_steps_of P_steps_of (defScope s_steps_of) := ⟨rfl, rfl, rfl, by decide +kernel, rfl, by decide +kernel, by decide +kernel⟩
abbrev s_law : Stmt := topS 52
abbrev N_law : List Str := ["_law_script", "_law_book", "_law_signs_here", "_law_many", "_law_near", "_law_text", "_law_found", "_law_cells", "_law_parts", "_law_things", "_law_due", "_law_k", "_law_less", "_law_shape", "_law_head", "_law_tail", "_law_cell", "_law_part_here", "_law_step"]
abbrev P_law : List Str := ["_law_script"]
theorem sc_law : FnScope N_law P_law (defScope s_law) := ⟨rfl, rfl, rfl, by decide +kernel, rfl, by decide +kernel, by decide +kernel⟩
/-! what they say of data -/
noncomputable def L_l_alike_1 : S := sIf (tOrr (tV (eUn (gIsi "bool") (eV 6))) (tV (eBin gNe (eUn (gIsi "str") (eV 6)) (eBin gEq (eBin gIx (eV 5) (eC (.int 0))) (eC (.str (Str.ofString "text"))))))) (sRet (eC (.bl false))) (sNx)
noncomputable def L_l_alike_0 : S := sSeq (sIf (tOrr (tNt (tV (eUn (gIsi "tuple") (eV 3)))) (tOrr (tV (eBin gNe (eFn gLen (aCons (eV 3) (aNil))) (eFn gLen (aCons (eV 1) (aNil))))) (tV (eBin gNe (eV 3) (eV 4))))) (sRet (eC (.bl false))) (sNx))
    (sFor (iZipM (aCons (eV 1) (aCons (eV 3) (aNil)))) (.tp [.nm 5, .nm 6]) (L_l_alike_1))
noncomputable def S_l_alike : List D → Sto → R D := runG 7 (
    sSeq (sIf (tOrr (tNt (tV (eUn (gIsi "list") (eV 0)))) (tV (eBin gNe (eFn gLen (aCons (eV 0) (aNil))) (eFn gLen (aCons (eV 2) (aNil)))))) (sRet (eC (.bl false))) (sNx))
    (sSeq (sFor (iZipD (aCons (eV 0) (aCons (eV 2) (aNil)))) (.tp [.nm 3, .nm 4]) (L_l_alike_0))
    (sRet (eC (.bl true)))))
noncomputable def S_l_cell_at : List D → Sto → R D := runG 2 (
    sSeq (sIf (tV (eBin gLt (eV 1) (eFn gLen (aCons (eV 0) (aNil))))) (sRet (eBin gIx (eV 0) (eV 1))) (sNx))
    (sRet (eC (.int 0))))
noncomputable def S_l_inner : List D → Sto → R D := runG 5 (
    sSeq (sIf (tV (eBin gEq (eBin gIx (eV 0) (eC (.int 0))) (eC (.str (Str.ofString "whole"))))) (sSeq (sSet 2 (eBin gSub (eV 1) (eBin gIx (eV 0) (eC (.int 1)))))
    (sRet (eFz (fLc (iSeq (eFz (fLst (aCons (eC (.int 0)) (aCons (eC (.int 1)) (aNil)))))) [3] (.nm 3) (tAn (tV (eBin gLe (eV 3) (eBin gDiv (eV 2) (eC (.int 2))))) (tV (eBin gGt (eV 2) (eC (.int 0))))) (eBin gAdd (eBin gIx (eV 0) (eC (.int 1))) (eV 3)))))) (sNx))
    (sRet (eFz (fLc (iRange1 (aCons (eFn gLen (aCons (eV 1) (aNil))) (aNil))) [4] (.nm 4) (tTrue) (eBin gAdd (eSl (eV 1) (oNone) (oSome (eV 4))) (eSl (eV 1) (oSome (eBin gAdd (eV 4) (eC (.int 1)))) (oNone)))))))
noncomputable def S_l_count : List D → Sto → R D := runG 4 (
    sRet (eFn gSum (aCons (eFz (fLc (iZipD (aCons (eV 0) (aCons (eV 1) (aNil)))) [2, 3] (.tp [.nm 2, .nm 3]) (tTrue) (eFn gLen (aCons (eCall S_l_inner (aCons (eV 2) (aCons (eV 3) (aNil)))) (aNil))))) (aNil))))
noncomputable def S_l_signs : List D → Sto → R D := runG 4 (
    sSeq (sSet 2 (eC (.str (Str.ofString "abcdefghijklmnopqrstuvwxyzABCDEFGHIJKLMNOPQRSTUVWXYZ0123456789"))))
    (sRet (eM1 gJoin (eC (.str (Str.ofString ""))) (eFz (fLc (iRange1 (aCons (eV 1) (aNil))) [3] (.nm 3) (tTrue) (eBin gIx (eV 2) (eBin gMod (eBin gAdd (eV 0) (eBin gMul (eC (.int 9)) (eV 3))) (eC (.int 62)))))))))
noncomputable def S_l_part : List D → Sto → R D := runG 2 (
    sSeq (sIf (tV (eBin gEq (eBin gMod (eV 0) (eC (.int 2))) (eC (.int 0)))) (sSeq (sSet 1 (eBin gSub (eBin gMod (eBin gDiv (eV 0) (eC (.int 2))) (eBin gPow (eC (.int 10)) (eC (.int 60)))) (eBin gMul (eC (.int 5)) (eBin gPow (eC (.int 10)) (eC (.int 59))))))
    (sRet (eTup (aCons (eC (.str (Str.ofString "whole"))) (aCons (eV 1) (aCons (eBin gAdd (eV 1) (eC (.int 3))) (aNil))))))) (sNx))
    (sRet (eTup (aCons (eC (.str (Str.ofString "text"))) (aCons (eCall S_l_signs (aCons (eBin gDiv (eV 0) (eC (.int 2))) (aCons (eBin gAdd (eC (.int 1)) (eBin gMod (eBin gDiv (eV 0) (eC (.int 2))) (eC (.int 5)))) (aNil)))) (aNil))))))
noncomputable def S_l_thing : List D → Sto → R D := runG 4 (
    sSeq (sIf (tV (eBin gEq (eBin gIx (eV 0) (eC (.int 0))) (eC (.str (Str.ofString "whole"))))) (sRet (eBin gAdd (eBin gIx (eV 0) (eC (.int 1))) (eBin gMod (eBin gMod (eBin gMul (eV 1) (eC (.int 48271))) (eC (.int 65537))) (eC (.int 4))))) (sNx))
    (sSeq (sSet 2 (eBin gMod (eBin gMod (eBin gMul (eV 1) (eC (.int 48271))) (eC (.int 65537))) (eC (.int 3))))
    (sRet (eM1 gJoin (eC (.str (Str.ofString ""))) (eFz (fLc (iRange1 (aCons (eV 2) (aNil))) [3] (.nm 3) (tTrue) (eBin gIx (eBin gIx (eV 0) (eC (.int 1))) (eBin gMod (eBin gAdd (eBin gDiv (eV 1) (eC (.int 3))) (eBin gMul (eC (.int 2)) (eV 3))) (eFn gLen (aCons (eBin gIx (eV 0) (eC (.int 1))) (aNil)))))))))))
noncomputable def L_place_of_0 : S := sIf (tV (eBin gEq (eBin gIx (eV 3) (eC (.int 0))) (eV 1))) (sRet (eV 2)) (sNx)
noncomputable def S_place_of : List D → Sto → R D := runG 4 (
    sSeq (sFor (iEnumX (aCons (eV 0) (aNil))) (.tp [.nm 2, .nm 3]) (L_place_of_0))
    (sRet (eUn gNeg (eC (.int 1)))))
noncomputable def S_all_alike : List D → Sto → R D := runG 3 (
    sRet (eAn (eBin gEq (eFn gLen (aCons (eV 1) (aNil))) (eV 0)) (eFn gAll (aCons (eFz (fLc (iSeq (eV 1)) [2] (.nm 2) (tTrue) (eBin gEq (eV 2) (eBin gIx (eV 1) (eC (.int 0)))))) (aNil)))))
noncomputable def L_shape_of_0 : S := sIf (tV (eBin gEq (eV 2) (eV 1))) (sRet (eV 3)) (sNx)
noncomputable def S_shape_of : List D → Sto → R D := runG 4 (
    sSeq (sFor (iSeq (eV 0)) (.tp [.nm 2, .nm 3]) (L_shape_of_0))
    (sRaise "NoName"))
noncomputable def U_measured (c_measured : List D → Sto → R D) : List D → Sto → R D := runG 5 (
    sSeq (sIf (tV (eBin gEq (eBin gIx (eV 1) (eC (.int 0))) (eC (.str (Str.ofString "whole"))))) (sRet (eBits (eBin gSub (eV 2) (eBin gIx (eV 1) (eC (.int 1)))))) (sNx))
    (sSeq (sIf (tV (eBin gEq (eBin gIx (eV 1) (eC (.int 0))) (eC (.str (Str.ofString "text"))))) (sRet (eFn gLen (aCons (eV 2) (aNil)))) (sNx))
    (sSeq (sIf (tV (eBin gEq (eBin gIx (eV 1) (eC (.int 0))) (eC (.str (Str.ofString "row"))))) (sRet (eFn gSum (aCons (eFz (fLc (iZipD (aCons (eBin gIx (eV 1) (eC (.int 1))) (aCons (eV 2) (aNil)))) [3, 4] (.tp [.nm 3, .nm 4]) (tTrue) (eCall c_measured (aCons (eV 0) (aCons (eV 3) (aCons (eV 4) (aNil))))))) (aNil)))) (sNx))
    (sSeq (sIf (tV (eBin gEq (eBin gIx (eV 1) (eC (.int 0))) (eC (.str (Str.ofString "pick"))))) (sRet (eCall c_measured (aCons (eV 0) (aCons (eBin gIx (eBin gIx (eBin gIx (eV 1) (eC (.int 1))) (eCall S_place_of (aCons (eBin gIx (eV 1) (eC (.int 1))) (aCons (eBin gIx (eV 2) (eC (.int 0))) (aNil))))) (eC (.int 1))) (aCons (eBin gIx (eV 2) (eC (.int 1))) (aNil)))))) (sNx))
    (sSeq (sIf (tV (eBin gEq (eBin gIx (eV 1) (eC (.int 0))) (eC (.str (Str.ofString "use"))))) (sRet (eBin gAdd (eC (.int 1)) (eCall c_measured (aCons (eV 0) (aCons (eCall S_shape_of (aCons (eV 0) (aCons (eBin gIx (eV 1) (eC (.int 1))) (aNil)))) (aCons (eV 2) (aNil))))))) (sNx))
    (sRet (eFn gSum (aCons (eFz (fLc (iSeq (eV 2)) [4] (.nm 4) (tTrue) (eBin gAdd (eC (.int 1)) (eCall c_measured (aCons (eV 0) (aCons (eBin gIx (eV 1) (eC (.int 1))) (aCons (eV 4) (aNil)))))))) (aNil)))))))))
noncomputable def S_measured : Nat → List D → Sto → R D
  | 0 => fun _ _ => .stk
  | n + 1 => U_measured (S_measured n)
noncomputable def L_heaps_0 : S := sStk
noncomputable def S_heaps : List D → Sto → R D := runG 5 (
    sSeq (sStk)
    (sSeq (sFor (iSeq (eV 2)) (.nm 4) (L_heaps_0))
    (sRet (eV 3))))
noncomputable def S_order_of_heaps : List D → Sto → R D := runG 11 (
    sSeq (sSet 4 (eCall S_heaps (aCons (eV 0) (aCons (eV 1) (aCons (eV 2) (aNil))))))
    (sSeq (sSet 5 (eCall S_heaps (aCons (eV 0) (aCons (eV 1) (aCons (eV 3) (aNil))))))
    (sSeq (sStk)
    (sRet (eC (.int 0))))))
noncomputable def S_sign_of : List D → Sto → R D := runG 1 (
    sRet (eBin gSub (eFn gInt (aCons (eBin gGt (eV 0) (eC (.int 0))) (aNil))) (eFn gInt (aCons (eBin gLt (eV 0) (eC (.int 0))) (aNil)))))
noncomputable def L_order_of_texts_0 : S := sIf (tV (eBin gNe (eV 3) (eV 4))) (sRet (eCall S_sign_of (aCons (eBin gSub (eM1 gFind (eV 0) (eV 3)) (eM1 gFind (eV 0) (eV 4))) (aNil)))) (sNx)
noncomputable def S_order_of_texts : List D → Sto → R D := runG 5 (
    sSeq (sFor (iZipD (aCons (eV 1) (aCons (eV 2) (aNil)))) (.tp [.nm 3, .nm 4]) (L_order_of_texts_0))
    (sRet (eC (.int 0))))
noncomputable def U_order (c_order : List D → Sto → R D) (c_order_of_picks : List D → Sto → R D) (c_order_of_rows : List D → Sto → R D) : List D → Sto → R D := runG 7 (
    sSeq (sSet 4 (eCall (S_measured 20) (aCons (eV 0) (aCons (eV 1) (aCons (eV 2) (aNil))))))
    (sSeq (sSet 5 (eCall (S_measured 20) (aCons (eV 0) (aCons (eV 1) (aCons (eV 3) (aNil))))))
    (sSeq (sIf (tV (eBin gNe (eV 4) (eV 5))) (sRet (eCall S_sign_of (aCons (eBin gSub (eV 4) (eV 5)) (aNil)))) (sNx))
    (sSeq (sIf (tV (eBin gEq (eBin gIx (eV 1) (eC (.int 0))) (eC (.str (Str.ofString "whole"))))) (sRet (eCall S_sign_of (aCons (eBin gSub (eV 2) (eV 3)) (aNil)))) (sNx))
    (sSeq (sIf (tV (eBin gEq (eBin gIx (eV 1) (eC (.int 0))) (eC (.str (Str.ofString "text"))))) (sRet (eCall S_order_of_texts (aCons (eBin gIx (eV 1) (eC (.int 1))) (aCons (eV 2) (aCons (eV 3) (aNil)))))) (sNx))
    (sSeq (sIf (tV (eBin gEq (eBin gIx (eV 1) (eC (.int 0))) (eC (.str (Str.ofString "row"))))) (sRet (eCall c_order_of_rows (aCons (eV 0) (aCons (eBin gIx (eV 1) (eC (.int 1))) (aCons (eV 2) (aCons (eV 3) (aNil))))))) (sNx))
    (sSeq (sIf (tV (eBin gEq (eBin gIx (eV 1) (eC (.int 0))) (eC (.str (Str.ofString "pick"))))) (sRet (eCall c_order_of_picks (aCons (eV 0) (aCons (eBin gIx (eV 1) (eC (.int 1))) (aCons (eV 2) (aCons (eV 3) (aNil))))))) (sNx))
    (sSeq (sIf (tV (eBin gEq (eBin gIx (eV 1) (eC (.int 0))) (eC (.str (Str.ofString "use"))))) (sRet (eCall c_order (aCons (eV 0) (aCons (eCall S_shape_of (aCons (eV 0) (aCons (eBin gIx (eV 1) (eC (.int 1))) (aNil)))) (aCons (eV 2) (aCons (eV 3) (aNil))))))) (sNx))
    (sSeq (sIf (tOrr (tV (eBin gEq (eBin gIx (eV 1) (eC (.int 0))) (eC (.str (Str.ofString "rising"))))) (tV (eBin gEq (eBin gIx (eV 1) (eC (.int 0))) (eC (.str (Str.ofString "unlike")))))) (sRet (eCall S_order_of_heaps (aCons (eV 0) (aCons (eBin gIx (eV 1) (eC (.int 1))) (aCons (eV 2) (aCons (eV 3) (aNil))))))) (sNx))
    (sSeq (sIf (tV (eBin gEq (eBin gIx (eV 1) (eC (.int 0))) (eC (.str (Str.ofString "alike"))))) (sRet (eCall c_order (aCons (eV 0) (aCons (eBin gIx (eV 1) (eC (.int 1))) (aCons (eBin gIx (eV 2) (eC (.int 0))) (aCons (eBin gIx (eV 3) (eC (.int 0))) (aNil))))))) (sNx))
    (sRet (eCall c_order_of_rows (aCons (eV 0) (aCons (eFz (fLc (iSeq (eV 2)) [6] (.nm 6) (tTrue) (eBin gIx (eV 1) (eC (.int 1))))) (aCons (eV 2) (aCons (eV 3) (aNil)))))))))))))))))
noncomputable def U_order_of_picks (c_order : List D → Sto → R D) (c_order_of_picks : List D → Sto → R D) (c_order_of_rows : List D → Sto → R D) : List D → Sto → R D := runG 6 (
    sSeq (sSet 4 (eCall S_place_of (aCons (eV 1) (aCons (eBin gIx (eV 2) (eC (.int 0))) (aNil)))))
    (sSeq (sSet 5 (eCall S_place_of (aCons (eV 1) (aCons (eBin gIx (eV 3) (eC (.int 0))) (aNil)))))
    (sSeq (sIf (tV (eBin gNe (eV 4) (eV 5))) (sRet (eCall S_sign_of (aCons (eBin gSub (eV 4) (eV 5)) (aNil)))) (sNx))
    (sRet (eCall c_order (aCons (eV 0) (aCons (eBin gIx (eBin gIx (eV 1) (eV 4)) (eC (.int 1))) (aCons (eBin gIx (eV 2) (eC (.int 1))) (aCons (eBin gIx (eV 3) (eC (.int 1))) (aNil))))))))))
noncomputable def L_order_of_rows_0 (c_order : List D → Sto → R D) (c_order_of_picks : List D → Sto → R D) (c_order_of_rows : List D → Sto → R D) : S := sSeq (sSet 5 (eCall c_order (aCons (eV 0) (aCons (eBin gIx (eV 1) (eV 4)) (aCons (eBin gIx (eV 2) (eV 4)) (aCons (eBin gIx (eV 3) (eV 4)) (aNil)))))))
    (sIf (tV (eBin gNe (eV 5) (eC (.int 0)))) (sRet (eV 5)) (sNx))
noncomputable def U_order_of_rows (c_order : List D → Sto → R D) (c_order_of_picks : List D → Sto → R D) (c_order_of_rows : List D → Sto → R D) : List D → Sto → R D := runG 6 (
    sSeq (sFor (iRange1 (aCons (eFn gMin2 (aCons (eFn gLen (aCons (eV 2) (aNil))) (aCons (eFn gLen (aCons (eV 3) (aNil))) (aNil)))) (aNil))) (.nm 4) (L_order_of_rows_0 c_order c_order_of_picks c_order_of_rows))
    (sRet (eC (.int 0))))
mutual
noncomputable def S_order : Nat → List D → Sto → R D
  | 0 => fun _ _ => .stk
  | n + 1 => U_order (S_order n) (S_order_of_picks n) (S_order_of_rows n)
noncomputable def S_order_of_picks : Nat → List D → Sto → R D
  | 0 => fun _ _ => .stk
  | n + 1 => U_order_of_picks (S_order n) (S_order_of_picks n) (S_order_of_rows n)
noncomputable def S_order_of_rows : Nat → List D → Sto → R D
  | 0 => fun _ _ => .stk
  | n + 1 => U_order_of_rows (S_order n) (S_order_of_picks n) (S_order_of_rows n)
end
noncomputable def L_rises_0 : S := sIf (tV (eBin gGt (eCall (S_order 20) (aCons (eV 0) (aCons (eV 1) (aCons (eBin gIx (eV 2) (eBin gSub (eV 4) (eC (.int 1)))) (aCons (eBin gIx (eV 2) (eV 4)) (aNil)))))) (eV 3))) (sRet (eC (.bl false))) (sNx)
noncomputable def S_rises : List D → Sto → R D := runG 5 (
    sSeq (sFor (iRange2 (aCons (eC (.int 1)) (aCons (eFn gLen (aCons (eV 2) (aNil))) (aNil)))) (.nm 4) (L_rises_0))
    (sRet (eC (.bl true))))
noncomputable def U_fits (c_fits : List D → Sto → R D) (c_fits_branch : List D → Sto → R D) (c_fits_list : List D → Sto → R D) (c_fits_parts : List D → Sto → R D) : List D → Sto → R D := runG 4 (
    sSeq (sIf (tV (eBin gEq (eBin gIx (eV 1) (eC (.int 0))) (eC (.str (Str.ofString "whole"))))) (sRet (eAn (eUn (gIsi "int") (eV 2)) (eAn (eNt (eUn (gIsi "bool") (eV 2))) (eChain gLe gLe (eBin gIx (eV 1) (eC (.int 1))) (eV 2) (eBin gIx (eV 1) (eC (.int 2))))))) (sNx))
    (sSeq (sIf (tV (eBin gEq (eBin gIx (eV 1) (eC (.int 0))) (eC (.str (Str.ofString "text"))))) (sRet (eAn (eUn (gIsi "str") (eV 2)) (eFn gAll (aCons (eFz (fLc (iSeq (eV 2)) [3] (.nm 3) (tTrue) (eBin gIn (eV 3) (eBin gIx (eV 1) (eC (.int 1)))))) (aNil))))) (sNx))
    (sSeq (sIf (tV (eBin gEq (eBin gIx (eV 1) (eC (.int 0))) (eC (.str (Str.ofString "row"))))) (sRet (eAn (eUn (gIsi "tuple") (eV 2)) (eCall c_fits_parts (aCons (eV 0) (aCons (eBin gIx (eV 1) (eC (.int 1))) (aCons (eV 2) (aNil))))))) (sNx))
    (sSeq (sIf (tV (eBin gEq (eBin gIx (eV 1) (eC (.int 0))) (eC (.str (Str.ofString "pick"))))) (sRet (eAn (eUn (gIsi "tuple") (eV 2)) (eCall c_fits_branch (aCons (eV 0) (aCons (eBin gIx (eV 1) (eC (.int 1))) (aCons (eV 2) (aNil))))))) (sNx))
    (sSeq (sIf (tV (eBin gEq (eBin gIx (eV 1) (eC (.int 0))) (eC (.str (Str.ofString "use"))))) (sRet (eCall c_fits (aCons (eV 0) (aCons (eCall S_shape_of (aCons (eV 0) (aCons (eBin gIx (eV 1) (eC (.int 1))) (aNil)))) (aCons (eV 2) (aNil)))))) (sNx))
    (sRet (eAn (eUn (gIsi "list") (eV 2)) (eCall c_fits_list (aCons (eV 0) (aCons (eV 1) (aCons (eV 2) (aNil))))))))))))
noncomputable def U_fits_branch (c_fits : List D → Sto → R D) (c_fits_branch : List D → Sto → R D) (c_fits_list : List D → Sto → R D) (c_fits_parts : List D → Sto → R D) : List D → Sto → R D := runG 4 (
    sSeq (sIf (tOrr (tV (eBin gNe (eFn gLen (aCons (eV 2) (aNil))) (eC (.int 2)))) (tNt (tV (eUn (gIsi "str") (eBin gIx (eV 2) (eC (.int 0))))))) (sRet (eC (.bl false))) (sNx))
    (sSeq (sSet 3 (eCall S_place_of (aCons (eV 1) (aCons (eBin gIx (eV 2) (eC (.int 0))) (aNil)))))
    (sRet (eAn (eBin gGe (eV 3) (eC (.int 0))) (eCall c_fits (aCons (eV 0) (aCons (eBin gIx (eBin gIx (eV 1) (eV 3)) (eC (.int 1))) (aCons (eBin gIx (eV 2) (eC (.int 1))) (aNil)))))))))
noncomputable def L_fits_list_0 (c_fits : List D → Sto → R D) (c_fits_branch : List D → Sto → R D) (c_fits_list : List D → Sto → R D) (c_fits_parts : List D → Sto → R D) : S := sIf (tNt (tV (eCall c_fits (aCons (eV 0) (aCons (eBin gIx (eV 1) (eC (.int 1))) (aCons (eV 3) (aNil))))))) (sRet (eC (.bl false))) (sNx)
noncomputable def U_fits_list (c_fits : List D → Sto → R D) (c_fits_branch : List D → Sto → R D) (c_fits_list : List D → Sto → R D) (c_fits_parts : List D → Sto → R D) : List D → Sto → R D := runG 4 (
    sSeq (sFor (iSeq (eV 2)) (.nm 3) (L_fits_list_0 c_fits c_fits_branch c_fits_list c_fits_parts))
    (sSeq (sIf (tV (eBin gEq (eBin gIx (eV 1) (eC (.int 0))) (eC (.str (Str.ofString "rising"))))) (sRet (eCall S_rises (aCons (eV 0) (aCons (eBin gIx (eV 1) (eC (.int 1))) (aCons (eV 2) (aCons (eC (.int 0)) (aNil))))))) (sNx))
    (sSeq (sIf (tV (eBin gEq (eBin gIx (eV 1) (eC (.int 0))) (eC (.str (Str.ofString "unlike"))))) (sRet (eCall S_rises (aCons (eV 0) (aCons (eBin gIx (eV 1) (eC (.int 1))) (aCons (eV 2) (aCons (eUn gNeg (eC (.int 1))) (aNil))))))) (sNx))
    (sSeq (sIf (tV (eBin gEq (eBin gIx (eV 1) (eC (.int 0))) (eC (.str (Str.ofString "alike"))))) (sRet (eCall S_all_alike (aCons (eBin gIx (eV 1) (eC (.int 2))) (aCons (eV 2) (aNil))))) (sNx))
    (sRet (eC (.bl true)))))))
noncomputable def L_fits_parts_0 (c_fits : List D → Sto → R D) (c_fits_branch : List D → Sto → R D) (c_fits_list : List D → Sto → R D) (c_fits_parts : List D → Sto → R D) : S := sIf (tNt (tV (eCall c_fits (aCons (eV 0) (aCons (eV 3) (aCons (eV 4) (aNil))))))) (sRet (eC (.bl false))) (sNx)
noncomputable def U_fits_parts (c_fits : List D → Sto → R D) (c_fits_branch : List D → Sto → R D) (c_fits_list : List D → Sto → R D) (c_fits_parts : List D → Sto → R D) : List D → Sto → R D := runG 5 (
    sSeq (sIf (tV (eBin gNe (eFn gLen (aCons (eV 1) (aNil))) (eFn gLen (aCons (eV 2) (aNil))))) (sRet (eC (.bl false))) (sNx))
    (sSeq (sFor (iZipD (aCons (eV 1) (aCons (eV 2) (aNil)))) (.tp [.nm 3, .nm 4]) (L_fits_parts_0 c_fits c_fits_branch c_fits_list c_fits_parts))
    (sRet (eC (.bl true)))))
mutual
noncomputable def S_fits : Nat → List D → Sto → R D
  | 0 => fun _ _ => .stk
  | n + 1 => U_fits (S_fits n) (S_fits_branch n) (S_fits_list n) (S_fits_parts n)
noncomputable def S_fits_branch : Nat → List D → Sto → R D
  | 0 => fun _ _ => .stk
  | n + 1 => U_fits_branch (S_fits n) (S_fits_branch n) (S_fits_list n) (S_fits_parts n)
noncomputable def S_fits_list : Nat → List D → Sto → R D
  | 0 => fun _ _ => .stk
  | n + 1 => U_fits_list (S_fits n) (S_fits_branch n) (S_fits_list n) (S_fits_parts n)
noncomputable def S_fits_parts : Nat → List D → Sto → R D
  | 0 => fun _ _ => .stk
  | n + 1 => U_fits_parts (S_fits n) (S_fits_branch n) (S_fits_list n) (S_fits_parts n)
end
noncomputable def U_own_copy (c_own_copy : List D → Sto → R D) : List D → Sto → R D := runG 2 (
    sSeq (sIf (tV (eUn (gIsi "list") (eV 0))) (sRet (eFz (fLc (iSeq (eV 0)) [1] (.nm 1) (tTrue) (eCall c_own_copy (aCons (eV 1) (aNil)))))) (sNx))
    (sSeq (sIf (tV (eUn (gIsi "tuple") (eV 0))) (sRet (eFn gTuple (aCons (eFz (fLc (iSeq (eV 0)) [1] (.nm 1) (tTrue) (eCall c_own_copy (aCons (eV 1) (aNil))))) (aNil)))) (sNx))
    (sRet (eV 0))))
noncomputable def S_own_copy : Nat → List D → Sto → R D
  | 0 => fun _ _ => .stk
  | n + 1 => U_own_copy (S_own_copy n)
noncomputable def L_at_uses_0 (c_at_uses : List D → Sto → R D) (c_within_parts : List D → Sto → R D) : S := sIf (tV (eBin gEq (eV 5) (eBin gIx (eV 3) (eC (.int 0))))) (sRet (eCall c_at_uses (aCons (eV 0) (aCons (eV 1) (aCons (eV 6) (aCons (eBin gIx (eV 3) (eC (.int 1))) (aNil))))))) (sNx)
noncomputable def U_at_uses (c_at_uses : List D → Sto → R D) (c_within_parts : List D → Sto → R D) : List D → Sto → R D := runG 7 (
    sSeq (sIf (tV (eBin gEq (eBin gIx (eV 2) (eC (.int 0))) (eC (.str (Str.ofString "use"))))) (sSeq (sSet 4 (eCall c_at_uses (aCons (eV 0) (aCons (eV 1) (aCons (eCall S_shape_of (aCons (eV 0) (aCons (eBin gIx (eV 2) (eC (.int 1))) (aNil)))) (aCons (eV 3) (aNil)))))))
    (sSeq (sIf (tV (eBin gEq (eBin gIx (eV 2) (eC (.int 1))) (eV 1))) (sRet (eBin gAdd (eFz (fLst (aCons (eV 3) (aNil)))) (eV 4))) (sNx))
    (sRet (eV 4)))) (sNx))
    (sSeq (sIf (tV (eBin gEq (eBin gIx (eV 2) (eC (.int 0))) (eC (.str (Str.ofString "row"))))) (sRet (eCall c_within_parts (aCons (eV 0) (aCons (eV 1) (aCons (eBin gIx (eV 2) (eC (.int 1))) (aCons (eV 3) (aNil))))))) (sNx))
    (sSeq (sIf (tV (eBin gEq (eBin gIx (eV 2) (eC (.int 0))) (eC (.str (Str.ofString "pick"))))) (sFor (iSeq (eBin gIx (eV 2) (eC (.int 1)))) (.tp [.nm 5, .nm 6]) (L_at_uses_0 c_at_uses c_within_parts)) (sNx))
    (sSeq (sIf (tV (eBin gIn (eBin gIx (eV 2) (eC (.int 0))) (eTup (aCons (eC (.str (Str.ofString "many"))) (aCons (eC (.str (Str.ofString "rising"))) (aCons (eC (.str (Str.ofString "unlike"))) (aCons (eC (.str (Str.ofString "alike"))) (aNil)))))))) (sRet (eCall c_within_parts (aCons (eV 0) (aCons (eV 1) (aCons (eBin gMul (eFz (fLst (aCons (eBin gIx (eV 2) (eC (.int 1))) (aNil)))) (eFn gLen (aCons (eV 3) (aNil)))) (aCons (eV 3) (aNil))))))) (sNx))
    (sRet (eFz (fLst (aNil))))))))
noncomputable def L_within_parts_0 (c_at_uses : List D → Sto → R D) (c_within_parts : List D → Sto → R D) : S := sDrop (eExt (eV 4) (eCall c_at_uses (aCons (eV 0) (aCons (eV 1) (aCons (eV 5) (aCons (eV 6) (aNil)))))))
noncomputable def U_within_parts (c_at_uses : List D → Sto → R D) (c_within_parts : List D → Sto → R D) : List D → Sto → R D := runG 7 (
    sSeq (sSet 4 (eNw (fLst (aNil))))
    (sSeq (sFor (iZipD (aCons (eV 2) (aCons (eV 3) (aNil)))) (.tp [.nm 5, .nm 6]) (L_within_parts_0 c_at_uses c_within_parts))
    (sFrz 4 (sRet (eV 4)))))
mutual
noncomputable def S_at_uses : Nat → List D → Sto → R D
  | 0 => fun _ _ => .stk
  | n + 1 => U_at_uses (S_at_uses n) (S_within_parts n)
noncomputable def S_within_parts : Nat → List D → Sto → R D
  | 0 => fun _ _ => .stk
  | n + 1 => U_within_parts (S_at_uses n) (S_within_parts n)
end
noncomputable def S_left_out : List D → Sto → R D := runG 2 (
    sRet (eNw (fLc (iRange1 (aCons (eFn gLen (aCons (eV 0) (aNil))) (aNil))) [1] (.nm 1) (tTrue) (eBin gAdd (eSl (eV 0) (oNone) (oSome (eV 1))) (eSl (eV 0) (oSome (eBin gAdd (eV 1) (eC (.int 1)))) (oNone))))))
noncomputable def U_least_of_pick (c_least_of_pick : List D → Sto → R D) (c_least_of_row : List D → Sto → R D) (c_least_size : List D → Sto → R D) : List D → Sto → R D := runG 5 (
    sSeq (sSet 2 (eFz (fLc (iSeq (eV 0)) [3] (.nm 3) (tTrue) (eCall c_least_size (aCons (eBin gIx (eV 3) (eC (.int 1))) (aCons (eV 1) (aNil)))))))
    (sStk))
noncomputable def L_least_of_row_0 (c_least_of_pick : List D → Sto → R D) (c_least_of_row : List D → Sto → R D) (c_least_size : List D → Sto → R D) : S := sSeq (sSet 4 (eCall c_least_size (aCons (eV 3) (aCons (eV 1) (aNil)))))
    (sSeq (sIf (tV (eBin gIsN (eV 4) (eC .non))) (sRet (eC .non)) (sNx))
    (sAug 2 gAddI (eV 4)))
noncomputable def U_least_of_row (c_least_of_pick : List D → Sto → R D) (c_least_of_row : List D → Sto → R D) (c_least_size : List D → Sto → R D) : List D → Sto → R D := runG 5 (
    sSeq (sSet 2 (eC (.int 0)))
    (sSeq (sFor (iSeq (eV 0)) (.nm 3) (L_least_of_row_0 c_least_of_pick c_least_of_row c_least_size))
    (sRet (eV 2))))
noncomputable def U_least_size (c_least_of_pick : List D → Sto → R D) (c_least_of_row : List D → Sto → R D) (c_least_size : List D → Sto → R D) : List D → Sto → R D := runG 4 (
    sSeq (sSet 2 (eBin gIx (eV 0) (eC (.int 0))))
    (sSeq (sIf (tV (eBin gEq (eV 2) (eC (.str (Str.ofString "use"))))) (sSeq (sIf (tV (eBin gIsN (eBin gIx (eV 1) (eBin gIx (eV 0) (eC (.int 1)))) (eC .non))) (sRet (eC .non)) (sNx))
    (sRet (eBin gAdd (eC (.int 1)) (eBin gIx (eV 1) (eBin gIx (eV 0) (eC (.int 1))))))) (sNx))
    (sSeq (sIf (tV (eBin gEq (eV 2) (eC (.str (Str.ofString "row"))))) (sRet (eCall c_least_of_row (aCons (eBin gIx (eV 0) (eC (.int 1))) (aCons (eV 1) (aNil))))) (sNx))
    (sSeq (sIf (tV (eBin gEq (eV 2) (eC (.str (Str.ofString "pick"))))) (sRet (eCall c_least_of_pick (aCons (eBin gIx (eV 0) (eC (.int 1))) (aCons (eV 1) (aNil))))) (sNx))
    (sSeq (sIf (tV (eBin gEq (eV 2) (eC (.str (Str.ofString "alike"))))) (sSeq (sSet 3 (eCall c_least_size (aCons (eBin gIx (eV 0) (eC (.int 1))) (aCons (eV 1) (aNil)))))
    (sSeq (sIf (tV (eBin gIsN (eV 3) (eC .non))) (sRet (eC .non)) (sNx))
    (sRet (eBin gMul (eBin gIx (eV 0) (eC (.int 2))) (eBin gAdd (eC (.int 1)) (eV 3)))))) (sNx))
    (sRet (eC (.int 0))))))))
mutual
noncomputable def S_least_of_pick : Nat → List D → Sto → R D
  | 0 => fun _ _ => .stk
  | n + 1 => U_least_of_pick (S_least_of_pick n) (S_least_of_row n) (S_least_size n)
noncomputable def S_least_of_row : Nat → List D → Sto → R D
  | 0 => fun _ _ => .stk
  | n + 1 => U_least_of_row (S_least_of_pick n) (S_least_of_row n) (S_least_size n)
noncomputable def S_least_size : Nat → List D → Sto → R D
  | 0 => fun _ _ => .stk
  | n + 1 => U_least_size (S_least_of_pick n) (S_least_of_row n) (S_least_size n)
end
noncomputable def L_least_sizes_0 : S := sSetIx (eV 1) (eV 2) (eC .non)
noncomputable def L_least_sizes_2 : S := sSetIx (eV 1) (eV 2) (eCall (S_least_size 20) (aCons (eV 3) (aCons (eV 1) (aNil))))
noncomputable def L_least_sizes_1 : S := sFor (iSeq (eV 0)) (.tp [.nm 2, .nm 3]) (L_least_sizes_2)
noncomputable def S_least_sizes : List D → Sto → R D := runG 5 (
    sSeq (sStk)
    (sSeq (sFor (iSeq (eV 0)) (.tp [.nm 2, .nm 3]) (L_least_sizes_0))
    (sSeq (sFor (iRange1 (aCons (eFn gLen (aCons (eV 0) (aNil))) (aNil))) (.nm 4) (L_least_sizes_1))
    (sFrz 1 (sRet (eV 1))))))
noncomputable def L_least_thing_0 (c_least_thing : List D → Sto → R D) : S := sIf (tV (eBin gEq (eCall (S_least_size 20) (aCons (eV 6) (aCons (eV 2) (aNil)))) (eV 4))) (sRet (eTup (aCons (eV 5) (aCons (eCall c_least_thing (aCons (eV 0) (aCons (eV 6) (aCons (eV 2) (aNil))))) (aNil))))) (sNx)
noncomputable def U_least_thing (c_least_thing : List D → Sto → R D) : List D → Sto → R D := runG 8 (
    sSeq (sSet 3 (eBin gIx (eV 1) (eC (.int 0))))
    (sSeq (sIf (tV (eBin gEq (eV 3) (eC (.str (Str.ofString "whole"))))) (sRet (eBin gIx (eV 1) (eC (.int 1)))) (sNx))
    (sSeq (sIf (tV (eBin gEq (eV 3) (eC (.str (Str.ofString "text"))))) (sRet (eC (.str (Str.ofString "")))) (sNx))
    (sSeq (sIf (tV (eBin gEq (eV 3) (eC (.str (Str.ofString "use"))))) (sRet (eCall c_least_thing (aCons (eV 0) (aCons (eBin gIx (eV 0) (eBin gIx (eV 1) (eC (.int 1)))) (aCons (eV 2) (aNil)))))) (sNx))
    (sSeq (sIf (tV (eBin gEq (eV 3) (eC (.str (Str.ofString "row"))))) (sRet (eFn gTuple (aCons (eFz (fLc (iSeq (eBin gIx (eV 1) (eC (.int 1)))) [6] (.nm 6) (tTrue) (eCall c_least_thing (aCons (eV 0) (aCons (eV 6) (aCons (eV 2) (aNil))))))) (aNil)))) (sNx))
    (sSeq (sIf (tV (eBin gEq (eV 3) (eC (.str (Str.ofString "alike"))))) (sRet (eFz (fLc (iRange1 (aCons (eBin gIx (eV 1) (eC (.int 2))) (aNil))) [7] (.nm 7) (tTrue) (eCall c_least_thing (aCons (eV 0) (aCons (eBin gIx (eV 1) (eC (.int 1))) (aCons (eV 2) (aNil)))))))) (sNx))
    (sSeq (sIf (tV (eBin gEq (eV 3) (eC (.str (Str.ofString "pick"))))) (sSeq (sSet 4 (eCall (S_least_size 20) (aCons (eV 1) (aCons (eV 2) (aNil)))))
    (sFor (iSeq (eBin gIx (eV 1) (eC (.int 1)))) (.tp [.nm 5, .nm 6]) (L_least_thing_0 c_least_thing))) (sNx))
    (sRet (eFz (fLst (aNil)))))))))))
noncomputable def S_least_thing : Nat → List D → Sto → R D
  | 0 => fun _ _ => .stk
  | n + 1 => U_least_thing (S_least_thing n)
noncomputable def S_least_value : List D → Sto → R D := runG 5 (
    sSeq (sSet 3 (eCall S_least_sizes (aCons (eV 0) (aNil))))
    (sSeq (sSet 4 (eCall (S_least_size 20) (aCons (eV 1) (aCons (eV 3) (aNil)))))
    (sSeq (sIf (tOrr (tV (eBin gIsN (eV 4) (eC .non))) (tV (eBin gGe (eV 4) (eV 2)))) (sRet (eC .non)) (sNx))
    (sStk))))
noncomputable def S_size_of : List D → Sto → R D := runG 3 (
    sSeq (sIf (tNt (tV (eCall (S_fits 20) (aCons (eV 0) (aCons (eV 1) (aCons (eV 2) (aNil))))))) (sStk) (sNx))
    (sRet (eCall (S_measured 20) (aCons (eV 0) (aCons (eV 1) (aCons (eV 2) (aNil)))))))
noncomputable def T_whole_steps_0 : T := tV (eBin gGt (eV 3) (eC (.int 0)))
noncomputable def L_whole_steps_0 : S := sSeq (sSet 3 (eBin gDiv (eV 3) (eC (.int 2))))
    (sDrop (eApp (eV 2) (eBin gAdd (eV 0) (eV 3))))
noncomputable def S_whole_steps : List D → Sto → R D := runG 4 (
    sSeq (sSet 2 (eNw (fLst (aNil))))
    (sSeq (sSet 3 (eBin gSub (eV 1) (eV 0)))
    (sSeq (whileD (T_whole_steps_0) (L_whole_steps_0) fuel)
    (sFrz 2 (sRet (eFz (fRev (eV 2))))))))
noncomputable def L_list_steps_1 (c_list_steps : List D → Sto → R D) (c_pick_steps : List D → Sto → R D) (c_plain_steps : List D → Sto → R D) (c_row_steps : List D → Sto → R D) : S := sDrop (eApp (eV 3) (eBin gAdd (eBin gAdd (eSl (eV 2) (oNone) (oSome (eV 4))) (eFz (fLst (aCons (eV 6) (aNil))))) (eSl (eV 2) (oSome (eBin gAdd (eV 4) (eC (.int 1)))) (oNone))))
noncomputable def L_list_steps_0 (c_list_steps : List D → Sto → R D) (c_pick_steps : List D → Sto → R D) (c_plain_steps : List D → Sto → R D) (c_row_steps : List D → Sto → R D) : S := sFor (iSeq (eFrz (eCall c_plain_steps (aCons (eV 0) (aCons (eV 1) (aCons (eV 5) (aNil))))))) (.nm 6) (L_list_steps_1 c_list_steps c_pick_steps c_plain_steps c_row_steps)
noncomputable def U_list_steps (c_list_steps : List D → Sto → R D) (c_pick_steps : List D → Sto → R D) (c_plain_steps : List D → Sto → R D) (c_row_steps : List D → Sto → R D) : List D → Sto → R D := runG 7 (
    sSeq (sSet 3 (eCall S_left_out (aCons (eV 2) (aNil))))
    (sSeq (sFor (iEnumX (aCons (eV 2) (aNil))) (.tp [.nm 4, .nm 5]) (L_list_steps_0 c_list_steps c_pick_steps c_plain_steps c_row_steps))
    (sFrz 3 (sRet (eV 3)))))
noncomputable def L_pick_steps_0 (c_list_steps : List D → Sto → R D) (c_pick_steps : List D → Sto → R D) (c_plain_steps : List D → Sto → R D) (c_row_steps : List D → Sto → R D) : S := sSeq (sIf (tV (eBin gEq (eV 5) (eBin gIx (eV 2) (eC (.int 0))))) (sFrz 4 (sRet (eBin gAdd (eV 4) (eFz (fLc (iSeq (eFrz (eCall c_plain_steps (aCons (eV 0) (aCons (eV 6) (aCons (eBin gIx (eV 2) (eC (.int 1))) (aNil))))))) [8] (.nm 8) (tTrue) (eTup (aCons (eV 5) (aCons (eV 8) (aNil))))))))) (sNx))
    (sSeq (sSet 7 (eCall S_least_value (aCons (eV 0) (aCons (eV 6) (aCons (eV 3) (aNil))))))
    (sIf (tV (eBin gNotN (eV 7) (eC .non))) (sDrop (eApp (eV 4) (eTup (aCons (eV 5) (aCons (eV 7) (aNil)))))) (sNx)))
noncomputable def U_pick_steps (c_list_steps : List D → Sto → R D) (c_pick_steps : List D → Sto → R D) (c_plain_steps : List D → Sto → R D) (c_row_steps : List D → Sto → R D) : List D → Sto → R D := runG 9 (
    sSeq (sSet 3 (eCall S_size_of (aCons (eV 0) (aCons (eV 1) (aCons (eV 2) (aNil))))))
    (sSeq (sSet 4 (eNw (fLst (aNil))))
    (sSeq (sFor (iSeq (eBin gIx (eV 1) (eC (.int 1)))) (.tp [.nm 5, .nm 6]) (L_pick_steps_0 c_list_steps c_pick_steps c_plain_steps c_row_steps))
    (sFrz 4 (sRet (eV 4))))))
noncomputable def U_plain_steps (c_list_steps : List D → Sto → R D) (c_pick_steps : List D → Sto → R D) (c_plain_steps : List D → Sto → R D) (c_row_steps : List D → Sto → R D) : List D → Sto → R D := runG 6 (
    sSeq (sSet 3 (eBin gIx (eV 1) (eC (.int 0))))
    (sSeq (sIf (tV (eBin gEq (eV 3) (eC (.str (Str.ofString "whole"))))) (sRet (eCall S_whole_steps (aCons (eBin gIx (eV 1) (eC (.int 1))) (aCons (eV 2) (aNil))))) (sNx))
    (sSeq (sIf (tV (eBin gEq (eV 3) (eC (.str (Str.ofString "text"))))) (sRet (eCall S_left_out (aCons (eV 2) (aNil)))) (sNx))
    (sSeq (sIf (tV (eBin gEq (eV 3) (eC (.str (Str.ofString "row"))))) (sRet (eCall c_row_steps (aCons (eV 0) (aCons (eBin gIx (eV 1) (eC (.int 1))) (aCons (eV 2) (aNil)))))) (sNx))
    (sSeq (sIf (tV (eBin gEq (eV 3) (eC (.str (Str.ofString "many"))))) (sRet (eCall c_list_steps (aCons (eV 0) (aCons (eBin gIx (eV 1) (eC (.int 1))) (aCons (eV 2) (aNil)))))) (sNx))
    (sSeq (sIf (tV (eBin gEq (eV 3) (eC (.str (Str.ofString "alike"))))) (sRet (eFz (fLc (iSeq (eFrz (eCall c_plain_steps (aCons (eV 0) (aCons (eBin gIx (eV 1) (eC (.int 1))) (aCons (eBin gIx (eV 2) (eC (.int 0))) (aNil))))))) [5] (.nm 5) (tTrue) (eBin gMul (eFz (fLst (aCons (eV 5) (aNil)))) (eBin gIx (eV 1) (eC (.int 2))))))) (sNx))
    (sSeq (sIf (tV (eBin gEq (eV 3) (eC (.str (Str.ofString "pick"))))) (sRet (eCall c_pick_steps (aCons (eV 0) (aCons (eV 1) (aCons (eV 2) (aNil)))))) (sNx))
    (sSeq (sIf (tV (eBin gEq (eV 3) (eC (.str (Str.ofString "use"))))) (sSeq (sSet 4 (eCall S_shape_of (aCons (eV 0) (aCons (eBin gIx (eV 1) (eC (.int 1))) (aNil)))))
    (sRet (eBin gAdd (eCall (S_at_uses 20) (aCons (eV 0) (aCons (eBin gIx (eV 1) (eC (.int 1))) (aCons (eV 4) (aCons (eV 2) (aNil)))))) (eCall c_plain_steps (aCons (eV 0) (aCons (eV 4) (aCons (eV 2) (aNil)))))))) (sNx))
    (sRet (eFz (fLc (iSeq (eFrz (eCall c_list_steps (aCons (eV 0) (aCons (eBin gIx (eV 1) (eC (.int 1))) (aCons (eV 2) (aNil))))))) [5] (.nm 5) (tV (eCall (S_fits 20) (aCons (eV 0) (aCons (eV 1) (aCons (eV 5) (aNil)))))) (eV 5))))))))))))
noncomputable def L_row_steps_1 (c_list_steps : List D → Sto → R D) (c_pick_steps : List D → Sto → R D) (c_plain_steps : List D → Sto → R D) (c_row_steps : List D → Sto → R D) : S := sDrop (eApp (eV 3) (eBin gAdd (eBin gAdd (eSl (eV 2) (oNone) (oSome (eV 4))) (eTup (aCons (eV 6) (aNil)))) (eSl (eV 2) (oSome (eBin gAdd (eV 4) (eC (.int 1)))) (oNone))))
noncomputable def L_row_steps_0 (c_list_steps : List D → Sto → R D) (c_pick_steps : List D → Sto → R D) (c_plain_steps : List D → Sto → R D) (c_row_steps : List D → Sto → R D) : S := sFor (iSeq (eFrz (eCall c_plain_steps (aCons (eV 0) (aCons (eV 5) (aCons (eBin gIx (eV 2) (eV 4)) (aNil))))))) (.nm 6) (L_row_steps_1 c_list_steps c_pick_steps c_plain_steps c_row_steps)
noncomputable def U_row_steps (c_list_steps : List D → Sto → R D) (c_pick_steps : List D → Sto → R D) (c_plain_steps : List D → Sto → R D) (c_row_steps : List D → Sto → R D) : List D → Sto → R D := runG 7 (
    sSeq (sSet 3 (eNw (fLst (aNil))))
    (sSeq (sFor (iEnumX (aCons (eV 1) (aNil))) (.tp [.nm 4, .nm 5]) (L_row_steps_0 c_list_steps c_pick_steps c_plain_steps c_row_steps))
    (sFrz 3 (sRet (eV 3)))))
mutual
noncomputable def S_list_steps : Nat → List D → Sto → R D
  | 0 => fun _ _ => .stk
  | n + 1 => U_list_steps (S_list_steps n) (S_pick_steps n) (S_plain_steps n) (S_row_steps n)
noncomputable def S_pick_steps : Nat → List D → Sto → R D
  | 0 => fun _ _ => .stk
  | n + 1 => U_pick_steps (S_list_steps n) (S_pick_steps n) (S_plain_steps n) (S_row_steps n)
noncomputable def S_plain_steps : Nat → List D → Sto → R D
  | 0 => fun _ _ => .stk
  | n + 1 => U_plain_steps (S_list_steps n) (S_pick_steps n) (S_plain_steps n) (S_row_steps n)
noncomputable def S_row_steps : Nat → List D → Sto → R D
  | 0 => fun _ _ => .stk
  | n + 1 => U_row_steps (S_list_steps n) (S_pick_steps n) (S_plain_steps n) (S_row_steps n)
end
noncomputable def S_steps_of : List D → Sto → R D := runG 4 (
    sSeq (sIf (tNt (tV (eCall (S_fits 20) (aCons (eV 0) (aCons (eV 1) (aCons (eV 2) (aNil))))))) (sStk) (sNx))
    (sRet (eFz (fLc (iSeq (eFrz (eCall (S_plain_steps 20) (aCons (eV 0) (aCons (eV 1) (aCons (eV 2) (aNil))))))) [3] (.nm 3) (tTrue) (eCall (S_own_copy 20) (aCons (eV 3) (aNil)))))))
noncomputable def L_law_1 : S := sDrop (eApp (eV 10) (eFn gTuple (aCons (eBin gAdd (eBin gAdd (eSl (eV 9) (oNone) (oSome (eV 11))) (eFz (fLst (aCons (eV 12) (aNil))))) (eSl (eV 9) (oSome (eBin gAdd (eV 11) (eC (.int 1)))) (oNone))) (aNil))))
noncomputable def L_law_0 : S := sFor (iSeq (eFrz (eCall S_l_inner (aCons (eBin gIx (eV 8) (eV 11)) (aCons (eBin gIx (eV 9) (eV 11)) (aNil)))))) (.nm 12) (L_law_1)
noncomputable def S_law : List D → Sto → R D := runG 19 (
    sSeq (sSet 1 (eFz (fLst (aCons (eTup (aCons (eC (.str (Str.ofString "some"))) (aCons (eTup (aCons (eC (.str (Str.ofString "row"))) (aCons (eTup (aNil)) (aNil)))) (aNil)))) (aNil)))))
    (sSeq (sSet 2 (eCall S_l_signs (aCons (eCall S_l_cell_at (aCons (eV 0) (aCons (eC (.int 0)) (aNil)))) (aCons (eBin gAdd (eC (.int 1)) (eBin gMod (eCall S_l_cell_at (aCons (eV 0) (aCons (eC (.int 1)) (aNil)))) (eC (.int 62)))) (aNil)))))
    (sSeq (sSet 3 (eBin gMod (eCall S_l_cell_at (aCons (eV 0) (aCons (eC (.int 2)) (aNil)))) (eC (.int 17))))
    (sSeq (sSet 4 (eCall S_l_cell_at (aCons (eV 0) (aCons (eC (.int 3)) (aNil)))))
    (sSeq (sSet 5 (eM1 gJoin (eC (.str (Str.ofString ""))) (eFz (fLc (iRange1 (aCons (eV 3) (aNil))) [11] (.nm 11) (tTrue) (eBin gIx (eV 2) (eBin gMod (eBin gMod (eBin gMul (eV 4) (eBin gAdd (eBin gMul (eV 11) (eV 11)) (eC (.int 1)))) (eC (.int 1009))) (eFn gLen (aCons (eV 2) (aNil)))))))))
    (sSeq (sSet 6 (eCall S_steps_of (aCons (eV 1) (aCons (eTup (aCons (eC (.str (Str.ofString "text"))) (aCons (eV 2) (aNil)))) (aCons (eV 5) (aNil))))))
    (sSeq (sIf (tOrr (tNt (tV (eUn (gIsi "list") (eV 6)))) (tV (eBin gNe (eV 6) (eFz (fLc (iRange1 (aCons (eV 3) (aNil))) [11] (.nm 11) (tTrue) (eBin gAdd (eSl (eV 5) (oNone) (oSome (eV 11))) (eSl (eV 5) (oSome (eBin gAdd (eV 11) (eC (.int 1)))) (oNone)))))))) (sRet (eC (.bl false))) (sNx))
    (sSeq (sSet 7 (eBin gAdd (eSl (eV 0) (oSome (eC (.int 4))) (oSome (eC (.int 12)))) (eFz (fLc (iRange1 (aCons (eC (.int 8)) (aNil))) [11] (.nm 11) (tTrue) (eBin gMod (eBin gMul (eBin gAdd (eV 4) (eBin gMul (eBin gMul (eC (.int 6421)) (eV 11)) (eV 11))) (eC (.int 48271))) (eC (.int 2147483647)))))))
    (sSeq (sSet 7 (eSl (eV 7) (oNone) (oSome (eFn gMax2 (aCons (eFn gLen (aCons (eSl (eV 0) (oSome (eC (.int 4))) (oSome (eC (.int 12)))) (aNil))) (aCons (eBin gMod (eV 4) (eC (.int 9))) (aNil)))))))
    (sSeq (sSet 8 (eFz (fLc (iSeq (eV 7)) [16] (.nm 16) (tTrue) (eCall S_l_part (aCons (eV 16) (aNil))))))
    (sSeq (sSet 9 (eFz (fLc (iZipD (aCons (eV 8) (aCons (eV 7) (aNil)))) [17, 16] (.tp [.nm 17, .nm 16]) (tTrue) (eCall S_l_thing (aCons (eV 17) (aCons (eBin gDiv (eV 16) (eC (.int 5))) (aNil)))))))
    (sSeq (sSet 10 (eNw (fLst (aNil))))
    (sSeq (sFor (iRange1 (aCons (eFn gLen (aCons (eV 8) (aNil))) (aNil))) (.nm 11) (L_law_0))
    (sSeq (sSet 13 (eTup (aCons (eC (.str (Str.ofString "row"))) (aCons (eFn gTuple (aCons (eV 8) (aNil))) (aNil)))))
    (sSeq (sIf (tNt (tV (eCallB S_l_alike (aCons (eCall S_steps_of (aCons (eV 1) (aCons (eV 13) (aCons (eFn gTuple (aCons (eV 9) (aNil))) (aNil))))) (aCons (eV 8) (aCons (eV 10) (aNil))))))) (sRet (eC (.bl false))) (sNx))
    (sSeq (sSet 14 (eFn gTuple (aCons (eSl (eV 9) (oNone) (oSome (eC (.int 4)))) (aNil))))
    (sSeq (sSet 15 (eSl (eV 5) (oNone) (oSome (eC (.int 8)))))
    (sSeq (sFrz 10 (sSet 10 (eNw (fLc (iSeq (eSl (eV 10) (oNone) (oSome (eCall S_l_count (aCons (eSl (eV 8) (oNone) (oSome (eC (.int 4)))) (aCons (eSl (eV 9) (oNone) (oSome (eC (.int 4)))) (aNil))))))) [18] (.nm 18) (tTrue) (eTup (aCons (eSl (eV 18) (oNone) (oSome (eC (.int 4)))) (aCons (eV 15) (aNil))))))))
    (sSeq (sFrz 10 (sSet 10 (eBin gAdd (eV 10) (eFz (fLc (iRange1 (aCons (eFn gLen (aCons (eV 15) (aNil))) (aNil))) [11] (.nm 11) (tTrue) (eTup (aCons (eV 14) (aCons (eBin gAdd (eSl (eV 15) (oNone) (oSome (eV 11))) (eSl (eV 15) (oSome (eBin gAdd (eV 11) (eC (.int 1)))) (oNone))) (aNil)))))))))
    (sSeq (sSet 6 (eCall S_steps_of (aCons (eV 1) (aCons (eTup (aCons (eC (.str (Str.ofString "row"))) (aCons (eTup (aCons (eTup (aCons (eC (.str (Str.ofString "row"))) (aCons (eFn gTuple (aCons (eSl (eV 8) (oNone) (oSome (eC (.int 4)))) (aNil))) (aNil)))) (aCons (eTup (aCons (eC (.str (Str.ofString "text"))) (aCons (eV 2) (aNil)))) (aNil)))) (aNil)))) (aCons (eTup (aCons (eV 14) (aCons (eV 15) (aNil)))) (aNil))))))
    (sRet (eAn (eUn (gIsi "list") (eV 6)) (eBin gEq (eV 6) (eV 10))))))))))))))))))))))))
/-! they keep it -/
section
variable {P : Program} {w : World} {K : PySem.W.Frag} {mg : Str → Option Value} {base : Heap} {ct : String → Addr}
set_option maxHeartbeats 4000000 in
theorem ok_l_alike {a : Addr} {fd : FuncData} (F : L2.Fun K "_law_alike" "_law_alike" s_l_alike a fd) (Z_bool : mg "bool" = none) (Z_isinstance : mg "isinstance" = none) (Z_len : mg "len" = none) (Z_list : mg "list" = none) (Z_str : mg "str" = none) (Z_tuple : mg "tuple" = none) (Z_zip : mg "zip" = none) :
    FnOk P w K mg base (L2.CX P w) 1 a fd P_l_alike (spG K ct 3 S_l_alike) := by
  refine fn_ok (N := N_l_alike) (ct := ct) F sc_l_alike (by decide) (fun cdv A outer s H v E hr => ?_)
  have nd := sc_l_alike.nd
  exact ss_cons (ss_if (PW.pt (sw_or (st_not (st_val (se_isi (n := "list") (se_var 0) rfl Z_isinstance rfl Z_list (by decide +kernel)))) (sw_or1 (st_cmp (o_ne (hu_big hr)) (se_callB (b_len) rfl Z_len (by decide +kernel) (sa_cons (se_var 0) (sa_nil))) (se_callB (b_len) rfl Z_len (by decide +kernel) (sa_cons (se_var 2) (sa_nil))))))) (ss_one (ss_ret (se_bl))) (ss_nil))
    (ss_cons (ss_for (passes_of rfl) rfl (si_zip rfl Z_zip (sa_cons (se_var 0) (sa_cons (se_var 2) (sa_nil)))) (sg_tup rfl (sgs_cons (sg_name 3 nd) (sgs_cons (sg_name 4 nd) (sgs_nil)))) (ss_cons (ss_if (PW.pt (sw_or (st_not (st_val (se_isi (n := "tuple") (se_var 3) rfl Z_isinstance rfl Z_tuple (by decide +kernel)))) (sw_or (st_cmp (o_ne (hu_big hr)) (se_callB (b_len) rfl Z_len (by decide +kernel) (sa_cons (se_var 3) (sa_nil))) (se_callB (b_len) rfl Z_len (by decide +kernel) (sa_cons (se_var 1) (sa_nil)))) (sw_or1 (st_cmp (o_ne (hu_big hr)) (se_var 3) (se_var 4)))))) (ss_one (ss_ret (se_bl))) (ss_nil))
    (ss_one (ss_for (passes_of rfl) rfl (si_zipM rfl Z_zip (sa_cons (se_var 1) (sa_cons (se_var 3) (sa_nil)))) (sg_tup rfl (sgs_cons (sg_name 5 nd) (sgs_cons (sg_name 6 nd) (sgs_nil)))) (ss_one (ss_if (PW.pt (sw_or (st_val (se_isi (n := "bool") (se_var 6) rfl Z_isinstance rfl Z_bool (by decide +kernel))) (sw_or1 (st_cmp (o_ne (hu_big hr)) (se_isi (n := "str") (se_var 6) rfl Z_isinstance rfl Z_str (by decide +kernel)) (se_cmp (o_eq (hu_big hr)) (se_ix (se_var 5) (se_int)) (se_str)))))) (ss_one (ss_ret (se_bl))) (ss_nil)))))))
    (ss_one (ss_ret (se_bl))))
set_option maxHeartbeats 4000000 in
theorem ok_l_cell_at {a : Addr} {fd : FuncData} (F : L2.Fun K "_law_cell_at" "_law_cell_at" s_l_cell_at a fd) (Z_len : mg "len" = none) :
    FnOk P w K mg base (L2.CX P w) 1 a fd P_l_cell_at (spG K ct 2 S_l_cell_at) := by
  refine fn_ok (N := N_l_cell_at) (ct := ct) F sc_l_cell_at (by decide) (fun cdv A outer s H v E hr => ?_)
  have nd := sc_l_cell_at.nd
  exact ss_cons (ss_if (st_cmp o_lt (se_var 1) (se_callB (b_len) rfl Z_len (by decide +kernel) (sa_cons (se_var 0) (sa_nil)))) (ss_one (ss_ret (se_ix (se_var 0) (se_var 1)))) (ss_nil))
    (ss_one (ss_ret (se_int)))
set_option maxHeartbeats 4000000 in
theorem ok_l_inner {a : Addr} {fd : FuncData} (F : L2.Fun K "_law_inner" "_law_inner" s_l_inner a fd) (Z_len : mg "len" = none) (Z_range : mg "range" = none) :
    FnOk P w K mg base (L2.CX P w) 1 a fd P_l_inner (spG K ct 2 S_l_inner) := by
  refine fn_ok (N := N_l_inner) (ct := ct) F sc_l_inner (by decide) (fun cdv A outer s H v E hr => ?_)
  have nd := sc_l_inner.nd
  exact ss_cons (ss_if (st_cmp (o_eq (hu_big hr)) (se_ix (se_var 0) (se_int)) (se_str)) (ss_cons (ss_set 2 (se_bin o_sub (se_var 1) (se_ix (se_var 0) (se_int))) nd)
    (ss_one (ss_ret (SF.fz (sf_lc [("_law_less", 3)] rfl nd (si_seq (SF.fz (sf_lst (sa_cons (se_int) (sa_cons (se_int) (sa_nil)))))) (blkOk_by (by change blkC N_l_inner (defScope s_l_inner) _ _ = true; decide +kernel)) (by decide) (fun _ _ _ _ _ => sg_name 3 nd) (fun _ _ _ _ _ => sts_one (PW.pt (sw_and (st_cmp o_le (se_var 3) (se_bin o_div (se_var 2) (se_int))) (sw_and1 (st_cmp o_gt (se_var 2) (se_int)))))) (fun _ _ _ _ _ => se_bin o_add (se_ix (se_var 0) (se_int)) (se_var 3))))))) (ss_nil))
    (ss_one (ss_ret (SF.fz (sf_lc [("_law_k", 4)] rfl nd (si_range1 rfl Z_range (sa_cons (se_callB (b_len) rfl Z_len (by decide +kernel) (sa_cons (se_var 1) (sa_nil))) (sa_nil))) (blkOk_by (by change blkC N_l_inner (defScope s_l_inner) _ _ = true; decide +kernel)) (by decide) (fun _ _ _ _ _ => sg_name 4 nd) (fun _ _ _ _ _ => sts_nil) (fun _ _ _ _ _ => se_bin o_add (se_sl (se_var 1) (so_none) (so_some (se_var 4))) (se_sl (se_var 1) (so_some (se_bin o_add (se_var 4) (se_int))) (so_none)))))))
set_option maxHeartbeats 4000000 in
theorem ok_l_count {a : Addr} {fd : FuncData} (F : L2.Fun K "_law_count" "_law_count" s_l_count a fd) {a_l_inner : Addr} {f_l_inner : FuncData} (G_l_inner : FnOk P w K mg base (L2.CX P w) 1 a_l_inner f_l_inner P_l_inner (spG K ct 2 S_l_inner)) (M_l_inner : mg "_law_inner" = some (.ref a_l_inner)) (K_l_inner : PySem.W.keepIn K (.ref a_l_inner) = true) (B_l_inner : Binds K f_l_inner P_l_inner []) (Z_len : mg "len" = none) (Z_sum : mg "sum" = none) (Z_zip : mg "zip" = none) :
    FnOk P w K mg base (L2.CX P w) 2 a fd P_l_count (spG K ct 2 S_l_count) := by
  refine fn_ok (N := N_l_count) (ct := ct) F sc_l_count (by decide) (fun cdv A outer s H v E hr => ?_)
  have nd := sc_l_count.nd
  exact ss_one (ss_ret (se_callB (b_sum rfl) rfl Z_sum (by decide +kernel) (sa_cons (SF.fz (sf_lc [("_law_part_here", 2), ("_law_thing_here", 3)] rfl nd (si_zip rfl Z_zip (sa_cons (se_var 0) (sa_cons (se_var 1) (sa_nil)))) (blkOk_by (by change blkC N_l_count (defScope s_l_count) _ _ = true; decide +kernel)) (by decide) (fun _ _ _ _ _ => sg_tup rfl (sgs_cons (sg_name 2 nd) (sgs_cons (sg_name 3 nd) (sgs_nil)))) (fun _ _ _ _ _ => sts_nil) (fun _ _ _ _ _ => se_callB (b_len) rfl Z_len (by decide +kernel) (sa_cons (se_call G_l_inner (hr.mono (by decide)) takes0 rfl M_l_inner K_l_inner B_l_inner (sa_cons (se_var 2) (sa_cons (se_var 3) (sa_nil))) (lenA_cons (lenA_cons (lenA_nil)))) (sa_nil))))) (sa_nil))))
set_option maxHeartbeats 4000000 in
theorem ok_l_signs {a : Addr} {fd : FuncData} (F : L2.Fun K "_law_signs" "_law_signs" s_l_signs a fd) (Z_range : mg "range" = none) :
    FnOk P w K mg base (L2.CX P w) 1 a fd P_l_signs (spG K ct 2 S_l_signs) := by
  refine fn_ok (N := N_l_signs) (ct := ct) F sc_l_signs (by decide) (fun cdv A outer s H v E hr => ?_)
  have nd := sc_l_signs.nd
  exact ss_cons (ss_set 2 (se_str) nd)
    (ss_one (ss_ret (se_m1 PySem.F.slot_str_join PySem.F.type_str_join m_join (se_str) (SF.fz (sf_lc [("_law_k", 3)] rfl nd (si_range1 rfl Z_range (sa_cons (se_var 1) (sa_nil))) (blkOk_by (by change blkC N_l_signs (defScope s_l_signs) _ _ = true; decide +kernel)) (by decide) (fun _ _ _ _ _ => sg_name 3 nd) (fun _ _ _ _ _ => sts_nil) (fun _ _ _ _ _ => se_ix (se_var 2) (se_bin o_mod (se_bin o_add (se_var 0) (se_bin o_mul (se_int) (se_var 3))) (se_int))))))))
set_option maxHeartbeats 4000000 in
theorem ok_l_part {a : Addr} {fd : FuncData} (F : L2.Fun K "_law_part" "_law_part" s_l_part a fd) {a_l_signs : Addr} {f_l_signs : FuncData} (G_l_signs : FnOk P w K mg base (L2.CX P w) 1 a_l_signs f_l_signs P_l_signs (spG K ct 2 S_l_signs)) (M_l_signs : mg "_law_signs" = some (.ref a_l_signs)) (K_l_signs : PySem.W.keepIn K (.ref a_l_signs) = true) (B_l_signs : Binds K f_l_signs P_l_signs []) :
    FnOk P w K mg base (L2.CX P w) 2 a fd P_l_part (spG K ct 1 S_l_part) := by
  refine fn_ok (N := N_l_part) (ct := ct) F sc_l_part (by decide) (fun cdv A outer s H v E hr => ?_)
  have nd := sc_l_part.nd
  exact ss_cons (ss_if (st_cmp (o_eq (hu_big hr)) (se_bin o_mod (se_var 0) (se_int)) (se_int)) (ss_cons (ss_set 1 (se_bin o_sub (se_bin o_mod (se_bin o_div (se_var 0) (se_int)) (se_bin o_pow (se_int) (se_int))) (se_bin o_mul (se_int) (se_bin o_pow (se_int) (se_int)))) nd)
    (ss_one (ss_ret (se_tup (sa_cons (se_str) (sa_cons (se_var 1) (sa_cons (se_bin o_add (se_var 1) (se_int)) (sa_nil)))))))) (ss_nil))
    (ss_one (ss_ret (se_tup (sa_cons (se_str) (sa_cons (se_call G_l_signs (hr.mono (by decide)) (takes_of rfl rfl rfl rfl) rfl M_l_signs K_l_signs B_l_signs (sa_cons (se_bin o_div (se_var 0) (se_int)) (sa_cons (se_bin o_add (se_int) (se_bin o_mod (se_bin o_div (se_var 0) (se_int)) (se_int))) (sa_nil))) (lenA_cons (lenA_cons (lenA_nil)))) (sa_nil))))))
set_option maxHeartbeats 4000000 in
theorem ok_l_thing {a : Addr} {fd : FuncData} (F : L2.Fun K "_law_thing" "_law_thing" s_l_thing a fd) (Z_len : mg "len" = none) (Z_range : mg "range" = none) :
    FnOk P w K mg base (L2.CX P w) 1 a fd P_l_thing (spG K ct 2 S_l_thing) := by
  refine fn_ok (N := N_l_thing) (ct := ct) F sc_l_thing (by decide) (fun cdv A outer s H v E hr => ?_)
  have nd := sc_l_thing.nd
  exact ss_cons (ss_if (st_cmp (o_eq (hu_big hr)) (se_ix (se_var 0) (se_int)) (se_str)) (ss_one (ss_ret (se_bin o_add (se_ix (se_var 0) (se_int)) (se_bin o_mod (se_bin o_mod (se_bin o_mul (se_var 1) (se_int)) (se_int)) (se_int))))) (ss_nil))
    (ss_cons (ss_set 2 (se_bin o_mod (se_bin o_mod (se_bin o_mul (se_var 1) (se_int)) (se_int)) (se_int)) nd)
    (ss_one (ss_ret (se_m1 PySem.F.slot_str_join PySem.F.type_str_join m_join (se_str) (SF.fz (sf_lc [("_law_k", 3)] rfl nd (si_range1 rfl Z_range (sa_cons (se_var 2) (sa_nil))) (blkOk_by (by change blkC N_l_thing (defScope s_l_thing) _ _ = true; decide +kernel)) (by decide) (fun _ _ _ _ _ => sg_name 3 nd) (fun _ _ _ _ _ => sts_nil) (fun _ _ _ _ _ => se_ix (se_ix (se_var 0) (se_int)) (se_bin o_mod (se_bin o_add (se_bin o_div (se_var 1) (se_int)) (se_bin o_mul (se_int) (se_var 3))) (se_callB (b_len) rfl Z_len (by decide +kernel) (sa_cons (se_ix (se_var 0) (se_int)) (sa_nil)))))))))))
set_option maxHeartbeats 4000000 in
theorem ok_place_of {a : Addr} {fd : FuncData} (F : L2.Fun K "place_of" "place_of" s_place_of a fd) (Z_enumerate : mg "enumerate" = none) :
    FnOk P w K mg base (L2.CX P w) 1 a fd P_place_of (spG K ct 2 S_place_of) := by
  refine fn_ok (N := N_place_of) (ct := ct) F sc_place_of (by decide) (fun cdv A outer s H v E hr => ?_)
  have nd := sc_place_of.nd
  exact ss_cons (ss_for (passes_of rfl) rfl (si_enumX rfl Z_enumerate (sa_cons (se_var 0) (sa_nil))) (sg_tup rfl (sgs_cons (sg_name 2 nd) (sgs_cons (sg_name 3 nd) (sgs_nil)))) (ss_one (ss_if (st_cmp (o_eq (hu_big hr)) (se_ix (se_var 3) (se_int)) (se_var 1)) (ss_one (ss_ret (se_var 2))) (ss_nil))))
    (ss_one (ss_ret (se_un o_neg (se_int))))
set_option maxHeartbeats 4000000 in
theorem ok_all_alike {a : Addr} {fd : FuncData} (F : L2.Fun K "all_alike" "all_alike" s_all_alike a fd) (Z_all : mg "all" = none) (Z_len : mg "len" = none) :
    FnOk P w K mg base (L2.CX P w) 1 a fd P_all_alike (spG K ct 2 S_all_alike) := by
  refine fn_ok (N := N_all_alike) (ct := ct) F sc_all_alike (by decide) (fun cdv A outer s H v E hr => ?_)
  have nd := sc_all_alike.nd
  exact ss_one (ss_ret (se_and (se_cmp (o_eq (hu_big hr)) (se_callB (b_len) rfl Z_len (by decide +kernel) (sa_cons (se_var 1) (sa_nil))) (se_var 0)) (se_one (se_callB (b_all rfl) rfl Z_all (by decide +kernel) (sa_cons (SF.fz (sf_lc [("thing", 2)] rfl nd (si_seq (se_var 1)) (blkOk_by (by change blkC N_all_alike (defScope s_all_alike) _ _ = true; decide +kernel)) (by decide) (fun _ _ _ _ _ => sg_name 2 nd) (fun _ _ _ _ _ => sts_nil) (fun _ _ _ _ _ => se_cmp (o_eq (hu_big hr)) (se_var 2) (se_ix (se_var 1) (se_int))))) (sa_nil))))))
set_option maxHeartbeats 4000000 in
theorem ok_shape_of {a : Addr} {fd : FuncData} (F : L2.Fun K "shape_of" "shape_of" s_shape_of a fd) (X_NoName : XC K mg ct "NoName") :
    FnOk P w K mg base (L2.CX P w) 1 a fd P_shape_of (spG K ct 2 S_shape_of) := by
  refine fn_ok (N := N_shape_of) (ct := ct) F sc_shape_of (by decide) (fun cdv A outer s H v E hr => ?_)
  have nd := sc_shape_of.nd
  exact ss_cons (ss_for (passes_of rfl) rfl (si_seq (se_var 0)) (sg_tup rfl (sgs_cons (sg_name 2 nd) (sgs_cons (sg_name 3 nd) (sgs_nil)))) (ss_one (ss_if (st_cmp (o_eq (hu_big hr)) (se_var 2) (se_var 1)) (ss_one (ss_ret (se_var 3))) (ss_nil))))
    (ss_one (ss_raise (cn := "NoName") rfl (takes_of rfl rfl rfl rfl) X_NoName rfl))
set_option maxHeartbeats 4000000 in
theorem ok_measured {a : Addr} {fd : FuncData} (F : L2.Fun K "measured" "measured" s_measured a fd) {k : Nat} (hk : 1 ≤ k) {c_measured : List D → Sto → R D} {a_measured : Addr} {f_measured : FuncData} (G_measured : FnOk P w K mg base (L2.CX P w) k a_measured f_measured P_measured (spG K ct 3 c_measured)) (M_measured : mg "measured" = some (.ref a_measured)) (K_measured : PySem.W.keepIn K (.ref a_measured) = true) (B_measured : Binds K f_measured P_measured []) {a_place_of : Addr} {f_place_of : FuncData} (G_place_of : FnOk P w K mg base (L2.CX P w) 1 a_place_of f_place_of P_place_of (spG K ct 2 S_place_of)) (M_place_of : mg "place_of" = some (.ref a_place_of)) (K_place_of : PySem.W.keepIn K (.ref a_place_of) = true) (B_place_of : Binds K f_place_of P_place_of []) {a_shape_of : Addr} {f_shape_of : FuncData} (G_shape_of : FnOk P w K mg base (L2.CX P w) 1 a_shape_of f_shape_of P_shape_of (spG K ct 2 S_shape_of)) (M_shape_of : mg "shape_of" = some (.ref a_shape_of)) (K_shape_of : PySem.W.keepIn K (.ref a_shape_of) = true) (B_shape_of : Binds K f_shape_of P_shape_of []) (Z_len : mg "len" = none) (Z_sum : mg "sum" = none) (Z_zip : mg "zip" = none) :
    FnOk P w K mg base (L2.CX P w) (k + 1) a fd P_measured (spG K ct 3 (U_measured c_measured)) := by
  refine fn_ok (N := N_measured) (ct := ct) F sc_measured (by decide) (fun cdv A outer s H v E hr => ?_)
  have nd := sc_measured.nd
  exact ss_cons (ss_if (st_cmp (o_eq (hu_big hr)) (se_ix (se_var 1) (se_int)) (se_str)) (ss_one (ss_ret (se_bits (se_bin o_sub (se_var 2) (se_ix (se_var 1) (se_int)))))) (ss_nil))
    (ss_cons (ss_if (st_cmp (o_eq (hu_big hr)) (se_ix (se_var 1) (se_int)) (se_str)) (ss_one (ss_ret (se_callB (b_len) rfl Z_len (by decide +kernel) (sa_cons (se_var 2) (sa_nil))))) (ss_nil))
    (ss_cons (ss_if (st_cmp (o_eq (hu_big hr)) (se_ix (se_var 1) (se_int)) (se_str)) (ss_one (ss_ret (se_callB (b_sum rfl) rfl Z_sum (by decide +kernel) (sa_cons (SF.fz (sf_lc [("part", 3), ("thing", 4)] rfl nd (si_zip rfl Z_zip (sa_cons (se_ix (se_var 1) (se_int)) (sa_cons (se_var 2) (sa_nil)))) (blkOk_by (by change blkC N_measured (defScope s_measured) _ _ = true; decide +kernel)) (by decide) (fun _ _ _ _ _ => sg_tup rfl (sgs_cons (sg_name 3 nd) (sgs_cons (sg_name 4 nd) (sgs_nil)))) (fun _ _ _ _ _ => sts_nil) (fun _ _ _ _ _ => se_call G_measured (hr) takes0 rfl M_measured K_measured B_measured (sa_cons (se_var 0) (sa_cons (se_var 3) (sa_cons (se_var 4) (sa_nil)))) (lenA_cons (lenA_cons (lenA_cons (lenA_nil))))))) (sa_nil))))) (ss_nil))
    (ss_cons (ss_if (st_cmp (o_eq (hu_big hr)) (se_ix (se_var 1) (se_int)) (se_str)) (ss_one (ss_ret (se_call G_measured (hr) (takes_of rfl rfl rfl rfl) rfl M_measured K_measured B_measured (sa_cons (se_var 0) (sa_cons (se_ix (se_ix (se_ix (se_var 1) (se_int)) (se_call G_place_of (hr.mono (Nat.le_trans (by decide) hk)) (takes_of rfl rfl rfl rfl) rfl M_place_of K_place_of B_place_of (sa_cons (se_ix (se_var 1) (se_int)) (sa_cons (se_ix (se_var 2) (se_int)) (sa_nil))) (lenA_cons (lenA_cons (lenA_nil))))) (se_int)) (sa_cons (se_ix (se_var 2) (se_int)) (sa_nil)))) (lenA_cons (lenA_cons (lenA_cons (lenA_nil))))))) (ss_nil))
    (ss_cons (ss_if (st_cmp (o_eq (hu_big hr)) (se_ix (se_var 1) (se_int)) (se_str)) (ss_one (ss_ret (se_bin o_add (se_int) (se_call G_measured (hr) (takes_of rfl rfl rfl rfl) rfl M_measured K_measured B_measured (sa_cons (se_var 0) (sa_cons (se_call G_shape_of (hr.mono (Nat.le_trans (by decide) hk)) (takes_of rfl rfl rfl rfl) rfl M_shape_of K_shape_of B_shape_of (sa_cons (se_var 0) (sa_cons (se_ix (se_var 1) (se_int)) (sa_nil))) (lenA_cons (lenA_cons (lenA_nil)))) (sa_cons (se_var 2) (sa_nil)))) (lenA_cons (lenA_cons (lenA_cons (lenA_nil)))))))) (ss_nil))
    (ss_one (ss_ret (se_callB (b_sum rfl) rfl Z_sum (by decide +kernel) (sa_cons (SF.fz (sf_lc [("thing", 4)] rfl nd (si_seq (se_var 2)) (blkOk_by (by change blkC N_measured (defScope s_measured) _ _ = true; decide +kernel)) (by decide) (fun _ _ _ _ _ => sg_name 4 nd) (fun _ _ _ _ _ => sts_nil) (fun _ _ _ _ _ => se_bin o_add (se_int) (se_call G_measured (hr) takes0 rfl M_measured K_measured B_measured (sa_cons (se_var 0) (sa_cons (se_ix (se_var 1) (se_int)) (sa_cons (se_var 4) (sa_nil)))) (lenA_cons (lenA_cons (lenA_cons (lenA_nil)))))))) (sa_nil)))))))))
set_option maxHeartbeats 4000000 in
theorem ok_heaps {a : Addr} {fd : FuncData} (F : L2.Fun K "heaps" "heaps" s_heaps a fd) :
    FnOk P w K mg base (L2.CX P w) 1 a fd P_heaps (spG K ct 3 S_heaps) := by
  refine fn_ok (N := N_heaps) (ct := ct) F sc_heaps (by decide) (fun cdv A outer s H v E hr => ?_)
  have nd := sc_heaps.nd
  exact ss_cons (ss_never)
    (ss_cons (ss_for (passes_of rfl) rfl (si_seq (se_var 2)) (sg_name 4 nd) (ss_one (ss_never)))
    (ss_one (ss_ret (se_var 3))))
set_option maxHeartbeats 4000000 in
theorem ok_order_of_heaps {a : Addr} {fd : FuncData} (F : L2.Fun K "order_of_heaps" "order_of_heaps" s_order_of_heaps a fd) {a_heaps : Addr} {f_heaps : FuncData} (G_heaps : FnOk P w K mg base (L2.CX P w) 1 a_heaps f_heaps P_heaps (spG K ct 3 S_heaps)) (M_heaps : mg "heaps" = some (.ref a_heaps)) (K_heaps : PySem.W.keepIn K (.ref a_heaps) = true) (B_heaps : Binds K f_heaps P_heaps []) :
    FnOk P w K mg base (L2.CX P w) 2 a fd P_order_of_heaps (spG K ct 4 S_order_of_heaps) := by
  refine fn_ok (N := N_order_of_heaps) (ct := ct) F sc_order_of_heaps (by decide) (fun cdv A outer s H v E hr => ?_)
  have nd := sc_order_of_heaps.nd
  exact ss_cons (ss_set 4 (se_call G_heaps (hr.mono (by decide)) (takes_of rfl rfl rfl rfl) rfl M_heaps K_heaps B_heaps (sa_cons (se_var 0) (sa_cons (se_var 1) (sa_cons (se_var 2) (sa_nil)))) (lenA_cons (lenA_cons (lenA_cons (lenA_nil))))) nd)
    (ss_cons (ss_set 5 (se_call G_heaps (hr.mono (by decide)) (takes_of rfl rfl rfl rfl) rfl M_heaps K_heaps B_heaps (sa_cons (se_var 0) (sa_cons (se_var 1) (sa_cons (se_var 3) (sa_nil)))) (lenA_cons (lenA_cons (lenA_cons (lenA_nil))))) nd)
    (ss_cons (ss_never)
    (ss_one (ss_ret (se_int)))))
set_option maxHeartbeats 4000000 in
theorem ok_sign_of {a : Addr} {fd : FuncData} (F : L2.Fun K "sign_of" "sign_of" s_sign_of a fd) (Z_int : mg "int" = none) :
    FnOk P w K mg base (L2.CX P w) 1 a fd P_sign_of (spG K ct 1 S_sign_of) := by
  refine fn_ok (N := N_sign_of) (ct := ct) F sc_sign_of (by decide) (fun cdv A outer s H v E hr => ?_)
  have nd := sc_sign_of.nd
  exact ss_one (ss_ret (se_bin o_sub (se_callT (b_int) rfl Z_int (by decide +kernel) (sa_cons (se_cmp o_gt (se_var 0) (se_int)) (sa_nil))) (se_callT (b_int) rfl Z_int (by decide +kernel) (sa_cons (se_cmp o_lt (se_var 0) (se_int)) (sa_nil)))))
set_option maxHeartbeats 4000000 in
theorem ok_order_of_texts {a : Addr} {fd : FuncData} (F : L2.Fun K "order_of_texts" "order_of_texts" s_order_of_texts a fd) {a_sign_of : Addr} {f_sign_of : FuncData} (G_sign_of : FnOk P w K mg base (L2.CX P w) 1 a_sign_of f_sign_of P_sign_of (spG K ct 1 S_sign_of)) (M_sign_of : mg "sign_of" = some (.ref a_sign_of)) (K_sign_of : PySem.W.keepIn K (.ref a_sign_of) = true) (B_sign_of : Binds K f_sign_of P_sign_of []) (Z_zip : mg "zip" = none) :
    FnOk P w K mg base (L2.CX P w) 2 a fd P_order_of_texts (spG K ct 3 S_order_of_texts) := by
  refine fn_ok (N := N_order_of_texts) (ct := ct) F sc_order_of_texts (by decide) (fun cdv A outer s H v E hr => ?_)
  have nd := sc_order_of_texts.nd
  exact ss_cons (ss_for (passes_of rfl) rfl (si_zip rfl Z_zip (sa_cons (se_var 1) (sa_cons (se_var 2) (sa_nil)))) (sg_tup rfl (sgs_cons (sg_name 3 nd) (sgs_cons (sg_name 4 nd) (sgs_nil)))) (ss_one (ss_if (st_cmp (o_ne (hu_big hr)) (se_var 3) (se_var 4)) (ss_one (ss_ret (se_call G_sign_of (hr.mono (by decide)) (takes_of rfl rfl rfl rfl) rfl M_sign_of K_sign_of B_sign_of (sa_cons (se_bin o_sub (se_m1 PySem.F.slot_str_find PySem.F.type_str_find m_find (se_var 0) (se_var 3)) (se_m1 PySem.F.slot_str_find PySem.F.type_str_find m_find (se_var 0) (se_var 4))) (sa_nil)) (lenA_cons (lenA_nil))))) (ss_nil))))
    (ss_one (ss_ret (se_int)))
set_option maxHeartbeats 4000000 in
theorem ok_order {a : Addr} {fd : FuncData} (F : L2.Fun K "order" "order" s_order a fd) {k : Nat} (hk : 21 ≤ k) {c_order : List D → Sto → R D} {c_order_of_picks : List D → Sto → R D} {c_order_of_rows : List D → Sto → R D} {a_measured : Addr} {f_measured : FuncData} (G_measured : FnOk P w K mg base (L2.CX P w) 21 a_measured f_measured P_measured (spG K ct 3 (S_measured 20))) (M_measured : mg "measured" = some (.ref a_measured)) (K_measured : PySem.W.keepIn K (.ref a_measured) = true) (B_measured : Binds K f_measured P_measured []) {a_order : Addr} {f_order : FuncData} (G_order : FnOk P w K mg base (L2.CX P w) k a_order f_order P_order (spG K ct 4 c_order)) (M_order : mg "order" = some (.ref a_order)) (K_order : PySem.W.keepIn K (.ref a_order) = true) (B_order : Binds K f_order P_order []) {a_order_of_heaps : Addr} {f_order_of_heaps : FuncData} (G_order_of_heaps : FnOk P w K mg base (L2.CX P w) 2 a_order_of_heaps f_order_of_heaps P_order_of_heaps (spG K ct 4 S_order_of_heaps)) (M_order_of_heaps : mg "order_of_heaps" = some (.ref a_order_of_heaps)) (K_order_of_heaps : PySem.W.keepIn K (.ref a_order_of_heaps) = true) (B_order_of_heaps : Binds K f_order_of_heaps P_order_of_heaps []) {a_order_of_picks : Addr} {f_order_of_picks : FuncData} (G_order_of_picks : FnOk P w K mg base (L2.CX P w) k a_order_of_picks f_order_of_picks P_order_of_picks (spG K ct 4 c_order_of_picks)) (M_order_of_picks : mg "order_of_picks" = some (.ref a_order_of_picks)) (K_order_of_picks : PySem.W.keepIn K (.ref a_order_of_picks) = true) (B_order_of_picks : Binds K f_order_of_picks P_order_of_picks []) {a_order_of_rows : Addr} {f_order_of_rows : FuncData} (G_order_of_rows : FnOk P w K mg base (L2.CX P w) k a_order_of_rows f_order_of_rows P_order_of_rows (spG K ct 4 c_order_of_rows)) (M_order_of_rows : mg "order_of_rows" = some (.ref a_order_of_rows)) (K_order_of_rows : PySem.W.keepIn K (.ref a_order_of_rows) = true) (B_order_of_rows : Binds K f_order_of_rows P_order_of_rows []) {a_order_of_texts : Addr} {f_order_of_texts : FuncData} (G_order_of_texts : FnOk P w K mg base (L2.CX P w) 2 a_order_of_texts f_order_of_texts P_order_of_texts (spG K ct 3 S_order_of_texts)) (M_order_of_texts : mg "order_of_texts" = some (.ref a_order_of_texts)) (K_order_of_texts : PySem.W.keepIn K (.ref a_order_of_texts) = true) (B_order_of_texts : Binds K f_order_of_texts P_order_of_texts []) {a_shape_of : Addr} {f_shape_of : FuncData} (G_shape_of : FnOk P w K mg base (L2.CX P w) 1 a_shape_of f_shape_of P_shape_of (spG K ct 2 S_shape_of)) (M_shape_of : mg "shape_of" = some (.ref a_shape_of)) (K_shape_of : PySem.W.keepIn K (.ref a_shape_of) = true) (B_shape_of : Binds K f_shape_of P_shape_of []) {a_sign_of : Addr} {f_sign_of : FuncData} (G_sign_of : FnOk P w K mg base (L2.CX P w) 1 a_sign_of f_sign_of P_sign_of (spG K ct 1 S_sign_of)) (M_sign_of : mg "sign_of" = some (.ref a_sign_of)) (K_sign_of : PySem.W.keepIn K (.ref a_sign_of) = true) (B_sign_of : Binds K f_sign_of P_sign_of []) :
    FnOk P w K mg base (L2.CX P w) (k + 1) a fd P_order (spG K ct 4 (U_order c_order c_order_of_picks c_order_of_rows)) := by
  refine fn_ok (N := N_order) (ct := ct) F sc_order (by decide) (fun cdv A outer s H v E hr => ?_)
  have nd := sc_order.nd
  exact ss_cons (ss_set 4 (se_call G_measured (hr.mono (Nat.le_trans (by decide) hk)) (takes_of rfl rfl rfl rfl) rfl M_measured K_measured B_measured (sa_cons (se_var 0) (sa_cons (se_var 1) (sa_cons (se_var 2) (sa_nil)))) (lenA_cons (lenA_cons (lenA_cons (lenA_nil))))) nd)
    (ss_cons (ss_set 5 (se_call G_measured (hr.mono (Nat.le_trans (by decide) hk)) (takes_of rfl rfl rfl rfl) rfl M_measured K_measured B_measured (sa_cons (se_var 0) (sa_cons (se_var 1) (sa_cons (se_var 3) (sa_nil)))) (lenA_cons (lenA_cons (lenA_cons (lenA_nil))))) nd)
    (ss_cons (ss_if (st_cmp (o_ne (hu_big hr)) (se_var 4) (se_var 5)) (ss_one (ss_ret (se_call G_sign_of (hr.mono (Nat.le_trans (by decide) hk)) (takes_of rfl rfl rfl rfl) rfl M_sign_of K_sign_of B_sign_of (sa_cons (se_bin o_sub (se_var 4) (se_var 5)) (sa_nil)) (lenA_cons (lenA_nil))))) (ss_nil))
    (ss_cons (ss_if (st_cmp (o_eq (hu_big hr)) (se_ix (se_var 1) (se_int)) (se_str)) (ss_one (ss_ret (se_call G_sign_of (hr.mono (Nat.le_trans (by decide) hk)) (takes_of rfl rfl rfl rfl) rfl M_sign_of K_sign_of B_sign_of (sa_cons (se_bin o_sub (se_var 2) (se_var 3)) (sa_nil)) (lenA_cons (lenA_nil))))) (ss_nil))
    (ss_cons (ss_if (st_cmp (o_eq (hu_big hr)) (se_ix (se_var 1) (se_int)) (se_str)) (ss_one (ss_ret (se_call G_order_of_texts (hr.mono (Nat.le_trans (by decide) hk)) (takes_of rfl rfl rfl rfl) rfl M_order_of_texts K_order_of_texts B_order_of_texts (sa_cons (se_ix (se_var 1) (se_int)) (sa_cons (se_var 2) (sa_cons (se_var 3) (sa_nil)))) (lenA_cons (lenA_cons (lenA_cons (lenA_nil))))))) (ss_nil))
    (ss_cons (ss_if (st_cmp (o_eq (hu_big hr)) (se_ix (se_var 1) (se_int)) (se_str)) (ss_one (ss_ret (se_call G_order_of_rows (hr) (takes_of rfl rfl rfl rfl) rfl M_order_of_rows K_order_of_rows B_order_of_rows (sa_cons (se_var 0) (sa_cons (se_ix (se_var 1) (se_int)) (sa_cons (se_var 2) (sa_cons (se_var 3) (sa_nil))))) (lenA_cons (lenA_cons (lenA_cons (lenA_cons (lenA_nil)))))))) (ss_nil))
    (ss_cons (ss_if (st_cmp (o_eq (hu_big hr)) (se_ix (se_var 1) (se_int)) (se_str)) (ss_one (ss_ret (se_call G_order_of_picks (hr) (takes_of rfl rfl rfl rfl) rfl M_order_of_picks K_order_of_picks B_order_of_picks (sa_cons (se_var 0) (sa_cons (se_ix (se_var 1) (se_int)) (sa_cons (se_var 2) (sa_cons (se_var 3) (sa_nil))))) (lenA_cons (lenA_cons (lenA_cons (lenA_cons (lenA_nil)))))))) (ss_nil))
    (ss_cons (ss_if (st_cmp (o_eq (hu_big hr)) (se_ix (se_var 1) (se_int)) (se_str)) (ss_one (ss_ret (se_call G_order (hr) (takes_of rfl rfl rfl rfl) rfl M_order K_order B_order (sa_cons (se_var 0) (sa_cons (se_call G_shape_of (hr.mono (Nat.le_trans (by decide) hk)) (takes_of rfl rfl rfl rfl) rfl M_shape_of K_shape_of B_shape_of (sa_cons (se_var 0) (sa_cons (se_ix (se_var 1) (se_int)) (sa_nil))) (lenA_cons (lenA_cons (lenA_nil)))) (sa_cons (se_var 2) (sa_cons (se_var 3) (sa_nil))))) (lenA_cons (lenA_cons (lenA_cons (lenA_cons (lenA_nil)))))))) (ss_nil))
    (ss_cons (ss_if (PW.pt (sw_or (st_cmp (o_eq (hu_big hr)) (se_ix (se_var 1) (se_int)) (se_str)) (sw_or1 (st_cmp (o_eq (hu_big hr)) (se_ix (se_var 1) (se_int)) (se_str))))) (ss_one (ss_ret (se_call G_order_of_heaps (hr.mono (Nat.le_trans (by decide) hk)) (takes_of rfl rfl rfl rfl) rfl M_order_of_heaps K_order_of_heaps B_order_of_heaps (sa_cons (se_var 0) (sa_cons (se_ix (se_var 1) (se_int)) (sa_cons (se_var 2) (sa_cons (se_var 3) (sa_nil))))) (lenA_cons (lenA_cons (lenA_cons (lenA_cons (lenA_nil)))))))) (ss_nil))
    (ss_cons (ss_if (st_cmp (o_eq (hu_big hr)) (se_ix (se_var 1) (se_int)) (se_str)) (ss_one (ss_ret (se_call G_order (hr) (takes_of rfl rfl rfl rfl) rfl M_order K_order B_order (sa_cons (se_var 0) (sa_cons (se_ix (se_var 1) (se_int)) (sa_cons (se_ix (se_var 2) (se_int)) (sa_cons (se_ix (se_var 3) (se_int)) (sa_nil))))) (lenA_cons (lenA_cons (lenA_cons (lenA_cons (lenA_nil)))))))) (ss_nil))
    (ss_one (ss_ret (se_call G_order_of_rows (hr) (takes_of rfl rfl rfl rfl) rfl M_order_of_rows K_order_of_rows B_order_of_rows (sa_cons (se_var 0) (sa_cons (SF.fz (sf_lc [("thing", 6)] rfl nd (si_seq (se_var 2)) (blkOk_by (by change blkC N_order (defScope s_order) _ _ = true; decide +kernel)) (by decide) (fun _ _ _ _ _ => sg_name 6 nd) (fun _ _ _ _ _ => sts_nil) (fun _ _ _ _ _ => se_ix (se_var 1) (se_int)))) (sa_cons (se_var 2) (sa_cons (se_var 3) (sa_nil))))) (lenA_cons (lenA_cons (lenA_cons (lenA_cons (lenA_nil)))))))))))))))))
set_option maxHeartbeats 4000000 in
theorem ok_order_of_picks {a : Addr} {fd : FuncData} (F : L2.Fun K "order_of_picks" "order_of_picks" s_order_of_picks a fd) {k : Nat} (hk : 21 ≤ k) {c_order : List D → Sto → R D} {c_order_of_picks : List D → Sto → R D} {c_order_of_rows : List D → Sto → R D} {a_order : Addr} {f_order : FuncData} (G_order : FnOk P w K mg base (L2.CX P w) k a_order f_order P_order (spG K ct 4 c_order)) (M_order : mg "order" = some (.ref a_order)) (K_order : PySem.W.keepIn K (.ref a_order) = true) (B_order : Binds K f_order P_order []) {a_place_of : Addr} {f_place_of : FuncData} (G_place_of : FnOk P w K mg base (L2.CX P w) 1 a_place_of f_place_of P_place_of (spG K ct 2 S_place_of)) (M_place_of : mg "place_of" = some (.ref a_place_of)) (K_place_of : PySem.W.keepIn K (.ref a_place_of) = true) (B_place_of : Binds K f_place_of P_place_of []) {a_sign_of : Addr} {f_sign_of : FuncData} (G_sign_of : FnOk P w K mg base (L2.CX P w) 1 a_sign_of f_sign_of P_sign_of (spG K ct 1 S_sign_of)) (M_sign_of : mg "sign_of" = some (.ref a_sign_of)) (K_sign_of : PySem.W.keepIn K (.ref a_sign_of) = true) (B_sign_of : Binds K f_sign_of P_sign_of []) :
    FnOk P w K mg base (L2.CX P w) (k + 1) a fd P_order_of_picks (spG K ct 4 (U_order_of_picks c_order c_order_of_picks c_order_of_rows)) := by
  refine fn_ok (N := N_order_of_picks) (ct := ct) F sc_order_of_picks (by decide) (fun cdv A outer s H v E hr => ?_)
  have nd := sc_order_of_picks.nd
  exact ss_cons (ss_set 4 (se_call G_place_of (hr.mono (Nat.le_trans (by decide) hk)) (takes_of rfl rfl rfl rfl) rfl M_place_of K_place_of B_place_of (sa_cons (se_var 1) (sa_cons (se_ix (se_var 2) (se_int)) (sa_nil))) (lenA_cons (lenA_cons (lenA_nil)))) nd)
    (ss_cons (ss_set 5 (se_call G_place_of (hr.mono (Nat.le_trans (by decide) hk)) (takes_of rfl rfl rfl rfl) rfl M_place_of K_place_of B_place_of (sa_cons (se_var 1) (sa_cons (se_ix (se_var 3) (se_int)) (sa_nil))) (lenA_cons (lenA_cons (lenA_nil)))) nd)
    (ss_cons (ss_if (st_cmp (o_ne (hu_big hr)) (se_var 4) (se_var 5)) (ss_one (ss_ret (se_call G_sign_of (hr.mono (Nat.le_trans (by decide) hk)) (takes_of rfl rfl rfl rfl) rfl M_sign_of K_sign_of B_sign_of (sa_cons (se_bin o_sub (se_var 4) (se_var 5)) (sa_nil)) (lenA_cons (lenA_nil))))) (ss_nil))
    (ss_one (ss_ret (se_call G_order (hr) (takes_of rfl rfl rfl rfl) rfl M_order K_order B_order (sa_cons (se_var 0) (sa_cons (se_ix (se_ix (se_var 1) (se_var 4)) (se_int)) (sa_cons (se_ix (se_var 2) (se_int)) (sa_cons (se_ix (se_var 3) (se_int)) (sa_nil))))) (lenA_cons (lenA_cons (lenA_cons (lenA_cons (lenA_nil))))))))))
set_option maxHeartbeats 4000000 in
theorem ok_order_of_rows {a : Addr} {fd : FuncData} (F : L2.Fun K "order_of_rows" "order_of_rows" s_order_of_rows a fd) {k : Nat} (hk : 21 ≤ k) {c_order : List D → Sto → R D} {c_order_of_picks : List D → Sto → R D} {c_order_of_rows : List D → Sto → R D} {a_order : Addr} {f_order : FuncData} (G_order : FnOk P w K mg base (L2.CX P w) k a_order f_order P_order (spG K ct 4 c_order)) (M_order : mg "order" = some (.ref a_order)) (K_order : PySem.W.keepIn K (.ref a_order) = true) (B_order : Binds K f_order P_order []) (Z_len : mg "len" = none) (Z_min : mg "min" = none) (Z_range : mg "range" = none) :
    FnOk P w K mg base (L2.CX P w) (k + 1) a fd P_order_of_rows (spG K ct 4 (U_order_of_rows c_order c_order_of_picks c_order_of_rows)) := by
  refine fn_ok (N := N_order_of_rows) (ct := ct) F sc_order_of_rows (by decide) (fun cdv A outer s H v E hr => ?_)
  have nd := sc_order_of_rows.nd
  exact ss_cons (ss_for (passes_of rfl) rfl (si_range1 rfl Z_range (sa_cons (se_callB (b_min2 rfl) rfl Z_min (by decide +kernel) (sa_cons (se_callB (b_len) rfl Z_len (by decide +kernel) (sa_cons (se_var 2) (sa_nil))) (sa_cons (se_callB (b_len) rfl Z_len (by decide +kernel) (sa_cons (se_var 3) (sa_nil))) (sa_nil)))) (sa_nil))) (sg_name 4 nd) (ss_cons (ss_set 5 (se_call G_order (hr) (takes_of rfl rfl rfl rfl) rfl M_order K_order B_order (sa_cons (se_var 0) (sa_cons (se_ix (se_var 1) (se_var 4)) (sa_cons (se_ix (se_var 2) (se_var 4)) (sa_cons (se_ix (se_var 3) (se_var 4)) (sa_nil))))) (lenA_cons (lenA_cons (lenA_cons (lenA_cons (lenA_nil)))))) nd)
    (ss_one (ss_if (st_cmp (o_ne (hu_big hr)) (se_var 5) (se_int)) (ss_one (ss_ret (se_var 5))) (ss_nil)))))
    (ss_one (ss_ret (se_int)))
set_option maxHeartbeats 4000000 in
theorem ok_rises {a : Addr} {fd : FuncData} (F : L2.Fun K "rises" "rises" s_rises a fd) {a_order : Addr} {f_order : FuncData} (G_order : FnOk P w K mg base (L2.CX P w) 41 a_order f_order P_order (spG K ct 4 (S_order 20))) (M_order : mg "order" = some (.ref a_order)) (K_order : PySem.W.keepIn K (.ref a_order) = true) (B_order : Binds K f_order P_order []) (Z_len : mg "len" = none) (Z_range : mg "range" = none) :
    FnOk P w K mg base (L2.CX P w) 42 a fd P_rises (spG K ct 4 S_rises) := by
  refine fn_ok (N := N_rises) (ct := ct) F sc_rises (by decide) (fun cdv A outer s H v E hr => ?_)
  have nd := sc_rises.nd
  exact ss_cons (ss_for (passes_of rfl) rfl (si_range2 rfl Z_range (sa_cons (se_int) (sa_cons (se_callB (b_len) rfl Z_len (by decide +kernel) (sa_cons (se_var 2) (sa_nil))) (sa_nil)))) (sg_name 4 nd) (ss_one (ss_if (st_cmp o_gt (se_call G_order (hr.mono (by decide)) (takes_of rfl rfl rfl rfl) rfl M_order K_order B_order (sa_cons (se_var 0) (sa_cons (se_var 1) (sa_cons (se_ix (se_var 2) (se_bin o_sub (se_var 4) (se_int))) (sa_cons (se_ix (se_var 2) (se_var 4)) (sa_nil))))) (lenA_cons (lenA_cons (lenA_cons (lenA_cons (lenA_nil)))))) (se_var 3)) (ss_one (ss_ret (se_bl))) (ss_nil))))
    (ss_one (ss_ret (se_bl)))
set_option maxHeartbeats 4000000 in
theorem ok_fits {a : Addr} {fd : FuncData} (F : L2.Fun K "fits" "fits" s_fits a fd) {k : Nat} (hk : 42 ≤ k) {c_fits : List D → Sto → R D} {c_fits_branch : List D → Sto → R D} {c_fits_list : List D → Sto → R D} {c_fits_parts : List D → Sto → R D} {a_fits : Addr} {f_fits : FuncData} (G_fits : FnOk P w K mg base (L2.CX P w) k a_fits f_fits P_fits (spG K ct 3 c_fits)) (M_fits : mg "fits" = some (.ref a_fits)) (K_fits : PySem.W.keepIn K (.ref a_fits) = true) (B_fits : Binds K f_fits P_fits []) {a_fits_branch : Addr} {f_fits_branch : FuncData} (G_fits_branch : FnOk P w K mg base (L2.CX P w) k a_fits_branch f_fits_branch P_fits_branch (spG K ct 3 c_fits_branch)) (M_fits_branch : mg "fits_branch" = some (.ref a_fits_branch)) (K_fits_branch : PySem.W.keepIn K (.ref a_fits_branch) = true) (B_fits_branch : Binds K f_fits_branch P_fits_branch []) {a_fits_list : Addr} {f_fits_list : FuncData} (G_fits_list : FnOk P w K mg base (L2.CX P w) k a_fits_list f_fits_list P_fits_list (spG K ct 3 c_fits_list)) (M_fits_list : mg "fits_list" = some (.ref a_fits_list)) (K_fits_list : PySem.W.keepIn K (.ref a_fits_list) = true) (B_fits_list : Binds K f_fits_list P_fits_list []) {a_fits_parts : Addr} {f_fits_parts : FuncData} (G_fits_parts : FnOk P w K mg base (L2.CX P w) k a_fits_parts f_fits_parts P_fits_parts (spG K ct 3 c_fits_parts)) (M_fits_parts : mg "fits_parts" = some (.ref a_fits_parts)) (K_fits_parts : PySem.W.keepIn K (.ref a_fits_parts) = true) (B_fits_parts : Binds K f_fits_parts P_fits_parts []) {a_shape_of : Addr} {f_shape_of : FuncData} (G_shape_of : FnOk P w K mg base (L2.CX P w) 1 a_shape_of f_shape_of P_shape_of (spG K ct 2 S_shape_of)) (M_shape_of : mg "shape_of" = some (.ref a_shape_of)) (K_shape_of : PySem.W.keepIn K (.ref a_shape_of) = true) (B_shape_of : Binds K f_shape_of P_shape_of []) (Z_all : mg "all" = none) (Z_bool : mg "bool" = none) (Z_int : mg "int" = none) (Z_isinstance : mg "isinstance" = none) (Z_list : mg "list" = none) (Z_str : mg "str" = none) (Z_tuple : mg "tuple" = none) :
    FnOk P w K mg base (L2.CX P w) (k + 1) a fd P_fits (spG K ct 3 (U_fits c_fits c_fits_branch c_fits_list c_fits_parts)) := by
  refine fn_ok (N := N_fits) (ct := ct) F sc_fits (by decide) (fun cdv A outer s H v E hr => ?_)
  have nd := sc_fits.nd
  exact ss_cons (ss_if (st_cmp (o_eq (hu_big hr)) (se_ix (se_var 1) (se_int)) (se_str)) (ss_one (ss_ret (se_and (se_isi (n := "int") (se_var 2) rfl Z_isinstance rfl Z_int (by decide +kernel)) (se_and (se_nt (se_isi (n := "bool") (se_var 2) rfl Z_isinstance rfl Z_bool (by decide +kernel))) (se_one (se_chain o_le o_le (se_ix (se_var 1) (se_int)) (se_var 2) (se_ix (se_var 1) (se_int)))))))) (ss_nil))
    (ss_cons (ss_if (st_cmp (o_eq (hu_big hr)) (se_ix (se_var 1) (se_int)) (se_str)) (ss_one (ss_ret (se_and (se_isi (n := "str") (se_var 2) rfl Z_isinstance rfl Z_str (by decide +kernel)) (se_one (se_callB (b_all rfl) rfl Z_all (by decide +kernel) (sa_cons (SF.fz (sf_lc [("sign", 3)] rfl nd (si_seq (se_var 2)) (blkOk_by (by change blkC N_fits (defScope s_fits) _ _ = true; decide +kernel)) (by decide) (fun _ _ _ _ _ => sg_name 3 nd) (fun _ _ _ _ _ => sts_nil) (fun _ _ _ _ _ => se_cmp o_in (se_var 3) (se_ix (se_var 1) (se_int))))) (sa_nil))))))) (ss_nil))
    (ss_cons (ss_if (st_cmp (o_eq (hu_big hr)) (se_ix (se_var 1) (se_int)) (se_str)) (ss_one (ss_ret (se_and (se_isi (n := "tuple") (se_var 2) rfl Z_isinstance rfl Z_tuple (by decide +kernel)) (se_one (se_call G_fits_parts (hr) (takes_of rfl rfl rfl rfl) rfl M_fits_parts K_fits_parts B_fits_parts (sa_cons (se_var 0) (sa_cons (se_ix (se_var 1) (se_int)) (sa_cons (se_var 2) (sa_nil)))) (lenA_cons (lenA_cons (lenA_cons (lenA_nil))))))))) (ss_nil))
    (ss_cons (ss_if (st_cmp (o_eq (hu_big hr)) (se_ix (se_var 1) (se_int)) (se_str)) (ss_one (ss_ret (se_and (se_isi (n := "tuple") (se_var 2) rfl Z_isinstance rfl Z_tuple (by decide +kernel)) (se_one (se_call G_fits_branch (hr) (takes_of rfl rfl rfl rfl) rfl M_fits_branch K_fits_branch B_fits_branch (sa_cons (se_var 0) (sa_cons (se_ix (se_var 1) (se_int)) (sa_cons (se_var 2) (sa_nil)))) (lenA_cons (lenA_cons (lenA_cons (lenA_nil))))))))) (ss_nil))
    (ss_cons (ss_if (st_cmp (o_eq (hu_big hr)) (se_ix (se_var 1) (se_int)) (se_str)) (ss_one (ss_ret (se_call G_fits (hr) (takes_of rfl rfl rfl rfl) rfl M_fits K_fits B_fits (sa_cons (se_var 0) (sa_cons (se_call G_shape_of (hr.mono (Nat.le_trans (by decide) hk)) (takes_of rfl rfl rfl rfl) rfl M_shape_of K_shape_of B_shape_of (sa_cons (se_var 0) (sa_cons (se_ix (se_var 1) (se_int)) (sa_nil))) (lenA_cons (lenA_cons (lenA_nil)))) (sa_cons (se_var 2) (sa_nil)))) (lenA_cons (lenA_cons (lenA_cons (lenA_nil))))))) (ss_nil))
    (ss_one (ss_ret (se_and (se_isi (n := "list") (se_var 2) rfl Z_isinstance rfl Z_list (by decide +kernel)) (se_one (se_call G_fits_list (hr) (takes_of rfl rfl rfl rfl) rfl M_fits_list K_fits_list B_fits_list (sa_cons (se_var 0) (sa_cons (se_var 1) (sa_cons (se_var 2) (sa_nil)))) (lenA_cons (lenA_cons (lenA_cons (lenA_nil)))))))))))))
set_option maxHeartbeats 4000000 in
theorem ok_fits_branch {a : Addr} {fd : FuncData} (F : L2.Fun K "fits_branch" "fits_branch" s_fits_branch a fd) {k : Nat} (hk : 42 ≤ k) {c_fits : List D → Sto → R D} {c_fits_branch : List D → Sto → R D} {c_fits_list : List D → Sto → R D} {c_fits_parts : List D → Sto → R D} {a_fits : Addr} {f_fits : FuncData} (G_fits : FnOk P w K mg base (L2.CX P w) k a_fits f_fits P_fits (spG K ct 3 c_fits)) (M_fits : mg "fits" = some (.ref a_fits)) (K_fits : PySem.W.keepIn K (.ref a_fits) = true) (B_fits : Binds K f_fits P_fits []) {a_place_of : Addr} {f_place_of : FuncData} (G_place_of : FnOk P w K mg base (L2.CX P w) 1 a_place_of f_place_of P_place_of (spG K ct 2 S_place_of)) (M_place_of : mg "place_of" = some (.ref a_place_of)) (K_place_of : PySem.W.keepIn K (.ref a_place_of) = true) (B_place_of : Binds K f_place_of P_place_of []) (Z_isinstance : mg "isinstance" = none) (Z_len : mg "len" = none) (Z_str : mg "str" = none) :
    FnOk P w K mg base (L2.CX P w) (k + 1) a fd P_fits_branch (spG K ct 3 (U_fits_branch c_fits c_fits_branch c_fits_list c_fits_parts)) := by
  refine fn_ok (N := N_fits_branch) (ct := ct) F sc_fits_branch (by decide) (fun cdv A outer s H v E hr => ?_)
  have nd := sc_fits_branch.nd
  exact ss_cons (ss_if (PW.pt (sw_or (st_cmp (o_ne (hu_big hr)) (se_callB (b_len) rfl Z_len (by decide +kernel) (sa_cons (se_var 2) (sa_nil))) (se_int)) (sw_or1 (st_not (st_val (se_isi (n := "str") (se_ix (se_var 2) (se_int)) rfl Z_isinstance rfl Z_str (by decide +kernel))))))) (ss_one (ss_ret (se_bl))) (ss_nil))
    (ss_cons (ss_set 3 (se_call G_place_of (hr.mono (Nat.le_trans (by decide) hk)) (takes_of rfl rfl rfl rfl) rfl M_place_of K_place_of B_place_of (sa_cons (se_var 1) (sa_cons (se_ix (se_var 2) (se_int)) (sa_nil))) (lenA_cons (lenA_cons (lenA_nil)))) nd)
    (ss_one (ss_ret (se_and (se_cmp o_ge (se_var 3) (se_int)) (se_one (se_call G_fits (hr) (takes_of rfl rfl rfl rfl) rfl M_fits K_fits B_fits (sa_cons (se_var 0) (sa_cons (se_ix (se_ix (se_var 1) (se_var 3)) (se_int)) (sa_cons (se_ix (se_var 2) (se_int)) (sa_nil)))) (lenA_cons (lenA_cons (lenA_cons (lenA_nil))))))))))
set_option maxHeartbeats 4000000 in
theorem ok_fits_list {a : Addr} {fd : FuncData} (F : L2.Fun K "fits_list" "fits_list" s_fits_list a fd) {k : Nat} (hk : 42 ≤ k) {c_fits : List D → Sto → R D} {c_fits_branch : List D → Sto → R D} {c_fits_list : List D → Sto → R D} {c_fits_parts : List D → Sto → R D} {a_all_alike : Addr} {f_all_alike : FuncData} (G_all_alike : FnOk P w K mg base (L2.CX P w) 1 a_all_alike f_all_alike P_all_alike (spG K ct 2 S_all_alike)) (M_all_alike : mg "all_alike" = some (.ref a_all_alike)) (K_all_alike : PySem.W.keepIn K (.ref a_all_alike) = true) (B_all_alike : Binds K f_all_alike P_all_alike []) {a_fits : Addr} {f_fits : FuncData} (G_fits : FnOk P w K mg base (L2.CX P w) k a_fits f_fits P_fits (spG K ct 3 c_fits)) (M_fits : mg "fits" = some (.ref a_fits)) (K_fits : PySem.W.keepIn K (.ref a_fits) = true) (B_fits : Binds K f_fits P_fits []) {a_rises : Addr} {f_rises : FuncData} (G_rises : FnOk P w K mg base (L2.CX P w) 42 a_rises f_rises P_rises (spG K ct 4 S_rises)) (M_rises : mg "rises" = some (.ref a_rises)) (K_rises : PySem.W.keepIn K (.ref a_rises) = true) (B_rises : Binds K f_rises P_rises []) :
    FnOk P w K mg base (L2.CX P w) (k + 1) a fd P_fits_list (spG K ct 3 (U_fits_list c_fits c_fits_branch c_fits_list c_fits_parts)) := by
  refine fn_ok (N := N_fits_list) (ct := ct) F sc_fits_list (by decide) (fun cdv A outer s H v E hr => ?_)
  have nd := sc_fits_list.nd
  exact ss_cons (ss_for (passes_of rfl) rfl (si_seq (se_var 2)) (sg_name 3 nd) (ss_one (ss_if (st_not (st_val (se_call G_fits (hr) (takes_of rfl rfl rfl rfl) rfl M_fits K_fits B_fits (sa_cons (se_var 0) (sa_cons (se_ix (se_var 1) (se_int)) (sa_cons (se_var 3) (sa_nil)))) (lenA_cons (lenA_cons (lenA_cons (lenA_nil))))))) (ss_one (ss_ret (se_bl))) (ss_nil))))
    (ss_cons (ss_if (st_cmp (o_eq (hu_big hr)) (se_ix (se_var 1) (se_int)) (se_str)) (ss_one (ss_ret (se_call G_rises (hr.mono (Nat.le_trans (by decide) hk)) (takes_of rfl rfl rfl rfl) rfl M_rises K_rises B_rises (sa_cons (se_var 0) (sa_cons (se_ix (se_var 1) (se_int)) (sa_cons (se_var 2) (sa_cons (se_int) (sa_nil))))) (lenA_cons (lenA_cons (lenA_cons (lenA_cons (lenA_nil)))))))) (ss_nil))
    (ss_cons (ss_if (st_cmp (o_eq (hu_big hr)) (se_ix (se_var 1) (se_int)) (se_str)) (ss_one (ss_ret (se_call G_rises (hr.mono (Nat.le_trans (by decide) hk)) (takes_of rfl rfl rfl rfl) rfl M_rises K_rises B_rises (sa_cons (se_var 0) (sa_cons (se_ix (se_var 1) (se_int)) (sa_cons (se_var 2) (sa_cons (se_un o_neg (se_int)) (sa_nil))))) (lenA_cons (lenA_cons (lenA_cons (lenA_cons (lenA_nil)))))))) (ss_nil))
    (ss_cons (ss_if (st_cmp (o_eq (hu_big hr)) (se_ix (se_var 1) (se_int)) (se_str)) (ss_one (ss_ret (se_call G_all_alike (hr.mono (Nat.le_trans (by decide) hk)) (takes_of rfl rfl rfl rfl) rfl M_all_alike K_all_alike B_all_alike (sa_cons (se_ix (se_var 1) (se_int)) (sa_cons (se_var 2) (sa_nil))) (lenA_cons (lenA_cons (lenA_nil)))))) (ss_nil))
    (ss_one (ss_ret (se_bl))))))
set_option maxHeartbeats 4000000 in
theorem ok_fits_parts {a : Addr} {fd : FuncData} (F : L2.Fun K "fits_parts" "fits_parts" s_fits_parts a fd) {k : Nat} (hk : 42 ≤ k) {c_fits : List D → Sto → R D} {c_fits_branch : List D → Sto → R D} {c_fits_list : List D → Sto → R D} {c_fits_parts : List D → Sto → R D} {a_fits : Addr} {f_fits : FuncData} (G_fits : FnOk P w K mg base (L2.CX P w) k a_fits f_fits P_fits (spG K ct 3 c_fits)) (M_fits : mg "fits" = some (.ref a_fits)) (K_fits : PySem.W.keepIn K (.ref a_fits) = true) (B_fits : Binds K f_fits P_fits []) (Z_len : mg "len" = none) (Z_zip : mg "zip" = none) :
    FnOk P w K mg base (L2.CX P w) (k + 1) a fd P_fits_parts (spG K ct 3 (U_fits_parts c_fits c_fits_branch c_fits_list c_fits_parts)) := by
  refine fn_ok (N := N_fits_parts) (ct := ct) F sc_fits_parts (by decide) (fun cdv A outer s H v E hr => ?_)
  have nd := sc_fits_parts.nd
  exact ss_cons (ss_if (st_cmp (o_ne (hu_big hr)) (se_callB (b_len) rfl Z_len (by decide +kernel) (sa_cons (se_var 1) (sa_nil))) (se_callB (b_len) rfl Z_len (by decide +kernel) (sa_cons (se_var 2) (sa_nil)))) (ss_one (ss_ret (se_bl))) (ss_nil))
    (ss_cons (ss_for (passes_of rfl) rfl (si_zip rfl Z_zip (sa_cons (se_var 1) (sa_cons (se_var 2) (sa_nil)))) (sg_tup rfl (sgs_cons (sg_name 3 nd) (sgs_cons (sg_name 4 nd) (sgs_nil)))) (ss_one (ss_if (st_not (st_val (se_call G_fits (hr) (takes_of rfl rfl rfl rfl) rfl M_fits K_fits B_fits (sa_cons (se_var 0) (sa_cons (se_var 3) (sa_cons (se_var 4) (sa_nil)))) (lenA_cons (lenA_cons (lenA_cons (lenA_nil))))))) (ss_one (ss_ret (se_bl))) (ss_nil))))
    (ss_one (ss_ret (se_bl))))
set_option maxHeartbeats 4000000 in
theorem ok_own_copy {a : Addr} {fd : FuncData} (F : L2.Fun K "own_copy" "own_copy" s_own_copy a fd) {k : Nat} (hk : 0 ≤ k) {c_own_copy : List D → Sto → R D} {a_own_copy : Addr} {f_own_copy : FuncData} (G_own_copy : FnOk P w K mg base (L2.CX P w) k a_own_copy f_own_copy P_own_copy (spG K ct 1 c_own_copy)) (M_own_copy : mg "own_copy" = some (.ref a_own_copy)) (K_own_copy : PySem.W.keepIn K (.ref a_own_copy) = true) (B_own_copy : Binds K f_own_copy P_own_copy []) (Z_isinstance : mg "isinstance" = none) (Z_list : mg "list" = none) (Z_tuple : mg "tuple" = none) :
    FnOk P w K mg base (L2.CX P w) (k + 1) a fd P_own_copy (spG K ct 1 (U_own_copy c_own_copy)) := by
  refine fn_ok (N := N_own_copy) (ct := ct) F sc_own_copy (by decide) (fun cdv A outer s H v E hr => ?_)
  have nd := sc_own_copy.nd
  exact ss_cons (ss_if (st_val (se_isi (n := "list") (se_var 0) rfl Z_isinstance rfl Z_list (by decide +kernel))) (ss_one (ss_ret (SF.fz (sf_lc [("thing", 1)] rfl nd (si_seq (se_var 0)) (blkOk_by (by change blkC N_own_copy (defScope s_own_copy) _ _ = true; decide +kernel)) (by decide) (fun _ _ _ _ _ => sg_name 1 nd) (fun _ _ _ _ _ => sts_nil) (fun _ _ _ _ _ => se_call G_own_copy (hr) takes0 rfl M_own_copy K_own_copy B_own_copy (sa_cons (se_var 1) (sa_nil)) (lenA_cons (lenA_nil))))))) (ss_nil))
    (ss_cons (ss_if (st_val (se_isi (n := "tuple") (se_var 0) rfl Z_isinstance rfl Z_tuple (by decide +kernel))) (ss_one (ss_ret (se_callT (b_tuple) rfl Z_tuple (by decide +kernel) (sa_cons (SF.fz (sf_lc [("thing", 1)] rfl nd (si_seq (se_var 0)) (blkOk_by (by change blkC N_own_copy (defScope s_own_copy) _ _ = true; decide +kernel)) (by decide) (fun _ _ _ _ _ => sg_name 1 nd) (fun _ _ _ _ _ => sts_nil) (fun _ _ _ _ _ => se_call G_own_copy (hr) takes0 rfl M_own_copy K_own_copy B_own_copy (sa_cons (se_var 1) (sa_nil)) (lenA_cons (lenA_nil))))) (sa_nil))))) (ss_nil))
    (ss_one (ss_ret (se_var 0))))
set_option maxHeartbeats 4000000 in
theorem ok_at_uses {a : Addr} {fd : FuncData} (F : L2.Fun K "at_uses" "at_uses" s_at_uses a fd) {k : Nat} (hk : 1 ≤ k) {c_at_uses : List D → Sto → R D} {c_within_parts : List D → Sto → R D} {a_at_uses : Addr} {f_at_uses : FuncData} (G_at_uses : FnOk P w K mg base (L2.CX P w) k a_at_uses f_at_uses P_at_uses (spG K ct 4 c_at_uses)) (M_at_uses : mg "at_uses" = some (.ref a_at_uses)) (K_at_uses : PySem.W.keepIn K (.ref a_at_uses) = true) (B_at_uses : Binds K f_at_uses P_at_uses []) {a_shape_of : Addr} {f_shape_of : FuncData} (G_shape_of : FnOk P w K mg base (L2.CX P w) 1 a_shape_of f_shape_of P_shape_of (spG K ct 2 S_shape_of)) (M_shape_of : mg "shape_of" = some (.ref a_shape_of)) (K_shape_of : PySem.W.keepIn K (.ref a_shape_of) = true) (B_shape_of : Binds K f_shape_of P_shape_of []) {a_within_parts : Addr} {f_within_parts : FuncData} (G_within_parts : FnOk P w K mg base (L2.CX P w) k a_within_parts f_within_parts P_within_parts (spG K ct 4 c_within_parts)) (M_within_parts : mg "within_parts" = some (.ref a_within_parts)) (K_within_parts : PySem.W.keepIn K (.ref a_within_parts) = true) (B_within_parts : Binds K f_within_parts P_within_parts []) (Z_len : mg "len" = none) :
    FnOk P w K mg base (L2.CX P w) (k + 1) a fd P_at_uses (spG K ct 4 (U_at_uses c_at_uses c_within_parts)) := by
  refine fn_ok (N := N_at_uses) (ct := ct) F sc_at_uses (by decide) (fun cdv A outer s H v E hr => ?_)
  have nd := sc_at_uses.nd
  exact ss_cons (ss_if (st_cmp (o_eq (hu_big hr)) (se_ix (se_var 2) (se_int)) (se_str)) (ss_cons (ss_set 4 (se_call G_at_uses (hr) (takes_of rfl rfl rfl rfl) rfl M_at_uses K_at_uses B_at_uses (sa_cons (se_var 0) (sa_cons (se_var 1) (sa_cons (se_call G_shape_of (hr.mono (Nat.le_trans (by decide) hk)) (takes_of rfl rfl rfl rfl) rfl M_shape_of K_shape_of B_shape_of (sa_cons (se_var 0) (sa_cons (se_ix (se_var 2) (se_int)) (sa_nil))) (lenA_cons (lenA_cons (lenA_nil)))) (sa_cons (se_var 3) (sa_nil))))) (lenA_cons (lenA_cons (lenA_cons (lenA_cons (lenA_nil)))))) nd)
    (ss_cons (ss_if (st_cmp (o_eq (hu_big hr)) (se_ix (se_var 2) (se_int)) (se_var 1)) (ss_one (ss_ret (se_bin o_add (SF.fz (sf_lst (sa_cons (se_var 3) (sa_nil)))) (se_var 4)))) (ss_nil))
    (ss_one (ss_ret (se_var 4))))) (ss_nil))
    (ss_cons (ss_if (st_cmp (o_eq (hu_big hr)) (se_ix (se_var 2) (se_int)) (se_str)) (ss_one (ss_ret (se_call G_within_parts (hr) (takes_of rfl rfl rfl rfl) rfl M_within_parts K_within_parts B_within_parts (sa_cons (se_var 0) (sa_cons (se_var 1) (sa_cons (se_ix (se_var 2) (se_int)) (sa_cons (se_var 3) (sa_nil))))) (lenA_cons (lenA_cons (lenA_cons (lenA_cons (lenA_nil)))))))) (ss_nil))
    (ss_cons (ss_if (st_cmp (o_eq (hu_big hr)) (se_ix (se_var 2) (se_int)) (se_str)) (ss_one (ss_for (passes_of rfl) rfl (si_seq (se_ix (se_var 2) (se_int))) (sg_tup rfl (sgs_cons (sg_name 5 nd) (sgs_cons (sg_name 6 nd) (sgs_nil)))) (ss_one (ss_if (st_cmp (o_eq (hu_big hr)) (se_var 5) (se_ix (se_var 3) (se_int))) (ss_one (ss_ret (se_call G_at_uses (hr) (takes_of rfl rfl rfl rfl) rfl M_at_uses K_at_uses B_at_uses (sa_cons (se_var 0) (sa_cons (se_var 1) (sa_cons (se_var 6) (sa_cons (se_ix (se_var 3) (se_int)) (sa_nil))))) (lenA_cons (lenA_cons (lenA_cons (lenA_cons (lenA_nil)))))))) (ss_nil))))) (ss_nil))
    (ss_cons (ss_if (st_cmp o_in (se_ix (se_var 2) (se_int)) (se_tup (sa_cons (se_str) (sa_cons (se_str) (sa_cons (se_str) (sa_cons (se_str) (sa_nil))))))) (ss_one (ss_ret (se_call G_within_parts (hr) (takes_of rfl rfl rfl rfl) rfl M_within_parts K_within_parts B_within_parts (sa_cons (se_var 0) (sa_cons (se_var 1) (sa_cons (se_bin o_mul (SF.fz (sf_lst (sa_cons (se_ix (se_var 2) (se_int)) (sa_nil)))) (se_callB (b_len) rfl Z_len (by decide +kernel) (sa_cons (se_var 3) (sa_nil)))) (sa_cons (se_var 3) (sa_nil))))) (lenA_cons (lenA_cons (lenA_cons (lenA_cons (lenA_nil)))))))) (ss_nil))
    (ss_one (ss_ret (SF.fz (sf_lst (sa_nil))))))))
set_option maxHeartbeats 4000000 in
theorem ok_within_parts {a : Addr} {fd : FuncData} (F : L2.Fun K "within_parts" "within_parts" s_within_parts a fd) {k : Nat} (hk : 1 ≤ k) {c_at_uses : List D → Sto → R D} {c_within_parts : List D → Sto → R D} {a_at_uses : Addr} {f_at_uses : FuncData} (G_at_uses : FnOk P w K mg base (L2.CX P w) k a_at_uses f_at_uses P_at_uses (spG K ct 4 c_at_uses)) (M_at_uses : mg "at_uses" = some (.ref a_at_uses)) (K_at_uses : PySem.W.keepIn K (.ref a_at_uses) = true) (B_at_uses : Binds K f_at_uses P_at_uses []) (Z_zip : mg "zip" = none) :
    FnOk P w K mg base (L2.CX P w) (k + 1) a fd P_within_parts (spG K ct 4 (U_within_parts c_at_uses c_within_parts)) := by
  refine fn_ok (N := N_within_parts) (ct := ct) F sc_within_parts (by decide) (fun cdv A outer s H v E hr => ?_)
  have nd := sc_within_parts.nd
  exact ss_cons (ss_set 4 (SF.nw (sf_lst (sa_nil))) nd)
    (ss_cons (ss_for (passes_of rfl) rfl (si_zip rfl Z_zip (sa_cons (se_var 2) (sa_cons (se_var 3) (sa_nil)))) (sg_tup rfl (sgs_cons (sg_name 5 nd) (sgs_cons (sg_name 6 nd) (sgs_nil)))) (ss_one (ss_expr (se_ext (se_var 4) (se_call G_at_uses (hr) (takes_of rfl rfl rfl rfl) rfl M_at_uses K_at_uses B_at_uses (sa_cons (se_var 0) (sa_cons (se_var 1) (sa_cons (se_var 5) (sa_cons (se_var 6) (sa_nil))))) (lenA_cons (lenA_cons (lenA_cons (lenA_cons (lenA_nil))))))))))
    (ss_one (ss_frz 4 (ss_ret (se_var 4)))))
set_option maxHeartbeats 4000000 in
theorem ok_left_out {a : Addr} {fd : FuncData} (F : L2.Fun K "left_out" "left_out" s_left_out a fd) (Z_len : mg "len" = none) (Z_range : mg "range" = none) :
    FnOk P w K mg base (L2.CX P w) 1 a fd P_left_out (spG K ct 1 S_left_out) := by
  refine fn_ok (N := N_left_out) (ct := ct) F sc_left_out (by decide) (fun cdv A outer s H v E hr => ?_)
  have nd := sc_left_out.nd
  exact ss_one (ss_ret (SF.nw (sf_lc [("at", 1)] rfl nd (si_range1 rfl Z_range (sa_cons (se_callB (b_len) rfl Z_len (by decide +kernel) (sa_cons (se_var 0) (sa_nil))) (sa_nil))) (blkOk_by (by change blkC N_left_out (defScope s_left_out) _ _ = true; decide +kernel)) (by decide) (fun _ _ _ _ _ => sg_name 1 nd) (fun _ _ _ _ _ => sts_nil) (fun _ _ _ _ _ => se_bin o_add (se_sl (se_var 0) (so_none) (so_some (se_var 1))) (se_sl (se_var 0) (so_some (se_bin o_add (se_var 1) (se_int))) (so_none))))))
set_option maxHeartbeats 4000000 in
theorem ok_least_of_pick {a : Addr} {fd : FuncData} (F : L2.Fun K "least_of_pick" "least_of_pick" s_least_of_pick a fd) {k : Nat} (hk : 0 ≤ k) {c_least_of_pick : List D → Sto → R D} {c_least_of_row : List D → Sto → R D} {c_least_size : List D → Sto → R D} {a_least_size : Addr} {f_least_size : FuncData} (G_least_size : FnOk P w K mg base (L2.CX P w) k a_least_size f_least_size P_least_size (spG K ct 2 c_least_size)) (M_least_size : mg "least_size" = some (.ref a_least_size)) (K_least_size : PySem.W.keepIn K (.ref a_least_size) = true) (B_least_size : Binds K f_least_size P_least_size []) :
    FnOk P w K mg base (L2.CX P w) (k + 1) a fd P_least_of_pick (spG K ct 2 (U_least_of_pick c_least_of_pick c_least_of_row c_least_size)) := by
  refine fn_ok (N := N_least_of_pick) (ct := ct) F sc_least_of_pick (by decide) (fun cdv A outer s H v E hr => ?_)
  have nd := sc_least_of_pick.nd
  exact ss_cons (ss_setLc 2 (g := eFz) [("branch", 3)] (fun _ _ _ z => lift_fz z) rfl nd rfl rfl (sw_true rfl rfl rfl (by decide +kernel)) (si_seq (se_var 0)) (blkOk_by (by change blkC N_least_of_pick (defScope s_least_of_pick) _ _ = true; decide +kernel)) (by decide) (fun _ _ _ _ _ => sg_name 3 nd) (fun _ _ _ _ _ => sts_nil) (fun _ _ _ _ _ => se_call G_least_size (hr) takes0 rfl M_least_size K_least_size B_least_size (sa_cons (se_ix (se_var 3) (se_int)) (sa_cons (se_var 1) (sa_nil))) (lenA_cons (lenA_cons (lenA_nil)))))
    (ss_one (ss_never))
set_option maxHeartbeats 4000000 in
theorem ok_least_of_row {a : Addr} {fd : FuncData} (F : L2.Fun K "least_of_row" "least_of_row" s_least_of_row a fd) {k : Nat} (hk : 0 ≤ k) {c_least_of_pick : List D → Sto → R D} {c_least_of_row : List D → Sto → R D} {c_least_size : List D → Sto → R D} {a_least_size : Addr} {f_least_size : FuncData} (G_least_size : FnOk P w K mg base (L2.CX P w) k a_least_size f_least_size P_least_size (spG K ct 2 c_least_size)) (M_least_size : mg "least_size" = some (.ref a_least_size)) (K_least_size : PySem.W.keepIn K (.ref a_least_size) = true) (B_least_size : Binds K f_least_size P_least_size []) :
    FnOk P w K mg base (L2.CX P w) (k + 1) a fd P_least_of_row (spG K ct 2 (U_least_of_row c_least_of_pick c_least_of_row c_least_size)) := by
  refine fn_ok (N := N_least_of_row) (ct := ct) F sc_least_of_row (by decide) (fun cdv A outer s H v E hr => ?_)
  have nd := sc_least_of_row.nd
  exact ss_cons (ss_set 2 (se_int) nd)
    (ss_cons (ss_for (passes_of rfl) rfl (si_seq (se_var 0)) (sg_name 3 nd) (ss_cons (ss_set 4 (se_call G_least_size (hr) (takes_of rfl rfl rfl rfl) rfl M_least_size K_least_size B_least_size (sa_cons (se_var 3) (sa_cons (se_var 1) (sa_nil))) (lenA_cons (lenA_cons (lenA_nil)))) nd)
    (ss_cons (ss_if (st_cmp o_isN (se_var 4) (se_non)) (ss_one (ss_ret (se_non))) (ss_nil))
    (ss_one (ss_aug 2 io_addI (se_var 4) nd)))))
    (ss_one (ss_ret (se_var 2))))
set_option maxHeartbeats 4000000 in
theorem ok_least_size {a : Addr} {fd : FuncData} (F : L2.Fun K "least_size" "least_size" s_least_size a fd) {k : Nat} (hk : 0 ≤ k) {c_least_of_pick : List D → Sto → R D} {c_least_of_row : List D → Sto → R D} {c_least_size : List D → Sto → R D} {a_least_of_pick : Addr} {f_least_of_pick : FuncData} (G_least_of_pick : FnOk P w K mg base (L2.CX P w) k a_least_of_pick f_least_of_pick P_least_of_pick (spG K ct 2 c_least_of_pick)) (M_least_of_pick : mg "least_of_pick" = some (.ref a_least_of_pick)) (K_least_of_pick : PySem.W.keepIn K (.ref a_least_of_pick) = true) (B_least_of_pick : Binds K f_least_of_pick P_least_of_pick []) {a_least_of_row : Addr} {f_least_of_row : FuncData} (G_least_of_row : FnOk P w K mg base (L2.CX P w) k a_least_of_row f_least_of_row P_least_of_row (spG K ct 2 c_least_of_row)) (M_least_of_row : mg "least_of_row" = some (.ref a_least_of_row)) (K_least_of_row : PySem.W.keepIn K (.ref a_least_of_row) = true) (B_least_of_row : Binds K f_least_of_row P_least_of_row []) {a_least_size : Addr} {f_least_size : FuncData} (G_least_size : FnOk P w K mg base (L2.CX P w) k a_least_size f_least_size P_least_size (spG K ct 2 c_least_size)) (M_least_size : mg "least_size" = some (.ref a_least_size)) (K_least_size : PySem.W.keepIn K (.ref a_least_size) = true) (B_least_size : Binds K f_least_size P_least_size []) :
    FnOk P w K mg base (L2.CX P w) (k + 1) a fd P_least_size (spG K ct 2 (U_least_size c_least_of_pick c_least_of_row c_least_size)) := by
  refine fn_ok (N := N_least_size) (ct := ct) F sc_least_size (by decide) (fun cdv A outer s H v E hr => ?_)
  have nd := sc_least_size.nd
  exact ss_cons (ss_set 2 (se_ix (se_var 0) (se_int)) nd)
    (ss_cons (ss_if (st_cmp (o_eq (hu_big hr)) (se_var 2) (se_str)) (ss_cons (ss_if (st_cmp o_isN (se_ix (se_var 1) (se_ix (se_var 0) (se_int))) (se_non)) (ss_one (ss_ret (se_non))) (ss_nil))
    (ss_one (ss_ret (se_bin o_add (se_int) (se_ix (se_var 1) (se_ix (se_var 0) (se_int))))))) (ss_nil))
    (ss_cons (ss_if (st_cmp (o_eq (hu_big hr)) (se_var 2) (se_str)) (ss_one (ss_ret (se_call G_least_of_row (hr) (takes_of rfl rfl rfl rfl) rfl M_least_of_row K_least_of_row B_least_of_row (sa_cons (se_ix (se_var 0) (se_int)) (sa_cons (se_var 1) (sa_nil))) (lenA_cons (lenA_cons (lenA_nil)))))) (ss_nil))
    (ss_cons (ss_if (st_cmp (o_eq (hu_big hr)) (se_var 2) (se_str)) (ss_one (ss_ret (se_call G_least_of_pick (hr) (takes_of rfl rfl rfl rfl) rfl M_least_of_pick K_least_of_pick B_least_of_pick (sa_cons (se_ix (se_var 0) (se_int)) (sa_cons (se_var 1) (sa_nil))) (lenA_cons (lenA_cons (lenA_nil)))))) (ss_nil))
    (ss_cons (ss_if (st_cmp (o_eq (hu_big hr)) (se_var 2) (se_str)) (ss_cons (ss_set 3 (se_call G_least_size (hr) (takes_of rfl rfl rfl rfl) rfl M_least_size K_least_size B_least_size (sa_cons (se_ix (se_var 0) (se_int)) (sa_cons (se_var 1) (sa_nil))) (lenA_cons (lenA_cons (lenA_nil)))) nd)
    (ss_cons (ss_if (st_cmp o_isN (se_var 3) (se_non)) (ss_one (ss_ret (se_non))) (ss_nil))
    (ss_one (ss_ret (se_bin o_mul (se_ix (se_var 0) (se_int)) (se_bin o_add (se_int) (se_var 3))))))) (ss_nil))
    (ss_one (ss_ret (se_int)))))))
set_option maxHeartbeats 4000000 in
theorem ok_least_sizes {a : Addr} {fd : FuncData} (F : L2.Fun K "least_sizes" "least_sizes" s_least_sizes a fd) {a_least_size : Addr} {f_least_size : FuncData} (G_least_size : FnOk P w K mg base (L2.CX P w) 20 a_least_size f_least_size P_least_size (spG K ct 2 (S_least_size 20))) (M_least_size : mg "least_size" = some (.ref a_least_size)) (K_least_size : PySem.W.keepIn K (.ref a_least_size) = true) (B_least_size : Binds K f_least_size P_least_size []) (Z_len : mg "len" = none) (Z_range : mg "range" = none) :
    FnOk P w K mg base (L2.CX P w) 21 a fd P_least_sizes (spG K ct 1 S_least_sizes) := by
  refine fn_ok (N := N_least_sizes) (ct := ct) F sc_least_sizes (by decide) (fun cdv A outer s H v E hr => ?_)
  have nd := sc_least_sizes.nd
  exact ss_cons (ss_never)
    (ss_cons (ss_for (passes_of rfl) rfl (si_seq (se_var 0)) (sg_tup rfl (sgs_cons (sg_name 2 nd) (sgs_cons (sg_name 3 nd) (sgs_nil)))) (ss_one (ss_setIx (se_var 1) (se_var 2) (se_non))))
    (ss_cons (ss_for (passes_of rfl) rfl (si_range1 rfl Z_range (sa_cons (se_callB (b_len) rfl Z_len (by decide +kernel) (sa_cons (se_var 0) (sa_nil))) (sa_nil))) (sg_name 4 nd) (ss_one (ss_for (passes_of rfl) rfl (si_seq (se_var 0)) (sg_tup rfl (sgs_cons (sg_name 2 nd) (sgs_cons (sg_name 3 nd) (sgs_nil)))) (ss_one (ss_setIx (se_var 1) (se_var 2) (se_call G_least_size (hr.mono (by decide)) (takes_of rfl rfl rfl rfl) rfl M_least_size K_least_size B_least_size (sa_cons (se_var 3) (sa_cons (se_var 1) (sa_nil))) (lenA_cons (lenA_cons (lenA_nil)))))))))
    (ss_one (ss_frz 1 (ss_ret (se_var 1))))))
set_option maxHeartbeats 4000000 in
theorem ok_least_thing {a : Addr} {fd : FuncData} (F : L2.Fun K "least_thing" "least_thing" s_least_thing a fd) {k : Nat} (hk : 20 ≤ k) {c_least_thing : List D → Sto → R D} {a_least_size : Addr} {f_least_size : FuncData} (G_least_size : FnOk P w K mg base (L2.CX P w) 20 a_least_size f_least_size P_least_size (spG K ct 2 (S_least_size 20))) (M_least_size : mg "least_size" = some (.ref a_least_size)) (K_least_size : PySem.W.keepIn K (.ref a_least_size) = true) (B_least_size : Binds K f_least_size P_least_size []) {a_least_thing : Addr} {f_least_thing : FuncData} (G_least_thing : FnOk P w K mg base (L2.CX P w) k a_least_thing f_least_thing P_least_thing (spG K ct 3 c_least_thing)) (M_least_thing : mg "least_thing" = some (.ref a_least_thing)) (K_least_thing : PySem.W.keepIn K (.ref a_least_thing) = true) (B_least_thing : Binds K f_least_thing P_least_thing []) (Z_range : mg "range" = none) (Z_tuple : mg "tuple" = none) :
    FnOk P w K mg base (L2.CX P w) (k + 1) a fd P_least_thing (spG K ct 3 (U_least_thing c_least_thing)) := by
  refine fn_ok (N := N_least_thing) (ct := ct) F sc_least_thing (by decide) (fun cdv A outer s H v E hr => ?_)
  have nd := sc_least_thing.nd
  exact ss_cons (ss_set 3 (se_ix (se_var 1) (se_int)) nd)
    (ss_cons (ss_if (st_cmp (o_eq (hu_big hr)) (se_var 3) (se_str)) (ss_one (ss_ret (se_ix (se_var 1) (se_int)))) (ss_nil))
    (ss_cons (ss_if (st_cmp (o_eq (hu_big hr)) (se_var 3) (se_str)) (ss_one (ss_ret (se_str))) (ss_nil))
    (ss_cons (ss_if (st_cmp (o_eq (hu_big hr)) (se_var 3) (se_str)) (ss_one (ss_ret (se_call G_least_thing (hr) (takes_of rfl rfl rfl rfl) rfl M_least_thing K_least_thing B_least_thing (sa_cons (se_var 0) (sa_cons (se_ix (se_var 0) (se_ix (se_var 1) (se_int))) (sa_cons (se_var 2) (sa_nil)))) (lenA_cons (lenA_cons (lenA_cons (lenA_nil))))))) (ss_nil))
    (ss_cons (ss_if (st_cmp (o_eq (hu_big hr)) (se_var 3) (se_str)) (ss_one (ss_ret (se_callT (b_tuple) rfl Z_tuple (by decide +kernel) (sa_cons (SF.fz (sf_lc [("part", 6)] rfl nd (si_seq (se_ix (se_var 1) (se_int))) (blkOk_by (by change blkC N_least_thing (defScope s_least_thing) _ _ = true; decide +kernel)) (by decide) (fun _ _ _ _ _ => sg_name 6 nd) (fun _ _ _ _ _ => sts_nil) (fun _ _ _ _ _ => se_call G_least_thing (hr) takes0 rfl M_least_thing K_least_thing B_least_thing (sa_cons (se_var 0) (sa_cons (se_var 6) (sa_cons (se_var 2) (sa_nil)))) (lenA_cons (lenA_cons (lenA_cons (lenA_nil))))))) (sa_nil))))) (ss_nil))
    (ss_cons (ss_if (st_cmp (o_eq (hu_big hr)) (se_var 3) (se_str)) (ss_one (ss_ret (SF.fz (sf_lc [("k", 7)] rfl nd (si_range1 rfl Z_range (sa_cons (se_ix (se_var 1) (se_int)) (sa_nil))) (blkOk_by (by change blkC N_least_thing (defScope s_least_thing) _ _ = true; decide +kernel)) (by decide) (fun _ _ _ _ _ => sg_name 7 nd) (fun _ _ _ _ _ => sts_nil) (fun _ _ _ _ _ => se_call G_least_thing (hr) takes0 rfl M_least_thing K_least_thing B_least_thing (sa_cons (se_var 0) (sa_cons (se_ix (se_var 1) (se_int)) (sa_cons (se_var 2) (sa_nil)))) (lenA_cons (lenA_cons (lenA_cons (lenA_nil))))))))) (ss_nil))
    (ss_cons (ss_if (st_cmp (o_eq (hu_big hr)) (se_var 3) (se_str)) (ss_cons (ss_set 4 (se_call G_least_size (hr.mono (Nat.le_trans (by decide) hk)) (takes_of rfl rfl rfl rfl) rfl M_least_size K_least_size B_least_size (sa_cons (se_var 1) (sa_cons (se_var 2) (sa_nil))) (lenA_cons (lenA_cons (lenA_nil)))) nd)
    (ss_one (ss_for (passes_of rfl) rfl (si_seq (se_ix (se_var 1) (se_int))) (sg_tup rfl (sgs_cons (sg_name 5 nd) (sgs_cons (sg_name 6 nd) (sgs_nil)))) (ss_one (ss_if (st_cmp (o_eq (hu_big hr)) (se_call G_least_size (hr.mono (Nat.le_trans (by decide) hk)) (takes_of rfl rfl rfl rfl) rfl M_least_size K_least_size B_least_size (sa_cons (se_var 6) (sa_cons (se_var 2) (sa_nil))) (lenA_cons (lenA_cons (lenA_nil)))) (se_var 4)) (ss_one (ss_ret (se_tup (sa_cons (se_var 5) (sa_cons (se_call G_least_thing (hr) (takes_of rfl rfl rfl rfl) rfl M_least_thing K_least_thing B_least_thing (sa_cons (se_var 0) (sa_cons (se_var 6) (sa_cons (se_var 2) (sa_nil)))) (lenA_cons (lenA_cons (lenA_cons (lenA_nil))))) (sa_nil)))))) (ss_nil)))))) (ss_nil))
    (ss_one (ss_ret (SF.fz (sf_lst (sa_nil)))))))))))
set_option maxHeartbeats 4000000 in
theorem ok_least_value {a : Addr} {fd : FuncData} (F : L2.Fun K "least_value" "least_value" s_least_value a fd) {a_least_size : Addr} {f_least_size : FuncData} (G_least_size : FnOk P w K mg base (L2.CX P w) 20 a_least_size f_least_size P_least_size (spG K ct 2 (S_least_size 20))) (M_least_size : mg "least_size" = some (.ref a_least_size)) (K_least_size : PySem.W.keepIn K (.ref a_least_size) = true) (B_least_size : Binds K f_least_size P_least_size []) {a_least_sizes : Addr} {f_least_sizes : FuncData} (G_least_sizes : FnOk P w K mg base (L2.CX P w) 21 a_least_sizes f_least_sizes P_least_sizes (spG K ct 1 S_least_sizes)) (M_least_sizes : mg "least_sizes" = some (.ref a_least_sizes)) (K_least_sizes : PySem.W.keepIn K (.ref a_least_sizes) = true) (B_least_sizes : Binds K f_least_sizes P_least_sizes []) {a_least_thing : Addr} {f_least_thing : FuncData} (G_least_thing : FnOk P w K mg base (L2.CX P w) 40 a_least_thing f_least_thing P_least_thing (spG K ct 3 (S_least_thing 20))) (M_least_thing : mg "least_thing" = some (.ref a_least_thing)) (K_least_thing : PySem.W.keepIn K (.ref a_least_thing) = true) (B_least_thing : Binds K f_least_thing P_least_thing []) :
    FnOk P w K mg base (L2.CX P w) 41 a fd P_least_value (spG K ct 3 S_least_value) := by
  refine fn_ok (N := N_least_value) (ct := ct) F sc_least_value (by decide) (fun cdv A outer s H v E hr => ?_)
  have nd := sc_least_value.nd
  exact ss_cons (ss_set 3 (se_call G_least_sizes (hr.mono (by decide)) (takes_of rfl rfl rfl rfl) rfl M_least_sizes K_least_sizes B_least_sizes (sa_cons (se_var 0) (sa_nil)) (lenA_cons (lenA_nil))) nd)
    (ss_cons (ss_set 4 (se_call G_least_size (hr.mono (by decide)) (takes_of rfl rfl rfl rfl) rfl M_least_size K_least_size B_least_size (sa_cons (se_var 1) (sa_cons (se_var 3) (sa_nil))) (lenA_cons (lenA_cons (lenA_nil)))) nd)
    (ss_cons (ss_if (PW.pt (sw_or (st_cmp o_isN (se_var 4) (se_non)) (sw_or1 (st_cmp o_ge (se_var 4) (se_var 2))))) (ss_one (ss_ret (se_non))) (ss_nil))
    (ss_one (ss_never))))
set_option maxHeartbeats 4000000 in
theorem ok_size_of {a : Addr} {fd : FuncData} (F : L2.Fun K "size_of" "size_of" s_size_of a fd) {a_fits : Addr} {f_fits : FuncData} (G_fits : FnOk P w K mg base (L2.CX P w) 62 a_fits f_fits P_fits (spG K ct 3 (S_fits 20))) (M_fits : mg "fits" = some (.ref a_fits)) (K_fits : PySem.W.keepIn K (.ref a_fits) = true) (B_fits : Binds K f_fits P_fits []) {a_measured : Addr} {f_measured : FuncData} (G_measured : FnOk P w K mg base (L2.CX P w) 21 a_measured f_measured P_measured (spG K ct 3 (S_measured 20))) (M_measured : mg "measured" = some (.ref a_measured)) (K_measured : PySem.W.keepIn K (.ref a_measured) = true) (B_measured : Binds K f_measured P_measured []) :
    FnOk P w K mg base (L2.CX P w) 63 a fd P_size_of (spG K ct 3 S_size_of) := by
  refine fn_ok (N := N_size_of) (ct := ct) F sc_size_of (by decide) (fun cdv A outer s H v E hr => ?_)
  have nd := sc_size_of.nd
  exact ss_cons (ss_if (st_not (st_val (se_call G_fits (hr.mono (by decide)) (takes_of rfl rfl rfl rfl) rfl M_fits K_fits B_fits (sa_cons (se_var 0) (sa_cons (se_var 1) (sa_cons (se_var 2) (sa_nil)))) (lenA_cons (lenA_cons (lenA_cons (lenA_nil))))))) (ss_one (ss_never)) (ss_nil))
    (ss_one (ss_ret (se_call G_measured (hr.mono (by decide)) (takes_of rfl rfl rfl rfl) rfl M_measured K_measured B_measured (sa_cons (se_var 0) (sa_cons (se_var 1) (sa_cons (se_var 2) (sa_nil)))) (lenA_cons (lenA_cons (lenA_cons (lenA_nil)))))))
set_option maxHeartbeats 4000000 in
theorem ok_whole_steps {a : Addr} {fd : FuncData} (F : L2.Fun K "whole_steps" "whole_steps" s_whole_steps a fd) (Z_list : mg "list" = none) (Z_reversed : mg "reversed" = none) :
    FnOk P w K mg base (L2.CX P w) 1 a fd P_whole_steps (spG K ct 2 S_whole_steps) := by
  refine fn_ok (N := N_whole_steps) (ct := ct) F sc_whole_steps (by decide) (fun cdv A outer s H v E hr => ?_)
  have nd := sc_whole_steps.nd
  exact ss_cons (ss_set 2 (SF.nw (sf_lst (sa_nil))) nd)
    (ss_cons (ss_set 3 (se_bin o_sub (se_var 1) (se_var 0)) nd)
    (ss_cons (ss_while fuel (passes_of rfl) (st_cmp o_gt (se_var 3) (se_int)) (ss_cons (ss_set 3 (se_bin o_div (se_var 3) (se_int)) nd)
    (ss_one (ss_expr (se_app (se_var 2) (se_bin o_add (se_var 0) (se_var 3)))))))
    (ss_one (ss_frz 2 (ss_ret (SF.fz (sf_lrev rfl rfl Z_list rfl Z_reversed (se_var 2))))))))
set_option maxHeartbeats 4000000 in
theorem ok_list_steps {a : Addr} {fd : FuncData} (F : L2.Fun K "list_steps" "list_steps" s_list_steps a fd) {k : Nat} (hk : 63 ≤ k) {c_list_steps : List D → Sto → R D} {c_pick_steps : List D → Sto → R D} {c_plain_steps : List D → Sto → R D} {c_row_steps : List D → Sto → R D} {a_left_out : Addr} {f_left_out : FuncData} (G_left_out : FnOk P w K mg base (L2.CX P w) 1 a_left_out f_left_out P_left_out (spG K ct 1 S_left_out)) (M_left_out : mg "left_out" = some (.ref a_left_out)) (K_left_out : PySem.W.keepIn K (.ref a_left_out) = true) (B_left_out : Binds K f_left_out P_left_out []) {a_plain_steps : Addr} {f_plain_steps : FuncData} (G_plain_steps : FnOk P w K mg base (L2.CX P w) k a_plain_steps f_plain_steps P_plain_steps (spG K ct 3 c_plain_steps)) (M_plain_steps : mg "plain_steps" = some (.ref a_plain_steps)) (K_plain_steps : PySem.W.keepIn K (.ref a_plain_steps) = true) (B_plain_steps : Binds K f_plain_steps P_plain_steps []) (Z_enumerate : mg "enumerate" = none) :
    FnOk P w K mg base (L2.CX P w) (k + 1) a fd P_list_steps (spG K ct 3 (U_list_steps c_list_steps c_pick_steps c_plain_steps c_row_steps)) := by
  refine fn_ok (N := N_list_steps) (ct := ct) F sc_list_steps (by decide) (fun cdv A outer s H v E hr => ?_)
  have nd := sc_list_steps.nd
  exact ss_cons (ss_set 3 (se_call G_left_out (hr.mono (Nat.le_trans (by decide) hk)) (takes_of rfl rfl rfl rfl) rfl M_left_out K_left_out B_left_out (sa_cons (se_var 2) (sa_nil)) (lenA_cons (lenA_nil))) nd)
    (ss_cons (ss_for (passes_of rfl) rfl (si_enumX rfl Z_enumerate (sa_cons (se_var 2) (sa_nil))) (sg_tup rfl (sgs_cons (sg_name 4 nd) (sgs_cons (sg_name 5 nd) (sgs_nil)))) (ss_one (ss_for (passes_of rfl) rfl (si_seq (se_frz (se_call G_plain_steps (hr) (takes_of rfl rfl rfl rfl) rfl M_plain_steps K_plain_steps B_plain_steps (sa_cons (se_var 0) (sa_cons (se_var 1) (sa_cons (se_var 5) (sa_nil)))) (lenA_cons (lenA_cons (lenA_cons (lenA_nil))))))) (sg_name 6 nd) (ss_one (ss_expr (se_app (se_var 3) (se_bin o_add (se_bin o_add (se_sl (se_var 2) (so_none) (so_some (se_var 4))) (SF.fz (sf_lst (sa_cons (se_var 6) (sa_nil))))) (se_sl (se_var 2) (so_some (se_bin o_add (se_var 4) (se_int))) (so_none)))))))))
    (ss_one (ss_frz 3 (ss_ret (se_var 3)))))
set_option maxHeartbeats 4000000 in
theorem ok_pick_steps {a : Addr} {fd : FuncData} (F : L2.Fun K "pick_steps" "pick_steps" s_pick_steps a fd) {k : Nat} (hk : 63 ≤ k) {c_list_steps : List D → Sto → R D} {c_pick_steps : List D → Sto → R D} {c_plain_steps : List D → Sto → R D} {c_row_steps : List D → Sto → R D} {a_least_value : Addr} {f_least_value : FuncData} (G_least_value : FnOk P w K mg base (L2.CX P w) 41 a_least_value f_least_value P_least_value (spG K ct 3 S_least_value)) (M_least_value : mg "least_value" = some (.ref a_least_value)) (K_least_value : PySem.W.keepIn K (.ref a_least_value) = true) (B_least_value : Binds K f_least_value P_least_value []) {a_plain_steps : Addr} {f_plain_steps : FuncData} (G_plain_steps : FnOk P w K mg base (L2.CX P w) k a_plain_steps f_plain_steps P_plain_steps (spG K ct 3 c_plain_steps)) (M_plain_steps : mg "plain_steps" = some (.ref a_plain_steps)) (K_plain_steps : PySem.W.keepIn K (.ref a_plain_steps) = true) (B_plain_steps : Binds K f_plain_steps P_plain_steps []) {a_size_of : Addr} {f_size_of : FuncData} (G_size_of : FnOk P w K mg base (L2.CX P w) 63 a_size_of f_size_of P_size_of (spG K ct 3 S_size_of)) (M_size_of : mg "size_of" = some (.ref a_size_of)) (K_size_of : PySem.W.keepIn K (.ref a_size_of) = true) (B_size_of : Binds K f_size_of P_size_of []) :
    FnOk P w K mg base (L2.CX P w) (k + 1) a fd P_pick_steps (spG K ct 3 (U_pick_steps c_list_steps c_pick_steps c_plain_steps c_row_steps)) := by
  refine fn_ok (N := N_pick_steps) (ct := ct) F sc_pick_steps (by decide) (fun cdv A outer s H v E hr => ?_)
  have nd := sc_pick_steps.nd
  exact ss_cons (ss_set 3 (se_call G_size_of (hr.mono (Nat.le_trans (by decide) hk)) (takes_of rfl rfl rfl rfl) rfl M_size_of K_size_of B_size_of (sa_cons (se_var 0) (sa_cons (se_var 1) (sa_cons (se_var 2) (sa_nil)))) (lenA_cons (lenA_cons (lenA_cons (lenA_nil))))) nd)
    (ss_cons (ss_set 4 (SF.nw (sf_lst (sa_nil))) nd)
    (ss_cons (ss_for (passes_of rfl) rfl (si_seq (se_ix (se_var 1) (se_int))) (sg_tup rfl (sgs_cons (sg_name 5 nd) (sgs_cons (sg_name 6 nd) (sgs_nil)))) (ss_cons (ss_if (st_cmp (o_eq (hu_big hr)) (se_var 5) (se_ix (se_var 2) (se_int))) (ss_one (ss_frz 4 (ss_ret (se_bin o_add (se_var 4) (SF.fz (sf_lc [("step", 8)] rfl nd (si_seq (se_frz (se_call G_plain_steps (hr) (takes_of rfl rfl rfl rfl) rfl M_plain_steps K_plain_steps B_plain_steps (sa_cons (se_var 0) (sa_cons (se_var 6) (sa_cons (se_ix (se_var 2) (se_int)) (sa_nil)))) (lenA_cons (lenA_cons (lenA_cons (lenA_nil))))))) (blkOk_by (by change blkC N_pick_steps (defScope s_pick_steps) _ _ = true; decide +kernel)) (by decide) (fun _ _ _ _ _ => sg_name 8 nd) (fun _ _ _ _ _ => sts_nil) (fun _ _ _ _ _ => se_tup (sa_cons (se_var 5) (sa_cons (se_var 8) (sa_nil)))))))))) (ss_nil))
    (ss_cons (ss_set 7 (se_call G_least_value (hr.mono (Nat.le_trans (by decide) hk)) (takes_of rfl rfl rfl rfl) rfl M_least_value K_least_value B_least_value (sa_cons (se_var 0) (sa_cons (se_var 6) (sa_cons (se_var 3) (sa_nil)))) (lenA_cons (lenA_cons (lenA_cons (lenA_nil))))) nd)
    (ss_one (ss_if (st_cmp o_notN (se_var 7) (se_non)) (ss_one (ss_expr (se_app (se_var 4) (se_tup (sa_cons (se_var 5) (sa_cons (se_var 7) (sa_nil))))))) (ss_nil))))))
    (ss_one (ss_frz 4 (ss_ret (se_var 4))))))
set_option maxHeartbeats 4000000 in
theorem ok_plain_steps {a : Addr} {fd : FuncData} (F : L2.Fun K "plain_steps" "plain_steps" s_plain_steps a fd) {k : Nat} (hk : 63 ≤ k) {c_list_steps : List D → Sto → R D} {c_pick_steps : List D → Sto → R D} {c_plain_steps : List D → Sto → R D} {c_row_steps : List D → Sto → R D} {a_at_uses : Addr} {f_at_uses : FuncData} (G_at_uses : FnOk P w K mg base (L2.CX P w) 21 a_at_uses f_at_uses P_at_uses (spG K ct 4 (S_at_uses 20))) (M_at_uses : mg "at_uses" = some (.ref a_at_uses)) (K_at_uses : PySem.W.keepIn K (.ref a_at_uses) = true) (B_at_uses : Binds K f_at_uses P_at_uses []) {a_fits : Addr} {f_fits : FuncData} (G_fits : FnOk P w K mg base (L2.CX P w) 62 a_fits f_fits P_fits (spG K ct 3 (S_fits 20))) (M_fits : mg "fits" = some (.ref a_fits)) (K_fits : PySem.W.keepIn K (.ref a_fits) = true) (B_fits : Binds K f_fits P_fits []) {a_left_out : Addr} {f_left_out : FuncData} (G_left_out : FnOk P w K mg base (L2.CX P w) 1 a_left_out f_left_out P_left_out (spG K ct 1 S_left_out)) (M_left_out : mg "left_out" = some (.ref a_left_out)) (K_left_out : PySem.W.keepIn K (.ref a_left_out) = true) (B_left_out : Binds K f_left_out P_left_out []) {a_list_steps : Addr} {f_list_steps : FuncData} (G_list_steps : FnOk P w K mg base (L2.CX P w) k a_list_steps f_list_steps P_list_steps (spG K ct 3 c_list_steps)) (M_list_steps : mg "list_steps" = some (.ref a_list_steps)) (K_list_steps : PySem.W.keepIn K (.ref a_list_steps) = true) (B_list_steps : Binds K f_list_steps P_list_steps []) {a_pick_steps : Addr} {f_pick_steps : FuncData} (G_pick_steps : FnOk P w K mg base (L2.CX P w) k a_pick_steps f_pick_steps P_pick_steps (spG K ct 3 c_pick_steps)) (M_pick_steps : mg "pick_steps" = some (.ref a_pick_steps)) (K_pick_steps : PySem.W.keepIn K (.ref a_pick_steps) = true) (B_pick_steps : Binds K f_pick_steps P_pick_steps []) {a_plain_steps : Addr} {f_plain_steps : FuncData} (G_plain_steps : FnOk P w K mg base (L2.CX P w) k a_plain_steps f_plain_steps P_plain_steps (spG K ct 3 c_plain_steps)) (M_plain_steps : mg "plain_steps" = some (.ref a_plain_steps)) (K_plain_steps : PySem.W.keepIn K (.ref a_plain_steps) = true) (B_plain_steps : Binds K f_plain_steps P_plain_steps []) {a_row_steps : Addr} {f_row_steps : FuncData} (G_row_steps : FnOk P w K mg base (L2.CX P w) k a_row_steps f_row_steps P_row_steps (spG K ct 3 c_row_steps)) (M_row_steps : mg "row_steps" = some (.ref a_row_steps)) (K_row_steps : PySem.W.keepIn K (.ref a_row_steps) = true) (B_row_steps : Binds K f_row_steps P_row_steps []) {a_shape_of : Addr} {f_shape_of : FuncData} (G_shape_of : FnOk P w K mg base (L2.CX P w) 1 a_shape_of f_shape_of P_shape_of (spG K ct 2 S_shape_of)) (M_shape_of : mg "shape_of" = some (.ref a_shape_of)) (K_shape_of : PySem.W.keepIn K (.ref a_shape_of) = true) (B_shape_of : Binds K f_shape_of P_shape_of []) {a_whole_steps : Addr} {f_whole_steps : FuncData} (G_whole_steps : FnOk P w K mg base (L2.CX P w) 1 a_whole_steps f_whole_steps P_whole_steps (spG K ct 2 S_whole_steps)) (M_whole_steps : mg "whole_steps" = some (.ref a_whole_steps)) (K_whole_steps : PySem.W.keepIn K (.ref a_whole_steps) = true) (B_whole_steps : Binds K f_whole_steps P_whole_steps []) :
    FnOk P w K mg base (L2.CX P w) (k + 1) a fd P_plain_steps (spG K ct 3 (U_plain_steps c_list_steps c_pick_steps c_plain_steps c_row_steps)) := by
  refine fn_ok (N := N_plain_steps) (ct := ct) F sc_plain_steps (by decide) (fun cdv A outer s H v E hr => ?_)
  have nd := sc_plain_steps.nd
  exact ss_cons (ss_set 3 (se_ix (se_var 1) (se_int)) nd)
    (ss_cons (ss_if (st_cmp (o_eq (hu_big hr)) (se_var 3) (se_str)) (ss_one (ss_ret (se_call G_whole_steps (hr.mono (Nat.le_trans (by decide) hk)) (takes_of rfl rfl rfl rfl) rfl M_whole_steps K_whole_steps B_whole_steps (sa_cons (se_ix (se_var 1) (se_int)) (sa_cons (se_var 2) (sa_nil))) (lenA_cons (lenA_cons (lenA_nil)))))) (ss_nil))
    (ss_cons (ss_if (st_cmp (o_eq (hu_big hr)) (se_var 3) (se_str)) (ss_one (ss_ret (se_call G_left_out (hr.mono (Nat.le_trans (by decide) hk)) (takes_of rfl rfl rfl rfl) rfl M_left_out K_left_out B_left_out (sa_cons (se_var 2) (sa_nil)) (lenA_cons (lenA_nil))))) (ss_nil))
    (ss_cons (ss_if (st_cmp (o_eq (hu_big hr)) (se_var 3) (se_str)) (ss_one (ss_ret (se_call G_row_steps (hr) (takes_of rfl rfl rfl rfl) rfl M_row_steps K_row_steps B_row_steps (sa_cons (se_var 0) (sa_cons (se_ix (se_var 1) (se_int)) (sa_cons (se_var 2) (sa_nil)))) (lenA_cons (lenA_cons (lenA_cons (lenA_nil))))))) (ss_nil))
    (ss_cons (ss_if (st_cmp (o_eq (hu_big hr)) (se_var 3) (se_str)) (ss_one (ss_ret (se_call G_list_steps (hr) (takes_of rfl rfl rfl rfl) rfl M_list_steps K_list_steps B_list_steps (sa_cons (se_var 0) (sa_cons (se_ix (se_var 1) (se_int)) (sa_cons (se_var 2) (sa_nil)))) (lenA_cons (lenA_cons (lenA_cons (lenA_nil))))))) (ss_nil))
    (ss_cons (ss_if (st_cmp (o_eq (hu_big hr)) (se_var 3) (se_str)) (ss_one (ss_ret (SF.fz (sf_lc [("step", 5)] rfl nd (si_seq (se_frz (se_call G_plain_steps (hr) (takes_of rfl rfl rfl rfl) rfl M_plain_steps K_plain_steps B_plain_steps (sa_cons (se_var 0) (sa_cons (se_ix (se_var 1) (se_int)) (sa_cons (se_ix (se_var 2) (se_int)) (sa_nil)))) (lenA_cons (lenA_cons (lenA_cons (lenA_nil))))))) (blkOk_by (by change blkC N_plain_steps (defScope s_plain_steps) _ _ = true; decide +kernel)) (by decide) (fun _ _ _ _ _ => sg_name 5 nd) (fun _ _ _ _ _ => sts_nil) (fun _ _ _ _ _ => se_bin o_mul (SF.fz (sf_lst (sa_cons (se_var 5) (sa_nil)))) (se_ix (se_var 1) (se_int))))))) (ss_nil))
    (ss_cons (ss_if (st_cmp (o_eq (hu_big hr)) (se_var 3) (se_str)) (ss_one (ss_ret (se_call G_pick_steps (hr) (takes_of rfl rfl rfl rfl) rfl M_pick_steps K_pick_steps B_pick_steps (sa_cons (se_var 0) (sa_cons (se_var 1) (sa_cons (se_var 2) (sa_nil)))) (lenA_cons (lenA_cons (lenA_cons (lenA_nil))))))) (ss_nil))
    (ss_cons (ss_if (st_cmp (o_eq (hu_big hr)) (se_var 3) (se_str)) (ss_cons (ss_set 4 (se_call G_shape_of (hr.mono (Nat.le_trans (by decide) hk)) (takes_of rfl rfl rfl rfl) rfl M_shape_of K_shape_of B_shape_of (sa_cons (se_var 0) (sa_cons (se_ix (se_var 1) (se_int)) (sa_nil))) (lenA_cons (lenA_cons (lenA_nil)))) nd)
    (ss_one (ss_ret (se_bin o_add (se_call G_at_uses (hr.mono (Nat.le_trans (by decide) hk)) (takes_of rfl rfl rfl rfl) rfl M_at_uses K_at_uses B_at_uses (sa_cons (se_var 0) (sa_cons (se_ix (se_var 1) (se_int)) (sa_cons (se_var 4) (sa_cons (se_var 2) (sa_nil))))) (lenA_cons (lenA_cons (lenA_cons (lenA_cons (lenA_nil)))))) (se_call G_plain_steps (hr) (takes_of rfl rfl rfl rfl) rfl M_plain_steps K_plain_steps B_plain_steps (sa_cons (se_var 0) (sa_cons (se_var 4) (sa_cons (se_var 2) (sa_nil)))) (lenA_cons (lenA_cons (lenA_cons (lenA_nil))))))))) (ss_nil))
    (ss_one (ss_ret (SF.fz (sf_lc [("step", 5)] rfl nd (si_seq (se_frz (se_call G_list_steps (hr) (takes_of rfl rfl rfl rfl) rfl M_list_steps K_list_steps B_list_steps (sa_cons (se_var 0) (sa_cons (se_ix (se_var 1) (se_int)) (sa_cons (se_var 2) (sa_nil)))) (lenA_cons (lenA_cons (lenA_cons (lenA_nil))))))) (blkOk_by (by change blkC N_plain_steps (defScope s_plain_steps) _ _ = true; decide +kernel)) (by decide) (fun _ _ _ _ _ => sg_name 5 nd) (fun _ _ _ _ _ => sts_one (st_val (se_call G_fits (hr.mono (Nat.le_trans (by decide) hk)) takes0 rfl M_fits K_fits B_fits (sa_cons (se_var 0) (sa_cons (se_var 1) (sa_cons (se_var 5) (sa_nil)))) (lenA_cons (lenA_cons (lenA_cons (lenA_nil))))))) (fun _ _ _ _ _ => se_var 5))))))))))))
set_option maxHeartbeats 4000000 in
theorem ok_row_steps {a : Addr} {fd : FuncData} (F : L2.Fun K "row_steps" "row_steps" s_row_steps a fd) {k : Nat} (hk : 63 ≤ k) {c_list_steps : List D → Sto → R D} {c_pick_steps : List D → Sto → R D} {c_plain_steps : List D → Sto → R D} {c_row_steps : List D → Sto → R D} {a_plain_steps : Addr} {f_plain_steps : FuncData} (G_plain_steps : FnOk P w K mg base (L2.CX P w) k a_plain_steps f_plain_steps P_plain_steps (spG K ct 3 c_plain_steps)) (M_plain_steps : mg "plain_steps" = some (.ref a_plain_steps)) (K_plain_steps : PySem.W.keepIn K (.ref a_plain_steps) = true) (B_plain_steps : Binds K f_plain_steps P_plain_steps []) (Z_enumerate : mg "enumerate" = none) :
    FnOk P w K mg base (L2.CX P w) (k + 1) a fd P_row_steps (spG K ct 3 (U_row_steps c_list_steps c_pick_steps c_plain_steps c_row_steps)) := by
  refine fn_ok (N := N_row_steps) (ct := ct) F sc_row_steps (by decide) (fun cdv A outer s H v E hr => ?_)
  have nd := sc_row_steps.nd
  exact ss_cons (ss_set 3 (SF.nw (sf_lst (sa_nil))) nd)
    (ss_cons (ss_for (passes_of rfl) rfl (si_enumX rfl Z_enumerate (sa_cons (se_var 1) (sa_nil))) (sg_tup rfl (sgs_cons (sg_name 4 nd) (sgs_cons (sg_name 5 nd) (sgs_nil)))) (ss_one (ss_for (passes_of rfl) rfl (si_seq (se_frz (se_call G_plain_steps (hr) (takes_of rfl rfl rfl rfl) rfl M_plain_steps K_plain_steps B_plain_steps (sa_cons (se_var 0) (sa_cons (se_var 5) (sa_cons (se_ix (se_var 2) (se_var 4)) (sa_nil)))) (lenA_cons (lenA_cons (lenA_cons (lenA_nil))))))) (sg_name 6 nd) (ss_one (ss_expr (se_app (se_var 3) (se_bin o_add (se_bin o_add (se_sl (se_var 2) (so_none) (so_some (se_var 4))) (se_tup (sa_cons (se_var 6) (sa_nil)))) (se_sl (se_var 2) (so_some (se_bin o_add (se_var 4) (se_int))) (so_none)))))))))
    (ss_one (ss_frz 3 (ss_ret (se_var 3)))))
set_option maxHeartbeats 4000000 in
theorem ok_steps_of {a : Addr} {fd : FuncData} (F : L2.Fun K "steps_of" "steps_of" s_steps_of a fd) {a_fits : Addr} {f_fits : FuncData} (G_fits : FnOk P w K mg base (L2.CX P w) 62 a_fits f_fits P_fits (spG K ct 3 (S_fits 20))) (M_fits : mg "fits" = some (.ref a_fits)) (K_fits : PySem.W.keepIn K (.ref a_fits) = true) (B_fits : Binds K f_fits P_fits []) {a_own_copy : Addr} {f_own_copy : FuncData} (G_own_copy : FnOk P w K mg base (L2.CX P w) 20 a_own_copy f_own_copy P_own_copy (spG K ct 1 (S_own_copy 20))) (M_own_copy : mg "own_copy" = some (.ref a_own_copy)) (K_own_copy : PySem.W.keepIn K (.ref a_own_copy) = true) (B_own_copy : Binds K f_own_copy P_own_copy []) {a_plain_steps : Addr} {f_plain_steps : FuncData} (G_plain_steps : FnOk P w K mg base (L2.CX P w) 83 a_plain_steps f_plain_steps P_plain_steps (spG K ct 3 (S_plain_steps 20))) (M_plain_steps : mg "plain_steps" = some (.ref a_plain_steps)) (K_plain_steps : PySem.W.keepIn K (.ref a_plain_steps) = true) (B_plain_steps : Binds K f_plain_steps P_plain_steps []) :
    FnOk P w K mg base (L2.CX P w) 84 a fd P_steps_of (spG K ct 3 S_steps_of) := by
  refine fn_ok (N := N_steps_of) (ct := ct) F sc_steps_of (by decide) (fun cdv A outer s H v E hr => ?_)
  have nd := sc_steps_of.nd
  exact ss_cons (ss_if (st_not (st_val (se_call G_fits (hr.mono (by decide)) (takes_of rfl rfl rfl rfl) rfl M_fits K_fits B_fits (sa_cons (se_var 0) (sa_cons (se_var 1) (sa_cons (se_var 2) (sa_nil)))) (lenA_cons (lenA_cons (lenA_cons (lenA_nil))))))) (ss_one (ss_never)) (ss_nil))
    (ss_one (ss_ret (SF.fz (sf_lc [("step", 3)] rfl nd (si_seq (se_frz (se_call G_plain_steps (hr.mono (by decide)) (takes_of rfl rfl rfl rfl) rfl M_plain_steps K_plain_steps B_plain_steps (sa_cons (se_var 0) (sa_cons (se_var 1) (sa_cons (se_var 2) (sa_nil)))) (lenA_cons (lenA_cons (lenA_cons (lenA_nil))))))) (blkOk_by (by change blkC N_steps_of (defScope s_steps_of) _ _ = true; decide +kernel)) (by decide) (fun _ _ _ _ _ => sg_name 3 nd) (fun _ _ _ _ _ => sts_nil) (fun _ _ _ _ _ => se_call G_own_copy (hr.mono (by decide)) takes0 rfl M_own_copy K_own_copy B_own_copy (sa_cons (se_var 3) (sa_nil)) (lenA_cons (lenA_nil)))))))
set_option maxHeartbeats 4000000 in
theorem ok_law {a : Addr} {fd : FuncData} (F : L2.Fun K "law" "law" s_law a fd) {a_l_alike : Addr} {f_l_alike : FuncData} (G_l_alike : FnOk P w K mg base (L2.CX P w) 1 a_l_alike f_l_alike P_l_alike (spG K ct 3 S_l_alike)) (M_l_alike : mg "_law_alike" = some (.ref a_l_alike)) (K_l_alike : PySem.W.keepIn K (.ref a_l_alike) = true) (B_l_alike : Binds K f_l_alike P_l_alike []) {a_l_cell_at : Addr} {f_l_cell_at : FuncData} (G_l_cell_at : FnOk P w K mg base (L2.CX P w) 1 a_l_cell_at f_l_cell_at P_l_cell_at (spG K ct 2 S_l_cell_at)) (M_l_cell_at : mg "_law_cell_at" = some (.ref a_l_cell_at)) (K_l_cell_at : PySem.W.keepIn K (.ref a_l_cell_at) = true) (B_l_cell_at : Binds K f_l_cell_at P_l_cell_at []) {a_l_count : Addr} {f_l_count : FuncData} (G_l_count : FnOk P w K mg base (L2.CX P w) 2 a_l_count f_l_count P_l_count (spG K ct 2 S_l_count)) (M_l_count : mg "_law_count" = some (.ref a_l_count)) (K_l_count : PySem.W.keepIn K (.ref a_l_count) = true) (B_l_count : Binds K f_l_count P_l_count []) {a_l_inner : Addr} {f_l_inner : FuncData} (G_l_inner : FnOk P w K mg base (L2.CX P w) 1 a_l_inner f_l_inner P_l_inner (spG K ct 2 S_l_inner)) (M_l_inner : mg "_law_inner" = some (.ref a_l_inner)) (K_l_inner : PySem.W.keepIn K (.ref a_l_inner) = true) (B_l_inner : Binds K f_l_inner P_l_inner []) {a_l_part : Addr} {f_l_part : FuncData} (G_l_part : FnOk P w K mg base (L2.CX P w) 2 a_l_part f_l_part P_l_part (spG K ct 1 S_l_part)) (M_l_part : mg "_law_part" = some (.ref a_l_part)) (K_l_part : PySem.W.keepIn K (.ref a_l_part) = true) (B_l_part : Binds K f_l_part P_l_part []) {a_l_signs : Addr} {f_l_signs : FuncData} (G_l_signs : FnOk P w K mg base (L2.CX P w) 1 a_l_signs f_l_signs P_l_signs (spG K ct 2 S_l_signs)) (M_l_signs : mg "_law_signs" = some (.ref a_l_signs)) (K_l_signs : PySem.W.keepIn K (.ref a_l_signs) = true) (B_l_signs : Binds K f_l_signs P_l_signs []) {a_l_thing : Addr} {f_l_thing : FuncData} (G_l_thing : FnOk P w K mg base (L2.CX P w) 1 a_l_thing f_l_thing P_l_thing (spG K ct 2 S_l_thing)) (M_l_thing : mg "_law_thing" = some (.ref a_l_thing)) (K_l_thing : PySem.W.keepIn K (.ref a_l_thing) = true) (B_l_thing : Binds K f_l_thing P_l_thing []) {a_steps_of : Addr} {f_steps_of : FuncData} (G_steps_of : FnOk P w K mg base (L2.CX P w) 84 a_steps_of f_steps_of P_steps_of (spG K ct 3 S_steps_of)) (M_steps_of : mg "steps_of" = some (.ref a_steps_of)) (K_steps_of : PySem.W.keepIn K (.ref a_steps_of) = true) (B_steps_of : Binds K f_steps_of P_steps_of []) (Z_isinstance : mg "isinstance" = none) (Z_len : mg "len" = none) (Z_list : mg "list" = none) (Z_max : mg "max" = none) (Z_range : mg "range" = none) (Z_tuple : mg "tuple" = none) (Z_zip : mg "zip" = none) :
    FnOk P w K mg base (L2.CX P w) 85 a fd P_law (spG K ct 1 S_law) := by
  refine fn_ok (N := N_law) (ct := ct) F sc_law (by decide) (fun cdv A outer s H v E hr => ?_)
  have nd := sc_law.nd
  exact ss_cons (ss_set 1 (SF.fz (sf_lst (sa_cons (se_tup (sa_cons (se_str) (sa_cons (se_tup (sa_cons (se_str) (sa_cons (se_tup (sa_nil)) (sa_nil)))) (sa_nil)))) (sa_nil)))) nd)
    (ss_cons (ss_set 2 (se_call G_l_signs (hr.mono (by decide)) (takes_of rfl rfl rfl rfl) rfl M_l_signs K_l_signs B_l_signs (sa_cons (se_call G_l_cell_at (hr.mono (by decide)) (takes_of rfl rfl rfl rfl) rfl M_l_cell_at K_l_cell_at B_l_cell_at (sa_cons (se_var 0) (sa_cons (se_int) (sa_nil))) (lenA_cons (lenA_cons (lenA_nil)))) (sa_cons (se_bin o_add (se_int) (se_bin o_mod (se_call G_l_cell_at (hr.mono (by decide)) (takes_of rfl rfl rfl rfl) rfl M_l_cell_at K_l_cell_at B_l_cell_at (sa_cons (se_var 0) (sa_cons (se_int) (sa_nil))) (lenA_cons (lenA_cons (lenA_nil)))) (se_int))) (sa_nil))) (lenA_cons (lenA_cons (lenA_nil)))) nd)
    (ss_cons (ss_set 3 (se_bin o_mod (se_call G_l_cell_at (hr.mono (by decide)) (takes_of rfl rfl rfl rfl) rfl M_l_cell_at K_l_cell_at B_l_cell_at (sa_cons (se_var 0) (sa_cons (se_int) (sa_nil))) (lenA_cons (lenA_cons (lenA_nil)))) (se_int)) nd)
    (ss_cons (ss_set 4 (se_call G_l_cell_at (hr.mono (by decide)) (takes_of rfl rfl rfl rfl) rfl M_l_cell_at K_l_cell_at B_l_cell_at (sa_cons (se_var 0) (sa_cons (se_int) (sa_nil))) (lenA_cons (lenA_cons (lenA_nil)))) nd)
    (ss_cons (ss_set 5 (se_m1 PySem.F.slot_str_join PySem.F.type_str_join m_join (se_str) (SF.fz (sf_lc [("_law_k", 11)] rfl nd (si_range1 rfl Z_range (sa_cons (se_var 3) (sa_nil))) (blkOk_by (by change blkC N_law (defScope s_law) _ _ = true; decide +kernel)) (by decide) (fun _ _ _ _ _ => sg_name 11 nd) (fun _ _ _ _ _ => sts_nil) (fun _ _ _ _ _ => se_ix (se_var 2) (se_bin o_mod (se_bin o_mod (se_bin o_mul (se_var 4) (se_bin o_add (se_bin o_mul (se_var 11) (se_var 11)) (se_int))) (se_int)) (se_callB (b_len) rfl Z_len (by decide +kernel) (sa_cons (se_var 2) (sa_nil)))))))) nd)
    (ss_cons (ss_set 6 (se_call G_steps_of (hr.mono (by decide)) (takes_of rfl rfl rfl rfl) rfl M_steps_of K_steps_of B_steps_of (sa_cons (se_var 1) (sa_cons (se_tup (sa_cons (se_str) (sa_cons (se_var 2) (sa_nil)))) (sa_cons (se_var 5) (sa_nil)))) (lenA_cons (lenA_cons (lenA_cons (lenA_nil))))) nd)
    (ss_cons (ss_if (PW.pt (sw_or (st_not (st_val (se_isi (n := "list") (se_var 6) rfl Z_isinstance rfl Z_list (by decide +kernel)))) (sw_or1 (st_cmp (o_ne (hu_big hr)) (se_var 6) (SF.fz (sf_lc [("_law_k", 11)] rfl nd (si_range1 rfl Z_range (sa_cons (se_var 3) (sa_nil))) (blkOk_by (by change blkC N_law (defScope s_law) _ _ = true; decide +kernel)) (by decide) (fun _ _ _ _ _ => sg_name 11 nd) (fun _ _ _ _ _ => sts_nil) (fun _ _ _ _ _ => se_bin o_add (se_sl (se_var 5) (so_none) (so_some (se_var 11))) (se_sl (se_var 5) (so_some (se_bin o_add (se_var 11) (se_int))) (so_none))))))))) (ss_one (ss_ret (se_bl))) (ss_nil))
    (ss_cons (ss_set 7 (se_bin o_add (se_sl (se_var 0) (so_some (se_int)) (so_some (se_int))) (SF.fz (sf_lc [("_law_k", 11)] rfl nd (si_range1 rfl Z_range (sa_cons (se_int) (sa_nil))) (blkOk_by (by change blkC N_law (defScope s_law) _ _ = true; decide +kernel)) (by decide) (fun _ _ _ _ _ => sg_name 11 nd) (fun _ _ _ _ _ => sts_nil) (fun _ _ _ _ _ => se_bin o_mod (se_bin o_mul (se_bin o_add (se_var 4) (se_bin o_mul (se_bin o_mul (se_int) (se_var 11)) (se_var 11))) (se_int)) (se_int))))) nd)
    (ss_cons (ss_set 7 (se_sl (se_var 7) (so_none) (so_some (se_callB (b_max2 rfl) rfl Z_max (by decide +kernel) (sa_cons (se_callB (b_len) rfl Z_len (by decide +kernel) (sa_cons (se_sl (se_var 0) (so_some (se_int)) (so_some (se_int))) (sa_nil))) (sa_cons (se_bin o_mod (se_var 4) (se_int)) (sa_nil)))))) nd)
    (ss_cons (ss_setLc 8 (g := eFz) [("_law_cell", 16)] (fun _ _ _ z => lift_fz z) rfl nd rfl rfl (sw_true rfl rfl rfl (by decide +kernel)) (si_seq (se_var 7)) (blkOk_by (by change blkC N_law (defScope s_law) _ _ = true; decide +kernel)) (by decide) (fun _ _ _ _ _ => sg_name 16 nd) (fun _ _ _ _ _ => sts_nil) (fun _ _ _ _ _ => se_call G_l_part (hr.mono (by decide)) takes0 rfl M_l_part K_l_part B_l_part (sa_cons (se_var 16) (sa_nil)) (lenA_cons (lenA_nil))))
    (ss_cons (ss_setLc 9 (g := eFz) [("_law_part_here", 17), ("_law_cell", 16)] (fun _ _ _ z => lift_fz z) rfl nd rfl rfl (sw_true rfl rfl rfl (by decide +kernel)) (si_zip rfl Z_zip (sa_cons (se_var 8) (sa_cons (se_var 7) (sa_nil)))) (blkOk_by (by change blkC N_law (defScope s_law) _ _ = true; decide +kernel)) (by decide) (fun _ _ _ _ _ => sg_tup rfl (sgs_cons (sg_name 17 nd) (sgs_cons (sg_name 16 nd) (sgs_nil)))) (fun _ _ _ _ _ => sts_nil) (fun _ _ _ _ _ => se_call G_l_thing (hr.mono (by decide)) takes0 rfl M_l_thing K_l_thing B_l_thing (sa_cons (se_var 17) (sa_cons (se_bin o_div (se_var 16) (se_int)) (sa_nil))) (lenA_cons (lenA_cons (lenA_nil)))))
    (ss_cons (ss_set 10 (SF.nw (sf_lst (sa_nil))) nd)
    (ss_cons (ss_for (passes_of rfl) rfl (si_range1 rfl Z_range (sa_cons (se_callB (b_len) rfl Z_len (by decide +kernel) (sa_cons (se_var 8) (sa_nil))) (sa_nil))) (sg_name 11 nd) (ss_one (ss_for (passes_of rfl) rfl (si_seq (se_frz (se_call G_l_inner (hr.mono (by decide)) (takes_of rfl rfl rfl rfl) rfl M_l_inner K_l_inner B_l_inner (sa_cons (se_ix (se_var 8) (se_var 11)) (sa_cons (se_ix (se_var 9) (se_var 11)) (sa_nil))) (lenA_cons (lenA_cons (lenA_nil)))))) (sg_name 12 nd) (ss_one (ss_expr (se_app (se_var 10) (se_callT (b_tuple) rfl Z_tuple (by decide +kernel) (sa_cons (se_bin o_add (se_bin o_add (se_sl (se_var 9) (so_none) (so_some (se_var 11))) (SF.fz (sf_lst (sa_cons (se_var 12) (sa_nil))))) (se_sl (se_var 9) (so_some (se_bin o_add (se_var 11) (se_int))) (so_none))) (sa_nil)))))))))
    (ss_cons (ss_set 13 (se_tup (sa_cons (se_str) (sa_cons (se_callT (b_tuple) rfl Z_tuple (by decide +kernel) (sa_cons (se_var 8) (sa_nil))) (sa_nil)))) nd)
    (ss_cons (ss_if (st_not (st_val (se_callBr G_l_alike (hr.mono (by decide)) (takes_of rfl rfl rfl rfl) rfl M_l_alike K_l_alike B_l_alike (sa_cons (se_call G_steps_of (hr.mono (by decide)) (takes_of rfl rfl rfl rfl) rfl M_steps_of K_steps_of B_steps_of (sa_cons (se_var 1) (sa_cons (se_var 13) (sa_cons (se_callT (b_tuple) rfl Z_tuple (by decide +kernel) (sa_cons (se_var 9) (sa_nil))) (sa_nil)))) (lenA_cons (lenA_cons (lenA_cons (lenA_nil))))) (sa_cons (se_var 8) (sa_cons (se_var 10) (sa_nil)))) (lenA_cons (lenA_cons (lenA_cons (lenA_nil))))))) (ss_one (ss_ret (se_bl))) (ss_nil))
    (ss_cons (ss_set 14 (se_callT (b_tuple) rfl Z_tuple (by decide +kernel) (sa_cons (se_sl (se_var 9) (so_none) (so_some (se_int))) (sa_nil))) nd)
    (ss_cons (ss_set 15 (se_sl (se_var 5) (so_none) (so_some (se_int))) nd)
    (ss_cons (ss_frz 10 (ss_setLc 10 (g := eNw) [("_law_step", 18)] (fun _ _ _ z => lift_nw z) rfl nd rfl rfl (sw_true rfl rfl rfl (by decide +kernel)) (si_seq (se_sl (se_var 10) (so_none) (so_some (se_call G_l_count (hr.mono (by decide)) (takes_of rfl rfl rfl rfl) rfl M_l_count K_l_count B_l_count (sa_cons (se_sl (se_var 8) (so_none) (so_some (se_int))) (sa_cons (se_sl (se_var 9) (so_none) (so_some (se_int))) (sa_nil))) (lenA_cons (lenA_cons (lenA_nil))))))) (blkOk_by (by change blkC N_law (defScope s_law) _ _ = true; decide +kernel)) (by decide) (fun _ _ _ _ _ => sg_name 18 nd) (fun _ _ _ _ _ => sts_nil) (fun _ _ _ _ _ => se_tup (sa_cons (se_sl (se_var 18) (so_none) (so_some (se_int))) (sa_cons (se_var 15) (sa_nil))))))
    (ss_cons (ss_frz 10 (ss_set 10 (se_bin o_add (se_var 10) (SF.fz (sf_lc [("_law_k", 11)] rfl nd (si_range1 rfl Z_range (sa_cons (se_callB (b_len) rfl Z_len (by decide +kernel) (sa_cons (se_var 15) (sa_nil))) (sa_nil))) (blkOk_by (by change blkC N_law (defScope s_law) _ _ = true; decide +kernel)) (by decide) (fun _ _ _ _ _ => sg_name 11 nd) (fun _ _ _ _ _ => sts_nil) (fun _ _ _ _ _ => se_tup (sa_cons (se_var 14) (sa_cons (se_bin o_add (se_sl (se_var 15) (so_none) (so_some (se_var 11))) (se_sl (se_var 15) (so_some (se_bin o_add (se_var 11) (se_int))) (so_none))) (sa_nil))))))) nd))
    (ss_cons (ss_set 6 (se_call G_steps_of (hr.mono (by decide)) (takes_of rfl rfl rfl rfl) rfl M_steps_of K_steps_of B_steps_of (sa_cons (se_var 1) (sa_cons (se_tup (sa_cons (se_str) (sa_cons (se_tup (sa_cons (se_tup (sa_cons (se_str) (sa_cons (se_callT (b_tuple) rfl Z_tuple (by decide +kernel) (sa_cons (se_sl (se_var 8) (so_none) (so_some (se_int))) (sa_nil))) (sa_nil)))) (sa_cons (se_tup (sa_cons (se_str) (sa_cons (se_var 2) (sa_nil)))) (sa_nil)))) (sa_nil)))) (sa_cons (se_tup (sa_cons (se_var 14) (sa_cons (se_var 15) (sa_nil)))) (sa_nil)))) (lenA_cons (lenA_cons (lenA_cons (lenA_nil))))) nd)
    (ss_one (ss_ret (se_and (se_isi (n := "list") (se_var 6) rfl Z_isinstance rfl Z_list (by decide +kernel)) (se_one (se_cmp (o_eq (hu_big hr)) (se_var 6) (se_var 10)))))))))))))))))))))))))
end
def ctOf (c_NoName : Addr) : String → Addr := fun s => if s = "NoName" then c_NoName else 0
set_option maxHeartbeats 4000000 in
theorem all_mk {l : PySem.W.OpenLaw} {w : World} {K : PySem.W.Frag} {h : Heap} {mg : Str → Option Value} {fa : Addr} (X : K.In h) (G : h.Ns mainGlobals mg) (hfa : mg "law" = some (.ref fa))
    {c_NoName : Addr}
    {a_l_alike : Addr} {od0 an0 : Option Addr} {sl0 : Array (Option Value)} {oc0 kV0 dc0 pm0 cd0 ct0 : Value}
    {a_l_cell_at : Addr} {od1 an1 : Option Addr} {sl1 : Array (Option Value)} {oc1 kV1 dc1 pm1 cd1 ct1 : Value}
    {a_l_inner : Addr} {od2 an2 : Option Addr} {sl2 : Array (Option Value)} {oc2 kV2 dc2 pm2 cd2 ct2 : Value}
    {a_l_count : Addr} {od3 an3 : Option Addr} {sl3 : Array (Option Value)} {oc3 kV3 dc3 pm3 cd3 ct3 : Value}
    {a_l_signs : Addr} {od4 an4 : Option Addr} {sl4 : Array (Option Value)} {oc4 kV4 dc4 pm4 cd4 ct4 : Value}
    {a_l_part : Addr} {od5 an5 : Option Addr} {sl5 : Array (Option Value)} {oc5 kV5 dc5 pm5 cd5 ct5 : Value}
    {a_l_thing : Addr} {od6 an6 : Option Addr} {sl6 : Array (Option Value)} {oc6 kV6 dc6 pm6 cd6 ct6 : Value}
    {a_place_of : Addr} {od7 an7 : Option Addr} {sl7 : Array (Option Value)} {oc7 kV7 dc7 pm7 cd7 ct7 : Value}
    {a_all_alike : Addr} {od8 an8 : Option Addr} {sl8 : Array (Option Value)} {oc8 kV8 dc8 pm8 cd8 ct8 : Value}
    {a_shape_of : Addr} {od9 an9 : Option Addr} {sl9 : Array (Option Value)} {oc9 kV9 dc9 pm9 cd9 ct9 : Value}
    {a_measured : Addr} {od10 an10 : Option Addr} {sl10 : Array (Option Value)} {oc10 kV10 dc10 pm10 cd10 ct10 : Value}
    {a_heaps : Addr} {od11 an11 : Option Addr} {sl11 : Array (Option Value)} {oc11 kV11 dc11 pm11 cd11 ct11 : Value}
    {a_order_of_heaps : Addr} {od12 an12 : Option Addr} {sl12 : Array (Option Value)} {oc12 kV12 dc12 pm12 cd12 ct12 : Value}
    {a_sign_of : Addr} {od13 an13 : Option Addr} {sl13 : Array (Option Value)} {oc13 kV13 dc13 pm13 cd13 ct13 : Value}
    {a_order_of_texts : Addr} {od14 an14 : Option Addr} {sl14 : Array (Option Value)} {oc14 kV14 dc14 pm14 cd14 ct14 : Value}
    {a_order_of_rows : Addr} {od15 an15 : Option Addr} {sl15 : Array (Option Value)} {oc15 kV15 dc15 pm15 cd15 ct15 : Value}
    {a_order_of_picks : Addr} {od16 an16 : Option Addr} {sl16 : Array (Option Value)} {oc16 kV16 dc16 pm16 cd16 ct16 : Value}
    {a_order : Addr} {od17 an17 : Option Addr} {sl17 : Array (Option Value)} {oc17 kV17 dc17 pm17 cd17 ct17 : Value}
    {a_rises : Addr} {od18 an18 : Option Addr} {sl18 : Array (Option Value)} {oc18 kV18 dc18 pm18 cd18 ct18 : Value}
    {a_fits_parts : Addr} {od19 an19 : Option Addr} {sl19 : Array (Option Value)} {oc19 kV19 dc19 pm19 cd19 ct19 : Value}
    {a_fits_list : Addr} {od20 an20 : Option Addr} {sl20 : Array (Option Value)} {oc20 kV20 dc20 pm20 cd20 ct20 : Value}
    {a_fits_branch : Addr} {od21 an21 : Option Addr} {sl21 : Array (Option Value)} {oc21 kV21 dc21 pm21 cd21 ct21 : Value}
    {a_fits : Addr} {od22 an22 : Option Addr} {sl22 : Array (Option Value)} {oc22 kV22 dc22 pm22 cd22 ct22 : Value}
    {a_own_copy : Addr} {od23 an23 : Option Addr} {sl23 : Array (Option Value)} {oc23 kV23 dc23 pm23 cd23 ct23 : Value}
    {a_within_parts : Addr} {od24 an24 : Option Addr} {sl24 : Array (Option Value)} {oc24 kV24 dc24 pm24 cd24 ct24 : Value}
    {a_at_uses : Addr} {od25 an25 : Option Addr} {sl25 : Array (Option Value)} {oc25 kV25 dc25 pm25 cd25 ct25 : Value}
    {a_left_out : Addr} {od26 an26 : Option Addr} {sl26 : Array (Option Value)} {oc26 kV26 dc26 pm26 cd26 ct26 : Value}
    {a_least_of_row : Addr} {od27 an27 : Option Addr} {sl27 : Array (Option Value)} {oc27 kV27 dc27 pm27 cd27 ct27 : Value}
    {a_least_of_pick : Addr} {od28 an28 : Option Addr} {sl28 : Array (Option Value)} {oc28 kV28 dc28 pm28 cd28 ct28 : Value}
    {a_least_size : Addr} {od29 an29 : Option Addr} {sl29 : Array (Option Value)} {oc29 kV29 dc29 pm29 cd29 ct29 : Value}
    {a_least_sizes : Addr} {od30 an30 : Option Addr} {sl30 : Array (Option Value)} {oc30 kV30 dc30 pm30 cd30 ct30 : Value}
    {a_least_thing : Addr} {od31 an31 : Option Addr} {sl31 : Array (Option Value)} {oc31 kV31 dc31 pm31 cd31 ct31 : Value}
    {a_least_value : Addr} {od32 an32 : Option Addr} {sl32 : Array (Option Value)} {oc32 kV32 dc32 pm32 cd32 ct32 : Value}
    {a_size_of : Addr} {od33 an33 : Option Addr} {sl33 : Array (Option Value)} {oc33 kV33 dc33 pm33 cd33 ct33 : Value}
    {a_whole_steps : Addr} {od34 an34 : Option Addr} {sl34 : Array (Option Value)} {oc34 kV34 dc34 pm34 cd34 ct34 : Value}
    {a_row_steps : Addr} {od35 an35 : Option Addr} {sl35 : Array (Option Value)} {oc35 kV35 dc35 pm35 cd35 ct35 : Value}
    {a_pick_steps : Addr} {od36 an36 : Option Addr} {sl36 : Array (Option Value)} {oc36 kV36 dc36 pm36 cd36 ct36 : Value}
    {a_list_steps : Addr} {od37 an37 : Option Addr} {sl37 : Array (Option Value)} {oc37 kV37 dc37 pm37 cd37 ct37 : Value}
    {a_plain_steps : Addr} {od38 an38 : Option Addr} {sl38 : Array (Option Value)} {oc38 kV38 dc38 pm38 cd38 ct38 : Value}
    {a_steps_of : Addr} {od39 an39 : Option Addr} {sl39 : Array (Option Value)} {oc39 kV39 dc39 pm39 cd39 ct39 : Value}
    {a_law : Addr} {od40 an40 : Option Addr} {sl40 : Array (Option Value)} {oc40 kV40 dc40 pm40 cd40 ct40 : Value}
    (N_0 : PySem.W.nsIn K mainGlobals "_law_alike" = some (some (.ref a_l_alike)))
    (L_0 : K.lookup a_l_alike = some ⟨oc0, od0, .func (PySem.W.fnOf "_law_alike" "_law_alike" (defArgs s_l_alike) (defBody s_l_alike) (defScope s_l_alike) .none kV0 dc0 pm0 an0 cd0 ct0), sl0⟩)
    (C_0 : PySem.W.codeIn K cd0 "_law_alike" = true)
    (K_l_alike : PySem.W.keepIn K (.ref a_l_alike) = true)
    (N_1 : PySem.W.nsIn K mainGlobals "_law_cell_at" = some (some (.ref a_l_cell_at)))
    (L_1 : K.lookup a_l_cell_at = some ⟨oc1, od1, .func (PySem.W.fnOf "_law_cell_at" "_law_cell_at" (defArgs s_l_cell_at) (defBody s_l_cell_at) (defScope s_l_cell_at) .none kV1 dc1 pm1 an1 cd1 ct1), sl1⟩)
    (C_1 : PySem.W.codeIn K cd1 "_law_cell_at" = true)
    (K_l_cell_at : PySem.W.keepIn K (.ref a_l_cell_at) = true)
    (N_2 : PySem.W.nsIn K mainGlobals "_law_inner" = some (some (.ref a_l_inner)))
    (L_2 : K.lookup a_l_inner = some ⟨oc2, od2, .func (PySem.W.fnOf "_law_inner" "_law_inner" (defArgs s_l_inner) (defBody s_l_inner) (defScope s_l_inner) .none kV2 dc2 pm2 an2 cd2 ct2), sl2⟩)
    (C_2 : PySem.W.codeIn K cd2 "_law_inner" = true)
    (K_l_inner : PySem.W.keepIn K (.ref a_l_inner) = true)
    (N_3 : PySem.W.nsIn K mainGlobals "_law_count" = some (some (.ref a_l_count)))
    (L_3 : K.lookup a_l_count = some ⟨oc3, od3, .func (PySem.W.fnOf "_law_count" "_law_count" (defArgs s_l_count) (defBody s_l_count) (defScope s_l_count) .none kV3 dc3 pm3 an3 cd3 ct3), sl3⟩)
    (C_3 : PySem.W.codeIn K cd3 "_law_count" = true)
    (K_l_count : PySem.W.keepIn K (.ref a_l_count) = true)
    (N_4 : PySem.W.nsIn K mainGlobals "_law_signs" = some (some (.ref a_l_signs)))
    (L_4 : K.lookup a_l_signs = some ⟨oc4, od4, .func (PySem.W.fnOf "_law_signs" "_law_signs" (defArgs s_l_signs) (defBody s_l_signs) (defScope s_l_signs) .none kV4 dc4 pm4 an4 cd4 ct4), sl4⟩)
    (C_4 : PySem.W.codeIn K cd4 "_law_signs" = true)
    (K_l_signs : PySem.W.keepIn K (.ref a_l_signs) = true)
    (N_5 : PySem.W.nsIn K mainGlobals "_law_part" = some (some (.ref a_l_part)))
    (L_5 : K.lookup a_l_part = some ⟨oc5, od5, .func (PySem.W.fnOf "_law_part" "_law_part" (defArgs s_l_part) (defBody s_l_part) (defScope s_l_part) .none kV5 dc5 pm5 an5 cd5 ct5), sl5⟩)
    (C_5 : PySem.W.codeIn K cd5 "_law_part" = true)
    (K_l_part : PySem.W.keepIn K (.ref a_l_part) = true)
    (N_6 : PySem.W.nsIn K mainGlobals "_law_thing" = some (some (.ref a_l_thing)))
    (L_6 : K.lookup a_l_thing = some ⟨oc6, od6, .func (PySem.W.fnOf "_law_thing" "_law_thing" (defArgs s_l_thing) (defBody s_l_thing) (defScope s_l_thing) .none kV6 dc6 pm6 an6 cd6 ct6), sl6⟩)
    (C_6 : PySem.W.codeIn K cd6 "_law_thing" = true)
    (K_l_thing : PySem.W.keepIn K (.ref a_l_thing) = true)
    (N_7 : PySem.W.nsIn K mainGlobals "place_of" = some (some (.ref a_place_of)))
    (L_7 : K.lookup a_place_of = some ⟨oc7, od7, .func (PySem.W.fnOf "place_of" "place_of" (defArgs s_place_of) (defBody s_place_of) (defScope s_place_of) .none kV7 dc7 pm7 an7 cd7 ct7), sl7⟩)
    (C_7 : PySem.W.codeIn K cd7 "place_of" = true)
    (K_place_of : PySem.W.keepIn K (.ref a_place_of) = true)
    (N_8 : PySem.W.nsIn K mainGlobals "all_alike" = some (some (.ref a_all_alike)))
    (L_8 : K.lookup a_all_alike = some ⟨oc8, od8, .func (PySem.W.fnOf "all_alike" "all_alike" (defArgs s_all_alike) (defBody s_all_alike) (defScope s_all_alike) .none kV8 dc8 pm8 an8 cd8 ct8), sl8⟩)
    (C_8 : PySem.W.codeIn K cd8 "all_alike" = true)
    (K_all_alike : PySem.W.keepIn K (.ref a_all_alike) = true)
    (N_9 : PySem.W.nsIn K mainGlobals "shape_of" = some (some (.ref a_shape_of)))
    (L_9 : K.lookup a_shape_of = some ⟨oc9, od9, .func (PySem.W.fnOf "shape_of" "shape_of" (defArgs s_shape_of) (defBody s_shape_of) (defScope s_shape_of) .none kV9 dc9 pm9 an9 cd9 ct9), sl9⟩)
    (C_9 : PySem.W.codeIn K cd9 "shape_of" = true)
    (K_shape_of : PySem.W.keepIn K (.ref a_shape_of) = true)
    (N_10 : PySem.W.nsIn K mainGlobals "measured" = some (some (.ref a_measured)))
    (L_10 : K.lookup a_measured = some ⟨oc10, od10, .func (PySem.W.fnOf "measured" "measured" (defArgs s_measured) (defBody s_measured) (defScope s_measured) .none kV10 dc10 pm10 an10 cd10 ct10), sl10⟩)
    (C_10 : PySem.W.codeIn K cd10 "measured" = true)
    (K_measured : PySem.W.keepIn K (.ref a_measured) = true)
    (N_11 : PySem.W.nsIn K mainGlobals "heaps" = some (some (.ref a_heaps)))
    (L_11 : K.lookup a_heaps = some ⟨oc11, od11, .func (PySem.W.fnOf "heaps" "heaps" (defArgs s_heaps) (defBody s_heaps) (defScope s_heaps) .none kV11 dc11 pm11 an11 cd11 ct11), sl11⟩)
    (C_11 : PySem.W.codeIn K cd11 "heaps" = true)
    (K_heaps : PySem.W.keepIn K (.ref a_heaps) = true)
    (N_12 : PySem.W.nsIn K mainGlobals "order_of_heaps" = some (some (.ref a_order_of_heaps)))
    (L_12 : K.lookup a_order_of_heaps = some ⟨oc12, od12, .func (PySem.W.fnOf "order_of_heaps" "order_of_heaps" (defArgs s_order_of_heaps) (defBody s_order_of_heaps) (defScope s_order_of_heaps) .none kV12 dc12 pm12 an12 cd12 ct12), sl12⟩)
    (C_12 : PySem.W.codeIn K cd12 "order_of_heaps" = true)
    (K_order_of_heaps : PySem.W.keepIn K (.ref a_order_of_heaps) = true)
    (N_13 : PySem.W.nsIn K mainGlobals "sign_of" = some (some (.ref a_sign_of)))
    (L_13 : K.lookup a_sign_of = some ⟨oc13, od13, .func (PySem.W.fnOf "sign_of" "sign_of" (defArgs s_sign_of) (defBody s_sign_of) (defScope s_sign_of) .none kV13 dc13 pm13 an13 cd13 ct13), sl13⟩)
    (C_13 : PySem.W.codeIn K cd13 "sign_of" = true)
    (K_sign_of : PySem.W.keepIn K (.ref a_sign_of) = true)
    (N_14 : PySem.W.nsIn K mainGlobals "order_of_texts" = some (some (.ref a_order_of_texts)))
    (L_14 : K.lookup a_order_of_texts = some ⟨oc14, od14, .func (PySem.W.fnOf "order_of_texts" "order_of_texts" (defArgs s_order_of_texts) (defBody s_order_of_texts) (defScope s_order_of_texts) .none kV14 dc14 pm14 an14 cd14 ct14), sl14⟩)
    (C_14 : PySem.W.codeIn K cd14 "order_of_texts" = true)
    (K_order_of_texts : PySem.W.keepIn K (.ref a_order_of_texts) = true)
    (N_15 : PySem.W.nsIn K mainGlobals "order_of_rows" = some (some (.ref a_order_of_rows)))
    (L_15 : K.lookup a_order_of_rows = some ⟨oc15, od15, .func (PySem.W.fnOf "order_of_rows" "order_of_rows" (defArgs s_order_of_rows) (defBody s_order_of_rows) (defScope s_order_of_rows) .none kV15 dc15 pm15 an15 cd15 ct15), sl15⟩)
    (C_15 : PySem.W.codeIn K cd15 "order_of_rows" = true)
    (K_order_of_rows : PySem.W.keepIn K (.ref a_order_of_rows) = true)
    (N_16 : PySem.W.nsIn K mainGlobals "order_of_picks" = some (some (.ref a_order_of_picks)))
    (L_16 : K.lookup a_order_of_picks = some ⟨oc16, od16, .func (PySem.W.fnOf "order_of_picks" "order_of_picks" (defArgs s_order_of_picks) (defBody s_order_of_picks) (defScope s_order_of_picks) .none kV16 dc16 pm16 an16 cd16 ct16), sl16⟩)
    (C_16 : PySem.W.codeIn K cd16 "order_of_picks" = true)
    (K_order_of_picks : PySem.W.keepIn K (.ref a_order_of_picks) = true)
    (N_17 : PySem.W.nsIn K mainGlobals "order" = some (some (.ref a_order)))
    (L_17 : K.lookup a_order = some ⟨oc17, od17, .func (PySem.W.fnOf "order" "order" (defArgs s_order) (defBody s_order) (defScope s_order) .none kV17 dc17 pm17 an17 cd17 ct17), sl17⟩)
    (C_17 : PySem.W.codeIn K cd17 "order" = true)
    (K_order : PySem.W.keepIn K (.ref a_order) = true)
    (N_18 : PySem.W.nsIn K mainGlobals "rises" = some (some (.ref a_rises)))
    (L_18 : K.lookup a_rises = some ⟨oc18, od18, .func (PySem.W.fnOf "rises" "rises" (defArgs s_rises) (defBody s_rises) (defScope s_rises) .none kV18 dc18 pm18 an18 cd18 ct18), sl18⟩)
    (C_18 : PySem.W.codeIn K cd18 "rises" = true)
    (K_rises : PySem.W.keepIn K (.ref a_rises) = true)
    (N_19 : PySem.W.nsIn K mainGlobals "fits_parts" = some (some (.ref a_fits_parts)))
    (L_19 : K.lookup a_fits_parts = some ⟨oc19, od19, .func (PySem.W.fnOf "fits_parts" "fits_parts" (defArgs s_fits_parts) (defBody s_fits_parts) (defScope s_fits_parts) .none kV19 dc19 pm19 an19 cd19 ct19), sl19⟩)
    (C_19 : PySem.W.codeIn K cd19 "fits_parts" = true)
    (K_fits_parts : PySem.W.keepIn K (.ref a_fits_parts) = true)
    (N_20 : PySem.W.nsIn K mainGlobals "fits_list" = some (some (.ref a_fits_list)))
    (L_20 : K.lookup a_fits_list = some ⟨oc20, od20, .func (PySem.W.fnOf "fits_list" "fits_list" (defArgs s_fits_list) (defBody s_fits_list) (defScope s_fits_list) .none kV20 dc20 pm20 an20 cd20 ct20), sl20⟩)
    (C_20 : PySem.W.codeIn K cd20 "fits_list" = true)
    (K_fits_list : PySem.W.keepIn K (.ref a_fits_list) = true)
    (N_21 : PySem.W.nsIn K mainGlobals "fits_branch" = some (some (.ref a_fits_branch)))
    (L_21 : K.lookup a_fits_branch = some ⟨oc21, od21, .func (PySem.W.fnOf "fits_branch" "fits_branch" (defArgs s_fits_branch) (defBody s_fits_branch) (defScope s_fits_branch) .none kV21 dc21 pm21 an21 cd21 ct21), sl21⟩)
    (C_21 : PySem.W.codeIn K cd21 "fits_branch" = true)
    (K_fits_branch : PySem.W.keepIn K (.ref a_fits_branch) = true)
    (N_22 : PySem.W.nsIn K mainGlobals "fits" = some (some (.ref a_fits)))
    (L_22 : K.lookup a_fits = some ⟨oc22, od22, .func (PySem.W.fnOf "fits" "fits" (defArgs s_fits) (defBody s_fits) (defScope s_fits) .none kV22 dc22 pm22 an22 cd22 ct22), sl22⟩)
    (C_22 : PySem.W.codeIn K cd22 "fits" = true)
    (K_fits : PySem.W.keepIn K (.ref a_fits) = true)
    (N_23 : PySem.W.nsIn K mainGlobals "own_copy" = some (some (.ref a_own_copy)))
    (L_23 : K.lookup a_own_copy = some ⟨oc23, od23, .func (PySem.W.fnOf "own_copy" "own_copy" (defArgs s_own_copy) (defBody s_own_copy) (defScope s_own_copy) .none kV23 dc23 pm23 an23 cd23 ct23), sl23⟩)
    (C_23 : PySem.W.codeIn K cd23 "own_copy" = true)
    (K_own_copy : PySem.W.keepIn K (.ref a_own_copy) = true)
    (N_24 : PySem.W.nsIn K mainGlobals "within_parts" = some (some (.ref a_within_parts)))
    (L_24 : K.lookup a_within_parts = some ⟨oc24, od24, .func (PySem.W.fnOf "within_parts" "within_parts" (defArgs s_within_parts) (defBody s_within_parts) (defScope s_within_parts) .none kV24 dc24 pm24 an24 cd24 ct24), sl24⟩)
    (C_24 : PySem.W.codeIn K cd24 "within_parts" = true)
    (K_within_parts : PySem.W.keepIn K (.ref a_within_parts) = true)
    (N_25 : PySem.W.nsIn K mainGlobals "at_uses" = some (some (.ref a_at_uses)))
    (L_25 : K.lookup a_at_uses = some ⟨oc25, od25, .func (PySem.W.fnOf "at_uses" "at_uses" (defArgs s_at_uses) (defBody s_at_uses) (defScope s_at_uses) .none kV25 dc25 pm25 an25 cd25 ct25), sl25⟩)
    (C_25 : PySem.W.codeIn K cd25 "at_uses" = true)
    (K_at_uses : PySem.W.keepIn K (.ref a_at_uses) = true)
    (N_26 : PySem.W.nsIn K mainGlobals "left_out" = some (some (.ref a_left_out)))
    (L_26 : K.lookup a_left_out = some ⟨oc26, od26, .func (PySem.W.fnOf "left_out" "left_out" (defArgs s_left_out) (defBody s_left_out) (defScope s_left_out) .none kV26 dc26 pm26 an26 cd26 ct26), sl26⟩)
    (C_26 : PySem.W.codeIn K cd26 "left_out" = true)
    (K_left_out : PySem.W.keepIn K (.ref a_left_out) = true)
    (N_27 : PySem.W.nsIn K mainGlobals "least_of_row" = some (some (.ref a_least_of_row)))
    (L_27 : K.lookup a_least_of_row = some ⟨oc27, od27, .func (PySem.W.fnOf "least_of_row" "least_of_row" (defArgs s_least_of_row) (defBody s_least_of_row) (defScope s_least_of_row) .none kV27 dc27 pm27 an27 cd27 ct27), sl27⟩)
    (C_27 : PySem.W.codeIn K cd27 "least_of_row" = true)
    (K_least_of_row : PySem.W.keepIn K (.ref a_least_of_row) = true)
    (N_28 : PySem.W.nsIn K mainGlobals "least_of_pick" = some (some (.ref a_least_of_pick)))
    (L_28 : K.lookup a_least_of_pick = some ⟨oc28, od28, .func (PySem.W.fnOf "least_of_pick" "least_of_pick" (defArgs s_least_of_pick) (defBody s_least_of_pick) (defScope s_least_of_pick) .none kV28 dc28 pm28 an28 cd28 ct28), sl28⟩)
    (C_28 : PySem.W.codeIn K cd28 "least_of_pick" = true)
    (K_least_of_pick : PySem.W.keepIn K (.ref a_least_of_pick) = true)
    (N_29 : PySem.W.nsIn K mainGlobals "least_size" = some (some (.ref a_least_size)))
    (L_29 : K.lookup a_least_size = some ⟨oc29, od29, .func (PySem.W.fnOf "least_size" "least_size" (defArgs s_least_size) (defBody s_least_size) (defScope s_least_size) .none kV29 dc29 pm29 an29 cd29 ct29), sl29⟩)
    (C_29 : PySem.W.codeIn K cd29 "least_size" = true)
    (K_least_size : PySem.W.keepIn K (.ref a_least_size) = true)
    (N_30 : PySem.W.nsIn K mainGlobals "least_sizes" = some (some (.ref a_least_sizes)))
    (L_30 : K.lookup a_least_sizes = some ⟨oc30, od30, .func (PySem.W.fnOf "least_sizes" "least_sizes" (defArgs s_least_sizes) (defBody s_least_sizes) (defScope s_least_sizes) .none kV30 dc30 pm30 an30 cd30 ct30), sl30⟩)
    (C_30 : PySem.W.codeIn K cd30 "least_sizes" = true)
    (K_least_sizes : PySem.W.keepIn K (.ref a_least_sizes) = true)
    (N_31 : PySem.W.nsIn K mainGlobals "least_thing" = some (some (.ref a_least_thing)))
    (L_31 : K.lookup a_least_thing = some ⟨oc31, od31, .func (PySem.W.fnOf "least_thing" "least_thing" (defArgs s_least_thing) (defBody s_least_thing) (defScope s_least_thing) .none kV31 dc31 pm31 an31 cd31 ct31), sl31⟩)
    (C_31 : PySem.W.codeIn K cd31 "least_thing" = true)
    (K_least_thing : PySem.W.keepIn K (.ref a_least_thing) = true)
    (N_32 : PySem.W.nsIn K mainGlobals "least_value" = some (some (.ref a_least_value)))
    (L_32 : K.lookup a_least_value = some ⟨oc32, od32, .func (PySem.W.fnOf "least_value" "least_value" (defArgs s_least_value) (defBody s_least_value) (defScope s_least_value) .none kV32 dc32 pm32 an32 cd32 ct32), sl32⟩)
    (C_32 : PySem.W.codeIn K cd32 "least_value" = true)
    (K_least_value : PySem.W.keepIn K (.ref a_least_value) = true)
    (N_33 : PySem.W.nsIn K mainGlobals "size_of" = some (some (.ref a_size_of)))
    (L_33 : K.lookup a_size_of = some ⟨oc33, od33, .func (PySem.W.fnOf "size_of" "size_of" (defArgs s_size_of) (defBody s_size_of) (defScope s_size_of) .none kV33 dc33 pm33 an33 cd33 ct33), sl33⟩)
    (C_33 : PySem.W.codeIn K cd33 "size_of" = true)
    (K_size_of : PySem.W.keepIn K (.ref a_size_of) = true)
    (N_34 : PySem.W.nsIn K mainGlobals "whole_steps" = some (some (.ref a_whole_steps)))
    (L_34 : K.lookup a_whole_steps = some ⟨oc34, od34, .func (PySem.W.fnOf "whole_steps" "whole_steps" (defArgs s_whole_steps) (defBody s_whole_steps) (defScope s_whole_steps) .none kV34 dc34 pm34 an34 cd34 ct34), sl34⟩)
    (C_34 : PySem.W.codeIn K cd34 "whole_steps" = true)
    (K_whole_steps : PySem.W.keepIn K (.ref a_whole_steps) = true)
    (N_35 : PySem.W.nsIn K mainGlobals "row_steps" = some (some (.ref a_row_steps)))
    (L_35 : K.lookup a_row_steps = some ⟨oc35, od35, .func (PySem.W.fnOf "row_steps" "row_steps" (defArgs s_row_steps) (defBody s_row_steps) (defScope s_row_steps) .none kV35 dc35 pm35 an35 cd35 ct35), sl35⟩)
    (C_35 : PySem.W.codeIn K cd35 "row_steps" = true)
    (K_row_steps : PySem.W.keepIn K (.ref a_row_steps) = true)
    (N_36 : PySem.W.nsIn K mainGlobals "pick_steps" = some (some (.ref a_pick_steps)))
    (L_36 : K.lookup a_pick_steps = some ⟨oc36, od36, .func (PySem.W.fnOf "pick_steps" "pick_steps" (defArgs s_pick_steps) (defBody s_pick_steps) (defScope s_pick_steps) .none kV36 dc36 pm36 an36 cd36 ct36), sl36⟩)
    (C_36 : PySem.W.codeIn K cd36 "pick_steps" = true)
    (K_pick_steps : PySem.W.keepIn K (.ref a_pick_steps) = true)
    (N_37 : PySem.W.nsIn K mainGlobals "list_steps" = some (some (.ref a_list_steps)))
    (L_37 : K.lookup a_list_steps = some ⟨oc37, od37, .func (PySem.W.fnOf "list_steps" "list_steps" (defArgs s_list_steps) (defBody s_list_steps) (defScope s_list_steps) .none kV37 dc37 pm37 an37 cd37 ct37), sl37⟩)
    (C_37 : PySem.W.codeIn K cd37 "list_steps" = true)
    (K_list_steps : PySem.W.keepIn K (.ref a_list_steps) = true)
    (N_38 : PySem.W.nsIn K mainGlobals "plain_steps" = some (some (.ref a_plain_steps)))
    (L_38 : K.lookup a_plain_steps = some ⟨oc38, od38, .func (PySem.W.fnOf "plain_steps" "plain_steps" (defArgs s_plain_steps) (defBody s_plain_steps) (defScope s_plain_steps) .none kV38 dc38 pm38 an38 cd38 ct38), sl38⟩)
    (C_38 : PySem.W.codeIn K cd38 "plain_steps" = true)
    (K_plain_steps : PySem.W.keepIn K (.ref a_plain_steps) = true)
    (N_39 : PySem.W.nsIn K mainGlobals "steps_of" = some (some (.ref a_steps_of)))
    (L_39 : K.lookup a_steps_of = some ⟨oc39, od39, .func (PySem.W.fnOf "steps_of" "steps_of" (defArgs s_steps_of) (defBody s_steps_of) (defScope s_steps_of) .none kV39 dc39 pm39 an39 cd39 ct39), sl39⟩)
    (C_39 : PySem.W.codeIn K cd39 "steps_of" = true)
    (K_steps_of : PySem.W.keepIn K (.ref a_steps_of) = true)
    (N_40 : PySem.W.nsIn K mainGlobals "law" = some (some (.ref a_law)))
    (L_40 : K.lookup a_law = some ⟨oc40, od40, .func (PySem.W.fnOf "law" "law" (defArgs s_law) (defBody s_law) (defScope s_law) .none kV40 dc40 pm40 an40 cd40 ct40), sl40⟩)
    (C_40 : PySem.W.codeIn K cd40 "law" = true)
    (K_law : PySem.W.keepIn K (.ref a_law) = true)
    (Y_all : PySem.W.nsIn K mainGlobals "all" = some none)
    (Y_bool : PySem.W.nsIn K mainGlobals "bool" = some none)
    (Y_enumerate : PySem.W.nsIn K mainGlobals "enumerate" = some none)
    (Y_int : PySem.W.nsIn K mainGlobals "int" = some none)
    (Y_isinstance : PySem.W.nsIn K mainGlobals "isinstance" = some none)
    (Y_len : PySem.W.nsIn K mainGlobals "len" = some none)
    (Y_list : PySem.W.nsIn K mainGlobals "list" = some none)
    (Y_max : PySem.W.nsIn K mainGlobals "max" = some none)
    (Y_min : PySem.W.nsIn K mainGlobals "min" = some none)
    (Y_range : PySem.W.nsIn K mainGlobals "range" = some none)
    (Y_reversed : PySem.W.nsIn K mainGlobals "reversed" = some none)
    (Y_str : PySem.W.nsIn K mainGlobals "str" = some none)
    (Y_sum : PySem.W.nsIn K mainGlobals "sum" = some none)
    (Y_tuple : PySem.W.nsIn K mainGlobals "tuple" = some none)
    (Y_zip : PySem.W.nsIn K mainGlobals "zip" = some none)
    (Cg_NoName : PySem.W.nsIn K mainGlobals "NoName" = some (some (.ref c_NoName)))
    (Ck_NoName : PySem.W.keepIn K (.ref c_NoName) = true)
    (Cq_NoName : PySem.W.excIn K c_NoName [.type "ValueError", .type "Exception", .type "BaseException", .type "object"] "ValueError.__new__" = true)
    (Cb_NoName : PySem.W.subIn K (.ref c_NoName) (.type "BaseException") = some true)
    (Ct_NoName : PySem.W.typeIn K (.ref c_NoName) = some (.type "type"))
    (Cd_NoName : PySem.W.hasDictIn K c_NoName = true) :
    ∃ fd : FuncData, (∀ (s : Shared) (v : Value), BindsTo s fd ⟨[v], []⟩ [("_law_script", v)]) ∧ ∀ base : Heap, K.In base → base.Ns mainGlobals mg → FnOk l.prog w K mg base (L2.CX l.prog w) 85 fa fd ["_law_script"] (spL K S_law) := by
  have e := hfa.symm.trans (PySem.W.mg_of X G N_40)
  cases e
  have F_l_alike := fun_mk (st := s_l_alike) L_0 C_0 K_l_alike
  have B_l_alike := F_l_alike.binds (ps := P_l_alike) fun _ _ _ _ _ _ us hl => match us, hl with | [_, _, _], _ => rfl
  have M_l_alike := PySem.W.mg_of X G N_0
  have F_l_cell_at := fun_mk (st := s_l_cell_at) L_1 C_1 K_l_cell_at
  have B_l_cell_at := F_l_cell_at.binds (ps := P_l_cell_at) fun _ _ _ _ _ _ us hl => match us, hl with | [_, _], _ => rfl
  have M_l_cell_at := PySem.W.mg_of X G N_1
  have F_l_inner := fun_mk (st := s_l_inner) L_2 C_2 K_l_inner
  have B_l_inner := F_l_inner.binds (ps := P_l_inner) fun _ _ _ _ _ _ us hl => match us, hl with | [_, _], _ => rfl
  have M_l_inner := PySem.W.mg_of X G N_2
  have F_l_count := fun_mk (st := s_l_count) L_3 C_3 K_l_count
  have B_l_count := F_l_count.binds (ps := P_l_count) fun _ _ _ _ _ _ us hl => match us, hl with | [_, _], _ => rfl
  have M_l_count := PySem.W.mg_of X G N_3
  have F_l_signs := fun_mk (st := s_l_signs) L_4 C_4 K_l_signs
  have B_l_signs := F_l_signs.binds (ps := P_l_signs) fun _ _ _ _ _ _ us hl => match us, hl with | [_, _], _ => rfl
  have M_l_signs := PySem.W.mg_of X G N_4
  have F_l_part := fun_mk (st := s_l_part) L_5 C_5 K_l_part
  have B_l_part := F_l_part.binds (ps := P_l_part) fun _ _ _ _ _ _ us hl => match us, hl with | [_], _ => rfl
  have M_l_part := PySem.W.mg_of X G N_5
  have F_l_thing := fun_mk (st := s_l_thing) L_6 C_6 K_l_thing
  have B_l_thing := F_l_thing.binds (ps := P_l_thing) fun _ _ _ _ _ _ us hl => match us, hl with | [_, _], _ => rfl
  have M_l_thing := PySem.W.mg_of X G N_6
  have F_place_of := fun_mk (st := s_place_of) L_7 C_7 K_place_of
  have B_place_of := F_place_of.binds (ps := P_place_of) fun _ _ _ _ _ _ us hl => match us, hl with | [_, _], _ => rfl
  have M_place_of := PySem.W.mg_of X G N_7
  have F_all_alike := fun_mk (st := s_all_alike) L_8 C_8 K_all_alike
  have B_all_alike := F_all_alike.binds (ps := P_all_alike) fun _ _ _ _ _ _ us hl => match us, hl with | [_, _], _ => rfl
  have M_all_alike := PySem.W.mg_of X G N_8
  have F_shape_of := fun_mk (st := s_shape_of) L_9 C_9 K_shape_of
  have B_shape_of := F_shape_of.binds (ps := P_shape_of) fun _ _ _ _ _ _ us hl => match us, hl with | [_, _], _ => rfl
  have M_shape_of := PySem.W.mg_of X G N_9
  have F_measured := fun_mk (st := s_measured) L_10 C_10 K_measured
  have B_measured := F_measured.binds (ps := P_measured) fun _ _ _ _ _ _ us hl => match us, hl with | [_, _, _], _ => rfl
  have M_measured := PySem.W.mg_of X G N_10
  have F_heaps := fun_mk (st := s_heaps) L_11 C_11 K_heaps
  have B_heaps := F_heaps.binds (ps := P_heaps) fun _ _ _ _ _ _ us hl => match us, hl with | [_, _, _], _ => rfl
  have M_heaps := PySem.W.mg_of X G N_11
  have F_order_of_heaps := fun_mk (st := s_order_of_heaps) L_12 C_12 K_order_of_heaps
  have B_order_of_heaps := F_order_of_heaps.binds (ps := P_order_of_heaps) fun _ _ _ _ _ _ us hl => match us, hl with | [_, _, _, _], _ => rfl
  have M_order_of_heaps := PySem.W.mg_of X G N_12
  have F_sign_of := fun_mk (st := s_sign_of) L_13 C_13 K_sign_of
  have B_sign_of := F_sign_of.binds (ps := P_sign_of) fun _ _ _ _ _ _ us hl => match us, hl with | [_], _ => rfl
  have M_sign_of := PySem.W.mg_of X G N_13
  have F_order_of_texts := fun_mk (st := s_order_of_texts) L_14 C_14 K_order_of_texts
  have B_order_of_texts := F_order_of_texts.binds (ps := P_order_of_texts) fun _ _ _ _ _ _ us hl => match us, hl with | [_, _, _], _ => rfl
  have M_order_of_texts := PySem.W.mg_of X G N_14
  have F_order_of_rows := fun_mk (st := s_order_of_rows) L_15 C_15 K_order_of_rows
  have B_order_of_rows := F_order_of_rows.binds (ps := P_order_of_rows) fun _ _ _ _ _ _ us hl => match us, hl with | [_, _, _, _], _ => rfl
  have M_order_of_rows := PySem.W.mg_of X G N_15
  have F_order_of_picks := fun_mk (st := s_order_of_picks) L_16 C_16 K_order_of_picks
  have B_order_of_picks := F_order_of_picks.binds (ps := P_order_of_picks) fun _ _ _ _ _ _ us hl => match us, hl with | [_, _, _, _], _ => rfl
  have M_order_of_picks := PySem.W.mg_of X G N_16
  have F_order := fun_mk (st := s_order) L_17 C_17 K_order
  have B_order := F_order.binds (ps := P_order) fun _ _ _ _ _ _ us hl => match us, hl with | [_, _, _, _], _ => rfl
  have M_order := PySem.W.mg_of X G N_17
  have F_rises := fun_mk (st := s_rises) L_18 C_18 K_rises
  have B_rises := F_rises.binds (ps := P_rises) fun _ _ _ _ _ _ us hl => match us, hl with | [_, _, _, _], _ => rfl
  have M_rises := PySem.W.mg_of X G N_18
  have F_fits_parts := fun_mk (st := s_fits_parts) L_19 C_19 K_fits_parts
  have B_fits_parts := F_fits_parts.binds (ps := P_fits_parts) fun _ _ _ _ _ _ us hl => match us, hl with | [_, _, _], _ => rfl
  have M_fits_parts := PySem.W.mg_of X G N_19
  have F_fits_list := fun_mk (st := s_fits_list) L_20 C_20 K_fits_list
  have B_fits_list := F_fits_list.binds (ps := P_fits_list) fun _ _ _ _ _ _ us hl => match us, hl with | [_, _, _], _ => rfl
  have M_fits_list := PySem.W.mg_of X G N_20
  have F_fits_branch := fun_mk (st := s_fits_branch) L_21 C_21 K_fits_branch
  have B_fits_branch := F_fits_branch.binds (ps := P_fits_branch) fun _ _ _ _ _ _ us hl => match us, hl with | [_, _, _], _ => rfl
  have M_fits_branch := PySem.W.mg_of X G N_21
  have F_fits := fun_mk (st := s_fits) L_22 C_22 K_fits
  have B_fits := F_fits.binds (ps := P_fits) fun _ _ _ _ _ _ us hl => match us, hl with | [_, _, _], _ => rfl
  have M_fits := PySem.W.mg_of X G N_22
  have F_own_copy := fun_mk (st := s_own_copy) L_23 C_23 K_own_copy
  have B_own_copy := F_own_copy.binds (ps := P_own_copy) fun _ _ _ _ _ _ us hl => match us, hl with | [_], _ => rfl
  have M_own_copy := PySem.W.mg_of X G N_23
  have F_within_parts := fun_mk (st := s_within_parts) L_24 C_24 K_within_parts
  have B_within_parts := F_within_parts.binds (ps := P_within_parts) fun _ _ _ _ _ _ us hl => match us, hl with | [_, _, _, _], _ => rfl
  have M_within_parts := PySem.W.mg_of X G N_24
  have F_at_uses := fun_mk (st := s_at_uses) L_25 C_25 K_at_uses
  have B_at_uses := F_at_uses.binds (ps := P_at_uses) fun _ _ _ _ _ _ us hl => match us, hl with | [_, _, _, _], _ => rfl
  have M_at_uses := PySem.W.mg_of X G N_25
  have F_left_out := fun_mk (st := s_left_out) L_26 C_26 K_left_out
  have B_left_out := F_left_out.binds (ps := P_left_out) fun _ _ _ _ _ _ us hl => match us, hl with | [_], _ => rfl
  have M_left_out := PySem.W.mg_of X G N_26
  have F_least_of_row := fun_mk (st := s_least_of_row) L_27 C_27 K_least_of_row
  have B_least_of_row := F_least_of_row.binds (ps := P_least_of_row) fun _ _ _ _ _ _ us hl => match us, hl with | [_, _], _ => rfl
  have M_least_of_row := PySem.W.mg_of X G N_27
  have F_least_of_pick := fun_mk (st := s_least_of_pick) L_28 C_28 K_least_of_pick
  have B_least_of_pick := F_least_of_pick.binds (ps := P_least_of_pick) fun _ _ _ _ _ _ us hl => match us, hl with | [_, _], _ => rfl
  have M_least_of_pick := PySem.W.mg_of X G N_28
  have F_least_size := fun_mk (st := s_least_size) L_29 C_29 K_least_size
  have B_least_size := F_least_size.binds (ps := P_least_size) fun _ _ _ _ _ _ us hl => match us, hl with | [_, _], _ => rfl
  have M_least_size := PySem.W.mg_of X G N_29
  have F_least_sizes := fun_mk (st := s_least_sizes) L_30 C_30 K_least_sizes
  have B_least_sizes := F_least_sizes.binds (ps := P_least_sizes) fun _ _ _ _ _ _ us hl => match us, hl with | [_], _ => rfl
  have M_least_sizes := PySem.W.mg_of X G N_30
  have F_least_thing := fun_mk (st := s_least_thing) L_31 C_31 K_least_thing
  have B_least_thing := F_least_thing.binds (ps := P_least_thing) fun _ _ _ _ _ _ us hl => match us, hl with | [_, _, _], _ => rfl
  have M_least_thing := PySem.W.mg_of X G N_31
  have F_least_value := fun_mk (st := s_least_value) L_32 C_32 K_least_value
  have B_least_value := F_least_value.binds (ps := P_least_value) fun _ _ _ _ _ _ us hl => match us, hl with | [_, _, _], _ => rfl
  have M_least_value := PySem.W.mg_of X G N_32
  have F_size_of := fun_mk (st := s_size_of) L_33 C_33 K_size_of
  have B_size_of := F_size_of.binds (ps := P_size_of) fun _ _ _ _ _ _ us hl => match us, hl with | [_, _, _], _ => rfl
  have M_size_of := PySem.W.mg_of X G N_33
  have F_whole_steps := fun_mk (st := s_whole_steps) L_34 C_34 K_whole_steps
  have B_whole_steps := F_whole_steps.binds (ps := P_whole_steps) fun _ _ _ _ _ _ us hl => match us, hl with | [_, _], _ => rfl
  have M_whole_steps := PySem.W.mg_of X G N_34
  have F_row_steps := fun_mk (st := s_row_steps) L_35 C_35 K_row_steps
  have B_row_steps := F_row_steps.binds (ps := P_row_steps) fun _ _ _ _ _ _ us hl => match us, hl with | [_, _, _], _ => rfl
  have M_row_steps := PySem.W.mg_of X G N_35
  have F_pick_steps := fun_mk (st := s_pick_steps) L_36 C_36 K_pick_steps
  have B_pick_steps := F_pick_steps.binds (ps := P_pick_steps) fun _ _ _ _ _ _ us hl => match us, hl with | [_, _, _], _ => rfl
  have M_pick_steps := PySem.W.mg_of X G N_36
  have F_list_steps := fun_mk (st := s_list_steps) L_37 C_37 K_list_steps
  have B_list_steps := F_list_steps.binds (ps := P_list_steps) fun _ _ _ _ _ _ us hl => match us, hl with | [_, _, _], _ => rfl
  have M_list_steps := PySem.W.mg_of X G N_37
  have F_plain_steps := fun_mk (st := s_plain_steps) L_38 C_38 K_plain_steps
  have B_plain_steps := F_plain_steps.binds (ps := P_plain_steps) fun _ _ _ _ _ _ us hl => match us, hl with | [_, _, _], _ => rfl
  have M_plain_steps := PySem.W.mg_of X G N_38
  have F_steps_of := fun_mk (st := s_steps_of) L_39 C_39 K_steps_of
  have B_steps_of := F_steps_of.binds (ps := P_steps_of) fun _ _ _ _ _ _ us hl => match us, hl with | [_, _, _], _ => rfl
  have M_steps_of := PySem.W.mg_of X G N_39
  have F_law := fun_mk (st := s_law) L_40 C_40 K_law
  have B_law := F_law.binds (ps := P_law) fun _ _ _ _ _ _ us hl => match us, hl with | [_], _ => rfl
  have M_law := PySem.W.mg_of X G N_40
  have Z_all := PySem.W.mg_none_of X G Y_all
  have Z_bool := PySem.W.mg_none_of X G Y_bool
  have Z_enumerate := PySem.W.mg_none_of X G Y_enumerate
  have Z_int := PySem.W.mg_none_of X G Y_int
  have Z_isinstance := PySem.W.mg_none_of X G Y_isinstance
  have Z_len := PySem.W.mg_none_of X G Y_len
  have Z_list := PySem.W.mg_none_of X G Y_list
  have Z_max := PySem.W.mg_none_of X G Y_max
  have Z_min := PySem.W.mg_none_of X G Y_min
  have Z_range := PySem.W.mg_none_of X G Y_range
  have Z_reversed := PySem.W.mg_none_of X G Y_reversed
  have Z_str := PySem.W.mg_none_of X G Y_str
  have Z_sum := PySem.W.mg_none_of X G Y_sum
  have Z_tuple := PySem.W.mg_none_of X G Y_tuple
  have Z_zip := PySem.W.mg_none_of X G Y_zip
  have X_NoName : XC K mg (ctOf c_NoName) "NoName" := ⟨PySem.W.mg_of X G Cg_NoName, Ck_NoName, Cq_NoName, Cb_NoName, Ct_NoName, Cd_NoName⟩
  refine ⟨PySem.W.fnOf "law" "law" (defArgs s_law) (defBody s_law) (defScope s_law) .none kV40 dc40 pm40 an40 cd40 ct40, fun s v => .of_eq rfl, fun base _ _ => ?_⟩
  have G_l_alike := ok_l_alike (P := l.prog) (w := w) (mg := mg) (base := base) (ct := (ctOf c_NoName)) F_l_alike Z_bool Z_isinstance Z_len Z_list Z_str Z_tuple Z_zip
  have G_l_cell_at := ok_l_cell_at (P := l.prog) (w := w) (mg := mg) (base := base) (ct := (ctOf c_NoName)) F_l_cell_at Z_len
  have G_l_inner := ok_l_inner (P := l.prog) (w := w) (mg := mg) (base := base) (ct := (ctOf c_NoName)) F_l_inner Z_len Z_range
  have G_l_count := ok_l_count (P := l.prog) (w := w) (mg := mg) (base := base) (ct := (ctOf c_NoName)) F_l_count G_l_inner M_l_inner K_l_inner B_l_inner Z_len Z_sum Z_zip
  have G_l_signs := ok_l_signs (P := l.prog) (w := w) (mg := mg) (base := base) (ct := (ctOf c_NoName)) F_l_signs Z_range
  have G_l_part := ok_l_part (P := l.prog) (w := w) (mg := mg) (base := base) (ct := (ctOf c_NoName)) F_l_part G_l_signs M_l_signs K_l_signs B_l_signs
  have G_l_thing := ok_l_thing (P := l.prog) (w := w) (mg := mg) (base := base) (ct := (ctOf c_NoName)) F_l_thing Z_len Z_range
  have G_place_of := ok_place_of (P := l.prog) (w := w) (mg := mg) (base := base) (ct := (ctOf c_NoName)) F_place_of Z_enumerate
  have G_all_alike := ok_all_alike (P := l.prog) (w := w) (mg := mg) (base := base) (ct := (ctOf c_NoName)) F_all_alike Z_all Z_len
  have G_shape_of := ok_shape_of (P := l.prog) (w := w) (mg := mg) (base := base) (ct := (ctOf c_NoName)) F_shape_of X_NoName
  have Q_measured : ∀ n : Nat, FnOk l.prog w K mg base (L2.CX l.prog w) (1 + n) a_measured (PySem.W.fnOf "measured" "measured" (defArgs s_measured) (defBody s_measured) (defScope s_measured) .none kV10 dc10 pm10 an10 cd10 ct10) P_measured (spG K (ctOf c_NoName) 3 (S_measured n)) := by
    intro n
    induction n with
    | zero => exact (fn_zero (ps := P_measured)).mono (Nat.zero_le _)
    | succ n ih =>
      have G_measured := ih
      exact ok_measured (P := l.prog) (w := w) (mg := mg) (base := base) (ct := (ctOf c_NoName)) F_measured (Nat.le_add_right _ _) G_measured M_measured K_measured B_measured G_place_of M_place_of K_place_of B_place_of G_shape_of M_shape_of K_shape_of B_shape_of Z_len Z_sum Z_zip
  have G_measured := Q_measured 20
  have G_heaps := ok_heaps (P := l.prog) (w := w) (mg := mg) (base := base) (ct := (ctOf c_NoName)) F_heaps
  have G_order_of_heaps := ok_order_of_heaps (P := l.prog) (w := w) (mg := mg) (base := base) (ct := (ctOf c_NoName)) F_order_of_heaps G_heaps M_heaps K_heaps B_heaps
  have G_sign_of := ok_sign_of (P := l.prog) (w := w) (mg := mg) (base := base) (ct := (ctOf c_NoName)) F_sign_of Z_int
  have G_order_of_texts := ok_order_of_texts (P := l.prog) (w := w) (mg := mg) (base := base) (ct := (ctOf c_NoName)) F_order_of_texts G_sign_of M_sign_of K_sign_of B_sign_of Z_zip
  have Q_order : ∀ n : Nat, FnOk l.prog w K mg base (L2.CX l.prog w) (21 + n) a_order (PySem.W.fnOf "order" "order" (defArgs s_order) (defBody s_order) (defScope s_order) .none kV17 dc17 pm17 an17 cd17 ct17) P_order (spG K (ctOf c_NoName) 4 (S_order n)) ∧ FnOk l.prog w K mg base (L2.CX l.prog w) (21 + n) a_order_of_picks (PySem.W.fnOf "order_of_picks" "order_of_picks" (defArgs s_order_of_picks) (defBody s_order_of_picks) (defScope s_order_of_picks) .none kV16 dc16 pm16 an16 cd16 ct16) P_order_of_picks (spG K (ctOf c_NoName) 4 (S_order_of_picks n)) ∧ FnOk l.prog w K mg base (L2.CX l.prog w) (21 + n) a_order_of_rows (PySem.W.fnOf "order_of_rows" "order_of_rows" (defArgs s_order_of_rows) (defBody s_order_of_rows) (defScope s_order_of_rows) .none kV15 dc15 pm15 an15 cd15 ct15) P_order_of_rows (spG K (ctOf c_NoName) 4 (S_order_of_rows n)) := by
    intro n
    induction n with
    | zero => exact ⟨(fn_zero (ps := P_order)).mono (Nat.zero_le _), (fn_zero (ps := P_order_of_picks)).mono (Nat.zero_le _), (fn_zero (ps := P_order_of_rows)).mono (Nat.zero_le _)⟩
    | succ n ih =>
      obtain ⟨G_order, G_order_of_picks, G_order_of_rows⟩ := ih
      exact ⟨ok_order (P := l.prog) (w := w) (mg := mg) (base := base) (ct := (ctOf c_NoName)) F_order (Nat.le_add_right _ _) G_measured M_measured K_measured B_measured G_order M_order K_order B_order G_order_of_heaps M_order_of_heaps K_order_of_heaps B_order_of_heaps G_order_of_picks M_order_of_picks K_order_of_picks B_order_of_picks G_order_of_rows M_order_of_rows K_order_of_rows B_order_of_rows G_order_of_texts M_order_of_texts K_order_of_texts B_order_of_texts G_shape_of M_shape_of K_shape_of B_shape_of G_sign_of M_sign_of K_sign_of B_sign_of, ok_order_of_picks (P := l.prog) (w := w) (mg := mg) (base := base) (ct := (ctOf c_NoName)) F_order_of_picks (Nat.le_add_right _ _) G_order M_order K_order B_order G_place_of M_place_of K_place_of B_place_of G_sign_of M_sign_of K_sign_of B_sign_of, ok_order_of_rows (P := l.prog) (w := w) (mg := mg) (base := base) (ct := (ctOf c_NoName)) F_order_of_rows (Nat.le_add_right _ _) G_order M_order K_order B_order Z_len Z_min Z_range⟩
  obtain ⟨G_order, G_order_of_picks, G_order_of_rows⟩ := Q_order 20
  have G_rises := ok_rises (P := l.prog) (w := w) (mg := mg) (base := base) (ct := (ctOf c_NoName)) F_rises G_order M_order K_order B_order Z_len Z_range
  have Q_fits : ∀ n : Nat, FnOk l.prog w K mg base (L2.CX l.prog w) (42 + n) a_fits (PySem.W.fnOf "fits" "fits" (defArgs s_fits) (defBody s_fits) (defScope s_fits) .none kV22 dc22 pm22 an22 cd22 ct22) P_fits (spG K (ctOf c_NoName) 3 (S_fits n)) ∧ FnOk l.prog w K mg base (L2.CX l.prog w) (42 + n) a_fits_branch (PySem.W.fnOf "fits_branch" "fits_branch" (defArgs s_fits_branch) (defBody s_fits_branch) (defScope s_fits_branch) .none kV21 dc21 pm21 an21 cd21 ct21) P_fits_branch (spG K (ctOf c_NoName) 3 (S_fits_branch n)) ∧ FnOk l.prog w K mg base (L2.CX l.prog w) (42 + n) a_fits_list (PySem.W.fnOf "fits_list" "fits_list" (defArgs s_fits_list) (defBody s_fits_list) (defScope s_fits_list) .none kV20 dc20 pm20 an20 cd20 ct20) P_fits_list (spG K (ctOf c_NoName) 3 (S_fits_list n)) ∧ FnOk l.prog w K mg base (L2.CX l.prog w) (42 + n) a_fits_parts (PySem.W.fnOf "fits_parts" "fits_parts" (defArgs s_fits_parts) (defBody s_fits_parts) (defScope s_fits_parts) .none kV19 dc19 pm19 an19 cd19 ct19) P_fits_parts (spG K (ctOf c_NoName) 3 (S_fits_parts n)) := by
    intro n
    induction n with
    | zero => exact ⟨(fn_zero (ps := P_fits)).mono (Nat.zero_le _), (fn_zero (ps := P_fits_branch)).mono (Nat.zero_le _), (fn_zero (ps := P_fits_list)).mono (Nat.zero_le _), (fn_zero (ps := P_fits_parts)).mono (Nat.zero_le _)⟩
    | succ n ih =>
      obtain ⟨G_fits, G_fits_branch, G_fits_list, G_fits_parts⟩ := ih
      exact ⟨ok_fits (P := l.prog) (w := w) (mg := mg) (base := base) (ct := (ctOf c_NoName)) F_fits (Nat.le_add_right _ _) G_fits M_fits K_fits B_fits G_fits_branch M_fits_branch K_fits_branch B_fits_branch G_fits_list M_fits_list K_fits_list B_fits_list G_fits_parts M_fits_parts K_fits_parts B_fits_parts G_shape_of M_shape_of K_shape_of B_shape_of Z_all Z_bool Z_int Z_isinstance Z_list Z_str Z_tuple, ok_fits_branch (P := l.prog) (w := w) (mg := mg) (base := base) (ct := (ctOf c_NoName)) F_fits_branch (Nat.le_add_right _ _) G_fits M_fits K_fits B_fits G_place_of M_place_of K_place_of B_place_of Z_isinstance Z_len Z_str, ok_fits_list (P := l.prog) (w := w) (mg := mg) (base := base) (ct := (ctOf c_NoName)) F_fits_list (Nat.le_add_right _ _) G_all_alike M_all_alike K_all_alike B_all_alike G_fits M_fits K_fits B_fits G_rises M_rises K_rises B_rises, ok_fits_parts (P := l.prog) (w := w) (mg := mg) (base := base) (ct := (ctOf c_NoName)) F_fits_parts (Nat.le_add_right _ _) G_fits M_fits K_fits B_fits Z_len Z_zip⟩
  obtain ⟨G_fits, G_fits_branch, G_fits_list, G_fits_parts⟩ := Q_fits 20
  have Q_own_copy : ∀ n : Nat, FnOk l.prog w K mg base (L2.CX l.prog w) (0 + n) a_own_copy (PySem.W.fnOf "own_copy" "own_copy" (defArgs s_own_copy) (defBody s_own_copy) (defScope s_own_copy) .none kV23 dc23 pm23 an23 cd23 ct23) P_own_copy (spG K (ctOf c_NoName) 1 (S_own_copy n)) := by
    intro n
    induction n with
    | zero => exact (fn_zero (ps := P_own_copy)).mono (Nat.zero_le _)
    | succ n ih =>
      have G_own_copy := ih
      exact ok_own_copy (P := l.prog) (w := w) (mg := mg) (base := base) (ct := (ctOf c_NoName)) F_own_copy (Nat.le_add_right _ _) G_own_copy M_own_copy K_own_copy B_own_copy Z_isinstance Z_list Z_tuple
  have G_own_copy := Q_own_copy 20
  have Q_at_uses : ∀ n : Nat, FnOk l.prog w K mg base (L2.CX l.prog w) (1 + n) a_at_uses (PySem.W.fnOf "at_uses" "at_uses" (defArgs s_at_uses) (defBody s_at_uses) (defScope s_at_uses) .none kV25 dc25 pm25 an25 cd25 ct25) P_at_uses (spG K (ctOf c_NoName) 4 (S_at_uses n)) ∧ FnOk l.prog w K mg base (L2.CX l.prog w) (1 + n) a_within_parts (PySem.W.fnOf "within_parts" "within_parts" (defArgs s_within_parts) (defBody s_within_parts) (defScope s_within_parts) .none kV24 dc24 pm24 an24 cd24 ct24) P_within_parts (spG K (ctOf c_NoName) 4 (S_within_parts n)) := by
    intro n
    induction n with
    | zero => exact ⟨(fn_zero (ps := P_at_uses)).mono (Nat.zero_le _), (fn_zero (ps := P_within_parts)).mono (Nat.zero_le _)⟩
    | succ n ih =>
      obtain ⟨G_at_uses, G_within_parts⟩ := ih
      exact ⟨ok_at_uses (P := l.prog) (w := w) (mg := mg) (base := base) (ct := (ctOf c_NoName)) F_at_uses (Nat.le_add_right _ _) G_at_uses M_at_uses K_at_uses B_at_uses G_shape_of M_shape_of K_shape_of B_shape_of G_within_parts M_within_parts K_within_parts B_within_parts Z_len, ok_within_parts (P := l.prog) (w := w) (mg := mg) (base := base) (ct := (ctOf c_NoName)) F_within_parts (Nat.le_add_right _ _) G_at_uses M_at_uses K_at_uses B_at_uses Z_zip⟩
  obtain ⟨G_at_uses, G_within_parts⟩ := Q_at_uses 20
  have G_left_out := ok_left_out (P := l.prog) (w := w) (mg := mg) (base := base) (ct := (ctOf c_NoName)) F_left_out Z_len Z_range
  have Q_least_of_pick : ∀ n : Nat, FnOk l.prog w K mg base (L2.CX l.prog w) (0 + n) a_least_of_pick (PySem.W.fnOf "least_of_pick" "least_of_pick" (defArgs s_least_of_pick) (defBody s_least_of_pick) (defScope s_least_of_pick) .none kV28 dc28 pm28 an28 cd28 ct28) P_least_of_pick (spG K (ctOf c_NoName) 2 (S_least_of_pick n)) ∧ FnOk l.prog w K mg base (L2.CX l.prog w) (0 + n) a_least_of_row (PySem.W.fnOf "least_of_row" "least_of_row" (defArgs s_least_of_row) (defBody s_least_of_row) (defScope s_least_of_row) .none kV27 dc27 pm27 an27 cd27 ct27) P_least_of_row (spG K (ctOf c_NoName) 2 (S_least_of_row n)) ∧ FnOk l.prog w K mg base (L2.CX l.prog w) (0 + n) a_least_size (PySem.W.fnOf "least_size" "least_size" (defArgs s_least_size) (defBody s_least_size) (defScope s_least_size) .none kV29 dc29 pm29 an29 cd29 ct29) P_least_size (spG K (ctOf c_NoName) 2 (S_least_size n)) := by
    intro n
    induction n with
    | zero => exact ⟨(fn_zero (ps := P_least_of_pick)).mono (Nat.zero_le _), (fn_zero (ps := P_least_of_row)).mono (Nat.zero_le _), (fn_zero (ps := P_least_size)).mono (Nat.zero_le _)⟩
    | succ n ih =>
      obtain ⟨G_least_of_pick, G_least_of_row, G_least_size⟩ := ih
      exact ⟨ok_least_of_pick (P := l.prog) (w := w) (mg := mg) (base := base) (ct := (ctOf c_NoName)) F_least_of_pick (Nat.le_add_right _ _) G_least_size M_least_size K_least_size B_least_size, ok_least_of_row (P := l.prog) (w := w) (mg := mg) (base := base) (ct := (ctOf c_NoName)) F_least_of_row (Nat.le_add_right _ _) G_least_size M_least_size K_least_size B_least_size, ok_least_size (P := l.prog) (w := w) (mg := mg) (base := base) (ct := (ctOf c_NoName)) F_least_size (Nat.le_add_right _ _) G_least_of_pick M_least_of_pick K_least_of_pick B_least_of_pick G_least_of_row M_least_of_row K_least_of_row B_least_of_row G_least_size M_least_size K_least_size B_least_size⟩
  obtain ⟨G_least_of_pick, G_least_of_row, G_least_size⟩ := Q_least_of_pick 20
  have G_least_sizes := ok_least_sizes (P := l.prog) (w := w) (mg := mg) (base := base) (ct := (ctOf c_NoName)) F_least_sizes G_least_size M_least_size K_least_size B_least_size Z_len Z_range
  have Q_least_thing : ∀ n : Nat, FnOk l.prog w K mg base (L2.CX l.prog w) (20 + n) a_least_thing (PySem.W.fnOf "least_thing" "least_thing" (defArgs s_least_thing) (defBody s_least_thing) (defScope s_least_thing) .none kV31 dc31 pm31 an31 cd31 ct31) P_least_thing (spG K (ctOf c_NoName) 3 (S_least_thing n)) := by
    intro n
    induction n with
    | zero => exact (fn_zero (ps := P_least_thing)).mono (Nat.zero_le _)
    | succ n ih =>
      have G_least_thing := ih
      exact ok_least_thing (P := l.prog) (w := w) (mg := mg) (base := base) (ct := (ctOf c_NoName)) F_least_thing (Nat.le_add_right _ _) G_least_size M_least_size K_least_size B_least_size G_least_thing M_least_thing K_least_thing B_least_thing Z_range Z_tuple
  have G_least_thing := Q_least_thing 20
  have G_least_value := ok_least_value (P := l.prog) (w := w) (mg := mg) (base := base) (ct := (ctOf c_NoName)) F_least_value G_least_size M_least_size K_least_size B_least_size G_least_sizes M_least_sizes K_least_sizes B_least_sizes G_least_thing M_least_thing K_least_thing B_least_thing
  have G_size_of := ok_size_of (P := l.prog) (w := w) (mg := mg) (base := base) (ct := (ctOf c_NoName)) F_size_of G_fits M_fits K_fits B_fits G_measured M_measured K_measured B_measured
  have G_whole_steps := ok_whole_steps (P := l.prog) (w := w) (mg := mg) (base := base) (ct := (ctOf c_NoName)) F_whole_steps Z_list Z_reversed
  have Q_list_steps : ∀ n : Nat, FnOk l.prog w K mg base (L2.CX l.prog w) (63 + n) a_list_steps (PySem.W.fnOf "list_steps" "list_steps" (defArgs s_list_steps) (defBody s_list_steps) (defScope s_list_steps) .none kV37 dc37 pm37 an37 cd37 ct37) P_list_steps (spG K (ctOf c_NoName) 3 (S_list_steps n)) ∧ FnOk l.prog w K mg base (L2.CX l.prog w) (63 + n) a_pick_steps (PySem.W.fnOf "pick_steps" "pick_steps" (defArgs s_pick_steps) (defBody s_pick_steps) (defScope s_pick_steps) .none kV36 dc36 pm36 an36 cd36 ct36) P_pick_steps (spG K (ctOf c_NoName) 3 (S_pick_steps n)) ∧ FnOk l.prog w K mg base (L2.CX l.prog w) (63 + n) a_plain_steps (PySem.W.fnOf "plain_steps" "plain_steps" (defArgs s_plain_steps) (defBody s_plain_steps) (defScope s_plain_steps) .none kV38 dc38 pm38 an38 cd38 ct38) P_plain_steps (spG K (ctOf c_NoName) 3 (S_plain_steps n)) ∧ FnOk l.prog w K mg base (L2.CX l.prog w) (63 + n) a_row_steps (PySem.W.fnOf "row_steps" "row_steps" (defArgs s_row_steps) (defBody s_row_steps) (defScope s_row_steps) .none kV35 dc35 pm35 an35 cd35 ct35) P_row_steps (spG K (ctOf c_NoName) 3 (S_row_steps n)) := by
    intro n
    induction n with
    | zero => exact ⟨(fn_zero (ps := P_list_steps)).mono (Nat.zero_le _), (fn_zero (ps := P_pick_steps)).mono (Nat.zero_le _), (fn_zero (ps := P_plain_steps)).mono (Nat.zero_le _), (fn_zero (ps := P_row_steps)).mono (Nat.zero_le _)⟩
    | succ n ih =>
      obtain ⟨G_list_steps, G_pick_steps, G_plain_steps, G_row_steps⟩ := ih
      exact ⟨ok_list_steps (P := l.prog) (w := w) (mg := mg) (base := base) (ct := (ctOf c_NoName)) F_list_steps (Nat.le_add_right _ _) G_left_out M_left_out K_left_out B_left_out G_plain_steps M_plain_steps K_plain_steps B_plain_steps Z_enumerate, ok_pick_steps (P := l.prog) (w := w) (mg := mg) (base := base) (ct := (ctOf c_NoName)) F_pick_steps (Nat.le_add_right _ _) G_least_value M_least_value K_least_value B_least_value G_plain_steps M_plain_steps K_plain_steps B_plain_steps G_size_of M_size_of K_size_of B_size_of, ok_plain_steps (P := l.prog) (w := w) (mg := mg) (base := base) (ct := (ctOf c_NoName)) F_plain_steps (Nat.le_add_right _ _) G_at_uses M_at_uses K_at_uses B_at_uses G_fits M_fits K_fits B_fits G_left_out M_left_out K_left_out B_left_out G_list_steps M_list_steps K_list_steps B_list_steps G_pick_steps M_pick_steps K_pick_steps B_pick_steps G_plain_steps M_plain_steps K_plain_steps B_plain_steps G_row_steps M_row_steps K_row_steps B_row_steps G_shape_of M_shape_of K_shape_of B_shape_of G_whole_steps M_whole_steps K_whole_steps B_whole_steps, ok_row_steps (P := l.prog) (w := w) (mg := mg) (base := base) (ct := (ctOf c_NoName)) F_row_steps (Nat.le_add_right _ _) G_plain_steps M_plain_steps K_plain_steps B_plain_steps Z_enumerate⟩
  obtain ⟨G_list_steps, G_pick_steps, G_plain_steps, G_row_steps⟩ := Q_list_steps 20
  have G_steps_of := ok_steps_of (P := l.prog) (w := w) (mg := mg) (base := base) (ct := (ctOf c_NoName)) F_steps_of G_fits M_fits K_fits B_fits G_own_copy M_own_copy K_own_copy B_own_copy G_plain_steps M_plain_steps K_plain_steps B_plain_steps
  have G_law := ok_law (P := l.prog) (w := w) (mg := mg) (base := base) (ct := (ctOf c_NoName)) F_law G_l_alike M_l_alike K_l_alike B_l_alike G_l_cell_at M_l_cell_at K_l_cell_at B_l_cell_at G_l_count M_l_count K_l_count B_l_count G_l_inner M_l_inner K_l_inner B_l_inner G_l_part M_l_part K_l_part B_l_part G_l_signs M_l_signs K_l_signs B_l_signs G_l_thing M_l_thing K_l_thing B_l_thing G_steps_of M_steps_of K_steps_of B_steps_of Z_isinstance Z_len Z_list Z_max Z_range Z_tuple Z_zip
  exact fn_law G_law
end Law

/-! GTx: texts as lists of signs. -/
namespace Law
open PySem L2 Gs
/-- the text of these signs -/
def St (l : List Nat) : Str := ⟨l.toArray⟩
@[simp] theorem St_tl (l : List Nat) : (St l).cps.toList = l := id rfl
theorem tl_St (x : Str) : St x.cps.toList = x := TL.mk_tl x
theorem St_eq {a b : List Nat} : (St a = St b) = (a = b) := by
  refine propext ⟨fun h => ?_, fun h => by rw [h]⟩
  have := congrArg (fun x : Str => x.cps.toList) h
  simpa using this
@[simp] theorem St_len (l : List Nat) : (St l).length = l.length := by simp [St, Str.length]
@[simp] theorem St_cat (a b : List Nat) : St a ++ St b = St (a ++ b) := TL.ext_tl (TL.tl_append (St a) (St b))
theorem of_St {x : Str} {l : List Nat} (h : x.cps.toList = l) : x = St l := by rw [← h, tl_St]
@[simp] theorem c_nil : Str.ofString "" = St [] := of_St (by decide +kernel)
@[simp] theorem c_opn : Str.ofString "(" = St [40] := of_St (by decide +kernel)
@[simp] theorem c_cls : Str.ofString ")" = St [41] := of_St (by decide +kernel)
@[simp] theorem c_com : Str.ofString "," = St [44] := of_St (by decide +kernel)
@[simp] theorem c_col : Str.ofString ":" = St [58] := of_St (by decide +kernel)
@[simp] theorem c_stop : Str.ofString "()," = St [40, 41, 44] := of_St (by decide +kernel)
def lets : List Nat := (List.range 26).map (97 + ·)
def grts : List Nat := (List.range 26).map (65 + ·)
def figs : List Nat := (List.range 10).map (48 + ·)
@[simp] theorem c_lets : Str.ofString "abcdefghijklmnopqrstuvwxyz" = St lets := of_St (by decide +kernel)
@[simp] theorem c_grts : Str.ofString "ABCDEFGHIJKLMNOPQRSTUVWXYZ" = St grts := of_St (by decide +kernel)
@[simp] theorem c_figs : Str.ofString "0123456789" = St figs := of_St (by decide +kernel)
@[simp] theorem c_dash : Str.ofString "-" = St [45] := of_St (by decide +kernel)
def wsig : List Nat := lets ++ grts ++ figs ++ [45]
@[simp] theorem sg_St (l : List Nat) : signs (St l) = l.map fun c => .str (St [c]) := id rfl
@[simp] theorem v_inS (c : Nat) (l : List Nat) : gIn (.str (St [c])) (.str (St l)) = some (.bl (decide (c ∈ l))) := id rfl
@[simp] theorem v_ninS (c : Nat) (l : List Nat) : gNin (.str (St [c])) (.str (St l)) = some (.bl (!decide (c ∈ l))) := id rfl
@[simp] theorem v_addS (a b : List Nat) : gAdd (.str (St a)) (.str (St b)) = if a.length + b.length ≤ sizeLine then some (.str (St (a ++ b))) else none := by
  simp only [gAdd, St_len, St_cat]
@[simp] theorem v_lenSt (a : List Nat) : gLen [.str (St a)] = if a.length ≤ sizeLine then some (.int a.length) else none := by simp
@[simp] theorem v_slS (a : List Nat) (lo hi : Option Int) : gSl (.str (St a)) lo hi = if a.length ≤ sizeLine then some (.str (St (cutL a lo hi))) else none := by
  have e : cutS (St a) lo hi = St (cutL a lo hi) := of_St (by simp [cutS, cutL])
  simp only [gSl, St_len, e]
theorem v_ixS (a : List Nat) (i : Int) : gIx (.str (St a)) (.int i) = if a.length ≤ sizeLine then (atI a i).map fun c => .str (St [c]) else none := by
  simp only [gIx, St_len, St_tl]
  rfl
theorem lc_signs (l : List Nat) (k : Nat) (e : E) (δ : Sl) (s : Sto) (f : Nat → Bool) (he : ∀ c, e (δ.set k (some (.str (St [c])))) s = .ok (.bl (f c)) s) : lcD (.nm k) tTrue e δ (l.map fun c => .str (St [c])) s = .ok (l.map fun c => D.bl (f c)) s := by
  induction l with
  | nil => rfl
  | cons c l ih => simp [lcD, he, ih]
theorem gAll_map {α : Type} (l : List α) (f : α → Bool) : gAll [.lst (l.map fun c => D.bl (f c))] = some (.bl (l.all f)) := by
  have e : l.map (fun c => D.bl (f c)) = (l.map f).map D.bl := by simp
  have e2 : ∀ l : List α, (l.map f).all (fun b => b) = l.all f := fun l => by
    induction l with
    | nil => rfl
    | cons c l ih => simp [ih]
  rw [e]
  simp only [gAll, blsOf_map, Option.map_some, e2]
theorem at_St {T : List Nat} {j c : Nat} (hl : T.length ≤ sizeLine) (h : T[j]? = some c) : gIx (.str (St T)) (.int (j : Int)) = some (.str (St [c])) := by
  obtain ⟨h1, h2⟩ := List.getElem?_eq_some_iff.mp h
  rw [v_ixS, if_pos hl, atI_ofNat T h1, h2]
  rfl
end Law

/-! GSt: steps of numbers, texts and rows. -/
namespace Law
open PySem L2 Gs
@[simp] theorem ne_text_whole : (Str.ofString "text" = Str.ofString "whole") = False := eq_false (by decide +kernel)
@[simp] theorem ne_row_whole : (Str.ofString "row" = Str.ofString "whole") = False := eq_false (by decide +kernel)
@[simp] theorem ne_row_text : (Str.ofString "row" = Str.ofString "text") = False := eq_false (by decide +kernel)
@[simp] theorem ne_whole_text : (Str.ofString "whole" = Str.ofString "text") = False := eq_false (by decide +kernel)
@[simp] theorem gslT (xs : List D) (lo hi : Option Int) : gSl (.tup xs) lo hi = some (.tup (cutD xs lo hi)) := id rfl
@[simp] theorem v_addT (xs ys : List D) : gAdd (.tup xs) (.tup ys) = if xs.length + ys.length ≤ sizeLine then some (.tup (xs ++ ys)) else none := id rfl
theorem cutDL (xs : List D) (lo hi : Option Int) : cutD xs lo hi = cutL xs lo hi := rfl
theorem tk_pre (pre : List D) (r : List D) : cutD (pre ++ r) none (some (pre.length : Int)) = pre := by
  rw [cutDL, cutL_hi, List.take_left' rfl]
theorem dr_pre (pre : List D) (v : D) (r : List D) : cutD (pre ++ v :: r) (some ((pre.length : Int) + 1)) none = r := by
  have := cutL_lo (pre ++ v :: r) (pre.length + 1)
  push_cast at this
  rw [cutDL, this, ← List.drop_drop, List.drop_left' rfl]
  rfl
theorem at_pre (pre : List D) (v : D) (r : List D) : atI (pre ++ v :: r) (pre.length : Int) = some v := by
  rw [atI_ofNat _ (by simp)]
  simp
/-! numbers -/
def hs : Nat → Nat → List Nat
  | 0, _ => []
  | k + 1, f => if f = 0 then [] else (f / 2) :: hs k (f / 2)
theorem hs_len : ∀ k f, (hs k f).length ≤ k
  | 0, f => Nat.le_refl _
  | k + 1, f => by
    unfold hs
    split
    · simp
    · have := hs_len k (f / 2)
      simp
      omega
def hd (low : Int) (k f : Nat) : List D := (hs k f).map fun (x : Nat) => D.int (low + (x : Int))
theorem whole_loop (low v : Int) (s : Sto) : ∀ (k f n : Nat) (done : List D), f < 2 ^ k → k < n → k ≤ 100 → done.length + k ≤ 1000 →
    whileD T_whole_steps_0 L_whole_steps_0 n [some (.int low), some (.int v), some (.ob s.length), some (.int (f : Int))] (s ++ [.lst done]) = .nx [some (.int low), some (.int v), some (.ob s.length), some (.int 0)] (s ++ [.lst (done ++ hd low k f)])
  | 0, f, n + 1, done, hf, hn, hk, hd' => by
    have h0 : f = 0 := by simp at hf; omega
    subst h0
    have hc : T_whole_steps_0 [some (.int low), some (.int v), some (.ob s.length), some (.int ((0 : Nat) : Int))] (s ++ [.lst done]) = .ok false (s ++ [.lst done]) := by simp [T_whole_steps_0]
    simp only [whileD, hc]
    simp [hd, hs]
  | k + 1, f, n + 1, done, hf, hn, hk, hd' => by
    by_cases h0 : f = 0
    · subst h0
      have hc : T_whole_steps_0 [some (.int low), some (.int v), some (.ob s.length), some (.int ((0 : Nat) : Int))] (s ++ [.lst done]) = .ok false (s ++ [.lst done]) := by simp [T_whole_steps_0]
      simp only [whileD, hc]
      simp [hd, hs]
    · have hp' : 0 < f := by omega
      have hc : T_whole_steps_0 [some (.int low), some (.int v), some (.ob s.length), some (.int (f : Int))] (s ++ [.lst done]) = .ok true (s ++ [.lst done]) := by simp [T_whole_steps_0, hp']
      have hl : done.length < sizeLine := Nat.lt_of_lt_of_le (show done.length < 100000 by omega) (small_line (Nat.le_refl _))
      have hb : L_whole_steps_0 [some (.int low), some (.int v), some (.ob s.length), some (.int (f : Int))] (s ++ [.lst done]) = .nx [some (.int low), some (.int v), some (.ob s.length), some (.int ((f / 2 : Nat) : Int))] (s ++ [.lst (done ++ [.int (low + ((f / 2 : Nat) : Int))])]) := by
        simp [L_whole_steps_0, hl]
      rw [Nat.pow_succ] at hf
      have ih := whole_loop low v s k (f / 2) n (done ++ [.int (low + ((f / 2 : Nat) : Int))]) (by omega) (by omega) (by omega) (by simp; omega)
      simp only [whileD, hc, hb, ih]
      have e : hd low (k + 1) f = .int (low + ((f / 2 : Nat) : Int)) :: hd low k (f / 2) := by simp [hd, hs, h0]
      rw [e]
      simp
theorem whole_steps_val (low : Int) (f : Nat) (hf : f < 2 ^ 16) (s : Sto) : S_whole_steps [.int low, .int (low + (f : Int))] s = .ok (.lst (hd low 16 f).reverse) (s ++ [.gone]) := by
  have e := whole_loop low (low + (f : Int)) s 16 f fuel [] hf (by unfold fuel; omega) (by decide) (by simp)
  have hq : low + (f : Int) - low = (f : Int) := by omega
  apply runG_rt
  simp at e
  simp [hq, e]
def shp (low high : Int) : D := .tup [.str (Str.ofString "whole"), .int low, .int high]
def shT (sg : List Nat) : D := .tup [.str (Str.ofString "text"), .str (St sg)]
def shR (ps : List D) : D := .tup [.str (Str.ofString "row"), .tup ps]
/-- what the steps of a value are -/
structure Stp (n : Nat) (sh v : D) (st : List D) : Prop where
  pl : ∀ b m s, ∃ d g g', S_plain_steps (m + n) [b, sh, v] s = .ok d (s ++ g) ∧ frzD (s ++ g) d = (.lst st, s ++ g')
  ft : ∀ b m s, S_fits (m + n) [b, sh, v] s = .ok (.bl true) s
  cs : ∀ x ∈ st, ∀ m s, S_own_copy (m + n) [x] s = .ok x s
  cv : ∀ m s, S_own_copy (m + n) [v] s = .ok v s
  ln : st.length ≤ 400
theorem copy_int (i : Int) (m : Nat) (s : Sto) : S_own_copy (m + 1) [.int i] s = .ok (.int i) s := by
  show U_own_copy _ _ _ = _
  apply runG_rt
  simp
theorem copy_str (i : Str) (m : Nat) (s : Sto) : S_own_copy (m + 1) [.str i] s = .ok (.str i) s := by
  show U_own_copy _ _ _ = _
  apply runG_rt
  simp
theorem stp_whole {low high : Int} {f : Nat} (hf : f < 2 ^ 16) (hh : low + (f : Int) ≤ high) : Stp 1 (shp low high) (.int (low + (f : Int))) (hd low 16 f).reverse where
  pl := fun b m s => ⟨.lst (hd low 16 f).reverse, [.gone], [.gone], by
    have e := whole_steps_val low f hf s
    show U_plain_steps _ _ _ _ _ _ = _
    apply runG_rt
    simp [shp, e], by simp⟩
  ft := fun b m s => by
    have h1 : low ≤ low + (f : Int) := by omega
    obtain ⟨v, hv⟩ : ∃ v, low + (f : Int) = v := ⟨_, rfl⟩
    rw [hv] at h1 hh ⊢
    show U_fits _ _ _ _ _ _ = _
    apply runG_rt
    simp [shp, hh, h1]
  cs := fun x hx m s => by
    simp only [hd, List.mem_reverse, List.mem_map] at hx
    obtain ⟨y, _, rfl⟩ := hx
    exact copy_int _ m s
  cv := fun m s => copy_int _ m s
  ln := by
    have := hs_len 16 f
    simp [hd]
    omega
/-! texts -/
def outs (t : List Nat) : List D := (List.range t.length).map fun k => .str (St (t.take k ++ t.drop (k + 1)))
theorem outs_len (t : List Nat) : (outs t).length = t.length := by simp [outs]
theorem lc_outs {t : List Nat} (ht : t.length ≤ 1000) {i j : Nat} {δ : Sl} {s : Sto} (hi : δ[i]? = some (some (.str (St t)))) (hj : j < δ.length) (hij : i ≠ j) :
    lcD (.nm j) tTrue (eBin gAdd (eSl (eV i) oNone (oSome (eV j))) (eSl (eV i) (oSome (eBin gAdd (eV j) (eC (.int 1)))) oNone)) δ (rngD 0 t.length) s = .ok (outs t) s :=
  lcD_mapL (fun (k : Nat) => D.int (0 + (k : Int))) (fun (k : Nat) => D.str (St (t.take k ++ t.drop (k + 1)))) (List.range t.length) fun k hk => ⟨_, by simp; rfl, by simp, by
    have a1 := cutL_hi t k
    have a2 := cutL_lo t (k + 1)
    push_cast at a2
    have l1 : t.length ≤ sizeLine := small_line (by omega)
    have l2 : (t.take k).length + (t.drop (k + 1)).length ≤ sizeLine := small_line (by simp; omega)
    simp at l2
    simp [List.getElem?_set, hi, hj, hij, Ne.symm hij, a1, a2, l1, l2]⟩
theorem left_val {t : List Nat} (ht : t.length ≤ 1000) (s : Sto) : S_left_out [.str (St t)] s = .ok (.ob s.length) (s ++ [.lst (outs t)]) := by
  have l1 : t.length ≤ sizeLine := small_line (by omega)
  have e := lc_outs (i := 0) (j := 1) (δ := [some (.str (St t)), none]) (s := s) ht rfl (by simp) (by decide)
  have hr : rngOk (t.length : Int) := rngOk_nat (by omega)
  apply runG_rt
  simp [l1, hr, wipeD, e, outs_len]
theorem stp_text {sg t : List Nat} (ht : t.length ≤ 400) (hc : ∀ c ∈ t, c ∈ sg) : Stp 1 (shT sg) (.str (St t)) (outs t) where
  pl := fun b m s => ⟨.ob s.length, [.lst (outs t)], [.gone], by
    have e := left_val (t := t) (by omega) s
    show U_plain_steps _ _ _ _ _ _ = _
    apply runG_rt
    simp [shT, e], by simp⟩
  ft := fun b m s => by
    have e := lc_signs t 3 (eBin gIn (eV 3) (eBin gIx (eV 1) (eC (.int 1)))) [some b, some (shT sg), some (.str (St t)), none] s (fun c => decide (c ∈ sg)) (fun c => by simp [shT])
    have g := gAll_map t (fun c => decide (c ∈ sg))
    have hall : t.all (fun c => decide (c ∈ sg)) = true := by
      rw [List.all_eq_true]
      exact fun c h => decide_eq_true (hc c h)
    rw [hall] at g
    have l1 : t.length ≤ sizeLine := small_line (by omega)
    show U_fits _ _ _ _ _ _ = _
    apply runG_rt
    simp only [shT] at e
    simp [shT, wipeD, e, g, l1]
  cs := fun x hx m s => by
    simp only [outs, List.mem_map] at hx
    obtain ⟨y, _, rfl⟩ := hx
    exact copy_str _ m s
  cv := fun m s => copy_str _ m s
  ln := by rw [outs_len]; exact ht
/-! rows -/
def rowsR : List (D × List D) → List (List D)
  | [] => []
  | (v, st) :: r => st.map (fun x => x :: r.map (·.1)) ++ (rowsR r).map fun l => v :: l
theorem rowsR_mem : ∀ {ps : List (D × List D)} {l : List D}, l ∈ rowsR ps → l.length = ps.length ∧ ∀ x ∈ l, ∃ p ∈ ps, x = p.1 ∨ x ∈ p.2
  | [], l, h => nomatch h
  | (v, st) :: r, l, h => by
    simp only [rowsR, List.mem_append, List.mem_map] at h
    rcases h with ⟨x, hx, rfl⟩ | ⟨m, hm, rfl⟩
    · refine ⟨by simp, fun y hy => ?_⟩
      rcases List.mem_cons.mp hy with rfl | hy
      · exact ⟨(v, st), by simp, .inr hx⟩
      · obtain ⟨p, hp, rfl⟩ := List.mem_map.mp hy
        exact ⟨p, by simp [hp], .inl rfl⟩
    · obtain ⟨h1, h2⟩ := rowsR_mem hm
      refine ⟨by simp [h1], fun y hy => ?_⟩
      rcases List.mem_cons.mp hy with rfl | hy
      · exact ⟨(_, st), by simp, .inl rfl⟩
      · obtain ⟨p, hp, h3⟩ := h2 y hy
        exact ⟨p, by simp [hp], h3⟩
theorem rowsR_app : ∀ (a b : List (D × List D)), rowsR (a ++ b) = (rowsR a).map (fun l => l ++ b.map (·.1)) ++ (rowsR b).map fun l => a.map (·.1) ++ l
  | [], b => by simp [rowsR]
  | (v, st) :: a, b => by
    simp only [List.cons_append, rowsR, rowsR_app a b]
    simp [List.map_append, List.map_map, Function.comp_def]
def enumF : Nat → List D → List D
  | _, [] => []
  | i, x :: xs => .tup [.int (i : Int), x] :: enumF (i + 1) xs
theorem enumD_F : ∀ (xs : List D) (i : Nat), ((xs.zipIdx i).map fun p => D.tup [.int (p.2 : Nat), p.1]) = enumF i xs
  | [], i => rfl
  | x :: xs, i => by
    rw [List.zipIdx_cons, List.map_cons, enumD_F xs (i + 1)]
    rfl
theorem row_in (c1 c2 c3 c4 : List D → Sto → R D) {b sh z : D} {pre rest : List D} {v : D} (hl : pre.length + rest.length ≤ 1000) (s g : Sto) : ∀ (st done : List D) (y : Option D), done.length + st.length ≤ 10000 →
    ∃ y', forD (.nm 6) (L_row_steps_1 c1 c2 c3 c4) st [some b, some sh, some (.tup (pre ++ v :: rest)), some (.ob s.length), some (.int (pre.length : Int)), some z, y] (s ++ .lst done :: g) =
      .nx [some b, some sh, some (.tup (pre ++ v :: rest)), some (.ob s.length), some (.int (pre.length : Int)), some z, y'] (s ++ .lst (done ++ st.map fun x => .tup (pre ++ x :: rest)) :: g)
  | [], done, y, _ => ⟨y, by simp [forD]⟩
  | x :: st, done, y, h => by
    obtain ⟨y', ih⟩ := row_in c1 c2 c3 c4 (b := b) (sh := sh) (z := z) (v := v) hl s g st (done ++ [.tup (pre ++ x :: rest)]) (some x) (by simp at h ⊢; omega)
    refine ⟨y', ?_⟩
    have l1 : pre.length + 1 ≤ sizeLine := small_line (by omega)
    have l2 : pre.length + 1 + rest.length ≤ sizeLine := small_line (by omega)
    have l2' : pre.length + (1 + rest.length) ≤ sizeLine := small_line (by omega)
    have l3 : done.length < sizeLine := Nat.lt_of_lt_of_le (show done.length < 100000 by simp at h; omega) (small_line (Nat.le_refl _))
    have t1 := tk_pre pre (v :: rest)
    have t2 := dr_pre pre v rest
    have hb : L_row_steps_1 c1 c2 c3 c4 [some b, some sh, some (.tup (pre ++ v :: rest)), some (.ob s.length), some (.int (pre.length : Int)), some z, some x] (s ++ .lst done :: g) = .nx [some b, some sh, some (.tup (pre ++ v :: rest)), some (.ob s.length), some (.int (pre.length : Int)), some z, some x] (s ++ .lst (done ++ [.tup (pre ++ x :: rest)]) :: g) := by
      simp [L_row_steps_1, t1, t2, l1, l2, l2', l3]
    simp [forD, hb]
    simp at ih
    exact ih
theorem row_out {n m : Nat} {b sh : D} (s : Sto) (c1 c2 c4 : List D → Sto → R D) : ∀ (qs : List (D × D × List D)) (pre vs done : List D) (z y x : Option D) (g : Sto), (∀ q ∈ qs, Stp n q.1 q.2.1 q.2.2) → vs = pre ++ qs.map (·.2.1) → vs.length ≤ 100 → done.length + (rowsR (qs.map (·.2))).length ≤ 10000 →
    ∃ z' y' x' g', forD (.tp [.nm 4, .nm 5]) (L_row_steps_0 c1 c2 (S_plain_steps (m + n)) c4) (enumF pre.length (qs.map (·.1))) [some b, some sh, some (.tup vs), some (.ob s.length), z, y, x] (s ++ .lst done :: g) =
      .nx [some b, some sh, some (.tup vs), some (.ob s.length), z', y', x'] (s ++ .lst (done ++ (rowsR (qs.map (·.2))).map fun l => .tup (pre ++ l)) :: g')
  | [], pre, vs, done, z, y, x, g, _, _, _, _ => ⟨z, y, x, g, by simp [forD, enumF, rowsR]⟩
  | (h, v, st) :: qs, pre, vs, done, z, y, x, g, hq, hv, hl, hd' => by
    have hS := hq (h, v, st) (by simp)
    simp only [List.map_cons] at hv
    obtain ⟨d, g1, g2, e1, e2⟩ := hS.pl b m (s ++ .lst done :: g)
    have hat := at_pre pre v (qs.map (·.2.1))
    have hll : pre.length + (qs.map (·.2.1)).length ≤ 1000 := by
      rw [hv] at hl
      simp at hl ⊢
      omega
    have hlen : done.length + st.length ≤ 10000 := by
      simp [rowsR] at hd'
      omega
    obtain ⟨x', e3⟩ := row_in c1 c2 (S_plain_steps (m + n)) c4 (b := b) (sh := sh) (z := h) (v := v) hll s (g ++ g2) st done x hlen
    obtain ⟨z', y', x'', g', ih⟩ := row_out s c1 c2 c4 qs (pre ++ [v]) vs (done ++ st.map fun x => .tup (pre ++ x :: qs.map (·.2.1))) (some (.int (pre.length : Int))) (some h) x' (g ++ g2) (fun q hq' => hq q (by simp [hq'])) (by rw [hv]; simp) hl (by simp [rowsR] at hd' ⊢; omega)
    refine ⟨z', y', x'', g', ?_⟩
    subst hv
    have e4 : forD (.nm 6) (L_row_steps_1 c1 c2 (S_plain_steps (m + n)) c4) st [some b, some sh, some (.tup (pre ++ v :: qs.map (·.2.1))), some (.ob s.length), some (.int (pre.length : Int)), some h, x] (s ++ .lst done :: (g ++ g2)) = _ := e3
    have hb : L_row_steps_0 c1 c2 (S_plain_steps (m + n)) c4 [some b, some sh, some (.tup (pre ++ v :: qs.map (·.2.1))), some (.ob s.length), some (.int (pre.length : Int)), some h, x] (s ++ .lst done :: g) =
        .nx [some b, some sh, some (.tup (pre ++ v :: qs.map (·.2.1))), some (.ob s.length), some (.int (pre.length : Int)), some h, x'] (s ++ .lst (done ++ st.map fun x => .tup (pre ++ x :: qs.map (·.2.1))) :: (g ++ g2)) := by
      simp at e1 e2
      simp [L_row_steps_0, hat, e1, e2, e4]
    simp only [List.map_cons, enumF]
    have he : enumF ((pre ++ [v]).length) (qs.map (·.1)) = enumF (pre.length + 1) (qs.map (·.1)) := by simp
    rw [he] at ih
    simp only [forD, v_tp, v_ps1, v_nm, v_ps0]
    simp only [List.set_cons_succ, List.set_cons_zero, hb]
    rw [ih]
    simp [rowsR, List.map_append, List.map_map, Function.comp_def]
theorem fit_loop {n m : Nat} {b : D} (c2 c3 c4 : List D → Sto → R D) (s : Sto) (x1 x2 : D) : ∀ (qs : List (D × D × List D)) (z y : Option D), (∀ q ∈ qs, Stp n q.1 q.2.1 q.2.2) →
    ∃ z' y', forD (.tp [.nm 3, .nm 4]) (L_fits_parts_0 (S_fits (m + n)) c2 c3 c4) (zipD (qs.map (·.1)) (qs.map (·.2.1))) [some b, some x1, some x2, z, y] s = .nx [some b, some x1, some x2, z', y'] s
  | [], z, y, _ => ⟨z, y, rfl⟩
  | (h, v, st) :: qs, z, y, hq => by
    have e := (hq (h, v, st) (by simp)).ft b m s
    obtain ⟨z', y', ih⟩ := fit_loop (m := m) (b := b) c2 c3 c4 s x1 x2 qs (some h) (some v) fun q hq' => hq q (by simp [hq'])
    refine ⟨z', y', ?_⟩
    have hz : zipD (((h, v, st) :: qs).map (·.1)) (((h, v, st) :: qs).map (·.2.1)) = .tup [h, v] :: zipD (qs.map (·.1)) (qs.map (·.2.1)) := rfl
    have hb : L_fits_parts_0 (S_fits (m + n)) c2 c3 c4 [some b, some x1, some x2, some h, some v] s = .nx [some b, some x1, some x2, some h, some v] s := by
      simp [L_fits_parts_0, e]
    rw [hz]
    simp [forD, hb, ih]
theorem copy_tup {n : Nat} {xs : List D} (h : ∀ x ∈ xs, ∀ m s, S_own_copy (m + n) [x] s = .ok x s) (hl : xs.length ≤ 1000) (m : Nat) (s : Sto) : S_own_copy (m + (n + 1)) [.tup xs] s = .ok (.tup xs) s := by
  have e : ∀ x : D, lcD (.nm 1) tTrue (eCall (S_own_copy (m + n)) (aCons (eV 1) aNil)) [some x, none] xs s = .ok xs s := fun x => by
    have := lcD_mapL (p := .nm 1) (c := tTrue) (e := eCall (S_own_copy (m + n)) (aCons (eV 1) aNil)) (δ := [some x, none]) (s := s) (fun y : D => y) (fun y : D => y) xs fun y hy => ⟨_, by simp; rfl, by simp, by simp [h y hy m s]⟩
    simpa using this
  have l1 : xs.length ≤ sizeLine := small_line (by omega)
  show U_own_copy _ _ _ = _
  apply runG_rt
  simp [wipeD, e, l1]
theorem stp_row {n : Nat} (hn : 1 ≤ n) {ps : List (D × D × List D)} (h : ∀ q ∈ ps, Stp n q.1 q.2.1 q.2.2) (hl : ps.length ≤ 100) (ht : (rowsR (ps.map (·.2))).length ≤ 400) :
    Stp (n + 2) (shR (ps.map (·.1))) (.tup (ps.map (·.2.1))) ((rowsR (ps.map (·.2))).map .tup) where
  pl := fun b m s => by
    obtain ⟨z', y', x', g', e⟩ := row_out (m := m) (b := b) (sh := .tup (ps.map (·.1))) s (S_list_steps (m + n)) (S_pick_steps (m + n)) (S_row_steps (m + n)) ps [] (ps.map (·.2.1)) [] none none none [] h rfl (by simpa using hl) (by simp at ht ⊢; omega)
    have he : enumD (ps.map (·.1)) = enumF 0 (ps.map (·.1)) := enumD_F _ 0
    have e2 : S_row_steps (m + n + 1) [b, .tup (ps.map (·.1)), .tup (ps.map (·.2.1))] s = .ok (.lst ((rowsR (ps.map (·.2))).map .tup)) (s ++ .gone :: g') := by
      show U_row_steps _ _ _ _ _ _ = _
      apply runG_rt
      simp at e
      simp [he, e]
    refine ⟨.lst ((rowsR (ps.map (·.2))).map .tup), .gone :: g', .gone :: g', ?_, by simp⟩
    show U_plain_steps (S_list_steps (m + n + 1)) (S_pick_steps (m + n + 1)) (S_plain_steps (m + n + 1)) (S_row_steps (m + n + 1)) _ _ = _
    apply runG_rt
    simp [shR, e2]
  ft := fun b m s => by
    obtain ⟨z', y', e⟩ := fit_loop (m := m) (b := b) (S_fits_branch (m + n)) (S_fits_list (m + n)) (S_fits_parts (m + n)) s (.tup (ps.map (·.1))) (.tup (ps.map (·.2.1))) ps none none h
    have e2 : S_fits_parts (m + n + 1) [b, .tup (ps.map (·.1)), .tup (ps.map (·.2.1))] s = .ok (.bl true) s := by
      show U_fits_parts _ _ _ _ _ _ = _
      apply runG_rt
      simp [e]
    show U_fits (S_fits (m + n + 1)) (S_fits_branch (m + n + 1)) (S_fits_list (m + n + 1)) (S_fits_parts (m + n + 1)) _ _ = _
    apply runG_rt
    simp [shR, e2]
  cs := fun x hx m s => by
    obtain ⟨l, hl', rfl⟩ := List.mem_map.mp hx
    obtain ⟨h1, h2⟩ := rowsR_mem hl'
    have := copy_tup (n := n) (xs := l) (fun x hx m s => by
      obtain ⟨p, hp, h3⟩ := h2 x hx
      obtain ⟨q, hq, rfl⟩ := List.mem_map.mp hp
      rcases h3 with rfl | h3
      · exact (h q hq).cv m s
      · exact (h q hq).cs x h3 m s) (by rw [h1]; simp; omega) (m + 1) s
    rwa [show m + 1 + (n + 1) = m + (n + 2) by omega] at this
  cv := fun m s => by
    have := copy_tup (n := n) (xs := ps.map (·.2.1)) (fun x hx m s => by
      obtain ⟨q, hq, rfl⟩ := List.mem_map.mp hx
      exact (h q hq).cv m s) (by simp; omega) (m + 1) s
    rwa [show m + 1 + (n + 1) = m + (n + 2) by omega] at this
  ln := by simpa using ht
theorem Stp.up {n k : Nat} {sh v : D} {st : List D} (h : Stp n sh v st) (hk : n ≤ k) : Stp k sh v st where
  pl := fun b m s => by
    have := h.pl b (m + (k - n)) s
    rwa [show m + (k - n) + n = m + k by omega] at this
  ft := fun b m s => by
    have := h.ft b (m + (k - n)) s
    rwa [show m + (k - n) + n = m + k by omega] at this
  cs := fun x hx m s => by
    have := h.cs x hx (m + (k - n)) s
    rwa [show m + (k - n) + n = m + k by omega] at this
  cv := fun m s => by
    have := h.cv (m + (k - n)) s
    rwa [show m + (k - n) + n = m + k by omega] at this
  ln := h.ln
theorem steps_val {sh v : D} {st : List D} (h : Stp 20 sh v st) (b : D) (s : Sto) : ∃ g, S_steps_of [b, sh, v] s = .ok (.lst st) (s ++ g) := by
  obtain ⟨d, g1, g2, e1, e2⟩ := h.pl b 0 s
  have e3 := h.ft b 0 s
  rw [Nat.zero_add] at e1 e3
  have hl : st.length ≤ sizeLine := small_line (by have := h.ln; omega)
  have e4 : ∀ x y z, lcD (.nm 3) tTrue (eCall (S_own_copy 20) (aCons (eV 3) aNil)) [x, y, z, none] st (s ++ g2) = .ok st (s ++ g2) := fun x y z => by
    have := lcD_mapL (p := .nm 3) (c := tTrue) (e := eCall (S_own_copy 20) (aCons (eV 3) aNil)) (δ := [x, y, z, none]) (s := s ++ g2) (fun y : D => y) (fun y : D => y) st fun y hy => ⟨_, by simp; rfl, by simp, by
      have := h.cs y hy 0 (s ++ g2)
      rw [Nat.zero_add] at this
      simp [this]⟩
    simpa using this
  refine ⟨g2, ?_⟩
  apply runG_rt
  simp [e3, e1, e2, wipeD, e4, hl]
end Law

/-! GK71: the law's parts, things and steps. -/
namespace Law
open PySem L2 Gs
theorem cell_ex (ns : List Int) (k : Nat) : ∃ c : Int, ∀ s, S_l_cell_at [.lst (ns.map .int), .int (k : Int)] s = .ok (.int c) s := by
  by_cases h : k < ns.length
  · refine ⟨ns[k], fun s => ?_⟩
    apply runG_rt
    have e : atI (ns.map D.int) (k : Int) = some (.int ns[k]) := by
      rw [atI_ofNat _ (by simpa using h)]
      simp
    simp [h, e]
  · refine ⟨0, fun s => ?_⟩
    apply runG_rt
    simp [h]
theorem eqk_St {k : Nat} {l : List Nat} (h : ∀ c ∈ l, c < 256) : eqk k (.str (St l)) := eqk_str k (by
  show (St l).cps.all (· < 0x110000) = true
  rw [Array.all_eq_true']
  intro c hc
  have : c ∈ l := by simpa [St] using hc
  have := h c this
  simp
  omega)
/-! signs joined -/
theorem joinL_one : ∀ l : List Nat, TL.joinL [] (l.map fun c => [c]) = l
  | [] => rfl
  | [c] => rfl
  | c :: d :: l => by
    have ih := joinL_one (d :: l)
    show [c] ++ ([] ++ TL.joinL [] ((d :: l).map fun c => [c])) = _
    rw [ih]
    rfl
theorem join0 {l : List Nat} (h : l.length ≤ 1000) : gJoin (.str (St [])) [.lst (l.map fun c => .str (St [c]))] = some (.str (St l)) := by
  have e : l.map (fun c => D.str (St [c])) = (l.map fun c => St [c]).map D.str := by simp
  have hsum : ∀ l : List Nat, (((l.map fun c => St [c]).map (·.length)).sum) = l.length := fun l => by
    induction l with
    | nil => rfl
    | cons c l ih => simp at ih; simp [ih]; omega
  have h4 : ((l.map fun c => St [c]).map (·.length)).sum + (l.map fun c => St [c]).length * (St []).length ≤ 16777216 := by
    rw [hsum]
    simp
    omega
  have ej : Txt.join (St []) (l.map fun c => St [c]) = St l := by
    rw [TL.join_eq]
    refine TL.ext_tl ?_
    have := TL.tl_join (St []) (l.map fun c => St [c])
    rw [this]
    have e2 : (l.map fun c => St [c]).map TL.tl = l.map fun c => [c] := by
      rw [List.map_map]
      rfl
    rw [e2]
    exact joinL_one l
  rw [e]
  simp only [gJoin, strsOf_map, Option.bind_some]
  rw [if_pos h4, ej]
def s62 : List Nat := lets ++ (grts ++ figs)
theorem c62 : Str.ofString "abcdefghijklmnopqrstuvwxyzABCDEFGHIJKLMNOPQRSTUVWXYZ0123456789" = St s62 := of_St (by decide +kernel)
theorem s62_lt : ∀ c ∈ s62, c < 256 := by decide
/-- a sign of a text, at any place that is told by a rest -/
def pk (T : List Nat) (i : Int) : Nat := T.getD ((i % (T.length : Int)).toNat) 0
theorem pk_at {T : List Nat} (hT : 0 < T.length) (hl : T.length ≤ 1000) (i : Int) : pk T i ∈ T ∧ gIx (.str (St T)) (.int (i % (T.length : Int))) = some (.str (St [pk T i])) := by
  obtain ⟨j, hj, hj2⟩ : ∃ j : Nat, i % (T.length : Int) = (j : Int) ∧ j < T.length := by
    have a1 := Int.emod_nonneg i (show (T.length : Int) ≠ 0 by omega)
    have a2 := Int.emod_lt_of_pos i (show (0 : Int) < (T.length : Int) by omega)
    exact ⟨(i % (T.length : Int)).toNat, by omega, by omega⟩
  have e : pk T i = T[j] := by
    unfold pk
    rw [hj]
    simp [List.getD, hj2]
  rw [e, hj]
  exact ⟨List.getElem_mem hj2, at_St (small_line (by omega)) (List.getElem?_eq_getElem hj2)⟩
/-- signs, one for each place -/
def pks (T : List Nat) (n : Nat) (f : Nat → Int) : List Nat := (List.range n).map fun k => pk T (f k)
theorem pks_len (T : List Nat) (n : Nat) (f : Nat → Int) : (pks T n f).length = n := by simp [pks]
theorem pks_mem {T : List Nat} (hT : 0 < T.length) (hl : T.length ≤ 1000) {n : Nat} {f : Nat → Int} : ∀ c ∈ pks T n f, c ∈ T := fun c hc => by
  simp only [pks, List.mem_map] at hc
  obtain ⟨k, _, rfl⟩ := hc
  exact (pk_at hT hl _).1
theorem lc_pick {T : List Nat} {j n : Nat} {δ : Sl} {s : Sto} {e : E} (f : Nat → Int) (h : ∀ k : Nat, k < n → e (δ.set j (some (.int (k : Int)))) s = .ok (.str (St [pk T (f k)])) s) :
    lcD (.nm j) tTrue e δ (rngD 0 n) s = .ok ((pks T n f).map fun c => .str (St [c])) s := by
  have e2 : (pks T n f).map (fun c => D.str (St [c])) = (List.range n).map fun k => .str (St [pk T (f k)]) := by simp [pks, Function.comp_def]
  rw [e2]
  exact lcD_mapL (fun (k : Nat) => D.int (0 + (k : Int))) _ (List.range n) fun k hk => ⟨δ.set j (some (.int (k : Int))), by simp, by simp, h k (List.mem_range.mp hk)⟩
def sgs (c : Int) (n : Nat) : List Nat := pks s62 n fun k => c + 9 * (k : Int)
theorem sgs_len (c : Int) (n : Nat) : (sgs c n).length = n := pks_len _ _ _
theorem sgs_lt (c : Int) (n : Nat) : ∀ x ∈ sgs c n, x < 256 := fun x hx => s62_lt x (pks_mem (by decide) (by decide) x hx)
theorem signs_val (c : Int) (n : Nat) (hn : n ≤ 100) (s : Sto) : S_l_signs [.int c, .int (n : Int)] s = .ok (.str (St (sgs c n))) s := by
  have e1 := lc_pick (T := s62) (j := 3) (n := n) (δ := [some (.int c), some (.int (n : Int)), some (.str (St s62)), none]) (s := s) (e := eBin gIx (eV 2) (eBin gMod (eBin gAdd (eV 0) (eBin gMul (eC (.int 9)) (eV 3))) (eC (.int 62)))) (fun k => c + 9 * (k : Int)) fun k hk => by
    obtain ⟨hx, e⟩ := pk_at (T := s62) (by decide) (by decide) (c + 9 * (k : Int))
    have hm : IntMulOk 9 (k : Int) := mul_fitsL (by decide)
    have h62 : ((s62.length : Nat) : Int) = 62 := rfl
    rw [h62] at e
    simp [hm, e]
  have hr : rngOk (n : Int) := rngOk_nat (by omega)
  have hl : (sgs c n).length ≤ sizeLine := small_line (by rw [sgs_len]; omega)
  have e2 := join0 (l := sgs c n) (by rw [sgs_len]; omega)
  have e3 : lcD (.nm 3) tTrue (eBin gIx (eV 2) (eBin gMod (eBin gAdd (eV 0) (eBin gMul (eC (.int 9)) (eV 3))) (eC (.int 62)))) [some (.int c), some (.int (n : Int)), some (.str (St s62)), none] (rngD 0 n) s = .ok ((sgs c n).map fun c => .str (St [c])) s := e1
  apply runG_rt
  simp [c62, hr, wipeD, e3, hl, e2]
/-! a part, a thing of it, its steps -/
inductive Lk : D → D → Prop
  | w (low high i : Int) : Lk (shp low high) (.int i)
  | t (sg t : List Nat) : Lk (shT sg) (.str (St t))
structure Pt1 (c : Int) (sh v : D) (st : List D) : Prop where
  part : ∀ s, S_l_part [.int c] s = .ok sh s
  thing : ∀ s, S_l_thing [sh, .int (c / 5)] s = .ok v s
  inner : ∀ s, S_l_inner [sh, v] s = .ok (.lst st) s
  stp : Stp 1 sh v st
  lk : ∀ x, (x = v ∨ x ∈ st) → Lk sh x
  eq : ∀ x, (x = v ∨ x ∈ st) → eqk 0 x
  ln : st.length ≤ 16
theorem inner_int (low high : Int) (f : Nat) (hf : f < 4) (s : Sto) : S_l_inner [shp low high, .int (low + (f : Int))] s = .ok (.lst (hd low 16 f).reverse) s := by
  have hq : low + (f : Int) - low = (f : Int) := by omega
  apply runG_rt
  have h4 : f = 0 ∨ f = 1 ∨ f = 2 ∨ f = 3 := by omega
  rcases h4 with rfl | rfl | rfl | rfl
  · simp [shp, wipeD, lcD, hd, hs]
  · have hq : low + 1 - low = 1 := by omega
    simp [shp, wipeD, lcD, hd, hs, hq]
  · have hq : low + 2 - low = 2 := by omega
    simp [shp, wipeD, lcD, hd, hs, hq]
  · have hq : low + 3 - low = 3 := by omega
    simp [shp, wipeD, lcD, hd, hs, hq]
theorem inner_str (sg t : List Nat) (ht : t.length ≤ 100) (s : Sto) : S_l_inner [shT sg, .str (St t)] s = .ok (.lst (outs t)) s := by
  have e := lc_outs (i := 1) (j := 4) (δ := [some (shT sg), some (.str (St t)), none, none, none]) (s := s) (t := t) (by omega) rfl (by simp) (by decide)
  have l1 : t.length ≤ sizeLine := small_line (by omega)
  have hr : rngOk (t.length : Int) := rngOk_nat (by omega)
  simp only [shT] at e
  apply runG_rt
  simp [shT, l1, hr, wipeD, e, outs_len]
set_option maxHeartbeats 1000000 in
theorem pt_ex (c : Int) : ∃ sh v st, Pt1 c sh v st := by
  have hm : IntMulOk (c / 5) 48271 := mul_fitsR (by decide)
  by_cases h2 : c % 2 = 0
  · obtain ⟨low, hlow⟩ : ∃ l, c / 2 % 10 ^ 60 - 5 * 10 ^ 59 = l := ⟨_, rfl⟩
    obtain ⟨f, hf, hf4⟩ : ∃ f : Nat, c / 5 * 48271 % 65537 % 4 = (f : Int) ∧ f < 4 := ⟨(c / 5 * 48271 % 65537 % 4).toNat, by omega, by omega⟩
    refine ⟨shp low (low + 3), .int (low + (f : Int)), (hd low 16 f).reverse, ?_, ?_, fun s => inner_int _ _ f hf4 s, stp_whole (by omega) (by omega), ?_, ?_, ?_⟩
    · intro s
      have h5 : ∀ j, IntMulOk 5 j := fun j => mul_fitsL (by decide)
      simp at hlow
      apply runG_rt
      simp [h2, h5, hlow, shp]
    · intro s
      apply runG_rt
      simp [shp, hm, hf]
    · rintro x (rfl | hx)
      · exact .w _ _ _
      · simp only [hd, List.mem_reverse, List.mem_map] at hx
        obtain ⟨y, _, rfl⟩ := hx
        exact .w _ _ _
    · rintro x (rfl | hx)
      · exact eqk_int 0 _
      · simp only [hd, List.mem_reverse, List.mem_map] at hx
        obtain ⟨y, _, rfl⟩ := hx
        exact eqk_int 0 _
    · have := hs_len 16 f
      simp [hd]
      omega
  · obtain ⟨n, hn, hn2⟩ : ∃ n : Nat, 1 + c / 2 % 5 = (n : Int) ∧ 1 ≤ n ∧ n ≤ 5 := ⟨(1 + c / 2 % 5).toNat, by omega, by omega, by omega⟩
    obtain ⟨sg, hsg⟩ : ∃ sg, sgs (c / 2) n = sg := ⟨_, rfl⟩
    have hl : sg.length = n := by rw [← hsg]; exact sgs_len _ _
    have hlt : ∀ x ∈ sg, x < 256 := by rw [← hsg]; exact sgs_lt _ _
    obtain ⟨m, hm2, hm3⟩ : ∃ m : Nat, c / 5 * 48271 % 65537 % 3 = (m : Int) ∧ m < 3 := ⟨(c / 5 * 48271 % 65537 % 3).toNat, by omega, by omega⟩
    obtain ⟨t, htd⟩ : ∃ t, pks sg m (fun k => c / 5 / 3 + 2 * (k : Int)) = t := ⟨_, rfl⟩
    have htl : t.length = m := by rw [← htd]; exact pks_len _ _ _
    have htm : ∀ x ∈ t, x ∈ sg := by rw [← htd]; exact pks_mem (by omega) (by omega)
    refine ⟨shT sg, .str (St t), outs t, ?_, ?_, fun s => inner_str _ _ (by omega) s, stp_text (by omega) htm, ?_, ?_, ?_⟩
    · intro s
      have e := signs_val (c / 2) n (by omega) s
      rw [hsg] at e
      apply runG_rt
      simp [h2, hn, e, shT]
    · intro s
      have e1 := lc_pick (T := sg) (j := 3) (n := m) (δ := [some (shT sg), some (.int (c / 5)), some (.int (m : Int)), none]) (s := s) (e := eBin gIx (eBin gIx (eV 0) (eC (.int 1))) (eBin gMod (eBin gAdd (eBin gDiv (eV 1) (eC (.int 3))) (eBin gMul (eC (.int 2)) (eV 3))) (eFn gLen (aCons (eBin gIx (eV 0) (eC (.int 1))) aNil)))) (fun k => c / 5 / 3 + 2 * (k : Int)) fun k hk => by
        obtain ⟨hx, e⟩ := pk_at (T := sg) (by omega) (by omega) (c / 5 / 3 + 2 * (k : Int))
        have l1 : sg.length ≤ sizeLine := small_line (by omega)
        have hp : 0 < sg.length := by omega
        simp [shT, l1, hp, e]
      rw [htd] at e1
      have hr : rngOk (m : Int) := rngOk_nat (by omega)
      have l2 : t.length ≤ sizeLine := small_line (by omega)
      have e2 := join0 (l := t) (by omega)
      simp only [shT] at e1
      apply runG_rt
      simp [shT, hm, hm2, hr, wipeD, e1, l2, e2]
    · rintro x (rfl | hx)
      · exact .t _ _
      · simp only [outs, List.mem_map] at hx
        obtain ⟨y, _, rfl⟩ := hx
        exact .t _ _
    · have h256 : ∀ x ∈ t, x < 256 := fun x hx => hlt x (htm x hx)
      rintro x (rfl | hx)
      · exact eqk_St h256
      · simp only [outs, List.mem_map] at hx
        obtain ⟨y, _, rfl⟩ := hx
        exact eqk_St fun c hc => by
          rcases List.mem_append.mp hc with q | q
          · exact h256 c (List.mem_of_mem_take q)
          · exact h256 c (List.mem_of_mem_drop q)
    · rw [outs_len]
      omega
noncomputable def pf (c : Int) : D × D × List D := ⟨(pt_ex c).choose, (pt_ex c).choose_spec.choose, (pt_ex c).choose_spec.choose_spec.choose⟩
theorem pf_ok (c : Int) : Pt1 c (pf c).1 (pf c).2.1 (pf c).2.2 := (pt_ex c).choose_spec.choose_spec.choose_spec
end Law

/-! GK71b: the law. -/
namespace Law
open PySem L2 Gs
theorem zip_map {α : Type} (f g : α → D) (l : List α) : zipD (l.map f) (l.map g) = l.map fun x => .tup [f x, g x] := by
  unfold zipD
  induction l with
  | nil => rfl
  | cons x l ih => simp [ih]
/-! how many -/
theorem rowsR_len : ∀ ps : List (D × List D), ((rowsR ps).length : Int) = (ps.map fun p => ((p.2.length : Nat) : Int)).sum
  | [] => rfl
  | (v, st) :: r => by
    have ih := rowsR_len r
    simp only [rowsR, List.length_append, List.length_map, List.map_cons, List.sum_cons]
    rw [← ih]
    push_cast
    rfl
theorem rowsR_c (p : D × List D) (r : List (D × List D)) : (rowsR (p :: r)).length = p.2.length + (rowsR r).length := by
  obtain ⟨v, st⟩ := p
  simp [rowsR]
theorem rows_le {B : Nat} : ∀ ps : List (D × List D), (∀ p ∈ ps, p.2.length ≤ B) → (rowsR ps).length ≤ ps.length * B
  | [], _ => by simp [rowsR]
  | (v, st) :: r, h => by
    have h1 : st.length ≤ B := h (v, st) (by simp)
    have h2 := rows_le r fun p hp => h p (by simp [hp])
    simp only [rowsR, List.length_append, List.length_map, List.length_cons]
    rw [Nat.succ_mul]
    omega
theorem count_val (cs : List Int) (hl : cs.length ≤ 100) (s : Sto) : S_l_count [.lst (cs.map fun c => (pf c).1), .lst (cs.map fun c => (pf c).2.1)] s = .ok (.int ((rowsR (cs.map fun c => (pf c).2)).length : Nat)) s := by
  have e1 : ∀ x y, lcD (.tp [.nm 2, .nm 3]) tTrue (eFn gLen (aCons (eCall S_l_inner (aCons (eV 2) (aCons (eV 3) aNil))) aNil)) [x, y, none, none] (zipD (cs.map fun c => (pf c).1) (cs.map fun c => (pf c).2.1)) s = .ok ((cs.map fun c => (((pf c).2.2.length : Nat) : Int)).map .int) s := fun x y => by
    rw [zip_map, List.map_map]
    exact lcD_mapL _ _ cs fun c hc => ⟨_, by simp; rfl, by simp, by
      have e := (pf_ok c).inner s
      have l1 : (pf c).2.2.length ≤ sizeLine := small_line (by have := (pf_ok c).ln; omega)
      simp [e]⟩
  have e2 : gSum [.lst ((cs.map fun c => (((pf c).2.2.length : Nat) : Int)).map .int)] = some (.int (cs.map fun c => (((pf c).2.2.length : Nat) : Int)).sum) := by
    simp only [gSum, intsOf_map, Option.map_some]
  have e3 : ((rowsR (cs.map fun c => (pf c).2)).length : Int) = (cs.map fun c => (((pf c).2.2.length : Nat) : Int)).sum := by
    rw [rowsR_len, List.map_map]
    rfl
  have l1 : cs.length ≤ sizeLine := small_line (by omega)
  rw [e3]
  obtain ⟨J, hJ⟩ : ∃ J, (cs.map fun c => (((pf c).2.2.length : Nat) : Int)).map D.int = J := ⟨_, rfl⟩
  have lJ : J.length ≤ sizeLine := by rw [← hJ]; simpa using l1
  rw [hJ] at e1 e2
  apply runG_rt
  simp [wipeD, e1, e2, lJ]
/-! the same -/
def allLk : List D → List D → Prop
  | [], [] => True
  | a :: as, b :: bs => Lk a b ∧ allLk as bs
  | _, _ => False
theorem lk_rows : ∀ (cs : List Int) (l : List D), l ∈ rowsR (cs.map fun c => (pf c).2) → allLk (cs.map fun c => (pf c).1) l
  | [], l, h => nomatch h
  | c :: cs, l, h => by
    have hp := pf_ok c
    have hv : allLk (cs.map fun c => (pf c).1) ((cs.map fun c => (pf c).2).map (·.1)) := by
      clear h hp
      induction cs with
      | nil => trivial
      | cons d cs ih => exact ⟨(pf_ok d).lk _ (.inl rfl), ih⟩
    simp only [List.map_cons, rowsR, List.mem_append, List.mem_map] at h
    rcases h with ⟨x, hx, rfl⟩ | ⟨m, hm, rfl⟩
    · exact ⟨hp.lk x (.inr hx), hv⟩
    · exact ⟨hp.lk _ (.inl rfl), lk_rows cs m hm⟩
theorem eq_rows {cs : List Int} {l : List D} (h : l ∈ rowsR (cs.map fun c => (pf c).2)) : ∀ x ∈ l, eqk 0 x := fun x hx => by
  obtain ⟨p, hp, h3⟩ := (rowsR_mem h).2 x hx
  obtain ⟨c, _, rfl⟩ := List.mem_map.mp hp
  exact (pf_ok c).eq x h3
theorem eqO_T {xs : List D} {k : Nat} (h : eqk k (.tup xs)) (hk : k ≤ 60) : eqO (.tup xs) (.tup xs) = some true := by
  obtain ⟨p, h1, h2, h3⟩ := h
  have e : eqO (.tup xs) (.tup xs) = eqPy (.tup xs) (.tup xs) := by simp [eqO]
  have hs : SeqAt.shaped p = true := by
    simp [SeqAt.shaped, h2]
    omega
  rw [e]
  unfold eqPy
  rw [h1]
  simp [hs, SeqAt.eqv_refl p h2]
theorem lk_loop (a b c d e : Option D) (s : Sto) : ∀ (shs l : List D) (y z : Option D), allLk shs l → ∃ y' z', forD (.tp [.nm 5, .nm 6]) L_l_alike_1 (zipD shs l) [a, b, c, d, e, y, z] s = .nx [a, b, c, d, e, y', z'] s
  | [], [], y, z, _ => ⟨y, z, rfl⟩
  | [], _ :: _, y, z, h => h.elim
  | _ :: _, [], y, z, h => h.elim
  | sh :: shs, x :: l, y, z, h => by
    obtain ⟨y', z', ih⟩ := lk_loop a b c d e s shs l (some sh) (some x) h.2
    refine ⟨y', z', ?_⟩
    have hz : zipD (sh :: shs) (x :: l) = .tup [sh, x] :: zipD shs l := rfl
    have hb : L_l_alike_1 [a, b, c, d, e, some sh, some x] s = .nx [a, b, c, d, e, some sh, some x] s := by
      cases h.1 with
      | w low high i => simp [L_l_alike_1, shp]
      | t sg t => simp [L_l_alike_1, shT]
    rw [hz]
    simp [forD, hb, ih]
theorem alike_loop (cs : List Int) (hl : cs.length ≤ 100) (a c : D) (s : Sto) : ∀ (L : List (List D)) (y z u v : Option D), (∀ l ∈ L, l ∈ rowsR (cs.map fun c => (pf c).2)) →
    ∃ y' z' u' v', forD (.tp [.nm 3, .nm 4]) L_l_alike_0 ((L.map .tup).map fun x => .tup [x, x]) [some a, some (.lst (cs.map fun c => (pf c).1)), some c, y, z, u, v] s = .nx [some a, some (.lst (cs.map fun c => (pf c).1)), some c, y', z', u', v'] s
  | [], y, z, u, v, _ => ⟨y, z, u, v, rfl⟩
  | l :: L, y, z, u, v, h => by
    have hm := h l (by simp)
    obtain ⟨u1, v1, e1⟩ := lk_loop (some a) (some (.lst (cs.map fun c => (pf c).1))) (some c) (some (.tup l)) (some (.tup l)) s (cs.map fun c => (pf c).1) l u v (lk_rows cs l hm)
    obtain ⟨y', z', u', v', ih⟩ := alike_loop cs hl a c s L (some (.tup l)) (some (.tup l)) u1 v1 fun m hm => h m (by simp [hm])
    refine ⟨y', z', u', v', ?_⟩
    have hlen : l.length = cs.length := by
      have := (rowsR_mem hm).1
      simpa using this
    have hq : gNe (.tup l) (.tup l) = some (.bl false) := by
      unfold gNe
      rw [eqO_T (eqk_tupL (eq_rows hm)) (by decide)]
      rfl
    have hb : L_l_alike_0 [some a, some (.lst (cs.map fun c => (pf c).1)), some c, some (.tup l), some (.tup l), u, v] s = .nx [some a, some (.lst (cs.map fun c => (pf c).1)), some c, some (.tup l), some (.tup l), u1, v1] s := by
      simp [L_l_alike_0, hlen, hq, e1]
    simp [forD, hb]
    simp at ih
    exact ih
theorem alike_val (cs : List Int) (hl : cs.length ≤ 100) (s : Sto) : S_l_alike [.lst ((rowsR (cs.map fun c => (pf c).2)).map .tup), .lst (cs.map fun c => (pf c).1), .lst ((rowsR (cs.map fun c => (pf c).2)).map .tup)] s = .ok (.bl true) s := by
  obtain ⟨X, hX⟩ : ∃ X, (rowsR (cs.map fun c => (pf c).2)).map D.tup = X := ⟨_, rfl⟩
  obtain ⟨y', z', u', v', e⟩ := alike_loop cs hl (.lst X) (.lst X) s (rowsR (cs.map fun c => (pf c).2)) none none none none fun _ h => h
  have hz : zipD X X = X.map fun x => .tup [x, x] := by
    have := zip_map (fun x : D => x) (fun x : D => x) X
    simpa using this
  rw [hX] at e ⊢
  apply runG_rt
  simp [hz, e]
/-! what is due -/
theorem due_in {pre rest : List D} {v : D} (hl : pre.length + rest.length ≤ 1000) (s g : Sto) (a0 a1 a2 a3 a4 a5 a6 a7 a8 b0 b1 b2 b3 b4 b5 : Option D) : ∀ (st done : List D) (y : Option D), done.length + st.length ≤ 10000 →
    ∃ y', forD (.nm 12) L_law_1 st [a0, a1, a2, a3, a4, a5, a6, a7, a8, some (.lst (pre ++ v :: rest)), some (.ob s.length), some (.int (pre.length : Int)), y, b0, b1, b2, b3, b4, b5] (s ++ .lst done :: g) =
      .nx [a0, a1, a2, a3, a4, a5, a6, a7, a8, some (.lst (pre ++ v :: rest)), some (.ob s.length), some (.int (pre.length : Int)), y', b0, b1, b2, b3, b4, b5] (s ++ .lst (done ++ st.map fun x => .tup (pre ++ x :: rest)) :: g)
  | [], done, y, _ => ⟨y, by simp [forD]⟩
  | x :: st, done, y, h => by
    obtain ⟨y', ih⟩ := due_in (v := v) hl s g a0 a1 a2 a3 a4 a5 a6 a7 a8 b0 b1 b2 b3 b4 b5 st (done ++ [.tup (pre ++ x :: rest)]) (some x) (by simp at h ⊢; omega)
    refine ⟨y', ?_⟩
    have l1 : pre.length + 1 ≤ sizeLine := small_line (by omega)
    have l2 : pre.length + 1 + rest.length ≤ sizeLine := small_line (by omega)
    have l2' : pre.length + (1 + rest.length) ≤ sizeLine := small_line (by omega)
    have l3 : done.length < sizeLine := Nat.lt_of_lt_of_le (show done.length < 100000 by simp at h; omega) (small_line (Nat.le_refl _))
    have t1 := tk_pre pre (v :: rest)
    have t2 := dr_pre pre v rest
    have hb : L_law_1 [a0, a1, a2, a3, a4, a5, a6, a7, a8, some (.lst (pre ++ v :: rest)), some (.ob s.length), some (.int (pre.length : Int)), some x, b0, b1, b2, b3, b4, b5] (s ++ .lst done :: g) = .nx [a0, a1, a2, a3, a4, a5, a6, a7, a8, some (.lst (pre ++ v :: rest)), some (.ob s.length), some (.int (pre.length : Int)), some x, b0, b1, b2, b3, b4, b5] (s ++ .lst (done ++ [.tup (pre ++ x :: rest)]) :: g) := by
      simp [L_law_1, t1, t2, l1, l2, l2', l3]
    simp [forD, hb]
    simp at ih
    exact ih
theorem due_out (cs : List Int) (hcs : cs.length ≤ 100) (s g : Sto) (a0 a1 a2 a3 a4 a5 a6 a7 b0 b1 b2 b3 b4 b5 : Option D) : ∀ (qs pr : List Int) (done : List D) (z y : Option D), cs = pr ++ qs → done.length + (rowsR (qs.map fun c => (pf c).2)).length ≤ 10000 →
    ∃ z' y', forD (.nm 11) L_law_0 ((List.range' pr.length qs.length).map fun (i : Nat) => D.int (i : Int)) [a0, a1, a2, a3, a4, a5, a6, a7, some (.lst (cs.map fun c => (pf c).1)), some (.lst (cs.map fun c => (pf c).2.1)), some (.ob s.length), z, y, b0, b1, b2, b3, b4, b5] (s ++ .lst done :: g) =
      .nx [a0, a1, a2, a3, a4, a5, a6, a7, some (.lst (cs.map fun c => (pf c).1)), some (.lst (cs.map fun c => (pf c).2.1)), some (.ob s.length), z', y', b0, b1, b2, b3, b4, b5] (s ++ .lst (done ++ (rowsR (qs.map fun c => (pf c).2)).map fun l => .tup ((pr.map fun c => (pf c).2.1) ++ l)) :: g)
  | [], pr, done, z, y, _, _ => ⟨z, y, by simp [forD, rowsR]⟩
  | c :: qs, pr, done, z, y, h, hd' => by
    have hc := pf_ok c
    have e0 : (cs.map fun c => (pf c).2.1) = (pr.map fun c => (pf c).2.1) ++ (pf c).2.1 :: qs.map fun c => (pf c).2.1 := by rw [h]; simp
    have e1 : (cs.map fun c => (pf c).1) = (pr.map fun c => (pf c).1) ++ (pf c).1 :: qs.map fun c => (pf c).1 := by rw [h]; simp
    have hl : (pr.map fun c => (pf c).2.1).length + (qs.map fun c => (pf c).2.1).length ≤ 1000 := by
      rw [h] at hcs
      simp at hcs ⊢
      omega
    have hd2 : done.length + ((pf c).2.2.length + (rowsR (qs.map fun c => (pf c).2)).length) ≤ 10000 := by
      have : (rowsR ((c :: qs).map fun c => (pf c).2)).length = (pf c).2.2.length + (rowsR (qs.map fun c => (pf c).2)).length := by
        rw [List.map_cons, rowsR_c]
      omega
    have hlen : done.length + (pf c).2.2.length ≤ 10000 := by omega
    obtain ⟨y1, e3⟩ := due_in (v := (pf c).2.1) hl s g a0 a1 a2 a3 a4 a5 a6 a7 (some (.lst (cs.map fun c => (pf c).1))) b0 b1 b2 b3 b4 b5 (pf c).2.2 done y hlen
    obtain ⟨z', y', ih⟩ := due_out cs hcs s g a0 a1 a2 a3 a4 a5 a6 a7 b0 b1 b2 b3 b4 b5 qs (pr ++ [c]) (done ++ (pf c).2.2.map fun x => .tup ((pr.map fun c => (pf c).2.1) ++ x :: qs.map fun c => (pf c).2.1)) (some (.int (pr.length : Int))) y1 (by rw [h]; simp) (by simp only [List.length_append, List.length_map]; omega)
    refine ⟨z', y', ?_⟩
    have at1 := at_pre (pr.map fun c => (pf c).1) (pf c).1 (qs.map fun c => (pf c).1)
    have at2 := at_pre (pr.map fun c => (pf c).2.1) (pf c).2.1 (qs.map fun c => (pf c).2.1)
    rw [← e1] at at1
    rw [← e0] at at2 e3
    simp only [List.length_map] at at1 at2 e3
    have e4 := hc.inner (s ++ .lst done :: g)
    have hb : L_law_0 [a0, a1, a2, a3, a4, a5, a6, a7, some (.lst (cs.map fun c => (pf c).1)), some (.lst (cs.map fun c => (pf c).2.1)), some (.ob s.length), some (.int (pr.length : Int)), y, b0, b1, b2, b3, b4, b5] (s ++ .lst done :: g) =
        .nx [a0, a1, a2, a3, a4, a5, a6, a7, some (.lst (cs.map fun c => (pf c).1)), some (.lst (cs.map fun c => (pf c).2.1)), some (.ob s.length), some (.int (pr.length : Int)), y1, b0, b1, b2, b3, b4, b5] (s ++ .lst (done ++ (pf c).2.2.map fun x => .tup ((pr.map fun c => (pf c).2.1) ++ x :: qs.map fun c => (pf c).2.1)) :: g) := by
      simp [L_law_0, at1, at2, e4, e3]
    rw [show (c :: qs).length = qs.length + 1 from rfl, List.range'_succ, List.map_cons]
    have hx : (pr ++ [c]).length = pr.length + 1 := by simp
    rw [hx] at ih
    simp only [forD, v_nm, List.set_cons_succ, List.set_cons_zero, hb]
    rw [ih]
    simp [rowsR, List.map_append, List.map_map, Function.comp_def]
end Law

/-! GK71c: the law. -/
namespace Law
open PySem L2 Gs
theorem tv_n {s : Sto} {n : Nat} (b : Bool) (h : s.length = n) : thawR s (.ok (.bl b) (gones n)) = .ok (.bl b) s := by
  subst h
  exact thaw_val rfl
theorem rng_range' (n : Nat) : rngD 0 n = (List.range' 0 n).map fun (i : Nat) => D.int (i : Int) := by
  simp [rngD, List.range_eq_range']
theorem outs_eq {t : List Nat} (h : ∀ c ∈ t, c < 256) : ∀ x ∈ outs t, eqk 0 x := fun x hx => by
  simp only [outs, List.mem_map] at hx
  obtain ⟨y, _, rfl⟩ := hx
  exact eqk_St fun c hc => by
    rcases List.mem_append.mp hc with q | q
    · exact h c (List.mem_of_mem_take q)
    · exact h c (List.mem_of_mem_drop q)
theorem ne_self {xs : List D} {k : Nat} (h : eqk k (.lst xs)) (hk : k ≤ 60) : gNe (.lst xs) (.lst xs) = some (.bl false) := by
  unfold gNe
  rw [eqO_self h hk]
  rfl
theorem eq_self {xs : List D} {k : Nat} (h : eqk k (.lst xs)) (hk : k ≤ 60) : gEq (.lst xs) (.lst xs) = some (.bl true) := by
  unfold gEq
  rw [eqO_self h hk]
  rfl
/-- steps put behind something -/
theorem lc_outs2 {t : List Nat} (ht : t.length ≤ 1000) {i j q : Nat} {hd : D} {δ : Sl} {s : Sto} (hi : δ[i]? = some (some (.str (St t)))) (hq : δ[q]? = some (some hd)) (hj : j < δ.length) (hij : i ≠ j) (hqj : q ≠ j) :
    lcD (.nm j) tTrue (eTup (aCons (eV q) (aCons (eBin gAdd (eSl (eV i) oNone (oSome (eV j))) (eSl (eV i) (oSome (eBin gAdd (eV j) (eC (.int 1)))) oNone)) aNil))) δ (rngD 0 t.length) s = .ok ((outs t).map fun y => .tup [hd, y]) s := by
  have e : (outs t).map (fun y => D.tup [hd, y]) = (List.range t.length).map fun k => .tup [hd, .str (St (t.take k ++ t.drop (k + 1)))] := by simp [outs, Function.comp_def]
  rw [e]
  exact lcD_mapL (fun (k : Nat) => D.int (0 + (k : Int))) (fun (k : Nat) => D.tup [hd, D.str (St (t.take k ++ t.drop (k + 1)))]) (List.range t.length) fun k hk => ⟨_, by simp; rfl, by simp, by
    have a1 := cutL_hi t k
    have a2 := cutL_lo t (k + 1)
    push_cast at a2
    have l1 : t.length ≤ sizeLine := small_line (by omega)
    have l2 : (t.take k).length + (t.drop (k + 1)).length ≤ sizeLine := small_line (by simp; omega)
    simp at l2
    simp [List.getElem?_set, hi, hq, hj, hij, hqj, Ne.symm hij, Ne.symm hqj, a1, a2, l1, l2]⟩
theorem cut4 {α : Type} (xs : List α) : cutL xs none (some 4) = xs.take 4 := cutL_hi xs 4
theorem cut8 {α : Type} (xs : List α) : cutL xs none (some 8) = xs.take 8 := cutL_hi xs 8
theorem cutDm {α : Type} (f : α → D) (xs : List α) : cutD (xs.map f) none (some 4) = (xs.take 4).map f := by rw [cutD_map, cut4]
/-- the first rows, their first things -/
theorem rows_head (cs : List Int) (tl : D) : ∃ L : List (List D), (cutD ((rowsR (cs.map fun c => (pf c).2)).map .tup) none (some ((rowsR ((cs.take 4).map fun c => (pf c).2)).length : Int))) = L.map .tup ∧ L.map (fun l => D.tup [.tup (l.take 4), tl]) = (rowsR ((cs.take 4).map fun c => (pf c).2)).map fun l => D.tup [.tup l, tl] := by
  obtain ⟨a, ha⟩ : ∃ a, cs.take 4 = a := ⟨_, rfl⟩
  obtain ⟨b, hb⟩ : ∃ b, cs.drop 4 = b := ⟨_, rfl⟩
  have hcs : cs = a ++ b := by rw [← ha, ← hb]; exact (List.take_append_drop 4 cs).symm
  have hor : a.length = 4 ∨ (a.length ≤ 4 ∧ b = []) := by
    by_cases h : 4 ≤ cs.length
    · left
      rw [← ha, List.length_take]
      omega
    · right
      refine ⟨by rw [← ha, List.length_take]; omega, ?_⟩
      rw [← hb]
      exact List.drop_eq_nil_of_le (by omega)
  rw [ha]
  refine ⟨(rowsR (a.map fun c => (pf c).2)).map fun l => l ++ (b.map fun c => (pf c).2).map (·.1), ?_, ?_⟩
  · rw [cutD_map, cutL_hi, hcs, List.map_append, rowsR_app, List.take_left' (by simp)]
  · rw [List.map_map]
    apply List.map_congr_left
    intro l hl
    have h1 := (rowsR_mem hl).1
    rw [List.length_map] at h1
    have : (l ++ (b.map fun c => (pf c).2).map (·.1)).take 4 = l := by
      rcases hor with h | ⟨h, rfl⟩
      · rw [List.take_left' (by omega)]
      · simp only [List.map_nil, List.append_nil]
        exact List.take_of_length_le (by omega)
    simp only [Function.comp_def, this]
theorem row_lens (cs : List Int) (h : cs.length ≤ 8) : (rowsR (cs.map fun c => (pf c).2)).length ≤ 128 := by
  have := rows_le (B := 16) (cs.map fun c => (pf c).2) fun p hp => by
    obtain ⟨c, _, rfl⟩ := List.mem_map.mp hp
    exact (pf_ok c).ln
  rw [List.length_map] at this
  have h2 : cs.length * 16 ≤ 8 * 16 := Nat.mul_le_mul_right _ h
  omega
theorem stp_cells (cs : List Int) (h : cs.length ≤ 8) : Stp 3 (shR (cs.map fun c => (pf c).1)) (.tup (cs.map fun c => (pf c).2.1)) ((rowsR (cs.map fun c => (pf c).2)).map .tup) := by
  have := stp_row (n := 1) (by decide) (ps := cs.map pf) (fun q hq => by
    obtain ⟨c, _, rfl⟩ := List.mem_map.mp hq
    exact (pf_ok c).stp) (by simp; omega) (by
      rw [List.map_map]
      exact Nat.le_trans (row_lens cs h) (by decide))
  simpa [List.map_map, Function.comp_def] using this
theorem stp_two (cs : List Int) (h : cs.length ≤ 8) {sg tl : List Nat} (ht : tl.length ≤ 8) (hc : ∀ c ∈ tl, c ∈ sg) :
    Stp 20 (shR [shR (cs.map fun c => (pf c).1), shT sg]) (.tup [.tup (cs.map fun c => (pf c).2.1), .str (St tl)])
      ((rowsR (cs.map fun c => (pf c).2)).map (fun l => D.tup [.tup l, .str (St tl)]) ++ (outs tl).map fun y => D.tup [.tup (cs.map fun c => (pf c).2.1), y]) := by
  have h1 := stp_cells cs h
  have h2 := (stp_text (sg := sg) (t := tl) (by omega) hc).up (k := 3) (by decide)
  have hl := row_lens cs h
  have e : (rowsR [(D.tup (cs.map fun c => (pf c).2.1), (rowsR (cs.map fun c => (pf c).2)).map D.tup), (D.str (St tl), outs tl)]).map D.tup = (rowsR (cs.map fun c => (pf c).2)).map (fun l => D.tup [.tup l, .str (St tl)]) ++ (outs tl).map fun y => D.tup [.tup (cs.map fun c => (pf c).2.1), y] := by
    simp [rowsR, List.map_map, Function.comp_def]
  have := stp_row (n := 3) (by decide) (ps := [(shR (cs.map fun c => (pf c).1), .tup (cs.map fun c => (pf c).2.1), (rowsR (cs.map fun c => (pf c).2)).map .tup), (shT sg, .str (St tl), outs tl)]) (fun q hq => by
    simp at hq
    rcases hq with rfl | rfl
    · exact h1
    · exact h2) (by simp) (by
      simp [rowsR, outs_len]
      omega)
  simp only [List.map_cons, List.map_nil, e] at this
  exact this.up (by decide)
set_option maxHeartbeats 8000000 in
theorem law_true (ns : List Int) (h : ns.length ≤ 63) : ∃ s', S_law [.lst (ns.map D.int)] [] = .ok (.bl true) s' := by
  obtain ⟨c0, e0⟩ := cell_ex ns 0
  obtain ⟨c1, e1⟩ := cell_ex ns 1
  obtain ⟨c2, e2⟩ := cell_ex ns 2
  obtain ⟨nr, e3⟩ := cell_ex ns 3
  simp only [Int.natCast_zero, Int.natCast_one] at e0 e1
  have e2 : ∀ s, S_l_cell_at [.lst (ns.map .int), .int 2] s = .ok (.int c2) s := e2
  have e3 : ∀ s, S_l_cell_at [.lst (ns.map .int), .int 3] s = .ok (.int nr) s := e3
  -- the text
  obtain ⟨n1, hn1, hn2⟩ : ∃ n : Nat, 1 + c1 % 62 = (n : Int) ∧ 1 ≤ n ∧ n ≤ 62 := ⟨(1 + c1 % 62).toNat, by omega, by omega, by omega⟩
  obtain ⟨sg, hsg⟩ : ∃ sg, sgs c0 n1 = sg := ⟨_, rfl⟩
  have lsg : sg.length = n1 := by rw [← hsg]; exact sgs_len _ _
  have sglt : ∀ x ∈ sg, x < 256 := by rw [← hsg]; exact sgs_lt _ _
  have f1 := signs_val c0 n1 (by omega)
  rw [hsg] at f1
  obtain ⟨m, hm, hm2⟩ : ∃ m : Nat, c2 % 17 = (m : Int) ∧ m ≤ 16 := ⟨(c2 % 17).toNat, by omega, by omega⟩
  obtain ⟨t, htd⟩ : ∃ t, pks sg m (fun k => nr * ((k : Int) * (k : Int) + 1) % 1009) = t := ⟨_, rfl⟩
  have lt : t.length = m := by rw [← htd]; exact pks_len _ _ _
  have tm : ∀ x ∈ t, x ∈ sg := by rw [← htd]; exact pks_mem (by omega) (by omega)
  have tlt : ∀ x ∈ t, x < 256 := fun x hx => sglt x (tm x hx)
  have ke : ∀ (s : Sto) (a b d g i j k l n o p q r u w x : Option D), lcD (.nm 11) tTrue (eBin gIx (eV 2) (eBin gMod (eBin gMod (eBin gMul (eV 4) (eBin gAdd (eBin gMul (eV 11) (eV 11)) (eC (.int 1)))) (eC (.int 1009))) (eFn gLen (aCons (eV 2) aNil)))) [a, b, some (.str (St sg)), d, some (.int nr), g, i, j, k, l, n, o, p, q, r, u, w, x, none] (rngD 0 m) s = .ok (t.map fun c => .str (St [c])) s := fun s a b d g i j k l n o p q r u w x => by
    rw [← htd]
    exact lc_pick (T := sg) (j := 11) (n := m) (fun k => nr * ((k : Int) * (k : Int) + 1) % 1009) fun k hk => by
      obtain ⟨_, ea⟩ := pk_at (T := sg) (by omega) (by omega) (nr * ((k : Int) * (k : Int) + 1) % 1009)
      have i1 : IntMulOk (k : Int) (k : Int) := mul_fitsL (by omega)
      have kk : (k : Int) * (k : Int) = ((k * k : Nat) : Int) := by push_cast; rfl
      have kb : k * k ≤ 16 * 16 := Nat.mul_le_mul (by omega) (by omega)
      have i2 : IntMulOk nr ((k : Int) * (k : Int) + 1) := mul_fitsR (by rw [kk]; omega)
      have dv : divOk 1009 := divOk_small (by decide) (by decide)
      have l1 : sg.length ≤ sizeLine := small_line (by omega)
      have hp : 0 < sg.length := by omega
      simp [i1, i2, dv, l1, hp, ea]
  have f2 := join0 (l := t) (by omega)
  have ltL : t.length ≤ sizeLine := small_line (by omega)
  have hrm : rngOk (m : Int) := rngOk_nat (by omega)
  have hmL : m ≤ sizeLine := small_line (by omega)
  obtain ⟨bk, hbk⟩ : ∃ b : D, D.lst [.tup [.str (Str.ofString "some"), .tup [.str (Str.ofString "row"), .tup []]]] = b := ⟨_, rfl⟩
  obtain ⟨g1, f3⟩ := steps_val ((stp_text (sg := sg) (t := t) (by omega) tm).up (k := 20) (by decide)) bk []
  rw [List.nil_append] at f3
  have ltO : (outs t).length ≤ sizeLine := small_line (by rw [outs_len]; omega)
  have f4 := ne_self (eqk_lst (outs_eq tlt)) (by decide)
  have ko : ∀ (s : Sto) (a b c d f i j k l n o p q r u w x y : Option D), lcD (.nm 11) tTrue (eBin gAdd (eSl (eV 5) oNone (oSome (eV 11))) (eSl (eV 5) (oSome (eBin gAdd (eV 11) (eC (.int 1)))) oNone)) [a, b, c, d, f, some (.str (St t)), i, j, k, l, n, o, p, q, r, u, w, x, y] (rngD 0 m) s = .ok (outs t) s := fun s a b c d f i j k l n o p q r u w x y => by
    rw [← lt]
    exact lc_outs (i := 5) (j := 11) (by omega) rfl (by simp) (by decide)
  -- the cells
  obtain ⟨A, hA⟩ : ∃ A, cutL ns (some 4) (some 12) = A := ⟨_, rfl⟩
  have lA : A.length ≤ 8 := by
    rw [← hA]
    have := cutL_nn ns 4 12
    rw [show cutL ns (some 4) (some 12) = (ns.drop 4).take 8 from this, List.length_take]
    omega
  obtain ⟨Ec, hE⟩ : ∃ l : List Int, l = (List.range 8).map fun (k : Nat) => (nr + 6421 * (k : Int) * (k : Int)) * 48271 % 2147483647 := ⟨_, rfl⟩
  have lE : Ec.length = 8 := by rw [hE]; simp
  have kc : ∀ (s : Sto) (a b c d i j k l n o p q r u w x y z : Option D), lcD (.nm 11) tTrue (eBin gMod (eBin gMul (eBin gAdd (eV 4) (eBin gMul (eBin gMul (eC (.int 6421)) (eV 11)) (eV 11))) (eC (.int 48271))) (eC (.int 2147483647))) [a, b, c, d, some (.int nr), i, j, k, l, n, o, p, q, r, u, w, x, y, z] (rngD 0 8) s = .ok (Ec.map .int) s := fun s a b c d i j k l n o p q r u w x y z => by
    rw [hE, List.map_map]
    exact lcD_mapL (fun (k : Nat) => D.int (0 + (k : Int))) _ (List.range 8) fun k hk => ⟨_, by simp; rfl, by simp, by
      have hk' := List.mem_range.mp hk
      have i1 : IntMulOk 6421 (k : Int) := mul_fitsL (by decide)
      have i2 : IntMulOk (6421 * (k : Int)) (k : Int) := mul_fitsL (by omega)
      have i3 : ∀ x, IntMulOk x 48271 := fun x => mul_fitsR (by decide)
      simp [i1, i2, i3]⟩
  have hr8 : rngOk 8 := rngOk_of (by omega) (by omega)
  have l8 : (8 : Nat) ≤ sizeLine := by decide
  have lAE : A.length + Ec.length ≤ sizeLine := small_line (by omega)
  have dv9 : divOk 9 := divOk_small (by decide) (by decide)
  obtain ⟨M, hM, hM2⟩ : ∃ M : Nat, (if (A.length : Int) < nr % 9 then nr % 9 else (A.length : Int)) = (M : Int) ∧ M ≤ 8 := by
    split
    · exact ⟨(nr % 9).toNat, by omega, by omega⟩
    · exact ⟨A.length, rfl, lA⟩
  obtain ⟨cs, hcs⟩ : ∃ cs, cutL (A ++ Ec) none (some (M : Int)) = cs := ⟨_, rfl⟩
  have lcs : cs.length ≤ 8 := by
    rw [← hcs, cutL_hi, List.length_take]
    omega
  have hcsD : cutD (A.map D.int ++ Ec.map D.int) none (some (M : Int)) = cs.map D.int := by
    rw [← List.map_append, cutD_ints, hcs]
  have csL : cs.length ≤ sizeLine := small_line (by omega)
  have kp : ∀ (s : Sto) (a b c d f g i j k l n o p q r u w x y : Option D), lcD (.nm 16) tTrue (eCall S_l_part (aCons (eV 16) aNil)) [a, b, c, d, f, g, i, j, k, l, n, o, p, q, r, u, w, x, y] (cs.map .int) s = .ok (cs.map fun c => (pf c).1) s := fun s a b c d f g i j k l n o p q r u w x y =>
    lcD_mapL _ _ cs fun c hc => ⟨_, by simp; rfl, by simp, by simp [(pf_ok c).part s]⟩
  have kt : ∀ (s : Sto) (a b c d f g i j k l n o p q r u w x y : Option D), lcD (.tp [.nm 17, .nm 16]) tTrue (eCall S_l_thing (aCons (eV 17) (aCons (eBin gDiv (eV 16) (eC (.int 5))) aNil))) [a, b, c, d, f, g, i, j, k, l, n, o, p, q, r, u, w, x, y] (zipD (cs.map fun c => (pf c).1) (cs.map .int)) s = .ok (cs.map fun c => (pf c).2.1) s := fun s a b c d f g i j k l n o p q r u w x y => by
    rw [zip_map]
    exact lcD_mapL _ _ cs fun c hc => ⟨_, by simp; rfl, by simp, by simp [(pf_ok c).thing s]⟩
  -- what is due
  obtain ⟨PS, hPS⟩ : ∃ l, (cs.map fun c => (pf c).1) = l := ⟨_, rfl⟩
  obtain ⟨VS, hVS⟩ : ∃ l, (cs.map fun c => (pf c).2.1) = l := ⟨_, rfl⟩
  have lPS : PS.length = cs.length := by rw [← hPS]; simp
  have lVS : VS.length = cs.length := by rw [← hVS]; simp
  have rlen := row_lens cs lcs
  have kd := fun (a1 a2 a3 a4 a5 a6 a7 b0 b1 b2 b3 b4 b5 : Option D) => due_out cs (by omega) g1 [] (some (.lst (ns.map .int))) a1 a2 a3 a4 a5 a6 a7 b0 b1 b2 b3 b4 b5 cs [] [] none none rfl (by simp; omega)
  obtain ⟨DU, hDU⟩ : ∃ l, (rowsR (cs.map fun c => (pf c).2)).map D.tup = l := ⟨_, rfl⟩
  have hrc : rngOk (cs.length : Int) := rngOk_nat (by omega)
  obtain ⟨g2, f5⟩ := steps_val ((stp_cells cs lcs).up (k := 20) (by decide)) bk (g1 ++ [.lst DU])
  have f6 := alike_val cs (by omega)
  rw [hPS, hVS, hDU] at f5
  rw [hPS, hDU] at f6
  have lDU : DU.length ≤ 128 := by rw [← hDU]; simpa using rlen
  -- the head
  have t8 : (t.take 8).length ≤ 8 := by rw [List.length_take]; omega
  obtain ⟨tl, htl⟩ : ∃ l, t.take 8 = l := ⟨_, rfl⟩
  rw [htl] at t8
  have tlm : ∀ c ∈ tl, c ∈ sg := fun c hc => tm c (by rw [← htl] at hc; exact List.mem_of_mem_take hc)
  have tllt : ∀ c ∈ tl, c < 256 := fun c hc => sglt c (tlm c hc)
  have h8 : cutL t none (some 8) = tl := by rw [cut8, htl]
  obtain ⟨c4, hc4⟩ : ∃ c, cs.take 4 = c := ⟨_, rfl⟩
  have lc4 : c4.length ≤ 8 := by rw [← hc4, List.length_take]; omega
  have p4 : cutD PS none (some 4) = c4.map fun c => (pf c).1 := by rw [← hPS, cutDm, hc4]
  have v4 : cutD VS none (some 4) = c4.map fun c => (pf c).2.1 := by rw [← hVS, cutDm, hc4]
  have f7 := count_val c4 (by omega)
  obtain ⟨L, hL1, hL2⟩ := rows_head cs (.str (St tl))
  rw [hc4] at hL1 hL2
  rw [hDU] at hL1
  obtain ⟨N, hN⟩ : ∃ N, (rowsR (c4.map fun c => (pf c).2)).length = N := ⟨_, rfl⟩
  rw [hN] at f7 hL1
  have rl4 := row_lens c4 lc4
  have lL : L.length ≤ 128 := by
    have := congrArg List.length hL2
    simp at this
    omega
  obtain ⟨P4, hP4⟩ : ∃ l, (c4.map fun c => (pf c).1) = l := ⟨_, rfl⟩
  obtain ⟨V4, hV4⟩ : ∃ l, (c4.map fun c => (pf c).2.1) = l := ⟨_, rfl⟩
  obtain ⟨D2, hD2⟩ : ∃ l, (rowsR (c4.map fun c => (pf c).2)).map (fun l => D.tup [.tup l, .str (St tl)]) = l := ⟨_, rfl⟩
  have lD2 : D2.length ≤ 128 := by rw [← hD2]; simpa using rl4
  have k2 : ∀ (s : Sto) (a b c d f g i j k l n o p q r w x y : Option D), lcD (.nm 18) tTrue (eTup (aCons (eSl (eV 18) oNone (oSome (eC (.int 4)))) (aCons (eV 15) aNil))) [a, b, c, d, f, g, i, j, k, l, n, o, p, q, r, some (.str (St tl)), w, x, y] (L.map .tup) s = .ok D2 s := fun s a b c d f g i j k l n o p q r w x y => by
    rw [← hD2, ← hL2]
    exact lcD_mapL _ _ L fun l hl => ⟨_, by simp; rfl, by simp, by
      have : cutD l none (some 4) = l.take 4 := by rw [cutDL, cut4]
      simp [this]⟩
  obtain ⟨D3, hD3⟩ : ∃ l, (outs tl).map (fun y => D.tup [.tup V4, y]) = l := ⟨_, rfl⟩
  have lD3 : D3.length ≤ 8 := by rw [← hD3, List.length_map, outs_len]; exact t8
  have k3 : ∀ (s : Sto) (a b c d f g i j k l n o p q w x y : Option D), lcD (.nm 11) tTrue (eTup (aCons (eV 14) (aCons (eBin gAdd (eSl (eV 15) oNone (oSome (eV 11))) (eSl (eV 15) (oSome (eBin gAdd (eV 11) (eC (.int 1)))) oNone)) aNil))) [a, b, c, d, f, g, i, j, k, l, n, o, p, q, some (.tup V4), some (.str (St tl)), w, x, y] (rngD 0 tl.length) s = .ok D3 s := fun s a b c d f g i j k l n o p q w x y => by
    rw [← hD3]
    exact lc_outs2 (i := 15) (j := 11) (q := 14) (by omega) rfl rfl (by simp) (by decide) (by decide)
  have hrt : rngOk (tl.length : Int) := rngOk_nat (by omega)
  have tlL : tl.length ≤ sizeLine := small_line (by omega)
  have f8 := stp_two c4 lc4 t8 tlm
  rw [hP4, hV4, hD2, hD3] at f8
  have q4 : ∀ l ∈ rowsR (c4.map fun c => (pf c).2), eqk 1 (.tup l) := fun l hl => eqk_tupL (eq_rows hl)
  have qv : eqk 1 (.tup V4) := eqk_tupL fun x hx => by
    rw [← hV4] at hx
    obtain ⟨c, _, rfl⟩ := List.mem_map.mp hx
    exact (pf_ok c).eq _ (.inl rfl)
  have f9 := eq_self (xs := D2 ++ D3) (k := 3) (eqk_lst fun x hx => by
    rcases List.mem_append.mp hx with q | q
    · rw [← hD2] at q
      obtain ⟨l, hl, rfl⟩ := List.mem_map.mp q
      exact eqk_tupL fun y hy => by
        simp at hy
        rcases hy with rfl | rfl
        · exact q4 l hl
        · exact eqk_St tllt
    · rw [← hD3] at q
      obtain ⟨y, hy, rfl⟩ := List.mem_map.mp q
      exact eqk_tupL fun z hz => by
        simp at hz
        rcases hz with rfl | rfl
        · exact qv
        · exact eqk_up (outs_eq tllt z hy) (by decide)) (by decide)
  have lDD : D2.length + D3.length ≤ sizeLine := small_line (by omega)
  have lL' : L.length ≤ sizeLine := small_line (by omega)
  have lD2' : D2.length ≤ sizeLine := small_line (by omega)
  have lD3' : D3.length ≤ sizeLine := small_line (by omega)
  obtain ⟨z1, y1, f10⟩ := kd (some bk) (some (.str (St sg))) (some (.int (m : Int))) (some (.int nr)) (some (.str (St t))) (some (.lst (outs t))) (some (.lst (cs.map .int))) none none none none none none
  have f11 : forD (.nm 11) L_law_0 (rngD 0 cs.length) [some (.lst (ns.map .int)), some bk, some (.str (St sg)), some (.int (m : Int)), some (.int nr), some (.str (St t)), some (.lst (outs t)), some (.lst (cs.map .int)), some (.lst PS), some (.lst VS), some (.ob g1.length), none, none, none, none, none, none, none, none] (g1 ++ [.lst []]) =
      .nx [some (.lst (ns.map .int)), some bk, some (.str (St sg)), some (.int (m : Int)), some (.int nr), some (.str (St t)), some (.lst (outs t)), some (.lst (cs.map .int)), some (.lst PS), some (.lst VS), some (.ob g1.length), z1, y1, none, none, none, none, none, none] (g1 ++ [.lst DU]) := by
    rw [rng_range', ← hDU, ← hPS, ← hVS]
    exact f10
  clear f10 kd
  have lo : lokD (g1 ++ .lst DU :: g2) (.ob g1.length) = .lst DU := lok_ob (get_mid _ _ _)
  have hF : frzD (g1 ++ O.gone :: (g2 ++ [.lst D2])) (.ob (g1.length + (g2.length + 1))) = (.lst D2, g1 ++ O.gone :: (g2 ++ [.gone])) := by
    have hg : (g1 ++ O.gone :: (g2 ++ [.lst D2]))[g1.length + (g2.length + 1)]? = some (.lst D2) := by
      have e : g1 ++ O.gone :: (g2 ++ [.lst D2]) = (g1 ++ O.gone :: g2) ++ [.lst D2] := by simp
      rw [e, List.getElem?_append_right (by simp)]
      simp
    rw [frz_ob hg]
    have e : ∀ o : O, g1 ++ O.gone :: (g2 ++ [o]) = (g1 ++ O.gone :: g2) ++ [o] := fun o => by simp
    rw [e, e, show g1.length + (g2.length + 1) = (g1 ++ O.gone :: g2).length by simp]
    rw [List.set_append_right _ _ (Nat.le_refl _)]
    simp
  obtain ⟨g3, f12⟩ := steps_val f8 bk (g1 ++ O.gone :: (g2 ++ [.gone]))
  rw [hP4, hV4] at f7
  rw [hP4] at p4
  rw [hV4] at v4
  rw [hPS] at kp
  rw [hPS, hVS] at kt
  have h16 : (16 : Nat) ≤ sizeLine := by decide
  refine ⟨g1 ++ O.gone :: (g2 ++ O.gone :: g3), ?_⟩
  simp only [shT] at f3
  simp only [shR] at f5
  simp only [shR, shT] at f12
  simp at f5 f12
  apply runG_rt
  rw [lE] at lAE
  simp [e0, e1, e2, e3, hn1, f1, hm, hrm, wipeD, ke, hmL, ltL, f2, hbk, f3, ko, ltO, f4, hA, kc, hr8, l8, lAE, lE, dv9, hM, hcsD, kp, kt, csL, lPS, lVS, hrc, f11, f5, lo, f6, tv_n, v4, p4, h8, f7, hL1, k2, lD2', hF, k3, hrt, tlL, lD3', lDD, f12, f9]
end Law

open PySem PySem.W
set_option maxRecDepth 100000 in
set_option maxHeartbeats 0 in
theorem PySem.Challenge.cw_countgen_k71_steps_of_rows_holds : PySem.Challenge.rw_countgen_k71_steps_of_rows.Holds := by
  w_on; o_law; k_head; (case hw => w_witness2)
  k_fill
  refine L2.walk_of (l := PySem.Challenge.rw_countgen_k71_steps_of_rows) (n := 63) (k := 85) (x := "_law_script") (CX := fun w => L2.CX (PySem.W.OpenLaw.prog PySem.Challenge.rw_countgen_k71_steps_of_rows) w) (sp := fun w => Gs.spL _ Law.S_law) rfl (by decide) rfl ⟨rfl, by decide, by decide⟩ (fun w h Y => PySem.W.kIn_of Y) ?F
    (fun w H a ns hl _ hS => Gs.law_sp hS (Law.law_true ns hl)) (fun _ _ _ _ _ h => Gs.law_cx h)
  case F =>
    intro w mg fa h KX G hmg
    refine' Law.all_mk KX G hmg ?c0 ?c1 ?c2 ?c3 ?c4 ?c5 ?c6 ?c7 ?c8 ?c9 ?c10 ?c11 ?c12 ?c13 ?c14 ?c15 ?c16 ?c17 ?c18 ?c19 ?c20 ?c21 ?c22 ?c23 ?c24 ?c25 ?c26 ?c27 ?c28 ?c29 ?c30 ?c31 ?c32 ?c33 ?c34 ?c35 ?c36 ?c37 ?c38 ?c39 ?c40 ?c41 ?c42 ?c43 ?c44 ?c45 ?c46 ?c47 ?c48 ?c49 ?c50 ?c51 ?c52 ?c53 ?c54 ?c55 ?c56 ?c57 ?c58 ?c59 ?c60 ?c61 ?c62 ?c63 ?c64 ?c65 ?c66 ?c67 ?c68 ?c69 ?c70 ?c71 ?c72 ?c73 ?c74 ?c75 ?c76 ?c77 ?c78 ?c79 ?c80 ?c81 ?c82 ?c83 ?c84 ?c85 ?c86 ?c87 ?c88 ?c89 ?c90 ?c91 ?c92 ?c93 ?c94 ?c95 ?c96 ?c97 ?c98 ?c99 ?c100 ?c101 ?c102 ?c103 ?c104 ?c105 ?c106 ?c107 ?c108 ?c109 ?c110 ?c111 ?c112 ?c113 ?c114 ?c115 ?c116 ?c117 ?c118 ?c119 ?c120 ?c121 ?c122 ?c123 ?c124 ?c125 ?c126 ?c127 ?c128 ?c129 ?c130 ?c131 ?c132 ?c133 ?c134 ?c135 ?c136 ?c137 ?c138 ?c139 ?c140 ?c141 ?c142 ?c143 ?c144 ?c145 ?c146 ?c147 ?c148 ?c149 ?c150 ?c151 ?c152 ?c153 ?c154 ?c155 ?c156 ?c157 ?c158 ?c159 ?c160 ?c161 ?c162 ?c163 ?c164 ?c165 ?c166 ?c167 ?c168 ?c169 ?c170 ?c171 ?c172 ?c173 ?c174 ?c175 ?c176 ?c177 ?c178 ?c179 ?c180 ?c181 ?c182 ?c183 ?c184
    (case c0 => k_is); (case c1 => k_is); (case c2 => k_is); (case c3 => k_is); (case c4 => k_is); (case c5 => k_is); (case c6 => k_is); (case c7 => k_is); (case c8 => k_is); (case c9 => k_is); (case c10 => k_is); (case c11 => k_is); (case c12 => k_is); (case c13 => k_is); (case c14 => k_is); (case c15 => k_is); (case c16 => k_is); (case c17 => k_is); (case c18 => k_is); (case c19 => k_is); (case c20 => k_is); (case c21 => k_is); (case c22 => k_is); (case c23 => k_is); (case c24 => k_is); (case c25 => k_is); (case c26 => k_is); (case c27 => k_is); (case c28 => k_is); (case c29 => k_is); (case c30 => k_is); (case c31 => k_is); (case c32 => k_is); (case c33 => k_is); (case c34 => k_is); (case c35 => k_is); (case c36 => k_is); (case c37 => k_is); (case c38 => k_is); (case c39 => k_is); (case c40 => k_is); (case c41 => k_is); (case c42 => k_is); (case c43 => k_is); (case c44 => k_is); (case c45 => k_is); (case c46 => k_is); (case c47 => k_is); (case c48 => k_is); (case c49 => k_is); (case c50 => k_is); (case c51 => k_is); (case c52 => k_is); (case c53 => k_is); (case c54 => k_is); (case c55 => k_is); (case c56 => k_is); (case c57 => k_is); (case c58 => k_is); (case c59 => k_is); (case c60 => k_is); (case c61 => k_is); (case c62 => k_is); (case c63 => k_is); (case c64 => k_is); (case c65 => k_is); (case c66 => k_is); (case c67 => k_is); (case c68 => k_is); (case c69 => k_is); (case c70 => k_is); (case c71 => k_is); (case c72 => k_is); (case c73 => k_is); (case c74 => k_is); (case c75 => k_is); (case c76 => k_is); (case c77 => k_is); (case c78 => k_is); (case c79 => k_is); (case c80 => k_is); (case c81 => k_is); (case c82 => k_is); (case c83 => k_is); (case c84 => k_is); (case c85 => k_is); (case c86 => k_is); (case c87 => k_is); (case c88 => k_is); (case c89 => k_is); (case c90 => k_is); (case c91 => k_is); (case c92 => k_is); (case c93 => k_is); (case c94 => k_is); (case c95 => k_is); (case c96 => k_is); (case c97 => k_is); (case c98 => k_is); (case c99 => k_is); (case c100 => k_is); (case c101 => k_is); (case c102 => k_is); (case c103 => k_is); (case c104 => k_is); (case c105 => k_is); (case c106 => k_is); (case c107 => k_is); (case c108 => k_is); (case c109 => k_is); (case c110 => k_is); (case c111 => k_is); (case c112 => k_is); (case c113 => k_is); (case c114 => k_is); (case c115 => k_is); (case c116 => k_is); (case c117 => k_is); (case c118 => k_is); (case c119 => k_is); (case c120 => k_is); (case c121 => k_is); (case c122 => k_is); (case c123 => k_is); (case c124 => k_is); (case c125 => k_is); (case c126 => k_is); (case c127 => k_is); (case c128 => k_is); (case c129 => k_is); (case c130 => k_is); (case c131 => k_is); (case c132 => k_is); (case c133 => k_is); (case c134 => k_is); (case c135 => k_is); (case c136 => k_is); (case c137 => k_is); (case c138 => k_is); (case c139 => k_is); (case c140 => k_is); (case c141 => k_is); (case c142 => k_is); (case c143 => k_is); (case c144 => k_is); (case c145 => k_is); (case c146 => k_is); (case c147 => k_is); (case c148 => k_is); (case c149 => k_is); (case c150 => k_is); (case c151 => k_is); (case c152 => k_is); (case c153 => k_is); (case c154 => k_is); (case c155 => k_is); (case c156 => k_is); (case c157 => k_is); (case c158 => k_is); (case c159 => k_is); (case c160 => k_is); (case c161 => k_is); (case c162 => k_is); (case c163 => k_is); (case c164 => k_is); (case c165 => k_is); (case c166 => k_is); (case c167 => k_is); (case c168 => k_is); (case c169 => k_is); (case c170 => k_is); (case c171 => k_is); (case c172 => k_is); (case c173 => k_is); (case c174 => k_is); (case c175 => k_is); (case c176 => k_is); (case c177 => k_is); (case c178 => k_is); (case c179 => k_is); (case c180 => k_is); (case c181 => k_exc); (case c182 => k_is); (case c183 => k_is); (case c184 => k_is)
